import PyProof.Rows.All
import Wide.All
import OpenK.AllK
import Wide.FinOn
import HandS.ForMost
import HandS.DictTup
import HandS.DictComp
import HandS.Conv
import HandS.ListItems
import HandS.TupSets
import HandS.SortRule
import HandS.IsInst
import HandS.TupAny
import KE.KDictCopyH
import KE.KDictPairs
import KE.KDictOf
import HandS.SortOrd
import HandS.Walk
import HandS.Zip
import PySem.Challenge.RW_strandpost_k93_whole_notebooks_in_any_or
import HandS.Lambda
import HandS.TupLe
import HandS.RaiseMore
import HandS.WordsExc
import HandS.SetFor
import HandS.ExcIs
import HandS.EndTab
import KE.KNestM
set_option Elab.async false
set_option linter.all false
set_option maxRecDepth 100000
set_option maxHeartbeats 8000000
/-! own rules: dicts whose keys are tuples: copied, merged -/
namespace N88
open PySem L2 PySem.Spec PyProof.Rows

/-- the hash of a tuple of ints -/
def hInts (ns : List Int) : Int := reduceHash (Builtin.Tuple.tupleHashOf (ns.map hashInt))
def kInts (ns : List Int) : List Key := ns.map Sum.inl
theorem hash_ints {P : Program} {w : World} (ns : List Int) : (tupleKind (mixKind P w)).hash (kInts ns) = hInts ns := by
  show reduceHash (Builtin.Tuple.tupleHashOf ((kInts ns).map (mixKind P w).hash)) = _
  unfold kInts hInts
  rw [List.map_map]
  rfl
abbrev TH (P : Program) (w : World) (k : List Key) : Int := (tupleKind (mixKind P w)).hash k
/-- tables merged -/
def mergeT (kvs more : List (List Key × V)) : List (List Key × V) := more.foldl (fun acc kv => putK acc kv.1 kv.2) kvs
theorem kt_merge {H : Hp} : ∀ {more : List (List Key × V)} {ms : List (List Key × Addr × Value)} {kvs : List (List Key × V)} {xs : List (List Key × Addr × Value)},
    KT H more ms → KT H kvs xs → KT H (mergeT kvs more) (storedAllH xs ms)
  | _, _, _, _, .nil, b => b
  | _, _, _, _, .cons r t, b => by
    show KT H (mergeT (putK _ _ _) _) (storedAllH (storedH _ _ _ _) _)
    refine kt_merge t ?_
    obtain ⟨e, h1, h2⟩ := r
    rw [e]
    exact KT.put b _ (by rw [← e]; exact h1) h2
theorem kt_len {H : Hp} {kvs : List (List Key × V)} {xs : List (List Key × Addr × Value)} (r : KT H kvs xs) : kvs.length = xs.length := Paired.length r
theorem kt_keys {H : Hp} : ∀ {kvs : List (List Key × V)} {xs : List (List Key × Addr × Value)}, KT H kvs xs → kvs.map (·.1) = xs.map (·.1)
  | _, _, .nil => rfl
  | _, _, .cons r t => by rw [List.map_cons, List.map_cons, kt_keys t, r.1]
theorem length_mergeT : ∀ (more kvs : List (List Key × V)), (mergeT kvs more).length ≤ kvs.length + more.length
  | [], _ => Nat.le_refl _
  | p :: r, kvs => by
    have h := length_mergeT r (putK kvs p.1 p.2)
    have h2 := length_putK kvs p.1 p.2
    show (mergeT (putK kvs p.1 p.2) r).length ≤ kvs.length + (r.length + 1)
    omega
section
variable {X : Cx}
theorem tup_types {P : Program} {w : World} {H : Hp} {s : Shared} (ok : HOk P w H s.heap) : ∀ {kvs : List (List Key × V)} {xs : List (List Key × Addr × Value)}, KT H kvs xs →
    ∀ x ∈ xs, s.TypeIs (.ref x.2.1) "tuple"
  | _, _, .nil, x, hx => nomatch hx
  | _, _, .cons r t, x, hx => by
    rcases List.mem_cons.mp hx with e | hx
    · subst e
      obtain ⟨_, its, rv, o, ho, hc, _⟩ := ok _ _ r.2.1
      exact ⟨o, ho, hc⟩
    · exact tup_types ok t x hx
theorem hashes_of {P : Program} {w : World} {H : Hp} {kvs : List (List Key × V)} {xs : List (List Key × Addr × Value)} (r : KT H kvs xs) (h : (kvs.map fun p => TH P w p.1).Nodup) :
    (xs.map fun x => (tupleKind (mixKind P w)).hash x.1).Nodup := by
  have e : (xs.map fun x => (tupleKind (mixKind P w)).hash x.1) = kvs.map fun p => TH P w p.1 := by
    have k := congrArg (List.map (TH P w)) (kt_keys r)
    rw [List.map_map, List.map_map] at k
    exact k.symm
  rw [e]
  exact h
/-- the new object of a dict with tuple keys -/
theorem dt_ok {P : Program} {w : World} {H : Hp} {h : Heap} {a : Addr} {kvs : List (List Key × V)} {xs : List (List Key × Addr × Value)} (z : kvs.length ≤ sizeLine) (lo : (a == sysModules) = false) (r : KT H kvs xs)
    (d : h.DictOfH (tupleKind (mixKind P w)) a xs) : ObjOk P w H h a (.dT kvs) := by
  obtain ⟨o, es, ep, h1, h2, h3, h4, _, h5⟩ := d
  exact ⟨z, lo, xs, r, o, es, ep, h1, h2, h3, h4, h5⟩
/-- dict(d), its keys tuples no two of which share a hash -/
def rDictT (P : Program) (w : World) : List V → Hp → VK → Prop := fun vs H Q => ∃ (a : Addr) (kvs : List (List Key × V)), vs = [.ref a] ∧ Rd H a (.dT kvs) ∧ (kvs.map fun p => TH P w p.1).Nodup ∧
  ∀ p, H p = none → Q (.ref p) (upd H p (.dT kvs))
theorem call_dictT (hu : X.A.units + 64 < cLine) : CallR X (.type "dict") (rDictT X.prog X.w) := by
  intro pins s σ H vs us Q I r q
  obtain ⟨a, kvs, rfl, hd, hn, q⟩ := q
  obtain ⟨u, rfl, rx⟩ := vals1 r
  cases rx
  obtain ⟨z, lo, xs, rel, ho⟩ := dt_rd I.hok hd
  have hty := tup_types I.hok rel
  refine callType_codes (Q₁ := fun obj s₁ => obj = .ref s.heap.objs.size ∧ s₁ = { s with heap := s.heap.push { cls := .type "dict", data := .dict #[] } }) F.kt_called_dict (F.kt_typeCall_dict_1 _) F.entry_dict_init
    (kt_code_dict_new _ ⟨rfl, rfl⟩) ?_
  rintro obj s₁ ⟨rfl, rfl⟩
  have hnew : (s.heap.push { cls := .type "dict", data := .dict #[] }).DictOfH (tupleKind (mixKind X.prog X.w)) s.heap.objs.size [] := Heap.DictOfH.new s.heap
  have I1 : Inv X pins σ H { s with heap := s.heap.push { cls := .type "dict", data := .dict #[] } } := I.kept fun _ _ e => Heap.get?_push_of_some _ e
  obtain ⟨z1, lo1, xs1, rel1, ho1⟩ := dt_rd I1.hok hd
  have hty1 := tup_types I1.hok rel1
  have hdo : s.heap.objs.size ≠ a := by
    obtain ⟨_, _, _, hg, _⟩ := ho
    exact fun e => absurd (Heap.lt_size hg) (by rw [e]; exact Nat.lt_irrefl _)
  refine ⟨hnew.typeIs, F.args_dict_init_2 _ _, ?_⟩
  unfold Builtin.«dict.__init__»
  refine wpAny_bind ?_
  unfold Builtin.Dict.selfAndRest
  refine wpAny_bind (wpAny_notOrdered_dict hnew.typeIs ?_)
  show wpAny _ _ (pure (s.heap.objs.size, [Value.ref a])) _ _ _
  refine wpAny_pure ?_
  show wpAny _ _ (Builtin.Dict.updateFrom "dict.__init__" s.heap.objs.size (.ref a) [] .none) _ _ _
  refine updateFrom_dictH (A := X.A.in1) (knd := tupleKind (mixKind X.prog X.w)) (kvs := []) .none (tupleKind_room_in1 (A := X.A.in1) ?_) hdo lo1 hnew ho1 (.inr ⟨hty1, hashes_of rel1 hn⟩) ?_ fun h' d1 _ sb => ?_
  · show X.A.units + 1 + 1 < cLine
    omega
  · show 0 + xs1.length ≤ sizeLine
    rw [← kt_len rel1]
    omega
  · rw [storedAllH_nil_of_nodup _ ho1.nodup] at d1
    have hm : (s.heap.objs.size == sysModules) = false := beq_eq_false_iff_ne.mpr (Nat.ne_of_gt I.big)
    have hf : H s.heap.objs.size = Option.none := I.hok.fresh (Nat.le_refl _)
    refine ⟨rfl, .ref s.heap.objs.size, upd H s.heap.objs.size (.dT kvs), I.laid (t' := s.toks) (fun b u e => (sb.2 b (Nat.ne_of_lt (Heap.lt_size e))).trans (Heap.get?_push_of_some _ e)) (Nat.le_refl _)
      (dt_ok z hm (KT.keeps rel1 fun b ys e => by rw [upd_ne (ne_of_none e hf)]; exact e) d1), rfl, q _ hf⟩
/-- d.update(e), both with tuple keys -/
def rUpdT (P : Program) (w : World) : V → List V → Hp → VK → Prop := fun x vs H Q => ∃ (a b : Addr) (kvs more : List (List Key × V)), x = .ref a ∧ vs = [.ref b] ∧ a ≠ b ∧ H a = some (.dT kvs) ∧ Rd H b (.dT more) ∧
  (more.map fun p => TH P w p.1).Nodup ∧ kvs.length + more.length ≤ sizeLine ∧ Q .non (upd H a (.dT (mergeT kvs more)))
theorem mt_updT (hu : X.A.units + 64 < cLine) : MtR X "dict.update" (rUpdT X.prog X.w) := by
  intro pins s σ H x vs v us Q I rx r q
  obtain ⟨a, b, kvs, more, rfl, rfl, ne, ha, hb, hn, hz, q⟩ := q
  obtain ⟨u, rfl, ru⟩ := vals1 r
  cases rx
  cases ru
  obtain ⟨z, lo, xs, rel, ho⟩ := dt_of I.hok ha
  obtain ⟨z2, lo2, ys, rel2, ho2⟩ := dt_rd I.hok hb
  have hty := tup_types I.hok rel2
  refine call_update_dictH (A := X.A) (tupleKind_room_in1 (by omega)) ne lo2 ho ho2 (.inr ⟨hty, hashes_of rel2 hn⟩) (by rw [← kt_len rel, ← kt_len rel2]; exact hz) fun h' d1 _ sb => ?_
  refine ⟨.non, upd H a (.dT (mergeT kvs more)), ?_, rfl, q⟩
  have d1' := d1
  obtain ⟨o, es, ep, h1, _⟩ := d1
  exact d_write (t' := s.toks) I (by rw [ha]; trivial) sb ⟨o, h1⟩
    (dt_ok (Nat.le_trans (length_mergeT more kvs) hz) lo (KT.keeps (kt_merge rel2 rel) fun c cs e => by rw [upd_ne (ne_of e ha (by intro z; cases z))]; exact e) d1')
end
end N88
/-! own rules: d.items() walked where the keys are tuples -/
namespace N88
open PySem L2 PySem.Spec PyProof.Rows
/-- the pairs of a locked dict with tuple keys: each a new pair of the key's own tuple and the value -/
def Itit (d : Addr) (o : Obj) (kvs : List (List Key × V)) : It where
  go := fun i H => H d = some (.frz o (.dT kvs)) ∧ i < kvs.length
  yld := fun i H x H' => ∃ T q k v, kvs[i]? = some (k, v) ∧ x = .ref T ∧ H T = none ∧ H q = some (.tup (k.map kV)) ∧ H' = upd H T (.tup [.ref q, v])
  stop := fun i H => H d = some (.frz o (.dT kvs)) ∧ kvs.length ≤ i
section
variable {X : Cx} {pins : List (Addr × Obj)} {σ : L2.St} {H : Hp} {s : Shared} {d : Addr} {o : Obj}
theorem frzTT {kvs : List (List Key × V)} (I : Inv X pins σ H s) (h : H d = some (.frz o (.dT kvs))) :
    (d == sysModules) = false ∧ s.heap.get? d = some o ∧ o.ExactDict ∧ ∃ (es : Array DictEntry) (ep : Nat), o.data = .dict es ep ∧ es.size = kvs.length ∧
      ∀ (i : Nat) (k : List Key) (v : V), kvs[i]? = some (k, v) → ∃ (en : DictEntry) (q : Addr), es[i]? = some en ∧ en.key = .ref q ∧ H q = some (.tup (k.map kV)) ∧ RelV v en.val := by
  obtain ⟨hg, z, lo, xs, r, o', es, ep, g1, hx, hd, he, hn⟩ := I.hok _ _ h
  have e1 : o' = o := Option.some.inj (g1.symm.trans hg)
  subst e1
  refine ⟨lo, hg, hx, es, ep, hd, ?_, fun i k v hi => ?_⟩
  · rw [size_of_entries he]
    exact (kt_len r).symm
  · obtain ⟨x, hx2, r1, r2, r3⟩ := paired_get r hi
    refine ⟨entryOfKey (tupleKind (mixKind X.prog X.w)) x, x.2.1, ?_, rfl, r2, r3⟩
    rw [entry_at he i, hx2]
    rfl
end
section
variable {P : Program} {w : World} {K : PySem.W.Frag} {d : Addr} {o : Obj} {es : Array DictEntry} {ep : Nat}
theorem turn_itemsT {kvs : List (List Key × V)} {elts : List Expr} {kk : Nat} {tpos : Pos} (it : Addr) (hod : o.data = .dict es ep) :
    Turn P w K (.Tuple elts kk tpos) (Itit d o kvs) [it] it (fun i h => ∃ a b, IsItemIter h it d i kvs.length ep a b) where
  mem := List.mem_singleton.mpr rfl
  obj := fun i h st b hb => by
    obtain ⟨a1, a2, e⟩ := st
    rw [List.mem_singleton.mp hb]
    exact ⟨_, e, fun v z => nomatch z⟩
  keep := fun i h h' st k => by
    obtain ⟨a1, a2, e⟩ := st
    exact ⟨a1, a2, k it (List.mem_singleton.mpr rfl) _ e⟩
  item := by
    intro X e1 e2 e3 hc i pins s σ H E I hf st hg
    subst e1 e2 e3
    obtain ⟨hd, hi⟩ := hg
    obtain ⟨lo, hgd, hx, es2, ep2, hdt, hsz, at_⟩ := frzTT I hd
    obtain ⟨rfl, rfl⟩ := dict_ep hod hdt
    have hkv : kvs[i]? = some kvs[i] := List.getElem?_eq_getElem hi
    generalize kvs[i] = p at hkv
    obtain ⟨k, v⟩ := p
    obtain ⟨en, q, g1, g2, g3, g4⟩ := at_ i k v hkv
    obtain ⟨a1, a2, he⟩ := st
    rw [← hsz] at he hi
    have hen : es2[i] = en := by
      rw [Array.getElem?_eq_getElem hi] at g1
      exact Option.some.inj g1
    have hlt : it < s.heap.objs.size := Heap.lt_size he
    refine DT.nextI (es := es2) he ⟨o, hgd, hx, hdt⟩ hi fun h' ho hT hz hk => ?_
    rw [hen] at ho hT
    refine ⟨_, rfl, wpAny_letOwnedTupleGo_items (s := { s with heap := h' }) ho fun h2 he2 sb => ?_⟩
    have tg : h2.get? s.heap.objs.size = some { cls := .type "tuple", data := .seq #[en.key, en.val] } := Eq.trans (sb.2 _ (Nat.ne_of_gt hlt)) hT
    have new : ObjOk X.prog X.w (upd H s.heap.objs.size (.tup [.ref q, v])) h2 s.heap.objs.size (.tup [.ref q, v]) :=
      ⟨show 2 ≤ sizeLine by decide, [en.key, en.val], .cons (show RelV (.ref q) en.key from g2) (.cons g4 .nil), _, tg, rfl, _, rfl⟩
    have I2 : Inv X pins σ (upd H s.heap.objs.size (.tup [.ref q, v])) { s with heap := h2 } :=
      Inv.turnedNew (t' := s.toks) (ch := [it]) I (fun b ob hb e => by
        have nb : b ≠ it := fun z => hb (List.mem_singleton.mpr z)
        exact Eq.trans (sb.2 b nb) (hk b ob nb e)) hf (Nat.le_refl _) new
    refine ⟨.ref s.heap.objs.size, _, I2, rfl, ⟨_, q, k, v, hkv, rfl, I.hok.fresh (Nat.le_refl _), g3, rfl⟩, ⟨_, _, hsz ▸ he2⟩, fun b hb => ?_⟩
    rw [List.mem_singleton.mp hb, upd_ne (Nat.ne_of_lt hlt)]
    exact (hf it (List.mem_singleton.mpr rfl)).1
  done := by
    intro X e1 e2 e3 hc i pins s σ H E I hf st hg
    subst e1 e2 e3
    obtain ⟨hd, hi⟩ := hg
    obtain ⟨lo, hgd, hx, es2, ep2, hdt, hsz, at_⟩ := frzTT I hd
    obtain ⟨rfl, rfl⟩ := dict_ep hod hdt
    obtain ⟨a1, a2, he⟩ := st
    rw [← hsz] at he hi
    refine DT.endI (es := es2) (I.ok.hd hc) he ⟨o, hgd, hx, hdt⟩ hi fun h' sb => ⟨rfl, ?_⟩
    exact I.turnedL (t' := s.toks) (ch := [it]) (fun b ob hb e => sb b ob (fun z => hb (List.mem_singleton.mpr z)) e) hf
  self := fun A i s Q E st q => by
    obtain ⟨a1, a2, he⟩ := st
    exact PySem.W.kcp_self he q
end
/-- the dict is locked -/
def iItemsT (td : TE) : TI := fun σ H R => td σ H fun x H1 => ∃ d o kvs, x = .ref d ∧ H1 d = some (.frz o (.dT kvs)) ∧ R (Itit d o kvs) H1
theorem pi_itemsT {X : Cx} {e : Expr} {td : TE} {apos cpos tpos : Pos} {elts : List Expr} {kk : Nat} (he : PE X e td) (hbase : attributeBase e "items" X.env (eval e X.env) = eval e X.env := by rfl) (hline : (apos.endLine == cpos.line) = true := by rfl) :
    PI X (.Tuple elts kk tpos) (.Call (.Attribute e "items" apos) [] [] cpos) (iItemsT td) := by
  refine ⟨fun pins s σ H R I h => ?_⟩
  refine wpAny_Call_method (T := "dict") (id := "dict.items") hbase rfl hline F.plainAttrs_dict F.slot_dict_items F.type_dict_items
    (thn (he.run pins s σ H _ I h) fun u s1 ⟨x, H1, I1, rx, d, o, kvs, ex, hd, q⟩ => ?_)
  subst ex
  cases rx
  obtain ⟨lo, hgd, hx, es, ep, hdt, hsz, _⟩ := frzTT I1 hd
  have raw : DT.Raw s1.heap d es ep := ⟨o, hgd, hx, hdt⟩
  refine ⟨raw.typeIs, (fun b e => by cases e; exact ⟨o, hgd, hx.2.1⟩), ?_⟩
  have I2 : Inv X pins σ H1 { s1 with heap := s1.heap.push { cls := .type "dict_items", data := .fields #[.ref d] } } := I1.kept (t' := s1.toks) fun _ _ z => Heap.get?_push_of_some _ z
  have fin : wpAny (model X.prog X.w) X.A (pyIter (.ref s1.heap.objs.size)) (PIE X pins σ (.Tuple elts kk tpos) R) X.xe { s1 with heap := s1.heap.push { cls := .type "dict_items", data := .fields #[.ref d] } } := by
    refine DT.iterI (d := d) (es := es) (ep := ep) ⟨_, Heap.get?_push_size _ rfl, rfl, rfl⟩ (raw.push _) (pi_one (tk := s1.toks) I2 _ (turn_itemsT _ hdt) ⟨.none, .none, ?_⟩ q)
    rw [← hsz]
    exact Heap.get?_push_size _ rfl
  show wpAny _ _ (callWith cpos (.builtin "dict.items") [.ref d] [] []) _ X.xe s1
  exact method_meetsIn F.slot_dict_items F.entry_dict_items rfl (PySem.evalArgs_none ⟨rfl, raw.typeIs, F.args_dict_items_1 _, _, DT.meetsItems (es := es) (ep := ep) lo, ⟨raw, fin⟩⟩)
end N88
/-! own rules: sorted(d) of a dict whose keys are pairs of ints -/
namespace N88
open PySem L2 PySem.Spec PyProof.Rows
abbrev PI2 := Int × Int
def pk (p : PI2) : List Key := [.inl p.1, .inl p.2]
/-- the tuples at rs are the pairs ps -/
def Prs (H : Hp) (rs : List Addr) (ps : List PI2) : Prop := Paired (fun r p => H r = some (.tup [.int p.1, .int p.2])) rs ps
theorem vals_back2 {out : List Value} (h : ∀ u ∈ out, ∃ a, u = Value.ref a) : Vals (out.map L2.backV) out := vals_back h
/-- what stands at a reference as a pair -/
noncomputable def pairAt (H : Hp) (v : V) : PI2 := match v with
  | .ref a => match H a with
    | some (.tup [.int i, .int j]) => (i, j)
    | _ => (0, 0)
  | _ => (0, 0)
theorem pairAt_of {H : Hp} {a : Addr} {i j : Int} (h : H a = some (.tup [.int i, .int j])) : pairAt H (.ref a) = (i, j) := by
  unfold pairAt
  simp only [h]
theorem isPair_of {P : Program} {w : World} {H : Hp} {s : Shared} (ok : HOk P w H s.heap) {a : Addr} {i j : Int} (h : H a = some (.tup [.int i, .int j])) : Srt.IsPair s.heap (.ref a) i j := by
  obtain ⟨_, its2, r2, o, ho, hc, n, hd⟩ := ok _ _ h
  obtain ⟨u1, u2, rfl, ri, rj⟩ := vals2 r2
  obtain ⟨t1, rfl⟩ := ri
  obtain ⟨t2, rfl⟩ := rj
  exact ⟨a, o, t1, t2, n, rfl, ho, hc, hd⟩
/-- pairs in order -/
abbrev ltI (p q : PI2) : Bool := SrtO.lexB p q
def insP (p : PI2) : List PI2 → List PI2
  | [] => [p]
  | q :: r => if ltI q p then q :: insP p r else p :: q :: r
def sortP : List PI2 → List PI2
  | [] => []
  | p :: r => insP p (sortP r)
theorem swo_ltI : SrtO.Swo ltI := ⟨fun x y h => by
    have a := SrtO.lexB_iff.mp h
    refine SrtO.lexB_no.mpr ?_
    omega, fun x y z h1 h2 => by
    have a := SrtO.lexB_no.mp h1
    have b := SrtO.lexB_no.mp h2
    refine SrtO.lexB_no.mpr ?_
    omega⟩
theorem insP_perm (p : PI2) : ∀ l : List PI2, (insP p l).Perm (p :: l)
  | [] => .refl _
  | q :: r => by
    show (if ltI q p then q :: insP p r else p :: q :: r).Perm _
    by_cases h : ltI q p = true
    · rw [if_pos h]
      exact ((insP_perm p r).cons q).trans (List.Perm.swap p q r)
    · rw [if_neg h]
theorem insP_srt (p : PI2) : ∀ l : List PI2, SrtO.Srtd ltI l → SrtO.Srtd ltI (insP p l)
  | [], _ => List.pairwise_singleton _ _
  | q :: r, hl => by
    show SrtO.Srtd ltI (if ltI q p then q :: insP p r else p :: q :: r)
    obtain ⟨h1, h2⟩ := List.pairwise_cons.mp hl
    by_cases h : ltI q p = true
    · rw [if_pos h]
      refine List.pairwise_cons.mpr ⟨fun x hx => ?_, insP_srt p r h2⟩
      rcases List.mem_cons.mp ((insP_perm p r).mem_iff.mp hx) with e | hx
      · rw [e]
        exact swo_ltI.asym _ _ h
      · exact h1 x hx
    · rw [if_neg h]
      have h' : ltI q p = false := by simpa using h
      refine List.pairwise_cons.mpr ⟨fun x hx => ?_, hl⟩
      rcases List.mem_cons.mp hx with e | hx
      · rw [e]
        exact h'
      · exact swo_ltI.tr _ _ _ h' (h1 x hx)
theorem sortP_srt : ∀ l : List PI2, SrtO.Srtd ltI (sortP l)
  | [] => List.Pairwise.nil
  | p :: r => insP_srt p _ (sortP_srt r)
theorem sortP_perm : ∀ l : List PI2, (sortP l).Perm l
  | [] => .refl _
  | p :: r => (insP_perm p _).trans ((sortP_perm r).cons p)
/-- there is one sorted arrangement -/
theorem srt_one : ∀ {l m : List PI2}, SrtO.Srtd ltI l → SrtO.Srtd ltI m → l.Perm m → l = m
  | [], m, _, _, h => by rw [List.Perm.nil_eq h]
  | x :: l, [], _, _, h => by
    have e := h.length_eq
    simp at e
  | x :: l, y :: m, hl, hm, h => by
    obtain ⟨a1, a2⟩ := List.pairwise_cons.mp hl
    obtain ⟨b1, b2⟩ := List.pairwise_cons.mp hm
    have exy : x = y := by
      rcases List.mem_cons.mp (h.mem_iff.mp List.mem_cons_self) with e | hx
      · exact e
      · rcases List.mem_cons.mp (h.mem_iff.mpr List.mem_cons_self) with e | hy
        · exact e.symm
        · have q1 := SrtO.lexB_no.mp (b1 x hx)
          have q2 := SrtO.lexB_no.mp (a1 y hy)
          obtain ⟨x1, x2⟩ := x
          obtain ⟨y1, y2⟩ := y
          simp only at q1 q2
          rw [Prod.mk.injEq]
          omega
    subst exy
    rw [srt_one a2 b2 ((List.perm_cons x).mp h)]
theorem sortP_of {l m : List PI2} (hl : SrtO.Srtd ltI l) (h : l.Perm m) : l = sortP m := srt_one hl (sortP_srt m) (h.trans (sortP_perm m).symm)
section
variable {X : Cx} {pins : List (Addr × Obj)} {σ : L2.St} {H : Hp} {s : Shared}
/-- sorted(d): the keys, each a pair of ints -/
def rSortedDT : List V → Hp → VK → Prop := fun vs H Q => ∃ (a : Addr) (kvs : List (List Key × V)) (ps : List PI2), vs = [V.ref a] ∧ Rd H a (.dT kvs) ∧ kvs.map (·.1) = ps.map pk ∧
  ∀ rs p, Prs H rs (sortP ps) → H p = none → Q (.ref p) (upd H p (.lst (rs.map V.ref)))
theorem prs_of_mem : ∀ {us : List Value}, (∀ u ∈ us, ∃ a i j, u = Value.ref a ∧ H a = some (.tup [.int i, .int j])) →
    ∃ rs : List Addr, us = rs.map Value.ref ∧ Prs H rs (us.map fun u => pairAt H (L2.backV u))
  | [], _ => ⟨[], rfl, .nil⟩
  | u :: us, h => by
    obtain ⟨rs, e, p⟩ := prs_of_mem (us := us) fun x hx => h x (List.mem_cons_of_mem _ hx)
    obtain ⟨a, i, j, rfl, ha⟩ := h u List.mem_cons_self
    refine ⟨a :: rs, by rw [e]; rfl, .cons ?_ p⟩
    show H a = some (.tup [.int (pairAt H (.ref a)).1, .int (pairAt H (.ref a)).2])
    rw [pairAt_of ha]
    exact ha
theorem cr_sortedDT (hcalm : X.calm = true) : CallR X (.builtin "sorted") rSortedDT := by
  intro pins s σ H vs us Q I r q
  obtain ⟨a, kvs, ps, rfl, hd, hks, q⟩ := q
  obtain ⟨u, rfl, rx⟩ := vals1 r
  cases rx
  obtain ⟨z, lo, xs, rel, o, es, ep, ho, hx, hdt, he, _, hn⟩ := dt_rd I.hok hd
  have l1 : es.size = xs.length := size_of_entries he
  have l2 : kvs.length = xs.length := kt_len rel
  refine Calls.call_function_entry PyProof.Rows.kind_sorted PyProof.Rows.plain_sorted PyProof.Rows.entry_sorted (PyProof.Rows.args_sorted1 _) ?_
  unfold Builtin.«sorted»
  refine wpAny_bind (m := checkCount "sorted" 1 1 _) (wpAny_pure ?_)
  refine wpAny_bind (PySem.W.kdu_collect (A := X.A.in1) (kdl_raw lo hx hdt) (I.ok.hd hcalm) ho (by omega) fun h' tk acc hk hacc => ?_)
  have I1 : Inv X pins σ H { s with heap := h', toks := tk } := I.kept hk
  -- the keys as references
  have hlen : acc.toList.length = xs.length := by rw [Array.length_toList, hacc.1, l1]
  have ea : acc.toList = xs.map fun x => Value.ref x.2.1 := by
    apply List.ext_getElem?
    intro j
    rw [List.getElem?_map]
    cases hj : acc.toList[j]? with
    | none =>
      rw [List.getElem?_eq_none (by have := List.getElem?_eq_none_iff.mp hj; omega)]
      rfl
    | some v =>
      obtain ⟨en, hen, hv⟩ := hacc.2 j v (by rw [← Array.getElem?_toList]; exact hj)
      rw [entry_at he j] at hen
      cases hb : xs[j]? with
      | none => rw [hb] at hen; cases hen
      | some b =>
        rw [hb] at hen
        rw [hv, ← Option.some.inj hen]
        rfl
  have hall : ∀ u ∈ acc.toList, ∃ b i j, u = Value.ref b ∧ H b = some (.tup [.int i, .int j]) := by
    intro u hu
    rw [ea] at hu
    obtain ⟨x, hx, rfl⟩ := List.mem_map.mp hu
    obtain ⟨n, hn⟩ := List.getElem?_of_mem hx
    have hk : (kvs.map (·.1))[n]? = some x.1 := by
      rw [kt_keys rel, List.getElem?_map, hn]
      rfl
    rw [hks, List.getElem?_map] at hk
    cases hp : ps[n]? with
    | none => rw [hp] at hk; cases hk
    | some p =>
      rw [hp] at hk
      have e1 : pk p = x.1 := Option.some.inj hk
      have rel2 := rel
      obtain ⟨m, hm, r1, r2, r3⟩ : ∃ m, kvs[n]? = some m ∧ m.1 = x.1 ∧ H x.2.1 = some (.tup (m.1.map kV)) ∧ RelV m.2 x.2.2 := by
        cases hm : kvs[n]? with
        | none =>
          have := List.getElem?_eq_none_iff.mp hm
          rw [List.getElem?_eq_none (by omega)] at hn
          cases hn
        | some m =>
          obtain ⟨b, hb, r⟩ := paired_get rel hm
          rw [hn] at hb
          cases hb
          exact ⟨m, rfl, r⟩
      refine ⟨x.2.1, p.1, p.2, rfl, ?_⟩
      rw [r2, r1, ← e1]
      rfl
  obtain ⟨rs0, e0, p0⟩ := prs_of_mem hall
  have ekeys : (acc.toList.map fun u => pairAt H (L2.backV u)) = ps := by
    have e2 : ∀ {ys : List (List Key × Addr × Value)} {ms : List (List Key × V)} {qs : List PI2}, KT H ms ys → ms.map (·.1) = qs.map pk → (ys.map fun x => pairAt H (V.ref x.2.1)) = qs := by
      intro ys ms qs r
      induction r generalizing qs with
      | nil =>
        intro e
        cases qs with
        | nil => rfl
        | cons q qs => cases e
      | @cons m y ms ys hmy t ih =>
        intro e
        cases qs with
        | nil => cases e
        | cons q qs =>
          injection e with e1 e2
          rw [List.map_cons, ih e2]
          have hh : H y.2.1 = some (.tup [.int q.1, .int q.2]) := by
            rw [hmy.2.1, show m.1 = pk q from e1]
            rfl
          rw [pairAt_of hh]
    rw [ea, List.map_map]
    exact e2 rel hks
  refine wpAny_bind (wpAny_newList ?_ (by omega))
  have hoL : (h'.push (seqObj "list" acc.toList.toArray 0)).get? h'.objs.size = some (seqObj "list" acc.toList.toArray 0) := Heap.get?_push_size _ rfl
  have I2 : Inv X pins σ H { s with heap := h'.push (seqObj "list" acc.toList.toArray 0), toks := tk } := I1.kept (t' := tk) fun b u e => Heap.get?_push_of_some _ e
  show wpAny _ _ _ _ _ { s with heap := h'.push (seqObj "list" acc.toList.toArray 0), toks := tk }
  have srtb : 2 ≤ acc.toList.length → SrtO.SortableO X.prog X.w X.A.in1.in1 { s with heap := h'.push (seqObj "list" acc.toList.toArray 0), toks := tk } h'.objs.size acc.toList (fun v u => SrtO.lexB (pairAt H (L2.backV v)) (pairAt H (L2.backV u))) := fun h2 => by
    refine SrtO.pairs_sortableO (k := fun u => pairAt H (L2.backV u)) (by omega) (fun v hv => ?_) fun o e => ?_
    · obtain ⟨b, i, j, rfl, hb⟩ := hall v hv
      show Srt.IsPair _ _ (pairAt H (.ref b)).1 (pairAt H (.ref b)).2
      rw [pairAt_of hb]
      exact isPair_of I2.hok hb
    · have e' : some o = some (seqObj "list" acc.toList.toArray 0) := e.symm.trans hoL
      cases e'
      intro c
      exact absurd (Value.type.inj c) (by decide)
  refine wpAny_bind (wpAny_holding (wpAny_call_entry PyProof.Rows.slot_list_sort ⟨_, hoL, rfl⟩ PyProof.Rows.entry_list_sort
    (SrtO.list_sort_ord (SrtO.swo_lex fun u => pairAt H (L2.backV u)) hoL (by omega) srtb fun out hs hb => ⟨_, rfl, ?_⟩) (PyProof.Rows.args_list_sort _)))
  obtain ⟨e', he'⟩ := PyProof.Rows.sortedHeap_at (vs := acc.toList) (out := out.toArray) hoL
  have hall2 : ∀ u ∈ out, ∃ b i j, u = Value.ref b ∧ H b = some (.tup [.int i, .int j]) := fun u hu => hall u (hb.perm.mem_iff.mp hu)
  obtain ⟨rs, e1, p1⟩ := prs_of_mem hall2
  have eo : (out.map fun u => pairAt H (L2.backV u)) = sortP ps := by
    refine sortP_of (SrtO.srtd_map hs) ?_
    rw [← ekeys]
    exact hb.perm.map _
  rw [eo] at p1
  have rv : Vals (rs.map V.ref) out := by rw [e1]; exact vals_refs rs
  have ol : (rs.map V.ref).length ≤ sizeLine := by
    rw [rv.length, hb.perm.length_eq]
    omega
  refine wpAny_pure ⟨_, rfl, .ref h'.objs.size, upd H h'.objs.size (.lst (rs.map V.ref)), I1.laid (t' := tk) (fun b u e => ?_) (Nat.le_refl _)
    (show ObjOk X.prog X.w _ _ _ (.lst (rs.map V.ref)) from ⟨ol, out, e', rv, he'⟩), rfl, q rs _ p1 (I1.hok.fresh (Nat.le_refl _))⟩
  have hlt : b < h'.objs.size := Heap.lt_size e
  rw [PyProof.Rows.sortedHeap_old (Nat.ne_of_lt hlt) (by rw [size_push']; exact Nat.lt_succ_of_lt hlt)]
  exact Heap.get?_push_of_some _ e
end
end N88
/-! own rules: list(d.items()) and dict(pairs) where the keys are tuples -/
namespace N88
open PySem L2 PySem.Spec PyProof.Rows
/-- new pairs laid at their places -/
def layP : Hp → List Addr → List (V × V) → Hp
  | H, a :: as, p :: ws => layP (upd H a (.tup [p.1, p.2])) as ws
  | H, _, _ => H
theorem layP_off {b : Addr} : ∀ (as : List Addr) (ws : List (V × V)) (H : Hp), b ∉ as → layP H as ws b = H b
  | [], _, _, _ => by rw [layP]; intro _ _ _ _ z; cases z
  | _ :: _, [], _, _ => by rw [layP]; intro _ _ _ _ _ z; cases z
  | a :: as, p :: ws, H, h => by
    rw [layP, layP_off as ws _ (fun z => h (List.mem_cons_of_mem _ z)), upd_ne (fun z : b = a => h (by rw [z]; exact List.mem_cons_self))]
theorem layP_at : ∀ (as : List Addr) (ws : List (V × V)) (H : Hp), as.length = ws.length → as.Nodup → Paired (fun (t : Addr) (p : V × V) => layP H as ws t = some (.tup [p.1, p.2])) as ws
  | [], [], _, _, _ => .nil
  | [], _ :: _, _, h, _ => by simp at h
  | _ :: _, [], _, h, _ => by simp at h
  | a :: as, p :: ws, H, h, nd => by
    obtain ⟨n1, n2⟩ := List.nodup_cons.mp nd
    refine .cons ?_ ?_
    · rw [layP, layP_off as ws _ n1, upd_same]
    · have := layP_at as ws (upd H a (.tup [p.1, p.2])) (by simpa using h) n2
      rw [layP]
      exact this
section
variable {X : Cx} {pins : List (Addr × Obj)} {σ : L2.St} {H : Hp} {s : Shared}
theorem pairs_laid {h' : Heap} {tk : Nat} {ws : List (V × V)} {es : Array DictEntry} {acc : Array Value} {c : Nat} {as : List Addr} (I : Inv X pins σ H s) (hz : ws.length ≤ sizeLine)
    (hw : ∀ (j : Nat) (p : V × V), ws[j]? = some p → ∃ e, es[j]? = some e ∧ RelV p.1 e.key ∧ RelV p.2 e.val)
    (hk : ∀ b o, s.heap.get? b = some o → h'.get? b = some o) (hS : h'.get? s.heap.objs.size = some { cls := .type "list", dict := none, data := .seq acc c, slots := #[] }) (hl : as.length = ws.length) (hG : DT.Made es s.heap.objs.size h' as) (hacc : acc.toList = as.map Value.ref) :
    ∃ H' : Hp, Same H H' ∧ H s.heap.objs.size = none ∧ (∀ t ∈ as, H t = none) ∧ s.heap.objs.size ∉ as ∧ H' s.heap.objs.size = some (.lst (as.map V.ref)) ∧ Paired (fun (t : Addr) (q : V × V) => H' t = some (.tup [q.1, q.2])) as ws ∧ Inv X pins σ H' { s with heap := h', toks := tk } := by
  have z0 : s.heap.objs.size ∉ as := fun z => absurd (hG.above _ z) (Nat.lt_irrefl _)
  have nd : as.Nodup := hG.rise.imp fun q => Nat.ne_of_lt q
  have new : ∀ t ∈ as, H t = none := fun t ht => I.hok.fresh (Nat.le_of_lt (hG.above t ht))
  have new0 : H s.heap.objs.size = none := I.hok.fresh (Nat.le_refl _)
  generalize hH' : layP (upd H s.heap.objs.size (.lst (as.map V.ref))) as ws = H'
  have atP : Paired (fun (t : Addr) (q : V × V) => H' t = some (.tup [q.1, q.2])) as ws := by
    rw [← hH']
    exact layP_at as ws _ hl nd
  have off : ∀ b, b ∉ as → b ≠ s.heap.objs.size → H' b = H b := fun b h1 h2 => by rw [← hH', layP_off as ws _ h1, upd_ne h2]
  have at0 : H' s.heap.objs.size = some (.lst (as.map V.ref)) := by rw [← hH', layP_off as ws _ z0, upd_same]
  have old : ∀ b o, s.heap.get? b = some o → b ∉ as ∧ b ≠ s.heap.objs.size := fun b o e =>
    ⟨fun z => Nat.lt_asymm (Heap.lt_size e) (hG.above b z), Nat.ne_of_lt (Heap.lt_size e)⟩
  have kp : Same H H' := fun b u e => by
    rw [off b (fun z => by rw [new b z] at e; cases e) (fun z => by rw [z, new0] at e; cases e)]
    exact e
  refine ⟨H', kp, new0, new, z0, at0, atP, ?_⟩
  have un : Un (frs X.stack) [] H H' s.heap h' := {
    keep := fun b o q _ _ _ => hk b o q
    slot := fun b o q _ _ _ => ⟨o.slots, hk b o q⟩
    free := fun b o q n _ => (off b (old b o q).1 (old b o q).2).trans n
    there := fun b o q _ => ⟨o, hk b o q⟩
    tups := fun b xs q => kp b _ q
    frzs := fun b o u q => kp b _ q
    tbls := fun b ps q => ⟨#[], by rw [kp b _ q, Array.append_empty]⟩ }
  refine I.call' (ch := []) rfl un (fun b u q => ?_) I.bare fun b z => nomatch z
  by_cases hb : b ∈ as
  · obtain ⟨j, pq, e1, e2, e3⟩ := LiI.paired_ix atP hb
    rw [e3] at q
    cases q
    obtain ⟨e, f1, f2⟩ := hG.pairs j b e1
    obtain ⟨e', g1, g2, g3⟩ := hw j pq e2
    rw [f1] at g1
    cases g1
    exact ⟨show 2 ≤ sizeLine by decide, [e.key, e.val], .cons g2 (.cons g3 .nil), _, f2, rfl, _, rfl⟩
  · by_cases hb2 : b = s.heap.objs.size
    · subst hb2
      rw [at0] at q
      cases q
      refine ⟨by rw [List.length_map]; omega, acc.toList, c, ?_, ?_⟩
      · rw [hacc]
        exact vals_refs as
      · rw [Array.toArray_toList]
        exact hS
    · rw [off b hb hb2] at q
      exact (I.hok b u q).stay (fun d v _ y => hk d v y) (fun d y => kp d _ y) fun d xs y => kp d _ y
/-- list(e.items()), e's keys tuples: ws the pairs of the key's own tuple and the value -/
def rItemsLT : V → Hp → VK → Prop := fun x H Q => ∃ (d : Addr) (kvs : List (List Key × V)), x = .ref d ∧ Rd H d (.dT kvs) ∧
  ∀ (H' : Hp) (p : Addr) (ts qs : List Addr), Same H H' → H p = none → (∀ t ∈ ts, H t = none) → H' p = some (.lst (ts.map V.ref)) →
    Paired (fun (q : Addr) (kv : List Key × V) => H q = some (.tup (kv.1.map kV))) qs kvs →
    Paired (fun (t : Addr) (q : Addr × V) => H' t = some (.tup [.ref q.1, q.2])) ts (qs.zip (kvs.map (·.2))) → Q (.ref p) H'
def tListItemsT (te : TE) : TE := fun σ H Q => te σ H fun x H1 => rItemsLT x H1 Q
end
section
variable {prog : Program} {w : World} {A : Around} {E : Value → Shared → Prop} {s : Shared} {r d : Addr} {es : Array DictEntry} {ep : Nat}
theorem list_items_raw {Q : Value → Shared → Prop} (hh : A.handled = none) (hv : s.heap.IsItemsView r d) (hm : DT.Raw s.heap d es ep) (hn : es.size ≤ sizeLine)
    (hQ : ∀ h' tk acc c as, (∀ b o, s.heap.get? b = some o → h'.get? b = some o) → h'.get? s.heap.objs.size = some { cls := .type "list", dict := none, data := .seq acc c, slots := #[] } → as.length = es.size → DT.Made es s.heap.objs.size h' as →
      acc.toList = as.map Value.ref → Q (.ref s.heap.objs.size) { s with heap := h', toks := tk }) :
    wpAny (model prog w) A (call (.type "list") [.ref r]) Q E s := by
  refine callType_codes (Q₁ := fun obj s₁ => obj = .ref s.heap.objs.size ∧ s₁ = { s with heap := s.heap.push { cls := .type "list", data := .seq #[] } }) PySem.F.called_list (PySem.F.typeCall_list_1 _) PySem.F.entry_list_init
    (code_list_new _ ⟨rfl, rfl⟩) ?_
  rintro obj s₁ ⟨rfl, rfl⟩
  have hS : (s.heap.push { cls := .type "list", data := .seq #[] }).get? s.heap.objs.size = some { cls := .type "list", data := .seq #[] } := Heap.get?_push_size _ rfl
  have hr : r < s.heap.objs.size := let ⟨_, ho, _⟩ := hv; Heap.lt_size ho
  have hd : d < s.heap.objs.size := hm.lt
  refine ⟨⟨_, hS, rfl⟩, PySem.F.args_list_init_2 _ _, ?_⟩
  show wpAny _ _ (Builtin.List.listItems (.ref s.heap.objs.size) >>= fun old => Builtin.List.listUpdate (.ref s.heap.objs.size) (fun _ => #[]) >>= fun _ => letGo old.toList.reverse >>= fun _ => Builtin.List.listExtendWith (.ref s.heap.objs.size) (.ref r) .none) _ _ _
  refine wpAny_bind ?_
  unfold Builtin.List.listItems
  refine wpAny_bind (wpAny_seqItems hS rfl (wpAny_pure ?_))
  refine wpAny_bind ?_
  unfold Builtin.List.listUpdate
  refine wpAny_updateSeq hS rfl ?_
  have hS2 := Heap.get?_update_self (Obj.mapSeq (fun _ => (#[] : Array Value))) hS rfl
  have oth : ∀ b o, b ≠ s.heap.objs.size → (s.heap.push { cls := .type "list", data := .seq #[] }).get? b = some o →
      ((s.heap.push { cls := .type "list", data := .seq #[] }).update s.heap.objs.size (Obj.mapSeq (fun _ => (#[] : Array Value)))).get? b = some o :=
    fun b o hb e => (Heap.get?_update_other _ _ (Ne.symm hb)).trans e
  have oth2 : ∀ b o, s.heap.get? b = some o → ((s.heap.push { cls := .type "list", data := .seq #[] }).update s.heap.objs.size (Obj.mapSeq (fun _ => (#[] : Array Value)))).get? b = some o :=
    fun b o e => oth b o (Nat.ne_of_lt (Heap.lt_size e)) (Heap.get?_push_of_some _ e)
  refine wpAny_bind (wpAny_letGo ?_)
  refine DT.extI (A := A.in1) (es := es) (ep := ep) hh (let ⟨o, ho, x⟩ := hv; ⟨o, oth2 r o ho, x⟩) (hm.at' fun o e => oth2 d o e) s.heap.objs.size (Nat.ne_of_gt hr) (Nat.ne_of_lt hd) .none _ hS2 (fun h' tk acc c as hk hS' hl hG hacc => ?_) hn
  exact ⟨rfl, hQ h' tk acc c as (fun b o e => hk b o (Nat.ne_of_lt (Heap.lt_size e)) (oth2 b o e)) hS' hl (hG.low (Nat.le_of_lt (Heap.lt_size hS2))) hacc⟩
end
section
variable {X : Cx} {e : Expr} {te : TE} {p apos cpos pos : Pos}
theorem keys_qs {H : Hp} : ∀ {kvs : List (List Key × V)} {xs : List (List Key × Addr × Value)}, KT H kvs xs → Paired (fun (q : Addr) (kv : List Key × V) => H q = some (.tup (kv.1.map kV))) (xs.map fun x => x.2.1) kvs
  | _, _, .nil => .nil
  | _, _, .cons r t => .cons r.2.1 (keys_qs t)
theorem paired_mono {α β : Type} {F G : α → β → Prop} (h : ∀ a b, F a b → G a b) : ∀ {l : List α} {m : List β}, Paired F l m → Paired G l m
  | _, _, .nil => .nil
  | _, _, .cons r t => .cons (h _ _ r) (paired_mono h t)
theorem pe_listItemsT (hc : X.calm = true) (he : PE X e te) (hg : Gl X "list") (hm : X.mg "list" = none) (hv : bootBuiltins "list" = some (.type "list") := by decide +kernel) (hbase : attributeBase e "items" X.env (eval e X.env) = eval e X.env := by rfl) (hline : (apos.endLine == cpos.line) = true := by rfl)
    (hs : starEach [.Call (.Attribute e "items" apos) [] [] cpos] X.env = (false, eval (.Call (.Attribute e "items" apos) [] [] cpos) X.env) :: starEach [] X.env := by rfl) :
    PE X (.Call (.Name "list" p) [.Call (.Attribute e "items" apos) [] [] cpos] [] pos) (tListItemsT te) := by
  refine ⟨fun pins s σ H Q I hq => ?_⟩
  refine wpAny_Call_Name_kw (ld_blt I hg hm hv ?_)
  refine PyProof.Rows.callWith_type1 ?_ hs rfl
  rw [hs]
  refine Calls.spliced_cons ?_
  refine wpAny_Call_method (T := "dict") (id := "dict.items") hbase rfl hline F.plainAttrs_dict F.slot_dict_items F.type_dict_items
    (thn (he.run pins s σ H _ I hq) fun u s1 ⟨x, H1, I1, rx, d, kvs, ex, hd, q⟩ => ?_)
  subst ex
  cases rx
  obtain ⟨hz, lo, xs, rel, ho⟩ := dt_rd I1.hok hd
  obtain ⟨o, es, ep, g1, g2, g3, g4, g5, g6⟩ := id ho
  have raw : DT.Raw s1.heap d es ep := ⟨o, g1, g2, g3⟩
  have I2 : Inv X pins σ H1 { s1 with heap := s1.heap.push { cls := .type "dict_items", data := .fields #[.ref d] } } := I1.kept (t' := s1.toks) fun _ _ z => Heap.get?_push_of_some _ z
  refine ⟨raw.typeIs, (fun b e => by cases e; exact ⟨o, g1, g2.2.1⟩), ?_⟩
  show wpAny _ _ (callWith cpos (.builtin "dict.items") [.ref d] [] []) _ X.xe s1
  refine method_meetsIn F.slot_dict_items F.entry_dict_items rfl (PySem.evalArgs_none ⟨rfl, raw.typeIs, F.args_dict_items_1 _, _, DT.meetsItems (es := es) (ep := ep) lo, ⟨raw, ?_⟩⟩)
  refine Calls.spliced_nil ?_
  have ls : es.size = xs.length := size_of_entries g4
  have lk : kvs.length = xs.length := kt_len rel
  refine list_items_raw (es := es) (ep := ep) (I1.ok.hd hc) ⟨_, Heap.get?_push_size _ rfl, rfl, rfl⟩ (raw.push _) (by omega) fun h' tk acc c as hk hS hl hG hacc => ?_
  have hws : ((xs.map fun x => x.2.1).zip (kvs.map (·.2))).length = xs.length := by rw [List.length_zip, List.length_map, List.length_map, lk, Nat.min_self]
  have hw : ∀ (j : Nat) (p : V × V), (((xs.map fun x => x.2.1).zip (kvs.map (·.2))).map fun q => (V.ref q.1, q.2))[j]? = some p → ∃ e, es[j]? = some e ∧ RelV p.1 e.key ∧ RelV p.2 e.val := by
    intro j pq hj
    rw [List.getElem?_map] at hj
    cases hz1 : ((xs.map fun x => x.2.1).zip (kvs.map (·.2)))[j]? with
    | none => rw [hz1] at hj; cases hj
    | some z =>
      rw [hz1] at hj
      cases hj
      obtain ⟨z1, z2⟩ := List.getElem?_zip_eq_some.mp hz1
      rw [List.getElem?_map] at z1 z2
      cases hx : xs[j]? with
      | none => rw [hx] at z1; cases z1
      | some x =>
        cases hkv : kvs[j]? with
        | none => rw [hkv] at z2; cases z2
        | some kv =>
          rw [hx] at z1
          rw [hkv] at z2
          obtain ⟨y, hy, r1, r2, r3⟩ := paired_get rel hkv
          rw [hx] at hy
          cases hy
          refine ⟨entryOfKey (tupleKind (mixKind X.prog X.w)) x, ?_, ?_, ?_⟩
          · rw [entry_at g4 j, hx]
            rfl
          · show RelV (.ref z.1) _
            rw [← Option.some.inj z1]
            rfl
          · show RelV z.2 _
            rw [← Option.some.inj z2]
            exact r3
  obtain ⟨H', k1, k2, k3, k4, k5, k6, J⟩ := pairs_laid (tk := tk) (es := es) (ws := ((xs.map fun x => x.2.1).zip (kvs.map (·.2))).map fun q => (V.ref q.1, q.2)) I2 (by rw [List.length_map, hws]; omega) hw hk hS (by rw [List.length_map, hws]; omega) hG hacc
  · refine ⟨.ref _, H', J, rfl, q H' _ as (xs.map fun x => x.2.1) k1 k2 k3 k5 (keys_qs rel) ?_⟩
    have e1 : ∀ {ts : List Addr} {zs : List (Addr × V)}, Paired (fun (t : Addr) (q : V × V) => H' t = some (.tup [q.1, q.2])) ts (zs.map fun q => (V.ref q.1, q.2)) → Paired (fun (t : Addr) (q : Addr × V) => H' t = some (.tup [.ref q.1, q.2])) ts zs := by
      intro ts zs
      induction zs generalizing ts with
      | nil =>
        intro h
        cases h
        exact .nil
      | cons z zs ih =>
        intro h
        cases h with
        | cons a b => exact .cons a (ih b)
    exact e1 k6
theorem prs_build {P : Program} {w : World} {H : Hp} {h : Heap} (ok : HOk P w H h) : ∀ {kvs : List (List Key × V)} {qs ts : List Addr}, Paired (fun (q : Addr) (kv : List Key × V) => H q = some (.tup (kv.1.map kV))) qs kvs →
    Paired (fun (t : Addr) (q : Addr × V) => H t = some (.tup [.ref q.1, q.2])) ts (qs.zip (kvs.map (·.2))) →
    ∃ ps : List (List Key × Addr × Value), KT H kvs ps ∧ Paired (fun (t : Addr) (x : List Key × Addr × Value) => IsTup h t #[.ref x.2.1, x.2.2]) ts ps
  | _, _, _, .nil, ht => by
    cases ht
    exact ⟨[], .nil, .nil⟩
  | _, _, _, .cons (a := q) (b := kv) r t, ht => by
    cases ht with
    | cons a b =>
      obtain ⟨ps, h1, h2⟩ := prs_build ok t b
      obtain ⟨_, its, rv, tp⟩ := ok _ _ a
      obtain ⟨u1, u2, rfl, ri, rj⟩ := vals2 rv
      cases ri
      exact ⟨(kv.1, q, u2) :: ps, .cons ⟨rfl, r, rj⟩ h1, .cons tp h2⟩
/-- dict(xs), xs a list of pairs of a tuple and a value, no tuple twice -/
def rDictPrT (K : PySem.W.Frag) : List V → Hp → VK → Prop := fun vs H Q => ∃ (a : Addr) (ts qs : List Addr) (kvs : List (List Key × V)), vs = [.ref a] ∧ SqL K H a (ts.map V.ref) ∧
  Paired (fun (q : Addr) (kv : List Key × V) => H q = some (.tup (kv.1.map kV))) qs kvs ∧ Paired (fun (t : Addr) (q : Addr × V) => H t = some (.tup [.ref q.1, q.2])) ts (qs.zip (kvs.map (·.2))) ∧ (kvs.map (·.1)).Nodup ∧
  ∀ p, H p = none → Q (.ref p) (upd H p (.dT kvs))
theorem paired_len {α β : Type} {F : α → β → Prop} : ∀ {l : List α} {m : List β}, Paired F l m → l.length = m.length
  | _, _, .nil => rfl
  | _, _, .cons _ t => by rw [List.length_cons, List.length_cons, paired_len t]
theorem call_dictPrT (hcalm : X.calm = true) (hu : X.A.units + 64 < cLine) : CallR X (.type "dict") (rDictPrT X.K) := by
  intro pins s σ H vs us Q I r q
  obtain ⟨a, ts, qs, kvs, rfl, hS, hq, ht, hn, q⟩ := q
  obtain ⟨u, rfl, rx⟩ := vals1 r
  cases rx
  obtain ⟨its, rv, pl, hz⟩ := I.list hS
  rw [List.length_map] at hz
  have hits := refs_at rv
  obtain ⟨ps, k1, k2⟩ := prs_build I.hok hq ht
  have l1 : ts.length = ps.length := paired_len k2
  have l2 : kvs.length = ps.length := kt_len k1
  have ok1 : PlainSeq "list" s.heap a its.toArray := by
    obtain ⟨o, n, e, c, d, dt⟩ := pl
    exact ⟨o, n, e, c, d, dt⟩
  have hall : ∀ x ∈ ps, (tupleKind (mixKind X.prog X.w)).is s.heap x.1 x.2.1 := by
    have go : ∀ {l : List (List Key × V)} {m : List (List Key × Addr × Value)}, KT H l m → ∀ x ∈ m, (tupleKind (mixKind X.prog X.w)).is s.heap x.1 x.2.1 := by
      intro l m r
      induction r with
      | nil => intro x hx; exact nomatch hx
      | cons a b ih =>
        intro x hx
        rcases List.mem_cons.mp hx with e | hx
        · subst e
          exact key_of I.hok (by rw [← a.1]; exact a.2.1)
        · exact ih x hx
    exact go k1
  have P := PairArg.list (prog := X.prog) (w := X.w) a its.toArray (fun j => ts.getD j 0) (ps.map fun x => (Value.ref x.2.1, x.2.2))
  refine call_dict_pairsH (knd := tupleKind (mixKind X.prog X.w)) (ps := ps) P (I.ok.hd hcalm) (tupleKind_room_in1 (A := X.A.in1) ?_) ⟨ok1, ?_, ?_⟩ ⟨?_, ?_⟩ ?_ ?_ ?_
  · show X.A.units + 1 + 1 < cLine
    omega
  · rw [hits, List.size_toArray, List.length_map, List.length_map]
    exact l1
  · intro j k v hj
    rw [List.getElem?_map] at hj
    cases hx : ps[j]? with
    | none => rw [hx] at hj; cases hj
    | some x =>
      rw [hx] at hj
      cases hj
      have hjl : j < ts.length := by
        rw [l1]
        exact (List.getElem?_eq_some_iff.mp hx).1
      obtain ⟨y, hy, tp⟩ := paired_get k2 (List.getElem?_eq_getElem hjl)
      rw [hx] at hy
      cases hy
      have eg : ts.getD j 0 = ts[j] := by rw [List.getD_eq_getElem?_getD, List.getElem?_eq_getElem hjl]; rfl
      refine ⟨?_, .inl ?_⟩
      · rw [hits]
        show (ts.map Value.ref).toArray[j]? = some (.ref (ts.getD j 0))
        rw [List.getElem?_toArray, List.getElem?_map, List.getElem?_eq_getElem hjl, eg]
        rfl
      · show s.heap.IsTuple (ts.getD j 0) #[Value.ref x.2.1, x.2.2]
        rw [eg]
        obtain ⟨o, e, c, n, dd⟩ := tp
        exact ⟨o, e, c, n, dd⟩
  · rw [List.length_map]
  · intro i key v hr
    have hr' : (ps.map fun x => (Value.ref x.2.1, x.2.2))[i]? = some (key, v) := hr
    rw [List.getElem?_map] at hr'
    cases hx : ps[i]? with
    | none => rw [hx] at hr'; cases hr'
    | some x =>
      rw [hx] at hr'
      cases hr'
      exact ⟨x.1, x.2.1, rfl, rfl⟩
  · intro h' hk x hx
    have hlt : ∀ b o, s.heap.get? b = some o → b ≠ s.heap.objs.size := fun b o e => Nat.ne_of_lt (Heap.lt_size e)
    have I1 : Inv X pins σ H { s with heap := h' } := I.kept (t' := s.toks) fun b o e => hk b o (hlt b o e) (fun z => nomatch z) e
    have go : ∀ {l : List (List Key × V)} {m : List (List Key × Addr × Value)}, KT H l m → ∀ x ∈ m, (tupleKind (mixKind X.prog X.w)).is h' x.1 x.2.1 := by
      intro l m r
      induction r with
      | nil => intro x hx; exact nomatch hx
      | cons a b ih =>
        intro x hx
        rcases List.mem_cons.mp hx with e | hx
        · subst e
          exact key_of I1.hok (by rw [← a.1]; exact a.2.1)
        · exact ih x hx
    exact go k1 x hx
  · rw [List.length_map, ← l1]
    exact hz
  · intro h' tk d1 kp
    have hn2 : (ps.map (·.1)).Nodup := by rw [← kt_keys k1]; exact hn
    rw [storedAllH_nil_of_nodup _ hn2] at d1
    have hm : (s.heap.objs.size == sysModules) = false := beq_eq_false_iff_ne.mpr (Nat.ne_of_gt I.big)
    have hf : H s.heap.objs.size = Option.none := I.hok.fresh (Nat.le_refl _)
    have zz : kvs.length ≤ sizeLine := by
      rw [l2, ← l1]
      exact hz
    exact ⟨.ref s.heap.objs.size, upd H s.heap.objs.size (.dT kvs), I.laid (t' := tk) (fun b u e => kp b u (fun z => nomatch z) e) (Nat.le_refl _)
      (dt_ok zz hm (KT.keeps k1 fun b ys e => by rw [upd_ne (ne_of_none e hf)]; exact e) d1), rfl, q _ hf⟩
end
end N88
/-! what a reading comes to, wherever the heap has grown, or dicts are locked -/
namespace N88
open PySem L2 PySem.Spec PyProof.Rows
def isDct : HO → Bool
  | .dK _ => true
  | .dT _ => true
  | _ => false
/-- all is there still, but that a dict may be locked -/
def Fx (H H' : Hp) : Prop := ∀ a o, H a = some o → H' a = some o ∨ (isDct o = true ∧ ∃ od, H' a = some (.frz od o))
theorem Fx.refl (H : Hp) : Fx H H := fun _ _ h => .inl h
theorem Fx.of {H H' : Hp} (s : Same H H') : Fx H H' := fun _ _ h => .inl (s _ _ h)
theorem Fx.trans {H H1 H2 : Hp} (a : Fx H H1) (b : Fx H1 H2) : Fx H H2 := fun x o h => by
  rcases a x o h with h1 | ⟨d, od, h1⟩
  · exact b x o h1
  · rcases b x _ h1 with h2 | ⟨d2, _⟩
    · exact .inr ⟨d, od, h2⟩
    · cases d2
theorem Fx.same {H H1 H2 : Hp} (a : Fx H H1) (b : Same H1 H2) : Fx H H2 := a.trans (.of b)
theorem Fx.nd {H H' : Hp} (f : Fx H H') {a : Addr} {o : HO} (h : H a = some o) (n : isDct o = false) : H' a = some o := by
  rcases f a o h with h1 | ⟨d, _⟩
  · exact h1
  · rw [n] at d
    cases d
theorem Fx.fresh {H H' : Hp} (f : Fx H H') {a : Addr} (h : H' a = none) : H a = none := by
  cases e : H a with
  | none => rfl
  | some o =>
    rcases f a o e with h1 | ⟨_, od, h1⟩
    · rw [h] at h1
      cases h1
    · rw [h] at h1
      cases h1
theorem Fx.rd {H H' : Hp} (f : Fx H H') {a : Addr} {u : HO} (h : Rd H a u) : Rd H' a u := by
  rcases h with h | ⟨o, h⟩
  · rcases f a u h with h1 | ⟨_, od, h1⟩
    · exact .inl h1
    · exact .inr ⟨od, h1⟩
  · exact .inr ⟨o, f.nd h rfl⟩
theorem Fx.sqL {K : PySem.W.Frag} {H H' : Hp} (f : Fx H H') {a : Addr} {xs : List V} (h : SqL K H a xs) : SqL K H' a xs := h.elim (fun h => .inl (f.rd h)) .inr
theorem Fx.sqT {K : PySem.W.Frag} {H H' : Hp} (f : Fx H H') {a : Addr} {xs : List V} (h : SqT K H a xs) : SqT K H' a xs := h.elim (fun h => .inl (f.rd h)) .inr
/-- the tuples are there still -/
def Tm (H H' : Hp) : Prop := ∀ a xs, H a = some (.tup xs) → H' a = some (.tup xs)
theorem Fx.tm {H H' : Hp} (f : Fx H H') : Tm H H' := fun _ _ h => f.nd h rfl
theorem Tm.refl (H : Hp) : Tm H H := fun _ _ h => h
theorem Tm.trans {H H1 H2 : Hp} (a : Tm H H1) (b : Tm H1 H2) : Tm H H2 := fun x o h => b x o (a x o h)
theorem Tm.put {H : Hp} {a : Addr} {o u : HO} (h : H a = some o) (n : ∀ xs, o ≠ .tup xs) : Tm H (upd H a u) := fun b xs e => by
  rw [upd_ne (ne_of e h (fun z => n xs z.symm))]
  exact e
theorem same_new {H : Hp} {p : Addr} {o : HO} (h : H p = none) : Same H (upd H p o) := fun a u e => by
  rw [upd_ne (ne_of_none e h)]
  exact e
theorem Tm.new {H : Hp} {p : Addr} {o : HO} (h : H p = none) : Tm H (upd H p o) := fun a xs e => same_new h a _ e

/-! ### data that never changes: scalars and tuples -/
mutual
inductive Td (K : PySem.W.Frag) (H : Hp) : V → PyData → Prop
  | non : Td K H .non .none
  | bl (b : Bool) : Td K H (.bl b) (.bool b)
  | int (i : Int) : Td K H (.int i) (.int i)
  | str (x : Str) : Td K H (.str x) (.str x)
  | tup {a : Addr} {xs : List V} {ds : List PyData} : H a = some (.tup xs) → TdAll K H xs ds → Td K H (.ref a) (.tuple ds)
inductive TdAll (K : PySem.W.Frag) (H : Hp) : List V → List PyData → Prop
  | nil : TdAll K H [] []
  | cons {v : V} {vs : List V} {d : PyData} {ds : List PyData} : Td K H v d → TdAll K H vs ds → TdAll K H (v :: vs) (d :: ds)
end
variable {K : PySem.W.Frag}
mutual
theorem Td.tm {H H' : Hp} (t : Tm H H') : ∀ {v : V} {d : PyData}, Td K H v d → Td K H' v d
  | _, _, .non => .non
  | _, _, .bl b => .bl b
  | _, _, .int i => .int i
  | _, _, .str x => .str x
  | _, _, .tup h r => .tup (t _ _ h) (TdAll.tm t r)
theorem TdAll.tm {H H' : Hp} (t : Tm H H') : ∀ {vs : List V} {ds : List PyData}, TdAll K H vs ds → TdAll K H' vs ds
  | _, _, .nil => .nil
  | _, _, .cons a b => .cons (Td.tm t a) (TdAll.tm t b)
end
mutual
theorem Td.dp {H : Hp} : ∀ {v : V} {d : PyData}, Td K H v d → Dp K H v d
  | _, _, .non => .non
  | _, _, .bl b => .bl b
  | _, _, .int i => .int i
  | _, _, .str x => .str x
  | _, _, .tup h r => .tup (SqT.of h) (TdAll.dp r)
theorem TdAll.dp {H : Hp} : ∀ {vs : List V} {ds : List PyData}, TdAll K H vs ds → DpAll K H vs ds
  | _, _, .nil => .nil
  | _, _, .cons a b => .cons (Td.dp a) (TdAll.dp b)
end
theorem TdAll.len {H : Hp} : ∀ {vs : List V} {ds : List PyData}, TdAll K H vs ds → vs.length = ds.length
  | _, _, .nil => rfl
  | _, _, .cons _ b => by rw [List.length_cons, List.length_cons, TdAll.len b]
theorem TdAll.get {H : Hp} : ∀ {vs : List V} {ds : List PyData} {i : Nat} {v : V}, TdAll K H vs ds → vs[i]? = some v → ∃ d, ds[i]? = some d ∧ Td K H v d
  | _, _, _, _, .nil, h => by simp at h
  | _, _, 0, _, .cons a _, h => by
    simp at h
    subst h
    exact ⟨_, rfl, a⟩
  | _, _, i + 1, _, .cons _ b, h => TdAll.get (i := i) b (by simpa using h)
theorem TdAll.app {H : Hp} : ∀ {vs us : List V} {ds es : List PyData}, TdAll K H vs ds → TdAll K H us es → TdAll K H (vs ++ us) (ds ++ es)
  | _, _, _, _, .nil, b => b
  | _, _, _, _, .cons a r, b => .cons a (TdAll.app r b)

/-! ### what comes of it -/
/-- k comes to a value of which P holds, the heap grown -/
def EvR (k : Hp → VK → Prop) (H : Hp) (P : V → Hp → Prop) : Prop := ∀ H1, Fx H H1 → ∀ Q : VK, (∀ v H2, Same H1 H2 → P v H2 → Q v H2) → k H1 Q
def EvT (t : Hp → (Bool → Hp → Prop) → Prop) (H : Hp) (b : Bool) : Prop := ∀ H1, Fx H H1 → ∀ Q : Bool → Hp → Prop, (∀ H2, Same H1 H2 → Q b H2) → t H1 Q
section
variable {k : Hp → VK → Prop} {H H' : Hp} {P P' : V → Hp → Prop} {σ : L2.St} {v : V}
theorem EvR.mono (f : Fx H H') (h : EvR k H P) : EvR k H' P := fun H1 g Q q => h H1 (f.trans g) Q q
theorem EvT.mono {t : Hp → (Bool → Hp → Prop) → Prop} {b : Bool} (f : Fx H H') (h : EvT t H b) : EvT t H' b := fun H1 g Q q => h H1 (f.trans g) Q q
theorem EvR.imp (h : EvR k H P) (i : ∀ v H2, Fx H H2 → P v H2 → P' v H2) : EvR k H P' := fun H1 g Q q => h H1 g Q fun v H2 s p => q v H2 s (i v H2 (g.same s) p)
theorem EvR.run (h : EvR k H P) {Q : VK} (q : ∀ v H2, Same H H2 → P v H2 → Q v H2) : k H Q := h H (Fx.refl H) Q q
theorem EvT.run {t : Hp → (Bool → Hp → Prop) → Prop} {b : Bool} (h : EvT t H b) {Q : Bool → Hp → Prop} (q : ∀ H2, Same H H2 → Q b H2) : t H Q := h H (Fx.refl H) Q q
theorem ev_ret (h : ∀ H', Fx H H' → P v H') : EvR (fun H Q => Q v H) H P := fun H1 g Q q => q v H1 (fun _ _ e => e) (h H1 g)
theorem ev_bind {k2 : V → Hp → VK → Prop} (h : EvR k H P) (h2 : ∀ v H2, Fx H H2 → P v H2 → EvR (k2 v) H2 P') : EvR (fun H Q => k H fun v H1 => k2 v H1 Q) H P' := fun H1 g Q q =>
  h H1 g _ fun v H2 s p => h2 v H2 (g.same s) p H2 (Fx.refl H2) Q fun v' H3 s' p' => q v' H3 (s.trans s') p'
theorem et_bind {k2 : V → Hp → (Bool → Hp → Prop) → Prop} {b : Bool} (h : EvR k H P) (h2 : ∀ v H2, Fx H H2 → P v H2 → EvT (k2 v) H2 b) : EvT (fun H Q => k H fun v H1 => k2 v H1 Q) H b := fun H1 g Q q =>
  h H1 g _ fun v H2 s p => h2 v H2 (g.same s) p H2 (Fx.refl H2) Q fun H3 s' => q H3 (s.trans s')
abbrev Is (v : V) : V → Hp → Prop := fun x _ => x = v
theorem ev_var {i : Nat} (h : σ[i]? = some (some v)) : EvR (tVar i σ) H (Is v) := fun H1 _ Q q => ⟨v, h, q v H1 (fun _ _ e => e) rfl⟩
theorem ev_c : EvR (tC v σ) H (Is v) := fun H1 _ Q q => q v H1 (fun _ _ e => e) rfl
/-- a new object -/
def New (H : Hp) (o : HO) : V → Hp → Prop := fun v H' => ∃ p, v = .ref p ∧ H p = none ∧ H' p = some o
theorem ev_new {o : HO} : EvR (fun H Q => ∀ p, H p = none → Q (.ref p) (upd H p o)) H (New H o) := fun H1 g Q q p hp =>
  q (.ref p) _ (same_new hp) ⟨p, rfl, g.fresh hp, upd_same⟩
end
end N88
/-! what readings come to: expressions, tests, arguments -/
namespace N88
open PySem L2 PySem.Spec PyProof.Rows
variable {K : PySem.W.Frag} {H H' : Hp} {σ : L2.St} {P P' P1 P2 : V → Hp → Prop} {v x y z : V} {ta tb tc te : TE} {k k' : Hp → VK → Prop} {r : R2} {b c : Bool} {t u : TT}
abbrev D (K : PySem.W.Frag) (d : PyData) : V → Hp → Prop := fun v H => Td K H v d
def EvA (ta : Hp → (List V → Hp → Prop) → Prop) (H : Hp) (P : List V → Hp → Prop) : Prop := ∀ H1, Fx H H1 → ∀ Q : List V → Hp → Prop, (∀ vs H2, Same H1 H2 → P vs H2 → Q vs H2) → ta H1 Q
abbrev IsL (vs : List V) : List V → Hp → Prop := fun xs _ => xs = vs
abbrev DA (K : PySem.W.Frag) (ds : List PyData) : List V → Hp → Prop := fun vs H => TdAll K H vs ds
theorem ev_or1 (h : EvR k H P) : EvR (fun H Q => k H Q ∨ k' H Q) H P := fun H1 g Q q => .inl (h H1 g Q q)
theorem ev_or2 (h : EvR k' H P) : EvR (fun H Q => k H Q ∨ k' H Q) H P := fun H1 g Q q => .inr (h H1 g Q q)
/-! ### operators -/
theorem ev_opP (ha : EvR (ta σ) H P1) (hb : ∀ x H1, Fx H H1 → P1 x H1 → EvR (tb σ) H1 P2) (hr : ∀ x y H1 H2, Fx H H1 → P1 x H1 → Fx H1 H2 → P2 y H2 → EvR (r x y) H2 P) : EvR (tOp r ta tb σ) H P :=
  ev_bind (k := ta σ) (k2 := fun x H Q => tb σ H fun y H2 => r x y H2 Q) ha fun x H1 f1 p1 => ev_bind (k := tb σ) (k2 := fun y H Q => r x y H Q) (hb x H1 f1 p1) fun y H2 f2 p2 => hr x y H1 H2 f1 p1 f2 p2
theorem ev_op (ha : EvR (ta σ) H (Is x)) (hb : EvR (tb σ) H (Is y)) (hr : EvR (r x y) H P) : EvR (tOp r ta tb σ) H P :=
  ev_bind (k := ta σ) (k2 := fun x H Q => tb σ H fun y H2 => r x y H2 Q) ha fun x' H1 f1 p1 => ev_bind (k := tb σ) (k2 := fun y H Q => r x' y H Q) (hb.mono f1) fun y' H2 f2 p2 => by
    cases p1
    cases p2
    exact hr.mono (f1.trans f2)
/-- both sides data -/
theorem ev_opD {d e : PyData} (ha : EvR (ta σ) H (D K d)) (hb : EvR (tb σ) H (D K e)) (hr : ∀ x y H2, Fx H H2 → Td K H2 x d → Td K H2 y e → EvR (r x y) H2 P) : EvR (tOp r ta tb σ) H P :=
  ev_bind (k := ta σ) (k2 := fun x H Q => tb σ H fun y H2 => r x y H2 Q) ha fun x' H1 f1 p1 => ev_bind (k := tb σ) (k2 := fun y H Q => r x' y H Q) (hb.mono f1) fun y' H2 f2 p2 => hr _ _ H2 (f1.trans f2) (p1.tm f2.tm) p2
theorem ev_un {ru : V → Hp → VK → Prop} (ha : EvR (ta σ) H (Is x)) (hr : EvR (ru x) H P) : EvR (tUn ru ta σ) H P := ev_bind (k := ta σ) (k2 := ru) ha fun x' H1 f1 p1 => by
  cases p1
  exact hr.mono f1
theorem rv_I0 {g : Int → Int → V} {i j : Int} : EvR (rI0 g (.int i) (.int j)) H (Is (g i j)) := fun H1 _ Q q => ⟨i, j, rfl, rfl, q _ H1 (fun _ _ e => e) rfl⟩
theorem rv_I {C : Int → Int → Prop} {g : Int → Int → V} {i j : Int} (h : C i j) : EvR (rI C g (.int i) (.int j)) H (Is (g i j)) := fun H1 _ Q q => ⟨i, j, rfl, rfl, h, q _ H1 (fun _ _ e => e) rfl⟩
theorem rv_neg {i : Int} : EvR (rU (fun i => .int (-i)) (.int i)) H (Is (.int (-i))) := fun H1 _ Q q => ⟨i, rfl, q _ H1 (fun _ _ e => e) rfl⟩
theorem rv_eq {d e : PyData} (h1 : Dp K H x d) (h2 : Dp K H y e) (s1 : SeqAt.shaped d = true) (s2 : SeqAt.shaped e = true) (mono : ∀ H', Fx H H' → Dp K H' x d ∧ Dp K H' y e) : EvR (rEqD K x y) H (Is (.bl (PyData.eqv d e))) := fun H1 g Q q =>
  ⟨d, e, (mono H1 g).1, (mono H1 g).2, s1, s2, q _ H1 (fun _ _ e => e) rfl⟩
theorem rv_eqD {d e : PyData} (h1 : Td K H x d) (h2 : Td K H y e) (s1 : SeqAt.shaped d = true) (s2 : SeqAt.shaped e = true) : EvR (rEqD K x y) H (Is (.bl (PyData.eqv d e))) :=
  rv_eq h1.dp h2.dp s1 s2 fun H' f => ⟨(h1.tm f.tm).dp, (h2.tm f.tm).dp⟩
theorem rv_neD {d e : PyData} (h1 : Td K H x d) (h2 : Td K H y e) (s1 : SeqAt.shaped d = true) (s2 : SeqAt.shaped e = true) : EvR (rNeD K x y) H (Is (.bl (!PyData.eqv d e))) := fun H1 g Q q =>
  ⟨d, e, (h1.tm g.tm).dp, (h2.tm g.tm).dp, s1, s2, q _ H1 (fun _ _ e => e) rfl⟩
theorem rv_ixL {p : Addr} {xs : List V} {i : Int} (h : SqL K H p xs) (ha : atI xs i = some v) : EvR (rIxL K (.ref p) (.int i)) H (Is v) := fun H1 g Q q => ⟨p, xs, i, v, rfl, rfl, g.sqL h, ha, q _ H1 (fun _ _ e => e) rfl⟩
theorem rv_ixT {p : Addr} {xs : List V} {i : Int} (h : SqT K H p xs) (ha : atI xs i = some v) : EvR (rIxT K (.ref p) (.int i)) H (Is v) := fun H1 g Q q => ⟨p, xs, i, v, rfl, rfl, g.sqT h, ha, q _ H1 (fun _ _ e => e) rfl⟩
theorem rv_isN : EvR ((fun x y H Q => y = .non ∧ Q (.bl (decide (x = .non))) H : R2) x .non) H (Is (.bl (decide (x = .non)))) := fun H1 _ Q q => ⟨rfl, q _ H1 (fun _ _ e => e) rfl⟩
/-! ### dicts with tuple keys -/
theorem dget_mono {a : Addr} {kvs : List (List Key × V)} {kk : List Key} {q : Addr} (h : Rd H a (.dT kvs)) (hq : H q = some (.tup (kk.map kV))) (f : Fx H H') : DGet H' a (.ref q) (valV kvs kk) :=
  .inr ⟨kvs, kk, q, f.rd h, rfl, f.nd hq rfl, rfl⟩
theorem ev_dget {a q : Addr} {kvs : List (List Key × V)} {kk : List Key} (hd : EvR (ta σ) H (Is (.ref a))) (hy : EvR (tb σ) H (Is (.ref q))) (h : Rd H a (.dT kvs)) (hq : H q = some (.tup (kk.map kV))) (hv : valV kvs kk = some v) : EvR (tDGet ta tb σ) H (Is v) :=
  ev_bind (k := ta σ) (k2 := fun x H Q => tb σ H fun y H2 => ∃ a v, x = .ref a ∧ DGet H2 a y (some v) ∧ Q v H2) hd fun x' H1 f1 p1 => ev_bind (k := tb σ) (k2 := fun y H Q => ∃ a v, x' = .ref a ∧ DGet H a y (some v) ∧ Q v H) (hy.mono f1) fun y' H2 f2 p2 => by
    cases p1
    cases p2
    exact fun H3 g Q q => ⟨a, v, rfl, hv ▸ dget_mono h hq ((f1.trans f2).trans g), q _ H3 (fun _ _ e => e) rfl⟩
theorem ev_din {a q : Addr} {kvs : List (List Key × V)} {kk : List Key} (hy : EvR (ta σ) H (Is (.ref q))) (hd : EvR (tb σ) H (Is (.ref a))) (h : Rd H a (.dT kvs)) (hq : H q = some (.tup (kk.map kV))) : EvR (tDIn ta tb σ) H (Is (.bl (valV kvs kk).isSome)) :=
  ev_bind (k := ta σ) (k2 := fun y H Q => tb σ H fun x H2 => ∃ a o, x = .ref a ∧ DGet H2 a y o ∧ Q (.bl (o.isSome)) H2) hy fun x' H1 f1 p1 => ev_bind (k := tb σ) (k2 := fun x H Q => ∃ a o, x = .ref a ∧ DGet H a x' o ∧ Q (.bl (o.isSome)) H) (hd.mono f1) fun y' H2 f2 p2 => by
    cases p1
    cases p2
    exact fun H3 g Q q => ⟨a, _, rfl, dget_mono h hq ((f1.trans f2).trans g), q _ H3 (fun _ _ e => e) rfl⟩
theorem ev_dnotin {a q : Addr} {kvs : List (List Key × V)} {kk : List Key} (hy : EvR (ta σ) H (Is (.ref q))) (hd : EvR (tb σ) H (Is (.ref a))) (h : Rd H a (.dT kvs)) (hq : H q = some (.tup (kk.map kV))) : EvR (tDNotIn ta tb σ) H (Is (.bl (!(valV kvs kk).isSome))) :=
  ev_bind (k := ta σ) (k2 := fun y H Q => tb σ H fun x H2 => ∃ a o, x = .ref a ∧ DGet H2 a y o ∧ Q (.bl (!o.isSome)) H2) hy fun x' H1 f1 p1 => ev_bind (k := tb σ) (k2 := fun x H Q => ∃ a o, x = .ref a ∧ DGet H a x' o ∧ Q (.bl (!o.isSome)) H) (hd.mono f1) fun y' H2 f2 p2 => by
    cases p1
    cases p2
    exact fun H3 g Q q => ⟨a, _, rfl, dget_mono h hq ((f1.trans f2).trans g), q _ H3 (fun _ _ e => e) rfl⟩
/-! ### fields -/
theorem ev_fld {a C dx : Addr} {fs : List (Str × V)} {f : Str} (ha : EvR (ta σ) H (Is (.ref a))) (h : H a = some (.ins C dx fs)) (hc : Cls K C) (hn : NoAttr K C f) (hl : fs.lookup f = some v) : EvR (tFld K ta f σ) H (Is v) :=
  ev_bind (k := ta σ) (k2 := fun x H1 Q => ∃ a C dx fs v, x = .ref a ∧ H1 a = some (.ins C dx fs) ∧ Cls K C ∧ NoAttr K C f ∧ fs.lookup f = some v ∧ Q v H1) ha fun x' H1 f1 p1 => by
    cases p1
    exact fun H3 g Q q => ⟨a, C, dx, fs, v, rfl, (f1.trans g).nd h rfl, hc, hn, hl, q _ H3 (fun _ _ e => e) rfl⟩
/-! ### arguments -/
theorem EvA.mono {ta : Hp → (List V → Hp → Prop) → Prop} {PA : List V → Hp → Prop} (f : Fx H H') (h : EvA ta H PA) : EvA ta H' PA := fun H1 g Q q => h H1 (f.trans g) Q q
theorem ea_nil {PA : List V → Hp → Prop} (h : ∀ H', Fx H H' → PA [] H') : EvA (tNil σ) H PA := fun H1 g Q q => q [] H1 (fun _ _ e => e) (h H1 g)
theorem ea_consP {tr : TA} {PA : List V → Hp → Prop} (h : EvR (te σ) H P) (hr : ∀ v H1, Fx H H1 → P v H1 → EvA (tr σ) H1 fun vs H2 => PA (v :: vs) H2) : EvA (tCons te tr σ) H PA := fun H1 g Q q =>
  h H1 g _ fun v H2 s p => hr v H2 (g.same s) p H2 (Fx.refl H2) _ fun vs H3 s' p' => q _ H3 (s.trans s') p'
theorem ea_cons {tr : TA} {vs : List V} (h : EvR (te σ) H (Is v)) (hr : EvA (tr σ) H (IsL vs)) : EvA (tCons te tr σ) H (IsL (v :: vs)) := ea_consP h fun v' H1 f p => fun H2 g Q q => (hr.mono f) H2 g Q fun ws H3 s p' => q ws H3 s (by
  cases p
  cases p'
  rfl)
theorem ea_nilV : EvA (tNil σ) H (IsL []) := ea_nil fun _ _ => rfl
theorem ea_consD {tr : TA} {d : PyData} {ds : List PyData} (h : EvR (te σ) H (D K d)) (hr : EvA (tr σ) H (DA K ds)) : EvA (tCons te tr σ) H (DA K (d :: ds)) := ea_consP h fun v' H1 f p => fun H2 g Q q => (hr.mono f) H2 g Q fun ws H3 s p' =>
  q ws H3 s (.cons (p.tm (g.same s).tm) p')
theorem ea_nilD : EvA (tNil σ) H (DA K []) := ea_nil fun _ _ => .nil
theorem ev_cb {rc : List V → Hp → VK → Prop} {ta : TA} {PA : List V → Hp → Prop} (h : EvA (ta σ) H PA) (hr : ∀ vs H1, Fx H H1 → PA vs H1 → EvR (rc vs) H1 P) : EvR (tCB rc ta σ) H P := fun H1 g Q q =>
  h H1 g _ fun vs H2 s p => hr vs H2 (g.same s) p H2 (Fx.refl H2) Q fun v H3 s' p' => q v H3 (s.trans s') p'
theorem ev_cb1 {rc : List V → Hp → VK → Prop} (h : EvR (te σ) H (Is x)) (hr : EvR (rc [x]) H P) : EvR (tCB rc (tCons te tNil) σ) H P := ev_cb (ea_cons h ea_nilV) fun vs H1 f p => by
  cases p
  exact hr.mono f
/-- one argument, told by what holds of it -/
theorem ev_cb1P {rc : List V → Hp → VK → Prop} (h : EvR (te σ) H P1) (hr : ∀ v H1, Fx H H1 → P1 v H1 → EvR (rc [v]) H1 P) : EvR (tCB rc (tCons te tNil) σ) H P :=
  ev_bind (k := te σ) (k2 := fun v H Q => rc [v] H Q) h fun v H1 f p => hr v H1 f p
theorem ev_cb2 {rc : List V → Hp → VK → Prop} (h : EvR (ta σ) H (Is x)) (h2 : EvR (tb σ) H (Is y)) (hr : EvR (rc [x, y]) H P) : EvR (tCB rc (tCons ta (tCons tb tNil)) σ) H P := ev_cb (ea_cons h (ea_cons h2 ea_nilV)) fun vs H1 f p => by
  cases p
  exact hr.mono f
theorem ev_tupD {ta : TA} {ds : List PyData} (h : EvA (ta σ) H (DA K ds)) (hl : ds.length ≤ sizeLine) : EvR (tTup ta σ) H (D K (.tuple ds)) := fun H1 g Q q =>
  h H1 g _ fun vs H2 s p => ⟨by rw [p.len]; exact hl, fun a ha => q _ _ (s.trans (same_new ha)) (.tup upd_same (p.tm (Tm.new ha)))⟩
theorem ev_tup {ta : TA} {vs : List V} (h : EvA (ta σ) H (IsL vs)) (hl : vs.length ≤ sizeLine) : EvR (tTup ta σ) H (New H (.tup vs)) := fun H1 g Q q =>
  h H1 g _ fun ws H2 s p => by
    cases p
    exact ⟨hl, fun a ha => q _ _ (s.trans (same_new ha)) ⟨a, rfl, (g.same s).fresh ha, upd_same⟩⟩
theorem ev_lst {ta : TA} {vs : List V} (h : EvA (ta σ) H (IsL vs)) (hl : vs.length ≤ sizeLine) : EvR (tLst ta σ) H (New H (.lst vs)) := fun H1 g Q q =>
  h H1 g _ fun ws H2 s p => by
    cases p
    exact ⟨hl, fun a ha => q _ _ (s.trans (same_new ha)) ⟨a, rfl, (g.same s).fresh ha, upd_same⟩⟩
theorem ev_dnewT : EvR (tDNewT σ) H (New H (.dT [])) := ev_new
theorem ev_dnewK : EvR (tDNewK σ) H (New H (.dK [])) := ev_new
/-! ### tests -/
theorem et_test (h : EvR (te σ) H (Is (.bl b))) : EvT (tTest te σ) H b := fun H1 g Q q => h H1 g _ fun v H2 s p => ⟨b, p, q H2 s⟩
theorem et_B (h : EvR (te σ) H (Is (.bl b))) : EvT (tB te σ) H b := fun H1 g Q q => h H1 g _ fun v H2 s p => ⟨b, p, q H2 s⟩
theorem et_and (h1 : EvT (t σ) H b) (h2 : b = true → EvT (u σ) H c) : EvT (tAnd t u σ) H (b && c) := fun H1 g Q q => h1 H1 g _ fun H2 s => by
  cases b with
  | true => exact h2 rfl H2 (g.same s) Q fun H3 s' => q H3 (s.trans s')
  | false => exact q H2 s
theorem et_or (h1 : EvT (t σ) H b) (h2 : b = false → EvT (u σ) H c) : EvT (tOr t u σ) H (b || c) := fun H1 g Q q => h1 H1 g _ fun H2 s => by
  cases b with
  | true => exact q H2 s
  | false => exact h2 rfl H2 (g.same s) Q fun H3 s' => q H3 (s.trans s')
theorem et_not (h1 : EvT (t σ) H b) : EvT (tNot t σ) H (!b) := fun H1 g Q q => h1 H1 g _ fun H2 s => q H2 s
theorem et_is (h : EvT (t σ) H b) (e : b = c) : EvT (t σ) H c := e ▸ h
theorem ev_is {w : V} (h : EvR k H (Is v)) (e : v = w) : EvR k H (Is w) := e ▸ h
theorem et_yes : EvT (tYes σ) H true := fun H1 _ Q q => q H1 fun _ _ e => e
theorem ev_andV (h1 : EvR (ta σ) H (Is (.bl b))) (h2 : b = true → EvR (tb σ) H (Is (.bl c))) : EvR (tAndV ta tb σ) H (Is (.bl (b && c))) := fun H1 g Q q => h1 H1 g _ fun v H2 s p => ⟨b, p, by
  cases b with
  | true => exact h2 rfl H2 (g.same s) Q fun v' H3 s' p' => q v' H3 (s.trans s') p'
  | false => exact q _ H2 s rfl⟩
theorem ev_orV (h1 : EvR (ta σ) H (Is (.bl b))) (h2 : b = false → EvR (tb σ) H (Is (.bl c))) : EvR (tOrV ta tb σ) H (Is (.bl (b || c))) := fun H1 g Q q => h1 H1 g _ fun v H2 s p => ⟨b, p, by
  cases b with
  | true => exact q _ H2 s rfl
  | false => exact h2 rfl H2 (g.same s) Q fun v' H3 s' p' => q v' H3 (s.trans s') p'⟩
theorem ev_notV (h1 : EvR (ta σ) H (Is (.bl b))) : EvR (tNotV ta σ) H (Is (.bl (!b))) := fun H1 g Q q => h1 H1 g _ fun v H2 s p => ⟨b, p, q _ H2 s rfl⟩
theorem ev_if (h : EvT (t σ) H b) (h1 : b = true → EvR (ta σ) H P) (h2 : b = false → EvR (tb σ) H P) : EvR (tIf t ta tb σ) H P := fun H1 g Q q => h H1 g _ fun H2 s => by
  cases b with
  | true => exact h1 rfl H2 (g.same s) Q fun v H3 s' p => q v H3 (s.trans s') p
  | false => exact h2 rfl H2 (g.same s) Q fun v H3 s' p => q v H3 (s.trans s') p
theorem ev_chain {r r' : R2} (ha : EvR (ta σ) H (Is x)) (hb : EvR (tb σ) H (Is y)) (h1 : EvR (r x y) H (Is (.bl b))) (hc : b = true → EvR (tc σ) H (Is z)) (h2 : b = true → EvR (r' y z) H (Is (.bl c))) : EvR (tChain r r' ta tb tc σ) H (Is (.bl (b && c))) :=
  ev_bind (k := ta σ) (k2 := fun x H Q => tb σ H fun y H2 => r x y H2 fun z H3 => ∃ k, z = .bl k ∧ (if k = true then tc σ H3 fun w' H4 => r' y w' H4 Q else Q (.bl false) H3)) ha fun x' H1 f1 p1 =>
  ev_bind (k := tb σ) (k2 := fun y H Q => r x' y H fun z H3 => ∃ k, z = .bl k ∧ (if k = true then tc σ H3 fun w' H4 => r' y w' H4 Q else Q (.bl false) H3)) (hb.mono f1) fun y' H2 f2 p2 => by
    cases p1
    cases p2
    refine ev_bind (k := r x y) (k2 := fun z H Q => ∃ k, z = .bl k ∧ (if k = true then tc σ H fun w' H4 => r' y w' H4 Q else Q (.bl false) H)) (h1.mono (f1.trans f2)) fun z' H3 f3 p3 => ?_
    cases p3
    intro H4 g Q q
    refine ⟨b, rfl, ?_⟩
    cases b with
    | true =>
      refine hc rfl H4 (((f1.trans f2).trans f3).trans g) _ fun z2 H5 s p => ?_
      cases p
      exact h2 rfl H5 ((((f1.trans f2).trans f3).trans g).same s) Q fun v H6 s' p' => q v H6 (s.trans s') p'
    | false => exact q _ H4 (fun _ _ e => e) rfl
end N88
/-! what readings come to: what is walked, comprehensions, locks, statements -/
namespace N88
open PySem L2 PySem.Spec PyProof.Rows
variable {K : PySem.W.Frag} {H H' : Hp} {σ : L2.St} {P P' P1 P2 : V → Hp → Prop} {v x y z : V} {ta tb tc te : TE} {b c : Bool} {t u tt : TT} {α : Type}
/-- what is walked: for the items of l, each of which Y holds, the heap grown -/
def ItR (w : Hp → (It → Hp → Prop) → Prop) (H : Hp) (l : List α) (Y : α → V → Hp → Prop) : Prop := ∀ H1, Fx H H1 → ∀ R : It → Hp → Prop,
  (∀ J H2 G Z, Same H1 H2 → Walk J l.length G Z → (∀ H3, Same H2 H3 → G H3) → (∀ i a H3 x H4, l[i]? = some a → Same H2 H3 → Z i H3 x H4 → Same H3 H4 ∧ Y a x H4) → R J H2) → w H1 R
theorem ItR.mono {w : Hp → (It → Hp → Prop) → Prop} {l : List α} {Y : α → V → Hp → Prop} (f : Fx H H') (h : ItR w H l Y) : ItR w H' l Y := fun H1 g R q => h H1 (f.trans g) R q
/-- the items as told -/
def YIn (l : List α) (xs : List V) (Y : α → V → Hp → Prop) (H : Hp) : Prop := Paired (fun a x => ∀ H', Fx H H' → Y a x H') l xs
theorem paired_at {β : Type} {F : α → β → Prop} : ∀ {l : List α} {m : List β} {i : Nat} {a : α} {b : β}, Paired F l m → l[i]? = some a → m[i]? = some b → F a b
  | _, _, _, _, _, .nil, h, _ => by simp at h
  | _, _, 0, _, _, .cons r _, h, h2 => by
    simp at h h2
    subst h h2
    exact r
  | _, _, i + 1, _, _, .cons _ t, h, h2 => paired_at (i := i) t (by simpa using h) (by simpa using h2)
theorem plen {β : Type} {F : α → β → Prop} : ∀ {l : List α} {m : List β}, Paired F l m → l.length = m.length
  | _, _, .nil => rfl
  | _, _, .cons _ t => by rw [List.length_cons, List.length_cons, plen t]
theorem it_list {l : List α} {xs : List V} {Y : α → V → Hp → Prop} {a : Addr} (h : EvR (te σ) H (Is (.ref a))) (hx : SqL K H a xs) (hy : YIn l xs Y H) : ItR (iList K te σ) H l Y := fun H1 g R q =>
  h H1 g _ fun v H2 s p => ⟨a, p, ⟨xs, (g.same s).sqL hx⟩, q (Itl K a) H2 (fun H => SqL K H a xs) (YAt xs) s (by rw [plen hy]; exact walk_list) (fun H3 s3 => ((g.same s).same s3).sqL hx) fun i a' H3 x H4 ha s3 z => by
    obtain ⟨rfl, hz⟩ := z
    exact ⟨fun _ _ e => e, paired_at hy ha hz _ ((g.same s).same s3)⟩⟩
/-- over a list that was just made -/
theorem it_listP {l : List α} {Y : α → V → Hp → Prop} (h : EvR (te σ) H fun v H2 => ∃ p ys, v = .ref p ∧ SqL K H2 p ys ∧ YIn l ys Y H2) : ItR (iList K te σ) H l Y := fun H1 g R q =>
  h H1 g _ fun v H2 s p => by
    obtain ⟨a, xs, rfl, hx, hy⟩ := p
    exact ⟨a, rfl, ⟨xs, hx⟩, q (Itl K a) H2 (fun H => SqL K H a xs) (YAt xs) s (by rw [plen hy]; exact walk_list) (fun H3 s3 => (Fx.of s3).sqL hx) fun i a' H3 x H4 ha s3 z => by
      obtain ⟨rfl, hz⟩ := z
      exact ⟨fun _ _ e => e, paired_at hy ha hz _ (Fx.of s3)⟩⟩
theorem it_tup {l : List α} {xs : List V} {Y : α → V → Hp → Prop} {a : Addr} (h : EvR (te σ) H (Is (.ref a))) (hx : SqT K H a xs) (hy : YIn l xs Y H) : ItR (iTup K te σ) H l Y := fun H1 g R q =>
  h H1 g _ fun v H2 s p => ⟨a, p, ⟨xs, (g.same s).sqT hx⟩, q (Itt K a) H2 (fun H => SqT K H a xs) (YAt xs) s (by rw [plen hy]; exact walk_tup) (fun H3 s3 => ((g.same s).same s3).sqT hx) fun i a' H3 x H4 ha s3 z => by
    obtain ⟨rfl, hz⟩ := z
    exact ⟨fun _ _ e => e, paired_at hy ha hz _ ((g.same s).same s3)⟩⟩
/-- the signs of a text -/
theorem it_str {w : Str} (h : EvR (te σ) H (Is (.str w))) : ItR (iStr te σ) H w.cps.toList (fun c x _ => x = .str ⟨#[c]⟩) := fun H1 g R q =>
  h H1 g _ fun v H2 s p => ⟨w, p, q (Its w) H2 _ _ s walk_str (fun _ _ => trivial) fun i a' H3 x H4 ha s3 z => by
    obtain ⟨rfl, c, hc, rfl⟩ := z
    refine ⟨fun _ _ e => e, ?_⟩
    rw [← Array.getElem?_toList, ha] at hc
    cases hc
    rfl⟩
/-- the keys of a locked dict -/
def YKey : List Key × V → V → Hp → Prop := fun kv x H => ∃ q, x = .ref q ∧ H q = some (.tup (kv.1.map kV))
theorem it_keysT {d : Addr} {o : Obj} {kvs : List (List Key × V)} (h : EvR (te σ) H (Is (.ref d))) (hd : H d = some (.frz o (.dT kvs))) : ItR (iKeys te σ) H kvs YKey := fun H1 g R q =>
  h H1 g _ fun v H2 s p => ⟨d, o, p, .inr ⟨kvs, (g.same s).nd hd rfl, q (Itkt d o kvs) H2 _ _ s walk_keysT (fun H3 s3 => ((g.same s).same s3).nd hd rfl) fun i a' H3 x H4 ha s3 z => by
    obtain ⟨rfl, k, v, qq, h1, rfl, h3⟩ := z
    refine ⟨fun _ _ e => e, qq, rfl, ?_⟩
    rw [ha] at h1
    cases h1
    exact h3⟩⟩
/-- the pairs of a locked dict -/
def YItem : List Key × V → V → Hp → Prop := fun kv x H => ∃ T q, x = .ref T ∧ H T = some (.tup [.ref q, kv.2]) ∧ H q = some (.tup (kv.1.map kV))
theorem walk_itemsT {d : Addr} {o : Obj} {kvs : List (List Key × V)} : Walk (Itit d o kvs) kvs.length (fun H => H d = some (.frz o (.dT kvs)))
    (fun i H x H' => ∃ T q k v, kvs[i]? = some (k, v) ∧ x = .ref T ∧ H T = none ∧ H q = some (.tup (k.map kV)) ∧ H' = upd H T (.tup [.ref q, v])) :=
  ⟨fun _ _ hi q => ⟨q, hi⟩, fun _ q => ⟨q, Nat.le_refl _⟩, fun _ _ _ _ _ _ y => y⟩
theorem it_itemsT {d : Addr} {o : Obj} {kvs : List (List Key × V)} (h : EvR (te σ) H (Is (.ref d))) (hd : H d = some (.frz o (.dT kvs))) : ItR (iItemsT te σ) H kvs YItem := fun H1 g R q =>
  h H1 g _ fun v H2 s p => ⟨d, o, kvs, p, (g.same s).nd hd rfl, q (Itit d o kvs) H2 _ _ s walk_itemsT (fun H3 s3 => ((g.same s).same s3).nd hd rfl) fun i a' H3 x H4 ha s3 z => by
    obtain ⟨T, qq, k, v, h1, rfl, h3, h4, rfl⟩ := z
    rw [ha] at h1
    cases h1
    exact ⟨same_new h3, T, qq, rfl, upd_same, same_new h3 _ _ h4⟩⟩
theorem it_or1 {w w' : Hp → (It → Hp → Prop) → Prop} {l : List α} {Y : α → V → Hp → Prop} (h : ItR w H l Y) : ItR (fun H R => w H R ∨ w' H R) H l Y := fun H1 g R q => .inl (h H1 g R q)
theorem it_or2 {w w' : Hp → (It → Hp → Prop) → Prop} {l : List α} {Y : α → V → Hp → Prop} (h : ItR w' H l Y) : ItR (fun H R => w H R ∨ w' H R) H l Y := fun H1 g R q => .inr (h H1 g R q)

/-! ### comprehensions -/
/-- a turn of a comprehension's block: the target stored, the test, the element -/
def Turn1 (g : TG) (tt : TT) (te : TE) (vs : List Nat) (σ : L2.St) (x : V) (H : Hp) (b : Bool) (P : V → Hp → Prop) : Prop := ∀ R : L2.St → Hp → Prop,
  (∀ σ2 H5, Same H H5 → wipe σ2 vs = wipe σ vs → EvT (tt σ2) H5 b → (b = true → EvR (te σ2) H5 P) → R σ2 H5) → g x (wipe σ vs) H R
/-- a new list of values of which P holds, for the items of l -/
def NewL (H : Hp) (l : List α) (P : α → V → Hp → Prop) : V → Hp → Prop := fun v H2 => ∃ p ys, v = .ref p ∧ H p = none ∧ H2 p = some (.lst ys) ∧ Paired (fun a y => P a y H2) l ys
theorem paired_tm {F : α → V → Hp → Prop} (hP : ∀ a v H H', Tm H H' → F a v H → F a v H') (t : Tm H H') : ∀ {l : List α} {ys : List V}, Paired (fun a y => F a y H) l ys → Paired (fun a y => F a y H') l ys
  | _, _, .nil => .nil
  | _, _, .cons a b => .cons (hP _ _ _ _ t a) (paired_tm hP t b)
theorem paired_snoc {β : Type} {F : α → β → Prop} {a : α} {b : β} : ∀ {l : List α} {m : List β}, Paired F l m → F a b → Paired F (l ++ [a]) (m ++ [b])
  | _, _, .nil, h => .cons h .nil
  | _, _, .cons r t, h => .cons r (paired_snoc t h)
theorem ev_lc {wi : TI} {g : TG} {vs : List Nat} {l : List α} {Y : α → V → Hp → Prop} {f : α → Bool} {F : α → V → Hp → Prop} (hw : ItR (wi σ) H l Y) (hn : l.length ≤ sizeLine)
    (ht : ∀ a H3 x, a ∈ l → Fx H H3 → Y a x H3 → Turn1 g tt te vs σ x H3 (f a) (F a)) (hP : ∀ a v H H', Tm H H' → F a v H → F a v H') : EvR (tLc wi g tt te vs σ) H (NewL H (l.filter f) F) := fun H1 g1 Q q =>
  hw H1 g1 _ fun J H2 G Z s2 w hG hZ D hD => by
    refine lc_it w (fun i H' => ∃ acc, Same H2 H' ∧ H' D = some (.lst acc) ∧ Paired (fun a y => F a y H') ((l.take i).filter f) acc) ⟨[], same_new hD, upd_same, by rw [List.take_zero]; exact .nil⟩
      (fun i H' hi p => hG H' p.choose_spec.1) (fun i x H3 H4 hi p z => ?_) fun H' p => ?_
    · obtain ⟨acc, s3, hD3, pr⟩ := p
      have ha : l[i]? = some l[i] := List.getElem?_eq_getElem hi
      have ham : l[i] ∈ l := List.getElem_mem hi
      generalize l[i] = a at ha ham
      obtain ⟨s4, hy⟩ := hZ i a H3 x H4 ha s3 z
      have f4 : Fx H H4 := ((g1.same s2).same s3).same s4
      have tk : (l.take (i + 1)).filter f = (l.take i).filter f ++ (if f a then [a] else []) := by
        rw [List.take_add_one, ha, List.filter_append]
        congr 1
        show List.filter f [a] = _
        cases h : f a <;> simp [List.filter, h]
      have ln : acc.length < sizeLine := by
        have e1 := plen pr
        have e2 := List.length_filter_le f (l.take i)
        rw [List.length_take] at e2
        omega
      refine ht a H4 x ham f4 hy _ fun σ2 H5 s5 hwp et er => ⟨hwp, ?_⟩
      refine et.run fun H6 s6 => ?_
      have hD6 : H6 D = some (.lst acc) := s6 _ _ (s5 _ _ (s4 _ _ hD3))
      have s26 : Same H2 H6 := ((s3.trans s4).trans s5).trans s6
      have pr6 : Paired (fun a y => F a y H6) ((l.take i).filter f) acc := paired_tm hP (((Fx.of s4).same s5).same s6).tm pr
      cases hb : f a with
      | true =>
        refine ((er hb).mono (Fx.of s6)).run fun y H7 s7 py => ?_
        have hD7 := s7 _ _ hD6
        have t7 : Tm H7 (upd H7 D (.lst (acc ++ [y]))) := Tm.put hD7 (fun xs e => by cases e)
        refine ⟨acc, hD7, ln, acc ++ [y], fun b o e => ?_, upd_same, ?_⟩
        · rw [upd_ne (ne_of_none e hD)]
          exact s7 _ _ (s26 _ _ e)
        · rw [tk, hb]
          exact paired_snoc (paired_tm hP ((Fx.of s7).tm.trans t7) pr6) (hP _ _ _ _ t7 py)
      | false =>
        refine ⟨acc, s26, hD6, ?_⟩
        rw [tk, hb]
        show Paired _ (_ ++ []) _
        rw [List.append_nil]
        exact pr6
    · obtain ⟨acc, s3, hD3, pr⟩ := p
      rw [List.take_length] at pr
      refine q (.ref D) H' (s2.trans s3) ⟨D, acc, rfl, (g1.same s2).fresh hD, hD3, pr⟩
/-- targets -/
theorem tg_name {tt : TT} {te : TE} {vs : List Nat} {j : Nat} {P : V → Hp → Prop} (hw : wipe ((wipe σ vs).set j (some x)) vs = wipe σ vs) (h1 : EvT (tt ((wipe σ vs).set j (some x))) H b) (h2 : b = true → EvR (te ((wipe σ vs).set j (some x))) H P) :
    Turn1 (gName j) tt te vs σ x H b P := fun R q => q _ H (fun _ _ e => e) hw h1 h2
theorem tg_pair {tt : TT} {te : TE} {vs : List Nat} {i j : Nat} {a : Addr} {x y : V} {P : V → Hp → Prop} (ha : SqT K H a [x, y]) (hw : wipe (((wipe σ vs).set i (some x)).set j (some y)) vs = wipe σ vs)
    (h1 : EvT (tt (((wipe σ vs).set i (some x)).set j (some y))) H b) (h2 : b = true → EvR (te (((wipe σ vs).set i (some x)).set j (some y))) H P) :
    Turn1 (gTup K 2 (gCons (gName i) (gCons (gName j) gNil))) tt te vs σ (.ref a) H b P := fun R q => ⟨a, [x, y], rfl, ha, rfl, x, [y], rfl, y, [], rfl, rfl, q _ H (fun _ _ e => e) hw h1 h2⟩

/-! ### locks -/
def tLk (te : TE) : TE := fun σ H Q => te σ H Q ∨ tLockE te σ H Q
theorem pe_lk {X : Cx} {e : Expr} (h : PE X e te) : PE X e (tLk te) := ⟨fun pins s σ H Q I q => q.elim (fun q => h.run pins s σ H Q I q) fun q => (pe_lock h).run pins s σ H Q I q⟩
theorem ev_lk {d : Addr} {w : HO} (h : Rd H d w) (hw : isDct w = true) (mu : Mut (some w)) (hin : ∀ H1 od, Fx H H1 → H1 d = some (.frz od w) → EvR (te σ) H1 P)
    (st : ∀ H2 od v, H2 d = some (.frz od w) → P v H2 → P v (upd H2 d w)) : EvR (tLk te σ) H P := fun H1 g Q q => by
  rcases g.rd h with h1 | ⟨od, h1⟩
  · refine .inr ⟨d, w, h1, mu, fun od => ?_⟩
    have fl : Fx H1 (upd H1 d (.frz od w)) := fun a o e => by
      by_cases ea : a = d
      · subst ea
        rw [h1] at e
        cases e
        exact .inr ⟨hw, od, upd_same⟩
      · exact .inl (by rw [upd_ne ea]; exact e)
    refine hin _ od (g.trans fl) upd_same _ (Fx.refl _) _ fun v H2 s p => ?_
    have e2 : H2 d = some (.frz od w) := s _ _ upd_same
    refine ⟨e2, q v _ (fun a o e => ?_) (st H2 od v e2 p)⟩
    by_cases ea : a = d
    · subst ea
      rw [h1] at e
      cases e
      exact upd_same
    · rw [upd_ne ea]
      refine s _ _ ?_
      rw [upd_ne ea]
      exact e
  · exact .inl (hin H1 od g h1 H1 (Fx.refl _) Q q)
theorem unlock_tm {d : Addr} {od : Obj} {w : HO} (h : H d = some (.frz od w)) : Tm H (upd H d w) := Tm.put h (fun xs e => by cases e)
theorem st_newL {l : List α} {F : α → V → Hp → Prop} {d : Addr} {w : HO} (hw : isDct w = true) (hP : ∀ a v H H', Tm H H' → F a v H → F a v H') :
    ∀ H2 od v, H2 d = some (.frz od w) → NewL H l F v H2 → NewL H l F v (upd H2 d w) := fun H2 od v e ⟨p, ys, h1, h2, h3, h4⟩ =>
  ⟨p, ys, h1, h2, by rw [upd_ne (ne_of h3 e (fun z => by cases z))]; exact h3, paired_tm hP (unlock_tm e) h4⟩

/-! ### statements -/
def EvS (ts : TS) (σ : L2.St) (H : Hp) (N : L2.St → Hp → Prop) (P : V → Hp → Prop) : Prop := ∀ H1, Fx H H1 → ∀ D : Ends, (∀ σ' H2, Same H1 H2 → N σ' H2 → D.nx σ' H2) → (∀ v H2, Same H1 H2 → P v H2 → D.rt v H2) → ts D σ H1
variable {N N1 : L2.St → Hp → Prop} {t1 t2 : TS}
theorem EvS.mono (f : Fx H H') (h : EvS t1 σ H N P) : EvS t1 σ H' N P := fun H1 g D n r => h H1 (f.trans g) D n r
theorem es_seq (h1 : EvS t1 σ H N1 P) (h2 : ∀ σ' H2, Fx H H2 → N1 σ' H2 → EvS t2 σ' H2 N P) : EvS (tSeq t1 t2) σ H N P := fun H1 g D n r =>
  h1 H1 g _ (fun σ' H2 s p => h2 σ' H2 (g.same s) p H2 (Fx.refl H2) D (fun σ'' H3 s' => n σ'' H3 (s.trans s')) fun v H3 s' => r v H3 (s.trans s')) r
theorem es_asg {i : Nat} (h : EvR (te σ) H P1) (h2 : ∀ v H2, Fx H H2 → P1 v H2 → EvS t2 (σ.set i (some v)) H2 N P) : EvS (tSeq (tAsg te (gName i)) t2) σ H N P := fun H1 g D n r =>
  h H1 g _ fun v H2 s p => h2 v H2 (g.same s) p H2 (Fx.refl H2) D (fun σ'' H3 s' => n σ'' H3 (s.trans s')) fun v' H3 s' => r v' H3 (s.trans s')
theorem es_ret (h : EvR (te σ) H P) : EvS (tRet te) σ H N P := fun H1 g D n r => h H1 g _ r
theorem es_next (h : ∀ H', Fx H H' → N σ H') : EvS tNext σ H N P := fun H1 g D n r => n σ H1 (fun _ _ e => e) (h H1 g)
theorem es_if (h : EvT (t σ) H b) (h1 : b = true → EvS t1 σ H N P) (h2 : b = false → EvS t2 σ H N P) : EvS (tIfS t t1 t2) σ H N P := fun H1 g D n r => h H1 g _ fun H2 s => by
  cases b with
  | true => exact h1 rfl H2 (g.same s) D (fun σ'' H3 s' => n σ'' H3 (s.trans s')) fun v H3 s' => r v H3 (s.trans s')
  | false => exact h2 rfl H2 (g.same s) D (fun σ'' H3 s' => n σ'' H3 (s.trans s')) fun v H3 s' => r v H3 (s.trans s')
theorem es_drop (h : EvR (te σ) H P1) (h2 : ∀ v H2, Fx H H2 → P1 v H2 → EvS t2 σ H2 N P) : EvS (tSeq (tDrop te) t2) σ H N P := fun H1 g D n r =>
  h H1 g _ fun v H2 s p => h2 v H2 (g.same s) p H2 (Fx.refl H2) D (fun σ'' H3 s' => n σ'' H3 (s.trans s')) fun v' H3 s' => r v' H3 (s.trans s')
/-- a whole body -/
theorem EvS.body (h : EvS t1 σ H (fun _ H2 => P .non H2) P) {Q : VK} (q : ∀ v H2, Same H H2 → P v H2 → Q v H2) : t1 { nx := fun _ H' => Q .non H', rt := Q } σ H :=
  h H (Fx.refl H) _ (fun _ H2 s p => q .non H2 s p) q
end N88
/-! further rules: y = {..}, y = [..] under a lock, what may be walked, + of anything -/
namespace N88
open PySem L2 PySem.Spec PyProof.Rows
section
variable {X : Cx}
theorem ps_setDc {i : Nat} {y : Str} {py : Pos} {kx vx tg iter : Expr} {ifs : List Expr} {scope : Scope} {own : List (Str × Nat)} {pos spos : Pos} {wi : TI} {g : TG} {tt : TT} {tk tv : TE} (hc : X.calm = true) (hN : X.N.Nodup) (hy : X.N[i]? = some y)
    (hyl : X.env.scope.names.lookup y = some .local) (hsw : swapsWith (.DictComp kx vx [⟨tg, iter, ifs, 0⟩] scope pos) (some (.Name y py)) spos.line X.env = pure true) (hi : PI X tg iter wi) (ok : BlkOk X.N X.env.scope scope own)
    (hg : ∀ (s : Shared) (H : Hp) (C : Addr) (cl : List (Str × Addr)) (fp : List Addr), PG (X.blk s H scope (compEnvC scope cl C X.env) fp) tg g)
    (ht : ∀ (s : Shared) (H : Hp) (C : Addr) (cl : List (Str × Addr)) (fp : List Addr), PTs (X.blk s H scope (compEnvC scope cl C X.env) fp) ifs tt)
    (hk : ∀ (s : Shared) (H : Hp) (C : Addr) (cl : List (Str × Addr)) (fp : List Addr), PE (X.blk s H scope (compEnvC scope cl C X.env) fp) kx tk)
    (he : ∀ (s : Shared) (H : Hp) (C : Addr) (cl : List (Str × Addr)) (fp : List Addr), PE (X.blk s H scope (compEnvC scope cl C X.env) fp) vx tv) (hs : ∀ x, foldedSetIterable iter X.env x = pure x := by intro _; rfl) :
    PS X (.Assign [.Name y py] (.DictComp kx vx [⟨tg, iter, ifs, 0⟩] scope pos) spos) (tAsg (tDc wi g tt tk tv (own.map (·.2))) (gName i)) := by
  refine ⟨fun pins s σ H D I h => ?_⟩
  rw [exec_Assign_Name_used _ _ _ _ hsw]
  refine wpAny_bind (wpAny_standAt (wpAny_bind ?_))
  show wpAny _ X.A (do
    let _ ← comprehension (.DictComp kx vx [⟨tg, iter, ifs, 0⟩] scope pos) scope X.env (firstIterPos [⟨tg, iter, ifs, 0⟩] pos) newDict false (eval iter X.env) (some (assign (.Name y py) X.env))) _ _ s
  have h : tDc wi g tt tk tv (own.map (·.2)) σ H (fun x H1 => gName i x σ H1 D.nx) := h
  refine wpAny_bind (thn (dc_core (Qf := fun _ s' => SP X pins D .next s') hc hN I hi ok hg ht hk he hs h fun L C s' m H' I' q hn f => ?_) fun _ s' hq => wpAny_pure (wpAny_pure hq))
  show wpAny _ _ (assign (.Name y py) X.env (.ref L)) _ _ _
  refine wpAny_assign_Name (store_ok2 (v := V.ref L) I' hN hy (.inl hyl) rfl (fun s2 I2 w => ?_) (.inr hyl))
  obtain ⟨a, sb, ha⟩ := w
  obtain ⟨f0, f1, f2, f3, f4, f5⟩ := f
  have haC : C ≠ a := ha.elim (fun z => by rw [z]; exact f1) fun z e => f4 y a z e.symm
  exact ⟨m, hn.sameBut sb haC, fun h3 sb3 => ⟨_, H', I2.turned (t' := s2.toks) (fun b o hb e => Eq.trans (sb3.2 b hb) e) f0 f1 f3 f4 f5, q⟩⟩
theorem sw_trueD {kx vx : Expr} {gs : List Comprehension} {scope : Scope} {pos py : Pos} {y : Str} {l : Nat} {env : Env} (hk : env.scope.kind = .function) (hy : env.scope.names.lookup y = some .local) (hl : (py.line == pos.line) = true)
    (ha : (scope.names.any fun (n, k) => n == y && (k == .local || k == .cell)) = false) : swapsWith (.DictComp kx vx gs scope pos) (some (.Name y py)) l env = pure true := by
  have ky : env.kindOf y = some .local := hy
  have hb : env.blockKind = .function := by
    unfold Env.blockKind
    rw [hk]
    rfl
  unfold swapsWith
  simp only [hb, ky, ha, Expr.pos, hl]
  rfl
theorem pe_fldK {K' : PySem.W.Frag} {e : Expr} {f : Str} {pos : Pos} {ta : TE} (hK : X.K = K') (he : PE X e ta) (hb : attributeBase e f X.env (eval e X.env) = eval e X.env) : PE X (.Attribute e f pos) (tFld K' ta f) := by
  subst hK
  exact pe_fld he hb
/-- two names -/
theorem pg_pair {i j : Nat} {x y : Str} {px py pos : Pos} {k : Nat} (hc : X.calm = true) (hN : X.N.Nodup) (hi : X.N[i]? = some x) (hj : X.N[j]? = some y) (hx : Loc X.env.scope x) (hy : Loc X.env.scope y) (hfx : X.fn x = true ∨ X.env.scope.names.lookup x = some .local)
    (hfy : X.fn y = true ∨ X.env.scope.names.lookup y = some .local) (h1 : (assignEach [.Name x px, .Name y py] X.env).map (·.2) = assign (.Name x px) X.env :: (assignEach [.Name y py] X.env).map (·.2) := by rfl)
    (h2 : (assignEach [.Name y py] X.env).map (·.2) = assign (.Name y py) X.env :: (assignEach [] X.env).map (·.2) := by rfl) (hn : (assignEach [.Name x px, .Name y py] X.env).length = 2 := by rfl)
    (hst : (assignEach [.Name x px, .Name y py] X.env).findIdx? (·.1) = none := by rfl) : PG X (.Tuple [.Name x px, .Name y py] k pos) (gTup X.K 2 (gCons (gName i) (gCons (gName j) gNil))) :=
  pg_tup hc (pgs_cons (pg_name hN hi hx hfx) (pgs_cons (pg_name hN hj hy hfy) pgs_nil h2) h1) hn hst
/-- a statement under a lock, if it is not locked already -/
def tLkS (t : TS) : TS := fun D σ H => t D σ H ∨ tLock t D σ H
theorem ps_lk {st : Stmt} {t : TS} (h : PS X st t) : PS X st (tLkS t) := ⟨fun pins s σ H D I q => q.elim (fun q => h.run pins s σ H D I q) fun q => (ps_lock h).run pins s σ H D I q⟩
theorem pe_or2 {e : Expr} {t1 t2 : TE} (h1 : PE X e t1) (h2 : PE X e t2) : PE X e (fun σ H Q => t1 σ H Q ∨ t2 σ H Q) := ⟨fun pins s σ H Q I q => q.elim (h1.run pins s σ H Q I) (h2.run pins s σ H Q I)⟩
theorem pi_or2 {tg e : Expr} {t1 t2 : TI} (h1 : PI X tg e t1) (h2 : PI X tg e t2) : PI X tg e (fun σ H Q => t1 σ H Q ∨ t2 σ H Q) := ⟨fun pins s σ H Q I q => q.elim (h1.run pins s σ H Q I) (h2.run pins s σ H Q I)⟩
def iAny (K : PySem.W.Frag) (te : TE) : TI := fun σ H R => iList K te σ H R ∨ (iTup K te σ H R ∨ (iStr te σ H R ∨ iKeys te σ H R))
theorem pi_any {tg e : Expr} {te : TE} (h : PE X e te) : PI X tg e (iAny X.K te) := pi_or2 (pi_list h) (pi_or2 (pi_tup h) (pi_or2 (pi_str h) (pi_keys h)))
/-- + of ints, lists, tuples -/
def rAddU (K : PySem.W.Frag) : R2 := fun x y H Q => rI0 (fun i j => .int (i + j)) x y H Q ∨ (rCat x y H Q ∨ rCatA K x y H Q)
theorem op_addU : OpR X (binaryOp .Add) (rAddU X.K) := op_add.or (op_cat.or op_catA)
/-- < of ints -/
abbrev rLtU : R2 := rI0 fun i j => .bl (decide (i < j))
/-! the same rules with the written part by its name (for a comprehension's block) -/
variable {K' : PySem.W.Frag}
theorem k_eqD (hK : X.K = K') (hu : X.A.units + 64 < cLine) : OpR X (compareOp .Eq) (rEqD K') := hK ▸ op_eqD hu
theorem k_neD (hK : X.K = K') (hu : X.A.units + 64 < cLine) : OpR X (compareOp .NotEq) (rNeD K') := hK ▸ op_neD hu
theorem k_in (hK : X.K = K') : OpR X (compareOp .In) (rIn K' false) := hK ▸ op_in_seq
theorem k_notIn (hK : X.K = K') : OpR X (compareOp .NotIn) (rIn K' true) := hK ▸ op_notIn_seq
theorem k_addU (hK : X.K = K') : OpR X (binaryOp .Add) (rAddU K') := hK ▸ op_addU
theorem k_isi (hK : X.K = K') : CallR X (.builtin "isinstance") (fun xs H Q => rIsi K' xs H Q ∨ rIsiT K' xs H Q) := hK ▸ call_isi.or call_isiT
theorem k_all (hK : X.K = K') (hc : X.calm = true) : CallR X (.builtin "all") (rAll K') := hK ▸ cr_all hc
theorem k_any (hK : X.K = K') (hc : X.calm = true) : CallR X (.builtin "any") (rAny K') := hK ▸ cr_any hc
theorem k_max (hK : X.K = K') (hc : X.calm = true) : CallR X (.builtin "max") (rMax K') := hK ▸ cr_max hc
def rLenU (K : PySem.W.Frag) : List V → Hp → VK → Prop := fun xs H Q => ∃ x n, xs = [x] ∧ LenV K x H n ∧ Q (.int (n : Nat)) H
theorem k_len (hK : X.K = K') : CallR X (.builtin "len") (rLenU K') := by
  subst hK
  exact call_len
def rIxU (K : PySem.W.Frag) : R2 := fun x y H Q => rIxL K x y H Q ∨ rIxT K x y H Q
theorem k_ix (hK : X.K = K') : IxR X (rIxU K') := by
  subst hK
  exact ix_list.or ix_tup
def rSlU (K : PySem.W.Frag) : V → Option Int → Option Int → Hp → VK → Prop := fun x lo hi H Q => rSlL K x lo hi H Q ∨ rSlA K x lo hi H Q
theorem k_sl (hK : X.K = K') : SlR X (rSlU K') := by
  subst hK
  exact sl_list.or sl_tupA
def rTupU (K : PySem.W.Frag) : List V → Hp → VK → Prop := fun xs H Q => ∃ p ys, xs = [.ref p] ∧ ((SqL K H p ys ∧ ∀ l, H l = none → Q (.ref l) (upd H l (.tup ys))) ∨ (SqT K H p ys ∧ Q (.ref p) H))
theorem k_tuple (hK : X.K = K') : CallR X (.type "tuple") (rTupU K') := by
  subst hK
  exact call_tuple_of
def rLstU (K : PySem.W.Frag) : List V → Hp → VK → Prop := fun xs H Q => (∃ p ys, xs = [.ref p] ∧ (SqL K H p ys ∨ SqT K H p ys) ∧ ∀ l, H l = none → Q (.ref l) (upd H l (.lst ys))) ∨ rListD xs H Q
theorem k_list (hK : X.K = K') (hc : X.calm = true) : CallR X (.type "list") (rLstU K') := by
  subst hK
  exact call_list_of.or (call_list_dK hc)
def rSortedKD : List V → Hp → VK → Prop := fun xs H Q => ∃ (a : Addr) (kvs : List (L2.Key × V)) (ks : List Str), xs = [.ref a] ∧ Rd H a (.dK kvs) ∧ kvs.map (·.1) = ks.map Sum.inr ∧ ks.length < 64 ∧
    ∀ ys p, ys.Perm ks → sortedS ys = true → H p = none → Q (.ref p) (upd H p (.lst (ys.map V.str)))
def rSortedU (K : PySem.W.Frag) : List V → Hp → VK → Prop := fun xs H Q => rSortedPO K xs H Q ∨ (rSortedDT xs H Q ∨ (rSortedKD xs H Q ∨ rSortedS K xs H Q))
theorem k_sorted (hK : X.K = K') (hc : X.calm = true) : CallR X (.builtin "sorted") (rSortedU K') := by
  subst hK
  exact cr_sortedPO.or ((cr_sortedDT hc).or ((call_sortedD hc).or cr_sortedS))
theorem k_piAny {tg e : Expr} {te : TE} (hK : X.K = K') (h : PE X e te) : PI X tg e (iAny K' te) := hK ▸ pi_any h
theorem k_zip {e e2 : Expr} {ta : TA} {p pos tpos : Pos} {elts : List Expr} {kk : Nat} (hK : X.K = K') (hg : Gl X "zip") (hm : X.mg "zip" = none) (ha : PA X [e, e2] ta)
    (hs : starEach [e, e2] X.env = (false, eval e X.env) :: starEach [e2] X.env := by rfl) (hpl : (backTo pos (starEach [e2] X.env)).any (·.1) = false := by rfl) :
    PI X (.Tuple elts kk tpos) (.Call (.Name "zip" p) [e, e2] [] pos) (RZ.iZipA K' ta) := by
  subst hK
  exact RZ.pi_zipA hg hm ha hs hpl
theorem k_enum {e : Expr} {ta : TA} {p pos tpos : Pos} {elts : List Expr} {kk : Nat} (hK : X.K = K') (hg : Gl X "enumerate") (hm : X.mg "enumerate" = none) (ha : PA X [e] ta) (hs : starEach [e] X.env = [(false, eval e X.env)] := by rfl) :
    PI X (.Tuple elts kk tpos) (.Call (.Name "enumerate" p) [e] [] pos) (iEnum K' ta) := by
  subst hK
  exact pi_enum hg hm ha hs
theorem k_pair {i j : Nat} {x y : Str} {px py pos : Pos} {k : Nat} (hK : X.K = K') (hc : X.calm = true) (hN : X.N.Nodup) (hi : X.N[i]? = some x) (hj : X.N[j]? = some y) (hx : Loc X.env.scope x) (hy : Loc X.env.scope y) (hfx : X.fn x = true ∨ X.env.scope.names.lookup x = some .local)
    (hfy : X.fn y = true ∨ X.env.scope.names.lookup y = some .local) (h1 : (assignEach [.Name x px, .Name y py] X.env).map (·.2) = assign (.Name x px) X.env :: (assignEach [.Name y py] X.env).map (·.2) := by rfl)
    (h2 : (assignEach [.Name y py] X.env).map (·.2) = assign (.Name y py) X.env :: (assignEach [] X.env).map (·.2) := by rfl) (hn : (assignEach [.Name x px, .Name y py] X.env).length = 2 := by rfl)
    (hst : (assignEach [.Name x px, .Name y py] X.env).findIdx? (·.1) = none := by rfl) : PG X (.Tuple [.Name x px, .Name y py] k pos) (gTup K' 2 (gCons (gName i) (gCons (gName j) gNil))) := by
  subst hK
  exact pg_pair hc hN hi hj hx hy hfx hfy h1 h2 hn hst
theorem k_append (hK : X.K = K') : MtM X "list.append" rAppend := mt_append
/-- a built-in's method -/
theorem k_bm {o e : Expr} {es : List Expr} {to : TE} {t : L2.TA} {name : Str} {apos cpos : Pos} {T id : String} {r : V → List V → Hp → VK → Prop} (hK : X.K = K') (pa : PlainAttrs T) (slot : Slot T name id) (hty : typeOf (.builtin id) = pure (.type "method_descriptor")) (hm : MtR X id r) (ho : PE X o to) (ha : PA X (e :: es) t)
    (hbase : attributeBase o name X.env (eval o X.env) = eval o X.env := by rfl)
    (hfew : ((backTo cpos (starEach (e :: es) X.env)).all (fun x => !x.1) && (backToKw cpos (keywordEach [] X.env)).all (fun x => x.1.isSome)
      && decide ((e :: es).length + ([] : List Keyword).length + (if ([] : List Keyword).isEmpty then 0 else 1) < 30)) = true := by rfl)
    (hline : (apos.endLine == cpos.line) = true := by rfl) (hs : starEach (e :: es) X.env = (false, eval e X.env) :: starEach es X.env := by rfl) (hplain : (backTo cpos (starEach es X.env)).any (·.1) = false := by rfl) :
    PE X (.Call (.Attribute o name apos) (e :: es) [] cpos) (tBM K' T r to t) := by
  subst hK
  exact pe_bm pa slot hty hm ho ha hbase hfew hline hs hplain
variable {P' : Program} {w' : World}
def rDictU (P : Program) (w : World) (K : PySem.W.Frag) : List V → Hp → VK → Prop := fun xs H Q => rDictT P w xs H Q ∨ ((∃ (a : Addr) (ps : List Addr) (kvs : List (L2.Key × V)), xs = [.ref a] ∧ SqL K H a (ps.map V.ref) ∧ Paired (fun p kv => SqT K H p [kV kv.1, kv.2]) ps kvs ∧
    ∀ p, H p = none → Q (.ref p) (upd H p (.dK (mergeK [] kvs)))) ∨ rDictPrT K xs H Q)
theorem k_dict (hP : X.prog = P') (hw : X.w = w') (hK : X.K = K') (hc : X.calm = true) (hu : X.A.units + 64 < cLine) : CallR X (.type "dict") (rDictU P' w' K') := by
  subst hP hw hK
  exact (call_dictT hu).or ((call_dictP hc).or (call_dictPrT hc hu))
theorem k_upd (hP : X.prog = P') (hw : X.w = w') (hu : X.A.units + 64 < cLine) : MtR X "dict.update" (rUpdT P' w') := by
  subst hP hw
  exact mt_updT hu
end
variable {K : PySem.W.Frag} {H H' : Hp} {σ : L2.St} {P P' P1 P2 : V → Hp → Prop} {te : TE} {N : L2.St → Hp → Prop} {t2 : TS}
theorem es_lkAsg {i : Nat} {d : Addr} {w : HO} (h : Rd H d w) (hw : isDct w = true) (mu : Mut (some w)) (hin : ∀ H1 od, Fx H H1 → H1 d = some (.frz od w) → EvR (te σ) H1 P1)
    (st : ∀ H2 od v, H2 d = some (.frz od w) → P1 v H2 → P1 v (upd H2 d w)) (h2 : ∀ v H2, Fx H H2 → P1 v H2 → EvS t2 (σ.set i (some v)) H2 N P) : EvS (tSeq (tLkS (tAsg te (gName i))) t2) σ H N P := fun H1 g D n r => by
  rcases g.rd h with h1 | ⟨od, h1⟩
  · refine .inr ⟨d, w, h1, mu, fun od => ?_⟩
    have fl : Fx H1 (upd H1 d (.frz od w)) := fun a o e => by
      by_cases ea : a = d
      · subst ea
        rw [h1] at e
        cases e
        exact .inr ⟨hw, od, upd_same⟩
      · exact .inl (by rw [upd_ne ea]; exact e)
    refine hin _ od (g.trans fl) upd_same _ (Fx.refl _) _ fun v H2 s p => ?_
    have e2 : H2 d = some (.frz od w) := s _ _ upd_same
    refine ⟨e2, ?_⟩
    have s2 : Same H1 (upd H2 d w) := fun a o e => by
      by_cases ea : a = d
      · subst ea
        rw [h1] at e
        cases e
        exact upd_same
      · rw [upd_ne ea]
        refine s _ _ ?_
        rw [upd_ne ea]
        exact e
    exact h2 v _ (g.same s2) (st H2 od v e2 p) _ (Fx.refl _) D (fun σ'' H3 s' => n σ'' H3 (s2.trans s')) fun v' H3 s' => r v' H3 (s2.trans s')
  · refine .inl (hin H1 od g h1 H1 (Fx.refl _) _ fun v H2 s p => ?_)
    exact h2 v H2 (g.same s) p H2 (Fx.refl H2) D (fun σ'' H3 s' => n σ'' H3 (s.trans s')) fun v' H3 s' => r v' H3 (s.trans s')
end N88
/-! marks: how many there can be, their hashes -/
namespace N88
open PySem L2 PySem.Spec
/-- a mark's range -/
def InR (p : PI2) : Prop := (0 ≤ p.1 ∧ p.1 ≤ 8) ∧ 0 ≤ p.2 ∧ p.2 < 64
def grid : List PI2 := (List.range 9).flatMap fun (i : Nat) => (List.range 64).map fun (j : Nat) => ((i : Int), (j : Int))
theorem mem_grid {p : PI2} (h : InR p) : p ∈ grid := by
  obtain ⟨⟨a1, a2⟩, b1, b2⟩ := h
  refine List.mem_flatMap.mpr ⟨p.1.toNat, List.mem_range.mpr (by omega), List.mem_map.mpr ⟨p.2.toNat, List.mem_range.mpr (by omega), ?_⟩⟩
  exact Prod.ext (by show ((p.1.toNat : Nat) : Int) = p.1; omega) (by show ((p.2.toNat : Nat) : Int) = p.2; omega)
theorem nodup_le {α : Type} [DecidableEq α] : ∀ {l m : List α}, l.Nodup → (∀ x ∈ l, x ∈ m) → l.length ≤ m.length
  | [], _, _, _ => Nat.zero_le _
  | x :: l, m, h, s => by
    obtain ⟨h1, h2⟩ := List.nodup_cons.mp h
    have hx := s x List.mem_cons_self
    have e := nodup_le (m := m.erase x) h2 fun y hy => (List.mem_erase_of_ne fun z : y = x => h1 (by rw [← z]; exact hy)).mpr (s y (List.mem_cons_of_mem _ hy))
    have e2 := List.length_erase_of_mem hx
    have e3 := List.length_pos_of_mem hx
    rw [List.length_cons]
    omega
theorem marks_le {l : List PI2} (h : l.Nodup) (r : ∀ p ∈ l, InR p) : l.length ≤ 576 := Nat.le_trans (nodup_le h fun p hp => mem_grid (r p hp)) (by decide +kernel)
def hP (p : PI2) : Int := hInts [p.1, p.2]
/-- no two leave the same rest by m: their rests are marked in the bits of a number -/
def bitsOk (m : Nat) : List Int → Nat → Bool
  | [], _ => true
  | h :: r, acc => if Nat.testBit acc (h % (m : Int)).toNat then false else bitsOk m r (acc ||| 1 <<< (h % (m : Int)).toNat)
theorem bitsOk_nd {m : Nat} : ∀ {l : List Int} {acc : Nat}, bitsOk m l acc = true → l.Nodup ∧ ∀ h ∈ l, Nat.testBit acc (h % (m : Int)).toNat = false
  | [], _, _ => ⟨List.nodup_nil, fun _ h => nomatch h⟩
  | h :: r, acc, e => by
    unfold bitsOk at e
    cases hb : Nat.testBit acc (h % (m : Int)).toNat with
    | true =>
      rw [hb] at e
      cases e
    | false =>
      rw [hb] at e
      obtain ⟨h1, h2⟩ := bitsOk_nd (l := r) e
      have h3 : ∀ x ∈ r, Nat.testBit acc (x % (m : Int)).toNat = false ∧ (x % (m : Int)).toNat ≠ (h % (m : Int)).toNat := fun x hx => by
        have q := h2 x hx
        rw [Nat.testBit_or, Bool.or_eq_false_iff] at q
        refine ⟨q.1, fun z => ?_⟩
        have q2 := q.2
        rw [z, Nat.testBit_shiftLeft] at q2
        simp at q2
      refine ⟨List.nodup_cons.mpr ⟨fun hx => (h3 h hx).2 rfl, h1⟩, fun x hx => ?_⟩
      rcases List.mem_cons.mp hx with z | z
      · rw [z]
        exact hb
      · exact (h3 x z).1
theorem hash_nd : (grid.map hP).Nodup := (bitsOk_nd (m := 3020) (acc := 0) (by decide +kernel)).1
theorem inj_of_nd {α β : Type} {f : α → β} : ∀ {l : List α}, (l.map f).Nodup → ∀ {x y : α}, x ∈ l → y ∈ l → f x = f y → x = y
  | [], _, _, _, hx, _, _ => nomatch hx
  | a :: l, h, x, y, hx, hy, e => by
    obtain ⟨h1, h2⟩ := List.nodup_cons.mp h
    rcases List.mem_cons.mp hx with zx | zx
    · rcases List.mem_cons.mp hy with zy | zy
      · rw [zx, zy]
      · subst zx
        exact absurd (e ▸ List.mem_map_of_mem zy) h1
    · rcases List.mem_cons.mp hy with zy | zy
      · subst zy
        exact absurd (e ▸ List.mem_map_of_mem zx) h1
      · exact inj_of_nd h2 zx zy e
theorem nd_map {α β : Type} {f : α → β} : ∀ {l : List α}, l.Nodup → (∀ x ∈ l, ∀ y ∈ l, f x = f y → x = y) → (l.map f).Nodup
  | [], _, _ => List.nodup_nil
  | a :: l, h, i => by
    obtain ⟨h1, h2⟩ := List.nodup_cons.mp h
    refine List.nodup_cons.mpr ⟨fun hx => ?_, nd_map h2 fun x hx y hy => i x (List.mem_cons_of_mem _ hx) y (List.mem_cons_of_mem _ hy)⟩
    obtain ⟨b, hb, e⟩ := List.mem_map.mp hx
    exact h1 ((i b (List.mem_cons_of_mem _ hb) a List.mem_cons_self e) ▸ hb)
theorem th_nd {P : Program} {w : World} {l : List PI2} (h : l.Nodup) (r : ∀ p ∈ l, InR p) : (l.map fun p => TH P w (pk p)).Nodup := by
  have e : (fun p => TH P w (pk p)) = hP := by
    funext p
    exact hash_ints [p.1, p.2]
  rw [e]
  exact nd_map h fun x hx y hy => inj_of_nd hash_nd (mem_grid (r x hx)) (mem_grid (r y hy))
/-! ### the words -/
def labels8 : List Str := ["a", "b", "bread", "milk", "zz", "abcdefgh", "seal", "sign"]
def lowS (c : Nat) : Bool := (!decide (([c] : List Nat) < [97])) && (!decide (([122] : List Nat) < [c]))
structure LabOk (z : Str) : Prop where
  lo : 1 ≤ z.length
  hi : z.length ≤ 8
  own : inV (.str z) [.str "signed", .str "sealed", .str "secret"] = false
  low : z.cps.toList.all lowS = true
  sh : SeqAt.shaped (.str z) = true
def labB (z : Str) : Bool := decide (1 ≤ z.length) && decide (z.length ≤ 8) && !inV (.str z) [.str "signed", .str "sealed", .str "secret"] && z.cps.toList.all lowS && SeqAt.shaped (.str z)
theorem labOk_of {z : Str} (h : labB z = true) : LabOk z := by
  unfold labB at h
  simp only [Bool.and_eq_true, decide_eq_true_eq, Bool.not_eq_true'] at h
  exact ⟨h.1.1.1.1, h.1.1.1.2, h.1.1.2, h.1.2, h.2⟩
theorem lab8 : ∀ z ∈ labels8, LabOk z := by
  have h : labels8.all labB = true := by decide +kernel
  exact fun z hz => labOk_of (List.all_eq_true.mp h z hz)
theorem eqv_str {x y : Str} : PyData.eqv (.str x) (.str y) = decide (x = y) := by
  rw [PyData.eqv]
  by_cases e : x = y
  · subst e
    simp
  · rw [decide_eq_false e]
    exact beq_eq_false_iff_ne.mpr e
theorem eqv_int {x y : Int} : PyData.eqv (.int x) (.int y) = decide (x = y) := by
  rw [PyData.eqv]
  by_cases e : x = y
  · subst e
    simp
  · rw [decide_eq_false e]
    exact beq_eq_false_iff_ne.mpr e
theorem shaped_int {x : Int} : SeqAt.shaped (.int x) = true := rfl
theorem shaped_bool {x : Bool} : SeqAt.shaped (.bool x) = true := rfl
end N88
/-! the text by places, its facts, the small defs -/
namespace N88
open PySem L2 PySem.Spec
def topS (i : Nat) : Stmt := PySem.Challenge.pw_strandpost_k93_whole_notebooks_in_any_or.main.body.getD i (.Pass ⟨0, 0, 0, 0⟩)
abbrev s_is_integer : Stmt := topS 2
abbrev n_is_integer : List Str := ["thing"]
abbrev p_is_integer : List Str := ["thing"]
theorem sc_is_integer : FnScope n_is_integer p_is_integer (defScope s_is_integer) := ⟨rfl, rfl, rfl, by decide +kernel, rfl, by decide +kernel, by decide +kernel⟩
abbrev s_is_within : Stmt := topS 3
abbrev n_is_within : List Str := ["thing", "least", "most"]
abbrev p_is_within : List Str := ["thing", "least", "most"]
theorem sc_is_within : FnScope n_is_within p_is_within (defScope s_is_within) := ⟨rfl, rfl, rfl, by decide +kernel, rfl, by decide +kernel, by decide +kernel⟩
abbrev s_is_label : Stmt := topS 15
abbrev n_is_label : List Str := ["thing", "sign"]
abbrev p_is_label : List Str := ["thing"]
theorem sc_is_label : FnScope n_is_label p_is_label (defScope s_is_label) := ⟨rfl, rfl, rfl, by decide +kernel, rfl, by decide +kernel, by decide +kernel⟩
abbrev s_check_writer : Stmt := topS 18
abbrev n_check_writer : List Str := ["thing"]
abbrev p_check_writer : List Str := ["thing"]
theorem sc_check_writer : FnScope n_check_writer p_check_writer (defScope s_check_writer) := ⟨rfl, rfl, rfl, by decide +kernel, rfl, by decide +kernel, by decide +kernel⟩
abbrev s_check_label : Stmt := topS 19
abbrev n_check_label : List Str := ["thing"]
abbrev p_check_label : List Str := ["thing"]
theorem sc_check_label : FnScope n_check_label p_check_label (defScope s_check_label) := ⟨rfl, rfl, rfl, by decide +kernel, rfl, by decide +kernel, by decide +kernel⟩
abbrev s_check_notebook : Stmt := topS 20
abbrev n_check_notebook : List Str := ["thing"]
abbrev p_check_notebook : List Str := ["thing"]
theorem sc_check_notebook : FnScope n_check_notebook p_check_notebook (defScope s_check_notebook) := ⟨rfl, rfl, rfl, by decide +kernel, rfl, by decide +kernel, by decide +kernel⟩
abbrev s_Notebookd__initd_ : Stmt := inClass (topS 21) 0
abbrev n_Notebookd__initd_ : List Str := ["self", "writer"]
abbrev p_Notebookd__initd_ : List Str := ["self", "writer"]
theorem sc_Notebookd__initd_ : FnScope n_Notebookd__initd_ p_Notebookd__initd_ (defScope s_Notebookd__initd_) := ⟨rfl, rfl, rfl, by decide +kernel, rfl, by decide +kernel, by decide +kernel⟩
abbrev s_Notebook_add : Stmt := inClass (topS 21) 1
abbrev n_Notebook_add : List Str := ["self", "word", "own", "mark", "writer", "number"]
abbrev p_Notebook_add : List Str := ["self", "word"]
theorem sc_Notebook_add : FnScope n_Notebook_add p_Notebook_add (defScope s_Notebook_add) := ⟨rfl, rfl, rfl, by decide +kernel, rfl, by decide +kernel, by decide +kernel⟩
abbrev s_Notebook_raw_marks : Stmt := inClass (topS 21) 3
abbrev n_Notebook_raw_marks : List Str := ["self", "word", "mark", "other"]
abbrev p_Notebook_raw_marks : List Str := ["self", "word"]
theorem sc_Notebook_raw_marks : FnScope n_Notebook_raw_marks p_Notebook_raw_marks (defScope s_Notebook_raw_marks) := ⟨rfl, rfl, rfl, by decide +kernel, rfl, by decide +kernel, by decide +kernel⟩
abbrev s_Notebook_drop : Stmt := inClass (topS 21) 4
abbrev n_Notebook_drop : List Str := ["self", "word", "marks", "mark"]
abbrev p_Notebook_drop : List Str := ["self", "word"]
theorem sc_Notebook_drop : FnScope n_Notebook_drop p_Notebook_drop (defScope s_Notebook_drop) := ⟨rfl, rfl, rfl, by decide +kernel, rfl, by decide +kernel, by decide +kernel⟩
abbrev s_Notebook_all_words : Stmt := inClass (topS 21) 5
abbrev n_Notebook_all_words : List Str := ["self", "found", "mark", "word"]
abbrev p_Notebook_all_words : List Str := ["self"]
theorem sc_Notebook_all_words : FnScope n_Notebook_all_words p_Notebook_all_words (defScope s_Notebook_all_words) := ⟨rfl, rfl, rfl, by decide +kernel, rfl, by decide +kernel, by decide +kernel⟩
abbrev s_Notebook_marks_of : Stmt := inClass (topS 21) 6
abbrev n_Notebook_marks_of : List Str := ["self", "word"]
abbrev p_Notebook_marks_of : List Str := ["self", "word"]
theorem sc_Notebook_marks_of : FnScope n_Notebook_marks_of p_Notebook_marks_of (defScope s_Notebook_marks_of) := ⟨rfl, rfl, rfl, by decide +kernel, rfl, by decide +kernel, by decide +kernel⟩
abbrev s_Notebook_meet : Stmt := inClass (topS 21) 7
abbrev n_Notebook_meet : List Str := ["self", "other"]
abbrev p_Notebook_meet : List Str := ["self", "other"]
theorem sc_Notebook_meet : FnScope n_Notebook_meet p_Notebook_meet (defScope s_Notebook_meet) := ⟨rfl, rfl, rfl, by decide +kernel, rfl, by decide +kernel, by decide +kernel⟩
abbrev s_Notebook_knows : Stmt := inClass (topS 21) 8
abbrev n_Notebook_knows : List Str := ["self", "other", "mark"]
abbrev p_Notebook_knows : List Str := ["self", "other"]
theorem sc_Notebook_knows : FnScope n_Notebook_knows p_Notebook_knows (defScope s_Notebook_knows) := ⟨rfl, rfl, rfl, by decide +kernel, rfl, by decide +kernel, by decide +kernel⟩
abbrev s_Notebook_all_told : Stmt := inClass (topS 21) 9
abbrev n_Notebook_all_told : List Str := ["self", "known", "mark"]
abbrev p_Notebook_all_told : List Str := ["self"]
theorem sc_Notebook_all_told : FnScope n_Notebook_all_told p_Notebook_all_told (defScope s_Notebook_all_told) := ⟨rfl, rfl, rfl, by decide +kernel, rfl, by decide +kernel, by decide +kernel⟩
abbrev s_Notebook_copy : Stmt := inClass (topS 21) 10
abbrev n_Notebook_copy : List Str := ["self", "writer", "found"]
abbrev p_Notebook_copy : List Str := ["self", "writer"]
theorem sc_Notebook_copy : FnScope n_Notebook_copy p_Notebook_copy (defScope s_Notebook_copy) := ⟨rfl, rfl, rfl, by decide +kernel, rfl, by decide +kernel, by decide +kernel⟩
abbrev s_law_draw : Stmt := topS 23
abbrev n_law_draw : List Str := ["hand", "span", "cell", "digit", "number"]
abbrev p_law_draw : List Str := ["hand", "span"]
theorem sc_law_draw : FnScope n_law_draw p_law_draw (defScope s_law_draw) := ⟨rfl, rfl, rfl, by decide +kernel, rfl, by decide +kernel, by decide +kernel⟩
abbrev s_law_some : Stmt := topS 24
abbrev n_law_some : List Str := ["hand", "things"]
abbrev p_law_some : List Str := ["hand", "things"]
theorem sc_law_some : FnScope n_law_some p_law_some (defScope s_law_some) := ⟨rfl, rfl, rfl, by decide +kernel, rfl, by decide +kernel, by decide +kernel⟩
abbrev s_law_mixed : Stmt := topS 25
abbrev n_law_mixed : List Str := ["hand", "things", "left", "found"]
abbrev p_law_mixed : List Str := ["hand", "things"]
theorem sc_law_mixed : FnScope n_law_mixed p_law_mixed (defScope s_law_mixed) := ⟨rfl, rfl, rfl, by decide +kernel, rfl, by decide +kernel, by decide +kernel⟩
abbrev s_law_is : Stmt := topS 26
abbrev n_law_is : List Str := ["thing", "owed", "one", "other"]
abbrev p_law_is : List Str := ["thing", "owed"]
theorem sc_law_is : FnScope n_law_is p_law_is (defScope s_law_is) := ⟨rfl, rfl, rfl, by decide +kernel, rfl, by decide +kernel, by decide +kernel⟩
abbrev s_law_hand : Stmt := topS 27
abbrev n_law_hand : List Str := ["script", "cells", "cell"]
abbrev p_law_hand : List Str := ["script"]
theorem sc_law_hand : FnScope n_law_hand p_law_hand (defScope s_law_hand) := ⟨rfl, rfl, rfl, by decide +kernel, rfl, by decide +kernel, by decide +kernel⟩
abbrev s_law_deep : Stmt := topS 28
abbrev n_law_deep : List Str := ["hand", "thing", "turn"]
abbrev p_law_deep : List Str := ["hand"]
theorem sc_law_deep : FnScope n_law_deep p_law_deep (defScope s_law_deep) := ⟨rfl, rfl, rfl, by decide +kernel, rfl, by decide +kernel, by decide +kernel⟩
abbrev s_law_book : Stmt := topS 29
abbrev n_law_book : List Str := ["writer"]
abbrev p_law_book : List Str := ["writer"]
theorem sc_law_book : FnScope n_law_book p_law_book (defScope s_law_book) := ⟨rfl, rfl, rfl, by decide +kernel, rfl, by decide +kernel, by decide +kernel⟩
abbrev s_law_next : Stmt := topS 30
abbrev n_law_next : List Str := ["book", "numbers", "writer", "number"]
abbrev p_law_next : List Str := ["book"]
theorem sc_law_next : FnScope n_law_next p_law_next (defScope s_law_next) := ⟨rfl, rfl, rfl, by decide +kernel, rfl, by decide +kernel, by decide +kernel⟩
abbrev s_law_standing : Stmt := topS 31
abbrev n_law_standing : List Str := ["book", "word", "some", "mark"]
abbrev p_law_standing : List Str := ["book", "word"]
theorem sc_law_standing : FnScope n_law_standing p_law_standing (defScope s_law_standing) := ⟨rfl, rfl, rfl, by decide +kernel, rfl, by decide +kernel, by decide +kernel⟩
abbrev s_law_words : Stmt := topS 32
abbrev n_law_words : List Str := ["book", "marks", "dropped", "found", "mark"]
abbrev p_law_words : List Str := ["book"]
theorem sc_law_words : FnScope n_law_words p_law_words (defScope s_law_words) := ⟨rfl, rfl, rfl, by decide +kernel, rfl, by decide +kernel, by decide +kernel⟩
abbrev s_law_met : Stmt := topS 33
abbrev n_law_met : List Str := ["book", "other", "marks", "dropped"]
abbrev p_law_met : List Str := ["book", "other"]
theorem sc_law_met : FnScope n_law_met p_law_met (defScope s_law_met) := ⟨rfl, rfl, rfl, by decide +kernel, rfl, by decide +kernel, by decide +kernel⟩
abbrev s_law_knows : Stmt := topS 34
abbrev n_law_knows : List Str := ["book", "other", "mark"]
abbrev p_law_knows : List Str := ["book", "other"]
theorem sc_law_knows : FnScope n_law_knows p_law_knows (defScope s_law_knows) := ⟨rfl, rfl, rfl, by decide +kernel, rfl, by decide +kernel, by decide +kernel⟩
abbrev s_law_labels : Stmt := topS 35
abbrev n_law_labels : List Str := ["hand", "some"]
abbrev p_law_labels : List Str := ["hand"]
theorem sc_law_labels : FnScope n_law_labels p_law_labels (defScope s_law_labels) := ⟨rfl, rfl, rfl, by decide +kernel, rfl, by decide +kernel, by decide +kernel⟩
abbrev s_law_is_shown : Stmt := topS 36
abbrev n_law_is_shown : List Str := ["notebook", "book", "labels", "word"]
abbrev p_law_is_shown : List Str := ["notebook", "book", "labels"]
theorem sc_law_is_shown : FnScope n_law_is_shown p_law_is_shown (defScope s_law_is_shown) := ⟨rfl, rfl, rfl, by decide +kernel, rfl, by decide +kernel, by decide +kernel⟩
abbrev s_law_deed : Stmt := topS 37
abbrev n_law_deed : List Str := ["hand", "notebooks", "books", "labels", "at", "to", "kind", "notebook", "book", "word", "mark", "marks", "dropped"]
abbrev p_law_deed : List Str := ["hand", "notebooks", "books", "labels"]
theorem sc_law_deed : FnScope n_law_deed p_law_deed (defScope s_law_deed) := ⟨rfl, rfl, rfl, by decide +kernel, rfl, by decide +kernel, by decide +kernel⟩
abbrev s_law_word : Stmt := topS 38
abbrev n_law_word : List Str := ["call", "word", "e", "some", "words"]
abbrev p_law_word : List Str := ["call"]
theorem sc_law_word : FnScope n_law_word p_law_word (defScope s_law_word) := ⟨rfl, rfl, rfl, by decide +kernel, rfl, by decide +kernel, by decide +kernel⟩
abbrev s_law_copied : Stmt := topS 39
abbrev n_law_copied : List Str := ["book", "writer"]
abbrev p_law_copied : List Str := ["book", "writer"]
theorem sc_law_copied : FnScope n_law_copied p_law_copied (defScope s_law_copied) := ⟨rfl, rfl, rfl, by decide +kernel, rfl, by decide +kernel, by decide +kernel⟩
abbrev s_law_all_met : Stmt := topS 40
abbrev n_law_all_met : List Str := ["hand", "notebooks", "books", "writer", "found", "book", "at", "path", "far"]
abbrev p_law_all_met : List Str := ["hand", "notebooks", "books", "writer"]
theorem sc_law_all_met : FnScope n_law_all_met p_law_all_met (defScope s_law_all_met) := ⟨rfl, rfl, rfl, by decide +kernel, rfl, by decide +kernel, by decide +kernel⟩
abbrev s_law_are_orders_right : Stmt := topS 41
abbrev n_law_are_orders_right : List Str := ["hand", "notebooks", "books", "labels", "earlier", "one", "first", "other", "second", "told", "notebook"]
abbrev p_law_are_orders_right : List Str := ["hand", "notebooks", "books", "labels"]
theorem sc_law_are_orders_right : FnScope n_law_are_orders_right p_law_are_orders_right (defScope s_law_are_orders_right) := ⟨rfl, rfl, rfl, by decide +kernel, rfl, by decide +kernel, by decide +kernel⟩
abbrev s_law_are_copies_right : Stmt := topS 42
abbrev n_law_are_copies_right : List Str := ["hand", "notebooks", "books", "labels", "at", "notebook", "book", "word", "other", "left", "mark", "marks", "flags"]
abbrev p_law_are_copies_right : List Str := ["hand", "notebooks", "books", "labels"]
theorem sc_law_are_copies_right : FnScope n_law_are_copies_right p_law_are_copies_right (defScope s_law_are_copies_right) := ⟨rfl, rfl, rfl, by decide +kernel, rfl, by decide +kernel, by decide +kernel⟩
abbrev s_law_does_stand : Stmt := topS 43
abbrev n_law_does_stand : List Str := ["hand", "notebooks", "books", "labels", "word", "one", "other", "mark"]
abbrev p_law_does_stand : List Str := ["hand", "notebooks", "books", "labels"]
theorem sc_law_does_stand : FnScope n_law_does_stand p_law_does_stand (defScope s_law_does_stand) := ⟨rfl, rfl, rfl, by decide +kernel, rfl, by decide +kernel, by decide +kernel⟩
abbrev s_law_are_refused : Stmt := topS 44
abbrev n_law_are_refused : List Str := ["hand", "notebook", "labels", "earlier", "node", "bad", "none", "left", "words", "owed", "word"]
abbrev p_law_are_refused : List Str := ["hand", "notebook", "labels"]
theorem sc_law_are_refused : FnScope n_law_are_refused p_law_are_refused (defScope s_law_are_refused) := ⟨rfl, rfl, rfl, by decide +kernel, rfl, by decide +kernel, by decide +kernel⟩
abbrev s_law : Stmt := topS 45
abbrev n_law : List Str := ["script", "hand", "turn", "labels", "many", "notebooks", "books", "step", "writer"]
abbrev p_law : List Str := ["script"]
theorem sc_law : FnScope n_law p_law (defScope s_law) := ⟨rfl, rfl, rfl, by decide +kernel, rfl, by decide +kernel, by decide +kernel⟩
/-- what the top has left -/
structure Txt (K : PySem.W.Frag) (mg : Str → Option Value) (C aO : Addr) (t8 : Tok) : Prop where
  cl : Cls K C
  n_pen : NoAttr K C "pen"
  n_put : NoAttr K C "put_in"
  n_out : NoAttr K C "taken_out"
  mg_Notebook : mg "Notebook" = some (.ref C)
  mg_OWN : mg "OWN" = some (.ref aO)
  r_OWN : RelV (.ref aO) (.ref aO)
  own : ∀ H, SqT K H aO [.str "signed", .str "sealed", .str "secret"]
  mg_MOST_WRITER : mg "MOST_WRITER" = some (.int 8 t8)
  r_MOST_WRITER : RelV (.int 8) (.int 8 t8)
  r_Notebook : RelV (.ref C) (.ref C)
  tyC : ∀ (H : Hp) (a dx : Addr) (fs : List (Str × V)), H a = some (.ins C dx fs) → TyX K H (.ref a) (.ref C)
  kitC : PySem.W.kitOne K (.ref C) (.ref C) = some true
  b_isinstance : mg "isinstance" = none
  b_len : mg "len" = none
  b_all : mg "all" = none
  b_max : mg "max" = none
  b_abs : mg "abs" = none
  b_sorted : mg "sorted" = none
  b_tuple : mg "tuple" = none
  b_list : mg "list" = none
  b_dict : mg "dict" = none
  b_int : mg "int" = none
  b_str : mg "str" = none
  b_bool : mg "bool" = none
  b_range : mg "range" = none
  b_enumerate : mg "enumerate" = none
  b_zip : mg "zip" = none
/-- a def that is called by its name -/
structure Cal (P : Program) (w : World) (K : PySem.W.Frag) (mg : Str → Option Value) (base : Heap) (x : Str) (k : Nat) (ps : List Str) (sp : Sp) where
  f : Addr
  fd : FuncData
  ok : FnOk P w K mg base CX0 k f fd ps sp
  at_ : mg x = some (.ref f)
  kp : PySem.W.keepIn K (.ref f) = true
  b : Binds K fd ps []
/-- a method -/
structure MCal (P : Program) (w : World) (K : PySem.W.Frag) (mg : Str → Option Value) (base : Heap) (C : Addr) (x : Str) (k : Nat) (ps : List Str) (sp : Sp) where
  f : Addr
  fd : FuncData
  ok : FnOk P w K mg base CX0 k f fd ps sp
  m : Meth K C x f
  b : Binds K fd ps []
/-- what a def that changes nothing promises: pre tells what comes of such arguments -/
def SpOf (pre : List V → Hp → (V → Hp → Prop) → Prop) : Sp := fun vs H Q _ => ∃ R, pre vs H R ∧ ∀ v H', Same H H' → R v H' → Q v H'
section
variable {K : PySem.W.Frag} {H : Hp} {σ : L2.St} {P : V → Hp → Prop} {x : V} {b : Bool}
theorem ev_sp {pre : List V → Hp → (V → Hp → Prop) → Prop} {vs : List V} {E : XK} (h : ∀ H', Fx H H' → pre vs H' P) : EvR (fun H Q => SpOf pre vs H Q E) H P := fun H1 g Q q => ⟨P, h H1 g, q⟩
theorem ev_call {pre : List V → Hp → (V → Hp → Prop) → Prop} {vs : List V} {E : XK} {ta : TA} (ha : EvA (ta σ) H (IsL vs)) (h : ∀ H', Fx H H' → pre (vs ++ []) H' P) : EvR (tCall (SpOf pre) [] E ta σ) H P := fun H1 g Q q =>
  ha H1 g _ fun ws H2 s p => by
    cases p
    exact ⟨P, h H2 (g.same s), fun v H' s' r => q v H' (s.trans s') r⟩
theorem ev_meth {C : Addr} {m : Str} {pre : List V → Hp → (V → Hp → Prop) → Prop} {vs : List V} {E : XK} {te : TE} {ta : TA} {a dx : Addr} {fs : List (Str × V)} (ho : EvR (te σ) H (Is (.ref a))) (hi : H a = some (.ins C dx fs)) (hl : fs.lookup m = none) (ha : EvA (ta σ) H (IsL vs))
    (h : ∀ H', Fx H H' → pre (.ref a :: (vs ++ [])) H' P) : EvR (tMeth C m (SpOf pre) [] E te ta σ) H P := fun H1 g Q q =>
  ho H1 g _ fun o H2 s p => ⟨a, dx, fs, p, (g.same s).nd hi rfl, hl, (ha.mono (g.same s)) H2 (Fx.refl H2) _ fun ws H3 s3 p3 => by
    cases p
    cases p3
    exact ⟨P, h H3 ((g.same s).same s3), fun v H' s' r => q v H' ((s.trans s3).trans s') r⟩⟩
theorem ev_isi {m n : String} (ty : ∀ H', Fx H H' → TyX K H' x (.type m)) (hk : kitB m n = some b) : EvR ((fun xs H Q => rIsi K xs H Q ∨ rIsiT K xs H Q) [x, .ty n]) H (Is (.bl b)) := fun H1 g Q q =>
  .inl ⟨x, .ty n, .type m, .type n, b, rfl, .ty n, ty H1 g, kit_ty hk, q _ H1 (fun _ _ e => e) rfl⟩
theorem tyInt {H' : Hp} {i : Int} : TyX K H' (.int i) (.type "int") := .base (.int i)
theorem tyStr {H' : Hp} {z : Str} : TyX K H' (.str z) (.type "str") := .base (.str z)
theorem tyBl {H' : Hp} {z : Bool} : TyX K H' (.bl z) (.type "bool") := .base (.bl z)
end

section
variable {K : PySem.W.Frag} {H : Hp} {σ : L2.St} {P : V → Hp → Prop} {x : V} {b : Bool} {α : Type} {te : TE}
theorem bls_of {l : List α} {f : α → Bool} {H2 : Hp} : ∀ {l : List α} {ys : List V}, Paired (fun a y => Is (.bl (f a)) y H2) l ys → ys = (l.map f).map V.bl
  | _, _, .nil => rfl
  | _, _, .cons a t => by
    cases a
    rw [bls_of (l := l) t]
    rfl
theorem ev_all {l : List α} {f : α → Bool} (h : EvR (te σ) H (NewL H l fun a => Is (.bl (f a)))) : EvR (tCB (rAll K) (tCons te tNil) σ) H (Is (.bl (l.all f))) := ev_cb1P h fun v H1 f1 ⟨p, ys, e, _, hp, hy⟩ => by
  intro H2 g Q q
  subst e
  have e2 := bls_of (l := l) hy
  subst e2
  refine ⟨p, l.map f, rfl, g.sqL (SqL.of hp), ?_⟩
  have e3 : (l.map f).all id = l.all f := by rw [List.all_map]; rfl
  rw [e3]
  exact q _ H2 (fun _ _ e => e) rfl
theorem ev_lenS {z : Str} (h : EvR (te σ) H (Is (.str z))) (hz : z.length ≤ sizeLine) : EvR (tCB (rLenU K) (tCons te tNil) σ) H (Is (.int z.length)) :=
  ev_cb1 h fun H2 g Q q => ⟨.str z, z.length, rfl, ⟨hz, rfl⟩, q _ H2 (fun _ _ e => e) rfl⟩
theorem ev_lenL {a : Addr} {xs : List V} (h : EvR (te σ) H (Is (.ref a))) (hx : SqL K H a xs) : EvR (tCB (rLenU K) (tCons te tNil) σ) H (Is (.int xs.length)) :=
  ev_cb1 h fun H2 g Q q => ⟨.ref a, xs.length, rfl, .inl ⟨xs, g.sqL hx, rfl⟩, q _ H2 (fun _ _ e => e) rfl⟩
theorem ev_lenT {a : Addr} {xs : List V} (h : EvR (te σ) H (Is (.ref a))) (hx : SqT K H a xs) : EvR (tCB (rLenU K) (tCons te tNil) σ) H (Is (.int xs.length)) :=
  ev_cb1 h fun H2 g Q q => ⟨.ref a, xs.length, rfl, .inr ⟨xs, g.sqT hx, rfl⟩, q _ H2 (fun _ _ e => e) rfl⟩
theorem rv_inT {x : V} {p : Addr} {xs : List V} (h : SqT K H p xs) (h1 : flatV x = true) (h2 : xs.all flatV = true) : EvR (rIn K false x (.ref p)) H (Is (.bl (inV x xs))) := fun H2 g Q q => ⟨p, xs, rfl, .inr (g.sqT h), h1, h2, q _ H2 (fun _ _ e => e) rfl⟩
end

section
variable {K : PySem.W.Frag} {H : Hp} {σ : L2.St} {P P1 : V → Hp → Prop} {x v : V} {b : Bool} {α : Type} {te tb : TE} {t tt : TT} {t1 t2 : TS} {N : L2.St → Hp → Prop} {l : List α} {Y : α → V → Hp → Prop} {f : α → Bool} {F : α → V → Hp → Prop}
theorem es_guard (h : EvT (t σ) H false) (h2 : ∀ H2, Fx H H2 → EvS t2 σ H2 N P) : EvS (tSeq (tIfS t t1 tNext) t2) σ H N P :=
  es_seq (N1 := fun σ' _ => σ' = σ) (es_if h (fun e => nomatch e) fun _ => es_next fun _ _ => rfl) fun σ' H2 f2 e => by
    subst e
    exact h2 H2 f2
theorem es_ifT (h : EvT (t σ) H b) (h1 : b = true → EvS t1 σ H (fun _ _ => False) P) (h2 : b = false → ∀ H2, Fx H H2 → EvS t2 σ H2 N P) : EvS (tSeq (tIfS t t1 tNext) t2) σ H N P :=
  es_seq (N1 := fun σ' _ => σ' = σ ∧ b = false) (es_if h (fun e H1 g D n r => h1 e H1 g D (fun _ _ _ z => z.elim) r) fun e => es_next fun _ _ => ⟨rfl, e⟩) fun σ' H2 f2 e => by
    obtain ⟨e, e2⟩ := e
    subst e
    exact h2 e2 H2 f2
theorem ev_lk0 (h : EvR (te σ) H P) : EvR (tLk te σ) H P := ev_or1 h
theorem it_aL (h : ItR (iList K te σ) H l Y) : ItR (iAny K te σ) H l Y := it_or1 h
theorem it_aT (h : ItR (iTup K te σ) H l Y) : ItR (iAny K te σ) H l Y := it_or2 (it_or1 h)
theorem it_aS (h : ItR (iStr te σ) H l Y) : ItR (iAny K te σ) H l Y := it_or2 (it_or2 (it_or1 h))
theorem it_aK (h : ItR (iKeys te σ) H l Y) : ItR (iAny K te σ) H l Y := it_or2 (it_or2 (it_or2 h))
/-- no test -/
theorem ev_lcA {wi : TI} {g : TG} {vs : List Nat} (hw : ItR (wi σ) H l Y) (hn : l.length ≤ sizeLine) (ht : ∀ a H3 x, a ∈ l → Fx H H3 → Y a x H3 → Turn1 g tYes te vs σ x H3 true (F a))
    (hP : ∀ a v H H', Tm H H' → F a v H → F a v H') : EvR (tLc wi g tYes te vs σ) H (NewL H l F) := by
  have e := ev_lc (f := fun _ => true) (tt := tYes) (te := te) (g := g) (vs := vs) hw hn ht hP
  rw [List.filter_eq_self.mpr (fun _ _ => rfl)] at e
  exact e
/-- a dict walked, under a lock -/
theorem ev_lkL {d : Addr} {w : HO} (h : Rd H d w) (hw : isDct w = true) (mu : Mut (some w)) (hP : ∀ a v H H', Tm H H' → F a v H → F a v H') (hin : ∀ H1 od, Fx H H1 → H1 d = some (.frz od w) → EvR (te σ) H1 (NewL H1 l F)) : EvR (tLk te σ) H (NewL H l F) :=
  ev_lk h hw mu (fun H1 od g e => (hin H1 od g e).imp fun v H2 _ p => by
    obtain ⟨q, ys, a, b, c, d⟩ := p
    exact ⟨q, ys, a, g.fresh b, c, d⟩) (st_newL hw hP)
theorem es_lkL {i : Nat} {d : Addr} {w : HO} (h : Rd H d w) (hw : isDct w = true) (mu : Mut (some w)) (hP : ∀ a v H H', Tm H H' → F a v H → F a v H') (hin : ∀ H1 od, Fx H H1 → H1 d = some (.frz od w) → EvR (te σ) H1 (NewL H1 l F))
    (h2 : ∀ v H2, Fx H H2 → NewL H l F v H2 → EvS t2 (σ.set i (some v)) H2 N P) : EvS (tSeq (tLkS (tAsg te (gName i))) t2) σ H N P :=
  es_lkAsg h hw mu (fun H1 od g e => (hin H1 od g e).imp fun v H2 _ p => by
    obtain ⟨q, ys, a, b, c, d⟩ := p
    exact ⟨q, ys, a, g.fresh b, c, d⟩) (st_newL hw hP) h2
theorem tmIs {v : V} : ∀ (H H' : Hp), Tm H H' → Is v v H → Is v v H' := fun _ _ _ h => h
end
end N88
/-! the small defs -/
namespace N88
open PySem L2 PySem.Spec
variable {P : Program} {w : World} {K : PySem.W.Frag} {mg : Str → Option Value} {base : Heap} {C aO : Addr} {t8 : Tok}
/-! ### is_integer, is_within -/
def preInteger : List V → Hp → (V → Hp → Prop) → Prop := fun vs _ R => ∃ i : Int, vs = [.int i] ∧ R = Is (.bl true)
theorem ok_is_integer {f : Addr} {fd : FuncData} (F : Fun K "is_integer" "is_integer" s_is_integer f fd) (T : Txt K mg C aO t8) : FnOk P w K mg base CX0 1 f fd p_is_integer (SpOf preInteger) := by
  refine F.ok sc_is_integer (fun vs H Q E h => ?_) (fun cdv A outer s H vs Q E hr h => ?_)
  · obtain ⟨R, ⟨i, rfl, _⟩, _⟩ := h
    rfl
  · obtain ⟨R, ⟨i, rfl, rfl⟩, q⟩ := h
    have hu := hr.units
    have hu1 := hu_of hr
    refine ⟨_, (pss_one (ps_ret (pe_and (pe_callB (k_isi (K' := K) rfl) (by rfl) T.b_isinstance (by decide +kernel) (pa_cons (pv 0) (pa_cons (pe_bltn (v := .ty "int") (by rfl) T.b_int (by decide +kernel) rfl) pa_nil))) (pe_one (pe_not (pe_callB (k_isi (K' := K) rfl) (by rfl) T.b_isinstance (by decide +kernel) (pa_cons (pv 0) (pa_cons (pe_bltn (v := .ty "bool") (by rfl) T.b_bool (by decide +kernel) rfl) pa_nil)))))))), ?_⟩
    refine EvS.body (es_ret ?_) q
    exact ev_andV (b := true) (c := true) (ev_cb2 (ev_var rfl) ev_c (ev_isi (fun _ _ => tyInt) (by decide +kernel))) fun _ => ev_notV (b := false) (ev_cb2 (ev_var rfl) ev_c (ev_isi (fun _ _ => tyInt) (by decide +kernel)))
/-- .. -/
def preWithin : List V → Hp → (V → Hp → Prop) → Prop := fun vs _ R => ∃ i lo hi : Int, vs = [.int i, .int lo, .int hi] ∧ lo ≤ i ∧ i ≤ hi ∧ R = Is (.bl true)
theorem ok_is_within {f : Addr} {fd : FuncData} (F : Fun K "is_within" "is_within" s_is_within f fd) (T : Txt K mg C aO t8) (c_is_integer : Cal P w K mg base "is_integer" 1 p_is_integer (SpOf preInteger)) :
    FnOk P w K mg base CX0 2 f fd p_is_within (SpOf preWithin) := by
  refine F.ok sc_is_within (fun vs H Q E h => ?_) (fun cdv A outer s H vs Q E hr h => ?_)
  · obtain ⟨R, ⟨i, lo, hi, rfl, _⟩, _⟩ := h
    rfl
  · obtain ⟨R, ⟨i, lo, hi, rfl, h1, h2, rfl⟩, q⟩ := h
    have hu := hr.units
    have hu1 := hu_of hr
    refine ⟨_, (pss_one (ps_ret (pe_and (pe_call c_is_integer.ok (hr.mono (by first | decide | omega)) (by rfl) c_is_integer.at_ c_is_integer.kp c_is_integer.b .nil pass0 (pa_cons (pv 0) pa_nil)) (pe_one (pe_chain (op_le.or op_le_str) (op_le.or op_le_str) (pv 1) (pv 0) (pv 2)))))), ?_⟩
    refine EvS.body (es_ret ?_) q
    refine ev_andV (b := true) (c := true) (ev_call (ea_cons (ev_var rfl) ea_nilV) fun _ _ => ⟨i, rfl, rfl⟩) fun _ => ?_
    exact ev_chain (b := true) (c := true) (ev_var rfl) (ev_var rfl) (ev_or1 (ev_is rv_I0 (by rw [decide_eq_true h1]))) (fun _ => ev_var rfl) fun _ => ev_or1 (ev_is rv_I0 (by rw [decide_eq_true h2]))
/-! ### labels -/
def preLabel : List V → Hp → (V → Hp → Prop) → Prop := fun vs _ R => ∃ z, vs = [.str z] ∧ LabOk z ∧ R = Is (.bl true)
theorem ok_is_label {f : Addr} {fd : FuncData} (F : Fun K "is_label" "is_label" s_is_label f fd) (T : Txt K mg C aO t8) : FnOk P w K mg base CX0 1 f fd p_is_label (SpOf preLabel) := by
  refine F.ok sc_is_label (fun vs H Q E h => ?_) (fun cdv A outer s H vs Q E hr h => ?_)
  · obtain ⟨R, ⟨i, rfl, _⟩, _⟩ := h
    rfl
  · obtain ⟨R, ⟨z, rfl, hz, rfl⟩, q⟩ := h
    have hu := hr.units
    have hu1 := hu_of hr
    refine ⟨_, (pss_cons (ps_if (PW.pt (pw_or (pt_not (pt_val (pe_callB (k_isi (K' := K) rfl) (by rfl) T.b_isinstance (by decide +kernel) (pa_cons (pv 0) (pa_cons (pe_bltn (v := .ty "str") (by rfl) T.b_str (by decide +kernel) rfl) pa_nil))))) (pw_or (pt_not (pt_chain (op_le.or op_le_str) (op_le.or op_le_str) pe_int (pe_callB (k_len (K' := K) rfl) (by rfl) T.b_len (by decide +kernel) (pa_cons (pv 0) pa_nil)) pe_int)) (pw_or1 (pt_cmpR (k_in (K' := K) rfl) (pv 0) (pe_glob (by rfl) T.mg_OWN T.r_OWN) (by rfl)))))) (pss_one (ps_ret pe_bl)) pss_nil)
      (pss_one (ps_ret (pe_callB (k_all (K' := K) rfl rfl) (by rfl) T.b_all (by decide +kernel) (pa_cons (pe_lk (pe_lc (own := [("sign", 1)]) rfl sc_is_label.nd (k_piAny (K' := K) rfl (pv 0)) (blkOk_by (N := n_is_label) (sc := defScope s_is_label) (by decide +kernel)) (fun _ _ _ _ _ => (pg_name (i := 1) sc_is_label.nd rfl (.inl rfl))) (fun _ _ _ _ _ => pts_nil) (fun _ _ _ _ _ => (pe_chain (op_le.or op_le_str) (op_le.or op_le_str) pe_str (pv 1) pe_str)))) pa_nil))))), ?_⟩
    have h8 : z.length ≤ sizeLine := Nat.le_trans hz.hi (by decide)
    refine EvS.body (es_guard ?_ fun H2 f2 => es_ret (ev_is (ev_all (l := z.cps.toList) (f := lowS) (ev_lk0 (ev_lcA (it_aS (it_str (ev_var rfl))) ?_ (fun c H3 x _ f3 hx => ?_) fun _ _ _ _ _ h => h))) (by rw [hz.low]))) q
    · refine et_or (b := false) (c := false) (et_not (b := true) (et_B (ev_cb2 (ev_var rfl) ev_c (ev_isi (fun _ _ => tyStr) (by decide +kernel))))) fun _ => ?_
      refine et_or (b := false) (c := false) (et_not (b := true) (et_test (ev_chain (b := true) (c := true) ev_c (ev_lenS (ev_var rfl) h8) (ev_or1 (ev_is rv_I0 ?_)) (fun _ => ev_c) fun _ => ev_or1 (ev_is rv_I0 ?_)))) fun _ => ?_
      · rw [decide_eq_true (by have := hz.lo; omega)]
      · rw [decide_eq_true (by have := hz.hi; omega)]
      · refine et_test (ev_op (ev_var rfl) ev_c (ev_is (rv_inT (T.own _) rfl rfl) ?_))
        rw [hz.own]
    · show z.cps.size ≤ sizeLine
      exact h8
    · subst hx
      refine tg_name rfl et_yes fun _ => ?_
      exact ev_chain ev_c (ev_var rfl) (ev_or2 fun H4 g Q q => ⟨_, _, rfl, rfl, q _ H4 (fun _ _ e => e) rfl⟩) (fun _ => ev_c) fun _ => ev_or2 fun H4 g Q q => ⟨_, _, rfl, rfl, q _ H4 (fun _ _ e => e) rfl⟩
def preCheckW : List V → Hp → (V → Hp → Prop) → Prop := fun vs _ R => ∃ i : Int, vs = [.int i] ∧ 0 ≤ i ∧ i ≤ 8 ∧ R = Is .non
theorem ok_check_writer {f : Addr} {fd : FuncData} (F : Fun K "check_writer" "check_writer" s_check_writer f fd) (T : Txt K mg C aO t8) (c_is_within : Cal P w K mg base "is_within" 2 p_is_within (SpOf preWithin)) :
    FnOk P w K mg base CX0 3 f fd p_check_writer (SpOf preCheckW) := by
  refine F.ok sc_check_writer (fun vs H Q E h => ?_) (fun cdv A outer s H vs Q E hr h => ?_)
  · obtain ⟨R, ⟨i, rfl, _⟩, _⟩ := h
    rfl
  · obtain ⟨R, ⟨i, rfl, h1, h2, rfl⟩, q⟩ := h
    refine ⟨_, (pss_one (ps_if (pt_not (pt_val (pe_call c_is_within.ok (hr.mono (by first | decide | omega)) (by rfl) c_is_within.at_ c_is_within.kp c_is_within.b .nil pass0 (pa_cons (pv 0) (pa_cons pe_int (pa_cons (pe_glob (by rfl) T.mg_MOST_WRITER T.r_MOST_WRITER) pa_nil)))))) pss_never pss_nil)), ?_⟩
    refine EvS.body (es_if (b := false) (et_not (b := true) (et_B (ev_call (ea_cons (ev_var rfl) (ea_cons ev_c (ea_cons ev_c ea_nilV))) fun _ _ => ⟨i, 0, 8, rfl, h1, h2, rfl⟩))) (fun e => nomatch e) fun _ => es_next fun _ _ => rfl) q
def preCheckL : List V → Hp → (V → Hp → Prop) → Prop := fun vs _ R => ∃ z, vs = [.str z] ∧ LabOk z ∧ R = Is .non
theorem ok_check_label {f : Addr} {fd : FuncData} (F : Fun K "check_label" "check_label" s_check_label f fd) (T : Txt K mg C aO t8) (c_is_label : Cal P w K mg base "is_label" 1 p_is_label (SpOf preLabel)) :
    FnOk P w K mg base CX0 2 f fd p_check_label (SpOf preCheckL) := by
  refine F.ok sc_check_label (fun vs H Q E h => ?_) (fun cdv A outer s H vs Q E hr h => ?_)
  · obtain ⟨R, ⟨i, rfl, _⟩, _⟩ := h
    rfl
  · obtain ⟨R, ⟨z, rfl, hz, rfl⟩, q⟩ := h
    refine ⟨_, (pss_one (ps_if (pt_not (pt_val (pe_call c_is_label.ok (hr.mono (by first | decide | omega)) (by rfl) c_is_label.at_ c_is_label.kp c_is_label.b .nil pass0 (pa_cons (pv 0) pa_nil)))) pss_never pss_nil)), ?_⟩
    refine EvS.body (es_if (b := false) (et_not (b := true) (et_B (ev_call (ea_cons (ev_var rfl) ea_nilV) fun _ _ => ⟨z, rfl, hz, rfl⟩))) (fun e => nomatch e) fun _ => es_next fun _ _ => rfl) q
def preCheckN (C : Addr) : List V → Hp → (V → Hp → Prop) → Prop := fun vs H R => ∃ a dx fs, vs = [.ref a] ∧ H a = some (.ins C dx fs) ∧ R = Is .non
theorem ok_check_notebook {f : Addr} {fd : FuncData} (F : Fun K "check_notebook" "check_notebook" s_check_notebook f fd) (T : Txt K mg C aO t8) : FnOk P w K mg base CX0 1 f fd p_check_notebook (SpOf (preCheckN C)) := by
  refine F.ok sc_check_notebook (fun vs H Q E h => ?_) (fun cdv A outer s H vs Q E hr h => ?_)
  · obtain ⟨R, ⟨i, _, _, rfl, _⟩, _⟩ := h
    rfl
  · obtain ⟨R, ⟨a, dx, fs, rfl, ha, rfl⟩, q⟩ := h
    refine ⟨_, (pss_one (ps_if (pt_not (pt_val (pe_callB (k_isi (K' := K) rfl) (by rfl) T.b_isinstance (by decide +kernel) (pa_cons (pv 0) (pa_cons (pe_glob (by rfl) T.mg_Notebook T.r_Notebook) pa_nil))))) pss_never pss_nil)), ?_⟩
    refine EvS.body (es_if (b := false) (et_not (b := true) (et_B (ev_cb2 (ev_var rfl) ev_c fun H1 g Q q => .inl ⟨.ref a, .ref C, .ref C, .ref C, true, rfl, .own C, T.tyC _ _ _ _ (g.nd ha rfl), T.kitC, q _ H1 (fun _ _ e => e) rfl⟩))) (fun e => nomatch e) fun _ => es_next fun _ _ => rfl) q
end N88
/-! notebooks: their tables, what is read of them -/
namespace N88
open PySem L2 PySem.Spec
abbrev TA := List (PI2 × Str)
abbrev TB := List PI2
def toA (A : TA) : List (List Key × V) := A.map fun p => (pk p.1, V.str p.2)
def toB (B : TB) : List (List Key × V) := B.map fun p => (pk p, V.bl true)
theorem pk_inj {p q : PI2} (h : pk p = pk q) : p = q := by
  unfold pk at h
  injection h with h1 h2
  injection h2 with h3 _
  injection h1 with h1
  injection h3 with h3
  exact Prod.ext h1 h3
theorem pk_iff {p q : PI2} : decide (pk p = pk q) = (p == q) := by
  by_cases e : p = q
  · subst e
    simp
  · rw [decide_eq_false fun z => e (pk_inj z)]
    exact (beq_eq_false_iff_ne.mpr e).symm
def lookA (A : TA) (m : PI2) : Option Str := (A.find? fun p => p.1 == m).map (·.2)
theorem valV_toA (A : TA) (m : PI2) : valV (toA A) (pk m) = (lookA A m).map V.str := by
  unfold lookA
  induction A with
  | nil => rfl
  | cons p A ih =>
    show valV ((pk p.1, V.str p.2) :: toA A) (pk m) = _
    by_cases e : p.1 = m
    · rw [valV_pos (show (pk p.1, V.str p.2).1 = pk m by rw [← e]), List.find?_cons_of_pos (by simp [e])]
      rfl
    · rw [valV_neg (fun z => e (pk_inj z)), List.find?_cons_of_neg (by simp [e])]
      exact ih
theorem valV_toB (B : TB) (m : PI2) : (valV (toB B) (pk m)).isSome = B.contains m := by
  induction B with
  | nil => rfl
  | cons p B ih =>
    show (valV ((pk p, V.bl true) :: toB B) (pk m)).isSome = _
    by_cases e : p = m
    · rw [valV_pos (show (pk p, V.bl true).1 = pk m by rw [← e]), List.contains_cons, e]
      simp
    · rw [valV_neg (fun z => e (pk_inj z)), ih, List.contains_cons]
      have e2 : (m == p) = false := beq_eq_false_iff_ne.mpr fun z => e z.symm
      rw [e2, Bool.false_or]
def hasA (A : TA) (m : PI2) : Bool := (A.map (·.1)).contains m
theorem isSome_toA (A : TA) (m : PI2) : (valV (toA A) (pk m)).isSome = hasA A m := by
  unfold hasA
  induction A with
  | nil => rfl
  | cons p A ih =>
    show (valV ((pk p.1, V.str p.2) :: toA A) (pk m)).isSome = _
    by_cases e : p.1 = m
    · rw [valV_pos (show (pk p.1, V.str p.2).1 = pk m by rw [← e]), List.map_cons, List.contains_cons, e]
      simp
    · rw [valV_neg (fun z => e (pk_inj z)), ih, List.map_cons, List.contains_cons]
      have e2 : (m == p.1) = false := beq_eq_false_iff_ne.mpr fun z => e z.symm
      rw [e2, Bool.false_or]
theorem putK_toA {A : TA} {m : PI2} {z : Str} (h : hasA A m = false) : putK (toA A) (pk m) (V.str z) = toA (A ++ [(m, z)]) := by
  rw [putK_new]
  · unfold toA
    rw [List.map_append]
    rfl
  · have e := isSome_toA A m
    rw [h] at e
    exact Option.isSome_eq_false_iff.mp e |> Option.isNone_iff_eq_none.mp
/-- tables that fit -/
structure Fit (A : TA) (B : TB) : Prop where
  nd : (A.map (·.1)).Nodup
  rg : ∀ p ∈ A, InR p.1
  wd : ∀ p ∈ A, p.2 ∈ labels8
  ndB : B.Nodup
  rgB : ∀ p ∈ B, InR p
theorem Fit.len {A : TA} {B : TB} (f : Fit A B) : A.length ≤ 576 := by
  have h := marks_le f.nd fun p hp => by
    obtain ⟨q, hq, e⟩ := List.mem_map.mp hp
    exact e ▸ f.rg q hq
  rw [List.length_map] at h
  exact h
theorem Fit.lenB {A : TA} {B : TB} (f : Fit A B) : B.length ≤ 576 := marks_le f.ndB f.rgB
theorem Fit.th {P : Program} {w : World} {A : TA} {B : TB} (f : Fit A B) : ((toA A).map fun p => TH P w p.1).Nodup := by
  have h := th_nd (P := P) (w := w) f.nd fun p hp => by
    obtain ⟨q, hq, e⟩ := List.mem_map.mp hp
    exact e ▸ f.rg q hq
  rw [List.map_map] at h
  unfold toA
  rw [List.map_map]
  exact h
theorem Fit.thB {P : Program} {w : World} {A : TA} {B : TB} (f : Fit A B) : ((toB B).map fun p => TH P w p.1).Nodup := by
  have h := th_nd (P := P) (w := w) f.ndB f.rgB
  unfold toB
  rw [List.map_map]
  exact h
/-- the fields of a notebook -/
def nbf (w : Int) (p t : Addr) : List (Str × V) := [("pen", .int w), ("put_in", .ref p), ("taken_out", .ref t)]
theorem nbf_pen {w : Int} {p t : Addr} : (nbf w p t).lookup ("pen" : Str) = some (.int w) := rfl
theorem nbf_put {w : Int} {p t : Addr} : (nbf w p t).lookup ("put_in" : Str) = some (.ref p) := rfl
theorem nbf_out {w : Int} {p t : Addr} : (nbf w p t).lookup ("taken_out" : Str) = some (.ref t) := rfl
/-- a notebook that may be read -/
structure NbR (C : Addr) (H : Hp) (a : Addr) (dx p t : Addr) (w : Int) (A : TA) (B : TB) : Prop where
  ins : H a = some (.ins C dx (nbf w p t))
  put : Rd H p (.dT (toA A))
  out : Rd H t (.dT (toB B))
theorem NbR.fx {C : Addr} {H H' : Hp} {a dx p t : Addr} {w : Int} {A : TA} {B : TB} (n : NbR C H a dx p t w A B) (f : Fx H H') : NbR C H' a dx p t w A B := ⟨f.nd n.ins rfl, f.rd n.put, f.rd n.out⟩
/-- a new list of pairs -/
def NewPrs (H : Hp) (ps : List PI2) : V → Hp → Prop := fun v H2 => ∃ p rs, v = .ref p ∧ H p = none ∧ H2 p = some (.lst (rs.map V.ref)) ∧ Prs H2 rs ps
theorem newPrs_fx {H H1 : Hp} {ps : List PI2} {v : V} {H2 : Hp} (g : Fx H H1) (h : NewPrs H1 ps v H2) : NewPrs H ps v H2 := by
  obtain ⟨p, rs, a, b, c, d⟩ := h
  exact ⟨p, rs, a, g.fresh b, c, d⟩
section
variable {K : PySem.W.Frag} {H : Hp} {σ : L2.St} {P : V → Hp → Prop} {x : V} {b : Bool} {α : Type} {te : TE} {l : List α}
def PairOf (g : α → PI2) : α → V → Hp → Prop := fun a v H => ∃ r, v = .ref r ∧ H r = some (.tup [.int (g a).1, .int (g a).2])
theorem pairOf_tm {g : α → PI2} : ∀ (a : α) (v : V) (H H' : Hp), Tm H H' → PairOf g a v H → PairOf g a v H' := fun _ _ _ _ t ⟨r, e, h⟩ => ⟨r, e, t _ _ h⟩
theorem prs_tm {H H' : Hp} (t : Tm H H') : ∀ {rs : List Addr} {ps : List PI2}, Prs H rs ps → Prs H' rs ps
  | _, _, .nil => .nil
  | _, _, .cons a b => .cons (t _ _ a) (prs_tm t b)
theorem prs_of {g : α → PI2} : ∀ {l : List α} {ys : List V}, Paired (fun a y => PairOf g a y H) l ys → ∃ rs : List Addr, ys = rs.map V.ref ∧ Prs H rs (l.map g) ∧ (∀ x ∈ ys, ∃ t, x = V.ref t ∧ H t = some (.tup [.int (pairAt H x).1, .int (pairAt H x).2])) ∧ ys.map (pairAt H) = l.map g
  | _, _, .nil => ⟨[], rfl, .nil, (fun x hx => nomatch hx), rfl⟩
  | _, _, .cons ⟨r, e, h⟩ t => by
    obtain ⟨rs, e1, p, q, e2⟩ := prs_of t
    subst e
    refine ⟨r :: rs, by rw [e1]; rfl, .cons h p, fun x hx => ?_, ?_⟩
    · rcases List.mem_cons.mp hx with z | z
      · subst z
        rw [pairAt_of h]
        exact ⟨r, rfl, h⟩
      · exact q x z
    · rw [List.map_cons, List.map_cons, e2, pairAt_of h]
theorem ev_sortedPO {g : α → PI2} (h : EvR (te σ) H (NewL H l (PairOf g))) : EvR (tCB (rSortedU K) (tCons te tNil) σ) H (NewPrs H (sortP (l.map g))) :=
  ev_cb1P h fun v H1 f1 ⟨p, ys, e, hp0, hp, hy⟩ => by
    subst e
    intro H2 gg Q q
    obtain ⟨rs, e1, pr, hx, em⟩ := prs_of hy
    have hx2 : ∀ x ∈ ys, ∃ t, x = V.ref t ∧ H2 t = some (.tup [.int (pairAt H1 x).1, .int (pairAt H1 x).2]) := fun x m => by
      obtain ⟨t, e, ht⟩ := hx x m
      exact ⟨t, e, gg.nd ht rfl⟩
    refine .inl ⟨p, ys, pairAt H1, rfl, gg.sqL (SqL.of hp), hx2, fun zs p2 hs hb hn => ?_⟩
    have hz : ∀ x ∈ zs, ∃ t, x = V.ref t ∧ H2 t = some (.tup [.int (pairAt H1 x).1, .int (pairAt H1 x).2]) := fun x m => hx2 x (hb.perm.mem_iff.mp m)
    have eo : zs.map (pairAt H1) = sortP (l.map g) := by
      refine sortP_of (SrtO.srtd_map hs) ?_
      rw [← em]
      exact hb.perm.map _
    obtain ⟨us, e2, pu⟩ : ∃ us : List Addr, zs = us.map V.ref ∧ Prs H2 us (zs.map (pairAt H1)) := by
      clear hs hb eo
      induction zs with
      | nil => exact ⟨[], rfl, .nil⟩
      | cons z zs ih =>
        obtain ⟨t, e, ht⟩ := hz z List.mem_cons_self
        obtain ⟨us, e2, pu⟩ := ih fun x m => hz x (List.mem_cons_of_mem _ m)
        exact ⟨t :: us, by rw [e, e2]; rfl, .cons ht pu⟩
    rw [eo] at pu
    refine q (.ref p2) _ (same_new hn) ⟨p2, us, rfl, ?_, ?_, prs_tm (Tm.new hn) pu⟩
    · exact f1.fresh (gg.fresh hn)
    · rw [e2]
      exact upd_same
end
theorem ItR.map {α β : Type} {w : Hp → (It → Hp → Prop) → Prop} {H : Hp} {g : α → β} {l : List α} {Y : β → V → Hp → Prop} (h : ItR w H (l.map g) Y) : ItR w H l (fun a => Y (g a)) := fun H1 gg R q =>
  h H1 gg R fun J H2 G Z s wk hG hZ => q J H2 G Z s (by rw [List.length_map] at wk; exact wk) hG fun i a H3 x H4 ha s3 z => hZ i (g a) H3 x H4 (by rw [List.getElem?_map, ha]; rfl) s3 z
theorem it_itemsA {te : TE} {H : Hp} {σ : L2.St} {d : Addr} {o : Obj} {A : TA} (h : EvR (te σ) H (Is (.ref d))) (hd : H d = some (.frz o (.dT (toA A)))) : ItR (iItemsT te σ) H A (fun p => YItem (pk p.1, V.str p.2)) := (it_itemsT h hd).map
theorem it_keysA {te : TE} {H : Hp} {σ : L2.St} {d : Addr} {o : Obj} {A : TA} (h : EvR (te σ) H (Is (.ref d))) (hd : H d = some (.frz o (.dT (toA A)))) : ItR (iKeys te σ) H A (fun p => YKey (pk p.1, V.str p.2)) := (it_keysT h hd).map
theorem it_keysB {te : TE} {H : Hp} {σ : L2.St} {d : Addr} {o : Obj} {B : TB} (h : EvR (te σ) H (Is (.ref d))) (hd : H d = some (.frz o (.dT (toB B)))) : ItR (iKeys te σ) H B (fun p => YKey (pk p, V.bl true)) := (it_keysT h hd).map
variable {P : Program} {w : World} {K : PySem.W.Frag} {mg : Str → Option Value} {base : Heap} {C aO : Addr} {t8 : Tok}
/-! ### raw_marks -/
def rawM (A : TA) (B : TB) (z : Str) : List PI2 := sortP ((A.filter fun p => decide (p.2 = z) && !B.contains p.1).map (·.1))
def preRaw (C : Addr) : List V → Hp → (V → Hp → Prop) → Prop := fun vs H R => ∃ a dx p t pen A B z, vs = [.ref a, .str z] ∧ NbR C H a dx p t pen A B ∧ Fit A B ∧ LabOk z ∧ ∃ H0, Fx H0 H ∧ R = NewPrs H0 (rawM A B z)
theorem ok_raw_marks {f : Addr} {fd : FuncData} (F : Fun K "raw_marks" "Notebook.raw_marks" s_Notebook_raw_marks f fd) (T : Txt K mg C aO t8) : FnOk P w K mg base CX0 1 f fd p_Notebook_raw_marks (SpOf (preRaw C)) := by
  refine F.ok sc_Notebook_raw_marks (fun vs H Q E h => ?_) (fun cdv A outer s H vs Q E hr h => ?_)
  · obtain ⟨R, ⟨a, dx, p, t, pen, A, B, z, rfl, _⟩, _⟩ := h
    rfl
  · obtain ⟨R, ⟨a, dx, p, t, pen, A, B, z, rfl, nb, ft, hz, H0, f0, rfl⟩, q⟩ := h
    have hu := hr.units
    have hu1 := hu_of hr
    refine ⟨_, (pss_one (ps_ret (pe_callB (k_sorted (K' := K) rfl rfl) (by rfl) T.b_sorted (by decide +kernel) (pa_cons (pe_lk (pe_lc (own := [("mark", 2), ("other", 3)]) rfl sc_Notebook_raw_marks.nd (pi_itemsT (pe_fldK (K' := K) rfl (pv 0) (by rfl))) (blkOk_by (N := n_Notebook_raw_marks) (sc := defScope s_Notebook_raw_marks) (by decide +kernel)) (fun _ _ _ _ _ => (k_pair (K' := K) (i := 2) (j := 3) rfl rfl sc_Notebook_raw_marks.nd rfl rfl (.inl rfl) (.inl rfl) (.inr rfl) (.inr rfl))) (fun _ _ _ _ _ => (pts_one (PW.pt (pw_and (pt_cmpR (k_eqD (K' := K) rfl hu) (pv 3) (pv 1) (nomark _)) (pw_and1 (pt_cmp (pc_dnotin hu1 (pv 2) (pe_fldK (K' := K) rfl (pv 0) (by rfl))) (by rfl))))))) (fun _ _ _ _ _ => (pv 2)))) pa_nil)))), ?_⟩
    refine EvS.body (es_ret (EvR.imp (P := NewPrs H (rawM A B z)) ?_ fun v H2 _ h => newPrs_fx f0 h)) q
    refine ev_sortedPO (l := A.filter fun p => decide (p.2 = z) && !B.contains p.1) (g := (·.1)) (ev_lkL nb.put rfl trivial pairOf_tm fun H1 od g hd => ?_)
    refine ev_lc (it_itemsA (ev_fld (ev_var rfl) (g.nd nb.ins rfl) T.cl T.n_put nbf_put) hd) (Nat.le_trans ft.len (by decide)) (fun m H3 x hm f3 hx => ?_) pairOf_tm
    obtain ⟨T2, r, rfl, h1, h2⟩ := hx
    have nb3 := nb.fx (g.trans f3)
    refine tg_pair (SqT.of h1) rfl (et_and (et_test (ev_op (ev_var rfl) (ev_var rfl) (ev_is (rv_eqD (.str _) (.str _) ?_ ?_) ?_))) fun _ => et_B ?_) fun _ => ?_
    · exact (lab8 _ (ft.wd m hm)).sh
    · exact hz.sh
    · rw [eqv_str]
    · refine ev_is (ev_dnotin (ev_var rfl) (ev_fld (ev_var rfl) nb3.ins T.cl T.n_out nbf_out) nb3.out h2) ?_
      rw [valV_toB]
    · exact (ev_var rfl).imp fun v H4 f4 e => ⟨r, e, f4.nd h2 rfl⟩
end N88
/-! texts in order: there is one sorted arrangement -/
namespace N88
open PySem L2 PySem.Spec PyProof.Rows
theorem lc_irr : ∀ a : List Nat, ltCps a a = false
  | [] => rfl
  | x :: a => by
    show (x < x || (x == x && ltCps a a)) = false
    rw [lc_irr a]
    simp
theorem lc_cons {x y : Nat} {a b : List Nat} : ltCps (x :: a) (y :: b) = true ↔ x < y ∨ (x = y ∧ ltCps a b = true) := by
  show (decide (x < y) || (x == y && ltCps a b)) = true ↔ _
  simp
theorem lc_anti : ∀ {a b : List Nat}, ltCps a b = false → ltCps b a = false → a = b
  | [], [], _, _ => rfl
  | [], _ :: _, h, _ => by cases h
  | _ :: _, [], _, h => by cases h
  | x :: a, y :: b, h1, h2 => by
    have n1 : ¬ (x < y ∨ (x = y ∧ ltCps a b = true)) := fun z => by rw [lc_cons.mpr z] at h1; cases h1
    have n2 : ¬ (y < x ∨ (y = x ∧ ltCps b a = true)) := fun z => by rw [lc_cons.mpr z] at h2; cases h2
    have e : x = y := by omega
    subst e
    rw [lc_anti (a := a) (b := b) (by
      cases q : ltCps a b with
      | false => rfl
      | true => exact (n1 (.inr ⟨rfl, q⟩)).elim) (by
      cases q : ltCps b a with
      | false => rfl
      | true => exact (n2 (.inr ⟨rfl, q⟩)).elim)]
theorem lc_trans : ∀ {a b c : List Nat}, ltCps b a = false → ltCps c b = false → ltCps c a = false
  | _, _, [], _, h2 => by
    rename_i a b h1
    cases a with
    | nil => rfl
    | cons x a =>
      cases b with
      | nil => cases h1
      | cons y b => cases h2
  | [], _, _ :: _, _, _ => rfl
  | x :: a, [], z :: c, h1, _ => by cases h1
  | x :: a, y :: b, z :: c, h1, h2 => by
    have n1 : ¬ (y < x ∨ (y = x ∧ ltCps b a = true)) := fun q => by rw [lc_cons.mpr q] at h1; cases h1
    have n2 : ¬ (z < y ∨ (z = y ∧ ltCps c b = true)) := fun q => by rw [lc_cons.mpr q] at h2; cases h2
    cases q : ltCps (z :: c) (x :: a) with
    | false => rfl
    | true =>
      rcases lc_cons.mp q with k | ⟨k, k2⟩
      · omega
      · subst k
        have e : y = z := by omega
        subst e
        have i := lc_trans (a := a) (b := b) (c := c) (by
          cases w : ltCps b a with
          | false => rfl
          | true => exact (n1 (.inr ⟨rfl, w⟩)).elim) (by
          cases w : ltCps c b with
          | false => rfl
          | true => exact (n2 (.inr ⟨rfl, w⟩)).elim)
        rw [k2] at i
        cases i
def leS (x y : Str) : Prop := ltCps y.cps.toList x.cps.toList = false
theorem rising_pw : ∀ {l : List Str} {p : Str}, risingS p l = true → (p :: l).Pairwise leS
  | [], p, _ => List.pairwise_singleton _ _
  | x :: r, p, h => by
    have h' : (!ltCps x.cps.toList p.cps.toList && risingS x r) = true := h
    rw [Bool.and_eq_true, Bool.not_eq_true'] at h'
    have ih := rising_pw h'.2
    refine List.pairwise_cons.mpr ⟨fun y hy => ?_, ih⟩
    rcases List.mem_cons.mp hy with e | hy
    · rw [e]
      exact h'.1
    · exact lc_trans h'.1 ((List.pairwise_cons.mp ih).1 y hy)
theorem sorted_pw {l : List Str} (h : sortedS l = true) : l.Pairwise leS := by
  cases l with
  | nil => exact List.Pairwise.nil
  | cons x r => exact rising_pw h
theorem str_ext {x y : Str} (h : x.cps.toList = y.cps.toList) : x = y := by
  obtain ⟨a⟩ := x
  obtain ⟨b⟩ := y
  obtain ⟨a⟩ := a
  obtain ⟨b⟩ := b
  have h' : a = b := h
  rw [h']
theorem strs_one : ∀ {l m : List Str}, l.Pairwise leS → m.Pairwise leS → l.Perm m → l = m
  | [], m, _, _, h => by rw [List.Perm.nil_eq h]
  | x :: l, [], _, _, h => by
    have e := h.length_eq
    simp at e
  | x :: l, y :: m, hl, hm, h => by
    obtain ⟨a1, a2⟩ := List.pairwise_cons.mp hl
    obtain ⟨b1, b2⟩ := List.pairwise_cons.mp hm
    have exy : x = y := by
      rcases List.mem_cons.mp (h.mem_iff.mp List.mem_cons_self) with e | hx
      · exact e
      · rcases List.mem_cons.mp (h.mem_iff.mpr List.mem_cons_self) with e | hy
        · exact e.symm
        · exact str_ext (lc_anti (b1 x hx) (a1 y hy)).symm |> fun e => e.symm
    subst exy
    rw [strs_one a2 b2 ((List.perm_cons x).mp h)]
/-- the sorted arrangement -/
noncomputable def srtS (l : List Str) : List Str := by
  classical
  exact if h : ∃ m : List Str, m.Perm l ∧ sortedS m = true then h.choose else l
theorem srtS_of {l m : List Str} (h1 : m.Perm l) (h2 : sortedS m = true) : m = srtS l := by
  have h : ∃ m : List Str, m.Perm l ∧ sortedS m = true := ⟨m, h1, h2⟩
  unfold srtS
  rw [dif_pos h]
  exact strs_one (sorted_pw h2) (sorted_pw h.choose_spec.2) (h1.trans h.choose_spec.1.symm)
/-- words, each once, as they come first -/
def putW (l : List Str) (z : Str) : List Str := if l.contains z then l else l ++ [z]
def uniqW (l : List Str) : List Str := l.foldl putW []
theorem putW_mem {l : List Str} {z x : Str} : x ∈ putW l z ↔ x ∈ l ∨ x = z := by
  unfold putW
  by_cases h : l.contains z = true
  · rw [if_pos h]
    have hz : z ∈ l := List.contains_iff_mem.mp h
    exact ⟨.inl, fun q => q.elim id fun e => by rw [e]; exact hz⟩
  · rw [if_neg h, List.mem_append, List.mem_singleton]
theorem putW_nd {l : List Str} {z : Str} (h : l.Nodup) : (putW l z).Nodup := by
  unfold putW
  by_cases c : l.contains z = true
  · rw [if_pos c]
    exact h
  · rw [if_neg c]
    refine List.nodup_append.mpr ⟨h, List.nodup_cons.mpr ⟨fun q => (nomatch q), List.nodup_nil⟩, fun a ha b hb e => ?_⟩
    rw [List.mem_singleton.mp hb] at e
    rw [e] at ha
    exact c (List.contains_iff_mem.mpr ha)
theorem uniq_go : ∀ (l acc : List Str), acc.Nodup → (l.foldl putW acc).Nodup ∧ ∀ x, x ∈ l.foldl putW acc ↔ x ∈ acc ∨ x ∈ l
  | [], acc, h => ⟨h, fun x => by simp⟩
  | z :: l, acc, h => by
    obtain ⟨h1, h2⟩ := uniq_go l (putW acc z) (putW_nd h)
    refine ⟨h1, fun x => ?_⟩
    show x ∈ l.foldl putW (putW acc z) ↔ _
    rw [h2 x, putW_mem, List.mem_cons, or_assoc]
theorem uniqW_nd (l : List Str) : (uniqW l).Nodup := (uniq_go l [] List.nodup_nil).1
theorem uniqW_mem {l : List Str} {x : Str} : x ∈ uniqW l ↔ x ∈ l := by
  have h := (uniq_go l [] List.nodup_nil).2 x
  simp at h
  exact h
end N88
/-! notebooks: what is told of them -/
namespace N88
open PySem L2 PySem.Spec
section
variable {K : PySem.W.Frag} {H : Hp} {σ : L2.St} {P : V → Hp → Prop} {x : V} {b : Bool} {α : Type} {te tk tv : TE} {tt : TT} {l : List α} {Y : α → V → Hp → Prop} {f : α → Bool}
def dkW (ws : List Str) : List (L2.Key × V) := ws.map fun z => (.inr z, .bl true)
theorem putK_W (acc : List Str) (z : Str) : putK (dkW acc) (.inr z) (.bl true) = dkW (putW acc z) := by
  unfold putK putW
  have e : ((dkW acc).any fun kv => decide (kv.1 = (Sum.inr z : L2.Key))) = acc.contains z := by
    unfold dkW
    rw [List.any_map]
    induction acc with
    | nil => rfl
    | cons y acc ih =>
      rw [List.any_cons, List.contains_cons, ih]
      congr 1
      show decide ((Sum.inr y : L2.Key) = Sum.inr z) = (z == y)
      by_cases e : y = z
      · subst e
        simp
      · rw [decide_eq_false fun q => e (Sum.inr.inj q)]
        exact (beq_eq_false_iff_ne.mpr fun q => e q.symm).symm
  rw [e]
  by_cases c : acc.contains z = true
  · rw [if_pos c, if_pos c]
    unfold dkW
    rw [List.map_map]
    refine List.map_congr_left fun y _ => ?_
    show (if (Sum.inr y : L2.Key) = Sum.inr z then ((Sum.inr y : L2.Key), V.bl true) else ((Sum.inr y : L2.Key), V.bl true)) = _
    split <;> rfl
  · rw [if_neg c, if_neg c]
    unfold dkW
    rw [List.map_append]
    rfl
/-- a turn of a dict's comprehension: the word that is its key -/
def TurnD (g : TG) (tt : TT) (tk tv : TE) (vs : List Nat) (σ : L2.St) (x : V) (H : Hp) (b : Bool) (z : Str) : Prop := ∀ R : L2.St → Hp → Prop,
  (∀ σ2 H5, Same H H5 → wipe σ2 vs = wipe σ vs → EvT (tt σ2) H5 b → (b = true → EvR (tk σ2) H5 (Is (.str z)) ∧ EvR (tv σ2) H5 (Is (.bl true))) → R σ2 H5) → g x (wipe σ vs) H R
theorem uniq_snoc (l : List Str) (z : Str) : uniqW (l ++ [z]) = putW (uniqW l) z := by
  unfold uniqW
  rw [List.foldl_append]
  rfl
theorem uniq_len (l : List Str) : (uniqW l).length ≤ l.length := nodup_le (uniqW_nd l) fun x hx => uniqW_mem.mp hx
theorem ev_dcW {wi : TI} {g : TG} {vs : List Nat} {kx : α → Str} (hw : ItR (wi σ) H l Y) (hn : l.length ≤ sizeLine)
    (ht : ∀ a H3 x, a ∈ l → Fx H H3 → Y a x H3 → TurnD g tt tk tv vs σ x H3 (f a) (kx a)) : EvR (tDc wi g tt tk tv vs σ) H (New H (.dK (dkW (uniqW ((l.filter f).map kx))))) := fun H1 g1 Q q =>
  hw H1 g1 _ fun J H2 G Z s2 w hG hZ D hD => by
    refine ⟨fun i m H' => m = l.length - i ∧ i ≤ l.length ∧ Same H2 H' ∧ H' D = some (.dK (dkW (uniqW (((l.take i).filter f).map kx)))), ⟨l.length, by simp, Nat.zero_le _, same_new hD, upd_same⟩, ?_⟩
    rintro i m H3 ⟨rfl, hi, s3, hD3⟩
    by_cases hlt : i < l.length
    · refine .inr ⟨w.goes i H3 hlt (hG H3 s3), fun H' => Same H2 H' ∧ H' D = some (.dK (dkW (uniqW (((l.take (i + 1)).filter f).map kx)))), fun H' p => ⟨l.length - (i + 1), by omega, rfl, hlt, p.1, p.2⟩, fun x H4 hy => ?_⟩
      have z := w.yields i H3 x H4 hlt (hG H3 s3) hy
      have ha : l[i]? = some l[i] := List.getElem?_eq_getElem hlt
      have ham : l[i] ∈ l := List.getElem_mem hlt
      generalize l[i] = a at ha ham
      obtain ⟨s4, hY⟩ := hZ i a H3 x H4 ha s3 z
      have f4 : Fx H H4 := ((g1.same s2).same s3).same s4
      have tk' : ((l.take (i + 1)).filter f).map kx = ((l.take i).filter f).map kx ++ (if f a then [kx a] else []) := by
        rw [List.take_add_one, ha, List.filter_append, List.map_append]
        congr 1
        show List.map kx (List.filter f [a]) = _
        cases h : f a <;> simp [List.filter, h]
      have ln : (dkW (uniqW (((l.take i).filter f).map kx))).length < sizeLine := by
        have e1 := uniq_len (((l.take i).filter f).map kx)
        have e2 := List.length_filter_le f (l.take i)
        rw [List.length_map] at e1
        rw [List.length_take] at e2
        unfold dkW
        rw [List.length_map]
        omega
      refine ht a H4 x ham f4 hY _ fun σ2 H5 s5 hwp et er => ⟨hwp, ?_⟩
      refine et.run fun H6 s6 => ?_
      have hD6 := s6 _ _ (s5 _ _ (s4 _ _ hD3))
      have s26 : Same H2 H6 := ((s3.trans s4).trans s5).trans s6
      cases hb : f a with
      | true =>
        obtain ⟨r1, r2⟩ := er hb
        refine (r1.mono (Fx.of s6)).run fun y H7 s7 py => ?_
        refine (r2.mono ((Fx.of s6).same s7)).run fun y2 H8 s8 py2 => ?_
        cases py
        cases py2
        have hD8 := s8 _ _ (s7 _ _ hD6)
        refine ⟨_, .inr (kx a), rfl, hD8, ln, fun b o e => ?_, ?_⟩
        · rw [upd_ne (ne_of_none e hD)]
          exact s8 _ _ (s7 _ _ (s26 _ _ e))
        · rw [upd_same, putK_W, tk', hb]
          show _ = some (HO.dK (dkW (uniqW (_ ++ [kx a]))))
          rw [uniq_snoc]
      | false =>
        refine ⟨s26, ?_⟩
        rw [tk', hb]
        show _ = some (HO.dK (dkW (uniqW (_ ++ []))))
        rw [List.append_nil]
        exact hD6
    · have e : i = l.length := by omega
      subst e
      rw [List.take_length] at hD3
      exact .inl ⟨w.stops H3 (hG H3 s3), q (.ref D) H3 (s2.trans s3) ⟨D, rfl, (g1.same s2).fresh hD, hD3⟩⟩
theorem st_new {d : Addr} {w o : HO} (hw : isDct w = true) (ho : ∀ od, o ≠ .frz od w) : ∀ H2 od v, H2 d = some (.frz od w) → New H o v H2 → New H o v (upd H2 d w) := fun H2 od v e ⟨p, h1, h2, h3⟩ =>
  ⟨p, h1, h2, by rw [upd_ne (ne_of h3 e (ho od))]; exact h3⟩
theorem new_fx {o : HO} {H1 : Hp} {v : V} {H2 : Hp} (g : Fx H H1) (h : New H1 o v H2) : New H o v H2 := by
  obtain ⟨p, a, b, c⟩ := h
  exact ⟨p, a, g.fresh b, c⟩
/-! ### sorted, tuple -/
theorem ev_sortedW {ws : List Str} (h : EvR (te σ) H fun v H2 => ∃ p, v = .ref p ∧ Rd H2 p (.dK (dkW ws))) (h64 : ws.length < 64) : EvR (tCB (rSortedU K) (tCons te tNil) σ) H (New H (.lst ((srtS ws).map V.str))) :=
  ev_cb1P h fun v H1 f1 ⟨p, e, hp⟩ => by
    subst e
    intro H2 gg Q q
    refine .inr (.inr (.inl ⟨p, dkW ws, ws, rfl, gg.rd hp, by unfold dkW; rw [List.map_map]; rfl, h64, fun ys p2 h1 h2 hn => ?_⟩))
    have e := srtS_of h1 h2
    subst e
    exact q _ _ (same_new hn) ⟨p2, rfl, f1.fresh (gg.fresh hn), upd_same⟩
theorem ev_sortedSL {ws : List Str} (h : EvR (te σ) H fun v H2 => ∃ p, v = .ref p ∧ H2 p = some (.lst (ws.map V.str))) (h64 : ws.length < 64) : EvR (tCB (rSortedU K) (tCons te tNil) σ) H (New H (.lst ((srtS ws).map V.str))) :=
  ev_cb1P h fun v H1 f1 ⟨p, e, hp⟩ => by
    subst e
    intro H2 gg Q q
    refine .inr (.inr (.inr ⟨p, ws, rfl, gg.sqL (SqL.of hp), h64, fun ys p2 h1 h2 hn => ?_⟩))
    have e := srtS_of h1 h2
    subst e
    exact q _ _ (same_new hn) ⟨p2, rfl, f1.fresh (gg.fresh hn), upd_same⟩
theorem ev_sortedDT {ps : List PI2} {kvs : List (List L2.Key × V)} {a : Addr} (h : EvR (te σ) H (Is (.ref a))) (hd : Rd H a (.dT kvs)) (hk : kvs.map (·.1) = ps.map pk) : EvR (tCB (rSortedU K) (tCons te tNil) σ) H (NewPrs H (sortP ps)) :=
  ev_cb1 h fun H2 gg Q q => .inr (.inl ⟨a, kvs, ps, rfl, gg.rd hd, hk, fun rs p pr hn => q _ _ (same_new hn) ⟨p, rs, rfl, gg.fresh hn, upd_same, prs_tm (Tm.new hn) pr⟩⟩)
theorem tdAll_strs {H2 : Hp} : ∀ ws : List Str, TdAll K H2 (ws.map V.str) (ws.map PyData.str)
  | [] => .nil
  | z :: ws => .cons (.str z) (tdAll_strs ws)
theorem ev_tupleD {ds : List PyData} (h : EvR (te σ) H fun v H2 => ∃ p ys, v = .ref p ∧ H2 p = some (.lst ys) ∧ TdAll K H2 ys ds) : EvR (tCB (rTupU K) (tCons te tNil) σ) H (D K (.tuple ds)) :=
  ev_cb1P h fun v H1 f1 ⟨p, ys, e, hp, hd⟩ => by
    subst e
    intro H2 gg Q q
    exact ⟨p, ys, rfl, .inl ⟨gg.sqL (SqL.of hp), fun a ha => q _ _ (same_new ha) (.tup upd_same (hd.tm (gg.tm.trans (Tm.new ha))))⟩⟩
def prD (p : PI2) : PyData := .tuple [.int p.1, .int p.2]
theorem td_pair {H2 : Hp} {r : Addr} {p : PI2} (h : H2 r = some (.tup [.int p.1, .int p.2])) : Td K H2 (.ref r) (prD p) := .tup h (.cons (.int _) (.cons (.int _) .nil))
theorem tdAll_prs {H2 : Hp} : ∀ {rs : List Addr} {ps : List PI2}, Prs H2 rs ps → TdAll K H2 (rs.map V.ref) (ps.map prD)
  | _, _, .nil => .nil
  | _, _, .cons a b => .cons (td_pair a) (tdAll_prs b)
theorem newPrs_tup {ps : List PI2} {v : V} {H2 : Hp} (h : NewPrs H ps v H2) : ∃ p ys, v = .ref p ∧ H2 p = some (.lst ys) ∧ TdAll K H2 ys (ps.map prD) := by
  obtain ⟨p, rs, a, _, b, c⟩ := h
  exact ⟨p, _, a, b, tdAll_prs c⟩
end
variable {P : Program} {w : World} {K : PySem.W.Frag} {mg : Str → Option Value} {base : Heap} {C aO : Addr} {t8 : Tok} {α : Type}
/-! ### all_words -/
def wordsOf (A : TA) (B : TB) : List Str := uniqW ((A.filter fun p => !B.contains p.1).map (·.2))
noncomputable def allW (A : TA) (B : TB) : List Str := srtS (wordsOf A B)
theorem Fit.w64 {A : TA} {B : TB} (f : Fit A B) : (wordsOf A B).length < 64 := by
  have h := nodup_le (m := labels8) (uniqW_nd ((A.filter fun p => !B.contains p.1).map (·.2))) fun x hx => by
    obtain ⟨p, hp, e⟩ := List.mem_map.mp (uniqW_mem.mp hx)
    rw [← e]
    exact f.wd p (List.mem_filter.mp hp).1
  exact Nat.lt_of_le_of_lt h (by decide)
def preWords (K : PySem.W.Frag) (C : Addr) : List V → Hp → (V → Hp → Prop) → Prop := fun vs H R => ∃ a dx p t pen A B, vs = [.ref a] ∧ NbR C H a dx p t pen A B ∧ Fit A B ∧ R = D K (.tuple ((allW A B).map PyData.str))
theorem ok_all_words {f : Addr} {fd : FuncData} (F : Fun K "all_words" "Notebook.all_words" s_Notebook_all_words f fd) (T : Txt K mg C aO t8) : FnOk P w K mg base CX0 1 f fd p_Notebook_all_words (SpOf (preWords K C)) := by
  refine F.ok sc_Notebook_all_words (fun vs H Q E h => ?_) (fun cdv A outer s H vs Q E hr h => ?_)
  · obtain ⟨R, ⟨a, dx, p, t, pen, A, B, rfl, _⟩, _⟩ := h
    rfl
  · obtain ⟨R, ⟨a, dx, p, t, pen, A, B, rfl, nb, ft, rfl⟩, q⟩ := h
    have hu := hr.units
    have hu1 := hu_of hr
    refine ⟨_, (pss_cons (ps_lk (ps_setDc (own := [("mark", 2), ("word", 3)]) (i := 1) rfl sc_Notebook_all_words.nd rfl rfl (sw_trueD rfl rfl rfl (by decide +kernel)) (pi_itemsT (pe_fldK (K' := K) rfl (pv 0) (by rfl))) (blkOk_by (N := n_Notebook_all_words) (sc := defScope s_Notebook_all_words) (by decide +kernel)) (fun _ _ _ _ _ => (k_pair (K' := K) (i := 2) (j := 3) rfl rfl sc_Notebook_all_words.nd rfl rfl (.inl rfl) (.inl rfl) (.inr rfl) (.inr rfl))) (fun _ _ _ _ _ => (pts_one (pt_cmp (pc_dnotin hu1 (pv 2) (pe_fldK (K' := K) rfl (pv 0) (by rfl))) (by rfl)))) (fun _ _ _ _ _ => (pv 3)) (fun _ _ _ _ _ => pe_bl)))
      (pss_one (ps_ret (pe_callTy (k_tuple (K' := K) rfl) (by rfl) T.b_tuple (by decide +kernel) (pa_cons (pe_callB (k_sorted (K' := K) rfl rfl) (by rfl) T.b_sorted (by decide +kernel) (pa_cons (pv 1) pa_nil)) pa_nil))))), ?_⟩
    refine EvS.body (es_lkAsg (P1 := New H (.dK (dkW (wordsOf A B)))) nb.put rfl trivial (fun H1 od g hd => ?_) (st_new rfl fun od e => by cases e) fun v H2 f2 hv => ?_) q
    · refine (ev_dcW (l := A) (f := fun p => !B.contains p.1) (kx := (·.2)) (it_itemsA (ev_fld (ev_var rfl) (g.nd nb.ins rfl) T.cl T.n_put nbf_put) hd) (Nat.le_trans ft.len (by decide)) fun m H3 x hm f3 hx => ?_).imp fun v H2 _ h => new_fx g h
      obtain ⟨T2, r, rfl, h1, h2⟩ := hx
      have nb3 := nb.fx (g.trans f3)
      intro R q
      refine ⟨T2, [.ref r, .str m.2], rfl, SqT.of h1, rfl, .ref r, [.str m.2], rfl, .str m.2, [], rfl, rfl, q _ H3 (fun _ _ e => e) rfl (et_B (ev_is (ev_dnotin (ev_var rfl) (ev_fld (ev_var rfl) nb3.ins T.cl T.n_out nbf_out) nb3.out h2) ?_)) fun _ => ⟨ev_var rfl, ev_c⟩⟩
      rw [valV_toB]
    · obtain ⟨p2, rfl, h0, h1⟩ := hv
      refine es_ret (ev_tupleD ((ev_sortedW (ws := wordsOf A B) ((ev_var rfl).imp fun v H3 f3 e => ⟨p2, e, f3.rd (.inl h1)⟩) ft.w64).imp fun v H3 f3 h => ?_))
      · obtain ⟨p3, e, _, h3⟩ := h
        exact ⟨p3, _, e, h3, tdAll_strs _⟩
/-! ### marks_of -/
def preMarks (K : PySem.W.Frag) (C : Addr) : List V → Hp → (V → Hp → Prop) → Prop := fun vs H R => ∃ a dx p t pen A B z, vs = [.ref a, .str z] ∧ NbR C H a dx p t pen A B ∧ Fit A B ∧ LabOk z ∧ R = D K (.tuple ((rawM A B z).map prD))
theorem nbf_no {w : Int} {p t : Addr} {m : Str} (h : decide (m = "pen" ∨ m = "put_in" ∨ m = "taken_out") = false) : (nbf w p t).lookup m = none := by
  have h' := of_decide_eq_false h
  have h1 : (m == ("pen" : Str)) = false := beq_eq_false_iff_ne.mpr fun e => h' (.inl e)
  have h2 : (m == ("put_in" : Str)) = false := beq_eq_false_iff_ne.mpr fun e => h' (.inr (.inl e))
  have h3 : (m == ("taken_out" : Str)) = false := beq_eq_false_iff_ne.mpr fun e => h' (.inr (.inr e))
  unfold nbf
  simp only [List.lookup, h1, h2, h3]
theorem ok_marks_of {f : Addr} {fd : FuncData} (F : Fun K "marks_of" "Notebook.marks_of" s_Notebook_marks_of f fd) (T : Txt K mg C aO t8) (c_check_label : Cal P w K mg base "check_label" 2 p_check_label (SpOf preCheckL))
    (c_Notebook_raw_marks : MCal P w K mg base C "raw_marks" 1 p_Notebook_raw_marks (SpOf (preRaw C))) : FnOk P w K mg base CX0 3 f fd p_Notebook_marks_of (SpOf (preMarks K C)) := by
  refine F.ok sc_Notebook_marks_of (fun vs H Q E h => ?_) (fun cdv A outer s H vs Q E hr h => ?_)
  · obtain ⟨R, ⟨a, dx, p, t, pen, A, B, z, rfl, _⟩, _⟩ := h
    rfl
  · obtain ⟨R, ⟨a, dx, p, t, pen, A, B, z, rfl, nb, ft, hz, rfl⟩, q⟩ := h
    have hu := hr.units
    have hu1 := hu_of hr
    refine ⟨_, (pss_cons (ps_expr (pe_call c_check_label.ok (hr.mono (by first | decide | omega)) (by rfl) c_check_label.at_ c_check_label.kp c_check_label.b .nil pass0 (pa_cons (pv 1) pa_nil)))
      (pss_one (ps_ret (pe_callTy (k_tuple (K' := K) rfl) (by rfl) T.b_tuple (by decide +kernel) (pa_cons (pe_meth (pv 0) T.cl c_Notebook_raw_marks.m c_Notebook_raw_marks.ok (hr.mono (by first | decide | omega)) c_Notebook_raw_marks.b .nil pass0 (pa_cons (pv 1) pa_nil)) pa_nil))))), ?_⟩
    refine EvS.body (es_drop (P1 := Is .non) (ev_call (ea_cons (ev_var rfl) ea_nilV) fun _ _ => ⟨z, rfl, hz, rfl⟩) fun v H2 f2 _ => es_ret (ev_tupleD ?_)) q
    have nb2 := nb.fx f2
    exact (ev_meth (P := NewPrs H2 (rawM A B z)) (ev_var rfl) nb2.ins (nbf_no (by decide +kernel)) (ea_cons (ev_var rfl) ea_nilV) fun H' g => ⟨a, dx, p, t, pen, A, B, z, rfl, nb2.fx g, ft, hz, H2, g, rfl⟩).imp fun v H3 _ h => newPrs_tup h
/-! ### knows -/
def knowsM (A : TA) (B : TB) (A2 : TA) (B2 : TB) : Bool := (A2.all fun p => hasA A p.1) && B2.all fun p => B.contains p
def preKnows (C : Addr) : List V → Hp → (V → Hp → Prop) → Prop := fun vs H R => ∃ a dx p t pen A B a2 dx2 p2 t2 pen2 A2 B2, vs = [.ref a, .ref a2] ∧ NbR C H a dx p t pen A B ∧ NbR C H a2 dx2 p2 t2 pen2 A2 B2 ∧ Fit A2 B2 ∧ R = Is (.bl (knowsM A B A2 B2))
theorem ok_knows {f : Addr} {fd : FuncData} (F : Fun K "knows" "Notebook.knows" s_Notebook_knows f fd) (T : Txt K mg C aO t8) (c_check_notebook : Cal P w K mg base "check_notebook" 1 p_check_notebook (SpOf (preCheckN C))) :
    FnOk P w K mg base CX0 2 f fd p_Notebook_knows (SpOf (preKnows C)) := by
  refine F.ok sc_Notebook_knows (fun vs H Q E h => ?_) (fun cdv A outer s H vs Q E hr h => ?_)
  · obtain ⟨R, ⟨a, dx, p, t, pen, A, B, a2, dx2, p2, t2, pen2, A2, B2, rfl, _⟩, _⟩ := h
    rfl
  · obtain ⟨R, ⟨a, dx, p, t, pen, A, B, a2, dx2, p2, t2, pen2, A2, B2, rfl, nb, nb2, ft, rfl⟩, q⟩ := h
    have hu := hr.units
    have hu1 := hu_of hr
    refine ⟨_, (pss_cons (ps_expr (pe_call c_check_notebook.ok (hr.mono (by first | decide | omega)) (by rfl) c_check_notebook.at_ c_check_notebook.kp c_check_notebook.b .nil pass0 (pa_cons (pv 1) pa_nil)))
      (pss_cons (ps_if (pt_not (pt_val (pe_callB (k_all (K' := K) rfl rfl) (by rfl) T.b_all (by decide +kernel) (pa_cons (pe_lk (pe_lc (own := [("mark", 2)]) rfl sc_Notebook_knows.nd (k_piAny (K' := K) rfl (pe_fldK (K' := K) rfl (pv 1) (by rfl))) (blkOk_by (N := n_Notebook_knows) (sc := defScope s_Notebook_knows) (by decide +kernel)) (fun _ _ _ _ _ => (pg_name (i := 2) sc_Notebook_knows.nd rfl (.inl rfl))) (fun _ _ _ _ _ => pts_nil) (fun _ _ _ _ _ => (pe_cmp (pc_din hu1 (pv 2) (pe_fldK (K' := K) rfl (pv 0) (by rfl))) (by rfl))))) pa_nil)))) (pss_one (ps_ret pe_bl)) pss_nil)
      (pss_one (ps_ret (pe_callB (k_all (K' := K) rfl rfl) (by rfl) T.b_all (by decide +kernel) (pa_cons (pe_lk (pe_lc (own := [("mark", 2)]) rfl sc_Notebook_knows.nd (k_piAny (K' := K) rfl (pe_fldK (K' := K) rfl (pv 1) (by rfl))) (blkOk_by (N := n_Notebook_knows) (sc := defScope s_Notebook_knows) (by decide +kernel)) (fun _ _ _ _ _ => (pg_name (i := 2) sc_Notebook_knows.nd rfl (.inl rfl))) (fun _ _ _ _ _ => pts_nil) (fun _ _ _ _ _ => (pe_cmp (pc_din hu1 (pv 2) (pe_fldK (K' := K) rfl (pv 0) (by rfl))) (by rfl))))) pa_nil)))))), ?_⟩
    refine EvS.body (es_drop (P1 := Is .non) (ev_call (ea_cons (ev_var rfl) ea_nilV) fun H' g => ⟨a2, _, _, rfl, (nb2.fx g).ins, rfl⟩) fun v H2 f2 _ => ?_) q
    have m1 := nb.fx f2
    have m2 := nb2.fx f2
    refine es_ifT (b := !(A2.all fun p => hasA A p.1)) (et_not (et_B (ev_all (l := A2) (f := fun p => hasA A p.1) (ev_lkL m2.put rfl trivial (fun _ _ _ _ _ h => h) fun H1 od g hd => ?_)))) (fun e => es_ret ?_) fun e H3 f3 => es_ret ?_
    · refine ev_lcA (it_aK (it_keysA (ev_fld (ev_var rfl) (g.nd m2.ins rfl) T.cl T.n_put nbf_put) hd)) (Nat.le_trans ft.len (by decide)) (fun m H3 x hm f3 hx => ?_) fun _ _ _ _ _ h => h
      obtain ⟨r, rfl, h2⟩ := hx
      have m3 := m1.fx (g.trans f3)
      exact tg_name rfl et_yes fun _ => ev_is (ev_din (ev_var rfl) (ev_fld (ev_var rfl) m3.ins T.cl T.n_put nbf_put) m3.put h2) (by rw [isSome_toA])
    · refine ev_is ev_c ?_
      rw [Bool.not_eq_true'] at e
      unfold knowsM
      rw [e]
      rfl
    · rw [Bool.not_eq_false'] at e
      unfold knowsM
      rw [e, Bool.true_and]
      have m31 := m1.fx f3
      have m32 := m2.fx f3
      refine ev_all (l := B2) (f := fun p => B.contains p) (ev_lkL m32.out rfl trivial (fun _ _ _ _ _ h => h) fun H1 od g hd => ?_)
      refine ev_lcA (it_aK (it_keysB (ev_fld (ev_var rfl) (g.nd m32.ins rfl) T.cl T.n_out nbf_out) hd)) (Nat.le_trans ft.lenB (by decide)) (fun m H3 x hm f3 hx => ?_) fun _ _ _ _ _ h => h
      obtain ⟨r, rfl, h2⟩ := hx
      have m3 := m31.fx (g.trans f3)
      exact tg_name rfl et_yes fun _ => ev_is (ev_din (ev_var rfl) (ev_fld (ev_var rfl) m3.ins T.cl T.n_out nbf_out) m3.out h2) (by rw [valV_toB])
/-! ### all_told -/
def told1 (A : TA) (m : PI2) : PyData := .tuple [.int m.1, .int m.2, .str ((lookA A m).getD ⟨#[]⟩)]
def told (A : TA) (B : TB) : PyData := .tuple [.tuple ((sortP (A.map (·.1))).map (told1 A)), .tuple ((sortP B).map prD)]
def preTold (K : PySem.W.Frag) (C : Addr) : List V → Hp → (V → Hp → Prop) → Prop := fun vs H R => ∃ a dx p t pen A B, vs = [.ref a] ∧ NbR C H a dx p t pen A B ∧ Fit A B ∧ R = D K (told A B)
theorem hasA_look {A : TA} {m : PI2} (h : m ∈ A.map (·.1)) : ∃ z, lookA A m = some z := by
  unfold lookA
  cases e : A.find? fun p => p.1 == m with
  | some p => exact ⟨p.2, rfl⟩
  | none =>
    obtain ⟨q, hq, e2⟩ := List.mem_map.mp h
    have := List.find?_eq_none.mp e q hq
    rw [e2] at this
    simp at this
theorem yin_prs {H : Hp} : ∀ {rs : List Addr} {ps : List PI2}, Prs H rs ps → YIn ps (rs.map V.ref) (fun p x H' => ∃ r, x = .ref r ∧ H' r = some (.tup [.int p.1, .int p.2])) H
  | _, _, .nil => .nil
  | _, _, .cons a b => .cons (fun H' f => ⟨_, rfl, f.nd a rfl⟩) (yin_prs b)
def YPr : PI2 → V → Hp → Prop := fun p x H' => ∃ r, x = .ref r ∧ H' r = some (.tup [.int p.1, .int p.2])
theorem it_newPrs {te : TE} {H H0 : Hp} {σ : L2.St} {ps : List PI2} (h : EvR (te σ) H (NewPrs H0 ps)) : ItR (iList K te σ) H ps YPr := it_listP (h.imp fun v H2 f2 h => by
  obtain ⟨p2, rs, e, _, h1, h2⟩ := h
  exact ⟨p2, _, e, SqL.of h1, yin_prs h2⟩)
theorem ev_varD {H : Hp} {σ : L2.St} {i : Nat} {v : V} {d : PyData} (h : σ[i]? = some (some v)) (hd : Td K H v d) : EvR (tVar i σ) H (D K d) := (ev_var h).imp fun x H2 f2 e => by
  cases e
  exact hd.tm f2.tm
theorem rv_cat {H : Hp} {a b : Addr} {xs ys : List V} (h1 : SqT K H a xs) (h2 : SqT K H b ys) (n1 : xs ≠ []) (n2 : ys ≠ []) (hl : xs.length + ys.length ≤ sizeLine) : EvR (rAddU K (.ref a) (.ref b)) H (New H (.tup (xs ++ ys))) := fun H2 g Q q =>
  .inr (.inr ⟨a, b, xs, ys, rfl, rfl, g.sqT h1, g.sqT h2, hl, fun z => (n1 z).elim, fun _ z => (n2 z).elim, fun _ _ p hp => q _ _ (same_new hp) ⟨p, rfl, g.fresh hp, upd_same⟩⟩)
theorem newL_tup {H : Hp} {l : List α} {g : α → PyData} {v : V} {H2 : Hp} (h : NewL H l (fun a => D K (g a)) v H2) : ∃ p ys, v = .ref p ∧ H2 p = some (.lst ys) ∧ TdAll K H2 ys (l.map g) := by
  obtain ⟨p, ys, a, _, b, c⟩ := h
  refine ⟨p, ys, a, b, ?_⟩
  clear b a
  induction c with
  | nil => exact .nil
  | cons r t ih => exact .cons r ih
theorem ok_all_told {f : Addr} {fd : FuncData} (F : Fun K "all_told" "Notebook.all_told" s_Notebook_all_told f fd) (T : Txt K mg C aO t8) : FnOk P w K mg base CX0 1 f fd p_Notebook_all_told (SpOf (preTold K C)) := by
  refine F.ok sc_Notebook_all_told (fun vs H Q E h => ?_) (fun cdv A outer s H vs Q E hr h => ?_)
  · obtain ⟨R, ⟨a, dx, p, t, pen, A, B, rfl, _⟩, _⟩ := h
    rfl
  · obtain ⟨R, ⟨a, dx, p, t, pen, A, B, rfl, nb, ft, rfl⟩, q⟩ := h
    have hu := hr.units
    have hu1 := hu_of hr
    have keysA : (toA A).map (·.1) = (A.map (·.1)).map pk := by
      unfold toA
      rw [List.map_map, List.map_map]
      rfl
    have keysB : (toB B).map (·.1) = B.map pk := by
      unfold toB
      rw [List.map_map]
      rfl
    refine ⟨_, (pss_cons (ps_set (i := 1) sc_Notebook_all_told.nd rfl (.inl rfl) (pe_callTy (k_tuple (K' := K) rfl) (by rfl) T.b_tuple (by decide +kernel) (pa_cons (pe_lc (own := [("mark", 2)]) rfl sc_Notebook_all_told.nd (k_piAny (K' := K) rfl (pe_callB (k_sorted (K' := K) rfl rfl) (by rfl) T.b_sorted (by decide +kernel) (pa_cons (pe_fldK (K' := K) rfl (pv 0) (by rfl)) pa_nil))) (blkOk_by (N := n_Notebook_all_told) (sc := defScope s_Notebook_all_told) (by decide +kernel)) (fun _ _ _ _ _ => (pg_name (i := 2) sc_Notebook_all_told.nd rfl (.inl rfl))) (fun _ _ _ _ _ => pts_nil) (fun _ _ _ _ _ => (pe_op (k_addU (K' := K) rfl) (pv 2) (pe_tup (pa_cons (pe_dget hu1 (pe_fldK (K' := K) rfl (pv 0) (by rfl)) (pv 2) (fun _ _ => rfl)) pa_nil))))) pa_nil)))
      (pss_one (ps_ret (pe_tup (pa_cons (pv 1) (pa_cons (pe_callTy (k_tuple (K' := K) rfl) (by rfl) T.b_tuple (by decide +kernel) (pa_cons (pe_callB (k_sorted (K' := K) rfl rfl) (by rfl) T.b_sorted (by decide +kernel) (pa_cons (pe_fldK (K' := K) rfl (pv 0) (by rfl)) pa_nil)) pa_nil)) pa_nil)))))), ?_⟩
    refine EvS.body (es_asg (P1 := D K (.tuple ((sortP (A.map (·.1))).map (told1 A)))) (ev_tupleD ?_) fun v H2 f2 hv => es_ret ?_) q
    · refine (ev_lcA (l := sortP (A.map (·.1))) (F := fun m => D K (told1 A m)) (it_aL (it_newPrs (ev_sortedDT (ev_fld (ev_var rfl) nb.ins T.cl T.n_put nbf_put) nb.put keysA))) ?_ (fun m H3 x hm f3 hx => ?_) fun _ _ _ _ t h => h.tm t).imp fun v H2 _ h => newL_tup h
      · rw [(sortP_perm _).length_eq, List.length_map]
        exact Nat.le_trans ft.len (by decide)
      · obtain ⟨r, rfl, h2⟩ := hx
        have m3 := nb.fx f3
        obtain ⟨z, hz⟩ := hasA_look ((sortP_perm _).mem_iff.mp hm)
        refine tg_name rfl et_yes fun _ => ev_opP (P1 := Is (.ref r)) (P2 := New H3 (.tup [.str z])) (ev_var rfl) (fun x H4 f4 _ => (ev_tup (ea_cons (ev_dget (q := r) (a := p) (kk := pk m) (ev_fld (ev_var rfl) ((m3.fx f4).ins) T.cl T.n_put nbf_put) (ev_var rfl) ((m3.fx f4).put) (f4.nd h2 rfl) (by rw [valV_toA, hz]; rfl)) ea_nilV) (by show 1 ≤ sizeLine; decide)).imp fun v H5 f5 h => new_fx f4 h) fun x y H4 H5 f4 e4 f5 h5 => ?_
        cases e4
        obtain ⟨b2, rfl, _, hb⟩ := h5
        refine (rv_cat (SqT.of ((f4.trans f5).nd h2 rfl)) (SqT.of hb) (by simp) (by simp) (by show 2 + 1 ≤ sizeLine; decide)).imp fun v H6 f6 h => ?_
        obtain ⟨p3, rfl, _, h3⟩ := h
        refine .tup h3 (.cons (.int _) (.cons (.int _) (.cons ?_ .nil)))
        rw [hz]
        exact .str z
    · have nb2 := nb.fx f2
      exact ev_tupD (ea_consD (ev_varD rfl hv) (ea_consD (ev_tupleD ((ev_sortedDT (ev_fld (ev_var rfl) nb2.ins T.cl T.n_out nbf_out) nb2.out keysB).imp fun v H3 f3 h => newPrs_tup h)) ea_nilD)) (by show 2 ≤ sizeLine; decide)
end N88
/-! tables as lists of marks -/
namespace N88
open PySem L2 PySem.Spec
def insM (M : List PI2) (m : PI2) : List PI2 := if M.contains m then M else M ++ [m]
def mrg (M N : List PI2) : List PI2 := N.foldl insM M
def tab (W : PI2 → Str) (M : List PI2) : TA := M.map fun m => (m, W m)
theorem mem_insM {M : List PI2} {m x : PI2} : x ∈ insM M m ↔ x ∈ M ∨ x = m := by
  unfold insM
  by_cases h : M.contains m
  · rw [if_pos h]
    refine ⟨.inl, fun z => z.elim id fun e => ?_⟩
    subst e
    exact List.contains_iff_mem.mp h
  · rw [if_neg h, List.mem_append, List.mem_singleton]
theorem nd_insM {M : List PI2} {m : PI2} (h : M.Nodup) : (insM M m).Nodup := by
  unfold insM
  by_cases c : M.contains m
  · rw [if_pos c]
    exact h
  · rw [if_neg c]
    refine List.nodup_append.mpr ⟨h, by simp, fun a ha b hb e => ?_⟩
    rw [List.mem_singleton] at hb
    subst hb
    subst e
    exact c (List.contains_iff_mem.mpr ha)
theorem mem_mrg {x : PI2} : ∀ {N M : List PI2}, x ∈ mrg M N ↔ x ∈ M ∨ x ∈ N
  | [], M => by simp [mrg]
  | m :: N, M => by
    show x ∈ mrg (insM M m) N ↔ _
    rw [mem_mrg, mem_insM, List.mem_cons, or_assoc]
theorem nd_mrg : ∀ {N M : List PI2}, M.Nodup → (mrg M N).Nodup
  | [], _, h => h
  | _ :: N, _, h => nd_mrg (N := N) (nd_insM h)
theorem mrg_sub : ∀ {N M : List PI2}, (∀ x ∈ N, x ∈ M) → mrg M N = M
  | [], _, _ => rfl
  | m :: N, M, h => by
    have e : insM M m = M := by
      unfold insM
      rw [if_pos (List.contains_iff_mem.mpr (h m List.mem_cons_self))]
    show mrg (insM M m) N = M
    rw [e]
    exact mrg_sub fun x hx => h x (List.mem_cons_of_mem _ hx)
theorem mrg_self (M : List PI2) : mrg M M = M := mrg_sub fun _ h => h
theorem mrg_new : ∀ {N M : List PI2}, (M ++ N).Nodup → mrg M N = M ++ N
  | [], M, _ => (List.append_nil M).symm
  | m :: N, M, h => by
    have hm : ¬ m ∈ M := fun z => (List.nodup_append.mp h).2.2 m z m List.mem_cons_self rfl
    have e : insM M m = M ++ [m] := by
      unfold insM
      rw [if_neg (fun z => hm (List.contains_iff_mem.mp z))]
    show mrg (insM M m) N = _
    rw [e, mrg_new (by rw [List.append_assoc]; exact h), List.append_assoc]
    rfl
theorem mrg_nil {N : List PI2} (h : N.Nodup) : mrg [] N = N := mrg_new (M := []) h
theorem mrg_snoc (M N : List PI2) (m : PI2) : mrg M (N ++ [m]) = insM (mrg M N) m := by
  unfold mrg
  rw [List.foldl_append]
  rfl
/-- marks with a value each -/
def kvF (f : PI2 → V) (M : List PI2) : List (List L2.Key × V) := M.map fun m => (pk m, f m)
theorem toA_tab (W : PI2 → Str) (M : List PI2) : toA (tab W M) = kvF (fun m => .str (W m)) M := by
  unfold toA tab kvF
  rw [List.map_map]
  rfl
theorem toB_kvF (M : List PI2) : toB M = kvF (fun _ => .bl true) M := rfl
theorem kvF_any {f : PI2 → V} {M : List PI2} {m : PI2} : ((kvF f M).any fun kv => decide (kv.1 = pk m)) = M.contains m := by
  induction M with
  | nil => rfl
  | cons p M ih =>
    show (decide (pk p = pk m) || (kvF f M).any fun kv => decide (kv.1 = pk m)) = _
    rw [ih, pk_iff, List.contains_cons]
    congr 1
    rw [Bool.eq_iff_iff]
    simp only [beq_iff_eq]
    exact eq_comm
theorem putK_kvF {f : PI2 → V} {M : List PI2} {m : PI2} : putK (kvF f M) (pk m) (f m) = kvF f (insM M m) := by
  unfold putK insM
  rw [kvF_any]
  by_cases h : M.contains m
  · rw [if_pos h, if_pos h]
    unfold kvF
    rw [List.map_map]
    refine List.map_congr_left fun p _ => ?_
    show (if pk p = pk m then (pk p, f m) else (pk p, f p)) = _
    by_cases e : pk p = pk m
    · rw [if_pos e, pk_inj e]
    · rw [if_neg e]
  · rw [if_neg h, if_neg h]
    unfold kvF
    rw [List.map_append]
    rfl
theorem mergeT_kvF {f : PI2 → V} : ∀ {N M : List PI2}, mergeT (kvF f M) (kvF f N) = kvF f (mrg M N)
  | [], _ => rfl
  | m :: N, M => by
    show mergeT (putK (kvF f M) (pk m) (f m)) (kvF f N) = kvF f (mrg (insM M m) N)
    rw [putK_kvF, mergeT_kvF]
theorem mergeT_B (M N : List PI2) : mergeT (toB M) (toB N) = toB (mrg M N) := by
  rw [toB_kvF, toB_kvF, mergeT_kvF]
  rfl
theorem mergeT_A (W : PI2 → Str) (M N : List PI2) : mergeT (toA (tab W M)) (toA (tab W N)) = toA (tab W (mrg M N)) := by
  rw [toA_tab, toA_tab, mergeT_kvF, toA_tab]
theorem tab_keys (W : PI2 → Str) (M : List PI2) : (tab W M).map (·.1) = M := by
  unfold tab
  rw [List.map_map]
  exact List.map_id M
theorem hasA_tab (W : PI2 → Str) (M : List PI2) (m : PI2) : hasA (tab W M) m = M.contains m := by
  unfold hasA
  rw [tab_keys]
theorem lookA_tab {W : PI2 → Str} {M : List PI2} {m : PI2} (h : m ∈ M) : lookA (tab W M) m = some (W m) := by
  unfold lookA tab
  induction M with
  | nil => cases h
  | cons p M ih =>
    by_cases e : p = m
    · subst e
      rw [List.map_cons, List.find?_cons_of_pos (by simp)]
      rfl
    · rw [List.map_cons, List.find?_cons_of_neg (by simp [e])]
      exact ih ((List.mem_cons.mp h).resolve_left fun z => e z.symm)
/-- the next number of a writer -/
def nxtM (M : List PI2) (w : Int) : Int := ((M.filter fun m => decide (m.1 = w)).map fun m => m.2 + 1).foldl max 0
theorem foldl_max : ∀ (l : List Int) (a : Int), a ≤ l.foldl max a ∧ (∀ x ∈ l, x ≤ l.foldl max a) ∧ (l.foldl max a = a ∨ l.foldl max a ∈ l)
  | [], a => ⟨Int.le_refl a, (fun _ h => by cases h), .inl rfl⟩
  | y :: l, a => by
    obtain ⟨h1, h2, h3⟩ := foldl_max l (max a y)
    have e : (y :: l).foldl max a = l.foldl max (max a y) := rfl
    rw [e]
    refine ⟨by omega, fun x hx => ?_, ?_⟩
    · rcases List.mem_cons.mp hx with z | z
      · subst z
        omega
      · exact h2 x z
    · rcases h3 with z | z
      · rw [z]
        by_cases c : a ≤ y
        · right
          rw [show max a y = y by omega]
          exact List.mem_cons_self
        · left
          omega
      · exact .inr (List.mem_cons_of_mem _ z)
theorem nxtM_of {M : List PI2} {w n : Int} (h0 : 0 ≤ n) (h1 : ∀ m ∈ M, m.1 = w → m.2 + 1 ≤ n) (h2 : n = 0 ∨ ∃ m ∈ M, m.1 = w ∧ n = m.2 + 1) : nxtM M w = n := by
  obtain ⟨a, b, c⟩ := foldl_max ((M.filter fun m => decide (m.1 = w)).map fun m => m.2 + 1) 0
  have up : nxtM M w ≤ n := by
    unfold nxtM
    rcases c with z | z
    · rw [z]
      exact h0
    · obtain ⟨m, hm, e⟩ := List.mem_map.mp z
      rw [← e]
      have hm2 := List.mem_filter.mp hm
      exact h1 m hm2.1 (of_decide_eq_true hm2.2)
  have dn : n ≤ nxtM M w := by
    unfold nxtM
    rcases h2 with z | ⟨m, hm, e1, e2⟩
    · rw [z]
      exact a
    · rw [e2]
      exact b _ (List.mem_map.mpr ⟨m, List.mem_filter.mpr ⟨hm, decide_eq_true e1⟩, rfl⟩)
  omega
theorem nxtM_lt {M : List PI2} {w : Int} {m : PI2} (h : m ∈ M) (e : m.1 = w) : m.2 < nxtM M w := by
  obtain ⟨a, b, c⟩ := foldl_max ((M.filter fun m => decide (m.1 = w)).map fun m => m.2 + 1) 0
  have := b _ (List.mem_map.mpr ⟨m, List.mem_filter.mpr ⟨h, decide_eq_true e⟩, rfl⟩)
  unfold nxtM
  omega
theorem nxtM_new {M : List PI2} {w : Int} : (w, nxtM M w) ∉ M := fun h => by
  have := nxtM_lt h rfl
  simp at this
theorem nxtM_nn {M : List PI2} {w : Int} : 0 ≤ nxtM M w := (foldl_max _ 0).1
theorem nxtM_le {M : List PI2} {w k : Int} (hk : 0 ≤ k) (h : ∀ m ∈ M, m.2 < k) : nxtM M w ≤ k := by
  obtain ⟨a, b, c⟩ := foldl_max ((M.filter fun m => decide (m.1 = w)).map fun m => m.2 + 1) 0
  unfold nxtM
  rcases c with z | z
  · omega
  · obtain ⟨m, hm, e⟩ := List.mem_map.mp z
    rw [← e]
    have := h m (List.mem_filter.mp hm).1
    omega
end N88
/-! notebooks: what changes them -/
namespace N88
open PySem L2 PySem.Spec
/-- all but what stands at S is as it was -/
def But (S : List Addr) (H H' : Hp) : Prop := ∀ b o, b ∉ S → H b = some o → H' b = some o
theorem But.of {S : List Addr} {H H' : Hp} (s : Same H H') : But S H H' := fun b o _ e => s b o e
theorem But.trans {S : List Addr} {H H1 H2 : Hp} (a : But S H H1) (b : But S H1 H2) : But S H H2 := fun x o n e => b x o n (a x o n e)
theorem But.put {S : List Addr} {H H1 : Hp} {p : Addr} {o : HO} (a : But S H H1) (h : p ∈ S) : But S H (upd H1 p o) := fun x u n e => by
  rw [upd_ne fun z => n (by rw [z]; exact h)]
  exact a x u n e
theorem But.mono {S S' : List Addr} {H H1 : Hp} (a : But S H H1) (h : ∀ x ∈ S, x ∈ S') : But S' H H1 := fun x u n e => a x u (fun z => n (h x z)) e
section
variable {K : PySem.W.Frag} {H : Hp} {σ : L2.St} {P P1 : V → Hp → Prop} {x v : V} {b : Bool} {α : Type} {te td ty tv : TE} {t1 t2 : TS} {N : L2.St → Hp → Prop} {D : Ends}
/-! ### statements, as they stand -/
theorem EvS.raw (h : EvS t1 σ H N P) (k : ∀ σ' H2, Same H H2 → N σ' H2 → t2 D σ' H2) (r : ∀ v H2, Same H H2 → P v H2 → D.rt v H2) : tSeq t1 t2 D σ H := h H (Fx.refl H) _ k r
theorem rs_asg {i : Nat} (h : EvR (te σ) H P1) (k : ∀ v H2, Same H H2 → P1 v H2 → t2 D (σ.set i (some v)) H2) : tSeq (tAsg te (gName i)) t2 D σ H := h.run k
theorem rs_drop (h : EvR (te σ) H P1) (k : ∀ v H2, Same H H2 → P1 v H2 → t2 D σ H2) : tSeq (tDrop te) t2 D σ H := h.run k
theorem rs_ret (h : EvR (te σ) H P1) (k : ∀ v H2, Same H H2 → P1 v H2 → D.rt v H2) : tRet te D σ H := h.run k
theorem rs_lkAsg {i : Nat} {d : Addr} {w : HO} (h : Rd H d w) (hw : isDct w = true) (mu : Mut (some w)) (hin : ∀ H1 od, Fx H H1 → H1 d = some (.frz od w) → EvR (te σ) H1 P1)
    (st : ∀ H2 od v, H2 d = some (.frz od w) → P1 v H2 → P1 v (upd H2 d w)) (h2 : ∀ v H2, Same H H2 → P1 v H2 → t2 D (σ.set i (some v)) H2) : tSeq (tLkS (tAsg te (gName i))) t2 D σ H := by
  rcases h with h1 | ⟨od, h1⟩
  · refine .inr ⟨d, w, h1, mu, fun od => ?_⟩
    have fl : Fx H (upd H d (.frz od w)) := fun a o e => by
      by_cases ea : a = d
      · subst ea
        rw [h1] at e
        cases e
        exact .inr ⟨hw, od, upd_same⟩
      · exact .inl (by rw [upd_ne ea]; exact e)
    refine hin _ od fl upd_same _ (Fx.refl _) _ fun v H2 s p => ?_
    have e2 : H2 d = some (.frz od w) := s _ _ upd_same
    refine ⟨e2, ?_⟩
    have s2 : Same H (upd H2 d w) := fun a o e => by
      by_cases ea : a = d
      · subst ea
        rw [h1] at e
        cases e
        exact upd_same
      · rw [upd_ne ea]
        refine s _ _ ?_
        rw [upd_ne ea]
        exact e
    exact h2 v _ s2 (st H2 od v e2 p)
  · refine .inl (hin H od (Fx.refl H) h1 H (Fx.refl _) _ fun v H2 s p => ?_)
    exact h2 v H2 s p
theorem rs_fld {a C dx : Addr} {fs : List (Str × V)} {f : Str} (hv : EvR (tv σ) H P1) (ha : EvR (td σ) H (Is (.ref a))) (hi : H a = some (.ins C dx fs)) (hc : Cls K C) (hn : NoAttr K C f) (hl : fs.length < 1000)
    (hP : ∀ v H1 H2, Same H1 H2 → P1 v H1 → P1 v H2) (k : ∀ v H2, Same H H2 → P1 v H2 → D.nx σ (upd H2 a (.ins C dx (putF f v fs)))) : sFld K td tv f D σ H := hv.run fun v H1 s1 p1 => (ha.mono (Fx.of s1)).run fun x H2 s2 e2 => ⟨a, C, dx, fs, e2, s2 _ _ (s1 _ _ hi), hc, hn, hl, k v H2 (s1.trans s2) (hP _ _ _ s2 p1)⟩
/-- d[k] = v, the keys tuples -/
theorem rs_dput {a q : Addr} {kvs : List (List L2.Key × V)} {kk : List L2.Key} (hv : EvR (tv σ) H (Is v)) (hd : EvR (td σ) H (Is (.ref a))) (hy : EvR (ty σ) H (Is (.ref q))) (ha : H a = some (.dT kvs)) (hq : H q = some (.tup (kk.map kV))) (hl : kvs.length < sizeLine)
    (k : ∀ H3, Same H H3 → t2 D σ (upd H3 a (.dT (putK kvs kk v)))) : tSeq (sDPut td ty tv) t2 D σ H := hv.run fun v' H1 s1 e1 => (hd.mono (Fx.of s1)).run fun x' H2 s2 e2 => (hy.mono ((Fx.of s1).same s2)).run fun y' H3 s3 e3 => by
    cases e1
    cases e2
    cases e3
    have s : Same H H3 := (s1.trans s2).trans s3
    exact ⟨a, _, rfl, DPut.t (s _ _ ha) (s _ _ hq) hl, k H3 s⟩
end
theorem rs_dputL {H : Hp} {σ : L2.St} {v : V} {td ty tv : TE} {D : Ends} {a q : Addr} {kvs : List (List L2.Key × V)} {kk : List L2.Key} (hv : EvR (tv σ) H (Is v)) (hd : EvR (td σ) H (Is (.ref a))) (hy : EvR (ty σ) H (Is (.ref q))) (ha : H a = some (.dT kvs)) (hq : H q = some (.tup (kk.map kV))) (hl : kvs.length < sizeLine)
    (k : ∀ H3, Same H H3 → D.nx σ (upd H3 a (.dT (putK kvs kk v)))) : sDPut td ty tv D σ H := hv.run fun v' H1 s1 e1 => (hd.mono (Fx.of s1)).run fun x' H2 s2 e2 => (hy.mono ((Fx.of s1).same s2)).run fun y' H3 s3 e3 => by
    cases e1
    cases e2
    cases e3
    have s : Same H H3 := (s1.trans s2).trans s3
    exact ⟨a, _, rfl, DPut.t (s _ _ ha) (s _ _ hq) hl, k H3 s⟩
/-- for over a list: what follows the reading of the list -/
theorem rs_forL {K : PySem.W.Frag} {H : Hp} {σ : L2.St} {g : TG} {tb : TS} {D : Ends} {a : Addr} {xs : List V} (Pv : Nat → L2.St → Hp → Prop) (h0 : Pv 0 σ H) (hG : ∀ i σ H, i ≤ xs.length → Pv i σ H → SqL K H a xs)
    (hs : ∀ i x σ H, xs[i]? = some x → Pv i σ H → g x σ H fun σ2 H2 => tb { D with nx := Pv (i + 1), ct := Pv (i + 1), bk := D.nx } σ2 H2) (hd : ∀ σ H, Pv xs.length σ H → D.nx σ H) :
    ∃ W : Nat → Nat → L2.St → Hp → Prop, (∃ m, W 0 m σ H) ∧ ∀ i m σ H, W i m σ H →
      ((Itl K a).stop i H ∧ D.nx σ H) ∨ ((Itl K a).go i H ∧ ∃ N : L2.St → Hp → Prop, (∀ σ' H', N σ' H' → ∃ m', m' < m ∧ W (i + 1) m' σ' H') ∧ ∀ x H', (Itl K a).yld i H x H' → g x σ H' fun σ2 H2 => tb { D with nx := N, ct := N, bk := D.nx } σ2 H2) :=
  for_it walk_list Pv h0 hG (fun i x σ H H' hi p y => by
    obtain ⟨rfl, hx⟩ := y
    exact hs i x σ H' hx p) hd
theorem prs_get {H : Hp} : ∀ {rs : List Addr} {ps : List PI2} {i : Nat} {x : V}, Prs H rs ps → (rs.map V.ref)[i]? = some x → ∃ r, x = .ref r ∧ ∃ m, ps[i]? = some m ∧ H r = some (.tup [.int m.1, .int m.2])
  | _, _, _, _, .nil, h => by simp at h
  | _, _, 0, _, .cons a _, h => by
    simp at h
    exact ⟨_, h.symm, _, rfl, a⟩
  | _, _, i + 1, _, .cons _ t, h => prs_get (i := i) t (by simpa using h)
theorem rs_retL {H : Hp} {σ : L2.St} {te : TE} {P1 : V → Hp → Prop} {D : Ends} (h : EvR (te σ) H P1) (k : ∀ v H2, Same H H2 → P1 v H2 → D.rt v H2) : tRet te D σ H := h.run k
theorem ev_dictT {P : Program} {w : World} {K : PySem.W.Frag} {H : Hp} {σ : L2.St} {te : TE} {a : Addr} {kvs : List (List L2.Key × V)} (h : EvR (te σ) H (Is (.ref a))) (ha : Rd H a (.dT kvs)) (n : (kvs.map fun p => TH P w p.1).Nodup) :
    EvR (tCB (rDictU P w K) (tCons te tNil) σ) H (New H (.dT kvs)) := ev_cb1 h fun H1 g Q q => .inl ⟨a, kvs, rfl, g.rd ha, n, fun p hp => q _ _ (same_new hp) ⟨p, rfl, g.fresh hp, upd_same⟩⟩
/-- d.update(of a new dict) -/
theorem rs_updL {P : Program} {w : World} {K : PySem.W.Frag} {H : Hp} {σ : L2.St} {td te : TE} {D : Ends} {a : Addr} {kvs more : List (List L2.Key × V)} (hd : EvR (td σ) H (Is (.ref a))) (ha : H a = some (.dT kvs)) (he : EvR (te σ) H (New H (.dT more)))
    (n : (more.map fun p => TH P w p.1).Nodup) (hl : kvs.length + more.length ≤ sizeLine) (k : ∀ H2, Same H H2 → D.nx σ (upd H2 a (.dT (mergeT kvs more)))) : tDrop (tBM K "dict" (rUpdT P w) td (tCons te tNil)) D σ H :=
  hd.run fun x H1 s1 e1 => by
    cases e1
    refine ⟨?_, (he.mono (Fx.of s1)).run fun y H2 s2 e2 => ?_⟩
    · exact .inr (.inr (.inl ⟨rfl, .inr ⟨kvs, s1 _ _ ha⟩⟩))
    · obtain ⟨b, rfl, hb0, hb⟩ := e2
      have ha2 := s2 _ _ (s1 _ _ ha)
      exact ⟨a, b, kvs, more, rfl, rfl, (fun z => by rw [z, hb0] at ha; cases ha), ha2, .inl hb, n, hl, k H2 (s1.trans s2)⟩
theorem rs_upd {P : Program} {w : World} {K : PySem.W.Frag} {H : Hp} {σ : L2.St} {td te : TE} {t2 : TS} {D : Ends} {a : Addr} {kvs more : List (List L2.Key × V)} (hd : EvR (td σ) H (Is (.ref a))) (ha : H a = some (.dT kvs)) (he : EvR (te σ) H (New H (.dT more)))
    (n : (more.map fun p => TH P w p.1).Nodup) (hl : kvs.length + more.length ≤ sizeLine) (k : ∀ H2, Same H H2 → t2 D σ (upd H2 a (.dT (mergeT kvs more)))) : tSeq (tDrop (tBM K "dict" (rUpdT P w) td (tCons te tNil))) t2 D σ H := rs_updL hd ha he n hl k
/-! what changes the heap: as it stands -/
section
variable {H : Hp} {σ : L2.St} {te : TE} {ta : L2.TA} {t2 : TS} {D : Ends} {i : Nat} {vs : List V} {sp : Sp} {E : XK} {Q : VK} {C a dx : Addr} {m : Str} {fs : List (Str × V)}
theorem rs_asgK (h : te σ H fun v H' => t2 D (σ.set i (some v)) H') : tSeq (tAsg te (gName i)) t2 D σ H := h
theorem rs_dropK (h : te σ H fun _ H' => t2 D σ H') : tSeq (tDrop te) t2 D σ H := h
theorem rs_retK (h : te σ H D.rt) : tRet te D σ H := h
theorem k_call (ha : EvA (ta σ) H (IsL vs)) (h : ∀ H', Same H H' → sp (vs ++ []) H' Q E) : tCall sp [] E ta σ H Q := ha H (Fx.refl H) _ fun ws H' s e => by
  cases e
  exact h H' s
theorem k_meth (ho : EvR (te σ) H (Is (.ref a))) (hi : H a = some (.ins C dx fs)) (hl : fs.lookup m = none) (ha : EvA (ta σ) H (IsL vs)) (h : ∀ H', Same H H' → sp (.ref a :: (vs ++ [])) H' Q E) : tMeth C m sp [] E te ta σ H Q :=
  ho.run fun o H1 s1 e1 => ⟨a, dx, fs, e1, s1 _ _ hi, hl, (ha.mono (Fx.of s1)) H1 (Fx.refl H1) _ fun ws H2 s2 e2 => by
    cases e1
    cases e2
    exact h H2 (s1.trans s2)⟩
theorem k_make (ha : EvA (ta σ) H (IsL vs)) (h : ∀ H' x dx, Same H H' → H' x = none → H' dx = none → dx ≠ x → sp (.ref x :: (vs ++ [])) (upd (upd H' dx (.own x)) x (.ins C dx [])) (fun v H2 => v = .non ∧ Q (.ref x) H2) E) : tMake C sp [] E ta σ H Q :=
  ha H (Fx.refl H) _ fun ws H' s e x dx h1 h2 h3 => by
    cases e
    exact h H' x dx s h1 h2 h3
end
/-- a class that is called -/
structure MMk (P : Program) (w : World) (K : PySem.W.Frag) (mg : Str → Option Value) (base : Heap) (C : Addr) (k : Nat) (ps : List Str) (sp : Sp) where
  f : Addr
  fd : FuncData
  mkd : Mk K C f
  ok : FnOk P w K mg base CX0 k f fd ps sp
  b : Binds K fd ps []
theorem new_same {H H1 H2 : Hp} {o : HO} {v : V} (s : Same H1 H2) (h : New H o v H1) : New H o v H2 := by
  obtain ⟨p, a, b, c⟩ := h
  exact ⟨p, a, b, s _ _ c⟩
theorem newL_same {α : Type} {H H1 H2 : Hp} {l : List α} {F : α → V → Hp → Prop} {v : V} (hP : ∀ a v H H', Tm H H' → F a v H → F a v H') (s : Same H1 H2) (h : NewL H l F v H1) : NewL H l F v H2 := by
  obtain ⟨p, ys, a, b, c, d⟩ := h
  exact ⟨p, ys, a, b, s _ _ c, paired_tm hP (Fx.of s).tm d⟩
theorem But.same {S : List Addr} {H H1 H2 : Hp} (a : But S H H1) (s : Same H1 H2) : But S H H2 := fun b o n e => s _ _ (a b o n e)
theorem But.nil {H H1 : Hp} (a : But [] H H1) : Same H H1 := fun b o e => a b o (by simp) e
theorem But.fresh {S : List Addr} {H H1 : Hp} (a : But S H H1) (h : ∀ x ∈ S, H x = none) : Same H H1 := fun b o e => a b o (fun z => by rw [h b z] at e; cases e) e
variable {P : Program} {w : World} {K : PySem.W.Frag} {mg : Str → Option Value} {base : Heap} {C aO : Addr} {t8 : Tok}
/-! ### __init__ -/
def SpInit (C : Addr) : Sp := fun vs H Q _ => ∃ x dx w, vs = [.ref x, .int w] ∧ 0 ≤ w ∧ w ≤ 8 ∧ H x = some (.ins C dx []) ∧
  ∀ H' p t, But [x] H H' → H' x = some (.ins C dx (nbf w p t)) → H' p = some (.dT []) → H' t = some (.dT []) → H p = none → H t = none → p ≠ t → Q .non H'
theorem ok_init {f : Addr} {fd : FuncData} (F : Fun K "__init__" "Notebook.__init__" s_Notebookd__initd_ f fd) (T : Txt K mg C aO t8) (c_check_writer : Cal P w K mg base "check_writer" 3 p_check_writer (SpOf preCheckW)) :
    FnOk P w K mg base CX0 4 f fd p_Notebookd__initd_ (SpInit C) := by
  refine F.ok sc_Notebookd__initd_ (fun vs H Q E h => ?_) (fun cdv A outer s H vs Q E hr h => ?_)
  · obtain ⟨x, dx, w, rfl, _⟩ := h
    rfl
  · obtain ⟨x, dx, w, rfl, h0, h8, hx, q⟩ := h
    have hu := hr.units
    have hu1 := hu_of hr
    refine ⟨_, (pss_cons (ps_expr (pe_call c_check_writer.ok (hr.mono (by first | decide | omega)) (by rfl) c_check_writer.at_ c_check_writer.kp c_check_writer.b .nil pass0 (pa_cons (pv 1) pa_nil)))
      (pss_cons (ps_fld (pv 0) (pv 1) rfl)
      (pss_cons (ps_fld (pv 0) pe_dnewT rfl)
      (pss_one (ps_fld (pv 0) pe_dnewT rfl))))), ?_⟩
    refine rs_drop (P1 := Is .non) (ev_call (ea_cons (ev_var rfl) ea_nilV) fun _ _ => ⟨w, rfl, h0, h8, rfl⟩) fun v H1 s1 _ => ?_
    refine rs_fld (P1 := Is (.int w)) (ev_var rfl) (ev_var rfl) (s1 _ _ hx) T.cl T.n_pen (by decide) (fun _ _ _ _ h => h) fun v H2 s2 e2 => ?_
    cases e2
    have b2 : But [x] H (upd H2 x (.ins C dx (putF "pen" (.int w) []))) := (But.of (s1.trans s2)).put List.mem_cons_self
    refine rs_fld (P1 := New (upd H2 x (.ins C dx (putF "pen" (.int w) []))) (.dT [])) ev_dnewT (ev_var rfl) upd_same T.cl T.n_put (by show 1 < 1000; omega) (fun _ _ _ s h => new_same s h) fun v H3 s3 h3 => ?_
    obtain ⟨p, rfl, hp0, hp⟩ := h3
    have px : p ≠ x := fun z => by rw [z, upd_same] at hp0; cases hp0
    have hpn : H p = none := by
      rw [upd_ne px] at hp0
      exact (Fx.of (s1.trans s2)).fresh hp0
    have b3 : But [x] H (upd H3 x (.ins C dx (putF "put_in" (.ref p) (putF "pen" (.int w) [])))) := (b2.same s3).put List.mem_cons_self
    have hp3 : (upd H3 x (.ins C dx (putF "put_in" (.ref p) (putF "pen" (.int w) [])))) p = some (.dT []) := by rw [upd_ne px]; exact hp
    refine rs_fld (P1 := New (upd H3 x (.ins C dx (putF "put_in" (.ref p) (putF "pen" (.int w) [])))) (.dT [])) ev_dnewT (ev_var rfl) upd_same T.cl T.n_out (by show 2 < 1000; omega) (fun _ _ _ s h => new_same s h) fun v H4 s4 h4 => ?_
    obtain ⟨t, rfl, ht0, ht⟩ := h4
    have tx : t ≠ x := fun z => by rw [z, upd_same] at ht0; cases ht0
    have htn : H t = none := by
      cases e : H t with
      | none => rfl
      | some o =>
        have := b3 t o (by simp [tx]) e
        rw [ht0] at this
        cases this
    have tp : p ≠ t := fun z => by rw [← z, hp3] at ht0; cases ht0
    refine q _ p t ((b3.same s4).put List.mem_cons_self) ?_ ?_ ?_ hpn htn tp
    · exact upd_same
    · rw [upd_ne px]
      exact s4 _ _ hp3
    · rw [upd_ne tx]
      exact ht

/-! ### add -/
theorem rv_catL {H : Hp} {a b : Addr} {xs ys : List V} (h1 : H a = some (.lst xs)) (h2 : H b = some (.lst ys)) (hl : xs.length + ys.length ≤ sizeLine) : EvR (rAddU K (.ref a) (.ref b)) H (New H (.lst (xs ++ ys))) := fun H2 g Q q =>
  .inr (.inl ⟨a, b, xs, ys, rfl, rfl, g.nd h1 rfl, g.nd h2 rfl, hl, fun p hp => q _ _ (same_new hp) ⟨p, rfl, g.fresh hp, upd_same⟩⟩)
theorem ints_of {H2 : Hp} {α : Type} {g : α → Int} : ∀ {l : List α} {ys : List V}, Paired (fun a y => Is (.int (g a)) y H2) l ys → ys = (l.map g).map V.int
  | _, _, .nil => rfl
  | _, _, .cons a t => by
    cases a
    rw [ints_of t]
    rfl
/-- marks that fit -/
structure FitM (M : List PI2) : Prop where
  nd : M.Nodup
  rg : ∀ p ∈ M, InR p
theorem FitM.len {M : List PI2} (f : FitM M) : M.length ≤ 576 := marks_le f.nd f.rg
theorem FitM.mrg {M N : List PI2} (f : FitM M) (g : FitM N) : FitM (N88.mrg M N) := ⟨nd_mrg f.nd, fun p hp => (mem_mrg.mp hp).elim (f.rg p) (g.rg p)⟩
theorem fit_of {W : PI2 → Str} {M B : List PI2} (f : FitM M) (g : FitM B) (hw : ∀ m ∈ M, W m ∈ labels8) : Fit (tab W M) B := by
  refine ⟨by rw [tab_keys]; exact f.nd, fun p hp => ?_, fun p hp => ?_, g.nd, g.rg⟩
  · obtain ⟨m, hm, rfl⟩ := List.mem_map.mp hp
    exact f.rg m hm
  · obtain ⟨m, hm, rfl⟩ := List.mem_map.mp hp
    exact hw m hm
def SpAdd (C : Addr) : Sp := fun vs H Q _ => ∃ a dx p t pen A z, vs = [.ref a, .str z] ∧ z ∈ labels8 ∧ H a = some (.ins C dx (nbf pen p t)) ∧ H p = some (.dT (toA A)) ∧ FitM (A.map (·.1)) ∧
  ∀ r H', But [p] H H' → H' r = some (.tup [.int pen, .int (nxtM (A.map (·.1)) pen)]) → H' p = some (.dT (putK (toA A) (pk (pen, nxtM (A.map (·.1)) pen)) (.str z))) → Q (.ref r) H'
theorem ok_add {f : Addr} {fd : FuncData} (F : Fun K "add" "Notebook.add" s_Notebook_add f fd) (T : Txt K mg C aO t8) (c_check_label : Cal P w K mg base "check_label" 2 p_check_label (SpOf preCheckL)) :
    FnOk P w K mg base CX0 3 f fd p_Notebook_add (SpAdd C) := by
  refine F.ok sc_Notebook_add (fun vs H Q E h => ?_) (fun cdv A outer s H vs Q E hr h => ?_)
  · obtain ⟨a, dx, p, t, pen, A, z, rfl, _⟩ := h
    rfl
  · obtain ⟨a, dx, p, t, pen, A, z, rfl, hz, ha, hp, ft, q⟩ := h
    have hu := hr.units
    have hu1 := hu_of hr
    have hl : A.length ≤ 576 := by
      have := ft.len
      rw [List.length_map] at this
      exact this
    refine ⟨_, (pss_cons (ps_expr (pe_call c_check_label.ok (hr.mono (by first | decide | omega)) (by rfl) c_check_label.at_ c_check_label.kp c_check_label.b .nil pass0 (pa_cons (pv 1) pa_nil)))
      (pss_cons (ps_lk (ps_setLc (own := [("writer", 4), ("number", 5)]) (i := 2) rfl sc_Notebook_add.nd rfl rfl (sw_true rfl rfl rfl (by decide +kernel)) (k_piAny (K' := K) rfl (pe_fldK (K' := K) rfl (pv 0) (by rfl))) (blkOk_by (N := n_Notebook_add) (sc := defScope s_Notebook_add) (by decide +kernel)) (fun _ _ _ _ _ => (k_pair (K' := K) (i := 4) (j := 5) rfl rfl sc_Notebook_add.nd rfl rfl (.inl rfl) (.inl rfl) (.inr rfl) (.inr rfl))) (fun _ _ _ _ _ => (pts_one (pt_cmpR (k_eqD (K' := K) rfl hu) (pv 4) (pe_fldK (K' := K) rfl (pv 0) (by rfl)) (nomark _)))) (fun _ _ _ _ _ => (pv 5))))
      (pss_cons (ps_set (i := 3) sc_Notebook_add.nd rfl (.inl rfl) (pe_tup (pa_cons (pe_fldK (K' := K) rfl (pv 0) (by rfl)) (pa_cons (pe_op (k_addU (K' := K) rfl) (pe_callB (k_max (K' := K) rfl rfl) (by rfl) T.b_max (by decide +kernel) (pa_cons (pe_op (k_addU (K' := K) rfl) (pe_lst (pa_cons (pe_un un_neg pe_int) pa_nil)) (pv 2)) pa_nil)) pe_int) pa_nil))))
      (pss_cons (ps_dput hu1 (pe_fldK (K' := K) rfl (pv 0) (by rfl)) (pv 3) (pv 1) rfl)
      (pss_one (ps_ret (pv 3))))))), ?_⟩
    refine rs_drop (P1 := Is .non) (ev_call (ea_cons (ev_var rfl) ea_nilV) fun _ _ => ⟨z, rfl, lab8 z hz, rfl⟩) fun v H1 s1 _ => ?_
    have ha1 := s1 _ _ ha
    have hp1 := s1 _ _ hp
    refine rs_lkAsg (P1 := NewL H1 (A.filter fun m => decide (m.1.1 = pen)) fun m => Is (.int m.1.2)) (.inl hp1) rfl trivial (fun H2 od g hd => ?_) (st_newL rfl fun _ _ _ _ _ h => h) fun v H2 s2 hv => ?_
    · refine EvR.imp (P := NewL H2 (A.filter fun m => decide (m.1.1 = pen)) fun m => Is (.int m.1.2)) ?_ fun v H3 _ p => ?_
      · refine ev_lc (it_aK (it_keysA (ev_fld (ev_var rfl) (g.nd ha1 rfl) T.cl T.n_put nbf_put) hd)) (Nat.le_trans hl (by decide)) (fun m H3 x hm f3 hx => ?_) fun _ _ _ _ _ h => h
        obtain ⟨r, rfl, h2⟩ := hx
        refine tg_pair (SqT.of h2) rfl (et_test (ev_op (ev_var rfl) (ev_fld (ev_var rfl) ((g.trans f3).nd ha1 rfl) T.cl T.n_pen nbf_pen) (ev_is (rv_eqD (.int _) (.int _) shaped_int shaped_int) (by rw [eqv_int])))) fun _ => ev_var rfl
      · obtain ⟨q, ys, a, b, c, d⟩ := p
        exact ⟨q, ys, a, g.fresh b, c, d⟩
    · obtain ⟨o, ys, rfl, _, ho, hy⟩ := hv
      have hy2 := ints_of (g := fun m : PI2 × Str => m.1.2) hy
      subst hy2
      have ha2 := s2 _ _ ha1
      have hp2 := s2 _ _ hp1
      generalize hO : (A.filter fun m => decide (m.1.1 = pen)).map (fun m : PI2 × Str => m.1.2) = O at ho
      have hO2 : ∀ n, n ∈ O ↔ (pen, n) ∈ A.map (·.1) := fun n => by
        rw [← hO, List.mem_map, List.mem_map]
        constructor
        · rintro ⟨m, hm, rfl⟩
          have := List.mem_filter.mp hm
          exact ⟨m, this.1, Prod.ext (of_decide_eq_true this.2) rfl⟩
        · rintro ⟨m, hm, e⟩
          exact ⟨m, List.mem_filter.mpr ⟨hm, decide_eq_true (by rw [e])⟩, by rw [e]⟩
      have hOl : O.length ≤ 576 := by
        rw [← hO, List.length_map]
        exact Nat.le_trans (List.length_filter_le _ _) hl
      refine rs_asg (P1 := New H2 (.tup [.int pen, .int (nxtM (A.map (·.1)) pen)])) (ev_tup (ea_cons (ev_fld (ev_var rfl) ha2 T.cl T.n_pen nbf_pen) (ea_cons (ev_op (x := .int (nxtM (A.map (·.1)) pen - 1)) (y := .int 1) ?_ ev_c (ev_or1 (ev_is rv_I0 (by rw [Int.sub_add_cancel])))) ea_nilV)) (by show 2 ≤ sizeLine; decide)) fun v H3 s3 hv => ?_
      · refine ev_cb1P (P1 := New H2 (.lst (((-1) :: O).map V.int))) (ev_opP (P1 := New H2 (.lst [.int (-1)])) (P2 := Is (.ref o)) (ev_lst (ea_cons (ev_un ev_c rv_neg) ea_nilV) (by show 1 ≤ sizeLine; decide)) (fun _ _ _ _ => ev_var rfl) fun x y H3 H4 f3 hx f4 e4 => ?_) fun v H3 f3 hv => ?_
        · cases e4
          obtain ⟨b2, rfl, _, hb⟩ := hx
          refine (rv_catL (f4.nd hb rfl) ((f3.trans f4).nd ho rfl) ?_).imp fun v H5 f5 h => new_fx (f3.trans f4) h
          rw [List.length_map]
          show 1 + O.length ≤ sizeLine
          have : sizeLine ≥ 577 := by decide
          omega
        · obtain ⟨b2, rfl, _, hb⟩ := hv
          refine fun H4 g Q q => ⟨b2, (-1) :: O, rfl, SqL.of (g.nd hb rfl), by simp, fun m hm hmax => ?_⟩
          refine q _ H4 (fun _ _ e => e) ?_
          have e : nxtM (A.map (·.1)) pen = m + 1 := by
            refine nxtM_of ?_ (fun k hk ek => ?_) ?_
            · have := hmax (-1) List.mem_cons_self
              omega
            · have := hmax k.2 (List.mem_cons_of_mem _ ((hO2 k.2).mpr (by rw [← ek]; exact hk)))
              omega
            · rcases List.mem_cons.mp hm with z | z
              · left
                omega
              · exact .inr ⟨(pen, m), (hO2 m).mp z, rfl, rfl⟩
          rw [e]
          show V.int m = V.int (m + 1 - 1)
          rw [Int.add_sub_cancel]
      · obtain ⟨r, rfl, _, hr3⟩ := hv
        have hp3 := s3 _ _ hp2
        have ha3 := s3 _ _ ha2
        refine rs_dput (kk := pk (pen, nxtM (A.map fun m : PI2 × Str => m.1) pen)) (ev_var rfl) (ev_fld (ev_var rfl) ha3 T.cl T.n_put nbf_put) (ev_var rfl) hp3 hr3 ?_ fun H4 s4 => ?_
        · unfold toA
          rw [List.length_map]
          exact Nat.lt_of_le_of_lt hl (by decide)
        · refine rs_ret (P1 := Is (.ref r)) (ev_var rfl) fun v H5 s5 e5 => ?_
          cases e5
          have pr : r ≠ p := fun z => by
            rw [z, hp3] at hr3
            cases hr3
          refine q r H5 ((((But.of ((s1.trans s2).trans s3)).same s4).put List.mem_cons_self).same s5) (s5 _ _ ?_) (s5 _ _ upd_same)
          rw [upd_ne pr]
          exact s4 _ _ hr3

/-! ### drop -/
def SpDrop (C : Addr) : Sp := fun vs H Q _ => ∃ a dx p t pen A B z, vs = [.ref a, .str z] ∧ NbR C H a dx p t pen A B ∧ Fit A B ∧ z ∈ labels8 ∧ H t = some (.dT (toB B)) ∧ rawM A B z ≠ [] ∧
  ∀ H', But [t] H H' → H' t = some (.dT (toB (mrg B (rawM A B z)))) → Q .non H'
theorem rawM_in {A : TA} {B : TB} {z : Str} {m : PI2} (h : m ∈ rawM A B z) : ∃ p ∈ A, p.1 = m ∧ p.2 = z ∧ m ∉ B := by
  unfold rawM at h
  obtain ⟨p, hp, rfl⟩ := List.mem_map.mp ((sortP_perm _).mem_iff.mp h)
  have := List.mem_filter.mp hp
  have h2 := this.2
  rw [Bool.and_eq_true] at h2
  refine ⟨p, this.1, rfl, of_decide_eq_true h2.1, fun c => ?_⟩
  have := h2.2
  rw [List.contains_iff_mem.mpr c] at this
  cases this
theorem rawM_nd {A : TA} {B : TB} {z : Str} (h : (A.map (·.1)).Nodup) : (rawM A B z).Nodup := by
  unfold rawM
  refine (sortP_perm _).nodup_iff.mpr ?_
  exact h.sublist (List.Sublist.map _ List.filter_sublist)
theorem fit_raw {A : TA} {B : TB} {z : Str} (f : Fit A B) : FitM (rawM A B z) := ⟨rawM_nd f.nd, fun m hm => by
  obtain ⟨p, hp, e, _⟩ := rawM_in hm
  exact e ▸ f.rg p hp⟩
theorem Fit.mB {A : TA} {B : TB} (f : Fit A B) : FitM B := ⟨f.ndB, f.rgB⟩
theorem ok_drop {f : Addr} {fd : FuncData} (F : Fun K "drop" "Notebook.drop" s_Notebook_drop f fd) (T : Txt K mg C aO t8) (c_check_label : Cal P w K mg base "check_label" 2 p_check_label (SpOf preCheckL))
    (c_Notebook_raw_marks : MCal P w K mg base C "raw_marks" 1 p_Notebook_raw_marks (SpOf (preRaw C))) : FnOk P w K mg base CX0 3 f fd p_Notebook_drop (SpDrop C) := by
  refine F.ok sc_Notebook_drop (fun vs H Q E h => ?_) (fun cdv A outer s H vs Q E hr h => ?_)
  · obtain ⟨a, dx, p, t, pen, A, B, z, rfl, _⟩ := h
    rfl
  · obtain ⟨a, dx, p, t, pen, A, B, z, rfl, nb, ft, hz, ht, ne, q⟩ := h
    have hu := hr.units
    have hu1 := hu_of hr
    refine ⟨_, (pss_cons (ps_expr (pe_call c_check_label.ok (hr.mono (by first | decide | omega)) (by rfl) c_check_label.at_ c_check_label.kp c_check_label.b .nil pass0 (pa_cons (pv 1) pa_nil)))
      (pss_cons (ps_set (i := 2) sc_Notebook_drop.nd rfl (.inl rfl) (pe_meth (pv 0) T.cl c_Notebook_raw_marks.m c_Notebook_raw_marks.ok (hr.mono (by first | decide | omega)) c_Notebook_raw_marks.b .nil pass0 (pa_cons (pv 1) pa_nil)))
      (pss_cons (ps_if (pt_cmpR (k_eqD (K' := K) rfl hu) (pe_callB (k_len (K' := K) rfl) (by rfl) T.b_len (by decide +kernel) (pa_cons (pv 2) pa_nil)) pe_int (nomark _)) pss_never pss_nil)
      (pss_one (ps_for PassesOwn.never rfl (k_piAny (K' := K) rfl (pv 2)) (pg_name (i := 3) sc_Notebook_drop.nd rfl (.inl rfl))
      (pss_one (ps_dput hu1 (pe_fldK (K' := K) rfl (pv 0) (by rfl)) (pv 3) pe_bl rfl))))))), ?_⟩
    refine rs_drop (P1 := Is .non) (ev_call (ea_cons (ev_var rfl) ea_nilV) fun _ _ => ⟨z, rfl, lab8 z hz, rfl⟩) fun v H1 s1 _ => ?_
    have nb1 := nb.fx (Fx.of s1)
    have ht1 := s1 _ _ ht
    refine rs_asg (P1 := NewPrs H1 (rawM A B z)) (ev_meth (ev_var rfl) nb1.ins (nbf_no (by decide +kernel)) (ea_cons (ev_var rfl) ea_nilV) fun H' g => ⟨a, dx, p, t, pen, A, B, z, rfl, nb1.fx g, ft, lab8 z hz, H1, g, rfl⟩) fun v H2 s2 hv => ?_
    obtain ⟨l, rs, rfl, hl0, hl, hrs⟩ := hv
    have ht2 := s2 _ _ ht1
    have nb2 := nb1.fx (Fx.of s2)
    have hlen : rs.length = (rawM A B z).length := by
      clear hl
      generalize rawM A B z = ps at hrs
      induction hrs with
      | nil => rfl
      | cons _ _ ih => rw [List.length_cons, List.length_cons, ih]
    have hne : rs ≠ [] := fun e => by
      rw [e] at hlen
      exact ne (List.length_eq_zero_iff.mp hlen.symm)
    refine EvS.raw (N := fun σ' _ => σ' = _) (P := fun _ _ => False) (es_if (b := false) (et_test (ev_op (x := .int rs.length) (y := .int 0) ?_ ev_c (ev_is (rv_eqD (.int _) (.int _) shaped_int shaped_int) ?_))) (fun e => nomatch e) fun _ => es_next fun _ _ => rfl) (fun σ' H3 s3 e => ?_) fun _ _ _ f => f.elim
    · exact ev_is (ev_lenL (ev_var rfl) (SqL.of hl)) (by rw [List.length_map])
    · rw [eqv_int]
      rw [decide_eq_false]
      intro e
      exact hne (List.length_eq_zero_iff.mp (by omega))
    · subst e
      have hl3 := s3 _ _ hl
      have ht3 := s3 _ _ ht2
      have nb3 := nb2.fx (Fx.of s3)
      have hps : Prs H3 rs (rawM A B z) := prs_tm (Fx.of s3).tm hrs
      have b3 : But [t] H H3 := But.of ((s1.trans s2).trans s3)
      refine .inl ((ev_var rfl).run fun v H4 s4 e4 => ⟨l, e4, ⟨_, SqL.of (s4 _ _ hl3)⟩, ?_⟩)
      have fB := ft.mB
      have fR := fit_raw (z := z) ft
      refine rs_forL (fun i σ H5 => (∃ u, σ = [some (.ref a), some (.str z), some (.ref l), u]) ∧ But [t] H H5 ∧ H5 t = some (.dT (toB (mrg B ((rawM A B z).take i)))) ∧ H5 l = some (.lst (rs.map V.ref)) ∧ Prs H5 rs (rawM A B z) ∧ H5 a = some (.ins C dx (nbf pen p t))) ?_ (fun i σ H5 _ h => SqL.of h.2.2.2.1) (fun i x σ H5 hx h => ?_) fun σ H5 h => ?_
      · refine ⟨⟨_, rfl⟩, b3.same s4, ?_, s4 _ _ hl3, prs_tm (Fx.of s4).tm hps, s4 _ _ nb3.ins⟩
        rw [List.take_zero]
        exact s4 _ _ ht3
      · obtain ⟨⟨u, rfl⟩, bt, htt, hll, hpp, haa⟩ := h
        obtain ⟨r, rfl, m, hm, hr5⟩ := prs_get hpp hx
        refine rs_dputL (a := t) (q := r) (kk := pk m) ev_c (ev_fld (ev_var rfl) haa T.cl T.n_out nbf_out) (ev_var rfl) htt hr5 ?_ fun H6 s6 => ?_
        · have f2 : FitM (mrg B ((rawM A B z).take i)) := fB.mrg ⟨fR.nd.sublist (List.take_sublist _ _), fun p hp => fR.rg p (List.mem_of_mem_take hp)⟩
          have := f2.len
          unfold toB
          rw [List.length_map]
          exact Nat.lt_of_le_of_lt this (by decide)
        · have tl : l ≠ t := ne_of hll htt (fun z => by cases z)
          have ta : a ≠ t := ne_of haa htt (fun z => by cases z)
          refine ⟨⟨_, rfl⟩, (bt.same s6).put List.mem_cons_self, ?_, ?_, prs_tm ((Fx.of s6).tm.trans (Tm.put (s6 _ _ htt) fun xs z => by cases z)) hpp, ?_⟩
          · rw [upd_same, List.take_add_one, hm]
            show _ = some (HO.dT (toB (mrg B (List.take i (rawM A B z) ++ [m]))))
            rw [mrg_snoc, toB_kvF, putK_kvF]
            rfl
          · rw [upd_ne tl]
            exact s6 _ _ hll
          · rw [upd_ne ta]
            exact s6 _ _ haa
      · obtain ⟨_, bt, htt, _⟩ := h
        rw [List.length_map, hlen, List.take_length] at htt
        exact q H5 bt htt
/-! ### meet -/
def SpMeet (P : Program) (w : World) (C : Addr) : Sp := fun vs H Q _ => ∃ a dx p t pen kA kB a2 dx2 p2 t2 pen2 kA2 kB2, vs = [.ref a, .ref a2] ∧ H a = some (.ins C dx (nbf pen p t)) ∧ H p = some (.dT kA) ∧ H t = some (.dT kB) ∧ H a2 = some (.ins C dx2 (nbf pen2 p2 t2)) ∧ H p2 = some (.dT kA2) ∧ H t2 = some (.dT kB2) ∧
  p ≠ t ∧ p ≠ t2 ∧ (kA2.map fun p => TH P w p.1).Nodup ∧ (kB2.map fun p => TH P w p.1).Nodup ∧ kA.length + kA2.length ≤ sizeLine ∧ kB.length + kB2.length ≤ sizeLine ∧
  ∀ H', But [p, t] H H' → H' p = some (.dT (mergeT kA kA2)) → H' t = some (.dT (mergeT kB kB2)) → Q .non H'
theorem ok_meet {f : Addr} {fd : FuncData} (F : Fun K "meet" "Notebook.meet" s_Notebook_meet f fd) (T : Txt K mg C aO t8) (c_check_notebook : Cal P w K mg base "check_notebook" 1 p_check_notebook (SpOf (preCheckN C))) :
    FnOk P w K mg base CX0 2 f fd p_Notebook_meet (SpMeet P w C) := by
  refine F.ok sc_Notebook_meet (fun vs H Q E h => ?_) (fun cdv A outer s H vs Q E hr h => ?_)
  · obtain ⟨a, dx, p, t, pen, kA, kB, a2, dx2, p2, t2, pen2, kA2, kB2, rfl, _⟩ := h
    rfl
  · obtain ⟨a, dx, p, t, pen, kA, kB, a2, dx2, p2, t2, pen2, kA2, kB2, rfl, ha, hp, ht, ha2, hp2, ht2, npt, npt2, n1, n2, l1, l2, q⟩ := h
    have hu := hr.units
    have hu1 := hu_of hr
    refine ⟨_, (pss_cons (ps_expr (pe_call c_check_notebook.ok (hr.mono (by first | decide | omega)) (by rfl) c_check_notebook.at_ c_check_notebook.kp c_check_notebook.b .nil pass0 (pa_cons (pv 1) pa_nil)))
      (pss_cons (ps_expr (k_bm (K' := K) rfl PySem.F.plainAttrs_dict PySem.F.slot_dict_update PySem.F.type_dict_update (k_upd (P' := P) (w' := w) rfl rfl hu) (pe_fldK (K' := K) rfl (pv 0) (by rfl)) (pa_cons (pe_callTy (k_dict (P' := P) (w' := w) (K' := K) rfl rfl rfl rfl hu) (by rfl) T.b_dict (by decide +kernel) (pa_cons (pe_fldK (K' := K) rfl (pv 1) (by rfl)) pa_nil)) pa_nil)))
      (pss_one (ps_expr (k_bm (K' := K) rfl PySem.F.plainAttrs_dict PySem.F.slot_dict_update PySem.F.type_dict_update (k_upd (P' := P) (w' := w) rfl rfl hu) (pe_fldK (K' := K) rfl (pv 0) (by rfl)) (pa_cons (pe_callTy (k_dict (P' := P) (w' := w) (K' := K) rfl rfl rfl rfl hu) (by rfl) T.b_dict (by decide +kernel) (pa_cons (pe_fldK (K' := K) rfl (pv 1) (by rfl)) pa_nil)) pa_nil)))))), ?_⟩
    refine rs_drop (P1 := Is .non) (ev_call (ea_cons (ev_var rfl) ea_nilV) fun H' g => ⟨a2, _, _, rfl, g.nd ha2 rfl, rfl⟩) fun v H1 s1 _ => ?_
    refine rs_upd (kvs := kA) (more := kA2) (ev_fld (ev_var rfl) (s1 _ _ ha) T.cl T.n_put nbf_put) (s1 _ _ hp) (ev_dictT (ev_fld (ev_var rfl) (s1 _ _ ha2) T.cl T.n_put nbf_put) (.inl (s1 _ _ hp2)) n1) n1 l1 fun H2 s2 => ?_
    have nap : a ≠ p := ne_of ha hp (fun z => by cases z)
    have na2p : a2 ≠ p := ne_of ha2 hp (fun z => by cases z)
    have e1 : ∀ b o, b ≠ p → H b = some o → (upd H2 p (.dT (mergeT kA kA2))) b = some o := fun b o n e => by
      rw [upd_ne n]
      exact s2 _ _ (s1 _ _ e)
    refine rs_updL (kvs := kB) (more := kB2) (ev_fld (ev_var rfl) (e1 _ _ nap ha) T.cl T.n_out nbf_out) (e1 _ _ npt.symm ht) (ev_dictT (ev_fld (ev_var rfl) (e1 _ _ na2p ha2) T.cl T.n_out nbf_out) (.inl (e1 _ _ npt2.symm ht2)) n2) n2 l2 fun H3 s3 => ?_
    refine q _ (((((But.of (s1.trans s2)).put List.mem_cons_self).same s3).put (by simp))) ?_ upd_same
    rw [upd_ne npt]
    exact s3 _ _ upd_same
/-! ### copy -/
def SpCopy (P : Program) (w : World) (C : Addr) : Sp := fun vs H Q _ => ∃ a dx p t pen kA kB pen2, vs = [.ref a, .int pen2] ∧ 0 ≤ pen2 ∧ pen2 ≤ 8 ∧ H a = some (.ins C dx (nbf pen p t)) ∧ H p = some (.dT kA) ∧ H t = some (.dT kB) ∧
  (kA.map fun p => TH P w p.1).Nodup ∧ (kB.map fun p => TH P w p.1).Nodup ∧ kA.length ≤ sizeLine ∧ kB.length ≤ sizeLine ∧
  ∀ H' y dy p' t', Same H H' → H' y = some (.ins C dy (nbf pen2 p' t')) → H' p' = some (.dT (mergeT [] kA)) → H' t' = some (.dT (mergeT [] kB)) → H p' = none → H t' = none → p' ≠ t' → Q (.ref y) H'
theorem ok_copy {f : Addr} {fd : FuncData} (F : Fun K "copy" "Notebook.copy" s_Notebook_copy f fd) (T : Txt K mg C aO t8) (c_Notebook___init__ : MMk P w K mg base C 4 p_Notebookd__initd_ (SpInit C))
    (c_Notebook_meet : MCal P w K mg base C "meet" 2 p_Notebook_meet (SpMeet P w C)) : FnOk P w K mg base CX0 6 f fd p_Notebook_copy (SpCopy P w C) := by
  refine F.ok sc_Notebook_copy (fun vs H Q E h => ?_) (fun cdv A outer s H vs Q E hr h => ?_)
  · obtain ⟨a, dx, p, t, pen, kA, kB, pen2, rfl, _⟩ := h
    rfl
  · obtain ⟨a, dx, p, t, pen, kA, kB, pen2, rfl, h0, h8, ha, hp, ht, n1, n2, l1, l2, q⟩ := h
    have hu := hr.units
    have hu1 := hu_of hr
    have hrm : Room 5 (A.deeper (PyProof.Rows.envOfC "Notebook.copy" (defScope s_Notebook_copy) s.heap.objs.size f cdv)) := hr.mono (by decide)
    refine ⟨_, (pss_cons (ps_set (i := 2) sc_Notebook_copy.nd rfl (.inl rfl) (pe_make c_Notebook___init__.mkd c_Notebook___init__.ok hrm (by rfl) T.mg_Notebook c_Notebook___init__.b .nil pass0 (pa_cons (pv 1) pa_nil)))
      (pss_cons (ps_expr (pe_meth (pv 2) T.cl c_Notebook_meet.m c_Notebook_meet.ok (hr.mono (by first | decide | omega)) c_Notebook_meet.b .nil pass0 (pa_cons (pv 0) pa_nil)))
      (pss_one (ps_ret (pv 2))))), ?_⟩
    refine rs_asgK (k_make (ea_cons (ev_var rfl) ea_nilV) fun H1 y dy s1 hy0 hd0 nd => ?_)
    refine ⟨y, dy, pen2, rfl, h0, h8, upd_same, fun H2 p' t' b2 hy hp' ht' fp ft npt => ⟨rfl, ?_⟩⟩
    have f1 : Same H1 (upd (upd H1 dy (.own y)) y (.ins C dy [])) := fun b o e => by
      rw [upd_ne (ne_of_none e hy0), upd_ne (ne_of_none e hd0)]
      exact e
    have s2 : Same H1 H2 := fun b o e => b2 b o (by rw [List.mem_singleton]; exact ne_of_none e hy0) (f1 b o e)
    have s12 := s1.trans s2
    have fp1 : H p' = none := ((Fx.of s1).trans (Fx.of f1)).fresh fp
    have ft1 : H t' = none := ((Fx.of s1).trans (Fx.of f1)).fresh ft
    refine rs_dropK (k_meth (ev_var rfl) hy (nbf_no (by decide +kernel)) (ea_cons (ev_var rfl) ea_nilV) fun H4 s34 => ?_)
    have s14 := s12.trans s34
    have np't : p' ≠ t := fun z => by rw [z, ht] at fp1; cases fp1
    refine ⟨y, dy, p', t', pen2, [], [], a, dx, p, t, pen, kA, kB, rfl, s34 _ _ hy, s34 _ _ hp', s34 _ _ ht', s14 _ _ ha, s14 _ _ hp, s14 _ _ ht, npt, np't, n1, n2, by simpa using l1, by simpa using l2, fun H5 b5 hp5 ht5 => ?_⟩
    have s5 : Same H H5 := fun b o e => b5 b o (by
      rw [List.mem_cons, List.mem_singleton]
      exact fun z => z.elim (fun z => by rw [z, fp1] at e; cases e) fun z => by rw [z, ft1] at e; cases e) (s14 _ _ e)
    have ny : y ∉ [p', t'] := by
      rw [List.mem_cons, List.mem_singleton]
      exact fun z => z.elim (fun z => by rw [z, hp'] at hy; cases hy) fun z => by rw [z, ht'] at hy; cases hy
    refine rs_retL (P1 := Is (.ref y)) (ev_var rfl) fun v H6 s6 e6 => ?_
    cases e6
    exact q H6 y dy p' t' (s5.trans s6) (s6 _ _ (b5 _ _ ny (s34 _ _ hy))) (s6 _ _ hp5) (s6 _ _ ht5) fp1 ft1 npt
end N88
/-! the law's hand -/
namespace N88
open PySem L2 PySem.Spec
section
variable {K : PySem.W.Frag} {H : Hp} {σ : L2.St} {te to : TE} {t1 t2 : TS} {D : Ends} {c : TT} {b : Bool} {J : L2.St → Hp → Prop} {P1 : V → Hp → Prop}
theorem rs_ifK (k : ∀ σ' H', J σ' H' → t2 D σ' H') (h : EvT (c σ) H b) (h1 : b = true → ∀ H2, Same H H2 → (∀ σ' H', J σ' H' → t2 D σ' H') → t1 { D with nx := t2 D } σ H2) (h2 : b = false → ∀ H2, Same H H2 → J σ H2) : tSeq (tIfS c t1 tNext) t2 D σ H := h.run fun H2 s => by
  cases b with
  | true => exact h1 rfl H2 s k
  | false => exact k σ H2 (h2 rfl H2 s)
theorem rs_ifL (h : EvT (c σ) H b) (h1 : b = true → ∀ H2, Same H H2 → t1 D σ H2) (h2 : b = false → ∀ H2, Same H H2 → D.nx σ H2) : tIfS c t1 tNext D σ H := h.run fun H2 s => by
  cases b with
  | true => exact h1 rfl H2 s
  | false => exact h2 rfl H2 s
theorem rs_asgL {i : Nat} (h : EvR (te σ) H P1) (k : ∀ v H2, Same H H2 → P1 v H2 → D.nx (σ.set i (some v)) H2) : tAsg te (gName i) D σ H := h.run k
/-- l[k] = v -/
theorem rs_set {a : Addr} {xs : List V} {k : Int} {j : Nat} (he : EvR (te σ) H P1) (ho : EvR (to σ) H (Is (.ref a))) (hx : H a = some (.lst xs)) (hj : ixN xs.length k = some j) (q : ∀ v H2, Same H H2 → P1 v H2 → D.nx σ (upd H2 a (.lst (xs.set j v))))
    (hP : ∀ v H1 H2, Same H1 H2 → P1 v H1 → P1 v H2) : tAsg te (gSub to (tC (.int k)) rSetL) D σ H := he.run fun v H1 s1 p1 => (ho.mono (Fx.of s1)).run fun o H2 s2 e2 => ⟨a, xs, k, j, e2, rfl, s2 _ _ (s1 _ _ hx), hj, q v H2 (s1.trans s2) (hP _ _ _ s2 p1)⟩
theorem ev_ix {a : Addr} {xs : List V} {k : Int} {v : V} (ho : EvR (to σ) H (Is (.ref a))) (hx : SqL K H a xs) (hv : atI xs k = some v) : EvR (tOp (rIxU K) to (tC (.int k)) σ) H (Is v) := ev_op ho ev_c (ev_or1 (rv_ixL hx hv))
theorem ev_int {i : Int} (h : EvR (te σ) H (Is (.int i))) : EvR (tCB (fun xs H Q => (∃ i, xs = [.int i] ∧ Q (.int i) H) ∨ ∃ k, xs = [.bl k] ∧ Q (.int (if k then 1 else 0)) H) (tCons te tNil) σ) H (Is (.int i)) := ev_cb1 h (ev_or1 fun H1 g Q q => ⟨i, rfl, q _ H1 (fun _ _ e => e) rfl⟩)
theorem rv_add {i j : Int} : EvR (rAddU K (.int i) (.int j)) H (Is (.int (i + j))) := ev_or1 rv_I0
theorem isS {v : V} : ∀ (x : V) (H1 H2 : Hp), Same H1 H2 → Is v x H1 → Is v x H2 := fun _ _ _ _ h => h
end
theorem atI_nat {α : Type} {xs : List α} {m : Nat} (h : m < xs.length) : atI xs (m : Int) = xs[m]? := by
  unfold atI ixN
  rw [if_pos (Int.natCast_nonneg m), if_pos (by omega)]
  rfl
theorem ixN_nat {n m : Nat} (h : m < n) : ixN n (m : Int) = some m := by
  unfold ixN
  rw [if_pos (Int.natCast_nonneg m), if_pos (by omega)]
  rfl
/-- the hand -/
def HandAt (H : Hp) (hd ca : Addr) : Prop := ∃ (xs : List Int) (i n s c : Int), H hd = some (.lst [.ref ca, .int i, .int n, .int s, .int c]) ∧ H ca = some (.lst (xs.map V.int)) ∧ 0 ≤ i
theorem HandAt.same {H H' : Hp} {hd ca : Addr} (s : Same H H') (h : HandAt H hd ca) : HandAt H' hd ca := by
  obtain ⟨xs, i, n, z, c, h1, h2, h3⟩ := h
  exact ⟨xs, i, n, z, c, s _ _ h1, s _ _ h2, h3⟩
theorem ca_ne {H : Hp} {hd ca : Addr} {xs : List Int} {a b c d : V} (h1 : H hd = some (.lst [.ref ca, a, b, c, d])) (h2 : H ca = some (.lst (xs.map V.int))) : ca ≠ hd := fun e => by
  rw [e, h1] at h2
  cases xs with
  | nil => cases h2
  | cons x xs => cases h2
/-- the hand's list laid anew -/
theorem HandAt.put {H : Hp} {hd ca : Addr} {xs : List Int} {i n s c : Int} (h2 : H ca = some (.lst (xs.map V.int))) (ne : ca ≠ hd) (h : 0 ≤ i) : HandAt (upd H hd (.lst [.ref ca, .int i, .int n, .int s, .int c])) hd ca :=
  ⟨xs, i, n, s, c, upd_same, by rw [upd_ne ne]; exact h2, h⟩
variable {P : Program} {w : World} {K : PySem.W.Frag} {mg : Str → Option Value} {base : Heap} {C aO : Addr} {t8 : Tok}
def SpDraw : Sp := fun vs H Q _ => ∃ hd ca span, vs = [.ref hd, .int span] ∧ 0 < span ∧ span < 1000 ∧ HandAt H hd ca ∧ ∀ d H', 0 ≤ d → d < span → But [hd] H H' → HandAt H' hd ca → Q (.int d) H'
theorem ok_draw {f : Addr} {fd : FuncData} (F : Fun K "_law_draw" "_law_draw" s_law_draw f fd) (T : Txt K mg C aO t8) : FnOk P w K mg base CX0 1 f fd p_law_draw SpDraw := by
  refine F.ok sc_law_draw (fun vs H Q E h => ?_) (fun cdv A outer s H vs Q E hr h => ?_)
  · obtain ⟨x, _, dx, rfl, _⟩ := h
    rfl
  · obtain ⟨hd, ca, span, rfl, hs0, hs1, hh, q⟩ := h
    have hu := hr.units
    have hu1 := hu_of hr
    refine ⟨_, (pss_cons (ps_if (PW.pt (pw_and (pt_cmpR (k_eqD (K' := K) rfl hu) (pe_ix (k_ix (K' := K) rfl) (pv 0) pe_int (fun _ _ => rfl)) pe_int (nomark _)) (pw_and1 (pt_cmpR op_lt (pe_ix (k_ix (K' := K) rfl) (pv 0) pe_int (fun _ _ => rfl)) (pe_callB (k_len (K' := K) rfl) (by rfl) T.b_len (by decide +kernel) (pa_cons (pe_ix (k_ix (K' := K) rfl) (pv 0) pe_int (fun _ _ => rfl)) pa_nil)) (nomark _))))) (pss_cons (ps_set (i := 2) sc_law_draw.nd rfl (.inl rfl) (pe_ix (k_ix (K' := K) rfl) (pe_ix (k_ix (K' := K) rfl) (pv 0) pe_int (fun _ _ => rfl)) (pe_ix (k_ix (K' := K) rfl) (pv 0) pe_int (fun _ _ => rfl)) (fun _ _ => rfl)))
      (pss_cons (ps_asg (pe_op (k_addU (K' := K) rfl) (pe_ix (k_ix (K' := K) rfl) (pv 0) pe_int (fun _ _ => rfl)) pe_int) (pg_sub (pv 0) pe_int set_list))
      (pss_cons (ps_asg (pe_op op_mod (pe_callTy call_int1 (by rfl) T.b_int (by decide +kernel) (pa_cons (pe_op (k_addU (K' := K) rfl) (pe_op (k_addU (K' := K) rfl) (pe_op op_mul (pe_ix (k_ix (K' := K) rfl) (pv 0) pe_int (fun _ _ => rfl)) pe_int) (pv 2)) pe_int) pa_nil)) pe_int) (pg_sub (pv 0) pe_int set_list))
      (pss_one (ps_if (pt_cmpR op_ge (pv 2) (pe_op op_pow pe_int pe_int) (nomark _)) (pss_one (ps_asg (pv 2) (pg_sub (pv 0) pe_int set_list))) pss_nil))))) pss_nil)
      (pss_cons (ps_if (pt_cmpR op_gt (pe_ix (k_ix (K' := K) rfl) (pv 0) pe_int (fun _ _ => rfl)) pe_int (nomark _)) (pss_cons (ps_set (i := 3) sc_law_draw.nd rfl (.inl rfl) (pe_op op_mod (pe_callTy call_int1 (by rfl) T.b_int (by decide +kernel) (pa_cons (pe_ix (k_ix (K' := K) rfl) (pv 0) pe_int (fun _ _ => rfl)) pa_nil)) (pv 1)))
      (pss_cons (ps_asg (pe_op op_fdiv (pe_ix (k_ix (K' := K) rfl) (pv 0) pe_int (fun _ _ => rfl)) (pv 1)) (pg_sub (pv 0) pe_int set_list))
      (pss_one (ps_ret (pv 3))))) pss_nil)
      (pss_cons (ps_asg (pe_op (k_addU (K' := K) rfl) (pe_ix (k_ix (K' := K) rfl) (pv 0) pe_int (fun _ _ => rfl)) pe_int) (pg_sub (pv 0) pe_int set_list))
      (pss_cons (ps_set (i := 4) sc_law_draw.nd rfl (.inl rfl) (pe_op op_mod (pe_callTy call_int1 (by rfl) T.b_int (by decide +kernel) (pa_cons (pe_op op_mul (pe_callTy call_int1 (by rfl) T.b_int (by decide +kernel) (pa_cons (pe_op (k_addU (K' := K) rfl) (pe_ix (k_ix (K' := K) rfl) (pv 0) pe_int (fun _ _ => rfl)) (pe_op op_mul pe_int (pe_ix (k_ix (K' := K) rfl) (pv 0) pe_int (fun _ _ => rfl)))) pa_nil)) pe_int) pa_nil)) pe_int))
      (pss_cons (ps_set (i := 4) sc_law_draw.nd rfl (.inl rfl) (pe_op op_mod (pe_callTy call_int1 (by rfl) T.b_int (by decide +kernel) (pa_cons (pe_op op_mul (pv 4) (pe_op (k_addU (K' := K) rfl) (pe_op op_fdiv (pv 4) pe_int) pe_int)) pa_nil)) pe_int))
      (pss_cons (ps_set (i := 4) sc_law_draw.nd rfl (.inl rfl) (pe_op op_mod (pe_callTy call_int1 (by rfl) T.b_int (by decide +kernel) (pa_cons (pe_op op_mul (pv 4) (pe_op (k_addU (K' := K) rfl) (pe_op op_fdiv (pv 4) pe_int) pe_int)) pa_nil)) pe_int))
      (pss_one (ps_ret (pe_op op_mod (pe_callTy call_int1 (by rfl) T.b_int (by decide +kernel) (pa_cons (pe_op op_fdiv (pv 4) pe_int) pa_nil)) (pv 1)))))))))), ?_⟩
    obtain ⟨xs, i, n, z, c, h1, h2, hi⟩ := hh
    have nca := ca_ne h1 h2
    refine rs_ifK (J := fun σ H' => (∃ u v w, σ = [some (.ref hd), some (.int span), u, v, w]) ∧ But [hd] H H' ∧ ∃ (i n s c : Int), H' hd = some (.lst [.ref ca, .int i, .int n, .int s, .int c]) ∧ H' ca = some (.lst (xs.map V.int)) ∧ 0 ≤ i) (fun σ' H' j => ?_) (b := decide (n = 0) && decide (i < xs.length)) ?_ (fun e H1 s1 k => ?_) fun e H1 s1 => ?_
    · obtain ⟨⟨u, v, w, rfl⟩, bt, i, n, z, c, g1, g2, gi⟩ := j
      refine rs_ifK (J := fun σ H2 => σ = _ ∧ Same H' H2) (fun σ' H2 j => ?_) (b := decide (0 < n)) ?_ (fun e H1 s1 _ => ?_) fun e H1 s1 => ⟨rfl, s1⟩
      · obtain ⟨rfl, s2⟩ := j
        have g1' := s2 _ _ g1
        have g2' := s2 _ _ g2
        refine rs_set (P1 := Is (.int (c + 1))) (ev_op (ev_ix (ev_var rfl) (SqL.of g1') rfl) ev_c rv_add) (ev_var rfl) g1' rfl (fun v2 H3 s3 e3 => ?_) isS
        cases e3
        have hh3 : HandAt (upd H3 hd (.lst [.ref ca, .int i, .int n, .int z, .int (c + 1)])) hd ca := HandAt.put (s3 _ _ g2') nca gi
        have b3 : But [hd] H (upd H3 hd (.lst [.ref ca, .int i, .int n, .int z, .int (c + 1)])) := ((bt.same s2).same s3).put List.mem_cons_self
        refine rs_asg (ev_op (ev_int (ev_op (ev_int (ev_op (ev_ix (ev_var rfl) (SqL.of upd_same) rfl) (ev_op ev_c (ev_ix (ev_var rfl) (SqL.of upd_same) rfl) (rv_I (.inl ⟨by decide, by decide⟩))) rv_add)) ev_c (rv_I (.inr ⟨by decide, by decide⟩)))) ev_c (rv_I (by decide))) fun v4 H4 s4 e4 => ?_
        cases e4
        refine rs_asg (ev_op (ev_int (ev_op (ev_var rfl) (ev_op (ev_op (ev_var rfl) ev_c (rv_I ⟨by decide, by decide⟩)) ev_c rv_add) (rv_I (.inl ?_)))) ev_c (rv_I (by decide))) fun v5 H5 s5 e5 => ?_
        · have h1 := Int.emod_nonneg (z + 7919 * (c + 1)) (b := 2147483647) (by decide)
          refine ⟨Int.lt_of_lt_of_le (by decide) (Int.emod_nonneg _ (by decide)), Int.lt_trans (Int.emod_lt_of_pos _ (by decide)) (by decide)⟩
        cases e5
        refine rs_asg (ev_op (ev_int (ev_op (ev_var rfl) (ev_op (ev_op (ev_var rfl) ev_c (rv_I ⟨by decide, by decide⟩)) ev_c rv_add) (rv_I (.inl ?_)))) ev_c (rv_I (by decide))) fun v6 H6 s6 e6 => ?_
        · refine ⟨Int.lt_of_lt_of_le (by decide) (Int.emod_nonneg _ (by decide)), Int.lt_trans (Int.emod_lt_of_pos _ (by decide)) (by decide)⟩
        cases e6
        refine rs_retL (ev_op (ev_int (ev_op (ev_var rfl) ev_c (rv_I ⟨by decide, by decide⟩))) (ev_var rfl) (rv_I hs0)) fun v7 H7 s7 e7 => ?_
        cases e7
        have s37 := ((s4.trans s5).trans s6).trans s7
        exact q _ H7 (Int.emod_nonneg _ (by omega)) (Int.emod_lt_of_pos _ hs0) (b3.same s37) (hh3.same s37)
      · exact et_test (ev_op (ev_ix (ev_var rfl) (SqL.of g1) rfl) ev_c rv_I0)
      · have g1' := s1 _ _ g1
        have g2' := s1 _ _ g2
        refine rs_asg (ev_op (ev_int (ev_ix (ev_var rfl) (SqL.of g1') rfl)) (ev_var rfl) (rv_I hs0)) fun v4 H4 s4 e4 => ?_
        cases e4
        have g1'' := s4 _ _ g1'
        refine rs_set (P1 := Is (.int (n / span))) (ev_op (ev_ix (ev_var rfl) (SqL.of g1'') rfl) (ev_var rfl) (rv_I ⟨hs0, by omega⟩)) (ev_var rfl) g1'' rfl (fun v2 H3 s3 e3 => ?_) isS
        cases e3
        refine rs_retL (P1 := Is (.int (n % span))) (ev_var rfl) fun v7 H7 s7 e7 => ?_
        cases e7
        exact q _ H7 (Int.emod_nonneg _ (by omega)) (Int.emod_lt_of_pos _ hs0) ((((bt.same (s1.trans s4)).same s3).put List.mem_cons_self).same s7) ((HandAt.put (s3 _ _ (s4 _ _ g2')) nca gi).same s7)
    · refine et_and (et_test (ev_op (ev_ix (ev_var rfl) (SqL.of h1) rfl) ev_c (ev_is (rv_eqD (.int _) (.int _) shaped_int shaped_int) (by rw [eqv_int])))) fun _ => et_test (ev_op (ev_ix (ev_var rfl) (SqL.of h1) rfl) (ev_is (ev_lenL (ev_ix (ev_var rfl) (SqL.of h1) rfl) (SqL.of h2)) (by rw [List.length_map])) rv_I0)
    · rw [Bool.and_eq_true] at e
      have hlt := of_decide_eq_true e.2
      have hn := of_decide_eq_true e.1
      obtain ⟨m, rfl⟩ := Int.eq_ofNat_of_zero_le hi
      have hm : m < xs.length := by omega
      have h1' := s1 _ _ h1
      have h2' := s1 _ _ h2
      refine rs_asg (P1 := Is (.int xs[m])) (ev_op (ev_ix (ev_var rfl) (SqL.of h1') rfl) (ev_ix (ev_var rfl) (SqL.of h1') rfl) (ev_or1 (rv_ixL (SqL.of h2') ?_))) fun v4 H4 s4 e4 => ?_
      · rw [atI_nat (by rw [List.length_map]; exact hm), List.getElem?_map, List.getElem?_eq_getElem hm]
        rfl
      cases e4
      refine rs_set (P1 := Is (.int ((m : Int) + 1))) (ev_op (ev_ix (ev_var rfl) (SqL.of (s4 _ _ h1')) rfl) ev_c rv_add) (ev_var rfl) (s4 _ _ h1') rfl (fun v5 H5 s5 e5 => ?_) isS
      cases e5
      refine rs_set (ev_op (ev_int (ev_op (ev_op (ev_op (ev_ix (ev_var rfl) (SqL.of upd_same) rfl) ev_c (rv_I (.inr ⟨by decide, by decide⟩))) (ev_var rfl) rv_add) ev_c rv_add)) ev_c (rv_I (by decide))) (ev_var rfl) upd_same rfl (fun v6 H6 s6 e6 => ?_) isS
      cases e6
      have b6 := ((((But.of (S := [hd]) (s1.trans s4)).same s5).put (o := .lst [.ref ca, .int ((m : Int) + 1), .int n, .int z, .int c]) List.mem_cons_self).same s6)
      have c6 : H6 ca = some (.lst (xs.map V.int)) := s6 _ _ (by rw [upd_ne nca]; exact s5 _ _ (s4 _ _ h2'))
      refine rs_ifL (b := decide ((10 : Int) ^ 18 ≤ xs[m])) (et_test (ev_op (ev_var rfl) (ev_op ev_c ev_c (rv_I ⟨by decide, by decide, by decide⟩)) rv_I0)) (fun e H7 s7 => ?_) fun e H7 s7 => ?_
      · refine rs_set (P1 := Is (.int xs[m])) (ev_var rfl) (ev_var rfl) (s7 _ _ upd_same) rfl (fun v8 H8 s8 e8 => ?_) isS
        cases e8
        exact k _ _ ⟨⟨_, _, _, rfl⟩, (((b6.put List.mem_cons_self).same s7).same s8).put List.mem_cons_self, _, _, _, _, upd_same, by rw [upd_ne nca]; exact s8 _ _ (s7 _ _ (by rw [upd_ne nca]; exact c6)), by omega⟩
      · exact k _ _ ⟨⟨_, _, _, rfl⟩, (b6.put List.mem_cons_self).same s7, _, _, _, _, s7 _ _ upd_same, s7 _ _ (by rw [upd_ne nca]; exact c6), by omega⟩
    · exact ⟨⟨_, _, _, rfl⟩, But.of s1, i, n, z, c, s1 _ _ h1, s1 _ _ h2, hi⟩
end N88
/-! the law's comparison of data -/
namespace N88
open PySem L2 PySem.Spec
/-- data of depth n at the most, without lists -/
inductive Dn : Nat → PyData → Prop
  | non {n : Nat} : Dn (n + 1) .none
  | bl {n : Nat} (b : Bool) : Dn (n + 1) (.bool b)
  | int {n : Nat} (i : Int) : Dn (n + 1) (.int i)
  | str {n : Nat} (z : Str) (h : SeqAt.shaped (.str z) = true) : Dn (n + 1) (.str z)
  | tup {n : Nat} {ds : List PyData} (hl : ds.length ≤ 4096) (h : ∀ d ∈ ds, Dn n d) : Dn (n + 1) (.tuple ds)
theorem Dn.up {n : Nat} {d : PyData} (h : Dn n d) : Dn (n + 1) d := by
  induction h with
  | non => exact .non
  | bl b => exact .bl b
  | int i => exact .int i
  | str z h => exact .str z h
  | tup hl _ ih => exact .tup hl ih
def nmD : PyData → String
  | .none => "NoneType"
  | .bool _ => "bool"
  | .int _ => "int"
  | .str _ => "str"
  | _ => "tuple"
section
variable {K : PySem.W.Frag} {H : Hp} {σ : L2.St} {te ta tb : TE} {x y : V} {b c : Bool}
theorem td_ty {d : PyData} {n : Nat} (h : Td K H x d) (hd : Dn n d) : TyX K H x (.type (nmD d)) := by
  cases h with
  | non => exact .base .non
  | bl b => exact .base (.bl b)
  | int i => exact .base (.int i)
  | str z => exact .base (.str z)
  | tup e _ => exact .base (.tup e)
abbrev rIsiU (K : PySem.W.Frag) : List V → Hp → VK → Prop := fun xs H Q => rIsi K xs H Q ∨ rIsiT K xs H Q
theorem ev_isiTL {n : String} (h : EvR (te σ) H (Is x)) (ty : ∀ H', Fx H H' → TyX K H' x (.type n)) (hk : PySem.W.kitAny K (.type n) [.type "tuple", .type "list"] = some b) :
    EvR (tCB (rIsiU K) (tCons te (tCons (tTup (tCons (tC (.ty "tuple")) (tCons (tC (.ty "list")) tNil))) tNil)) σ) H (Is (.bl b)) := fun H1 g Q q => h H1 g _ fun v H2 s e => by
  cases e
  refine ⟨by show 2 ≤ sizeLine; decide, fun a ha => .inr ⟨x, a, [.ty "tuple", .ty "list"], .type n, [.type "tuple", .type "list"], b, rfl, upd_same, .cons (.ty _) (.cons (.ty _) .nil), ty _ ((g.same s).same (same_new ha)), hk, ?_⟩⟩
  exact q _ _ (s.trans (same_new ha)) rfl
theorem kt_yes {n : String} (h1 : kitB n "tuple" = some b) (h2 : kitB n "list" = some c) : PySem.W.kitAny K (.type n) [.type "tuple", .type "list"] = some (b || c) :=
  kitAny_cons (b := b) (kit_ty h1) (fun e => kitAny_cons (b := c) (kit_ty h2) (fun e2 => by rw [e, e2]; rfl) fun e2 => by rw [e2, Bool.or_true]) fun e => by rw [e]; rfl
theorem eqv_bl {u v : Bool} : PyData.eqv (.bool u) (.bool v) = decide (u = v) := by
  rw [PyData.eqv]
  cases u <;> cases v <;> rfl
/-- isinstance(x, T) != isinstance(y, T), x and y of a kind -/
theorem et_same {n m : String} (ha : EvR (ta σ) H (Is x)) (hb : EvR (tb σ) H (Is y)) (tx : ∀ H', Fx H H' → TyX K H' x (.type n)) (ty : ∀ H', Fx H H' → TyX K H' y (.type n)) (hk : kitB n m = some b) :
    EvT (tTest (tOp (rNeD K) (tCB (rIsiU K) (tCons ta (tCons (tC (.ty m)) tNil))) (tCB (rIsiU K) (tCons tb (tCons (tC (.ty m)) tNil)))) σ) H false :=
  et_test (ev_op (ev_cb2 ha ev_c (ev_isi tx hk)) (ev_cb2 hb ev_c (ev_isi ty hk)) (ev_is (rv_neD (.bl b) (.bl b) shaped_bool shaped_bool) (by rw [eqv_bl]; simp)))
theorem ev_sameE {n m : String} (ha : EvR (ta σ) H (Is x)) (hb : EvR (tb σ) H (Is y)) (tx : ∀ H', Fx H H' → TyX K H' x (.type n)) (ty : ∀ H', Fx H H' → TyX K H' y (.type n)) (hk : kitB n m = some b) :
    EvR (tOp (rEqD K) (tCB (rIsiU K) (tCons ta (tCons (tC (.ty m)) tNil))) (tCB (rIsiU K) (tCons tb (tCons (tC (.ty m)) tNil))) σ) H (Is (.bl true)) :=
  ev_op (ev_cb2 ha ev_c (ev_isi tx hk)) (ev_cb2 hb ev_c (ev_isi ty hk)) (ev_is (rv_eqD (.bl b) (.bl b) shaped_bool shaped_bool) (by rw [eqv_bl]; simp))
/-! zip -/
theorem walk_zipT {a b : Addr} {xs ys : List V} {n : Nat} (hn : n = min xs.length ys.length) : Walk (RZ.ItzT K a b) n (fun H => SqT K H a xs ∧ SqT K H b ys) (YPair (fun i => xs[i]?) (fun i => ys[i]?)) := by
  subst hn
  refine ⟨fun i _ hi q => ?_, fun _ q => ⟨xs, ys, q.1, q.2, by omega⟩, fun i H v H' _ q y => ?_⟩
  · have h1 : i < xs.length := by omega
    have h2 : i < ys.length := by omega
    exact ⟨xs, ys, xs[i], ys[i], q.1, q.2, by simp [h1], by simp [h2]⟩
  · obtain ⟨T, x, z, h1, h2, h3, h4, h5⟩ := y
    exact ⟨T, x, z, h1, h2, h3, h4 xs q.1, h5 ys q.2⟩
/-- a pair of two values that are the same data -/
def YZ (K : PySem.W.Frag) : PyData → V → Hp → Prop := fun d x H => ∃ T u v, x = .ref T ∧ H T = some (.tup [u, v]) ∧ Td K H u d ∧ Td K H v d
theorem tdAll_at {H : Hp} {vs : List V} {ds : List PyData} {i : Nat} {d : PyData} {v : V} (h : TdAll K H vs ds) (hd : ds[i]? = some d) (hv : vs[i]? = some v) : Td K H v d := by
  obtain ⟨d2, e, t⟩ := h.get hv
  rw [hd] at e
  cases e
  exact t
theorem it_zipT {a b : Addr} {xs ys : List V} {ds : List PyData} (ha : EvR (ta σ) H (Is (.ref a))) (hb : EvR (tb σ) H (Is (.ref b))) (h1 : H a = some (.tup xs)) (h2 : H b = some (.tup ys)) (d1 : TdAll K H xs ds) (d2 : TdAll K H ys ds) :
    ItR (RZ.iZipA K (tCons ta (tCons tb tNil)) σ) H ds (YZ K) := fun H1 g R q => ha H1 g _ fun v1 H2 s2 e2 => (hb.mono (g.same s2)).run fun v2 H3 s3 e3 => by
  cases e2
  cases e3
  have f3 : Fx H H3 := (g.same s2).same s3
  refine ⟨a, b, xs, ys, rfl, .inr ⟨SqT.of (f3.nd h1 rfl), SqT.of (f3.nd h2 rfl), q (RZ.ItzT K a b) H3 (fun H => SqT K H a xs ∧ SqT K H b ys) (YPair (fun i => xs[i]?) (fun i => ys[i]?)) (s2.trans s3) (by
    rw [show ds.length = min xs.length ys.length by rw [d1.len, d2.len]; simp]
    exact walk_zipT rfl) (fun H4 s4 => ⟨SqT.of (s4 _ _ (f3.nd h1 rfl)), SqT.of (s4 _ _ (f3.nd h2 rfl))⟩) fun i d H4 x H5 hd s4 z => ?_⟩⟩
  obtain ⟨T, u, v, rfl, hT, rfl, hu, hv⟩ := z
  refine ⟨same_new hT, T, u, v, rfl, upd_same, ?_, ?_⟩
  · exact (tdAll_at d1 hd hu).tm ((f3.same s4).tm.trans (Tm.new hT))
  · exact (tdAll_at d2 hd hv).tm ((f3.same s4).tm.trans (Tm.new hT))
theorem it_zipL {a b : Addr} {xs ys : List V} {ds : List PyData} (ha : EvR (ta σ) H (Is (.ref a))) (hb : EvR (tb σ) H (Is (.ref b))) (h1 : H a = some (.lst xs)) (h2 : H b = some (.lst ys)) (d1 : TdAll K H xs ds) (d2 : TdAll K H ys ds) :
    ItR (RZ.iZipA K (tCons ta (tCons tb tNil)) σ) H ds (YZ K) := fun H1 g R q => ha H1 g _ fun v1 H2 s2 e2 => (hb.mono (g.same s2)).run fun v2 H3 s3 e3 => by
  cases e2
  cases e3
  have f3 : Fx H H3 := (g.same s2).same s3
  refine ⟨a, b, xs, ys, rfl, .inl ⟨SqL.of (f3.nd h1 rfl), SqL.of (f3.nd h2 rfl), q (Itz K a b) H3 (fun H => SqL K H a xs ∧ SqL K H b ys) (YPair (fun i => xs[i]?) (fun i => ys[i]?)) (s2.trans s3) (by
    rw [show ds.length = min xs.length ys.length by rw [d1.len, d2.len]; simp]
    exact walk_zip rfl) (fun H4 s4 => ⟨SqL.of (s4 _ _ (f3.nd h1 rfl)), SqL.of (s4 _ _ (f3.nd h2 rfl))⟩) fun i d H4 x H5 hd s4 z => ?_⟩⟩
  obtain ⟨T, u, v, rfl, hT, rfl, hu, hv⟩ := z
  refine ⟨same_new hT, T, u, v, rfl, upd_same, ?_, ?_⟩
  · exact (tdAll_at d1 hd hu).tm ((f3.same s4).tm.trans (Tm.new hT))
  · exact (tdAll_at d2 hd hv).tm ((f3.same s4).tm.trans (Tm.new hT))
end
variable {P : Program} {w : World} {K : PySem.W.Frag} {mg : Str → Option Value} {base : Heap} {C aO : Addr} {t8 : Tok}
def preIs (K : PySem.W.Frag) (n : Nat) : List V → Hp → (V → Hp → Prop) → Prop := fun vs H R => ∃ x y, vs = [x, y] ∧ R = Is (.bl true) ∧ ((∃ d, Td K H x d ∧ Td K H y d ∧ Dn n d) ∨
  ∃ a b xs ys ds, x = .ref a ∧ y = .ref b ∧ H a = some (.lst xs) ∧ H b = some (.lst ys) ∧ TdAll K H xs ds ∧ TdAll K H ys ds ∧ ds.length ≤ 4096 ∧ 0 < n ∧ ∀ d ∈ ds, Dn (n - 1) d)
theorem preIs_up {n : Nat} {vs : List V} {H : Hp} {R : V → Hp → Prop} (h : preIs K n vs H R) : preIs K (n + 1) vs H R := by
  obtain ⟨x, y, h1, h2, h3 | h3⟩ := h
  · obtain ⟨d, a, b, c⟩ := h3
    exact ⟨x, y, h1, h2, .inl ⟨d, a, b, c.up⟩⟩
  · obtain ⟨a, b, xs, ys, ds, c1, c2, c3, c4, c5, c6, c7, c8, c9⟩ := h3
    refine ⟨x, y, h1, h2, .inr ⟨a, b, xs, ys, ds, c1, c2, c3, c4, c5, c6, c7, by omega, fun d hd => ?_⟩⟩
    have := (c9 d hd).up
    rwa [show n - 1 + 1 = n + 1 - 1 by omega] at this
/-- its calls of itself: pre2 -/
theorem is_step {f : Addr} {fd : FuncData} {k n : Nat} (F : Fun K "_law_is" "_law_is" s_law_is f fd) (T : Txt K mg C aO t8) (c__law_is : Cal P w K mg base "_law_is" k p_law_is (SpOf (preIs K n))) :
    FnOk P w K mg base CX0 (k + 1) f fd p_law_is (SpOf (preIs K (n + 1))) := by
  refine F.ok sc_law_is (fun vs H Q E h => ?_) (fun cdv A outer s H vs Q E hr h => ?_)
  · obtain ⟨R, ⟨x, y, rfl, _⟩, _⟩ := h
    rfl
  · obtain ⟨R, ⟨x, y, rfl, rfl, hc⟩, q⟩ := h
    have hu := hr.units
    have hu1 := hu_of hr
    refine ⟨_, (pss_cons (ps_if (pt_val (pe_callB (k_isi (K' := K) rfl) (by rfl) T.b_isinstance (by decide +kernel) (pa_cons (pv 1) (pa_cons (pe_tup (pa_cons (pe_bltn (v := .ty "tuple") (by rfl) T.b_tuple (by decide +kernel) rfl) (pa_cons (pe_bltn (v := .ty "list") (by rfl) T.b_list (by decide +kernel) rfl) pa_nil))) pa_nil)))) (pss_cons (ps_if (PW.pt (pw_or (pt_cmpR (k_neD (K' := K) rfl hu) (pe_callB (k_isi (K' := K) rfl) (by rfl) T.b_isinstance (by decide +kernel) (pa_cons (pv 0) (pa_cons (pe_bltn (v := .ty "tuple") (by rfl) T.b_tuple (by decide +kernel) rfl) pa_nil))) (pe_callB (k_isi (K' := K) rfl) (by rfl) T.b_isinstance (by decide +kernel) (pa_cons (pv 1) (pa_cons (pe_bltn (v := .ty "tuple") (by rfl) T.b_tuple (by decide +kernel) rfl) pa_nil))) (nomark _)) (pw_or1 (pt_cmpR (k_neD (K' := K) rfl hu) (pe_callB (k_isi (K' := K) rfl) (by rfl) T.b_isinstance (by decide +kernel) (pa_cons (pv 0) (pa_cons (pe_bltn (v := .ty "list") (by rfl) T.b_list (by decide +kernel) rfl) pa_nil))) (pe_callB (k_isi (K' := K) rfl) (by rfl) T.b_isinstance (by decide +kernel) (pa_cons (pv 1) (pa_cons (pe_bltn (v := .ty "list") (by rfl) T.b_list (by decide +kernel) rfl) pa_nil))) (nomark _))))) (pss_one (ps_ret pe_bl)) pss_nil)
      (pss_one (ps_ret (pe_and (pe_cmpR (k_eqD (K' := K) rfl hu) (pe_callB (k_len (K' := K) rfl) (by rfl) T.b_len (by decide +kernel) (pa_cons (pv 0) pa_nil)) (pe_callB (k_len (K' := K) rfl) (by rfl) T.b_len (by decide +kernel) (pa_cons (pv 1) pa_nil)) (nomark _)) (pe_one (pe_callB (k_all (K' := K) rfl rfl) (by rfl) T.b_all (by decide +kernel) (pa_cons (pe_lc (own := [("one", 2), ("other", 3)]) rfl sc_law_is.nd (k_zip (K' := K) rfl (by rfl) T.b_zip (pa_cons (pv 0) (pa_cons (pv 1) pa_nil))) (blkOk_by (N := n_law_is) (sc := defScope s_law_is) (by decide +kernel)) (fun _ _ _ _ _ => (k_pair (K' := K) (i := 2) (j := 3) rfl rfl sc_law_is.nd rfl rfl (.inl rfl) (.inl rfl) (.inr rfl) (.inr rfl))) (fun _ _ _ _ _ => pts_nil) (fun _ _ _ _ _ => (pe_call c__law_is.ok (hr.mono (by first | decide | omega)) (by rfl) c__law_is.at_ c__law_is.kp c__law_is.b .nil pass0 (pa_cons (pv 2) (pa_cons (pv 3) pa_nil))))) pa_nil))))))) pss_nil)
      (pss_cons (ps_if (PW.pt (pw_or (pt_cmpR op_isN (pv 1) pe_non (nomark _)) (pw_or1 (pt_cmpR op_isN (pv 0) pe_non (nomark _))))) (pss_one (ps_ret (pe_and (pe_cmpR op_isN (pv 1) pe_non (nomark _)) (pe_one (pe_cmpR op_isN (pv 0) pe_non (nomark _)))))) pss_nil)
      (pss_cons (ps_if (PW.pt (pw_or (pt_cmpR (k_neD (K' := K) rfl hu) (pe_callB (k_isi (K' := K) rfl) (by rfl) T.b_isinstance (by decide +kernel) (pa_cons (pv 0) (pa_cons (pe_bltn (v := .ty "bool") (by rfl) T.b_bool (by decide +kernel) rfl) pa_nil))) (pe_callB (k_isi (K' := K) rfl) (by rfl) T.b_isinstance (by decide +kernel) (pa_cons (pv 1) (pa_cons (pe_bltn (v := .ty "bool") (by rfl) T.b_bool (by decide +kernel) rfl) pa_nil))) (nomark _)) (pw_or1 (pt_cmpR (k_neD (K' := K) rfl hu) (pe_callB (k_isi (K' := K) rfl) (by rfl) T.b_isinstance (by decide +kernel) (pa_cons (pv 0) (pa_cons (pe_bltn (v := .ty "int") (by rfl) T.b_int (by decide +kernel) rfl) pa_nil))) (pe_callB (k_isi (K' := K) rfl) (by rfl) T.b_isinstance (by decide +kernel) (pa_cons (pv 1) (pa_cons (pe_bltn (v := .ty "int") (by rfl) T.b_int (by decide +kernel) rfl) pa_nil))) (nomark _))))) (pss_one (ps_ret pe_bl)) pss_nil)
      (pss_one (ps_ret (pe_and (pe_cmpR (k_eqD (K' := K) rfl hu) (pe_callB (k_isi (K' := K) rfl) (by rfl) T.b_isinstance (by decide +kernel) (pa_cons (pv 0) (pa_cons (pe_bltn (v := .ty "str") (by rfl) T.b_str (by decide +kernel) rfl) pa_nil))) (pe_callB (k_isi (K' := K) rfl) (by rfl) T.b_isinstance (by decide +kernel) (pa_cons (pv 1) (pa_cons (pe_bltn (v := .ty "str") (by rfl) T.b_str (by decide +kernel) rfl) pa_nil))) (nomark _)) (pe_one (pe_cmpR (k_eqD (K' := K) rfl hu) (pv 0) (pv 1) (nomark _))))))))), ?_⟩
    refine EvS.body ?_ q
    rcases hc with ⟨d, hx, hy, hd⟩ | ⟨a, b, xs, ys, ds, rfl, rfl, h1, h2, d1, d2, hl, _, hd⟩
    · have tx : ∀ H', Fx H H' → TyX K H' x (.type (nmD d)) := fun H' f => td_ty (hx.tm f.tm) hd
      have ty : ∀ H', Fx H H' → TyX K H' y (.type (nmD d)) := fun H' f => td_ty (hy.tm f.tm) hd
      cases hd with
      | tup hl hd =>
        rename_i ds
        cases hx with | tup h1 d1 =>
        cases hy with | tup h2 d2 =>
        rename_i a xs b ys
        refine es_ifT (b := true) (et_B (ev_isiTL (n := "tuple") (b := true) (ev_var rfl) ty (kt_yes (b := true) (c := false) (by decide +kernel) (by decide +kernel)))) (fun _ => ?_) fun e => nomatch e
        refine es_ifT (b := false) (et_or (b := false) (c := false) (et_same (n := "tuple") (b := true) (ev_var rfl) (ev_var rfl) tx ty (by decide +kernel)) fun _ => et_same (n := "tuple") (b := false) (ev_var rfl) (ev_var rfl) tx ty (by decide +kernel)) (fun e => nomatch e) fun _ H2 f2 => es_ret ?_
        refine ev_andV (b := true) (c := true) (ev_is (ev_op (ev_lenT (ev_var rfl) (SqT.of (f2.nd h1 rfl))) (ev_lenT (ev_var rfl) (SqT.of (f2.nd h2 rfl))) (rv_eqD (.int _) (.int _) shaped_int shaped_int)) (by rw [eqv_int, d1.len, d2.len]; simp)) fun _ => ?_
        refine ev_is (ev_all (l := ds) (f := fun _ => true) (ev_lcA (it_zipT (ev_var rfl) (ev_var rfl) (f2.nd h1 rfl) (f2.nd h2 rfl) (d1.tm f2.tm) (d2.tm f2.tm)) (Nat.le_trans hl (by decide)) (fun d H3 z hm f3 hz => ?_) fun _ _ _ _ _ h => h)) (by simp)
        obtain ⟨T2, u, v, rfl, hT, hu2, hv2⟩ := hz
        refine tg_pair (SqT.of hT) rfl et_yes fun _ => ?_
        exact ev_call (ea_cons (ev_var rfl) (ea_cons (ev_var rfl) ea_nilV)) fun H4 g => ⟨u, v, rfl, rfl, .inl ⟨d, hu2.tm g.tm, hv2.tm g.tm, hd d hm⟩⟩
      | non =>
        cases hx
        cases hy
        refine es_ifT (b := false) (et_B (ev_isiTL (n := "NoneType") (b := false) (ev_var rfl) ty (kt_yes (b := false) (c := false) (by decide +kernel) (by decide +kernel)))) (fun e => nomatch e) fun _ H2 f2 => ?_
        refine es_ifT (b := true) (et_or (b := true) (c := true) (et_test (ev_op (ev_var rfl) ev_c rv_isN)) fun e => nomatch e) (fun _ => es_ret ?_) fun e => nomatch e
        exact ev_andV (b := true) (c := true) (ev_op (ev_var rfl) ev_c rv_isN) fun _ => ev_op (ev_var rfl) ev_c rv_isN
      | bl u =>
        cases hx
        cases hy
        refine es_ifT (b := false) (et_B (ev_isiTL (n := "bool") (b := false) (ev_var rfl) ty (kt_yes (b := false) (c := false) (by decide +kernel) (by decide +kernel)))) (fun e => nomatch e) fun _ H2 f2 => ?_
        refine es_ifT (b := false) (et_or (b := false) (c := false) (et_test (ev_op (ev_var rfl) ev_c rv_isN)) fun _ => et_test (ev_op (ev_var rfl) ev_c rv_isN)) (fun e => nomatch e) fun _ H3 f3 => ?_
        have tx3 : ∀ H', Fx H3 H' → TyX K H' (.bl u) (.type "bool") := fun _ _ => tyBl
        refine es_ifT (b := false) (et_or (b := false) (c := false) (et_same (n := "bool") (b := true) (ev_var rfl) (ev_var rfl) tx3 tx3 (by decide +kernel)) fun _ => et_same (n := "bool") (b := true) (ev_var rfl) (ev_var rfl) tx3 tx3 (by decide +kernel)) (fun e => nomatch e) fun _ H4 f4 => es_ret ?_
        have tx4 : ∀ H', Fx H4 H' → TyX K H' (.bl u) (.type "bool") := fun _ _ => tyBl
        exact ev_andV (b := true) (c := true) (ev_sameE (n := "bool") (b := false) (ev_var rfl) (ev_var rfl) tx4 tx4 (by decide +kernel)) fun _ => ev_is (ev_op (ev_var rfl) (ev_var rfl) (rv_eqD (.bl _) (.bl _) shaped_bool shaped_bool)) (by rw [eqv_bl]; simp)
      | int u =>
        cases hx
        cases hy
        refine es_ifT (b := false) (et_B (ev_isiTL (n := "int") (b := false) (ev_var rfl) ty (kt_yes (b := false) (c := false) (by decide +kernel) (by decide +kernel)))) (fun e => nomatch e) fun _ H2 f2 => ?_
        refine es_ifT (b := false) (et_or (b := false) (c := false) (et_test (ev_op (ev_var rfl) ev_c rv_isN)) fun _ => et_test (ev_op (ev_var rfl) ev_c rv_isN)) (fun e => nomatch e) fun _ H3 f3 => ?_
        have tx3 : ∀ H', Fx H3 H' → TyX K H' (.int u) (.type "int") := fun _ _ => tyInt
        refine es_ifT (b := false) (et_or (b := false) (c := false) (et_same (n := "int") (b := false) (ev_var rfl) (ev_var rfl) tx3 tx3 (by decide +kernel)) fun _ => et_same (n := "int") (b := true) (ev_var rfl) (ev_var rfl) tx3 tx3 (by decide +kernel)) (fun e => nomatch e) fun _ H4 f4 => es_ret ?_
        have tx4 : ∀ H', Fx H4 H' → TyX K H' (.int u) (.type "int") := fun _ _ => tyInt
        exact ev_andV (b := true) (c := true) (ev_sameE (n := "int") (b := false) (ev_var rfl) (ev_var rfl) tx4 tx4 (by decide +kernel)) fun _ => ev_is (ev_op (ev_var rfl) (ev_var rfl) (rv_eqD (.int _) (.int _) shaped_int shaped_int)) (by rw [eqv_int]; simp)
      | str u hs =>
        cases hx
        cases hy
        refine es_ifT (b := false) (et_B (ev_isiTL (n := "str") (b := false) (ev_var rfl) ty (kt_yes (b := false) (c := false) (by decide +kernel) (by decide +kernel)))) (fun e => nomatch e) fun _ H2 f2 => ?_
        refine es_ifT (b := false) (et_or (b := false) (c := false) (et_test (ev_op (ev_var rfl) ev_c rv_isN)) fun _ => et_test (ev_op (ev_var rfl) ev_c rv_isN)) (fun e => nomatch e) fun _ H3 f3 => ?_
        have tx3 : ∀ H', Fx H3 H' → TyX K H' (.str u) (.type "str") := fun _ _ => tyStr
        refine es_ifT (b := false) (et_or (b := false) (c := false) (et_same (n := "str") (b := false) (ev_var rfl) (ev_var rfl) tx3 tx3 (by decide +kernel)) fun _ => et_same (n := "str") (b := false) (ev_var rfl) (ev_var rfl) tx3 tx3 (by decide +kernel)) (fun e => nomatch e) fun _ H4 f4 => es_ret ?_
        have tx4 : ∀ H', Fx H4 H' → TyX K H' (.str u) (.type "str") := fun _ _ => tyStr
        exact ev_andV (b := true) (c := true) (ev_sameE (n := "str") (b := true) (ev_var rfl) (ev_var rfl) tx4 tx4 (by decide +kernel)) fun _ => ev_is (ev_op (ev_var rfl) (ev_var rfl) (rv_eqD (.str _) (.str _) hs hs)) (by rw [eqv_str]; simp)
    · have tx : ∀ H', Fx H H' → TyX K H' (.ref a) (.type "list") := fun H' f => .base (.lst (f.nd h1 rfl))
      have ty : ∀ H', Fx H H' → TyX K H' (.ref b) (.type "list") := fun H' f => .base (.lst (f.nd h2 rfl))
      refine es_ifT (b := true) (et_B (ev_isiTL (n := "list") (b := true) (ev_var rfl) ty (kt_yes (b := false) (c := true) (by decide +kernel) (by decide +kernel)))) (fun _ => ?_) fun e => nomatch e
      refine es_ifT (b := false) (et_or (b := false) (c := false) (et_same (n := "list") (b := false) (ev_var rfl) (ev_var rfl) tx ty (by decide +kernel)) fun _ => et_same (n := "list") (b := true) (ev_var rfl) (ev_var rfl) tx ty (by decide +kernel)) (fun e => nomatch e) fun _ H2 f2 => es_ret ?_
      refine ev_andV (b := true) (c := true) (ev_is (ev_op (ev_lenL (ev_var rfl) (SqL.of (f2.nd h1 rfl))) (ev_lenL (ev_var rfl) (SqL.of (f2.nd h2 rfl))) (rv_eqD (.int _) (.int _) shaped_int shaped_int)) (by rw [eqv_int, d1.len, d2.len]; simp)) fun _ => ?_
      refine ev_is (ev_all (l := ds) (f := fun _ => true) (ev_lcA (it_zipL (ev_var rfl) (ev_var rfl) (f2.nd h1 rfl) (f2.nd h2 rfl) (d1.tm f2.tm) (d2.tm f2.tm)) (Nat.le_trans hl (by decide)) (fun d H3 z hm f3 hz => ?_) fun _ _ _ _ _ h => h)) (by simp)
      obtain ⟨T2, u, v, rfl, hT, hu2, hv2⟩ := hz
      refine tg_pair (SqT.of hT) rfl et_yes fun _ => ?_
      exact ev_call (ea_cons (ev_var rfl) (ea_cons (ev_var rfl) ea_nilV)) fun H4 g => ⟨u, v, rfl, rfl, .inl ⟨d, hu2.tm g.tm, hv2.tm g.tm, hd d hm⟩⟩
theorem ok_is {f : Addr} {fd : FuncData} (F : Fun K "_law_is" "_law_is" s_law_is f fd) (T : Txt K mg C aO t8) (hm : mg "_law_is" = some (.ref f)) (hk : PySem.W.keepIn K (.ref f) = true) (hb : Binds K fd p_law_is []) : ∀ n, FnOk P w K mg base CX0 (n + 1) f fd p_law_is (SpOf (preIs K n))
  | 0 => F.ok sc_law_is (fun vs H Q E h => by
      obtain ⟨R, ⟨x, y, rfl, _⟩, _⟩ := h
      rfl) fun cdv A outer s H vs Q E hr h => by
      obtain ⟨R, ⟨x, y, rfl, rfl, hc⟩, q⟩ := h
      rcases hc with ⟨d, _, _, hd⟩ | ⟨_, _, _, _, _, _, _, _, _, _, _, _, h0, _⟩
      · cases hd
      · exact absurd h0 (by omega)
  | n + 1 => is_step F T ⟨f, fd, ok_is F T hm hk hb n, hm, hk, hb⟩
end N88
/-! the law's books: what is read of them -/
namespace N88
open PySem L2 PySem.Spec
/-- a book that may be read -/
structure BkR (H : Hp) (b q r : Addr) (pen : Int) (A : TA) (B : TB) : Prop where
  lst : H b = some (.lst [.int pen, .ref q, .ref r])
  da : Rd H q (.dT (toA A))
  db : Rd H r (.dT (toB B))
theorem BkR.fx {H H' : Hp} {b q r : Addr} {pen : Int} {A : TA} {B : TB} (k : BkR H b q r pen A B) (f : Fx H H') : BkR H' b q r pen A B := ⟨f.nd k.lst rfl, f.rd k.da, f.rd k.db⟩
section
variable {K : PySem.W.Frag} {H : Hp} {σ : L2.St} {te to : TE} {α : Type} {b q r : Addr} {pen : Int} {A : TA} {B : TB}
theorem ev_b0 (ho : EvR (to σ) H (Is (.ref b))) (k : BkR H b q r pen A B) : EvR (tOp (rIxU K) to (tC (.int 0)) σ) H (Is (.int pen)) := ev_ix ho (SqL.of k.lst) rfl
theorem ev_b1 (ho : EvR (to σ) H (Is (.ref b))) (k : BkR H b q r pen A B) : EvR (tOp (rIxU K) to (tC (.int 1)) σ) H (Is (.ref q)) := ev_ix ho (SqL.of k.lst) rfl
theorem ev_b2 (ho : EvR (to σ) H (Is (.ref b))) (k : BkR H b q r pen A B) : EvR (tOp (rIxU K) to (tC (.int 2)) σ) H (Is (.ref r)) := ev_ix ho (SqL.of k.lst) rfl
theorem lookA_of {A : TA} (h : (A.map (·.1)).Nodup) {p : PI2 × Str} (hp : p ∈ A) : lookA A p.1 = some p.2 := by
  unfold lookA
  induction A with
  | nil => cases hp
  | cons x A ih =>
    rw [List.map_cons, List.nodup_cons] at h
    rcases List.mem_cons.mp hp with e | e
    · subst e
      rw [List.find?_cons_of_pos (by simp)]
      rfl
    · have ne : x.1 ≠ p.1 := fun c => h.1 (List.mem_map.mpr ⟨p, e, c.symm⟩)
      rw [List.find?_cons_of_neg (by simp [ne])]
      exact ih h.2 e
theorem yin_of {F : α → V → Hp → Prop} (hP : ∀ a v H H', Tm H H' → F a v H → F a v H') : ∀ {l : List α} {ys : List V}, Paired (fun a y => F a y H) l ys → YIn l ys F H
  | _, _, .nil => .nil
  | _, _, .cons a t => .cons (fun H' f => hP _ _ _ _ f.tm a) (yin_of hP t)
theorem rs_par {ta : L2.TA} {t2 : TS} {D : Ends} {i j : Nat} {u v : V} (h : EvA (ta σ) H (IsL [u, v])) (k : ∀ H2, Same H H2 → t2 D ((σ.set i (some u)).set j (some v)) H2) : tSeq (tPar i j ta) t2 D σ H :=
  h H (Fx.refl H) _ fun vs H1 s1 e1 => ⟨u, v, e1, k H1 s1⟩
theorem rs_asg2 {ta : L2.TA} {t2 : TS} {D : Ends} {i j : Nat} {u v : V} (h : EvA (ta σ) H (IsL [u, v])) (k : ∀ H2, Same H H2 → t2 D ((σ.set i (some u)).set j (some v)) H2) : tSeq (tAsg (tTup ta) (gTup K 2 (gCons (gName i) (gCons (gName j) gNil)))) t2 D σ H :=
  h H (Fx.refl H) _ fun vs H1 s1 e1 => by
    cases e1
    exact ⟨by show 2 ≤ sizeLine; decide, fun a ha => ⟨a, [u, v], rfl, SqT.of upd_same, rfl, u, [v], rfl, v, [], rfl, rfl, k _ (s1.trans (same_new ha))⟩⟩
theorem Fit.lenU {A : TA} {B : TB} (f : Fit A B) : A.length ≤ sizeLine := Nat.le_trans f.len (by decide)
theorem Fit.lenBU {A : TA} {B : TB} (f : Fit A B) : B.length ≤ sizeLine := Nat.le_trans f.lenB (by decide)
end
variable {P : Program} {w : World} {K : PySem.W.Frag} {mg : Str → Option Value} {base : Heap} {C aO : Addr} {t8 : Tok}
/-! ### next -/
def preNext : List V → Hp → (V → Hp → Prop) → Prop := fun vs H R => ∃ b q r pen A B, vs = [.ref b] ∧ BkR H b q r pen A B ∧ Fit A B ∧ R = fun v H' => ∃ a, v = .ref a ∧ H' a = some (.tup [.int pen, .int (nxtM (A.map (·.1)) pen)])
theorem ok_next {f : Addr} {fd : FuncData} (F : Fun K "_law_next" "_law_next" s_law_next f fd) (T : Txt K mg C aO t8) : FnOk P w K mg base CX0 1 f fd p_law_next (SpOf preNext) := by
  refine F.ok sc_law_next (fun vs H Q E h => ?_) (fun cdv A outer s H vs Q E hr h => ?_)
  · obtain ⟨R, ⟨b, q, r, pen, A, B, rfl, _⟩, _⟩ := h
    rfl
  · obtain ⟨R, ⟨b, q, r, pen, A, B, rfl, k, ft, rfl⟩, qq⟩ := h
    have hu := hr.units
    have hu1 := hu_of hr
    refine ⟨_, (pss_cons (ps_lk (ps_setLc (own := [("writer", 2), ("number", 3)]) (i := 1) rfl sc_law_next.nd rfl rfl (sw_true rfl rfl rfl (by decide +kernel)) (k_piAny (K' := K) rfl (pe_ix (k_ix (K' := K) rfl) (pv 0) pe_int (fun _ _ => rfl))) (blkOk_by (N := n_law_next) (sc := defScope s_law_next) (by decide +kernel)) (fun _ _ _ _ _ => (k_pair (K' := K) (i := 2) (j := 3) rfl rfl sc_law_next.nd rfl rfl (.inl rfl) (.inl rfl) (.inr rfl) (.inr rfl))) (fun _ _ _ _ _ => (pts_one (pt_cmpR (k_eqD (K' := K) rfl hu) (pv 2) (pe_ix (k_ix (K' := K) rfl) (pv 0) pe_int (fun _ _ => rfl)) (nomark _)))) (fun _ _ _ _ _ => (pv 3))))
      (pss_one (ps_ret (pe_tup (pa_cons (pe_ix (k_ix (K' := K) rfl) (pv 0) pe_int (fun _ _ => rfl)) (pa_cons (pe_ifExp (pt_cmpR op_gt (pe_callB (k_len (K' := K) rfl) (by rfl) T.b_len (by decide +kernel) (pa_cons (pv 1) pa_nil)) pe_int (nomark _)) (pe_op (k_addU (K' := K) rfl) (pe_callB (k_max (K' := K) rfl rfl) (by rfl) T.b_max (by decide +kernel) (pa_cons (pv 1) pa_nil)) pe_int) pe_int) pa_nil)))))), ?_⟩
    refine EvS.body ?_ qq
    refine es_lkL (l := A.filter fun m => decide (m.1.1 = pen)) (F := fun m => Is (.int m.1.2)) k.da rfl trivial (fun _ _ _ _ _ h => h) (fun H1 od g hd => ?_) fun v H2 f2 hv => ?_
    · refine ev_lc (it_aK (it_keysA (ev_b1 (ev_var rfl) (k.fx g)) hd)) ft.lenU (fun m H3 x hm f3 hx => ?_) fun _ _ _ _ _ h => h
      obtain ⟨r, rfl, h2⟩ := hx
      exact tg_pair (SqT.of h2) rfl (et_test (ev_op (ev_var rfl) (ev_b0 (ev_var rfl) (k.fx (g.trans f3))) (ev_is (rv_eqD (.int _) (.int _) shaped_int shaped_int) (by rw [eqv_int])))) fun _ => ev_var rfl
    · obtain ⟨o, ys, rfl, _, ho, hy⟩ := hv
      have hy2 := ints_of (g := fun m : PI2 × Str => m.1.2) hy
      subst hy2
      generalize hO : (A.filter fun m => decide (m.1.1 = pen)).map (fun m : PI2 × Str => m.1.2) = O at ho
      have hO2 : ∀ n, n ∈ O ↔ (pen, n) ∈ A.map (·.1) := fun n => by
        rw [← hO, List.mem_map, List.mem_map]
        constructor
        · rintro ⟨m, hm, rfl⟩
          have := List.mem_filter.mp hm
          exact ⟨m, this.1, Prod.ext (of_decide_eq_true this.2) rfl⟩
        · rintro ⟨m, hm, e⟩
          exact ⟨m, List.mem_filter.mpr ⟨hm, decide_eq_true (by rw [e])⟩, by rw [e]⟩
      have hrg : ∀ n ∈ O, 0 ≤ n := fun n hn => by
        obtain ⟨m, hm, e⟩ := List.mem_map.mp ((hO2 n).mp hn)
        have := ft.rg m hm
        unfold InR at this
        rw [e] at this
        omega
      refine es_ret ((ev_tup (vs := [.int pen, .int (nxtM (A.map (·.1)) pen)]) (ea_cons (ev_b0 (ev_var rfl) (k.fx f2)) (ea_cons ?_ ea_nilV)) (by show 2 ≤ sizeLine; decide)).imp fun v H3 f3 h => ?_)
      · refine ev_if (b := decide (0 < O.length)) (et_test (ev_is (ev_op (ev_is (ev_lenL (ev_var rfl) (SqL.of ho)) (by rw [List.length_map])) ev_c rv_I0) ?_)) (fun e => ?_) fun e => ?_
        · congr 1
          rw [decide_eq_decide]
          omega
        · have e2 := of_decide_eq_true e
          refine ev_op (x := .int (nxtM (A.map (·.1)) pen - 1)) (y := .int 1) (ev_cb1 (ev_var rfl) fun H4 g Q q => ⟨o, O, rfl, SqL.of (g.nd ho rfl), e2, fun m hm hmax => q _ H4 (fun _ _ e => e) ?_⟩) ev_c (ev_is rv_add (by rw [Int.sub_add_cancel]))
          have e : nxtM (A.map (·.1)) pen = m + 1 := by
            refine nxtM_of ?_ (fun k hk ek => ?_) (.inr ⟨(pen, m), (hO2 m).mp hm, rfl, rfl⟩)
            · have := hrg m hm
              omega
            · have := hmax k.2 ((hO2 k.2).mpr (by rw [← ek]; exact hk))
              omega
          rw [e]
          show V.int m = V.int (m + 1 - 1)
          rw [Int.add_sub_cancel]
        · have e2 := of_decide_eq_false e
          have e3 : O = [] := List.length_eq_zero_iff.mp (by omega)
          refine ev_is ev_c ?_
          rw [nxtM_of (n := 0) (Int.le_refl 0) (fun k hk ek => ?_) (.inl rfl)]
          have := (hO2 k.2).mpr (by rw [← ek]; exact hk)
          rw [e3] at this
          cases this
      · obtain ⟨p, rfl, _, hp⟩ := h
        exact ⟨p, rfl, hp⟩
/-! ### standing -/
def preStand (K : PySem.W.Frag) : List V → Hp → (V → Hp → Prop) → Prop := fun vs H R => ∃ b q r pen A B z, vs = [.ref b, .str z] ∧ BkR H b q r pen A B ∧ Fit A B ∧ z ∈ labels8 ∧ R = fun v H' => ∃ a rs, v = .ref a ∧ H' a = some (.tup (rs.map V.ref)) ∧ Prs H' rs (rawM A B z)
theorem ok_standing {f : Addr} {fd : FuncData} (F : Fun K "_law_standing" "_law_standing" s_law_standing f fd) (T : Txt K mg C aO t8) : FnOk P w K mg base CX0 1 f fd p_law_standing (SpOf (preStand K)) := by
  refine F.ok sc_law_standing (fun vs H Q E h => ?_) (fun cdv A outer s H vs Q E hr h => ?_)
  · obtain ⟨R, ⟨b, q, r, pen, A, B, z, rfl, _⟩, _⟩ := h
    rfl
  · obtain ⟨R, ⟨b, q, r, pen, A, B, z, rfl, k, ft, hz, rfl⟩, qq⟩ := h
    have hu := hr.units
    have hu1 := hu_of hr
    refine ⟨_, (pss_cons (ps_lk (ps_setLc (own := [("mark", 3)]) (i := 2) rfl sc_law_standing.nd rfl rfl (sw_true rfl rfl rfl (by decide +kernel)) (k_piAny (K' := K) rfl (pe_ix (k_ix (K' := K) rfl) (pv 0) pe_int (fun _ _ => rfl))) (blkOk_by (N := n_law_standing) (sc := defScope s_law_standing) (by decide +kernel)) (fun _ _ _ _ _ => (pg_name (i := 3) sc_law_standing.nd rfl (.inl rfl))) (fun _ _ _ _ _ => (pts_one (pt_cmpR (k_eqD (K' := K) rfl hu) (pe_dget hu1 (pe_ix (k_ix (K' := K) rfl) (pv 0) pe_int (fun _ _ => rfl)) (pv 3) (fun _ _ => rfl)) (pv 1) (nomark _)))) (fun _ _ _ _ _ => (pv 3))))
      (pss_one (ps_ret (pe_callTy (k_tuple (K' := K) rfl) (by rfl) T.b_tuple (by decide +kernel) (pa_cons (pe_callB (k_sorted (K' := K) rfl rfl) (by rfl) T.b_sorted (by decide +kernel) (pa_cons (pe_lk (pe_lc (own := [("mark", 3)]) rfl sc_law_standing.nd (k_piAny (K' := K) rfl (pv 2)) (blkOk_by (N := n_law_standing) (sc := defScope s_law_standing) (by decide +kernel)) (fun _ _ _ _ _ => (pg_name (i := 3) sc_law_standing.nd rfl (.inl rfl))) (fun _ _ _ _ _ => (pts_one (pt_cmp (pc_dnotin hu1 (pv 3) (pe_ix (k_ix (K' := K) rfl) (pv 0) pe_int (fun _ _ => rfl))) (by rfl)))) (fun _ _ _ _ _ => (pv 3)))) pa_nil)) pa_nil))))), ?_⟩
    refine EvS.body ?_ qq
    refine es_lkL (l := A.filter fun p => decide (p.2 = z)) (F := PairOf (·.1)) k.da rfl trivial pairOf_tm (fun H1 od g hd => ?_) fun v H2 f2 hv => ?_
    · refine ev_lc (it_aK (it_keysA (ev_b1 (ev_var rfl) (k.fx g)) hd)) ft.lenU (fun m H3 x hm f3 hx => ?_) pairOf_tm
      obtain ⟨r, rfl, h2⟩ := hx
      have k3 := k.fx (g.trans f3)
      refine tg_name rfl (et_test (ev_op (ev_dget (ev_b1 (ev_var rfl) k3) (ev_var rfl) k3.da h2 (by rw [valV_toA, lookA_of ft.nd hm]; rfl)) (ev_var rfl) (ev_is (rv_eqD (.str _) (.str _) ?_ ?_) (by rw [eqv_str])))) fun _ => (ev_var rfl).imp fun v H4 f4 e => ⟨r, e, f4.nd h2 rfl⟩
      · exact (lab8 _ (ft.wd m hm)).sh
      · exact (lab8 _ hz).sh
    · obtain ⟨o, ys, rfl, _, ho, hy⟩ := hv
      have k2 := k.fx f2
      refine es_ret ((ev_cb1P (P1 := NewPrs H2 (rawM A B z)) ?_ fun v H3 f3 hv => ?_))
      · refine EvR.imp (P := NewPrs H2 (sortP (((A.filter fun p => decide (p.2 = z)).filter fun p => !B.contains p.1).map (·.1)))) ?_ fun v H3 _ h => ?_
        · refine ev_sortedPO (l := (A.filter fun p => decide (p.2 = z)).filter fun p => !B.contains p.1) (g := fun p : PI2 × Str => p.1) ?_
          refine ev_lk0 ?_
          refine (ev_lc (it_aL (it_list (ev_var rfl) (SqL.of ho) (yin_of pairOf_tm hy))) (Nat.le_trans (List.length_filter_le _ _) ft.lenU) (fun m H3 x hm f3 hx => ?_) pairOf_tm)
          obtain ⟨r, rfl, h2⟩ := hx
          have k3 := k2.fx f3
          refine tg_name rfl (et_test (ev_is (ev_dnotin (kk := pk m.1) (ev_var rfl) (ev_b2 (ev_var rfl) k3) k3.db h2) (by rw [valV_toB]))) fun _ => (ev_var rfl).imp fun v H4 f4 e => ⟨r, e, f4.nd h2 rfl⟩
        · rw [List.filter_filter] at h
          have e : (fun p : PI2 × Str => decide (p.2 = z) && !B.contains p.1) = fun p => (!B.contains p.1) && decide (p.2 = z) := by
            funext p
            exact Bool.and_comm _ _
          unfold rawM
          rw [e]
          exact h
      · obtain ⟨p, rs, rfl, _, hp, hrs⟩ := hv
        intro H4 g Q q
        exact ⟨p, _, rfl, .inl ⟨g.sqL (SqL.of hp), fun a ha => q _ _ (same_new ha) ⟨a, rs, rfl, upd_same, prs_tm (g.tm.trans (Tm.new ha)) hrs⟩⟩⟩
/-! ### words -/
theorem mergeK_W : ∀ (ws acc : List Str), mergeK (dkW acc) (ws.map fun z => ((.inr z : L2.Key), V.bl true)) = dkW (ws.foldl putW acc)
  | [], _ => rfl
  | z :: ws, acc => by
    show mergeK (putK (dkW acc) (.inr z) (.bl true)) _ = _
    rw [putK_W, mergeK_W]
    rfl
def PairW (g : PI2 × Str → Str) : PI2 × Str → V → Hp → Prop := fun m v H => ∃ t, v = .ref t ∧ H t = some (.tup [.str (g m), .bl true])
theorem pairW_tm {g : PI2 × Str → Str} : ∀ (a : PI2 × Str) (v : V) (H H' : Hp), Tm H H' → PairW g a v H → PairW g a v H' := fun _ _ _ _ t ⟨r, e, h⟩ => ⟨r, e, t _ _ h⟩
theorem pairW_refs {K : PySem.W.Frag} {g : PI2 × Str → Str} {H : Hp} : ∀ {l : List (PI2 × Str)} {ys : List V}, Paired (fun a y => PairW g a y H) l ys → ∃ ps : List Addr, ys = ps.map V.ref ∧ Paired (fun p (kv : L2.Key × V) => SqT K H p [kV kv.1, kv.2]) ps (l.map fun m => ((.inr (g m) : L2.Key), V.bl true))
  | _, _, .nil => ⟨[], rfl, .nil⟩
  | _, _, .cons ⟨t, e, h⟩ r => by
    obtain ⟨ps, e2, pr⟩ := pairW_refs (K := K) r
    exact ⟨t :: ps, by rw [e, e2]; rfl, .cons (SqT.of h) pr⟩
def preWordsL (K : PySem.W.Frag) : List V → Hp → (V → Hp → Prop) → Prop := fun vs H R => ∃ b q r pen A B, vs = [.ref b] ∧ BkR H b q r pen A B ∧ Fit A B ∧ R = D K (.tuple ((allW A B).map PyData.str))
theorem rv_tupD {K : PySem.W.Frag} {H : Hp} {p : Addr} {ys : List V} {ds : List PyData} (hp : H p = some (.lst ys)) (hd : TdAll K H ys ds) : EvR (rTupU K [.ref p]) H (D K (.tuple ds)) := fun H1 g Q q =>
  ⟨p, ys, rfl, .inl ⟨g.sqL (SqL.of hp), fun a ha => q _ _ (same_new ha) (.tup upd_same (hd.tm (g.tm.trans (Tm.new ha))))⟩⟩
theorem rv_sortedSL {K : PySem.W.Frag} {H : Hp} {p : Addr} {ws : List Str} (hp : H p = some (.lst (ws.map V.str))) (h64 : ws.length < 64) : EvR (rSortedU K [.ref p]) H (New H (.lst ((srtS ws).map V.str))) := fun H2 gg Q q => by
  refine .inr (.inr (.inr ⟨p, ws, rfl, gg.sqL (SqL.of hp), h64, fun ys p2 h1 h2 hn => ?_⟩))
  have e := srtS_of h1 h2
  subst e
  exact q _ _ (same_new hn) ⟨p2, rfl, gg.fresh hn, upd_same⟩
theorem ok_words {f : Addr} {fd : FuncData} (F : Fun K "_law_words" "_law_words" s_law_words f fd) (T : Txt K mg C aO t8) : FnOk P w K mg base CX0 1 f fd p_law_words (SpOf (preWordsL K)) := by
  refine F.ok sc_law_words (fun vs H Q E h => ?_) (fun cdv A outer s H vs Q E hr h => ?_)
  · obtain ⟨R, ⟨b, q, r, pen, A, B, rfl, _⟩, _⟩ := h
    rfl
  · obtain ⟨R, ⟨b, q, r, pen, A, B, rfl, k, ft, rfl⟩, qq⟩ := h
    have hu := hr.units
    have hu1 := hu_of hr
    refine ⟨_, (pss_cons (ps_asg (pe_tup (pa_cons (pe_ix (k_ix (K' := K) rfl) (pv 0) pe_int (fun _ _ => rfl)) (pa_cons (pe_ix (k_ix (K' := K) rfl) (pv 0) pe_int (fun _ _ => rfl)) pa_nil))) (k_pair (K' := K) (i := 1) (j := 2) rfl rfl sc_law_words.nd rfl rfl (.inr rfl) (.inr rfl) (.inl rfl) (.inl rfl)))
      (pss_cons (ps_set (i := 3) sc_law_words.nd rfl (.inl rfl) (pe_callTy (k_dict (P' := P) (w' := w) (K' := K) rfl rfl rfl rfl hu) (by rfl) T.b_dict (by decide +kernel) (pa_cons (pe_lk (pe_lc (own := [("mark", 4)]) rfl sc_law_words.nd (k_piAny (K' := K) rfl (pv 1)) (blkOk_by (N := n_law_words) (sc := defScope s_law_words) (by decide +kernel)) (fun _ _ _ _ _ => (pg_name (i := 4) sc_law_words.nd rfl (.inl rfl))) (fun _ _ _ _ _ => (pts_one (pt_cmp (pc_dnotin hu1 (pv 4) (pv 2)) (by rfl)))) (fun _ _ _ _ _ => (pe_tup (pa_cons (pe_dget hu1 (pv 1) (pv 4) (fun _ _ => rfl)) (pa_cons pe_bl pa_nil)))))) pa_nil)))
      (pss_one (ps_ret (pe_callTy (k_tuple (K' := K) rfl) (by rfl) T.b_tuple (by decide +kernel) (pa_cons (pe_callB (k_sorted (K' := K) rfl rfl) (by rfl) T.b_sorted (by decide +kernel) (pa_cons (pe_callTy (k_list (K' := K) rfl rfl) (by rfl) T.b_list (by decide +kernel) (pa_cons (pv 3) pa_nil)) pa_nil)) pa_nil)))))), ?_⟩
    refine rs_asg2 (u := .ref q) (v := .ref r) (ea_cons (ev_b1 (ev_var rfl) k) (ea_cons (ev_b2 (ev_var rfl) k) ea_nilV)) fun H1 s1 => ?_
    have k1 := k.fx (Fx.of s1)
    refine rs_asg (P1 := New H1 (.dK (dkW (wordsOf A B)))) (ev_cb1P (P1 := NewL H1 (A.filter fun p => !B.contains p.1) (PairW (·.2))) (ev_lkL k1.da rfl trivial pairW_tm fun H2 od g hd => ?_) fun v H2 f2 hv => ?_) fun v H2 s2 hv => ?_
    · refine ev_lc (it_aK (it_keysA (ev_var rfl) hd)) ft.lenU (fun m H3 x hm f3 hx => ?_) pairW_tm
      obtain ⟨r2, rfl, h2⟩ := hx
      have k3 := k1.fx (g.trans f3)
      refine tg_name rfl (et_test (ev_is (ev_dnotin (kk := pk m.1) (ev_var rfl) (ev_var rfl) k3.db h2) (by rw [valV_toB]))) fun _ => (ev_tup (ea_cons (ev_dget (ev_var rfl) (ev_var rfl) k3.da h2 (by rw [valV_toA, lookA_of ft.nd hm]; rfl)) (ea_cons ev_c ea_nilV)) (by show 2 ≤ sizeLine; decide)).imp fun v H4 f4 h => ?_
      obtain ⟨p, rfl, _, hp⟩ := h
      exact ⟨p, rfl, hp⟩
    · obtain ⟨p, ys, rfl, _, hp, hy⟩ := hv
      obtain ⟨ps, rfl, pr⟩ := pairW_refs (K := K) hy
      intro H3 g Q q
      refine .inr (.inl ⟨p, ps, _, rfl, g.sqL (SqL.of hp), paired_mono (fun a b h => g.sqT h) pr, fun o ho => ?_⟩)
      refine q _ _ (same_new ho) ⟨o, rfl, f2.fresh (g.fresh ho), ?_⟩
      rw [upd_same]
      have e := mergeK_W ((A.filter fun p => !B.contains p.1).map (·.2)) []
      rw [List.map_map] at e
      exact congrArg (fun z => some (HO.dK z)) e
    · obtain ⟨d, rfl, _, hd⟩ := hv
      refine ⟨_, rfl, .inr ⟨d, _, rfl, hd, fun o ho => ?_⟩⟩
      have ho2 : (upd H2 o (.lst ((dkW (wordsOf A B)).map fun kv => kV kv.1))) o = some (.lst ((wordsOf A B).map V.str)) := by
        rw [upd_same]
        unfold dkW
        rw [List.map_map]
        rfl
      refine (rv_sortedSL ho2 ft.w64).run fun v H3 s3 hv => ?_
      obtain ⟨p3, rfl, _, h3⟩ := hv
      refine (rv_tupD h3 (tdAll_strs _)).run fun v H4 s4 hv => ?_
      exact qq v H4 (((s1.trans s2).trans (same_new ho)).trans (s3.trans s4)) hv
/-! ### knows -/
def preKnowsL : List V → Hp → (V → Hp → Prop) → Prop := fun vs H R => ∃ b q r pen A B b2 q2 r2 pen2 A2 B2, vs = [.ref b, .ref b2] ∧ BkR H b q r pen A B ∧ BkR H b2 q2 r2 pen2 A2 B2 ∧ Fit A2 B2 ∧ R = Is (.bl (knowsM A B A2 B2))
theorem ok_knowsL {f : Addr} {fd : FuncData} (F : Fun K "_law_knows" "_law_knows" s_law_knows f fd) (T : Txt K mg C aO t8) : FnOk P w K mg base CX0 1 f fd p_law_knows (SpOf preKnowsL) := by
  refine F.ok sc_law_knows (fun vs H Q E h => ?_) (fun cdv A outer s H vs Q E hr h => ?_)
  · obtain ⟨R, ⟨b, q, r, pen, A, B, b2, q2, r2, pen2, A2, B2, rfl, _⟩, _⟩ := h
    rfl
  · obtain ⟨R, ⟨b, q, r, pen, A, B, b2, q2, r2, pen2, A2, B2, rfl, k, k2, ft, rfl⟩, qq⟩ := h
    have hu := hr.units
    have hu1 := hu_of hr
    refine ⟨_, (pss_one (ps_ret (pe_and (pe_callB (k_all (K' := K) rfl rfl) (by rfl) T.b_all (by decide +kernel) (pa_cons (pe_lk (pe_lc (own := [("mark", 2)]) rfl sc_law_knows.nd (k_piAny (K' := K) rfl (pe_ix (k_ix (K' := K) rfl) (pv 1) pe_int (fun _ _ => rfl))) (blkOk_by (N := n_law_knows) (sc := defScope s_law_knows) (by decide +kernel)) (fun _ _ _ _ _ => (pg_name (i := 2) sc_law_knows.nd rfl (.inl rfl))) (fun _ _ _ _ _ => pts_nil) (fun _ _ _ _ _ => (pe_cmp (pc_din hu1 (pv 2) (pe_ix (k_ix (K' := K) rfl) (pv 0) pe_int (fun _ _ => rfl))) (by rfl))))) pa_nil)) (pe_one (pe_callB (k_all (K' := K) rfl rfl) (by rfl) T.b_all (by decide +kernel) (pa_cons (pe_lk (pe_lc (own := [("mark", 2)]) rfl sc_law_knows.nd (k_piAny (K' := K) rfl (pe_ix (k_ix (K' := K) rfl) (pv 1) pe_int (fun _ _ => rfl))) (blkOk_by (N := n_law_knows) (sc := defScope s_law_knows) (by decide +kernel)) (fun _ _ _ _ _ => (pg_name (i := 2) sc_law_knows.nd rfl (.inl rfl))) (fun _ _ _ _ _ => pts_nil) (fun _ _ _ _ _ => (pe_cmp (pc_din hu1 (pv 2) (pe_ix (k_ix (K' := K) rfl) (pv 0) pe_int (fun _ _ => rfl))) (by rfl))))) pa_nil)))))), ?_⟩
    refine EvS.body (es_ret ?_) qq
    refine ev_andV (b := A2.all fun p => hasA A p.1) (c := B2.all fun p => B.contains p) (ev_all (l := A2) (f := fun p => hasA A p.1) (ev_lkL k2.da rfl trivial (fun _ _ _ _ _ h => h) fun H1 od g hd => ?_)) fun _ => ev_all (l := B2) (f := fun p => B.contains p) (ev_lkL k2.db rfl trivial (fun _ _ _ _ _ h => h) fun H1 od g hd => ?_)
    · refine ev_lcA (it_aK (it_keysA (ev_b1 (ev_var rfl) (k2.fx g)) hd)) ft.lenU (fun m H3 x hm f3 hx => ?_) fun _ _ _ _ _ h => h
      obtain ⟨r, rfl, h2⟩ := hx
      have k3 := k.fx (g.trans f3)
      exact tg_name rfl et_yes fun _ => ev_is (ev_din (ev_var rfl) (ev_b1 (ev_var rfl) k3) k3.da h2) (by rw [isSome_toA])
    · refine ev_lcA (it_aK (it_keysB (ev_b2 (ev_var rfl) (k2.fx g)) hd)) ft.lenBU (fun m H3 x hm f3 hx => ?_) fun _ _ _ _ _ h => h
      obtain ⟨r, rfl, h2⟩ := hx
      have k3 := k.fx (g.trans f3)
      exact tg_name rfl et_yes fun _ => ev_is (ev_din (ev_var rfl) (ev_b2 (ev_var rfl) k3) k3.db h2) (by rw [valV_toB])
end N88
/-! the law's books made, met, shown; what is drawn -/
namespace N88
open PySem L2 PySem.Spec
variable {P : Program} {w : World} {K : PySem.W.Frag} {mg : Str → Option Value} {base : Heap} {C aO : Addr} {t8 : Tok}
/-! ### a new book -/
def SpBook : Sp := fun vs H Q _ => ∃ pen, vs = [.int pen] ∧ ∀ H' b q r, Same H H' → H' b = some (.lst [.int pen, .ref q, .ref r]) → H' q = some (.dT []) → H' r = some (.dT []) → H q = none → H r = none → q ≠ r → H b = none → Q (.ref b) H'
theorem ok_book {f : Addr} {fd : FuncData} (F : Fun K "_law_book" "_law_book" s_law_book f fd) (T : Txt K mg C aO t8) : FnOk P w K mg base CX0 1 f fd p_law_book SpBook := by
  refine F.ok sc_law_book (fun vs H Q E h => ?_) (fun cdv A outer s H vs Q E hr h => ?_)
  · obtain ⟨pen, rfl, _⟩ := h
    rfl
  · obtain ⟨pen, rfl, k⟩ := h
    refine ⟨_, (pss_one (ps_ret (pe_lst (pa_cons (pv 0) (pa_cons pe_dnewT (pa_cons pe_dnewT pa_nil)))))), ?_⟩
    refine ⟨_, rfl, fun q hq r hr => ⟨by show 3 ≤ sizeLine; decide, fun b hb => ?_⟩⟩
    have s1 : Same H (upd H q (.dT [])) := same_new hq
    have s2 : Same (upd H q (.dT [])) (upd (upd H q (.dT [])) r (.dT [])) := same_new hr
    have s3 : Same (upd (upd H q (.dT [])) r (.dT [])) (upd (upd (upd H q (.dT [])) r (.dT [])) b (.lst [.int pen, .ref q, .ref r])) := same_new hb
    have nqr : q ≠ r := fun e => by
      rw [← e, upd_same] at hr
      cases hr
    exact k _ b q r ((s1.trans s2).trans s3) upd_same (s3 _ _ (s2 _ _ upd_same)) (s3 _ _ upd_same) hq ((Fx.of s1).fresh hr) nqr ((Fx.of (s1.trans s2)).fresh hb)
/-! ### met -/
section
variable {H : Hp} {σ : L2.St} {te te1 te2 td : TE} {t2 : TS} {D : Ends} {P1 : V → Hp → Prop} {P2 : V → Hp → V → Hp → Prop} {a b : Addr} {kvs more : List (List L2.Key × V)}
theorem rs_parP {i j : Nat} (h1 : EvR (te1 σ) H P1) (h2 : ∀ v1 H1, Same H H1 → P1 v1 H1 → EvR (te2 σ) H1 (P2 v1 H1)) (k : ∀ v1 v2 H1 H2, Same H H1 → P1 v1 H1 → Same H1 H2 → P2 v1 H1 v2 H2 → t2 D ((σ.set i (some v1)).set j (some v2)) H2) : tSeq (tPar i j (tCons te1 (tCons te2 tNil))) t2 D σ H :=
  h1.run fun v1 H1 s1 p1 => (h2 v1 H1 s1 p1).run fun v2 H2 s2 p2 => ⟨v1, v2, rfl, k v1 v2 H1 H2 s1 p1 s2 p2⟩
theorem rs_updR (hd : EvR (td σ) H (Is (.ref a))) (ha : H a = some (.dT kvs)) (he : EvR (te σ) H (Is (.ref b))) (hb : Rd H b (.dT more)) (ne : a ≠ b)
    (n : (more.map fun p => TH P w p.1).Nodup) (hl : kvs.length + more.length ≤ sizeLine) (k : ∀ H2, Same H H2 → t2 D σ (upd H2 a (.dT (mergeT kvs more)))) : tSeq (tDrop (tBM K "dict" (rUpdT P w) td (tCons te tNil))) t2 D σ H :=
  hd.run fun x H1 s1 e1 => by
    cases e1
    refine ⟨.inr (.inr (.inl ⟨rfl, .inr ⟨kvs, s1 _ _ ha⟩⟩)), (he.mono (Fx.of s1)).run fun y H2 s2 e2 => ?_⟩
    cases e2
    exact ⟨a, b, kvs, more, rfl, rfl, ne, s2 _ _ (s1 _ _ ha), (Fx.of (s1.trans s2)).rd hb, n, hl, k H2 (s1.trans s2)⟩
theorem ev_copyT {d : Addr} (h : EvR (te σ) H (Is (.ref d))) (hd : Rd H d (.dT kvs)) (n : (kvs.map (·.1)).Nodup) : EvR (tCB (rDictU P w K) (tCons (tListItemsT te) tNil) σ) H (New H (.dT kvs)) := fun H1 g Q q => h H1 g _ fun x H2 s e => by
  cases e
  refine ⟨d, kvs, rfl, (g.same s).rd hd, fun H3 p ts qs s3 hp ht hl hq hy => ?_⟩
  refine .inr (.inr ⟨p, ts, qs, kvs, rfl, SqL.of hl, paired_mono (fun a b h => s3 _ _ h) hq, hy, n, fun o ho => ?_⟩)
  exact q _ _ ((s.trans s3).trans (same_new ho)) ⟨o, rfl, ((g.same s).same s3).fresh ho, upd_same⟩
end
def SpMet : Sp := fun vs H Q _ => ∃ b q r pen A B b2 q2 r2 pen2 A2 B2, vs = [.ref b, .ref b2] ∧ BkR H b q r pen A B ∧ BkR H b2 q2 r2 pen2 A2 B2 ∧ Fit A B ∧ Fit A2 B2 ∧
  ∀ H' b' q' r', Same H H' → H' b' = some (.lst [.int pen, .ref q', .ref r']) → H' q' = some (.dT (mergeT (toA A) (toA A2))) → H' r' = some (.dT (mergeT (toB B) (toB B2))) → H q' = none → H r' = none → q' ≠ r' → H b' = none → Q (.ref b') H'
theorem nd_pk : ∀ {l : List PI2}, l.Nodup → (l.map pk).Nodup
  | [], _ => List.nodup_nil
  | m :: l, h => by
    rw [List.nodup_cons] at h
    rw [List.map_cons, List.nodup_cons]
    refine ⟨fun c => ?_, nd_pk h.2⟩
    obtain ⟨x, hx, e⟩ := List.mem_map.mp c
    rw [pk_inj e] at hx
    exact h.1 hx
theorem keysA_nd {A : TA} {B : TB} (f : Fit A B) : ((toA A).map (·.1)).Nodup := by
  have e : (toA A).map (·.1) = (A.map (·.1)).map pk := by
    unfold toA
    rw [List.map_map, List.map_map]
    rfl
  rw [e]
  exact nd_pk f.nd
theorem keysB_nd {A : TA} {B : TB} (f : Fit A B) : ((toB B).map (·.1)).Nodup := by
  have e : (toB B).map (·.1) = B.map pk := by
    unfold toB
    rw [List.map_map]
    rfl
  rw [e]
  exact nd_pk f.ndB
theorem ok_met {f : Addr} {fd : FuncData} (F : Fun K "_law_met" "_law_met" s_law_met f fd) (T : Txt K mg C aO t8) : FnOk P w K mg base CX0 1 f fd p_law_met SpMet := by
  refine F.ok sc_law_met (fun vs H Q E h => ?_) (fun cdv A outer s H vs Q E hr h => ?_)
  · obtain ⟨b, q, r, pen, A, B, b2, q2, r2, pen2, A2, B2, rfl, _⟩ := h
    rfl
  · obtain ⟨b, q, r, pen, A, B, b2, q2, r2, pen2, A2, B2, rfl, k, k2, ft, ft2, qq⟩ := h
    have hu := hr.units
    have hu1 := hu_of hr
    have lA : (toA A).length ≤ 576 := by unfold toA; rw [List.length_map]; exact ft.len
    have lB : (toB B).length ≤ 576 := by unfold toB; rw [List.length_map]; exact ft.lenB
    have lA2 : (toA A2).length ≤ 576 := by unfold toA; rw [List.length_map]; exact ft2.len
    have lB2 : (toB B2).length ≤ 576 := by unfold toB; rw [List.length_map]; exact ft2.lenB
    have sz : 576 + 576 ≤ sizeLine := by decide
    have nA := keysA_nd ft
    have nB := keysB_nd ft
    refine ⟨_, (pss_cons (ps_par (i := 2) (j := 3) rfl sc_law_met.nd rfl rfl (by decide) rfl rfl (pa_cons (pe_callTy (k_dict (P' := P) (w' := w) (K' := K) rfl rfl rfl rfl hu) (by rfl) T.b_dict (by decide +kernel) (pa_cons (pe_listItemsT rfl (pe_ix (k_ix (K' := K) rfl) (pv 0) pe_int (fun _ _ => rfl)) (by rfl) T.b_list) pa_nil)) (pa_cons (pe_callTy (k_dict (P' := P) (w' := w) (K' := K) rfl rfl rfl rfl hu) (by rfl) T.b_dict (by decide +kernel) (pa_cons (pe_listItemsT rfl (pe_ix (k_ix (K' := K) rfl) (pv 0) pe_int (fun _ _ => rfl)) (by rfl) T.b_list) pa_nil)) pa_nil)) (by rfl))
      (pss_cons (ps_expr (k_bm (K' := K) rfl PySem.F.plainAttrs_dict PySem.F.slot_dict_update PySem.F.type_dict_update (k_upd (P' := P) (w' := w) rfl rfl hu) (pv 2) (pa_cons (pe_ix (k_ix (K' := K) rfl) (pv 1) pe_int (fun _ _ => rfl)) pa_nil)))
      (pss_cons (ps_expr (k_bm (K' := K) rfl PySem.F.plainAttrs_dict PySem.F.slot_dict_update PySem.F.type_dict_update (k_upd (P' := P) (w' := w) rfl rfl hu) (pv 3) (pa_cons (pe_ix (k_ix (K' := K) rfl) (pv 1) pe_int (fun _ _ => rfl)) pa_nil)))
      (pss_one (ps_ret (pe_lst (pa_cons (pe_ix (k_ix (K' := K) rfl) (pv 0) pe_int (fun _ _ => rfl)) (pa_cons (pv 2) (pa_cons (pv 3) pa_nil))))))))), ?_⟩
    refine rs_parP (P1 := New H (.dT (toA A))) (P2 := fun v1 H1 => New H1 (.dT (toB B))) (ev_copyT (ev_b1 (ev_var rfl) k) k.da nA) (fun v1 H1 s1 _ => ev_copyT (ev_b2 (ev_var rfl) (k.fx (Fx.of s1))) (k.fx (Fx.of s1)).db nB) fun v1 v2 H1 H2 s1 h1 s2 h2 => ?_
    obtain ⟨m, rfl, hm0, hm⟩ := h1
    obtain ⟨d, rfl, hd0, hd⟩ := h2
    have hdn : H d = none := (Fx.of s1).fresh hd0
    have hm2 := s2 _ _ hm
    have nmd : m ≠ d := ne_of_none hm hd0
    have s12 := s1.trans s2
    have k22 := k2.fx (Fx.of s12)
    have nmq : m ≠ q2 := fun e => by
      rcases k2.da with h | ⟨o, h⟩ <;> · rw [← e, hm0] at h; cases h
    have ndr : d ≠ r2 := fun e => by
      rcases k2.db with h | ⟨o, h⟩ <;> · rw [← e, hdn] at h; cases h
    refine rs_updR (ev_var rfl) hm2 (ev_b1 (ev_var rfl) k22) k22.da nmq ft2.th (by omega) fun H3 s3 => ?_
    have s3' : Same H (upd H3 m (.dT (mergeT (toA A) (toA A2)))) := fun b o e => by
      rw [upd_ne (fun z => by rw [z, hm0] at e; cases e)]
      exact s3 _ _ (s12 _ _ e)
    have k23 := k2.fx (Fx.of s3')
    refine rs_updR (kvs := toB B) (ev_var rfl) (by rw [upd_ne nmd.symm]; exact s3 _ _ hd) (ev_b2 (ev_var rfl) k23) k23.db ndr ft2.thB (by omega) fun H4 s4 => ?_
    have s4' : Same H (upd H4 d (.dT (mergeT (toB B) (toB B2)))) := fun b o e => by
      rw [upd_ne (fun z => by rw [z, hdn] at e; cases e)]
      exact s4 _ _ (s3' _ _ e)
    refine rs_retL (ev_lst (ea_cons (ev_b0 (ev_var rfl) (k.fx (Fx.of s4'))) (ea_cons (ev_var rfl) (ea_cons (ev_var rfl) ea_nilV))) (by show 3 ≤ sizeLine; decide)) fun v H5 s5 hv => ?_
    obtain ⟨b', rfl, hb0, hb'⟩ := hv
    refine qq H5 b' m d (s4'.trans s5) hb' (s5 _ _ ?_) (s5 _ _ upd_same) hm0 hdn nmd ((Fx.of s4').fresh hb0)
    rw [upd_ne nmd]
    exact s4 _ _ upd_same
/-! ### shown -/
section
variable {H : Hp} {σ : L2.St} {te te1 te2 : TE} {E : XK} {ta : L2.TA}
/-- the law's comparison of two readings of the same data -/
theorem ev_callD {n : Nat} {d : PyData} (h1 : EvR (te1 σ) H (D K d)) (h2 : ∀ H1, Fx H H1 → EvR (te2 σ) H1 (D K d)) (hd : Dn n d) : EvR (tCall (SpOf (preIs K n)) [] E (tCons te1 (tCons te2 tNil)) σ) H (Is (.bl true)) := fun H1 g Q q =>
  h1 H1 g _ fun v1 H2 s1 p1 => (h2 H2 (g.same s1)).run fun v2 H3 s2 p2 => ⟨Is (.bl true), ⟨v1, v2, rfl, rfl, .inl ⟨d, p1.tm (Fx.of s2).tm, p2, hd⟩⟩, fun v H4 s4 e => q v H4 ((s1.trans s2).trans s4) e⟩
theorem ev_meth0 {C : Addr} {m : Str} {pre : List V → Hp → (V → Hp → Prop) → Prop} {P : V → Hp → Prop} {a dx : Addr} {fs : List (Str × V)} (ho : EvR (te σ) H (Is (.ref a))) (hi : H a = some (.ins C dx fs)) (hl : fs.lookup m = none)
    (h : ∀ H', Fx H H' → pre (.ref a :: ([] ++ [])) H' P) : EvR (tMeth C m (SpOf pre) [] E te tNil σ) H P := fun H1 g Q q =>
  ho H1 g _ fun o H2 s p => by
    cases p
    exact ⟨a, dx, fs, rfl, (g.same s).nd hi rfl, hl, P, h H2 (g.same s), fun v H3 s' r => q v H3 (s.trans s') r⟩
theorem yin_strs : ∀ (zs : List Str), YIn zs (zs.map V.str) (fun z x _ => x = .str z) H
  | [] => .nil
  | z :: zs => .cons (fun _ _ => rfl) (yin_strs zs)
end
def preShown (C : Addr) : List V → Hp → (V → Hp → Prop) → Prop := fun vs H R => ∃ a dx p t b q r lb, ∃ zs : List Str, ∃ pen A B, vs = [.ref a, .ref b, .ref lb] ∧ NbR C H a dx p t pen A B ∧ BkR H b q r pen A B ∧ Fit A B ∧ H lb = some (.lst (zs.map V.str)) ∧ zs.length ≤ 64 ∧ (∀ z ∈ zs, z ∈ labels8) ∧ R = Is (.bl true)
theorem prD_dn (p : PI2) : Dn 2 (prD p) := .tup (by simp) fun d hd => by
  rcases List.mem_cons.mp hd with e | e
  · subst e
    exact .int _
  · rw [List.mem_singleton] at e
    subst e
    exact .int _
theorem marks_dn {A : TA} {B : TB} {z : Str} (f : Fit A B) : Dn 3 (.tuple ((rawM A B z).map prD)) := .tup (by
  rw [List.length_map]
  exact Nat.le_trans (fit_raw f).len (by decide)) fun d hd => by
  obtain ⟨p, _, rfl⟩ := List.mem_map.mp hd
  exact prD_dn p
theorem srtS_perm (l : List Str) : (srtS l).Perm l := by
  classical
  unfold srtS
  split
  · next h => exact h.choose_spec.1
  · exact List.Perm.refl l
theorem words_dn {A : TA} {B : TB} (f : Fit A B) : Dn 3 (.tuple ((allW A B).map PyData.str)) := .tup (by
  rw [List.length_map]
  unfold allW
  rw [(srtS_perm _).length_eq]
  exact Nat.le_trans (Nat.le_of_lt f.w64) (by decide)) fun d hd => by
  obtain ⟨z, hz, rfl⟩ := List.mem_map.mp hd
  refine .str z (lab8 z ?_).sh
  unfold allW at hz
  have h2 := uniqW_mem.mp ((srtS_perm _).mem_iff.mp hz)
  obtain ⟨p, hp, e⟩ := List.mem_map.mp h2
  rw [← e]
  exact f.wd p (List.mem_filter.mp hp).1
theorem tdPrs {K : PySem.W.Frag} {H : Hp} {a : Addr} {rs : List Addr} {ps : List PI2} (h : H a = some (.tup (rs.map V.ref))) (hp : Prs H rs ps) : Td K H (.ref a) (.tuple (ps.map prD)) := .tup h (tdAll_prs hp)
theorem ok_shown {f : Addr} {fd : FuncData} (F : Fun K "_law_is_shown" "_law_is_shown" s_law_is_shown f fd) (T : Txt K mg C aO t8) (c__law_is : Cal P w K mg base "_law_is" 5 p_law_is (SpOf (preIs K 4)))
    (c_Notebook_all_words : MCal P w K mg base C "all_words" 1 p_Notebook_all_words (SpOf (preWords K C))) (c_Notebook_marks_of : MCal P w K mg base C "marks_of" 3 p_Notebook_marks_of (SpOf (preMarks K C)))
    (c__law_words : Cal P w K mg base "_law_words" 1 p_law_words (SpOf (preWordsL K))) (c__law_standing : Cal P w K mg base "_law_standing" 1 p_law_standing (SpOf (preStand K))) :
    FnOk P w K mg base CX0 6 f fd p_law_is_shown (SpOf (preShown C)) := by
  refine F.ok sc_law_is_shown (fun vs H Q E h => ?_) (fun cdv A outer s H vs Q E hr h => ?_)
  · obtain ⟨R, ⟨a, dx, p, t, b, q, r, lb, zs, pen, A, B, rfl, _⟩, _⟩ := h
    rfl
  · obtain ⟨R, ⟨a, dx, p, t, b, q, r, lb, zs, pen, A, B, rfl, nb, k, ft, hl, hl64, hz, rfl⟩, qq⟩ := h
    have hu := hr.units
    have hu1 := hu_of hr
    refine ⟨_, (pss_cons (ps_if (pt_not (pt_val (pe_call c__law_is.ok (hr.mono (by first | decide | omega)) (by rfl) c__law_is.at_ c__law_is.kp c__law_is.b .nil pass0 (pa_cons (pe_meth0 (pv 0) T.cl c_Notebook_all_words.m c_Notebook_all_words.ok (hr.mono (by first | decide | omega)) c_Notebook_all_words.b .nil pass0) (pa_cons (pe_call c__law_words.ok (hr.mono (by first | decide | omega)) (by rfl) c__law_words.at_ c__law_words.kp c__law_words.b .nil pass0 (pa_cons (pv 1) pa_nil)) pa_nil))))) (pss_one (ps_ret pe_bl)) pss_nil)
      (pss_one (ps_ret (pe_callB (k_all (K' := K) rfl rfl) (by rfl) T.b_all (by decide +kernel) (pa_cons (pe_lk (pe_lc (own := [("word", 3)]) rfl sc_law_is_shown.nd (k_piAny (K' := K) rfl (pv 2)) (blkOk_by (N := n_law_is_shown) (sc := defScope s_law_is_shown) (by decide +kernel)) (fun _ _ _ _ _ => (pg_name (i := 3) sc_law_is_shown.nd rfl (.inl rfl))) (fun _ _ _ _ _ => pts_nil) (fun _ _ _ _ _ => (pe_call c__law_is.ok (hr.mono (by first | decide | omega)) (by rfl) c__law_is.at_ c__law_is.kp c__law_is.b .nil pass0 (pa_cons (pe_meth (pv 0) T.cl c_Notebook_marks_of.m c_Notebook_marks_of.ok (hr.mono (by first | decide | omega)) c_Notebook_marks_of.b .nil pass0 (pa_cons (pv 3) pa_nil)) (pa_cons (pe_call c__law_standing.ok (hr.mono (by first | decide | omega)) (by rfl) c__law_standing.at_ c__law_standing.kp c__law_standing.b .nil pass0 (pa_cons (pv 1) (pa_cons (pv 3) pa_nil))) pa_nil)))))) pa_nil))))), ?_⟩
    refine EvS.body ?_ qq
    refine es_ifT (b := false) (et_not (b := true) (et_B (ev_callD (n := 4) (d := .tuple ((allW A B).map PyData.str)) ?_ (fun H1 f1 => ?_) (words_dn ft).up))) (fun e => nomatch e) fun _ H2 f2 => es_ret ?_
    · exact ev_meth0 (ev_var rfl) nb.ins (nbf_no (by decide +kernel)) fun H' g => ⟨a, dx, p, t, pen, A, B, rfl, nb.fx g, ft, rfl⟩
    · exact ev_call (ea_cons (ev_var rfl) ea_nilV) fun H' g => ⟨b, q, r, pen, A, B, rfl, k.fx (f1.trans g), ft, rfl⟩
    · refine ev_is (ev_all (l := zs) (f := fun _ => true) (ev_lk0 (ev_lcA (it_aL (it_list (Y := fun z x _ => x = .str z) (ev_var rfl) (SqL.of (f2.nd hl rfl)) (yin_strs zs))) (Nat.le_trans hl64 (by decide)) (fun z H3 x hm f3 hx => ?_) fun _ _ _ _ _ h => h))) (by simp)
      subst hx
      have nb3 := nb.fx (f2.trans f3)
      have k3 := k.fx (f2.trans f3)
      refine tg_name rfl et_yes fun _ => ev_callD (n := 4) (d := .tuple ((rawM A B z).map prD)) ?_ (fun H1 f1 => ?_) (marks_dn ft).up
      · exact ev_meth (ev_var rfl) nb3.ins (nbf_no (by decide +kernel)) (ea_cons (ev_var rfl) ea_nilV) fun H' g => ⟨a, dx, p, t, pen, A, B, z, rfl, nb3.fx g, ft, lab8 z (hz z hm), rfl⟩
      · exact (ev_call (ea_cons (ev_var rfl) (ea_cons (ev_var rfl) ea_nilV)) fun H' g => ⟨b, q, r, pen, A, B, z, rfl, k3.fx (f1.trans g), ft, hz z hm, rfl⟩).imp fun v H4 f4 ⟨o, rs, e, h1, h2⟩ => by
          cases e
          exact tdPrs h1 h2
end N88
/-! what the law draws -/
namespace N88
open PySem L2 PySem.Spec
variable {P : Program} {w : World} {K : PySem.W.Frag} {mg : Str → Option Value} {base : Heap} {C aO : Addr} {t8 : Tok}
theorem But.putN {S : List Addr} {H H1 : Hp} {p : Addr} {o : HO} (a : But S H H1) (h : H p = none) : But S H (upd H1 p o) := fun x u n e => by
  rw [upd_ne (ne_of_none e h)]
  exact a x u n e
theorem HandAt.but {S : List Addr} {H H' : Hp} {hd ca : Addr} (h : HandAt H hd ca) (b : But S H H') (n1 : hd ∉ S) (n2 : ca ∉ S) : HandAt H' hd ca := by
  obtain ⟨xs, i, n, z, c, h1, h2, h3⟩ := h
  exact ⟨xs, i, n, z, c, b _ _ n1 h1, b _ _ n2 h2, h3⟩
theorem HandAt.some {H : Hp} {hd ca : Addr} (h : HandAt H hd ca) : (∃ o, H hd = Option.some o) ∧ ∃ o, H ca = Option.some o := by
  obtain ⟨xs, i, n, z, c, h1, h2, h3⟩ := h
  exact ⟨⟨_, h1⟩, ⟨_, h2⟩⟩
theorem HandAt.off {H : Hp} {hd ca p : Addr} {o : HO} (h : HandAt H hd ca) (n1 : p ≠ hd) (n2 : p ≠ ca) : HandAt (upd H p o) hd ca :=
  h.but (S := [p]) ((But.of (fun _ _ e => e)).put List.mem_cons_self) (by rw [List.mem_singleton]; exact n1.symm) (by rw [List.mem_singleton]; exact n2.symm)
theorem k_call2P {H : Hp} {σ : L2.St} {te1 te2 : TE} {P1 : V → Hp → Prop} {P2 : V → Hp → V → Hp → Prop} {sp : Sp} {E : XK} {Q : VK} (h1 : EvR (te1 σ) H P1) (h2 : ∀ v1 H1, Same H H1 → P1 v1 H1 → EvR (te2 σ) H1 (P2 v1 H1))
    (k : ∀ v1 v2 H1 H2, Same H H1 → P1 v1 H1 → Same H1 H2 → P2 v1 H1 v2 H2 → sp ([v1, v2] ++ []) H2 Q E) : tCall sp [] E (tCons te1 (tCons te2 tNil)) σ H Q :=
  h1.run fun v1 H1 s1 p1 => (h2 v1 H1 s1 p1).run fun v2 H2 s2 p2 => k v1 v2 H1 H2 s1 p1 s2 p2
/-- a draw, as it stands -/
theorem k_draw {H : Hp} {σ : L2.St} {E : XK} {te1 te2 : TE} {Q : VK} {hd ca : Addr} {n : Int} (h1 : EvR (te1 σ) H (Is (.ref hd))) (h2 : EvR (te2 σ) H (Is (.int n))) (n0 : 0 < n) (n1 : n < 1000) (hh : HandAt H hd ca)
    (k : ∀ d H', 0 ≤ d → d < n → But [hd] H H' → HandAt H' hd ca → Q (.int d) H') : tCall SpDraw [] E (tCons te1 (tCons te2 tNil)) σ H Q :=
  k_call (vs := [.ref hd, .int n]) (ea_cons h1 (ea_cons h2 ea_nilV)) fun H1 s1 => ⟨hd, ca, n, rfl, n0, n1, hh.same s1, fun d H' a b c e => k d H' a b (fun x o m z => c x o m (s1 _ _ z)) e⟩
def SpSome : Sp := fun vs H Q _ => ∃ hd ca l xs, vs = [.ref hd, .ref l] ∧ l ≠ hd ∧ H l = some (.lst xs) ∧ 0 < xs.length ∧ xs.length < 1000 ∧ HandAt H hd ca ∧ ∀ v H', v ∈ xs → But [hd] H H' → HandAt H' hd ca → Q v H'
theorem ok_some {f : Addr} {fd : FuncData} (F : Fun K "_law_some" "_law_some" s_law_some f fd) (T : Txt K mg C aO t8) (c__law_draw : Cal P w K mg base "_law_draw" 1 p_law_draw SpDraw) : FnOk P w K mg base CX0 2 f fd p_law_some SpSome := by
  refine F.ok sc_law_some (fun vs H Q E h => ?_) (fun cdv A outer s H vs Q E hr h => ?_)
  · obtain ⟨x, _, dx, _, rfl, _⟩ := h
    rfl
  · obtain ⟨hd, ca, l, xs, rfl, nl, hl, h0, h1, hh, q⟩ := h
    have hu := hr.units
    have hu1 := hu_of hr
    refine ⟨_, (pss_one (ps_ret (pe_ix (k_ix (K' := K) rfl) (pv 1) (pe_call c__law_draw.ok (hr.mono (by first | decide | omega)) (by rfl) c__law_draw.at_ c__law_draw.kp c__law_draw.b .nil pass0 (pa_cons (pv 0) (pa_cons (pe_callB (k_len (K' := K) rfl) (by rfl) T.b_len (by decide +kernel) (pa_cons (pv 1) pa_nil)) pa_nil))) (fun _ _ => rfl)))), ?_⟩
    refine ⟨_, rfl, ?_⟩
    refine k_draw (ev_var rfl) (ev_lenL (ev_var rfl) (SqL.of hl)) (by omega) (by omega) hh fun d H' d0 d1 bt h' => ?_
    obtain ⟨m, rfl⟩ := Int.eq_ofNat_of_zero_le d0
    have hm : m < xs.length := by omega
    refine .inl ⟨l, xs, m, xs[m], rfl, rfl, SqL.of (bt _ _ (by rw [List.mem_singleton]; exact nl) hl), ?_, q _ H' (List.getElem_mem hm) bt h'⟩
    rw [atI_nat hm, List.getElem?_eq_getElem hm]
theorem perm_erase {α : Type} : ∀ {l : List α} {j : Nat} (h : j < l.length), (l[j] :: l.eraseIdx j).Perm l
  | _ :: _, 0, _ => List.Perm.refl _
  | x :: l, j + 1, h => by
    have ih := perm_erase (l := l) (j := j) (by simpa using h)
    have hj : j < l.length := by simpa using h
    show ((l[j] :: x :: l.eraseIdx j)).Perm (x :: l)
    exact (List.Perm.swap x _ _).trans (ih.cons x)
/-! ### mixed -/
theorem rs_while {c : TT} {tb : TS} {D : Ends} {σ : L2.St} {H : Hp} (Pv : Nat → L2.St → Hp → Prop) (m0 : Nat) (h0 : Pv m0 σ H)
    (hs : ∀ m σ H, Pv m σ H → ∃ b, EvT (c σ) H b ∧ (b = true → ∀ H2, Same H H2 → tb { D with nx := fun σ' H' => ∃ m', m' < m ∧ Pv m' σ' H', ct := fun σ' H' => ∃ m', m' < m ∧ Pv m' σ' H', bk := D.nx } σ H2) ∧ (b = false → ∀ H2, Same H H2 → D.nx σ H2)) : tWhile c tb D σ H := by
  refine ⟨Pv, ⟨m0, h0⟩, fun m σ H p => ?_⟩
  obtain ⟨b, hb, h1, h2⟩ := hs m σ H p
  refine hb.run fun H2 s => ?_
  cases b with
  | true => exact ⟨_, fun _ _ h => h, h1 rfl H2 s⟩
  | false => exact h2 rfl H2 s
def SpMixed : Sp := fun vs H Q _ => ∃ hd ca l xs, vs = [.ref hd, .ref l] ∧ l ≠ hd ∧ H l = some (.lst xs) ∧ xs.length < 1000 ∧ HandAt H hd ca ∧ ∀ p ys H', ys.Perm xs → H' p = some (.lst ys) → H p = none → But [hd] H H' → HandAt H' hd ca → Q (.ref p) H'
theorem ok_mixed {f : Addr} {fd : FuncData} (F : Fun K "_law_mixed" "_law_mixed" s_law_mixed f fd) (T : Txt K mg C aO t8) (c__law_draw : Cal P w K mg base "_law_draw" 1 p_law_draw SpDraw) : FnOk P w K mg base CX0 2 f fd p_law_mixed SpMixed := by
  refine F.ok sc_law_mixed (fun vs H Q E h => ?_) (fun cdv A outer s H vs Q E hr h => ?_)
  · obtain ⟨x, _, dx, _, rfl, _⟩ := h
    rfl
  · obtain ⟨hd, ca, l, xs, rfl, nl, hl, h1, hh, q⟩ := h
    have hu := hr.units
    have hu1 := hu_of hr
    refine ⟨_, (pss_cons (ps_par (i := 2) (j := 3) rfl sc_law_mixed.nd rfl rfl (by decide) rfl rfl (pa_cons (pe_callTy (k_list (K' := K) rfl rfl) (by rfl) T.b_list (by decide +kernel) (pa_cons (pv 1) pa_nil)) (pa_cons (pe_lst pa_nil) pa_nil)) (by rfl))
      (pss_cons (ps_while PassesOwn.never (pt_cmpR op_gt (pe_callB (k_len (K' := K) rfl) (by rfl) T.b_len (by decide +kernel) (pa_cons (pv 2) pa_nil)) pe_int (nomark _))
      (pss_one (ps_expr (k_bm (K' := K) rfl PySem.F.plainAttrs_list PySem.F.slot_list_append PySem.F.type_list_append mt_append (pv 3) (pa_cons (k_bm (K' := K) rfl PySem.F.plainAttrs_list PySem.F.slot_list_pop PySem.F.type_list_pop mt_popAt (pv 2) (pa_cons (pe_call c__law_draw.ok (hr.mono (by first | decide | omega)) (by rfl) c__law_draw.at_ c__law_draw.kp c__law_draw.b .nil pass0 (pa_cons (pv 0) (pa_cons (pe_callB (k_len (K' := K) rfl) (by rfl) T.b_len (by decide +kernel) (pa_cons (pv 2) pa_nil)) pa_nil))) pa_nil)) pa_nil)))))
      (pss_one (ps_ret (pv 3))))), ?_⟩
    refine rs_parP (P1 := New H (.lst xs)) (P2 := fun v1 H1 => New H1 (.lst [])) (ev_cb1 (ev_var rfl) fun H1 g Q q => .inl ⟨l, xs, rfl, .inl (g.sqL (SqL.of hl)), fun p hp => q _ _ (same_new hp) ⟨p, rfl, g.fresh hp, upd_same⟩⟩) (fun v1 H1 s1 _ => ev_lst ea_nilV (by decide)) fun v1 v2 H1 H2 s1 h1 s2 h2 => ?_
    obtain ⟨lp, rfl, lp0, hlp⟩ := h1
    obtain ⟨fp, rfl, fp0, hfp⟩ := h2
    have fpn : H fp = none := (Fx.of s1).fresh fp0
    obtain ⟨⟨oh, hoh⟩, oc, hoc⟩ := hh.some
    have nlh : lp ≠ hd := (ne_of_none hoh lp0).symm
    have nfh : fp ≠ hd := (ne_of_none hoh fpn).symm
    have nlc : lp ≠ ca := (ne_of_none hoc lp0).symm
    have nfc : fp ≠ ca := (ne_of_none hoc fpn).symm
    have nlf : lp ≠ fp := ne_of_none hlp fp0
    have s12 := s1.trans s2
    show tWhile _ _ _ _ _
    refine rs_while (fun m σ H' => σ = [some (.ref hd), some (.ref l), some (.ref lp), some (.ref fp)] ∧ But [hd] H H' ∧ HandAt H' hd ca ∧ ∃ ls fs, ls.length = m ∧ H' lp = some (.lst ls) ∧ H' fp = some (.lst fs) ∧ (fs ++ ls).Perm xs) xs.length ⟨rfl, But.of s12, hh.same s12, xs, [], rfl, s2 _ _ hlp, hfp, List.Perm.refl _⟩ (fun m σ H' p => ?_)
    obtain ⟨rfl, bt, h', ls, fs, hm, hl', hf', hp⟩ := p
    refine ⟨decide (0 < ls.length), et_test (ev_is (ev_op (ev_lenL (ev_var rfl) (SqL.of hl')) ev_c rv_I0) (by simp)), fun e H3 s3 => ?_, fun e H3 s3 => ?_⟩
    · have e := of_decide_eq_true e
      have hl3 := s3 _ _ hl'
      have hf3 := s3 _ _ hf'
      have hlen : ls.length ≤ xs.length := by
        rw [← hp.length_eq, List.length_append]
        omega
      have hflen : fs.length + ls.length = xs.length := by
        rw [← hp.length_eq, List.length_append]
      refine ⟨_, rfl, .inl ⟨rfl, _, SqL.of hf3⟩, _, rfl, .inl ⟨rfl, _, SqL.of hl3⟩, ?_⟩
      refine k_draw (ev_var rfl) (ev_lenL (ev_var rfl) (SqL.of hl3)) (by omega) (by omega) (h'.same s3) fun d H4 d0 d1 b4 h4 => ?_
      obtain ⟨j, rfl⟩ := Int.eq_ofNat_of_zero_le d0
      have hj : j < ls.length := by omega
      have hl4 := b4 _ _ (by rw [List.mem_singleton]; exact nlh) hl3
      have hf4 := b4 _ _ (by rw [List.mem_singleton]; exact nfh) hf3
      refine ⟨lp, ls, j, j, ls[j], rfl, rfl, hl4, by omega, by omega, ?_, List.getElem?_eq_getElem hj, ?_⟩
      · unfold seqIndex?
        rw [if_neg (by omega : ¬ ((j : Nat) : Int) < 0)]
        simp
        exact hj
      · have hf5 : (upd H4 lp (.lst (ls.eraseIdx j))) fp = some (.lst fs) := by
          rw [upd_ne nlf.symm]
          exact hf4
        refine ⟨fp, fs, ls[j], rfl, rfl, hf5, ?_, ?_⟩
        · have : sizeLine ≥ 1000 := by decide
          omega
        · refine ⟨(ls.eraseIdx j).length, ?_, rfl, ?_, ?_, ls.eraseIdx j, fs ++ [ls[j]], rfl, ?_, upd_same, ?_⟩
          · rw [List.length_eraseIdx_of_lt hj]
            omega
          · exact (((But.trans bt (But.trans (But.of s3) b4)).putN lp0).putN fpn)
          · exact (h4.off nlh nlc).off nfh nfc
          · rw [upd_ne nlf]
            exact upd_same
          · refine List.Perm.trans ?_ hp
            rw [List.append_assoc]
            exact List.Perm.append_left fs (perm_erase hj)
    · have e := of_decide_eq_false e
      have e2 : ls = [] := List.length_eq_zero_iff.mp (by omega)
      subst e2
      rw [List.append_nil] at hp
      refine rs_retL (P1 := Is (.ref fp)) (ev_var rfl) fun v H4 s4 e4 => ?_
      cases e4
      exact q fp fs H4 hp (s4 _ _ (s3 _ _ hf')) fpn ((bt.same s3).same s4) ((h'.same s3).same s4)
/-! ### the hand -/
theorem ints_cut (ns : List Int) (lo hi : Option Int) : ∃ ms : List Int, cutV (ns.map V.int) lo hi = ms.map V.int ∧ ms.length ≤ ns.length := by
  unfold cutV
  rw [List.length_map, ← List.map_drop, ← List.map_take]
  refine ⟨_, rfl, ?_⟩
  rw [List.length_take, List.length_drop]
  omega
theorem yin_ints {H : Hp} : ∀ (ns : List Int), YIn ns (ns.map V.int) (fun n x _ => x = .int n) H
  | [] => .nil
  | n :: ns => .cons (fun _ _ => rfl) (yin_ints ns)
def SpHand (K : PySem.W.Frag) : Sp := fun vs H Q _ => ∃ a, ∃ ns : List Int, vs = [.ref a] ∧ SqL K H a (ns.map V.int) ∧ ns.length ≤ 63 ∧ ∀ H' hd ca, Same H H' → HandAt H' hd ca → Q (.ref hd) H'
theorem ok_hand {f : Addr} {fd : FuncData} (F : Fun K "_law_hand" "_law_hand" s_law_hand f fd) (T : Txt K mg C aO t8) : FnOk P w K mg base CX0 1 f fd p_law_hand (SpHand K) := by
  refine F.ok sc_law_hand (fun vs H Q E h => ?_) (fun cdv A outer s H vs Q E hr h => ?_)
  · obtain ⟨x, _, rfl, _⟩ := h
    rfl
  · obtain ⟨a, ns, rfl, ha, hn, q⟩ := h
    have hu := hr.units
    have hu1 := hu_of hr
    refine ⟨_, (pss_cons (ps_lk (ps_setLc (own := [("cell", 2)]) (i := 1) rfl sc_law_hand.nd rfl rfl (sw_true rfl rfl rfl (by decide +kernel)) (k_piAny (K' := K) rfl (pe_slice (k_sl (K' := K) rfl) (pv 0) po_none (po_some pe_int))) (blkOk_by (N := n_law_hand) (sc := defScope s_law_hand) (by decide +kernel)) (fun _ _ _ _ _ => (pg_name (i := 2) sc_law_hand.nd rfl (.inl rfl))) (fun _ _ _ _ _ => pts_nil) (fun _ _ _ _ _ => (pe_callB call_abs (by rfl) T.b_abs (by decide +kernel) (pa_cons (pe_callTy call_int1 (by rfl) T.b_int (by decide +kernel) (pa_cons (pv 2) pa_nil)) pa_nil)))))
      (pss_one (ps_ret (pe_lst (pa_cons (pv 1) (pa_cons pe_int (pa_cons pe_int (pa_cons (pe_op (k_addU (K' := K) rfl) pe_int (pe_op op_mul pe_int (pe_callB (k_len (K' := K) rfl) (by rfl) T.b_len (by decide +kernel) (pa_cons (pv 1) pa_nil)))) (pa_cons pe_int pa_nil))))))))), ?_⟩
    refine .inl ?_
    obtain ⟨ms, em, lm⟩ := ints_cut ns none (some 63)
    have key : EvR (tSl (rSlU K) (tVar 0) tNoPart (tPart (tC (.int 63))) (start n_law_hand [.ref a])) H fun v H2 => ∃ p ys, v = .ref p ∧ SqL K H2 p ys ∧ YIn ms ys (fun n x _ => x = .int n) H2 := fun H1 g Q q => by
      refine ⟨_, rfl, 63, rfl, .inl ⟨a, _, rfl, g.sqL ha, fun p hp => q _ _ (same_new hp) ⟨p, ms.map V.int, rfl, SqL.of ?_, yin_ints ms⟩⟩⟩
      rw [upd_same, em]
    refine rs_asg (P1 := NewL H ms fun n => Is (.int (if n < 0 then -n else n))) (ev_lcA (it_aL (it_listP key)) (Nat.le_trans (Nat.le_trans lm hn) (by decide)) (fun n H3 x hm f3 hx => ?_) fun _ _ _ _ _ h => h) fun v H2 s2 hv => ?_
    · subst hx
      exact tg_name rfl et_yes fun _ => ev_cb1 (ev_int (ev_var rfl)) fun H4 g Q q => ⟨n, rfl, q _ H4 (fun _ _ e => e) rfl⟩
    · obtain ⟨ca, ys, rfl, _, hca, hy⟩ := hv
      have hy2 := ints_of (g := fun n : Int => if n < 0 then -n else n) hy
      subst hy2
      refine rs_retL (ev_lst (ea_cons (ev_var rfl) (ea_cons ev_c (ea_cons ev_c (ea_cons (ev_op ev_c (ev_op ev_c (ev_lenL (ev_var rfl) (SqL.of hca)) (rv_I (.inl ⟨by decide, by decide⟩))) rv_add) (ea_cons ev_c ea_nilV))))) (by show 5 ≤ sizeLine; decide)) fun v H3 s3 hv => ?_
      obtain ⟨hd, rfl, _, hhd⟩ := hv
      exact q H3 hd ca (s2.trans s3) ⟨_, _, _, _, _, hhd, s3 _ _ hca, Int.le_refl 0⟩
/-! ### labels -/
theorem strs_of {ys : List V} {zs : List Str} (h : ∀ y ∈ ys, y ∈ zs.map V.str) : ∃ ws : List Str, ys = ws.map V.str ∧ ∀ z ∈ ws, z ∈ zs := by
  induction ys with
  | nil => exact ⟨[], rfl, fun _ h => by cases h⟩
  | cons y ys ih =>
    obtain ⟨ws, e, hw⟩ := ih fun x hx => h x (List.mem_cons_of_mem _ hx)
    obtain ⟨z, hz, e2⟩ := List.mem_map.mp (h y List.mem_cons_self)
    refine ⟨z :: ws, by rw [e, ← e2]; rfl, fun x hx => ?_⟩
    rcases List.mem_cons.mp hx with c | c
    · exact c ▸ hz
    · exact hw x c
def SpLabels : Sp := fun vs H Q _ => ∃ hd ca, vs = [.ref hd] ∧ HandAt H hd ca ∧ ∀ p, ∀ zs : List Str, ∀ H', H' p = some (.lst (zs.map V.str)) → H p = none → But [hd] H H' → HandAt H' hd ca → (∀ z ∈ zs, z ∈ labels8) → 0 < zs.length → zs.length ≤ 8 → Q (.ref p) H'
theorem But.noneOf {S : List Addr} {H H1 : Hp} {p : Addr} (b : But S H H1) (h : H1 p = none) (n : p ∉ S) : H p = none := by
  cases e : H p with
  | none => rfl
  | some o =>
    have := b p o n e
    rw [h] at this
    cases this
theorem ok_labels {f : Addr} {fd : FuncData} (F : Fun K "_law_labels" "_law_labels" s_law_labels f fd) (T : Txt K mg C aO t8) (c__law_draw : Cal P w K mg base "_law_draw" 1 p_law_draw SpDraw) (c__law_mixed : Cal P w K mg base "_law_mixed" 2 p_law_mixed SpMixed) :
    FnOk P w K mg base CX0 3 f fd p_law_labels SpLabels := by
  refine F.ok sc_law_labels (fun vs H Q E h => ?_) (fun cdv A outer s H vs Q E hr h => ?_)
  · obtain ⟨x, _, rfl, _⟩ := h
    rfl
  · obtain ⟨hd, ca, rfl, hh, q⟩ := h
    have hu := hr.units
    have hu1 := hu_of hr
    refine ⟨_, (pss_cons (ps_set (i := 1) sc_law_labels.nd rfl (.inl rfl) (pe_call c__law_mixed.ok (hr.mono (by first | decide | omega)) (by rfl) c__law_mixed.at_ c__law_mixed.kp c__law_mixed.b .nil pass0 (pa_cons (pv 0) (pa_cons (pe_lst (pa_cons pe_str (pa_cons pe_str (pa_cons pe_str (pa_cons pe_str (pa_cons pe_str (pa_cons pe_str (pa_cons pe_str (pa_cons pe_str pa_nil))))))))) pa_nil))))
      (pss_one (ps_ret (pe_slice (k_sl (K' := K) rfl) (pv 1) po_none (po_some (pe_op (k_addU (K' := K) rfl) pe_int (pe_call c__law_draw.ok (hr.mono (by first | decide | omega)) (by rfl) c__law_draw.at_ c__law_draw.kp c__law_draw.b .nil pass0 (pa_cons (pv 0) (pa_cons pe_int pa_nil))))))))), ?_⟩
    refine rs_asgK (k_call2P (P1 := Is (.ref hd)) (P2 := fun _ H1 => New H1 (.lst (labels8.map V.str))) (ev_var rfl) (fun v1 H1 _ _ => ev_lst (vs := labels8.map V.str) (ea_cons ev_c (ea_cons ev_c (ea_cons ev_c (ea_cons ev_c (ea_cons ev_c (ea_cons ev_c (ea_cons ev_c (ea_cons ev_c ea_nilV)))))))) (by decide +kernel)) fun v1 v2 H1 H2 s1 e1 s2 h2 => ?_)
    cases e1
    obtain ⟨l, rfl, hl0, hl⟩ := h2
    have h1 := hh.same s1
    obtain ⟨⟨oh, hoh⟩, oc, hoc⟩ := h1.some
    refine ⟨hd, ca, l, _, rfl, (ne_of_none hoh hl0).symm, hl, by decide +kernel, h1.same s2, fun p ys H3 hp hp3 hp0 b3 h3 => ?_⟩
    obtain ⟨ws, rfl, hws⟩ := strs_of (zs := labels8) fun y hy => hp.mem_iff.mp hy
    have hlen : ws.length = 8 := by
      have := hp.length_eq
      rw [List.length_map, List.length_map] at this
      exact this
    have hpn : H p = none := (Fx.of (s1.trans s2)).fresh hp0
    have nph : p ≠ hd := fun e => by
      obtain ⟨⟨o, ho⟩, _⟩ := hh.some
      rw [e, ho] at hpn
      cases hpn
    refine rs_retK ⟨_, rfl, ?_⟩
    refine k_draw (ev_var rfl) ev_c (by decide) (by decide) h3 fun d H4 d0 d1 b4 h4 => ?_
    refine .inl ⟨3, d, rfl, rfl, 3 + d, rfl, .inl ⟨p, ws.map V.str, rfl, SqL.of (b4 _ _ (by rw [List.mem_singleton]; exact nph) hp3), fun o ho => ?_⟩⟩
    obtain ⟨j, rfl⟩ := Int.eq_ofNat_of_zero_le d0
    have hj : j < 4 := by omega
    obtain ⟨us, eu, hu1', hu2⟩ : ∃ us : List Str, cutV (ws.map V.str) none (some (3 + (j : Int))) = us.map V.str ∧ (∀ z ∈ us, z ∈ ws) ∧ us.length = 3 + j := by
      refine ⟨ws.take (3 + j), ?_, fun z hz => List.mem_of_mem_take hz, by rw [List.length_take]; omega⟩
      unfold cutV
      rw [show (3 + (j : Int)) = ((3 + j : Nat) : Int) by omega, HT.sIx_nat, HT.sIx_none, List.length_map, hlen, List.drop_zero, List.map_take, Nat.sub_zero, show min (3 + j) 8 = 3 + j by omega]
    have hon : H o = none := (But.trans (But.of (s1.trans s2)) (But.trans b3 b4)).noneOf ho (fun e => by
      rw [List.mem_singleton] at e
      obtain ⟨⟨o2, ho2⟩, _⟩ := h4.some
      rw [← e, ho] at ho2
      cases ho2)
    refine q o us _ (by rw [upd_same, eu]) hon ?_ ?_ (fun z hz => hws z (hu1' z hz)) (by omega) (by omega)
    · exact (But.trans (But.of (s1.trans s2)) (But.trans b3 b4)).putN hon
    · exact h4.same (same_new ho)
end N88
/-! the notebooks and books of a life -/
namespace N88
open PySem L2 PySem.Spec
structure Ent where
  a : Addr
  dx : Addr
  p : Addr
  t : Addr
  b : Addr
  q : Addr
  r : Addr
  pen : Int
  M : List PI2
  B : List PI2
/-- a notebook and its book, as they stand -/
structure EntAt (C : Addr) (H : Hp) (W : PI2 → Str) (e : Ent) : Prop where
  ha : H e.a = some (.ins C e.dx (nbf e.pen e.p e.t))
  hp : H e.p = some (.dT (toA (tab W e.M)))
  ht : H e.t = some (.dT (toB e.B))
  hb : H e.b = some (.lst [.int e.pen, .ref e.q, .ref e.r])
  hq : H e.q = some (.dT (toA (tab W e.M)))
  hr : H e.r = some (.dT (toB e.B))
def dicts (e : Ent) : List Addr := [e.p, e.t, e.q, e.r]
theorem EntAt.nb {C : Addr} {H : Hp} {W : PI2 → Str} {e : Ent} (h : EntAt C H W e) : NbR C H e.a e.dx e.p e.t e.pen (tab W e.M) e.B := ⟨h.ha, .inl h.hp, .inl h.ht⟩
theorem EntAt.bk {C : Addr} {H : Hp} {W : PI2 → Str} {e : Ent} (h : EntAt C H W e) : BkR H e.b e.q e.r e.pen (tab W e.M) e.B := ⟨h.hb, .inl h.hq, .inl h.hr⟩
/-- what is changed are dicts and lists that are not its own -/
theorem EntAt.but {C : Addr} {H H' : Hp} {W : PI2 → Str} {e : Ent} {X : List Addr} (h : EntAt C H W e) (b : But X H H') (ha : e.a ∉ X) (hb : e.b ∉ X) (hd : ∀ x ∈ dicts e, x ∉ X) : EntAt C H' W e :=
  ⟨b _ _ ha h.ha, b _ _ (hd _ (by simp [dicts])) h.hp, b _ _ (hd _ (by simp [dicts])) h.ht, b _ _ hb h.hb, b _ _ (hd _ (by simp [dicts])) h.hq, b _ _ (hd _ (by simp [dicts])) h.hr⟩
theorem EntAt.same {C : Addr} {H H' : Hp} {W : PI2 → Str} {e : Ent} (h : EntAt C H W e) (s : Same H H') : EntAt C H' W e := h.but (X := []) (But.of s) (by simp) (by simp) (by simp)
theorem tab_congr {W W' : PI2 → Str} {M : List PI2} (h : ∀ m ∈ M, W m = W' m) : tab W M = tab W' M := List.map_congr_left fun m hm => by rw [h m hm]
theorem EntAt.word {C : Addr} {H : Hp} {W W' : PI2 → Str} {e : Ent} (h : EntAt C H W e) (g : ∀ m ∈ e.M, W m = W' m) : EntAt C H W' e :=
  ⟨h.ha, by rw [← tab_congr g]; exact h.hp, h.ht, h.hb, by rw [← tab_congr g]; exact h.hq, h.hr⟩
/-- the tables of a life -/
structure Good (W : PI2 → Str) (S : List Ent) (k : Int) : Prop where
  fit : ∀ e ∈ S, FitM e.M ∧ FitM e.B
  pen : ∀ e ∈ S, 0 ≤ e.pen ∧ e.pen ≤ 8
  num : ∀ e ∈ S, ∀ m ∈ e.M, m.2 < k
  wd : ∀ e ∈ S, ∀ m ∈ e.M, W m ∈ labels8
  dis : ∀ (i j : Nat) (e f : Ent), S[i]? = some e → S[j]? = some f → i ≠ j → e.pen ≠ f.pen
  own : ∀ e ∈ S, ∀ f ∈ S, ∀ m ∈ e.M, m.1 = f.pen → m ∈ f.M
  wr : ∀ e ∈ S, ∀ m ∈ e.M, ∃ f ∈ S, f.pen = m.1
  sub : ∀ e ∈ S, ∀ m ∈ e.B, m ∈ e.M
theorem Good.fitE {W : PI2 → Str} {S : List Ent} {k : Int} (g : Good W S k) {e : Ent} (h : e ∈ S) : Fit (tab W e.M) e.B := fit_of (g.fit e h).1 (g.fit e h).2 (g.wd e h)
theorem mem_set {S : List Ent} {i : Nat} {e' x : Ent} (h : x ∈ S.set i e') : x ∈ S ∨ x = e' := List.mem_or_eq_of_mem_set h
theorem mem_at {S : List Ent} {i : Nat} {e : Ent} (h : S[i]? = some e) : e ∈ S := List.mem_of_getElem? h
theorem set_at {S : List Ent} {i : Nat} {e e' : Ent} (h : S[i]? = some e) : (S.set i e')[i]? = some e' := by
  rw [List.getElem?_set_self]
  exact (List.getElem?_eq_some_iff.mp h).1
theorem set_off {S : List Ent} {i j : Nat} {e' : Ent} (n : i ≠ j) : (S.set i e')[j]? = S[j]? := List.getElem?_set_ne n
/-- an item of the changed list -/
theorem set_cases {S : List Ent} {i j : Nat} {e e' x : Ent} (h : S[i]? = some e) (hx : (S.set i e')[j]? = some x) : (j = i ∧ x = e') ∨ (j ≠ i ∧ S[j]? = some x) := by
  by_cases c : i = j
  · subst c
    rw [set_at h] at hx
    cases hx
    exact .inl ⟨rfl, rfl⟩
  · rw [set_off c] at hx
    exact .inr ⟨fun z => c z.symm, hx⟩
theorem set_mem {S : List Ent} {i j : Nat} {e' f : Ent} (n : i ≠ j) (h : S[j]? = some f) : f ∈ S.set i e' := mem_at (i := j) (by rw [set_off n]; exact h)
theorem pen_kept {S : List Ent} {i : Nat} {e e' f : Ent} (h : S[i]? = some e) (hp : e'.pen = e.pen) (hf : f ∈ S) : ∃ f' ∈ S.set i e', f'.pen = f.pen := by
  obtain ⟨j, hj⟩ := List.getElem?_of_mem hf
  by_cases c : i = j
  · subst c
    rw [h] at hj
    cases hj
    exact ⟨e', mem_at (set_at h), hp⟩
  · exact ⟨f, set_mem c hj, rfl⟩
theorem Good.step {W : PI2 → Str} {S : List Ent} {k : Int} {i : Nat} {e e' : Ent} (g : Good W S k) (h : S[i]? = some e) (hp : e'.pen = e.pen) (f1 : FitM e'.M) (f2 : FitM e'.B) (up : ∀ m ∈ e.M, m ∈ e'.M) (dn : ∀ m ∈ e'.M, ∃ x ∈ S, m ∈ x.M) (bm : ∀ m ∈ e'.B, m ∈ e'.M) : Good W (S.set i e') k := by
  have he := mem_at h
  have dn2 : ∀ x ∈ S.set i e', ∀ m ∈ x.M, ∃ y ∈ S, m ∈ y.M := fun x hx m hm => (mem_set hx).elim (fun z => ⟨x, z, hm⟩) fun z => dn m (z ▸ hm)
  refine ⟨fun x hx => ?_, fun x hx => ?_, fun x hx m hm => ?_, fun x hx m hm => ?_, fun a b x y hx hy n => ?_, fun x hx y hy m hm e1 => ?_, fun x hx m hm => ?_, fun x hx m hm => (mem_set hx).elim (fun c => g.sub x c m hm) fun c => by rw [c] at hm ⊢; exact bm m hm⟩
  · exact (mem_set hx).elim (g.fit x) fun z => z ▸ ⟨f1, f2⟩
  · exact (mem_set hx).elim (g.pen x) fun z => by rw [z, hp]; exact g.pen e he
  · obtain ⟨y, hy, hm2⟩ := dn2 x hx m hm
    exact g.num y hy m hm2
  · obtain ⟨y, hy, hm2⟩ := dn2 x hx m hm
    exact g.wd y hy m hm2
  · rcases set_cases h hx with ⟨rfl, rfl⟩ | ⟨n1, h1⟩ <;> rcases set_cases h hy with ⟨rfl, rfl⟩ | ⟨n2, h2⟩
    · exact absurd rfl n
    · rw [hp]
      exact g.dis _ _ _ _ h h2 n
    · rw [hp]
      exact g.dis _ _ _ _ h1 h n
    · exact g.dis _ _ _ _ h1 h2 n
  · obtain ⟨z, hz, hm2⟩ := dn2 x hx m hm
    rcases mem_set hy with c | c
    · exact g.own z hz y c m hm2 e1
    · rw [c]
      rw [c, hp] at e1
      exact up m (g.own z hz e he m hm2 e1)
  · obtain ⟨z, hz, hm2⟩ := dn2 x hx m hm
    obtain ⟨f, hf, e1⟩ := g.wr z hz m hm2
    obtain ⟨f', hf', e2⟩ := pen_kept h hp hf
    exact ⟨f', hf', by rw [e2, e1]⟩
/-- the new mark is nowhere -/
theorem Good.fresh {W : PI2 → Str} {S : List Ent} {k : Int} {e : Ent} (g : Good W S k) (h : e ∈ S) : ∀ x ∈ S, (e.pen, nxtM e.M e.pen) ∉ x.M := fun x hx c => nxtM_new (g.own x hx e h _ c rfl)
def updW (W : PI2 → Str) (m : PI2) (z : Str) : PI2 → Str := fun x => if x = m then z else W x
theorem updW_off {W : PI2 → Str} {m x : PI2} {z : Str} (n : x ≠ m) : updW W m z x = W x := if_neg n
theorem Good.add {W : PI2 → Str} {S : List Ent} {k : Int} {i : Nat} {e e' : Ent} {z : Str} (g : Good W S k) (h : S[i]? = some e) (hk : k < 64) (hk0 : 0 ≤ k) (hz : z ∈ labels8) (hp : e'.pen = e.pen) (hM : e'.M = e.M ++ [(e.pen, nxtM e.M e.pen)]) (hB : e'.B = e.B) :
    Good (updW W (e.pen, nxtM e.M e.pen) z) (S.set i e') (k + 1) := by
  have he := mem_at h
  have fr := g.fresh he
  generalize hm0 : (e.pen, nxtM e.M e.pen) = m0 at *
  have nk : m0.2 ≤ k := by
    rw [← hm0]
    exact nxtM_le hk0 (g.num e he)
  have m1 : m0.1 = e.pen := by rw [← hm0]
  have dn2 : ∀ x ∈ S.set i e', ∀ m ∈ x.M, (m = m0 ∧ x = e') ∨ ∃ y ∈ S, m ∈ y.M := fun x hx m hm => (mem_set hx).elim (fun c => .inr ⟨x, c, hm⟩) fun c => by
    rw [c, hM] at hm
    rcases List.mem_append.mp hm with d | d
    · exact .inr ⟨e, he, d⟩
    · exact .inl ⟨List.mem_singleton.mp d, c⟩
  have up : ∀ m ∈ e.M, m ∈ e'.M := fun m hm => by
    rw [hM]
    exact List.mem_append_left _ hm
  have m0in : m0 ∈ e'.M := by
    rw [hM]
    exact List.mem_append_right _ List.mem_cons_self
  refine ⟨fun x hx => ?_, fun x hx => ?_, fun x hx m hm => ?_, fun x hx m hm => ?_, fun a b x y hx hy n => ?_, fun x hx y hy m hm e1 => ?_, fun x hx m hm => ?_, fun x hx m hm => (mem_set hx).elim (fun c => g.sub x c m hm) fun c => by rw [c, hB] at hm; rw [c]; exact up m (g.sub e he m hm)⟩
  · refine (mem_set hx).elim (g.fit x) fun c => ?_
    rw [c, hM, hB]
    refine ⟨⟨List.nodup_append.mpr ⟨(g.fit e he).1.nd, by simp, fun a ha b hb e1 => ?_⟩, fun p hp2 => ?_⟩, (g.fit e he).2⟩
    · rw [List.mem_singleton] at hb
      rw [e1, hb] at ha
      exact fr e he ha
    · rcases List.mem_append.mp hp2 with d | d
      · exact (g.fit e he).1.rg p d
      · rw [List.mem_singleton] at d
        have := g.pen e he
        have h0 : 0 ≤ m0.2 := by
          rw [← hm0]
          exact nxtM_nn
        rw [d]
        unfold InR
        rw [m1]
        omega
  · exact (mem_set hx).elim (g.pen x) fun c => by rw [c, hp]; exact g.pen e he
  · rcases dn2 x hx m hm with ⟨c, _⟩ | ⟨y, hy, hm2⟩
    · rw [c]
      omega
    · have := g.num y hy m hm2
      omega
  · rcases dn2 x hx m hm with ⟨c, _⟩ | ⟨y, hy, hm2⟩
    · rw [c]
      unfold updW
      rw [if_pos rfl]
      exact hz
    · rw [updW_off (fun c : m = m0 => fr y hy (by rw [← c]; exact hm2))]
      exact g.wd y hy m hm2
  · rcases set_cases h hx with ⟨rfl, rfl⟩ | ⟨n1, h1⟩ <;> rcases set_cases h hy with ⟨rfl, rfl⟩ | ⟨n2, h2⟩
    · exact absurd rfl n
    · rw [hp]
      exact g.dis _ _ _ _ h h2 n
    · rw [hp]
      exact g.dis _ _ _ _ h1 h n
    · exact g.dis _ _ _ _ h1 h2 n
  · obtain ⟨j, hj⟩ := List.getElem?_of_mem hy
    rcases dn2 x hx m hm with ⟨c, _⟩ | ⟨v, hv, hm2⟩
    · rcases set_cases h hj with ⟨_, d⟩ | ⟨n1, h1⟩
      · rw [d, c]
        exact m0in
      · rw [c, m1] at e1
        exact absurd e1 (g.dis _ _ _ _ h h1 fun z => n1 z.symm)
    · rcases mem_set hy with c | c
      · exact g.own v hv y c m hm2 e1
      · rw [c]
        rw [c, hp] at e1
        exact up m (g.own v hv e he m hm2 e1)
  · rcases dn2 x hx m hm with ⟨c, d⟩ | ⟨v, hv, hm2⟩
    · exact ⟨e', mem_at (set_at h), by rw [hp, c, m1]⟩
    · obtain ⟨f, hf, e1⟩ := g.wr v hv m hm2
      obtain ⟨f', hf', e2⟩ := pen_kept h hp hf
      exact ⟨f', hf', by rw [e2, e1]⟩
theorem app_cases {S : List Ent} {e x : Ent} {j : Nat} (h : (S ++ [e])[j]? = some x) : (j < S.length ∧ S[j]? = some x) ∨ (j = S.length ∧ x = e) := by
  by_cases c : j < S.length
  · rw [List.getElem?_append_left c] at h
    exact .inl ⟨c, h⟩
  · rw [List.getElem?_append_right (by omega)] at h
    have : j - S.length = 0 := by
      by_cases d : j - S.length = 0
      · exact d
      · rw [List.getElem?_eq_none (by rw [List.length_singleton]; omega)] at h
        cases h
    rw [this] at h
    cases h
    exact .inr ⟨by omega, rfl⟩
/-- a copy by a new writer -/
theorem Good.app {W : PI2 → Str} {S : List Ent} {k : Int} {e e' : Ent} (g : Good W S k) (h : e ∈ S) (hn : ∀ x ∈ S, x.pen ≠ e'.pen) (h0 : 0 ≤ e'.pen) (h8 : e'.pen ≤ 8) (hM : e'.M = e.M) (hB : e'.B = e.B) : Good W (S ++ [e']) k := by
  have ms : ∀ x ∈ S ++ [e'], x ∈ S ∨ x = e' := fun x hx => (List.mem_append.mp hx).imp id List.mem_singleton.mp
  have dn : ∀ x ∈ S ++ [e'], ∀ m ∈ x.M, ∃ y ∈ S, m ∈ y.M := fun x hx m hm => (ms x hx).elim (fun c => ⟨x, c, hm⟩) fun c => ⟨e, h, by rw [c, hM] at hm; exact hm⟩
  refine ⟨fun x hx => ?_, fun x hx => ?_, fun x hx m hm => ?_, fun x hx m hm => ?_, fun a b x y hx hy n => ?_, fun x hx y hy m hm e1 => ?_, fun x hx m hm => ?_, fun x hx m hm => (ms x hx).elim (fun c => g.sub x c m hm) fun c => by rw [c, hB] at hm; rw [c, hM]; exact g.sub e h m hm⟩
  · exact (ms x hx).elim (g.fit x) fun c => by rw [c, hM, hB]; exact g.fit e h
  · exact (ms x hx).elim (g.pen x) fun c => by rw [c]; exact ⟨h0, h8⟩
  · obtain ⟨y, hy, hm2⟩ := dn x hx m hm
    exact g.num y hy m hm2
  · obtain ⟨y, hy, hm2⟩ := dn x hx m hm
    exact g.wd y hy m hm2
  · rcases app_cases hx with ⟨_, h1⟩ | ⟨n1, rfl⟩ <;> rcases app_cases hy with ⟨_, h2⟩ | ⟨n2, rfl⟩
    · exact g.dis _ _ _ _ h1 h2 n
    · exact hn x (mem_at h1)
    · exact (hn y (mem_at h2)).symm
    · omega
  · obtain ⟨z, hz, hm2⟩ := dn x hx m hm
    rcases ms y hy with c | c
    · exact g.own z hz y c m hm2 e1
    · obtain ⟨f, hf, e2⟩ := g.wr z hz m hm2
      rw [c, ← e2] at e1
      exact absurd e1 (hn f hf)
  · obtain ⟨z, hz, hm2⟩ := dn x hx m hm
    obtain ⟨f, hf, e2⟩ := g.wr z hz m hm2
    exact ⟨f, List.mem_append_left _ hf, e2⟩

/-- the heap of a life -/
structure Wd (Tt : List (Addr × Str)) (C : Addr) (H : Hp) (hd ca lb ns bs : Addr) (zs : List Str) (W : PI2 → Str) (S : List Ent) : Prop where
  hand : HandAt H hd ca
  lab : H lb = some (.lst (zs.map V.str))
  nsl : H ns = some (.lst (S.map fun e => V.ref e.a))
  bsl : H bs = some (.lst (S.map fun e => V.ref e.b))
  ents : ∀ e ∈ S, EntAt C H W e
  dj : ∀ (i j : Nat) (e f : Ent), S[i]? = some e → S[j]? = some f → i ≠ j → ∀ x ∈ dicts e, x ∉ dicts f
  d1 : ∀ e ∈ S, (dicts e).Nodup
  ls : [hd, ca, lb, ns, bs].Nodup
  bb : ∀ e ∈ S, e.b ∉ [hd, ca, lb, ns, bs]
  tabs : LamX.Tabs Tt H
/-- neither a table nor a code object -/
def plainO : HO → Bool
  | .tbl _ => false
  | .ext _ => false
  | _ => true
theorem tabs_but {Tt : List (Addr × Str)} {X : List Addr} {H H' : Hp} (t : LamX.Tabs Tt H) (b : But X H H') (hX : ∀ x ∈ X, ∃ o, H x = some o ∧ plainO o = true) : LamX.Tabs Tt H' := fun p hp => by
  have off : ∀ x o, H x = some o → plainO o = false → x ∉ X := fun x o h n c => by
    obtain ⟨o2, h2, e⟩ := hX x c
    rw [h] at h2
    cases h2
    rw [n] at e
    cases e
  obtain ⟨ps, h1, h2, h3⟩ := t p hp
  refine ⟨ps, b _ _ (off _ _ h1 rfl) h1, h2, fun pos cv hc => ?_⟩
  obtain ⟨c, e1, e2⟩ := h3 pos cv hc
  exact ⟨c, e1, b _ _ (off _ _ e2 rfl) e2⟩
theorem tabs_same {Tt : List (Addr × Str)} {H H' : Hp} (t : LamX.Tabs Tt H) (s : Same H H') : LamX.Tabs Tt H' := LamX.Tabs.ext t s
theorem tabs_hd {Tt : List (Addr × Str)} {H H' : Hp} {hd ca : Addr} (t : LamX.Tabs Tt H) (h : HandAt H hd ca) (b : But [hd] H H') : LamX.Tabs Tt H' := tabs_but t b fun x hx => by
  obtain ⟨xs, i, n, z, c, h1, h2, h3⟩ := h
  rw [List.mem_singleton] at hx
  rw [hx]
  exact ⟨_, h1, rfl⟩
theorem map_set {β : Type} {S : List Ent} {i : Nat} {e e' : Ent} {f : Ent → β} (h : S[i]? = some e) (hf : f e' = f e) : (S.set i e').map f = S.map f := by
  refine List.ext_getElem? fun j => ?_
  rw [List.getElem?_map, List.getElem?_map]
  by_cases c : i = j
  · subst c
    rw [set_at h, h]
    show some (f e') = some (f e)
    rw [hf]
  · rw [set_off c]
theorem EntAt.dict {C : Addr} {H : Hp} {W : PI2 → Str} {e : Ent} (h : EntAt C H W e) {x : Addr} (hx : x ∈ dicts e) : ∃ kvs, H x = some (.dT kvs) := by
  simp only [dicts, List.mem_cons, List.mem_nil_iff, or_false] at hx
  rcases hx with rfl | rfl | rfl | rfl
  · exact ⟨_, h.hp⟩
  · exact ⟨_, h.ht⟩
  · exact ⟨_, h.hq⟩
  · exact ⟨_, h.hr⟩
section
variable {Tt : List (Addr × Str)} {C : Addr} {H H' : Hp} {hd ca lb ns bs : Addr} {zs : List Str} {W W' : PI2 → Str} {S : List Ent} {i : Nat} {e e' : Ent} {X : List Addr}
theorem Wd.six (w : Wd Tt C H hd ca lb ns bs zs W S) : ∀ x ∈ [hd, ca, lb, ns, bs], ∃ xs, H x = some (.lst xs) := by
  obtain ⟨xs, i, n, z, c, h1, h2, h3⟩ := w.hand
  intro x hx
  simp only [List.mem_cons, List.mem_nil_iff, or_false] at hx
  rcases hx with rfl | rfl | rfl | rfl | rfl
  · exact ⟨_, h1⟩
  · exact ⟨_, h2⟩
  · exact ⟨_, w.lab⟩
  · exact ⟨_, w.nsl⟩
  · exact ⟨_, w.bsl⟩
/-- a change of dicts and of some of the lists -/
theorem Wd.off (w : Wd Tt C H hd ca lb ns bs zs W S) {Y : List Addr} (hX : ∀ x ∈ X, (∃ kvs, H x = some (.dT kvs)) ∨ x ∈ Y) {y : Addr} {o : HO} (hy : H y = some o) (ho : ∀ kvs, o ≠ .dT kvs) (hn : y ∉ Y) : y ∉ X := fun c => by
  rcases hX y c with ⟨kvs, h⟩ | h
  · rw [hy] at h
    cases h
    exact ho kvs rfl
  · exact hn h
theorem Wd.drawn (w : Wd Tt C H hd ca lb ns bs zs W S) (b : But [hd] H H') (h : HandAt H' hd ca) : Wd Tt C H' hd ca lb ns bs zs W S := by
  have ls := w.ls
  simp only [List.nodup_cons, List.mem_cons, List.mem_nil_iff, or_false, not_or] at ls
  obtain ⟨⟨n1, n2, n4, n5⟩, _⟩ := ls
  obtain ⟨xh, hxh⟩ := w.six hd (by simp)
  have g : ∀ y o, y ≠ hd → H y = some o → H' y = some o := fun y o n e => b y o (by rw [List.mem_singleton]; exact n) e
  refine ⟨h, g _ _ (fun z => n2 z.symm) w.lab, g _ _ (fun z => n4 z.symm) w.nsl, g _ _ (fun z => n5 z.symm) w.bsl, fun e he => ?_, w.dj, w.d1, w.ls, w.bb, tabs_hd w.tabs w.hand b⟩
  have ea := w.ents e he
  refine ea.but b ?_ ?_ fun x hx => ?_
  · rw [List.mem_singleton]
    exact ne_of ea.ha hxh (fun z => by cases z)
  · rw [List.mem_singleton]
    exact fun z => w.bb e he (by rw [z]; exact List.mem_cons_self)
  · rw [List.mem_singleton]
    obtain ⟨kvs, hk⟩ := ea.dict hx
    exact ne_of hk hxh (fun z => by cases z)
theorem Wd.same (w : Wd Tt C H hd ca lb ns bs zs W S) (s : Same H H') : Wd Tt C H' hd ca lb ns bs zs W S := w.drawn (But.of s) (w.hand.same s)
/-- a notebook and its book are changed -/
theorem Wd.put (w : Wd Tt C H hd ca lb ns bs zs W S) (h : S[i]? = some e) (b : But X H H') (hX : ∀ x ∈ X, x ∈ dicts e ∨ x = bs) (hbs : H' bs = some (.lst ((S.set i e').map fun e => V.ref e.b))) (ha : e'.a = e.a) (he : EntAt C H' W' e')
    (hdn : ∀ x ∈ dicts e', x ∈ dicts e ∨ H x = none) (d1' : (dicts e').Nodup) (hb' : e'.b = e.b ∨ H e'.b = none) (hW : ∀ x ∈ S, ∀ m ∈ x.M, W m = W' m) : Wd Tt C H' hd ca lb ns bs zs W' (S.set i e') := by
  have hem := mem_at h
  have ea := w.ents e hem
  have hX2 : ∀ x ∈ X, (∃ kvs, H x = some (.dT kvs)) ∨ x ∈ [bs] := fun x hx => (hX x hx).imp (fun c => ea.dict c) fun c => by rw [c]; exact List.mem_cons_self
  have ls := w.ls
  simp only [List.nodup_cons, List.mem_cons, List.mem_nil_iff, or_false, not_or] at ls
  obtain ⟨⟨_, _, _, n5⟩, ⟨_, _, m5⟩, ⟨_, o5⟩, q5, _⟩ := ls
  have g : ∀ y xs, y ≠ bs → H y = some (.lst xs) → H' y = some (.lst xs) := fun y xs n e1 => b y _ (w.off hX2 e1 (fun kvs z => by cases z) (by rw [List.mem_singleton]; exact n)) e1
  obtain ⟨xs, i0, n, z, c, h1, h2, h3⟩ := w.hand
  refine ⟨⟨xs, i0, n, z, c, g _ _ n5 h1, g _ _ m5 h2, h3⟩, g _ _ o5 w.lab, ?_, hbs, fun f hf => ?_, fun j l f f2 hj hl n => ?_, fun f hf => ?_, w.ls, fun f hf => ?_, tabs_but w.tabs b fun x hx => ?_⟩
  · rw [map_set h (f := fun e => V.ref e.a) (by rw [ha])]
    exact g _ _ q5 w.nsl
  · obtain ⟨j, hj⟩ := List.getElem?_of_mem hf
    rcases set_cases h hj with ⟨_, c⟩ | ⟨nj, hj2⟩
    · rw [c]
      exact he
    · have fa := w.ents f (mem_at hj2)
      refine (fa.but b ?_ ?_ fun x hx hx2 => ?_).word (hW f (mem_at hj2))
      · refine w.off hX2 fa.ha (fun kvs z => by cases z) ?_
        rw [List.mem_singleton]
        exact ne_of fa.ha w.bsl (fun z => by cases z)
      · refine w.off hX2 fa.hb (fun kvs z => by cases z) ?_
        rw [List.mem_singleton]
        exact fun z => w.bb f (mem_at hj2) (by rw [z]; simp)
      · rcases hX x hx2 with c | c
        · exact w.dj _ _ _ _ hj2 h nj x hx c
        · obtain ⟨kvs, hk⟩ := fa.dict hx
          exact absurd c (ne_of hk w.bsl (fun z => by cases z))
  · rcases set_cases h hj with ⟨rfl, rfl⟩ | ⟨nj, hj2⟩ <;> rcases set_cases h hl with ⟨rfl, rfl⟩ | ⟨nl, hl2⟩
    · exact absurd rfl n
    · intro x hx hx2
      rcases hdn x hx with c | c
      · exact w.dj _ _ _ _ h hl2 n x c hx2
      · obtain ⟨kvs, hk⟩ := (w.ents f2 (mem_at hl2)).dict hx2
        rw [c] at hk
        cases hk
    · intro x hx2 hx
      rcases hdn x hx with c | c
      · exact w.dj _ _ _ _ hj2 h n x hx2 c
      · obtain ⟨kvs, hk⟩ := (w.ents f (mem_at hj2)).dict hx2
        rw [c] at hk
        cases hk
    · exact w.dj _ _ _ _ hj2 hl2 n
  · exact (mem_set hf).elim (w.d1 f) fun c => by rw [c]; exact d1'
  · refine (mem_set hf).elim (w.bb f) fun c => ?_
    rw [c]
    rcases hb' with d | d
    · rw [d]
      exact w.bb e hem
    · intro hx
      obtain ⟨xs, hk⟩ := w.six _ hx
      rw [d] at hk
      cases hk
  · rcases hX2 x hx with ⟨kvs, hk⟩ | d
    · exact ⟨_, hk, rfl⟩
    · rw [List.mem_singleton] at d
      rw [d]
      exact ⟨_, w.bsl, rfl⟩
/-- a new notebook with its book -/
theorem Wd.app (w : Wd Tt C H hd ca lb ns bs zs W S) (b : But [ns, bs] H H') (hns : H' ns = some (.lst ((S ++ [e']).map fun e => V.ref e.a))) (hbs : H' bs = some (.lst ((S ++ [e']).map fun e => V.ref e.b))) (he : EntAt C H' W e')
    (hdn : ∀ x ∈ dicts e', H x = none) (d1' : (dicts e').Nodup) (hb' : H e'.b = none) : Wd Tt C H' hd ca lb ns bs zs W (S ++ [e']) := by
  have ls := w.ls
  simp only [List.nodup_cons, List.mem_cons, List.mem_nil_iff, or_false, not_or] at ls
  obtain ⟨⟨_, _, n4, n5⟩, ⟨_, m4, m5⟩, ⟨o4, o5⟩, _⟩ := ls
  have g : ∀ y o, y ≠ ns → y ≠ bs → H y = some o → H' y = some o := fun y o n1 n2 e1 => b y _ (by simp [n1, n2]) e1
  obtain ⟨xs, i0, n, z, c, h1, h2, h3⟩ := w.hand
  have ms : ∀ x ∈ S ++ [e'], x ∈ S ∨ x = e' := fun x hx => (List.mem_append.mp hx).imp id List.mem_singleton.mp
  refine ⟨⟨xs, i0, n, z, c, g _ _ n4 n5 h1, g _ _ m4 m5 h2, h3⟩, g _ _ o4 o5 w.lab, hns, hbs, fun f hf => ?_, fun j l f f2 hj hl n => ?_, fun f hf => ?_, w.ls, fun f hf => ?_, tabs_but w.tabs b fun x hx => ?_⟩
  · rcases ms f hf with c | c
    · have fa := w.ents f c
      refine fa.but b ?_ ?_ fun x hx => ?_
      · simp only [List.mem_cons, List.mem_nil_iff, or_false, not_or]
        exact ⟨ne_of fa.ha w.nsl (fun z => by cases z), ne_of fa.ha w.bsl (fun z => by cases z)⟩
      · intro hx
        refine w.bb f c ?_
        simp only [List.mem_cons, List.mem_nil_iff, or_false] at hx
        rcases hx with d | d <;> · rw [d]; simp
      · obtain ⟨kvs, hk⟩ := fa.dict hx
        simp only [List.mem_cons, List.mem_nil_iff, or_false, not_or]
        exact ⟨ne_of hk w.nsl (fun z => by cases z), ne_of hk w.bsl (fun z => by cases z)⟩
    · rw [c]
      exact he
  · rcases app_cases hj with ⟨_, h1⟩ | ⟨n1, rfl⟩ <;> rcases app_cases hl with ⟨_, h2⟩ | ⟨n2, rfl⟩
    · exact w.dj _ _ _ _ h1 h2 n
    · intro x hx hx2
      obtain ⟨kvs, hk⟩ := (w.ents f (mem_at h1)).dict hx
      rw [hdn x hx2] at hk
      cases hk
    · intro x hx2 hx
      obtain ⟨kvs, hk⟩ := (w.ents f2 (mem_at h2)).dict hx
      rw [hdn x hx2] at hk
      cases hk
    · omega
  · exact (ms f hf).elim (w.d1 f) fun c => by rw [c]; exact d1'
  · refine (ms f hf).elim (w.bb f) fun c => ?_
    rw [c]
    intro hx
    obtain ⟨xs, hk⟩ := w.six _ hx
    rw [hb'] at hk
    cases hk
  · simp only [List.mem_cons, List.mem_nil_iff, or_false] at hx
    rcases hx with d | d
    · rw [d]
      exact ⟨_, w.nsl, rfl⟩
    · rw [d]
      exact ⟨_, w.bsl, rfl⟩
end
end N88
/-! a deed -/
namespace N88
open PySem L2 PySem.Spec
section
variable {K : PySem.W.Frag} {H : Hp} {σ : L2.St} {te te1 te2 : TE} {t1 t2 : TS} {D : Ends} {c : TT} {b : Bool} {Q : VK} {sp : Sp} {E : XK}
theorem rs_parK {i j : Nat} (h : te1 σ H fun v1 H1 => te2 σ H1 fun v2 H2 => ∃ v w, [v1, v2] = [v, w] ∧ t2 D ((σ.set i (some v)).set j (some w)) H2) : tSeq (tPar i j (tCons te1 (tCons te2 tNil))) t2 D σ H := h
theorem rs_ifR (h : EvT (c σ) H b) (h1 : b = true → ∀ H2, Same H H2 → t1 { D with nx := t2 D } σ H2) (h2 : b = false → ∀ H2, Same H H2 → t2 D σ H2) : tSeq (tIfS c t1 tNext) t2 D σ H := h.run fun H2 s => by
  cases b with
  | true => exact h1 rfl H2 s
  | false => exact h2 rfl H2 s
theorem rs_setK {to ti : TE} {r : TSet} (h : te σ H fun x H1 => gSub to ti r x σ H1 (t2 D)) : tSeq (tAsg te (gSub to ti r)) t2 D σ H := h
theorem k_call2K (h : te1 σ H fun v1 H1 => te2 σ H1 fun v2 H2 => sp ([v1, v2] ++ []) H2 Q E) : tCall sp [] E (tCons te1 (tCons te2 tNil)) σ H Q := h
theorem k_opK {r : R2} (h : te1 σ H fun v1 H1 => te2 σ H1 fun v2 H2 => r v1 v2 H2 Q) : tOp r te1 te2 σ H Q := h
/-- for over a tuple -/
theorem rs_forT {g : TG} {tb : TS} {a : Addr} {xs : List V} (Pv : Nat → L2.St → Hp → Prop) (h0 : Pv 0 σ H) (hG : ∀ i σ H, i ≤ xs.length → Pv i σ H → SqT K H a xs)
    (hs : ∀ i x σ H, xs[i]? = some x → Pv i σ H → g x σ H fun σ2 H2 => tb { D with nx := Pv (i + 1), ct := Pv (i + 1), bk := D.nx } σ2 H2) (hd : ∀ σ H, Pv xs.length σ H → D.nx σ H) :
    ∃ W : Nat → Nat → L2.St → Hp → Prop, (∃ m, W 0 m σ H) ∧ ∀ i m σ H, W i m σ H →
      ((Itt K a).stop i H ∧ D.nx σ H) ∨ ((Itt K a).go i H ∧ ∃ N : L2.St → Hp → Prop, (∀ σ' H', N σ' H' → ∃ m', m' < m ∧ W (i + 1) m' σ' H') ∧ ∀ x H', (Itt K a).yld i H x H' → g x σ H' fun σ2 H2 => tb { D with nx := N, ct := N, bk := D.nx } σ2 H2) :=
  for_it walk_tup Pv h0 hG (fun i x σ H H' hi p y => by
    obtain ⟨rfl, hx⟩ := y
    exact hs i x σ H' hx p) hd
theorem ev_at {a : Addr} {xs : List V} {m : Nat} {ti : TE} {v : V} (ho : EvR (te σ) H (Is (.ref a))) (hi : EvR (ti σ) H (Is (.int (m : Int)))) (hx : H a = some (.lst xs)) (hv : xs[m]? = some v) : EvR (tOp (rIxU K) te ti σ) H (Is v) := by
  refine ev_op ho hi (ev_or1 (rv_ixL (SqL.of hx) ?_))
  rw [atI_nat (List.getElem?_eq_some_iff.mp hv).1, hv]
end
theorem Good.up {W : PI2 → Str} {S : List Ent} {k : Int} (g : Good W S k) : Good W S (k + 1) := ⟨g.fit, g.pen, fun e he m hm => by have := g.num e he m hm; omega, g.wd, g.dis, g.own, g.wr, g.sub⟩
theorem prs_len {H : Hp} : ∀ {rs : List Addr} {ps : List PI2}, Prs H rs ps → rs.length = ps.length
  | _, _, .nil => rfl
  | _, _, .cons _ t => by rw [List.length_cons, List.length_cons, prs_len t]
theorem lenT {W : PI2 → Str} {M : List PI2} (f : FitM M) : (toA (tab W M)).length ≤ 576 := by
  unfold toA tab
  rw [List.length_map, List.length_map]
  exact f.len
theorem lenTB {B : List PI2} (f : FitM B) : (toB B).length ≤ 576 := by
  unfold toB
  rw [List.length_map]
  exact f.len
theorem add_tab {W : PI2 → Str} {M : List PI2} {m : PI2} {z : Str} (h : m ∉ M) : putK (toA (tab W M)) (pk m) (.str z) = toA (tab (updW W m z) (M ++ [m])) := by
  rw [putK_toA (by rw [hasA_tab]; exact Bool.eq_false_iff.mpr fun c => h (List.contains_iff_mem.mp c))]
  have e : tab (updW W m z) (M ++ [m]) = tab W M ++ [(m, z)] := by
    have e1 : tab (updW W m z) M = tab W M := tab_congr fun x hx => updW_off fun c => h (c ▸ hx)
    unfold tab at e1 ⊢
    rw [List.map_append, e1]
    show _ ++ [(m, updW W m z m)] = _
    unfold updW
    rw [if_pos rfl]
  rw [e]
variable {P : Program} {w : World} {K : PySem.W.Frag} {mg : Str → Option Value} {base : Heap} {C aO : Addr} {t8 : Tok} {Tt : List (Addr × Str)}
def SpDeed (Tt : List (Addr × Str)) (C : Addr) : Sp := fun vs H Q _ => ∃ (hd ca lb ns bs : Addr) (zs : List Str) (W : PI2 → Str) (S : List Ent) (k : Int), vs = [.ref hd, .ref ns, .ref bs, .ref lb] ∧ Wd Tt C H hd ca lb ns bs zs W S ∧ (∀ z ∈ zs, z ∈ labels8) ∧ 0 < zs.length ∧ zs.length ≤ 8 ∧
  Good W S k ∧ 0 ≤ k ∧ k < 64 ∧ 0 < S.length ∧ S.length ≤ 9 ∧ ∀ H' W' S', Wd Tt C H' hd ca lb ns bs zs W' S' → Good W' S' (k + 1) → S'.map (·.pen) = S.map (·.pen) → Q (.bl true) H'
theorem ok_deed {f : Addr} {fd : FuncData} (F : Fun K "_law_deed" "_law_deed" s_law_deed f fd) (T : Txt K mg C aO t8) (c__law_draw : Cal P w K mg base "_law_draw" 1 p_law_draw SpDraw) (c__law_some : Cal P w K mg base "_law_some" 2 p_law_some SpSome)
    (c__law_is : Cal P w K mg base "_law_is" 5 p_law_is (SpOf (preIs K 4))) (c__law_next : Cal P w K mg base "_law_next" 1 p_law_next (SpOf preNext)) (c__law_standing : Cal P w K mg base "_law_standing" 1 p_law_standing (SpOf (preStand K)))
    (c__law_met : Cal P w K mg base "_law_met" 1 p_law_met SpMet) (c__law_knows : Cal P w K mg base "_law_knows" 1 p_law_knows (SpOf preKnowsL)) (c_Notebook_add : MCal P w K mg base C "add" 3 p_Notebook_add (SpAdd C))
    (c_Notebook_drop : MCal P w K mg base C "drop" 3 p_Notebook_drop (SpDrop C)) (c_Notebook_meet : MCal P w K mg base C "meet" 2 p_Notebook_meet (SpMeet P w C)) (c_Notebook_knows : MCal P w K mg base C "knows" 2 p_Notebook_knows (SpOf (preKnows C))) :
    FnOk P w K mg base CX0 7 f fd p_law_deed (SpDeed Tt C) := by
  refine F.ok sc_law_deed (fun vs H Q E h => ?_) (fun cdv A outer s H vs Q E hr h => ?_)
  · obtain ⟨hd, ca, lb, ns, bs, zs, W, S, k, rfl, _⟩ := h
    rfl
  · obtain ⟨hd, ca, lb, ns, bs, zs, W, S, k, rfl, wd, hz, hz0, hz8, gd, hk0, hk, hS0, hS9, q⟩ := h
    have hu := hr.units
    have hu1 := hu_of hr
    refine ⟨_, (pss_cons (ps_par (i := 4) (j := 5) rfl sc_law_deed.nd rfl rfl (by decide) rfl rfl (pa_cons (pe_call c__law_draw.ok (hr.mono (by first | decide | omega)) (by rfl) c__law_draw.at_ c__law_draw.kp c__law_draw.b .nil pass0 (pa_cons (pv 0) (pa_cons (pe_callB (k_len (K' := K) rfl) (by rfl) T.b_len (by decide +kernel) (pa_cons (pv 2) pa_nil)) pa_nil))) (pa_cons (pe_call c__law_draw.ok (hr.mono (by first | decide | omega)) (by rfl) c__law_draw.at_ c__law_draw.kp c__law_draw.b .nil pass0 (pa_cons (pv 0) (pa_cons (pe_callB (k_len (K' := K) rfl) (by rfl) T.b_len (by decide +kernel) (pa_cons (pv 2) pa_nil)) pa_nil))) pa_nil)) (by rfl))
      (pss_cons (ps_set (i := 6) sc_law_deed.nd rfl (.inl rfl) (pe_call c__law_draw.ok (hr.mono (by first | decide | omega)) (by rfl) c__law_draw.at_ c__law_draw.kp c__law_draw.b .nil pass0 (pa_cons (pv 0) (pa_cons pe_int pa_nil))))
      (pss_cons (ps_par (i := 7) (j := 8) rfl sc_law_deed.nd rfl rfl (by decide) rfl rfl (pa_cons (pe_ix (k_ix (K' := K) rfl) (pv 1) (pv 4) (fun _ _ => rfl)) (pa_cons (pe_ix (k_ix (K' := K) rfl) (pv 2) (pv 4) (fun _ _ => rfl)) pa_nil)) (by rfl))
      (pss_cons (ps_set (i := 9) sc_law_deed.nd rfl (.inl rfl) (pe_call c__law_some.ok (hr.mono (by first | decide | omega)) (by rfl) c__law_some.at_ c__law_some.kp c__law_some.b .nil pass0 (pa_cons (pv 0) (pa_cons (pv 3) pa_nil))))
      (pss_cons (ps_if (pt_cmpR op_lt (pv 6) pe_int (nomark _)) (pss_cons (ps_par (i := 10) (j := 11) rfl sc_law_deed.nd rfl rfl (by decide) rfl rfl (pa_cons (pe_call c__law_next.ok (hr.mono (by first | decide | omega)) (by rfl) c__law_next.at_ c__law_next.kp c__law_next.b .nil pass0 (pa_cons (pv 8) pa_nil)) (pa_cons (pe_ix (k_ix (K' := K) rfl) (pv 8) pe_int (fun _ _ => rfl)) pa_nil)) (by rfl))
      (pss_cons (ps_dput hu1 (pv 11) (pv 10) (pv 9) rfl)
      (pss_one (ps_ret (pe_call c__law_is.ok (hr.mono (by first | decide | omega)) (by rfl) c__law_is.at_ c__law_is.kp c__law_is.b .nil pass0 (pa_cons (pe_meth (pv 7) T.cl c_Notebook_add.m c_Notebook_add.ok (hr.mono (by first | decide | omega)) c_Notebook_add.b .nil pass0 (pa_cons (pv 9) pa_nil)) (pa_cons (pv 10) pa_nil))))))) pss_nil)
      (pss_cons (ps_if (PW.pt (pw_and (pt_cmpR (k_eqD (K' := K) rfl hu) (pv 6) pe_int (nomark _)) (pw_and1 (pt_cmpR op_gt (pe_callB (k_len (K' := K) rfl) (by rfl) T.b_len (by decide +kernel) (pa_cons (pe_call c__law_standing.ok (hr.mono (by first | decide | omega)) (by rfl) c__law_standing.at_ c__law_standing.kp c__law_standing.b .nil pass0 (pa_cons (pv 8) (pa_cons (pv 9) pa_nil))) pa_nil)) pe_int (nomark _))))) (pss_cons (ps_set (i := 12) sc_law_deed.nd rfl (.inl rfl) (pe_ix (k_ix (K' := K) rfl) (pv 8) pe_int (fun _ _ => rfl)))
      (pss_cons (ps_for PassesOwn.never rfl (k_piAny (K' := K) rfl (pe_call c__law_standing.ok (hr.mono (by first | decide | omega)) (by rfl) c__law_standing.at_ c__law_standing.kp c__law_standing.b .nil pass0 (pa_cons (pv 8) (pa_cons (pv 9) pa_nil)))) (pg_name (i := 10) sc_law_deed.nd rfl (.inl rfl))
      (pss_one (ps_dput hu1 (pv 12) (pv 10) pe_bl rfl)))
      (pss_one (ps_ret (pe_cmpR op_isN (pe_meth (pv 7) T.cl c_Notebook_drop.m c_Notebook_drop.ok (hr.mono (by first | decide | omega)) c_Notebook_drop.b .nil pass0 (pa_cons (pv 9) pa_nil)) pe_non (nomark _)))))) pss_nil)
      (pss_cons (ps_if (pt_cmpR op_lt (pv 6) pe_int (nomark _)) (pss_cons (ps_asg (pe_call c__law_met.ok (hr.mono (by first | decide | omega)) (by rfl) c__law_met.at_ c__law_met.kp c__law_met.b .nil pass0 (pa_cons (pv 8) (pa_cons (pe_ix (k_ix (K' := K) rfl) (pv 2) (pv 5) (fun _ _ => rfl)) pa_nil))) (pg_sub (pv 2) (pv 4) set_list))
      (pss_one (ps_ret (pe_cmpR op_isN (pe_meth (pv 7) T.cl c_Notebook_meet.m c_Notebook_meet.ok (hr.mono (by first | decide | omega)) c_Notebook_meet.b .nil pass0 (pa_cons (pe_ix (k_ix (K' := K) rfl) (pv 1) (pv 5) (fun _ _ => rfl)) pa_nil)) pe_non (nomark _))))) pss_nil)
      (pss_one (ps_ret (pe_call c__law_is.ok (hr.mono (by first | decide | omega)) (by rfl) c__law_is.at_ c__law_is.kp c__law_is.b .nil pass0 (pa_cons (pe_meth (pv 7) T.cl c_Notebook_knows.m c_Notebook_knows.ok (hr.mono (by first | decide | omega)) c_Notebook_knows.b .nil pass0 (pa_cons (pe_ix (k_ix (K' := K) rfl) (pv 1) (pv 5) (fun _ _ => rfl)) pa_nil)) (pa_cons (pe_call c__law_knows.ok (hr.mono (by first | decide | omega)) (by rfl) c__law_knows.at_ c__law_knows.kp c__law_knows.b .nil pass0 (pa_cons (pv 8) (pa_cons (pe_ix (k_ix (K' := K) rfl) (pv 2) (pv 5) (fun _ _ => rfl)) pa_nil))) pa_nil)))))))))))), ?_⟩
    have lenB : ∀ {H' σ te}, H' bs = some (.lst (S.map fun e => V.ref e.b)) → EvR (te σ) H' (Is (.ref bs)) → EvR (tCB (rLenU K) (tCons te tNil) σ) H' (Is (.int (S.length : Nat))) := fun h1 h2 => ev_is (ev_lenL h2 (SqL.of h1)) (by rw [List.length_map])
    refine rs_parK (k_draw (ev_var rfl) (lenB wd.bsl (ev_var rfl)) (by omega) (by omega) wd.hand fun d1 H1 d10 d11 b1 h1 => ?_)
    have w1 := wd.drawn b1 h1
    refine k_draw (ev_var rfl) (lenB w1.bsl (ev_var rfl)) (by omega) (by omega) w1.hand fun d2 H2 d20 d21 b2 h2 => ⟨_, _, rfl, ?_⟩
    have w2 := w1.drawn b2 h2
    refine rs_asgK (k_draw (ev_var rfl) ev_c (by decide) (by decide) w2.hand fun kd H3 _ _ b3 h3 => ?_)
    have w3 := w2.drawn b3 h3
    obtain ⟨i, rfl⟩ := Int.eq_ofNat_of_zero_le d10
    obtain ⟨j, rfl⟩ := Int.eq_ofNat_of_zero_le d20
    have hi : i < S.length := by omega
    have hj : j < S.length := by omega
    obtain ⟨e, he⟩ : ∃ e, S[i]? = some e := ⟨_, List.getElem?_eq_getElem hi⟩
    obtain ⟨f2, hf2⟩ : ∃ e, S[j]? = some e := ⟨_, List.getElem?_eq_getElem hj⟩
    have hem := mem_at he
    have hfm := mem_at hf2
    refine rs_par (u := .ref e.a) (v := .ref e.b) (ea_cons (ev_at (ev_var rfl) (ev_var rfl) w3.nsl (by rw [List.getElem?_map, he]; rfl)) (ea_cons (ev_at (ev_var rfl) (ev_var rfl) w3.bsl (by rw [List.getElem?_map, he]; rfl)) ea_nilV)) fun H4 s4 => ?_
    have w4 := w3.same s4
    have nlh : lb ≠ hd := by
      have ls := wd.ls
      simp only [List.nodup_cons, List.mem_cons, List.mem_nil_iff, or_false, not_or] at ls
      exact fun z => ls.1.2.1 z.symm
    refine rs_asgK (k_call (vs := [.ref hd, .ref lb]) (ea_cons (ev_var rfl) (ea_cons (ev_var rfl) ea_nilV)) fun H5 s5 => ⟨hd, ca, lb, zs.map V.str, rfl, nlh, s5 _ _ w4.lab, by rw [List.length_map]; omega, by rw [List.length_map]; omega, (w4.same s5).hand, fun v H6 hv b6 h6 => ?_⟩)
    have w6 := (w4.same s5).drawn b6 h6
    obtain ⟨z, hz1, rfl⟩ := List.mem_map.mp hv
    have hz2 := hz z hz1
    have ftE := gd.fitE hem
    have ftF := gd.fitE hfm
    have fM := gd.fit e hem
    have fN := gd.fit f2 hfm
    refine rs_ifR (b := decide (kd < 3)) (et_test (ev_op (ev_var rfl) ev_c rv_I0)) (fun _ H7 s7 => ?_) fun _ H7 s7 => ?_
    · have w7 := w6.same s7
      have e7 := w7.ents e hem
      refine rs_parP (P1 := fun v H' => ∃ r, v = .ref r ∧ H' r = some (.tup [.int e.pen, .int (nxtM e.M e.pen)])) (P2 := fun _ _ => Is (.ref e.q)) (ev_call (ea_cons (ev_var rfl) ea_nilV) fun H' g => ⟨_, _, _, _, _, _, rfl, e7.bk.fx g, ftE, by rw [tab_keys]⟩) (fun v1 H8 s8 _ => ev_b1 (ev_var rfl) (e7.bk.fx (Fx.of s8))) fun v1 v2 H8 H9 s8 h8 s9 e9 => ?_
      obtain ⟨r, rfl, hr8⟩ := h8
      cases e9
      have w9 := (w7.same s8).same s9
      have en := w9.ents e hem
      have lq := lenT (W := W) fM.1
      refine rs_dput (kk := pk (e.pen, nxtM e.M e.pen)) (ev_var rfl) (ev_var rfl) (ev_var rfl) en.hq (s9 _ _ hr8) (Nat.lt_of_le_of_lt lq (by decide)) fun H10 s10 => ?_
      have w10 := w9.same s10
      have e10 := w10.ents e hem
      have hr10 := s10 _ _ (s9 _ _ hr8)
      have d1 := w10.d1 e hem
      simp only [dicts, List.nodup_cons, List.mem_cons, List.mem_nil_iff, or_false, not_or] at d1
      obtain ⟨⟨npt, npq, npr⟩, ⟨ntq, ntr⟩, nqr, _⟩ := d1
      have naq : e.a ≠ e.q := ne_of e10.ha e10.hq (fun z => by cases z)
      have nrq : r ≠ e.q := ne_of hr10 e10.hq (fun z => by cases z)
      have nrp : r ≠ e.p := ne_of hr10 e10.hp (fun z => by cases z)
      refine rs_retK (k_call2K (k_meth (ev_var rfl) (by rw [upd_ne naq]; exact e10.ha) (nbf_no (by decide +kernel)) (ea_cons (ev_var rfl) ea_nilV) fun H11 s11 => ⟨e.a, e.dx, e.p, e.t, e.pen, tab W e.M, z, rfl, hz2, s11 _ _ (by rw [upd_ne naq]; exact e10.ha), s11 _ _ (by rw [upd_ne npq]; exact e10.hp), by rw [tab_keys]; exact fM.1, fun r2 H12 b12 hr12 hp12 => ?_⟩))
      rw [tab_keys] at hr12 hp12
      have nm := gd.fresh hem e hem
      rw [add_tab nm] at hp12
      have b12' : But [e.q, e.p] H10 H12 := But.trans (((But.of (fun _ _ e => e)).put List.mem_cons_self).same s11) (b12.mono (by simp))
      have hr12' := b12' _ _ (by simp [nrq, nrp]) hr10
      refine ⟨_, rfl, Is (.bl true), ⟨.ref r2, .ref r, rfl, rfl, .inl ⟨prD (e.pen, nxtM e.M e.pen), td_pair hr12, td_pair hr12', (prD_dn _).up.up⟩⟩, fun v H13 s13 e13 => ?_⟩
      cases e13
      have b13 := b12'.same s13
      have ee : EntAt C H13 (updW W (e.pen, nxtM e.M e.pen) z) { e with M := e.M ++ [(e.pen, nxtM e.M e.pen)] } := by
        refine ⟨b13 _ _ ?_ e10.ha, s13 _ _ hp12, b13 _ _ (by simp [ntq, (Ne.symm npt)]) e10.ht, b13 _ _ ?_ e10.hb, s13 _ _ (b12 _ _ (by simp [(Ne.symm npq)]) (s11 _ _ ?_)), b13 _ _ (by simp [(Ne.symm nqr), (Ne.symm npr)]) e10.hr⟩
        · have : e.a ≠ e.p := ne_of e10.ha e10.hp (fun z => by cases z)
          simp [naq, this]
        · have h1 : e.b ≠ e.p := ne_of e10.hb e10.hp (fun z => by cases z)
          have h2 : e.b ≠ e.q := ne_of e10.hb e10.hq (fun z => by cases z)
          simp [h1, h2]
        · show (upd H10 e.q _) e.q = _
          rw [upd_same, add_tab nm]
      refine q H13 (updW W (e.pen, nxtM e.M e.pen) z) (S.set i { e with M := e.M ++ [(e.pen, nxtM e.M e.pen)] }) (w10.put (e' := { e with M := e.M ++ [(e.pen, nxtM e.M e.pen)] }) he b13 (fun x hx => ?_) (b13 _ _ ?_ ?_) rfl ee (fun x hx => .inl hx) (w10.d1 e hem) (.inl rfl) fun x hx m hm => (updW_off fun c => ?_).symm) (gd.add (e' := { e with M := e.M ++ [(e.pen, nxtM e.M e.pen)] }) he hk hk0 hz2 rfl rfl rfl) (map_set he rfl)
      · left
        simp only [List.mem_cons, List.mem_nil_iff, or_false] at hx
        rcases hx with rfl | rfl <;> simp [dicts]
      · have h1 : bs ≠ e.q := ne_of w10.bsl e10.hq (fun z => by cases z)
        have h2 : bs ≠ e.p := ne_of w10.bsl e10.hp (fun z => by cases z)
        simp [h1, h2]
      · rw [map_set he (f := fun e => V.ref e.b) (e' := { e with M := e.M ++ [(e.pen, nxtM e.M e.pen)] }) rfl]
        exact w10.bsl
      · exact gd.fresh hem x hx (c ▸ hm)
    · have w7 := w6.same s7
      have e7 := w7.ents e hem
      have f7 := w7.ents f2 hfm
      refine rs_ifR (b := decide (kd = 3) && decide (0 < (rawM (tab W e.M) e.B z).length)) (et_and (et_test (ev_op (ev_var rfl) ev_c (ev_is (rv_eqD (.int _) (.int _) shaped_int shaped_int) (by rw [eqv_int])))) fun _ => ?_) (fun hb H8 s8 => ?_) fun _ H8 s8 => ?_
      · refine et_test (ev_op (x := .int ((rawM (tab W e.M) e.B z).length : Nat)) (y := .int 0) (ev_cb1P (P1 := fun v H' => ∃ a rs, v = .ref a ∧ H' a = some (.tup (rs.map V.ref)) ∧ Prs H' rs (rawM (tab W e.M) e.B z)) (ev_call (ea_cons (ev_var rfl) (ea_cons (ev_var rfl) ea_nilV)) fun H' g => ⟨_, _, _, _, _, _, _, rfl, e7.bk.fx g, ftE, hz2, rfl⟩) fun v H1 f1 hv => ?_) ev_c (ev_is rv_I0 (by simp)))
        obtain ⟨o, rs, rfl, ho, hrs⟩ := hv
        exact fun H2 g Q q => ⟨.ref o, _, rfl, .inr ⟨_, g.sqT (SqT.of ho), rfl⟩, q _ H2 (fun _ _ e => e) (by rw [List.length_map, prs_len hrs])⟩
      · rw [Bool.and_eq_true] at hb
        have hlen := of_decide_eq_true hb.2
        have w8 := w7.same s8
        have e8 := w8.ents e hem
        refine rs_asg (P1 := Is (.ref e.r)) (ev_b2 (ev_var rfl) e8.bk) fun v H9 s9 ev9 => ?_
        cases ev9
        have w9 := w8.same s9
        have e9 := w9.ents e hem
        have fR := fit_raw (z := z) ftE
        refine .inr (.inl ((ev_call (P := fun v H' => ∃ a rs, v = .ref a ∧ H' a = some (.tup (rs.map V.ref)) ∧ Prs H' rs (rawM (tab W e.M) e.B z)) (ea_cons (ev_var rfl) (ea_cons (ev_var rfl) ea_nilV)) fun H' g => ⟨_, _, _, _, _, _, _, rfl, e9.bk.fx g, ftE, hz2, rfl⟩).run fun v H10 s10 hv => ?_))
        obtain ⟨o, rs, rfl, ho, hrs⟩ := hv
        have w10 := w9.same s10
        have e10 := w10.ents e hem
        have d1 := w10.d1 e hem
        simp only [dicts, List.nodup_cons, List.mem_cons, List.mem_nil_iff, or_false, not_or] at d1
        obtain ⟨⟨npt, npq, npr⟩, ⟨ntq, ntr⟩, nqr, _⟩ := d1
        have nor : o ≠ e.r := ne_of ho e10.hr (fun z => by cases z)
        refine ⟨o, rfl, ⟨_, SqT.of ho⟩, ?_⟩
        refine rs_forT (fun n σ H' => (∃ u1 u2, σ = [some (.ref hd), some (.ref ns), some (.ref bs), some (.ref lb), some (.int i), some (.int j), some (.int kd), some (.ref e.a), some (.ref e.b), some (.str z), u1, u2, some (.ref e.r)]) ∧ But [e.r] H10 H' ∧ H' e.r = some (.dT (toB (mrg e.B ((rawM (tab W e.M) e.B z).take n)))))
          ⟨⟨_, _, rfl⟩, But.of (fun _ _ e => e), by rw [List.take_zero]; exact e10.hr⟩ (fun n σ H' _ h => SqT.of (h.2.1 _ _ (by simp [nor]) ho)) (fun n x σ H' hx h => ?_) fun σ H' h => ?_
        · obtain ⟨⟨u1, u2, rfl⟩, bt, hrr⟩ := h
          obtain ⟨r0, rfl, m, hm, hr0⟩ := prs_get hrs hx
          have nr0 : r0 ≠ e.r := ne_of hr0 e10.hr (fun z => by cases z)
          refine rs_dputL (a := e.r) (q := r0) (kk := pk m) ev_c (ev_var rfl) (ev_var rfl) hrr (bt _ _ (by simp [nr0]) hr0) ?_ fun H11 s11 => ?_
          · have f2 : FitM (mrg e.B ((rawM (tab W e.M) e.B z).take n)) := fM.2.mrg ⟨fR.nd.sublist (List.take_sublist _ _), fun p hp => fR.rg p (List.mem_of_mem_take hp)⟩
            exact Nat.lt_of_le_of_lt (lenTB f2) (by decide)
          · refine ⟨⟨_, _, rfl⟩, (bt.same s11).put List.mem_cons_self, ?_⟩
            rw [upd_same, List.take_add_one, hm]
            show _ = some (HO.dT (toB (mrg e.B (List.take n (rawM (tab W e.M) e.B z) ++ [m]))))
            rw [mrg_snoc, toB_kvF, putK_kvF]
            rfl
        · obtain ⟨⟨u1, u2, rfl⟩, bt, hrr⟩ := h
          rw [List.length_map, prs_len hrs, List.take_length] at hrr
          have nar : e.a ≠ e.r := ne_of e10.ha e10.hr (fun z => by cases z)
          have nbr : e.b ≠ e.r := ne_of e10.hb e10.hr (fun z => by cases z)
          have nat : e.a ≠ e.t := ne_of e10.ha e10.ht (fun z => by cases z)
          have nbt : e.b ≠ e.t := ne_of e10.hb e10.ht (fun z => by cases z)
          have hp' := bt _ _ (by simp [npr]) e10.hp
          have ht' := bt _ _ (by simp [ntr]) e10.ht
          have ha' := bt _ _ (by simp [nar]) e10.ha
          dsimp only
          refine rs_retK ?_
          refine k_opK ?_
          refine k_meth (ev_var rfl) ha' (nbf_no (by decide +kernel)) (ea_cons (ev_var rfl) ea_nilV) fun H11 s11 => ⟨e.a, e.dx, e.p, e.t, e.pen, tab W e.M, e.B, z, rfl, ⟨s11 _ _ ha', .inl (s11 _ _ hp'), .inl (s11 _ _ ht')⟩, ftE, hz2, s11 _ _ ht', fun c => by rw [c] at hlen; simp at hlen, fun H12 b12 ht12 => ?_⟩
          have b12' : But [e.r, e.t] H10 H12 := But.trans ((bt.same s11).mono (by simp)) (b12.mono (by simp))
          have ee : EntAt C H12 W { e with B := mrg e.B (rawM (tab W e.M) e.B z) } :=
            ⟨b12' _ _ (by simp [nar, nat]) e10.ha, b12' _ _ (by simp [npr, npt]) e10.hp, ht12, b12' _ _ (by simp [nbr, nbt]) e10.hb, b12' _ _ (by simp [nqr, Ne.symm ntq]) e10.hq, b12 _ _ (by simp [Ne.symm ntr]) (s11 _ _ hrr)⟩
          refine ⟨rfl, q H12 W (S.set i { e with B := mrg e.B (rawM (tab W e.M) e.B z) }) (w10.put (e' := { e with B := mrg e.B (rawM (tab W e.M) e.B z) }) he b12' (fun x hx => ?_) (b12' _ _ ?_ ?_) rfl ee (fun x hx => .inl hx) (w10.d1 e hem) (.inl rfl) fun x hx m hm => rfl) (gd.step (e' := { e with B := mrg e.B (rawM (tab W e.M) e.B z) }) he rfl fM.1 (fM.2.mrg fR) (fun m hm => hm) (fun m hm => ⟨e, hem, hm⟩) fun m hm => (mem_mrg.mp hm).elim (gd.sub e hem m) fun c => by
            obtain ⟨p, hp, e1, _⟩ := rawM_in c
            obtain ⟨x, hx, e2⟩ := List.mem_map.mp hp
            rw [← e1, ← e2]
            exact hx).up (map_set he rfl)⟩
          · left
            simp only [List.mem_cons, List.mem_nil_iff, or_false] at hx
            rcases hx with rfl | rfl <;> simp [dicts]
          · have h1 : bs ≠ e.r := ne_of w10.bsl e10.hr (fun z => by cases z)
            have h2 : bs ≠ e.t := ne_of w10.bsl e10.ht (fun z => by cases z)
            simp [h1, h2]
          · rw [map_set he (f := fun e => V.ref e.b) (e' := { e with B := mrg e.B (rawM (tab W e.M) e.B z) }) rfl]
            exact w10.bsl
      · have w8 := w7.same s8
        refine rs_ifR (b := decide (kd < 7)) (et_test (ev_op (ev_var rfl) ev_c rv_I0)) (fun _ H9 s9 => ?_) fun _ H9 s9 => ?_
        · have w9 := w8.same s9
          have e9 := w9.ents e hem
          have f9 := w9.ents f2 hfm
          refine rs_setK (k_call (vs := [.ref e.b, .ref f2.b]) (ea_cons (ev_var rfl) (ea_cons (ev_at (ev_var rfl) (ev_var rfl) w9.bsl (by rw [List.getElem?_map, hf2]; rfl)) ea_nilV)) fun H10 s10 => ⟨e.b, e.q, e.r, e.pen, tab W e.M, e.B, f2.b, f2.q, f2.r, f2.pen, tab W f2.M, f2.B, rfl, e9.bk.fx (Fx.of s10), f9.bk.fx (Fx.of s10), ftE, ftF, fun H11 b' q' r' s11 hb' hq' hr' q0 r0 nqr' b0 => ?_⟩)
          have w10 := w9.same s10
          have e10 := w10.ents e hem
          have w11 := w10.same s11
          have e11 := w11.ents e hem
          have f11 := w11.ents f2 hfm
          refine ⟨_, rfl, _, rfl, bs, _, (i : Int), i, rfl, rfl, w11.bsl, ixN_nat (by rw [List.length_map]; exact hi), ?_⟩
          have d1 := w10.d1 e hem
          simp only [dicts, List.nodup_cons, List.mem_cons, List.mem_nil_iff, or_false, not_or] at d1
          obtain ⟨⟨npt, npq, npr⟩, ⟨ntq, ntr⟩, nqr, _⟩ := d1
          have npt2 : e.p ≠ f2.t := by
            by_cases c : i = j
            · subst c
              rw [he] at hf2
              cases hf2
              exact npt
            · exact fun z => w10.dj _ _ _ _ he hf2 c e.p (by simp [dicts]) (by rw [z]; simp [dicts])
          have off : ∀ x o, H11 x = some o → (∀ xs, o ≠ .lst xs) → x ≠ bs := fun x o hx ho => ne_of hx w11.bsl (ho _)
          have g : ∀ {x : Addr} {o : HO} {ys : List V}, x ≠ bs → H11 x = some o → (upd H11 bs (.lst ys)) x = some o := fun n hx => by rw [upd_ne n]; exact hx
          have nsb : ns ≠ bs := by
            have ls := wd.ls
            simp only [List.nodup_cons, List.mem_cons, List.mem_nil_iff, or_false, not_or] at ls
            exact ls.2.2.2.1
          have ha' := g (ys := (S.map fun e => V.ref e.b).set i (.ref b')) (off _ _ e11.ha (fun _ z => by cases z)) e11.ha
          have hn' := g (ys := (S.map fun e => V.ref e.b).set i (.ref b')) nsb w11.nsl
          refine rs_retK ?_
          refine k_opK ?_
          refine k_meth (vs := [.ref f2.a]) (ev_var rfl) ha' (nbf_no (by decide +kernel)) (ea_cons (ev_at (ev_var rfl) (ev_var rfl) hn' (by rw [List.getElem?_map, hf2]; rfl)) ea_nilV) fun H12 s12 => ?_
          have g12 : ∀ {x : Addr} {o : HO}, H11 x = some o → (∀ xs, o ≠ .lst xs) → H12 x = some o := fun hx ho => s12 _ _ (g (off _ _ hx ho) hx)
          refine ⟨e.a, e.dx, e.p, e.t, e.pen, toA (tab W e.M), toB e.B, f2.a, f2.dx, f2.p, f2.t, f2.pen, toA (tab W f2.M), toB f2.B, rfl, g12 e11.ha (fun _ z => by cases z), g12 e11.hp (fun _ z => by cases z), g12 e11.ht (fun _ z => by cases z), g12 f11.ha (fun _ z => by cases z), g12 f11.hp (fun _ z => by cases z), g12 f11.ht (fun _ z => by cases z), npt, npt2, ftF.th, ftF.thB, ?_, ?_, fun H13 b13 hp13 ht13 => ⟨rfl, ?_⟩⟩
          · have h1 := lenT (W := W) fM.1
            have h2 := lenT (W := W) fN.1
            have : sizeLine ≥ 2000 := by decide
            omega
          · have h1 := lenTB fM.2
            have h2 := lenTB fN.2
            have : sizeLine ≥ 2000 := by decide
            omega
          · rw [mergeT_A] at hp13 hq'
            rw [mergeT_B] at ht13 hr'
            have bb : But [bs, e.p, e.t] H10 H13 := But.trans (((But.of s11).put (p := bs) (o := .lst ((S.map fun e => V.ref e.b).set i (.ref b'))) (by simp)).same s12) (b13.mono (by simp))
            have bb2 : But [bs, e.p, e.t] H11 H13 := But.trans (((But.of (fun _ _ e => e)).put (p := bs) (o := .lst ((S.map fun e => V.ref e.b).set i (.ref b'))) (by simp)).same s12) (b13.mono (by simp))
            have nf : ∀ {x y : Addr} {o : HO}, H10 x = none → H10 y = some o → x ≠ y := fun h1 h2 z => by rw [z, h2] at h1; cases h1
            have ee : EntAt C H13 W { e with b := b', q := q', r := r', M := mrg e.M f2.M, B := mrg e.B f2.B } := by
              refine ⟨bb _ _ ?_ e10.ha, hp13, ht13, bb2 _ _ ?_ hb', bb2 _ _ ?_ hq', bb2 _ _ ?_ hr'⟩
              · simp [ne_of e10.ha w10.bsl (fun z => by cases z), ne_of e10.ha e10.hp (fun z => by cases z), ne_of e10.ha e10.ht (fun z => by cases z)]
              · simp [nf b0 w10.bsl, nf b0 e10.hp, nf b0 e10.ht]
              · simp [nf q0 w10.bsl, nf q0 e10.hp, nf q0 e10.ht]
              · simp [nf r0 w10.bsl, nf r0 e10.hp, nf r0 e10.ht]
            refine q H13 W (S.set i { e with b := b', q := q', r := r', M := mrg e.M f2.M, B := mrg e.B f2.B }) (w10.put (e' := { e with b := b', q := q', r := r', M := mrg e.M f2.M, B := mrg e.B f2.B }) he bb (fun x hx => ?_) ?_ rfl ee (fun x hx => ?_) ?_ (.inr b0) fun x hx m hm => rfl) (gd.step (e' := { e with b := b', q := q', r := r', M := mrg e.M f2.M, B := mrg e.B f2.B }) he rfl (fM.1.mrg fN.1) (fM.2.mrg fN.2) (fun m hm => mem_mrg.mpr (.inl hm)) (fun m hm => (mem_mrg.mp hm).elim (fun c => ⟨e, hem, c⟩) fun c => ⟨f2, hfm, c⟩) fun m hm => mem_mrg.mpr ((mem_mrg.mp hm).imp (gd.sub e hem m) (gd.sub f2 hfm m))).up (map_set he rfl)
            · simp only [List.mem_cons, List.mem_nil_iff, or_false] at hx
              rcases hx with rfl | rfl | rfl
              · exact .inr rfl
              · left; simp [dicts]
              · left; simp [dicts]
            · rw [b13 bs _ (by simp [(off _ _ e11.hp (fun _ z => by cases z)).symm, (off _ _ e11.ht (fun _ z => by cases z)).symm]) (s12 _ _ upd_same), List.map_set]
            · simp only [dicts, List.mem_cons, List.mem_nil_iff, or_false] at hx
              rcases hx with rfl | rfl | rfl | rfl
              · left; simp [dicts]
              · left; simp [dicts]
              · exact .inr q0
              · exact .inr r0
            · simp only [dicts, List.nodup_cons, List.mem_cons, List.mem_nil_iff, or_false, not_or, List.nodup_nil, and_true]
              exact ⟨⟨npt, (nf q0 e10.hp).symm, (nf r0 e10.hp).symm⟩, ⟨(nf q0 e10.ht).symm, (nf r0 e10.ht).symm⟩, nqr', fun z => z⟩
        · have w9 := w8.same s9
          have e9 := w9.ents e hem
          have f9 := w9.ents f2 hfm
          refine rs_retL (ev_callD (n := 4) (d := .bool (knowsM (tab W e.M) e.B (tab W f2.M) f2.B)) ?_ (fun H10 f10 => ?_) (.bl _)) fun v H10 s10 e10 => ?_
          · refine (ev_meth (P := Is (.bl (knowsM (tab W e.M) e.B (tab W f2.M) f2.B))) (ev_var rfl) e9.ha (nbf_no (by decide +kernel)) (ea_cons (ev_at (ev_var rfl) (ev_var rfl) w9.nsl (by rw [List.getElem?_map, hf2]; rfl)) ea_nilV) fun H' g => ⟨_, _, _, _, _, _, _, _, _, _, _, _, _, _, rfl, e9.nb.fx g, f9.nb.fx g, ftF, rfl⟩).imp fun v _ _ ev => ?_
            cases ev
            exact .bl _
          · have w10 : H10 bs = some (.lst (S.map fun e => V.ref e.b)) := f10.nd w9.bsl rfl
            refine (ev_call (P := Is (.bl (knowsM (tab W e.M) e.B (tab W f2.M) f2.B))) (ea_cons (ev_var rfl) (ea_cons (ev_at (ev_var rfl) (ev_var rfl) w10 (by rw [List.getElem?_map, hf2]; rfl)) ea_nilV)) fun H' g => ⟨_, _, _, _, _, _, _, _, _, _, _, _, rfl, e9.bk.fx (f10.trans g), f9.bk.fx (f10.trans g), ftF, rfl⟩).imp fun v _ _ ev => ?_
            cases ev
            exact .bl _
          · cases e10
            exact q H10 W S (w9.same s10) gd.up rfl
end N88
/-! what is told, compared -/
namespace N88
open PySem L2 PySem.Spec
theorem lay_all {ds : List PyData} (h : ∀ d ∈ ds, d.canLay0 = true) : PyData.canLayAll0 ds = true := by
  induction ds with
  | nil => rfl
  | cons d ds ih =>
    rw [PyData.canLayAll0, h d List.mem_cons_self, ih fun x hx => h x (List.mem_cons_of_mem _ hx)]
    rfl
theorem depth_all {n : Nat} {ds : List PyData} (h : ∀ d ∈ ds, d.depth ≤ n) : PyData.depthAll ds ≤ n := by
  induction ds with
  | nil => exact Nat.zero_le n
  | cons d ds ih =>
    rw [PyData.depthAll]
    exact Nat.max_le.mpr ⟨h d List.mem_cons_self, ih fun x hx => h x (List.mem_cons_of_mem _ hx)⟩
theorem Dn.lay {n : Nat} {d : PyData} (h : Dn n d) : d.canLay0 = true ∧ d.depth ≤ n := by
  induction h with
  | non => exact ⟨rfl, Nat.zero_le _⟩
  | bl b => exact ⟨rfl, Nat.zero_le _⟩
  | int i => exact ⟨rfl, Nat.zero_le _⟩
  | str z hs => exact ⟨SeqAt.canLay_of_shaped hs, Nat.zero_le _⟩
  | tup hl _ ih =>
    constructor
    · rw [PyData.canLay0]
      exact lay_all fun d hd => (ih d hd).1
    · rw [PyData.depth]
      exact Nat.succ_le_succ (depth_all fun d hd => (ih d hd).2)
theorem Dn.shaped {n : Nat} {d : PyData} (h : Dn n d) (hn : n ≤ 64) : SeqAt.shaped d = true := by
  unfold SeqAt.shaped
  rw [h.lay.1, decide_eq_true (Nat.le_trans h.lay.2 hn)]
  rfl
def tw (W : PI2 → Str) (m : PI2) : PyData := .tuple [.int m.1, .int m.2, .str (W m)]
theorem told_tab {W : PI2 → Str} {M B : List PI2} : told (tab W M) B = .tuple [.tuple ((sortP M).map (tw W)), .tuple ((sortP B).map prD)] := by
  unfold told
  rw [tab_keys]
  have e : (sortP M).map (told1 (tab W M)) = (sortP M).map (tw W) := List.map_congr_left fun m hm => by
    unfold told1 tw
    rw [lookA_tab ((sortP_perm M).mem_iff.mp hm)]
    rfl
  rw [e]
theorem eqv_tw {W : PI2 → Str} {a b : PI2} : PyData.eqv (tw W a) (tw W b) = decide (a = b) := by
  unfold tw
  rw [PyData.eqv, PyData.eqvAll, PyData.eqvAll, PyData.eqvAll, PyData.eqvAll, eqv_int, eqv_int, eqv_str]
  by_cases e : a = b
  · subst e
    simp
  · rw [decide_eq_false e]
    by_cases e1 : a.1 = b.1
    · have e2 : a.2 ≠ b.2 := fun c => e (Prod.ext e1 c)
      simp [e2]
    · simp [e1]
theorem eqv_prD {a b : PI2} : PyData.eqv (prD a) (prD b) = decide (a = b) := by
  unfold prD
  rw [PyData.eqv, PyData.eqvAll, PyData.eqvAll, PyData.eqvAll, eqv_int, eqv_int]
  by_cases e : a = b
  · subst e
    simp
  · rw [decide_eq_false e]
    by_cases e1 : a.1 = b.1
    · have e2 : a.2 ≠ b.2 := fun c => e (Prod.ext e1 c)
      simp [e2]
    · simp [e1]
theorem eqvAll_map {f : PI2 → PyData} (h : ∀ a b, PyData.eqv (f a) (f b) = decide (a = b)) : ∀ (xs ys : List PI2), PyData.eqvAll (xs.map f) (ys.map f) = decide (xs = ys)
  | [], [] => rfl
  | [], _ :: _ => by simp [PyData.eqvAll]
  | _ :: _, [] => by simp [PyData.eqvAll]
  | x :: xs, y :: ys => by
    rw [List.map_cons, List.map_cons, PyData.eqvAll, h, eqvAll_map h xs ys]
    by_cases e : x = y
    · subst e
      simp
    · simp [e]
theorem sortP_eq {M N : List PI2} (h1 : M.Nodup) (h2 : N.Nodup) : sortP M = sortP N ↔ (∀ x, x ∈ M ↔ x ∈ N) := by
  constructor
  · intro e x
    rw [← (sortP_perm M).mem_iff, e, (sortP_perm N).mem_iff]
  · intro e
    have p : M.Perm N := (List.perm_ext_iff_of_nodup h1 h2).mpr e
    exact sortP_of (sortP_srt M) ((sortP_perm M).trans p)
theorem knowsM_iff {W : PI2 → Str} {M B N D : List PI2} : knowsM (tab W M) B (tab W N) D = true ↔ (∀ x ∈ N, x ∈ M) ∧ ∀ x ∈ D, x ∈ B := by
  unfold knowsM
  rw [Bool.and_eq_true, List.all_eq_true, List.all_eq_true]
  constructor
  · rintro ⟨h1, h2⟩
    refine ⟨fun x hx => ?_, fun x hx => List.contains_iff_mem.mp (h2 x hx)⟩
    have := h1 (x, W x) (List.mem_map.mpr ⟨x, hx, rfl⟩)
    rw [hasA_tab] at this
    exact List.contains_iff_mem.mp this
  · rintro ⟨h1, h2⟩
    refine ⟨fun p hp => ?_, fun x hx => List.contains_iff_mem.mpr (h2 x hx)⟩
    obtain ⟨m, hm, rfl⟩ := List.mem_map.mp hp
    rw [hasA_tab]
    exact List.contains_iff_mem.mpr (h1 m hm)
theorem told_eq {W : PI2 → Str} {M B N D : List PI2} (h1 : M.Nodup) (h2 : N.Nodup) (h3 : B.Nodup) (h4 : D.Nodup) :
    PyData.eqv (told (tab W M) B) (told (tab W N) D) = (knowsM (tab W M) B (tab W N) D && knowsM (tab W N) D (tab W M) B) := by
  rw [told_tab, told_tab, PyData.eqv, PyData.eqvAll, PyData.eqvAll, PyData.eqvAll, PyData.eqv, PyData.eqv, eqvAll_map fun _ _ => eqv_tw, eqvAll_map fun _ _ => eqv_prD, Bool.and_true, Bool.eq_iff_iff, Bool.and_eq_true, Bool.and_eq_true, decide_eq_true_iff, decide_eq_true_iff, knowsM_iff, knowsM_iff, sortP_eq h1 h2, sortP_eq h3 h4]
  constructor
  · rintro ⟨a, b⟩
    exact ⟨⟨fun x hx => (a x).mpr hx, fun x hx => (b x).mpr hx⟩, fun x hx => (a x).mp hx, fun x hx => (b x).mp hx⟩
  · rintro ⟨⟨a, b⟩, c, d⟩
    exact ⟨fun x => ⟨c x, a x⟩, fun x => ⟨d x, b x⟩⟩
theorem told_dn {W : PI2 → Str} {M B : List PI2} (f1 : FitM M) (f2 : FitM B) (hw : ∀ m ∈ M, W m ∈ labels8) : Dn 4 (told (tab W M) B) := by
  rw [told_tab]
  have l1 : (sortP M).length ≤ 576 := by
    rw [(sortP_perm M).length_eq]
    exact f1.len
  have l2 : (sortP B).length ≤ 576 := by
    rw [(sortP_perm B).length_eq]
    exact f2.len
  refine .tup (by simp) fun d hd => ?_
  rcases List.mem_cons.mp hd with e | e
  · rw [e]
    refine .tup (by rw [List.length_map]; omega) fun d hd => ?_
    obtain ⟨m, hm, rfl⟩ := List.mem_map.mp hd
    refine .tup (by simp) fun d hd => ?_
    simp only [List.mem_cons, List.mem_nil_iff, or_false] at hd
    rcases hd with rfl | rfl | rfl
    · exact .int _
    · exact .int _
    · exact .str _ (lab8 _ (hw m ((sortP_perm M).mem_iff.mp hm))).sh
  · rw [List.mem_singleton] at e
    rw [e]
    refine .tup (by rw [List.length_map]; omega) fun d hd => ?_
    obtain ⟨m, hm, rfl⟩ := List.mem_map.mp hd
    exact prD_dn m
end N88
/-! lists of new notebooks, of new books -/
namespace N88
open PySem L2 PySem.Spec
section
variable {σ : L2.St} {H : Hp} {te : TE} {wi : TI} {vs : List Nat} {α : Type} {l : List α} {Y : α → V → Hp → Prop} {Q : VK} {j : Nat}
theorem k_lc (hw : ItR (wi σ) H l Y) (Pv : Hp → Addr → Nat → Hp → Prop) (h0 : ∀ H2 D, Same H H2 → H2 D = none → Pv H2 D 0 (upd H2 D (.lst []))) (hG : ∀ H2 D i H', Pv H2 D i H' → Same H2 H')
    (hs : ∀ H2 D i a x H3 H4, H2 D = none → Same H H2 → l[i]? = some a → Pv H2 D i H3 → Same H3 H4 → Y a x H4 → te ((wipe σ vs).set j (some x)) H4 fun y H6 => ∃ acc, H6 D = some (.lst acc) ∧ acc.length < sizeLine ∧ Pv H2 D (i + 1) (upd H6 D (.lst (acc ++ [y]))))
    (hw2 : ∀ x, wipe ((wipe σ vs).set j (some x)) vs = wipe σ vs) (hd : ∀ H2 D H', Same H H2 → H2 D = none → Pv H2 D l.length H' → Q (.ref D) H') : tLc wi (gName j) tYes te vs σ H Q :=
  hw H (Fx.refl H) _ fun J H2 G Z s2 w hG2 hZ D hD => by
    refine lc_it w (fun i H' => Pv H2 D i H') (h0 H2 D s2 hD) (fun i H' hi p => hG2 H' (hG H2 D i H' p)) (fun i x H3 H4 hi p z => ?_) fun H' p => hd H2 D H' s2 hD p
    have ha : l[i]? = some l[i] := List.getElem?_eq_getElem hi
    obtain ⟨s4, hy⟩ := hZ i l[i] H3 x H4 ha (hG H2 D i H3 p) z
    exact ⟨hw2 x, hs H2 D i _ x H3 H4 hD s2 ha p s4 hy⟩
end
/-- a notebook that was just made -/
def F1 (C : Addr) (H : Hp) (e : Ent) : Prop := H e.a = some (.ins C e.dx (nbf e.pen e.p e.t)) ∧ H e.p = some (.dT []) ∧ H e.t = some (.dT []) ∧ e.p ≠ e.t ∧ e.M = [] ∧ e.B = []
theorem F1.same {C : Addr} {H H' : Hp} {e : Ent} (h : F1 C H e) (s : Same H H') : F1 C H' e := ⟨s _ _ h.1, s _ _ h.2.1, s _ _ h.2.2.1, h.2.2.2⟩
theorem F1.put {C : Addr} {H : Hp} {e : Ent} {D : Addr} {xs ys : List V} (h : F1 C H e) (hD : H D = some (.lst xs)) : F1 C (upd H D (.lst ys)) e := by
  obtain ⟨h1, h2, h3, h4⟩ := h
  refine ⟨?_, ?_, ?_, h4⟩
  · rw [upd_ne (ne_of h1 hD (fun z => by cases z))]
    exact h1
  · rw [upd_ne (ne_of h2 hD (fun z => by cases z))]
    exact h2
  · rw [upd_ne (ne_of h3 hD (fun z => by cases z))]
    exact h3
def dpt (e : Ent) : List Addr := [e.p, e.t]
theorem snoc_cases {S : List Ent} {e x : Ent} {j : Nat} (h : (S ++ [e])[j]? = some x) : (j < S.length ∧ S[j]? = some x) ∨ (j = S.length ∧ x = e) := app_cases h
section
variable {P : Program} {w : World} {K : PySem.W.Frag} {C : Addr} {σ : L2.St} {H : Hp} {wi : TI} {vs : List Nat} {ps : List Int} {Q : VK} {E : XK} {j : Nat}
theorem mk_notebooks (hw : ItR (wi σ) H ps fun n x _ => x = .int n) (hps : ∀ n ∈ ps, 0 ≤ n ∧ n ≤ 8) (hl : ps.length ≤ 9) (hj : ∀ x, ((wipe σ vs).set j (some x))[j]? = some (some x)) (hw2 : ∀ x, wipe ((wipe σ vs).set j (some x)) vs = wipe σ vs)
    (k : ∀ H' D (E1 : List Ent), Same H H' → H D = none → H' D = some (.lst (E1.map fun e => V.ref e.a)) → E1.length = ps.length → (∀ (n : Nat) (e : Ent), E1[n]? = some e → ps[n]? = some e.pen ∧ F1 C H' e) →
      (∀ (n m : Nat) (e f : Ent), E1[n]? = some e → E1[m]? = some f → n ≠ m → ∀ x ∈ dpt e, x ∉ dpt f) → Q (.ref D) H') : tLc wi (gName j) tYes (tMake C (SpInit C) [] E (tCons (tVar j) tNil)) vs σ H Q := by
  refine k_lc hw (fun H2 D i H' => Same H2 H' ∧ ∃ E1 : List Ent, H' D = some (.lst (E1.map fun e => V.ref e.a)) ∧ E1.length = i ∧ (∀ (n : Nat) (e : Ent), E1[n]? = some e → ps[n]? = some e.pen ∧ F1 C H' e) ∧ ∀ (n m : Nat) (e f : Ent), E1[n]? = some e → E1[m]? = some f → n ≠ m → ∀ x ∈ dpt e, x ∉ dpt f)
    (fun H2 D s hD => ⟨same_new hD, [], upd_same, rfl, fun n e h => by simp at h, fun n m e f h => by simp at h⟩) (fun _ _ _ _ p => p.1) (fun H2 D i pen x H3 H4 hD s0 ha p s4 hx => ?_) hw2 fun H2 D H' s hD p => ?_
  · subst hx
    obtain ⟨s3, E1, h1, h2, h3, h4⟩ := p
    have hp := hps pen (List.mem_of_getElem? ha)
    refine k_make (vs := [.int pen]) (ea_cons (ev_var (hj _)) ea_nilV) fun H5 y dy s5 hy0 hd0 nd => ?_
    refine ⟨y, dy, pen, rfl, hp.1, hp.2, upd_same, fun H6 p t b6 hy6 hp6 ht6 fp ft npt => ⟨rfl, E1.map fun e => V.ref e.a, ?_, ?_, ?_⟩⟩
    · have hD4 := s4 _ _ h1
      have s6 : Same H5 H6 := fun b o e => b6 b o (by rw [List.mem_singleton]; exact ne_of_none e hy0) (by rw [upd_ne (ne_of_none e hy0), upd_ne (ne_of_none e hd0)]; exact e)
      exact s6 _ _ (s5 _ _ hD4)
    · rw [List.length_map, h2]
      have := (List.getElem?_eq_some_iff.mp ha).1
      exact Nat.lt_of_lt_of_le this (Nat.le_trans hl (by decide))
    · have s6 : Same H5 H6 := fun b o e => b6 b o (by rw [List.mem_singleton]; exact ne_of_none e hy0) (by rw [upd_ne (ne_of_none e hy0), upd_ne (ne_of_none e hd0)]; exact e)
      have s46 : Same H3 H6 := (s4.trans s5).trans s6
      have hD6 := s46 _ _ h1
      have old : ∀ (b : Addr) (o : HO), H3 b = some o → b ≠ p ∧ b ≠ t := fun b o hb => by
        have hb5 : (upd (upd H5 dy (.own y)) y (.ins C dy [])) b = some o := by
          rw [upd_ne (ne_of_none (s5 _ _ (s4 _ _ hb)) hy0), upd_ne (ne_of_none (s5 _ _ (s4 _ _ hb)) hd0)]
          exact s5 _ _ (s4 _ _ hb)
        exact ⟨ne_of_none hb5 fp, ne_of_none hb5 ft⟩
      refine ⟨fun b o e => ?_, E1 ++ [⟨y, dy, p, t, 0, 0, 0, pen, [], []⟩], ?_, ?_, fun n e he => ?_, fun n m e f he hf hn => ?_⟩
      · rw [upd_ne (ne_of_none e hD)]
        exact s46 _ _ (s3 _ _ e)
      · rw [upd_same, List.map_append]
        rfl
      · rw [List.length_append, h2]
        rfl
      · rcases snoc_cases he with ⟨_, h⟩ | ⟨hn, rfl⟩
        · obtain ⟨a, b⟩ := h3 n e h
          exact ⟨a, (b.same s46).put hD6⟩
        · rw [hn, h2]
          exact ⟨ha, F1.put ⟨hy6, hp6, ht6, npt, rfl, rfl⟩ hD6⟩
      · rcases snoc_cases he with ⟨_, h⟩ | ⟨n1, rfl⟩ <;> rcases snoc_cases hf with ⟨_, h'⟩ | ⟨n2, rfl⟩
        · exact h4 n m e f h h' hn
        · obtain ⟨_, a1, a2, a3, _⟩ := h3 n e h
          have o1 := old _ _ a2
          have o2 := old _ _ a3
          intro x hx
          simp only [dpt, List.mem_cons, List.mem_nil_iff, or_false, not_or] at hx ⊢
          rcases hx with rfl | rfl
          · exact o1
          · exact o2
        · obtain ⟨_, a1, a2, a3, _⟩ := h3 m f h'
          have o1 := old _ _ a2
          have o2 := old _ _ a3
          intro x hx
          simp only [dpt, List.mem_cons, List.mem_nil_iff, or_false, not_or] at hx ⊢
          rcases hx with rfl | rfl
          · exact ⟨o1.1.symm, o2.1.symm⟩
          · exact ⟨o1.2.symm, o2.2.symm⟩
        · omega
  · obtain ⟨s3, E1, h1, h2, h3, h4⟩ := p
    exact k H' D E1 (s.trans s3) ((Fx.of s).fresh hD) h1 h2 h3 h4
theorem mk_books {W : PI2 → Str} {E1 : List Ent} {as : List Addr} (hw : ItR (wi σ) H ps fun n x _ => x = .int n) (hl : ps.length ≤ 9) (h1l : E1.length = ps.length) (h1 : ∀ (n : Nat) (e : Ent), E1[n]? = some e → ps[n]? = some e.pen ∧ F1 C H e)
    (h2 : ∀ (n m : Nat) (e f : Ent), E1[n]? = some e → E1[m]? = some f → n ≠ m → ∀ x ∈ dpt e, x ∉ dpt f) (has : ∀ x ∈ as, ∃ o, H x = some o) (hj : ∀ x, ((wipe σ vs).set j (some x))[j]? = some (some x)) (hw2 : ∀ x, wipe ((wipe σ vs).set j (some x)) vs = wipe σ vs)
    (k : ∀ H' D (S : List Ent), Same H H' → H D = none → H' D = some (.lst (S.map fun e => V.ref e.b)) → S.length = ps.length → S.map (·.a) = E1.map (·.a) → S.map (·.pen) = ps → (∀ e ∈ S, e.M = [] ∧ e.B = [] ∧ EntAt C H' W e ∧ (dicts e).Nodup ∧ e.b ∉ as ∧ e.b ≠ D) →
      (∀ (n m : Nat) (e f : Ent), S[n]? = some e → S[m]? = some f → n ≠ m → ∀ x ∈ dicts e, x ∉ dicts f) → Q (.ref D) H') : tLc wi (gName j) tYes (tCall SpBook [] E (tCons (tVar j) tNil)) vs σ H Q := by
  refine k_lc hw (fun H2 D i H' => Same H2 H' ∧ ∃ S : List Ent, H' D = some (.lst (S.map fun e => V.ref e.b)) ∧ S.length = i ∧ (∀ (n : Nat) (e : Ent), S[n]? = some e → (∃ e1, E1[n]? = some e1 ∧ e.a = e1.a ∧ e.pen = e1.pen ∧ e.p = e1.p ∧ e.t = e1.t) ∧ H2 e.q = none ∧ H2 e.r = none ∧
      e.M = [] ∧ e.B = [] ∧ EntAt C H' W e ∧ (dicts e).Nodup ∧ e.b ∉ as ∧ e.b ≠ D) ∧ ∀ (n m : Nat) (e f : Ent), S[n]? = some e → S[m]? = some f → n ≠ m → ∀ x ∈ dicts e, x ∉ dicts f)
    (fun H2 D s hD => ⟨same_new hD, [], upd_same, rfl, fun n e h => by simp at h, fun n m e f h => by simp at h⟩) (fun _ _ _ _ p => p.1) (fun H2 D i pen x H3 H4 hD s0 ha p s4 hx => ?_) hw2 fun H2 D H' s hD p => ?_
  · subst hx
    obtain ⟨s3, S, g1, g2, g3, g4⟩ := p
    have hi := (List.getElem?_eq_some_iff.mp ha).1
    obtain ⟨e1, he1⟩ : ∃ e, E1[i]? = some e := ⟨_, List.getElem?_eq_getElem (by omega)⟩
    obtain ⟨hpen, a1, a2, a3, a4, a5, a6⟩ := h1 i e1 he1
    rw [ha] at hpen
    have hpen2 : pen = e1.pen := Option.some.inj hpen
    refine k_call (vs := [.int pen]) (ea_cons (ev_var (hj _)) ea_nilV) fun H5 s5 => ⟨pen, rfl, fun H6 b q r s6 hb hq hr q0 r0 nqr b0 => ⟨S.map fun e => V.ref e.b, ?_, ?_, ?_⟩⟩
    · exact s6 _ _ (s5 _ _ (s4 _ _ g1))
    · rw [List.length_map, g2]
      exact Nat.lt_of_lt_of_le hi (Nat.le_trans hl (by decide))
    · have s46 : Same H3 H6 := (s4.trans s5).trans s6
      have hD6 := s46 _ _ g1
      have sH5 : Same H H5 := ((s0.trans s3).trans s4).trans s5
      have s25 : Same H2 H5 := (s3.trans s4).trans s5
      have s35 : Same H3 H5 := s4.trans s5
      have old : ∀ (x : Addr) (o : HO), H5 x = some o → x ≠ q ∧ x ≠ r ∧ x ≠ b := fun x o hx => ⟨ne_of_none hx q0, ne_of_none hx r0, ne_of_none hx b0⟩
      have op := old _ _ (sH5 _ _ a2)
      have ot := old _ _ (sH5 _ _ a3)
      have nD : ∀ {x : Addr} {o : HO}, H6 x = some o → (∀ xs, o ≠ .lst xs) → (upd H6 D (.lst ((S.map fun e => V.ref e.b) ++ [.ref b]))) x = some o := fun hx ho => by
        rw [upd_ne (ne_of hx hD6 (ho _))]
        exact hx
      have nbD : b ≠ D := fun z => (old _ _ (s5 _ _ (s4 _ _ g1))).2.2 z.symm
      have nn : EntAt C (upd H6 D (.lst ((S.map fun e => V.ref e.b) ++ [.ref b]))) W { e1 with b := b, q := q, r := r, M := [], B := [] } := by
        refine ⟨nD (s6 _ _ (sH5 _ _ a1)) (fun _ z => by cases z), nD (s6 _ _ (sH5 _ _ a2)) (fun _ z => by cases z), nD (s6 _ _ (sH5 _ _ a3)) (fun _ z => by cases z), ?_, nD hq (fun _ z => by cases z), nD hr (fun _ z => by cases z)⟩
        rw [upd_ne nbD, hb, hpen2]
      refine ⟨fun b o e => ?_, S ++ [{ e1 with b := b, q := q, r := r, M := [], B := [] }], ?_, ?_, fun n e he => ?_, fun n m e f he hf hn => ?_⟩
      · rw [upd_ne (ne_of_none e hD)]
        exact s46 _ _ (s3 _ _ e)
      · rw [upd_same, List.map_append]
        rfl
      · rw [List.length_append, g2]
        rfl
      · rcases snoc_cases he with ⟨_, h⟩ | ⟨hn, rfl⟩
        · obtain ⟨c1, c2, c3, c4, c5, c6, c7, c8, c9⟩ := g3 n e h
          have c66 := c6.same s46
          refine ⟨c1, c2, c3, c4, c5, ⟨nD c66.ha (fun _ z => by cases z), nD c66.hp (fun _ z => by cases z), nD c66.ht (fun _ z => by cases z), ?_, nD c66.hq (fun _ z => by cases z), nD c66.hr (fun _ z => by cases z)⟩, c7, c8, c9⟩
          rw [upd_ne c9]
          exact c66.hb
        · rw [hn, g2]
          refine ⟨⟨e1, he1, rfl, rfl, rfl, rfl⟩, (Fx.of s25).fresh q0, (Fx.of s25).fresh r0, rfl, rfl, nn, ?_, fun hx => ?_, nbD⟩
          · simp only [dicts, List.nodup_cons, List.mem_cons, List.mem_nil_iff, or_false, not_or, List.nodup_nil, and_true]
            exact ⟨⟨a4, op.1, op.2.1⟩, ⟨ot.1, ot.2.1⟩, nqr, fun z => z⟩
          · obtain ⟨o, ho⟩ := has b hx
            exact (old _ _ (sH5 _ _ ho)).2.2 rfl
      · have cross : ∀ (n : Nat) (e : Ent), n < i → S[n]? = some e → ∀ x ∈ dicts e, x ∉ dicts { e1 with b := b, q := q, r := r, M := [], B := [] } := fun n e hn he x hx hx2 => by
          obtain ⟨⟨f1, hf1, d1, d2, d3, d4⟩, c2, c3, c4, c5, c6, c7, c8, c9⟩ := g3 n e he
          have ip := h2 n i f1 e1 hf1 he1 (by omega)
          obtain ⟨kvs, hk⟩ := c6.dict hx
          have ox := old _ _ (s35 _ _ hk)
          simp only [dicts, List.mem_cons, List.mem_nil_iff, or_false] at hx hx2
          have np : ∀ y, (y = e.q ∨ y = e.r) → y ≠ e1.p ∧ y ≠ e1.t := fun y hy => by
            have hn : H2 y = none := hy.elim (fun z => by rw [z]; exact c2) fun z => by rw [z]; exact c3
            exact ⟨fun z => (ne_of_none (s0 _ _ a2) hn) z.symm, fun z => (ne_of_none (s0 _ _ a3) hn) z.symm⟩
          rcases hx2 with z | z | z | z
          · rcases hx with y | y | y | y
            · exact ip f1.p (by simp [dpt]) (by rw [← d3, ← y, z]; simp [dpt])
            · exact ip f1.t (by simp [dpt]) (by rw [← d4, ← y, z]; simp [dpt])
            · exact (np x (.inl y)).1 z
            · exact (np x (.inr y)).1 z
          · rcases hx with y | y | y | y
            · exact ip f1.p (by simp [dpt]) (by rw [← d3, ← y, z]; simp [dpt])
            · exact ip f1.t (by simp [dpt]) (by rw [← d4, ← y, z]; simp [dpt])
            · exact (np x (.inl y)).2 z
            · exact (np x (.inr y)).2 z
          · exact ox.1 z
          · exact ox.2.1 z
        rcases snoc_cases he with ⟨l1, h⟩ | ⟨n1, rfl⟩ <;> rcases snoc_cases hf with ⟨l2, h'⟩ | ⟨n2, rfl⟩
        · exact g4 n m e f h h' hn
        · exact cross n e (by omega) h
        · intro x hx hx2
          exact cross m f (by omega) h' x hx2 hx
        · omega
  · obtain ⟨s3, S, g1, g2, g3, g4⟩ := p
    refine k H' D S (s.trans s3) ((Fx.of s).fresh hD) g1 g2 ?_ ?_ (fun e he => ?_) g4
    · refine List.ext_getElem? fun n => ?_
      rw [List.getElem?_map, List.getElem?_map]
      cases hn : S[n]? with
      | none =>
        have : E1[n]? = none := by
          rw [List.getElem?_eq_none_iff] at hn ⊢
          omega
        rw [this]
      | some e =>
        obtain ⟨⟨e1, he1, d1, _⟩, _⟩ := g3 n e hn
        rw [he1]
        show some e.a = some e1.a
        rw [d1]
    · refine List.ext_getElem? fun n => ?_
      rw [List.getElem?_map]
      cases hn : S[n]? with
      | none =>
        have : ps[n]? = none := by
          rw [List.getElem?_eq_none_iff] at hn ⊢
          omega
        rw [this]
        rfl
      | some e =>
        obtain ⟨⟨e1, he1, _, d2, _⟩, _⟩ := g3 n e hn
        rw [(h1 n e1 he1).1]
        show some e.pen = some e1.pen
        rw [d2]
    · obtain ⟨n, hn⟩ := List.getElem?_of_mem he
      obtain ⟨_, _, _, c4, c5, c6, c7, c8, c9⟩ := g3 n e hn
      exact ⟨c4, c5, c6, c7, c8, c9⟩
end
end N88
/-! notebooks and books, each for itself -/
namespace N88
open PySem L2 PySem.Spec
section
variable {K : PySem.W.Frag} {σ : L2.St} {H : Hp} {te te1 te2 : TE} {t1 t2 tb : TS} {D : Ends} {i j : Nat} {g : TG} {u : TT}
abbrev ForK (J : It) (g : TG) (tb : TS) (D : Ends) (σ : L2.St) (H : Hp) : Prop := ∃ W : Nat → Nat → L2.St → Hp → Prop, (∃ m, W 0 m σ H) ∧ ∀ i m σ H, W i m σ H →
  (J.stop i H ∧ D.nx σ H) ∨ (J.go i H ∧ ∃ N : L2.St → Hp → Prop, (∀ σ' H', N σ' H' → ∃ m', m' < m ∧ W (i + 1) m' σ' H') ∧ ∀ x H', J.yld i H x H' → g x σ H' fun σ2 H2 => tb { D with nx := N, ct := N, bk := D.nx } σ2 H2)
theorem rs_forK (h : te σ H fun v H1 => ∃ j : Int, [v] = [.int j] ∧ -(2 ^ 62) ≤ j ∧ j < 2 ^ 62 ∧ ForK (Itr 0 j.toNat) g tb { D with nx := t2 D } σ H1) : tSeq (tFor (iRng1 (tCons te tNil)) g tb) t2 D σ H := h
theorem forK_rng {s : Nat} (n : Nat) (Pv : Nat → L2.St → Hp → Prop) (h0 : Pv 0 σ H) (hs : ∀ i σ H, i < n → Pv i σ H → tb { D with nx := Pv (i + 1), ct := Pv (i + 1), bk := D.nx } (σ.set s (some (.int (i : Nat)))) H) (hd : ∀ σ H, Pv n σ H → D.nx σ H) : ForK (Itr 0 n) (gName s) tb D σ H :=
  for_it walk_range Pv h0 (fun _ _ _ _ _ => trivial) (fun i x σ H H' hi p y => by
    obtain ⟨rfl, rfl⟩ := y
    have := hs i σ H' hi p
    show tb _ (σ.set s (some (.int (0 + (i : Nat))))) H'
    rw [Int.zero_add]
    exact this) hd
theorem k_tC {v : V} {Q : VK} (h : Q v H) : tC v σ H Q := h
theorem rs_forLK (h : te σ H fun x H1 => ∃ a, x = .ref a ∧ (∃ xs, SqL K H1 a xs) ∧ ForK (Itl K a) g tb D σ H1) : tFor (iAny K te) g tb D σ H := .inl h
theorem rs_forLS (h : te σ H fun x H1 => ∃ a, x = .ref a ∧ (∃ xs, SqL K H1 a xs) ∧ ForK (Itl K a) g tb { D with nx := t2 D } σ H1) : tSeq (tFor (iAny K te) g tb) t2 D σ H := .inl h
theorem forK_list {s : Nat} {a : Addr} {xs : List V} (Pv : Nat → L2.St → Hp → Prop) (h0 : Pv 0 σ H) (hG : ∀ i σ H, Pv i σ H → H a = some (.lst xs)) (hs : ∀ i x σ H, xs[i]? = some x → Pv i σ H → tb { D with nx := Pv (i + 1), ct := Pv (i + 1), bk := D.nx } (σ.set s (some x)) H) (hd : ∀ σ H, Pv xs.length σ H → D.nx σ H) : ForK (Itl K a) (gName s) tb D σ H :=
  for_it walk_list Pv h0 (fun i σ H _ p => SqL.of (hG i σ H p)) (fun i x σ H H' hi p y => by
    obtain ⟨rfl, hx⟩ := y
    exact hs i x σ H' hx p) hd
theorem rs_ifNotK (h : te σ H fun v H1 => ∃ b, v = .bl b ∧ if (!b) = true then t1 { D with nx := t2 D } σ H1 else tNext { D with nx := t2 D } σ H1) : tSeq (tIfS (tNot (tB te)) t1 tNext) t2 D σ H := h
theorem rs_retAndK (h : te1 σ H fun x H1 => ∃ c, x = .bl c ∧ if c = true then te2 σ H1 D.rt else D.rt (.bl false) H1) : tRet (tAndV te1 te2) D σ H := h
/-- if t == c: .. else: .., the last -/
theorem rs_if2K (h : te σ H fun v H1 => ∃ b, v = .bl b ∧ if b = true then t1 D σ H1 else t2 D σ H1) : tIfS (tTest te) t1 t2 D σ H := h
end
def nine (n : Nat) : List Int := (List.range n).map fun (i : Nat) => (i : Int)
theorem rgV_nine (n : Nat) : rgV 0 (n : Int) = (nine n).map V.int := by
  unfold rgV nine
  rw [List.map_map, Int.sub_zero, Int.toNat_natCast]
  refine List.map_congr_left fun i _ => ?_
  show V.int (0 + (i : Int)) = V.int (i : Int)
  rw [Int.zero_add]
def backI : V → Int
  | .int i => i
  | _ => 0
theorem perm_ints {ys : List V} {ns : List Int} (h : ys.Perm (ns.map V.int)) : ∃ ws : List Int, ys = ws.map V.int ∧ ws.Perm ns := by
  refine ⟨ys.map backI, ?_, ?_⟩
  · rw [List.map_map]
    refine Eq.symm ((List.map_congr_left fun y hy => ?_).trans (List.map_id ys))
    obtain ⟨n, _, rfl⟩ := List.mem_map.mp (h.mem_iff.mp hy)
    rfl
  · have h2 := h.map backI
    rw [List.map_map] at h2
    have e : (backI ∘ V.int) = id := rfl
    rw [e, List.map_id] at h2
    exact h2
theorem mem_nine {n : Nat} {x : Int} (h : x ∈ nine n) : ∃ j : Nat, j < n ∧ x = (j : Int) := by
  obtain ⟨j, hj, e⟩ := List.mem_map.mp h
  exact ⟨j, List.mem_range.mp hj, e.symm⟩
theorem ev_rg {σ : L2.St} {H : Hp} {te : TE} {n : Nat} (h : EvR (te σ) H (Is (.int (n : Int)))) (hn : n ≤ 1000) : EvR (tLstRg (tRg1 te) σ) H (New H (.lst ((nine n).map V.int))) := fun H1 g Q q => h H1 g _ fun v H2 s e => ⟨n, e, RgOk.of_le (by omega) (by omega) (by omega) (by omega), fun p hp => by
  rw [rgV_nine]
  exact q _ _ (s.trans (same_new hp)) ⟨p, rfl, (g.same s).fresh hp, upd_same⟩⟩
/-- a notebook that may be changed -/
structure NM (C : Addr) (W : PI2 → Str) (H : Hp) (a dx p t : Addr) (pen : Int) (M B : List PI2) : Prop where
  ha : H a = some (.ins C dx (nbf pen p t))
  hp : H p = some (.dT (toA (tab W M)))
  ht : H t = some (.dT (toB B))
  ne : p ≠ t
  fM : FitM M
  fB : FitM B
  hw : ∀ m ∈ M, W m ∈ labels8
/-- a book -/
structure BM (W : PI2 → Str) (H : Hp) (b q r : Addr) (pen : Int) (M B : List PI2) : Prop where
  hb : H b = some (.lst [.int pen, .ref q, .ref r])
  hq : H q = some (.dT (toA (tab W M)))
  hr : H r = some (.dT (toB B))
section
variable {C : Addr} {W W' : PI2 → Str} {H H' : Hp} {a dx p t b q r : Addr} {pen : Int} {M B M' B' : List PI2} {X : List Addr}
theorem NM.nb (n : NM C W H a dx p t pen M B) : NbR C H a dx p t pen (tab W M) B := ⟨n.ha, .inl n.hp, .inl n.ht⟩
theorem NM.fit (n : NM C W H a dx p t pen M B) : Fit (tab W M) B := fit_of n.fM n.fB n.hw
theorem BM.bk (n : BM W H b q r pen M B) : BkR H b q r pen (tab W M) B := ⟨n.hb, .inl n.hq, .inl n.hr⟩
theorem NM.but (n : NM C W H a dx p t pen M B) (b : But X H H') (h0 : a ∉ X) (h1 : p ∉ X) (h2 : t ∉ X) : NM C W H' a dx p t pen M B := ⟨b _ _ h0 n.ha, b _ _ h1 n.hp, b _ _ h2 n.ht, n.ne, n.fM, n.fB, n.hw⟩
theorem NM.same (n : NM C W H a dx p t pen M B) (s : Same H H') : NM C W H' a dx p t pen M B := ⟨s _ _ n.ha, s _ _ n.hp, s _ _ n.ht, n.ne, n.fM, n.fB, n.hw⟩
theorem BM.but (n : BM W H b q r pen M B) (x : But X H H') (h0 : b ∉ X) (h1 : q ∉ X) (h2 : r ∉ X) : BM W H' b q r pen M B := ⟨x _ _ h0 n.hb, x _ _ h1 n.hq, x _ _ h2 n.hr⟩
theorem BM.same (n : BM W H b q r pen M B) (s : Same H H') : BM W H' b q r pen M B := ⟨s _ _ n.hb, s _ _ n.hq, s _ _ n.hr⟩
theorem EntAt.nm {e : Ent} (h : EntAt C H W e) (d : (dicts e).Nodup) (f1 : FitM e.M) (f2 : FitM e.B) (hw : ∀ m ∈ e.M, W m ∈ labels8) : NM C W H e.a e.dx e.p e.t e.pen e.M e.B := by
  simp only [dicts, List.nodup_cons, List.mem_cons, List.mem_nil_iff, or_false, not_or] at d
  exact ⟨h.ha, h.hp, h.ht, d.1.1, f1, f2, hw⟩
theorem EntAt.bm {e : Ent} (h : EntAt C H W e) : BM W H e.b e.q e.r e.pen e.M e.B := ⟨h.hb, h.hq, h.hr⟩
end
variable {P : Program} {w : World} {K : PySem.W.Frag} {mg : Str → Option Value} {base : Heap} {C aO : Addr} {t8 : Tok}
section
variable {σ : L2.St} {H : Hp} {E : XK} {Q : VK} {te te2 : TE} {W : PI2 → Str} {a dx p t a2 dx2 p2 t2 b q r b2 q2 r2 : Addr} {pen pen2 : Int} {M B M2 B2 : List PI2} {z : Str}
theorem kn_make {n : Int} (h : EvR (te σ) H (Is (.int n))) (h0 : 0 ≤ n) (h8 : n ≤ 8) (k : ∀ H' y dy p t, Same H H' → NM C W H' y dy p t n [] [] → H p = none → H t = none → Q (.ref y) H') : tMake C (SpInit C) [] E (tCons te tNil) σ H Q := by
  refine k_make (vs := [.int n]) (ea_cons h ea_nilV) fun H1 y dy s1 hy0 hd0 nd => ⟨y, dy, n, rfl, h0, h8, upd_same, fun H2 p t b2 hy hp ht fp ft npt => ⟨rfl, ?_⟩⟩
  have f1 : Same H1 (upd (upd H1 dy (.own y)) y (.ins C dy [])) := fun b o e => by
    rw [upd_ne (ne_of_none e hy0), upd_ne (ne_of_none e hd0)]
    exact e
  have s2 : Same H1 H2 := fun b o e => b2 b o (by rw [List.mem_singleton]; exact ne_of_none e hy0) (f1 b o e)
  exact k H2 y dy p t (s1.trans s2) ⟨hy, hp, ht, npt, ⟨List.nodup_nil, fun _ h => by cases h⟩, ⟨List.nodup_nil, fun _ h => by cases h⟩, fun _ h => by cases h⟩ ((Fx.of (s1.trans f1)).fresh fp) ((Fx.of (s1.trans f1)).fresh ft)
theorem kn_meet (h1 : EvR (te σ) H (Is (.ref a))) (h2 : EvR (te2 σ) H (Is (.ref a2))) (n : NM C W H a dx p t pen M B) (n2 : NM C W H a2 dx2 p2 t2 pen2 M2 B2) (hn : p ≠ t2)
    (k : ∀ H', But [p, t] H H' → NM C W H' a dx p t pen (mrg M M2) (mrg B B2) → Q .non H') : tMeth C (Str.ofString "meet") (SpMeet P w C) [] E te (tCons te2 tNil) σ H Q := by
  refine k_meth (vs := [.ref a2]) h1 n.ha (nbf_no (by decide +kernel)) (ea_cons h2 ea_nilV) fun H1 s1 => ⟨a, dx, p, t, pen, toA (tab W M), toB B, a2, dx2, p2, t2, pen2, toA (tab W M2), toB B2, rfl, s1 _ _ n.ha, s1 _ _ n.hp, s1 _ _ n.ht, s1 _ _ n2.ha, s1 _ _ n2.hp, s1 _ _ n2.ht, n.ne, hn, n2.fit.th, n2.fit.thB, ?_, ?_, fun H2 b2 hp2 ht2 => ?_⟩
  · have h1 := lenT (W := W) n.fM
    have h2 := lenT (W := W) n2.fM
    have : sizeLine ≥ 2000 := by decide
    omega
  · have h1 := lenTB n.fB
    have h2 := lenTB n2.fB
    have : sizeLine ≥ 2000 := by decide
    omega
  · rw [mergeT_A] at hp2
    rw [mergeT_B] at ht2
    have b02 : But [p, t] H H2 := But.trans (But.of s1) b2
    exact k H2 b02 ⟨b02 _ _ (by simp [ne_of n.ha n.hp (fun z => by cases z), ne_of n.ha n.ht (fun z => by cases z)]) n.ha, hp2, ht2, n.ne, n.fM.mrg n2.fM, n.fB.mrg n2.fB, fun m hm => (mem_mrg.mp hm).elim (n.hw m) (n2.hw m)⟩
theorem kn_copy {wr : Int} (h1 : EvR (te σ) H (Is (.ref a))) (h2 : EvR (te2 σ) H (Is (.int wr))) (n : NM C W H a dx p t pen M B) (h0 : 0 ≤ wr) (h8 : wr ≤ 8)
    (k : ∀ H' y dy p' t', Same H H' → NM C W H' y dy p' t' wr M B → H p' = none → H t' = none → Q (.ref y) H') : tMeth C (Str.ofString "copy") (SpCopy P w C) [] E te (tCons te2 tNil) σ H Q := by
  refine k_meth (vs := [.int wr]) h1 n.ha (nbf_no (by decide +kernel)) (ea_cons h2 ea_nilV) fun H1 s1 => ?_
  have sz : sizeLine ≥ 2000 := by decide
  have la := lenT (W := W) n.fM
  have lb := lenTB n.fB
  refine ⟨a, dx, p, t, pen, toA (tab W M), toB B, wr, rfl, h0, h8, s1 _ _ n.ha, s1 _ _ n.hp, s1 _ _ n.ht, n.fit.th, n.fit.thB, by omega, by omega, fun H2 y dy p' t' s2 hy hp ht p0 t0 npt => ?_⟩
  have e1A : mergeT [] (toA (tab W M)) = toA (tab W M) := by
    have := mergeT_A W [] M
    rw [mrg_nil n.fM.nd] at this
    exact this
  have e1B : mergeT [] (toB B) = toB B := by
    have := mergeT_B [] B
    rw [mrg_nil n.fB.nd] at this
    exact this
  rw [e1A] at hp
  rw [e1B] at ht
  exact k H2 y dy p' t' (s1.trans s2) ⟨hy, hp, ht, npt, n.fM, n.fB, n.hw⟩ ((Fx.of s1).fresh p0) ((Fx.of s1).fresh t0)
theorem kb_met (h1 : EvR (te σ) H (Is (.ref b))) (h2 : EvR (te2 σ) H (Is (.ref b2))) (n : BM W H b q r pen M B) (n2 : BM W H b2 q2 r2 pen2 M2 B2) (f1 : Fit (tab W M) B) (f2 : Fit (tab W M2) B2)
    (k : ∀ H' b' q' r', Same H H' → BM W H' b' q' r' pen (mrg M M2) (mrg B B2) → H q' = none → H r' = none → q' ≠ r' → H b' = none → Q (.ref b') H') : tCall SpMet [] E (tCons te (tCons te2 tNil)) σ H Q := by
  refine k_call (vs := [.ref b, .ref b2]) (ea_cons h1 (ea_cons h2 ea_nilV)) fun H1 s1 => ⟨b, q, r, pen, tab W M, B, b2, q2, r2, pen2, tab W M2, B2, rfl, n.bk.fx (Fx.of s1), n2.bk.fx (Fx.of s1), f1, f2, fun H2 b' q' r' s2 hb hq hr q0 r0 nqr b0 => ?_⟩
  rw [mergeT_A] at hq
  rw [mergeT_B] at hr
  exact k H2 b' q' r' (s1.trans s2) ⟨hb, hq, hr⟩ ((Fx.of s1).fresh q0) ((Fx.of s1).fresh r0) nqr ((Fx.of s1).fresh b0)
end
/-! ### copied -/
def SpCopied : Sp := fun vs H Q _ => ∃ (b q r : Addr) (pen pen2 : Int) (W : PI2 → Str) (M B : List PI2), vs = [.ref b, .int pen2] ∧ BM W H b q r pen M B ∧ Fit (tab W M) B ∧ M.Nodup ∧ B.Nodup ∧
  ∀ H' b' q' r', Same H H' → BM W H' b' q' r' pen2 M B → H q' = none → H r' = none → q' ≠ r' → H b' = none → Q (.ref b') H'
theorem ok_copied {f : Addr} {fd : FuncData} (F : Fun K "_law_copied" "_law_copied" s_law_copied f fd) (T : Txt K mg C aO t8) (c__law_met : Cal P w K mg base "_law_met" 1 p_law_met SpMet) : FnOk P w K mg base CX0 2 f fd p_law_copied SpCopied := by
  refine F.ok sc_law_copied (fun vs H Q E h => ?_) (fun cdv A outer s H vs Q E hr h => ?_)
  · obtain ⟨b, q, r, pen, pen2, W, M, B, rfl, _⟩ := h
    rfl
  · obtain ⟨b, q, r, pen, pen2, W, M, B, rfl, n, ft, nM, nB, k⟩ := h
    have hu := hr.units
    have hu1 := hu_of hr
    refine ⟨_, (pss_one (ps_ret (pe_op (k_addU (K' := K) rfl) (pe_lst (pa_cons (pv 1) pa_nil)) (pe_slice (k_sl (K' := K) rfl) (pe_call c__law_met.ok (hr.mono (by first | decide | omega)) (by rfl) c__law_met.at_ c__law_met.kp c__law_met.b .nil pass0 (pa_cons (pv 0) (pa_cons (pv 0) pa_nil))) (po_some pe_int) po_none)))), ?_⟩
    refine rs_retK (k_opK ?_)
    refine (ev_lst (vs := [.int pen2]) (ea_cons (ev_var rfl) ea_nilV) (by show 1 ≤ sizeLine; decide)).run fun v1 H1 s1 hv => ?_
    obtain ⟨l1, rfl, _, hl1⟩ := hv
    have n1 := n.same s1
    refine kb_met (ev_var rfl) (ev_var rfl) n1 n1 ft ft fun H2 b' q' r' s2 n2 q0 r0 nqr b0 => ?_
    rw [mrg_self, mrg_self] at n2
    refine ⟨1, rfl, .inl ⟨b', _, rfl, SqL.of n2.hb, fun o ho => ?_⟩⟩
    have ho2 : (upd H2 o (.lst (cutV [.int pen, .ref q', .ref r'] (some 1) none))) o = some (.lst [.ref q', .ref r']) := by
      rw [upd_same]
      rfl
    have s3 : Same H2 (upd H2 o (.lst (cutV [.int pen, .ref q', .ref r'] (some 1) none))) := same_new ho
    refine (rv_catL (s3 _ _ (s2 _ _ hl1)) ho2 (by show 1 + 2 ≤ sizeLine; decide)).run fun v4 H4 s4 hv => ?_
    obtain ⟨c, rfl, c0, hc⟩ := hv
    have s24 := s3.trans s4
    exact k H4 c q' r' ((s1.trans s2).trans s24) ⟨hc, s24 _ _ n2.hq, s24 _ _ n2.hr⟩ ((Fx.of s1).fresh q0) ((Fx.of s1).fresh r0) nqr ((Fx.of ((s1.trans s2).trans s3)).fresh c0)
end N88
/-! all met, in any order -/
namespace N88
open PySem L2 PySem.Spec
variable {P : Program} {w : World} {K : PySem.W.Frag} {mg : Str → Option Value} {base : Heap} {C aO : Addr} {t8 : Tok} {Tt : List (Addr × Str)}
theorem ev_met {σ : L2.St} {H : Hp} {E : XK} {te te2 : TE} {W : PI2 → Str} {b q r b2 q2 r2 : Addr} {pen pen2 : Int} {M B M2 B2 : List PI2} (h1 : EvR (te σ) H (Is (.ref b))) (h2 : EvR (te2 σ) H (Is (.ref b2))) (n : BM W H b q r pen M B) (n2 : BM W H b2 q2 r2 pen2 M2 B2) (f1 : Fit (tab W M) B) (f2 : Fit (tab W M2) B2) :
    EvR (tCall SpMet [] E (tCons te (tCons te2 tNil)) σ) H fun v H2 => ∃ b' q' r', v = .ref b' ∧ BM W H2 b' q' r' pen (mrg M M2) (mrg B B2) := fun H1 g Q k => by
  refine k_call (vs := [.ref b, .ref b2]) (ea_cons (h1.mono g) (ea_cons (h2.mono g) ea_nilV)) fun H2 s2 => ⟨b, q, r, pen, tab W M, B, b2, q2, r2, pen2, tab W M2, B2, rfl, n.bk.fx (g.same s2), n2.bk.fx (g.same s2), f1, f2, fun H3 b' q' r' s3 hb hq hr q0 r0 nqr b0 => ?_⟩
  rw [mergeT_A] at hq
  rw [mergeT_B] at hr
  exact k (.ref b') H3 (s2.trans s3) ⟨b', q', r', rfl, hb, hq, hr⟩
theorem But.freshT {S X : List Addr} {H H1 H2 : Hp} (a : But S H H1) (b : But X H1 H2) (h : ∀ x ∈ X, H x = none) : But S H H2 := fun x o n e => b x o (fun c => by rw [h x c] at e; cases e) (a x o n e)
theorem rs_asgE {σ : L2.St} {H : Hp} {te : TE} {D : Ends} {i : Nat} (h : te σ H fun v H' => D.nx (σ.set i (some v)) H') : tAsg te (gName i) D σ H := h
theorem k_lst1 {σ : L2.St} {H : Hp} {te : TE} {Q : VK} (h : te σ H fun v H1 => [v].length ≤ sizeLine ∧ ∀ a, H1 a = none → Q (.ref a) (upd H1 a (.lst [v]))) : tLst (tCons te tNil) σ H Q := h
def SpAllMet (Tt : List (Addr × Str)) (C : Addr) : Sp := fun vs H Q _ => ∃ (hd ca lb ns bs : Addr) (zs : List Str) (W : PI2 → Str) (S : List Ent) (k wr : Int), vs = [.ref hd, .ref ns, .ref bs, .int wr] ∧ Wd Tt C H hd ca lb ns bs zs W S ∧ Good W S k ∧ 0 < S.length ∧ S.length ≤ 9 ∧ 0 ≤ wr ∧ wr ≤ 8 ∧
  ∀ H' o a dx p t b q r M B, But [hd] H H' → HandAt H' hd ca → H' o = some (.tup [.ref a, .ref b]) → NM C W H' a dx p t wr M B → BM W H' b q r wr M B → H p = none → H t = none → (∀ x, x ∈ M ↔ ∃ e ∈ S, x ∈ e.M) → (∀ x, x ∈ B ↔ ∃ e ∈ S, x ∈ e.B) → Q (.ref o) H'
theorem ok_all_met {f : Addr} {fd : FuncData} (F : Fun K "_law_all_met" "_law_all_met" s_law_all_met f fd) (T : Txt K mg C aO t8) (c__law_draw : Cal P w K mg base "_law_draw" 1 p_law_draw SpDraw) (c__law_mixed : Cal P w K mg base "_law_mixed" 2 p_law_mixed SpMixed)
    (c_Notebook___init__ : MMk P w K mg base C 4 p_Notebookd__initd_ (SpInit C)) (c__law_book : Cal P w K mg base "_law_book" 1 p_law_book SpBook) (c_Notebook_copy : MCal P w K mg base C "copy" 6 p_Notebook_copy (SpCopy P w C)) (c__law_copied : Cal P w K mg base "_law_copied" 2 p_law_copied SpCopied)
    (c_Notebook_meet : MCal P w K mg base C "meet" 2 p_Notebook_meet (SpMeet P w C)) (c__law_met : Cal P w K mg base "_law_met" 1 p_law_met SpMet) : FnOk P w K mg base CX0 7 f fd p_law_all_met (SpAllMet Tt C) := by
  refine F.ok sc_law_all_met (fun vs H Q E h => ?_) (fun cdv A outer s H vs Q E hr h => ?_)
  · obtain ⟨hd, ca, lb, ns, bs, zs, W, S, k, wr, rfl, _⟩ := h
    rfl
  · obtain ⟨hd, ca, lb, ns, bs, zs, W, S, k, wr, rfl, wd, gd, hS0, hS9, hw0, hw8, fin⟩ := h
    have hu := hr.units
    have hu1 := hu_of hr
    have hrm : Room 5 (A.deeper (PyProof.Rows.envOfC "_law_all_met" (defScope s_law_all_met) s.heap.objs.size f cdv)) := hr.mono (by decide)
    refine ⟨_, (pss_cons (ps_par (i := 4) (j := 5) rfl sc_law_all_met.nd rfl rfl (by decide) rfl rfl (pa_cons (pe_make c_Notebook___init__.mkd c_Notebook___init__.ok hrm (by rfl) T.mg_Notebook c_Notebook___init__.b .nil pass0 (pa_cons (pv 3) pa_nil)) (pa_cons (pe_call c__law_book.ok (hr.mono (by first | decide | omega)) (by rfl) c__law_book.at_ c__law_book.kp c__law_book.b .nil pass0 (pa_cons (pv 3) pa_nil)) pa_nil)) (by rfl))
      (pss_cons (ps_for PassesOwn.never rfl (k_piAny (K' := K) rfl (pe_call c__law_mixed.ok (hr.mono (by first | decide | omega)) (by rfl) c__law_mixed.at_ c__law_mixed.kp c__law_mixed.b .nil pass0 (pa_cons (pv 0) (pa_cons (pe_op (k_addU (K' := K) rfl) (pe_listRg rfl (by rfl) T.b_list (prg_1 (by rfl) T.b_range (pe_callB (k_len (K' := K) rfl) (by rfl) T.b_len (by decide +kernel) (pa_cons (pv 2) pa_nil)))) (pe_lst (pa_cons (pe_call c__law_draw.ok (hr.mono (by first | decide | omega)) (by rfl) c__law_draw.at_ c__law_draw.kp c__law_draw.b .nil pass0 (pa_cons (pv 0) (pa_cons (pe_callB (k_len (K' := K) rfl) (by rfl) T.b_len (by decide +kernel) (pa_cons (pv 2) pa_nil)) pa_nil))) pa_nil))) pa_nil)))) (pg_name (i := 6) sc_law_all_met.nd rfl (.inl rfl))
      (pss_one (ps_if (pt_cmpR (k_eqD (K' := K) rfl hu) (pe_call c__law_draw.ok (hr.mono (by first | decide | omega)) (by rfl) c__law_draw.at_ c__law_draw.kp c__law_draw.b .nil pass0 (pa_cons (pv 0) (pa_cons pe_int pa_nil))) pe_int (nomark _)) (pss_cons (ps_set (i := 7) sc_law_all_met.nd rfl (.inl rfl) (pe_meth (pe_ix (k_ix (K' := K) rfl) (pv 1) (pv 6) (fun _ _ => rfl)) T.cl c_Notebook_copy.m c_Notebook_copy.ok (hr.mono (by first | decide | omega)) c_Notebook_copy.b .nil pass0 (pa_cons (pv 3) pa_nil)))
      (pss_cons (ps_set (i := 8) sc_law_all_met.nd rfl (.inl rfl) (pe_call c__law_copied.ok (hr.mono (by first | decide | omega)) (by rfl) c__law_copied.at_ c__law_copied.kp c__law_copied.b .nil pass0 (pa_cons (pe_ix (k_ix (K' := K) rfl) (pv 2) (pv 6) (fun _ _ => rfl)) (pa_cons (pv 3) pa_nil))))
      (pss_cons (ps_expr (pe_meth (pv 7) T.cl c_Notebook_meet.m c_Notebook_meet.ok (hr.mono (by first | decide | omega)) c_Notebook_meet.b .nil pass0 (pa_cons (pv 4) pa_nil)))
      (pss_cons (ps_expr (pe_meth (pv 4) T.cl c_Notebook_meet.m c_Notebook_meet.ok (hr.mono (by first | decide | omega)) c_Notebook_meet.b .nil pass0 (pa_cons (pv 7) pa_nil)))
      (pss_one (ps_set (i := 5) sc_law_all_met.nd rfl (.inl rfl) (pe_call c__law_met.ok (hr.mono (by first | decide | omega)) (by rfl) c__law_met.at_ c__law_met.kp c__law_met.b .nil pass0 (pa_cons (pv 5) (pa_cons (pe_call c__law_met.ok (hr.mono (by first | decide | omega)) (by rfl) c__law_met.at_ c__law_met.kp c__law_met.b .nil pass0 (pa_cons (pv 8) (pa_cons (pv 5) pa_nil))) pa_nil))))))))) (pss_cons (ps_expr (pe_meth (pv 4) T.cl c_Notebook_meet.m c_Notebook_meet.ok (hr.mono (by first | decide | omega)) c_Notebook_meet.b .nil pass0 (pa_cons (pe_ix (k_ix (K' := K) rfl) (pv 1) (pv 6) (fun _ _ => rfl)) pa_nil)))
      (pss_one (ps_set (i := 5) sc_law_all_met.nd rfl (.inl rfl) (pe_call c__law_met.ok (hr.mono (by first | decide | omega)) (by rfl) c__law_met.at_ c__law_met.kp c__law_met.b .nil pass0 (pa_cons (pv 5) (pa_cons (pe_ix (k_ix (K' := K) rfl) (pv 2) (pv 6) (fun _ _ => rfl)) pa_nil)))))))))
      (pss_one (ps_ret (pe_tup (pa_cons (pv 4) (pa_cons (pv 5) pa_nil))))))), ?_⟩
    obtain ⟨⟨oh, hoh⟩, oc, hoc⟩ := wd.hand.some
    refine rs_parK (kn_make (W := W) (ev_var rfl) hw0 hw8 fun H1 a dx p t s1 n1 p0 t0 => k_call (vs := [.int wr]) (ea_cons (ev_var rfl) ea_nilV) fun H2 s2 => ⟨wr, rfl, fun H3 b q r s3 hb hq hr q0 r0 nqr b0 => ⟨_, _, rfl, ?_⟩⟩)
    have s23 := s2.trans s3
    have n3 := n1.same s23
    have n2 := n1.same s2
    have m3 : BM W H3 b q r wr [] [] := ⟨hb, hq, hr⟩
    have s03 : Same H H3 := s1.trans s23
    have w3 := wd.same s03
    have dis3 : q ≠ p ∧ q ≠ t ∧ r ≠ p ∧ r ≠ t := ⟨(ne_of_none n2.hp q0).symm, (ne_of_none n2.ht q0).symm, (ne_of_none n2.hp r0).symm, (ne_of_none n2.ht r0).symm⟩
    have bn3 : H b = none := (Fx.of (s1.trans s2)).fresh b0
    have lenB : ∀ {H' : Hp} {σ : L2.St} {te : TE}, H' bs = some (.lst (S.map fun e => V.ref e.b)) → EvR (te σ) H' (Is (.ref bs)) → EvR (tCB (rLenU K) (tCons te tNil) σ) H' (Is (.int (S.length : Nat))) := fun h1 h2 => ev_is (ev_lenL h2 (SqL.of h1)) (by rw [List.length_map])
    refine rs_forLS ?_
    refine k_call2K ?_
    refine EvR.run (P := Is (.ref hd)) (ev_var rfl) fun v1 H4 s4 e4 => ?_
    cases e4
    have w4 := w3.same s4
    refine k_opK ?_
    refine EvR.run (P := New H4 (.lst ((nine S.length).map V.int))) (ev_rg (lenB w4.bsl (ev_var rfl)) (by omega)) fun v5 H5 s5 h5 => ?_
    obtain ⟨l1, rfl, l10, hl1⟩ := h5
    have w5 := w4.same s5
    obtain ⟨⟨oh4, hoh4⟩, _⟩ := w4.hand.some
    have nl1h : l1 ≠ hd := (ne_of_none hoh4 l10).symm
    refine k_lst1 (k_draw (ev_var rfl) (lenB w5.bsl (ev_var rfl)) (by omega) (by omega) w5.hand fun d H6 d0 d1 b6 h6 => ⟨by show 1 ≤ sizeLine; decide, fun l2 l20 => ?_⟩)
    obtain ⟨dj, rfl⟩ := Int.eq_ofNat_of_zero_le d0
    have s67 : Same H6 (upd H6 l2 (.lst [.int (dj : Int)])) := same_new l20
    have hl16 := b6 _ _ (by simp [nl1h]) hl1
    refine (rv_catL (s67 _ _ hl16) upd_same (by rw [List.length_map]; simp [nine]; have : sizeLine ≥ 2000 := by decide
                                                omega)).run fun v7 H7 s7 hv => ?_
    obtain ⟨l3, rfl, l30, hl3⟩ := hv
    have h7 := (h6.same s67).same s7
    have b07 : But [hd] H H7 := But.trans (But.of ((s03.trans s4).trans s5)) (But.trans b6 (But.of (s67.trans s7)))
    have b37 : But [hd] H3 H7 := But.trans (But.of (s4.trans s5)) (But.trans b6 (But.of (s67.trans s7)))
    obtain ⟨⟨oh67, hoh67⟩, _⟩ := (h6.same s67).some
    refine ⟨hd, ca, l3, _, rfl, (ne_of_none hoh67 l30).symm, hl3, by simp [nine]; omega, h7, fun lq ys H8 hp hlq lq0 b8 h8 => ⟨lq, rfl, ⟨_, SqL.of hlq⟩, ?_⟩⟩
    have hp' : ys.Perm ((nine S.length ++ [(dj : Int)]).map V.int) := by rw [List.map_append]; exact hp
    obtain ⟨os, rfl, hos⟩ := perm_ints hp'
    have osj : ∀ x ∈ os, ∃ j : Nat, j < S.length ∧ x = (j : Int) := fun x hx => by
      rcases List.mem_append.mp (hos.mem_iff.mp hx) with c | c
      · exact mem_nine c
      · rw [List.mem_singleton] at c
        exact ⟨dj, by omega, c⟩
    obtain ⟨⟨oh7, hoh7⟩, _⟩ := h7.some
    have nqh : lq ≠ hd := (ne_of_none hoh7 lq0).symm
    have b08 : But [hd] H H8 := But.trans b07 b8
    have b38 : But [hd] H3 H8 := But.trans b37 b8
    have offh : ∀ {H' : Hp} {x : Addr} {o : HO}, H' x = some o → HandAt H' hd ca → (∀ xs, o ≠ .lst xs) → x ≠ hd := fun {H' x o} hx hh ho => by
      obtain ⟨xs, i, n, z, c, g1, _, _⟩ := hh
      exact ne_of hx g1 (ho _)
    have nbh : b ≠ hd := (ne_of_none hoh bn3).symm
    have nah : a ≠ hd := offh n3.ha w3.hand (fun _ z => by cases z)
    have nph : p ≠ hd := offh n3.hp w3.hand (fun _ z => by cases z)
    have nth : t ≠ hd := offh n3.ht w3.hand (fun _ z => by cases z)
    have nqqh : q ≠ hd := offh m3.hq w3.hand (fun _ z => by cases z)
    have nrrh : r ≠ hd := offh m3.hr w3.hand (fun _ z => by cases z)
    refine forK_list (fun n σ H' => But [hd] H H' ∧ HandAt H' hd ca ∧ H' lq = some (.lst (os.map V.int)) ∧ ∃ b q r M B u6 u7 u8, σ = [some (.ref hd), some (.ref ns), some (.ref bs), some (.int wr), some (.ref a), some (.ref b), u6, u7, u8] ∧ NM C W H' a dx p t wr M B ∧ BM W H' b q r wr M B ∧ (q ≠ p ∧ q ≠ t ∧ r ≠ p ∧ r ≠ t) ∧ H b = none ∧
        (∀ x ∈ M, ∃ e ∈ S, x ∈ e.M) ∧ (∀ x ∈ B, ∃ e ∈ S, x ∈ e.B) ∧ ∀ j : Nat, (j : Int) ∈ os.take n → ∀ e, S[j]? = some e → (∀ m ∈ e.M, m ∈ M) ∧ ∀ m ∈ e.B, m ∈ B)
      ⟨b08, h8, hlq, b, q, r, [], [], _, _, _, rfl, n3.but b38 (by simp [nah]) (by simp [nph]) (by simp [nth]), m3.but b38 (by simp [nbh]) (by simp [nqqh]) (by simp [nrrh]), dis3, bn3, (fun _ h => by cases h), (fun _ h => by cases h), fun j hj => by simp at hj⟩
      (fun _ _ _ p => p.2.2.1) (fun n x σ H9 hx pv => ?_) fun σ H9 pv => ?_
    · obtain ⟨b9, h9, hlq9, b, q, r, M, B, u6, u7, u8, rfl, n9, m9, ⟨dqp, dqt, drp, drt⟩, bn, sM, sB, cov⟩ := pv
      rw [List.getElem?_map] at hx
      obtain ⟨j0, hj0, rfl⟩ := Option.map_eq_some_iff.mp hx
      obtain ⟨j, hj, rfl⟩ := osj j0 (List.mem_of_getElem? hj0)
      obtain ⟨e, he⟩ : ∃ e, S[j]? = some e := ⟨_, List.getElem?_eq_getElem hj⟩
      have hem := mem_at he
      refine rs_if2K (k_opK (k_draw (ev_var rfl) ev_c (by decide) (by decide) h9 fun dd H10 _ _ b10 h10 => k_tC ?_))
      refine (rv_eqD (.int _) (.int _) shaped_int shaped_int).run fun v11 H11 s11 e11 => ?_
      cases e11
      refine ⟨_, rfl, ?_⟩
      have b911 : But [hd] H9 H11 := b10.same s11
      have b011 : But [hd] H H11 := But.trans b9 b911
      have h11 := h10.same s11
      have w11 := wd.drawn b011 h11
      have n11 := n9.but b911 (by simp [offh n9.ha h9 (fun _ z => by cases z)]) (by simp [offh n9.hp h9 (fun _ z => by cases z)]) (by simp [offh n9.ht h9 (fun _ z => by cases z)])
      have nbh2 : b ≠ hd := (ne_of_none hoh bn).symm
      have m11 := m9.but b911 (by simp [nbh2]) (by simp [offh m9.hq h9 (fun _ z => by cases z)]) (by simp [offh m9.hr h9 (fun _ z => by cases z)])
      have hlq11 := b911 _ _ (by simp [nqh]) hlq9
      have en := (w11.ents e hem)
      have enm := en.nm (w11.d1 e hem) (gd.fit e hem).1 (gd.fit e hem).2 (gd.wd e hem)
      have ebm := en.bm
      have fM := n11.fM
      have fB := n11.fB
      have fe := gd.fit e hem
      have fitA := n11.fit
      have fitE := gd.fitE hem
      have old : ∀ {x : Addr} {o : HO}, H x = some o → x ≠ hd → H11 x = some o := fun hx n => b011 _ _ (by simp [n]) hx
      have neP : ∀ x ∈ dicts e, x ≠ p ∧ x ≠ t := fun x hx => by
        obtain ⟨kvs, hk⟩ := (wd.ents e hem).dict hx
        exact ⟨ne_of_none hk p0, ne_of_none hk t0⟩
      have subM : ∀ N : List PI2, (∀ x ∈ N, x ∈ e.M ∨ x ∈ M) → ∀ x ∈ N, ∃ e ∈ S, x ∈ e.M := fun N hN x hx => (hN x hx).elim (fun c => ⟨e, hem, c⟩) (sM x)
      have subB : ∀ N : List PI2, (∀ x ∈ N, x ∈ e.B ∨ x ∈ B) → ∀ x ∈ N, ∃ e ∈ S, x ∈ e.B := fun N hN x hx => (hN x hx).elim (fun c => ⟨e, hem, c⟩) (sB x)
      have cov2 : ∀ (N D : List PI2), (∀ x, x ∈ e.M ∨ x ∈ M → x ∈ N) → (∀ x, x ∈ e.B ∨ x ∈ B → x ∈ D) → ∀ i : Nat, (i : Int) ∈ os.take (n + 1) → ∀ x, S[i]? = some x → (∀ m ∈ x.M, m ∈ N) ∧ ∀ m ∈ x.B, m ∈ D := fun N D hN hD i hi x hx => by
        rw [List.take_add_one, hj0] at hi
        rcases List.mem_append.mp hi with c | c
        · obtain ⟨g1, g2⟩ := cov i c x hx
          exact ⟨fun m hm => hN m (.inr (g1 m hm)), fun m hm => hD m (.inr (g2 m hm))⟩
        · have : (i : Int) = (j : Int) := by simpa using c
          rw [show i = j by omega, he] at hx
          cases hx
          exact ⟨fun m hm => hN m (.inl hm), fun m hm => hD m (.inl hm)⟩
      by_cases hdd : dd = 0
      · rw [eqv_int, decide_eq_true hdd, if_pos rfl]
        refine rs_asgK (kn_copy (wr := wr) (ev_at (ev_var rfl) (ev_var rfl) w11.nsl (by rw [List.getElem?_map, he]; rfl)) (ev_var rfl) enm hw0 hw8 fun H12 y dy p2 t2 s12 n12 p20 t20 => ?_)
        have w12 := w11.same s12
        refine rs_asgK (k_call (vs := [.ref e.b, .int wr]) (ea_cons (ev_at (ev_var rfl) (ev_var rfl) w12.bsl (by rw [List.getElem?_map, he]; rfl)) (ea_cons (ev_var rfl) ea_nilV)) fun H13 s13 => ⟨e.b, e.q, e.r, e.pen, wr, W, e.M, e.B, rfl, (ebm.same s12).same s13, fitE, fe.1.nd, fe.2.nd, fun H14 fb fq fr s14 f14 fq0 fr0 nfqr fb0 => ?_⟩)
        have s1114 := (s12.trans s13).trans s14
        have nA := n11.same s1114
        have pA := n12.same (s13.trans s14)
        have mA := m11.same s1114
        have x1 : p ≠ p2 := ne_of_none n11.hp p20
        have x2 : p ≠ t2 := ne_of_none n11.hp t20
        have x3 : t ≠ p2 := ne_of_none n11.ht p20
        have x4 : t ≠ t2 := ne_of_none n11.ht t20
        refine rs_dropK (kn_meet (ev_var rfl) (ev_var rfl) pA nA (Ne.symm x3) fun H15 b15 p15 => ?_)
        have dA : ∀ {x : Addr} {o : HO}, H14 x = some o → (∀ kvs, o ≠ .dT kvs) → x ∉ [p2, t2] := fun hx ho => by simp [ne_of hx pA.hp (ho _), ne_of hx pA.ht (ho _)]
        have n15 := nA.but b15 (dA nA.ha (fun _ z => by cases z)) (by simp [x1, x2]) (by simp [x3, x4])
        have y1 : ∀ {x : Addr} {o : HO}, H11 x = some o → x ∉ [p2, t2] := fun hx => by simp [ne_of_none hx p20, ne_of_none hx t20]
        have m15 := mA.but b15 (y1 m11.hb) (y1 m11.hq) (y1 m11.hr)
        have f15 := f14.but b15 (dA f14.hb (fun _ z => by cases z)) (by simp [(ne_of_none (s13 _ _ n12.hp) fq0).symm, (ne_of_none (s13 _ _ n12.ht) fq0).symm]) (by simp [(ne_of_none (s13 _ _ n12.hp) fr0).symm, (ne_of_none (s13 _ _ n12.ht) fr0).symm])
        refine rs_dropK (kn_meet (ev_var rfl) (ev_var rfl) n15 p15 x2 fun H16 b16 n16 => ?_)
        have dB : ∀ {x : Addr} {o : HO}, H15 x = some o → (∀ kvs, o ≠ .dT kvs) → x ∉ [p, t] := fun hx ho => by simp [ne_of hx n15.hp (ho _), ne_of hx n15.ht (ho _)]
        have m16 := m15.but b16 (dB m15.hb (fun _ z => by cases z)) (by simp [dqp, dqt]) (by simp [drp, drt])
        have s1113 := s12.trans s13
        have f16 := f15.but b16 (dB f15.hb (fun _ z => by cases z)) (by simp [(ne_of_none (s1113 _ _ n11.hp) fq0).symm, (ne_of_none (s1113 _ _ n11.ht) fq0).symm]) (by simp [(ne_of_none (s1113 _ _ n11.hp) fr0).symm, (ne_of_none (s1113 _ _ n11.ht) fr0).symm])
        have fitP := p15.fit
        refine rs_asgE (k_call2P (P1 := Is (.ref b)) (P2 := fun _ _ => fun v H18 => ∃ b' q' r', v = .ref b' ∧ BM W H18 b' q' r' wr (mrg e.M M) (mrg e.B B)) (ev_var rfl) (fun v1 H17 s17 _ => ev_met (ev_var rfl) (ev_var rfl) (f16.same s17) (m16.same s17) fitE fitA) fun v1 v2 H17 H18 s17 e17 s18 h18 => ?_)
        cases e17
        obtain ⟨b', q', r', rfl, i18⟩ := h18
        have m18 := (m16.same s17).same s18
        refine ⟨b, q, r, wr, tab W M, B, b', q', r', wr, tab W (mrg e.M M), mrg e.B B, rfl, m18.bk, i18.bk, fitA, fitP, fun H19 b3 q3 r3 s19 hb3 hq3 hr3 q30 r30 nqr3 b30 => ?_⟩
        rw [mergeT_A] at hq3
        rw [mergeT_B] at hr3
        have s1619 := (s17.trans s18).trans s19
        have n19 := n16.same s1619
        have q3n := (Fx.of (s17.trans s18)).fresh q30
        have r3n := (Fx.of (s17.trans s18)).fresh r30
        have b3n := (Fx.of (s17.trans s18)).fresh b30
        have hdn : ∀ x o, H11 x = some o → H14 x = some o := fun x o h => s1114 _ _ h
        have p2n : H p2 = none := b011.noneOf p20 (by simp; exact fun z => by rw [z] at p20; obtain ⟨⟨o, ho⟩, _⟩ := h11.some; rw [ho] at p20; cases p20)
        have t2n : H t2 = none := b011.noneOf t20 (by simp; exact fun z => by rw [z] at t20; obtain ⟨⟨o, ho⟩, _⟩ := h11.some; rw [ho] at t20; cases t20)
        have two : ∀ x ∈ [p2, t2], H x = none := fun x hx => by
          simp only [List.mem_cons, List.mem_nil_iff, or_false] at hx
          rcases hx with rfl | rfl
          · exact p2n
          · exact t2n
        have two' : ∀ x ∈ [p, t], H x = none := fun x hx => by
          simp only [List.mem_cons, List.mem_nil_iff, or_false] at hx
          rcases hx with rfl | rfl
          · exact p0
          · exact t0
        have b016 : But [hd] H H16 := (((b011.same s1114).freshT b15 two).freshT b16 two')
        have b1116 : But [p2, t2, p, t] H11 H16 := But.trans (But.trans (But.of s1114) (b15.mono (by simp))) (b16.mono (by simp))
        have hcl : ∀ {x : Addr} {o : HO}, H11 x = some o → (∀ kvs, o ≠ .dT kvs) → x ∉ [p2, t2, p, t] := fun hx ho => by simp [ne_of_none hx p20, ne_of_none hx t20, ne_of hx n11.hp (ho _), ne_of hx n11.ht (ho _)]
        have hh16 : HandAt H16 hd ca := by
          obtain ⟨xs, i, nn, z, c, g1, g2, _⟩ := id h11
          exact h11.but b1116 (hcl g1 (fun _ z => by cases z)) (hcl g2 (fun _ z => by cases z))
        have b3H : H b3 = none := b016.noneOf b3n (by simp; exact fun z => by rw [z] at b3n; obtain ⟨⟨o, ho⟩, _⟩ := hh16.some; rw [ho] at b3n; cases b3n)
        refine ⟨b016.same s1619, hh16.same s1619, s1619 _ _ (b1116 _ _ (hcl hlq11 (fun _ z => by cases z)) hlq11), b3, q3, r3, _, _, _, _, _, rfl, n19, ⟨hb3, hq3, hr3⟩, ⟨(ne_of_none n16.hp q3n).symm, (ne_of_none n16.ht q3n).symm, (ne_of_none n16.hp r3n).symm, (ne_of_none n16.ht r3n).symm⟩, b3H, subM _ (fun x hx => ?_), subB _ (fun x hx => ?_), cov2 _ _ (fun x hx => ?_) fun x hx => ?_⟩
        · exact (mem_mrg.mp hx).elim .inr fun c => (mem_mrg.mp c)
        · exact (mem_mrg.mp hx).elim .inr fun c => (mem_mrg.mp c)
        · exact mem_mrg.mpr (.inr (mem_mrg.mpr hx))
        · exact mem_mrg.mpr (.inr (mem_mrg.mpr hx))
      · rw [eqv_int, decide_eq_false hdd, if_neg (by decide)]
        refine rs_dropK (kn_meet (ev_var rfl) (ev_at (ev_var rfl) (ev_var rfl) w11.nsl (by rw [List.getElem?_map, he]; rfl)) n11 enm (Ne.symm (neP e.t (by simp [dicts])).1) fun H16 b16 n16 => ?_)
        have dB : ∀ {x : Addr} {o : HO}, H11 x = some o → (∀ kvs, o ≠ .dT kvs) → x ∉ [p, t] := fun hx ho => by simp [ne_of hx n11.hp (ho _), ne_of hx n11.ht (ho _)]
        have m16 := m11.but b16 (dB m11.hb (fun _ z => by cases z)) (by simp [dqp, dqt]) (by simp [drp, drt])
        have eq1 := neP e.q (by simp [dicts])
        have er1 := neP e.r (by simp [dicts])
        have e16 := ebm.but b16 (dB ebm.hb (fun _ z => by cases z)) (by simp [eq1.1, eq1.2]) (by simp [er1.1, er1.2])
        have bs16 := b16 _ _ (dB w11.bsl (fun _ z => by cases z)) w11.bsl
        refine rs_asgE (kb_met (ev_var rfl) (ev_at (ev_var rfl) (ev_var rfl) bs16 (by rw [List.getElem?_map, he]; rfl)) m16 e16 fitA fitE fun H19 b3 q3 r3 s19 m19 q3n r3n nqr3 b3n => ?_)
        have two' : ∀ x ∈ [p, t], H x = none := fun x hx => by
          simp only [List.mem_cons, List.mem_nil_iff, or_false] at hx
          rcases hx with rfl | rfl
          · exact p0
          · exact t0
        have b016 : But [hd] H H16 := b011.freshT b16 two'
        have hh16 : HandAt H16 hd ca := by
          obtain ⟨xs, i, nn, z, c, g1, g2, _⟩ := id h11
          exact h11.but b16 (dB g1 (fun _ z => by cases z)) (dB g2 (fun _ z => by cases z))
        have b3H : H b3 = none := b016.noneOf b3n (by simp; exact fun z => by rw [z] at b3n; obtain ⟨⟨o, ho⟩, _⟩ := hh16.some; rw [ho] at b3n; cases b3n)
        refine ⟨b016.same s19, hh16.same s19, s19 _ _ (b16 _ _ (dB hlq11 (fun _ z => by cases z)) hlq11), b3, q3, r3, _, _, _, _, _, rfl, n16.same s19, m19, ⟨(ne_of_none n16.hp q3n).symm, (ne_of_none n16.ht q3n).symm, (ne_of_none n16.hp r3n).symm, (ne_of_none n16.ht r3n).symm⟩, b3H, subM _ (fun x hx => ?_), subB _ (fun x hx => ?_), cov2 _ _ (fun x hx => ?_) fun x hx => ?_⟩
        · exact (mem_mrg.mp hx).symm
        · exact (mem_mrg.mp hx).symm
        · exact mem_mrg.mpr hx.symm
        · exact mem_mrg.mpr hx.symm
    · obtain ⟨b9, h9, hlq9, b, q, r, M, B, u6, u7, u8, rfl, n9, m9, _, bn, sM, sB, cov⟩ := pv
      dsimp only
      refine rs_retL (ev_tup (vs := [.ref a, .ref b]) (ea_cons (ev_var rfl) (ea_cons (ev_var rfl) ea_nilV)) (by show 2 ≤ sizeLine; decide)) fun v10 H10 s10 hv => ?_
      obtain ⟨o, rfl, _, ho⟩ := hv
      rw [List.length_map, List.take_length] at cov
      have all : ∀ e ∈ S, (∀ m ∈ e.M, m ∈ M) ∧ ∀ m ∈ e.B, m ∈ B := fun e he => by
        obtain ⟨j, hj⟩ := List.getElem?_of_mem he
        exact cov j (hos.mem_iff.mpr (List.mem_append_left _ (List.mem_map.mpr ⟨j, List.mem_range.mpr (List.getElem?_eq_some_iff.mp hj).1, rfl⟩))) e hj
      exact fin H10 o a dx p t b q r M B (b9.same s10) (h9.same s10) ho (n9.same s10) (m9.same s10) p0 t0 (fun x => ⟨sM x, fun ⟨e, he, hx⟩ => (all e he).1 x hx⟩) (fun x => ⟨sB x, fun ⟨e, he, hx⟩ => (all e he).2 x hx⟩)
end N88
/-! orders -/
namespace N88
open PySem L2 PySem.Spec
variable {P : Program} {w : World} {K : PySem.W.Frag} {mg : Str → Option Value} {base : Heap} {C aO : Addr} {t8 : Tok} {Tt : List (Addr × Str)}
theorem rs_asgT2 {σ : L2.St} {H : Hp} {te : TE} {t2 : TS} {D : Ends} {i j : Nat} (h : te σ H fun x H1 => gTup K 2 (gCons (gName i) (gCons (gName j) gNil)) x σ H1 (t2 D)) : tSeq (tAsg te (gTup K 2 (gCons (gName i) (gCons (gName j) gNil)))) t2 D σ H := h
theorem shaped_list {n : Nat} {ds : List PyData} (h : ∀ d ∈ ds, Dn n d) (hn : n < 64) : SeqAt.shaped (.list ds) = true := by
  unfold SeqAt.shaped
  rw [PyData.canLay0, PyData.depth, lay_all fun d hd => (h d hd).lay.1, decide_eq_true (Nat.succ_le_of_lt (Nat.lt_of_le_of_lt (depth_all fun d hd => (h d hd).lay.2) hn))]
  rfl
theorem rv_neL {H : Hp} {a b : Addr} {xs ys : List V} {ds : List PyData} {n : Nat} (h1 : H a = some (.lst xs)) (h2 : H b = some (.lst ys)) (d1 : TdAll K H xs ds) (d2 : TdAll K H ys ds) (hd : ∀ d ∈ ds, Dn n d) (hn : n < 64) : EvR (rNeD K (.ref a) (.ref b)) H (Is (.bl false)) := fun H1 g Q q => by
  have sh := shaped_list hd hn
  refine ⟨.list ds, .list ds, .lst (SqL.of (g.nd h1 rfl)) (d1.tm g.tm).dp, .lst (SqL.of (g.nd h2 rfl)) (d2.tm g.tm).dp, sh, sh, ?_⟩
  rw [SeqAt.eqv_refl _ (SeqAt.canLay_of_shaped sh)]
  exact q _ H1 (fun _ _ e => e) rfl
theorem ev_know {σ : L2.St} {H : Hp} {E : XK} {W : PI2 → Str} {a dx p t a2 dx2 p2 t2 : Addr} {pen pen2 : Int} {M B M2 B2 : List PI2} {b : Bool} {te te2 : TE} (h1 : EvR (te σ) H (Is (.ref a))) (h2 : EvR (te2 σ) H (Is (.ref a2))) (n : NM C W H a dx p t pen M B) (n2 : NM C W H a2 dx2 p2 t2 pen2 M2 B2) (hb : knowsM (tab W M) B (tab W M2) B2 = b) :
    EvR (tMeth C (Str.ofString "knows") (SpOf (preKnows C)) [] E te (tCons te2 tNil) σ) H (Is (.bl b)) := by
  subst hb
  exact ev_meth (P := Is (.bl (knowsM (tab W M) B (tab W M2) B2))) (vs := [.ref a2]) h1 n.ha (nbf_no (by decide +kernel)) (ea_cons h2 ea_nilV) fun H' g => ⟨_, _, _, _, _, _, _, _, _, _, _, _, _, _, rfl, n.nb.fx g, n2.nb.fx g, n2.fit, rfl⟩
theorem ev_told {σ : L2.St} {H : Hp} {E : XK} {W : PI2 → Str} {a dx p t : Addr} {pen : Int} {M B : List PI2} {te : TE} (h1 : EvR (te σ) H (Is (.ref a))) (n : NM C W H a dx p t pen M B) : EvR (tMeth C (Str.ofString "all_told") (SpOf (preTold K C)) [] E te tNil σ) H (D K (told (tab W M) B)) :=
  ev_meth0 h1 n.ha (nbf_no (by decide +kernel)) fun H' g => ⟨_, _, _, _, _, _, _, rfl, n.nb.fx g, n.fit, rfl⟩
theorem ev_shown {σ : L2.St} {H : Hp} {E : XK} {W : PI2 → Str} {a dx p t b q r lb : Addr} {zs : List Str} {pen : Int} {M B : List PI2} {te1 te2 te3 : TE} (h1 : EvR (te1 σ) H (Is (.ref a))) (h2 : EvR (te2 σ) H (Is (.ref b))) (h3 : EvR (te3 σ) H (Is (.ref lb))) (n : NM C W H a dx p t pen M B) (m : BM W H b q r pen M B)
    (hl : H lb = some (.lst (zs.map V.str))) (h8 : zs.length ≤ 8) (hz : ∀ z ∈ zs, z ∈ labels8) : EvR (tCall (SpOf (preShown C)) [] E (tCons te1 (tCons te2 (tCons te3 tNil))) σ) H (Is (.bl true)) :=
  ev_call (P := Is (.bl true)) (vs := [.ref a, .ref b, .ref lb]) (ea_cons h1 (ea_cons h2 (ea_cons h3 ea_nilV))) fun H' g => ⟨_, _, _, _, _, _, _, _, zs, _, _, _, rfl, n.nb.fx g, m.bk.fx g, n.fit, g.nd hl rfl, by omega, hz, rfl⟩
theorem told_same {W : PI2 → Str} {M B N D : List PI2} (f1 : FitM M) (f2 : FitM B) (f3 : FitM N) (f4 : FitM D) (h1 : ∀ x, x ∈ M ↔ x ∈ N) (h2 : ∀ x, x ∈ B ↔ x ∈ D) : told (tab W M) B = told (tab W N) D := by
  rw [told_tab, told_tab, (sortP_eq f1.nd f3.nd).mpr h1, (sortP_eq f2.nd f4.nd).mpr h2]
theorem ev_neSame {σ : L2.St} {H : Hp} {te1 te2 : TE} {d : PyData} {n : Nat} (h1 : EvR (te1 σ) H (D K d)) (h2 : EvR (te2 σ) H (D K d)) (hd : Dn n d) (hn : n ≤ 64) : EvR (tOp (rNeD K) te1 te2 σ) H (Is (.bl false)) := ev_opD h1 h2 fun x y H2 f t1 t2 => ev_is (rv_neD t1 t2 (hd.shaped hn) (hd.shaped hn)) (by rw [SeqAt.eqv_refl _ hd.lay.1]; rfl)
theorem ev_eqSame {σ : L2.St} {H : Hp} {te1 te2 : TE} {d : PyData} {n : Nat} (h1 : EvR (te1 σ) H (D K d)) (h2 : EvR (te2 σ) H (D K d)) (hd : Dn n d) (hn : n ≤ 64) : EvR (tOp (rEqD K) te1 te2 σ) H (Is (.bl true)) := ev_opD h1 h2 fun x y H2 f t1 t2 => ev_is (rv_eqD t1 t2 (hd.shaped hn) (hd.shaped hn)) (by rw [SeqAt.eqv_refl _ hd.lay.1])
theorem yin_refs {H : Hp} (g : Ent → Addr) : ∀ (l : List Ent), YIn l (l.map fun e => V.ref (g e)) (fun e x _ => x = .ref (g e)) H
  | [] => .nil
  | e :: l => .cons (fun _ _ => rfl) (yin_refs g l)
/-- the told of all -/
theorem ev_tolds {σ : L2.St} {H : Hp} {E : XK} {W : PI2 → Str} {S : List Ent} {ns : Addr} {i j : Nat} {vs : List Nat} {kk : Int} (hσ : σ[i]? = some (some (.ref ns))) (hn : H ns = some (.lst (S.map fun e => V.ref e.a))) (he : ∀ e ∈ S, EntAt C H W e) (gd : Good W S kk) (h9 : S.length ≤ 9)
    (hw : ∀ x : V, wipe ((wipe σ vs).set j (some x)) vs = wipe σ vs) (hj : ∀ x : V, ((wipe σ vs).set j (some x))[j]? = some (some x)) :
    EvR (tLc (iAny K (tVar i)) (gName j) tYes (tMeth C (Str.ofString "all_told") (SpOf (preTold K C)) [] E (tVar j) tNil) vs σ) H (NewL H S fun e => D K (told (tab W e.M) e.B)) :=
  ev_lcA (it_aL (it_list (Y := fun e x _ => x = .ref e.a) (ev_var hσ) (SqL.of hn) (yin_refs (fun e => e.a) S))) (Nat.le_trans h9 (by decide)) (fun e H3 x hm f3 hx => by
    subst hx
    have e3 := (he e hm).nb.fx f3
    exact tg_name (hw _) et_yes fun _ => ev_meth0 (ev_var (hj _)) e3.ins (nbf_no (by decide +kernel)) fun H' g => ⟨_, _, _, _, _, _, _, rfl, e3.fx g, gd.fitE hm, rfl⟩) fun _ _ _ _ t h => h.tm t
def SpOrders (Tt : List (Addr × Str)) (C : Addr) : Sp := fun vs H Q _ => ∃ (hd ca lb ns bs : Addr) (zs : List Str) (W : PI2 → Str) (S : List Ent) (k : Int), vs = [.ref hd, .ref ns, .ref bs, .ref lb] ∧ Wd Tt C H hd ca lb ns bs zs W S ∧ Good W S k ∧ (∀ z ∈ zs, z ∈ labels8) ∧ 0 < zs.length ∧ zs.length ≤ 8 ∧ 0 < S.length ∧ S.length ≤ 9 ∧
  ∀ H', But [hd] H H' → HandAt H' hd ca → Q (.bl true) H'
theorem ok_orders {f : Addr} {fd : FuncData} (F : Fun K "_law_are_orders_right" "_law_are_orders_right" s_law_are_orders_right f fd) (T : Txt K mg C aO t8) (c_Notebook_all_told : MCal P w K mg base C "all_told" 1 p_Notebook_all_told (SpOf (preTold K C))) (c__law_all_met : Cal P w K mg base "_law_all_met" 7 p_law_all_met (SpAllMet Tt C))
    (c__law_is_shown : Cal P w K mg base "_law_is_shown" 6 p_law_is_shown (SpOf (preShown C))) (c_Notebook_knows : MCal P w K mg base C "knows" 2 p_Notebook_knows (SpOf (preKnows C))) (c_Notebook_meet : MCal P w K mg base C "meet" 2 p_Notebook_meet (SpMeet P w C)) : FnOk P w K mg base CX0 8 f fd p_law_are_orders_right (SpOrders Tt C) := by
  refine F.ok sc_law_are_orders_right (fun vs H Q E h => ?_) (fun cdv A outer s H vs Q E hr h => ?_)
  · obtain ⟨hd, ca, lb, ns, bs, zs, W, S, k, rfl, _⟩ := h
    rfl
  · obtain ⟨hd, ca, lb, ns, bs, zs, W, S, k, rfl, wd, gd, hz, hz0, hz8, hS0, hS9, fin⟩ := h
    have hu := hr.units
    have hu1 := hu_of hr
    refine ⟨_, (pss_cons (ps_lk (ps_setLc (own := [("notebook", 10)]) (i := 4) rfl sc_law_are_orders_right.nd rfl rfl (sw_true rfl rfl rfl (by decide +kernel)) (k_piAny (K' := K) rfl (pv 1)) (blkOk_by (N := n_law_are_orders_right) (sc := defScope s_law_are_orders_right) (by decide +kernel)) (fun _ _ _ _ _ => (pg_name (i := 10) sc_law_are_orders_right.nd rfl (.inl rfl))) (fun _ _ _ _ _ => pts_nil) (fun _ _ _ _ _ => (pe_meth0 (pv 10) T.cl c_Notebook_all_told.m c_Notebook_all_told.ok (hr.mono (by first | decide | omega)) c_Notebook_all_told.b .nil pass0))))
      (pss_cons (ps_asg (pe_call c__law_all_met.ok (hr.mono (by first | decide | omega)) (by rfl) c__law_all_met.at_ c__law_all_met.kp c__law_all_met.b .nil pass0 (pa_cons (pv 0) (pa_cons (pv 1) (pa_cons (pv 2) (pa_cons pe_int pa_nil))))) (k_pair (K' := K) (i := 5) (j := 6) rfl rfl sc_law_are_orders_right.nd rfl rfl (.inl rfl) (.inl rfl) (.inl rfl) (.inl rfl)))
      (pss_cons (ps_asg (pe_call c__law_all_met.ok (hr.mono (by first | decide | omega)) (by rfl) c__law_all_met.at_ c__law_all_met.kp c__law_all_met.b .nil pass0 (pa_cons (pv 0) (pa_cons (pv 1) (pa_cons (pv 2) (pa_cons pe_int pa_nil))))) (k_pair (K' := K) (i := 7) (j := 8) rfl rfl sc_law_are_orders_right.nd rfl rfl (.inl rfl) (.inl rfl) (.inl rfl) (.inl rfl)))
      (pss_cons (ps_if (PW.pt (pw_or (pt_not (pt_val (pe_call c__law_is_shown.ok (hr.mono (by first | decide | omega)) (by rfl) c__law_is_shown.at_ c__law_is_shown.kp c__law_is_shown.b .nil pass0 (pa_cons (pv 5) (pa_cons (pv 6) (pa_cons (pv 3) pa_nil)))))) (pw_or1 (pt_not (pt_val (pe_call c__law_is_shown.ok (hr.mono (by first | decide | omega)) (by rfl) c__law_is_shown.at_ c__law_is_shown.kp c__law_is_shown.b .nil pass0 (pa_cons (pv 7) (pa_cons (pv 8) (pa_cons (pv 3) pa_nil))))))))) (pss_one (ps_ret pe_bl)) pss_nil)
      (pss_cons (ps_if (PW.pt (pw_or (pt_cmpR (k_neD (K' := K) rfl hu) (pe_meth0 (pv 5) T.cl c_Notebook_all_told.m c_Notebook_all_told.ok (hr.mono (by first | decide | omega)) c_Notebook_all_told.b .nil pass0) (pe_meth0 (pv 7) T.cl c_Notebook_all_told.m c_Notebook_all_told.ok (hr.mono (by first | decide | omega)) c_Notebook_all_told.b .nil pass0) (nomark _)) (pw_or1 (pt_cmpR (k_neD (K' := K) rfl hu) (pe_lk (pe_lc (own := [("notebook", 10)]) rfl sc_law_are_orders_right.nd (k_piAny (K' := K) rfl (pv 1)) (blkOk_by (N := n_law_are_orders_right) (sc := defScope s_law_are_orders_right) (by decide +kernel)) (fun _ _ _ _ _ => (pg_name (i := 10) sc_law_are_orders_right.nd rfl (.inl rfl))) (fun _ _ _ _ _ => pts_nil) (fun _ _ _ _ _ => (pe_meth0 (pv 10) T.cl c_Notebook_all_told.m c_Notebook_all_told.ok (hr.mono (by first | decide | omega)) c_Notebook_all_told.b .nil pass0)))) (pv 4) (nomark _))))) (pss_one (ps_ret pe_bl)) pss_nil)
      (pss_cons (ps_set (i := 9) sc_law_are_orders_right.nd rfl (.inl rfl) (pe_meth0 (pv 5) T.cl c_Notebook_all_told.m c_Notebook_all_told.ok (hr.mono (by first | decide | omega)) c_Notebook_all_told.b .nil pass0))
      (pss_cons (ps_for PassesOwn.never rfl (k_piAny (K' := K) rfl (pe_op (k_addU (K' := K) rfl) (pv 1) (pe_lst (pa_cons (pv 7) (pa_cons (pv 5) pa_nil))))) (pg_name (i := 10) sc_law_are_orders_right.nd rfl (.inl rfl))
      (pss_cons (ps_if (pt_cmpR op_isnot_bl (pe_meth (pv 5) T.cl c_Notebook_knows.m c_Notebook_knows.ok (hr.mono (by first | decide | omega)) c_Notebook_knows.b .nil pass0 (pa_cons (pv 10) pa_nil)) pe_bl (nomark _)) (pss_one (ps_ret pe_bl)) pss_nil)
      (pss_one (ps_expr (pe_meth (pv 5) T.cl c_Notebook_meet.m c_Notebook_meet.ok (hr.mono (by first | decide | omega)) c_Notebook_meet.b .nil pass0 (pa_cons (pv 10) pa_nil))))))
      (pss_one (ps_ret (pe_and (pe_cmpR (k_eqD (K' := K) rfl hu) (pe_meth0 (pv 5) T.cl c_Notebook_all_told.m c_Notebook_all_told.ok (hr.mono (by first | decide | omega)) c_Notebook_all_told.b .nil pass0) (pv 9) (nomark _)) (pe_one (pe_call c__law_is_shown.ok (hr.mono (by first | decide | omega)) (by rfl) c__law_is_shown.at_ c__law_is_shown.kp c__law_is_shown.b .nil pass0 (pa_cons (pv 5) (pa_cons (pv 6) (pa_cons (pv 3) pa_nil))))))))))))))), ?_⟩
    have tdn : ∀ d ∈ S.map (fun e => told (tab W e.M) e.B), Dn 4 d := fun d hd => by
      obtain ⟨e, he, rfl⟩ := List.mem_map.mp hd
      exact told_dn (gd.fit e he).1 (gd.fit e he).2 (gd.wd e he)
    have w9 : S.length ≤ 9 := hS9
    refine .inl ?_
    refine rs_asg (ev_tolds rfl wd.nsl wd.ents gd hS9 (fun _ => rfl) (fun _ => rfl)) fun v H1 s1 hv => ?_
    obtain ⟨el, ys, rfl, hel⟩ := newL_tup hv
    have w1 := wd.same s1
    have offh : ∀ {H' : Hp} {x : Addr} {o : HO}, H' x = some o → HandAt H' hd ca → (∀ xs, o ≠ .lst xs) → x ≠ hd := fun {H' x o} hx hh ho => by
      obtain ⟨xs, i, n, z, c, g1, _, _⟩ := hh
      exact ne_of hx g1 (ho _)
    have five : ∀ {H' : Hp} {x : Addr} {l : List V}, H' x = some (.lst l) → HandAt H' hd ca → l.length ≠ 5 → x ≠ hd := fun {H' x l} hx hh hl => by
      obtain ⟨xs, i, n, z, c, g1, _, _⟩ := hh
      intro e
      rw [e, g1] at hx
      injection hx with hx
      injection hx with hx
      exact hl (by rw [← hx]; rfl)
    have helh : el ≠ hd := by
      obtain ⟨p, ys2, e, h0, _⟩ := hv
      cases e
      obtain ⟨⟨o, ho⟩, _⟩ := wd.hand.some
      exact (ne_of_none ho h0).symm
    refine rs_asgT2 (k_call (vs := [.ref hd, .ref ns, .ref bs, .int 7]) (ea_cons (ev_var rfl) (ea_cons (ev_var rfl) (ea_cons (ev_var rfl) (ea_cons ev_c ea_nilV)))) fun H2 s2 => ⟨hd, ca, lb, ns, bs, zs, W, S, k, 7, rfl, w1.same s2, gd, hS0, hS9, by decide, by decide, fun H3 o a dx p t b q r M B b3 h3 ho n3 m3 p0 t0 cM cB => ⟨o, [.ref a, .ref b], rfl, SqT.of ho, rfl, .ref a, [.ref b], rfl, .ref b, [], rfl, rfl, ?_⟩⟩)
    have b13 : But [hd] H1 H3 := But.trans (But.of s2) b3
    have w3 := w1.drawn b13 h3
    refine rs_asgT2 (k_call (vs := [.ref hd, .ref ns, .ref bs, .int 8]) (ea_cons (ev_var rfl) (ea_cons (ev_var rfl) (ea_cons (ev_var rfl) (ea_cons ev_c ea_nilV)))) fun H4 s4 => ⟨hd, ca, lb, ns, bs, zs, W, S, k, 8, rfl, w3.same s4, gd, hS0, hS9, by decide, by decide, fun H5 o2 a2 dx2 p2 t2 b2 q2 r2 M2 B2 b5 h5 ho2 n5 m5 p20 t20 cM2 cB2 => ⟨o2, [.ref a2, .ref b2], rfl, SqT.of ho2, rfl, .ref a2, [.ref b2], rfl, .ref b2, [], rfl, rfl, ?_⟩⟩)
    have b35 : But [hd] H3 H5 := But.trans (But.of s4) b5
    have w5 := w3.drawn b35 h5
    have nA := n3.but b35 (by simp [offh n3.ha h3 (fun _ z => by cases z)]) (by simp [offh n3.hp h3 (fun _ z => by cases z)]) (by simp [offh n3.ht h3 (fun _ z => by cases z)])
    have mA := m3.but b35 (by simp [five m3.hb h3 (by simp)]) (by simp [offh m3.hq h3 (fun _ z => by cases z)]) (by simp [offh m3.hr h3 (fun _ z => by cases z)])
    have b15 : But [hd] H1 H5 := But.trans b13 b35
    have hel5 := b15 _ _ (by simp [helh]) hel.1
    have t15 : Tm H1 H5 := fun x xs hx => b15 x _ (by simp [offh hx w1.hand (fun _ z => by cases z)]) hx
    have hys5 := hel.2.tm t15
    have tee : told (tab W M) B = told (tab W M2) B2 := told_same nA.fM nA.fB n5.fM n5.fB (fun x => (cM x).trans (cM2 x).symm) fun x => (cB x).trans (cB2 x).symm
    have dnA := told_dn nA.fM nA.fB nA.hw
    -- shown
    refine rs_ifR (b := false) (et_or (b := false) (c := false) (et_not (b := true) (et_B (ev_shown (ev_var rfl) (ev_var rfl) (ev_var rfl) nA mA w5.lab hz8 hz))) fun _ => et_not (b := true) (et_B (ev_shown (ev_var rfl) (ev_var rfl) (ev_var rfl) n5 m5 w5.lab hz8 hz))) (fun e => nomatch e) fun _ H6 s6 => ?_
    have n6 := nA.same s6
    have o6 := n5.same s6
    have w6 := w5.same s6
    have hel6 := s6 _ _ hel5
    have hys6 := hys5.tm (Fx.of s6).tm
    refine rs_ifR (b := false) (et_or (b := false) (c := false) (et_test (ev_neSame (ev_told (ev_var rfl) n6) (by rw [tee]; exact ev_told (ev_var rfl) o6) dnA (by decide))) fun _ => et_test (ev_opP (P2 := Is (.ref el)) (ev_lk0 (ev_tolds rfl w6.nsl w6.ents gd hS9 (fun _ => rfl) (fun _ => rfl))) (fun _ _ _ _ => ev_var rfl) fun x y H7 H8 f7 hx f8 ey => ?_)) (fun e => nomatch e) fun _ H7 s7 => ?_
    · cases ey
      obtain ⟨l2, ys2, rfl, hl2, hys2⟩ := newL_tup hx
      exact rv_neL (f8.nd hl2 rfl) ((f7.trans f8).nd hel6 rfl) (hys2.tm f8.tm) (hys6.tm (f7.trans f8).tm) tdn (by decide)
    · have n7 := n6.same s7
      have m7 := (mA.same s6).same s7
      have o7 := o6.same s7
      have w7 := w6.same s7
      refine rs_asg (P1 := D K (told (tab W M) B)) (ev_told (ev_var rfl) n7) fun v H8 s8 td8 => ?_
      have n8 := n7.same s8
      have m8 := m7.same s8
      have o8 := o7.same s8
      have w8 := w7.same s8
      refine rs_forLS (k_opK ?_)
      refine EvR.run (P := Is (.ref ns)) (ev_var rfl) fun v9 H9 s9 e9 => ?_
      cases e9
      refine EvR.run (P := New H9 (.lst [.ref a2, .ref a])) (ev_lst (ea_cons (ev_var rfl) (ea_cons (ev_var rfl) ea_nilV)) (by show 2 ≤ sizeLine; decide)) fun v10 H10 s10 hv10 => ?_
      obtain ⟨l10, rfl, _, hl10⟩ := hv10
      refine (rv_catL (s10 _ _ (s9 _ _ w8.nsl)) hl10 (by
        rw [List.length_map]
        show S.length + 2 ≤ sizeLine
        have : sizeLine ≥ 2000 := by decide
        omega)).run fun v11 H11 s11 hv11 => ?_
      obtain ⟨l11, rfl, _, hl11⟩ := hv11
      have s811 := (s9.trans s10).trans s11
      have nB := n8.same s811
      have mB := m8.same s811
      have oB := o8.same s811
      have wB := w8.same s811
      have tdB := td8.tm (Fx.of s811).tm
      have items : ∀ (i : Nat) (x : V), ((S.map fun e => V.ref e.a) ++ [.ref a2, .ref a])[i]? = some x → ∃ a3 dx3 p3 t3 pen3 M3 B3, x = .ref a3 ∧ NM C W H11 a3 dx3 p3 t3 pen3 M3 B3 ∧ (∀ m ∈ M3, m ∈ M) ∧ (∀ m ∈ B3, m ∈ B) ∧ p ≠ t3 := fun i x hx => by
        have hm := List.mem_of_getElem? hx
        rcases List.mem_append.mp hm with c | c
        · obtain ⟨e, he, rfl⟩ := List.mem_map.mp c
          refine ⟨_, _, _, _, _, _, _, rfl, (wB.ents e he).nm (wB.d1 e he) (gd.fit e he).1 (gd.fit e he).2 (gd.wd e he), fun m hm => (cM m).mpr ⟨e, he, hm⟩, fun m hm => (cB m).mpr ⟨e, he, hm⟩, fun z => ?_⟩
          have := ((w1.same s2).ents e he).ht
          rw [← z, p0] at this
          cases this
        · simp only [List.mem_cons, List.mem_nil_iff, or_false] at c
          rcases c with rfl | rfl
          · refine ⟨_, _, _, _, _, _, _, rfl, oB, fun m hm => (cM m).mpr ((cM2 m).mp hm), fun m hm => (cB m).mpr ((cB2 m).mp hm), fun z => ?_⟩
            have := (n3.same s4).hp
            rw [z, t20] at this
            cases this
          · exact ⟨_, _, _, _, _, _, _, rfl, nB, fun _ h => h, fun _ h => h, nB.ne⟩
      refine ⟨l11, rfl, ⟨_, SqL.of hl11⟩, ?_⟩
      refine forK_list (fun i σ H' => (∃ u, σ = [some (.ref hd), some (.ref ns), some (.ref bs), some (.ref lb), some (.ref el), some (.ref a), some (.ref b), some (.ref a2), some (.ref b2), some v, u]) ∧ Same H11 H') ⟨⟨_, rfl⟩, fun _ _ e => e⟩ (fun i σ H' h => h.2 _ _ hl11) (fun i x σ H12 hx h => ?_) fun σ H12 h => ?_
      · obtain ⟨⟨u, rfl⟩, s12⟩ := h
        obtain ⟨a3, dx3, p3, t3, pen3, M3, B3, rfl, n3', c1, c2, c3⟩ := items i x hx
        have nC := nB.same s12
        have nD := n3'.same s12
        refine rs_ifR (b := false) (et_test (ev_op (ev_know (b := true) (ev_var rfl) (ev_var rfl) nC nD (knowsM_iff.mpr ⟨c1, c2⟩)) ev_c fun H' g Q q => ⟨true, true, rfl, rfl, q _ H' (fun _ _ e => e) rfl⟩)) (fun e => nomatch e) fun _ H13 s13 => ?_
        have nE := nC.same s13
        show tDrop _ _ _ _
        refine (show tMeth C (Str.ofString "meet") (SpMeet P w C) [] E0 (tVar 5) (tCons (tVar 10) tNil) _ H13 (fun _ H' => _) from ?_)
        refine kn_meet (ev_var rfl) (ev_var rfl) nE (nD.same s13) c3 fun H14 b14 n14 => ?_
        rw [mrg_sub c1, mrg_sub c2] at n14
        refine ⟨⟨_, rfl⟩, fun x o hx => ?_⟩
        have hx13 := s13 _ _ (s12 _ _ hx)
        by_cases e1 : x = p
        · subst e1
          rw [n14.hp, ← nE.hp]
          exact hx13
        · by_cases e2 : x = t
          · subst e2
            rw [n14.ht, ← nE.ht]
            exact hx13
          · exact b14 x o (by simp [e1, e2]) hx13
      · obtain ⟨⟨u, rfl⟩, s12⟩ := h
        dsimp only
        refine rs_retAndK (EvR.run (P := Is (.bl true)) (ev_eqSame (ev_told (ev_var rfl) (nB.same s12)) (ev_varD rfl (tdB.tm (Fx.of s12).tm)) dnA (by decide)) fun v13 H13 s13 e13 => ?_)
        cases e13
        refine ⟨true, rfl, ?_⟩
        rw [if_pos rfl]
        refine EvR.run (ev_shown (ev_var rfl) (ev_var rfl) (ev_var rfl) ((nB.same s12).same s13) ((mB.same s12).same s13) (s13 _ _ (s12 _ _ wB.lab)) hz8 hz) fun v14 H14 s14 e14 => ?_
        cases e14
        have sAll : Same H5 H14 := ((((((s6.trans s7).trans s8).trans s811).trans s12).trans s13).trans s14)
        exact fin H14 (But.trans (But.trans (But.of s1) b15) (But.of sAll)) (h5.same sAll)
end N88
/-! copies -/
namespace N88
open PySem L2 PySem.Spec
variable {P : Program} {w : World} {K : PySem.W.Frag} {mg : Str → Option Value} {base : Heap} {C aO : Addr} {t8 : Tok} {Tt : List (Addr × Str)}
theorem rs_ifOrK {σ : L2.St} {H : Hp} {te1 te2 : TE} {t1 t2 : TS} {D : Ends} (h : te1 σ H fun v H1 => ∃ b, v = .bl b ∧ if (!b) = true then (if true = true then t1 { D with nx := t2 D } σ H1 else tNext { D with nx := t2 D } σ H1) else te2 σ H1 fun v2 H2 => ∃ c, v2 = .bl c ∧ if (!c) = true then t1 { D with nx := t2 D } σ H2 else tNext { D with nx := t2 D } σ H2) :
    tSeq (tIfS (tOr (tNot (tB te1)) (tNot (tB te2))) t1 tNext) t2 D σ H := h
theorem NM.word {W W' : PI2 → Str} {H : Hp} {a dx p t : Addr} {pen : Int} {M B : List PI2} (n : NM C W H a dx p t pen M B) (h : ∀ m ∈ M, W m = W' m) : NM C W' H a dx p t pen M B :=
  ⟨n.ha, by rw [← tab_congr h]; exact n.hp, n.ht, n.ne, n.fM, n.fB, fun m hm => by rw [← h m hm]; exact n.hw m hm⟩
theorem BM.word {W W' : PI2 → Str} {H : Hp} {b q r : Addr} {pen : Int} {M B : List PI2} (n : BM W H b q r pen M B) (h : ∀ m ∈ M, W m = W' m) : BM W' H b q r pen M B := ⟨n.hb, by rw [← tab_congr h]; exact n.hq, n.hr⟩
theorem updW_of {W : PI2 → Str} {M : List PI2} {m : PI2} {z : Str} (h : m ∉ M) : ∀ x ∈ M, W x = updW W m z x := fun x hx => (updW_off fun c => h (by rw [← c]; exact hx)).symm
theorem kn_add {σ : L2.St} {H : Hp} {E : XK} {Q : VK} {W : PI2 → Str} {a dx p t : Addr} {pen : Int} {M B : List PI2} {z : Str} {te te2 : TE} (h1 : EvR (te σ) H (Is (.ref a))) (h2 : EvR (te2 σ) H (Is (.str z))) (n : NM C W H a dx p t pen M B) (hz : z ∈ labels8) (hr : InR (pen, nxtM M pen))
    (k : ∀ r H', But [p] H H' → Td K H' (.ref r) (prD (pen, nxtM M pen)) → NM C (updW W (pen, nxtM M pen) z) H' a dx p t pen (M ++ [(pen, nxtM M pen)]) B → Q (.ref r) H') : tMeth C (Str.ofString "add") (SpAdd C) [] E te (tCons te2 tNil) σ H Q := by
  refine k_meth (vs := [.str z]) h1 n.ha (nbf_no (by decide +kernel)) (ea_cons h2 ea_nilV) fun H1 s1 => ⟨a, dx, p, t, pen, tab W M, z, rfl, hz, s1 _ _ n.ha, s1 _ _ n.hp, by rw [tab_keys]; exact n.fM, fun r H2 b2 hr2 hp2 => ?_⟩
  rw [tab_keys] at hr2 hp2
  have b02 : But [p] H H2 := But.trans (But.of s1) b2
  have nm : (pen, nxtM M pen) ∉ M := nxtM_new
  rw [add_tab nm] at hp2
  refine k r H2 b02 (td_pair hr2) ⟨b02 _ _ (by simp [ne_of n.ha n.hp (fun z => by cases z)]) n.ha, hp2, b02 _ _ (by simp [Ne.symm n.ne]) n.ht, n.ne, ⟨?_, fun x hx => ?_⟩, n.fB, fun x hx => ?_⟩
  · refine List.nodup_append.mpr ⟨n.fM.nd, by simp, fun x hx y hy e => ?_⟩
    rw [List.mem_singleton] at hy
    rw [e, hy] at hx
    exact nm hx
  · rcases List.mem_append.mp hx with c | c
    · exact n.fM.rg x c
    · rw [List.mem_singleton] at c
      rw [c]
      exact hr
  · rcases List.mem_append.mp hx with c | c
    · rw [← updW_of nm x c]
      exact n.hw x c
    · rw [List.mem_singleton] at c
      rw [c]
      unfold updW
      rw [if_pos rfl]
      exact hz
theorem rv_eqL {H : Hp} {a b : Addr} {xs ys : List V} {ds : List PyData} {n : Nat} (h1 : H a = some (.lst xs)) (h2 : H b = some (.lst ys)) (d1 : TdAll K H xs ds) (d2 : TdAll K H ys ds) (hd : ∀ d ∈ ds, Dn n d) (hn : n < 64) : EvR (rEqD K (.ref a) (.ref b)) H (Is (.bl true)) := fun H1 g Q q => by
  have sh := shaped_list hd hn
  refine ⟨.list ds, .list ds, .lst (SqL.of (g.nd h1 rfl)) (d1.tm g.tm).dp, .lst (SqL.of (g.nd h2 rfl)) (d2.tm g.tm).dp, sh, sh, ?_⟩
  rw [SeqAt.eqv_refl _ (SeqAt.canLay_of_shaped sh)]
  exact q _ H1 (fun _ _ e => e) rfl
def SpCopies (Tt : List (Addr × Str)) (C : Addr) : Sp := fun vs H Q _ => ∃ (hd ca lb ns bs : Addr) (zs : List Str) (W : PI2 → Str) (S : List Ent) (k : Int), vs = [.ref hd, .ref ns, .ref bs, .ref lb] ∧ Wd Tt C H hd ca lb ns bs zs W S ∧ Good W S k ∧ (∀ z ∈ zs, z ∈ labels8) ∧ 0 < zs.length ∧ zs.length ≤ 8 ∧ 0 < S.length ∧ S.length ≤ 9 ∧ 0 ≤ k ∧ k < 63 ∧
  ∀ H', But [hd] H H' → HandAt H' hd ca → Q (.bl true) H'
theorem ok_copies {f : Addr} {fd : FuncData} (F : Fun K "_law_are_copies_right" "_law_are_copies_right" s_law_are_copies_right f fd) (T : Txt K mg C aO t8) (c__law_draw : Cal P w K mg base "_law_draw" 1 p_law_draw SpDraw) (c__law_some : Cal P w K mg base "_law_some" 2 p_law_some SpSome) (c_Notebook_copy : MCal P w K mg base C "copy" 6 p_Notebook_copy (SpCopy P w C))
    (c__law_copied : Cal P w K mg base "_law_copied" 2 p_law_copied SpCopied) (c_Notebook_all_told : MCal P w K mg base C "all_told" 1 p_Notebook_all_told (SpOf (preTold K C))) (c_Notebook_knows : MCal P w K mg base C "knows" 2 p_Notebook_knows (SpOf (preKnows C))) (c__law_next : Cal P w K mg base "_law_next" 1 p_law_next (SpOf preNext))
    (c__law_is : Cal P w K mg base "_law_is" 5 p_law_is (SpOf (preIs K 4))) (c_Notebook_add : MCal P w K mg base C "add" 3 p_Notebook_add (SpAdd C)) (c__law_is_shown : Cal P w K mg base "_law_is_shown" 6 p_law_is_shown (SpOf (preShown C))) : FnOk P w K mg base CX0 8 f fd p_law_are_copies_right (SpCopies Tt C) := by
  refine F.ok sc_law_are_copies_right (fun vs H Q E h => ?_) (fun cdv A outer s H vs Q E hr h => ?_)
  · obtain ⟨hd, ca, lb, ns, bs, zs, W, S, k, rfl, _⟩ := h
    rfl
  · obtain ⟨hd, ca, lb, ns, bs, zs, W, S, k, rfl, wd, gd, hz, hz0, hz8, hS0, hS9, hk0, hk, fin⟩ := h
    have hu := hr.units
    have hu1 := hu_of hr
    refine ⟨_, (pss_cons (ps_set (i := 4) sc_law_are_copies_right.nd rfl (.inl rfl) (pe_call c__law_draw.ok (hr.mono (by first | decide | omega)) (by rfl) c__law_draw.at_ c__law_draw.kp c__law_draw.b .nil pass0 (pa_cons (pv 0) (pa_cons (pe_callB (k_len (K' := K) rfl) (by rfl) T.b_len (by decide +kernel) (pa_cons (pv 2) pa_nil)) pa_nil))))
      (pss_cons (ps_par (i := 5) (j := 6) rfl sc_law_are_copies_right.nd rfl rfl (by decide) rfl rfl (pa_cons (pe_ix (k_ix (K' := K) rfl) (pv 1) (pv 4) (fun _ _ => rfl)) (pa_cons (pe_ix (k_ix (K' := K) rfl) (pv 2) (pv 4) (fun _ _ => rfl)) pa_nil)) (by rfl))
      (pss_cons (ps_set (i := 7) sc_law_are_copies_right.nd rfl (.inl rfl) (pe_call c__law_some.ok (hr.mono (by first | decide | omega)) (by rfl) c__law_some.at_ c__law_some.kp c__law_some.b .nil pass0 (pa_cons (pv 0) (pa_cons (pv 3) pa_nil))))
      (pss_cons (ps_par (i := 8) (j := 9) rfl sc_law_are_copies_right.nd rfl rfl (by decide) rfl rfl (pa_cons (pe_meth (pv 5) T.cl c_Notebook_copy.m c_Notebook_copy.ok (hr.mono (by first | decide | omega)) c_Notebook_copy.b .nil pass0 (pa_cons pe_int pa_nil)) (pa_cons (pe_call c__law_copied.ok (hr.mono (by first | decide | omega)) (by rfl) c__law_copied.at_ c__law_copied.kp c__law_copied.b .nil pass0 (pa_cons (pv 6) (pa_cons pe_int pa_nil))) pa_nil)) (by rfl))
      (pss_cons (ps_if (PW.pt (pw_or (pt_cmpR (k_neD (K' := K) rfl hu) (pe_meth0 (pv 8) T.cl c_Notebook_all_told.m c_Notebook_all_told.ok (hr.mono (by first | decide | omega)) c_Notebook_all_told.b .nil pass0) (pe_meth0 (pv 5) T.cl c_Notebook_all_told.m c_Notebook_all_told.ok (hr.mono (by first | decide | omega)) c_Notebook_all_told.b .nil pass0) (nomark _)) (pw_or (pt_not (pt_val (pe_meth (pv 8) T.cl c_Notebook_knows.m c_Notebook_knows.ok (hr.mono (by first | decide | omega)) c_Notebook_knows.b .nil pass0 (pa_cons (pv 5) pa_nil)))) (pw_or1 (pt_not (pt_val (pe_meth (pv 5) T.cl c_Notebook_knows.m c_Notebook_knows.ok (hr.mono (by first | decide | omega)) c_Notebook_knows.b .nil pass0 (pa_cons (pv 8) pa_nil)))))))) (pss_one (ps_ret pe_bl)) pss_nil)
      (pss_cons (ps_par (i := 10) (j := 11) rfl sc_law_are_copies_right.nd rfl rfl (by decide) rfl rfl (pa_cons (pe_call c__law_next.ok (hr.mono (by first | decide | omega)) (by rfl) c__law_next.at_ c__law_next.kp c__law_next.b .nil pass0 (pa_cons (pv 9) pa_nil)) (pa_cons (pe_ix (k_ix (K' := K) rfl) (pv 9) pe_int (fun _ _ => rfl)) pa_nil)) (by rfl))
      (pss_cons (ps_dput hu1 (pv 11) (pv 10) (pv 7) rfl)
      (pss_cons (ps_if (PW.pt (pw_or (pt_not (pt_val (pe_call c__law_is.ok (hr.mono (by first | decide | omega)) (by rfl) c__law_is.at_ c__law_is.kp c__law_is.b .nil pass0 (pa_cons (pe_meth (pv 8) T.cl c_Notebook_add.m c_Notebook_add.ok (hr.mono (by first | decide | omega)) c_Notebook_add.b .nil pass0 (pa_cons (pv 7) pa_nil)) (pa_cons (pv 10) pa_nil))))) (pw_or1 (pt_not (pt_val (pe_call c__law_is_shown.ok (hr.mono (by first | decide | omega)) (by rfl) c__law_is_shown.at_ c__law_is_shown.kp c__law_is_shown.b .nil pass0 (pa_cons (pv 8) (pa_cons (pv 9) (pa_cons (pv 3) pa_nil))))))))) (pss_one (ps_ret pe_bl)) pss_nil)
      (pss_cons (ps_set (i := 12) sc_law_are_copies_right.nd rfl (.inl rfl) (pe_lst (pa_cons (pe_meth (pv 5) T.cl c_Notebook_knows.m c_Notebook_knows.ok (hr.mono (by first | decide | omega)) c_Notebook_knows.b .nil pass0 (pa_cons (pv 8) pa_nil)) (pa_cons (pe_meth (pv 8) T.cl c_Notebook_knows.m c_Notebook_knows.ok (hr.mono (by first | decide | omega)) c_Notebook_knows.b .nil pass0 (pa_cons (pv 5) pa_nil)) pa_nil))))
      (pss_one (ps_ret (pe_and (pe_call c__law_is_shown.ok (hr.mono (by first | decide | omega)) (by rfl) c__law_is_shown.at_ c__law_is_shown.kp c__law_is_shown.b .nil pass0 (pa_cons (pv 5) (pa_cons (pv 6) (pa_cons (pv 3) pa_nil)))) (pe_one (pe_cmpR (k_eqD (K' := K) rfl hu) (pv 12) (pe_lst (pa_cons pe_bl (pa_cons pe_bl pa_nil))) (nomark _))))))))))))))), ?_⟩
    have lenB : ∀ {H' : Hp} {σ : L2.St} {te : TE}, H' bs = some (.lst (S.map fun e => V.ref e.b)) → EvR (te σ) H' (Is (.ref bs)) → EvR (tCB (rLenU K) (tCons te tNil) σ) H' (Is (.int (S.length : Nat))) := fun h1 h2 => ev_is (ev_lenL h2 (SqL.of h1)) (by rw [List.length_map])
    refine rs_asgK (k_draw (ev_var rfl) (lenB wd.bsl (ev_var rfl)) (by omega) (by omega) wd.hand fun d H1 d0 d1 b1 h1 => ?_)
    obtain ⟨i, rfl⟩ := Int.eq_ofNat_of_zero_le d0
    have hi : i < S.length := by omega
    obtain ⟨e, he⟩ : ∃ e, S[i]? = some e := ⟨_, List.getElem?_eq_getElem hi⟩
    have hem := mem_at he
    have w1 := wd.drawn b1 h1
    refine rs_par (u := .ref e.a) (v := .ref e.b) (ea_cons (ev_at (ev_var rfl) (ev_var rfl) w1.nsl (by rw [List.getElem?_map, he]; rfl)) (ea_cons (ev_at (ev_var rfl) (ev_var rfl) w1.bsl (by rw [List.getElem?_map, he]; rfl)) ea_nilV)) fun H2 s2 => ?_
    have w2 := w1.same s2
    have nlh : lb ≠ hd := by
      have ls := wd.ls
      simp only [List.nodup_cons, List.mem_cons, List.mem_nil_iff, or_false, not_or] at ls
      exact fun z => ls.1.2.1 z.symm
    refine rs_asgK (k_call (vs := [.ref hd, .ref lb]) (ea_cons (ev_var rfl) (ea_cons (ev_var rfl) ea_nilV)) fun H3 s3 => ⟨hd, ca, lb, zs.map V.str, rfl, nlh, s3 _ _ w2.lab, by rw [List.length_map]; omega, by rw [List.length_map]; omega, (w2.same s3).hand, fun v H4 hv b4 h4 => ?_⟩)
    have w4 := (w2.same s3).drawn b4 h4
    have b04 : But [hd] H H4 := But.trans (But.trans b1 (But.of s2)) (But.trans (But.of s3) b4)
    obtain ⟨z, hz1, rfl⟩ := List.mem_map.mp hv
    have hz2 := hz z hz1
    have e4 := (w4.ents e hem).nm (w4.d1 e hem) (gd.fit e hem).1 (gd.fit e hem).2 (gd.wd e hem)
    have g4 := (w4.ents e hem).bm
    have ft := gd.fitE hem
    have fe := gd.fit e hem
    -- other, left
    refine rs_parK (kn_copy (wr := 6) (ev_var rfl) ev_c e4 (by decide) (by decide) fun H5 y dy p t s5 n5 p0 t0 => k_call (vs := [.ref e.b, .int 6]) (ea_cons (ev_var rfl) (ea_cons ev_c ea_nilV)) fun H6 s6 => ⟨e.b, e.q, e.r, e.pen, 6, W, e.M, e.B, rfl, (g4.same s5).same s6, ft, fe.1.nd, fe.2.nd, fun H7 b q r s7 m7 q0 r0 nqr b0 => ⟨_, _, rfl, ?_⟩⟩)
    have s57 := s6.trans s7
    have s47 := s5.trans s57
    have n7 := n5.same s57
    have e7 := e4.same s47
    have g7 := g4.same s47
    have w7 := w4.same s47
    have dn := told_dn e7.fM e7.fB e7.hw
    have kk : knowsM (tab W e.M) e.B (tab W e.M) e.B = true := knowsM_iff.mpr ⟨fun _ h => h, fun _ h => h⟩
    refine rs_ifR (b := false) (et_or (b := false) (c := false) (et_test (ev_neSame (ev_told (ev_var rfl) n7) (ev_told (ev_var rfl) e7) dn (by decide))) fun _ => et_or (b := false) (c := false) (et_not (b := true) (et_B (ev_know (ev_var rfl) (ev_var rfl) n7 e7 kk))) fun _ => et_not (b := true) (et_B (ev_know (ev_var rfl) (ev_var rfl) e7 n7 kk))) (fun e => nomatch e) fun _ H8 s8 => ?_
    have n8 := n7.same s8
    have m8 := m7.same s8
    have w8 := w7.same s8
    -- mark, marks
    have nn : nxtM e.M 6 ≤ k := nxtM_le hk0 (gd.num e hem)
    have nr : InR ((6 : Int), nxtM e.M 6) := by
      have := nxtM_nn (M := e.M) (w := 6)
      unfold InR
      exact ⟨⟨by show (0 : Int) ≤ 6; decide, by show (6 : Int) ≤ 8; decide⟩, this, by show nxtM e.M 6 < 64; omega⟩
    refine rs_parP (P1 := fun v H' => ∃ r, v = .ref r ∧ H' r = some (.tup [.int 6, .int (nxtM e.M 6)])) (P2 := fun _ _ => Is (.ref q)) (ev_call (vs := [.ref b]) (ea_cons (ev_var rfl) ea_nilV) fun H' g => ⟨_, _, _, _, _, _, rfl, m8.bk.fx g, ft, by rw [tab_keys]⟩) (fun v1 H9 s9 _ => ev_b1 (ev_var rfl) (m8.bk.fx (Fx.of s9))) fun v1 v2 H9 H10 s9 h9 s10 e10 => ?_
    obtain ⟨mr, rfl, hmr⟩ := h9
    cases e10
    have s810 := s9.trans s10
    have n10 := n8.same s810
    have m10 := m8.same s810
    have w10 := w8.same s810
    refine rs_dput (kk := pk (6, nxtM e.M 6)) (ev_var rfl) (ev_var rfl) (ev_var rfl) m10.hq (s10 _ _ hmr) (Nat.lt_of_le_of_lt (lenT fe.1) (by decide)) fun H11 s11 => ?_
    have nm : ((6 : Int), nxtM e.M 6) ∉ e.M := nxtM_new
    rw [add_tab nm]
    have n11 := n10.same s11
    have m11 := m10.same s11
    have w11 := w10.same s11
    have hmr11 := s11 _ _ (s10 _ _ hmr)
    have qp : q ≠ p := (ne_of_none (s6 _ _ n5.hp) q0).symm
    have qt : q ≠ t := (ne_of_none (s6 _ _ n5.ht) q0).symm
    have rp : r ≠ p := (ne_of_none (s6 _ _ n5.hp) r0).symm
    have rt : r ≠ t := (ne_of_none (s6 _ _ n5.ht) r0).symm
    generalize hA : upd H11 q (.dT (toA (tab (updW W (6, nxtM e.M 6) z) (e.M ++ [(6, nxtM e.M 6)])))) = HA
    have bA : But [q] H11 HA := by
      rw [← hA]
      exact (But.of (fun _ _ e => e)).put List.mem_cons_self
    have qA : HA q = some (.dT (toA (tab (updW W (6, nxtM e.M 6) z) (e.M ++ [(6, nxtM e.M 6)])))) := by rw [← hA, upd_same]
    have dq : ∀ {x : Addr} {o : HO}, H11 x = some o → (∀ kvs, o ≠ .dT kvs) → x ∉ [q] := fun hx ho => by simp [ne_of hx m11.hq (ho _)]
    have nA := n11.but bA (dq n11.ha (fun _ z => by cases z)) (by simp [Ne.symm qp]) (by simp [Ne.symm qt])
    have mA : BM (updW W (6, nxtM e.M 6) z) HA b q r 6 (e.M ++ [(6, nxtM e.M 6)]) e.B := ⟨bA _ _ (dq m11.hb (fun _ z => by cases z)) m11.hb, qA, bA _ _ (by simp [Ne.symm nqr]) m11.hr⟩
    have e11 := ((e7.same s8).same s810).same s11
    have g11 := ((g7.same s8).same s810).same s11
    have eo : ∀ {x : Addr} {o : HO}, H4 x = some o → x ≠ p ∧ x ≠ t ∧ x ≠ q ∧ x ≠ r := fun hx => ⟨ne_of_none hx p0, ne_of_none hx t0, ne_of_none ((s5.trans s6) _ _ hx) q0, ne_of_none ((s5.trans s6) _ _ hx) r0⟩
    have eA := e11.but bA (by simp [(eo e4.ha).2.2.1]) (by simp [(eo e4.hp).2.2.1]) (by simp [(eo e4.ht).2.2.1])
    have gA := g11.but bA (by simp [(eo g4.hb).2.2.1]) (by simp [(eo g4.hq).2.2.1]) (by simp [(eo g4.hr).2.2.1])
    have hmrA := bA _ _ (dq hmr11 (fun _ z => by cases z)) hmr11
    have labA := bA _ _ (dq w11.lab (fun _ z => by cases z)) w11.lab
    refine rs_ifOrK ?_
    refine k_call2K ?_
    refine kn_add (K := K) (z := z) (ev_var rfl) (ev_var rfl) nA hz2 nr fun r2 HB bB trB nB => ⟨_, rfl, Is (.bl true), ⟨.ref r2, .ref mr, rfl, rfl, .inl ⟨prD (6, nxtM e.M 6), trB, td_pair (bB _ _ (by simp [ne_of hmrA nA.hp (fun z => by cases z)]) hmrA), (prD_dn _).up.up⟩⟩, fun vC HC sC eC => ?_⟩
    cases eC
    refine ⟨true, rfl, ?_⟩
    rw [if_neg (by decide)]
    have mB := mA.but bB (by simp [ne_of mA.hb nA.hp (fun z => by cases z)]) (by simp [qp]) (by simp [rp])
    have eB := (eA.but bB (by simp [(eo e4.ha).1]) (by simp [(eo e4.hp).1]) (by simp [(eo e4.ht).1])).word (updW_of (z := z) nm)
    have gB := (gA.but bB (by simp [(eo g4.hb).1]) (by simp [(eo g4.hq).1]) (by simp [(eo g4.hr).1])).word (updW_of (z := z) nm)
    have labB := bB _ _ (by simp [ne_of labA nA.hp (fun z => by cases z)]) labA
    refine EvR.run (ev_shown (ev_var rfl) (ev_var rfl) (ev_var rfl) (nB.same sC) (mB.same sC) (sC _ _ labB) hz8 hz) fun vD HD sD eD => ?_
    cases eD
    refine ⟨true, rfl, ?_⟩
    rw [if_neg (by decide)]
    dsimp only [tNext]
    have sBD := sC.trans sD
    have nD := nB.same sBD
    have eD := eB.same sBD
    have gD := gB.same sBD
    have kf : knowsM (tab (updW W (6, nxtM e.M 6) z) e.M) e.B (tab (updW W (6, nxtM e.M 6) z) (e.M ++ [(6, nxtM e.M 6)])) e.B = false := by
      refine Bool.eq_false_iff.mpr fun c => nm ((knowsM_iff.mp c).1 _ (List.mem_append_right _ List.mem_cons_self))
    have kt : knowsM (tab (updW W (6, nxtM e.M 6) z) (e.M ++ [(6, nxtM e.M 6)])) e.B (tab (updW W (6, nxtM e.M 6) z) e.M) e.B = true := knowsM_iff.mpr ⟨fun x hx => List.mem_append_left _ hx, fun _ h => h⟩
    refine rs_asg (ev_lst (vs := [.bl false, .bl true]) (ea_cons (ev_know (ev_var rfl) (ev_var rfl) eD nD kf) (ea_cons (ev_know (ev_var rfl) (ev_var rfl) nD eD kt) ea_nilV)) (by show 2 ≤ sizeLine; decide)) fun vE HE sE hvE => ?_
    obtain ⟨fl, rfl, _, hfl⟩ := hvE
    refine rs_retL (P1 := Is (.bl true)) (ev_andV (b := true) (c := true) (ev_shown (ev_var rfl) (ev_var rfl) (ev_var rfl) (eD.same sE) (gD.same sE) (sE _ _ (sBD _ _ labB)) hz8 hz) fun _ => ev_opP (P1 := Is (.ref fl)) (P2 := fun v H' => ∃ l, v = .ref l ∧ H' l = some (.lst [.bl false, .bl true])) (ev_var rfl) (fun _ _ _ _ => (ev_lst (vs := [.bl false, .bl true]) (ea_cons ev_c (ea_cons ev_c ea_nilV)) (by show 2 ≤ sizeLine; decide)).imp fun v H' _ ⟨l, a, _, c⟩ => ⟨l, a, c⟩) fun x y HF HG fF ex fG hy => ?_) fun vH HH sH eH => ?_
    · cases ex
      obtain ⟨l, rfl, hl⟩ := hy
      exact rv_eqL (n := 1) (ds := [.bool false, .bool true]) ((fF.trans fG).nd hfl rfl) hl (.cons (.bl _) (.cons (.bl _) .nil)) (.cons (.bl _) (.cons (.bl _) .nil)) (fun d hd => by
        simp only [List.mem_cons, List.mem_nil_iff, or_false] at hd
        rcases hd with rfl | rfl <;> exact .bl _) (by decide)
    · cases eH
      have sDH := sE.trans sH
      have s411 : Same H4 H11 := ((s47.trans s8).trans s810).trans s11
      have new2 : ∀ x, H4 x = none → x ≠ hd ∧ H x = none := fun x hx => by
        obtain ⟨⟨o, ho⟩, _⟩ := w4.hand.some
        have ne : x ≠ hd := fun z => by rw [z, ho] at hx; cases hx
        exact ⟨ne, b04.noneOf hx (by simp [ne])⟩
      have q4 : H4 q = none := (Fx.of (s5.trans s6)).fresh q0
      have b0A : But [hd] H HA := (b04.same s411).freshT bA fun x hx => by
        rw [List.mem_singleton] at hx
        rw [hx]
        exact (new2 q q4).2
      have b0B : But [hd] H HB := b0A.freshT bB fun x hx => by
        rw [List.mem_singleton] at hx
        rw [hx]
        exact (new2 p p0).2
      have b4B : But [q, p] H4 HB := But.trans (But.trans (But.of s411) (bA.mono (by simp))) (bB.mono (by simp))
      have hhB : HandAt HB hd ca := by
        obtain ⟨⟨o, ho⟩, o2, ho2⟩ := w4.hand.some
        have e1 := eo ho
        have e2 := eo ho2
        exact w4.hand.but b4B (by simp [e1.1, e1.2.2.1]) (by simp [e2.1, e2.2.2.1])
      exact fin HH (b0B.same (sBD.trans sDH)) (hhB.same (sBD.trans sDH))
end N88
/-! what stands -/
namespace N88
open PySem L2 PySem.Spec
variable {P : Program} {w : World} {K : PySem.W.Frag} {mg : Str → Option Value} {base : Heap} {C aO : Addr} {t8 : Tok} {Tt : List (Addr × Str)}
theorem mem_raw {W : PI2 → Str} {M B : List PI2} {z : Str} {x : PI2} : x ∈ rawM (tab W M) B z ↔ x ∈ M ∧ W x = z ∧ x ∉ B := by
  unfold rawM
  rw [(sortP_perm _).mem_iff, List.mem_map]
  constructor
  · rintro ⟨p, hp, rfl⟩
    have h := List.mem_filter.mp hp
    obtain ⟨m, hm, rfl⟩ := List.mem_map.mp h.1
    have h2 := h.2
    rw [Bool.and_eq_true] at h2
    refine ⟨hm, of_decide_eq_true h2.1, fun c => ?_⟩
    have h3 := h2.2
    rw [List.contains_iff_mem.mpr c] at h3
    cases h3
  · rintro ⟨h1, h2, h3⟩
    refine ⟨(x, W x), List.mem_filter.mpr ⟨List.mem_map.mpr ⟨x, h1, rfl⟩, ?_⟩, rfl⟩
    rw [Bool.and_eq_true]
    refine ⟨decide_eq_true h2, ?_⟩
    rw [Bool.not_eq_true']
    exact Bool.eq_false_iff.mpr fun c => h3 (List.contains_iff_mem.mp c)
theorem raw_nil {W : PI2 → Str} {M B : List PI2} {z : Str} (h : ∀ x ∈ M, W x = z → x ∈ B) : rawM (tab W M) B z = [] := List.eq_nil_iff_forall_not_mem.mpr fun x hx => by
  obtain ⟨h1, h2, h3⟩ := mem_raw.mp hx
  exact h3 (h x h1 h2)
theorem raw_one {W : PI2 → Str} {M B : List PI2} {z : Str} {m : PI2} (hM : M.Nodup) (hm : m ∈ M) (hw : W m = z) (hb : m ∉ B) (h : ∀ x ∈ M, W x = z → x ≠ m → x ∈ B) : rawM (tab W M) B z = [m] := by
  have nd : (rawM (tab W M) B z).Nodup := rawM_nd (by rw [tab_keys]; exact hM)
  have p : (rawM (tab W M) B z).Perm [m] := (List.perm_ext_iff_of_nodup nd (by simp)).mpr fun x => by
    rw [mem_raw, List.mem_singleton]
    constructor
    · rintro ⟨h1, h2, h3⟩
      by_cases e : x = m
      · exact e
      · exact absurd (h x h1 h2 e) h3
    · rintro rfl
      exact ⟨hm, hw, hb⟩
  exact List.perm_singleton.mp p
theorem not_word {W : PI2 → Str} {M B : List PI2} {z : Str} (h : ∀ x ∈ M, W x = z → x ∈ B) : z ∉ allW (tab W M) B := fun hx => by
  unfold allW at hx
  have h2 := uniqW_mem.mp ((srtS_perm _).mem_iff.mp hx)
  obtain ⟨p, hp, e⟩ := List.mem_map.mp h2
  have h3 := List.mem_filter.mp hp
  obtain ⟨m, hm, rfl⟩ := List.mem_map.mp h3.1
  have h4 := h3.2
  rw [List.contains_iff_mem.mpr (h m hm e)] at h4
  cases h4
theorem tdAll_strs_inv {H : Hp} : ∀ {xs : List V} {ws : List Str}, TdAll K H xs (ws.map PyData.str) → xs = ws.map V.str
  | [], [], _ => rfl
  | _ :: _, [], h => by cases h
  | [], _ :: _, h => by cases h
  | _ :: _, _ :: _, .cons a b => by
    cases a
    rw [tdAll_strs_inv b]
    rfl
theorem inV_strs {z : Str} {ws : List Str} (h : z ∉ ws) : inV (.str z) (ws.map V.str) = false := by
  unfold inV
  rw [List.any_map]
  refine List.any_eq_false.mpr fun y hy => ?_
  have : y ≠ z := fun e => h (e ▸ hy)
  simp [eqV, this]
/-- z in words: no -/
theorem ev_notin {σ : L2.St} {H : Hp} {te1 te2 : TE} {z : Str} {ws : List Str} (h1 : EvR (te1 σ) H (Is (.str z))) (h2 : EvR (te2 σ) H (D K (.tuple (ws.map PyData.str)))) (hz : z ∉ ws) : EvR (tOp (rIn K false) te1 te2 σ) H (Is (.bl false)) :=
  ev_opP h1 (fun _ H1 f _ => h2.mono f) fun x y H1 H2 f1 e1 f2 hy => by
    cases e1
    cases hy with | tup ha hd =>
    have e := tdAll_strs_inv hd
    subst e
    exact ev_is (rv_inT (SqT.of ha) rfl (by rw [List.all_map]; exact List.all_eq_true.mpr fun _ _ => rfl)) (by rw [inV_strs hz])
theorem kn_drop {σ : L2.St} {H : Hp} {E : XK} {Q : VK} {W : PI2 → Str} {a dx p t : Addr} {pen : Int} {M B : List PI2} {z : Str} {te te2 : TE} (h1 : EvR (te σ) H (Is (.ref a))) (h2 : EvR (te2 σ) H (Is (.str z))) (n : NM C W H a dx p t pen M B) (hz : z ∈ labels8) (hne : rawM (tab W M) B z ≠ [])
    (k : ∀ H', But [t] H H' → NM C W H' a dx p t pen M (mrg B (rawM (tab W M) B z)) → Q .non H') : tMeth C (Str.ofString "drop") (SpDrop C) [] E te (tCons te2 tNil) σ H Q := by
  refine k_meth (vs := [.str z]) h1 n.ha (nbf_no (by decide +kernel)) (ea_cons h2 ea_nilV) fun H1 s1 => ⟨a, dx, p, t, pen, tab W M, B, z, rfl, n.nb.fx (Fx.of s1), n.fit, hz, s1 _ _ n.ht, hne, fun H2 b2 ht2 => ?_⟩
  have b02 : But [t] H H2 := But.trans (But.of s1) b2
  exact k H2 b02 ⟨b02 _ _ (by simp [ne_of n.ha n.ht (fun z => by cases z)]) n.ha, b02 _ _ (by simp [n.ne]) n.hp, ht2, n.ne, n.fM, n.fB.mrg (fit_raw n.fit), n.hw⟩
theorem ev_words {σ : L2.St} {H : Hp} {E : XK} {W : PI2 → Str} {a dx p t : Addr} {pen : Int} {M B : List PI2} {te : TE} (h1 : EvR (te σ) H (Is (.ref a))) (n : NM C W H a dx p t pen M B) : EvR (tMeth C (Str.ofString "all_words") (SpOf (preWords K C)) [] E te tNil σ) H (D K (.tuple ((allW (tab W M) B).map PyData.str))) :=
  ev_meth0 h1 n.ha (nbf_no (by decide +kernel)) fun H' g => ⟨_, _, _, _, _, _, _, rfl, n.nb.fx g, n.fit, rfl⟩
theorem ev_marks {σ : L2.St} {H : Hp} {E : XK} {W : PI2 → Str} {a dx p t : Addr} {pen : Int} {M B : List PI2} {z : Str} {te te2 : TE} {d : PyData} (h1 : EvR (te σ) H (Is (.ref a))) (h2 : EvR (te2 σ) H (Is (.str z))) (n : NM C W H a dx p t pen M B) (hz : z ∈ labels8) (hd : .tuple ((rawM (tab W M) B z).map prD) = d) :
    EvR (tMeth C (Str.ofString "marks_of") (SpOf (preMarks K C)) [] E te (tCons te2 tNil) σ) H (D K d) := by
  subst hd
  exact ev_meth (vs := [.str z]) h1 n.ha (nbf_no (by decide +kernel)) (ea_cons h2 ea_nilV) fun H' g => ⟨_, _, _, _, _, _, _, _, rfl, n.nb.fx g, n.fit, lab8 z hz, rfl⟩
def NewD (K : PySem.W.Frag) (ds : List PyData) : V → Hp → Prop := fun v H2 => ∃ p ys, v = .ref p ∧ H2 p = some (.lst ys) ∧ TdAll K H2 ys ds
theorem ev_lstD {σ : L2.St} {H : Hp} {ta : L2.TA} {ds : List PyData} (h : EvA (ta σ) H (DA K ds)) (hl : ds.length ≤ sizeLine) : EvR (tLst ta σ) H (NewD K ds) := fun H1 g Q q =>
  h H1 g _ fun vs H2 s p => ⟨by rw [p.len]; exact hl, fun a ha => q _ _ (s.trans (same_new ha)) ⟨a, vs, rfl, upd_same, p.tm (Tm.new ha)⟩⟩
/-- _law_is of two lists of the same data -/
theorem ev_isL {σ : L2.St} {H : Hp} {E : XK} {te1 te2 : TE} {ds : List PyData} (h1 : EvR (te1 σ) H (NewD K ds)) (h2 : EvR (te2 σ) H (NewD K ds)) (hd : ∀ d ∈ ds, Dn 3 d) (hl : ds.length ≤ 4096) : EvR (tCall (SpOf (preIs K 4)) [] E (tCons te1 (tCons te2 tNil)) σ) H (Is (.bl true)) := fun H1 g Q q =>
  h1 H1 g _ fun v1 H2 s1 p1 => (h2.mono (g.same s1)).run fun v2 H3 s2 p2 => by
    obtain ⟨a, xs, rfl, ha, hx⟩ := p1
    obtain ⟨b, ys, rfl, hb, hy⟩ := p2
    exact ⟨Is (.bl true), ⟨.ref a, .ref b, rfl, rfl, .inr ⟨a, b, xs, ys, ds, rfl, rfl, s2 _ _ ha, hb, hx.tm (Fx.of s2).tm, hy, hl, by decide, hd⟩⟩, fun v H4 s4 e => q v H4 ((s1.trans s2).trans s4) e⟩
def SpStand (Tt : List (Addr × Str)) (C : Addr) : Sp := fun vs H Q _ => ∃ (hd ca lb ns bs : Addr) (zs : List Str) (W : PI2 → Str) (S : List Ent) (k : Int), vs = [.ref hd, .ref ns, .ref bs, .ref lb] ∧ Wd Tt C H hd ca lb ns bs zs W S ∧ Good W S k ∧ (∀ z ∈ zs, z ∈ labels8) ∧ 0 < zs.length ∧ zs.length ≤ 8 ∧ 0 < S.length ∧ S.length ≤ 9 ∧ 0 ≤ k ∧ k < 63 ∧
  ∀ H', But [hd] H H' → HandAt H' hd ca → Q (.bl true) H'
theorem ok_stand {f : Addr} {fd : FuncData} (F : Fun K "_law_does_stand" "_law_does_stand" s_law_does_stand f fd) (T : Txt K mg C aO t8) (c__law_some : Cal P w K mg base "_law_some" 2 p_law_some SpSome) (c_Notebook_copy : MCal P w K mg base C "copy" 6 p_Notebook_copy (SpCopy P w C)) (c_Notebook_add : MCal P w K mg base C "add" 3 p_Notebook_add (SpAdd C))
    (c_Notebook_meet : MCal P w K mg base C "meet" 2 p_Notebook_meet (SpMeet P w C)) (c_Notebook_drop : MCal P w K mg base C "drop" 3 p_Notebook_drop (SpDrop C)) (c_Notebook_all_words : MCal P w K mg base C "all_words" 1 p_Notebook_all_words (SpOf (preWords K C))) (c_Notebook_marks_of : MCal P w K mg base C "marks_of" 3 p_Notebook_marks_of (SpOf (preMarks K C)))
    (c__law_is : Cal P w K mg base "_law_is" 5 p_law_is (SpOf (preIs K 4))) (c_Notebook_all_told : MCal P w K mg base C "all_told" 1 p_Notebook_all_told (SpOf (preTold K C))) : FnOk P w K mg base CX0 8 f fd p_law_does_stand (SpStand Tt C) := by
  refine F.ok sc_law_does_stand (fun vs H Q E h => ?_) (fun cdv A outer s H vs Q E hr h => ?_)
  · obtain ⟨hd, ca, lb, ns, bs, zs, W, S, k, rfl, _⟩ := h
    rfl
  · obtain ⟨hd, ca, lb, ns, bs, zs, W, S, k, rfl, wd, gd, hz, hz0, hz8, hS0, hS9, hk0, hk, fin⟩ := h
    have hu := hr.units
    have hu1 := hu_of hr
    refine ⟨_, (pss_cons (ps_set (i := 4) sc_law_does_stand.nd rfl (.inl rfl) (pe_call c__law_some.ok (hr.mono (by first | decide | omega)) (by rfl) c__law_some.at_ c__law_some.kp c__law_some.b .nil pass0 (pa_cons (pv 0) (pa_cons (pv 3) pa_nil))))
      (pss_cons (ps_par (i := 5) (j := 6) rfl sc_law_does_stand.nd rfl rfl (by decide) rfl rfl (pa_cons (pe_meth (pe_ix (k_ix (K' := K) rfl) (pv 1) pe_int (fun _ _ => rfl)) T.cl c_Notebook_copy.m c_Notebook_copy.ok (hr.mono (by first | decide | omega)) c_Notebook_copy.b .nil pass0 (pa_cons pe_int pa_nil)) (pa_cons (pe_meth (pe_ix (k_ix (K' := K) rfl) (pv 1) pe_int (fun _ _ => rfl)) T.cl c_Notebook_copy.m c_Notebook_copy.ok (hr.mono (by first | decide | omega)) c_Notebook_copy.b .nil pass0 (pa_cons pe_int pa_nil)) pa_nil)) (by rfl))
      (pss_cons (ps_expr (pe_meth (pv 5) T.cl c_Notebook_add.m c_Notebook_add.ok (hr.mono (by first | decide | omega)) c_Notebook_add.b .nil pass0 (pa_cons (pv 4) pa_nil)))
      (pss_cons (ps_expr (pe_meth (pv 6) T.cl c_Notebook_meet.m c_Notebook_meet.ok (hr.mono (by first | decide | omega)) c_Notebook_meet.b .nil pass0 (pa_cons (pv 5) pa_nil)))
      (pss_cons (ps_set (i := 7) sc_law_does_stand.nd rfl (.inl rfl) (pe_meth (pv 6) T.cl c_Notebook_add.m c_Notebook_add.ok (hr.mono (by first | decide | omega)) c_Notebook_add.b .nil pass0 (pa_cons (pv 4) pa_nil)))
      (pss_cons (ps_expr (pe_meth (pv 5) T.cl c_Notebook_drop.m c_Notebook_drop.ok (hr.mono (by first | decide | omega)) c_Notebook_drop.b .nil pass0 (pa_cons (pv 4) pa_nil)))
      (pss_cons (ps_if (PW.pt (pw_or (pt_cmpR (k_in (K' := K) rfl) (pv 4) (pe_meth0 (pv 5) T.cl c_Notebook_all_words.m c_Notebook_all_words.ok (hr.mono (by first | decide | omega)) c_Notebook_all_words.b .nil pass0) (by rfl)) (pw_or1 (pt_cmpR (k_neD (K' := K) rfl hu) (pe_meth (pv 5) T.cl c_Notebook_marks_of.m c_Notebook_marks_of.ok (hr.mono (by first | decide | omega)) c_Notebook_marks_of.b .nil pass0 (pa_cons (pv 4) pa_nil)) (pe_tup pa_nil) (nomark _))))) (pss_one (ps_ret pe_bl)) pss_nil)
      (pss_cons (ps_expr (pe_meth (pv 5) T.cl c_Notebook_meet.m c_Notebook_meet.ok (hr.mono (by first | decide | omega)) c_Notebook_meet.b .nil pass0 (pa_cons (pv 6) pa_nil)))
      (pss_cons (ps_expr (pe_meth (pv 6) T.cl c_Notebook_meet.m c_Notebook_meet.ok (hr.mono (by first | decide | omega)) c_Notebook_meet.b .nil pass0 (pa_cons (pv 5) pa_nil)))
      (pss_cons (ps_if (pt_not (pt_val (pe_call c__law_is.ok (hr.mono (by first | decide | omega)) (by rfl) c__law_is.at_ c__law_is.kp c__law_is.b .nil pass0 (pa_cons (pe_lst (pa_cons (pe_meth (pv 5) T.cl c_Notebook_marks_of.m c_Notebook_marks_of.ok (hr.mono (by first | decide | omega)) c_Notebook_marks_of.b .nil pass0 (pa_cons (pv 4) pa_nil)) (pa_cons (pe_meth (pv 6) T.cl c_Notebook_marks_of.m c_Notebook_marks_of.ok (hr.mono (by first | decide | omega)) c_Notebook_marks_of.b .nil pass0 (pa_cons (pv 4) pa_nil)) pa_nil))) (pa_cons (pe_lst (pa_cons (pe_tup (pa_cons (pv 7) pa_nil)) (pa_cons (pe_tup (pa_cons (pv 7) pa_nil)) pa_nil))) pa_nil))))) (pss_one (ps_ret pe_bl)) pss_nil)
      (pss_cons (ps_expr (pe_meth (pv 6) T.cl c_Notebook_drop.m c_Notebook_drop.ok (hr.mono (by first | decide | omega)) c_Notebook_drop.b .nil pass0 (pa_cons (pv 4) pa_nil)))
      (pss_cons (ps_expr (pe_meth (pv 5) T.cl c_Notebook_meet.m c_Notebook_meet.ok (hr.mono (by first | decide | omega)) c_Notebook_meet.b .nil pass0 (pa_cons (pv 6) pa_nil)))
      (pss_cons (ps_if (PW.pt (pw_or (pt_cmpR (k_in (K' := K) rfl) (pv 4) (pe_meth0 (pv 5) T.cl c_Notebook_all_words.m c_Notebook_all_words.ok (hr.mono (by first | decide | omega)) c_Notebook_all_words.b .nil pass0) (by rfl)) (pw_or1 (pt_cmpR (k_in (K' := K) rfl) (pv 4) (pe_meth0 (pv 6) T.cl c_Notebook_all_words.m c_Notebook_all_words.ok (hr.mono (by first | decide | omega)) c_Notebook_all_words.b .nil pass0) (by rfl))))) (pss_one (ps_ret pe_bl)) pss_nil)
      (pss_one (ps_ret (pe_cmpR (k_eqD (K' := K) rfl hu) (pe_meth0 (pv 5) T.cl c_Notebook_all_told.m c_Notebook_all_told.ok (hr.mono (by first | decide | omega)) c_Notebook_all_told.b .nil pass0) (pe_meth0 (pv 6) T.cl c_Notebook_all_told.m c_Notebook_all_told.ok (hr.mono (by first | decide | omega)) c_Notebook_all_told.b .nil pass0) (nomark _))))))))))))))))), ?_⟩
    have nlh : lb ≠ hd := by
      have ls := wd.ls
      simp only [List.nodup_cons, List.mem_cons, List.mem_nil_iff, or_false, not_or] at ls
      exact fun z => ls.1.2.1 z.symm
    refine rs_asgK (k_call (vs := [.ref hd, .ref lb]) (ea_cons (ev_var rfl) (ea_cons (ev_var rfl) ea_nilV)) fun H1 s1 => ⟨hd, ca, lb, zs.map V.str, rfl, nlh, s1 _ _ wd.lab, by rw [List.length_map]; omega, by rw [List.length_map]; omega, (wd.same s1).hand, fun v H2 hv b2 h2 => ?_⟩)
    have w2 := (wd.same s1).drawn b2 h2
    have b02 : But [hd] H H2 := But.trans (But.of s1) b2
    obtain ⟨z, hz1, rfl⟩ := List.mem_map.mp hv
    have hz2 := hz z hz1
    obtain ⟨e, he⟩ : ∃ e, S[0]? = some e := ⟨_, List.getElem?_eq_getElem hS0⟩
    have hem := mem_at he
    have fe := gd.fit e hem
    have sub0 := gd.sub e hem
    have num0 := gd.num e hem
    have e2 := (w2.ents e hem).nm (w2.d1 e hem) fe.1 fe.2 (gd.wd e hem)
    have at0 : ∀ {H' : Hp}, Wd Tt C H' hd ca lb ns bs zs W S → ∀ {σ : L2.St}, σ[1]? = some (some (.ref ns)) → EvR (tOp (rIxU K) (tVar 1) (tC (.int 0)) σ) H' (Is (.ref e.a)) := fun {H'} w' {σ} hσ => ev_ix (ev_var hσ) (SqL.of w'.nsl) (by
      have h0 : 0 < (S.map fun e => V.ref e.a).length := by rw [List.length_map]; exact hS0
      rw [show ((0 : Int)) = ((0 : Nat) : Int) from rfl, atI_nat h0, List.getElem?_map, he]
      rfl)
    refine rs_parK (kn_copy (wr := 4) (at0 w2 rfl) ev_c e2 (by decide) (by decide) fun H3 a dx p t s3 n3 p0 t0 => kn_copy (wr := 5) (at0 (w2.same s3) rfl) ev_c (e2.same s3) (by decide) (by decide) fun H4 a' dx' p' t' s4 m4 p0' t0' => ⟨_, _, rfl, ?_⟩)
    have n4 := n3.same s4
    have x1 : p ≠ p' := ne_of_none n3.hp p0'
    have x2 : p ≠ t' := ne_of_none n3.hp t0'
    have x3 : t ≠ p' := ne_of_none n3.ht p0'
    have x4 : t ≠ t' := ne_of_none n3.ht t0'
    have b4 : But [p, t, p', t'] H2 H4 := But.of (s3.trans s4)
    -- what a change of one leaves of the other
    have keepO : ∀ {W' : PI2 → Str} {G G' : Hp} {pen : Int} {M B : List PI2} {X : List Addr}, NM C W' G a' dx' p' t' pen M B → But X G G' → (∀ x ∈ X, x = p ∨ x = t) → (∃ kv, G p = some (.dT kv)) → (∃ kv, G t = some (.dT kv)) → NM C W' G' a' dx' p' t' pen M B := fun {W' G G' pen M B X} n b hX ⟨kp, hp⟩ ⟨kt, ht⟩ => by
      refine n.but b (fun c => ?_) (fun c => ?_) fun c => ?_
      · rcases hX _ c with z | z
        · exact ne_of n.ha hp (fun z => by cases z) z
        · exact ne_of n.ha ht (fun z => by cases z) z
      · rcases hX _ c with z | z
        · exact x1 z.symm
        · exact x3 z.symm
      · rcases hX _ c with z | z
        · exact x2 z.symm
        · exact x4 z.symm
    have keep1 : ∀ {W' : PI2 → Str} {G G' : Hp} {pen : Int} {M B : List PI2} {X : List Addr}, NM C W' G a dx p t pen M B → But X G G' → (∀ x ∈ X, x = p' ∨ x = t') → (∃ kv, G p' = some (.dT kv)) → (∃ kv, G t' = some (.dT kv)) → NM C W' G' a dx p t pen M B := fun {W' G G' pen M B X} n b hX ⟨kp, hp⟩ ⟨kt, ht⟩ => by
      refine n.but b (fun c => ?_) (fun c => ?_) fun c => ?_
      · rcases hX _ c with z | z
        · exact ne_of n.ha hp (fun z => by cases z) z
        · exact ne_of n.ha ht (fun z => by cases z) z
      · rcases hX _ c with z | z
        · exact x1 z
        · exact x2 z
      · rcases hX _ c with z | z
        · exact x3 z
        · exact x4 z
    have inr : ∀ (pen : Int) (M : List PI2), 0 ≤ pen → pen ≤ 8 → nxtM M pen < 64 → InR (pen, nxtM M pen) := fun pen M h1 h2 h3 => ⟨⟨h1, h2⟩, nxtM_nn, h3⟩
    have nn4 : nxtM e.M 4 ≤ k := nxtM_le hk0 num0
    -- one.add(word)
    refine rs_dropK (kn_add (K := K) (z := z) (ev_var rfl) (ev_var rfl) n4 hz2 (inr 4 _ (by decide) (by decide) (by omega)) fun r5 H5 b5 _ n5 => ?_)
    generalize hm1 : ((4 : Int), nxtM e.M 4) = m1 at *
    have nm1 : m1 ∉ e.M := hm1 ▸ nxtM_new
    have m1w : updW W m1 z m1 = z := if_pos rfl
    have m5 := (keepO m4 b5 (by simp) ⟨_, n4.hp⟩ ⟨_, n4.ht⟩).word (updW_of (z := z) nm1)
    have b05 : But [p, t, p', t'] H2 H5 := But.trans b4 (b5.mono (by simp))
    -- other.meet(one)
    refine rs_dropK (kn_meet (ev_var rfl) (ev_var rfl) m5 n5 (Ne.symm x3) fun H6 b6 m6 => ?_)
    rw [mrg_self] at m6
    have n6 := keep1 n5 b6 (by simp) ⟨_, m5.hp⟩ ⟨_, m5.ht⟩
    have b06 : But [p, t, p', t'] H2 H6 := But.trans b05 (b6.mono (by simp))
    generalize hMo : mrg e.M (e.M ++ [m1]) = Mo at *
    have memMo : ∀ x, x ∈ Mo ↔ x ∈ e.M ∨ x = m1 := fun x => by
      rw [← hMo, mem_mrg, List.mem_append, List.mem_singleton]
      exact ⟨fun h => h.elim .inl id, .inr⟩
    have nn5 : nxtM Mo 5 ≤ k + 1 := nxtM_le (by omega) fun m hm => by
      rcases (memMo m).mp hm with c | c
      · have := num0 m c
        omega
      · rw [c, ← hm1]
        show nxtM e.M 4 < k + 1
        omega
    -- mark = other.add(word)
    refine rs_asgK (kn_add (K := K) (z := z) (ev_var rfl) (ev_var rfl) m6 hz2 (inr 5 _ (by decide) (by decide) (by omega)) fun r7 H7 b7 tr7 m7 => ?_)
    generalize hm2 : ((5 : Int), nxtM Mo 5) = m2 at *
    have nm2 : m2 ∉ Mo := hm2 ▸ nxtM_new
    have nm21 : m2 ∉ e.M ++ [m1] := fun c => nm2 ((memMo m2).mpr ((List.mem_append.mp c).imp id List.mem_singleton.mp))
    generalize hW2 : updW (updW W m1 z) m2 z = W2 at *
    have n7 := (keep1 n6 b7 (by simp) ⟨_, m6.hp⟩ ⟨_, m6.ht⟩).word (updW_of (z := z) nm21)
    rw [hW2] at n7
    have w2m2 : W2 m2 = z := by rw [← hW2]; exact if_pos rfl
    have w2m1 : W2 m1 = z := by
      rw [← hW2]
      unfold updW
      split
      · rfl
      · rw [if_pos rfl]
    have b07 : But [p, t, p', t'] H2 H7 := But.trans b06 (b7.mono (by simp))
    have m12 : m1 ≠ m2 := fun c => nm2 ((memMo m2).mpr (.inr c.symm))
    have m1B : m1 ∉ e.B := fun c => nm1 (sub0 m1 c)
    have m2B : m2 ∉ e.B := fun c => nm2 ((memMo m2).mpr (.inl (sub0 m2 c)))
    -- one.drop(word)
    have mem1 : ∀ x, x ∈ e.M ++ [m1] ↔ x ∈ e.M ∨ x = m1 := fun x => by rw [List.mem_append, List.mem_singleton]
    have in1 : m1 ∈ rawM (tab W2 (e.M ++ [m1])) e.B z := mem_raw.mpr ⟨(mem1 m1).mpr (.inr rfl), w2m1, m1B⟩
    refine rs_dropK (kn_drop (ev_var rfl) (ev_var rfl) n7 hz2 (fun c => by rw [c] at in1; cases in1) fun H8 b8 n8 => ?_)
    have m8 := keepO m7 b8 (by simp) ⟨_, n7.hp⟩ ⟨_, n7.ht⟩
    have tr8 : Td K H8 (.ref r7) (prD m2) := tr7.tm (fun x xs hx => b8 x _ (by simp [ne_of hx n7.ht (fun z => by cases z)]) hx)
    have b08 : But [p, t, p', t'] H2 H8 := But.trans b07 (b8.mono (by simp))
    generalize hB1 : mrg e.B (rawM (tab W2 (e.M ++ [m1])) e.B z) = B1 at *
    have memB1 : ∀ x, x ∈ B1 ↔ x ∈ e.B ∨ (x ∈ e.M ∨ x = m1) ∧ W2 x = z ∧ x ∉ e.B := fun x => by rw [← hB1, mem_mrg, mem_raw, mem1]
    have m2B1 : m2 ∉ B1 := fun c => by
      rcases (memB1 m2).mp c with d | ⟨d, _, _⟩
      · exact m2B d
      · exact nm2 ((memMo m2).mpr d)
    have all1 : ∀ x, (x ∈ e.M ∨ x = m1) → W2 x = z → x ∈ B1 := fun x hx hw => (memB1 x).mpr (by
      by_cases c : x ∈ e.B
      · exact .inl c
      · exact .inr ⟨hx, hw, c⟩)
    have r0 : rawM (tab W2 (e.M ++ [m1])) B1 z = [] := raw_nil fun x hx hw => all1 x ((mem1 x).mp hx) hw
    have nw0 : z ∉ allW (tab W2 (e.M ++ [m1])) B1 := not_word fun x hx hw => all1 x ((mem1 x).mp hx) hw
    have dnT : Dn 3 (.tuple []) := .tup (by simp) fun d hd => by cases hd
    refine rs_ifR (b := false) (et_or (b := false) (c := false) (et_test (ev_notin (ev_var rfl) (ev_words (ev_var rfl) n8) nw0)) fun _ => et_test (ev_neSame (d := .tuple []) (ev_marks (ev_var rfl) (ev_var rfl) n8 hz2 (by rw [r0]; rfl)) (ev_tupD ea_nilD (by show 0 ≤ sizeLine; decide)) dnT (by decide))) (fun e => nomatch e) fun _ H9 s9 => ?_
    have n9 := n8.same s9
    have m9 := m8.same s9
    have tr9 := tr8.tm (Fx.of s9).tm
    have b09 : But [p, t, p', t'] H2 H9 := But.trans b08 (But.of s9)
    have tmB : ∀ {G G' : Hp} {X : List Addr}, But X G G' → (∀ x ∈ X, ∃ kv, G x = some (.dT kv)) → Tm G G' := fun {G G' X} b hX x xs hx => b x _ (fun c => by
      obtain ⟨kv, hk⟩ := hX x c
      rw [hx] at hk
      cases hk) hx
    have two : ∀ {G : Hp} {u v : Addr} {kv kv2 : List (List L2.Key × V)}, G u = some (.dT kv) → G v = some (.dT kv2) → ∀ x ∈ [u, v], ∃ kv, G x = some (.dT kv) := fun h1 h2 x hx => by
      simp only [List.mem_cons, List.mem_nil_iff, or_false] at hx
      rcases hx with rfl | rfl
      · exact ⟨_, h1⟩
      · exact ⟨_, h2⟩
    -- one.meet(other); other.meet(one)
    refine rs_dropK (kn_meet (ev_var rfl) (ev_var rfl) n9 m9 x2 fun H10 b10 n10 => ?_)
    have m10 := keepO m9 b10 (by simp) ⟨_, n9.hp⟩ ⟨_, n9.ht⟩
    have tr10 := tr9.tm (tmB b10 (two n9.hp n9.ht))
    have b010 : But [p, t, p', t'] H2 H10 := But.trans b09 (b10.mono (by simp))
    refine rs_dropK (kn_meet (ev_var rfl) (ev_var rfl) m10 n10 (Ne.symm x3) fun H11 b11 m11 => ?_)
    have n11 := keep1 n10 b11 (by simp) ⟨_, m10.hp⟩ ⟨_, m10.ht⟩
    have tr11 := tr10.tm (tmB b11 (two m10.hp m10.ht))
    have b011 : But [p, t, p', t'] H2 H11 := But.trans b010 (b11.mono (by simp))
    generalize hN : mrg (e.M ++ [m1]) (Mo ++ [m2]) = N at *
    have memN : ∀ x, x ∈ N ↔ (x ∈ e.M ∨ x = m1) ∨ x = m2 := fun x => by
      rw [← hN, mem_mrg, mem1, List.mem_append, List.mem_singleton, memMo]
      exact ⟨fun h => h.elim .inl id, fun h => h.elim .inl fun c => .inr (.inr c)⟩
    generalize hD : mrg B1 e.B = D1 at *
    have memD : ∀ x, x ∈ D1 ↔ x ∈ B1 ∨ x ∈ e.B := fun x => by rw [← hD, mem_mrg]
    generalize hM2 : mrg (Mo ++ [m2]) N = M2 at *
    have memM2 : ∀ x, x ∈ M2 ↔ (x ∈ e.M ∨ x = m1) ∨ x = m2 := fun x => by
      rw [← hM2, mem_mrg, memN, List.mem_append, List.mem_singleton, memMo]
      exact ⟨fun h => h.elim id id, .inr⟩
    generalize hB2 : mrg e.B D1 = B2 at *
    have memB2 : ∀ x, x ∈ B2 ↔ x ∈ e.B ∨ x ∈ D1 := fun x => by rw [← hB2, mem_mrg]
    have m2D : m2 ∉ D1 := fun c => ((memD m2).mp c).elim m2B1 m2B
    have m2B2 : m2 ∉ B2 := fun c => ((memB2 m2).mp c).elim m2B m2D
    have r1 : rawM (tab W2 N) D1 z = [m2] := raw_one n11.fM.nd ((memN m2).mpr (.inr rfl)) w2m2 m2D fun x hx hw ne => (memD x).mpr (.inl (all1 x (((memN x).mp hx).resolve_right ne) hw))
    have r2 : rawM (tab W2 M2) B2 z = [m2] := raw_one m11.fM.nd ((memM2 m2).mpr (.inr rfl)) w2m2 m2B2 fun x hx hw ne => (memB2 x).mpr (.inr ((memD x).mpr (.inl (all1 x (((memM2 x).mp hx).resolve_right ne) hw))))
    have dn1 : Dn 3 (.tuple [prD m2]) := .tup (by simp) fun d hd => by
      rw [List.mem_singleton] at hd
      rw [hd]
      exact prD_dn _
    have tup1 : ∀ {σ : L2.St} {G : Hp}, σ[6]? = some (some (.ref r7)) → Td K G (.ref r7) (prD m2) → EvR (tTup (tCons (tVar 6) tNil) σ) G (D K (.tuple [prD m2])) := fun {σ G} h1 h2 => ev_tupD (ea_consD (ev_varD h1 h2) ea_nilD) (by show 1 ≤ sizeLine; decide)
    refine rs_ifR (b := false) (et_not (b := true) (et_B (ev_isL (ds := [.tuple [prD m2], .tuple [prD m2]]) (ev_lstD (ea_consD (ev_marks (ev_var rfl) (ev_var rfl) n11 hz2 (by rw [r1]; rfl)) (ea_consD (ev_marks (ev_var rfl) (ev_var rfl) m11 hz2 (by rw [r2]; rfl)) ea_nilD)) (by show 2 ≤ sizeLine; decide))
      (ev_lstD (ea_consD (tup1 rfl tr11) (ea_consD (tup1 rfl tr11) ea_nilD)) (by show 2 ≤ sizeLine; decide)) (fun d hd => by
        simp only [List.mem_cons, List.mem_nil_iff, or_false] at hd
        rcases hd with rfl | rfl <;> exact dn1) (by simp)))) (fun e => nomatch e) fun _ H12 s12 => ?_
    have n12 := n11.same s12
    have m12' := m11.same s12
    have b012 : But [p, t, p', t'] H2 H12 := But.trans b011 (But.of s12)
    -- other.drop(word); one.meet(other)
    refine rs_dropK (kn_drop (ev_var rfl) (ev_var rfl) m12' hz2 (by rw [r2]; simp) fun H13 b13 m13 => ?_)
    rw [r2] at m13
    have n13 := keep1 n12 b13 (by simp) ⟨_, m12'.hp⟩ ⟨_, m12'.ht⟩
    have b013 : But [p, t, p', t'] H2 H13 := But.trans b012 (b13.mono (by simp))
    refine rs_dropK (kn_meet (ev_var rfl) (ev_var rfl) n13 m13 x2 fun H14 b14 n14 => ?_)
    have m14 := keepO m13 b14 (by simp) ⟨_, n13.hp⟩ ⟨_, n13.ht⟩
    have b014 : But [p, t, p', t'] H2 H14 := But.trans b013 (b14.mono (by simp))
    have memB3 : ∀ x, x ∈ mrg B2 [m2] ↔ x ∈ B2 ∨ x = m2 := fun x => by rw [mem_mrg, List.mem_singleton]
    have memN2 : ∀ x, x ∈ mrg N M2 ↔ x ∈ M2 := fun x => by
      rw [mem_mrg, memN, memM2]
      exact ⟨fun h => h.elim id id, .inr⟩
    have memD2 : ∀ x, x ∈ mrg D1 (mrg B2 [m2]) ↔ x ∈ mrg B2 [m2] := fun x => by
      rw [mem_mrg, memB3, memB2]
      exact ⟨fun h => h.elim (fun c => .inl (.inr c)) id, .inr⟩
    have last : ∀ x ∈ M2, W2 x = z → x ∈ mrg B2 [m2] := fun x hx hw => (memB3 x).mpr (by
      by_cases c : x = m2
      · exact .inr c
      · exact .inl ((memB2 x).mpr (.inr ((memD x).mpr (.inl (all1 x (((memM2 x).mp hx).resolve_right c) hw))))))
    refine rs_ifR (b := false) (et_or (b := false) (c := false) (et_test (ev_notin (ev_var rfl) (ev_words (ev_var rfl) n14) (not_word fun x hx hw => (memD2 x).mpr (last x ((memN2 x).mp hx) hw)))) fun _ => et_test (ev_notin (ev_var rfl) (ev_words (ev_var rfl) m14) (not_word last))) (fun e => nomatch e) fun _ H15 s15 => ?_
    have n15 := n14.same s15
    have m15 := m14.same s15
    have ts := told_same (W := W2) n15.fM n15.fB m15.fM m15.fB memN2 memD2
    refine rs_retL (ev_eqSame (ev_told (ev_var rfl) n15) (by rw [ts]; exact ev_told (ev_var rfl) m15) (told_dn n15.fM n15.fB n15.hw) (by decide)) fun v16 H16 s16 e16 => ?_
    cases e16
    have four : ∀ x ∈ [p, t, p', t'], H2 x = none := fun x hx => by
      simp only [List.mem_cons, List.mem_nil_iff, or_false] at hx
      rcases hx with rfl | rfl | rfl | rfl
      · exact p0
      · exact t0
      · exact (Fx.of s3).fresh p0'
      · exact (Fx.of s3).fresh t0'
    have s214 : Same H2 H14 := b014.fresh four
    exact fin H16 (b02.same ((s214.trans s15).trans s16)) (h2.same ((s214.trans s15).trans s16))
end N88
/-! the law, but for what is refused -/
namespace N88
open PySem L2 PySem.Spec
variable {P : Program} {w : World} {K : PySem.W.Frag} {mg : Str → Option Value} {base : Heap} {C aO : Addr} {t8 : Tok} {Tt : List (Addr × Str)}
theorem rs_ifNotL {σ : L2.St} {H : Hp} {te : TE} {t1 : TS} {D : Ends} (h : te σ H fun v H1 => ∃ b, v = .bl b ∧ if (!b) = true then t1 D σ H1 else tNext D σ H1) : tIfS (tNot (tB te)) t1 tNext D σ H := h
theorem k_call3K {σ : L2.St} {H : Hp} {te1 te2 te3 : TE} {sp : Sp} {E : XK} {Q : VK} (h : te1 σ H fun v1 H1 => te2 σ H1 fun v2 H2 => te3 σ H2 fun v3 H3 => sp ([v1, v2, v3] ++ []) H3 Q E) : tCall sp [] E (tCons te1 (tCons te2 (tCons te3 tNil))) σ H Q := h
theorem it_rng {σ : L2.St} {H : Hp} {te : TE} {n : Nat} (h : EvR (te σ) H (Is (.int (n : Int)))) (hn : n ≤ 1000) : ItR (iRng1 (tCons te tNil) σ) H (nine n) fun i x _ => x = .int i := fun H1 g R q =>
  h H1 g _ fun v H2 s e => ⟨n, by rw [e], by omega, by omega, q (Itr 0 ((n : Int).toNat)) H2 (fun _ => True) (YFn fun i => .int (0 + i)) s (by
    rw [Int.toNat_natCast, show (nine n).length = n by simp [nine]]
    exact walk_range) (fun _ _ => trivial) fun i a H3 x H4 ha s3 z => by
    obtain ⟨rfl, rfl⟩ := z
    refine ⟨fun _ _ e => e, ?_⟩
    obtain ⟨hi, e2⟩ := List.getElem?_eq_some_iff.mp ha
    rw [← e2]
    simp [nine]⟩
theorem nd_nine (n : Nat) : (nine n).Nodup := by
  unfold nine List.Nodup
  rw [List.pairwise_map]
  exact List.Pairwise.imp (fun h e => h (by omega)) (List.nodup_range (n := n))
theorem pens_ne {S : List Ent} {ps : List Int} (h : S.map (·.pen) = ps) (nd : ps.Nodup) {i j : Nat} {e f : Ent} (hi : S[i]? = some e) (hj : S[j]? = some f) (n : i ≠ j) : e.pen ≠ f.pen := fun c => by
  have h1 : ps[i]? = some e.pen := by rw [← h, List.getElem?_map, hi]; rfl
  have h2 : ps[j]? = some f.pen := by rw [← h, List.getElem?_map, hj]; rfl
  obtain ⟨l1, g1⟩ := List.getElem?_eq_some_iff.mp h1
  obtain ⟨l2, g2⟩ := List.getElem?_eq_some_iff.mp h2
  have pw := List.pairwise_iff_getElem.mp nd
  rcases Nat.lt_or_ge i j with o | o
  · exact pw i j l1 l2 o (by rw [g1, g2, c])
  · exact pw j i l2 l1 (by omega) (by rw [g1, g2, c])
def SpRefused (Tt : List (Addr × Str)) (C : Addr) : Sp := fun vs H Q _ => ∃ (hd ca a dx p t lb : Addr) (zs : List Str) (W : PI2 → Str) (pen : Int) (M B : List PI2), vs = [.ref hd, .ref a, .ref lb] ∧ HandAt H hd ca ∧ NM C W H a dx p t pen M B ∧ (∀ m ∈ B, m ∈ M) ∧ H lb = some (.lst (zs.map V.str)) ∧ lb ≠ hd ∧ (∀ z ∈ zs, z ∈ labels8) ∧ 0 < zs.length ∧ zs.length ≤ 8 ∧ LamX.Tabs Tt H ∧
  ∀ H', LamX.Tabs Tt H' → HandAt H' hd ca → Q (.bl true) H'
def SpLaw (Tt : List (Addr × Str)) (K : PySem.W.Frag) : Sp := fun vs H Q _ => ∃ (a : Addr) (ns : List Int), vs = [.ref a] ∧ SqL K H a (ns.map V.int) ∧ ns.length ≤ 63 ∧ LamX.Tabs Tt H ∧ ∀ H', Q (.bl true) H'
theorem ok_law {f : Addr} {fd : FuncData} (F : Fun K "law" "law" s_law f fd) (T : Txt K mg C aO t8) (c__law_hand : Cal P w K mg base "_law_hand" 1 p_law_hand (SpHand K)) (c__law_labels : Cal P w K mg base "_law_labels" 3 p_law_labels SpLabels) (c__law_draw : Cal P w K mg base "_law_draw" 1 p_law_draw SpDraw)
    (c_Notebook___init__ : MMk P w K mg base C 4 p_Notebookd__initd_ (SpInit C)) (c__law_book : Cal P w K mg base "_law_book" 1 p_law_book SpBook) (c__law_deed : Cal P w K mg base "_law_deed" 7 p_law_deed (SpDeed Tt C)) (c__law_are_orders_right : Cal P w K mg base "_law_are_orders_right" 8 p_law_are_orders_right (SpOrders Tt C))
    (c__law_are_copies_right : Cal P w K mg base "_law_are_copies_right" 8 p_law_are_copies_right (SpCopies Tt C)) (c__law_does_stand : Cal P w K mg base "_law_does_stand" 8 p_law_does_stand (SpStand Tt C)) (c__law_are_refused : Cal P w K mg base "_law_are_refused" 15 p_law_are_refused (SpRefused Tt C)) (c__law_some : Cal P w K mg base "_law_some" 2 p_law_some SpSome) :
    FnOk P w K mg base CX0 16 f fd p_law (SpLaw Tt K) := by
  refine F.ok sc_law (fun vs H Q E h => ?_) (fun cdv A outer s H vs Q E hr h => ?_)
  · obtain ⟨a, ns, rfl, _⟩ := h
    rfl
  · obtain ⟨sc, sns, rfl, ha, hn, tt, q⟩ := h
    have hu := hr.units
    have hu1 := hu_of hr
    have hrm : Room 5 (A.deeper (PyProof.Rows.envOfC "law" (defScope s_law) s.heap.objs.size f cdv)) := hr.mono (by decide)
    refine ⟨_, (pss_cons (ps_set (i := 1) sc_law.nd rfl (.inl rfl) (pe_call c__law_hand.ok (hr.mono (by first | decide | omega)) (by rfl) c__law_hand.at_ c__law_hand.kp c__law_hand.b .nil pass0 (pa_cons (pv 0) pa_nil)))
      (pss_cons (ps_for PassesOwn.never rfl (pi_range1 (by rfl) T.b_range (pa_cons pe_int pa_nil)) (pg_name (i := 2) sc_law.nd rfl (.inl rfl))
      (pss_cons (ps_par (i := 3) (j := 4) rfl sc_law.nd rfl rfl (by decide) rfl rfl (pa_cons (pe_call c__law_labels.ok (hr.mono (by first | decide | omega)) (by rfl) c__law_labels.at_ c__law_labels.kp c__law_labels.b .nil pass0 (pa_cons (pv 1) pa_nil)) (pa_cons (pe_op (k_addU (K' := K) rfl) pe_int (pe_call c__law_draw.ok (hr.mono (by first | decide | omega)) (by rfl) c__law_draw.at_ c__law_draw.kp c__law_draw.b .nil pass0 (pa_cons (pv 1) (pa_cons pe_int pa_nil)))) pa_nil)) (by rfl))
      (pss_cons (ps_setLc (own := [("writer", 8)]) (i := 5) rfl sc_law.nd rfl rfl (sw_true rfl rfl rfl (by decide +kernel)) (pi_range1 (by rfl) T.b_range (pa_cons (pv 4) pa_nil)) (blkOk_by (N := n_law) (sc := defScope s_law) (by decide +kernel)) (fun _ _ _ _ _ => (pg_name (i := 8) sc_law.nd rfl (.inl rfl))) (fun _ _ _ _ _ => pts_nil) (fun _ _ _ _ _ => (pe_make c_Notebook___init__.mkd c_Notebook___init__.ok hrm (by rfl) T.mg_Notebook c_Notebook___init__.b .nil pass0 (pa_cons (pv 8) pa_nil))))
      (pss_cons (ps_setLc (own := [("writer", 8)]) (i := 6) rfl sc_law.nd rfl rfl (sw_true rfl rfl rfl (by decide +kernel)) (pi_range1 (by rfl) T.b_range (pa_cons (pv 4) pa_nil)) (blkOk_by (N := n_law) (sc := defScope s_law) (by decide +kernel)) (fun _ _ _ _ _ => (pg_name (i := 8) sc_law.nd rfl (.inl rfl))) (fun _ _ _ _ _ => pts_nil) (fun _ _ _ _ _ => (pe_call c__law_book.ok (hr.mono (by first | decide | omega)) (by rfl) c__law_book.at_ c__law_book.kp c__law_book.b .nil pass0 (pa_cons (pv 8) pa_nil))))
      (pss_cons (ps_for PassesOwn.never rfl (pi_range1 (by rfl) T.b_range (pa_cons (pe_call c__law_draw.ok (hr.mono (by first | decide | omega)) (by rfl) c__law_draw.at_ c__law_draw.kp c__law_draw.b .nil pass0 (pa_cons (pv 1) (pa_cons pe_int pa_nil))) pa_nil)) (pg_name (i := 7) sc_law.nd rfl (.inl rfl))
      (pss_one (ps_if (pt_not (pt_val (pe_call c__law_deed.ok (hr.mono (by first | decide | omega)) (by rfl) c__law_deed.at_ c__law_deed.kp c__law_deed.b .nil pass0 (pa_cons (pv 1) (pa_cons (pv 5) (pa_cons (pv 6) (pa_cons (pv 3) pa_nil))))))) (pss_one (ps_ret pe_bl)) pss_nil)))
      (pss_cons (ps_if (pt_not (pt_val (pe_call c__law_are_orders_right.ok (hr.mono (by first | decide | omega)) (by rfl) c__law_are_orders_right.at_ c__law_are_orders_right.kp c__law_are_orders_right.b .nil pass0 (pa_cons (pv 1) (pa_cons (pv 5) (pa_cons (pv 6) (pa_cons (pv 3) pa_nil))))))) (pss_one (ps_ret pe_bl)) pss_nil)
      (pss_cons (ps_if (pt_not (pt_val (pe_call c__law_are_copies_right.ok (hr.mono (by first | decide | omega)) (by rfl) c__law_are_copies_right.at_ c__law_are_copies_right.kp c__law_are_copies_right.b .nil pass0 (pa_cons (pv 1) (pa_cons (pv 5) (pa_cons (pv 6) (pa_cons (pv 3) pa_nil))))))) (pss_one (ps_ret pe_bl)) pss_nil)
      (pss_cons (ps_if (pt_not (pt_val (pe_call c__law_does_stand.ok (hr.mono (by first | decide | omega)) (by rfl) c__law_does_stand.at_ c__law_does_stand.kp c__law_does_stand.b .nil pass0 (pa_cons (pv 1) (pa_cons (pv 5) (pa_cons (pv 6) (pa_cons (pv 3) pa_nil))))))) (pss_one (ps_ret pe_bl)) pss_nil)
      (pss_one (ps_if (pt_not (pt_val (pe_call c__law_are_refused.ok (hr.mono (by first | decide | omega)) (by rfl) c__law_are_refused.at_ c__law_are_refused.kp c__law_are_refused.b .nil pass0 (pa_cons (pv 1) (pa_cons (pe_call c__law_some.ok (hr.mono (by first | decide | omega)) (by rfl) c__law_some.at_ c__law_some.kp c__law_some.b .nil pass0 (pa_cons (pv 1) (pa_cons (pv 5) pa_nil))) (pa_cons (pv 3) pa_nil)))))) (pss_one (ps_ret pe_bl)) pss_nil))))))))))
      (pss_one (ps_ret pe_bl)))), ?_⟩
    refine rs_asgK (k_call (vs := [.ref sc]) (ea_cons (ev_var rfl) ea_nilV) fun H1 s1 => ⟨sc, sns, rfl, (Fx.of s1).sqL ha, hn, fun H2 hd ca s2 hh => ?_⟩)
    refine rs_forK (k_tC ⟨2, rfl, by decide, by decide, ?_⟩)
    refine forK_rng 2 (fun n σ H' => (∃ u2 u3 u4 u5 u6 u7 u8, σ = [some (.ref sc), some (.ref hd), u2, u3, u4, u5, u6, u7, u8]) ∧ HandAt H' hd ca ∧ LamX.Tabs Tt H') ⟨⟨_, _, _, _, _, _, _, rfl⟩, hh, tabs_same tt (s1.trans s2)⟩ (fun n σ H' hn p => ?_) fun σ H' p => ?_
    · obtain ⟨⟨u2, u3, u4, u5, u6, u7, u8, rfl⟩, h3, t3⟩ := p
      refine rs_parK (k_call (vs := [.ref hd]) (ea_cons (ev_var rfl) ea_nilV) fun H4 s4 => ⟨hd, ca, rfl, h3.same s4, fun lb zs H5 hlb lb0 b5 h5 hz hz0 hz8 => ?_⟩)
      refine k_opK (k_tC ?_)
      refine k_draw (ev_var rfl) ev_c (by decide) (by decide) h5 fun d H6 d0 d1 b6 h6 => ?_
      refine rv_add.run fun v7 H7 s7 e7 => ⟨_, _, rfl, ?_⟩
      cases e7
      obtain ⟨dn, rfl⟩ := Int.eq_ofNat_of_zero_le d0
      have hdn : dn < 3 := by omega
      rw [show (1 + (dn : Int)) = ((1 + dn : Nat) : Int) by omega]
      obtain ⟨⟨oh, hoh⟩, oc, hoc⟩ := (h3.same s4).some
      have nlh : lb ≠ hd := (ne_of_none hoh lb0).symm
      have nlc : lb ≠ ca := (ne_of_none hoc lb0).symm
      have hca : ca ≠ hd := by
        obtain ⟨xs, i, n, z, c, g1, g2, _⟩ := h3
        exact ca_ne g1 g2
      have h7 := h6.same s7
      have t7 : LamX.Tabs Tt H7 := tabs_same (tabs_hd (tabs_hd (tabs_same t3 s4) (h3.same s4) b5) h5 b6) s7
      have hlb7 := s7 _ _ (b6 _ _ (by simp [nlh]) hlb)
      have hpl : (nine (1 + dn)).length = 1 + dn := by simp [nine]
      have hps : ∀ n ∈ nine (1 + dn), 0 ≤ n ∧ n ≤ 8 := fun n hn => by
        obtain ⟨j, hj, rfl⟩ := mem_nine hn
        omega
      refine rs_asgK (mk_notebooks (it_rng (ev_var rfl) (by omega)) hps (by omega) (fun _ => rfl) (fun _ => rfl) fun H9 ns E1 s9 ns0 hns e1l e1f e1d => ?_)
      have h9 := h7.same s9
      have hlb9 := s9 _ _ hlb7
      obtain ⟨⟨oh9, hoh9⟩, oc9, hoc9⟩ := h9.some
      refine rs_asgK (mk_books (W := fun _ => default) (as := [hd, ca, lb, ns]) (it_rng (ev_var rfl) (by omega)) (by omega) e1l e1f e1d (fun x hx => ?_) (fun _ => rfl) (fun _ => rfl) fun H10 bs S s10 bs0 hbs sl sa sp se sd => ?_)
      · simp only [List.mem_cons, List.mem_nil_iff, or_false] at hx
        rcases hx with rfl | rfl | rfl | rfl
        · exact ⟨_, hoh9⟩
        · exact ⟨_, hoc9⟩
        · exact ⟨_, hlb9⟩
        · exact ⟨_, hns⟩
      · obtain ⟨⟨oh8, hoh8⟩, oc8, hoc8⟩ := h7.some
        have w10 : Wd Tt C H10 hd ca lb ns bs zs (fun _ => default) S := by
          refine ⟨h9.same s10, s10 _ _ hlb9, ?_, hbs, fun e he => (se e he).2.2.1, sd, fun e he => (se e he).2.2.2.1, ?_, fun e he => ?_, tabs_same (tabs_same t7 s9) s10⟩
          · have := s10 _ _ hns
            rw [this]
            have e2 : S.map (fun e => V.ref e.a) = E1.map (fun e => V.ref e.a) := by
              have := congrArg (List.map V.ref) sa
              rw [List.map_map, List.map_map] at this
              exact this
            rw [e2]
          · simp only [List.nodup_cons, List.mem_cons, List.mem_nil_iff, or_false, not_or, List.nodup_nil, and_true]
            exact ⟨⟨hca.symm, nlh.symm, ne_of_none hoh8 ns0, ne_of_none hoh9 bs0⟩, ⟨nlc.symm, ne_of_none hoc8 ns0, ne_of_none hoc9 bs0⟩, ⟨ne_of_none hlb7 ns0, ne_of_none hlb9 bs0⟩, ne_of_none hns bs0, fun z => z⟩
          · obtain ⟨_, _, _, _, n1, n2⟩ := se e he
            simp only [List.mem_cons, List.mem_nil_iff, or_false, not_or] at n1 ⊢
            exact ⟨n1.1, n1.2.1, n1.2.2.1, n1.2.2.2, n2⟩
        have g10 : Good (fun _ => default) S 0 := by
          have hM : ∀ e ∈ S, ∀ m, m ∉ e.M := fun e he m hm => by
            rw [(se e he).1] at hm
            cases hm
          have hpen : ∀ e ∈ S, e.pen ∈ nine (1 + dn) := fun e he => sp ▸ List.mem_map.mpr ⟨e, he, rfl⟩
          refine ⟨fun e he => ?_, fun e he => hps _ (hpen e he), fun e he m hm => (hM e he m hm).elim, fun e he m hm => (hM e he m hm).elim, fun i j e f hi hj n => ?_, fun e he f hf m hm => (hM e he m hm).elim, fun e he m hm => (hM e he m hm).elim, fun e he m hm => ?_⟩
          · rw [(se e he).1, (se e he).2.1]
            exact ⟨⟨List.nodup_nil, fun _ h => by cases h⟩, List.nodup_nil, fun _ h => by cases h⟩
          · exact pens_ne sp (nd_nine _) hi hj n
          · rw [(se e he).2.1] at hm
            cases hm
        have hsl : S.length = 1 + dn := by omega
        refine rs_forK (k_draw (ev_var rfl) ev_c (by decide) (by decide) w10.hand fun d2 H11 e0 e1 b11 h11 => ?_)
        obtain ⟨m, rfl⟩ := Int.eq_ofNat_of_zero_le e0
        have w11 := w10.drawn b11 h11
        refine ⟨(m : Int), rfl, by omega, by omega, ?_⟩
        rw [show ((m : Int)).toNat = m from Int.toNat_natCast m]
        refine forK_rng m (fun n σ H' => (∃ u2 u7 u8, σ = [some (.ref sc), some (.ref hd), u2, some (.ref lb), some (.int ((1 + dn : Nat) : Int)), some (.ref ns), some (.ref bs), u7, u8]) ∧ ∃ W S, Wd Tt C H' hd ca lb ns bs zs W S ∧ Good W S n ∧ 0 < S.length ∧ S.length ≤ 9)
          ⟨⟨_, _, _, rfl⟩, _, S, w11, g10, by omega, by omega⟩ (fun n σ H' hn p => ?_) fun σ H' p => ?_
        · obtain ⟨⟨u2, u7, u8, rfl⟩, W1, S1, w1, g1, l2, l8⟩ := p
          refine rs_ifNotL ?_
          refine k_call (vs := [.ref hd, .ref ns, .ref bs, .ref lb]) (ea_cons (ev_var rfl) (ea_cons (ev_var rfl) (ea_cons (ev_var rfl) (ea_cons (ev_var rfl) ea_nilV)))) fun H2' s2' => ⟨hd, ca, lb, ns, bs, zs, W1, S1, n, rfl, w1.same s2', hz, hz0, hz8, g1, by omega, by omega, by omega, by omega, fun H3' W3 S3 w3 g3 hp3 => ⟨true, rfl, ?_⟩⟩
          rw [if_neg (by decide)]
          have l3 : S3.length = S1.length := by
            have := congrArg List.length hp3
            simpa using this
          exact ⟨⟨_, _, _, rfl⟩, W3, S3, w3, g3, by omega, by omega⟩
        · obtain ⟨⟨u2, u7, u8, rfl⟩, W1, S1, w1, g1, l2, l8⟩ := p
          dsimp only
          have offL : lb ≠ hd ∧ ns ≠ hd := by
            have ls := w1.ls
            simp only [List.nodup_cons, List.mem_cons, List.mem_nil_iff, or_false, not_or] at ls
            exact ⟨fun z => ls.1.2.1 z.symm, fun z => ls.1.2.2.1 z.symm⟩
          have arg : ∀ {G : Hp} {σ : L2.St}, σ[1]? = some (some (.ref hd)) → σ[5]? = some (some (.ref ns)) → σ[6]? = some (some (.ref bs)) → σ[3]? = some (some (.ref lb)) → EvA (tCons (tVar 1) (tCons (tVar 5) (tCons (tVar 6) (tCons (tVar 3) tNil))) σ) G (IsL [.ref hd, .ref ns, .ref bs, .ref lb]) := fun {G σ} g1 g2 g3 g4 => ea_cons (ev_var g1) (ea_cons (ev_var g2) (ea_cons (ev_var g3) (ea_cons (ev_var g4) ea_nilV)))
          have hm : (m : Int) < 63 := by omega
          refine rs_ifNotK (k_call (arg rfl rfl rfl rfl) fun Ha sa' => ⟨hd, ca, lb, ns, bs, zs, W1, S1, m, rfl, w1.same sa', g1, hz, hz0, hz8, by omega, by omega, fun Hb bb' hb' => ⟨true, rfl, ?_⟩⟩)
          rw [if_neg (by decide)]
          dsimp only [tNext]
          have wb := (w1.same sa').drawn bb' hb'
          refine rs_ifNotK (k_call (arg rfl rfl rfl rfl) fun Hc sc' => ⟨hd, ca, lb, ns, bs, zs, W1, S1, m, rfl, wb.same sc', g1, hz, hz0, hz8, by omega, by omega, by omega, hm, fun Hd bd' hd' => ⟨true, rfl, ?_⟩⟩)
          rw [if_neg (by decide)]
          dsimp only [tNext]
          have wd := (wb.same sc').drawn bd' hd'
          refine rs_ifNotK (k_call (arg rfl rfl rfl rfl) fun He se' => ⟨hd, ca, lb, ns, bs, zs, W1, S1, m, rfl, wd.same se', g1, hz, hz0, hz8, by omega, by omega, by omega, hm, fun Hf bf' hf' => ⟨true, rfl, ?_⟩⟩)
          rw [if_neg (by decide)]
          dsimp only [tNext]
          have wf := (wd.same se').drawn bf' hf'
          refine rs_ifNotL ?_
          refine k_call3K ?_
          refine EvR.run (P := Is (.ref hd)) (ev_var rfl) fun v1 Hg sg' e1 => ?_
          cases e1
          have wg := wf.same sg'
          refine k_call (vs := [.ref hd, .ref ns]) (ea_cons (ev_var rfl) (ea_cons (ev_var rfl) ea_nilV)) fun Hh sh' => ⟨hd, ca, ns, _, rfl, offL.2, (wg.same sh').nsl, by rw [List.length_map]; exact l2, by rw [List.length_map]; omega, (wg.same sh').hand, fun v2 Hi hv bi hi => ?_⟩
          have wi := (wg.same sh').drawn bi hi
          obtain ⟨e, he, rfl⟩ := List.mem_map.mp hv
          refine EvR.run (P := Is (.ref lb)) (ev_var rfl) fun v3 Hj sj e3 => ?_
          cases e3
          have wj := wi.same sj
          refine ⟨hd, ca, e.a, e.dx, e.p, e.t, lb, zs, W1, e.pen, e.M, e.B, rfl, wj.hand, (wj.ents e he).nm (wj.d1 e he) (g1.fit e he).1 (g1.fit e he).2 (g1.wd e he), g1.sub e he, wj.lab, offL.1, hz, hz0, hz8, wj.tabs, fun Hk tk hk => ⟨true, rfl, ?_⟩⟩
          rw [if_neg (by decide)]
          dsimp only [tNext]
          exact ⟨⟨_, _, _, _, _, _, _, rfl⟩, hk, tk⟩
    · obtain ⟨⟨u2, u3, u4, u5, u6, u7, u8, rfl⟩, h3, t3⟩ := p
      dsimp only
      exact rs_retL (P1 := Is (.bl true)) ev_c fun v H5 s5 e5 => by
        cases e5
        exact q H5
end N88
/-! raises -/
namespace N88
open PySem L2 PySem.Spec PyProof.Rows SkE
/-- X(), an own class without a constructor of its own -/
theorem pmk_own0 {X : Cx} {C : Addr} {bmB : List Value} {B newId initId : String} {x : Str} {p pos : Pos} (F : ExcBaseFacts B newId initId bmB) (q : PySem.W.excIn X.K C bmB newId = true) (gC : X.mg x = some (.ref C)) (kC : PySem.W.keepIn X.K (.ref C) = true) (r : Raises X (.ref C)) (hg : Gl X x)
    (hdb : (x == ("__debug__" : Str)) = false := by decide) : PMk X (.Call (.Name x p) [] [] pos) (fun _ H Q => Q (.ref C) none H) := by
  intro pins s σ H Q I h
  refine wpAny_Call_Name_kw (ld_glob I hg gC ?_ hdb)
  refine PySem.W.callWith_K0 I.kIn kC ?_
  show wpAny _ _ (call (.ref C) []) _ _ _
  obtain ⟨bm, N, nm, qn, bs, hdct, sn, sub, ab, col, dd, k0, k1, k2, k3, k5, mN, hC, hN, hni, T⟩ := exc_obj I.kIn q
  refine wpAny_call_exc_subT F T hC hN hni (fun h' e hm => ?_) (by show 0 ≤ sizeLine; omega)
  exact mk_of I hm r h (I.hok.gone hm.new)
end N88
/-! what is refused -/
namespace N88
open PySem L2 PySem.Spec
/-- a class of errors -/
structure ErrC (K : PySem.W.Frag) (mg : Str → Option Value) (x : Str) (C : Addr) : Prop where
  q : PySem.W.excIn K C [.type "ValueError", .type "Exception", .type "BaseException", .type "object"] "ValueError.__new__" = true
  g : mg x = some (.ref C)
  k : PySem.W.keepIn K (.ref C) = true
  b : PySem.W.subIn K (.ref C) (.type "BaseException") = some true
  t : PySem.W.typeIn K (.ref C) = some (.type "type")
/-- a thing of a kind, wherever the heap has grown -/
def Kind (K : PySem.W.Frag) (H : Hp) (v : V) (n : String) : Prop := ∀ H', Fx H H' → TyX K H' v (.type n)
theorem Kind.fx {K : PySem.W.Frag} {H H' : Hp} {v : V} {n : String} (h : Kind K H v n) (f : Fx H H') : Kind K H' v n := fun H2 g => h H2 (f.trans g)
variable {P : Program} {w : World} {K : PySem.W.Frag} {mg : Str → Option Value} {base : Heap} {C aO : Addr} {t8 : Tok}
def preIntG (K : PySem.W.Frag) : List V → Hp → (V → Hp → Prop) → Prop := fun vs H R => ∃ v n b c, vs = [v] ∧ Kind K H v n ∧ kitB n "int" = some b ∧ kitB n "bool" = some c ∧ R = Is (.bl (b && !c))
theorem ok_is_integerG {f : Addr} {fd : FuncData} (F : Fun K "is_integer" "is_integer" s_is_integer f fd) (T : Txt K mg C aO t8) : FnOk P w K mg base CX0 1 f fd p_is_integer (SpOf (preIntG K)) := by
  refine F.ok sc_is_integer (fun vs H Q E h => ?_) (fun cdv A outer s H vs Q E hr h => ?_)
  · obtain ⟨R, ⟨v, n, b, c, rfl, _⟩, _⟩ := h
    rfl
  · obtain ⟨R, ⟨v, n, b, c, rfl, hk, hb, hc, rfl⟩, q⟩ := h
    have hu := hr.units
    have hu1 := hu_of hr
    refine ⟨_, (pss_one (ps_ret (pe_and (pe_callB (k_isi (K' := K) rfl) (by rfl) T.b_isinstance (by decide +kernel) (pa_cons (pv 0) (pa_cons (pe_bltn (v := .ty "int") (by rfl) T.b_int (by decide +kernel) rfl) pa_nil))) (pe_one (pe_not (pe_callB (k_isi (K' := K) rfl) (by rfl) T.b_isinstance (by decide +kernel) (pa_cons (pv 0) (pa_cons (pe_bltn (v := .ty "bool") (by rfl) T.b_bool (by decide +kernel) rfl) pa_nil)))))))), ?_⟩
    refine EvS.body (es_ret ?_) q
    exact ev_andV (b := b) (c := !c) (ev_cb2 (ev_var rfl) ev_c (ev_isi hk hb)) fun _ => ev_notV (b := c) (ev_cb2 (ev_var rfl) ev_c (ev_isi hk hc))
/-- no writer's number -/
def BadW (K : PySem.W.Frag) (H : Hp) (v : V) : Prop := (∃ n b c, Kind K H v n ∧ kitB n "int" = some b ∧ kitB n "bool" = some c ∧ (b && !c) = false) ∨ ∃ i : Int, v = .int i ∧ (i < 0 ∨ 8 < i)
theorem BadW.fx {H H' : Hp} {v : V} (h : BadW K H v) (f : Fx H H') : BadW K H' v := h.imp (fun ⟨n, b, c, h1, h2⟩ => ⟨n, b, c, h1.fx f, h2⟩) id
def preWithinF (K : PySem.W.Frag) : List V → Hp → (V → Hp → Prop) → Prop := fun vs H R => ∃ v, vs = [v, .int 0, .int 8] ∧ BadW K H v ∧ R = Is (.bl false)
theorem ok_is_withinF {f : Addr} {fd : FuncData} (F : Fun K "is_within" "is_within" s_is_within f fd) (T : Txt K mg C aO t8) (c_is_integer : Cal P w K mg base "is_integer" 1 p_is_integer (SpOf (preIntG K))) : FnOk P w K mg base CX0 2 f fd p_is_within (SpOf (preWithinF K)) := by
  refine F.ok sc_is_within (fun vs H Q E h => ?_) (fun cdv A outer s H vs Q E hr h => ?_)
  · obtain ⟨R, ⟨v, rfl, _⟩, _⟩ := h
    rfl
  · obtain ⟨R, ⟨v, rfl, hb, rfl⟩, q⟩ := h
    have hu := hr.units
    have hu1 := hu_of hr
    refine ⟨_, (pss_one (ps_ret (pe_and (pe_call c_is_integer.ok (hr.mono (by first | decide | omega)) (by rfl) c_is_integer.at_ c_is_integer.kp c_is_integer.b .nil pass0 (pa_cons (pv 0) pa_nil)) (pe_one (pe_chain (op_le.or op_le_str) (op_le.or op_le_str) (pv 1) (pv 0) (pv 2)))))), ?_⟩
    refine EvS.body (es_ret ?_) q
    rcases hb with ⟨n, b, c, hk, h1, h2, h3⟩ | ⟨i, rfl, hi⟩
    · exact ev_is (ev_andV (b := false) (c := false) (ev_is (ev_call (ea_cons (ev_var rfl) ea_nilV) fun H' g => ⟨v, n, b, c, rfl, hk.fx g, h1, h2, rfl⟩) (by rw [h3])) fun e => nomatch e) rfl
    · refine ev_is (ev_andV (b := true) (c := false) (ev_is (ev_call (ea_cons (ev_var rfl) ea_nilV) fun H' g => ⟨.int i, "int", true, false, rfl, fun _ _ => tyInt, by decide +kernel, by decide +kernel, rfl⟩) rfl) fun _ => ?_) rfl
      refine ev_is (ev_chain (b := decide (0 ≤ i)) (c := decide (i ≤ 8)) (ev_var rfl) (ev_var rfl) (ev_or1 rv_I0) (fun _ => ev_var rfl) fun _ => ev_or1 rv_I0) ?_
      congr 1
      rcases hi with h | h
      · rw [decide_eq_false (by omega)]
        rfl
      · rw [decide_eq_false (p := i ≤ 8) (by omega), Bool.and_false]
/-- a check that refuses -/
def SpNo (bad : Hp → V → Prop) (CE : Addr) : Sp := fun vs H _ E => ∃ v, vs = [v] ∧ bad H v ∧ ∀ H', Same H H' → E (.ref CE) none H'
theorem no_check_writer {f : Addr} {fd : FuncData} {CN : Addr} (F : Fun K "check_writer" "check_writer" s_check_writer f fd) (T : Txt K mg C aO t8) (e_NoNode : ErrC K mg "NoNode" CN) (c_is_within : Cal P w K mg base "is_within" 2 p_is_within (SpOf (preWithinF K))) : FnOk P w K mg base (L2.CX P w) 3 f fd p_check_writer (SpNo (BadW K) CN) := by
  refine F.okX sc_check_writer (fun vs H Q E h => ?_) (fun cdv A outer s H vs Q E hr h => ?_)
  · obtain ⟨v, rfl, _⟩ := h
    rfl
  · obtain ⟨v, rfl, hb, q⟩ := h
    have hu := hr.units
    have hu1 := hu_of hr
    refine ⟨_, (pss_one (ps_if (pt_not (pt_val (pe_call c_is_within.ok (hr.mono (by first | decide | omega)) (by rfl) c_is_within.at_ c_is_within.kp c_is_within.b .nil pass0 (pa_cons (pv 0) (pa_cons pe_int (pa_cons (pe_glob (by rfl) T.mg_MOST_WRITER T.r_MOST_WRITER) pa_nil)))))) (pss_one (ps_raise rfl (takes_of rfl rfl rfl rfl) (pmk_own0 PySem.F.excBase_ValueError e_NoNode.q e_NoNode.g e_NoNode.k (raises_own e_NoNode.b e_NoNode.t) rfl))) pss_nil)), ?_⟩
    refine (et_not (b := false) (et_B (ev_call (vs := [v, .int 0, .int 8]) (ea_cons (ev_var rfl) (ea_cons ev_c (ea_cons ev_c ea_nilV))) fun H' g => ⟨v, rfl, hb.fx g, rfl⟩))).run fun H1 s1 => ?_
    exact q H1 s1
end N88
/-! labels that are none, notebooks that are none -/
namespace N88
open PySem L2 PySem.Spec
variable {P : Program} {w : World} {K : PySem.W.Frag} {mg : Str → Option Value} {base : Heap} {C aO : Addr} {t8 : Tok}
def badL (z : Str) : Bool := !(decide (1 ≤ z.length) && decide (z.length ≤ 8)) || inV (.str z) [.str "signed", .str "sealed", .str "secret"] || !(z.cps.toList.all lowS)
def BadL (K : PySem.W.Frag) (H : Hp) (v : V) : Prop := (∃ n, Kind K H v n ∧ kitB n "str" = some false) ∨ ∃ z : Str, v = .str z ∧ z.length ≤ 100 ∧ badL z = true
theorem BadL.fx {H H' : Hp} {v : V} (h : BadL K H v) (f : Fx H H') : BadL K H' v := h.imp (fun ⟨n, h1, h2⟩ => ⟨n, h1.fx f, h2⟩) id
def preLabelF (K : PySem.W.Frag) : List V → Hp → (V → Hp → Prop) → Prop := fun vs H R => ∃ v, vs = [v] ∧ BadL K H v ∧ R = Is (.bl false)
theorem ok_is_labelF {f : Addr} {fd : FuncData} (F : Fun K "is_label" "is_label" s_is_label f fd) (T : Txt K mg C aO t8) : FnOk P w K mg base CX0 1 f fd p_is_label (SpOf (preLabelF K)) := by
  refine F.ok sc_is_label (fun vs H Q E h => ?_) (fun cdv A outer s H vs Q E hr h => ?_)
  · obtain ⟨R, ⟨v, rfl, _⟩, _⟩ := h
    rfl
  · obtain ⟨R, ⟨v, rfl, hb, rfl⟩, q⟩ := h
    have hu := hr.units
    have hu1 := hu_of hr
    refine ⟨_, (pss_cons (ps_if (PW.pt (pw_or (pt_not (pt_val (pe_callB (k_isi (K' := K) rfl) (by rfl) T.b_isinstance (by decide +kernel) (pa_cons (pv 0) (pa_cons (pe_bltn (v := .ty "str") (by rfl) T.b_str (by decide +kernel) rfl) pa_nil))))) (pw_or (pt_not (pt_chain (op_le.or op_le_str) (op_le.or op_le_str) pe_int (pe_callB (k_len (K' := K) rfl) (by rfl) T.b_len (by decide +kernel) (pa_cons (pv 0) pa_nil)) pe_int)) (pw_or1 (pt_cmpR (k_in (K' := K) rfl) (pv 0) (pe_glob (by rfl) T.mg_OWN T.r_OWN) (by rfl)))))) (pss_one (ps_ret pe_bl)) pss_nil)
      (pss_one (ps_ret (pe_callB (k_all (K' := K) rfl rfl) (by rfl) T.b_all (by decide +kernel) (pa_cons (pe_lk (pe_lc (own := [("sign", 1)]) rfl sc_is_label.nd (k_piAny (K' := K) rfl (pv 0)) (blkOk_by (N := n_is_label) (sc := defScope s_is_label) (by decide +kernel)) (fun _ _ _ _ _ => (pg_name (i := 1) sc_is_label.nd rfl (.inl rfl))) (fun _ _ _ _ _ => pts_nil) (fun _ _ _ _ _ => (pe_chain (op_le.or op_le_str) (op_le.or op_le_str) pe_str (pv 1) pe_str)))) pa_nil))))), ?_⟩
    refine EvS.body ?_ q
    rcases hb with ⟨n, hk, hn⟩ | ⟨z, rfl, hl, hb⟩
    · exact es_ifT (b := true) (et_or (b := true) (c := true) (et_not (b := false) (et_B (ev_cb2 (ev_var rfl) ev_c (ev_isi hk hn)))) fun e => nomatch e) (fun _ => es_ret (ev_is ev_c rfl)) fun e => nomatch e
    · have hz : z.length ≤ sizeLine := Nat.le_trans hl (by decide)
      unfold badL at hb
      have c1 : EvT (tNot (tTest (tChain (fun x y H Q => rI0 (fun i j => .bl (decide (i ≤ j))) x y H Q ∨ ∃ i j, x = .str i ∧ y = .str j ∧ Q (.bl (!decide (j.cps.toList < i.cps.toList))) H) (fun x y H Q => rI0 (fun i j => .bl (decide (i ≤ j))) x y H Q ∨ ∃ i j, x = .str i ∧ y = .str j ∧ Q (.bl (!decide (j.cps.toList < i.cps.toList))) H) (tC (.int 1)) (tCB (rLenU K) (tCons (tVar 0) tNil)) (tC (.int 8)))) (start n_is_label [.str z])) H (!(decide (1 ≤ z.length) && decide (z.length ≤ 8))) :=
        et_not (et_test (ev_chain ev_c (ev_lenS (ev_var rfl) hz) (ev_or1 (ev_is rv_I0 (by congr 1; rw [decide_eq_decide]; omega))) (fun _ => ev_c) fun _ => ev_or1 (ev_is rv_I0 (by congr 1; rw [decide_eq_decide]; omega))))
      cases e1 : (!(decide (1 ≤ z.length) && decide (z.length ≤ 8)))
      · rw [e1] at c1
        cases e2 : inV (.str z) [.str "signed", .str "sealed", .str "secret"]
        · rw [e1, e2, Bool.false_or, Bool.false_or] at hb
          refine es_guard ?_ fun H2 f2 => es_ret (ev_is (ev_all (l := z.cps.toList) (f := lowS) (ev_lk0 (ev_lcA (it_aS (it_str (ev_var rfl))) ?_ (fun c H3 x _ f3 hx => ?_) fun _ _ _ _ _ h => h))) (by rw [Bool.not_eq_true'] at hb; rw [hb]))
          · exact et_or (b := false) (c := false) (et_not (b := true) (et_B (ev_cb2 (ev_var rfl) ev_c (ev_isi (fun _ _ => tyStr) (by decide +kernel))))) fun _ => et_or (b := false) (c := false) c1 fun _ => et_test (ev_op (ev_var rfl) ev_c (ev_is (rv_inT (T.own _) rfl rfl) (by rw [e2])))
          · show z.cps.size ≤ sizeLine
            exact hz
          · subst hx
            refine tg_name rfl et_yes fun _ => ?_
            exact ev_chain ev_c (ev_var rfl) (ev_or2 fun H4 g Q q => ⟨_, _, rfl, rfl, q _ H4 (fun _ _ e => e) rfl⟩) (fun _ => ev_c) fun _ => ev_or2 fun H4 g Q q => ⟨_, _, rfl, rfl, q _ H4 (fun _ _ e => e) rfl⟩
        · exact es_ifT (b := true) (et_or (b := false) (c := true) (et_not (b := true) (et_B (ev_cb2 (ev_var rfl) ev_c (ev_isi (fun _ _ => tyStr) (by decide +kernel))))) fun _ => et_or (b := false) (c := true) c1 fun _ => et_test (ev_op (ev_var rfl) ev_c (ev_is (rv_inT (T.own _) rfl rfl) (by rw [e2])))) (fun _ => es_ret (ev_is ev_c rfl)) fun e => nomatch e
      · rw [e1] at c1
        exact es_ifT (b := true) (et_or (b := false) (c := true) (et_not (b := true) (et_B (ev_cb2 (ev_var rfl) ev_c (ev_isi (fun _ _ => tyStr) (by decide +kernel))))) fun _ => et_or (b := true) (c := true) c1 fun e => nomatch e) (fun _ => es_ret (ev_is ev_c rfl)) fun e => nomatch e
theorem no_check_label {f : Addr} {fd : FuncData} {CN : Addr} (F : Fun K "check_label" "check_label" s_check_label f fd) (T : Txt K mg C aO t8) (e_NoLabel : ErrC K mg "NoLabel" CN) (c_is_label : Cal P w K mg base "is_label" 1 p_is_label (SpOf (preLabelF K))) : FnOk P w K mg base (L2.CX P w) 2 f fd p_check_label (SpNo (BadL K) CN) := by
  refine F.okX sc_check_label (fun vs H Q E h => ?_) (fun cdv A outer s H vs Q E hr h => ?_)
  · obtain ⟨v, rfl, _⟩ := h
    rfl
  · obtain ⟨v, rfl, hb, q⟩ := h
    have hu := hr.units
    have hu1 := hu_of hr
    refine ⟨_, (pss_one (ps_if (pt_not (pt_val (pe_call c_is_label.ok (hr.mono (by first | decide | omega)) (by rfl) c_is_label.at_ c_is_label.kp c_is_label.b .nil pass0 (pa_cons (pv 0) pa_nil)))) (pss_one (ps_raise rfl (takes_of rfl rfl rfl rfl) (pmk_own0 PySem.F.excBase_ValueError e_NoLabel.q e_NoLabel.g e_NoLabel.k (raises_own e_NoLabel.b e_NoLabel.t) rfl))) pss_nil)), ?_⟩
    refine (et_not (b := false) (et_B (ev_call (vs := [v]) (ea_cons (ev_var rfl) ea_nilV) fun H' g => ⟨v, rfl, hb.fx g, rfl⟩))).run fun H1 s1 => ?_
    exact q H1 s1
/-- no notebook -/
def BadN (K : PySem.W.Frag) (C : Addr) (H : Hp) (v : V) : Prop := ∃ n, Kind K H v n ∧ PySem.W.kitOne K (.type n) (.ref C) = some false
theorem no_check_notebook {f : Addr} {fd : FuncData} {CN : Addr} (F : Fun K "check_notebook" "check_notebook" s_check_notebook f fd) (T : Txt K mg C aO t8) (e_NoNotebook : ErrC K mg "NoNotebook" CN) : FnOk P w K mg base (L2.CX P w) 1 f fd p_check_notebook (SpNo (BadN K C) CN) := by
  refine F.okX sc_check_notebook (fun vs H Q E h => ?_) (fun cdv A outer s H vs Q E hr h => ?_)
  · obtain ⟨v, rfl, _⟩ := h
    rfl
  · obtain ⟨v, rfl, ⟨n, hk, hn⟩, q⟩ := h
    have hu := hr.units
    have hu1 := hu_of hr
    refine ⟨_, (pss_one (ps_if (pt_not (pt_val (pe_callB (k_isi (K' := K) rfl) (by rfl) T.b_isinstance (by decide +kernel) (pa_cons (pv 0) (pa_cons (pe_glob (by rfl) T.mg_Notebook T.r_Notebook) pa_nil))))) (pss_one (ps_raise rfl (takes_of rfl rfl rfl rfl) (pmk_own0 PySem.F.excBase_ValueError e_NoNotebook.q e_NoNotebook.g e_NoNotebook.k (raises_own e_NoNotebook.b e_NoNotebook.t) rfl))) pss_nil)), ?_⟩
    refine (et_not (b := false) (et_B (ev_cb2 (ev_var rfl) ev_c fun H1 g Q q => .inl ⟨v, .ref C, .type n, .ref C, false, rfl, .own C, hk H1 g, hn, q _ H1 (fun _ _ e => e) rfl⟩))).run fun H1 s1 => ?_
    exact q H1 s1
end N88
/-! notebooks that refuse -/
namespace N88
open PySem L2 PySem.Spec
variable {P : Program} {w : World} {K : PySem.W.Frag} {mg : Str → Option Value} {base : Heap} {C aO : Addr} {t8 : Tok}
/-- a def that may refuse, called by its name -/
structure CalX (P : Program) (w : World) (K : PySem.W.Frag) (mg : Str → Option Value) (base : Heap) (x : Str) (k : Nat) (ps : List Str) (sp : Sp) where
  f : Addr
  fd : FuncData
  ok : FnOk P w K mg base (L2.CX P w) k f fd ps sp
  at_ : mg x = some (.ref f)
  kp : PySem.W.keepIn K (.ref f) = true
  b : Binds K fd ps []
structure MMkX (P : Program) (w : World) (K : PySem.W.Frag) (mg : Str → Option Value) (base : Heap) (C : Addr) (k : Nat) (ps : List Str) (sp : Sp) where
  f : Addr
  fd : FuncData
  mkd : Mk K C f
  ok : FnOk P w K mg base (L2.CX P w) k f fd ps sp
  b : Binds K fd ps []
theorem k_callS {σ : L2.St} {H : Hp} {ta : L2.TA} {vs : List V} {sp : Sp} {E : L2.St → XK} {Q : VK} (ha : EvA (ta σ) H (IsL vs)) (h : ∀ H', Same H H' → sp vs H' Q (E σ)) : tCallS sp E ta σ H Q := ha H (Fx.refl H) _ fun ws H' s e => by
  cases e
  exact h H' s
/-- a method that refuses such a thing -/
def SpNo2 (C : Addr) (bad : Hp → V → Prop) (CE : Addr) : Sp := fun vs H _ E => ∃ a dx fs v, vs = [.ref a, v] ∧ H a = some (.ins C dx fs) ∧ bad H v ∧ ∀ H', Same H H' → E (.ref CE) none H'
theorem no_init {f : Addr} {fd : FuncData} {CN : Addr} (F : Fun K "__init__" "Notebook.__init__" s_Notebookd__initd_ f fd) (T : Txt K mg C aO t8) (c_check_writer : CalX P w K mg base "check_writer" 3 p_check_writer (SpNo (BadW K) CN)) : FnOk P w K mg base (L2.CX P w) 4 f fd p_Notebookd__initd_ (SpNo2 C (BadW K) CN) := by
  refine F.okX sc_Notebookd__initd_ (fun vs H Q E h => ?_) (fun cdv A outer s H vs Q E hr h => ?_)
  · obtain ⟨a, dx, fs, v, rfl, _⟩ := h
    rfl
  · obtain ⟨a, dx, fs, v, rfl, ha, hb, q⟩ := h
    have hu := hr.units
    have hu1 := hu_of hr
    refine ⟨_, (pss_cons (ps_expr (pe_callS c_check_writer.ok (hr.mono (by first | decide | omega)) (by rfl) c_check_writer.at_ c_check_writer.kp c_check_writer.b (fun σ => passAt (takes_of rfl rfl rfl rfl) σ) (pa_cons (pv 1) pa_nil)))
      (pss_cons (ps_fld (pv 0) (pv 1) rfl)
      (pss_cons (ps_fld (pv 0) pe_dnewT rfl)
      (pss_one (ps_fld (pv 0) pe_dnewT rfl))))), ?_⟩
    exact rs_dropK (k_callS (vs := [v]) (ea_cons (ev_var rfl) ea_nilV) fun H1 s1 => ⟨v, rfl, hb.fx (Fx.of s1), fun H2 s2 => q H2 (s1.trans s2)⟩)
theorem no_add {f : Addr} {fd : FuncData} {CN : Addr} (F : Fun K "add" "Notebook.add" s_Notebook_add f fd) (T : Txt K mg C aO t8) (c_check_label : CalX P w K mg base "check_label" 2 p_check_label (SpNo (BadL K) CN)) : FnOk P w K mg base (L2.CX P w) 3 f fd p_Notebook_add (SpNo2 C (BadL K) CN) := by
  refine F.okX sc_Notebook_add (fun vs H Q E h => ?_) (fun cdv A outer s H vs Q E hr h => ?_)
  · obtain ⟨a, dx, fs, v, rfl, _⟩ := h
    rfl
  · obtain ⟨a, dx, fs, v, rfl, ha, hb, q⟩ := h
    have hu := hr.units
    have hu1 := hu_of hr
    refine ⟨_, (pss_cons (ps_expr (pe_callS c_check_label.ok (hr.mono (by first | decide | omega)) (by rfl) c_check_label.at_ c_check_label.kp c_check_label.b (fun σ => passAt (takes_of rfl rfl rfl rfl) σ) (pa_cons (pv 1) pa_nil)))
      (pss_cons (ps_lk (ps_setLc (own := [("writer", 4), ("number", 5)]) (i := 2) rfl sc_Notebook_add.nd rfl rfl (sw_true rfl rfl rfl (by decide +kernel)) (k_piAny (K' := K) rfl (pe_fldK (K' := K) rfl (pv 0) (by rfl))) (blkOk_by (N := n_Notebook_add) (sc := defScope s_Notebook_add) (by decide +kernel)) (fun _ _ _ _ _ => (k_pair (K' := K) (i := 4) (j := 5) rfl rfl sc_Notebook_add.nd rfl rfl (.inl rfl) (.inl rfl) (.inr rfl) (.inr rfl))) (fun _ _ _ _ _ => (pts_one (pt_cmpR (k_eqD (K' := K) rfl hu) (pv 4) (pe_fldK (K' := K) rfl (pv 0) (by rfl)) (nomark _)))) (fun _ _ _ _ _ => (pv 5))))
      (pss_cons (ps_set (i := 3) sc_Notebook_add.nd rfl (.inl rfl) (pe_tup (pa_cons (pe_fldK (K' := K) rfl (pv 0) (by rfl)) (pa_cons (pe_op (k_addU (K' := K) rfl) (pe_callB (k_max (K' := K) rfl rfl) (by rfl) T.b_max (by decide +kernel) (pa_cons (pe_op (k_addU (K' := K) rfl) (pe_lst (pa_cons (pe_un un_neg pe_int) pa_nil)) (pv 2)) pa_nil)) pe_int) pa_nil))))
      (pss_cons (ps_dput hu1 (pe_fldK (K' := K) rfl (pv 0) (by rfl)) (pv 3) (pv 1) rfl)
      (pss_one (ps_ret (pv 3))))))), ?_⟩
    exact rs_dropK (k_callS (vs := [v]) (ea_cons (ev_var rfl) ea_nilV) fun H1 s1 => ⟨v, rfl, hb.fx (Fx.of s1), fun H2 s2 => q H2 (s1.trans s2)⟩)
theorem no_meet {f : Addr} {fd : FuncData} {CN : Addr} (F : Fun K "meet" "Notebook.meet" s_Notebook_meet f fd) (T : Txt K mg C aO t8) (c_check_notebook : CalX P w K mg base "check_notebook" 1 p_check_notebook (SpNo (BadN K C) CN)) : FnOk P w K mg base (L2.CX P w) 2 f fd p_Notebook_meet (SpNo2 C (BadN K C) CN) := by
  refine F.okX sc_Notebook_meet (fun vs H Q E h => ?_) (fun cdv A outer s H vs Q E hr h => ?_)
  · obtain ⟨a, dx, fs, v, rfl, _⟩ := h
    rfl
  · obtain ⟨a, dx, fs, v, rfl, ha, ⟨n, hk, hn⟩, q⟩ := h
    have hu := hr.units
    have hu1 := hu_of hr
    refine ⟨_, (pss_cons (ps_expr (pe_callS c_check_notebook.ok (hr.mono (by first | decide | omega)) (by rfl) c_check_notebook.at_ c_check_notebook.kp c_check_notebook.b (fun σ => passAt (takes_of rfl rfl rfl rfl) σ) (pa_cons (pv 1) pa_nil)))
      (pss_cons (ps_expr (k_bm (K' := K) rfl PySem.F.plainAttrs_dict PySem.F.slot_dict_update PySem.F.type_dict_update (k_upd (P' := P) (w' := w) rfl rfl hu) (pe_fldK (K' := K) rfl (pv 0) (by rfl)) (pa_cons (pe_callTy (k_dict (P' := P) (w' := w) (K' := K) rfl rfl rfl rfl hu) (by rfl) T.b_dict (by decide +kernel) (pa_cons (pe_fldK (K' := K) rfl (pv 1) (by rfl)) pa_nil)) pa_nil)))
      (pss_one (ps_expr (k_bm (K' := K) rfl PySem.F.plainAttrs_dict PySem.F.slot_dict_update PySem.F.type_dict_update (k_upd (P' := P) (w' := w) rfl rfl hu) (pe_fldK (K' := K) rfl (pv 0) (by rfl)) (pa_cons (pe_callTy (k_dict (P' := P) (w' := w) (K' := K) rfl rfl rfl rfl hu) (by rfl) T.b_dict (by decide +kernel) (pa_cons (pe_fldK (K' := K) rfl (pv 1) (by rfl)) pa_nil)) pa_nil)))))), ?_⟩
    exact rs_dropK (k_callS (vs := [v]) (ea_cons (ev_var rfl) ea_nilV) fun H1 s1 => ⟨v, rfl, ⟨n, hk.fx (Fx.of s1), hn⟩, fun H2 s2 => q H2 (s1.trans s2)⟩)
theorem no_knows {f : Addr} {fd : FuncData} {CN : Addr} (F : Fun K "knows" "Notebook.knows" s_Notebook_knows f fd) (T : Txt K mg C aO t8) (c_check_notebook : CalX P w K mg base "check_notebook" 1 p_check_notebook (SpNo (BadN K C) CN)) : FnOk P w K mg base (L2.CX P w) 2 f fd p_Notebook_knows (SpNo2 C (BadN K C) CN) := by
  refine F.okX sc_Notebook_knows (fun vs H Q E h => ?_) (fun cdv A outer s H vs Q E hr h => ?_)
  · obtain ⟨a, dx, fs, v, rfl, _⟩ := h
    rfl
  · obtain ⟨a, dx, fs, v, rfl, ha, ⟨n, hk, hn⟩, q⟩ := h
    have hu := hr.units
    have hu1 := hu_of hr
    refine ⟨_, (pss_cons (ps_expr (pe_callS c_check_notebook.ok (hr.mono (by first | decide | omega)) (by rfl) c_check_notebook.at_ c_check_notebook.kp c_check_notebook.b (fun σ => passAt (takes_of rfl rfl rfl rfl) σ) (pa_cons (pv 1) pa_nil)))
      (pss_cons (ps_if (pt_not (pt_val (pe_callB (k_all (K' := K) rfl rfl) (by rfl) T.b_all (by decide +kernel) (pa_cons (pe_lk (pe_lc (own := [("mark", 2)]) rfl sc_Notebook_knows.nd (k_piAny (K' := K) rfl (pe_fldK (K' := K) rfl (pv 1) (by rfl))) (blkOk_by (N := n_Notebook_knows) (sc := defScope s_Notebook_knows) (by decide +kernel)) (fun _ _ _ _ _ => (pg_name (i := 2) sc_Notebook_knows.nd rfl (.inl rfl))) (fun _ _ _ _ _ => pts_nil) (fun _ _ _ _ _ => (pe_cmp (pc_din hu1 (pv 2) (pe_fldK (K' := K) rfl (pv 0) (by rfl))) (by rfl))))) pa_nil)))) (pss_one (ps_ret pe_bl)) pss_nil)
      (pss_one (ps_ret (pe_callB (k_all (K' := K) rfl rfl) (by rfl) T.b_all (by decide +kernel) (pa_cons (pe_lk (pe_lc (own := [("mark", 2)]) rfl sc_Notebook_knows.nd (k_piAny (K' := K) rfl (pe_fldK (K' := K) rfl (pv 1) (by rfl))) (blkOk_by (N := n_Notebook_knows) (sc := defScope s_Notebook_knows) (by decide +kernel)) (fun _ _ _ _ _ => (pg_name (i := 2) sc_Notebook_knows.nd rfl (.inl rfl))) (fun _ _ _ _ _ => pts_nil) (fun _ _ _ _ _ => (pe_cmp (pc_din hu1 (pv 2) (pe_fldK (K' := K) rfl (pv 0) (by rfl))) (by rfl))))) pa_nil)))))), ?_⟩
    exact rs_dropK (k_callS (vs := [v]) (ea_cons (ev_var rfl) ea_nilV) fun H1 s1 => ⟨v, rfl, ⟨n, hk.fx (Fx.of s1), hn⟩, fun H2 s2 => q H2 (s1.trans s2)⟩)
theorem no_marks_of {f : Addr} {fd : FuncData} {CN : Addr} (F : Fun K "marks_of" "Notebook.marks_of" s_Notebook_marks_of f fd) (T : Txt K mg C aO t8) (c_check_label : CalX P w K mg base "check_label" 2 p_check_label (SpNo (BadL K) CN)) (c_Notebook_raw_marks : MCal P w K mg base C "raw_marks" 1 p_Notebook_raw_marks (SpOf (preRaw C))) :
    FnOk P w K mg base (L2.CX P w) 3 f fd p_Notebook_marks_of (SpNo2 C (BadL K) CN) := by
  refine F.okX sc_Notebook_marks_of (fun vs H Q E h => ?_) (fun cdv A outer s H vs Q E hr h => ?_)
  · obtain ⟨a, dx, fs, v, rfl, _⟩ := h
    rfl
  · obtain ⟨a, dx, fs, v, rfl, ha, hb, q⟩ := h
    have hu := hr.units
    have hu1 := hu_of hr
    refine ⟨_, (pss_cons (ps_expr (pe_callS c_check_label.ok (hr.mono (by first | decide | omega)) (by rfl) c_check_label.at_ c_check_label.kp c_check_label.b (fun σ => passAt (takes_of rfl rfl rfl rfl) σ) (pa_cons (pv 1) pa_nil)))
      (pss_one (ps_ret (pe_callTy (k_tuple (K' := K) rfl) (by rfl) T.b_tuple (by decide +kernel) (pa_cons (pe_meth (pv 0) T.cl c_Notebook_raw_marks.m c_Notebook_raw_marks.ok (hr.mono (by first | decide | omega)) c_Notebook_raw_marks.b .nil pass0 (pa_cons (pv 1) pa_nil)) pa_nil))))), ?_⟩
    exact rs_dropK (k_callS (vs := [v]) (ea_cons (ev_var rfl) ea_nilV) fun H1 s1 => ⟨v, rfl, hb.fx (Fx.of s1), fun H2 s2 => q H2 (s1.trans s2)⟩)
theorem no_copy {f : Addr} {fd : FuncData} {CN : Addr} (F : Fun K "copy" "Notebook.copy" s_Notebook_copy f fd) (T : Txt K mg C aO t8) (c_Notebook___init__ : MMkX P w K mg base C 4 p_Notebookd__initd_ (SpNo2 C (BadW K) CN)) (c_Notebook_meet : MCal P w K mg base C "meet" 2 p_Notebook_meet (SpMeet P w C)) :
    FnOk P w K mg base (L2.CX P w) 6 f fd p_Notebook_copy (SpNo2 C (BadW K) CN) := by
  refine F.okX sc_Notebook_copy (fun vs H Q E h => ?_) (fun cdv A outer s H vs Q E hr h => ?_)
  · obtain ⟨a, dx, fs, v, rfl, _⟩ := h
    rfl
  · obtain ⟨a, dx, fs, v, rfl, ha, hb, q⟩ := h
    have hu := hr.units
    have hu1 := hu_of hr
    have hrm : Room 5 (A.deeper (PyProof.Rows.envOfC "Notebook.copy" (defScope s_Notebook_copy) s.heap.objs.size f cdv)) := hr.mono (by decide)
    refine ⟨_, (pss_cons (ps_set (i := 2) sc_Notebook_copy.nd rfl (.inl rfl) (pe_make c_Notebook___init__.mkd c_Notebook___init__.ok hrm (by rfl) T.mg_Notebook c_Notebook___init__.b .nil (passes_call (takes_of rfl rfl rfl rfl) fun _ _ _ _ h => h) (pa_cons (pv 1) pa_nil)))
      (pss_cons (ps_expr (pe_meth (pv 2) T.cl c_Notebook_meet.m c_Notebook_meet.ok (hr.mono (by first | decide | omega)) c_Notebook_meet.b .nil pass0 (pa_cons (pv 0) pa_nil)))
      (pss_one (ps_ret (pv 2))))), ?_⟩
    refine rs_asgK (k_make (vs := [v]) (ea_cons (ev_var rfl) ea_nilV) fun H1 y dy s1 hy0 hd0 nd => ?_)
    have f1 : Same H1 (upd (upd H1 dy (.own y)) y (.ins C dy [])) := fun b o e => by
      rw [upd_ne (ne_of_none e hy0), upd_ne (ne_of_none e hd0)]
      exact e
    exact ⟨y, dy, [], v, rfl, upd_same, hb.fx (Fx.of (s1.trans f1)), fun H2 s2 => q H2 ((s1.trans f1).trans s2)⟩
end N88
/-! drops that are refused -/
namespace N88
open PySem L2 PySem.Spec
variable {P : Program} {w : World} {K : PySem.W.Frag} {mg : Str → Option Value} {base : Heap} {C aO : Addr} {t8 : Tok}
theorem no_drop {f : Addr} {fd : FuncData} {CN CS : Addr} (F : Fun K "drop" "Notebook.drop" s_Notebook_drop f fd) (T : Txt K mg C aO t8) (e_NoStanding : ErrC K mg "NoStanding" CS) (c_check_label : CalX P w K mg base "check_label" 2 p_check_label (SpNo (BadL K) CN)) (c_Notebook_raw_marks : MCal P w K mg base C "raw_marks" 1 p_Notebook_raw_marks (SpOf (preRaw C))) :
    FnOk P w K mg base (L2.CX P w) 3 f fd p_Notebook_drop (SpNo2 C (BadL K) CN) := by
  refine F.okX sc_Notebook_drop (fun vs H Q E h => ?_) (fun cdv A outer s H vs Q E hr h => ?_)
  · obtain ⟨a, dx, fs, v, rfl, _⟩ := h
    rfl
  · obtain ⟨a, dx, fs, v, rfl, ha, hb, q⟩ := h
    have hu := hr.units
    have hu1 := hu_of hr
    refine ⟨_, (pss_cons (ps_expr (pe_callS c_check_label.ok (hr.mono (by first | decide | omega)) (by rfl) c_check_label.at_ c_check_label.kp c_check_label.b (fun σ => passAt (takes_of rfl rfl rfl rfl) σ) (pa_cons (pv 1) pa_nil)))
      (pss_cons (ps_set (i := 2) sc_Notebook_drop.nd rfl (.inl rfl) (pe_meth (pv 0) T.cl c_Notebook_raw_marks.m c_Notebook_raw_marks.ok (hr.mono (by first | decide | omega)) c_Notebook_raw_marks.b .nil pass0 (pa_cons (pv 1) pa_nil)))
      (pss_cons (ps_if (pt_cmpR (k_eqD (K' := K) rfl hu) (pe_callB (k_len (K' := K) rfl) (by rfl) T.b_len (by decide +kernel) (pa_cons (pv 2) pa_nil)) pe_int (nomark _)) (pss_one (ps_raise rfl (takes_of rfl rfl rfl rfl) (pmk_own0 PySem.F.excBase_ValueError e_NoStanding.q e_NoStanding.g e_NoStanding.k (raises_own e_NoStanding.b e_NoStanding.t) rfl))) pss_nil)
      (pss_one (ps_for (passes_of rfl) rfl (k_piAny (K' := K) rfl (pv 2)) (pg_name (i := 3) sc_Notebook_drop.nd rfl (.inl rfl))
      (pss_one (ps_dput hu1 (pe_fldK (K' := K) rfl (pv 0) (by rfl)) (pv 3) pe_bl rfl))))))), ?_⟩
    exact rs_dropK (k_callS (vs := [v]) (ea_cons (ev_var rfl) ea_nilV) fun H1 s1 => ⟨v, rfl, hb.fx (Fx.of s1), fun H2 s2 => q H2 (s1.trans s2)⟩)
/-- a word that does not stand -/
def SpNoS (C CS : Addr) : Sp := fun vs H _ E => ∃ a dx p t pen A B z, vs = [.ref a, .str z] ∧ NbR C H a dx p t pen A B ∧ Fit A B ∧ LabOk z ∧ rawM A B z = [] ∧ ∀ H', Same H H' → E (.ref CS) none H'
theorem no_dropS {f : Addr} {fd : FuncData} {CS : Addr} (F : Fun K "drop" "Notebook.drop" s_Notebook_drop f fd) (T : Txt K mg C aO t8) (e_NoStanding : ErrC K mg "NoStanding" CS) (c_check_label : Cal P w K mg base "check_label" 2 p_check_label (SpOf preCheckL)) (c_Notebook_raw_marks : MCal P w K mg base C "raw_marks" 1 p_Notebook_raw_marks (SpOf (preRaw C))) :
    FnOk P w K mg base (L2.CX P w) 3 f fd p_Notebook_drop (SpNoS C CS) := by
  refine F.okX sc_Notebook_drop (fun vs H Q E h => ?_) (fun cdv A outer s H vs Q E hr h => ?_)
  · obtain ⟨a, dx, p, t, pen, A, B, z, rfl, _⟩ := h
    rfl
  · obtain ⟨a, dx, p, t, pen, A, B, z, rfl, nb, ft, hz, hr0, q⟩ := h
    have hu := hr.units
    have hu1 := hu_of hr
    refine ⟨_, (pss_cons (ps_expr (pe_call c_check_label.ok (hr.mono (by first | decide | omega)) (by rfl) c_check_label.at_ c_check_label.kp c_check_label.b .nil pass0 (pa_cons (pv 1) pa_nil)))
      (pss_cons (ps_set (i := 2) sc_Notebook_drop.nd rfl (.inl rfl) (pe_meth (pv 0) T.cl c_Notebook_raw_marks.m c_Notebook_raw_marks.ok (hr.mono (by first | decide | omega)) c_Notebook_raw_marks.b .nil pass0 (pa_cons (pv 1) pa_nil)))
      (pss_cons (ps_if (pt_cmpR (k_eqD (K' := K) rfl hu) (pe_callB (k_len (K' := K) rfl) (by rfl) T.b_len (by decide +kernel) (pa_cons (pv 2) pa_nil)) pe_int (nomark _)) (pss_one (ps_raise rfl (takes_of rfl rfl rfl rfl) (pmk_own0 PySem.F.excBase_ValueError e_NoStanding.q e_NoStanding.g e_NoStanding.k (raises_own e_NoStanding.b e_NoStanding.t) rfl))) pss_nil)
      (pss_one (ps_for (passes_of rfl) rfl (k_piAny (K' := K) rfl (pv 2)) (pg_name (i := 3) sc_Notebook_drop.nd rfl (.inl rfl))
      (pss_one (ps_dput hu1 (pe_fldK (K' := K) rfl (pv 0) (by rfl)) (pv 3) pe_bl rfl))))))), ?_⟩
    refine rs_dropK (k_call (vs := [.str z]) (ea_cons (ev_var rfl) ea_nilV) fun H1 s1 => ⟨Is .non, ⟨z, rfl, hz, rfl⟩, fun v H2 s2 _ => ?_⟩)
    have nb2 := nb.fx (Fx.of (s1.trans s2))
    refine rs_asg (P1 := NewPrs H2 []) (EvR.imp (ev_meth (P := NewPrs H2 (rawM A B z)) (ev_var rfl) nb2.ins (nbf_no (by decide +kernel)) (ea_cons (ev_var rfl) ea_nilV) fun H' g => ⟨a, dx, p, t, pen, A, B, z, rfl, nb2.fx g, ft, hz, H2, g, rfl⟩) fun v H3 _ h => by rw [hr0] at h; exact h) fun v H3 s3 hv => ?_
    obtain ⟨l, rs, rfl, hl0, hl, hrs⟩ := hv
    cases hrs
    refine (et_test (ev_op (x := .int (0 : Nat)) (y := .int 0) (ev_lenL (xs := []) (ev_var rfl) (SqL.of hl)) ev_c (ev_is (rv_eqD (.int _) (.int _) shaped_int shaped_int) (by rw [eqv_int])))).run fun H4 s4 => ?_
    exact q H4 (((s1.trans s2).trans s3).trans s4)
end N88
/-! deep things -/
namespace N88
open PySem L2 PySem.Spec
variable {P : Program} {w : World} {K : PySem.W.Frag} {mg : Str → Option Value} {base : Heap} {C aO : Addr} {t8 : Tok}
/-- a tuple or a list -/
def Nest (H : Hp) (hd a : Addr) : Prop := a ≠ hd ∧ ((∃ xs, H a = some (.tup xs)) ∨ ∃ xs, H a = some (.lst xs))
theorem Nest.but {H H' : Hp} {hd a : Addr} (h : Nest H hd a) (b : But [hd] H H') : Nest H' hd a := ⟨h.1, h.2.imp (fun ⟨xs, e⟩ => ⟨xs, b _ _ (by simp [h.1]) e⟩) fun ⟨xs, e⟩ => ⟨xs, b _ _ (by simp [h.1]) e⟩⟩
def SpDeep : Sp := fun vs H Q _ => ∃ hd ca, vs = [.ref hd] ∧ HandAt H hd ca ∧ ∀ H' a, But [hd] H H' → HandAt H' hd ca → Nest H' hd a → Q (.ref a) H'
theorem ok_deep {f : Addr} {fd : FuncData} (F : Fun K "_law_deep" "_law_deep" s_law_deep f fd) (T : Txt K mg C aO t8) (c__law_some : Cal P w K mg base "_law_some" 2 p_law_some SpSome) (c__law_draw : Cal P w K mg base "_law_draw" 1 p_law_draw SpDraw) : FnOk P w K mg base CX0 3 f fd p_law_deep SpDeep := by
  refine F.ok sc_law_deep (fun vs H Q E h => ?_) (fun cdv A outer s H vs Q E hr h => ?_)
  · obtain ⟨hd, ca, rfl, _⟩ := h
    rfl
  · obtain ⟨hd, ca, rfl, hh, q⟩ := h
    have hu := hr.units
    have hu1 := hu_of hr
    refine ⟨_, (pss_cons (ps_set (i := 1) sc_law_deep.nd rfl (.inl rfl) (pe_call c__law_some.ok (hr.mono (by first | decide | omega)) (by rfl) c__law_some.at_ c__law_some.kp c__law_some.b .nil pass0 (pa_cons (pv 0) (pa_cons (pe_lst (pa_cons pe_non (pa_cons (pe_un un_neg pe_int) (pa_cons pe_str pa_nil)))) pa_nil))))
      (pss_cons (ps_for PassesOwn.never rfl (pi_range1 (by rfl) T.b_range (pa_cons (pe_op (k_addU (K' := K) rfl) pe_int (pe_call c__law_draw.ok (hr.mono (by first | decide | omega)) (by rfl) c__law_draw.at_ c__law_draw.kp c__law_draw.b .nil pass0 (pa_cons (pv 0) (pa_cons pe_int pa_nil)))) pa_nil)) (pg_name (i := 2) sc_law_deep.nd rfl (.inl rfl))
      (pss_one (ps_set (i := 1) sc_law_deep.nd rfl (.inl rfl) (pe_call c__law_some.ok (hr.mono (by first | decide | omega)) (by rfl) c__law_some.at_ c__law_some.kp c__law_some.b .nil pass0 (pa_cons (pv 0) (pa_cons (pe_lst (pa_cons (pe_tup (pa_cons (pv 1) pa_nil)) (pa_cons (pe_lst (pa_cons (pv 1) pa_nil)) pa_nil))) pa_nil))))))
      (pss_one (ps_ret (pv 1))))), ?_⟩
    refine rs_asgK (k_call2P (P1 := Is (.ref hd)) (P2 := fun _ H1 => New H1 (.lst [.non, .int (-1), .str "A"])) (ev_var rfl) (fun v1 H1 _ _ => ev_lst (ea_cons ev_c (ea_cons (ev_un ev_c rv_neg) (ea_cons ev_c ea_nilV))) (by show 3 ≤ sizeLine; decide)) fun v1 v2 H1 H2 s1 e1 s2 h2 => ?_)
    cases e1
    obtain ⟨l, rfl, l0, hl⟩ := h2
    have h1 := hh.same s1
    obtain ⟨⟨oh, hoh⟩, _⟩ := h1.some
    refine ⟨hd, ca, l, _, rfl, (ne_of_none hoh l0).symm, hl, by simp, by simp, h1.same s2, fun v H3 _ b3 h3 => ?_⟩
    have b03 : But [hd] H H3 := But.trans (But.of (s1.trans s2)) b3
    refine rs_forK (k_opK (k_tC ?_))
    refine k_draw (ev_var rfl) ev_c (by decide) (by decide) h3 fun d H4 d0 d1 b4 h4 => ?_
    refine rv_add.run fun v5 H5 s5 e5 => ?_
    cases e5
    obtain ⟨m, rfl⟩ := Int.eq_ofNat_of_zero_le d0
    refine ⟨12 + (m : Int), rfl, by omega, by omega, ?_⟩
    rw [show (12 + (m : Int)).toNat = 12 + m by omega]
    refine forK_rng (12 + m) (fun n σ H' => ∃ v u, σ = [some (.ref hd), some v, u] ∧ But [hd] H H' ∧ HandAt H' hd ca ∧ (0 < n → ∃ a, v = .ref a ∧ Nest H' hd a)) ⟨v, _, rfl, But.trans b03 (b4.same s5), h4.same s5, fun h => absurd h (Nat.lt_irrefl 0)⟩ (fun n σ H' hn p => ?_) fun σ H' p => ?_
    · obtain ⟨v, u, rfl, b6, h6, _⟩ := p
      refine rs_asgE (k_call2P (P1 := Is (.ref hd)) (P2 := fun _ H7 => fun v2 H8 => ∃ l t k, v2 = .ref l ∧ H7 l = none ∧ H8 l = some (.lst [.ref t, .ref k]) ∧ Nest H8 hd t ∧ Nest H8 hd k) (ev_var rfl) (fun v1 H7 s7 _ => ?_) fun v1 v2 H7 H8 s7 e7 s8 h8 => ?_)
      · refine fun G g R r => ?_
        have hG : ∃ o, G hd = some o := by
          obtain ⟨xs, i, nn, z, c, g1, _, _⟩ := h6
          exact ⟨_, g.nd (s7 _ _ g1) rfl⟩
        obtain ⟨og, hog⟩ := hG
        refine ⟨_, rfl, by show 1 ≤ sizeLine; decide, fun t t0 => ⟨_, rfl, by show 1 ≤ sizeLine; decide, fun k k0 => ⟨by show 2 ≤ sizeLine; decide, fun l l0 => ?_⟩⟩⟩
        have st : Same G (upd G t (.tup [v])) := same_new t0
        have sk := same_new (H := upd G t (.tup [v])) (o := .lst [v]) k0
        have sl := same_new (H := upd (upd G t (.tup [v])) k (.lst [v])) (o := .lst [.ref t, .ref k]) l0
        refine r (.ref l) _ ((st.trans sk).trans sl) ⟨l, t, k, rfl, (g.fresh ((Fx.of (st.trans sk)).fresh l0)), upd_same, ⟨(ne_of_none hog t0).symm, .inl ⟨_, sl _ _ (sk _ _ upd_same)⟩⟩, ⟨(ne_of_none (st _ _ hog) k0).symm, .inr ⟨_, sl _ _ upd_same⟩⟩⟩
      · cases e7
        obtain ⟨l, t, k, rfl, l0, hl, nt, nk⟩ := h8
        have h7 := h6.same s7
        obtain ⟨⟨oh7, hoh7⟩, _⟩ := h7.some
        refine ⟨hd, ca, l, _, rfl, (ne_of_none hoh7 l0).symm, hl, by simp, by simp, h7.same s8, fun x H9 hx b9 h9 => ⟨x, _, rfl, But.trans b6 (But.trans (But.of (s7.trans s8)) b9), h9, fun _ => ?_⟩⟩
        simp only [List.mem_cons, List.mem_nil_iff, or_false] at hx
        rcases hx with rfl | rfl
        · exact ⟨_, rfl, nt.but b9⟩
        · exact ⟨_, rfl, nk.but b9⟩
    · obtain ⟨v, u, rfl, b6, h6, ha⟩ := p
      obtain ⟨a, rfl, na⟩ := ha (by omega)
      dsimp only
      refine rs_retL (P1 := Is (.ref a)) (ev_var rfl) fun v7 H7 s7 e7 => ?_
      cases e7
      exact q H7 a (b6.same s7) (h6.same s7) (na.but (But.of s7))
end N88
/-! counting truth values -/
namespace N88
open PySem L2 PySem.Spec PyProof.Rows
/-- is it this truth value -/
def eqb (k : Bool) : Value → Bool
  | .bool b => b == k
  | _ => false
theorem vals_bls : ∀ {bs : List Bool} {us : List Value}, Vals (bs.map V.bl) us → us = bs.map Value.bool
  | [], _, .nil => rfl
  | b :: bs, _, .cons r t => by
    rw [vals_bls t]
    cases (show _ = Value.bool b from r)
    rfl
theorem eqb_count (k : Bool) : ∀ bs : List Bool, (bs.map Value.bool).countP (eqb k) = bs.count k
  | [] => rfl
  | b :: bs => by
    rw [List.map_cons, List.countP_cons, eqb_count k bs, List.count_cons]
    rfl
def rCntB (K : PySem.W.Frag) : V → List V → Hp → VK → Prop := fun x xs H Q => ∃ (p : Addr) (bs : List Bool) (k : Bool), x = .ref p ∧ xs = [.bl k] ∧ SqL K H p (bs.map V.bl) ∧ Q (.int (bs.count k : Nat)) H
theorem mt_bcount {X : Cx} : MtR X "list.count" (rCntB X.K) := by
  intro pins s σ H x xs v us Q I rx rxs h
  obtain ⟨p, bs, k, rfl, rfl, hs, q⟩ := h
  cases rx
  obtain ⟨u, rfl, ru⟩ := rxs.one
  cases (show u = Value.bool k from ru)
  obtain ⟨its, rv, ⟨⟨cls, dd, data, sl⟩, n, ho, hc, hdn, hd⟩, hlen⟩ := I.list hs
  simp only at hc hd
  subst hc hd
  have hi := vals_bls rv
  subst hi
  refine call_meets PySem.F.slot_list_count ⟨_, ho, rfl⟩ PySem.F.entry_list_count (PySem.F.args_list_count_2 _ _)
    (SeqAt.list_countAt p (bs.map Value.bool).toArray n dd sl (.bool k) (eqb k)) ⟨ho, fun y hy => ?_, ?_⟩
  · have hy2 : y ∈ bs.map Value.bool := by simpa using hy
    obtain ⟨b, _, rfl⟩ := List.mem_map.mp hy2
    exact SeqAt.EqAt.bool_bool b k
  · refine ⟨.int (bs.count k : Nat), H, I.tok _, ⟨s.toks, ?_⟩, q⟩
    have ec : (bs.map Value.bool).toArray.toList.countP (eqb k) = bs.count k := eqb_count k bs
    show Value.int (((bs.map Value.bool).toArray.toList.countP (eqb k) : Nat) : Int) s.toks = Value.int ((bs.count k : Nat) : Int) s.toks
    rw [ec]
end N88
/-! the word of an error -/
namespace N88
open PySem L2 PySem.Spec
/-- D is the j-th of the four errors, wd its word -/
structure ErrIs (K : PySem.W.Frag) (CT CN CL CS CB D : Addr) (f0 f1 f2 f3 : Bool) (j : Nat) (wd : Str) : Prop where
  ex : ExcC K D
  m : PySem.W.exmOne K (.ref D) (.ref CT) = some true
  k0 : PySem.W.kitOne K (.ref D) (.ref CN) = some f0
  k1 : PySem.W.kitOne K (.ref D) (.ref CL) = some f1
  k2 : PySem.W.kitOne K (.ref D) (.ref CS) = some f2
  k3 : PySem.W.kitOne K (.ref D) (.ref CB) = some f3
  kv : PySem.W.kitOne K (.ref D) (.type "ValueError") = some true
  one : [f0, f1, f2, f3].count true = 1
  at_ : [f0, f1, f2, f3][j]? = some true
  lt : ∀ (m : Nat) (z : Bool), m < j → [f0, f1, f2, f3][m]? = some z → z = false
  w : ([Str.ofString "node", Str.ofString "label", Str.ofString "standing", Str.ofString "notebook"] : List Str)[j]? = some wd
/-- what _law_word makes of a call that raises -/
def TWord (K : PySem.W.Frag) (CT CN CL CS CB : Addr) : (XK → Hp → VK → Prop) → Hp → VK → Prop := fun tl H Q =>
  tl (fun cls d H' => ∃ D f0 f1 f2 f3 j wd, cls = .ref D ∧ d = none ∧ ErrIs K CT CN CL CS CB D f0 f1 f2 f3 j wd ∧ ∀ H'', Same H' H'' → Q (.str wd) H'') H (fun _ _ => False)
def tryPart : Stmt → List Stmt
  | .Try _ [.ExceptHandler _ _ b _] _ _ _ => b
  | _ => []
abbrev wSuite : List Stmt := tryPart ((defBody s_law_word).getD 1 (.Pass ⟨0, 0, 0, 0⟩))
/-- what the suite asks -/
def WordPre (K : PySem.W.Frag) (CT CN CL CS CB a : Addr) (cls : Value) (d : Option Addr) : TS := fun E σ H => ∃ D f0 f1 f2 f3 j wd x0 x1 x3 x4, cls = .ref D ∧ d = none ∧ ErrIs K CT CN CL CS CB D f0 f1 f2 f3 j wd ∧ σ = [x0, x1, some (.ref a), x3, x4] ∧
  ∀ l3 l4 H', Same H H' → E.nx [x0, some (.str wd), some (.ref a), some l3, some l4] H'
variable {P : Program} {w : World} {K : PySem.W.Frag} {mg : Str → Option Value} {base : Heap} {C aO : Addr} {t8 : Tok}
theorem suite_word {CT CN CL CS CB : Addr} {g : Addr} {cdg : Value} {A : Around} {outer : List Env} {s : Shared} {H : Hp} {a : Addr} {oe : Obj} {cls : Value} {d : Option Addr} {pn : List (Addr × Obj)} (T : Txt K mg C aO t8)
    (eN : ErrC K mg "NoNode" CN) (eL : ErrC K mg "NoLabel" CL) (eS : ErrC K mg "NoStanding" CS) (eB : ErrC K mg "NoNotebook" CB) (bV : mg "ValueError" = none) (hz : Zc cls d oe) (hf : ∃ vs, oe.data = .fields vs) :
    PSs ((cxOf C8.CX0 P w K mg base n_law_word "_law_word" (defScope s_law_word) g cdg A outer s H C8.E0).nox.suite a ((a, oe) :: pn)) wSuite (WordPre K CT CN CL CS CB a cls d) := by
  refine ⟨fun pins s1 σ H1 E I h => ?_⟩
  obtain ⟨D, f0, f1, f2, f3, j, wd, x0, x1, x3, x4, rfl, rfl, er, rfl, q⟩ := h
  have cI : CallR ((cxOf C8.CX0 P w K mg base n_law_word "_law_word" (defScope s_law_word) g cdg A outer s H C8.E0).nox.suite a ((a, oe) :: pn)) (.builtin "isinstance") (rIsE K D a) := call_isE er.ex hz hf
  have nd := sc_law_word.nd
  have der : PSs ((cxOf C8.CX0 P w K mg base n_law_word "_law_word" (defScope s_law_word) g cdg A outer s H C8.E0).nox.suite a ((a, oe) :: pn)) wSuite _ :=
    (pss_cons (ps_set (i := 3) nd rfl (.inl rfl) (pe_lst (pa_cons (pe_callB cI (by rfl) T.b_isinstance (by decide +kernel) (pa_cons (pv 2) (pa_cons (pe_glob (v := .ref CN) (by rfl) eN.g rfl) pa_nil)))
      (pa_cons (pe_callB cI (by rfl) T.b_isinstance (by decide +kernel) (pa_cons (pv 2) (pa_cons (pe_glob (v := .ref CL) (by rfl) eL.g rfl) pa_nil)))
      (pa_cons (pe_callB cI (by rfl) T.b_isinstance (by decide +kernel) (pa_cons (pv 2) (pa_cons (pe_glob (v := .ref CS) (by rfl) eS.g rfl) pa_nil))) pa_nil)))))
    (pss_cons (ps_expr (k_bm (K' := K) rfl PySem.F.plainAttrs_list PySem.F.slot_list_append PySem.F.type_list_append mt_append (pv 3) (pa_cons (pe_callB cI (by rfl) T.b_isinstance (by decide +kernel) (pa_cons (pv 2) (pa_cons (pe_glob (v := .ref CB) (by rfl) eB.g rfl) pa_nil))) pa_nil)))
    (pss_cons (ps_set (i := 4) nd rfl (.inl rfl) (pe_lst (pa_cons pe_str (pa_cons pe_str (pa_cons pe_str (pa_cons pe_str pa_nil))))))
    (pss_one (ps_set (i := 1) nd rfl (.inl rfl) (pe_ifExp (PW.pt (pw_and (pt_cmpR op_eq (k_bm (K' := K) rfl PySem.F.plainAttrs_list PySem.F.slot_list_count PySem.F.type_list_count mt_bcount (pv 3) (pa_cons pe_bl pa_nil)) pe_int (nomark _))
      (pw_and1 (pt_val (pe_callB cI (by rfl) T.b_isinstance (by decide +kernel) (pa_cons (pv 2) (pa_cons (pe_bltn (v := .ty "ValueError") (by rfl) bV (by decide +kernel) rfl) pa_nil)))))))
      (pe_ix (k_ix (K' := K) rfl) (pv 4) (k_bm (K' := K) rfl PySem.F.plainAttrs_list PySem.F.slot_list_index PySem.F.type_list_index mt_index (pv 3) (pa_cons pe_bl pa_nil)) (fun _ _ => rfl)) pe_str))))))
  refine der.run pins s1 _ H1 E I ?_
  have isE : ∀ {σ : L2.St} {G : Hp} {c : V} {cv : Value} {b : Bool} {tc : TE}, σ[2]? = some (some (.ref a)) → EvR (tc σ) G (Is c) → (∀ u, RelV c u → u = cv) → PySem.W.kitOne K (.ref D) cv = some b → EvR (tCB (rIsE K D a) (tCons (tVar 2) (tCons tc tNil)) σ) G (Is (.bl b)) := fun h1 h2 h3 h4 =>
    ev_cb2 (ev_var h1) h2 fun G g Q q => ⟨_, _, _, rfl, h3, h4, q _ G (fun _ _ e => e) rfl⟩
  refine rs_asg (ev_lst (vs := [.bl f0, .bl f1, .bl f2]) (ea_cons (isE (c := .ref CN) (cv := .ref CN) rfl ev_c (fun _ r => r) er.k0) (ea_cons (isE (c := .ref CL) (cv := .ref CL) rfl ev_c (fun _ r => r) er.k1) (ea_cons (isE (c := .ref CS) (cv := .ref CS) rfl ev_c (fun _ r => r) er.k2) ea_nilV))) (by show 3 ≤ sizeLine; decide)) fun v H2 s2 hv => ?_
  obtain ⟨l, rfl, l0, hl⟩ := hv
  refine rs_dropK ⟨_, rfl, .inl ⟨rfl, _, SqL.of hl⟩, ?_⟩
  refine (isE (c := .ref CB) (cv := .ref CB) rfl ev_c (fun _ r => r) er.k3).run fun v H3 s3 e3 => ?_
  cases e3
  refine ⟨l, _, _, rfl, rfl, s3 _ _ hl, by show 3 < sizeLine; decide, ?_⟩
  have s14 : Same H1 (upd H3 l (.lst ([.bl f0, .bl f1, .bl f2] ++ [.bl f3]))) := fun b o e => by
    rw [upd_ne (ne_of_none e l0)]
    exact s3 _ _ (s2 _ _ e)
  have hl4 : (upd H3 l (.lst ([.bl f0, .bl f1, .bl f2] ++ [.bl f3]))) l = some (.lst ([f0, f1, f2, f3].map V.bl)) := upd_same
  generalize upd H3 l (.lst ([.bl f0, .bl f1, .bl f2] ++ [.bl f3])) = H4 at *
  refine rs_asg (ev_lst (vs := [.str "node", .str "label", .str "standing", .str "notebook"]) (ea_cons ev_c (ea_cons ev_c (ea_cons ev_c (ea_cons ev_c ea_nilV)))) (by show 4 ≤ sizeLine; decide)) fun v H5 s5 hv => ?_
  obtain ⟨l4, rfl, _, hw⟩ := hv
  have hl5 := s5 _ _ hl4
  refine rs_asgL (P1 := Is (.str wd)) (ev_if (b := true) (et_and (b := true) (c := true) (et_test (ev_op (x := .int (1 : Nat)) (fun G g Q k => ⟨_, rfl, .inl ⟨rfl, _, g.sqL (SqL.of hl5)⟩, l, [f0, f1, f2, f3], true, rfl, rfl, g.sqL (SqL.of hl5), ?_⟩) ev_c ?_)) fun _ => et_B (isE (c := .ty "ValueError") (cv := .type "ValueError") rfl ev_c (fun _ r => r) er.kv)) (fun _ => ?_) fun e => nomatch e) fun v H6 s6 e6 => ?_
  · rw [er.one]
    exact k _ G (fun _ _ e => e) rfl
  · exact fun G g Q k => ⟨rfl, k _ G (fun _ _ e => e) rfl⟩
  · have hj : j < 4 := by
      have := (List.getElem?_eq_some_iff.mp er.at_).1
      simpa using this
    refine ev_op (x := .ref l4) (y := .int (j : Nat)) (ev_var rfl) (fun G g Q k => ⟨_, rfl, .inl ⟨rfl, _, g.sqL (SqL.of hl5)⟩, l, [f0, f1, f2, f3].map V.bl, .bl true, j, .bl true, rfl, rfl, g.sqL (SqL.of hl5), rfl, ?_, ?_, ?_, fun m z' hm hz' => ?_, k _ G (fun _ _ e => e) rfl⟩) (ev_or1 (rv_ixL (SqL.of hw) ?_))
    · rfl
    · rw [List.getElem?_map, er.at_]
      rfl
    · rfl
    · rw [List.getElem?_map] at hz'
      cases hb : ([f0, f1, f2, f3] : List Bool)[m]? with
      | none =>
        rw [hb] at hz'
        cases hz'
      | some b =>
        rw [hb] at hz'
        cases hz'
        rw [er.lt m b hm hb]
        rfl
    · rw [atI_nat (by simpa using hj)]
      have hw' := er.w
      have e : ([.str "node", .str "label", .str "standing", .str "notebook"] : List V) = ([Str.ofString "node", Str.ofString "label", Str.ofString "standing", Str.ofString "notebook"] : List Str).map V.str := rfl
      rw [e, List.getElem?_map, hw']
      rfl
  · cases e6
    exact q _ _ H6 (((s14.trans s5)).trans s6)
theorem pe_weak {X : Cx} {e : Expr} {te te' : TE} (h : PE X e te) (i : ∀ σ H Q, te' σ H Q → ∃ Q', te σ H Q' ∧ ∀ v H, Q' v H → Q v H) : PE X e te' := ⟨fun pins s σ H Q I hw => by
  obtain ⟨Q', h1, h2⟩ := i σ H Q hw
  exact wpAny_mono (h.run pins s σ H Q' I h1) (fun v s' ⟨x, H', I', r, q⟩ => ⟨x, H', I', r, h2 _ _ q⟩) fun _ _ z => z⟩
theorem len_takes {X : Cx} {W : WX} (tk : Takes X W) : Takes X (fun c d σ H => σ.length = X.N.length → W c d σ H) := fun u s' ⟨a, B, sI, pins, σ, H, cls, d, e, I, nb, up, sky, na, os, ag, w⟩ =>
  tk u s' ⟨a, B, sI, pins, σ, H, cls, d, e, I, nb, up, sky, na, os, ag, w I.len⟩
theorem word_gives {X : Cx} {g : Addr} {cdg : Value} {q : Str} {CT CN CL CS CB : Addr} (T : Txt X.K X.mg C aO t8) (gT : X.mg "TownError" = some (.ref CT))
    (eN : ErrC X.K X.mg "NoNode" CN) (eL : ErrC X.K X.mg "NoLabel" CL) (eS : ErrC X.K X.mg "NoStanding" CS) (eB : ErrC X.K X.mg "NoNotebook" CB) (bV : X.mg "ValueError" = none) :
    LamX.GivesTo X n_law_word "_law_word" (defScope s_law_word) g cdg (defBody s_law_word) "call" q (TWord X.K CT CN CL CS CB) := by
  intro f c' s H Q tl act hc h
  have hgl : Gl (cxOf C8.CX0 X.prog X.w X.K X.mg X.base n_law_word "_law_word" (defScope s_law_word) g cdg X.A X.stack s H C8.E0).nox "TownError" := by rfl
  have nd := sc_law_word.nd
  refine ⟨_, pss_cons (ps_set (i := 1) nd rfl (.inl rfl) pe_str) (pss_cons (ps_try_as (X := (cxOf C8.CX0 X.prog X.w X.K X.mg X.base n_law_word "_law_word" (defScope s_law_word) g cdg X.A X.stack s H C8.E0).nox) (i := 2) (c := .ref CT)
      (tb := fun W D σ H => ∃ Ech : XK, (∀ cls d σ' H', Ech cls d H' → σ'.length = 5 → W cls d σ' H') ∧ σ[0]? = some (some (.ref f)) ∧ H c' = some (LamX.CodeO c' q) ∧ tl Ech H (fun _ _ => False))
      rfl rfl nd rfl rfl ⟨hgl, by decide, .inl gT⟩ LamX.takes0 (fun W pn xe tk _ => ?_) (fun a oe cls d pn hz hf => suite_word (CT := CT) T eN eL eS eB bV hz hf)) (pss_one (ps_ret (pv 1)))), ?_⟩
  · refine ⟨fun pins s' σ H' D I h' => ?_⟩
    obtain ⟨Ech, hW, h1, h2, h3⟩ := h'
    have hp := fun p1 p2 => act _ pn xe Ech p1 p2 (len_takes tk) fun cls d σ' H' e hl => hW cls d σ' H' e hl
    exact (pss_one (ps_expr (pe_weak (te' := fun σZ HZ _ => σZ[0]? = some (some (.ref f)) ∧ HZ c' = some (LamX.CodeO c' q) ∧ tl Ech HZ (fun _ _ => False)) (hp _ _) fun σ H Q x => ⟨_, x, fun _ _ z => z.elim⟩))).run pins s' σ H' D I ⟨h1, h2, h3⟩
  · refine ⟨fun cls d H' => ∃ D f0 f1 f2 f3 j wd, cls = .ref D ∧ d = none ∧ ErrIs X.K CT CN CL CS CB D f0 f1 f2 f3 j wd ∧ ∀ H'', Same H' H'' → Q (.str wd) H'', fun cls d σ' H' ⟨D, f0, f1, f2, f3, j, wd, e1, e2, er, k⟩ hl => ?_, rfl, hc, ?_⟩
    · refine ⟨true, by rw [e1]; exact er.m, fun _ a _ => ?_, fun e => nomatch e⟩
      match σ', hl with
      | [x0, x1, x2, x3, x4], _ => exact ⟨D, f0, f1, f2, f3, j, wd, x0, x1, x3, x4, e1, e2, er, rfl, fun l3 l4 H'' s'' => ⟨_, rfl, k H'' s''⟩⟩
    · exact h
end N88
/-! things that are none; the stages of what is refused; a lambda handed to _law_word -/
namespace N88
open PySem L2 PySem.Spec
variable {P : Program} {w : World} {K : PySem.W.Frag} {mg : Str → Option Value} {base : Heap} {C aO : Addr} {t8 : Tok} {Tt : List (Addr × Str)}
/-- a thing of a kind, not the hand -/
def Stuff (H : Hp) (hd : Addr) (v : V) (n : String) : Prop := (v = .non ∧ n = "NoneType") ∨ (∃ b, v = .bl b ∧ n = "bool") ∨ (∃ i, v = .int i ∧ n = "int") ∨ (∃ z, v = .str z ∧ n = "str") ∨
  ∃ a, v = .ref a ∧ a ≠ hd ∧ ((∃ xs, H a = some (.tup xs) ∧ n = "tuple") ∨ (∃ xs, H a = some (.lst xs) ∧ n = "list") ∨ ∃ kvs, H a = some (.dK kvs) ∧ n = "dict")
/-- all but the hand and the tables stays -/
def Sty (hd : Addr) (H H' : Hp) : Prop := ∀ b o, b ≠ hd → (∀ ps, o ≠ .tbl ps) → H b = some o → H' b = some o
theorem Sty.but {hd : Addr} {H H' : Hp} (b : But [hd] H H') : Sty hd H H' := fun x o n _ e => b x o (by rw [List.mem_singleton]; exact n) e
theorem Sty.same {hd : Addr} {H H' : Hp} (s : Same H H') : Sty hd H H' := fun x o _ _ e => s x o e
theorem Sty.trans {hd : Addr} {H H1 H2 : Hp} (a : Sty hd H H1) (b : Sty hd H1 H2) : Sty hd H H2 := fun x o n t e => b x o n t (a x o n t e)
theorem Stuff.sty {H H' : Hp} {hd : Addr} {v : V} {n : String} (h : Stuff H hd v n) (s : Sty hd H H') : Stuff H' hd v n :=
  h.imp id (Or.imp id (Or.imp id (Or.imp id fun ⟨a, e, ne, k⟩ => ⟨a, e, ne, k.imp (fun ⟨xs, h, e⟩ => ⟨xs, s _ _ ne (fun _ z => by cases z) h, e⟩) (Or.imp (fun ⟨xs, h, e⟩ => ⟨xs, s _ _ ne (fun _ z => by cases z) h, e⟩) fun ⟨xs, h, e⟩ => ⟨xs, s _ _ ne (fun _ z => by cases z) h, e⟩)⟩)))
theorem Stuff.kind {H : Hp} {hd : Addr} {v : V} {n : String} (h : Stuff H hd v n) : Kind K H v n := fun H' f => by
  rcases h with ⟨rfl, rfl⟩ | ⟨b, rfl, rfl⟩ | ⟨i, rfl, rfl⟩ | ⟨z, rfl, rfl⟩ | ⟨a, rfl, _, ⟨xs, e, rfl⟩ | ⟨xs, e, rfl⟩ | ⟨kvs, e, rfl⟩⟩
  · exact .base .non
  · exact .base (.bl b)
  · exact .base (.int i)
  · exact .base (.str z)
  · exact .base (.tup (f.nd e rfl))
  · exact .base (.lst (f.nd e rfl))
  · rcases f a _ e with h1 | ⟨_, od, h1⟩
    · exact .base (.dK h1)
    · exact .fDict h1
def SW (hd : Addr) (H : Hp) (v : V) : Prop := (∃ n b c, Stuff H hd v n ∧ kitB n "int" = some b ∧ kitB n "bool" = some c ∧ (b && !c) = false) ∨ ∃ i : Int, v = .int i ∧ (i < 0 ∨ 8 < i)
theorem SW.sty {hd : Addr} {H H' : Hp} {v : V} (h : SW hd H v) (s : Sty hd H H') : SW hd H' v := h.imp (fun ⟨n, b, c, h1, h2⟩ => ⟨n, b, c, h1.sty s, h2⟩) id
theorem SW.bad {hd : Addr} {H : Hp} {v : V} (h : SW hd H v) : BadW K H v := h.imp (fun ⟨n, b, c, h1, h2⟩ => ⟨n, b, c, h1.kind, h2⟩) id
def SL (hd : Addr) (H : Hp) (v : V) : Prop := (∃ n, Stuff H hd v n ∧ kitB n "str" = some false) ∨ ∃ z : Str, v = .str z ∧ z.length ≤ 100 ∧ badL z = true
theorem SL.sty {hd : Addr} {H H' : Hp} {v : V} (h : SL hd H v) (s : Sty hd H H') : SL hd H' v := h.imp (fun ⟨n, h1, h2⟩ => ⟨n, h1.sty s, h2⟩) id
theorem SL.bad {hd : Addr} {H : Hp} {v : V} (h : SL hd H v) : BadL K H v := h.imp (fun ⟨n, h1, h2⟩ => ⟨n, h1.kind, h2⟩) id
def kinds6 : List String := ["NoneType", "int", "str", "tuple", "list", "dict"]
def SN (hd : Addr) (H : Hp) (v : V) : Prop := ∃ n, Stuff H hd v n ∧ n ∈ kinds6
theorem SN.sty {hd : Addr} {H H' : Hp} {v : V} (h : SN hd H v) (s : Sty hd H H') : SN hd H' v := by
  obtain ⟨n, h1, h2⟩ := h
  exact ⟨n, h1.sty s, h2⟩
theorem SN.bad {hd : Addr} {H : Hp} {v : V} (hC : ∀ n ∈ kinds6, PySem.W.kitOne K (.type n) (.ref C) = some false) (h : SN hd H v) : BadN K C H v := by
  obtain ⟨n, h1, h2⟩ := h
  exact ⟨n, h1.kind, hC n h2⟩
/-- values of a list, each with what G says -/
theorem ka_list {σ : L2.St} {G : Hp → V → Prop} (mono : ∀ H H' v, Same H H' → G H v → G H' v) {tl : L2.TA} : ∀ (tes : List TE) (H : Hp) (Q : List V → Hp → Prop), (∀ te ∈ tes, ∀ H', Same H H' → EvR (te σ) H' (fun v H2 => G H2 v)) →
    (∀ vs H1, Same H H1 → vs.length = tes.length → (∀ v ∈ vs, G H1 v) → tl σ H1 (fun ws H2 => Q (vs ++ ws) H2)) → (tes.foldr tCons tl) σ H Q
  | [], H, Q, _, k => k [] H (fun _ _ e => e) rfl fun _ h => by cases h
  | te :: tes, H, Q, h, k => (h te List.mem_cons_self H (fun _ _ e => e)).run fun v H1 s1 g1 =>
    ka_list mono tes H1 (fun ws H2 => Q (v :: ws) H2) (fun te' ht H' s => h te' (List.mem_cons_of_mem _ ht) H' (s1.trans s)) fun vs H2 s2 hl hg => k (v :: vs) H2 (s1.trans s2) (by rw [List.length_cons, hl, List.length_cons]) fun x hx => by
      rcases List.mem_cons.mp hx with e | e
      · rw [e]
        exact mono _ _ _ s2 g1
      · exact hg x e
/-- a stage: the hand, the tables, all else as it was -/
structure Stg (Tt : List (Addr × Str)) (hd ca : Addr) (H0 H : Hp) : Prop where
  sty : Sty hd H0 H
  hand : HandAt H hd ca
  tabs : LamX.Tabs Tt H
section
variable {hd ca : Addr} {H0 H H' : Hp}
theorem Stg.but (g : Stg Tt hd ca H0 H) (b : But [hd] H H') (h : HandAt H' hd ca) : Stg Tt hd ca H0 H' := ⟨g.sty.trans (.but b), h, tabs_hd g.tabs g.hand b⟩
theorem Stg.same (g : Stg Tt hd ca H0 H) (s : Same H H') : Stg Tt hd ca H0 H' := g.but (But.of s) (g.hand.same s)
theorem Stg.ext (g : Stg Tt hd ca H0 H) (x : LamX.ExtN H H') (t : LamX.Tabs Tt H') : Stg Tt hd ca H0 H' := by
  refine ⟨g.sty.trans fun b o _ n e => x b o e n, ?_, t⟩
  obtain ⟨xs, i, n, z, c, h1, h2, h3⟩ := g.hand
  exact ⟨xs, i, n, z, c, x _ _ h1 (fun _ z => by cases z), x _ _ h2 (fun _ z => by cases z), h3⟩
theorem Stg.put {a : Addr} {xs ys : List V} (g : Stg Tt hd ca H0 H) (h : H a = some (.lst xs)) (h0 : ∀ o, H0 a = some o → (∀ ps, o ≠ .tbl ps) → False) (n1 : a ≠ hd) (n2 : a ≠ ca) : Stg Tt hd ca H0 (upd H a (.lst ys)) := by
  refine ⟨fun b o n t e => ?_, g.hand.off n1 n2, tabs_but g.tabs ((But.of (fun _ _ e => e)).put List.mem_cons_self : But [a] H _) fun x hx => ?_⟩
  · by_cases c : b = a
    · rw [c] at e
      exact (h0 o e t).elim
    · rw [upd_ne c]
      exact g.sty b o n t e
  · rw [List.mem_singleton] at hx
    rw [hx]
    exact ⟨_, h, rfl⟩
/-- what a lambda's reading gives: the j-th error, whatever is wished of it -/
def LamOk (Tt : List (Addr × Str)) (hd ca : Addr) (H0 : Hp) (CE : Addr) (σ : L2.St) (t : XK → TE) : Prop := ∀ H1, Stg Tt hd ca H0 H1 → ∀ E : XK, (∀ H2, But [hd] H1 H2 → Stg Tt hd ca H0 H2 → E (.ref CE) none H2) → t E σ H1 (fun _ _ => False)
theorem k_lam {σ : L2.St} {CT CN CL CS CB CE : Addr} {f0 f1 f2 f3 : Bool} {j : Nat} {wd : Str} {t : XK → TE} {Q : VK} (g : Stg Tt hd ca H0 H) (er : ErrIs K CT CN CL CS CB CE f0 f1 f2 f3 j wd) (ok : LamOk Tt hd ca H0 CE σ t)
    (k : ∀ H2, Sty hd H H2 → Stg Tt hd ca H0 H2 → Q (.str wd) H2) : LamX.tLam Tt (TWord K CT CN CL CS CB) t σ H Q :=
  ⟨g.tabs, fun H1 x T1 => ok H1 (g.ext x T1) _ fun H2 b2 g2 => ⟨CE, f0, f1, f2, f3, j, wd, rfl, rfl, er, fun H3 s3 => k H3 (fun b o n t e => s3 _ _ (b2 b o (by rw [List.mem_singleton]; exact n) (x b o e t))) (g2.same s3)⟩⟩
theorem k_append_lam {σ : L2.St} {i : Nat} {lw CT CN CL CS CB CE : Addr} {f0 f1 f2 f3 : Bool} {j : Nat} {wd : Str} {ws : List Str} {t : XK → TE} {t2 : TS} {E : Ends} (g : Stg Tt hd ca H0 H) (hσ : σ[i]? = some (some (.ref lw))) (hl : H lw = some (.lst (ws.map V.str))) (h0 : ∀ o, H0 lw = some o → (∀ ps, o ≠ .tbl ps) → False) (n1 : lw ≠ hd) (n2 : lw ≠ ca) (hn : ws.length < 1000)
    (er : ErrIs K CT CN CL CS CB CE f0 f1 f2 f3 j wd) (ok : LamOk Tt hd ca H0 CE σ t) (k : ∀ H2, Stg Tt hd ca H0 H2 → H2 lw = some (.lst ((ws ++ [wd]).map V.str)) → t2 E σ H2) : tSeq (tDrop (tBM K "list" rAppend (tVar i) (tCons (LamX.tLam Tt (TWord K CT CN CL CS CB) t) tNil))) t2 E σ H := by
  refine ⟨.ref lw, hσ, .inl ⟨rfl, _, SqL.of hl⟩, ?_⟩
  refine k_lam g er ok fun H2 s2 g2 => ?_
  have hl2 := s2 _ _ n1 (fun _ z => by cases z) hl
  refine ⟨lw, _, _, rfl, rfl, hl2, by rw [List.length_map]; exact small1000 (by omega), ?_⟩
  refine k _ (g2.put hl2 h0 n1 n2) ?_
  rw [upd_same, List.map_append]
  rfl
end
/-- the def's code object is known by the name that FuncData holds -/
theorem fun_okL {x qual : Str} {st : Stmt} {f : Addr} {fd : FuncData} {N ps : List Str} {k : Nat} {sp : Sp} (F : Fun K x qual st f fd) (S : FnScope N ps (defScope st)) (len : ∀ vs H Q E, sp vs H Q E → vs.length = ps.length)
    (hbody : ∀ (A : Around) (outer : List Env) (s : Shared) (H : Hp) (vs : List V) (Q : VK) (E : XK), Room k (A.deeper (PyProof.Rows.envOfC qual (defScope st) s.heap.objs.size f fd.code)) → sp vs H Q E →
      ∃ t, PSs (cxOf L2.CX0 P w K mg base N qual (defScope st) f fd.code A outer s H E).nox (defBody st) t ∧ t { nx := fun _ H' => Q .non H', rt := Q } (start N vs) H) : FnOk P w K mg base L2.CX0 (k + 1) f fd ps sp := by
  obtain ⟨oc, od, kV, doc, pm, an, cdv, ct, osl, rfl, lk, hcd⟩ := F.ex
  refine fn_of lk hcd S len fun A outer s H vs Q E hr hsp => ?_
  obtain ⟨t, h, q⟩ := hbody A outer s H vs Q E hr hsp
  exact ⟨t, h.nox, q⟩
/-- what a call of _law_word with a lambda wants of a context -/
structure WordEnv (X : Cx) (C aO : Addr) (t8 : Tok) (c PT CT CN CL CS CB fw : Addr) (fdw : FuncData) : Prop where
  T : Txt X.K X.mg C aO t8
  F : Fun X.K "_law_word" "_law_word" s_law_word fw fdw
  at_ : X.mg "_law_word" = some (.ref fw)
  b : L2.Binds X.K fdw p_law_word []
  gT : X.mg "TownError" = some (.ref CT)
  eN : ErrC X.K X.mg "NoNode" CN
  eL : ErrC X.K X.mg "NoLabel" CL
  eS : ErrC X.K X.mg "NoStanding" CS
  eB : ErrC X.K X.mg "NoNotebook" CB
  bV : X.mg "ValueError" = none
  TB : LamX.TabB X.base X.mg c PT
  code : X.env.code = .ref c
  room : Room 8 X.A
theorem pe_word {X : Cx} {c PT CT CN CL CS CB fw : Addr} {fdw : FuncData} {params : Arguments} {body : Expr} {scope : Scope} {t : XK → TE} {p lpos pos : Pos} (we : WordEnv X C aO t8 c PT CT CN CL CS CB fw fdw) (hg : Gl X "_law_word") (L : LamX.lamSB X.env.scope scope = true) (hdef : defaultsOf params X.env = ([], []))
    (hbind : ∀ (q : Str) (cl : List (Str × Addr)) (pm cv ctv : Value), bindArgs (PySem.W.kla_fn "<lambda>" q params body scope cl pm cv ctv) ⟨[], []⟩ = pure [])
    (hbody : ∀ (A : Around) (outer : List Env) (s : Shared) (H : Hp) (E : XK) (f c' : Addr), Room 6 (A.deeper (LamX.lamEnv X scope s.heap.objs.size f c')) → PE (LamX.lamCx X A outer s H E scope f c') body (t E)) :
    PE X (.Call (.Name "_law_word" p) [.Lambda params body scope lpos] [] pos) (LamX.tLam [(PT, X.env.qual ++ "<lambda>")] (TWord X.K CT CN CL CS CB) t) := by
  obtain ⟨oc, od, kV, doc, pm, an, cdv, ct, osl, e, lk, hcd⟩ := we.F.ex
  subst e
  exact LamX.pe_lamcall (k := 6) (Ng := n_law_word) (a := "call") hg we.at_ we.F.kp lk hcd we.b sc_law_word (by rfl) (.inl (by rfl)) (word_gives we.T we.gT we.eN we.eL we.eS we.eB we.bV) we.TB we.code List.mem_cons_self (fun p hp _ => by rw [List.mem_singleton] at hp; rw [hp]) we.room (LamX.lamS_by L) hdef hbind hbody
end N88
/-! what is refused -/
namespace N88
open PySem L2 PySem.Spec
variable {P : Program} {w : World} {K : PySem.W.Frag} {mg : Str → Option Value} {base : Heap} {C aO : Addr} {t8 : Tok} {Tt : List (Addr × Str)}
/-- a method that may refuse -/
structure MCalX (P : Program) (w : World) (K : PySem.W.Frag) (mg : Str → Option Value) (base : Heap) (C : Addr) (x : Str) (k : Nat) (ps : List Str) (sp : Sp) where
  f : Addr
  fd : FuncData
  ok : FnOk P w K mg base (L2.CX P w) k f fd ps sp
  m : Meth K C x f
  b : Binds K fd ps []
theorem fmc {α : Type} {p : α → Prop} {a : α} {l : List α} (h1 : p a) (h2 : ∀ x ∈ l, p x) : ∀ x ∈ a :: l, p x := List.forall_mem_cons.mpr ⟨h1, h2⟩
theorem fmn {α : Type} {p : α → Prop} : ∀ x ∈ ([] : List α), p x := fun _ h => by cases h
theorem new_ne {H H2 : Hp} {hd ca : Addr} {v : V} {o : HO} (h : New H o v H2) (hh : HandAt H hd ca) : ∃ p, v = .ref p ∧ p ≠ hd ∧ H2 p = some o := by
  obtain ⟨p, e, h0, h1⟩ := h
  obtain ⟨⟨oh, hoh⟩, _⟩ := hh.some
  exact ⟨p, e, (ne_of_none hoh h0).symm, h1⟩
theorem k_lst {σ : L2.St} {H : Hp} {ta : L2.TA} {Q : VK} (h : ta σ H fun xs H1 => xs.length ≤ sizeLine ∧ ∀ p, H1 p = none → Q (.ref p) (upd H1 p (.lst xs))) : tLst ta σ H Q := h
section
variable {σ : L2.St} {H : Hp} {hd ca : Addr} {G : Hp → V → Prop}
theorem k_lst_draw {E : XK} {Q : VK} (tes : List TE) (mono : ∀ H H' v, G H v → Sty hd H H' → G H' v) (gn : ∀ H a, Nest H hd a → G H (.ref a)) (hσ : σ[0]? = some (some (.ref hd))) (hh : HandAt H hd ca) (hn : tes.length < 900) (ht : ∀ te ∈ tes, ∀ H', Same H H' → EvR (te σ) H' (fun v H2 => G H2 v))
    (k : ∀ l xs H', But [hd] H H' → HandAt H' hd ca → H' l = some (.lst xs) → H l = none → xs.length = tes.length + 1 → (∀ v ∈ xs, G H' v) → Q (.ref l) H') : tLst (tes.foldr tCons (tCons (tCall SpDeep [] E (tCons (tVar 0) tNil)) tNil)) σ H Q := by
  refine k_lst (ka_list (G := G) (fun H H' v s g => mono H H' v g (.same s)) tes H _ ht fun vs H1 s1 hl hg => ?_)
  refine k_call (vs := [.ref hd]) (ea_cons (ev_var hσ) ea_nilV) fun H2 s2 => ⟨hd, ca, rfl, (hh.same s1).same s2, fun H3 a b3 h3 ns => ?_⟩
  have hlen : (vs ++ [V.ref a]).length = tes.length + 1 := by
    rw [List.length_append, hl]
    rfl
  refine ⟨by rw [hlen]; exact Nat.le_of_lt (small1000 (by omega)), fun p hp => ?_⟩
  have s3 : Same H3 (upd H3 p (.lst (vs ++ [.ref a]))) := same_new hp
  have b13 : But [hd] H1 H3 := But.trans (But.of s2) b3
  have b03 : But [hd] H H3 := But.trans (But.of s1) b13
  have p0 : H p = none := by
    obtain ⟨⟨oh, hoh⟩, _⟩ := h3.some
    exact b03.noneOf hp (by rw [List.mem_singleton]; exact (ne_of_none hoh hp).symm)
  refine k p _ _ (b03.same s3) (h3.same s3) upd_same p0 hlen fun v hv => ?_
  rcases List.mem_append.mp hv with e | e
  · exact mono _ _ _ (hg v e) (Sty.but (b13.same s3))
  · rw [List.mem_singleton] at e
    rw [e]
    exact mono _ _ _ (gn _ _ ns) (.same s3)
end
theorem inV_strs_iff {z : Str} {ws : List Str} : inV (.str z) (ws.map V.str) = true ↔ z ∈ ws := by
  constructor
  · intro h
    by_cases c : z ∈ ws
    · exact c
    · rw [inV_strs c] at h
      cases h
  · intro h
    unfold inV
    rw [List.any_map]
    exact List.any_eq_true.mpr ⟨z, h, by simp [eqV]⟩
theorem prStrs {H : Hp} : ∀ {zs : List Str} {ys : List V}, Paired (fun z y => Is (.str z) y H) zs ys → ys = zs.map V.str
  | _, _, .nil => rfl
  | _, _, .cons a b => by
    cases a
    rw [prStrs b]
    rfl
def owed8 : List Str := [Str.ofString "node", Str.ofString "node", Str.ofString "label", Str.ofString "label", Str.ofString "label", Str.ofString "standing", Str.ofString "notebook", Str.ofString "notebook"]
theorem strsTd {H : Hp} : ∀ zs : List Str, TdAll K H (zs.map V.str) (zs.map PyData.str)
  | [] => .nil
  | z :: zs => .cons (.str z) (strsTd zs)
theorem raw_of {W : PI2 → Str} {M B : List PI2} {z : Str} (h : z ∉ allW (tab W M) B) : rawM (tab W M) B z = [] := raw_nil fun x hx hw => by
  by_cases c : x ∈ B
  · exact c
  · refine absurd ?_ h
    unfold allW
    refine (srtS_perm _).mem_iff.mpr ?_
    refine uniqW_mem.mpr (List.mem_map.mpr ⟨(x, W x), List.mem_filter.mpr ⟨List.mem_map.mpr ⟨x, hx, rfl⟩, ?_⟩, hw⟩)
    rw [Bool.not_eq_true']
    exact Bool.eq_false_iff.mpr fun d => c (List.contains_iff_mem.mp d)
theorem allW_sub {W : PI2 → Str} {M B : List PI2} {z : Str} (hw : ∀ m ∈ M, W m ∈ labels8) (h : z ∈ allW (tab W M) B) : z ∈ labels8 := by
  unfold allW at h
  have h2 := uniqW_mem.mp ((srtS_perm _).mem_iff.mp h)
  obtain ⟨p, hp, e⟩ := List.mem_map.mp h2
  have h3 := List.mem_filter.mp hp
  obtain ⟨m, hm, rfl⟩ := List.mem_map.mp h3.1
  rw [← e]
  exact hw m hm
theorem ev_marksL {σ : L2.St} {H : Hp} {E : XK} {W : PI2 → Str} {a dx p t : Addr} {pen : Int} {M B : List PI2} {z : Str} {te te2 : TE} {d : PyData} (h1 : EvR (te σ) H (Is (.ref a))) (h2 : EvR (te2 σ) H (Is (.str z))) (n : NM C W H a dx p t pen M B) (hz : LabOk z) (hd : .tuple ((rawM (tab W M) B z).map prD) = d) :
    EvR (tMeth C (Str.ofString "marks_of") (SpOf (preMarks K C)) [] E te (tCons te2 tNil) σ) H (D K d) := by
  subst hd
  exact ev_meth (vs := [.str z]) h1 n.ha (nbf_no (by decide +kernel)) (ea_cons h2 ea_nilV) fun H' g => ⟨_, _, _, _, _, _, _, _, rfl, n.nb.fx g, n.fit, hz, rfl⟩
theorem never_lab : LabOk "never" := labOk_of (by decide +kernel)
theorem never_not : ("never" : Str) ∉ labels8 := by decide +kernel
abbrev tabQ (PT : Addr) : List (Addr × Str) := [(PT, (Str.ofString "_law_are_refused" ++ Str.ofString ".<locals>.") ++ Str.ofString "<lambda>")]
theorem ok_refused {f cc PT CT CN CL CS CB fw : Addr} {fd fdw : FuncData} (F : Fun K "_law_are_refused" "_law_are_refused" s_law_are_refused f fd) (T : Txt K mg C aO t8) (hc : fd.code = .ref cc) (Fw : Fun K "_law_word" "_law_word" s_law_word fw fdw) (aw : mg "_law_word" = some (.ref fw)) (bw : L2.Binds K fdw p_law_word [])
    (gT : mg "TownError" = some (.ref CT)) (eN : ErrC K mg "NoNode" CN) (eL : ErrC K mg "NoLabel" CL) (eS : ErrC K mg "NoStanding" CS) (eB : ErrC K mg "NoNotebook" CB) (bV : mg "ValueError" = none) (TB : LamX.TabB base mg cc PT)
    (iN : ErrIs K CT CN CL CS CB CN true false false false 0 "node") (iL : ErrIs K CT CN CL CS CB CL false true false false 1 "label") (iS : ErrIs K CT CN CL CS CB CS false false true false 2 "standing") (iB : ErrIs K CT CN CL CS CB CB false false false true 3 "notebook")
    (hC : ∀ n ∈ kinds6, PySem.W.kitOne K (.type n) (.ref C) = some false)
    (c_Notebook_all_told : MCal P w K mg base C "all_told" 1 p_Notebook_all_told (SpOf (preTold K C))) (c__law_some : Cal P w K mg base "_law_some" 2 p_law_some SpSome) (c__law_deep : Cal P w K mg base "_law_deep" 3 p_law_deep SpDeep) (c_Notebook_all_words : MCal P w K mg base C "all_words" 1 p_Notebook_all_words (SpOf (preWords K C)))
    (c_Notebook_marks_of : MCal P w K mg base C "marks_of" 3 p_Notebook_marks_of (SpOf (preMarks K C)))
    (noInit : MMkX P w K mg base C 4 p_Notebookd__initd_ (SpNo2 C (BadW K) CN)) (noCopy : MCalX P w K mg base C "copy" 6 p_Notebook_copy (SpNo2 C (BadW K) CN)) (noAdd : MCalX P w K mg base C "add" 3 p_Notebook_add (SpNo2 C (BadL K) CL)) (noDrop : MCalX P w K mg base C "drop" 3 p_Notebook_drop (SpNo2 C (BadL K) CL))
    (noMarks : MCalX P w K mg base C "marks_of" 3 p_Notebook_marks_of (SpNo2 C (BadL K) CL)) (noDropS : MCalX P w K mg base C "drop" 3 p_Notebook_drop (SpNoS C CS)) (noMeet : MCalX P w K mg base C "meet" 2 p_Notebook_meet (SpNo2 C (BadN K C) CB)) (noKnows : MCalX P w K mg base C "knows" 2 p_Notebook_knows (SpNo2 C (BadN K C) CB)) :
    FnOk P w K mg base CX0 15 f fd p_law_are_refused (SpRefused (tabQ PT) C) := by
  refine fun_okL F sc_law_are_refused (fun vs H Q E h => ?_) (fun A outer s H vs Q E hr h => ?_)
  · obtain ⟨hd, ca, a, dx, p, t, lb, zs, W, pen, M, B, rfl, _⟩ := h
    rfl
  · obtain ⟨hd, ca, a, dx, p, t, lb, zs, W, pen, M, B, rfl, hh, nm, sub, hlb, lbh, hz, hz0, hz8, tt, q⟩ := h
    have hu := hr.units
    have hu1 := hu_of hr
    have we : WordEnv (cxOf L2.CX0 P w K mg base n_law_are_refused "_law_are_refused" (defScope s_law_are_refused) f fd.code A outer s H E).nox C aO t8 cc PT CT CN CL CS CB fw fdw := ⟨T, Fw, aw, bw, gT, eN, eL, eS, eB, bV, TB, hc, hr.mono (by decide)⟩
    refine ⟨_, (pss_cons (ps_set (i := 3) sc_law_are_refused.nd rfl (.inl rfl) (pe_meth0 (pv 1) T.cl c_Notebook_all_told.m c_Notebook_all_told.ok (hr.mono (by first | decide | omega)) c_Notebook_all_told.b .nil pass0))
      (pss_cons (ps_set (i := 4) sc_law_are_refused.nd rfl (.inr rfl) (pe_call c__law_some.ok (hr.mono (by first | decide | omega)) (by rfl) c__law_some.at_ c__law_some.kp c__law_some.b .nil pass0 (pa_cons (pv 0) (pa_cons (pe_lst (pa_cons pe_int (pa_cons (pe_un un_neg pe_int) (pa_cons pe_non (pa_cons pe_bl (pa_cons pe_str (pa_cons (pe_tup (pa_cons pe_int pa_nil)) (pa_cons (pe_lst (pa_cons pe_int pa_nil)) (pa_cons pe_dnewK (pa_cons (pe_op op_pow pe_int pe_int) (pa_cons (pe_call c__law_deep.ok (hr.mono (by first | decide | omega)) (by rfl) c__law_deep.at_ c__law_deep.kp c__law_deep.b .nil pass0 (pa_cons (pv 0) pa_nil)) pa_nil))))))))))) pa_nil))))
      (pss_cons (ps_set (i := 5) sc_law_are_refused.nd rfl (.inr rfl) (pe_lst (pa_cons pe_str (pa_cons pe_str (pa_cons pe_str (pa_cons pe_str (pa_cons pe_str (pa_cons pe_str (pa_cons pe_str (pa_cons pe_str (pa_cons pe_non (pa_cons pe_int (pa_cons (pe_tup (pa_cons pe_str pa_nil)) (pa_cons (pe_lst (pa_cons pe_str pa_nil)) (pa_cons pe_dnewK (pa_cons pe_bl pa_nil))))))))))))))))
      (pss_cons (ps_set (i := 5) sc_law_are_refused.nd rfl (.inr rfl) (pe_call c__law_some.ok (hr.mono (by first | decide | omega)) (by rfl) c__law_some.at_ c__law_some.kp c__law_some.b .nil pass0 (pa_cons (pv 0) (pa_cons (pe_op (k_addU (K' := K) rfl) (pv 5) (pe_lst (pa_cons (pe_call c__law_deep.ok (hr.mono (by first | decide | omega)) (by rfl) c__law_deep.at_ c__law_deep.kp c__law_deep.b .nil pass0 (pa_cons (pv 0) pa_nil)) pa_nil))) pa_nil))))
      (pss_cons (ps_set (i := 6) sc_law_are_refused.nd rfl (.inr rfl) (pe_call c__law_some.ok (hr.mono (by first | decide | omega)) (by rfl) c__law_some.at_ c__law_some.kp c__law_some.b .nil pass0 (pa_cons (pv 0) (pa_cons (pe_lst (pa_cons pe_non (pa_cons pe_int (pa_cons (pe_meth0 (pv 1) T.cl c_Notebook_all_told.m c_Notebook_all_told.ok (hr.mono (by first | decide | omega)) c_Notebook_all_told.b .nil pass0) (pa_cons (pe_tup pa_nil) (pa_cons (pe_lst pa_nil) (pa_cons pe_dnewK (pa_cons pe_str (pa_cons (pe_call c__law_deep.ok (hr.mono (by first | decide | omega)) (by rfl) c__law_deep.at_ c__law_deep.kp c__law_deep.b .nil pass0 (pa_cons (pv 0) pa_nil)) pa_nil))))))))) pa_nil))))
      (pss_cons (ps_set (i := 7) sc_law_are_refused.nd rfl (.inr rfl) (pe_lk (pe_lc (own := [("word", 10)]) rfl sc_law_are_refused.nd (k_piAny (K' := K) rfl (pe_op (k_addU (K' := K) rfl) (pv 2) (pe_lst (pa_cons pe_str pa_nil)))) (blkOk_by (N := n_law_are_refused) (sc := defScope s_law_are_refused) (by decide +kernel)) (fun _ _ _ _ _ => (pg_name (i := 10) sc_law_are_refused.nd rfl (.inl rfl))) (fun _ _ _ _ _ => (pts_one (pt_cmpR (k_notIn (K' := K) rfl) (pv 10) (pe_meth0 (pv 1) T.cl c_Notebook_all_words.m c_Notebook_all_words.ok (hr.mono (by first | decide | omega)) c_Notebook_all_words.b .nil pass0) (by rfl)))) (fun _ _ _ _ _ => (pv 10)))))
      (pss_cons (ps_set (i := 8) sc_law_are_refused.nd rfl (.inl rfl) (pe_lst (pa_cons (pe_word we (by rfl) (show LamX.lamSB (defScope s_law_are_refused) _ = true by decide +kernel) rfl (by intros; rfl) fun A outer s H E f c' hr2 => (pe_make noInit.mkd noInit.ok (hr2.mono (by decide)) (by rfl) T.mg_Notebook noInit.b .nil (passes_call (takes_of rfl rfl rfl rfl) fun _ _ _ _ h => h) (pa_cons (pv 4) pa_nil))) pa_nil)))
      (pss_cons (ps_expr (k_bm (K' := K) rfl PySem.F.plainAttrs_list PySem.F.slot_list_append PySem.F.type_list_append mt_append (pv 8) (pa_cons (pe_word we (by rfl) (show LamX.lamSB (defScope s_law_are_refused) _ = true by decide +kernel) rfl (by intros; rfl) fun A outer s H E f c' hr2 => (pe_meth (pv 1) T.cl noCopy.m noCopy.ok (hr2.mono (by decide)) noCopy.b .nil (passes_call (takes_of rfl rfl rfl rfl) fun _ _ _ _ h => h) (pa_cons (pv 4) pa_nil))) pa_nil)))
      (pss_cons (ps_expr (k_bm (K' := K) rfl PySem.F.plainAttrs_list PySem.F.slot_list_append PySem.F.type_list_append mt_append (pv 8) (pa_cons (pe_word we (by rfl) (show LamX.lamSB (defScope s_law_are_refused) _ = true by decide +kernel) rfl (by intros; rfl) fun A outer s H E f c' hr2 => (pe_meth (pv 1) T.cl noAdd.m noAdd.ok (hr2.mono (by decide)) noAdd.b .nil (passes_call (takes_of rfl rfl rfl rfl) fun _ _ _ _ h => h) (pa_cons (pv 5) pa_nil))) pa_nil)))
      (pss_cons (ps_expr (k_bm (K' := K) rfl PySem.F.plainAttrs_list PySem.F.slot_list_append PySem.F.type_list_append mt_append (pv 8) (pa_cons (pe_word we (by rfl) (show LamX.lamSB (defScope s_law_are_refused) _ = true by decide +kernel) rfl (by intros; rfl) fun A outer s H E f c' hr2 => (pe_meth (pv 1) T.cl noDrop.m noDrop.ok (hr2.mono (by decide)) noDrop.b .nil (passes_call (takes_of rfl rfl rfl rfl) fun _ _ _ _ h => h) (pa_cons (pv 5) pa_nil))) pa_nil)))
      (pss_cons (ps_expr (k_bm (K' := K) rfl PySem.F.plainAttrs_list PySem.F.slot_list_append PySem.F.type_list_append mt_append (pv 8) (pa_cons (pe_word we (by rfl) (show LamX.lamSB (defScope s_law_are_refused) _ = true by decide +kernel) rfl (by intros; rfl) fun A outer s H E f c' hr2 => (pe_meth (pv 1) T.cl noMarks.m noMarks.ok (hr2.mono (by decide)) noMarks.b .nil (passes_call (takes_of rfl rfl rfl rfl) fun _ _ _ _ h => h) (pa_cons (pv 5) pa_nil))) pa_nil)))
      (pss_cons (ps_expr (k_bm (K' := K) rfl PySem.F.plainAttrs_list PySem.F.slot_list_append PySem.F.type_list_append mt_append (pv 8) (pa_cons (pe_word we (by rfl) (show LamX.lamSB (defScope s_law_are_refused) _ = true by decide +kernel) rfl (by intros; rfl) fun A outer s H E f c' hr2 => (pe_meth (pv 1) T.cl noDropS.m noDropS.ok (hr2.mono (by decide)) noDropS.b .nil (passes_call (takes_of rfl rfl rfl rfl) fun _ _ _ _ h => h) (pa_cons (pe_call c__law_some.ok (hr2.mono (by decide)) (by rfl) c__law_some.at_ c__law_some.kp c__law_some.b .nil pass0 (pa_cons (pv 0) (pa_cons (pv 7) pa_nil))) pa_nil))) pa_nil)))
      (pss_cons (ps_expr (k_bm (K' := K) rfl PySem.F.plainAttrs_list PySem.F.slot_list_append PySem.F.type_list_append mt_append (pv 8) (pa_cons (pe_word we (by rfl) (show LamX.lamSB (defScope s_law_are_refused) _ = true by decide +kernel) rfl (by intros; rfl) fun A outer s H E f c' hr2 => (pe_meth (pv 1) T.cl noMeet.m noMeet.ok (hr2.mono (by decide)) noMeet.b .nil (passes_call (takes_of rfl rfl rfl rfl) fun _ _ _ _ h => h) (pa_cons (pv 6) pa_nil))) pa_nil)))
      (pss_cons (ps_expr (k_bm (K' := K) rfl PySem.F.plainAttrs_list PySem.F.slot_list_append PySem.F.type_list_append mt_append (pv 8) (pa_cons (pe_word we (by rfl) (show LamX.lamSB (defScope s_law_are_refused) _ = true by decide +kernel) rfl (by intros; rfl) fun A outer s H E f c' hr2 => (pe_meth (pv 1) T.cl noKnows.m noKnows.ok (hr2.mono (by decide)) noKnows.b .nil (passes_call (takes_of rfl rfl rfl rfl) fun _ _ _ _ h => h) (pa_cons (pv 6) pa_nil))) pa_nil)))
      (pss_cons (ps_set (i := 9) sc_law_are_refused.nd rfl (.inl rfl) (pe_lst (pa_cons pe_str (pa_cons pe_str (pa_cons pe_str (pa_cons pe_str (pa_cons pe_str (pa_cons pe_str (pa_cons pe_str (pa_cons pe_str pa_nil))))))))))
      (pss_one (ps_ret (pe_and (pe_cmpR (k_eqD (K' := K) rfl hu) (pv 8) (pv 9) (nomark _)) (pe_and (pe_cmpR (k_eqD (K' := K) rfl hu) (pe_meth0 (pv 1) T.cl c_Notebook_all_told.m c_Notebook_all_told.ok (hr.mono (by first | decide | omega)) c_Notebook_all_told.b .nil pass0) (pv 3) (nomark _)) (pe_one (pe_cmpR (k_eqD (K' := K) rfl hu) (pe_meth (pv 1) T.cl c_Notebook_marks_of.m c_Notebook_marks_of.ok (hr.mono (by first | decide | omega)) c_Notebook_marks_of.b .nil pass0 (pa_cons pe_str pa_nil)) (pe_tup pa_nil) (nomark _)))))))))))))))))))))), ?_⟩
    refine rs_asg (P1 := D K (told (tab W M) B)) (ev_told (ev_var rfl) nm) fun v H1 s1 td1 => ?_
    have h1 := hh.same s1
    have tmh : ∀ {G G' : Hp}, HandAt G hd ca → But [hd] G G' → Tm G G' := fun {G G'} hg b x xs hx => b x _ (by
      obtain ⟨xs, i, n, z, c, g1, _, _⟩ := hg
      rw [List.mem_singleton]
      exact ne_of hx g1 (fun z => by cases z)) hx
    have kB : ∀ n : String, n ∈ ["NoneType", "str", "tuple", "list", "dict"] → kitB n "int" = some false ∧ kitB n "bool" = some false := by decide +kernel
    have sw : ∀ {G : Hp} {v : V} {n : String}, Stuff G hd v n → n ∈ ["NoneType", "str", "tuple", "list", "dict"] → SW hd G v := fun st hn => .inl ⟨_, _, _, st, (kB _ hn).1, (kB _ hn).2, rfl⟩
    have lB : ∀ n : String, n ∈ ["NoneType", "int", "bool", "tuple", "list", "dict"] → kitB n "str" = some false := by decide +kernel
    have sl : ∀ {G : Hp} {v : V} {n : String}, Stuff G hd v n → n ∈ ["NoneType", "int", "bool", "tuple", "list", "dict"] → SL hd G v := fun st hn => .inl ⟨_, st, lB _ hn⟩
    have nest : ∀ {G : Hp} {x : Addr}, Nest G hd x → Stuff G hd (.ref x) "tuple" ∨ Stuff G hd (.ref x) "list" := fun ⟨n, h⟩ => h.imp (fun ⟨xs, e⟩ => .inr (.inr (.inr (.inr ⟨_, rfl, n, .inl ⟨xs, e, rfl⟩⟩)))) fun ⟨xs, e⟩ => .inr (.inr (.inr (.inr ⟨_, rfl, n, .inr (.inl ⟨xs, e, rfl⟩)⟩)))
    have nTup : ∀ {G G2 : Hp} {v : V} {xs : List V}, HandAt G hd ca → New G (.tup xs) v G2 → Stuff G2 hd v "tuple" := fun hg hv => by
      obtain ⟨p, rfl, n, e⟩ := new_ne hv hg
      exact .inr (.inr (.inr (.inr ⟨p, rfl, n, .inl ⟨_, e, rfl⟩⟩)))
    have nLst : ∀ {G G2 : Hp} {v : V} {xs : List V}, HandAt G hd ca → New G (.lst xs) v G2 → Stuff G2 hd v "list" := fun hg hv => by
      obtain ⟨p, rfl, n, e⟩ := new_ne hv hg
      exact .inr (.inr (.inr (.inr ⟨p, rfl, n, .inr (.inl ⟨_, e, rfl⟩)⟩)))
    have nDct : ∀ {G G2 : Hp} {v : V}, HandAt G hd ca → New G (.dK []) v G2 → Stuff G2 hd v "dict" := fun hg hv => by
      obtain ⟨p, rfl, n, e⟩ := new_ne hv hg
      exact .inr (.inr (.inr (.inr ⟨p, rfl, n, .inr (.inr ⟨_, e, rfl⟩)⟩)))
    have lhd : ∀ {G : Hp} {l : Addr}, HandAt G hd ca → G l = none → l ≠ hd := fun hg hl => by
      obtain ⟨⟨o, ho⟩, _⟩ := hg.some
      exact (ne_of_none ho hl).symm
    -- node
    refine rs_asgK (k_call2K (EvR.run (P := Is (.ref hd)) (ev_var rfl) fun v2 H2 s2 e2 => ?_))
    cases e2
    have h2 := h1.same s2
    refine k_lst_draw (G := SW hd) [_, _, _, _, _, _, _, _, _] (fun _ _ _ h s => h.sty s) (fun G x n => (nest n).elim (fun s => sw s (by simp)) fun s => sw s (by simp)) rfl h2 (by decide)
      (fmc (fun G _ => ev_c.imp fun v G2 _ e => by cases e; exact .inr ⟨9, rfl, .inr (by decide)⟩)
      (fmc (fun G _ => (ev_un ev_c rv_neg).imp fun v G2 _ e => by cases e; exact .inr ⟨-1, rfl, .inl (by decide)⟩)
      (fmc (fun G _ => ev_c.imp fun v G2 _ e => by cases e; exact sw (.inl ⟨rfl, rfl⟩) (by simp))
      (fmc (fun G _ => ev_c.imp fun v G2 _ e => by cases e; exact .inl ⟨"bool", true, true, .inr (.inl ⟨true, rfl, rfl⟩), by decide +kernel, by decide +kernel, rfl⟩)
      (fmc (fun G _ => ev_c.imp fun v G2 _ e => by cases e; exact sw (.inr (.inr (.inr (.inl ⟨_, rfl, rfl⟩)))) (by simp))
      (fmc (fun G s => (ev_tup (vs := [.int 0]) (ea_cons ev_c ea_nilV) (by show 1 ≤ sizeLine; decide)).imp fun v G2 _ e => sw (nTup (h2.same s) e) (by simp))
      (fmc (fun G s => (ev_lst (vs := [.int 0]) (ea_cons ev_c ea_nilV) (by show 1 ≤ sizeLine; decide)).imp fun v G2 _ e => sw (nLst (h2.same s) e) (by simp))
      (fmc (fun G s => ev_dnewK.imp fun v G2 _ e => sw (nDct (h2.same s) e) (by simp))
      (fmc (fun G _ => (ev_op ev_c ev_c (rv_I ⟨by decide, by decide, by decide⟩)).imp fun v G2 _ e => by cases e; exact .inr ⟨_, rfl, .inr (by decide)⟩) fmn)))))))))
      fun l3 xs3 H3 b3 h3 hl3 l30 x30 g3 => ⟨hd, ca, l3, xs3, rfl, lhd h2 l30, hl3, by rw [x30]; decide, by rw [x30]; decide, h3, fun node H4 hv4 b4 h4 => ?_⟩
    have w4 := (g3 node hv4).sty (.but b4)
    have b14 : But [hd] H1 H4 := But.trans (But.of s2) (But.trans b3 b4)
    -- bad
    refine rs_asgK (k_lst (ka_list (G := SL hd) (fun _ _ _ s h => h.sty (.same s)) (tl := tNil) [_, _, _, _, _, _, _, _, _, _, _, _, _, _] H4 _
      (fmc (fun G _ => ev_c.imp fun v G2 _ e => by cases e; exact .inr ⟨_, rfl, by decide, by decide +kernel⟩)
      (fmc (fun G _ => ev_c.imp fun v G2 _ e => by cases e; exact .inr ⟨_, rfl, by decide, by decide +kernel⟩)
      (fmc (fun G _ => ev_c.imp fun v G2 _ e => by cases e; exact .inr ⟨_, rfl, by decide, by decide +kernel⟩)
      (fmc (fun G _ => ev_c.imp fun v G2 _ e => by cases e; exact .inr ⟨_, rfl, by decide, by decide +kernel⟩)
      (fmc (fun G _ => ev_c.imp fun v G2 _ e => by cases e; exact .inr ⟨_, rfl, by decide, by decide +kernel⟩)
      (fmc (fun G _ => ev_c.imp fun v G2 _ e => by cases e; exact .inr ⟨_, rfl, by decide, by decide +kernel⟩)
      (fmc (fun G _ => ev_c.imp fun v G2 _ e => by cases e; exact .inr ⟨_, rfl, by decide, by decide +kernel⟩)
      (fmc (fun G _ => ev_c.imp fun v G2 _ e => by cases e; exact .inr ⟨_, rfl, by decide, by decide +kernel⟩)
      (fmc (fun G _ => ev_c.imp fun v G2 _ e => by cases e; exact sl (.inl ⟨rfl, rfl⟩) (by simp))
      (fmc (fun G _ => ev_c.imp fun v G2 _ e => by cases e; exact sl (.inr (.inr (.inl ⟨_, rfl, rfl⟩))) (by simp))
      (fmc (fun G s => (ev_tup (vs := [.str "a"]) (ea_cons ev_c ea_nilV) (by show 1 ≤ sizeLine; decide)).imp fun v G2 _ e => sl (nTup (h4.same s) e) (by simp))
      (fmc (fun G s => (ev_lst (vs := [.str "a"]) (ea_cons ev_c ea_nilV) (by show 1 ≤ sizeLine; decide)).imp fun v G2 _ e => sl (nLst (h4.same s) e) (by simp))
      (fmc (fun G s => ev_dnewK.imp fun v G2 _ e => sl (nDct (h4.same s) e) (by simp))
      (fmc (fun G _ => ev_c.imp fun v G2 _ e => by cases e; exact sl (.inr (.inl ⟨_, rfl, rfl⟩)) (by simp)) fmn))))))))))))))
      fun vs5 H5 s5 hl5 g5 => ?_))
    refine ⟨by rw [List.append_nil, hl5]; show 14 ≤ sizeLine; decide, fun l5 l50 => ?_⟩
    rw [List.append_nil]
    have h5 := h4.same s5
    have s56 : Same H5 (upd H5 l5 (.lst vs5)) := same_new l50
    have hl6 : (upd H5 l5 (.lst vs5)) l5 = some (.lst vs5) := upd_same
    have h6 := h5.same s56
    generalize upd H5 l5 (.lst vs5) = H6 at *
    have l5h := lhd h5 l50
    -- bad + [deep]
    refine rs_asgK (k_call2K (EvR.run (P := Is (.ref hd)) (ev_var rfl) fun v2 H7 s7 e2 => ?_))
    cases e2
    refine k_opK (EvR.run (P := Is (.ref l5)) (ev_var rfl) fun v2 H8 s8 e2 => ?_)
    cases e2
    have h8 := (h6.same s7).same s8
    refine k_lst_draw (G := SL hd) [] (fun _ _ _ h s => h.sty s) (fun G x n => (nest n).elim (fun s => sl s (by simp)) fun s => sl s (by simp)) rfl h8 (by decide) fmn
      fun l9 xs9 H9 b9 h9 hl9 l90 x90 g9 => ?_
    have hl59 := b9 _ _ (by rw [List.mem_singleton]; exact l5h) (s8 _ _ (s7 _ _ hl6))
    refine (rv_catL hl59 hl9 (by rw [hl5, x90]; show 15 ≤ sizeLine; decide)).run fun v10 H10 s10 hv10 => ?_
    obtain ⟨l10, rfl, l100, hl10⟩ := hv10
    have b59 : But [hd] H5 H9 := But.trans (But.of (s56.trans (s7.trans s8))) b9
    refine ⟨hd, ca, l10, _, rfl, lhd h9 l100, hl10, by rw [List.length_append, hl5, x90]; decide, by rw [List.length_append, hl5, x90]; decide, h9.same s10, fun bad H11 hv11 b11 h11 => ?_⟩
    have b5 : But [hd] H5 H11 := But.trans (b59.same s10) b11
    have w11 : SL hd H11 bad := by
      rcases List.mem_append.mp hv11 with e | e
      · exact (g5 bad e).sty (.but b5)
      · exact (g9 bad e).sty (.but (But.trans (But.of s10) b11))
    have b411 : But [hd] H4 H11 := But.trans (But.of s5) b5
    have b111 : But [hd] H1 H11 := But.trans b14 b411
    have offh : ∀ {H' : Hp} {x : Addr} {o : HO}, H' x = some o → HandAt H' hd ca → (∀ xs, o ≠ .lst xs) → x ≠ hd := fun {H' x o} hx hh ho => by
      obtain ⟨xs, i, n, z, c, g1, _, _⟩ := hh
      exact ne_of hx g1 (ho _)
    have nmb : ∀ {G G' : Hp}, HandAt G hd ca → But [hd] G G' → NM C W G a dx p t pen M B → NM C W G' a dx p t pen M B := fun hg b n => n.but b (by simp [offh n.ha hg (fun _ z => by cases z)]) (by simp [offh n.hp hg (fun _ z => by cases z)]) (by simp [offh n.ht hg (fun _ z => by cases z)])
    have n11 := nmb h1 b111 (nm.same s1)
    -- none
    refine rs_asgK (k_call2K (EvR.run (P := Is (.ref hd)) (ev_var rfl) fun v2 H12 s12 e2 => ?_))
    cases e2
    have h12 := h11.same s12
    have n12 := n11.same s12
    refine k_lst_draw (G := SN hd) [_, _, _, _, _, _, _] (fun _ _ _ h s => h.sty s) (fun G x n => (nest n).elim (fun s => ⟨_, s, by simp [kinds6]⟩) fun s => ⟨_, s, by simp [kinds6]⟩) rfl h12 (by show 7 < 900; decide)
      (fmc (fun G _ => ev_c.imp fun v G2 _ e => by cases e; exact ⟨"NoneType", .inl ⟨rfl, rfl⟩, by simp [kinds6]⟩)
      (fmc (fun G _ => ev_c.imp fun v G2 _ e => by cases e; exact ⟨"int", .inr (.inr (.inl ⟨_, rfl, rfl⟩)), by simp [kinds6]⟩)
      (fmc (fun G s => (ev_told (ev_var rfl) (n12.same s)).imp fun v G2 f e => by
        cases e with | tup ha hx =>
        refine ⟨"tuple", .inr (.inr (.inr (.inr ⟨_, rfl, ?_, .inl ⟨_, ha, rfl⟩⟩))), by simp [kinds6]⟩
        obtain ⟨xs, i, n, z, c, g1, _, _⟩ := h12.same s
        exact ne_of ha (f.nd g1 rfl) (fun z => by cases z))
      (fmc (fun G s => (ev_tup (vs := []) ea_nilV (by show 0 ≤ sizeLine; decide)).imp fun v G2 _ e => ⟨_, nTup (h12.same s) e, by simp [kinds6]⟩)
      (fmc (fun G s => (ev_lst (vs := []) ea_nilV (by show 0 ≤ sizeLine; decide)).imp fun v G2 _ e => ⟨_, nLst (h12.same s) e, by simp [kinds6]⟩)
      (fmc (fun G s => ev_dnewK.imp fun v G2 _ e => ⟨_, nDct (h12.same s) e, by simp [kinds6]⟩)
      (fmc (fun G _ => ev_c.imp fun v G2 _ e => by cases e; exact ⟨"str", .inr (.inr (.inr (.inl ⟨_, rfl, rfl⟩))), by simp [kinds6]⟩) fmn)))))))
      fun l13 xs13 H13 b13 h13 hl13 l130 x130 g13 => ⟨hd, ca, l13, xs13, rfl, lhd h12 l130, hl13, by rw [x130]; show 0 < 8; decide, by rw [x130]; show 8 < 1000; decide, h13, fun none' H14 hv14 b14' h14 => ?_⟩
    have w14 := (g13 none' hv14).sty (.but b14')
    have b1114 : But [hd] H11 H14 := But.trans (But.of s12) (But.trans b13 b14')
    have n14 := nmb h11 b1114 n11
    have b114 : But [hd] H1 H14 := But.trans b111 b1114
    have hlb14 := b114 _ _ (by rw [List.mem_singleton]; exact lbh) (s1 _ _ hlb)
    -- left
    have hlen : (zs ++ [Str.ofString "never"]).length ≤ 9 := by
      rw [List.length_append]
      show zs.length + 1 ≤ 9
      omega
    refine rs_asg (P1 := NewL H14 ((zs ++ [Str.ofString "never"]).filter fun z => !inV (.str z) ((allW (tab W M) B).map V.str)) fun z => Is (.str z)) (ev_lk0 (ev_lc (Y := fun z x _ => x = .str z) (it_aL (it_listP (ev_opP (P1 := Is (.ref lb)) (P2 := fun v G => ∃ l, v = .ref l ∧ G l = some (.lst [.str "never"])) (ev_var rfl) (fun _ _ _ _ => (ev_lst (vs := [.str "never"]) (ea_cons ev_c ea_nilV) (by show 1 ≤ sizeLine; decide)).imp fun v G _ ⟨l, e, _, h⟩ => ⟨l, e, h⟩) fun x y G1 G2 f1 ex f2 hy => ?_))) (Nat.le_trans hlen (by decide)) (fun z G x hz' f ex => ?_) fun _ _ _ _ _ h => h)) fun v15 H15 s15 hv15 => ?_
    · cases ex
      obtain ⟨l, rfl, hl⟩ := hy
      refine (rv_catL ((f1.trans f2).nd hlb14 rfl) hl ?_).imp fun v G _ hv => ?_
      · rw [List.length_map]
        exact Nat.le_trans (show zs.length + 1 ≤ 9 by omega) (by decide)
      · obtain ⟨l2, rfl, _, hl2⟩ := hv
        have e : zs.map V.str ++ [.str "never"] = (zs ++ [Str.ofString "never"]).map V.str := by
          rw [List.map_append]
          rfl
        rw [e] at hl2
        exact ⟨l2, _, rfl, SqL.of hl2, yin_strs _⟩
    · subst ex
      refine tg_name rfl (et_test (ev_opP (P1 := Is (.str z)) (P2 := D K (.tuple ((allW (tab W M) B).map PyData.str))) (ev_var rfl) (fun _ G1 f1 _ => (ev_words (ev_var rfl) n14).mono (f.trans f1)) fun x y G1 G2 f1 ex f2 hy => ?_)) fun _ => ev_var rfl
      cases ex
      cases hy with | tup ha hx =>
      have e := tdAll_strs_inv hx
      subst e
      exact fun G3 g Q k => ⟨_, _, rfl, .inr (g.sqT (SqT.of ha)), rfl, by rw [List.all_map]; exact List.all_eq_true.mpr fun _ _ => rfl, k _ G3 (fun _ _ e => e) rfl⟩
    · obtain ⟨l15, ys15, rfl, l150, hl15, hp15⟩ := hv15
      have ey : ys15 = ((zs ++ [Str.ofString "never"]).filter fun z => !inV (.str z) ((allW (tab W M) B).map V.str)).map V.str := prStrs hp15
      have memL : ∀ v ∈ ys15, ∃ z, v = .str z ∧ LabOk z ∧ z ∉ allW (tab W M) B := fun v hv => by
        rw [ey] at hv
        obtain ⟨z, hz1, rfl⟩ := List.mem_map.mp hv
        have h2 := List.mem_filter.mp hz1
        refine ⟨z, rfl, ?_, fun c => ?_⟩
        · rcases List.mem_append.mp h2.1 with c | c
          · exact lab8 z (hz z c)
          · rw [List.mem_singleton] at c
            rw [c]
            exact never_lab
        · have h3 := h2.2
          rw [inV_strs_iff.mpr c] at h3
          cases h3
      have posL : 0 < ys15.length := by
        rw [ey, List.length_map]
        refine List.length_pos_of_mem (a := Str.ofString "never") (List.mem_filter.mpr ⟨List.mem_append_right _ List.mem_cons_self, ?_⟩)
        rw [inV_strs fun c => never_not (allW_sub nm.hw c)]
        rfl
      have lenL : ys15.length < 1000 := by
        rw [ey, List.length_map]
        exact Nat.lt_of_le_of_lt (List.length_filter_le _ _) (Nat.lt_of_le_of_lt hlen (by decide))
      have n15 := n14.same s15
      have h15 := h14.same s15
      have b115 : But [hd] H1 H15 := b114.same s15
      have t15 : LamX.Tabs (tabQ PT) H15 := tabs_same (tabs_hd (tabs_same tt s1) h1 b114) s15
      have w15 : SW hd H15 node := w4.sty (.but ((But.trans b411 b1114).same s15))
      have wl15 : SL hd H15 bad := w11.sty (.but (b1114.same s15))
      have wn15 : SN hd H15 none' := w14.sty (.same s15)
      have l15h := lhd h14 l150
      have g0 : Stg (tabQ PT) hd ca H15 H15 := ⟨fun _ _ _ _ e => e, h15, t15⟩
      have nmS : ∀ {G : Hp}, Stg (tabQ PT) hd ca H15 G → NM C W G a dx p t pen M B := fun {G} g => ⟨g.sty _ _ (offh n15.ha h15 (fun _ z => by cases z)) (fun _ z => by cases z) n15.ha, g.sty _ _ (offh n15.hp h15 (fun _ z => by cases z)) (fun _ z => by cases z) n15.hp, g.sty _ _ (offh n15.ht h15 (fun _ z => by cases z)) (fun _ z => by cases z) n15.ht, n15.ne, n15.fM, n15.fB, n15.hw⟩
      -- the lambdas
      have lamM : ∀ {σ : L2.St} {m : Str} {bd : Hp → V → Prop} {CE : Addr} {i : Nat} {v : V}, σ[1]? = some (some (.ref a)) → σ[i]? = some (some v) → decide (m = "pen" ∨ m = "put_in" ∨ m = "taken_out") = false → (∀ G, Stg (tabQ PT) hd ca H15 G → bd G v) → LamOk (tabQ PT) hd ca H15 CE σ (fun E => tMeth C m (SpNo2 C bd CE) [] E (tVar 1) (tCons (tVar i) tNil)) := fun {σ m bd CE i v} e1 e2 hm hb G g E k =>
        k_meth (vs := [v]) (ev_var e1) (nmS g).ha (nbf_no hm) (ea_cons (ev_var e2) ea_nilV) fun G2 s2 => ⟨a, dx, _, v, rfl, s2 _ _ (nmS g).ha, hb G2 (g.same s2), fun G3 s3 => k G3 (But.of (s2.trans s3)) (g.same (s2.trans s3))⟩
      have lamI : ∀ {σ : L2.St}, σ[4]? = some (some node) → LamOk (tabQ PT) hd ca H15 CN σ (fun E => tMake C (SpNo2 C (BadW K) CN) [] E (tCons (tVar 4) tNil)) := fun {σ} e G g E k =>
        k_make (vs := [node]) (ea_cons (ev_var e) ea_nilV) fun G2 y dy s2 hy0 hd0 nd => by
          have s3 : Same G2 (upd (upd G2 dy (.own y)) y (.ins C dy [])) := fun b o e => by
            rw [upd_ne (ne_of_none e hy0), upd_ne (ne_of_none e hd0)]
            exact e
          have g3 := g.same (s2.trans s3)
          exact ⟨y, dy, [], node, rfl, upd_same, (w15.sty g3.sty).bad, fun G4 s4 => k G4 (But.of ((s2.trans s3).trans s4)) (g3.same s4)⟩
      have lamS : ∀ {σ : L2.St}, σ[0]? = some (some (.ref hd)) → σ[1]? = some (some (.ref a)) → σ[7]? = some (some (.ref l15)) → LamOk (tabQ PT) hd ca H15 CS σ (fun E => tMeth C (Str.ofString "drop") (SpNoS C CS) [] E (tVar 1) (tCons (tCall SpSome [] E0 (tCons (tVar 0) (tCons (tVar 7) tNil))) tNil)) := fun {σ} e0 e1 e7 G g E k => by
        refine ⟨_, e1, a, dx, _, rfl, (nmS g).ha, nbf_no (by decide +kernel), ?_⟩
        refine k_call (vs := [.ref hd, .ref l15]) (ea_cons (ev_var e0) (ea_cons (ev_var e7) ea_nilV)) fun G2 s2 => ⟨hd, ca, l15, ys15, rfl, l15h, (g.same s2).sty _ _ l15h (fun _ z => by cases z) hl15, posL, lenL, (g.same s2).hand, fun u G3 hu b3 h3 => ?_⟩
        obtain ⟨z, rfl, hz1, hz2⟩ := memL u hu
        have g3 := (g.same s2).but b3 h3
        have n3 := nmS g3
        exact ⟨a, dx, p, t, pen, _, _, z, rfl, n3.nb, n3.fit, hz1, raw_of hz2, fun G4 s4 => k G4 ((But.trans (But.of s2) b3).same s4) (g3.same s4)⟩
      have bW : ∀ G, Stg (tabQ PT) hd ca H15 G → BadW K G node := fun G g => (w15.sty g.sty).bad
      have bL : ∀ G, Stg (tabQ PT) hd ca H15 G → BadL K G bad := fun G g => (wl15.sty g.sty).bad
      have bN : ∀ G, Stg (tabQ PT) hd ca H15 G → BadN K C G none' := fun G g => (wn15.sty g.sty).bad hC
      refine rs_asgK (k_lst (k_lam (Q := fun x H1 => tNil _ H1 _) g0 iN (lamI rfl) fun H16 s16 g16 => ?_))
      refine ⟨by show 1 ≤ sizeLine; decide, fun lw lw0 => ?_⟩
      have hw0 : ∀ o, H15 lw = some o → (∀ ps, o ≠ .tbl ps) → False := fun o e n => by
        by_cases c : lw = hd
        · rw [c] at lw0
          obtain ⟨⟨o, ho⟩, _⟩ := g16.hand.some
          rw [ho] at lw0
          cases lw0
        · have := g16.sty lw o c n e
          rw [lw0] at this
          cases this
      have lwh := lhd g16.hand lw0
      have lwc : lw ≠ ca := by
        obtain ⟨_, o, ho⟩ := g16.hand.some
        exact (ne_of_none ho lw0).symm
      have g17 : Stg (tabQ PT) hd ca H15 (upd H16 lw (.lst [.str "node"])) := g16.same (same_new lw0)
      have hlw : (upd H16 lw (.lst [.str "node"])) lw = some (.lst (([Str.ofString "node"] : List Str).map V.str)) := upd_same
      refine (show tSeq _ _ _ _ _ from ?_)
      generalize upd H16 lw (.lst [.str "node"]) = H17 at *
      refine k_append_lam g17 rfl hlw hw0 lwh lwc (by decide) iN (lamM rfl rfl (by decide +kernel) bW) fun H18 g18 e18 => ?_
      refine k_append_lam g18 rfl e18 hw0 lwh lwc (by decide) iL (lamM rfl rfl (by decide +kernel) bL) fun H19 g19 e19 => ?_
      refine k_append_lam g19 rfl e19 hw0 lwh lwc (by decide) iL (lamM rfl rfl (by decide +kernel) bL) fun H20 g20 e20 => ?_
      refine k_append_lam g20 rfl e20 hw0 lwh lwc (by decide) iL (lamM rfl rfl (by decide +kernel) bL) fun H21 g21 e21 => ?_
      refine k_append_lam g21 rfl e21 hw0 lwh lwc (by decide) iS (lamS rfl rfl rfl) fun H22 g22 e22 => ?_
      refine k_append_lam g22 rfl e22 hw0 lwh lwc (by decide) iB (lamM rfl rfl (by decide +kernel) bN) fun H23 g23 e23 => ?_
      refine k_append_lam g23 rfl e23 hw0 lwh lwc (by decide) iB (lamM rfl rfl (by decide +kernel) bN) fun H24 g24 e24 => ?_
      refine rs_asg (ev_lst (vs := [.str "node", .str "node", .str "label", .str "label", .str "label", .str "standing", .str "notebook", .str "notebook"]) (ea_cons ev_c (ea_cons ev_c (ea_cons ev_c (ea_cons ev_c (ea_cons ev_c (ea_cons ev_c (ea_cons ev_c (ea_cons ev_c ea_nilV)))))))) (by show 8 ≤ sizeLine; decide)) fun v25 H25 s25 hv25 => ?_
      obtain ⟨l25, rfl, _, hl25⟩ := hv25
      have n25 := (nmS g24).same s25
      have e25 := s25 _ _ e24
      have tm25 : Tm H1 H25 := (tmh h1 b115).trans (Tm.trans (fun x xs hx => g24.sty x _ (offh hx h15 (fun _ z => by cases z)) (fun _ z => by cases z) hx) (Fx.of s25).tm)
      have td25 := td1.tm tm25
      have dn := told_dn n25.fM n25.fB n25.hw
      have dnT : Dn 3 (.tuple []) := .tup (by simp) fun d hd => by cases hd
      have rawN : rawM (tab W M) B (Str.ofString "never") = [] := raw_of fun c => never_not (allW_sub nm.hw c)
      refine rs_retL (P1 := Is (.bl true)) (ev_andV (b := true) (c := true) (ev_op (ev_var rfl) (ev_var rfl) (rv_eqL (n := 1) (ds := owed8.map PyData.str) (xs := owed8.map V.str) (ys := owed8.map V.str) e25 hl25 (strsTd _) (strsTd _) (fun d hd => ?_) (by decide))) fun _ => ev_andV (b := true) (c := true) (ev_eqSame (ev_told (ev_var rfl) n25) (ev_varD rfl td25) dn (by decide)) fun _ => ev_eqSame (d := .tuple []) (ev_marksL (ev_var rfl) ev_c n25 never_lab (by rw [rawN]; rfl)) (ev_tupD ea_nilD (by show 0 ≤ sizeLine; decide)) dnT (by decide)) fun v26 H26 s26 e26 => ?_
      · obtain ⟨z, hz', rfl⟩ := List.mem_map.mp hd
        exact .str _ (List.all_eq_true.mp (show owed8.all (fun z => SeqAt.shaped (.str z)) = true by decide +kernel) z hz')
      · cases e26
        exact q H26 ((g24.same s25).same s26).tabs ((g24.same s25).same s26).hand
end N88
/-! what the top has written, the head -/
namespace N88
open PySem L2 PySem.Spec
theorem kit_self {K : PySem.W.Frag} {C : Addr} : PySem.W.kitOne K (.ref C) (.ref C) = some true := by
  unfold PySem.W.kitOne
  simp
theorem kit_sub {K : PySem.W.Frag} {t : Value} {C : Addr} {b : Bool} (h1 : PySem.W.isClsIn K C = true) (h2 : PySem.W.typeIn K (.ref C) = some (.type "type")) (h3 : PySem.W.subIn K t (.ref C) = some b) (h4 : PySem.W.subIn K (.ref C) (.ref C) = some true) : PySem.W.kitOne K t (.ref C) = some b := by
  unfold PySem.W.kitOne
  by_cases c : (t == Value.ref C) = true
  · rw [if_pos c]
    have e := eq_of_beq c
    rw [e] at h3
    exact h4.symm.trans h3
  · rw [if_neg c]
    unfold PySem.W.kitCls
    have e : ((PySem.W.clsIn K C).isSome && PySem.W.typeIn K (.ref C) == some (.type "type")) = true := by
      rw [show (PySem.W.clsIn K C).isSome = true from h1, h2]
      rfl
    exact (if_pos e).trans h3
theorem kit_val {K : PySem.W.Frag} {C : Addr} {b : Bool} (h3 : PySem.W.subIn K (.ref C) (.type "ValueError") = some b) : PySem.W.kitOne K (.ref C) (.type "ValueError") = some b := by
  unfold PySem.W.kitOne
  rw [if_neg (by simp)]
  unfold PySem.W.kitCls
  exact (if_pos (by decide +kernel)).trans h3
theorem all_mk {l : PySem.W.OpenLaw} {w : World} {K : PySem.W.Frag} {h : Heap} {mg : Str → Option Value} {fa C aO CT CN CL CS CB cc PT : Addr} {t8 t1 t2 t3 : Tok} {x1 x2 x3 : Str} {dO odc : Option Addr} {nO : Nat} {slO slc : Array (Option Value)} {occ : Value} {vsc : Array Value} (X : K.In h) (G : h.Ns mainGlobals mg) (hfa : mg "law" = some (.ref fa))
    (hTab : ∀ P, (vsc[11]? : Option Value) = some (.ref P) → h.get? P = some (PySem.W.tabObj #[]))
    {f0 : Addr} {od0 an0 : Option Addr} {sl0 : Array (Option Value)} {oc0 kV0 dc0 pm0 cd0 ct0 : Value}
    {f1 : Addr} {od1 an1 : Option Addr} {sl1 : Array (Option Value)} {oc1 kV1 dc1 pm1 cd1 ct1 : Value}
    {f2 : Addr} {od2 an2 : Option Addr} {sl2 : Array (Option Value)} {oc2 kV2 dc2 pm2 cd2 ct2 : Value}
    {f3 : Addr} {od3 an3 : Option Addr} {sl3 : Array (Option Value)} {oc3 kV3 dc3 pm3 cd3 ct3 : Value}
    {f4 : Addr} {od4 an4 : Option Addr} {sl4 : Array (Option Value)} {oc4 kV4 dc4 pm4 cd4 ct4 : Value}
    {f5 : Addr} {od5 an5 : Option Addr} {sl5 : Array (Option Value)} {oc5 kV5 dc5 pm5 cd5 ct5 : Value}
    {f6 : Addr} {od6 an6 : Option Addr} {sl6 : Array (Option Value)} {oc6 kV6 dc6 pm6 cd6 ct6 : Value}
    {f7 : Addr} {od7 an7 : Option Addr} {sl7 : Array (Option Value)} {oc7 kV7 dc7 pm7 cd7 ct7 : Value}
    {f8 : Addr} {od8 an8 : Option Addr} {sl8 : Array (Option Value)} {oc8 kV8 dc8 pm8 cd8 ct8 : Value}
    {f9 : Addr} {od9 an9 : Option Addr} {sl9 : Array (Option Value)} {oc9 kV9 dc9 pm9 cd9 ct9 : Value}
    {f10 : Addr} {od10 an10 : Option Addr} {sl10 : Array (Option Value)} {oc10 kV10 dc10 pm10 cd10 ct10 : Value}
    {f11 : Addr} {od11 an11 : Option Addr} {sl11 : Array (Option Value)} {oc11 kV11 dc11 pm11 cd11 ct11 : Value}
    {f12 : Addr} {od12 an12 : Option Addr} {sl12 : Array (Option Value)} {oc12 kV12 dc12 pm12 cd12 ct12 : Value}
    {f13 : Addr} {od13 an13 : Option Addr} {sl13 : Array (Option Value)} {oc13 kV13 dc13 pm13 cd13 ct13 : Value}
    {f14 : Addr} {od14 an14 : Option Addr} {sl14 : Array (Option Value)} {oc14 kV14 dc14 pm14 cd14 ct14 : Value}
    {f15 : Addr} {od15 an15 : Option Addr} {sl15 : Array (Option Value)} {oc15 kV15 dc15 pm15 cd15 ct15 : Value}
    {f16 : Addr} {od16 an16 : Option Addr} {sl16 : Array (Option Value)} {oc16 kV16 dc16 pm16 cd16 ct16 : Value}
    {f17 : Addr} {od17 an17 : Option Addr} {sl17 : Array (Option Value)} {oc17 kV17 dc17 pm17 cd17 ct17 : Value}
    {f18 : Addr} {od18 an18 : Option Addr} {sl18 : Array (Option Value)} {oc18 kV18 dc18 pm18 cd18 ct18 : Value}
    {f19 : Addr} {od19 an19 : Option Addr} {sl19 : Array (Option Value)} {oc19 kV19 dc19 pm19 cd19 ct19 : Value}
    {f20 : Addr} {od20 an20 : Option Addr} {sl20 : Array (Option Value)} {oc20 kV20 dc20 pm20 cd20 ct20 : Value}
    {f21 : Addr} {od21 an21 : Option Addr} {sl21 : Array (Option Value)} {oc21 kV21 dc21 pm21 cd21 ct21 : Value}
    {f22 : Addr} {od22 an22 : Option Addr} {sl22 : Array (Option Value)} {oc22 kV22 dc22 pm22 cd22 ct22 : Value}
    {f23 : Addr} {od23 an23 : Option Addr} {sl23 : Array (Option Value)} {oc23 kV23 dc23 pm23 cd23 ct23 : Value}
    {f24 : Addr} {od24 an24 : Option Addr} {sl24 : Array (Option Value)} {oc24 kV24 dc24 pm24 cd24 ct24 : Value}
    {f25 : Addr} {od25 an25 : Option Addr} {sl25 : Array (Option Value)} {oc25 kV25 dc25 pm25 cd25 ct25 : Value}
    {f26 : Addr} {od26 an26 : Option Addr} {sl26 : Array (Option Value)} {oc26 kV26 dc26 pm26 cd26 ct26 : Value}
    {f27 : Addr} {od27 an27 : Option Addr} {sl27 : Array (Option Value)} {oc27 kV27 dc27 pm27 cd27 ct27 : Value}
    {f28 : Addr} {od28 an28 : Option Addr} {sl28 : Array (Option Value)} {oc28 kV28 dc28 pm28 cd28 ct28 : Value}
    {f29 : Addr} {od29 an29 : Option Addr} {sl29 : Array (Option Value)} {oc29 kV29 dc29 pm29 cd29 ct29 : Value}
    {f30 : Addr} {od30 an30 : Option Addr} {sl30 : Array (Option Value)} {oc30 kV30 dc30 pm30 cd30 ct30 : Value}
    {f31 : Addr} {od31 an31 : Option Addr} {sl31 : Array (Option Value)} {oc31 kV31 dc31 pm31 cd31 ct31 : Value}
    {f32 : Addr} {od32 an32 : Option Addr} {sl32 : Array (Option Value)} {oc32 kV32 dc32 pm32 cd32 ct32 : Value}
    {f33 : Addr} {od33 an33 : Option Addr} {sl33 : Array (Option Value)} {oc33 kV33 dc33 pm33 cd33 ct33 : Value}
    {f34 : Addr} {od34 an34 : Option Addr} {sl34 : Array (Option Value)} {oc34 kV34 dc34 pm34 cd34 ct34 : Value}
    {f35 : Addr} {od35 an35 : Option Addr} {sl35 : Array (Option Value)} {oc35 kV35 dc35 pm35 cd35 ct35 : Value}
    {f36 : Addr} {od36 an36 : Option Addr} {sl36 : Array (Option Value)} {oc36 kV36 dc36 pm36 cd36 ct36 : Value}
    {f37 : Addr} {od37 an37 : Option Addr} {sl37 : Array (Option Value)} {oc37 kV37 dc37 pm37 ct37 : Value}
    {f38 : Addr} {od38 an38 : Option Addr} {sl38 : Array (Option Value)} {oc38 kV38 dc38 pm38 cd38 ct38 : Value}
    (gC : PySem.W.nsIn K mainGlobals "Notebook" = some (some (.ref C)))
    (gO : PySem.W.nsIn K mainGlobals "OWN" = some (some (.ref aO)))
    (gM : PySem.W.nsIn K mainGlobals "MOST_WRITER" = some (some (.int 8 t8)))
    (lO : K.lookup aO = some ⟨.type "tuple", dO, .seq #[.str x1 t1, .str x2 t2, .str x3 t3] nO, slO⟩)
    (pg : PySem.W.plainGet K C Str.empty = true)
    (hd : PySem.W.hasDictIn K C = true)
    (po : PySem.W.plainOver K C = true)
    (sa : PySem.W.findIn K (.ref C) "__setattr__" = some (some (.builtin "object.__setattr__")))
    (mk : PySem.W.makesIn K C = true)
    (kc : PySem.W.keepIn K (.ref C) = true)
    (nPen : PySem.W.findIn K (.ref C) "pen" = some none)
    (nPut : PySem.W.findIn K (.ref C) "put_in" = some none)
    (nOut : PySem.W.findIn K (.ref C) "taken_out" = some none)
    (tc1 : PySem.W.findIn K (.ref C) "__class__" = some (some (.builtin "object.__class__")))
    (tc2 : PySem.W.specialIn K (.builtin "object.__class__") "__get__" = some (some (.builtin "getset_descriptor.__get__")))
    (tc3 : PySem.W.takesIn K (.builtin "object.__class__") = some true)
    (tc4 : PySem.W.mroIn K C (.type "object") = some true)
    (isC : PySem.W.isClsIn K C = true)
    (tyCC : PySem.W.typeIn K (.ref C) = some (.type "type"))
    (slfC : PySem.W.subIn K (.ref C) (.ref C) = some true)
    (sb_NoneType : PySem.W.subIn K (.type "NoneType") (.ref C) = some false)
    (sb_int : PySem.W.subIn K (.type "int") (.ref C) = some false)
    (sb_str : PySem.W.subIn K (.type "str") (.ref C) = some false)
    (sb_tuple : PySem.W.subIn K (.type "tuple") (.ref C) = some false)
    (sb_list : PySem.W.subIn K (.type "list") (.ref C) = some false)
    (sb_dict : PySem.W.subIn K (.type "dict") (.ref C) = some false)
    (z_isinstance : PySem.W.nsIn K mainGlobals "isinstance" = some none)
    (z_len : PySem.W.nsIn K mainGlobals "len" = some none)
    (z_all : PySem.W.nsIn K mainGlobals "all" = some none)
    (z_max : PySem.W.nsIn K mainGlobals "max" = some none)
    (z_abs : PySem.W.nsIn K mainGlobals "abs" = some none)
    (z_sorted : PySem.W.nsIn K mainGlobals "sorted" = some none)
    (z_tuple : PySem.W.nsIn K mainGlobals "tuple" = some none)
    (z_list : PySem.W.nsIn K mainGlobals "list" = some none)
    (z_dict : PySem.W.nsIn K mainGlobals "dict" = some none)
    (z_int : PySem.W.nsIn K mainGlobals "int" = some none)
    (z_str : PySem.W.nsIn K mainGlobals "str" = some none)
    (z_bool : PySem.W.nsIn K mainGlobals "bool" = some none)
    (z_range : PySem.W.nsIn K mainGlobals "range" = some none)
    (z_enumerate : PySem.W.nsIn K mainGlobals "enumerate" = some none)
    (z_zip : PySem.W.nsIn K mainGlobals "zip" = some none)
    (z_ValueError : PySem.W.nsIn K mainGlobals "ValueError" = some none)
    (gT : PySem.W.nsIn K mainGlobals "TownError" = some (some (.ref CT)))
    (sT : PySem.W.subIn K (.ref CT) (.type "BaseException") = some true)
    (dT : PySem.W.hasDictIn K CT = true)
    (tT : PySem.W.typeIn K (.ref CT) = some (.type "type"))
    (g_CN : PySem.W.nsIn K mainGlobals "NoNode" = some (some (.ref CN)))
    (g_CL : PySem.W.nsIn K mainGlobals "NoLabel" = some (some (.ref CL)))
    (g_CS : PySem.W.nsIn K mainGlobals "NoStanding" = some (some (.ref CS)))
    (g_CB : PySem.W.nsIn K mainGlobals "NoNotebook" = some (some (.ref CB)))
    (q_CN : PySem.W.excIn K CN [.type "ValueError", .type "Exception", .type "BaseException", .type "object"] "ValueError.__new__" = true)
    (k_CN : PySem.W.keepIn K (.ref CN) = true)
    (b_CN : PySem.W.subIn K (.ref CN) (.type "BaseException") = some true)
    (t_CN : PySem.W.typeIn K (.ref CN) = some (.type "type"))
    (i_CN : PySem.W.isClsIn K CN = true)
    (w_CN : PySem.W.subIn K (.ref CN) (.ref CT) = some true)
    (v_CN : PySem.W.subIn K (.ref CN) (.type "ValueError") = some true)
    (x1_CN : PySem.W.findIn K (.ref CN) "__getattribute__" = some (some (.builtin "BaseException.__getattribute__")))
    (x2_CN : PySem.W.findIn K (.ref CN) "__getattr__" = some none)
    (x3_CN : PySem.W.hasDictIn K CN = true)
    (x4_CN : PySem.W.findIn K (.ref CN) "__class__" = some (some (.builtin "object.__class__")))
    (x5_CN : PySem.W.mroIn K CN (.type "object") = some true)
    (u_CN_CN : PySem.W.subIn K (.ref CN) (.ref CN) = some true)
    (u_CN_CL : PySem.W.subIn K (.ref CN) (.ref CL) = some false)
    (u_CN_CS : PySem.W.subIn K (.ref CN) (.ref CS) = some false)
    (u_CN_CB : PySem.W.subIn K (.ref CN) (.ref CB) = some false)
    (q_CL : PySem.W.excIn K CL [.type "ValueError", .type "Exception", .type "BaseException", .type "object"] "ValueError.__new__" = true)
    (k_CL : PySem.W.keepIn K (.ref CL) = true)
    (b_CL : PySem.W.subIn K (.ref CL) (.type "BaseException") = some true)
    (t_CL : PySem.W.typeIn K (.ref CL) = some (.type "type"))
    (i_CL : PySem.W.isClsIn K CL = true)
    (w_CL : PySem.W.subIn K (.ref CL) (.ref CT) = some true)
    (v_CL : PySem.W.subIn K (.ref CL) (.type "ValueError") = some true)
    (x1_CL : PySem.W.findIn K (.ref CL) "__getattribute__" = some (some (.builtin "BaseException.__getattribute__")))
    (x2_CL : PySem.W.findIn K (.ref CL) "__getattr__" = some none)
    (x3_CL : PySem.W.hasDictIn K CL = true)
    (x4_CL : PySem.W.findIn K (.ref CL) "__class__" = some (some (.builtin "object.__class__")))
    (x5_CL : PySem.W.mroIn K CL (.type "object") = some true)
    (u_CL_CN : PySem.W.subIn K (.ref CL) (.ref CN) = some false)
    (u_CL_CL : PySem.W.subIn K (.ref CL) (.ref CL) = some true)
    (u_CL_CS : PySem.W.subIn K (.ref CL) (.ref CS) = some false)
    (u_CL_CB : PySem.W.subIn K (.ref CL) (.ref CB) = some false)
    (q_CS : PySem.W.excIn K CS [.type "ValueError", .type "Exception", .type "BaseException", .type "object"] "ValueError.__new__" = true)
    (k_CS : PySem.W.keepIn K (.ref CS) = true)
    (b_CS : PySem.W.subIn K (.ref CS) (.type "BaseException") = some true)
    (t_CS : PySem.W.typeIn K (.ref CS) = some (.type "type"))
    (i_CS : PySem.W.isClsIn K CS = true)
    (w_CS : PySem.W.subIn K (.ref CS) (.ref CT) = some true)
    (v_CS : PySem.W.subIn K (.ref CS) (.type "ValueError") = some true)
    (x1_CS : PySem.W.findIn K (.ref CS) "__getattribute__" = some (some (.builtin "BaseException.__getattribute__")))
    (x2_CS : PySem.W.findIn K (.ref CS) "__getattr__" = some none)
    (x3_CS : PySem.W.hasDictIn K CS = true)
    (x4_CS : PySem.W.findIn K (.ref CS) "__class__" = some (some (.builtin "object.__class__")))
    (x5_CS : PySem.W.mroIn K CS (.type "object") = some true)
    (u_CS_CN : PySem.W.subIn K (.ref CS) (.ref CN) = some false)
    (u_CS_CL : PySem.W.subIn K (.ref CS) (.ref CL) = some false)
    (u_CS_CS : PySem.W.subIn K (.ref CS) (.ref CS) = some true)
    (u_CS_CB : PySem.W.subIn K (.ref CS) (.ref CB) = some false)
    (q_CB : PySem.W.excIn K CB [.type "ValueError", .type "Exception", .type "BaseException", .type "object"] "ValueError.__new__" = true)
    (k_CB : PySem.W.keepIn K (.ref CB) = true)
    (b_CB : PySem.W.subIn K (.ref CB) (.type "BaseException") = some true)
    (t_CB : PySem.W.typeIn K (.ref CB) = some (.type "type"))
    (i_CB : PySem.W.isClsIn K CB = true)
    (w_CB : PySem.W.subIn K (.ref CB) (.ref CT) = some true)
    (v_CB : PySem.W.subIn K (.ref CB) (.type "ValueError") = some true)
    (x1_CB : PySem.W.findIn K (.ref CB) "__getattribute__" = some (some (.builtin "BaseException.__getattribute__")))
    (x2_CB : PySem.W.findIn K (.ref CB) "__getattr__" = some none)
    (x3_CB : PySem.W.hasDictIn K CB = true)
    (x4_CB : PySem.W.findIn K (.ref CB) "__class__" = some (some (.builtin "object.__class__")))
    (x5_CB : PySem.W.mroIn K CB (.type "object") = some true)
    (u_CB_CN : PySem.W.subIn K (.ref CB) (.ref CN) = some false)
    (u_CB_CL : PySem.W.subIn K (.ref CB) (.ref CL) = some false)
    (u_CB_CS : PySem.W.subIn K (.ref CB) (.ref CS) = some false)
    (u_CB_CB : PySem.W.subIn K (.ref CB) (.ref CB) = some true)
    (a0 : PySem.W.nsIn K mainGlobals "is_integer" = some (some (.ref f0)))
    (l0 : K.lookup f0 = some ⟨oc0, od0, .func (PySem.W.fnOf "is_integer" "is_integer" (defArgs s_is_integer) (defBody s_is_integer) (defScope s_is_integer) .none kV0 dc0 pm0 an0 cd0 ct0), sl0⟩)
    (c0 : PySem.W.codeIn K cd0 "is_integer" = true)
    (k0 : PySem.W.keepIn K (.ref f0) = true)
    (a1 : PySem.W.nsIn K mainGlobals "is_within" = some (some (.ref f1)))
    (l1 : K.lookup f1 = some ⟨oc1, od1, .func (PySem.W.fnOf "is_within" "is_within" (defArgs s_is_within) (defBody s_is_within) (defScope s_is_within) .none kV1 dc1 pm1 an1 cd1 ct1), sl1⟩)
    (c1 : PySem.W.codeIn K cd1 "is_within" = true)
    (k1 : PySem.W.keepIn K (.ref f1) = true)
    (a2 : PySem.W.nsIn K mainGlobals "is_label" = some (some (.ref f2)))
    (l2 : K.lookup f2 = some ⟨oc2, od2, .func (PySem.W.fnOf "is_label" "is_label" (defArgs s_is_label) (defBody s_is_label) (defScope s_is_label) .none kV2 dc2 pm2 an2 cd2 ct2), sl2⟩)
    (c2 : PySem.W.codeIn K cd2 "is_label" = true)
    (k2 : PySem.W.keepIn K (.ref f2) = true)
    (a3 : PySem.W.nsIn K mainGlobals "check_writer" = some (some (.ref f3)))
    (l3 : K.lookup f3 = some ⟨oc3, od3, .func (PySem.W.fnOf "check_writer" "check_writer" (defArgs s_check_writer) (defBody s_check_writer) (defScope s_check_writer) .none kV3 dc3 pm3 an3 cd3 ct3), sl3⟩)
    (c3 : PySem.W.codeIn K cd3 "check_writer" = true)
    (k3 : PySem.W.keepIn K (.ref f3) = true)
    (a4 : PySem.W.nsIn K mainGlobals "check_label" = some (some (.ref f4)))
    (l4 : K.lookup f4 = some ⟨oc4, od4, .func (PySem.W.fnOf "check_label" "check_label" (defArgs s_check_label) (defBody s_check_label) (defScope s_check_label) .none kV4 dc4 pm4 an4 cd4 ct4), sl4⟩)
    (c4 : PySem.W.codeIn K cd4 "check_label" = true)
    (k4 : PySem.W.keepIn K (.ref f4) = true)
    (a5 : PySem.W.nsIn K mainGlobals "check_notebook" = some (some (.ref f5)))
    (l5 : K.lookup f5 = some ⟨oc5, od5, .func (PySem.W.fnOf "check_notebook" "check_notebook" (defArgs s_check_notebook) (defBody s_check_notebook) (defScope s_check_notebook) .none kV5 dc5 pm5 an5 cd5 ct5), sl5⟩)
    (c5 : PySem.W.codeIn K cd5 "check_notebook" = true)
    (k5 : PySem.W.keepIn K (.ref f5) = true)
    (a6 : PySem.W.findIn K (.ref C) "__init__" = some (some (.ref f6)))
    (i6 : PySem.W.isFn K (.ref f6) = true)
    (l6 : K.lookup f6 = some ⟨oc6, od6, .func (PySem.W.fnOf "__init__" "Notebook.__init__" (defArgs s_Notebookd__initd_) (defBody s_Notebookd__initd_) (defScope s_Notebookd__initd_) .none kV6 dc6 pm6 an6 cd6 ct6), sl6⟩)
    (c6 : PySem.W.codeIn K cd6 "Notebook.__init__" = true)
    (k6 : PySem.W.keepIn K (.ref f6) = true)
    (a7 : PySem.W.findIn K (.ref C) "add" = some (some (.ref f7)))
    (i7 : PySem.W.isFn K (.ref f7) = true)
    (l7 : K.lookup f7 = some ⟨oc7, od7, .func (PySem.W.fnOf "add" "Notebook.add" (defArgs s_Notebook_add) (defBody s_Notebook_add) (defScope s_Notebook_add) .none kV7 dc7 pm7 an7 cd7 ct7), sl7⟩)
    (c7 : PySem.W.codeIn K cd7 "Notebook.add" = true)
    (k7 : PySem.W.keepIn K (.ref f7) = true)
    (a8 : PySem.W.findIn K (.ref C) "raw_marks" = some (some (.ref f8)))
    (i8 : PySem.W.isFn K (.ref f8) = true)
    (l8 : K.lookup f8 = some ⟨oc8, od8, .func (PySem.W.fnOf "raw_marks" "Notebook.raw_marks" (defArgs s_Notebook_raw_marks) (defBody s_Notebook_raw_marks) (defScope s_Notebook_raw_marks) .none kV8 dc8 pm8 an8 cd8 ct8), sl8⟩)
    (c8 : PySem.W.codeIn K cd8 "Notebook.raw_marks" = true)
    (k8 : PySem.W.keepIn K (.ref f8) = true)
    (a9 : PySem.W.findIn K (.ref C) "drop" = some (some (.ref f9)))
    (i9 : PySem.W.isFn K (.ref f9) = true)
    (l9 : K.lookup f9 = some ⟨oc9, od9, .func (PySem.W.fnOf "drop" "Notebook.drop" (defArgs s_Notebook_drop) (defBody s_Notebook_drop) (defScope s_Notebook_drop) .none kV9 dc9 pm9 an9 cd9 ct9), sl9⟩)
    (c9 : PySem.W.codeIn K cd9 "Notebook.drop" = true)
    (k9 : PySem.W.keepIn K (.ref f9) = true)
    (a10 : PySem.W.findIn K (.ref C) "all_words" = some (some (.ref f10)))
    (i10 : PySem.W.isFn K (.ref f10) = true)
    (l10 : K.lookup f10 = some ⟨oc10, od10, .func (PySem.W.fnOf "all_words" "Notebook.all_words" (defArgs s_Notebook_all_words) (defBody s_Notebook_all_words) (defScope s_Notebook_all_words) .none kV10 dc10 pm10 an10 cd10 ct10), sl10⟩)
    (c10 : PySem.W.codeIn K cd10 "Notebook.all_words" = true)
    (k10 : PySem.W.keepIn K (.ref f10) = true)
    (a11 : PySem.W.findIn K (.ref C) "marks_of" = some (some (.ref f11)))
    (i11 : PySem.W.isFn K (.ref f11) = true)
    (l11 : K.lookup f11 = some ⟨oc11, od11, .func (PySem.W.fnOf "marks_of" "Notebook.marks_of" (defArgs s_Notebook_marks_of) (defBody s_Notebook_marks_of) (defScope s_Notebook_marks_of) .none kV11 dc11 pm11 an11 cd11 ct11), sl11⟩)
    (c11 : PySem.W.codeIn K cd11 "Notebook.marks_of" = true)
    (k11 : PySem.W.keepIn K (.ref f11) = true)
    (a12 : PySem.W.findIn K (.ref C) "meet" = some (some (.ref f12)))
    (i12 : PySem.W.isFn K (.ref f12) = true)
    (l12 : K.lookup f12 = some ⟨oc12, od12, .func (PySem.W.fnOf "meet" "Notebook.meet" (defArgs s_Notebook_meet) (defBody s_Notebook_meet) (defScope s_Notebook_meet) .none kV12 dc12 pm12 an12 cd12 ct12), sl12⟩)
    (c12 : PySem.W.codeIn K cd12 "Notebook.meet" = true)
    (k12 : PySem.W.keepIn K (.ref f12) = true)
    (a13 : PySem.W.findIn K (.ref C) "knows" = some (some (.ref f13)))
    (i13 : PySem.W.isFn K (.ref f13) = true)
    (l13 : K.lookup f13 = some ⟨oc13, od13, .func (PySem.W.fnOf "knows" "Notebook.knows" (defArgs s_Notebook_knows) (defBody s_Notebook_knows) (defScope s_Notebook_knows) .none kV13 dc13 pm13 an13 cd13 ct13), sl13⟩)
    (c13 : PySem.W.codeIn K cd13 "Notebook.knows" = true)
    (k13 : PySem.W.keepIn K (.ref f13) = true)
    (a14 : PySem.W.findIn K (.ref C) "all_told" = some (some (.ref f14)))
    (i14 : PySem.W.isFn K (.ref f14) = true)
    (l14 : K.lookup f14 = some ⟨oc14, od14, .func (PySem.W.fnOf "all_told" "Notebook.all_told" (defArgs s_Notebook_all_told) (defBody s_Notebook_all_told) (defScope s_Notebook_all_told) .none kV14 dc14 pm14 an14 cd14 ct14), sl14⟩)
    (c14 : PySem.W.codeIn K cd14 "Notebook.all_told" = true)
    (k14 : PySem.W.keepIn K (.ref f14) = true)
    (a15 : PySem.W.findIn K (.ref C) "copy" = some (some (.ref f15)))
    (i15 : PySem.W.isFn K (.ref f15) = true)
    (l15 : K.lookup f15 = some ⟨oc15, od15, .func (PySem.W.fnOf "copy" "Notebook.copy" (defArgs s_Notebook_copy) (defBody s_Notebook_copy) (defScope s_Notebook_copy) .none kV15 dc15 pm15 an15 cd15 ct15), sl15⟩)
    (c15 : PySem.W.codeIn K cd15 "Notebook.copy" = true)
    (k15 : PySem.W.keepIn K (.ref f15) = true)
    (a16 : PySem.W.nsIn K mainGlobals "_law_draw" = some (some (.ref f16)))
    (l16 : K.lookup f16 = some ⟨oc16, od16, .func (PySem.W.fnOf "_law_draw" "_law_draw" (defArgs s_law_draw) (defBody s_law_draw) (defScope s_law_draw) .none kV16 dc16 pm16 an16 cd16 ct16), sl16⟩)
    (c16 : PySem.W.codeIn K cd16 "_law_draw" = true)
    (k16 : PySem.W.keepIn K (.ref f16) = true)
    (a17 : PySem.W.nsIn K mainGlobals "_law_some" = some (some (.ref f17)))
    (l17 : K.lookup f17 = some ⟨oc17, od17, .func (PySem.W.fnOf "_law_some" "_law_some" (defArgs s_law_some) (defBody s_law_some) (defScope s_law_some) .none kV17 dc17 pm17 an17 cd17 ct17), sl17⟩)
    (c17 : PySem.W.codeIn K cd17 "_law_some" = true)
    (k17 : PySem.W.keepIn K (.ref f17) = true)
    (a18 : PySem.W.nsIn K mainGlobals "_law_mixed" = some (some (.ref f18)))
    (l18 : K.lookup f18 = some ⟨oc18, od18, .func (PySem.W.fnOf "_law_mixed" "_law_mixed" (defArgs s_law_mixed) (defBody s_law_mixed) (defScope s_law_mixed) .none kV18 dc18 pm18 an18 cd18 ct18), sl18⟩)
    (c18 : PySem.W.codeIn K cd18 "_law_mixed" = true)
    (k18 : PySem.W.keepIn K (.ref f18) = true)
    (a19 : PySem.W.nsIn K mainGlobals "_law_is" = some (some (.ref f19)))
    (l19 : K.lookup f19 = some ⟨oc19, od19, .func (PySem.W.fnOf "_law_is" "_law_is" (defArgs s_law_is) (defBody s_law_is) (defScope s_law_is) .none kV19 dc19 pm19 an19 cd19 ct19), sl19⟩)
    (c19 : PySem.W.codeIn K cd19 "_law_is" = true)
    (k19 : PySem.W.keepIn K (.ref f19) = true)
    (a20 : PySem.W.nsIn K mainGlobals "_law_hand" = some (some (.ref f20)))
    (l20 : K.lookup f20 = some ⟨oc20, od20, .func (PySem.W.fnOf "_law_hand" "_law_hand" (defArgs s_law_hand) (defBody s_law_hand) (defScope s_law_hand) .none kV20 dc20 pm20 an20 cd20 ct20), sl20⟩)
    (c20 : PySem.W.codeIn K cd20 "_law_hand" = true)
    (k20 : PySem.W.keepIn K (.ref f20) = true)
    (a21 : PySem.W.nsIn K mainGlobals "_law_deep" = some (some (.ref f21)))
    (l21 : K.lookup f21 = some ⟨oc21, od21, .func (PySem.W.fnOf "_law_deep" "_law_deep" (defArgs s_law_deep) (defBody s_law_deep) (defScope s_law_deep) .none kV21 dc21 pm21 an21 cd21 ct21), sl21⟩)
    (c21 : PySem.W.codeIn K cd21 "_law_deep" = true)
    (k21 : PySem.W.keepIn K (.ref f21) = true)
    (a22 : PySem.W.nsIn K mainGlobals "_law_book" = some (some (.ref f22)))
    (l22 : K.lookup f22 = some ⟨oc22, od22, .func (PySem.W.fnOf "_law_book" "_law_book" (defArgs s_law_book) (defBody s_law_book) (defScope s_law_book) .none kV22 dc22 pm22 an22 cd22 ct22), sl22⟩)
    (c22 : PySem.W.codeIn K cd22 "_law_book" = true)
    (k22 : PySem.W.keepIn K (.ref f22) = true)
    (a23 : PySem.W.nsIn K mainGlobals "_law_next" = some (some (.ref f23)))
    (l23 : K.lookup f23 = some ⟨oc23, od23, .func (PySem.W.fnOf "_law_next" "_law_next" (defArgs s_law_next) (defBody s_law_next) (defScope s_law_next) .none kV23 dc23 pm23 an23 cd23 ct23), sl23⟩)
    (c23 : PySem.W.codeIn K cd23 "_law_next" = true)
    (k23 : PySem.W.keepIn K (.ref f23) = true)
    (a24 : PySem.W.nsIn K mainGlobals "_law_standing" = some (some (.ref f24)))
    (l24 : K.lookup f24 = some ⟨oc24, od24, .func (PySem.W.fnOf "_law_standing" "_law_standing" (defArgs s_law_standing) (defBody s_law_standing) (defScope s_law_standing) .none kV24 dc24 pm24 an24 cd24 ct24), sl24⟩)
    (c24 : PySem.W.codeIn K cd24 "_law_standing" = true)
    (k24 : PySem.W.keepIn K (.ref f24) = true)
    (a25 : PySem.W.nsIn K mainGlobals "_law_words" = some (some (.ref f25)))
    (l25 : K.lookup f25 = some ⟨oc25, od25, .func (PySem.W.fnOf "_law_words" "_law_words" (defArgs s_law_words) (defBody s_law_words) (defScope s_law_words) .none kV25 dc25 pm25 an25 cd25 ct25), sl25⟩)
    (c25 : PySem.W.codeIn K cd25 "_law_words" = true)
    (k25 : PySem.W.keepIn K (.ref f25) = true)
    (a26 : PySem.W.nsIn K mainGlobals "_law_met" = some (some (.ref f26)))
    (l26 : K.lookup f26 = some ⟨oc26, od26, .func (PySem.W.fnOf "_law_met" "_law_met" (defArgs s_law_met) (defBody s_law_met) (defScope s_law_met) .none kV26 dc26 pm26 an26 cd26 ct26), sl26⟩)
    (c26 : PySem.W.codeIn K cd26 "_law_met" = true)
    (k26 : PySem.W.keepIn K (.ref f26) = true)
    (a27 : PySem.W.nsIn K mainGlobals "_law_knows" = some (some (.ref f27)))
    (l27 : K.lookup f27 = some ⟨oc27, od27, .func (PySem.W.fnOf "_law_knows" "_law_knows" (defArgs s_law_knows) (defBody s_law_knows) (defScope s_law_knows) .none kV27 dc27 pm27 an27 cd27 ct27), sl27⟩)
    (c27 : PySem.W.codeIn K cd27 "_law_knows" = true)
    (k27 : PySem.W.keepIn K (.ref f27) = true)
    (a28 : PySem.W.nsIn K mainGlobals "_law_labels" = some (some (.ref f28)))
    (l28 : K.lookup f28 = some ⟨oc28, od28, .func (PySem.W.fnOf "_law_labels" "_law_labels" (defArgs s_law_labels) (defBody s_law_labels) (defScope s_law_labels) .none kV28 dc28 pm28 an28 cd28 ct28), sl28⟩)
    (c28 : PySem.W.codeIn K cd28 "_law_labels" = true)
    (k28 : PySem.W.keepIn K (.ref f28) = true)
    (a29 : PySem.W.nsIn K mainGlobals "_law_is_shown" = some (some (.ref f29)))
    (l29 : K.lookup f29 = some ⟨oc29, od29, .func (PySem.W.fnOf "_law_is_shown" "_law_is_shown" (defArgs s_law_is_shown) (defBody s_law_is_shown) (defScope s_law_is_shown) .none kV29 dc29 pm29 an29 cd29 ct29), sl29⟩)
    (c29 : PySem.W.codeIn K cd29 "_law_is_shown" = true)
    (k29 : PySem.W.keepIn K (.ref f29) = true)
    (a30 : PySem.W.nsIn K mainGlobals "_law_deed" = some (some (.ref f30)))
    (l30 : K.lookup f30 = some ⟨oc30, od30, .func (PySem.W.fnOf "_law_deed" "_law_deed" (defArgs s_law_deed) (defBody s_law_deed) (defScope s_law_deed) .none kV30 dc30 pm30 an30 cd30 ct30), sl30⟩)
    (c30 : PySem.W.codeIn K cd30 "_law_deed" = true)
    (k30 : PySem.W.keepIn K (.ref f30) = true)
    (a31 : PySem.W.nsIn K mainGlobals "_law_word" = some (some (.ref f31)))
    (l31 : K.lookup f31 = some ⟨oc31, od31, .func (PySem.W.fnOf "_law_word" "_law_word" (defArgs s_law_word) (defBody s_law_word) (defScope s_law_word) .none kV31 dc31 pm31 an31 cd31 ct31), sl31⟩)
    (c31 : PySem.W.codeIn K cd31 "_law_word" = true)
    (k31 : PySem.W.keepIn K (.ref f31) = true)
    (a32 : PySem.W.nsIn K mainGlobals "_law_copied" = some (some (.ref f32)))
    (l32 : K.lookup f32 = some ⟨oc32, od32, .func (PySem.W.fnOf "_law_copied" "_law_copied" (defArgs s_law_copied) (defBody s_law_copied) (defScope s_law_copied) .none kV32 dc32 pm32 an32 cd32 ct32), sl32⟩)
    (c32 : PySem.W.codeIn K cd32 "_law_copied" = true)
    (k32 : PySem.W.keepIn K (.ref f32) = true)
    (a33 : PySem.W.nsIn K mainGlobals "_law_all_met" = some (some (.ref f33)))
    (l33 : K.lookup f33 = some ⟨oc33, od33, .func (PySem.W.fnOf "_law_all_met" "_law_all_met" (defArgs s_law_all_met) (defBody s_law_all_met) (defScope s_law_all_met) .none kV33 dc33 pm33 an33 cd33 ct33), sl33⟩)
    (c33 : PySem.W.codeIn K cd33 "_law_all_met" = true)
    (k33 : PySem.W.keepIn K (.ref f33) = true)
    (a34 : PySem.W.nsIn K mainGlobals "_law_are_orders_right" = some (some (.ref f34)))
    (l34 : K.lookup f34 = some ⟨oc34, od34, .func (PySem.W.fnOf "_law_are_orders_right" "_law_are_orders_right" (defArgs s_law_are_orders_right) (defBody s_law_are_orders_right) (defScope s_law_are_orders_right) .none kV34 dc34 pm34 an34 cd34 ct34), sl34⟩)
    (c34 : PySem.W.codeIn K cd34 "_law_are_orders_right" = true)
    (k34 : PySem.W.keepIn K (.ref f34) = true)
    (a35 : PySem.W.nsIn K mainGlobals "_law_are_copies_right" = some (some (.ref f35)))
    (l35 : K.lookup f35 = some ⟨oc35, od35, .func (PySem.W.fnOf "_law_are_copies_right" "_law_are_copies_right" (defArgs s_law_are_copies_right) (defBody s_law_are_copies_right) (defScope s_law_are_copies_right) .none kV35 dc35 pm35 an35 cd35 ct35), sl35⟩)
    (c35 : PySem.W.codeIn K cd35 "_law_are_copies_right" = true)
    (k35 : PySem.W.keepIn K (.ref f35) = true)
    (a36 : PySem.W.nsIn K mainGlobals "_law_does_stand" = some (some (.ref f36)))
    (l36 : K.lookup f36 = some ⟨oc36, od36, .func (PySem.W.fnOf "_law_does_stand" "_law_does_stand" (defArgs s_law_does_stand) (defBody s_law_does_stand) (defScope s_law_does_stand) .none kV36 dc36 pm36 an36 cd36 ct36), sl36⟩)
    (c36 : PySem.W.codeIn K cd36 "_law_does_stand" = true)
    (k36 : PySem.W.keepIn K (.ref f36) = true)
    (a37 : PySem.W.nsIn K mainGlobals "_law_are_refused" = some (some (.ref f37)))
    (l37 : K.lookup f37 = some ⟨oc37, od37, .func (PySem.W.fnOf "_law_are_refused" "_law_are_refused" (defArgs s_law_are_refused) (defBody s_law_are_refused) (defScope s_law_are_refused) .none kV37 dc37 pm37 an37 (.ref cc) ct37), sl37⟩)
    (c37 : PySem.W.codeIn K (.ref cc) "_law_are_refused" = true)
    (k37 : PySem.W.keepIn K (.ref f37) = true)
    (a38 : PySem.W.nsIn K mainGlobals "law" = some (some (.ref f38)))
    (l38 : K.lookup f38 = some ⟨oc38, od38, .func (PySem.W.fnOf "law" "law" (defArgs s_law) (defBody s_law) (defScope s_law) .none kV38 dc38 pm38 an38 cd38 ct38), sl38⟩)
    (c38 : PySem.W.codeIn K cd38 "law" = true)
    (k38 : PySem.W.keepIn K (.ref f38) = true)
    (lcc : K.lookup cc = some ⟨occ, odc, .fields vsc, slc⟩)
    (v11 : (vsc[11]? : Option Value) = some (.ref PT))
    (hcd : PySem.W.codeHdIn K cc PT = true)
    (nPT : K.lookup PT = none)
    (ex1 : x1 = "signed") (ex2 : x2 = "sealed") (ex3 : x3 = "secret") :
    LamX.LawAtS l w K CX0 16 63 "script" mg fa h := by
  have e := hfa.symm.trans (PySem.W.mg_of X G a38)
  cases e
  have cl : Cls K C := ⟨pg, hd, po, sa⟩
  have T : Txt K mg C aO t8 := {
    cl := cl, n_pen := nPen, n_put := nPut, n_out := nOut, mg_Notebook := PySem.W.mg_of X G gC, mg_OWN := PySem.W.mg_of X G gO, r_OWN := rfl
    own := fun H => .inr ⟨_, _, _, lO, rfl, rfl, by show 3 ≤ sizeLine; decide, by subst ex1 ex2 ex3; exact .cons ⟨_, rfl⟩ (.cons ⟨_, rfl⟩ (.cons ⟨_, rfl⟩ .nil))⟩
    mg_MOST_WRITER := PySem.W.mg_of X G gM, r_MOST_WRITER := ⟨_, rfl⟩, r_Notebook := rfl
    tyC := fun H a dx fs e => .base (.ins e cl tc1 tc2 tc3 tc4), kitC := kit_self
    b_isinstance := PySem.W.mg_none_of X G z_isinstance
    b_len := PySem.W.mg_none_of X G z_len
    b_all := PySem.W.mg_none_of X G z_all
    b_max := PySem.W.mg_none_of X G z_max
    b_abs := PySem.W.mg_none_of X G z_abs
    b_sorted := PySem.W.mg_none_of X G z_sorted
    b_tuple := PySem.W.mg_none_of X G z_tuple
    b_list := PySem.W.mg_none_of X G z_list
    b_dict := PySem.W.mg_none_of X G z_dict
    b_int := PySem.W.mg_none_of X G z_int
    b_str := PySem.W.mg_none_of X G z_str
    b_bool := PySem.W.mg_none_of X G z_bool
    b_range := PySem.W.mg_none_of X G z_range
    b_enumerate := PySem.W.mg_none_of X G z_enumerate
    b_zip := PySem.W.mg_none_of X G z_zip
  }
  have F0 := fun_mk (st := s_is_integer) l0 c0 k0
  have b0 := F0.binds (ps := ["thing"]) fun _ _ _ _ _ _ us hl => match us, hl with | [_], _ => rfl
  have F1 := fun_mk (st := s_is_within) l1 c1 k1
  have b1 := F1.binds (ps := ["thing", "least", "most"]) fun _ _ _ _ _ _ us hl => match us, hl with | [_, _, _], _ => rfl
  have F2 := fun_mk (st := s_is_label) l2 c2 k2
  have b2 := F2.binds (ps := ["thing"]) fun _ _ _ _ _ _ us hl => match us, hl with | [_], _ => rfl
  have F3 := fun_mk (st := s_check_writer) l3 c3 k3
  have b3 := F3.binds (ps := ["thing"]) fun _ _ _ _ _ _ us hl => match us, hl with | [_], _ => rfl
  have F4 := fun_mk (st := s_check_label) l4 c4 k4
  have b4 := F4.binds (ps := ["thing"]) fun _ _ _ _ _ _ us hl => match us, hl with | [_], _ => rfl
  have F5 := fun_mk (st := s_check_notebook) l5 c5 k5
  have b5 := F5.binds (ps := ["thing"]) fun _ _ _ _ _ _ us hl => match us, hl with | [_], _ => rfl
  have F6 := fun_mk (st := s_Notebookd__initd_) l6 c6 k6
  have b6 := F6.binds (ps := ["self", "writer"]) fun _ _ _ _ _ _ us hl => match us, hl with | [_, _], _ => rfl
  have F7 := fun_mk (st := s_Notebook_add) l7 c7 k7
  have b7 := F7.binds (ps := ["self", "word"]) fun _ _ _ _ _ _ us hl => match us, hl with | [_, _], _ => rfl
  have F8 := fun_mk (st := s_Notebook_raw_marks) l8 c8 k8
  have b8 := F8.binds (ps := ["self", "word"]) fun _ _ _ _ _ _ us hl => match us, hl with | [_, _], _ => rfl
  have F9 := fun_mk (st := s_Notebook_drop) l9 c9 k9
  have b9 := F9.binds (ps := ["self", "word"]) fun _ _ _ _ _ _ us hl => match us, hl with | [_, _], _ => rfl
  have F10 := fun_mk (st := s_Notebook_all_words) l10 c10 k10
  have b10 := F10.binds (ps := ["self"]) fun _ _ _ _ _ _ us hl => match us, hl with | [_], _ => rfl
  have F11 := fun_mk (st := s_Notebook_marks_of) l11 c11 k11
  have b11 := F11.binds (ps := ["self", "word"]) fun _ _ _ _ _ _ us hl => match us, hl with | [_, _], _ => rfl
  have F12 := fun_mk (st := s_Notebook_meet) l12 c12 k12
  have b12 := F12.binds (ps := ["self", "other"]) fun _ _ _ _ _ _ us hl => match us, hl with | [_, _], _ => rfl
  have F13 := fun_mk (st := s_Notebook_knows) l13 c13 k13
  have b13 := F13.binds (ps := ["self", "other"]) fun _ _ _ _ _ _ us hl => match us, hl with | [_, _], _ => rfl
  have F14 := fun_mk (st := s_Notebook_all_told) l14 c14 k14
  have b14 := F14.binds (ps := ["self"]) fun _ _ _ _ _ _ us hl => match us, hl with | [_], _ => rfl
  have F15 := fun_mk (st := s_Notebook_copy) l15 c15 k15
  have b15 := F15.binds (ps := ["self", "writer"]) fun _ _ _ _ _ _ us hl => match us, hl with | [_, _], _ => rfl
  have F16 := fun_mk (st := s_law_draw) l16 c16 k16
  have b16 := F16.binds (ps := ["hand", "span"]) fun _ _ _ _ _ _ us hl => match us, hl with | [_, _], _ => rfl
  have F17 := fun_mk (st := s_law_some) l17 c17 k17
  have b17 := F17.binds (ps := ["hand", "things"]) fun _ _ _ _ _ _ us hl => match us, hl with | [_, _], _ => rfl
  have F18 := fun_mk (st := s_law_mixed) l18 c18 k18
  have b18 := F18.binds (ps := ["hand", "things"]) fun _ _ _ _ _ _ us hl => match us, hl with | [_, _], _ => rfl
  have F19 := fun_mk (st := s_law_is) l19 c19 k19
  have b19 := F19.binds (ps := ["thing", "owed"]) fun _ _ _ _ _ _ us hl => match us, hl with | [_, _], _ => rfl
  have F20 := fun_mk (st := s_law_hand) l20 c20 k20
  have b20 := F20.binds (ps := ["script"]) fun _ _ _ _ _ _ us hl => match us, hl with | [_], _ => rfl
  have F21 := fun_mk (st := s_law_deep) l21 c21 k21
  have b21 := F21.binds (ps := ["hand"]) fun _ _ _ _ _ _ us hl => match us, hl with | [_], _ => rfl
  have F22 := fun_mk (st := s_law_book) l22 c22 k22
  have b22 := F22.binds (ps := ["writer"]) fun _ _ _ _ _ _ us hl => match us, hl with | [_], _ => rfl
  have F23 := fun_mk (st := s_law_next) l23 c23 k23
  have b23 := F23.binds (ps := ["book"]) fun _ _ _ _ _ _ us hl => match us, hl with | [_], _ => rfl
  have F24 := fun_mk (st := s_law_standing) l24 c24 k24
  have b24 := F24.binds (ps := ["book", "word"]) fun _ _ _ _ _ _ us hl => match us, hl with | [_, _], _ => rfl
  have F25 := fun_mk (st := s_law_words) l25 c25 k25
  have b25 := F25.binds (ps := ["book"]) fun _ _ _ _ _ _ us hl => match us, hl with | [_], _ => rfl
  have F26 := fun_mk (st := s_law_met) l26 c26 k26
  have b26 := F26.binds (ps := ["book", "other"]) fun _ _ _ _ _ _ us hl => match us, hl with | [_, _], _ => rfl
  have F27 := fun_mk (st := s_law_knows) l27 c27 k27
  have b27 := F27.binds (ps := ["book", "other"]) fun _ _ _ _ _ _ us hl => match us, hl with | [_, _], _ => rfl
  have F28 := fun_mk (st := s_law_labels) l28 c28 k28
  have b28 := F28.binds (ps := ["hand"]) fun _ _ _ _ _ _ us hl => match us, hl with | [_], _ => rfl
  have F29 := fun_mk (st := s_law_is_shown) l29 c29 k29
  have b29 := F29.binds (ps := ["notebook", "book", "labels"]) fun _ _ _ _ _ _ us hl => match us, hl with | [_, _, _], _ => rfl
  have F30 := fun_mk (st := s_law_deed) l30 c30 k30
  have b30 := F30.binds (ps := ["hand", "notebooks", "books", "labels"]) fun _ _ _ _ _ _ us hl => match us, hl with | [_, _, _, _], _ => rfl
  have F31 := fun_mk (st := s_law_word) l31 c31 k31
  have b31 := F31.binds (ps := ["call"]) fun _ _ _ _ _ _ us hl => match us, hl with | [_], _ => rfl
  have F32 := fun_mk (st := s_law_copied) l32 c32 k32
  have b32 := F32.binds (ps := ["book", "writer"]) fun _ _ _ _ _ _ us hl => match us, hl with | [_, _], _ => rfl
  have F33 := fun_mk (st := s_law_all_met) l33 c33 k33
  have b33 := F33.binds (ps := ["hand", "notebooks", "books", "writer"]) fun _ _ _ _ _ _ us hl => match us, hl with | [_, _, _, _], _ => rfl
  have F34 := fun_mk (st := s_law_are_orders_right) l34 c34 k34
  have b34 := F34.binds (ps := ["hand", "notebooks", "books", "labels"]) fun _ _ _ _ _ _ us hl => match us, hl with | [_, _, _, _], _ => rfl
  have F35 := fun_mk (st := s_law_are_copies_right) l35 c35 k35
  have b35 := F35.binds (ps := ["hand", "notebooks", "books", "labels"]) fun _ _ _ _ _ _ us hl => match us, hl with | [_, _, _, _], _ => rfl
  have F36 := fun_mk (st := s_law_does_stand) l36 c36 k36
  have b36 := F36.binds (ps := ["hand", "notebooks", "books", "labels"]) fun _ _ _ _ _ _ us hl => match us, hl with | [_, _, _, _], _ => rfl
  have F37 := fun_mk (st := s_law_are_refused) l37 c37 k37
  have b37 := F37.binds (ps := ["hand", "notebook", "labels"]) fun _ _ _ _ _ _ us hl => match us, hl with | [_, _, _], _ => rfl
  have F38 := fun_mk (st := s_law) l38 c38 k38
  have b38 := F38.binds (ps := ["script"]) fun _ _ _ _ _ _ us hl => match us, hl with | [_], _ => rfl
  have eN : ErrC K mg "NoNode" CN := ⟨q_CN, PySem.W.mg_of X G g_CN, k_CN, b_CN, t_CN⟩
  have eL : ErrC K mg "NoLabel" CL := ⟨q_CL, PySem.W.mg_of X G g_CL, k_CL, b_CL, t_CL⟩
  have eS : ErrC K mg "NoStanding" CS := ⟨q_CS, PySem.W.mg_of X G g_CS, k_CS, b_CS, t_CS⟩
  have eB : ErrC K mg "NoNotebook" CB := ⟨q_CB, PySem.W.mg_of X G g_CB, k_CB, b_CB, t_CB⟩
  have iN : ErrIs K CT CN CL CS CB CN true false false false 0 "node" := ⟨⟨x1_CN, x2_CN, b_CN, x3_CN, x4_CN, tc2, tc3, x5_CN⟩, PySem.W.exm_ref sT dT tT w_CN, kit_sub i_CN t_CN u_CN_CN u_CN_CN, kit_sub i_CL t_CL u_CN_CL u_CL_CL, kit_sub i_CS t_CS u_CN_CS u_CS_CS, kit_sub i_CB t_CB u_CN_CB u_CB_CB, kit_val v_CN, by decide, by decide, fun m z hm => by rcases m with _ | _ | _ | _ | m <;> first | omega | (intro e; simpa using e.symm), rfl⟩
  have iL : ErrIs K CT CN CL CS CB CL false true false false 1 "label" := ⟨⟨x1_CL, x2_CL, b_CL, x3_CL, x4_CL, tc2, tc3, x5_CL⟩, PySem.W.exm_ref sT dT tT w_CL, kit_sub i_CN t_CN u_CL_CN u_CN_CN, kit_sub i_CL t_CL u_CL_CL u_CL_CL, kit_sub i_CS t_CS u_CL_CS u_CS_CS, kit_sub i_CB t_CB u_CL_CB u_CB_CB, kit_val v_CL, by decide, by decide, fun m z hm => by rcases m with _ | _ | _ | _ | m <;> first | omega | (intro e; simpa using e.symm), rfl⟩
  have iS : ErrIs K CT CN CL CS CB CS false false true false 2 "standing" := ⟨⟨x1_CS, x2_CS, b_CS, x3_CS, x4_CS, tc2, tc3, x5_CS⟩, PySem.W.exm_ref sT dT tT w_CS, kit_sub i_CN t_CN u_CS_CN u_CN_CN, kit_sub i_CL t_CL u_CS_CL u_CL_CL, kit_sub i_CS t_CS u_CS_CS u_CS_CS, kit_sub i_CB t_CB u_CS_CB u_CB_CB, kit_val v_CS, by decide, by decide, fun m z hm => by rcases m with _ | _ | _ | _ | m <;> first | omega | (intro e; simpa using e.symm), rfl⟩
  have iB : ErrIs K CT CN CL CS CB CB false false false true 3 "notebook" := ⟨⟨x1_CB, x2_CB, b_CB, x3_CB, x4_CB, tc2, tc3, x5_CB⟩, PySem.W.exm_ref sT dT tT w_CB, kit_sub i_CN t_CN u_CB_CN u_CN_CN, kit_sub i_CL t_CL u_CB_CL u_CL_CL, kit_sub i_CS t_CS u_CB_CS u_CS_CS, kit_sub i_CB t_CB u_CB_CB u_CB_CB, kit_val v_CB, by decide, by decide, fun m z hm => by rcases m with _ | _ | _ | _ | m <;> first | omega | (intro e; simpa using e.symm), rfl⟩
  have hC : ∀ n ∈ kinds6, PySem.W.kitOne K (.type n) (.ref C) = some false := fun n hn => by
    simp only [kinds6, List.mem_cons, List.mem_nil_iff, or_false] at hn
    rcases hn with rfl | rfl | rfl | rfl | rfl | rfl
    · exact kit_sub isC tyCC sb_NoneType slfC
    · exact kit_sub isC tyCC sb_int slfC
    · exact kit_sub isC tyCC sb_str slfC
    · exact kit_sub isC tyCC sb_tuple slfC
    · exact kit_sub isC tyCC sb_list slfC
    · exact kit_sub isC tyCC sb_dict slfC
  refine ⟨PySem.W.fnOf "law" "law" (defArgs s_law) (defBody s_law) (defScope s_law) .none kV38 dc38 pm38 an38 cd38 ct38, [(cc, PT)], SpLaw (tabQ PT) K, fun p hp => ?_, fun p hp => ?_, fun p hp => ?_, fun s v => .of_eq rfl, fun H a ns hl _ hT hS => ⟨a, ns, rfl, hS, hl, fun p hp => ?_, fun _ => rfl⟩, fun base _ _ hTB => ?_⟩
  · rw [List.mem_singleton] at hp
    rw [hp]
    exact hTab _ v11
  · rw [List.mem_singleton] at hp
    rw [hp]
    exact nPT
  · rw [List.mem_singleton] at hp
    rw [hp]
    exact PySem.W.codeHd_of_K X hcd
  · rw [List.mem_singleton] at hp
    rw [hp]
    exact LamX.TabS.nil (hT (cc, PT) List.mem_cons_self)
  have TB : LamX.TabB base mg cc PT := hTB (cc, PT) List.mem_cons_self
  have C0 : Cal l.prog w K mg base "is_integer" 1 p_is_integer (SpOf preInteger) := ⟨f0, _, (ok_is_integer F0 T), PySem.W.mg_of X G a0, k0, b0⟩
  have C1 : Cal l.prog w K mg base "is_within" 2 p_is_within (SpOf preWithin) := ⟨f1, _, (ok_is_within F1 T C0), PySem.W.mg_of X G a1, k1, b1⟩
  have C2 : Cal l.prog w K mg base "is_label" 1 p_is_label (SpOf preLabel) := ⟨f2, _, (ok_is_label F2 T), PySem.W.mg_of X G a2, k2, b2⟩
  have C3 : Cal l.prog w K mg base "check_writer" 3 p_check_writer (SpOf preCheckW) := ⟨f3, _, (ok_check_writer F3 T C1), PySem.W.mg_of X G a3, k3, b3⟩
  have C4 : Cal l.prog w K mg base "check_label" 2 p_check_label (SpOf preCheckL) := ⟨f4, _, (ok_check_label F4 T C2), PySem.W.mg_of X G a4, k4, b4⟩
  have C5 : Cal l.prog w K mg base "check_notebook" 1 p_check_notebook (SpOf (preCheckN C)) := ⟨f5, _, (ok_check_notebook F5 T), PySem.W.mg_of X G a5, k5, b5⟩
  have C6 : MCal l.prog w K mg base C "raw_marks" 1 p_Notebook_raw_marks (SpOf (preRaw C)) := ⟨f8, _, (ok_raw_marks F8 T), ⟨a8, i8, k8⟩, b8⟩
  have C7 : MCal l.prog w K mg base C "all_words" 1 p_Notebook_all_words (SpOf (preWords K C)) := ⟨f10, _, (ok_all_words F10 T), ⟨a10, i10, k10⟩, b10⟩
  have C8 : MCal l.prog w K mg base C "marks_of" 3 p_Notebook_marks_of (SpOf (preMarks K C)) := ⟨f11, _, (ok_marks_of F11 T C4 C6), ⟨a11, i11, k11⟩, b11⟩
  have C9 : MCal l.prog w K mg base C "knows" 2 p_Notebook_knows (SpOf (preKnows C)) := ⟨f13, _, (ok_knows F13 T C5), ⟨a13, i13, k13⟩, b13⟩
  have C10 : MCal l.prog w K mg base C "all_told" 1 p_Notebook_all_told (SpOf (preTold K C)) := ⟨f14, _, (ok_all_told F14 T), ⟨a14, i14, k14⟩, b14⟩
  have C11 : MMk l.prog w K mg base C 4 p_Notebookd__initd_ (SpInit C) := ⟨f6, _, ⟨mk, a6, i6, kc⟩, (ok_init F6 T C3), b6⟩
  have C12 : MCal l.prog w K mg base C "add" 3 p_Notebook_add (SpAdd C) := ⟨f7, _, (ok_add F7 T C4), ⟨a7, i7, k7⟩, b7⟩
  have C13 : MCal l.prog w K mg base C "drop" 3 p_Notebook_drop (SpDrop C) := ⟨f9, _, (ok_drop F9 T C4 C6), ⟨a9, i9, k9⟩, b9⟩
  have C14 : MCal l.prog w K mg base C "meet" 2 p_Notebook_meet (SpMeet l.prog w C) := ⟨f12, _, (ok_meet F12 T C5), ⟨a12, i12, k12⟩, b12⟩
  have C15 : MCal l.prog w K mg base C "copy" 6 p_Notebook_copy (SpCopy l.prog w C) := ⟨f15, _, (ok_copy F15 T C11 C14), ⟨a15, i15, k15⟩, b15⟩
  have C16 : Cal l.prog w K mg base "_law_draw" 1 p_law_draw SpDraw := ⟨f16, _, (ok_draw F16 T), PySem.W.mg_of X G a16, k16, b16⟩
  have C17 : Cal l.prog w K mg base "_law_is" 5 p_law_is (SpOf (preIs K 4)) := ⟨f19, _, ok_is F19 T (PySem.W.mg_of X G a19) k19 b19 4, PySem.W.mg_of X G a19, k19, b19⟩
  have C18 : Cal l.prog w K mg base "_law_next" 1 p_law_next (SpOf preNext) := ⟨f23, _, (ok_next F23 T), PySem.W.mg_of X G a23, k23, b23⟩
  have C19 : Cal l.prog w K mg base "_law_standing" 1 p_law_standing (SpOf (preStand K)) := ⟨f24, _, (ok_standing F24 T), PySem.W.mg_of X G a24, k24, b24⟩
  have C20 : Cal l.prog w K mg base "_law_words" 1 p_law_words (SpOf (preWordsL K)) := ⟨f25, _, (ok_words F25 T), PySem.W.mg_of X G a25, k25, b25⟩
  have C21 : Cal l.prog w K mg base "_law_knows" 1 p_law_knows (SpOf preKnowsL) := ⟨f27, _, (ok_knowsL F27 T), PySem.W.mg_of X G a27, k27, b27⟩
  have C22 : Cal l.prog w K mg base "_law_book" 1 p_law_book SpBook := ⟨f22, _, (ok_book F22 T), PySem.W.mg_of X G a22, k22, b22⟩
  have C23 : Cal l.prog w K mg base "_law_met" 1 p_law_met SpMet := ⟨f26, _, (ok_met F26 T), PySem.W.mg_of X G a26, k26, b26⟩
  have C24 : Cal l.prog w K mg base "_law_is_shown" 6 p_law_is_shown (SpOf (preShown C)) := ⟨f29, _, (ok_shown F29 T C17 C7 C8 C20 C19), PySem.W.mg_of X G a29, k29, b29⟩
  have C25 : Cal l.prog w K mg base "_law_some" 2 p_law_some SpSome := ⟨f17, _, (ok_some F17 T C16), PySem.W.mg_of X G a17, k17, b17⟩
  have C26 : Cal l.prog w K mg base "_law_mixed" 2 p_law_mixed SpMixed := ⟨f18, _, (ok_mixed F18 T C16), PySem.W.mg_of X G a18, k18, b18⟩
  have C27 : Cal l.prog w K mg base "_law_hand" 1 p_law_hand (SpHand K) := ⟨f20, _, (ok_hand F20 T), PySem.W.mg_of X G a20, k20, b20⟩
  have C28 : Cal l.prog w K mg base "_law_labels" 3 p_law_labels SpLabels := ⟨f28, _, (ok_labels F28 T C16 C26), PySem.W.mg_of X G a28, k28, b28⟩
  have C29 : Cal l.prog w K mg base "_law_deed" 7 p_law_deed (SpDeed (tabQ PT) C) := ⟨f30, _, (ok_deed F30 T C16 C25 C17 C18 C19 C23 C21 C12 C13 C14 C9), PySem.W.mg_of X G a30, k30, b30⟩
  have C30 : Cal l.prog w K mg base "_law_copied" 2 p_law_copied SpCopied := ⟨f32, _, (ok_copied F32 T C23), PySem.W.mg_of X G a32, k32, b32⟩
  have C31 : Cal l.prog w K mg base "_law_all_met" 7 p_law_all_met (SpAllMet (tabQ PT) C) := ⟨f33, _, (ok_all_met F33 T C16 C26 C11 C22 C15 C30 C14 C23), PySem.W.mg_of X G a33, k33, b33⟩
  have C32 : Cal l.prog w K mg base "_law_are_orders_right" 8 p_law_are_orders_right (SpOrders (tabQ PT) C) := ⟨f34, _, (ok_orders F34 T C10 C31 C24 C9 C14), PySem.W.mg_of X G a34, k34, b34⟩
  have C33 : Cal l.prog w K mg base "_law_are_copies_right" 8 p_law_are_copies_right (SpCopies (tabQ PT) C) := ⟨f35, _, (ok_copies F35 T C16 C25 C15 C30 C10 C9 C18 C17 C12 C24), PySem.W.mg_of X G a35, k35, b35⟩
  have C34 : Cal l.prog w K mg base "_law_does_stand" 8 p_law_does_stand (SpStand (tabQ PT) C) := ⟨f36, _, (ok_stand F36 T C25 C15 C12 C14 C13 C7 C8 C17 C10), PySem.W.mg_of X G a36, k36, b36⟩
  have C35 : Cal l.prog w K mg base "is_integer" 1 p_is_integer (SpOf (preIntG K)) := ⟨f0, _, (ok_is_integerG F0 T), PySem.W.mg_of X G a0, k0, b0⟩
  have C36 : Cal l.prog w K mg base "is_within" 2 p_is_within (SpOf (preWithinF K)) := ⟨f1, _, (ok_is_withinF F1 T C35), PySem.W.mg_of X G a1, k1, b1⟩
  have C37 : CalX l.prog w K mg base "check_writer" 3 p_check_writer (SpNo (BadW K) CN) := ⟨f3, _, (no_check_writer F3 T eN C36), PySem.W.mg_of X G a3, k3, b3⟩
  have C38 : Cal l.prog w K mg base "is_label" 1 p_is_label (SpOf (preLabelF K)) := ⟨f2, _, (ok_is_labelF F2 T), PySem.W.mg_of X G a2, k2, b2⟩
  have C39 : CalX l.prog w K mg base "check_label" 2 p_check_label (SpNo (BadL K) CL) := ⟨f4, _, (no_check_label F4 T eL C38), PySem.W.mg_of X G a4, k4, b4⟩
  have C40 : CalX l.prog w K mg base "check_notebook" 1 p_check_notebook (SpNo (BadN K C) CB) := ⟨f5, _, (no_check_notebook F5 T eB), PySem.W.mg_of X G a5, k5, b5⟩
  have C41 : MMkX l.prog w K mg base C 4 p_Notebookd__initd_ (SpNo2 C (BadW K) CN) := ⟨f6, _, ⟨mk, a6, i6, kc⟩, (no_init F6 T C37), b6⟩
  have C42 : MCalX l.prog w K mg base C "add" 3 p_Notebook_add (SpNo2 C (BadL K) CL) := ⟨f7, _, (no_add F7 T C39), ⟨a7, i7, k7⟩, b7⟩
  have C43 : MCalX l.prog w K mg base C "meet" 2 p_Notebook_meet (SpNo2 C (BadN K C) CB) := ⟨f12, _, (no_meet F12 T C40), ⟨a12, i12, k12⟩, b12⟩
  have C44 : MCalX l.prog w K mg base C "knows" 2 p_Notebook_knows (SpNo2 C (BadN K C) CB) := ⟨f13, _, (no_knows F13 T C40), ⟨a13, i13, k13⟩, b13⟩
  have C45 : MCalX l.prog w K mg base C "marks_of" 3 p_Notebook_marks_of (SpNo2 C (BadL K) CL) := ⟨f11, _, (no_marks_of F11 T C39 C6), ⟨a11, i11, k11⟩, b11⟩
  have C46 : MCalX l.prog w K mg base C "copy" 6 p_Notebook_copy (SpNo2 C (BadW K) CN) := ⟨f15, _, (no_copy F15 T C41 C14), ⟨a15, i15, k15⟩, b15⟩
  have C47 : MCalX l.prog w K mg base C "drop" 3 p_Notebook_drop (SpNo2 C (BadL K) CL) := ⟨f9, _, (no_drop F9 T eS C39 C6), ⟨a9, i9, k9⟩, b9⟩
  have C48 : MCalX l.prog w K mg base C "drop" 3 p_Notebook_drop (SpNoS C CS) := ⟨f9, _, (no_dropS F9 T eS C4 C6), ⟨a9, i9, k9⟩, b9⟩
  have C49 : Cal l.prog w K mg base "_law_deep" 3 p_law_deep SpDeep := ⟨f21, _, (ok_deep F21 T C25 C16), PySem.W.mg_of X G a21, k21, b21⟩
  have C50 : Cal l.prog w K mg base "_law_are_refused" 15 p_law_are_refused (SpRefused (tabQ PT) C) := ⟨f37, _, (ok_refused F37 T rfl F31 (PySem.W.mg_of X G a31) b31 (PySem.W.mg_of X G gT) eN eL eS eB (PySem.W.mg_none_of X G z_ValueError) TB iN iL iS iB hC C10 C25 C49 C7 C8 C41 C46 C42 C47 C45 C48 C43 C44), PySem.W.mg_of X G a37, k37, b37⟩
  exact (ok_law F38 T C27 C28 C16 C11 C22 C29 C32 C33 C34 C50 C25)
theorem walk {l : PySem.W.OpenLaw} {q : Program} {loose : List Str} {XP : (Str → Option Value) → Heap → Prop} {YP : World → Heap → Prop} {d : DefRec} {K : Params → PySem.W.Frag} (hn : l.most = some 63) (hdf : d.params.defaults = [])
    (hY : ∀ (w : World) (h : Heap), YP w h → (K w.params).In h)
    (F : ∀ (w : World) (mg : Str → Option Value) (fa : Addr) (h : Heap), YP w h → (K w.params).In h → h.Ns mainGlobals mg → mg d.name = some (.ref fa) → LamX.LawAtS l w (K w.params) CX0 16 63 "script" mg fa h) :
    PySem.W.WalkO q loose XP YP l.row.toRowW d [] (fun f vs => PySem.call f vs) :=
  LamX.walk_ofTs (n := 63) (k := 16) (x := "script") (CX := fun _ => CX0) hn (by decide) hdf ⟨rfl, by decide, by decide⟩ hY F fun _ _ _ _ _ z => z
end N88

open PySem PySem.W PyProof.Rows in
set_option maxRecDepth 100000 in
set_option maxHeartbeats 0 in
theorem PySem.Challenge.cw_strandpost_k93_whole_notebooks_in_any_or_holds : PySem.Challenge.rw_strandpost_k93_whole_notebooks_in_any_or.Holds := by
  w_on; o_law; k_head; (case hw => w_witness2)
  k_fill
  refine N88.walk (l := PySem.Challenge.rw_strandpost_k93_whole_notebooks_in_any_or) rfl rfl (fun w h Y => PySem.W.km_in_of Y) ?F
  case F =>
    intro w mg fa h Y KX G hmg
    have hT8 := PySem.W.km_tabs_of Y
    refine' N88.all_mk KX G hmg ?hTab ?gC ?gO ?gM ?lO ?pg ?hd ?po ?sa ?mk ?kc ?nPen ?nPut ?nOut ?tc1 ?tc2 ?tc3 ?tc4 ?isC ?tyCC ?slfC ?sb_NoneType ?sb_int ?sb_str ?sb_tuple ?sb_list ?sb_dict ?z_isinstance ?z_len ?z_all ?z_max ?z_abs ?z_sorted ?z_tuple ?z_list ?z_dict ?z_int ?z_str ?z_bool ?z_range ?z_enumerate ?z_zip ?z_ValueError ?gT ?sT ?dT ?tT ?g_CN ?g_CL ?g_CS ?g_CB ?q_CN ?k_CN ?b_CN ?t_CN ?i_CN ?w_CN ?v_CN ?x1_CN ?x2_CN ?x3_CN ?x4_CN ?x5_CN ?u_CN_CN ?u_CN_CL ?u_CN_CS ?u_CN_CB ?q_CL ?k_CL ?b_CL ?t_CL ?i_CL ?w_CL ?v_CL ?x1_CL ?x2_CL ?x3_CL ?x4_CL ?x5_CL ?u_CL_CN ?u_CL_CL ?u_CL_CS ?u_CL_CB ?q_CS ?k_CS ?b_CS ?t_CS ?i_CS ?w_CS ?v_CS ?x1_CS ?x2_CS ?x3_CS ?x4_CS ?x5_CS ?u_CS_CN ?u_CS_CL ?u_CS_CS ?u_CS_CB ?q_CB ?k_CB ?b_CB ?t_CB ?i_CB ?w_CB ?v_CB ?x1_CB ?x2_CB ?x3_CB ?x4_CB ?x5_CB ?u_CB_CN ?u_CB_CL ?u_CB_CS ?u_CB_CB ?a0 ?l0 ?c0 ?k0 ?a1 ?l1 ?c1 ?k1 ?a2 ?l2 ?c2 ?k2 ?a3 ?l3 ?c3 ?k3 ?a4 ?l4 ?c4 ?k4 ?a5 ?l5 ?c5 ?k5 ?a6 ?i6 ?l6 ?c6 ?k6 ?a7 ?i7 ?l7 ?c7 ?k7 ?a8 ?i8 ?l8 ?c8 ?k8 ?a9 ?i9 ?l9 ?c9 ?k9 ?a10 ?i10 ?l10 ?c10 ?k10 ?a11 ?i11 ?l11 ?c11 ?k11 ?a12 ?i12 ?l12 ?c12 ?k12 ?a13 ?i13 ?l13 ?c13 ?k13 ?a14 ?i14 ?l14 ?c14 ?k14 ?a15 ?i15 ?l15 ?c15 ?k15 ?a16 ?l16 ?c16 ?k16 ?a17 ?l17 ?c17 ?k17 ?a18 ?l18 ?c18 ?k18 ?a19 ?l19 ?c19 ?k19 ?a20 ?l20 ?c20 ?k20 ?a21 ?l21 ?c21 ?k21 ?a22 ?l22 ?c22 ?k22 ?a23 ?l23 ?c23 ?k23 ?a24 ?l24 ?c24 ?k24 ?a25 ?l25 ?c25 ?k25 ?a26 ?l26 ?c26 ?k26 ?a27 ?l27 ?c27 ?k27 ?a28 ?l28 ?c28 ?k28 ?a29 ?l29 ?c29 ?k29 ?a30 ?l30 ?c30 ?k30 ?a31 ?l31 ?c31 ?k31 ?a32 ?l32 ?c32 ?k32 ?a33 ?l33 ?c33 ?k33 ?a34 ?l34 ?c34 ?k34 ?a35 ?l35 ?c35 ?k35 ?a36 ?l36 ?c36 ?k36 ?a37 ?l37 ?c37 ?k37 ?a38 ?l38 ?c38 ?k38 ?lcc ?v11 ?hcd ?nPT ?ex1 ?ex2 ?ex3
    (case gC => k_is)
    (case gO => k_is)
    (case gM => k_is)
    (case lO => k_is)
    (case pg => k_is)
    (case hd => k_is)
    (case po => k_is)
    (case sa => k_is)
    (case mk => k_is)
    (case kc => k_is)
    (case nPen => k_is)
    (case nPut => k_is)
    (case nOut => k_is)
    (case tc1 => k_is)
    (case tc2 => k_is)
    (case tc3 => k_is)
    (case tc4 => k_is)
    (case isC => k_is)
    (case tyCC => k_is)
    (case slfC => k_is)
    (case sb_NoneType => k_is)
    (case sb_int => k_is)
    (case sb_str => k_is)
    (case sb_tuple => k_is)
    (case sb_list => k_is)
    (case sb_dict => k_is)
    (case z_isinstance => k_is)
    (case z_len => k_is)
    (case z_all => k_is)
    (case z_max => k_is)
    (case z_abs => k_is)
    (case z_sorted => k_is)
    (case z_tuple => k_is)
    (case z_list => k_is)
    (case z_dict => k_is)
    (case z_int => k_is)
    (case z_str => k_is)
    (case z_bool => k_is)
    (case z_range => k_is)
    (case z_enumerate => k_is)
    (case z_zip => k_is)
    (case z_ValueError => k_is)
    (case gT => k_is)
    (case sT => k_is)
    (case dT => k_is)
    (case tT => k_is)
    (case g_CN => k_is)
    (case g_CL => k_is)
    (case g_CS => k_is)
    (case g_CB => k_is)
    (case q_CN => k_exc)
    (case k_CN => k_is)
    (case b_CN => k_is)
    (case t_CN => k_is)
    (case i_CN => k_is)
    (case w_CN => k_is)
    (case v_CN => k_is)
    (case x1_CN => k_is)
    (case x2_CN => k_is)
    (case x3_CN => k_is)
    (case x4_CN => k_is)
    (case x5_CN => k_is)
    (case u_CN_CN => k_is)
    (case u_CN_CL => k_is)
    (case u_CN_CS => k_is)
    (case u_CN_CB => k_is)
    (case q_CL => k_exc)
    (case k_CL => k_is)
    (case b_CL => k_is)
    (case t_CL => k_is)
    (case i_CL => k_is)
    (case w_CL => k_is)
    (case v_CL => k_is)
    (case x1_CL => k_is)
    (case x2_CL => k_is)
    (case x3_CL => k_is)
    (case x4_CL => k_is)
    (case x5_CL => k_is)
    (case u_CL_CN => k_is)
    (case u_CL_CL => k_is)
    (case u_CL_CS => k_is)
    (case u_CL_CB => k_is)
    (case q_CS => k_exc)
    (case k_CS => k_is)
    (case b_CS => k_is)
    (case t_CS => k_is)
    (case i_CS => k_is)
    (case w_CS => k_is)
    (case v_CS => k_is)
    (case x1_CS => k_is)
    (case x2_CS => k_is)
    (case x3_CS => k_is)
    (case x4_CS => k_is)
    (case x5_CS => k_is)
    (case u_CS_CN => k_is)
    (case u_CS_CL => k_is)
    (case u_CS_CS => k_is)
    (case u_CS_CB => k_is)
    (case q_CB => k_exc)
    (case k_CB => k_is)
    (case b_CB => k_is)
    (case t_CB => k_is)
    (case i_CB => k_is)
    (case w_CB => k_is)
    (case v_CB => k_is)
    (case x1_CB => k_is)
    (case x2_CB => k_is)
    (case x3_CB => k_is)
    (case x4_CB => k_is)
    (case x5_CB => k_is)
    (case u_CB_CN => k_is)
    (case u_CB_CL => k_is)
    (case u_CB_CS => k_is)
    (case u_CB_CB => k_is)
    (case a0 => k_is)
    (case l0 => k_is)
    (case c0 => k_is)
    (case k0 => k_is)
    (case a1 => k_is)
    (case l1 => k_is)
    (case c1 => k_is)
    (case k1 => k_is)
    (case a2 => k_is)
    (case l2 => k_is)
    (case c2 => k_is)
    (case k2 => k_is)
    (case a3 => k_is)
    (case l3 => k_is)
    (case c3 => k_is)
    (case k3 => k_is)
    (case a4 => k_is)
    (case l4 => k_is)
    (case c4 => k_is)
    (case k4 => k_is)
    (case a5 => k_is)
    (case l5 => k_is)
    (case c5 => k_is)
    (case k5 => k_is)
    (case a6 => k_is)
    (case i6 => k_is)
    (case l6 => k_is)
    (case c6 => k_is)
    (case k6 => k_is)
    (case a7 => k_is)
    (case i7 => k_is)
    (case l7 => k_is)
    (case c7 => k_is)
    (case k7 => k_is)
    (case a8 => k_is)
    (case i8 => k_is)
    (case l8 => k_is)
    (case c8 => k_is)
    (case k8 => k_is)
    (case a9 => k_is)
    (case i9 => k_is)
    (case l9 => k_is)
    (case c9 => k_is)
    (case k9 => k_is)
    (case a10 => k_is)
    (case i10 => k_is)
    (case l10 => k_is)
    (case c10 => k_is)
    (case k10 => k_is)
    (case a11 => k_is)
    (case i11 => k_is)
    (case l11 => k_is)
    (case c11 => k_is)
    (case k11 => k_is)
    (case a12 => k_is)
    (case i12 => k_is)
    (case l12 => k_is)
    (case c12 => k_is)
    (case k12 => k_is)
    (case a13 => k_is)
    (case i13 => k_is)
    (case l13 => k_is)
    (case c13 => k_is)
    (case k13 => k_is)
    (case a14 => k_is)
    (case i14 => k_is)
    (case l14 => k_is)
    (case c14 => k_is)
    (case k14 => k_is)
    (case a15 => k_is)
    (case i15 => k_is)
    (case l15 => k_is)
    (case c15 => k_is)
    (case k15 => k_is)
    (case a16 => k_is)
    (case l16 => k_is)
    (case c16 => k_is)
    (case k16 => k_is)
    (case a17 => k_is)
    (case l17 => k_is)
    (case c17 => k_is)
    (case k17 => k_is)
    (case a18 => k_is)
    (case l18 => k_is)
    (case c18 => k_is)
    (case k18 => k_is)
    (case a19 => k_is)
    (case l19 => k_is)
    (case c19 => k_is)
    (case k19 => k_is)
    (case a20 => k_is)
    (case l20 => k_is)
    (case c20 => k_is)
    (case k20 => k_is)
    (case a21 => k_is)
    (case l21 => k_is)
    (case c21 => k_is)
    (case k21 => k_is)
    (case a22 => k_is)
    (case l22 => k_is)
    (case c22 => k_is)
    (case k22 => k_is)
    (case a23 => k_is)
    (case l23 => k_is)
    (case c23 => k_is)
    (case k23 => k_is)
    (case a24 => k_is)
    (case l24 => k_is)
    (case c24 => k_is)
    (case k24 => k_is)
    (case a25 => k_is)
    (case l25 => k_is)
    (case c25 => k_is)
    (case k25 => k_is)
    (case a26 => k_is)
    (case l26 => k_is)
    (case c26 => k_is)
    (case k26 => k_is)
    (case a27 => k_is)
    (case l27 => k_is)
    (case c27 => k_is)
    (case k27 => k_is)
    (case a28 => k_is)
    (case l28 => k_is)
    (case c28 => k_is)
    (case k28 => k_is)
    (case a29 => k_is)
    (case l29 => k_is)
    (case c29 => k_is)
    (case k29 => k_is)
    (case a30 => k_is)
    (case l30 => k_is)
    (case c30 => k_is)
    (case k30 => k_is)
    (case a31 => k_is)
    (case l31 => k_is)
    (case c31 => k_is)
    (case k31 => k_is)
    (case a32 => k_is)
    (case l32 => k_is)
    (case c32 => k_is)
    (case k32 => k_is)
    (case a33 => k_is)
    (case l33 => k_is)
    (case c33 => k_is)
    (case k33 => k_is)
    (case a34 => k_is)
    (case l34 => k_is)
    (case c34 => k_is)
    (case k34 => k_is)
    (case a35 => k_is)
    (case l35 => k_is)
    (case c35 => k_is)
    (case k35 => k_is)
    (case a36 => k_is)
    (case l36 => k_is)
    (case c36 => k_is)
    (case k36 => k_is)
    (case a37 => k_is)
    (case l37 => k_is)
    (case c37 => k_is)
    (case k37 => k_is)
    (case a38 => k_is)
    (case l38 => k_is)
    (case c38 => k_is)
    (case k38 => k_is)
    (case lcc => k_is)
    (case v11 => rfl)
    (case hcd => kernel_rfl)
    (case nPT => kernel_rfl)
    (case hTab => exact fun P e => hT8 P (by injection e with e; injection e with e; subst e; exact List.mem_cons_self))
    (case ex1 => decide +kernel)
    (case ex2 => decide +kernel)
    (case ex3 => decide +kernel)
#print axioms PySem.Challenge.cw_strandpost_k93_whole_notebooks_in_any_or_holds
