import PyProof.Rows.All
import Wide.All
import OpenK.AllK
import Wide.FinOn
import HandS.ForMost
import HandS.Walk
import HandS.TupAny
import HandS.TupMul
import HandS.TupLe
import HandS.IsInst
import HandS.Flow
import HandS.Deep
import HandS.Zip
import HandS.Lambda
import HandS.Dict
import HandS.Iter
import KE.KDictKeyed
import HandS.SortInts
import HandS.NamedTupSort
import HandS.Style
import HandS.Text
import KE.KSortTupG
import HandS.More
import KE.GoesEnum
import HandS.NoneIn
import KE.KStateDown
import HandS.Defaults
import HandS.Head2
import HandS.HeadEnd
import HandS.HeadHook2
import Wide.Once
import HandS.EndTab
import KE.KNestM
import HandS.WordsExc
import HandS.ExcOwn
import HandS.ExcIs
import HandS.Comp
import HandS.Exc
import PySem.Challenge.RW_switchduel_k04_whole_texts_of_parts
set_option Elab.async false
set_option linter.all false
set_option maxRecDepth 100000
set_option maxHeartbeats 4000000
/-! ## a dict whose keys are tuples of None and whole numbers, each value True -/
namespace Sw
open PySem L2
def oV : Option Int → V
  | none => .non
  | some i => .int i
def oN : Option Int → NestedKey
  | none => .none
  | some i => .num i
def nkO (k : List (Option Int)) : NestedKey := .tup (k.map oN)
def oHash : Option Int → Int
  | none => reduceHash 0xFCA86420
  | some i => hashInt i
def hashO (k : List (Option Int)) : Int := reduceHash (Builtin.Tuple.tupleHashOf (k.map oHash))
theorem hashes_O (w : World) : ∀ k : List (Option Int), NestedKey.hashes w (k.map oN) = k.map oHash
  | [] => by simp only [List.map_nil, NestedKey.hashes]
  | none :: k => by simp only [List.map_cons, NestedKey.hashes, hashes_O w k, oN, NestedKey.hash, oHash]
  | some i :: k => by simp only [List.map_cons, NestedKey.hashes, hashes_O w k, oN, NestedKey.hash, oHash]
theorem hash_nk (w : World) (k : List (Option Int)) : (nkO k).hash w = hashO k := by
  simp only [nkO, NestedKey.hash, hashes_O, hashO]
theorem depth_nk (k : List (Option Int)) : (nkO k).depth ≤ 8 := by
  have e : ∀ k : List (Option Int), NestedKey.depthAll (k.map oN) = 0 := fun k => by
    induction k with
    | nil => simp only [List.map_nil, NestedKey.depthAll]
    | cons a k ih => cases a <;> simp only [List.map_cons, NestedKey.depthAll, ih, oN, NestedKey.depth] <;> rfl
  simp only [nkO, NestedKey.depth, e]
  omega
theorem oN_inj : ∀ {a b : Option Int}, oN a = oN b → a = b
  | none, none, _ => rfl
  | some i, some j, h => by injection h with h; rw [h]
  | none, some j, h => by cases h
  | some i, none, h => by cases h
theorem oNs_inj : ∀ {k l : List (Option Int)}, k.map oN = l.map oN → k = l
  | [], [], _ => rfl
  | [], _ :: _, h => by cases h
  | _ :: _, [], h => by cases h
  | a :: k, b :: l, h => by
    rw [List.map_cons, List.map_cons] at h
    injection h with h1 h2
    rw [oN_inj h1, oNs_inj h2]
theorem nkO_inj {k l : List (Option Int)} (h : nkO k = nkO l) : k = l := by
  unfold nkO at h
  injection h with h
  exact oNs_inj h
def entO (x : List (Option Int) × Addr) : DictEntry := ⟨hashO x.1, .ref x.2, .bool true⟩
structure DctR (h : Heap) (p : Addr) (o : Obj) (xs : List (List (Option Int) × Addr)) : Prop where
  g : h.get? p = some o
  x : o.ExactDict
  s : (p == sysModules) = false
  d : ∃ es ep, o.data = .dict es ep ∧ es.toList = xs.map entO
def DctO (p : Addr) (o : Obj) (xs : List (List (Option Int) × Addr)) : HO := .ext fun h => DctR h p o xs
theorem dctO_new {P : Program} {w : World} {H : Hp} {h : Heap} {p : Addr} {o : Obj} {xs : List (List (Option Int) × Addr)} (R : DctR h p o xs) : ObjOk P w H h p (DctO p o xs) :=
  ⟨R, ⟨o, R.g⟩, fun h1 h2 q k => ⟨k o q.g, q.x, q.s, q.d⟩⟩
section
variable {X : Cx} {pins : List (Addr × Obj)} {σ : St} {H : Hp} {s : Shared} {p : Addr} {o : Obj} {xs : List (List (Option Int) × Addr)}
theorem dctO_get (I : Inv X pins σ H s) (h : H p = some (DctO p o xs)) : DctR s.heap p o xs := (I.hok p _ h).1
theorem nested_vals {h : Heap} : ∀ {k : List (Option Int)} {us : List Value}, Vals (k.map oV) us → NestedAll h (k.map oN) us
  | [], _, r => by cases r; exact .nil
  | a :: k, _, r => by
    rw [List.map_cons] at r
    cases r with
    | cons r0 rs =>
      refine .cons ?_ (nested_vals rs)
      cases a with
      | none =>
        have : _ = Value.none := r0
        rw [this]; exact .none
      | some i =>
        obtain ⟨t, rfl⟩ := r0
        exact .int i t
theorem key_is (I : Inv X pins σ H s) {b : Addr} {k : List (Option Int)} (h : SqT X.K H b (k.map oV)) : (nestedKind X.prog X.w).is s.heap (nkO k) b := by
  obtain ⟨its, rv, ⟨ob, ho, hc, n, hd⟩, _⟩ := I.tuple h
  exact ⟨.tup ho hc hd (by simpa using nested_vals rv), depth_nk k⟩
abbrev entsO (xs : List (List (Option Int) × Addr)) : List (NestedKey × Addr × Value) := xs.map fun x => (nkO x.1, x.2, .bool true)
theorem dct_of (I : Inv X pins σ H s) (h : H p = some (DctO p o xs)) (hk : ∀ x ∈ xs, SqT X.K H x.2 (x.1.map oV)) (nd : (xs.map (·.1)).Nodup) : s.heap.DictOfH (nestedKind X.prog X.w) p (entsO xs) := by
  obtain ⟨g, x, _, es, ep, d, e⟩ := dctO_get I h
  refine ⟨o, es, ep, g, x, d, ?_, fun y hy => ?_, ?_⟩
  · rw [e, List.map_map]
    refine List.map_congr_left fun y _ => ?_
    show entO y = ⟨(nkO y.1).hash X.w, .ref y.2, .bool true⟩
    rw [hash_nk]; rfl
  · obtain ⟨z, hz, rfl⟩ := List.mem_map.mp hy
    exact key_is I (hk z hz)
  · rw [List.map_map]
    have e2 : (xs.map ((fun x : NestedKey × Addr × Value => x.1) ∘ fun x => (nkO x.1, x.2, Value.bool true))) = (xs.map (·.1)).map nkO := by rw [List.map_map]; rfl
    rw [e2]
    exact (List.pairwise_map.mpr (nd.imp fun {a b} ne z => ne (nkO_inj z)))
theorem atKey_O {k : List (Option Int)} : ∀ {xs : List (List (Option Int) × Addr)}, (atKey (entsO xs) (nkO k)).isSome = xs.any fun x => decide (x.1 = k)
  | [] => rfl
  | x :: xs => by
    by_cases c : x.1 = k
    · have : atKey (entsO (x :: xs)) (nkO k) = some (x.2, .bool true) := by
        unfold atKey entsO
        rw [List.map_cons, List.find?_cons_of_pos (by simp [c])]; rfl
      rw [this, List.any_cons, decide_eq_true c]; rfl
    · have : atKey (entsO (x :: xs)) (nkO k) = atKey (entsO xs) (nkO k) := by
        unfold atKey entsO
        rw [List.map_cons, List.find?_cons_of_neg (by simpa using fun z => c (nkO_inj z))]
      rw [this, atKey_O, List.any_cons, decide_eq_false c, Bool.false_or]
/-- {} -/
def tDct0 : TE := fun _ H Q => ∀ p o, H p = none → (∃ h, DctR h p o []) → Q (.ref p) (upd H p (DctO p o []))
theorem pe_dct0 {pos : Pos} : PE X (.Dict [] [] pos) tDct0 := ⟨fun pins s σ H Q I h => by
  have R : DctR (s.heap.push { cls := .type "dict", data := .dict #[] }) s.heap.objs.size { cls := .type "dict", data := .dict #[] } [] := ⟨Heap.get?_push_size _ rfl, ⟨rfl, rfl, rfl⟩, beq_eq_false_iff_ne.mpr (Ne.symm (Nat.ne_of_lt I.big)), #[], 0, rfl, rfl⟩
  exact wpAny_Dict_empty ⟨.ref s.heap.objs.size, _, I.laid (a := s.heap.objs.size) (o := DctO s.heap.objs.size _ []) (t' := s.toks) (fun _ _ q => Heap.get?_push_of_some _ q) (Nat.le_refl _) (dctO_new R), rfl, h _ _ (I.hok.fresh (Nat.le_refl _)) ⟨_, R⟩⟩⟩
/-- d[k] = True -/
def putO (xs : List (List (Option Int) × Addr)) (k : List (Option Int)) (b : Addr) : List (List (Option Int) × Addr) := if (xs.any fun x => decide (x.1 = k)) = true then xs else xs ++ [(k, b)]
def tDctS (K : PySem.W.Frag) : TSet := fun ov iv v H Q => ∃ (p b : Addr) (o : Obj) (xs : List (List (Option Int) × Addr)) (k : List (Option Int)), ov = .ref p ∧ iv = .ref b ∧ v = .bl true ∧ H p = some (DctO p o xs) ∧ (∀ x ∈ xs, SqT K H x.2 (x.1.map oV)) ∧ (xs.map (·.1)).Nodup ∧ xs.length ≤ 1000000 ∧ SqT K H b (k.map oV) ∧
  ∀ o', (∃ h, DctR h p o' (putO xs k b)) → Q (upd H p (DctO p o' (putO xs k b)))
theorem stored_O (xs : List (List (Option Int) × Addr)) (k : List (Option Int)) (b : Addr) : storedH (entsO xs) (nkO k) b (.bool true) = entsO (putO xs k b) := by
  unfold storedH putO
  rw [atKey_O]
  split
  · rw [List.map_map]
    refine List.map_congr_left fun x _ => ?_
    show putAt (nkO k) (.bool true) (nkO x.1, x.2, .bool true) = _
    unfold putAt
    split <;> rfl
  · simp [entsO]
theorem pset_dct (hu : X.A.units + 200 < cLine) : PSet X (tDctS X.K) := by
  intro pins s σ H ov iv v ou iu u Q I r1 r2 r3 h
  obtain ⟨p, b, o, xs, k, rfl, rfl, rfl, hd, hk, nd, hl, hb, q⟩ := h
  cases r1; cases r2; cases r3
  have R := dctO_get I hd
  refine wpAny_setItem_heap (knd := nestedKind X.prog X.w) (xs := entsO xs) (by show X.A.units + 1 + 8 < cLine; omega) (key_is I hb) (dct_of I hd hk nd) (fun h' hm sb => ?_) (by rw [List.length_map, sizeLine_eq]; omega)
  rw [stored_O] at hm
  obtain ⟨o', es, ep, g, x, d, e, _, _⟩ := hm
  have new : DctR h' p o' (putO xs k b) := ⟨g, x, R.s, es, ep, d, by
    rw [e, List.map_map]
    refine List.map_congr_left fun y _ => ?_
    show (⟨(nkO y.1).hash X.w, .ref y.2, .bool true⟩ : DictEntry) = entO y
    rw [hash_nk]; rfl⟩
  exact ⟨upd H p (DctO p o' (putO xs k b)), I.write (e := p) (by rw [hd]; trivial) (.inl rfl) (fun c u hc hu => (sb.2 c hc).trans hu) ⟨o', g⟩ (dctO_new new), q o' ⟨_, new⟩⟩
/-- k in d -/
def rDctI (K : PySem.W.Frag) : V → V → Hp → VK → Prop := fun x y H Q => ∃ (p b : Addr) (o : Obj) (xs : List (List (Option Int) × Addr)) (k : List (Option Int)), x = .ref b ∧ y = .ref p ∧ H p = some (DctO p o xs) ∧ (∀ x ∈ xs, SqT K H x.2 (x.1.map oV)) ∧ (xs.map (·.1)).Nodup ∧ SqT K H b (k.map oV) ∧ Q (.bl (xs.any fun x => decide (x.1 = k))) H
theorem op_dctI (hu : X.A.units + 200 < cLine) : OpR X (compareOp .In) (rDctI X.K) := by
  intro pins s σ H x y v u Q I rx ry h
  obtain ⟨p, b, o, xs, k, rfl, rfl, hd, hk, nd, hb, q⟩ := h
  cases rx; cases ry
  have R := dctO_get I hd
  refine wpAny_in_heap (knd := nestedKind X.prog X.w) (xs := entsO xs) (by show X.A.units + 1 + 8 < cLine; omega) (key_is I hb) R.s (dct_of I hd hk nd) ?_
  rw [atKey_O]
  exact ⟨.bl (xs.any fun x => decide (x.1 = k)), H, I.tok _, rfl, q⟩
/-- for k in d -/
def Itx (p : Addr) (o : Obj) (xs : List (List (Option Int) × Addr)) : It :=
  ⟨fun i H => H p = some (DctO p o xs) ∧ i < xs.length, fun i H x H' => H' = H ∧ ∃ y, xs[i]? = some y ∧ x = .ref y.2, fun i H => H p = some (DctO p o xs) ∧ xs.length ≤ i⟩
theorem turn_dct {P : Program} {w : World} {K : PySem.W.Frag} {tg : Expr} {es : Array DictEntry} {ep : Nat} (it : Addr) (hod : o.data = .dict es ep) : Turn P w K tg (Itx p o xs) [it] it (fun i h => h.IsKeyIter it p i xs.length ep) where
  mem := by simp
  obj := fun i h st b hb => by
    have e : b = it := by simpa using hb
    subst e
    obtain ⟨oi, e, c, dd⟩ := st
    exact ⟨oi, e, fun v z => by rw [dd] at z; cases z⟩
  keep := fun i h h' st k => st.at fun oi e => k it (by simp) oi e
  item := by
    intro X hP hw hK hc i pins s σ H E I hf st hg
    subst hP hw hK
    obtain ⟨hd, hi⟩ := hg
    obtain ⟨f0, f1, f2, f3, f4, f5⟩ := hf it (by simp)
    obtain ⟨hgd, hx, hs, es', ep', hdt, hent⟩ := dctO_get I hd
    obtain ⟨rfl, rfl⟩ := dict_ep hod hdt
    have hsz : es'.size = xs.length := by rw [← Array.length_toList, hent, List.length_map]
    have hy : xs[i]? = some xs[i] := List.getElem?_eq_getElem hi
    have hen : es'[i]? = some (entO xs[i]) := by rw [← Array.getElem?_toList, hent, List.getElem?_map, hy]; rfl
    refine next_key_item st hgd hdt hsz hen fun h' st' sb => ?_
    have I1 : Inv X pins σ H { s with heap := h' } := I.turned (t' := s.toks) (fun b ob hb e => (sb.2 b hb).trans e) f0 f1 f3 f4 f5
    obtain ⟨oi, e, c, dd⟩ := id st'
    exact ⟨_, rfl, go_of (s := { s with heap := h' }) e c dd (by decide) ⟨.ref xs[i].2, H, I1, rfl, ⟨rfl, xs[i], hy, rfl⟩, st', fun b hb => (hf b hb).1⟩⟩
  done := by
    intro X hP hw hK hc i pins s σ H E I hf st hg
    subst hP hw hK
    obtain ⟨hd, hi⟩ := hg
    obtain ⟨f0, f1, f2, f3, f4, f5⟩ := hf it (by simp)
    obtain ⟨hgd, hx, hs, es', ep', hdt, hent⟩ := dctO_get I hd
    obtain ⟨rfl, rfl⟩ := dict_ep hod hdt
    have hsz : es'.size = xs.length := by rw [← Array.length_toList, hent, List.length_map]
    exact next_key_end (I.ok.hd hc) st hgd hdt hsz hi fun h' eb => ⟨rfl, I.turned (t' := s.toks) (fun b ob hb e => eb b ob hb e) f0 f1 f3 f4 f5⟩
  self := fun A i s Q E st h => by
    refine wpAny_pyIter_slot st.typeIs F.slot_dict_keyiterator_iter (wpAny_call_entry F.slot_dict_keyiterator_iter st.typeIs F.entry_dict_keyiterator_iter ?_ (F.args_dict_keyiterator_iter_1 _))
    show wpAny _ _ (ret (.ref it)) _ _ s
    exact wpAny_pure ⟨_, rfl, "dict_keyiterator", _, st.typeIs, F.slot_dict_keyiterator_next.lookup, h⟩
def iDct (td : TE) : TI := fun σ H R => td σ H fun x H1 => ∃ p o xs, x = .ref p ∧ H1 p = some (DctO p o xs) ∧ R (Itx p o xs) H1
theorem pi_dct {tg e : Expr} {td : TE} (he : PE X e td) : PI X tg e (iDct td) := by
  refine ⟨fun pins s σ H R I h => ?_⟩
  refine thn (he.run pins s σ H _ I h) fun u s1 ⟨x, H1, I1, rx, p, o, xs, ex, hd, q⟩ => ?_
  subst ex
  obtain rfl : u = Value.ref p := rx
  obtain ⟨hgd, hx, hs, es, ep, hdt, hent⟩ := dctO_get I1 hd
  have hsz : es.size = xs.length := by rw [← Array.length_toList, hent, List.length_map]
  refine iter_keys hs hgd hx hdt (pi_one (tk := s1.toks) I1 _ (turn_dct _ hdt) ⟨_, Heap.get?_push_size _ rfl, rfl, ?_⟩ q)
  rw [hsz] <;> rfl
end
end Sw
/-! ## data, and how the heap bears it -/
namespace Sw
open PySem L2
/-- no table -/
def NT (o : HO) : Prop := ∀ ps, o ≠ .tbl ps
/-- neither a table nor a code object -/
def Pl (p : Addr) (o : HO) : Prop := NT o ∧ ∀ q, o ≠ LamX.CodeO p q
theorem code_ext {p : Addr} {q : Str} : ∃ φ, LamX.CodeO p q = .ext φ := ⟨_, rfl⟩
theorem pl_lst {p : Addr} {xs : List V} : Pl p (.lst xs) := ⟨fun _ z => (by cases z), fun _ z => (by obtain ⟨φ, e⟩ := code_ext; rw [e] at z; cases z)⟩
theorem pl_dK {p : Addr} {xs : List (Key × V)} : Pl p (.dK xs) := ⟨fun _ z => (by cases z), fun _ z => (by obtain ⟨φ, e⟩ := code_ext; rw [e] at z; cases z)⟩
theorem pl_dct {p : Addr} {o : Obj} {xs : List (List (Option Int) × Addr)} (h : ∃ h, DctR h p o xs) : Pl p (DctO p o xs) := ⟨fun _ z => (by cases z), fun q z => by
  obtain ⟨h, R⟩ := h
  have e : (fun h => DctR h p o xs) = fun h => ∃ (oc : Obj) (vs : Array Value) (t : Tok), h.get? p = some oc ∧ oc.data = .fields vs ∧ vs[1]? = some (.str q t) := HO.ext.inj z
  have e2 := congrFun e h
  obtain ⟨oc, vs, t, a, b, c⟩ := e2 ▸ R
  obtain ⟨g, _, _, es, ep, d, _⟩ := R
  rw [g] at a
  cases a
  rw [d] at b
  cases b⟩
/-- all but the tables stay -/
def SameN (H H' : Hp) : Prop := ∀ b o, H b = some o → NT o → H' b = some o
theorem SameN.refl (H : Hp) : SameN H H := fun _ _ h _ => h
theorem SameN.trans {H H1 H2 : Hp} (a : SameN H H1) (b : SameN H1 H2) : SameN H H2 := fun c o h n => b c o (a c o h n) n
theorem nt_lst {xs : List V} : NT (.lst xs) := fun _ z => by cases z
theorem nt_tup {xs : List V} : NT (.tup xs) := fun _ z => by cases z
theorem nt_frz {o : Obj} {u : HO} : NT (.frz o u) := fun _ z => by cases z
theorem nt_dK {kvs : List (Key × V)} : NT (.dK kvs) := fun _ z => by cases z
theorem SameN.lst {H H' : Hp} (s : SameN H H') {a : Addr} {xs : List V} (h : H a = some (.lst xs)) : H' a = some (.lst xs) := s a _ h nt_lst
theorem SameN.dK {H H' : Hp} (s : SameN H H') {a : Addr} {xs : List (Key × V)} (h : H a = some (.dK xs)) : H' a = some (.dK xs) := s a _ h nt_dK
theorem SameN.seq {K : PySem.W.Frag} {H H' : Hp} {a : Addr} {xs : List V} (e : SameN H H') (h : SqL K H a xs) : SqL K H' a xs := by
  rcases h with (h | ⟨o, h⟩) | h
  · exact .inl (.inl (e _ _ h nt_lst))
  · exact .inl (.inr ⟨o, e _ _ h nt_frz⟩)
  · exact .inr h
def hid (O : List Addr) (H : Hp) : Hp := fun p => if p ∈ O then none else H p
theorem hid_get {O : List Addr} {H : Hp} {p : Addr} {o : HO} (n : p ∉ O) (h : H p = some o) : hid O H p = some o := by
  unfold hid; rw [if_neg n]; exact h
theorem of_hid {O : List Addr} {H : Hp} {p : Addr} {o : HO} (h : hid O H p = some o) : p ∉ O ∧ H p = some o := by
  unfold hid at h
  by_cases n : p ∈ O
  · rw [if_pos n] at h; cases h
  · rw [if_neg n] at h; exact ⟨n, h⟩
theorem hid_le {O : List Addr} {H : Hp} : SameN (hid O H) H := fun p o h _ => (of_hid h).2
theorem hid_sub {O O' : List Addr} {H : Hp} (hs : ∀ p ∈ O', p ∈ O) : SameN (hid O H) (hid O' H) := fun p o h _ => by
  obtain ⟨n, h⟩ := of_hid h
  exact hid_get (fun z => n (hs p z)) h
theorem hidN {O : List Addr} {H H' : Hp} (s : SameN H H') : SameN (hid O H) (hid O H') := fun p o h nt => by
  obtain ⟨n, h⟩ := of_hid h
  exact hid_get n (s p o h nt)
/-- the tables of code objects that the law's lambdas are told in; what a handed function leans on -/
class Tbs where
  T : List (Addr × Str)
  R : Hp → Prop
  mono : ∀ H H', SameN H H' → R H → R H'
/-- the function that the running def was handed -/
class Acs where
  f : Addr
instance (priority := low) tbs0 : Tbs := ⟨[], fun _ => True, fun _ _ _ h => h⟩
instance (priority := low) acs0 : Acs := ⟨0⟩
def TabsX [t : Tbs] (H : Hp) : Prop := LamX.Tabs t.T H
/-- all but the tables stay; the tables are as they should be, if they were so -/
structure Same [Tbs] (H H' : Hp) : Prop where
  n : SameN H H'
  t : TabsX H → TabsX H'
variable [Tbs] [Acs]
theorem Same.refl (H : Hp) : Same H H := ⟨SameN.refl H, fun h => h⟩
theorem Same.trans {H H1 H2 : Hp} (a : Same H H1) (b : Same H1 H2) : Same H H2 := ⟨a.n.trans b.n, fun h => b.t (a.t h)⟩
theorem Same.of {H H' : Hp} (h : ∀ b o, H b = some o → H' b = some o) : Same H H' := ⟨fun b o q _ => h b o q, fun t => t.ext h⟩
theorem Same.lst {H H' : Hp} (s : Same H H') {a : Addr} {xs : List V} (h : H a = some (.lst xs)) : H' a = some (.lst xs) := s.n.lst h
theorem Same.dK {H H' : Hp} (s : Same H H') {a : Addr} {xs : List (Key × V)} (h : H a = some (.dK xs)) : H' a = some (.dK xs) := s.n.dK h
theorem Same.seq {K : PySem.W.Frag} {H H' : Hp} {a : Addr} {xs : List V} (e : Same H H') (h : SqL K H a xs) : SqL K H' a xs := e.n.seq h
/-- what is neither a table nor a code object is changed -/
theorem tabs_upd {H : Hp} {q : Addr} {o o' : HO} (h : H q = some o) (pl : Pl q o) (t : TabsX H) : TabsX (upd H q o') := fun p hp => by
  obtain ⟨ps, a, b, c⟩ := t p hp
  refine ⟨ps, ?_, b, fun pos cv hc => ?_⟩
  · rw [upd_ne fun z => ?_]
    · exact a
    · rw [z, h] at a
      exact pl.1 ps (Option.some.inj a)
  · obtain ⟨c', e1, e2⟩ := c pos cv hc
    refine ⟨c', e1, ?_⟩
    rw [upd_ne fun z => ?_]
    · exact e2
    · rw [z, h] at e2
      exact pl.2 _ (Option.some.inj e2)
theorem tabs_lst {H : Hp} {q : Addr} {xs : List V} {o' : HO} (h : H q = some (.lst xs)) (t : TabsX H) : TabsX (upd H q o') := tabs_upd h pl_lst t
theorem tabs_dK {H : Hp} {q : Addr} {xs : List (Key × V)} {o' : HO} (h : H q = some (.dK xs)) (t : TabsX H) : TabsX (upd H q o') := tabs_upd h pl_dK t
/-- where an operation runs: what is owned stands, the tables are as they should be -/
structure Dom (O : List Addr) (H : Hp) : Prop where
  d : ∀ p ∈ O, ∃ o, H p = some o ∧ Pl p o
  t : TabsX H
  r : Tbs.R (hid O H)
theorem hid_same {O : List Addr} {H H' : Hp} (s : Same H H') : SameN (hid O H) (hid O H') := hidN s.n
theorem Dom.ne {O : List Addr} {H : Hp} (h : Dom O H) {p : Addr} (hp : p ∈ O) : H p ≠ none := fun z => by
  obtain ⟨o, e, _⟩ := h.d p hp
  rw [e] at z; cases z
theorem Dom.same {O : List Addr} {H H' : Hp} (h : Dom O H) (s : Same H H') : Dom O H' := ⟨fun p hp => let ⟨o, e, n⟩ := h.d p hp; ⟨o, s.n p o e n.1, n⟩, s.t h.t, Tbs.mono _ _ (hid_same s) h.r⟩

inductive D where
  | non | bl (b : Bool) | int (i : Int) | str (x : Str) | tup (ds : List D) | lst (ds : List D) | scr (ns : List Int)

/-- how long a list or a text may be here -/
abbrev lim : Nat := 1000000
def sOk (x : Str) : Bool := PyData.strOk x && decide (x.length ≤ lim)

mutual
inductive Rep (K : PySem.W.Frag) (H : Hp) : V → D → Prop
  | non : Rep K H .non .non
  | bl (b : Bool) : Rep K H (.bl b) (.bl b)
  | int (i : Int) : Rep K H (.int i) (.int i)
  | str (x : Str) : sOk x = true → Rep K H (.str x) (.str x)
  | tup {a : Addr} {xs : List V} {ds : List D} : SqT K H a xs → RepAll K H xs ds → ds.length ≤ lim → Rep K H (.ref a) (.tup ds)
  | lst {a : Addr} {xs : List V} {ds : List D} : H a = some (.lst xs) → RepAll K H xs ds → ds.length ≤ lim → Rep K H (.ref a) (.lst ds)
  | scr {a : Addr} {ns : List Int} : SqL K H a (ns.map V.int) → ns.length ≤ lim → Rep K H (.ref a) (.scr ns)
inductive RepAll (K : PySem.W.Frag) (H : Hp) : List V → List D → Prop
  | nil : RepAll K H [] []
  | cons {v : V} {vs : List V} {d : D} {ds : List D} : Rep K H v d → RepAll K H vs ds → RepAll K H (v :: vs) (d :: ds)
end

section
variable {K : PySem.W.Frag} {H H' : Hp}
theorem same_sqT {a : Addr} {xs : List V} (e : SameN H H') (h : SqT K H a xs) : SqT K H' a xs := by
  rcases h with (h | ⟨o, h⟩) | h
  · exact .inl (.inl (e _ _ h nt_tup))
  · exact .inl (.inr ⟨o, e _ _ h nt_frz⟩)
  · exact .inr h
mutual
theorem Rep.mono (s : SameN H H') : ∀ {v : V} {d : D}, Rep K H v d → Rep K H' v d
  | _, _, .non => .non
  | _, _, .bl b => .bl b
  | _, _, .int i => .int i
  | _, _, .str x h => .str x h
  | _, _, .tup q r l => .tup (same_sqT s q) (RepAll.mono s r) l
  | _, _, .lst q r l => .lst (s.lst q) (RepAll.mono s r) l
  | _, _, .scr q l => .scr (s.seq q) l
theorem RepAll.mono (s : SameN H H') : ∀ {vs : List V} {ds : List D}, RepAll K H vs ds → RepAll K H' vs ds
  | _, _, .nil => .nil
  | _, _, .cons r rs => .cons (Rep.mono s r) (RepAll.mono s rs)
end
theorem RepAll.length : ∀ {vs : List V} {ds : List D}, RepAll K H vs ds → vs.length = ds.length
  | _, _, .nil => rfl
  | _, _, .cons _ rs => by rw [List.length_cons, List.length_cons, RepAll.length rs]
theorem RepAll.get : ∀ {vs : List V} {ds : List D} {i : Nat} {d : D}, RepAll K H vs ds → ds[i]? = some d → ∃ v, vs[i]? = some v ∧ Rep K H v d
  | _, _, _, _, .nil, e => by simp at e
  | _, _, 0, _, .cons r _, e => by simp at e; subst e; exact ⟨_, rfl, r⟩
  | _, _, i + 1, d, .cons _ t, e => by
    obtain ⟨u, h1, h2⟩ := RepAll.get (i := i) (d := d) t (by simpa using e)
    exact ⟨u, by simpa using h1, h2⟩
theorem RepAll.append : ∀ {xs ys : List V} {ds es : List D}, RepAll K H xs ds → RepAll K H ys es → RepAll K H (xs ++ ys) (ds ++ es)
  | _, _, _, _, .nil, s => s
  | _, _, _, _, .cons r t, s => .cons r (RepAll.append t s)
theorem RepAll.take : ∀ {xs : List V} {ds : List D} (n : Nat), RepAll K H xs ds → RepAll K H (xs.take n) (ds.take n)
  | _, _, 0, _ => by simp; exact .nil
  | _, _, _ + 1, .nil => .nil
  | _, _, n + 1, .cons r t => .cons r (RepAll.take n t)
theorem RepAll.drop : ∀ {xs : List V} {ds : List D} (n : Nat), RepAll K H xs ds → RepAll K H (xs.drop n) (ds.drop n)
  | _, _, 0, r => r
  | _, _, _ + 1, .nil => .nil
  | _, _, n + 1, .cons _ t => RepAll.drop n t
theorem RepAll.ints : ∀ {xs : List V} {ds : List D} {ns : List Int}, RepAll K H xs ds → ds = ns.map D.int → xs = ns.map V.int
  | _, _, [], .nil, _ => rfl
  | _, _, n :: ns, .nil, e => by simp at e
  | _, _, [], .cons _ _, e => by simp at e
  | _, _, n :: ns, .cons r t, e => by
    simp only [List.map_cons, List.cons.injEq] at e
    obtain ⟨e1, e2⟩ := e
    subst e1
    cases r
    rw [List.map_cons, RepAll.ints t e2]
theorem repAll_ints : ∀ (ns : List Int), RepAll K H (ns.map V.int) (ns.map D.int)
  | [] => .nil
  | n :: ns => .cons (.int n) (repAll_ints ns)
end

theorem hid_nil (H : Hp) : hid [] H = H := by funext p; unfold hid; simp
theorem same_upd {H : Hp} {p : Addr} {o : HO} (h : H p = none) : Same H (upd H p o) := .of fun b u q => by rw [upd_ne (ne_of_none q h)]; exact q
/-- a new object, seen in the heap without what is owned -/
theorem hid_new {O : List Addr} {H : Hp} {p : Addr} {o : HO} (hO : Dom O H) (h : H p = none) : hid O (upd H p o) p = some o :=
  hid_get (fun z => hO.ne z h) upd_same

/-! ### the slots -/
inductive Sl where
  | dat (d : D) | own (ds : List D) | act
  /-- a dict, its keys (each value is True), owned; and one that is no more written -/
  | dct (ks : List D) | dfz (ks : List D)
  /-- a dict of lists, no more written -/
  | dlf (m : List (Int × List D))
abbrev DSt := List (Option Sl)
def okI : D → Option (Option Int)
  | .non => some none
  | .int i => some (some i)
  | _ => none
def okL : List D → Option (List (Option Int))
  | [] => some []
  | d :: ds => (okI d).bind fun a => (okL ds).bind fun l => some (a :: l)
def okT : D → Option (List (Option Int))
  | .tup ds => okL ds
  | _ => none
theorem okL_rep {K : PySem.W.Frag} {H : Hp} : ∀ {vs : List V} {ds : List D} {k : List (Option Int)}, RepAll K H vs ds → okL ds = some k → vs = k.map oV
  | _, _, _, .nil, e => by cases e; rfl
  | _, d :: ds, k, .cons r rs, e => by
    simp only [okL] at e
    cases q1 : okI d with
    | none => rw [q1] at e; cases e
    | some a =>
      rw [q1] at e
      cases q2 : okL ds with
      | none => rw [q2] at e; cases e
      | some l =>
        rw [q2] at e
        cases e
        rw [List.map_cons, ← okL_rep rs q2]
        congr 1
        cases r <;> simp only [okI] at q1 <;> cases q1 <;> rfl
theorem okT_rep {K : PySem.W.Frag} {H : Hp} {v : V} {d : D} {k : List (Option Int)} (r : Rep K H v d) (e : okT d = some k) : ∃ b, v = .ref b ∧ SqT K H b (k.map oV) := by
  cases r <;> try (cases e; done)
  case tup a xs ds q ra l =>
    have := okL_rep ra (show okL ds = some k from e)
    subst this
    exact ⟨a, rfl, q⟩
/-- the keys of a dict stand for ks -/
structure DRep (K : PySem.W.Frag) (H : Hp) (xs : List (List (Option Int) × Addr)) (ks : List D) : Prop where
  r : RepAll K H (xs.map fun x => V.ref x.2) ks
  k : ks.map okT = xs.map fun x => some x.1
  n : (xs.map (·.1)).Nodup
  l : ks.length ≤ lim
theorem DRep.mono {K : PySem.W.Frag} {H H' : Hp} {xs : List (List (Option Int) × Addr)} {ks : List D} (h : DRep K H xs ks) (s : SameN H H') : DRep K H' xs ks := ⟨h.r.mono s, h.k, h.n, h.l⟩
theorem DRep.keys {K : PySem.W.Frag} {H : Hp} : ∀ {xs : List (List (Option Int) × Addr)} {ks : List D}, RepAll K H (xs.map fun x => V.ref x.2) ks → (ks.map okT = xs.map fun x => some x.1) → ∀ x ∈ xs, SqT K H x.2 (x.1.map oV)
  | [], _, _, _, x, hx => by cases hx
  | y :: xs, ks, r, k, x, hx => by
    cases ks with
    | nil => cases r
    | cons d ks =>
      rw [List.map_cons] at r
      cases r with
      | cons r0 rs =>
        rw [List.map_cons, List.map_cons] at k
        injection k with k1 k2
        rcases List.mem_cons.mp hx with rfl | hx
        · obtain ⟨b, e, q⟩ := okT_rep r0 k1
          cases e
          exact q
        · exact DRep.keys rs k2 x hx
/-- an entry of a dict of lists: key, the list's address, its items -/
abbrev Ent := Int × Addr × List D
def kvE (es : List Ent) : List (Key × V) := es.map fun e => (Sum.inl e.1, V.ref e.2.1)
abbrev MD := List (Int × List D)
def mdE (es : List Ent) : MD := es.map fun e => (e.1, e.2.2)
structure DV (K : PySem.W.Frag) (S : Hp) (p : Addr) (es : List Ent) : Prop where
  hp : S p = some (.dK (kvE es))
  ls : ∀ e ∈ es, ∃ xs, S e.2.1 = some (.lst xs) ∧ RepAll K S xs e.2.2 ∧ e.2.2.length ≤ lim
  nk : (es.map fun e => e.1).Nodup
theorem DV.mono {K : PySem.W.Frag} {S S' : Hp} {p : Addr} {es : List Ent} (h : DV K S p es) (s : SameN S S') : DV K S' p es :=
  ⟨s p _ h.hp nt_dK, fun e he => let ⟨xs, a, b, c⟩ := h.ls e he; ⟨xs, s _ _ a nt_lst, b.mono s, c⟩, h.nk⟩
def isX : Sl → Bool
  | .dct _ => true
  | .dfz _ => true
  | .dlf _ => true
  | _ => false
structure SRx (K : PySem.W.Frag) (O L : List Addr) (H : Hp) (σ : St) (ρ : DSt) : Prop where
  dct : ∀ (i : Nat) ks, ρ[i]? = some (some (.dct ks)) → ∃ p o xs, σ[i]? = some (some (.ref p)) ∧ p ∈ L ∧ H p = some (DctO p o xs) ∧ (∃ h, DctR h p o xs) ∧ DRep K (hid O H) xs ks
  dfz : ∀ (i : Nat) ks, ρ[i]? = some (some (.dfz ks)) → ∃ p o xs, σ[i]? = some (some (.ref p)) ∧ hid O H p = some (DctO p o xs) ∧ DRep K (hid O H) xs ks
  uni : ∀ (i j : Nat) ks js, ρ[i]? = some (some (.dct ks)) → ρ[j]? = some (some (.dct js)) → i = j
  dlf : ∀ (i : Nat) m, ρ[i]? = some (some (.dlf m)) → ∃ p es, σ[i]? = some (some (.ref p)) ∧ DV K (hid O H) p es ∧ mdE es = m
theorem nt_dct {p : Addr} {o : Obj} {xs : List (List (Option Int) × Addr)} : NT (DctO p o xs) := fun _ z => by cases z
theorem SRx.map {K : PySem.W.Frag} {O L O' L' : List Addr} {H H' : Hp} {σ σ' : St} {ρ ρ' : DSt} (r : SRx K O L H σ ρ) (hρ : ∀ (i : Nat) s, isX s = true → ρ'[i]? = some (some s) → ρ[i]? = some (some s) ∧ σ'[i]? = σ[i]?)
    (hH : ∀ p o xs, p ∈ L → H p = some (DctO p o xs) → p ∈ L' ∧ H' p = some (DctO p o xs)) (sm : SameN (hid O H) (hid O' H')) : SRx K O' L' H' σ' ρ' where
  dct := fun i ks h => by
    obtain ⟨h1, h2⟩ := hρ i _ rfl h
    obtain ⟨p, o, xs, a, b, c, d, e⟩ := r.dct i ks h1
    obtain ⟨b', c'⟩ := hH p o xs b c
    exact ⟨p, o, xs, by rw [h2]; exact a, b', c', d, e.mono sm⟩
  dfz := fun i ks h => by
    obtain ⟨h1, h2⟩ := hρ i _ rfl h
    obtain ⟨p, o, xs, a, b, c⟩ := r.dfz i ks h1
    exact ⟨p, o, xs, by rw [h2]; exact a, sm p _ b nt_dct, c.mono sm⟩
  uni := fun i j ks js h1 h2 => r.uni i j ks js (hρ i _ rfl h1).1 (hρ j _ rfl h2).1
  dlf := fun i m h => by
    obtain ⟨h1, h2⟩ := hρ i _ rfl h
    obtain ⟨p, es, a, b, c⟩ := r.dlf i m h1
    exact ⟨p, es, by rw [h2]; exact a, b.mono sm, c⟩
theorem SRx.none {K : PySem.W.Frag} {O L : List Addr} {H : Hp} {σ : St} {ρ : DSt} (h : ∀ (i : Nat) s, isX s = true → ρ[i]? = some (some s) → False) : SRx K O L H σ ρ :=
  ⟨fun i ks q => (h i _ rfl q).elim, fun i ks q => (h i _ rfl q).elim, fun i j ks js q _ => (h i _ rfl q).elim, fun i m q => (h i _ rfl q).elim⟩
theorem set_isX {ρ : DSt} {i j : Nat} {t : Option Sl} {s : Sl} (ht : ∀ u, t = some u → isX u = false) (hs : isX s = true) (h : (ρ.set i t)[j]? = some (some s)) : i ≠ j ∧ ρ[j]? = some (some s) := by
  by_cases hj : i = j
  · subst hj
    by_cases hl : i < ρ.length
    · rw [List.getElem?_set_self hl] at h
      cases t with
      | none => cases h
      | some u =>
        cases h
        rw [ht s rfl] at hs; cases hs
    · rw [List.getElem?_eq_none (by simpa using hl)] at h; cases h
  · rw [List.getElem?_set_ne hj] at h
    exact ⟨hj, h⟩
structure SR [Tbs] [ac : Acs] (K : PySem.W.Frag) (O L : List Addr) (H : Hp) (σ : St) (ρ : DSt) : Prop where
  len : σ.length = ρ.length
  dom : Dom O H
  sub : ∀ p ∈ L, p ∈ O
  dat : ∀ (i : Nat) d, ρ[i]? = some (some (.dat d)) → ∃ v, σ[i]? = some (some v) ∧ Rep K (hid O H) v d
  own : ∀ (i : Nat) ds, ρ[i]? = some (some (.own ds)) → ∃ p xs, σ[i]? = some (some (.ref p)) ∧ p ∈ L ∧ H p = some (.lst xs) ∧ RepAll K (hid O H) xs ds ∧ ds.length ≤ lim
  inj : ∀ (i j : Nat) ds es p, ρ[i]? = some (some (.own ds)) → ρ[j]? = some (some (.own es)) → σ[i]? = some (some (.ref p)) → σ[j]? = some (some (.ref p)) → i = j
  act : ∀ i : Nat, ρ[i]? = some (some .act) → σ[i]? = some (some (.ref ac.f))
  ex : SRx K O L H σ ρ
section
variable {K : PySem.W.Frag} {O L : List Addr} {H H' : Hp} {σ : St} {ρ : DSt}
theorem SR.same (r : SR K O L H σ ρ) (s : Same H H') : SR K O L H' σ ρ where
  len := r.len
  dom := r.dom.same s
  sub := r.sub
  dat := fun i d h => let ⟨v, e, q⟩ := r.dat i d h; ⟨v, e, q.mono (hid_same s)⟩
  own := fun i ds h => let ⟨p, xs, e, hp, q, t, l⟩ := r.own i ds h; ⟨p, xs, e, hp, s.lst q, t.mono (hid_same s), l⟩
  inj := r.inj
  act := r.act
  ex := r.ex.map (fun _ _ _ h => ⟨h, rfl⟩) (fun p o xs hp h => ⟨hp, s.n p _ h nt_dct⟩) (hid_same s)
/-- a slot is set to data -/
theorem SR.setDat {v : V} {d : D} (r : SR K O L H σ ρ) (i : Nat) (h : Rep K (hid O H) v d) : SR K O L H (σ.set i (some v)) (ρ.set i (some (.dat d))) where
  len := by rw [List.length_set, List.length_set]; exact r.len
  dom := r.dom
  sub := r.sub
  dat := fun j e q => by
    by_cases hj : i = j
    · subst hj
      by_cases hl : i < ρ.length
      · rw [List.getElem?_set_self hl] at q
        cases q
        exact ⟨v, List.getElem?_set_self (by rw [r.len]; exact hl), h⟩
      · rw [List.getElem?_eq_none (by simpa using hl)] at q; cases q
    · rw [List.getElem?_set_ne hj] at q
      rw [List.getElem?_set_ne hj]
      exact r.dat j e q
  own := fun j ds q => by
    by_cases hj : i = j
    · subst hj
      by_cases hl : i < ρ.length
      · rw [List.getElem?_set_self hl] at q; cases q
      · rw [List.getElem?_eq_none (by simpa using hl)] at q; cases q
    · rw [List.getElem?_set_ne hj] at q
      rw [List.getElem?_set_ne hj]
      exact r.own j ds q
  inj := fun j k ds es p q1 q2 e1 e2 => by
    have ne : ∀ {j : Nat} {ds : List D}, (ρ.set i (some (.dat d)))[j]? = some (some (.own ds)) → i ≠ j := fun {j ds} q z => by
      subst z
      by_cases hl : i < ρ.length
      · rw [List.getElem?_set_self hl] at q; cases q
      · rw [List.getElem?_eq_none (by simpa using hl)] at q; cases q
    have h1 := ne q1
    have h2 := ne q2
    rw [List.getElem?_set_ne h1] at q1 e1
    rw [List.getElem?_set_ne h2] at q2 e2
    exact r.inj j k ds es p q1 q2 e1 e2
  act := fun j q => by
    by_cases hj : i = j
    · subst hj
      by_cases hl : i < ρ.length
      · rw [List.getElem?_set_self hl] at q; cases q
      · rw [List.getElem?_eq_none (by simpa using hl)] at q; cases q
    · rw [List.getElem?_set_ne hj] at q
      rw [List.getElem?_set_ne hj]
      exact r.act j q
  ex := r.ex.map (fun j s hs h => by
    obtain ⟨h1, h2⟩ := set_isX (fun u z => by cases z; rfl) hs h
    exact ⟨h2, List.getElem?_set_ne h1⟩) (fun p o xs hp h => ⟨hp, h⟩) (SameN.refl _)
/-- a slot is forgotten -/
theorem SR.wipe1 (r : SR K O L H σ ρ) (i : Nat) : SR K O L H (σ.set i none) (ρ.set i none) where
  len := by rw [List.length_set, List.length_set]; exact r.len
  dom := r.dom
  sub := r.sub
  dat := fun j e q => by
    by_cases hj : i = j
    · subst hj
      by_cases hl : i < ρ.length
      · rw [List.getElem?_set_self hl] at q; cases q
      · rw [List.getElem?_eq_none (by simpa using hl)] at q; cases q
    · rw [List.getElem?_set_ne hj] at q
      rw [List.getElem?_set_ne hj]
      exact r.dat j e q
  own := fun j e q => by
    by_cases hj : i = j
    · subst hj
      by_cases hl : i < ρ.length
      · rw [List.getElem?_set_self hl] at q; cases q
      · rw [List.getElem?_eq_none (by simpa using hl)] at q; cases q
    · rw [List.getElem?_set_ne hj] at q
      rw [List.getElem?_set_ne hj]
      exact r.own j e q
  inj := fun j k ds es p q1 q2 e1 e2 => by
    have ne : ∀ {j : Nat} {ds : List D}, (ρ.set i none)[j]? = some (some (.own ds)) → i ≠ j := fun {j ds} q z => by
      subst z
      by_cases hl : i < ρ.length
      · rw [List.getElem?_set_self hl] at q; cases q
      · rw [List.getElem?_eq_none (by simpa using hl)] at q; cases q
    have h1 := ne q1
    have h2 := ne q2
    rw [List.getElem?_set_ne h1] at q1 e1
    rw [List.getElem?_set_ne h2] at q2 e2
    exact r.inj j k ds es p q1 q2 e1 e2
  act := fun j q => by
    by_cases hj : i = j
    · subst hj
      by_cases hl : i < ρ.length
      · rw [List.getElem?_set_self hl] at q; cases q
      · rw [List.getElem?_eq_none (by simpa using hl)] at q; cases q
    · rw [List.getElem?_set_ne hj] at q
      rw [List.getElem?_set_ne hj]
      exact r.act j q
  ex := r.ex.map (fun j s hs h => by
    obtain ⟨h1, h2⟩ := set_isX (fun u z => by cases z) hs h
    exact ⟨h2, List.getElem?_set_ne h1⟩) (fun p o xs hp h => ⟨hp, h⟩) (SameN.refl _)
def wipeD (ρ : DSt) : List Nat → DSt
  | [] => ρ
  | v :: vs => (wipeD ρ vs).set v none
theorem SR.wipe (r : SR K O L H σ ρ) : ∀ vs : List Nat, SR K O L H (wipe σ vs) (wipeD ρ vs)
  | [] => r
  | v :: vs => (SR.wipe r vs).wipe1 v
/-- more is owned (by someone else): what is new -/
theorem SR.more {q : Addr} {o : HO} (r : SR K O L H σ ρ) (hq : H q = none) (hn : Pl q o) : SR K (q :: O) L (upd H q o) σ ρ := by
  have sm : SameN (hid O H) (hid (q :: O) (upd H q o)) := fun p u h _ => by
    obtain ⟨n, h⟩ := of_hid h
    have ne : p ≠ q := ne_of_none h hq
    exact hid_get (by simp only [List.mem_cons, not_or]; exact ⟨ne, n⟩) (by rw [upd_ne ne]; exact h)
  refine ⟨r.len, ⟨fun p hp => ?_, (same_upd hq).t r.dom.t, Tbs.mono _ _ sm r.dom.r⟩, fun p hp => List.mem_cons_of_mem _ (r.sub p hp), fun i d h => let ⟨v, e, q⟩ := r.dat i d h; ⟨v, e, q.mono sm⟩, fun i ds h => ?_, r.inj, r.act, r.ex.map (fun _ _ _ h => ⟨h, rfl⟩) (fun p u xs hp h => ⟨hp, by rw [upd_ne (ne_of_none h hq)]; exact h⟩) sm⟩
  · rcases List.mem_cons.mp hp with e | hp
    · rw [e]; exact ⟨o, upd_same, hn⟩
    · by_cases e : p = q
      · rw [e]; exact ⟨o, upd_same, hn⟩
      · rw [upd_ne e]; exact r.dom.d p hp
  · obtain ⟨p, xs, e, hp, q1, t, l⟩ := r.own i ds h
    exact ⟨p, xs, e, hp, by rw [upd_ne (ne_of_none q1 hq)]; exact q1, t.mono sm, l⟩
end
end Sw
/-! ## t * 1 -/
namespace Sw
open PySem L2 PyProof.Rows
theorem mul_once (l : Addr) (items : Array Value) (n : Nat) (dd : Option Addr) (sl : Array (Option Value)) (u : Tok) :
    Meets (Builtin.«tuple.__mul__» ⟨[.ref l, .int 1 u], []⟩) (fun _ R s => s.heap.get? l = some { cls := .type "tuple", dict := dd, data := .seq items n, slots := sl } ∧ R (.ok (.ret (.ref l))) s) :=
  .of_wp fun prog w A R s h => by
    obtain ⟨hp, g, d, tk, os⟩ := s
    obtain ⟨hl, h⟩ := h
    have f1 := AutoSeq1.idx_int
    wp_walk using wpAny_loadPart' hl
    all_goals exact ⟨_, rfl, h⟩
def rRep1 (K : PySem.W.Frag) : R2 := fun x y H Q => ∃ l xs, x = .ref l ∧ y = .int 1 ∧ SqT K H l xs ∧ Q (.ref l) H
theorem op_rep1 {X : Cx} : OpR X (binaryOp .Mult) (rRep1 X.K) := by
  intro pins s σ H x y v u Q I rx ry h
  obtain ⟨l, xs, rfl, rfl, hT, q⟩ := h
  cases rx
  obtain ⟨t, rfl⟩ := ry
  obtain ⟨its, r, ⟨⟨cls, dd, data, sl⟩, ho, hc, n, hd⟩, hs⟩ := I.tuple hT
  simp only at hc hd
  subst hc hd
  refine wpAny_binaryOp_repeat_ref (T := "tuple") (U := "int") (by decide) ⟨_, ho, rfl⟩ (fun s' => typeIs_int s' 1 t) noFill_tuple_mul F.fills_int_mul F.slot_int_rmul repeat_tuple F.slot_int_index.lookup
    (call_meets F.slot_int_rmul (typeIs_int s 1 t) F.entry_int_rmul (F.args_int_rmul_2 _ _) (int_rmul_tuple 1 t l its.toArray n dd sl)
      ⟨ho, rfl, ⟨_, ho, rfl⟩, call_meets F.slot_tuple_mul ⟨_, ho, rfl⟩ F.entry_tuple_mul (F.args_tuple_mul_2 _ _) (mul_once l its.toArray n dd sl t) ⟨ho, ?_⟩⟩)
  exact ⟨.ref l, H, I, rfl, q⟩
end Sw
/-! ## operations on data -/
namespace Sw
open PySem L2
variable [Tbs] [Acs]
mutual
def D.toPy : D → PyData
  | .non => .none
  | .bl b => .bool b
  | .int i => .int i
  | .str x => .str x
  | .tup ds => .tuple (toPys ds)
  | .lst ds => .list (toPys ds)
  | .scr ns => .list (ns.map PyData.int)
def toPys : List D → List PyData
  | [] => []
  | d :: ds => d.toPy :: toPys ds
end
def deq (a b : D) : Bool := PyData.eqv a.toPy b.toPy
def deqs (a b : List D) : Bool := PyData.eqvAll (toPys a) (toPys b)
def dep (a : D) : Nat := a.toPy.depth
def deps (a : List D) : Nat := PyData.depthAll (toPys a)

section
variable {K : PySem.W.Frag} {H : Hp}
theorem dpAll_ints : ∀ ns : List Int, DpAll K H (ns.map V.int) (ns.map PyData.int)
  | [] => .nil
  | n :: ns => .cons (.int n) (dpAll_ints ns)
mutual
theorem Rep.dp : ∀ {v : V} {d : D}, Rep K H v d → Dp K H v d.toPy
  | _, _, .non => .non
  | _, _, .bl b => .bl b
  | _, _, .int i => .int i
  | _, _, .str x _ => .str x
  | _, _, .tup q r _ => .tup q (RepAll.dp r)
  | _, _, .lst q r _ => .lst (.of q) (RepAll.dp r)
  | _, _, .scr q _ => .lst q (dpAll_ints _)
theorem RepAll.dp : ∀ {vs : List V} {ds : List D}, RepAll K H vs ds → DpAll K H vs (toPys ds)
  | _, _, .nil => .nil
  | _, _, .cons r rs => .cons (Rep.dp r) (RepAll.dp rs)
end
theorem canInts : ∀ ns : List Int, PyData.canLayAll0 (ns.map PyData.int) = true
  | [] => rfl
  | n :: ns => by
    show (PyData.canLay0 (.int n) && PyData.canLayAll0 (ns.map PyData.int)) = true
    rw [canInts ns]; rfl
mutual
theorem Rep.can : ∀ {v : V} {d : D}, Rep K H v d → d.toPy.canLay0 = true
  | _, _, .non => rfl
  | _, _, .bl b => rfl
  | _, _, .int i => rfl
  | _, _, .str x h => by
    show PyData.strOk x = true
    unfold sOk at h
    exact (Bool.and_eq_true_iff.mp h).1
  | _, _, .tup q r _ => RepAll.can r
  | _, _, .lst q r _ => RepAll.can r
  | _, _, .scr q _ => canInts _
theorem RepAll.can : ∀ {vs : List V} {ds : List D}, RepAll K H vs ds → PyData.canLayAll0 (toPys ds) = true
  | _, _, .nil => rfl
  | _, _, .cons r rs => by
    show (PyData.canLay0 _ && PyData.canLayAll0 _) = true
    rw [Rep.can r, RepAll.can rs]; rfl
end
end

/-! ### what an operation on data promises -/
/-- the end of an operation that gives d -/
def Gives (K : PySem.W.Frag) (O : List Addr) (H : Hp) (d : D) (Q : VK) : Prop := ∀ v H', Same H H' → Rep K (hid O H') v d → Q v H'
theorem Gives.here {K : PySem.W.Frag} {O : List Addr} {H : Hp} {d : D} {Q : VK} {v : V} (g : Gives K O H d Q) (r : Rep K (hid O H) v d) : Q v H := g v H (Same.refl H) r
theorem Gives.after {K : PySem.W.Frag} {O : List Addr} {H H' : Hp} {d : D} {Q : VK} (g : Gives K O H d Q) (s : Same H H') : Gives K O H' d Q := fun v H2 s2 r => g v H2 (s.trans s2) r
theorem Gives.tup {K : PySem.W.Frag} {O : List Addr} {H : Hp} {ds : List D} {xs : List V} {Q : VK} (g : Gives K O H (.tup ds) Q) (hO : Dom O H) (r : RepAll K (hid O H) xs ds) (hl : ds.length ≤ lim) {p : Addr} (hp : H p = none) : Q (.ref p) (upd H p (.tup xs)) :=
  g _ _ (same_upd hp) (.tup (.of (hid_new hO hp)) (r.mono (hid_same (same_upd hp))) hl)
theorem Gives.lst {K : PySem.W.Frag} {O : List Addr} {H : Hp} {ds : List D} {xs : List V} {Q : VK} (g : Gives K O H (.lst ds) Q) (hO : Dom O H) (r : RepAll K (hid O H) xs ds) (hl : ds.length ≤ lim) {p : Addr} (hp : H p = none) : Q (.ref p) (upd H p (.lst xs)) :=
  g _ _ (same_upd hp) (.lst (hid_new hO hp) (r.mono (hid_same (same_upd hp))) hl)

def r2D (K : PySem.W.Frag) (f : D → D → Option D) : R2 := fun x y H Q => ∃ O a b d, Dom O H ∧ Rep K (hid O H) x a ∧ Rep K (hid O H) y b ∧ f a b = some d ∧ Gives K O H d Q
def r1D (K : PySem.W.Frag) (f : D → Option D) : V → Hp → VK → Prop := fun x H Q => ∃ O a d, Dom O H ∧ Rep K (hid O H) x a ∧ f a = some d ∧ Gives K O H d Q
def rsD (K : PySem.W.Frag) (f : List D → Option D) : List V → Hp → VK → Prop := fun xs H Q => ∃ O as d, Dom O H ∧ RepAll K (hid O H) xs as ∧ f as = some d ∧ Gives K O H d Q
section
variable {X : Cx}
theorem OpR.imp {f : Value → Value → Sem Value} {r r' : R2} (h : OpR X f r) (i : ∀ x y H Q, r' x y H Q → r x y H Q) : OpR X f r' := fun pins s σ H x y v u Q I rx ry q => h pins s σ H x y v u Q I rx ry (i x y H Q q)
theorem CallR.imp {f : Value} {r r' : List V → Hp → VK → Prop} (h : CallR X f r) (i : ∀ xs H Q, r' xs H Q → r xs H Q) : CallR X f r' := fun pins s σ H xs us Q I rx q => h pins s σ H xs us Q I rx (i xs H Q q)

/-! ### + - * // % ** -/
def addD : D → D → Option D
  | .int i, .int j => some (.int (i + j))
  | .str x, .str y => if sOk (x ++ y) = true then some (.str (x ++ y)) else none
  | .tup a, .tup b => if a.length + b.length ≤ lim then some (.tup (a ++ b)) else none
  | .lst a, .lst b => if a.length + b.length ≤ lim then some (.lst (a ++ b)) else none
  | _, _ => none
theorem lim_le {n : Nat} (h : n ≤ lim) : n ≤ sizeLine := by rw [sizeLine_eq]; unfold lim at h; omega
theorem lim_lt {n : Nat} (h : n ≤ lim) : n < sizeLine := by rw [sizeLine_eq]; unfold lim at h; omega
theorem sOk_len {x : Str} (h : sOk x = true) : x.length ≤ lim := by
  unfold sOk at h
  exact of_decide_eq_true (Bool.and_eq_true_iff.mp h).2
theorem str_len_append (x y : Str) : (x ++ y).length = x.length + y.length := by
  show (x.cps ++ y.cps).size = _
  rw [Array.size_append]; rfl
theorem op_addD : OpR X (binaryOp .Add) (r2D X.K addD) := by
  refine OpR.imp (op_add.or (op_add_str.or (op_catA.or op_cat))) fun x y H Q h => ?_
  obtain ⟨O, a, b, d, hO, ra, rb, e, g⟩ := h
  cases ra <;> cases rb <;> try (cases e; done)
  case int.int i j =>
    cases e
    exact .inl ⟨i, j, rfl, rfl, g.here (.int _)⟩
  case str.str x hx y hy =>
    simp only [addD] at e
    split at e
    · rename_i hz
      cases e
      refine .inr (.inl ⟨x, y, rfl, rfl, ?_, g.here (.str _ hz)⟩)
      have := sOk_len hz
      rw [str_len_append] at this
      exact lim_le this
    · cases e
  case tup.tup pa xs as ha ra la pb ys bs hb rb lb =>
    simp only [addD] at e
    split at e
    · rename_i hz
      cases e
      have l1 := ra.length
      have l2 := rb.length
      refine .inr (.inr (.inl ⟨pa, pb, xs, ys, rfl, rfl, same_sqT hid_le ha, same_sqT hid_le hb, lim_le (by omega), fun e0 => ?_, fun _ e0 => ?_, fun _ _ p hp => ?_⟩))
      · subst e0
        cases ra
        exact g.here (.tup hb rb lb)
      · subst e0
        cases rb
        rw [List.append_nil] at g
        exact g.here (.tup ha ra la)
      · exact g.tup hO (ra.append rb) (by rw [List.length_append]; exact hz) hp
    · cases e
  case lst.lst pa xs as ha ra la pb ys bs hb rb lb =>
    simp only [addD] at e
    split at e
    · rename_i hz
      cases e
      have l1 := ra.length
      have l2 := rb.length
      exact .inr (.inr (.inr ⟨pa, pb, xs, ys, rfl, rfl, hid_le.lst ha, hid_le.lst hb, lim_le (by omega), fun p hp => g.lst hO (ra.append rb) (by rw [List.length_append]; exact hz) hp⟩))
    · cases e
def subD : D → D → Option D
  | .int i, .int j => some (.int (i - j))
  | _, _ => none
theorem op_subD : OpR X (binaryOp .Sub) (r2D X.K subD) := by
  refine OpR.imp op_sub fun x y H Q h => ?_
  obtain ⟨O, a, b, d, hO, ra, rb, e, g⟩ := h
  cases ra <;> cases rb <;> try (cases e; done)
  case int.int i j =>
    cases e
    exact ⟨i, j, rfl, rfl, g.here (.int _)⟩
def mulD : D → D → Option D
  | .int i, .int j => if (-(2 ^ 64) < i ∧ i < 2 ^ 64) ∨ (-(2 ^ 64) < j ∧ j < 2 ^ 64) then some (.int (i * j)) else none
  | .tup a, .int k => if k = 1 then some (.tup a) else if 2 ≤ k ∧ k ≤ 1000 ∧ a ≠ [] ∧ a.length ≤ 1000 then some (.tup (List.replicate k.toNat a).flatten) else none
  | _, _ => none
theorem RepAll.rep {K : PySem.W.Frag} {H : Hp} {xs : List V} {ds : List D} (h : RepAll K H xs ds) : ∀ k : Nat, RepAll K H (List.replicate k xs).flatten (List.replicate k ds).flatten
  | 0 => .nil
  | k + 1 => by
    rw [List.replicate_succ, List.replicate_succ, List.flatten_cons, List.flatten_cons]
    exact h.append (RepAll.rep h k)
theorem flat_len {α : Type} (a : List α) : ∀ k : Nat, (List.replicate k a).flatten.length = k * a.length
  | 0 => by simp
  | k + 1 => by rw [List.replicate_succ, List.flatten_cons, List.length_append, flat_len a k, Nat.succ_mul]; omega
instance (a : List D) : Decidable (a ≠ []) := by cases a <;> simp <;> infer_instance
theorem op_mulD : OpR X (binaryOp .Mult) (r2D X.K mulD) := by
  refine OpR.imp (op_mul.or (op_repT.or op_rep1)) fun x y H Q h => ?_
  obtain ⟨O, a, b, d, hO, ra, rb, e, g⟩ := h
  cases ra <;> cases rb <;> try (cases e; done)
  case int.int i j =>
    simp only [mulD] at e
    split at e
    · rename_i hz
      cases e
      exact .inl ⟨i, j, rfl, rfl, hz, g.here (.int _)⟩
    · cases e
  case tup.int pa xs as ha ra la k =>
    simp only [mulD] at e
    split at e
    · rename_i hz
      cases e
      subst hz
      exact .inr (.inr ⟨pa, xs, rfl, rfl, same_sqT hid_le ha, g.here (.tup ha ra la)⟩)
    split at e
    · rename_i hz
      cases e
      have l1 := ra.length
      obtain ⟨h2, h3, h4, h5⟩ := hz
      refine .inr (.inl ⟨pa, k, xs, rfl, rfl, same_sqT hid_le ha, ?_, h2, h3, by omega, fun p hp => g.tup hO (ra.rep _) ?_ hp⟩)
      · intro z
        subst z
        cases ra
        exact h4 rfl
      · rw [flat_len]
        have h6 : k.toNat ≤ 1000 := by omega
        have := Nat.mul_le_mul h6 h5
        exact Nat.le_trans this (by decide)
    · cases e
def fdivD : D → D → Option D
  | .int i, .int j => if 0 < j ∧ j < 1073741824 then some (.int (i / j)) else none
  | _, _ => none
theorem op_fdivD : OpR X (binaryOp .FloorDiv) (r2D X.K fdivD) := by
  refine OpR.imp op_fdiv fun x y H Q h => ?_
  obtain ⟨O, a, b, d, hO, ra, rb, e, g⟩ := h
  cases ra <;> cases rb <;> try (cases e; done)
  case int.int i j =>
    simp only [fdivD] at e
    split at e
    · rename_i hz
      cases e
      exact ⟨i, j, rfl, rfl, hz, g.here (.int _)⟩
    · cases e
def modD : D → D → Option D
  | .int i, .int j => if 0 < j then some (.int (i % j)) else none
  | _, _ => none
theorem op_modD : OpR X (binaryOp .Mod) (r2D X.K modD) := by
  refine OpR.imp op_mod fun x y H Q h => ?_
  obtain ⟨O, a, b, d, hO, ra, rb, e, g⟩ := h
  cases ra <;> cases rb <;> try (cases e; done)
  case int.int i j =>
    simp only [modD] at e
    split at e
    · rename_i hz
      cases e
      exact ⟨i, j, rfl, rfl, hz, g.here (.int _)⟩
    · cases e
def powD : D → D → Option D
  | .int i, .int j => if 0 ≤ j ∧ j ≤ 1000 ∧ i.natAbs < 2 ^ 64 then some (.int (i ^ j.toNat)) else none
  | _, _ => none
theorem op_powD : OpR X (binaryOp .Pow) (r2D X.K powD) := by
  refine OpR.imp op_pow fun x y H Q h => ?_
  obtain ⟨O, a, b, d, hO, ra, rb, e, g⟩ := h
  cases ra <;> cases rb <;> try (cases e; done)
  case int.int i j =>
    simp only [powD] at e
    split at e
    · rename_i hz
      cases e
      exact ⟨i, j, rfl, rfl, ⟨hz.1, by omega, hz.2.2⟩, g.here (.int _)⟩
    · cases e
def binD : Operator → D → D → Option D
  | .Add => addD
  | .Sub => subD
  | .Mult => mulD
  | .FloorDiv => fdivD
  | .Mod => modD
  | .Pow => powD
  | _ => fun _ _ => none
theorem op_binD (op : Operator) : OpR X (binaryOp op) (r2D X.K (binD op)) := by
  cases op
  case Add => exact op_addD
  case Sub => exact op_subD
  case Mult => exact op_mulD
  case FloorDiv => exact op_fdivD
  case Mod => exact op_modD
  case Pow => exact op_powD
  all_goals
    intro pins s σ H x y v u Q I rx ry h
    obtain ⟨O, a, b, d, hO, ra, rb, e, g⟩ := h
    cases e

/-! ### comparisons -/
def eqD (a b : D) : Option D := if min (dep a) (dep b) ≤ 150 then some (.bl (deq a b)) else none
def neD (a b : D) : Option D := if min (dep a) (dep b) ≤ 150 then some (.bl (!deq a b)) else none
theorem op_eqD' (hu : X.A.units + 200 < cLine) : OpR X (compareOp .Eq) (r2D X.K eqD) := by
  intro pins s σ H x y v u Q I rx ry h
  obtain ⟨O, a, b, d, hO, ra, rb, e, g⟩ := h
  obtain ⟨as, r1⟩ := Dp.reads I _ x v (ra.mono hid_le).dp rx
  obtain ⟨bs, r2⟩ := Dp.reads I _ y u (rb.mono hid_le).dp ry
  unfold eqD at e
  split at e
  · rename_i hz
    cases e
    exact SeqAt.compareEq_reads r1 r2 ra.can rb.can (by unfold dep at hz; omega) ⟨.bl _, H, I, rfl, g.here (.bl _)⟩
  · cases e
theorem op_neD' (hu : X.A.units + 200 < cLine) : OpR X (compareOp .NotEq) (r2D X.K neD) := by
  intro pins s σ H x y v u Q I rx ry h
  obtain ⟨O, a, b, d, hO, ra, rb, e, g⟩ := h
  obtain ⟨as, r1⟩ := Dp.reads I _ x v (ra.mono hid_le).dp rx
  obtain ⟨bs, r2⟩ := Dp.reads I _ y u (rb.mono hid_le).dp ry
  unfold neD at e
  split at e
  · rename_i hz
    cases e
    exact SeqAt.compareNe_reads r1 r2 ra.can rb.can (by unfold dep at hz; omega) ⟨.bl _, H, I, rfl, g.here (.bl _)⟩
  · cases e
def cmpI (p : Int → Int → Bool) : D → D → Option D
  | .int i, .int j => some (.bl (p i j))
  | _, _ => none
theorem op_cmpI {op : CmpOp} {p : Int → Int → Bool} (h : OpR X (compareOp op) (rI0 fun i j => .bl (p i j))) : OpR X (compareOp op) (r2D X.K (cmpI p)) := by
  refine OpR.imp h fun x y H Q h => ?_
  obtain ⟨O, a, b, d, hO, ra, rb, e, g⟩ := h
  cases ra <;> cases rb <;> try (cases e; done)
  case int.int i j =>
    cases e
    exact ⟨i, j, rfl, rfl, g.here (.bl _)⟩
def itemsD : D → Option (List D)
  | .tup ds => some ds
  | .lst ds => some ds
  | _ => none
def inD (neg : Bool) (a b : D) : Option D := match b with
  | .tup ds => if min (deps ds) (dep a) ≤ 150 then some (.bl (if neg then !ds.any (fun z => deq z a) else ds.any fun z => deq z a)) else none
  | .lst ds => if min (deps ds) (dep a) ≤ 150 then some (.bl (if neg then !ds.any (fun z => deq z a) else ds.any fun z => deq z a)) else none
  | _ => none
theorem any_toPys (a : D) : ∀ ds : List D, ((toPys ds).any fun y => PyData.eqv y a.toPy) = ds.any fun z => deq z a
  | [] => rfl
  | d :: ds => by
    show (PyData.eqv d.toPy a.toPy || (toPys ds).any fun y => PyData.eqv y a.toPy) = _
    rw [any_toPys a ds]; rfl
theorem op_inD' (hu : X.A.units + 200 < cLine) : OpR X (compareOp .In) (r2D X.K (inD false)) := by
  intro pins s σ H x y v u Q I rx ry h
  obtain ⟨O, a, b, d, hO, ra, rb, e, g⟩ := h
  obtain ⟨as, r1⟩ := Dp.reads I _ x v (ra.mono hid_le).dp rx
  obtain ⟨bs, r2⟩ := Dp.reads I _ y u (rb.mono hid_le).dp ry
  unfold inD at e
  split at e
  · rename_i ds
    split at e
    · rename_i hz
      cases e
      refine SeqAt.in_tuple_reads r2 r1 rb.can ra.can (by unfold dep deps at hz; omega) ⟨.bl _, H, I, rfl, ?_⟩
      rw [any_toPys]; exact g.here (.bl _)
    · cases e
  · rename_i ds
    split at e
    · rename_i hz
      cases e
      refine SeqAt.in_list_reads r2 r1 rb.can ra.can (by unfold dep deps at hz; omega) ⟨.bl _, H, I, rfl, ?_⟩
      rw [any_toPys]; exact g.here (.bl _)
    · cases e
  · cases e
theorem op_notInD' (hu : X.A.units + 200 < cLine) : OpR X (compareOp .NotIn) (r2D X.K (inD true)) := by
  intro pins s σ H x y v u Q I rx ry h
  obtain ⟨O, a, b, d, hO, ra, rb, e, g⟩ := h
  obtain ⟨as, r1⟩ := Dp.reads I _ x v (ra.mono hid_le).dp rx
  obtain ⟨bs, r2⟩ := Dp.reads I _ y u (rb.mono hid_le).dp ry
  unfold inD at e
  split at e
  · rename_i ds
    split at e
    · rename_i hz
      cases e
      refine SeqAt.notIn_tuple_reads r2 r1 rb.can ra.can (by unfold dep deps at hz; omega) ⟨.bl _, H, I, rfl, ?_⟩
      rw [any_toPys]; exact g.here (.bl _)
    · cases e
  · rename_i ds
    split at e
    · rename_i hz
      cases e
      refine SeqAt.notIn_list_reads r2 r1 rb.can ra.can (by unfold dep deps at hz; omega) ⟨.bl _, H, I, rfl, ?_⟩
      rw [any_toPys]; exact g.here (.bl _)
    · cases e
  · cases e
/-- is None, is True, is False -/
def isNon : D → Bool
  | .non => true
  | _ => false
def isD (neg : Bool) : D → D → Option D
  | a, .non => some (.bl (bif neg then !isNon a else isNon a))
  | .bl a, .bl b => some (.bl (if neg then !decide (a = b) else decide (a = b)))
  | _, _ => none
theorem op_isD : OpR X (compareOp .Is) (r2D X.K (isD false)) := by
  refine OpR.imp (op_isN.or op_is_bl) fun x y H Q h => ?_
  obtain ⟨O, a, b, d, hO, ra, rb, e, g⟩ := h
  cases rb
  case non =>
    refine .inl ⟨rfl, ?_⟩
    cases e
    cases ra <;> exact g.here (.bl _)
  case bl b =>
    cases ra <;> try (cases e; done)
    cases e
    exact .inr ⟨_, b, rfl, rfl, g.here (.bl _)⟩
  all_goals (cases ra <;> cases e)
theorem op_isNotD : OpR X (compareOp .IsNot) (r2D X.K (isD true)) := by
  refine OpR.imp (op_notN.or op_isnot_bl) fun x y H Q h => ?_
  obtain ⟨O, a, b, d, hO, ra, rb, e, g⟩ := h
  cases rb
  case non =>
    refine .inl ⟨rfl, ?_⟩
    cases e
    cases ra <;> exact g.here (.bl _)
  case bl b =>
    cases ra <;> try (cases e; done)
    cases e
    exact .inr ⟨_, b, rfl, rfl, g.here (.bl _)⟩
  all_goals (cases ra <;> cases e)
def cmpD : CmpOp → D → D → Option D
  | .Eq => eqD
  | .NotEq => neD
  | .Lt => cmpI fun i j => decide (i < j)
  | .LtE => cmpI fun i j => decide (i ≤ j)
  | .Gt => cmpI fun i j => decide (j < i)
  | .GtE => cmpI fun i j => decide (j ≤ i)
  | .Is => isD false
  | .IsNot => isD true
  | .In => inD false
  | .NotIn => inD true
theorem op_cmpD (hu : X.A.units + 200 < cLine) (op : CmpOp) : OpR X (compareOp op) (r2D X.K (cmpD op)) := by
  cases op
  case Eq => exact op_eqD' hu
  case NotEq => exact op_neD' hu
  case Lt => exact op_cmpI op_lt
  case LtE => exact op_cmpI op_le
  case Gt => exact op_cmpI op_gt
  case GtE => exact op_cmpI op_ge
  case Is => exact op_isD
  case IsNot => exact op_isNotD
  case In => exact op_inD' hu
  case NotIn => exact op_notInD' hu
theorem inD_bl {neg : Bool} {a b d : D} (h : inD neg a b = some d) : ∃ k, d = .bl k := by
  cases b <;> simp only [inD] at h <;> first | (split at h <;> cases h; exact ⟨_, rfl⟩) | cases h
theorem cmpD_bl {op : CmpOp} {a b d : D} (h : cmpD op a b = some d) : ∃ k, d = .bl k := by
  cases op <;> simp only [cmpD] at h
  case Eq => unfold eqD at h; split at h <;> cases h; exact ⟨_, rfl⟩
  case NotEq => unfold neD at h; split at h <;> cases h; exact ⟨_, rfl⟩
  case Is => unfold isD at h; split at h <;> cases h <;> exact ⟨_, rfl⟩
  case IsNot => unfold isD at h; split at h <;> cases h <;> exact ⟨_, rfl⟩
  case In => exact inD_bl h
  case NotIn => exact inD_bl h
  all_goals (unfold cmpI at h; split at h <;> cases h; exact ⟨_, rfl⟩)
end
end Sw
/-! ## subscripts, slices, built-in calls, truth, on data -/
namespace Sw
open PySem L2
variable [Tbs] [Acs]
section
variable {X : Cx}
theorem IxR.imp {r r' : R2} (h : IxR X r) (i : ∀ x y H Q, r' x y H Q → r x y H Q) : IxR X r' := fun va sl pins s σ H x y v u Q I rx ry q hs => h va sl pins s σ H x y v u Q I rx ry (i x y H Q q) hs
def ixD : D → D → Option D
  | .tup ds, .int i => atI ds i
  | .lst ds, .int i => atI ds i
  | .scr ns, .int i => (atI ns i).map D.int
  | .str x, .int i => (atI x.cps.toList i).map fun c => .str ⟨#[c]⟩
  | _, _ => none
theorem RepAll.atI {K : PySem.W.Frag} {H : Hp} {xs : List V} {ds : List D} {i : Int} {d : D} (h : RepAll K H xs ds) (e : atI ds i = some d) : ∃ v, L2.atI xs i = some v ∧ Rep K H v d := by
  unfold L2.atI at e ⊢
  rw [h.length]
  cases q : ixN ds.length i with
  | none => rw [q] at e; cases e
  | some j =>
    rw [q] at e
    exact h.get e
theorem sOk_one {x : Str} {i : Int} {c : Nat} (h : sOk x = true) (e : L2.atI x.cps.toList i = some c) : sOk ⟨#[c]⟩ = true := by
  obtain ⟨j, _, hj, _, _, _⟩ := atI_get e
  have hm : c ∈ x.cps := by
    have := List.mem_of_getElem? hj
    simpa using this
  unfold sOk at h ⊢
  have h1 := (Bool.and_eq_true_iff.mp h).1
  unfold PyData.strOk at h1 ⊢
  rw [Array.all_eq_true_iff_forall_mem] at h1
  have h2 := h1 c hm
  refine Bool.and_eq_true_iff.mpr ⟨?_, decide_eq_true (show 1 ≤ lim by decide)⟩
  simpa using h2
theorem ix_D : IxR X (r2D X.K ixD) := by
  refine IxR.imp (ix_list.or (ix_tup.or ix_str)) fun x y H Q h => ?_
  obtain ⟨O, a, b, d, hO, ra, rb, e, g⟩ := h
  cases rb <;> try (cases ra <;> cases e; done)
  case int i =>
    cases ra <;> try (cases e; done)
    case tup pa xs as ha ra la =>
      obtain ⟨v, h1, h2⟩ := ra.atI e
      exact .inr (.inl ⟨pa, xs, i, v, rfl, rfl, same_sqT hid_le ha, h1, g.here h2⟩)
    case lst pa xs as ha ra la =>
      obtain ⟨v, h1, h2⟩ := ra.atI e
      exact .inl ⟨pa, xs, i, v, rfl, rfl, .of (hid_le.lst ha), h1, g.here h2⟩
    case scr pa ns ha la =>
      simp only [ixD] at e
      cases q : L2.atI ns i with
      | none => rw [q] at e; cases e
      | some n =>
        rw [q] at e
        cases e
        have e1 : L2.atI (ns.map V.int) i = some (.int n) := by
          unfold L2.atI at q ⊢
          rw [List.length_map]
          cases q2 : ixN ns.length i with
          | none => rw [q2] at q; cases q
          | some j =>
            rw [q2] at q
            show (ns.map V.int)[j]? = _
            rw [List.getElem?_map, show ns[j]? = some n from q]
            rfl
        exact .inl ⟨pa, _, i, .int n, rfl, rfl, (hid_le (O := O) (H := H)).seq ha, e1, g.here (.int _)⟩
    case str x hx =>
      simp only [ixD] at e
      cases q : L2.atI x.cps.toList i with
      | none => rw [q] at e; cases e
      | some c =>
        rw [q] at e
        cases e
        exact .inr (.inr ⟨x, i, c, rfl, rfl, lim_le (sOk_len hx), q, g.here (.str _ (sOk_one hx q))⟩)

/-! ### slices -/
def cutD (ds : List D) (lo hi : Option Int) : List D := (ds.drop (HT.sIx ds.length 0 lo)).take (HT.sIx ds.length ds.length hi - HT.sIx ds.length 0 lo)
def sliceD : D → Option Int → Option Int → Option D
  | .tup ds, lo, hi => some (.tup (cutD ds lo hi))
  | .lst ds, lo, hi => some (.lst (cutD ds lo hi))
  | .str x, lo, hi => if sOk (cutS x lo hi) = true then some (.str (cutS x lo hi)) else none
  | _, _, _ => none
theorem cutD_length (xs : List D) (lo hi : Option Int) : (cutD xs lo hi).length ≤ xs.length := by
  unfold cutD
  rw [List.length_take, List.length_drop]
  omega
theorem RepAll.cut {K : PySem.W.Frag} {H : Hp} {xs : List V} {ds : List D} (h : RepAll K H xs ds) (lo hi : Option Int) : RepAll K H (cutV xs lo hi) (cutD ds lo hi) := by
  unfold cutV cutD
  rw [h.length]
  exact (h.drop _).take _
def rSlD (K : PySem.W.Frag) : V → Option Int → Option Int → Hp → VK → Prop := fun x lo hi H Q => ∃ O a d, Dom O H ∧ Rep K (hid O H) x a ∧ sliceD a lo hi = some d ∧ Gives K O H d Q
theorem sl_D : SlR X (rSlD X.K) := by
  have base := ((sl_tupA (X := X)).or (sl_list (X := X))).or (sl_str (X := X))
  intro pins s σ H x v vl vu lo hi sl Q I rx hs pl pu h
  refine base pins s σ H x v vl vu lo hi sl Q I rx hs pl pu ?_
  obtain ⟨O, a, d, hO, ra, e, g⟩ := h
  cases ra <;> try (cases e; done)
  case tup pa xs as ha ra la =>
    cases e
    refine .inl (.inl ⟨pa, xs, rfl, same_sqT hid_le ha, fun hw => ?_, fun hw p hp => ?_⟩)
    · have l1 := ra.length
      have e1 : cutD as lo hi = as := by
        unfold cutD
        rw [← l1, hw.1, hw.2, List.drop_zero, Nat.sub_zero, l1, List.take_length]
      rw [e1] at g
      exact g.here (.tup ha ra la)
    · exact g.tup hO (ra.cut lo hi) (Nat.le_trans (cutD_length _ _ _) la) hp
  case lst pa xs as ha ra la =>
    cases e
    exact .inl (.inr ⟨pa, xs, rfl, .of (hid_le.lst ha), fun p hp => g.lst hO (ra.cut lo hi) (Nat.le_trans (cutD_length _ _ _) la) hp⟩)
  case str x hx =>
    simp only [sliceD] at e
    split at e
    · rename_i c
      cases e
      exact .inr ⟨x, rfl, lim_le (sOk_len hx), g.here (.str _ c)⟩
    · cases e

/-! ### truth -/
def truthD : D → Bool
  | .non => false
  | .bl b => b
  | .int i => i != 0
  | .str x => (x.length : Int) != 0
  | .tup ds => !ds.isEmpty
  | .lst ds => !ds.isEmpty
  | .scr ns => !ns.isEmpty
theorem isEmpty_rep {K : PySem.W.Frag} {H : Hp} {xs : List V} {ds : List D} (h : RepAll K H xs ds) : ds.isEmpty = xs.isEmpty := by cases h <;> rfl
theorem Rep.tru {K : PySem.W.Frag} {H : Hp} {v : V} {d : D} (h : Rep K H v d) : TruV K v H (truthD d) := by
  cases h
  case non => rfl
  case bl => rfl
  case int => rfl
  case str x hx => exact ⟨lim_le (sOk_len hx), rfl⟩
  case tup ha ra _ => exact .inr (.inl ⟨_, ha, by simp only [truthD]; rw [isEmpty_rep ra]⟩)
  case lst ha ra _ => exact .inl ⟨_, .of ha, by simp only [truthD]; rw [isEmpty_rep ra]⟩
  case scr ns ha _ => exact .inl ⟨_, ha, by unfold truthD; cases ns <;> rfl⟩

/-! ### calls -/
def one (f : D → Option D) : List D → Option D
  | [a] => f a
  | _ => none
def two (f : D → D → Option D) : List D → Option D
  | [a, b] => f a b
  | _ => none
theorem one_inv {f : D → Option D} {as : List D} {d : D} (h : one f as = some d) : ∃ a, as = [a] ∧ f a = some d := by
  match as, h with
  | [a], h => exact ⟨a, rfl, h⟩
theorem two_inv {f : D → D → Option D} {as : List D} {d : D} (h : two f as = some d) : ∃ a b, as = [a, b] ∧ f a b = some d := by
  match as, h with
  | [a, b], h => exact ⟨a, b, rfl, h⟩
theorem RepAll.one {K : PySem.W.Frag} {H : Hp} {xs : List V} {a : D} (h : RepAll K H xs [a]) : ∃ x, xs = [x] ∧ Rep K H x a := by
  cases h with
  | cons r rs => cases rs; exact ⟨_, rfl, r⟩
theorem RepAll.two {K : PySem.W.Frag} {H : Hp} {xs : List V} {a b : D} (h : RepAll K H xs [a, b]) : ∃ x y, xs = [x, y] ∧ Rep K H x a ∧ Rep K H y b := by
  cases h with
  | cons r rs => obtain ⟨y, rfl, q⟩ := rs.one; exact ⟨_, _, rfl, r, q⟩
def lenD : D → Option D
  | .tup ds => some (.int ds.length)
  | .lst ds => some (.int ds.length)
  | .scr ns => some (.int ns.length)
  | .str x => some (.int x.length)
  | _ => none
theorem call_lenD' : CallR X (.builtin "len") (rsD X.K (one lenD)) := by
  refine CallR.imp call_len fun xs H Q h => ?_
  obtain ⟨O, as, d, hO, rs, e, g⟩ := h
  replace e := one_inv e
  obtain ⟨a, rfl, e⟩ := e
  obtain ⟨x, rfl, r⟩ := rs.one
  cases r <;> try (cases e; done)
  case tup pa xs as ha ra la =>
    cases e
    exact ⟨_, _, rfl, .inr ⟨xs, same_sqT hid_le ha, rfl⟩, g.here (by rw [ra.length]; exact .int _)⟩
  case lst pa xs as ha ra la =>
    cases e
    exact ⟨_, _, rfl, .inl ⟨xs, .of (hid_le.lst ha), rfl⟩, g.here (by rw [ra.length]; exact .int _)⟩
  case scr pa ns ha la =>
    cases e
    exact ⟨_, _, rfl, .inl ⟨_, (hid_le (O := O) (H := H)).seq ha, rfl⟩, g.here (by rw [List.length_map]; exact .int _)⟩
  case str x hx =>
    cases e
    exact ⟨_, _, rfl, ⟨lim_le (sOk_len hx), rfl⟩, g.here (.int _)⟩
def intD : D → Option D
  | .int i => some (.int i)
  | .bl b => some (.int (if b then 1 else 0))
  | .str x => if x.length ≤ 640 then (PySem.intText? x).map D.int else none
  | _ => none
theorem call_intD : CallR X (.type "int") (rsD X.K (one intD)) := by
  refine CallR.imp (CallR.or call_int1 call_int_str) fun xs H Q h => ?_
  obtain ⟨O, as, d, hO, rs, e, g⟩ := h
  replace e := one_inv e
  obtain ⟨a, rfl, e⟩ := e
  obtain ⟨x, rfl, r⟩ := rs.one
  cases r <;> try (cases e; done)
  case int i => cases e; exact .inl (.inl ⟨i, rfl, g.here (.int _)⟩)
  case bl b => cases e; exact .inl (.inr ⟨b, rfl, g.here (.int _)⟩)
  case str x hx =>
    simp only [intD] at e
    split at e
    · rename_i c
      cases q : PySem.intText? x with
      | none => rw [q] at e; cases e
      | some n =>
        rw [q] at e
        cases e
        exact .inr ⟨x, n, rfl, q, c, g.here (.int _)⟩
    · cases e
def tupleD : D → Option D
  | .tup ds => some (.tup ds)
  | .lst ds => some (.tup ds)
  | _ => none
theorem call_tupleD : CallR X (.type "tuple") (rsD X.K (one tupleD)) := by
  refine CallR.imp call_tuple_of fun xs H Q h => ?_
  obtain ⟨O, as, d, hO, rs, e, g⟩ := h
  replace e := one_inv e
  obtain ⟨a, rfl, e⟩ := e
  obtain ⟨x, rfl, r⟩ := rs.one
  cases r <;> try (cases e; done)
  case tup pa xs as ha ra la =>
    cases e
    exact ⟨pa, xs, rfl, .inr ⟨same_sqT hid_le ha, g.here (.tup ha ra la)⟩⟩
  case lst pa xs as ha ra la =>
    cases e
    exact ⟨pa, xs, rfl, .inl ⟨.of (hid_le.lst ha), fun l hl => g.tup hO ra la hl⟩⟩
def listD : D → Option D
  | .tup ds => some (.lst ds)
  | .lst ds => some (.lst ds)
  | _ => none
theorem call_listD : CallR X (.type "list") (rsD X.K (one listD)) := by
  refine CallR.imp call_list_of fun xs H Q h => ?_
  obtain ⟨O, as, d, hO, rs, e, g⟩ := h
  replace e := one_inv e
  obtain ⟨a, rfl, e⟩ := e
  obtain ⟨x, rfl, r⟩ := rs.one
  cases r <;> try (cases e; done)
  case tup pa xs as ha ra la =>
    cases e
    exact ⟨pa, xs, rfl, .inr (same_sqT hid_le ha), fun l hl => g.lst hO ra la hl⟩
  case lst pa xs as ha ra la =>
    cases e
    exact ⟨pa, xs, rfl, .inl (.of (hid_le.lst ha)), fun l hl => g.lst hO ra la hl⟩
def boolsD : List D → Option (List Bool)
  | [] => some []
  | .bl b :: ds => (boolsD ds).map (b :: ·)
  | _ :: _ => none
theorem boolsD_rep {K : PySem.W.Frag} {H : Hp} : ∀ {ds : List D} {xs : List V} {bs : List Bool}, RepAll K H xs ds → boolsD ds = some bs → xs = bs.map V.bl
  | [], _, _, .nil, e => by cases e; rfl
  | d :: ds, _, _, .cons r rs, e => by
    cases r <;> try (cases e; done)
    rename_i b
    simp only [boolsD] at e
    cases q : boolsD ds with
    | none => rw [q] at e; cases e
    | some cs =>
      rw [q] at e
      cases e
      rw [boolsD_rep rs q]; rfl
def allD : D → Option D
  | .lst ds => (boolsD ds).map fun bs => .bl (bs.all id)
  | _ => none
def anyD : D → Option D
  | .lst ds => (boolsD ds).map fun bs => .bl (bs.any id)
  | _ => none
theorem call_allD (hc : X.calm = true) : CallR X (.builtin "all") (rsD X.K (one allD)) := by
  refine CallR.imp (cr_all hc) fun xs H Q h => ?_
  obtain ⟨O, as, d, hO, rs, e, g⟩ := h
  replace e := one_inv e
  obtain ⟨a, rfl, e⟩ := e
  obtain ⟨x, rfl, r⟩ := rs.one
  cases r <;> try (cases e; done)
  case lst pa xs as ha ra la =>
    simp only [allD] at e
    cases q : boolsD as with
    | none => rw [q] at e; cases e
    | some bs =>
      rw [q] at e
      cases e
      have e1 := boolsD_rep ra q
      subst e1
      exact ⟨pa, bs, rfl, .of (hid_le.lst ha), g.here (.bl _)⟩
theorem call_anyD (hc : X.calm = true) : CallR X (.builtin "any") (rsD X.K (one anyD)) := by
  refine CallR.imp (cr_any hc) fun xs H Q h => ?_
  obtain ⟨O, as, d, hO, rs, e, g⟩ := h
  replace e := one_inv e
  obtain ⟨a, rfl, e⟩ := e
  obtain ⟨x, rfl, r⟩ := rs.one
  cases r <;> try (cases e; done)
  case lst pa xs as ha ra la =>
    simp only [anyD] at e
    cases q : boolsD as with
    | none => rw [q] at e; cases e
    | some bs =>
      rw [q] at e
      cases e
      have e1 := boolsD_rep ra q
      subst e1
      exact ⟨pa, bs, rfl, .of (hid_le.lst ha), g.here (.bl _)⟩
def intsD : List D → Option (List Int)
  | [] => some []
  | .int b :: ds => (intsD ds).map (b :: ·)
  | _ :: _ => none
theorem intsD_rep {K : PySem.W.Frag} {H : Hp} : ∀ {ds : List D} {xs : List V} {bs : List Int}, RepAll K H xs ds → intsD ds = some bs → xs = bs.map V.int
  | [], _, _, .nil, e => by cases e; rfl
  | d :: ds, _, _, .cons r rs, e => by
    cases r <;> try (cases e; done)
    rename_i b
    simp only [intsD] at e
    cases q : intsD ds with
    | none => rw [q] at e; cases e
    | some cs =>
      rw [q] at e
      cases e
      rw [intsD_rep rs q]; rfl
def sumD : D → Option D
  | .lst ds => (intsD ds).map fun bs => .int bs.sum
  | _ => none
theorem call_sumD (hc : X.calm = true) : CallR X (.builtin "sum") (rsD X.K (one sumD)) := by
  refine CallR.imp (cr_sum hc) fun xs H Q h => ?_
  obtain ⟨O, as, d, hO, rs, e, g⟩ := h
  replace e := one_inv e
  obtain ⟨a, rfl, e⟩ := e
  obtain ⟨x, rfl, r⟩ := rs.one
  cases r <;> try (cases e; done)
  case lst pa xs as ha ra la =>
    simp only [sumD] at e
    cases q : intsD as with
    | none => rw [q] at e; cases e
    | some bs =>
      rw [q] at e
      cases e
      have e1 := intsD_rep ra q
      subst e1
      exact ⟨pa, bs, rfl, .of (hid_le.lst ha), g.here (.int _)⟩
def minD : D → D → Option D
  | .int i, .int j => some (.int (if j < i then j else i))
  | _, _ => none
theorem call_minD (hc : X.calm = true) : CallR X (.builtin "min") (rsD X.K (two minD)) := by
  refine CallR.imp (call_min2 hc) fun xs H Q h => ?_
  obtain ⟨O, as, d, hO, rs, e, g⟩ := h
  replace e := two_inv e
  obtain ⟨a, b, rfl, e⟩ := e
  obtain ⟨x, y, rfl, r1, r2⟩ := rs.two
  cases r1 <;> cases r2 <;> try (cases e; done)
  case int.int i j => cases e; exact ⟨i, j, rfl, g.here (.int _)⟩

/-! ### isinstance -/
def tyName : D → String
  | .non => "NoneType"
  | .bl _ => "bool"
  | .int _ => "int"
  | .str _ => "str"
  | .tup _ => "tuple"
  | .lst _ => "list"
  | .scr _ => "list"
theorem Rep.ty {K : PySem.W.Frag} {H : Hp} {v : V} {d : D} (h : Rep K H v d) : TyX K H v (.type (tyName d)) := by
  cases h
  case non => exact .base .non
  case bl b => exact .base (.bl b)
  case int i => exact .base (.int i)
  case str x _ => exact .base (.str x)
  case tup ha ra _ =>
    rcases ha with (ha | ⟨o, ha⟩) | ⟨o, its, n, h1, h2, _⟩
    · exact .base (.tup ha)
    · exact .fTuple ha
    · exact .kTuple h1 h2
  case lst ha ra _ => exact .base (.lst ha)
  case scr ns ha _ =>
    rcases ha with (ha | ⟨o, ha⟩) | ⟨o, its, n, h1, h2, _⟩
    · exact .base (.lst ha)
    · exact .base (.frz ha)
    · exact .kList h1 h2
inductive TyN where | int | str | bool | tuple | list
def TyN.nm : TyN → String
  | .int => "int" | .str => "str" | .bool => "bool" | .tuple => "tuple" | .list => "list"
def isiB : TyN → D → Bool
  | .int, .int _ => true
  | .int, .bl _ => true
  | .str, .str _ => true
  | .bool, .bl _ => true
  | .tuple, .tup _ => true
  | .list, .lst _ => true
  | .list, .scr _ => true
  | _, _ => false
theorem kit_isi (T : TyN) (d : D) : kitB (tyName d) T.nm = some (isiB T d) := by
  cases T <;> cases d <;> simp only [tyName, TyN.nm, isiB] <;> decide +kernel
end
end Sw
/-! ## sorted of ints and of tuples of ints; max, min; texts of ints; what is turned round -/
namespace Sw
open PySem L2
variable [Tbs] [Acs]
/-! ### there is one sorted list -/
theorem perm_uniq {α : Type} {le : α → α → Prop} (anti : ∀ a b, le a b → le b a → a = b) : ∀ {l m : List α}, l.Pairwise le → m.Pairwise le → l.Perm m → l = m
  | [], m, _, _, p => (List.Perm.eq_nil p.symm).symm
  | x :: l, [], _, _, p => absurd p.length_eq (by simp)
  | x :: l, y :: m, hl, hm, p => by
    obtain ⟨l1, l2⟩ := List.pairwise_cons.mp hl
    obtain ⟨m1, m2⟩ := List.pairwise_cons.mp hm
    have hx : x ∈ y :: m := p.mem_iff.mp List.mem_cons_self
    have hy : y ∈ x :: l := p.mem_iff.mpr List.mem_cons_self
    have e : x = y := by
      rcases List.mem_cons.mp hx with e | h1
      · exact e
      · rcases List.mem_cons.mp hy with e | h2
        · exact e.symm
        · exact anti _ _ (l1 y h2) (m1 x h1)
    subst e
    rw [perm_uniq anti l2 m2 p.cons_inv]
def insB {α : Type} (lt : α → α → Bool) (x : α) : List α → List α
  | [] => [x]
  | y :: ys => if lt y x = true then y :: insB lt x ys else x :: y :: ys
def sortB {α : Type} (lt : α → α → Bool) : List α → List α
  | [] => []
  | x :: xs => insB lt x (sortB lt xs)
theorem insB_perm {α : Type} (lt : α → α → Bool) (x : α) : ∀ ys : List α, (insB lt x ys).Perm (x :: ys)
  | [] => List.Perm.refl _
  | y :: ys => by
    unfold insB
    split
    · exact ((insB_perm lt x ys).cons y).trans (List.Perm.swap x y ys)
    · exact List.Perm.refl _
theorem sortB_perm {α : Type} (lt : α → α → Bool) : ∀ xs : List α, (sortB lt xs).Perm xs
  | [] => List.Perm.refl _
  | x :: xs => (insB_perm lt x _).trans ((sortB_perm lt xs).cons x)
theorem insB_sorted {α : Type} {lt : α → α → Bool} (O : SrtO.Swo lt) (x : α) : ∀ {ys : List α}, SrtO.Srtd lt ys → SrtO.Srtd lt (insB lt x ys)
  | [], _ => List.pairwise_singleton _ _
  | y :: ys, h => by
    obtain ⟨h1, h2⟩ := List.pairwise_cons.mp h
    unfold insB
    by_cases c : lt y x = true
    · rw [if_pos c]
      refine List.pairwise_cons.mpr ⟨fun z hz => ?_, insB_sorted O x h2⟩
      rcases List.mem_cons.mp ((insB_perm lt x ys).mem_iff.mp hz) with e | hz
      · subst e; exact O.asym _ _ c
      · exact h1 z hz
    · rw [if_neg c]
      have c : lt y x = false := by simpa using c
      refine List.pairwise_cons.mpr ⟨fun z hz => ?_, h⟩
      rcases List.mem_cons.mp hz with e | hz
      · subst e; exact c
      · exact O.tr _ _ _ c (h1 z hz)
theorem sortB_sorted {α : Type} {lt : α → α → Bool} (O : SrtO.Swo lt) : ∀ xs : List α, SrtO.Srtd lt (sortB lt xs)
  | [] => List.Pairwise.nil
  | x :: xs => insB_sorted O x (sortB_sorted O xs)
theorem lexLt_anti : ∀ xs ys : List Int, HT.lexLt xs ys = false → HT.lexLt ys xs = false → xs = ys
  | [], [], _, _ => rfl
  | [], _ :: _, h, _ => by cases h
  | _ :: _, [], _, h => by cases h
  | x :: xs, y :: ys, h1, h2 => by
    rw [HT.lexLt_cons] at h1 h2
    by_cases e : x = y
    · subst e
      rw [if_pos rfl] at h1 h2
      rw [lexLt_anti xs ys h1 h2]
    · rw [if_neg e] at h1
      rw [if_neg (Ne.symm e)] at h2
      have h1 := of_decide_eq_false h1
      have h2 := of_decide_eq_false h2
      omega
theorem lexLt_items : ∀ xs ys : List Int, PyProof.Rows.lexLt PyProof.Rows.itemOrd (xs.map Sum.inl) (ys.map Sum.inl) = HT.lexLt xs ys
  | [], [] => rfl
  | [], _ :: _ => rfl
  | _ :: _, [] => rfl
  | x :: xs, y :: ys => by
    rw [List.map_cons, List.map_cons, HT.lexLt_cons]
    by_cases e : x = y
    · subst e
      rw [if_pos rfl, PyProof.Rows.lex_self, lexLt_items xs ys]
    · rw [if_neg e, PyProof.Rows.lex_diff (fun z => e (Sum.inl.inj z))]
      rfl
/-! ### tuples of ints, sorted -/
/-- v is a tuple of these ints, one at least -/
def IsTI (h : Heap) (v : Value) (ns : List Int) : Prop := ∃ (b : Addr) (o : Obj) (its : Array Value) (n : Nat), v = .ref b ∧ h.get? b = some o ∧ o.cls = .type "tuple" ∧ o.data = .seq its n ∧ PyProof.Rows.IntsAre its.toList ns
theorem IsTI.keep {h h' : Heap} {v : Value} {ns : List Int} (x : IsTI h v ns) (k : ∀ b o, h.get? b = some o → o.cls = .type "tuple" → h'.get? b = some o) : IsTI h' v ns := by
  obtain ⟨b, o, its, n, e, ho, hc, q⟩ := x
  exact ⟨b, o, its, n, e, k b o ho hc, hc, q⟩
theorem items_ints : ∀ {vs : List Value} {ns : List Int} (i : Nat), PyProof.Rows.IntsAre vs ns → PyProof.Rows.tupItems (fun _ => false) i vs = some (ns.map Sum.inl)
  | [], [], _, _ => rfl
  | [], _ :: _, _, h => by cases h
  | _ :: _, [], _, h => by cases h
  | v :: vs, n :: ns, i, h => by
    cases h
    rename_i r
    show Option.map _ (PyProof.Rows.tupItems (fun _ => false) (i + 1) vs) = _
    rw [items_ints (i + 1) r]
    rfl
theorem IsTI.key {h : Heap} {v : Value} {ns : List Int} (x : IsTI h v ns) : PyProof.Rows.G.tupKeyC h (fun _ => false) v = some (ns.map Sum.inl) := by
  obtain ⟨b, o, its, n, rfl, ho, hc, hd, hi⟩ := x
  unfold PyProof.Rows.G.tupKeyC PyProof.Rows.G.isTupObj PyProof.Rows.tupKey
  simp only [ho, hc, hd, items_ints 0 hi]
  rfl
theorem IsTI.first {h : Heap} {v : Value} {ns : List Int} (x : IsTI h v ns) (hne : ns ≠ []) : ∃ f, PyProof.Rows.TupOf h (fun _ => false) v f := by
  obtain ⟨b, o, its, n, e, ho, hc, hd, hi⟩ := x
  cases ns with
  | nil => exact absurd rfl hne
  | cons m ns =>
    obtain ⟨l⟩ := its
    cases hi with
    | cons t r => exact ⟨_, b, o, _, n, e, ho, hc, hd, rfl, fun _ => ⟨_, _, rfl⟩, fun z => nomatch z⟩
theorem firsts {h : Heap} {k : Value → List Int} : ∀ {vs : List Value}, (∀ v ∈ vs, IsTI h v (k v)) → (∀ v ∈ vs, k v ≠ []) → ∃ fs, PyProof.Rows.TupsOf h (fun _ => false) vs fs
  | [], _, _ => ⟨[], .nil⟩
  | v :: vs, hv, hn => by
    obtain ⟨f, hf⟩ := (hv v List.mem_cons_self).first (hn v List.mem_cons_self)
    obtain ⟨fs, r⟩ := firsts (fun u hu => hv u (List.mem_cons_of_mem _ hu)) fun u hu => hn u (List.mem_cons_of_mem _ hu)
    exact ⟨f :: fs, .cons hf r⟩
theorem tups_sortable {prog : Program} {w : World} {A : Around} {s : Shared} {a : Addr} {vs : List Value} {k : Value → List Int} (h2 : 2 ≤ vs.length) (hv : ∀ v ∈ vs, IsTI s.heap v (k v)) (hne : ∀ v ∈ vs, k v ≠ []) (ha : ∀ o, s.heap.get? a = some o → o.cls ≠ .type "tuple") :
    SrtO.SortableO prog w A s a vs (fun v u => HT.lexLt (k v) (k u)) := by
  intro h' keep
  have hv' : ∀ v ∈ vs, IsTI h' v (k v) := fun v hm => (hv v hm).keep fun b o e c => keep b o (fun z => by subst z; exact ha o e c) e
  obtain ⟨fs, ht⟩ := firsts hv' hne
  refine ⟨PyProof.Rows.tuples' true, fun Q E hq => ?_, fun p q hp hq => ?_⟩
  · exact PyProof.Rows.tup_kind (s := { s with heap := h' }) (by rw [PyProof.Rows.G.TupsOf.length ht]; omega) ht hq
  · refine PyProof.Rows.G.tupC_ltAt (s := { s with heap := h' }) (h := h') true (PyProof.Rows.G.KeepsTups.refl h') A _ p.1 q.1 _ _ (hv' _ hp).key (hv' _ hq).key ?_
    refine ⟨rfl, ?_⟩
    exact lexLt_items _ _
def rSortTI (K : PySem.W.Frag) : List V → Hp → VK → Prop := fun vs H Q => ∃ (a : Addr) (xs : List V) (key : V → List Int), vs = [V.ref a] ∧ SqL K H a xs ∧ (∀ x ∈ xs, ∃ t, x = V.ref t ∧ SqT K H t ((key x).map V.int)) ∧ (2 ≤ xs.length → ∀ x ∈ xs, key x ≠ []) ∧
  ∀ ys p, ys.Perm xs → ys.Pairwise (fun x y => HT.lexLt (key y) (key x) = false) → H p = none → Q (.ref p) (upd H p (.lst ys))
section
variable {X : Cx}
theorem cr_sortTI : CallR X (.builtin "sorted") (rSortTI X.K) := by
  intro pins s σ H vs us Q I r h
  obtain ⟨a, xs, key, rfl, hs, hx, hne, q⟩ := h
  obtain ⟨its, rv, hl, hz⟩ := I.list hs
  rw [Vals.ref1 r]
  obtain ⟨e1, e2⟩ := refs_back rv fun x m => let ⟨t, e, _⟩ := hx x m; ⟨t, e⟩
  have hv : ∀ v ∈ its, IsTI s.heap v (key (backV v)) := fun v hm => by
    obtain ⟨t, rfl⟩ := e2 v hm
    have hm' : V.ref t ∈ xs := by rw [e1]; exact List.mem_map.mpr ⟨_, hm, rfl⟩
    obtain ⟨t', e, ht⟩ := hx _ hm'
    cases e
    obtain ⟨ts, rt, hT, _⟩ := I.tuple ht
    obtain ⟨o, ho, hc, n, hd⟩ := hT
    exact ⟨t, o, _, n, rfl, ho, hc, hd, (show PyProof.Rows.IntsAre ts (key (V.ref t)) from rt.ints)⟩
  refine SrtO.sorted_ord (NtL.swo_lexL fun u => key (backV u)) hl.isList (by rw [← rv.length]; exact hz) (fun h2 h₁ b hb kk => ?_) fun out h1 h2 => ?_
  · refine tups_sortable (s := { s with heap := h₁ }) h2 (fun v hm => (hv v hm).keep fun c o e _ => (kk c o e).2) (fun v hm => hne (by rw [rv.length]; exact h2) _ (by rw [e1]; exact List.mem_map.mpr ⟨v, hm, rfl⟩)) fun o e => ?_
    have e' : some o = some (PyProof.Rows.seqObj "list" its.toArray 0) := e.symm.trans hb
    cases e'
    intro c
    exact absurd (Value.type.inj c) (by decide)
  · have h3 : ∀ u ∈ out, ∃ a, u = Value.ref a := fun u hu => e2 u (h2.perm.mem_iff.mp hu)
    obtain ⟨ep, he'⟩ := PyProof.Rows.sortedAll_at s.heap its out.toArray
    have hp : (out.map backV).Perm xs := by rw [e1]; exact h2.perm.map backV
    refine ⟨.ref _, upd H (s.heap.objs.size + 1) (.lst (out.map backV)), I.laid (t' := s.toks) (fun _ _ => PyProof.Rows.sortedAll_old) (Nat.le_succ _) ⟨?_, out, ep, vals_back h3, he'⟩, rfl, q _ _ hp ?_ (I.hok.fresh (Nat.le_succ _))⟩
    · rw [hp.length_eq]; exact hz
    · exact List.pairwise_map.mpr (h1.imp fun {x y} z => z)
/-! ### sorted(t) of a tuple of whole numbers -/
section
open PySem.Spec PyProof.Rows
variable {prog : Program} {w : World} {A : Around} {E : Value → Shared → Prop} {s : Shared}
theorem collect_tup {l : Addr} {vs : List Value} {Q : List Value → Shared → Prop} (hl : IsTup s.heap l vs.toArray)
    (h : Q vs { s with heap := (s.heap.push (seqObj "list" #[] 0)).update s.heap.objs.size (Obj.mapSeq (· ++ vs.toArray)) }) (hsz : vs.length ≤ sizeLine) :
    wpAny (model prog w) A (collect (.ref l)) Q E s := by
  obtain ⟨o, ho, hc, n, hd⟩ := id hl
  unfold collect
  refine wpAny_bind (wpAny_runValue (codeAny_builtin entry_proto_collect' ?_))
  show wpAny _ _ (do again (.builtin "list.__iadd__" ⟨[← newList [], .ref l], []⟩)) _ _ s
  refine wpAny_bind (wpAny_newList (wpAny_pure ⟨Code.quiet_builtin _ (by decide +kernel), codeAny_builtin entry_list_iadd' ?_⟩))
  show wpAny _ _ (Builtin.List.listExtendWith (.ref s.heap.objs.size) (.ref l) (.ref s.heap.objs.size)) _ _ { s with heap := s.heap.push (seqObj "list" #[] 0) }
  unfold Builtin.List.listExtendWith
  have ho' : (s.heap.push (seqObj "list" #[] 0)).get? l = some o := Heap.get?_push_of_some _ ho
  refine wpAny_bind (wpAny_typeOf (T := "tuple") ⟨o, ho', hc⟩ ?_)
  have ht : (Value.type "tuple" == Value.type "tuple") = true := by rfl
  rw [if_pos (by rw [ht]; simp)]
  refine wpAny_bind (listItems_at ho' hd ?_)
  refine wpAny_bind (listItems_at (xs := #[]) (n := 0) (Heap.get?_push_size _ rfl) rfl ?_)
  rw [if_neg (by simp)]
  refine wpAny_bind (listUpdate_at (xs := #[]) (n := 0) (Heap.get?_push_size _ rfl) rfl ?_ (Nat.zero_le _) (by show (#[] ++ vs.toArray).size ≤ sizeLine + 1; simp only [Array.size_append, List.size_toArray, List.length_nil]; omega))
  refine wpAny_pure ?_
  show wpAny (model prog w) A (do
      let o ← load s.heap.objs.size
      match o.data with
      | .seq xs _ => pure xs.toList
      | _ => unsupported "internal:collect") Q E { s with heap := (s.heap.push (seqObj "list" #[] 0)).update s.heap.objs.size (Obj.mapSeq (· ++ vs.toArray)) }
  refine wpAny_bind (wpAny_load (get?_update_seq (Heap.get?_push_size _ rfl) _) ?_)
  show wpAny _ _ (pure ((#[] : Array Value) ++ vs.toArray).toList) Q E _
  rw [show ((#[] : Array Value) ++ vs.toArray).toList = vs by simp]
  exact wpAny_pure h
open SrtO in
theorem sorted_ordT {l : Addr} {vs : List Value} {ltv : Value → Value → Bool} {Q : Value → Shared → Prop} (O : Swo ltv) (hl : IsTup s.heap l vs.toArray) (hz : vs.length ≤ sizeLine)
    (hS : 2 ≤ vs.length → ∀ (h₁ : Heap) (a : Addr), h₁.get? a = some (seqObj "list" vs.toArray 0) → (∀ b o, s.heap.get? b = some o → b ≠ a ∧ h₁.get? b = some o) → SortableO prog w A.in1.in1 { s with heap := h₁ } a vs ltv)
    (h : ∀ out : List Value, Srtd ltv out → Stb ltv out vs → Q (.ref (s.heap.objs.size + 1)) { s with heap := sortedAll s.heap vs out.toArray }) :
    wpAny (model prog w) A (call (.builtin "sorted") [.ref l]) Q E s := by
  refine Calls.call_function_entry kind_sorted plain_sorted entry_sorted (args_sorted1 _) ?_
  unfold Builtin.«sorted»
  refine wpAny_bind (m := checkCount "sorted" 1 1 _) (wpAny_pure ?_)
  refine wpAny_bind (collect_tup hl ?_ hz)
  refine wpAny_bind (wpAny_newList ?_ hz)
  have hsz : ((s.heap.push (seqObj "list" #[] 0)).update s.heap.objs.size (Obj.mapSeq (· ++ vs.toArray))).objs.size = s.heap.objs.size + 1 := by
    rw [Heap.size_update, size_push']
  have hoL : (((s.heap.push (seqObj "list" #[] 0)).update s.heap.objs.size (Obj.mapSeq (· ++ vs.toArray))).push (seqObj "list" vs.toArray 0)).get? (s.heap.objs.size + 1) = some (seqObj "list" vs.toArray 0) := by
    rw [← hsz]; exact Heap.get?_push_size _ rfl
  have keep : ∀ b o, s.heap.get? b = some o → b ≠ s.heap.objs.size + 1 ∧ (((s.heap.push (seqObj "list" #[] 0)).update s.heap.objs.size (Obj.mapSeq (· ++ vs.toArray))).push (seqObj "list" vs.toArray 0)).get? b = some o := fun b o q => by
    have hlt : b < s.heap.objs.size := Heap.lt_size q
    refine ⟨Nat.ne_of_lt (Nat.lt_succ_of_lt hlt), Heap.get?_push_of_some _ ?_⟩
    rw [Heap.get?_update_ne _ _ _ _ (Nat.ne_of_lt hlt)]
    exact Heap.get?_push_of_some _ q
  show wpAny _ _ _ _ _ { s with heap := ((s.heap.push (seqObj "list" #[] 0)).update s.heap.objs.size (Obj.mapSeq (· ++ vs.toArray))).push (seqObj "list" vs.toArray 0) }
  rw [hsz]
  refine wpAny_bind (wpAny_holding (wpAny_call_entry slot_list_sort ⟨_, hoL, rfl⟩ entry_list_sort (list_sort_ord O hoL hz (fun h2 => hS h2 _ _ hoL keep) fun out hs hb => ⟨_, rfl, ?_⟩) (args_list_sort _)))
  exact wpAny_pure ⟨_, rfl, h out hs hb⟩
end
theorem cr_sortedIT {X : Cx} : CallR X (.builtin "sorted") (fun vs H Q => ∃ (a : Addr) (ns : List Int), vs = [V.ref a] ∧ SqT X.K H a (ns.map V.int) ∧ ∀ (ns' : List Int) (p : Addr), ns'.Perm ns → ns'.Pairwise (· ≤ ·) → H p = none → Q (.ref p) (upd H p (.lst (ns'.map V.int)))) := by
  intro pins s σ H vs us Q I r h
  obtain ⟨a, ns, rfl, hs, q⟩ := h
  obtain ⟨its, rv, hl, hz⟩ := I.tuple hs
  rw [Vals.ref1 r]
  have hi := rv.ints
  refine sorted_ordT SrtO.swo_int hl (by rw [← rv.length]; exact hz) (fun h2 h₁ a' _ _ => SrtO.ints_sortable hi h2) fun out h1 h2 => ?_
  obtain ⟨k1, k2, k3⟩ := SrtO.ints_out hi h1 h2
  obtain ⟨ep, he'⟩ := PyProof.Rows.sortedAll_at s.heap its out.toArray
  have hlen : ((out.map SrtO.iv).map V.int).length ≤ sizeLine := by
    rw [List.length_map, k2.length_eq]
    rw [List.length_map] at hz
    exact hz
  exact ⟨.ref _, upd H (s.heap.objs.size + 1) (.lst ((out.map SrtO.iv).map V.int)), I.laid (t' := s.toks) (fun _ _ => PyProof.Rows.sortedAll_old) (Nat.le_succ _) ⟨hlen, out, ep, vals_of_ints k1, he'⟩, rfl, q _ _ k2 k3 (I.hok.fresh (Nat.le_succ _))⟩
/-! ### the rules over data -/
theorem map_inv' {α β : Type} {o : Option α} {f : α → β} {b : β} (h : o.map f = some b) : ∃ a, o = some a ∧ f a = b := by
  cases o with
  | none => cases h
  | some a => cases h; exact ⟨a, rfl, rfl⟩
theorem bind_inv' {α β : Type} {o : Option α} {f : α → Option β} {b : β} (h : o.bind f = some b) : ∃ a, o = some a ∧ f a = some b := by
  cases o with
  | none => cases h
  | some a => exact ⟨a, rfl, h⟩
theorem ints_inj : ∀ {ns ms : List Int}, ns.map V.int = ms.map V.int → ns = ms
  | [], [], _ => rfl
  | [], _ :: _, h => by cases h
  | _ :: _, [], h => by cases h
  | n :: ns, m :: ms, h => by
    rw [List.map_cons, List.map_cons] at h
    injection h with h1 h2
    injection h1 with h1
    rw [h1, ints_inj h2]
def intssD : List D → Option (List (List Int))
  | [] => some []
  | .tup es :: ds => (intsD es).bind fun ns => (intssD ds).bind fun l => some (ns :: l)
  | _ :: _ => none
def tupI (ns : List Int) : D := .tup (ns.map D.int)
def sortedD : D → Option D
  | .lst ds => match intsD ds with
    | some ns => some (.lst ((sortB (fun a b => decide (a < b)) ns).map D.int))
    | none => (intssD ds).bind fun l => if (decide (l.length < 2) || l.all fun n => !n.isEmpty) = true then some (.lst ((sortB HT.lexLt l).map tupI)) else none
  | .tup ds => match intsD ds with
    | some ns => some (.lst ((sortB (fun a b => decide (a < b)) ns).map D.int))
    | none => none
  | _ => none
theorem intsD_map : ∀ {ds : List D} {ns : List Int}, intsD ds = some ns → ds = ns.map D.int
  | [], _, e => by cases e; rfl
  | d :: ds, ns, e => by
    cases d <;> try (cases e; done)
    rename_i b
    simp only [intsD] at e
    cases q : intsD ds with
    | none => rw [q] at e; cases e
    | some cs => rw [q] at e; cases e; rw [intsD_map q]; rfl
theorem swo_I : SrtO.Swo (fun a b : Int => decide (a < b)) := ⟨fun x y h => by
  have := of_decide_eq_true h
  exact decide_eq_false (by omega), fun x y z h1 h2 => by
  have := of_decide_eq_false h1
  have := of_decide_eq_false h2
  exact decide_eq_false (by omega)⟩
theorem swo_L : SrtO.Swo HT.lexLt := NtL.swo_lexL (fun l : List Int => l)
theorem sortB_ints {ns ms : List Int} (p : ms.Perm ns) (h : ms.Pairwise (· ≤ ·)) : ms = sortB (fun a b => decide (a < b)) ns := by
  refine perm_uniq (le := fun a b : Int => a ≤ b) (fun a b h1 h2 => Int.le_antisymm h1 h2) h ((sortB_sorted swo_I ns).imp fun {a b} z => ?_) (p.trans (sortB_perm _ ns).symm)
  have := of_decide_eq_false z
  omega
/-- the ints of a tuple that stands for data -/
theorem intss_rep {K : PySem.W.Frag} {H : Hp} : ∀ {ds : List D} {xs : List V} {l : List (List Int)}, RepAll K H xs ds → intssD ds = some l → ds = l.map tupI
  | [], _, _, .nil, e => by cases e; rfl
  | d :: ds, _, _, .cons r rs, e => by
    cases d <;> try (cases e; done)
    rename_i es
    simp only [intssD] at e
    cases q : intsD es with
    | none => rw [q] at e; cases e
    | some ns =>
      rw [q] at e
      cases q2 : intssD ds with
      | none => rw [q2] at e; cases e
      | some l2 =>
        rw [q2] at e
        cases e
        rw [List.map_cons, ← intss_rep rs q2, tupI, ← intsD_map q]
theorem rep_tupI {K : PySem.W.Frag} {H : Hp} {v : V} {ns : List Int} (r : Rep K H v (tupI ns)) : ∃ t, v = .ref t ∧ SqT K H t (ns.map V.int) := by
  cases r with
  | tup q ra _ => exact ⟨_, rfl, (ra.ints rfl) ▸ q⟩
theorem map_key {K : PySem.W.Frag} {H : Hp} {key : V → List Int} (hk : ∀ x t (ns : List Int), x = V.ref t → SqT K H t (ns.map V.int) → key x = ns) : ∀ {l : List (List Int)} {xs : List V}, RepAll K H xs (l.map tupI) → xs.map key = l
  | [], xs, r => by
    cases xs with
    | nil => rfl
    | cons => cases r
  | n :: l, xs, r => by
    rw [List.map_cons] at r
    cases xs with
    | nil => cases r
    | cons x xs =>
      cases r with
      | cons r0 rs =>
        obtain ⟨t, e, q⟩ := rep_tupI r0
        rw [List.map_cons, hk _ t n e q, map_key hk rs]
/-- the keys of the items -/
theorem keys_of {K : PySem.W.Frag} {H : Hp} (inj : ∀ t (ns ms : List Int), SqT K H t (ns.map V.int) → SqT K H t (ms.map V.int) → ns = ms) : ∀ {l : List (List Int)} {xs : List V}, RepAll K H xs (l.map tupI) →
    ∃ key : V → List Int, xs.map key = l ∧ (∀ x ∈ xs, ∃ t, x = V.ref t ∧ SqT K H t ((key x).map V.int)) ∧ ∀ x ∈ xs, ∀ t (ns : List Int), x = V.ref t → SqT K H t (ns.map V.int) → key x = ns := by
  intro l xs r
  have each : ∀ x ∈ xs, ∃ t, ∃ ns : List Int, x = V.ref t ∧ SqT K H t (ns.map V.int) := fun x hx => by
    obtain ⟨i, hi, e⟩ := List.mem_iff_getElem.mp hx
    have hl := r.length
    have hi2 : i < (l.map tupI).length := by omega
    obtain ⟨v, h1, h2⟩ := r.get (List.getElem?_eq_getElem hi2)
    rw [List.getElem?_eq_getElem hi, e] at h1
    cases h1
    rw [List.getElem_map] at h2
    obtain ⟨t, e2, q⟩ := rep_tupI h2
    exact ⟨t, _, e2, q⟩
  classical
  let key : V → List Int := fun x => if h : ∃ ns : List Int, ∃ t, x = V.ref t ∧ SqT K H t (ns.map V.int) then h.choose else []
  have hk : ∀ x t (ns : List Int), x = V.ref t → SqT K H t (ns.map V.int) → key x = ns := fun x t ns e q => by
    have h : ∃ ns : List Int, ∃ t, x = V.ref t ∧ SqT K H t (ns.map V.int) := ⟨ns, t, e, q⟩
    have e1 : key x = h.choose := dif_pos h
    obtain ⟨t', e', q'⟩ := h.choose_spec
    rw [e1]
    subst e
    cases e'
    exact inj t _ _ q' q
  refine ⟨key, ?_, fun x hx => ?_, fun x _ t ns e q => hk x t ns e q⟩
  · exact map_key hk r
  · obtain ⟨t, ns, e, q⟩ := each x hx
    exact ⟨t, e, by rw [hk x t ns e q]; exact q⟩
theorem repAll_tups {K : PySem.W.Frag} {H : Hp} {key : V → List Int} : ∀ {ys : List V}, (∀ y ∈ ys, Rep K H y (tupI (key y))) → RepAll K H ys ((ys.map key).map tupI)
  | [], _ => .nil
  | y :: ys, h => .cons (h y List.mem_cons_self) (repAll_tups fun z hz => h z (List.mem_cons_of_mem _ hz))
theorem intsD_nil {l : List (List Int)} (h : intsD (l.map tupI) = none) : l ≠ [] := fun z => by subst z; cases h
theorem call_sortedD1 : CallR X (.builtin "sorted") (rsD X.K (one sortedD)) := by
  intro pins s σ H vs us Q I r h
  obtain ⟨O, as, d, hO, rs, e, g⟩ := h
  replace e := one_inv e
  obtain ⟨a, rfl, e⟩ := e
  obtain ⟨x, rfl, rx⟩ := rs.one
  cases rx <;> try (cases e; done)
  case tup pa xs as ha ra la =>
    simp only [sortedD] at e
    cases q : intsD as with
    | none => rw [q] at e; cases e
    | some ns =>
      rw [q] at e
      cases e
      have e1 := ra.ints (intsD_map q)
      subst e1
      refine cr_sortedIT pins s σ H _ us Q I r ⟨pa, ns, rfl, same_sqT hid_le ha, fun ms p hp hs hn => ?_⟩
      rw [← sortB_ints hp hs] at g
      exact g.lst hO (repAll_ints ms) (by rw [List.length_map, hp.length_eq, ← List.length_map (f := V.int), ra.length]; exact la) hn
  case lst pa xs as ha ra la =>
    simp only [sortedD] at e
    cases q : intsD as with
    | some ns =>
      rw [q] at e
      cases e
      have e1 := ra.ints (intsD_map q)
      subst e1
      refine cr_sortedI pins s σ H _ us Q I r ⟨pa, ns, rfl, .of (hid_le.lst ha), fun ms p hp hs hn => ?_⟩
      rw [← sortB_ints hp hs] at g
      exact g.lst hO (repAll_ints ms) (by rw [List.length_map, hp.length_eq, ← List.length_map (f := V.int), ra.length]; exact la) hn
    | none =>
      rw [q] at e
      obtain ⟨l, q2, e2⟩ := bind_inv' e
      have e3 := intss_rep ra q2
      subst e3
      have hok : (decide (l.length < 2) || l.all fun n => !n.isEmpty) = true := by
        by_cases hok : (decide (l.length < 2) || l.all fun n => !n.isEmpty) = true
        · exact hok
        · rw [if_neg hok] at e2; cases e2
      rw [if_pos hok] at e2
      cases e2
      obtain ⟨key, k1, k2, k3⟩ := keys_of (fun t ns ms h1 h2 => ints_inj (I.tuple_inj (same_sqT hid_le h1) (same_sqT hid_le h2))) ra
      refine cr_sortTI pins s σ H _ us Q I r ⟨pa, xs, key, rfl, .of (hid_le.lst ha), fun x hx => ?_, fun h2 x hx => ?_, fun ys p hp hs hn => ?_⟩
      · obtain ⟨t, e4, q4⟩ := k2 x hx
        exact ⟨t, e4, same_sqT hid_le q4⟩
      · have hl2 := ra.length
        rw [List.length_map] at hl2
        have hm : key x ∈ l := by rw [← k1]; exact List.mem_map.mpr ⟨x, hx, rfl⟩
        rw [decide_eq_false (by omega), Bool.false_or] at hok
        have := List.all_eq_true.mp hok _ hm
        intro z
        rw [z] at this
        cases this
      · have hy : ∀ y ∈ ys, Rep X.K (hid O H) y (tupI (key y)) := fun y hy => by
          have hm := hp.mem_iff.mp hy
          obtain ⟨i, hi, e5⟩ := List.mem_iff_getElem.mp hm
          have hl := ra.length
          obtain ⟨v, h1, h2⟩ := ra.get (List.getElem?_eq_getElem (show i < (l.map tupI).length by omega))
          rw [List.getElem?_eq_getElem hi, e5] at h1
          cases h1
          rw [List.getElem_map] at h2
          obtain ⟨t, e6, q6⟩ := rep_tupI h2
          rw [k3 y hm t _ e6 q6]
          exact h2
        have es : ys.map key = sortB HT.lexLt l := by
          refine perm_uniq (le := fun a b : List Int => HT.lexLt b a = false) (fun a b h1 h2 => lexLt_anti a b h2 h1) (List.pairwise_map.mpr hs) (sortB_sorted swo_L l) ?_
          refine (hp.map key).trans ?_
          rw [k1]
          exact (sortB_perm _ l).symm
        rw [← es] at g
        exact g.lst hO (repAll_tups hy) (by rw [List.length_map, List.length_map, hp.length_eq, ra.length]; exact la) hn
/-! ### max, min -/
def maxL : Int → List Int → Int
  | m, [] => m
  | m, n :: ns => maxL (if m < n then n else m) ns
def minL : Int → List Int → Int
  | m, [] => m
  | m, n :: ns => minL (if n < m then n else m) ns
theorem maxL_ok : ∀ (m : Int) (ns : List Int), maxL m ns ∈ m :: ns ∧ ∀ y ∈ m :: ns, y ≤ maxL m ns
  | m, [] => ⟨List.mem_cons_self, fun y h => by rcases List.mem_cons.mp h with e | h; (subst e; exact Int.le_refl _); cases h⟩
  | m, n :: ns => by
    obtain ⟨h1, h2⟩ := maxL_ok (if m < n then n else m) ns
    refine ⟨?_, fun y hy => ?_⟩
    · show maxL _ ns ∈ _
      rcases List.mem_cons.mp h1 with e | h
      · rw [e]; split
        · exact List.mem_cons_of_mem _ List.mem_cons_self
        · exact List.mem_cons_self
      · exact List.mem_cons_of_mem _ (List.mem_cons_of_mem _ h)
    · show y ≤ maxL _ ns
      have h3 := h2 _ List.mem_cons_self
      have h4 : m ≤ (if m < n then n else m) := by split <;> omega
      have h5 : n ≤ (if m < n then n else m) := by split <;> omega
      rcases List.mem_cons.mp hy with e | hy
      · subst e; exact Int.le_trans h4 h3
      · rcases List.mem_cons.mp hy with e | hy
        · subst e; exact Int.le_trans h5 h3
        · exact h2 y (List.mem_cons_of_mem _ hy)
theorem minL_ok : ∀ (m : Int) (ns : List Int), minL m ns ∈ m :: ns ∧ ∀ y ∈ m :: ns, minL m ns ≤ y
  | m, [] => ⟨List.mem_cons_self, fun y h => by rcases List.mem_cons.mp h with e | h; (subst e; exact Int.le_refl _); cases h⟩
  | m, n :: ns => by
    obtain ⟨h1, h2⟩ := minL_ok (if n < m then n else m) ns
    refine ⟨?_, fun y hy => ?_⟩
    · show minL _ ns ∈ _
      rcases List.mem_cons.mp h1 with e | h
      · rw [e]; split
        · exact List.mem_cons_of_mem _ List.mem_cons_self
        · exact List.mem_cons_self
      · exact List.mem_cons_of_mem _ (List.mem_cons_of_mem _ h)
    · show minL _ ns ≤ y
      have h3 := h2 _ List.mem_cons_self
      have h4 : (if n < m then n else m) ≤ m := by split <;> omega
      have h5 : (if n < m then n else m) ≤ n := by split <;> omega
      rcases List.mem_cons.mp hy with e | hy
      · subst e; exact Int.le_trans h3 h4
      · rcases List.mem_cons.mp hy with e | hy
        · subst e; exact Int.le_trans h3 h5
        · exact h2 y (List.mem_cons_of_mem _ hy)
def maxD : D → Option D
  | .lst ds => match intsD ds with
    | some (n :: ns) => some (.int (maxL n ns))
    | _ => none
  | _ => none
def minA : List D → Option D
  | [.lst ds] => match intsD ds with
    | some (n :: ns) => some (.int (minL n ns))
    | _ => none
  | [.int i, .int j] => some (.int (if j < i then j else i))
  | _ => none
theorem call_maxD (hc : X.calm = true) : CallR X (.builtin "max") (rsD X.K (one maxD)) := by
  refine CallR.imp (cr_max hc) fun xs H Q h => ?_
  obtain ⟨O, as, d, hO, rs, e, g⟩ := h
  replace e := one_inv e
  obtain ⟨a, rfl, e⟩ := e
  obtain ⟨x, rfl, r⟩ := rs.one
  cases r <;> try (cases e; done)
  case lst pa xs as ha ra la =>
    simp only [maxD] at e
    split at e
    · rename_i n ns q
      cases e
      have e1 := ra.ints (intsD_map q)
      subst e1
      obtain ⟨h1, h2⟩ := maxL_ok n ns
      refine ⟨pa, n :: ns, rfl, .of (hid_le.lst ha), by simp, fun m hm hy => ?_⟩
      have : m = maxL n ns := Int.le_antisymm (h2 m hm) (hy _ h1)
      subst this
      exact g.here (.int _)
    · cases e
theorem call_minA (hc : X.calm = true) : CallR X (.builtin "min") (rsD X.K minA) := by
  refine CallR.imp ((call_min2 hc).or (cr_min hc)) fun xs H Q h => ?_
  obtain ⟨O, as, d, hO, rs, e, g⟩ := h
  match as, e, rs with
  | [.int i, .int j], e, rs =>
    obtain ⟨x, y, rfl, r1, r2⟩ := rs.two
    cases r1
    cases r2
    cases e
    exact .inl ⟨i, j, rfl, g.here (.int _)⟩
  | [.lst as], e, rs =>
    obtain ⟨x, rfl, r⟩ := rs.one
    obtain ⟨pa, xs, ex, ha, ra, la⟩ : ∃ pa xs, x = .ref pa ∧ hid O H pa = some (.lst xs) ∧ RepAll X.K (hid O H) xs as ∧ as.length ≤ lim := by
      cases r with
      | lst h1 h2 h3 => exact ⟨_, _, rfl, h1, h2, h3⟩
    subst ex
    simp only [minA] at e
    split at e
    · rename_i n ns q
      cases e
      have e1 := ra.ints (intsD_map q)
      subst e1
      obtain ⟨h1, h2⟩ := minL_ok n ns
      refine .inr ⟨pa, n :: ns, rfl, .of (hid_le.lst ha), by simp, fun m hm hy => ?_⟩
      have : m = minL n ns := Int.le_antisymm (hy _ h1) (h2 m hm)
      subst this
      exact g.here (.int _)
    · cases e
/-! ### texts of ints -/
def strD : D → Option D
  | .int i => if i.natAbs < 18446744073709551616 ∧ sOk (Str.ofString (toString i)) = true then some (.str (Str.ofString (toString i))) else none
  | _ => none
theorem call_strD : CallR X (.type "str") (rsD X.K (one strD)) := by
  refine CallR.imp call_str_int fun xs H Q h => ?_
  obtain ⟨O, as, d, hO, rs, e, g⟩ := h
  replace e := one_inv e
  obtain ⟨a, rfl, e⟩ := e
  obtain ⟨x, rfl, r⟩ := rs.one
  cases r <;> try (cases e; done)
  case int i =>
    simp only [strD] at e
    split at e
    · rename_i c
      cases e
      refine ⟨i, rfl, ?_, g.here (.str _ c.2)⟩
      refine Nat.lt_of_le_of_lt (?_ : i.natAbs.log2 ≤ 64) (by decide)
      by_cases z : i.natAbs = 0
      · rw [z]; decide
      · exact Nat.le_of_lt ((Nat.log2_lt z).mpr c.1)
    · cases e
/-! ### texts joined -/
def strsD : List D → Option (List Str)
  | [] => some []
  | .str x :: ds => (strsD ds).map (x :: ·)
  | _ :: _ => none
theorem strsD_rep {K : PySem.W.Frag} {H : Hp} : ∀ {ds : List D} {xs : List V} {ys : List Str}, RepAll K H xs ds → strsD ds = some ys → xs = ys.map V.str
  | [], _, _, .nil, e => by cases e; rfl
  | d :: ds, _, _, .cons r rs, e => by
    cases r <;> try (cases e; done)
    rename_i y hy
    simp only [strsD] at e
    cases q : strsD ds with
    | none => rw [q] at e; cases e
    | some cs =>
      rw [q] at e
      cases e
      rw [strsD_rep rs q]; rfl
def joinD : D → D → Option D
  | .str s, .lst ds => (strsD ds).bind fun ys => if (ys.map (·.length)).sum + ys.length * s.length ≤ 1000000 ∧ sOk (Str.join s ys) = true then some (.str (Str.join s ys)) else none
  | _, _ => none
/-! ### a text in pieces; where an item stands -/
def splitD : D → D → Option D
  | .str a, .str b => if (b.length == 0) = false ∧ (Txt.split a b).all sOk = true ∧ (Txt.split a b).length ≤ lim then some (.lst ((Txt.split a b).map D.str)) else none
  | _, _ => none
def idxS (z : Str) : List Str → Nat → Option Nat
  | [], _ => none
  | y :: ys, n => if y = z then some n else idxS z ys (n + 1)
def indexD : D → D → Option D
  | .lst ds, .str z => (strsD ds).bind fun ys => (idxS z ys 0).map fun (j : Nat) => D.int (j : Int)
  | _, _ => none
theorem idxS_spec {z : Str} : ∀ {ys : List Str} {n j : Nat}, idxS z ys n = some j → ∃ i, j = n + i ∧ ys[i]? = some z ∧ ∀ m, m < i → ys[m]? ≠ some z
  | [], n, j, h => by cases h
  | y :: ys, n, j, h => by
    unfold idxS at h
    split at h
    · rename_i e
      cases h
      exact ⟨0, rfl, by rw [e]; rfl, fun m hm => absurd hm (Nat.not_lt_zero _)⟩
    · rename_i e
      obtain ⟨i, h1, h2, h3⟩ := idxS_spec h
      refine ⟨i + 1, by omega, h2, fun m hm => ?_⟩
      cases m with
      | zero => exact fun z => e (Option.some.inj z)
      | succ m => exact h3 m (by omega)
def methD (m : Str) (x y : D) : Option D := if m = "split" then splitD x y else if m = "index" then indexD x y else none
/-! ### what is turned round -/
def revD : D → Option D
  | .tup ds => some (.tup ds.reverse)
  | .lst ds => some (.lst ds.reverse)
  | _ => none
end
end Sw
/-! ## the interpreter over data -/
namespace Sw
open PySem L2

/-- what the module's names stand for: own defs, flat constants, dicts with texts as keys -/
structure Tab where
  fn : Str → Option (List D → Option D)
  gl : Str → Option D
  dg : Str → Option (List (Str × Int))
  /-- what the handed function does -/
  ap : Option (D → Option D)
  /-- the defs whose last argument is a function -/
  hof : Str → Option (List D → (D → Option D) → Option D)
  /-- how a lambda's body is read -/
  lev : Scope → Option (List Str → Scope → Expr → DSt → Option D)
/-- a dict of the module, read -/
def getK : List (Str × Int) → Str → Option Int
  | [], _ => none
  | q :: qs, z => if q.1 = z then some q.2 else getK qs z
def inK (neg : Bool) (kvs : List (Str × Int)) : D → Option D
  | .str z => some (.bl (bif neg then !(getK kvs z).isSome else (getK kvs z).isSome))
  | _ => none
def ixK (kvs : List (Str × Int)) : D → Option D
  | .str z => (getK kvs z).map D.int
  | _ => none
def negOf : CmpOp → Option Bool
  | .In => some false
  | .NotIn => some true
  | _ => none
abbrev Ev := Bool → Scope → Expr → DSt → Option D

def ixOf : List Str → Str → Option Nat
  | [], _ => none
  | y :: ys, x => if y = x then some 0 else (ixOf ys x).map (· + 1)
def getD' (ρ : DSt) (i : Nat) : Option D := match ρ[i]? with
  | some (some (.dat d)) => some d
  | _ => none
def varD (T : Tab) (N : List Str) (sc : Scope) (x : Str) (ρ : DSt) : Option D := match sc.names.lookup x with
  | some .local => (ixOf N x).bind (getD' ρ)
  | some .cell => (ixOf N x).bind (getD' ρ)
  | some .free => (ixOf N x).bind (getD' ρ)
  | some .globalImplicit => T.gl x
  | _ => none
def isGl (sc : Scope) (x : Str) : Bool := match sc.names.lookup x with
  | some .globalImplicit => true
  | _ => false
def dgOf (T : Tab) (sc : Scope) : Expr → Option (List (Str × Int))
  | .Name x _ => if isGl sc x = true then T.dg x else none
  | _ => none
def evs (ev : Expr → DSt → Option D) : List Expr → DSt → Option (List D)
  | [], _ => some []
  | e :: es, ρ => (ev e ρ).bind fun d => (evs ev es ρ).bind fun ds => some (d :: ds)
def boolV (ev : Expr → DSt → Option D) (isAnd : Bool) : List Expr → DSt → Option D
  | [], _ => none
  | [e], ρ => ev e ρ
  | e :: es, ρ => (ev e ρ).bind fun d => if truthD d = isAnd then boolV ev isAnd es ρ else some d
def asB : D → Option Bool
  | .bl b => some b
  | _ => none
def boolT (ev : Expr → DSt → Option D) (isAnd : Bool) : List Expr → DSt → Option D
  | [], _ => none
  | [e], ρ => ev e ρ
  | e :: es, ρ => ((ev e ρ).bind asB).bind fun b => if b = isAnd then boolT ev isAnd es ρ else some (.bl b)
inductive Blt where | len | int | tuple | list | all | any | sum | min | sorted | max | str
def bltOf (f : Str) : Option Blt :=
  if f = "len" then some .len else if f = "int" then some .int else if f = "tuple" then some .tuple else if f = "list" then some .list else
  if f = "all" then some .all else if f = "any" then some .any else if f = "sum" then some .sum else if f = "min" then some .min else
  if f = "sorted" then some .sorted else if f = "max" then some .max else if f = "str" then some .str else none
def bltD : Blt → List D → Option D
  | .len => one lenD
  | .int => one intD
  | .tuple => one tupleD
  | .list => one listD
  | .all => one allD
  | .any => one anyD
  | .sum => one sumD
  | .min => minA
  | .sorted => one sortedD
  | .max => one maxD
  | .str => one strD
def tyOf (f : Str) : Option TyN :=
  if f = "int" then some .int else if f = "str" then some .str else if f = "bool" then some .bool else if f = "tuple" then some .tuple else if f = "list" then some .list else none
def asI : D → Option Int
  | .int i => some i
  | _ => none
def optI (ev : Expr → DSt → Option D) : Option Expr → DSt → Option (Option Int)
  | none, _ => some none
  | some e, ρ => ((ev e ρ).bind asI).bind fun i => some (some i)
def capL (mk : List D → D) (ds : List D) : Option D := if ds.length ≤ lim then some (mk ds) else none
/-- targets: names (places), or a tuple of names -/
def tgIx (N : List Str) (sc : Scope) : Expr → Option Nat
  | .Name x _ => match sc.names.lookup x with
    | some .local => ixOf N x
    | some .cell => ixOf N x
    | _ => none
  | _ => none
def tgIxs (N : List Str) (sc : Scope) : List Expr → Option (List Nat)
  | [] => some []
  | e :: es => (tgIx N sc e).bind fun i => (tgIxs N sc es).bind fun is => some (i :: is)
inductive Tg where | nm (i : Nat) | tp (is : List Nat)
def tgOf (N : List Str) (sc : Scope) : Expr → Option Tg
  | .Tuple es _ _ => (tgIxs N sc es).map Tg.tp
  | e => (tgIx N sc e).map Tg.nm
def putAll : List Nat → List D → DSt → Option DSt
  | [], [], ρ => some ρ
  | i :: is, d :: ds, ρ => putAll is ds (ρ.set i (some (.dat d)))
  | _, _, _ => none
def Tg.put : Tg → D → DSt → Option DSt
  | .nm i, d, ρ => some (ρ.set i (some (.dat d)))
  | .tp is, .tup ds, ρ => putAll is ds ρ
  | .tp is, .lst ds, ρ => putAll is ds ρ
  | .tp _, _, _ => none
def Tg.ixs : Tg → List Nat
  | .nm i => [i]
  | .tp is => is
def seqD : D → Option (List D)
  | .tup ds => some ds
  | .lst ds => some ds
  | .scr ns => some (ns.map D.int)
  | _ => none
def rangeD (lo : Int) (n : Nat) : List D := (List.range n).map fun (i : Nat) => D.int (lo + (i : Int))
def rng1 : D → Option (List D)
  | .int j => if -lim ≤ j ∧ j ≤ lim then some (rangeD 0 j.toNat) else none
  | _ => none
def rng2 : D → D → Option (List D)
  | .int i, .int j => if 0 ≤ i ∧ i ≤ lim ∧ -lim ≤ j ∧ j ≤ lim then some (rangeD i (j - i).toNat) else none
  | _, _ => none
def enumL (ds : List D) : List D := ds.zipIdx.map fun p => .tup [.int (p.2 : Nat), p.1]
def zipL (as bs : List D) : List D := List.zipWith (fun a b => .tup [a, b]) as bs
def isTupE : Expr → Bool
  | .Tuple _ _ _ => true
  | _ => false
/-- what a for walks -/
def iterD (ev : Expr → DSt → Option D) (sc : Scope) (tup : Bool) (e : Expr) (ρ : DSt) : Option (List D) := match e with
  | .Call (.Name f p) args kw pos =>
    if f = "range" then
      match args, kw with
      | [a], [] => if isGl sc f then (ev a ρ).bind rng1 else none
      | [a, b], [] => if isGl sc f then (ev a ρ).bind fun x => (ev b ρ).bind fun y => rng2 x y else none
      | _, _ => none
    else if f = "enumerate" then
      match args, kw with
      | [a], [] => if (isGl sc f && tup) = true then (ev a ρ).bind fun x => (seqD x).bind fun l => some (enumL l) else none
      | _, _ => none
    else if f = "zip" then
      match args, kw with
      | [a, b], [] => if (isGl sc f && tup) = true then (ev a ρ).bind fun x => (ev b ρ).bind fun y => (seqD x).bind fun l => (seqD y).bind fun m => some (zipL l m) else none
      | _, _ => none
    else (ev (.Call (.Name f p) args kw pos) ρ).bind seqD
  | e => (ev e ρ).bind seqD
def tp2 {α : Type} (d : D) (k : D → D → Option α) : Option α := match d with
  | .tup [x, y] => k x y
  | .lst [x, y] => k x y
  | _ => none
def compB (tst : DSt → Option Bool) (elt : DSt → Option D) (ρ' : DSt) : Option (Option D) := (tst ρ').bind fun b => if b = true then (elt ρ').map some else some none
def compF (t : Tg) (tst : DSt → Option Bool) (elt : DSt → Option D) (ρ : DSt) (d : D) : Option (Option D) := match t with
  | .tp [i, j] => tp2 d fun x y => compB tst elt ((ρ.set i (some (.dat x))).set j (some (.dat y)))
  | t => (t.put d ρ).bind (compB tst elt)
theorem compF_eq (t : Tg) (tst : DSt → Option Bool) (elt : DSt → Option D) (ρ : DSt) (d : D) : compF t tst elt ρ d = (t.put d ρ).bind fun ρ' => (tst ρ').bind fun b => if b = true then (elt ρ').map some else some none := by
  unfold compF
  split
  · cases d with
    | tup ds =>
      match ds with
      | [] => rfl
      | [_] => rfl
      | [_, _] => rfl
      | _ :: _ :: _ :: _ => rfl
    | lst ds =>
      match ds with
      | [] => rfl
      | [_] => rfl
      | [_, _] => rfl
      | _ :: _ :: _ :: _ => rfl
    | _ => rfl
  · rfl
def consO (o : Option D) (ys : List D) : List D := match o with
  | some y => y :: ys
  | none => ys
def compD (f : D → Option (Option D)) : List D → Option (List D)
  | [] => some []
  | d :: ds => (f d).bind fun o => (compD f ds).map fun ys => consO o ys
def ownOf (N : List Str) : List (Str × NameKind) → List (Str × Nat)
  | [] => []
  | (x, k) :: r => match k with
    | .local => match ixOf N x with | some i => (x, i) :: ownOf N r | none => ownOf N r
    | .cell => match ixOf N x with | some i => (x, i) :: ownOf N r | none => ownOf N r
    | _ => ownOf N r
def isStarE : Expr → Bool
  | .Starred _ _ => true
  | _ => false
def setless : Expr → Bool
  | .Set _ _ _ => false
  | _ => true
/-- a target's names that a comprehension's block may store: its own ones -/
def tgStores (scope : Scope) : Expr → Bool
  | .Name x _ => match scope.names.lookup x with
    | some .local => true
    | some .cell => true
    | _ => false
  | .Tuple es _ _ => es.all fun
    | .Name x _ => match scope.names.lookup x with
      | some .local => true
      | some .cell => true
      | _ => false
    | _ => false
  | _ => false

def tstD (ev : Expr → DSt → Option D) : List Expr → DSt → Option Bool
  | [], _ => some true
  | [c], ρ => (ev c ρ).bind asB
  | _, _ => none

/-! dict displays: read at once, by [] or get -/
def keyD : D → Option Key
  | .int i => some (.inl i)
  | .str x => some (.inr x)
  | _ => none
def evPairs (ev : Expr → DSt → Option D) : List (Option Expr) → List Expr → DSt → Option (List (Key × D))
  | [], [], _ => some []
  | some k :: ks, v :: vs, ρ => ((ev k ρ).bind keyD).bind fun kk => (ev v ρ).bind fun d => (evPairs ev ks vs ρ).bind fun l => some ((kk, d) :: l)
  | _, _, _ => none
def putKd (kvs : List (Key × D)) (k : Key) (v : D) : List (Key × D) :=
  if (kvs.any fun kv => decide (kv.1 = k)) = true then kvs.map (fun kv => if kv.1 = k then (kv.1, v) else kv) else kvs ++ [(k, v)]
def mergeKd (kvs more : List (Key × D)) : List (Key × D) := more.foldl (fun acc kv => putKd acc kv.1 kv.2) kvs
def valKd (kvs : List (Key × D)) (k : Key) : Option D := (kvs.find? fun kv => decide (kv.1 = k)).map (·.2)
def dictOk (ks : List (Option Expr)) (vs : List Expr) : Bool := ks.all (·.isSome) && (ks.length == vs.length) && !ks.isEmpty && decide (ks.length ≤ 15)
def dictIx (ev : Expr → DSt → Option D) (ks : List (Option Expr)) (vs : List Expr) (b : Expr) (ρ : DSt) : Option D :=
  if dictOk ks vs = true then (evPairs ev ks vs ρ).bind fun l => ((ev b ρ).bind keyD).bind fun k => valKd (mergeKd [] l) k else none
def dictGet (ev : Expr → DSt → Option D) (ks : List (Option Expr)) (vs : List Expr) (e f : Expr) (ρ : DSt) : Option D :=
  if dictOk ks vs = true then (evPairs ev ks vs ρ).bind fun l => ((ev e ρ).bind keyD).bind fun k => (ev f ρ).bind fun d => some ((valKd (mergeKd [] l) k).getD d) else none
def ownGet (ρ : DSt) (i : Nat) : Option (List D) := match ρ[i]? with
  | some (some (.own ds)) => some ds
  | _ => none
def dctGet (ρ : DSt) (i : Nat) : Option (List D) := match ρ[i]? with
  | some (some (.dct ks)) => some ks
  | _ => none
def dfzGet (ρ : DSt) (i : Nat) : Option (List D) := match ρ[i]? with
  | some (some (.dfz ks)) => some ks
  | _ => none
def isDct : Option Sl → Bool
  | some (.dct _) => true
  | _ => false
/-- the dict that a name stands for, no more written -/
def dfzNm (N : List Str) (sc : Scope) (x : Str) (ρ : DSt) : Option (List D) := match sc.names.lookup x with
  | some .local => (ixOf N x).bind (dfzGet ρ)
  | some .cell => (ixOf N x).bind (dfzGet ρ)
  | some .free => (ixOf N x).bind (dfzGet ρ)
  | _ => none
def dfzAt (N : List Str) (sc : Scope) (op : CmpOp) (b : Expr) (ρ : DSt) : Option (List D) := match op, b with
  | .In, .Name x _ => dfzNm N sc x ρ
  | _, _ => none
def dlfGet (ρ : DSt) (i : Nat) : Option MD := match ρ[i]? with
  | some (some (.dlf m)) => some m
  | _ => none
def dlfNm (N : List Str) (sc : Scope) (x : Str) (ρ : DSt) : Option MD := match sc.names.lookup x with
  | some .local => (ixOf N x).bind (dlfGet ρ)
  | some .cell => (ixOf N x).bind (dlfGet ρ)
  | some .free => (ixOf N x).bind (dlfGet ρ)
  | _ => none
def lookM (m : MD) (j : Int) : Option (List D) := (m.find? fun q => decide (q.1 = j)).map (·.2)
/-- the keys, sorted: they stand so already -/
def sortM (m : MD) : Option (List D) := if (decide ((m.map fun q => q.1).Pairwise (· ≤ ·)) && decide (m.length < 64)) = true then some (m.map fun q => D.int q.1) else none
def inX (ks : List D) (d : D) : Option D := (okT d).bind fun k => some (.bl (ks.any fun e => decide (okT e = some k)))
def putX (ks : List D) (d : D) : Option (List D) := (okT d).bind fun k => if ks.length < lim then some (if (ks.any fun e => decide (okT e = some k)) = true then ks else ks ++ [d]) else none
/-- an owned list that is only read at a place keeps its owner -/
def ownAt (N : List Str) (sc : Scope) (x : Str) (ρ : DSt) : Option (List D) := match sc.names.lookup x with
  | some .local => (ixOf N x).bind (ownGet ρ)
  | some .cell => (ixOf N x).bind (ownGet ρ)
  | _ => none
def peekE (N : List Str) (sc : Scope) (ev : Expr → DSt → Option D) (x : Str) (p : Pos) (b : Expr) (ρ : DSt) : Option D := match ownAt N sc x ρ with
  | some ds => (ev b ρ).bind fun y => ixD (.lst ds) y
  | none => match dlfNm N sc x ρ with
    | some m => ((ev b ρ).bind asI).bind fun j => (lookM m j).map D.lst
    | none => (ev (.Name x p) ρ).bind fun x => (ev b ρ).bind fun y => ixD x y
def cmpE (T : Tab) (N : List Str) (sc : Scope) (ev : Expr → DSt → Option D) (a : Expr) (op : CmpOp) (b : Expr) (ρ : DSt) : Option D := match dgOf T sc b, negOf op with
  | some kvs, some neg => (ev a ρ).bind (inK neg kvs)
  | _, _ => match dfzAt N sc op b ρ with
    | some ks => (ev a ρ).bind (inX ks)
    | none => if setless b = true then (ev a ρ).bind fun x => (ev b ρ).bind fun y => cmpD op x y else none
def subE (T : Tab) (N : List Str) (sc : Scope) (ev : Expr → DSt → Option D) (a b : Expr) (ρ : DSt) : Option D := match b with
  | .Slice lo hi none _ => (ev a ρ).bind fun x => (optI ev lo ρ).bind fun l => (optI ev hi ρ).bind fun h => sliceD x l h
  | .Slice none none (some (.UnaryOp .USub (.Constant (.int 1) _ _) _)) _ => (ev a ρ).bind revD
  | .Slice _ _ (some _) _ => none
  | b => match a with
    | .Dict ks vs _ => dictIx ev ks vs b ρ
    | .Name x p => match dgOf T sc (.Name x p) with
      | some kvs => (ev b ρ).bind (ixK kvs)
      | none => peekE N sc ev x p b ρ
    | a => (ev a ρ).bind fun x => (ev b ρ).bind fun y => ixD x y
def methE (ev : Expr → DSt → Option D) (o : Expr) (m : Str) (ap : Pos) (args : List Expr) (cp : Pos) (ρ : DSt) : Option D := match o, args with
  | .Dict ks vs _, [e, f] => if (decide (m = "get") && (ap.endLine == cp.line) && !isStarE e && !isStarE f) = true then dictGet ev ks vs e f ρ else none
  | .Constant (.str x) k p, [e] => if (decide (m = "join") && (ap.endLine == cp.line) && !isStarE e) = true then (ev (.Constant (.str x) k p) ρ).bind fun s => (ev e ρ).bind fun l => joinD s l else none
  | .Name x p, [e] => if ((ap.endLine == cp.line) && !isStarE e) = true then (ev (.Name x p) ρ).bind fun s => (ev e ρ).bind fun l => methD m s l else none
  | _, _ => none

/-! ### functions handed on -/
def lastOf : List Expr → Option (List Expr × Expr)
  | [] => none
  | [e] => some ([], e)
  | e :: es => (lastOf es).map fun p => (e :: p.1, p.2)
def actAt (ρ : DSt) (i : Nat) : Bool := match ρ[i]? with
  | some (some .act) => true
  | _ => false
def isAct (N : List Str) (sc : Scope) (x : Str) (ρ : DSt) : Bool := match sc.names.lookup x with
  | some .local => ((ixOf N x).map (actAt ρ)).getD false
  | some .cell => ((ixOf N x).map (actAt ρ)).getD false
  | some .free => ((ixOf N x).map (actAt ρ)).getD false
  | _ => false
def lamPar : Arguments → Option Str
  | ⟨[], [⟨x, none, _⟩], none, [], [], none, []⟩ => some x
  | _ => none
def lamB (sc scope : Scope) (x : Str) : Bool :=
  decide (scope.kind = .function) && (!scope.isCoroutine && (!scope.isGenerator && (decide (scope.names.lookup x = some .local) && scope.names.all fun y =>
    (!decide (y.2 = .local) || decide (y.1 = x)) && (!decide (y.2 = .cell) && (!decide (y.2 = .free) || (decide (sc.names.lookup y.1 = some .cell) || decide (sc.names.lookup y.1 = some .free)))))))
def datO : Option Sl → Option Sl
  | some (.dat d) => some (.dat d)
  | _ => none
def lamD (L : List Str → Scope → Expr → DSt → Option D) (N : List Str) (sc : Scope) (ps : Arguments) (body : Expr) (scope : Scope) (ρ : DSt) : Option (D → Option D) :=
  (lamPar ps).bind fun x => if lamB sc scope x = true then (ixOf N x).bind fun i => some fun d => L N scope body ((ρ.map datO).set i (some (.dat d))) else none
def hofE (T : Tab) (N : List Str) (sc : Scope) (ev : Expr → DSt → Option D) (G : List D → (D → Option D) → Option D) (args : List Expr) (ρ : DSt) : Option D := match lastOf args with
  | some (as, .Name x _) => T.ap.bind fun F => if isAct N sc x ρ = true then (evs ev as ρ).bind fun ds => G ds F else none
  | some (as, .Lambda ps body scope _) => (T.lev sc).bind fun L => (lamD L N sc ps body scope ρ).bind fun F => (evs ev as ρ).bind fun ds => G ds F
  | _ => none
def actE (T : Tab) (N : List Str) (sc : Scope) (ev : Expr → DSt → Option D) (f : Str) (args : List Expr) (ρ : DSt) : Option D := match args with
  | [e] => T.ap.bind fun F => if isAct N sc f ρ = true then (ev e ρ).bind F else none
  | _ => none
def stepE (T : Tab) (N : List Str) (ev : Ev) : Ev
  | _, sc, .Compare a [op] [b] _, ρ => cmpE T N sc (ev false sc) a op b ρ
  | _, sc, .Compare a [op, op'] [b, c] _, ρ => if (setless b && setless c) = true then (ev false sc a ρ).bind fun x => (ev false sc b ρ).bind fun y => ((cmpD op x y).bind asB).bind fun k =>
      if k = true then (ev false sc c ρ).bind fun z => cmpD op' y z else some (.bl false) else none
  | _, _, .Compare _ _ _ _, _ => none
  | true, sc, .UnaryOp .Not e _, ρ => ((ev true sc e ρ).bind asB).map fun b => .bl (!b)
  | true, sc, .BoolOp .And es _, ρ => boolT (ev true sc) true es ρ
  | true, sc, .BoolOp .Or es _, ρ => boolT (ev true sc) false es ρ
  | true, _, .IfExp _ _ _ _, _ => none
  | true, sc, e, ρ => (ev false sc e ρ).map fun d => .bl (truthD d)
  | false, sc, .Constant (.int i) _ _, _ => some (.int i)
  | false, sc, .Constant (.str x) _ _, _ => if sOk x = true then some (.str x) else none
  | false, sc, .Constant (.bool b) _ _, _ => some (.bl b)
  | false, sc, .Constant .none _ _, _ => some .non
  | false, sc, .Name x _, ρ => varD T N sc x ρ
  | false, sc, .BinOp a op b _, ρ => (ev false sc a ρ).bind fun x => (ev false sc b ρ).bind fun y => binD op x y
  | false, sc, .UnaryOp .Not e _, ρ => (ev false sc e ρ).map fun d => .bl (!truthD d)
  | false, sc, .UnaryOp .USub e _, ρ => ((ev false sc e ρ).bind asI).map fun i => .int (-i)
  | false, sc, .BoolOp .And es _, ρ => boolV (ev false sc) true es ρ
  | false, sc, .BoolOp .Or es _, ρ => boolV (ev false sc) false es ρ
  | false, sc, .IfExp c a b _, ρ => ((ev true sc c ρ).bind asB).bind fun k => if k = true then ev false sc a ρ else ev false sc b ρ
  | false, sc, .Tuple es _ _, ρ => (evs (ev false sc) es ρ).bind (capL D.tup)
  | false, sc, .List es _, ρ => (evs (ev false sc) es ρ).bind (capL D.lst)
  | false, sc, .Subscript a b _, ρ => subE T N sc (ev false sc) a b ρ
  | false, sc, .Call (.Attribute o m ap) args [] cp, ρ => methE (ev false sc) o m ap args cp ρ
  | false, sc, .Call (.Name f _) args [] _, ρ =>
    if isGl sc f = true then
      (if f = "isinstance" then
        match args with
        | [e, .Name t _] => if isGl sc t = true then (tyOf t).bind fun ty => (ev false sc e ρ).map fun d => .bl (isiB ty d) else none
        | _ => none
      else match bltOf f with
        | some b => (evs (ev false sc) args ρ).bind (bltD b)
        | none => match T.fn f with
          | some F => (evs (ev false sc) args ρ).bind F
          | none => match T.hof f with
            | some G => hofE T N sc (ev false sc) G args ρ
            | none => none)
    else actE T N sc (ev false sc) f args ρ
  | false, sc, .ListComp elt [⟨tg, iter, ifs, 0⟩] scope _, ρ =>
    if (setless iter && blkC N sc scope (ownOf N scope.names) && (tgStores scope tg && (T.lev (relS scope sc)).isNone)) = true then
      (tgOf N (relS scope sc) tg).bind fun t =>
      if (t.ixs.all fun i => ((ownOf N scope.names).map (·.2)).contains i) = true then
        (iterD (ev false sc) sc (isTupE tg) iter ρ).bind fun ds =>
        (compD (compF t (tstD (ev true (relS scope sc)) ifs)
          (ev false (relS scope sc) elt) (wipeD ρ ((ownOf N scope.names).map (·.2)))) ds).map D.lst
      else none
    else none
  | _, _, _, _ => none
noncomputable def evalD (T : Tab) (N : List Str) (n : Nat) : Ev := Nat.rec (fun _ _ _ _ => none) (fun _ ih => stepE T N ih) n

/-! ### statements: k is what comes behind -/
abbrev Kt := DSt → Option D
/-- what is owned by the names of ns becomes data -/
def frz1 : Option Sl → Option Sl
  | some (.own ds) => some (.dat (.lst ds))
  | some (.dct ks) => some (.dfz ks)
  | s => s
def frz (ρ : DSt) : List Nat → DSt
  | [] => ρ
  | i :: is => match ρ[i]? with
    | some s => frz (ρ.set i (frz1 s)) is
    | none => frz ρ is
/-- the names that are read in an expression -/
def rdsL (rds : Expr → List Str) : List Expr → List Str
  | [] => []
  | e :: es => rds e ++ rdsL rds es
def rdsO (rds : Expr → List Str) : Option Expr → List Str
  | none => []
  | some e => rds e
def rdsK (rds : Expr → List Str) : List (Option Expr) → List Str
  | [] => []
  | some e :: es => rds e ++ rdsK rds es
  | none :: es => rdsK rds es
def isPeek : Expr → Expr → Bool
  | _, .Slice _ _ _ _ => false
  | .Name _ _, _ => true
  | _, _ => false
def rds : Nat → Expr → List Str
  | 0, _ => []
  | n + 1, .Name x _ => [x]
  | n + 1, .BinOp a _ b _ => rds n a ++ rds n b
  | n + 1, .UnaryOp _ e _ => rds n e
  | n + 1, .BoolOp _ es _ => rdsL (rds n) es
  | n + 1, .IfExp c a b _ => rds n c ++ (rds n a ++ rds n b)
  | n + 1, .Compare a _ bs _ => rds n a ++ rdsL (rds n) bs
  | n + 1, .Tuple es _ _ => rdsL (rds n) es
  | n + 1, .List es _ => rdsL (rds n) es
  | n + 1, .Subscript a b _ => (if isPeek a b = true then [] else rds n a) ++ rds n b
  | n + 1, .Slice lo hi st _ => rdsO (rds n) lo ++ (rdsO (rds n) hi ++ rdsO (rds n) st)
  | n + 1, .Call f args _ _ => rds n f ++ rdsL (rds n) args
  | n + 1, .Attribute e _ _ => rds n e
  | n + 1, .Dict ks vs _ => rdsK (rds n) ks ++ rdsL (rds n) vs
  | n + 1, .ListComp elt [⟨_, iter, ifs, _⟩] _ _ => rds n elt ++ (rds n iter ++ rdsL (rds n) ifs)
  | _, _ => []
def ixsOf (N : List Str) : List Str → List Nat
  | [] => []
  | x :: xs => match ixOf N x with
    | some i => i :: ixsOf N xs
    | none => ixsOf N xs
/-- the state in which an expression of a statement is read -/
def dedup : List Nat → List Nat
  | [] => []
  | i :: is => if (is.any fun j => Nat.beq i j) = true then dedup is else i :: dedup is
def frzE (N : List Str) (e : Expr) (ρ : DSt) : DSt := frz ρ (dedup (ixsOf N (rds 20 e)))
def forD (put : D → DSt → Option DSt) (body : DSt → Kt → Option D) (k : Kt) : List D → DSt → Option D
  | [], ρ => k ρ
  | d :: ds, ρ => (put d ρ).bind fun ρ' => body ρ' (forD put body k ds)
def whileD (tst : DSt → Option Bool) (fz : DSt → DSt) (body : DSt → Kt → Option D) (k : Kt) : Nat → DSt → Option D
  | 0, _ => none
  | n + 1, ρ => (tst ρ).bind fun b => if b = true then body (fz ρ) (whileD tst fz body k n) else k (fz ρ)
def seqS (ex : Stmt → DSt → Kt → Option D) : List Stmt → DSt → Kt → Option D
  | [], ρ, k => k ρ
  | st :: sts, ρ, k => ex st ρ fun ρ' => seqS ex sts ρ' k
/-- what a for walks: a dict's keys, or what else there is -/
def iterX (N : List Str) (ev : Expr → DSt → Option D) (sc : Scope) (tup : Bool) (e : Expr) (ρ : DSt) : Option (List D) := match e with
  | .Name x p => match dfzNm N sc x ρ with
    | some ks => some ks
    | none => iterD ev sc tup (.Name x p) ρ
  | .Call (.Name f fp) [.Name x p] [] cp => match dlfNm N sc x ρ with
    | some m => if (decide (f = "sorted") && isGl sc f) = true then sortM m else none
    | none => iterD ev sc tup (.Call (.Name f fp) [.Name x p] [] cp) ρ
  | e => iterD ev sc tup e ρ
def noSl : Expr → Bool
  | .Slice _ _ _ _ => false
  | _ => true
def isComp : Expr → Bool
  | .ListComp _ _ _ _ => true
  | .SetComp _ _ _ _ => true
  | .DictComp _ _ _ _ _ => true
  | _ => false
def appD (ds : List D) (d : D) : Option (List D) := if ds.length < lim then some (ds ++ [d]) else none
def extD (ds : List D) : D → Option (List D)
  | .lst es => if ds.length + es.length ≤ lim then some (ds ++ es) else none
  | _ => none
def growOf (m : Str) : Option (List D → D → Option (List D)) := if m = "append" then some appD else if m = "extend" then some extD else none
def isLoc (sc : Scope) (x : Str) : Bool := match sc.names.lookup x with
  | some .local => true
  | _ => false
def isStar : Expr → Bool
  | .Starred _ _ => true
  | _ => false
/-- a, b = x, y: stored from the right (two plain locals); or by a tuple (one of them is a cell) -/
def parA (sc : Scope) (x y : Str) (p q : Pos) (a b : Expr) : Bool := isLoc sc x && isLoc sc y && (q.line == p.line) && decide (x ≠ y) && !(foldedForSure 8 a && foldedForSure 8 b) && !(constantsAlone 8 a && constantsAlone 8 b) && !isStar a && !isStar b
def parB (sc : Scope) (x y : Str) : Bool := !(isLoc sc x && isLoc sc y)
def parS (N : List Str) (sc : Scope) (ev : Ev) (tk : Nat) (tp : Pos) (tk2 : Nat) (ep : Pos) : List Expr → List Expr → DSt → Kt → Option D
  | [.Name x p, .Name y q], [a, b], ρ, k =>
    if parA sc x y p q a b = true then
      (tgIx N sc (.Name x p)).bind fun i => (tgIx N sc (.Name y q)).bind fun j =>
      (ev false sc a (frzE N (.Tuple [a, b] tk2 ep) ρ)).bind fun u => (ev false sc b (frzE N (.Tuple [a, b] tk2 ep) ρ)).bind fun v =>
        if i ≠ j then k (((frzE N (.Tuple [a, b] tk2 ep) ρ).set i (some (.dat u))).set j (some (.dat v))) else none
    else if parB sc x y = true then
      (tgOf N sc (.Tuple [.Name x p, .Name y q] tk tp)).bind fun t => (ev false sc (.Tuple [a, b] tk2 ep) (frzE N (.Tuple [a, b] tk2 ep) ρ)).bind fun d => (t.put d (frzE N (.Tuple [a, b] tk2 ep) ρ)).bind k
    else none
  | _, _, _, _ => none
def asgS (N mu : List Str) (sc : Scope) (ev : Ev) : Expr → Expr → DSt → Kt → Option D
  | .Name x p, e, ρ, k => match e with
    | .List es lp =>
      if mu.contains x = true then (tgIx N sc (.Name x p)).bind fun i => (evs (ev false sc) es (frzE N (.List es lp) ρ)).bind fun ds =>
        if ds.length ≤ lim then k ((frzE N (.List es lp) ρ).set i (some (.own ds))) else none
      else (tgIx N sc (.Name x p)).bind fun i => (ev false sc (.List es lp) (frzE N (.List es lp) ρ)).bind fun d => k ((frzE N (.List es lp) ρ).set i (some (.dat d)))
    | .Dict [] [] _ => (tgIx N sc (.Name x p)).bind fun i => if (mu.contains x && !ρ.any isDct) = true then k (ρ.set i (some (.dct []))) else none
    | e => (tgIx N sc (.Name x p)).bind fun i => (ev false sc e (frzE N e ρ)).bind fun d => k ((frzE N e ρ).set i (some (.dat d)))
  | .Subscript (.Name x p) ke _, .Constant (.bool true) _ _, ρ, k => if (mu.contains x && noSl ke) = true then (tgIx N sc (.Name x p)).bind fun i => (dctGet (frzE N ke ρ) i).bind fun ks => (ev false sc ke (frzE N ke ρ)).bind fun d => (putX ks d).bind fun ks' => k ((frzE N ke ρ).set i (some (.dct ks'))) else none
  | .Tuple ts tk tp, e, ρ, k => match e with
    | .Tuple es tk2 ep => parS N sc ev tk tp tk2 ep ts es ρ k
    | e => if isComp e = true then none else (tgOf N sc (.Tuple ts tk tp)).bind fun t => (ev false sc e (frzE N e ρ)).bind fun d => (t.put d (frzE N e ρ)).bind k
  | _, _, _, _ => none
def stepS (N mu : List Str) (sc : Scope) (ev : Ev) (ex : List Stmt → DSt → Kt → Option D) : Stmt → DSt → Kt → Option D
  | .Return (some e) _, ρ, _ => ev false sc e (frzE N e ρ)
  | .Return none _, _, _ => some .non
  | .Pass _, ρ, k => k ρ
  | .If c a b _, ρ, k => ((ev true sc c (frzE N c ρ)).bind asB).bind fun t => if t = true then ex a (frzE N c ρ) k else ex b (frzE N c ρ) k
  | .For tg iter body [] _, ρ, k => if setless iter = true then (tgOf N sc tg).bind fun t => (iterX N (ev false sc) sc (isTupE tg) iter (frzE N iter ρ)).bind fun ds => forD t.put (ex body) k ds (frzE N iter ρ) else none
  | .While c body [] _, ρ, k => whileD (fun ρ => (ev true sc c (frzE N c ρ)).bind asB) (frzE N c) (ex body) k 100 ρ
  | .Assign [tg] e _, ρ, k => asgS N mu sc ev tg e ρ k
  | .Expr (.Call (.Attribute (.Name x p) m ap) [e] [] cp) _, ρ, k =>
    if (ap.endLine == cp.line) = true then
      (growOf m).bind fun g => (tgIx N sc (.Name x p)).bind fun i => (ownGet (frzE N e ρ) i).bind fun ds => (ev false sc e (frzE N e ρ)).bind fun d => (g ds d).bind fun ds' => k ((frzE N e ρ).set i (some (.own ds')))
    else none
  | _, _, _ => none
noncomputable def exR (N mu : List Str) (sc : Scope) (ev : Ev) (m : Nat) : Stmt → DSt → Kt → Option D := Nat.rec (fun _ _ _ => none) (fun _ ih => stepS N mu sc ev (seqS ih)) m
noncomputable def execD (T : Tab) (N mu : List Str) (sc : Scope) : Stmt → DSt → Kt → Option D := exR N mu sc (evalD T N 30) 30
/-- a def's body, from its arguments -/
noncomputable def runD (T : Tab) (N mu ps : List Str) (sc : Scope) (body : List Stmt) (as : List D) : Option D :=
  if as.length = ps.length then seqS (execD T N mu sc) body (as.map (fun a => some (Sl.dat a)) ++ List.replicate (N.length - as.length) none) (fun _ => some .non)
  else none
end Sw
/-! ## the interpreter is right: expressions -/
namespace Sw
open PySem L2
variable [Tbs] [Acs]

def tD (K : PySem.W.Frag) (f : DSt → Option D) : TE := fun σ H Q => ∃ O L ρ d, SR K O L H σ ρ ∧ f ρ = some d ∧ Gives K O H d Q
def tT (K : PySem.W.Frag) (f : DSt → Option D) : TT := fun σ H Q => ∃ O L ρ b, SR K O L H σ ρ ∧ f ρ = some (.bl b) ∧ ∀ H', Same H H' → Q b H'
def tDs (K : PySem.W.Frag) (f : DSt → Option (List D)) : TA := fun σ H Q => ∃ O L ρ ds, SR K O L H σ ρ ∧ f ρ = some ds ∧ ∀ vs H', Same H H' → RepAll K (hid O H') vs ds → Q vs H'
def spD (K : PySem.W.Frag) (F : List D → Option D) (n : Nat) : Sp := fun vs H Q _ => vs.length = n ∧ ∃ O ds d, Dom O H ∧ RepAll K (hid O H) vs ds ∧ F ds = some d ∧ Gives K O H d Q

def bltNames : List Str := ["len", "int", "tuple", "list", "all", "any", "sum", "min", "isinstance", "range", "str", "bool", "max", "sorted", "enumerate", "zip"]
/-! ### functions handed on -/
/-- so deep may a lambda's body call -/
abbrev lowK : Nat := 20
def one1 (F : D → Option D) : List D → Option D
  | [d] => F d
  | _ => none
/-- the function at f does what F tells -/
def ActOk (P : Program) (w : World) (K : PySem.W.Frag) (mg : Str → Option Value) (base : Heap) (f : Addr) (F : D → Option D) : Prop := PySem.W.FnAt f base ∧ FnR P w K mg base CX0 (lowK + 1) f (spD K (one1 F) 1)
def spH (P : Program) (w : World) (K : PySem.W.Frag) (mg : Str → Option Value) (base : Heap) (G : List D → (D → Option D) → Option D) (n : Nat) : Sp := fun vs H Q _ => vs.length = n ∧
  ∃ vs' f F O ds d, vs = vs' ++ [.ref f] ∧ ActOk P w K mg base f F ∧ Dom O H ∧ RepAll K (hid O H) vs' ds ∧ G ds F = some d ∧ Gives K O H d Q
/-- a lambda can be made here -/
def MkOk (X : Cx) : Prop := ∃ c P, X.env.code = .ref c ∧ LamX.TabB X.base X.mg c P ∧ (P, X.env.qual ++ "<lambda>") ∈ Tbs.T ∧ ∀ p ∈ Tbs.T, p.1 = P → p.2 = X.env.qual ++ "<lambda>"
omit [Tbs] [Acs] in
def LevOk (prog : Program) (w : World) (K : PySem.W.Frag) (mg : Str → Option Value) (L : List Str → Scope → Expr → DSt → Option D) : Prop := ∀ (tb : Tbs) (ac : Acs) (X' : Cx), X'.prog = prog → X'.w = w → X'.K = K → X'.mg = mg → X'.calm = true → X'.N.Nodup → Room lowK X'.A →
  (∀ x ∈ X'.N, (x == ("__debug__" : Str)) = false ∧ (x == ("__classdict__" : Str)) = false) → ∀ e, PE X' e (@tD tb ac X'.K (L X'.N X'.env.scope e))
structure XOk (T : Tab) (k : Nat) (X : Cx) : Prop where
  calm : X.calm = true
  nd : X.N.Nodup
  room : Room k X.A
  nm : ∀ x ∈ X.N, (x == ("__debug__" : Str)) = false ∧ (x == ("__classdict__" : Str)) = false
  blt : ∀ x ∈ bltNames, X.mg x = none
  gl : ∀ x d, T.gl x = some d → ∃ v u, X.mg x = some u ∧ RelV v u ∧ (∀ H, Rep X.K H v d) ∧ (x == ("__debug__" : Str)) = false
  dg : ∀ d kvs, T.dg d = some kvs → ∃ a es n, X.mg d = some (.ref a) ∧ KDict X.K X.w a es n ∧ (∀ z : Str, ∃ r, PySem.W.nsIn X.K a z = some r ∧ ((∃ i t, getK kvs z = some i ∧ r = some (.int i t)) ∨ (getK kvs z = none ∧ r = none))) ∧ (d == ("__debug__" : Str)) = false
  fn : ∀ f F, T.fn f = some F → ∃ a fd ps, FnOk X.prog X.w X.K X.mg X.base CX0 k a fd ps (spD X.K F ps.length) ∧ X.mg f = some (.ref a) ∧ PySem.W.keepIn X.K (.ref a) = true ∧ Binds X.K fd ps [] ∧
    (f == ("__debug__" : Str)) = false ∧ f ≠ "__name__" ∧ ∀ ds d, F ds = some d → ds.length = ps.length
  act : ∀ F, T.ap = some F → lowK + 1 ≤ k ∧ ActOk X.prog X.w X.K X.mg X.base Acs.f F
  hof : ∀ g G, T.hof g = some G → ∃ a fd ps, (∀ (tb : Tbs) (bs : Heap), FnOk X.prog X.w X.K X.mg bs CX0 k a fd ps (@spH tb X.prog X.w X.K X.mg bs G ps.length)) ∧ X.mg g = some (.ref a) ∧ PySem.W.keepIn X.K (.ref a) = true ∧ Binds X.K fd ps [] ∧
    (g == ("__debug__" : Str)) = false ∧ g ≠ "__name__" ∧ ∀ ds F d, G ds F = some d → ds.length + 1 = ps.length
  lev : ∀ L, T.lev X.env.scope = some L → (∀ x, X.fn x = true) ∧ MkOk X ∧ LevOk X.prog X.w X.K X.mg L

section
variable {X : Cx} {T : Tab} {k : Nat}
theorem XOk.units (h : XOk T k X) : X.A.units + 200 < cLine := by have := h.room.un; omega
theorem PE.imp {e : Expr} {t t' : TE} (h : PE X e t) (i : ∀ σ H Q, t' σ H Q → t σ H Q) : PE X e t' := ⟨fun pins s σ H Q I q => h.run pins s σ H Q I (i σ H Q q)⟩
theorem PT.imp {e : Expr} {t t' : TT} (h : PT X e t) (i : ∀ σ H Q, t' σ H Q → t σ H Q) : PT X e t' := ⟨fun pins s σ H Q I q => h.run pins s σ H Q I (i σ H Q q)⟩
theorem PW.imp {e : Expr} {t t' : TT} (h : PW X e t) (i : ∀ σ H Q, t' σ H Q → t σ H Q) : PW X e t' := ⟨fun wh pins s σ H Q I q => h.run wh pins s σ H Q I (i σ H Q q)⟩
theorem PA.imp {es : List Expr} {t t' : TA} (h : PA X es t) (i : ∀ σ H Q, t' σ H Q → t σ H Q) : PA X es t' := ⟨fun pos pins s σ H Q I q => h.run pos pins s σ H Q I (i σ H Q q)⟩
theorem pe_no {e : Expr} {f : DSt → Option D} (h : ∀ ρ, f ρ = none) : PE X e (tD X.K f) := ⟨fun pins s σ H Q I q => by
  obtain ⟨O, L, ρ, d, _, e, _⟩ := q
  rw [h] at e; cases e⟩
theorem pt_no {e : Expr} {f : DSt → Option D} (h : ∀ ρ, f ρ = none) : PT X e (tT X.K f) := ⟨fun pins s σ H Q I q => by
  obtain ⟨O, L, ρ, d, _, e, _⟩ := q
  rw [h] at e; cases e⟩
theorem pw_no {e : Expr} {f : DSt → Option D} (h : ∀ ρ, f ρ = none) : PW X e (tT X.K f) := ⟨fun wh pins s σ H Q I q => by
  obtain ⟨O, L, ρ, d, _, e, _⟩ := q
  rw [h] at e; cases e⟩
theorem bind_inv {α β : Type} {o : Option α} {f : α → Option β} {b : β} (h : o.bind f = some b) : ∃ a, o = some a ∧ f a = some b := by
  cases o with
  | none => cases h
  | some a => exact ⟨a, rfl, h⟩
theorem map_inv {α β : Type} {o : Option α} {f : α → β} {b : β} (h : o.map f = some b) : ∃ a, o = some a ∧ f a = b := by
  cases o with
  | none => cases h
  | some a => cases h; exact ⟨a, rfl, rfl⟩
theorem asB_inv {d : D} {b : Bool} (h : asB d = some b) : d = .bl b := by cases d <;> cases h; rfl
theorem asI_inv {d : D} {i : Int} (h : asI d = some i) : d = .int i := by cases d <;> cases h; rfl
theorem ixOf_get : ∀ {N : List Str} {x : Str} {i : Nat}, ixOf N x = some i → N[i]? = some x
  | y :: ys, x, i, h => by
    unfold ixOf at h
    split at h
    · rename_i e
      cases h
      rw [e]; rfl
    · obtain ⟨j, h1, h2⟩ := map_inv h
      subst h2
      rw [List.getElem?_cons_succ]
      exact ixOf_get h1
variable {a b c : Expr} {pos : Pos} {fa fb fc : DSt → Option D}
/-! ### names, constants -/
theorem de_const {v : V} {d : D} {e : Expr} (h : PE X e (tC v)) (r : ∀ H, Rep X.K H v d) : PE X e (tD X.K fun _ => some d) :=
  PE.imp h fun σ H Q ⟨O, L, ρ, d', s, e, g⟩ => by
    cases e
    exact g.here (r _)
theorem de_slot {x : Str} {sc : Scope} (hX : XOk T k X) (hv : Vis X.env.scope x) : PE X (.Name x pos) (tD X.K fun ρ => (ixOf X.N x).bind (getD' ρ)) := by
  cases q : ixOf X.N x with
  | none => exact pe_no fun _ => rfl
  | some i =>
    have hi := ixOf_get q
    have hn := hX.nm x (List.mem_of_getElem? hi)
    refine PE.imp (pe_var hi hv hn.1 hn.2) fun σ H Q ⟨O, L, ρ, d, s, e, g⟩ => ?_
    have e : getD' ρ i = some d := e
    unfold getD' at e
    split at e
    · rename_i d' e1
      cases e
      obtain ⟨v, h1, h2⟩ := s.dat i d e1
      exact ⟨v, h1, g.here h2⟩
    · cases e
theorem de_var {x : Str} (hX : XOk T k X) : PE X (.Name x pos) (tD X.K (varD T X.N X.env.scope x)) := by
  unfold varD
  split
  · rename_i h; exact de_slot (sc := X.env.scope) hX (.inl h)
  · rename_i h; exact de_slot (sc := X.env.scope) hX (.inr (.inl h))
  · rename_i h; exact de_slot (sc := X.env.scope) hX (.inr (.inr h))
  · rename_i h
    cases q : T.gl x with
    | none => exact pe_no fun _ => rfl
    | some d =>
      obtain ⟨v, u, h1, h2, h3, h4⟩ := hX.gl x d q
      exact de_const (pe_glob h h1 h2 h4) h3
  · exact pe_no fun _ => rfl
/-! ### operators -/
theorem de_op2 {e : Expr} {r : R2} {f : D → D → Option D} (h : PE X e (tOp r (tD X.K fa) (tD X.K fb))) (i : ∀ x y H Q, r2D X.K f x y H Q → r x y H Q) : PE X e (tD X.K fun ρ => (fa ρ).bind fun x => (fb ρ).bind fun y => f x y) :=
  PE.imp h fun σ H Q ⟨O, L, ρ, d, s, e, g⟩ => by
    obtain ⟨x, e1, e⟩ := bind_inv e
    obtain ⟨y, e2, e3⟩ := bind_inv e
    exact ⟨O, L, ρ, x, s, e1, fun v H1 s1 r1 => ⟨O, L, ρ, y, s.same s1, e2, fun u H2 s2 r2 =>
      i v u H2 Q ⟨O, x, y, d, (Dom.same s.dom s1).same s2, r1.mono (hid_same s2), r2, e3, g.after (s1.trans s2)⟩⟩⟩
theorem de_bin {op : Operator} (ha : PE X a (tD X.K fa)) (hb : PE X b (tD X.K fb)) : PE X (.BinOp a op b pos) (tD X.K fun ρ => (fa ρ).bind fun x => (fb ρ).bind fun y => binD op x y) :=
  de_op2 (pe_op (op_binD op) ha hb) fun _ _ _ _ h => h
theorem setless_mark {b : Expr} (h : setless b = true) (op : CmpOp) : behindInMarks op b = false := by
  cases b <;> first | rfl | cases h
theorem de_cmp {op : CmpOp} (hX : XOk T k X) (ha : PE X a (tD X.K fa)) (hb : PE X b (tD X.K fb)) : PE X (.Compare a [op] [b] pos) (tD X.K fun ρ => if setless b = true then (fa ρ).bind fun x => (fb ρ).bind fun y => cmpD op x y else none) := by
  by_cases h : setless b = true
  · simp only [if_pos h]
    exact de_op2 (pe_cmpR (op_cmpD hX.units op) ha hb (setless_mark h op)) fun _ _ _ _ h => h
  · simp only [if_neg h]
    exact pe_no fun _ => rfl
theorem de_not (ha : PE X a (tD X.K fa)) : PE X (.UnaryOp .Not a pos) (tD X.K fun ρ => (fa ρ).map fun d => .bl (!truthD d)) :=
  PE.imp (pe_notT ha) fun σ H Q ⟨O, L, ρ, d, s, e, g⟩ => by
    obtain ⟨x, e1, e2⟩ := map_inv e
    subst e2
    exact ⟨O, L, ρ, x, s, e1, fun v H1 s1 r1 => ⟨_, (r1.mono hid_le).tru, g.after s1 _ _ (Same.refl _) (.bl _)⟩⟩
theorem de_neg (ha : PE X a (tD X.K fa)) : PE X (.UnaryOp .USub a pos) (tD X.K fun ρ => ((fa ρ).bind asI).map fun i => .int (-i)) :=
  PE.imp (pe_un un_neg ha) fun σ H Q ⟨O, L, ρ, d, s, e, g⟩ => by
    obtain ⟨x, e1, e2⟩ := map_inv e
    subst e2
    obtain ⟨y, e3, e4⟩ := bind_inv e1
    have := asI_inv e4
    subst this
    exact ⟨O, L, ρ, _, s, e3, fun v H1 s1 r1 => by
      cases r1
      exact ⟨x, rfl, g.after s1 _ _ (Same.refl _) (.int _)⟩⟩
theorem de_chain {op op' : CmpOp} (hX : XOk T k X) (ha : PE X a (tD X.K fa)) (hb : PE X b (tD X.K fb)) (hc : PE X c (tD X.K fc)) :
    PE X (.Compare a [op, op'] [b, c] pos) (tD X.K fun ρ => if (setless b && setless c) = true then (fa ρ).bind fun x => (fb ρ).bind fun y => ((cmpD op x y).bind asB).bind fun k =>
      if k = true then (fc ρ).bind fun z => cmpD op' y z else some (.bl false) else none) := by
  by_cases h : (setless b && setless c) = true
  · simp only [if_pos h]
    obtain ⟨h1, h2⟩ := Bool.and_eq_true_iff.mp h
    refine PE.imp (pe_chain (op_cmpD hX.units op) (op_cmpD hX.units op') ha hb hc (show lastMarks [op, op'] [b, c] = false from setless_mark h2 op')) fun σ H Q ⟨O, L, ρ, d, s, e, g⟩ => ?_
    obtain ⟨x, e1, e⟩ := bind_inv e
    obtain ⟨y, e2, e⟩ := bind_inv e
    obtain ⟨t, e3, e⟩ := bind_inv e
    obtain ⟨w, e4, e5⟩ := bind_inv e3
    have := asB_inv e5
    subst this
    refine ⟨O, L, ρ, x, s, e1, fun v H1 s1 r1 => ⟨O, L, ρ, y, s.same s1, e2, fun u H2 s2 r2 => ⟨O, x, y, .bl t, (Dom.same s.dom s1).same s2, r1.mono (hid_same s2), r2, e4, fun w H3 s3 r3 => ?_⟩⟩⟩
    cases r3
    refine ⟨t, rfl, ?_⟩
    cases t with
    | false =>
      cases e
      exact g.after (s1.trans (s2.trans s3)) _ _ (Same.refl _) (.bl _)
    | true =>
      obtain ⟨z, e6, e7⟩ := bind_inv (show ((fc ρ).bind fun z => cmpD op' y z) = some d from e)
      exact ⟨O, L, ρ, z, ((s.same s1).same s2).same s3, e6, fun u2 H4 s4 r4 => ⟨O, y, z, d, (((Dom.same s.dom s1).same s2).same s3).same s4, (r2.mono (hid_same s3)).mono (hid_same s4), r4, e7, g.after (s1.trans (s2.trans (s3.trans s4)))⟩⟩
  · simp only [if_neg h]
    exact pe_no fun _ => rfl
theorem de_ifExp (hc : PT X c (tT X.K fc)) (ha : PE X a (tD X.K fa)) (hb : PE X b (tD X.K fb)) : PE X (.IfExp c a b pos) (tD X.K fun ρ => ((fc ρ).bind asB).bind fun k => if k = true then fa ρ else fb ρ) :=
  PE.imp (pe_ifExp hc ha hb) fun σ H Q ⟨O, L, ρ, d, s, e, g⟩ => by
    obtain ⟨t, e1, e⟩ := bind_inv e
    obtain ⟨w, e2, e3⟩ := bind_inv e1
    have := asB_inv e3
    subst this
    refine ⟨O, L, ρ, t, s, e2, fun H1 s1 => ?_⟩
    cases t with
    | true => exact ⟨O, L, ρ, d, s.same s1, e, g.after s1⟩
    | false => exact ⟨O, L, ρ, d, s.same s1, e, g.after s1⟩
/-! ### and, or -/
theorem de_boolV {isAnd : Bool} {ev : Expr → DSt → Option D} (h : ∀ e, PE X e (tD X.K (ev e))) : ∀ es : List Expr, PE X (.BoolOp (if isAnd then .And else .Or) es pos) (tD X.K (boolV ev isAnd es))
  | [] => pe_no fun _ => rfl
  | [e] => pe_one (h e)
  | e :: e2 :: es => by
    have ih := de_boolV (isAnd := isAnd) h (e2 :: es)
    cases isAnd with
    | true =>
      refine PE.imp (pe_andT (h e) ih) fun σ H Q ⟨O, L, ρ, d, s, e, g⟩ => ?_
      obtain ⟨x, e1, e⟩ := bind_inv e
      refine ⟨O, L, ρ, x, s, e1, fun v H1 s1 r1 => ⟨_, (r1.mono hid_le).tru, ?_⟩⟩
      by_cases q : truthD x = true
      · rw [if_pos q] at e ⊢
        exact ⟨O, L, ρ, d, s.same s1, e, g.after s1⟩
      · rw [if_neg q] at e ⊢
        cases e
        exact g.after s1 _ _ (Same.refl _) r1
    | false =>
      refine PE.imp (pe_orT (h e) ih) fun σ H Q ⟨O, L, ρ, d, s, e, g⟩ => ?_
      obtain ⟨x, e1, e⟩ := bind_inv e
      refine ⟨O, L, ρ, x, s, e1, fun v H1 s1 r1 => ⟨_, (r1.mono hid_le).tru, ?_⟩⟩
      by_cases q : truthD x = true
      · rw [if_neg (by rw [q]; decide)] at e
        rw [if_pos q]
        cases e
        exact g.after s1 _ _ (Same.refl _) r1
      · rw [if_pos (by simpa using q)] at e
        rw [if_neg q]
        exact ⟨O, L, ρ, d, s.same s1, e, g.after s1⟩
theorem de_boolT {isAnd : Bool} {ev : Expr → DSt → Option D} (h : ∀ e, PT X e (tT X.K (ev e))) : ∀ es : List Expr, PW X (.BoolOp (if isAnd then .And else .Or) es pos) (tT X.K (boolT ev isAnd es))
  | [] => pw_no fun _ => rfl
  | [e] => by
    cases isAnd with
    | true => exact pw_and1 (h e)
    | false => exact pw_or1 (h e)
  | e :: e2 :: es => by
    have ih := de_boolT (isAnd := isAnd) h (e2 :: es)
    cases isAnd with
    | true =>
      refine PW.imp (pw_and (h e) ih) fun σ H Q ⟨O, L, ρ, d, s, e, g⟩ => ?_
      obtain ⟨t, e1, e⟩ := bind_inv e
      obtain ⟨w, e2, e3⟩ := bind_inv e1
      have := asB_inv e3
      subst this
      refine ⟨O, L, ρ, t, s, e2, fun H1 s1 => ?_⟩
      cases t with
      | true => exact ⟨O, L, ρ, d, s.same s1, e, fun H2 s2 => g _ (s1.trans s2)⟩
      | false => cases e; exact g _ s1
    | false =>
      refine PW.imp (pw_or (h e) ih) fun σ H Q ⟨O, L, ρ, d, s, e, g⟩ => ?_
      obtain ⟨t, e1, e⟩ := bind_inv e
      obtain ⟨w, e2, e3⟩ := bind_inv e1
      have := asB_inv e3
      subst this
      refine ⟨O, L, ρ, t, s, e2, fun H1 s1 => ?_⟩
      cases t with
      | false => exact ⟨O, L, ρ, d, s.same s1, e, fun H2 s2 => g _ (s1.trans s2)⟩
      | true => cases e; exact g _ s1
/-! ### tests -/
theorem dt_not (ha : PT X a (tT X.K fa)) : PT X (.UnaryOp .Not a pos) (tT X.K fun ρ => ((fa ρ).bind asB).map fun b => .bl (!b)) :=
  PT.imp (pt_not ha) fun σ H Q ⟨O, L, ρ, d, s, e, g⟩ => by
    obtain ⟨t, e1, e2⟩ := map_inv e
    obtain ⟨w, e3, e4⟩ := bind_inv e1
    have := asB_inv e4
    subst this
    cases e2
    exact ⟨O, L, ρ, t, s, e3, g⟩
theorem dt_truth {e : Expr} {fe : DSt → Option D} (he : PE X e (tD X.K fe)) (hi : ∀ whole, isTrue e X.env whole = (do let v ← whole; standAt e.pos; holding [v] (truthy v))) : PT X e (tT X.K fun ρ => (fe ρ).map fun d => .bl (truthD d)) :=
  PT.imp (pt_truth he hi) fun σ H Q ⟨O, L, ρ, d, s, e, g⟩ => by
    obtain ⟨x, e1, e2⟩ := map_inv e
    cases e2
    exact ⟨O, L, ρ, x, s, e1, fun v H1 s1 r1 => ⟨_, (r1.mono hid_le).tru, g _ s1⟩⟩
theorem dt_cmp {op : CmpOp} (hX : XOk T k X) (ha : PE X a (tD X.K fa)) (hb : PE X b (tD X.K fb)) : PT X (.Compare a [op] [b] pos) (tT X.K fun ρ => if setless b = true then (fa ρ).bind fun x => (fb ρ).bind fun y => cmpD op x y else none) := by
  by_cases h : setless b = true
  · simp only [if_pos h]
    refine PT.imp (pt_cmpR (op_cmpD hX.units op) ha hb (setless_mark h op)) fun σ H Q ⟨O, L, ρ, d, s, e, g⟩ => ?_
    obtain ⟨x, e1, e⟩ := bind_inv e
    obtain ⟨y, e2, e3⟩ := bind_inv e
    exact ⟨O, L, ρ, x, s, e1, fun v H1 s1 r1 => ⟨O, L, ρ, y, s.same s1, e2, fun u H2 s2 r2 => ⟨O, x, y, _, (Dom.same s.dom s1).same s2, r1.mono (hid_same s2), r2, e3, fun w H3 s3 r3 => by
      cases r3
      exact ⟨_, rfl, g _ (s1.trans (s2.trans s3))⟩⟩⟩⟩
  · simp only [if_neg h]
    exact pt_no fun _ => rfl
theorem dt_chain {op op' : CmpOp} (hX : XOk T k X) (ha : PE X a (tD X.K fa)) (hb : PE X b (tD X.K fb)) (hc : PE X c (tD X.K fc)) :
    PT X (.Compare a [op, op'] [b, c] pos) (tT X.K fun ρ => if (setless b && setless c) = true then (fa ρ).bind fun x => (fb ρ).bind fun y => ((cmpD op x y).bind asB).bind fun k =>
      if k = true then (fc ρ).bind fun z => cmpD op' y z else some (.bl false) else none) := by
  by_cases h : (setless b && setless c) = true
  · simp only [if_pos h]
    obtain ⟨h1, h2⟩ := Bool.and_eq_true_iff.mp h
    refine PT.imp (pt_chain (op_cmpD hX.units op) (op_cmpD hX.units op') ha hb hc (show lastMarks [op, op'] [b, c] = false from setless_mark h2 op')) fun σ H Q ⟨O, L, ρ, d, s, e, g⟩ => ?_
    obtain ⟨x, e1, e⟩ := bind_inv e
    obtain ⟨y, e2, e⟩ := bind_inv e
    obtain ⟨t, e3, e⟩ := bind_inv e
    obtain ⟨w, e4, e5⟩ := bind_inv e3
    have := asB_inv e5
    subst this
    refine ⟨O, L, ρ, x, s, e1, fun v H1 s1 r1 => ⟨O, L, ρ, y, s.same s1, e2, fun u H2 s2 r2 => ⟨O, x, y, .bl t, (Dom.same s.dom s1).same s2, r1.mono (hid_same s2), r2, e4, fun w H3 s3 r3 => ?_⟩⟩⟩
    cases r3
    refine ⟨t, rfl, ?_⟩
    cases t with
    | false =>
      cases e
      exact ⟨_, rfl, g _ (s1.trans (s2.trans s3))⟩
    | true =>
      obtain ⟨z, e6, e7⟩ := bind_inv (show ((fc ρ).bind fun z => cmpD op' y z) = some (.bl d) from e)
      exact ⟨O, L, ρ, z, ((s.same s1).same s2).same s3, e6, fun u2 H4 s4 r4 => ⟨O, y, z, _, (((Dom.same s.dom s1).same s2).same s3).same s4, (r2.mono (hid_same s3)).mono (hid_same s4), r4, e7, fun w5 H5 s5 r5 => by
        cases r5
        exact ⟨_, rfl, g _ (s1.trans (s2.trans (s3.trans (s4.trans s5))))⟩⟩⟩
  · simp only [if_neg h]
    exact pt_no fun _ => rfl
end
end Sw
/-! ## the interpreter is right: displays, subscripts, calls -/
namespace Sw
open PySem L2
variable [Tbs] [Acs]
section
variable {X : Cx} {T : Tab} {k : Nat} {a b c : Expr} {pos p p2 : Pos} {fa fb fc : DSt → Option D} {es : List Expr} {ev : Expr → DSt → Option D}
def notStar : Expr → Bool
  | .Starred _ _ => false
  | _ => true
theorem star_cons {e : Expr} (h : notStar e = true) (es : List Expr) (env : Env) : starEach (e :: es) env = (false, eval e env) :: starEach es env := by
  cases e <;> first | rfl | cases h
theorem star_any (pos : Pos) (env : Env) : ∀ es : List Expr, es.all notStar = true → (backTo pos (starEach es env)).any (·.1) = false
  | [], _ => rfl
  | e :: es, h => by
    obtain ⟨h1, h2⟩ := Bool.and_eq_true_iff.mp (show (notStar e && es.all notStar) = true from h)
    rw [star_cons h1]
    have ih := star_any pos env es h2
    first
      | exact ih
      | (cases es <;> first | rfl | exact ih)
def NoStar (ev : Expr → DSt → Option D) : Prop := ∀ e p ρ, ev (.Starred e p) ρ = none
theorem evs_star (hs : NoStar ev) : ∀ {es : List Expr} {ρ : DSt} {ds : List D}, evs ev es ρ = some ds → es.all notStar = true
  | [], _, _, _ => rfl
  | e :: es, ρ, ds, h => by
    obtain ⟨d, h1, h2⟩ := bind_inv (show (ev e ρ).bind (fun d => (evs ev es ρ).bind fun ds => some (d :: ds)) = some ds from h)
    obtain ⟨ds', h3, h4⟩ := bind_inv h2
    refine Bool.and_eq_true_iff.mpr ⟨?_, evs_star hs h3⟩
    cases e <;> first | rfl | (rw [hs] at h1; cases h1)
theorem da_args (h : ∀ e, PE X e (tD X.K (ev e))) : ∀ es : List Expr, es.all notStar = true → PA X es (tDs X.K (evs ev es))
  | [], _ => PA.imp pa_nil fun σ H Q ⟨O, L, ρ, ds, s, e, g⟩ => by
    cases e
    exact g [] H (Same.refl H) .nil
  | e :: es, hn => by
    obtain ⟨h1, h2⟩ := Bool.and_eq_true_iff.mp (show (notStar e && es.all notStar) = true from hn)
    refine PA.imp (pa_cons (h e) (da_args h es h2) (star_cons h1 _ _)) fun σ H Q ⟨O, L, ρ, ds, s, e, g⟩ => ?_
    obtain ⟨d, e1, e⟩ := bind_inv e
    obtain ⟨ds', e2, e3⟩ := bind_inv e
    cases e3
    exact ⟨O, L, ρ, d, s, e1, fun v H1 s1 r1 => ⟨O, L, ρ, ds', s.same s1, e2, fun vs H2 s2 r2 => g _ _ (s1.trans s2) (.cons (r1.mono (hid_same s2)) r2)⟩⟩
theorem pa_all (hs : NoStar ev) (h : ∀ e, PE X e (tD X.K (ev e))) {e : Expr} {F : List D → Option D} (hp : es.all notStar = true → PE X e (tD X.K fun ρ => (evs ev es ρ).bind F)) : PE X e (tD X.K fun ρ => (evs ev es ρ).bind F) := by
  by_cases hn : es.all notStar = true
  · exact hp hn
  · refine pe_no fun ρ => ?_
    cases q : evs ev es ρ with
    | none => rfl
    | some ds => exact absurd (evs_star hs q) hn
theorem de_tup {k0 : Nat} (hs : NoStar ev) (h : ∀ e, PE X e (tD X.K (ev e))) : PE X (.Tuple es k0 pos) (tD X.K fun ρ => (evs ev es ρ).bind (capL D.tup)) := by
  refine pa_all hs h fun hn => PE.imp (pe_tup (da_args h es hn)) fun σ H Q ⟨O, L, ρ, d, s, e, g⟩ => ?_
  obtain ⟨ds, e1, e⟩ := bind_inv e
  unfold capL at e
  split at e
  · rename_i hl
    cases e
    refine ⟨O, L, ρ, ds, s, e1, fun vs H1 s1 r1 => ⟨lim_le (by rw [r1.length]; exact hl), fun q hq => ?_⟩⟩
    exact (g.after s1).tup (Dom.same s.dom s1) r1 hl hq
  · cases e
theorem de_lst (hs : NoStar ev) (h : ∀ e, PE X e (tD X.K (ev e))) : PE X (.List es pos) (tD X.K fun ρ => (evs ev es ρ).bind (capL D.lst)) := by
  refine pa_all hs h fun hn => PE.imp (pe_lst (da_args h es hn)) fun σ H Q ⟨O, L, ρ, d, s, e, g⟩ => ?_
  obtain ⟨ds, e1, e⟩ := bind_inv e
  unfold capL at e
  split at e
  · rename_i hl
    cases e
    refine ⟨O, L, ρ, ds, s, e1, fun vs H1 s1 r1 => ⟨lim_le (by rw [r1.length]; exact hl), fun q hq => ?_⟩⟩
    exact (g.after s1).lst (Dom.same s.dom s1) r1 hl hq
  · cases e
/-! ### subscripts -/
def notSlice : Expr → Bool
  | .Slice _ _ _ _ => false
  | _ => true
theorem plain_ix (h : notSlice b = true) : PlainIx b := by
  intro o i
  cases b <;> first | rfl | cases h
theorem de_ix (ha : PE X a (tD X.K fa)) (hb : PE X b (tD X.K fb)) (hn : notSlice b = true) : PE X (.Subscript a b pos) (tD X.K fun ρ => (fa ρ).bind fun x => (fb ρ).bind fun y => ixD x y) :=
  de_op2 (pe_ix ix_D ha hb (plain_ix hn)) fun _ _ _ _ h => h
def tOI (K : PySem.W.Frag) (f : DSt → Option (Option Int)) : TO := fun σ H Q => ∃ O L ρ i, SR K O L H σ ρ ∧ f ρ = some i ∧ ∀ H', Same H H' → Q i H'
theorem PO.imp {e : Option Expr} {t t' : TO} (h : PO X e t) (i : ∀ σ H Q, t' σ H Q → t σ H Q) : PO X e t' := by
  refine ⟨fun pins s σ H Q I q => ?_⟩
  exact h.run pins s σ H Q I (i σ H Q q)
theorem do_opt (h : ∀ e, PE X e (tD X.K (ev e))) : ∀ o : Option Expr, PO X o (tOI X.K (optI ev o))
  | none => PO.imp po_none fun σ H Q ⟨O, L, ρ, i, s, e, g⟩ => by
    cases e
    exact g H (Same.refl H)
  | some e => PO.imp (po_some (h e)) fun σ H Q ⟨O, L, ρ, i, s, e, g⟩ => by
    obtain ⟨j, e1, e2⟩ := bind_inv e
    cases e2
    obtain ⟨d, e3, e4⟩ := bind_inv e1
    have := asI_inv e4
    subst this
    refine ⟨O, L, ρ, _, s, e3, fun v H1 s1 r1 => ?_⟩
    cases r1
    exact ⟨j, rfl, g _ s1⟩
theorem de_slice {lo hi : Option Expr} (ha : PE X a (tD X.K fa)) (h : ∀ e, PE X e (tD X.K (ev e))) : PE X (.Subscript a (.Slice lo hi none p2) pos) (tD X.K fun ρ => (fa ρ).bind fun x => (optI ev lo ρ).bind fun l => (optI ev hi ρ).bind fun u => sliceD x l u) := by
  refine PE.imp (pe_slice sl_D ha (do_opt h lo) (do_opt h hi)) fun σ H Q ⟨O, L, ρ, d, s, e, g⟩ => ?_
  obtain ⟨x, e1, e⟩ := bind_inv e
  obtain ⟨l, e2, e⟩ := bind_inv e
  obtain ⟨u, e3, e4⟩ := bind_inv e
  exact ⟨O, L, ρ, x, s, e1, fun v H1 s1 r1 => ⟨O, L, ρ, l, s.same s1, e2, fun H2 s2 => ⟨O, L, ρ, u, (s.same s1).same s2, e3, fun H3 s3 =>
    ⟨O, x, d, ((Dom.same s.dom s1).same s2).same s3, (r1.mono (hid_same s2)).mono (hid_same s3), e4, g.after (s1.trans (s2.trans s3))⟩⟩⟩⟩
/-! ### calls -/
theorem gl_of {x : Str} (h : isGl X.env.scope x = true) : Gl X x := by
  unfold isGl at h
  split at h
  · assumption
  · cases h
theorem de_cb {x : Str} {F : List D → Option D} {r : List V → Hp → VK → Prop} {e : Expr} {es : List Expr} (h : ∀ e, PE X e (tD X.K (ev e))) (hn : (e :: es).all notStar = true)
    (hc : ∀ {t : TA}, PA X (e :: es) t → PE X (.Call (.Name x p) (e :: es) [] pos) (tCB r t)) (hr : ∀ xs H Q, rsD X.K F xs H Q → r xs H Q) : PE X (.Call (.Name x p) (e :: es) [] pos) (tD X.K fun ρ => (evs ev (e :: es) ρ).bind F) := by
  refine PE.imp (hc (da_args h (e :: es) hn)) fun σ H Q ⟨O, L, ρ, d, s, e, g⟩ => ?_
  obtain ⟨ds, e1, e2⟩ := bind_inv e
  exact ⟨O, L, ρ, ds, s, e1, fun vs H1 s1 r1 => hr _ _ _ ⟨O, ds, d, Dom.same s.dom s1, r1, e2, g.after s1⟩⟩
theorem de_builtin {x : Str} {id : String} {F : List D → Option D} (hs : NoStar ev) (h : ∀ e, PE X e (tD X.K (ev e))) (hg : Gl X x) (hm : X.mg x = none) (hv : bootBuiltins x = some (.builtin id)) (hc : CallR X (.builtin id) (rsD X.K F)) (h0 : F [] = none)
    (hn : x ≠ "__name__") (hd : (x == ("__debug__" : Str)) = false) : PE X (.Call (.Name x p) es [] pos) (tD X.K fun ρ => (evs ev es ρ).bind F) := by
  refine pa_all hs h fun hst => ?_
  cases es with
  | nil => exact pe_no fun ρ => h0
  | cons e es =>
    obtain ⟨h1, h2⟩ := Bool.and_eq_true_iff.mp (show (notStar e && es.all notStar) = true from hst)
    exact de_cb h hst (fun ha => pe_callB hc hg hm hv ha hn hd (star_cons h1 _ _) (star_any _ _ _ h2)) fun _ _ _ q => q
theorem de_type {x : Str} {id : String} {F : List D → Option D} (hs : NoStar ev) (h : ∀ e, PE X e (tD X.K (ev e))) (hg : Gl X x) (hm : X.mg x = none) (hv : bootBuiltins x = some (.type id)) (hc : CallR X (.type id) (rsD X.K F)) (h0 : F [] = none)
    (hn : x ≠ "__name__") (hd : (x == ("__debug__" : Str)) = false) : PE X (.Call (.Name x p) es [] pos) (tD X.K fun ρ => (evs ev es ρ).bind F) := by
  refine pa_all hs h fun hst => ?_
  cases es with
  | nil => exact pe_no fun ρ => h0
  | cons e es =>
    obtain ⟨h1, h2⟩ := Bool.and_eq_true_iff.mp (show (notStar e && es.all notStar) = true from hst)
    exact de_cb h hst (fun ha => pe_callTy hc hg hm hv ha hn hd (star_cons h1 _ _) (star_any _ _ _ h2)) fun _ _ _ q => q
theorem de_fn {x : Str} {F : List D → Option D} (hX : XOk T k X) (hs : NoStar ev) (h : ∀ e, PE X e (tD X.K (ev e))) (hg : Gl X x) (hF : T.fn x = some F) : PE X (.Call (.Name x p) es [] pos) (tD X.K fun ρ => (evs ev es ρ).bind F) := by
  obtain ⟨f, fd, ps, G, hm, hk, hb, hd, hnn, hlen⟩ := hX.fn x F hF
  refine pa_all hs h fun hst => ?_
  cases es with
  | nil =>
    refine PE.imp (pe_call0 G hX.room hg hm hk hb .nil pass0 hd) fun σ H Q ⟨O, L, ρ, d, s, e, g⟩ => ?_
    exact ⟨hlen _ _ e, O, [], d, s.dom, .nil, e, g⟩
  | cons e es =>
    obtain ⟨h1, h2⟩ := Bool.and_eq_true_iff.mp (show (notStar e && es.all notStar) = true from hst)
    refine PE.imp (pe_call G hX.room hg hm hk hb .nil pass0 (da_args h (e :: es) hst) hd (star_cons h1 _ _) (star_any _ _ _ h2)) fun σ H Q ⟨O, L, ρ, d, s, e, g⟩ => ?_
    obtain ⟨ds, e1, e2⟩ := bind_inv e
    refine ⟨O, L, ρ, ds, s, e1, fun vs H1 s1 r1 => ?_⟩
    show spD X.K F ps.length (vs ++ []) H1 Q E0
    rw [List.append_nil]
    exact ⟨by rw [r1.length]; exact hlen _ _ e2, O, ds, d, Dom.same s.dom s1, r1, e2, g.after s1⟩
theorem blt_mem {x : Str} (hX : XOk T k X) (h : bltNames.contains x = true) : X.mg x = none := hX.blt x (by simpa using h)
theorem de_blt {x : Str} {bt : Blt} (hX : XOk T k X) (hs : NoStar ev) (h : ∀ e, PE X e (tD X.K (ev e))) (hg : Gl X x) (hb : bltOf x = some bt) : PE X (.Call (.Name x p) es [] pos) (tD X.K fun ρ => (evs ev es ρ).bind (bltD bt)) := by
  unfold bltOf at hb
  split at hb
  · rename_i e; subst e; cases hb
    exact de_builtin hs h hg (blt_mem hX (by decide +kernel)) PySem.boot_len call_lenD' rfl (by decide) (by decide)
  split at hb
  · rename_i e; subst e; cases hb
    exact de_type hs h hg (blt_mem hX (by decide +kernel)) (by decide +kernel) call_intD rfl (by decide) (by decide)
  split at hb
  · rename_i e; subst e; cases hb
    exact de_type hs h hg (blt_mem hX (by decide +kernel)) (by decide +kernel) call_tupleD rfl (by decide) (by decide)
  split at hb
  · rename_i e; subst e; cases hb
    exact de_type hs h hg (blt_mem hX (by decide +kernel)) (by decide +kernel) call_listD rfl (by decide) (by decide)
  split at hb
  · rename_i e; subst e; cases hb
    exact de_builtin hs h hg (blt_mem hX (by decide +kernel)) (by decide +kernel) (call_allD hX.calm) rfl (by decide) (by decide)
  split at hb
  · rename_i e; subst e; cases hb
    exact de_builtin hs h hg (blt_mem hX (by decide +kernel)) (by decide +kernel) (call_anyD hX.calm) rfl (by decide) (by decide)
  split at hb
  · rename_i e; subst e; cases hb
    exact de_builtin hs h hg (blt_mem hX (by decide +kernel)) (by decide +kernel) (call_sumD hX.calm) rfl (by decide) (by decide)
  split at hb
  · rename_i e; subst e; cases hb
    exact de_builtin hs h hg (blt_mem hX (by decide +kernel)) (by decide +kernel) (call_minA hX.calm) rfl (by decide) (by decide)
  split at hb
  · rename_i e; subst e; cases hb
    exact de_builtin hs h hg (blt_mem hX (by decide +kernel)) (by decide +kernel) call_sortedD1 rfl (by decide) (by decide)
  split at hb
  · rename_i e; subst e; cases hb
    exact de_builtin hs h hg (blt_mem hX (by decide +kernel)) (by decide +kernel) (call_maxD hX.calm) rfl (by decide) (by decide)
  split at hb
  · rename_i e; subst e; cases hb
    exact de_type hs h hg (blt_mem hX (by decide +kernel)) (by decide +kernel) call_strD rfl (by decide) (by decide)
  cases hb
/-! ### isinstance -/
theorem tyOf_boot {x : Str} {ty : TyN} (h : tyOf x = some ty) : bootBuiltins x = some (.type ty.nm) ∧ bltNames.contains x = true ∧ x ≠ "__name__" ∧ (x == ("__debug__" : Str)) = false := by
  unfold tyOf at h
  split at h
  · rename_i e; subst e; cases h; exact ⟨by decide +kernel, by decide +kernel, by decide, by decide⟩
  split at h
  · rename_i e; subst e; cases h; exact ⟨by decide +kernel, by decide +kernel, by decide, by decide⟩
  split at h
  · rename_i e; subst e; cases h; exact ⟨by decide +kernel, by decide +kernel, by decide, by decide⟩
  split at h
  · rename_i e; subst e; cases h; exact ⟨by decide +kernel, by decide +kernel, by decide, by decide⟩
  split at h
  · rename_i e; subst e; cases h; exact ⟨by decide +kernel, by decide +kernel, by decide, by decide⟩
  cases h
theorem de_isi {t : Str} {e : Expr} {fe : DSt → Option D} {ty : TyN} {ip tp : Pos} (hX : XOk T k X) (he : PE X e (tD X.K fe)) (hn : notStar e = true) (hg : Gl X "isinstance") (ht : Gl X t) (hty : tyOf t = some ty) :
    PE X (.Call (.Name "isinstance" ip) [e, .Name t tp] [] pos) (tD X.K fun ρ => (fe ρ).map fun d => .bl (isiB ty d)) := by
  obtain ⟨b1, b2, b3, b4⟩ := tyOf_boot hty
  have hb : PE X (.Name t tp) (tC (.ty ty.nm)) := pe_bltn ht (blt_mem hX b2) b1 rfl b3 b4
  refine PE.imp (pe_callB call_isi hg (blt_mem hX (by decide +kernel)) (by decide +kernel) (pa_cons he (pa_cons hb pa_nil rfl) (star_cons hn _ _)) (by decide) (by decide) (star_cons hn _ _) rfl) fun σ H Q ⟨O, L, ρ, d, s, e, g⟩ => ?_
  obtain ⟨x, e1, e2⟩ := map_inv e
  subst e2
  refine ⟨O, L, ρ, x, s, e1, fun v H1 s1 r1 => ?_⟩
  exact ⟨v, .ty ty.nm, .type (tyName x), .type ty.nm, _, rfl, .ty _, (r1.mono hid_le).ty, kit_ty (kit_isi ty x), g.after s1 _ _ (Same.refl _) (.bl _)⟩
end
end Sw
/-! ## enumerate and zip over lists and tuples, whichever come -/
namespace PySem
theorem sw_meets_enumerate_newB1 {v : Value} {o : Obj} {H : Heap → Prop} (B : Begins v o H) :
    Meets (Builtin.«enumerate.__new__» ⟨[.type "enumerate", v], []⟩) (fun _ R s => H s.heap ∧
      R (.ok (.ret (.ref (s.heap.push o).objs.size))) { s with heap := (s.heap.push o).push { cls := .type "enumerate", data := .fields #[.none, .bool false, .ref s.heap.objs.size, rawInt 0, .none, .none] } }) :=
  .of_wp fun prog w A R s h => by
    obtain ⟨hp, g, d, tk, os⟩ := s; obtain ⟨h1, h⟩ := h
    have hsub := sub_enumerate
    have q1 : ∀ {A' : Around} {E : Value → Shared → Prop} {Q : Value → Shared → Prop}, Q (.ref hp.objs.size) ⟨hp.push o, g, d, tk, os⟩ → wpAny (model prog w) A' (pyIter v) Q E ⟨hp, g, d, tk, os⟩ :=
      fun q => B.iter prog w _ _ ⟨hp, g, d, tk, os⟩ _ h1 q
    wp_walk using q1
    refine wpAny_stack_any fun st => wpAny_pure ?_
    split
    · rename_i c _ _ _ _ _
      cases (c == Value.type "enumerate")
      · wp_walk using q1
        exact ⟨_, rfl, h⟩
      · wp_walk using q1
        exact ⟨_, rfl, h⟩
    · wp_walk using q1
      exact ⟨_, rfl, h⟩
theorem sw_enum_begins {prog : Program} {w : World} {A : Around} {E : Value → Shared → Prop} {s : Shared} {v : Value} {o : Obj} {H : Heap → Prop} {Q : Value → Shared → Prop} (B : Begins v o H) (h1 : H s.heap)
    (h : ∀ h', IsEnum h' (s.heap.objs.size + 1) s.heap.objs.size 0 .none → h'.get? s.heap.objs.size = some o → h'.objs.size = s.heap.objs.size + 2 →
      (∀ b o, s.heap.get? b = some o → h'.get? b = some o) → Q (.ref (s.heap.objs.size + 1)) { s with heap := h' }) :
    wpAny (model prog w) A (call (.type "enumerate") [v]) Q E s := by
  refine callType_new F.called_enumerate (by decide) (F.typeCall_enumerate_1 _) (F.newCall_enumerate_1 _) (fun obj => F.args_object_init_2 obj _) F.entry_enumerate_new
    (sw_meets_enumerate_newB1 B) ⟨h1, ?_⟩
  have hz : (s.heap.push o).objs.size = s.heap.objs.size + 1 := Heap.size_push ..
  show _ ∧ _
  rw [hz]
  have he : IsEnum ((s.heap.push o).push { cls := .type "enumerate", data := .fields #[.none, .bool false, .ref s.heap.objs.size, rawInt 0, .none, .none] }) (s.heap.objs.size + 1) s.heap.objs.size 0 .none := by
    have := Heap.get?_push_size (s.heap.push o) (o := { cls := .type "enumerate", data := .fields #[.none, .bool false, .ref s.heap.objs.size, rawInt 0, .none, .none] }) rfl
    rw [hz] at this; exact this
  refine ⟨⟨_, he, rfl⟩, h _ he (Heap.get?_push_of_some _ (Heap.get?_push_size _ B.free)) (by rw [Heap.size_push, hz]) fun b o x => Heap.get?_push_of_some _ (Heap.get?_push_of_some _ x)⟩
end PySem
namespace Sw
open PySem L2
variable [Tbs] [Acs]
/-- a tuple (k) or a list -/
def SqK (k : Bool) (K : PySem.W.Frag) (H : Hp) (a : Addr) (xs : List V) : Prop := if k = true then SqT K H a xs else SqL K H a xs
def itK (k : Bool) (h : Heap) (it a : Addr) (i : Nat) : Prop := if k = true then h.IsTupleIter it a i else h.IsListIter it a i
def sqH (k : Bool) (h : Heap) (a : Addr) (its : Array Value) : Prop := if k = true then h.IsTuple a its else h.IsList a its
def itO (k : Bool) (a : Addr) : Obj := if k = true then { cls := .type "tuple_iterator", data := .fields #[.ref a, .int 0 0] } else { cls := .type "list_iterator", data := .fields #[.ref a, .int 0 0] }
theorem drawsK {prog : Program} {w : World} {A : Around} (k : Bool) (hh : A.handled = none) (it a : Addr) (hne : a ≠ it) (items : Array Value) :
    Draws prog w A it [it, a] items.size (fun i v => items[i]? = some v) (fun i h => itK k h it a i ∧ sqH k h a items) := by
  cases k with
  | true => exact Draws.tuple hh it a hne items
  | false => exact Draws.list hh it a hne items
theorem beginsK (k : Bool) (a : Addr) (items : Array Value) : Begins (.ref a) (itO k a) (fun h => sqH k h a items) := by
  cases k with
  | true => exact begins_tuple a items
  | false => exact begins_list a items
theorem itK_new {k : Bool} {h : Heap} {it a : Addr} (e : h.get? it = some (itO k a)) : itK k h it a 0 := by
  cases k with
  | true => exact ⟨_, e, rfl, rfl⟩
  | false => exact ⟨_, e, rfl, rfl⟩
theorem itK_obj {k : Bool} {h : Heap} {it a : Addr} {i : Nat} (x : itK k h it a i) : ∃ o, h.get? it = some o ∧ ∀ v, o.data ≠ .cell v := by
  cases k with
  | true => obtain ⟨o, ho, _, d⟩ := x; exact ⟨o, ho, fun v q => by rw [d] at q; cases q⟩
  | false => obtain ⟨o, ho, _, d⟩ := x; exact ⟨o, ho, fun v q => by rw [d] at q; cases q⟩
theorem itK_at {k : Bool} {h h' : Heap} {it a : Addr} {i : Nat} (x : itK k h it a i) (e : ∀ o, h.get? it = some o → h'.get? it = some o) : itK k h' it a i := by
  cases k with
  | true => exact Heap.IsTupleIter.at x e
  | false => exact Heap.IsListIter.at x e
section
variable {X : Cx} {pins : List (Addr × Obj)} {σ : L2.St} {H : Hp} {s : Shared} {a : Addr} {xs ys : List V}
theorem inv_sqK {k : Bool} (I : Inv X pins σ H s) (h : SqK k X.K H a xs) : ∃ its : List Value, Vals xs its ∧ sqH k s.heap a its.toArray ∧ xs.length ≤ sizeLine ∧ a < s.heap.objs.size := by
  cases k with
  | true =>
    obtain ⟨its, r, p, z⟩ := I.tuple h
    obtain ⟨o, e, _⟩ := id p
    exact ⟨its, r, p, z, Heap.lt_size e⟩
  | false =>
    obtain ⟨its, r, p, z⟩ := I.list h
    exact ⟨its, r, p.isList, z, p.lt⟩
theorem inv_sqK_inj {k : Bool} (I : Inv X pins σ H s) (h : SqK k X.K H a xs) (h' : SqK k X.K H a ys) : xs = ys := by
  cases k with
  | true => exact I.tuple_inj h h'
  | false => exact I.list_inj h h'
end
/-- enumerate: each item in a new pair -/
def IteK (k : Bool) (K : PySem.W.Frag) (a : Addr) : It :=
  ⟨fun i H => ∃ (xs : List V) (x : V), SqK k K H a xs ∧ xs[i]? = some x, fun i H v H' => ∃ T x, v = .ref T ∧ H T = none ∧ H' = upd H T (.tup [.int (i : Nat), x]) ∧ ∀ xs, SqK k K H a xs → xs[i]? = some x, fun i H => ∃ xs : List V, SqK k K H a xs ∧ xs.length = i⟩
theorem turn_enumK {P : Program} {w : World} {K : PySem.W.Frag} {elts : List Expr} {kk : Nat} {tpos : Pos} (k : Bool) (a e it : Addr) (hai : a ≠ it) (hei : e ≠ it) (hea : e ≠ a) :
    Turn P w K (.Tuple elts kk tpos) (IteK k K a) [e, it] e (fun i h => (∃ old, IsEnum h e it ((i : Nat) : Int) old) ∧ itK k h it a i) where
  mem := by simp
  obj := fun i h st b hb => by
    obtain ⟨⟨old, he⟩, hi⟩ := st
    have e' : b = e ∨ b = it := by simpa using hb
    rcases e' with z | z
    · rw [z]; exact ⟨_, he, fun v q => nomatch q⟩
    · rw [z]; exact itK_obj hi
  keep := fun i h h' st q => let ⟨⟨old, he⟩, hi⟩ := st; ⟨⟨old, q e (by simp) _ he⟩, itK_at hi fun o z => q it (by simp) o z⟩
  item := by
    intro X hP hw hK hc i pins s σ H E I hf st hg
    subst hP hw hK
    obtain ⟨⟨old, he⟩, hit⟩ := st
    obtain ⟨xs, x, hq, hx⟩ := hg
    obtain ⟨its, rv, p, hz, hal⟩ := inv_sqK I hq
    obtain ⟨u, hu, ru⟩ := rv.get hx
    have hel : e < s.heap.objs.size := Heap.lt_size he
    have hil : it < s.heap.objs.size := by obtain ⟨_, q, _⟩ := itK_obj hit; exact Heap.lt_size q
    have hlt : i < its.toArray.size := by
      have := (List.getElem?_eq_some_iff.mp hu).1
      simpa using this
    have hh : X.A.in1.handled = none := I.ok.hd hc
    refine wpAny_pyNext_enum_itemD (drawsK k hh it a hai its.toArray) he ⟨hit, p⟩ hlt hei (by simp [hei, hea]) fun u' h' tk hP ho hst hT hsz hk => ?_
    have eu : u' = u := by
      have q : its[i]? = some u' := by simpa using hP
      rw [hu] at q; cases q; rfl
    subst eu
    refine ⟨_, rfl, wpAny_letOwnedTupleGo_enum (s := { s with heap := h', toks := tk + 1 }) ho fun h'' he' sb => ?_⟩
    have hT2 : h''.get? s.heap.objs.size = some { cls := .type "tuple", data := .seq #[.int i tk, u'] } := (sb.2 _ (Nat.ne_of_gt hel)).trans hT
    have new : ObjOk X.prog X.w (upd H s.heap.objs.size (.tup [.int (i : Nat), x])) h'' s.heap.objs.size (.tup [.int (i : Nat), x]) :=
      ⟨by show 2 ≤ sizeLine; decide, [.int i tk, u'], .cons ⟨_, rfl⟩ (.cons ru .nil), ⟨_, hT2, rfl, _, rfl⟩⟩
    have I1 : Inv X pins σ (upd H s.heap.objs.size (.tup [.int (i : Nat), x])) { s with heap := h'', toks := tk + 1 } :=
      I.turnedNew (ch := [e, it]) (fun b ob hb q => (sb.2 b (fun z => hb (by simp [z]))).trans (hk b ob (fun z => hb (by simp [z])) (fun z => hb (by simp [z])) q)) hf (Nat.le_refl _) new
    refine ⟨.ref s.heap.objs.size, _, I1, rfl, ⟨_, x, rfl, I.hok.fresh (Nat.le_refl _), rfl, fun ys hy => (inv_sqK_inj I hy hq) ▸ hx⟩, ⟨⟨u', ?_⟩, itK_at hst.1 fun o q => (sb.2 it (Ne.symm hei)).trans q⟩, fun b hb => ?_⟩
    · have e1 : ((i + 1 : Nat) : Int) = (i : Int) + 1 := by omega
      rw [e1]; exact he'
    · have hb' : b < s.heap.objs.size := by
        have e' : b = e ∨ b = it := by simpa using hb
        rcases e' with z | z
        · rw [z]; exact hel
        · rw [z]; exact hil
      rw [upd_ne (Nat.ne_of_lt hb')]
      exact (hf b hb).1
  done := by
    intro X hP hw hK hc i pins s σ H E I hf st hg
    subst hP hw hK
    obtain ⟨⟨old, he⟩, hit⟩ := st
    obtain ⟨xs, hq, hx⟩ := hg
    obtain ⟨its, rv, p, hz, hal⟩ := inv_sqK I hq
    obtain ⟨f0, f1, f2, f3, f4, f5⟩ := hf it (by simp)
    have hl := rv.length
    have hn : its.toArray.size = i := by simp; omega
    have hh : X.A.in1.handled = none := I.ok.hd hc
    have D := drawsK (prog := X.prog) (w := X.w) k hh it a hai its.toArray
    rw [hn] at D
    exact wpAny_pyNext_enum_endD D he ⟨hit, p⟩ fun h' eb => ⟨rfl, I.turned (t' := s.toks) (fun b o hb q => eb b o hb q) f0 f1 f3 f4 f5⟩
  self := fun A i s Q E st h => let ⟨⟨_, he⟩, _⟩ := st; wpAny_pyIter_enum he h
theorem pi_enumK {X : Cx} {e : Expr} {ta : TA} {p pos tpos : Pos} {elts : List Expr} {kk : Nat} (hg : Gl X "enumerate") (hm : X.mg "enumerate" = none) (ha : PA X [e] ta) (hs : starEach [e] X.env = [(false, eval e X.env)]) :
    PI X (.Tuple elts kk tpos) (.Call (.Name "enumerate" p) [e] [] pos) (fun σ H R => ta σ H fun vs H1 => ∃ k a xs, vs = [.ref a] ∧ SqK k X.K H1 a xs ∧ R (IteK k X.K a) H1) := by
  refine ⟨fun pins s σ H R I h => ?_⟩
  refine PyProof.Rows.Call_ (ld_blt I hg hm PyProof.Rows.boot_enumerate (PyProof.Rows.callWith_type1 (thn (ha.run pos pins s σ H _ I h) fun us s1 ⟨vs, H1, I1, r1, q1⟩ => ?_) hs rfl))
  obtain ⟨k, a, xs, ex, hq, q⟩ := q1
  subst ex
  cases r1 with
  | cons r rr =>
    cases rr
    cases r
    obtain ⟨its, rv, p', hz, hal⟩ := inv_sqK I1 hq
    refine sw_enum_begins (beginsK k a its.toArray) p' fun h' he hit hsz hk => wpAny_pyIter_enum he ?_
    have I2 : Inv X pins σ H1 { s1 with heap := h' } := I1.kept (t' := s1.toks) hk
    refine ⟨s1.heap.objs.size + 1, [s1.heap.objs.size + 1, s1.heap.objs.size], _, _, H1, rfl, I2, turn_enumK k a (s1.heap.objs.size + 1) s1.heap.objs.size (Nat.ne_of_lt hal) (Nat.succ_ne_self _) (Nat.ne_of_gt (Nat.lt_succ_of_lt hal)), ⟨⟨.none, he⟩, itK_new hit⟩, fun b hb => ?_, q⟩
    have e' : b = s1.heap.objs.size + 1 ∨ b = s1.heap.objs.size := by simpa using hb
    have hle : s1.heap.objs.size ≤ b := by
      rcases e' with z | z
      · rw [z]; exact Nat.le_add_right _ _
      · rw [z]; exact Nat.le_refl _
    exact I1.fpOk hle (I1.hok.fresh hle)
/-- zip of two: the items in new pairs -/
def ItzK (k1 k2 : Bool) (K : PySem.W.Frag) (a b : Addr) : It :=
  ⟨fun i H => ∃ (xs ys : List V) (x y : V), SqK k1 K H a xs ∧ SqK k2 K H b ys ∧ xs[i]? = some x ∧ ys[i]? = some y,
    fun i H v H' => ∃ T x y, v = .ref T ∧ H T = none ∧ H' = upd H T (.tup [x, y]) ∧ (∀ xs, SqK k1 K H a xs → xs[i]? = some x) ∧ ∀ ys, SqK k2 K H b ys → ys[i]? = some y,
    fun i H => ∃ xs ys : List V, SqK k1 K H a xs ∧ SqK k2 K H b ys ∧ i = min xs.length ys.length⟩
theorem turn_zipK {P : Program} {w : World} {K : PySem.W.Frag} {elts : List Expr} {kk : Nat} {tpos : Pos} {k1 k2 : Bool} {a b z TI TO i1 i2 : Addr} (S : ZipSep2 z TI TO i1 i2 [i1, a] [i2, b]) (ha : a ≠ i1) (hb : b ≠ i2) (hi : i1 ≠ z) (hi' : i2 ≠ z) :
    Turn P w K (.Tuple elts kk tpos) (ItzK k1 k2 K a b) [z, TI, TO, i1, i2] z (fun i h => IsZip h z TI TO .none ∧ IsTupOf2 h TI (.ref i1) (.ref i2) ∧ (∃ x y, IsTupOf2 h TO x y) ∧ itK k1 h i1 a i ∧ itK k2 h i2 b i) where
  mem := by simp
  obj := fun i h st c hc => by
    obtain ⟨hz, hTI, ⟨x, y, hTO⟩, h1, h2⟩ := st
    have e' : c = z ∨ c = TI ∨ c = TO ∨ c = i1 ∨ c = i2 := by simpa using hc
    rcases e' with q | q | q | q | q
    · rw [q]; exact ⟨_, hz, fun v q => nomatch q⟩
    · rw [q]; exact ⟨_, hTI, fun v q => nomatch q⟩
    · rw [q]; exact ⟨_, hTO, fun v q => nomatch q⟩
    · rw [q]; exact itK_obj h1
    · rw [q]; exact itK_obj h2
  keep := fun i h h' st q => by
    obtain ⟨hz, hTI, ⟨x, y, hTO⟩, h1, h2⟩ := st
    exact ⟨q z (by simp) _ hz, q TI (by simp) _ hTI, ⟨x, y, q TO (by simp) _ hTO⟩, itK_at h1 fun o e => q i1 (by simp) o e, itK_at h2 fun o e => q i2 (by simp) o e⟩
  item := by
    intro X hP hw hK hc i pins s σ H E I hf st hg
    subst hP hw hK
    obtain ⟨hz, hTI, ⟨x0, y0, hTO⟩, h1, h2⟩ := st
    obtain ⟨xs, ys, x, y, hqx, hqy, hx, hy⟩ := hg
    obtain ⟨its, rv, p, _, _⟩ := inv_sqK I hqx
    obtain ⟨its2, rv2, p2, _, _⟩ := inv_sqK I hqy
    obtain ⟨u, hu, ru⟩ := rv.get hx
    obtain ⟨u2, hu2, ru2⟩ := rv2.get hy
    have hzl : z < s.heap.objs.size := Heap.lt_size hz
    have hl1 : i < its.toArray.size := by
      have := (List.getElem?_eq_some_iff.mp hu).1
      simpa using this
    have hl2 : i < its2.toArray.size := by
      have := (List.getElem?_eq_some_iff.mp hu2).1
      simpa using this
    have hh : X.A.in1.handled = none := I.ok.hd hc
    refine wpAny_pyNext_zipD2_item S (drawsK k1 hh i1 a ha its.toArray) (drawsK k2 hh i2 b hb its2.toArray) hz hTI hTO ⟨h1, p⟩ ⟨h2, p2⟩ hl1 hl2 fun v1 v2 h' tk hP1 hP2 z' TO' s1' s2' hT hsz hk => ?_
    have eu : v1 = u := by
      have q : its[i]? = some v1 := by simpa using hP1
      rw [hu] at q; cases q; rfl
    have eu2 : v2 = u2 := by
      have q : its2[i]? = some v2 := by simpa using hP2
      rw [hu2] at q; cases q; rfl
    subst eu
    subst eu2
    refine ⟨_, rfl, wpAny_letOwnedTupleGo_zip (s := { s with heap := h', toks := tk }) z' fun h'' z'' sb => ?_⟩
    have hT2 : h''.get? s.heap.objs.size = some { cls := .type "tuple", data := .seq #[v1, v2] } := (sb.2 _ (Nat.ne_of_gt hzl)).trans hT
    have new : ObjOk X.prog X.w (upd H s.heap.objs.size (.tup [x, y])) h'' s.heap.objs.size (.tup [x, y]) :=
      ⟨by show 2 ≤ sizeLine; decide, [v1, v2], .cons ru (.cons ru2 .nil), ⟨_, hT2, rfl, _, rfl⟩⟩
    have I1 : Inv X pins σ (upd H s.heap.objs.size (.tup [x, y])) { s with heap := h'', toks := tk } :=
      I.turnedNew (ch := [z, TI, TO, i1, i2]) (fun c o hb q => (sb.2 c (fun q' => hb (by simp [q']))).trans (hk c o (fun q' => hb (by simp [q'])) (fun q' => hb (by simp [q'])) (fun q' => hb (by simp [q'])) (fun q' => hb (by simp [q'])) q)) hf (Nat.le_refl _) new
    refine ⟨.ref s.heap.objs.size, _, I1, rfl, ⟨_, x, y, rfl, I.hok.fresh (Nat.le_refl _), rfl, fun l hl => (inv_sqK_inj I hl hqx) ▸ hx, fun l hl => (inv_sqK_inj I hl hqy) ▸ hy⟩, ⟨z'', ?_, ⟨v1, v2, ?_⟩, ?_, ?_⟩, fun c hcm => ?_⟩
    · exact (sb.2 _ S.TIz).trans (hk _ _ S.TIz S.TITO S.TIi1 S.TIi2 hTI)
    · exact (sb.2 _ S.TOz).trans TO'
    · exact itK_at s1'.1 fun o q => (sb.2 _ hi).trans q
    · exact itK_at s2'.1 fun o q => (sb.2 _ hi').trans q
    · have hlt : c < s.heap.objs.size := by
        have e' : c = z ∨ c = TI ∨ c = TO ∨ c = i1 ∨ c = i2 := by simpa using hcm
        rcases e' with q | q | q | q | q
        · rw [q]; exact hzl
        · rw [q]; exact Heap.lt_size hTI
        · rw [q]; exact Heap.lt_size hTO
        · rw [q]; obtain ⟨_, e1, _⟩ := itK_obj h1; exact Heap.lt_size e1
        · rw [q]; obtain ⟨_, e2, _⟩ := itK_obj h2; exact Heap.lt_size e2
      rw [upd_ne (Nat.ne_of_lt hlt)]
      exact (hf c hcm).1
  done := by
    intro X hP hw hK hc i pins s σ H E I hf st hg
    subst hP hw hK
    obtain ⟨hz, hTI, ⟨x0, y0, hTO⟩, h1, h2⟩ := st
    obtain ⟨xs, ys, hqx, hqy, hend⟩ := hg
    obtain ⟨its, rv, p, _, _⟩ := inv_sqK I hqx
    obtain ⟨its2, rv2, p2, _, _⟩ := inv_sqK I hqy
    have l1 := rv.length
    have l2 := rv2.length
    have hh : X.A.in1.handled = none := I.ok.hd hc
    exact wpAny_pyNext_zipD2_end S (drawsK k1 hh i1 a ha its.toArray) (drawsK k2 hh i2 b hb its2.toArray) hz hTI hTO ⟨h1, p⟩ ⟨h2, p2⟩ (by simp; omega) (by simp; omega) (by simp; omega) fun h' tk hk => ⟨rfl, I.turnedL (t' := tk) (ch := [z, TI, TO, i1, i2]) (fun c o hb q =>
      hk c o (fun q' => hb (by simp [q'])) (fun q' => hb (by simp [q'])) (fun q' => hb (by simp [q'])) (fun q' => hb (by simp [q'])) q) hf⟩
  self := fun A i s Q E st h => wpAny_pyIter_zip st.1 h
theorem pi_zipK {X : Cx} {e e2 : Expr} {ta : TA} {p pos tpos : Pos} {elts : List Expr} {kk : Nat} (hg : Gl X "zip") (hm : X.mg "zip" = none) (ha : PA X [e, e2] ta)
    (hs : starEach [e, e2] X.env = (false, eval e X.env) :: starEach [e2] X.env) (hpl : (backTo pos (starEach [e2] X.env)).any (·.1) = false) :
    PI X (.Tuple elts kk tpos) (.Call (.Name "zip" p) [e, e2] [] pos) (fun σ H R => ta σ H fun vs H1 => ∃ k1 k2 a b xs ys, vs = [.ref a, .ref b] ∧ SqK k1 X.K H1 a xs ∧ SqK k2 X.K H1 b ys ∧ R (ItzK k1 k2 X.K a b) H1) := by
  refine ⟨fun pins s σ H R I h => ?_⟩
  refine PyProof.Rows.Call_ (ld_blt I hg hm PyProof.Rows.boot_zip (PyProof.Rows.callWith_type1 (thn (ha.run pos pins s σ H _ I h) fun us s1 ⟨vs, H1, I1, r1, q1⟩ => ?_) hs hpl))
  obtain ⟨k1, k2, a, b, xs, ys, ex, hqx, hqy, q⟩ := q1
  subst ex
  cases r1 with
  | cons r rr =>
    cases rr with
    | cons r' rr =>
      cases rr
      cases r
      cases r'
      obtain ⟨its, rv, p1, _, la⟩ := inv_sqK I1 hqx
      obtain ⟨its2, rv2, p2, _, lb⟩ := inv_sqK I1 hqy
      refine zip_begins2 (beginsK k1 a its.toArray) (beginsK k2 b its2.toArray) p1 p2 fun h' hz hTI hTO h1 h2 hsz hk => wpAny_pyIter_zip hz ?_
      have I2 : Inv X pins σ H1 { s1 with heap := h' } := I1.kept (t' := s1.toks) hk
      have S : ZipSep2 (s1.heap.objs.size + 4) (s1.heap.objs.size + 2) (s1.heap.objs.size + 3) s1.heap.objs.size (s1.heap.objs.size + 1) [s1.heap.objs.size, a] [s1.heap.objs.size + 1, b] :=
        zip_sep2 (fp1 := [a]) (fp2 := [b]) (fun c hc => (List.mem_singleton.mp hc).symm ▸ la) (fun c hc => (List.mem_singleton.mp hc).symm ▸ lb)
      refine ⟨s1.heap.objs.size + 4, [s1.heap.objs.size + 4, s1.heap.objs.size + 2, s1.heap.objs.size + 3, s1.heap.objs.size, s1.heap.objs.size + 1], _, _, H1, rfl, I2,
        turn_zipK (k1 := k1) (k2 := k2) S (Nat.ne_of_lt la) (Nat.ne_of_lt (Nat.lt_succ_of_lt lb)) (Nat.ne_of_lt (by show s1.heap.objs.size < s1.heap.objs.size + 4; omega)) (Nat.ne_of_lt (by show s1.heap.objs.size + 1 < s1.heap.objs.size + 4; omega)), ⟨hz, hTI, ⟨_, _, hTO⟩, itK_new h1, itK_new h2⟩, fun c hcm => ?_, q⟩
      have e' : c = s1.heap.objs.size + 4 ∨ c = s1.heap.objs.size + 2 ∨ c = s1.heap.objs.size + 3 ∨ c = s1.heap.objs.size ∨ c = s1.heap.objs.size + 1 := by simpa using hcm
      have hle : s1.heap.objs.size ≤ c := by
        rcases e' with z | z | z | z | z
        · rw [z]; exact Nat.le_add_right _ _
        · rw [z]; exact Nat.le_add_right _ _
        · rw [z]; exact Nat.le_add_right _ _
        · rw [z]; exact Nat.le_refl _
        · rw [z]; exact Nat.le_add_right _ _
      exact I1.fpOk hle (I1.hok.fresh hle)
end Sw
/-! ## t[::-1] of a tuple, and of a list -/
namespace Sw
open PySem L2
variable [Tbs] [Acs]
section
variable {prog : Program} {w : World} {A : Around} {E : Value → Shared → Prop} {s : Shared}
theorem back_applied {sl : Addr} {n : Nat} {tk : Tok} {Q : Int × Int × Nat → Shared → Prop} (hs : s.heap.IsSliceOf sl .none .none (.int (-1) tk)) (q : Q ((n : Int) - 1, -1, n) s) : wpAny (model prog w) A (Builtin.Slice.sliceApplied (.ref sl) (pure (n : Int))) Q E s := by
  obtain ⟨os, hos, hcs, hds⟩ := id hs
  unfold Builtin.Slice.sliceApplied Builtin.Slice.sliceFields
  refine wpAny_bind (wpAny_bind (wpAny_field hos hds (x := .none) rfl (wpAny_bind (wpAny_field hos hds (x := .none) rfl (wpAny_bind (wpAny_field hos hds (x := .int (-1) tk) rfl (wpAny_pure ?_)))))))
  refine wpAny_bind (PyProof.Rows.slicePart_int ?_)
  show wpAny _ _ (if ((-1 : Int) == 0) = true then _ else _) _ _ s
  rw [if_neg (by decide)]
  refine wpAny_bind (PyProof.Rows.slicePart_none (wpAny_bind (PyProof.Rows.slicePart_none (wpAny_bind (wpAny_pure ?_)))))
  have e1 : Builtin.Slice.sliceAdjust none none (-1) (n : Int) = ((n : Int) - 1, -1) := rfl
  have e2 : Builtin.Slice.slicePlaces ((n : Int) - 1) (-1) (-1) = n := by
    unfold Builtin.Slice.slicePlaces
    rw [if_neg (by decide)]
    by_cases h : (n : Int) - 1 > -1
    · rw [if_pos h, show (- -1 : Int) = 1 by decide, Int.ediv_one]; omega
    · rw [if_neg h]; omega
  show wpAny _ _ (match Builtin.Slice.sliceAdjust none none (-1) (n : Int) with | (lo, hi) => pure (lo, (-1 : Int), Builtin.Slice.slicePlaces lo hi (-1))) _ _ s
  rw [e1]
  show wpAny _ _ (pure ((n : Int) - 1, (-1 : Int), Builtin.Slice.slicePlaces ((n : Int) - 1) (-1) (-1))) _ _ s
  rw [e2]
  exact wpAny_pure q
theorem back_pick (its : List Value) : ((List.range its.length).filterMap fun (k : Nat) => its.toArray[(((its.length : Nat) : Int) - 1 + (k : Int) * -1).toNat]?) = its.reverse := by
  have e : ∀ k ∈ List.range its.length, (its.toArray[(((its.length : Nat) : Int) - 1 + (k : Int) * -1).toNat]?) = (its.reverse)[k]? := fun k hk => by
    have := List.mem_range.mp hk
    rw [show (((its.length : Nat) : Int) - 1 + (k : Int) * -1).toNat = its.length - 1 - k by omega, List.getElem?_reverse this]
    simp
  have cg : ∀ (l : List Nat) (f g : Nat → Option Value), (∀ k ∈ l, f k = g k) → l.filterMap f = l.filterMap g := fun l f g h => by
    induction l with
    | nil => rfl
    | cons k l ih => rw [List.filterMap_cons, List.filterMap_cons, h k List.mem_cons_self, ih fun j hj => h j (List.mem_cons_of_mem _ hj)]
  rw [cg _ _ _ e]
  have all : ∀ l : List Value, (List.range l.length).filterMap (fun k => l[k]?) = l := fun l => by
    have := PySem.W.krv_all l.toArray
    simpa using this
  have := all its.reverse
  rwa [List.length_reverse] at this
theorem getItem_back {t sl : Addr} {its : List Value} {tk : Tok} {Q : Value → Shared → Prop} (ht : PyProof.Rows.IsTup s.heap t its.toArray) (hs : s.heap.IsSliceOf sl .none .none (.int (-1) tk)) (hz : its.length ≤ sizeLine)
    (q : Q (.ref s.heap.objs.size) { s with heap := s.heap.push { cls := .type "tuple", data := .seq its.reverse.toArray } }) : wpAny (model prog w) A (getItem (.ref t) (.ref sl)) Q E s := by
  obtain ⟨os, hos, hcs, hds⟩ := id hs
  have hTs : s.TypeIs (.ref sl) "slice" := ⟨os, hos, hcs⟩
  unfold getItem
  try with_reducible refine wpAny_holding ?_
  first | refine wpAny_bind (wpAny_pure ?_) | skip
  refine wpAny_bind (wpAny_sequenceKey ht.typeIs (by decide) ?_)
  refine wpAny_bind (wpAny_callSpecial?_slot (name := Str.ofString "__getitem__") ht.typeIs PyProof.Rows.slot_tuple_getitem (wpAny_call_entry PyProof.Rows.slot_tuple_getitem ht.typeIs PyProof.Rows.entry_tuple_getitem ?_ (PyProof.Rows.args_tuple_getitem _ _)))
  show wpAny _ _ (Builtin.Tuple.tupleItemsOf (.ref t) >>= _) _ _ s
  refine wpAny_bind (PyProof.Rows.tupleItemsOf_ ht ?_)
  refine wpAny_bind (wpAny_typeOf hTs ?_)
  rw [if_pos (by decide)]
  have hsz : its.toArray.size = its.length := List.size_toArray
  rw [hsz]
  refine wpAny_bind (back_applied hs ?_)
  have hno : ¬ ((((its.length : Nat) : Int) - 1 == 0 && (-1 : Int) == 1 && its.length == its.length) = true) := by
    intro z
    rw [Bool.and_eq_true, Bool.and_eq_true] at z
    exact absurd z.1.2 (by decide)
  show wpAny _ _ (if (((its.length : Nat) : Int) - 1 == 0 && (-1 : Int) == 1 && its.length == its.length) = true then _ else _) _ _ s
  rw [if_neg hno, back_pick]
  have ok : sizeOk (.seq its.reverse.toArray) := by
    show its.reverse.toArray.size ≤ sizeLine
    rw [List.size_toArray, List.length_reverse]
    exact hz
  first
    | exact wpAny_bind (m := Builtin.Tuple.tupleExact _) (wpAny_newObj_type (wpAny_pure ⟨_, rfl, wpAny_pure q⟩) ok)
    | exact wpAny_bind (m := Builtin.Tuple.tupleExact _) (wpAny_newObj_type (wpAny_bind (wpAny_pure (wpAny_pure ⟨_, rfl, wpAny_pure q⟩))) ok)
end
section
variable {X : Cx}
def tRevT (K : PySem.W.Frag) (te : TE) : TE := fun σ H Q => te σ H fun x H1 => ∃ a xs, x = .ref a ∧ SqT K H1 a xs ∧ ∀ p, H1 p = none → Q (.ref p) (upd H1 p (.tup xs.reverse))
theorem pe_revK {e : Expr} {te : TE} {k : Nat} {p1 p2 p3 pos : Pos} (he : PE X e te) : PE X (.Subscript e (.Slice none none (some (.UnaryOp .USub (.Constant (.int 1) k p1) p2)) p3) pos)
    (fun σ H Q => te σ H fun x H1 => ∃ a xs, x = .ref a ∧ ((SqT X.K H1 a xs ∧ ∀ p, H1 p = none → Q (.ref p) (upd H1 p (.tup xs.reverse))) ∨ (SqL X.K H1 a xs ∧ ∀ p, H1 p = none → Q (.ref p) (upd H1 p (.lst xs.reverse))))) := by
  refine ⟨fun pins s σ H Q I h => ?_⟩
  refine PyProof.Rows.Subscript_ (thn (he.run pins s σ H _ I h) fun v s1 ⟨x, H1, I1, r1, q1⟩ => ?_)
  obtain ⟨a, xs, ex, q⟩ := q1
  subst ex
  cases r1
  have step : PO X (some (.UnaryOp .USub (.Constant (.int 1) k p1) p2)) (tPart (tUn (rU fun i => .int (-i)) (tC (.int 1)))) := po_some (pe_un un_neg pe_int)
  refine wpAny_Slice (thn (po_none.run pins s1 σ H1 (fun o H2 => o = none ∧ H2 = H1) I1 ⟨rfl, rfl⟩) fun vl s2 ⟨l, H2, I2, pl, el, e2⟩ => ?_)
  subst el e2
  refine thn (po_none.run pins s2 σ H2 (fun o H3 => o = none ∧ H3 = H2) I2 ⟨rfl, rfl⟩) fun vu s3 ⟨u, H3, I3, pu, eu, e3⟩ => ?_
  subst eu e3
  refine thn (step.run pins s3 σ H3 (fun o H4 => o = some (-1) ∧ H4 = H3) I3 ⟨1, rfl, -1, rfl, rfl, rfl⟩) fun vs s4 ⟨o, H4, I4, ps, eo, e4⟩ => ?_
  subst eo e4
  have I5 : Inv X pins σ H4 { s4 with heap := s4.heap.push { cls := .type "slice", data := .fields #[vl, vu, vs] } } := I4.kept (t' := s4.toks) fun b ob z => Heap.get?_push_of_some _ z
  have new := Heap.IsSliceOf.new s4.heap vl vu vs
  rcases q with ⟨hx, q⟩ | ⟨hx, q⟩
  · obtain ⟨its, r, ht, hz⟩ := I5.tuple hx
    have hlen := r.length
    cases pl
    cases pu
    cases ps
    refine PyProof.Rows.tail_any (ops := [.ref a, .ref s4.heap.objs.size]) ht.typeIs (PyProof.Rows.slot_tuple_getitem.lookup) ?_ (by with_unfolding_all rfl)
    refine getItem_back ht new (by omega) ?_
    refine ⟨.ref _, _, I5.laid (t' := s4.toks) (o := .tup xs.reverse) (fun b ob z => Heap.get?_push_of_some _ z) (Nat.le_refl _) ?_, rfl, q _ (I5.hok.fresh (Nat.le_refl _))⟩
    exact ⟨by rw [List.length_reverse]; exact hz, _, r.reverse, PyProof.Rows.IsTup.new _ _⟩
  · obtain ⟨its, r, ht, hz⟩ := I5.list hx
    have hlen := r.length
    refine PyProof.Rows.tail_any (ops := [.ref a, .ref s4.heap.objs.size]) ht.isList.typeIs (PySem.slot_list_getitem.lookup) ?_ (by with_unfolding_all rfl)
    refine wpAny_getItem_list_slice ht.isList new pl pu ps (by decide) ?_ (by rw [List.size_toArray]; omega)
    rw [PySem.W.krv_pick]
    refine ⟨.ref _, _, I5.laid (t' := s4.toks) (o := .lst xs.reverse) (fun b ob z => Heap.get?_push_of_some _ z) (Nat.le_refl _) ?_, rfl, q _ (I5.hok.fresh (Nat.le_refl _))⟩
    exact ⟨by rw [List.length_reverse]; exact hz, _, 0, r.reverse, Heap.get?_push_size _ rfl⟩
theorem RepAll.reverse {K : PySem.W.Frag} {H : Hp} : ∀ {vs : List V} {ds : List D}, RepAll K H vs ds → RepAll K H vs.reverse ds.reverse
  | _, _, .nil => .nil
  | _, _, .cons r rs => by rw [List.reverse_cons, List.reverse_cons]; exact (RepAll.reverse rs).append (.cons r .nil)
theorem de_rev {e : Expr} {fe : DSt → Option D} {k : Nat} {p1 p2 p3 pos : Pos} (he : PE X e (tD X.K fe)) : PE X (.Subscript e (.Slice none none (some (.UnaryOp .USub (.Constant (.int 1) k p1) p2)) p3) pos) (tD X.K fun ρ => (fe ρ).bind revD) := by
  refine PE.imp (pe_revK he) fun σ H Q ⟨O, L, ρ, d, s, e, g⟩ => ?_
  obtain ⟨x, e1, e2⟩ := bind_inv e
  refine ⟨O, L, ρ, x, s, e1, fun v H1 s1 r1 => ?_⟩
  cases r1 <;> try (cases e2; done)
  case tup a xs ds ha ra la =>
    cases e2
    exact ⟨a, xs, rfl, .inl ⟨same_sqT hid_le ha, fun p hp => (g.after s1).tup (Dom.same s.dom s1) ra.reverse (by rw [List.length_reverse]; exact la) hp⟩⟩
  case lst a xs ds ha ra la =>
    cases e2
    exact ⟨a, xs, rfl, .inr ⟨.of (hid_le.lst ha), fun p hp => (g.after s1).lst (Dom.same s.dom s1) ra.reverse (by rw [List.length_reverse]; exact la) hp⟩⟩
end
end Sw
/-! ## the interpreter is right: what is walked, targets, comprehensions -/
namespace Sw
open PySem L2
variable [Tbs] [Acs]
section
variable {X : Cx} {T : Tab} {k : Nat} {ev : Expr → DSt → Option D}
/-- J gives the data ds, one after another, while what stands in S stands -/
def IterOf (K : PySem.W.Frag) (S : Hp) (J : It) (ds : List D) : Prop := ∀ H, SameN S H → ∀ i : Nat,
  (∀ d, ds[i]? = some d → J.go i H ∧ ∀ x H', J.yld i H x H' → Same H H' ∧ ∀ O, Dom O H → SameN S (hid O H) → Rep K (hid O H') x d) ∧ (ds.length ≤ i → i ≤ ds.length → J.stop i H)
def tI (K : PySem.W.Frag) (f : DSt → Option (List D)) : TI := fun σ H R => ∃ O L ρ ds, SR K O L H σ ρ ∧ f ρ = some ds ∧ ∀ J H', Same H H' → ds.length ≤ lim → IterOf K (hid O H') J ds → R J H'
theorem PI.imp {tg iter : Expr} {w w' : TI} (h : PI X tg iter w) (i : ∀ σ H R, w' σ H R → w σ H R) : PI X tg iter w' := ⟨fun pins s σ H R I q => h.run pins s σ H R I (i σ H R q)⟩
theorem pi_no {tg iter : Expr} {f : DSt → Option (List D)} (h : ∀ ρ, f ρ = none) : PI X tg iter (tI X.K f) := ⟨fun pins s σ H R I q => by
  obtain ⟨O, L, ρ, d, _, e, _⟩ := q
  rw [h] at e; cases e⟩
/-- a list or a tuple, whichever comes -/
theorem pi_seq {tg l : Expr} {tl : TE} (hl : PE X l tl) : PI X tg l (fun σ H R => tl σ H fun x H1 => ∃ a, x = .ref a ∧ (((∃ xs, SqL X.K H1 a xs) ∧ R (Itl X.K a) H1) ∨ ((∃ xs, SqT X.K H1 a xs) ∧ R (Itt X.K a) H1))) := by
  refine ⟨fun pins s σ H R I h => ?_⟩
  refine thn (hl.run pins s σ H _ I h) fun v s1 ⟨x, H1, I1, r1, q1⟩ => ?_
  obtain ⟨a, e, q1⟩ := q1
  subst e
  cases r1
  have fresh : ∀ b ∈ [s1.heap.objs.size], FpOk X pins H1 b := fun b hb => by
    have e : b = s1.heap.objs.size := by simpa using hb
    subst e
    exact I1.fpOk (Nat.le_refl _) (I1.hok.fresh (Nat.le_refl _))
  rcases q1 with ⟨⟨xs, hq⟩, q⟩ | ⟨⟨xs, hq⟩, q⟩
  · obtain ⟨its, rv, p, hz⟩ := I1.list hq
    refine wpAny_pyIter_list p.isList ?_
    exact ⟨s1.heap.objs.size, [s1.heap.objs.size], _, _, H1, rfl, I1.kept (t' := s1.toks) fun b o e => Heap.get?_push_of_some _ e, turn_list a _, ⟨_, Heap.get?_push_size _ rfl, rfl, rfl⟩, fresh, q⟩
  · obtain ⟨its, rv, p, hz⟩ := I1.tuple hq
    refine wpAny_pyIter_tuple (show s1.heap.IsTuple a its.toArray from p) ?_
    exact ⟨s1.heap.objs.size, [s1.heap.objs.size], _, _, H1, rfl, I1.kept (t' := s1.toks) fun b o e => Heap.get?_push_of_some _ e, turn_tuple a _, ⟨_, Heap.get?_push_size _ rfl, rfl, rfl⟩, fresh, q⟩
theorem iter_list {K : PySem.W.Frag} {S : Hp} {a : Addr} {xs : List V} {ds : List D} (h : SqL K S a xs) (r : RepAll K S xs ds) : IterOf K S (Itl K a) ds := fun H s i => by
  refine ⟨fun d hd => ?_, fun h1 _ => ⟨xs, s.seq h, by rw [r.length]; exact h1⟩⟩
  obtain ⟨v, hv, rv⟩ := r.get hd
  refine ⟨⟨xs, v, s.seq h, hv⟩, fun x H' y => ?_⟩
  obtain ⟨e, y⟩ := y
  subst e
  have := y xs (s.seq h)
  rw [hv] at this
  cases this
  exact ⟨Same.refl _, fun O _ hS => rv.mono hS⟩
theorem iter_tup {K : PySem.W.Frag} {S : Hp} {a : Addr} {xs : List V} {ds : List D} (h : SqT K S a xs) (r : RepAll K S xs ds) : IterOf K S (Itt K a) ds := fun H s i => by
  refine ⟨fun d hd => ?_, fun h1 _ => ⟨xs, same_sqT s h, by rw [r.length]; exact h1⟩⟩
  obtain ⟨v, hv, rv⟩ := r.get hd
  refine ⟨⟨xs, v, same_sqT s h, hv⟩, fun x H' y => ?_⟩
  obtain ⟨e, y⟩ := y
  subst e
  have := y xs (same_sqT s h)
  rw [hv] at this
  cases this
  exact ⟨Same.refl _, fun O _ hS => rv.mono hS⟩
theorem iter_range {K : PySem.W.Frag} {S : Hp} (lo : Int) (n : Nat) : IterOf K S (Itr lo n) (rangeD lo n) := fun H s i => by
  have hl : (rangeD lo n).length = n := by unfold rangeD; rw [List.length_map, List.length_range]
  refine ⟨fun d hd => ?_, fun h1 _ => by rw [hl] at h1; exact h1⟩
  unfold rangeD at hd
  rw [List.getElem?_map] at hd
  obtain ⟨j, h1, h2⟩ := map_inv hd
  have hi : i < n := by
    have := (List.getElem?_eq_some_iff.mp h1).1
    rw [List.length_range] at this
    exact this
  rw [List.getElem?_range hi] at h1
  cases h1
  subst h2
  refine ⟨hi, fun x H' y => ?_⟩
  obtain ⟨e, y⟩ := y
  subst e y
  exact ⟨Same.refl _, fun O _ _ => .int _⟩
theorem di_seq {tg e : Expr} {fe : DSt → Option D} (h : PE X e (tD X.K fe)) : PI X tg e (tI X.K fun ρ => (fe ρ).bind seqD) :=
  PI.imp (pi_seq h) fun σ H R ⟨O, L, ρ, ds, s, e, g⟩ => by
    obtain ⟨d, e1, e2⟩ := bind_inv e
    refine ⟨O, L, ρ, d, s, e1, fun v H1 s1 r1 => ?_⟩
    cases r1 <;> try (cases e2; done)
    case tup a xs ds ha ra la =>
      cases e2
      exact ⟨a, rfl, .inr ⟨⟨xs, same_sqT hid_le ha⟩, g _ _ s1 la (iter_tup ha ra)⟩⟩
    case lst a xs ds ha ra la =>
      cases e2
      exact ⟨a, rfl, .inl ⟨⟨xs, .of (hid_le.lst ha)⟩, g _ _ s1 la (iter_list (.of ha) ra)⟩⟩
    case scr a ns ha la =>
      cases e2
      exact ⟨a, rfl, .inl ⟨⟨_, (hid_le (O := O) (H := H1)).seq ha⟩, g _ _ s1 (by rw [List.length_map]; exact la) (iter_list ha (repAll_ints ns))⟩⟩
theorem di_rng1 {tg a : Expr} {p pos : Pos} {fa : DSt → Option D} (hX : XOk T k X) (ha : PE X a (tD X.K fa)) (hn : notStar a = true) (hg : Gl X "range") : PI X tg (.Call (.Name "range" p) [a] [] pos) (tI X.K fun ρ => (fa ρ).bind rng1) := by
  refine PI.imp (pi_range1 hg (blt_mem hX (by decide +kernel)) (pa_cons ha pa_nil (star_cons hn _ _)) (star_cons hn _ _)) fun σ H R ⟨O, L, ρ, ds, s, e, g⟩ => ?_
  obtain ⟨d, e1, e2⟩ := bind_inv e
  refine ⟨O, L, ρ, d, s, e1, fun v H1 s1 r1 => ?_⟩
  cases r1 <;> try (cases e2; done)
  case int j =>
    simp only [rng1] at e2
    split at e2
    · rename_i hj
      cases e2
      unfold lim at hj
      exact ⟨j, rfl, by omega, by omega, g _ _ s1 (by unfold rangeD; rw [List.length_map, List.length_range]; unfold lim; omega) (iter_range 0 _)⟩
    · cases e2
theorem di_rng2 {tg a b : Expr} {p pos : Pos} {fa fb : DSt → Option D} (hX : XOk T k X) (ha : PE X a (tD X.K fa)) (hb : PE X b (tD X.K fb)) (hna : notStar a = true) (hnb : notStar b = true) (hg : Gl X "range") :
    PI X tg (.Call (.Name "range" p) [a, b] [] pos) (tI X.K fun ρ => (fa ρ).bind fun x => (fb ρ).bind fun y => rng2 x y) := by
  refine PI.imp (pi_range2 hg (blt_mem hX (by decide +kernel)) (pa_cons ha (pa_cons hb pa_nil (star_cons hnb _ _)) (star_cons hna _ _)) (by rw [star_cons hna, star_cons hnb]; rfl) (star_cons hnb _ _)) fun σ H R ⟨O, L, ρ, ds, s, e, g⟩ => ?_
  obtain ⟨x, e1, e⟩ := bind_inv e
  obtain ⟨y, e2, e3⟩ := bind_inv e
  refine ⟨O, L, ρ, x, s, e1, fun v H1 s1 r1 => ⟨O, L, ρ, y, s.same s1, e2, fun u H2 s2 r2 => ?_⟩⟩
  cases r1 <;> try (cases e3; done)
  case int i =>
    cases r2 <;> try (cases e3; done)
    case int j =>
      simp only [rng2] at e3
      split at e3
      · rename_i hj
        cases e3
        unfold lim at hj
        exact ⟨i, j, rfl, ⟨by omega, by omega, by omega, by omega⟩, g _ _ (s1.trans s2) (by unfold rangeD; rw [List.length_map, List.length_range]; unfold lim; omega) (iter_range i _)⟩
      · cases e3
theorem star_none (hs : NoStar ev) {a : Expr} (h : ¬ notStar a = true) (ρ : DSt) : ev a ρ = none := by
  cases a <;> first | exact absurd rfl h | exact hs _ _ _
theorem seqK_of {O : List Addr} {H : Hp} {v : V} {d : D} {ds : List D} {K : PySem.W.Frag} (r : Rep K (hid O H) v d) (e : seqD d = some ds) : ∃ k a xs, v = .ref a ∧ SqK k K (hid O H) a xs ∧ RepAll K (hid O H) xs ds ∧ ds.length ≤ lim := by
  cases r <;> try (cases e; done)
  case tup a xs ds ha ra la => cases e; exact ⟨true, a, xs, rfl, ha, ra, la⟩
  case lst a xs ds ha ra la => cases e; exact ⟨false, a, xs, rfl, .of ha, ra, la⟩
  case scr a ns ha la => cases e; exact ⟨false, a, _, rfl, ha, repAll_ints ns, by rw [List.length_map]; exact la⟩
theorem SqK.mono {k : Bool} {K : PySem.W.Frag} {H H' : Hp} {a : Addr} {xs : List V} (s : SameN H H') (h : SqK k K H a xs) : SqK k K H' a xs := by
  cases k with
  | true => exact same_sqT s h
  | false => exact s.seq (show SqL K H a xs from h)
theorem enumL_len (ds : List D) : (enumL ds).length = ds.length := by unfold enumL; simp
theorem enumL_get (ds : List D) (i : Nat) : (enumL ds)[i]? = (ds[i]?).map fun d => .tup [.int (i : Nat), d] := by
  unfold enumL
  simp [List.getElem?_zipIdx]
  rfl
theorem zipL_len (as bs : List D) : (zipL as bs).length = min as.length bs.length := by unfold zipL; simp
theorem zipL_get (as bs : List D) (i : Nat) : ∀ d, (zipL as bs)[i]? = some d → ∃ a b, as[i]? = some a ∧ bs[i]? = some b ∧ d = .tup [a, b] := fun d h => by
  unfold zipL at h
  rw [List.getElem?_zipWith] at h
  split at h
  · rename_i a b h1 h2
    cases h
    exact ⟨a, b, h1, h2, rfl⟩
  · cases h
theorem rep_new2 {K : PySem.W.Frag} {O : List Addr} {H : Hp} {T : Addr} {x y : V} {a b : D} (hO : Dom O H) (hT : H T = none) (rx : Rep K (hid O H) x a) (ry : Rep K (hid O H) y b) : Rep K (hid O (upd H T (.tup [x, y]))) (.ref T) (.tup [a, b]) :=
  .tup (.of (hid_new hO hT)) (.cons (rx.mono (hid_same (same_upd hT))) (.cons (ry.mono (hid_same (same_upd hT))) .nil)) (by show 2 ≤ lim; decide)
theorem iter_enum {k : Bool} {K : PySem.W.Frag} {S : Hp} {a : Addr} {xs : List V} {ds : List D} (h : SqK k K S a xs) (r : RepAll K S xs ds) : IterOf K S (IteK k K a) (enumL ds) := fun H s i => by
  refine ⟨fun d hd => ?_, fun h1 h2 => ⟨xs, h.mono s, by rw [enumL_len] at h1 h2; rw [r.length]; omega⟩⟩
  rw [enumL_get] at hd
  obtain ⟨d0, hd0, rfl⟩ := map_inv hd
  obtain ⟨v, hv, rv⟩ := r.get hd0
  refine ⟨⟨xs, v, h.mono s, hv⟩, fun x H' y => ?_⟩
  obtain ⟨T, z, rfl, hT, rfl, y⟩ := y
  have := y xs (h.mono s)
  rw [hv] at this
  cases this
  exact ⟨same_upd hT, fun O hO hS => rep_new2 hO hT (.int _) (rv.mono hS)⟩
theorem iter_zip {k1 k2 : Bool} {K : PySem.W.Frag} {S : Hp} {a b : Addr} {xs ys : List V} {ds es : List D} (h : SqK k1 K S a xs) (h' : SqK k2 K S b ys) (r : RepAll K S xs ds) (r' : RepAll K S ys es) : IterOf K S (ItzK k1 k2 K a b) (zipL ds es) := fun H s i => by
  refine ⟨fun d hd => ?_, fun h1 h2 => ⟨xs, ys, h.mono s, h'.mono s, by rw [zipL_len] at h1 h2; rw [r.length, r'.length]; omega⟩⟩
  obtain ⟨d0, e0, hd0, he0, rfl⟩ := zipL_get _ _ _ _ hd
  obtain ⟨v, hv, rv⟩ := r.get hd0
  obtain ⟨u, hu, ru⟩ := r'.get he0
  refine ⟨⟨xs, ys, v, u, h.mono s, h'.mono s, hv, hu⟩, fun x H' y => ?_⟩
  obtain ⟨T, z, z', rfl, hT, rfl, y1, y2⟩ := y
  have e1 := y1 xs (h.mono s)
  have e2 := y2 ys (h'.mono s)
  rw [hv] at e1
  rw [hu] at e2
  cases e1
  cases e2
  exact ⟨same_upd hT, fun O hO hS => rep_new2 hO hT (rv.mono hS) (ru.mono hS)⟩
theorem di_enum {elts : List Expr} {kk : Nat} {tpos p pos : Pos} {a : Expr} {fa : DSt → Option D} (hX : XOk T k X) (ha : PE X a (tD X.K fa)) (hn : notStar a = true) (hg : Gl X "enumerate") :
    PI X (.Tuple elts kk tpos) (.Call (.Name "enumerate" p) [a] [] pos) (tI X.K fun ρ => (fa ρ).bind fun x => (seqD x).bind fun l => some (enumL l)) := by
  refine PI.imp (pi_enumK hg (blt_mem hX (by decide +kernel)) (pa_cons ha pa_nil (star_cons hn _ _)) (star_cons hn _ _)) fun σ H R ⟨O, L, ρ, ds, s, e, g⟩ => ?_
  obtain ⟨d, e1, e2⟩ := bind_inv e
  obtain ⟨l, e4, e3⟩ := bind_inv e2
  cases e3
  refine ⟨O, L, ρ, d, s, e1, fun v H1 s1 r1 => ?_⟩
  obtain ⟨kb, b, xs, rfl, h1, h2, h3⟩ := seqK_of r1 e4
  exact ⟨kb, b, xs, rfl, h1.mono hid_le, g _ _ s1 (by rw [enumL_len]; exact h3) (iter_enum h1 h2)⟩
theorem di_zip {elts : List Expr} {kk : Nat} {tpos p pos : Pos} {a b : Expr} {fa fb : DSt → Option D} (hX : XOk T k X) (ha : PE X a (tD X.K fa)) (hb : PE X b (tD X.K fb)) (hna : notStar a = true) (hnb : notStar b = true) (hg : Gl X "zip") :
    PI X (.Tuple elts kk tpos) (.Call (.Name "zip" p) [a, b] [] pos) (tI X.K fun ρ => (fa ρ).bind fun x => (fb ρ).bind fun y => (seqD x).bind fun l => (seqD y).bind fun m => some (zipL l m)) := by
  refine PI.imp (pi_zipK hg (blt_mem hX (by decide +kernel)) (pa_cons ha (pa_cons hb pa_nil (star_cons hnb _ _)) (star_cons hna _ _)) (star_cons hna _ _) (star_any _ _ [b] (by rw [List.all_cons, hnb]; rfl))) fun σ H R ⟨O, L, ρ, ds, s, e, g⟩ => ?_
  obtain ⟨x, e1, e⟩ := bind_inv e
  obtain ⟨y, e2, e⟩ := bind_inv e
  obtain ⟨l, e3, e⟩ := bind_inv e
  obtain ⟨m, e4, e5⟩ := bind_inv e
  cases e5
  refine ⟨O, L, ρ, x, s, e1, fun v H1 s1 r1 => ⟨O, L, ρ, y, s.same s1, e2, fun u H2 s2 r2 => ?_⟩⟩
  obtain ⟨k1, a1, xs, rfl, h1, h2, h3⟩ := seqK_of (r1.mono (hid_same s2)) e3
  obtain ⟨k2, b1, ys, rfl, i1, i2, i3⟩ := seqK_of r2 e4
  exact ⟨k1, k2, a1, b1, xs, ys, rfl, h1.mono hid_le, i1.mono hid_le, g _ _ (s1.trans s2) (by rw [zipL_len]; omega) (iter_zip h1 i1 h2 i2)⟩
theorem di_all {tg iter : Expr} (hX : XOk T k X) (hs : NoStar ev) (h : ∀ e, PE X e (tD X.K (ev e))) : PI X tg iter (tI X.K (iterD ev X.env.scope (isTupE tg) iter)) := by
  have gen : ∀ e, PI X tg e (tI X.K fun ρ => (ev e ρ).bind seqD) := fun e => di_seq (h e)
  cases iter
  case Call f args kw pos =>
    cases f
    case Name f p =>
      by_cases hf : f = "range"
      · subst hf
        match args, kw with
        | [a], [] =>
          have e : iterD ev X.env.scope (isTupE tg) (.Call (.Name "range" p) [a] [] pos) = fun ρ => if isGl X.env.scope "range" = true then (ev a ρ).bind rng1 else none := by
            funext ρ
            simp [iterD]
          rw [e]
          by_cases hg : isGl X.env.scope "range" = true
          · simp only [if_pos hg]
            by_cases hn : notStar a = true
            · exact di_rng1 hX (h a) hn (gl_of hg)
            · exact pi_no fun ρ => by rw [star_none hs hn]; rfl
          · simp only [if_neg hg]
            exact pi_no fun ρ => rfl
        | [a, b], [] =>
          have e : iterD ev X.env.scope (isTupE tg) (.Call (.Name "range" p) [a, b] [] pos) = fun ρ => if isGl X.env.scope "range" = true then (ev a ρ).bind fun x => (ev b ρ).bind fun y => rng2 x y else none := by
            funext ρ
            simp [iterD]
          rw [e]
          by_cases hg : isGl X.env.scope "range" = true
          · simp only [if_pos hg]
            by_cases hn : notStar a = true
            · by_cases hn2 : notStar b = true
              · exact di_rng2 hX (h a) (h b) hn hn2 (gl_of hg)
              · refine pi_no fun ρ => ?_
                rw [star_none hs hn2]
                cases ev a ρ <;> rfl
            · exact pi_no fun ρ => by rw [star_none hs hn]; rfl
          · simp only [if_neg hg]
            exact pi_no fun ρ => rfl
        | [], _ => exact pi_no fun ρ => by simp [iterD]
        | [_], _ :: _ => exact pi_no fun ρ => by simp [iterD]
        | [_, _], _ :: _ => exact pi_no fun ρ => by simp [iterD]
        | _ :: _ :: _ :: _, _ => exact pi_no fun ρ => by simp [iterD]
      · by_cases hf2 : f = "enumerate"
        · subst hf2
          match args, kw with
          | [a], [] =>
            have e : iterD ev X.env.scope (isTupE tg) (.Call (.Name "enumerate" p) [a] [] pos) = fun ρ => if (isGl X.env.scope "enumerate" && isTupE tg) = true then (ev a ρ).bind fun x => (seqD x).bind fun l => some (enumL l) else none := by
              funext ρ
              simp only [iterD, if_neg hf, if_true]
            rw [e]
            by_cases hg : (isGl X.env.scope "enumerate" && isTupE tg) = true
            · simp only [if_pos hg]
              obtain ⟨g1, g2⟩ := Bool.and_eq_true_iff.mp hg
              cases tg <;> try (cases g2; done)
              by_cases hn : notStar a = true
              · exact di_enum hX (h a) hn (gl_of g1)
              · exact pi_no fun ρ => by rw [star_none hs hn]; rfl
            · simp only [if_neg hg]
              exact pi_no fun ρ => rfl
          | [], _ => exact pi_no fun ρ => by simp [iterD, hf]
          | [_], _ :: _ => exact pi_no fun ρ => by simp [iterD, hf]
          | _ :: _ :: _, _ => exact pi_no fun ρ => by simp [iterD, hf]
        · by_cases hf3 : f = "zip"
          · subst hf3
            match args, kw with
            | [a, b], [] =>
              have e : iterD ev X.env.scope (isTupE tg) (.Call (.Name "zip" p) [a, b] [] pos) = fun ρ => if (isGl X.env.scope "zip" && isTupE tg) = true then (ev a ρ).bind fun x => (ev b ρ).bind fun y => (seqD x).bind fun l => (seqD y).bind fun m => some (zipL l m) else none := by
                funext ρ
                simp only [iterD, if_neg hf, if_neg hf2, if_true]
              rw [e]
              by_cases hg : (isGl X.env.scope "zip" && isTupE tg) = true
              · simp only [if_pos hg]
                obtain ⟨g1, g2⟩ := Bool.and_eq_true_iff.mp hg
                cases tg <;> try (cases g2; done)
                by_cases hn : notStar a = true
                · by_cases hn2 : notStar b = true
                  · exact di_zip hX (h a) (h b) hn hn2 (gl_of g1)
                  · refine pi_no fun ρ => ?_
                    rw [star_none hs hn2]
                    cases ev a ρ <;> rfl
                · exact pi_no fun ρ => by rw [star_none hs hn]; rfl
              · simp only [if_neg hg]
                exact pi_no fun ρ => rfl
            | [], _ => exact pi_no fun ρ => by simp [iterD, hf, hf2]
            | [_], _ => exact pi_no fun ρ => by simp [iterD, hf, hf2]
            | [_, _], _ :: _ => exact pi_no fun ρ => by simp [iterD, hf, hf2]
            | _ :: _ :: _ :: _, _ => exact pi_no fun ρ => by simp [iterD, hf, hf2]
          · have e : iterD ev X.env.scope (isTupE tg) (.Call (.Name f p) args kw pos) = fun ρ => (ev (.Call (.Name f p) args kw pos) ρ).bind seqD := by
              funext ρ
              simp only [iterD, if_neg hf, if_neg hf2, if_neg hf3]
            rw [e]
            exact gen _
    all_goals exact gen _
  all_goals exact gen _

/-! ### targets -/
def tG (K : PySem.W.Frag) (t : Tg) : TG := fun v σ H Q => ∃ O L ρ d ρ', SR K O L H σ ρ ∧ Rep K (hid O H) v d ∧ t.put d ρ = some ρ' ∧ ∀ σ', SR K O L H σ' ρ' → (∀ vs, (∀ i ∈ t.ixs, i ∈ vs) → wipe σ' vs = wipe σ vs) → Q σ' H
def tGs (K : PySem.W.Frag) (is : List Nat) : TGs := fun vs σ H Q => ∃ O L ρ ds ρ', SR K O L H σ ρ ∧ RepAll K (hid O H) vs ds ∧ putAll is ds ρ = some ρ' ∧ ∀ σ', SR K O L H σ' ρ' → (∀ vs, (∀ i ∈ is, i ∈ vs) → wipe σ' vs = wipe σ vs) → Q σ' H
theorem wipe_set {σ : St} {i : Nat} {v : Option V} : ∀ {vs : List Nat}, i ∈ vs → wipe (σ.set i v) vs = wipe σ vs
  | j :: vs, h => by
    show (wipe (σ.set i v) vs).set j none = (wipe σ vs).set j none
    by_cases hj : i = j
    · subst hj
      by_cases hm : i ∈ vs
      · rw [wipe_set hm]
      · have e : ∀ ws : List Nat, i ∉ ws → wipe (σ.set i v) ws = (wipe σ ws).set i v := fun ws => by
          induction ws with
          | nil => intro _; rfl
          | cons w ws ih =>
            intro hn
            have hw : i ≠ w := fun z => hn (by simp [z])
            show (wipe (σ.set i v) ws).set w none = ((wipe σ ws).set w none).set i v
            rw [ih (fun z => hn (by simp [z])), List.set_comm _ _ hw]
        rw [e vs hm, List.set_set]
    · have hm : i ∈ vs := by
        rcases List.mem_cons.mp h with z | z
        · exact absurd z hj
        · exact z
      rw [wipe_set hm]
theorem wipe_sub {σ : St} {vs : List Nat} : ∀ {ws : List Nat}, (∀ i ∈ ws, i ∈ vs) → wipe (wipe σ ws) vs = wipe σ vs
  | [], _ => rfl
  | w :: ws, h => by
    show wipe ((wipe σ ws).set w none) vs = _
    rw [wipe_set (h w List.mem_cons_self), wipe_sub fun i hi => h i (List.mem_cons_of_mem _ hi)]
theorem wipe_wipe {σ : St} {vs : List Nat} : wipe (wipe σ vs) vs = wipe σ vs := wipe_sub fun _ h => h
/-- the names of a target may be stored here -/
def StoreOk (X : Cx) (e : Expr) : Prop := match e with
  | .Name x _ => X.fn x = true ∨ X.env.scope.names.lookup x = some .local
  | _ => True
theorem dg_name {x : Str} {p : Pos} {i : Nat} (hX : XOk T k X) (hi : tgIx X.N X.env.scope (.Name x p) = some i) (hf : StoreOk X (.Name x p)) : PG X (.Name x p) (gName i) ∧ Loc X.env.scope x := by
  have hl : (X.env.scope.names.lookup x = some .local ∨ X.env.scope.names.lookup x = some .cell) ∧ ixOf X.N x = some i := by
    simp only [tgIx] at hi
    split at hi
    · rename_i h; exact ⟨.inl h, hi⟩
    · rename_i h; exact ⟨.inr h, hi⟩
    · cases hi
  exact ⟨pg_name hX.nd (ixOf_get hl.2) hl.1 hf, hl.1⟩
theorem tgIx_name {N : List Str} {sc : Scope} {e : Expr} {i : Nat} (h : tgIx N sc e = some i) : ∃ x p, e = .Name x p := by
  cases e <;> first | exact ⟨_, _, rfl⟩ | cases h
theorem tgIxs_each {N : List Str} {sc : Scope} (env : Env) : ∀ {es : List Expr} {is : List Nat}, tgIxs N sc es = some is → (assignEach es env).length = is.length ∧ (assignEach es env).findIdx? (·.1) = none
  | [], is, h => by cases h; exact ⟨rfl, rfl⟩
  | e :: es, is, h => by
    obtain ⟨i, h1, h⟩ := bind_inv (show (tgIx N sc e).bind (fun i => (tgIxs N sc es).bind fun is => some (i :: is)) = some is from h)
    obtain ⟨js, h2, h3⟩ := bind_inv h
    cases h3
    obtain ⟨x, p, rfl⟩ := tgIx_name h1
    obtain ⟨q1, q2⟩ := tgIxs_each env h2
    refine ⟨?_, ?_⟩
    · show (assignEach es env).length + 1 = js.length + 1
      rw [q1]
    · show ((false, assign (.Name x p) env) :: assignEach es env).findIdx? (·.1) = none
      rw [List.findIdx?_cons, q2]; rfl
theorem dg_names (hX : XOk T k X) : ∀ {es : List Expr} {is : List Nat}, tgIxs X.N X.env.scope es = some is → (∀ e ∈ es, StoreOk X e) → PGs X es (tGs X.K is)
  | [], is, h, _ => by
    cases h
    refine ⟨fun pins s σ H vs us Q I r q => ?_⟩
    obtain ⟨O, L, ρ, ds, ρ', sr, rr, e, g⟩ := q
    cases ds with
    | cons d ds => cases e
    | nil =>
      cases rr
      cases e
      exact (pgs_nil (X := X)).run pins s σ H [] us Q I r ⟨rfl, g σ sr fun _ _ => rfl⟩
  | e :: es, is, h, hst => by
    obtain ⟨i, h1, h⟩ := bind_inv (show (tgIx X.N X.env.scope e).bind (fun i => (tgIxs X.N X.env.scope es).bind fun is => some (i :: is)) = some is from h)
    obtain ⟨js, h2, h3⟩ := bind_inv h
    cases h3
    obtain ⟨x, p, rfl⟩ := tgIx_name h1
    have ih := dg_names hX h2 fun e he => hst e (List.mem_cons_of_mem _ he)
    obtain ⟨pg, _⟩ := dg_name hX h1 (hst _ List.mem_cons_self)
    refine ⟨fun pins s σ H vs us Q I r q => ?_⟩
    obtain ⟨O, L, ρ, ds, ρ', sr, rr, e, g⟩ := q
    cases rr with
    | nil => cases e
    | cons r1 rs =>
      refine (pgs_cons pg ih rfl).run pins s σ H _ us Q I r ⟨_, _, rfl, ?_⟩
      refine ⟨O, L, _, _, ρ', sr.setDat i r1, rs, e, fun σ' s' hw => g σ' s' fun vs hvs => ?_⟩
      rw [hw vs fun j hj => hvs j (List.mem_cons_of_mem _ hj)]
      exact wipe_set (hvs i List.mem_cons_self)
theorem putAll_len : ∀ {is : List Nat} {ds : List D} {ρ ρ' : DSt}, putAll is ds ρ = some ρ' → ds.length = is.length := fun {is} => by
  induction is with
  | nil => intro ds ρ ρ' e; cases ds with
    | nil => rfl
    | cons => cases e
  | cons i is ih => intro ds ρ ρ' e; cases ds with
    | nil => cases e
    | cons d ds => rw [List.length_cons, List.length_cons, ih (show putAll is ds _ = some ρ' from e)]
theorem dg_all {tg : Expr} {t : Tg} (hX : XOk T k X) (h : tgOf X.N X.env.scope tg = some t) (hst : StoreOk X tg) (hst2 : ∀ es k p, tg = .Tuple es k p → ∀ e ∈ es, StoreOk X e) : PG X tg (tG X.K t) := by
  have nm : ∀ {e : Expr} {i : Nat}, tgIx X.N X.env.scope e = some i → StoreOk X e → PG X e (tG X.K (.nm i)) := fun {e i} hi hs => by
    obtain ⟨x, p, rfl⟩ := tgIx_name hi
    obtain ⟨pg, _⟩ := dg_name hX hi hs
    refine ⟨fun pins s σ H v u Q I r q => ?_⟩
    obtain ⟨O, L, ρ, d, ρ', sr, rr, e, g⟩ := q
    cases e
    exact pg.run pins s σ H v u Q I r (g _ (sr.setDat i rr) fun vs hvs => wipe_set (hvs i (by simp [Tg.ixs])))
  cases tg
  case Tuple es k0 p =>
    obtain ⟨is, h1, h2⟩ := map_inv (show (tgIxs X.N X.env.scope es).map Tg.tp = some t from h)
    subst h2
    obtain ⟨q1, q2⟩ := tgIxs_each X.env h1
    have base := pg_tup (k := k0) (pos := p) (n := is.length) hX.calm (dg_names hX h1 (hst2 es k0 p rfl)) q1 q2
    have baseL := pg_unl (k := k0) (pos := p) (n := is.length) hX.calm (dg_names hX h1 (hst2 es k0 p rfl)) q1 q2
    refine ⟨fun pins s σ H v u Q I r q => ?_⟩
    obtain ⟨O, L, ρ, d, ρ', sr, rr, e, g⟩ := q
    cases rr <;> try (cases e; done)
    case tup a xs ds ha ra la =>
      have e : putAll is ds ρ = some ρ' := e
      exact base.run pins s σ H _ u Q I r ⟨a, xs, rfl, same_sqT hid_le ha, by rw [ra.length, putAll_len e], O, L, ρ, ds, ρ', sr, ra, e, g⟩
    case lst a xs ds ha ra la =>
      have e : putAll is ds ρ = some ρ' := e
      exact baseL.run pins s σ H _ u Q I r ⟨a, xs, rfl, .inl (.inl (hid_le.lst ha)), by rw [ra.length, putAll_len e], O, L, ρ, ds, ρ', sr, ra, e, g⟩
  case Name x p =>
    obtain ⟨i, h1, h2⟩ := map_inv (show (tgIx X.N X.env.scope (.Name x p)).map Tg.nm = some t from h)
    subst h2
    exact nm h1 hst
  all_goals cases h

/-! ### the keys of a dict -/
theorem dfzGet_inv {ρ : DSt} {i : Nat} {ks : List D} (h : dfzGet ρ i = some ks) : ρ[i]? = some (some (.dfz ks)) := by
  unfold dfzGet at h
  split at h
  · rename_i z; cases h; exact z
  · cases h
theorem dfzNm_inv {N : List Str} {sc : Scope} {x : Str} {ρ : DSt} {ks : List D} (h : dfzNm N sc x ρ = some ks) : ∃ i, ixOf N x = some i ∧ ρ[i]? = some (some (.dfz ks)) ∧ Vis sc x := by
  have fin : Vis sc x → (ixOf N x).bind (dfzGet ρ) = some ks → ∃ i, ixOf N x = some i ∧ ρ[i]? = some (some (.dfz ks)) ∧ Vis sc x := fun hv z => by
    obtain ⟨i, z1, z2⟩ := bind_inv z
    exact ⟨i, z1, dfzGet_inv z2, hv⟩
  unfold dfzNm at h
  split at h
  · rename_i q; exact fin (.inl q) h
  · rename_i q; exact fin (.inr (.inl q)) h
  · rename_i q; exact fin (.inr (.inr q)) h
  · cases h
theorem iter_dct {K : PySem.W.Frag} {S : Hp} {p : Addr} {o : Obj} {xs : List (List (Option Int) × Addr)} {ks : List D} (h : S p = some (DctO p o xs)) (r : DRep K S xs ks) : IterOf K S (Itx p o xs) ks := fun H s i => by
  have hl : xs.length = ks.length := by have := r.r.length; rwa [List.length_map] at this
  refine ⟨fun d hd => ⟨⟨s p _ h nt_dct, ?_⟩, fun x H' y => ?_⟩, fun h1 h2 => ⟨s p _ h nt_dct, by omega⟩⟩
  · have := (List.getElem?_eq_some_iff.mp hd).1
    omega
  · obtain ⟨rfl, y, hy, rfl⟩ := y
    refine ⟨Same.refl _, fun O _ so => ?_⟩
    obtain ⟨v, h1, h2⟩ := r.r.get hd
    rw [List.getElem?_map, hy] at h1
    cases h1
    exact h2.mono so
omit [Tbs] [Acs] in
theorem valV_E {i : Int} : ∀ {es : List Ent}, (es.map fun e => e.1).Nodup → ∀ e ∈ es, e.1 = i → valV (kvE es) (Sum.inl i) = some (V.ref e.2.1)
  | [], _, e, h, _ => by cases h
  | x :: es, nd, e, h, hi => by
    have nd' := List.nodup_cons.mp (show (x.1 :: es.map fun e => e.1).Nodup from nd)
    by_cases c : x.1 = i
    · have ex : e = x := by
        rcases List.mem_cons.mp h with z | z
        · exact z
        · exact absurd (List.mem_map.mpr ⟨e, z, by rw [hi, c]⟩) nd'.1
      subst ex
      unfold valV kvE
      rw [List.map_cons, List.find?_cons_of_pos (by simp [c])]; rfl
    · have he : e ∈ es := by
        rcases List.mem_cons.mp h with z | z
        · rw [z] at hi; exact absurd hi c
        · exact z
      have ih := valV_E nd'.2 e he hi
      unfold valV kvE at ih ⊢
      rw [List.map_cons, List.find?_cons_of_neg (by simpa using fun z => c z)]
      exact ih
theorem dlfNm_inv {N : List Str} {sc : Scope} {x : Str} {ρ : DSt} {m : MD} (h : dlfNm N sc x ρ = some m) : ∃ i, ixOf N x = some i ∧ ρ[i]? = some (some (.dlf m)) ∧ Vis sc x := by
  have fin : Vis sc x → (ixOf N x).bind (dlfGet ρ) = some m → ∃ i, ixOf N x = some i ∧ ρ[i]? = some (some (.dlf m)) ∧ Vis sc x := fun hv z => by
    obtain ⟨i, z1, z2⟩ := bind_inv z
    refine ⟨i, z1, ?_, hv⟩
    unfold dlfGet at z2
    split at z2
    · rename_i q; cases z2; exact q
    · cases z2
  unfold dlfNm at h
  split at h
  · rename_i q; exact fin (.inl q) h
  · rename_i q; exact fin (.inr (.inl q)) h
  · rename_i q; exact fin (.inr (.inr q)) h
  · cases h
omit [Tbs] [Acs] in
theorem if_inv' {α : Type} {c : Prop} [Decidable c] {a : Option α} {b : α} (h : (if c then a else none) = some b) : c ∧ a = some b := by
  by_cases q : c
  · rw [if_pos q] at h; exact ⟨q, h⟩
  · rw [if_neg q] at h; cases h
theorem di_x {X : Cx} {T : Tab} {k : Nat} {ev : Expr → DSt → Option D} {tg iter : Expr} (hX : XOk T k X) (hs : NoStar ev) (h : ∀ e, PE X e (tD X.K (ev e))) : PI X tg iter (tI X.K (iterX X.N ev X.env.scope (isTupE tg) iter)) := by
  have old := di_all (tg := tg) (iter := iter) hX hs h
  cases iter
  case Name x p =>
    refine ⟨fun pins s0 σ H R I ⟨O, L, ρ, ds, s, e, g⟩ => ?_⟩
    simp only [iterX] at e
    cases q : dfzNm X.N X.env.scope x ρ with
    | none =>
      rw [q] at e
      exact old.run pins s0 σ H R I ⟨O, L, ρ, ds, s, e, g⟩
    | some ks =>
      rw [q] at e
      cases e
      obtain ⟨i, hi, hd, hv⟩ := dfzNm_inv q
      have hi' := ixOf_get hi
      have hnm := hX.nm x (List.mem_of_getElem? hi')
      obtain ⟨pa, o, xs, h1, h2, h3⟩ := s.ex.dfz i _ hd
      exact (pi_dct (pe_var hi' hv hnm.1 hnm.2)).run pins s0 σ H R I ⟨.ref pa, h1, pa, o, xs, rfl, (of_hid h2).2, g _ H (Same.refl H) h3.l (iter_dct h2 h3)⟩
  case Call fe args kw cp =>
    cases fe
    case Name f fp =>
      match args, kw with
      | [], _ => exact old
      | e1 :: _ :: _, _ => cases e1 <;> exact old
      | [e], _ :: _ => cases e <;> exact old
      | [e], [] =>
        cases e
        case Name x p =>
          refine ⟨fun pins s0 σ H R I ⟨O, L, ρ, ds, s, e, g⟩ => ?_⟩
          simp only [iterX] at e
          cases q : dlfNm X.N X.env.scope x ρ with
          | none =>
            rw [q] at e
            exact old.run pins s0 σ H R I ⟨O, L, ρ, ds, s, e, g⟩
          | some m =>
            rw [q] at e
            obtain ⟨hc, e8⟩ := if_inv' e
            obtain ⟨hc1, hc2⟩ := Bool.and_eq_true_iff.mp hc
            have hf := of_decide_eq_true hc1
            clear e
            subst hf
            unfold sortM at e8
            obtain ⟨hs2, e9⟩ := if_inv' e8
            obtain ⟨hs3, hs4⟩ := Bool.and_eq_true_iff.mp hs2
            have e9 := Option.some.inj e9
            subst e9
            obtain ⟨i, hi, hd, hv⟩ := dlfNm_inv q
            have hi' := ixOf_get hi
            have hnm := hX.nm x (List.mem_of_getElem? hi')
            obtain ⟨pa, es, h1, h2, h3⟩ := s.ex.dlf i m hd
            have ek : (kvE es).map (·.1) = (m.map fun q => q.1).map Sum.inl := by
              rw [← h3]; unfold kvE mdE; rw [List.map_map, List.map_map, List.map_map]; rfl
            refine (pi_seq (pe_callB (call_sortedDI hX.calm) (gl_of hc2) (hX.blt "sorted" (by decide)) (by decide +kernel) (pa_cons (pe_var hi' hv hnm.1 hnm.2) pa_nil rfl))).run pins s0 σ H R I ⟨.ref pa, h1, pa, kvE es, m.map fun q => q.1, rfl, .inl (of_hid h2.hp).2, ek, by rw [List.length_map]; exact of_decide_eq_true hs4, fun ys pl hp hs5 hn => ?_⟩
            have ey : ys = m.map fun q => q.1 := perm_uniq (le := fun a b : Int => a ≤ b) (fun a b h1 h2 => Int.le_antisymm h1 h2) hs5 (of_decide_eq_true hs3) hp
            subst ey
            refine ⟨pl, rfl, .inl ⟨⟨_, .of upd_same⟩, g _ _ (same_upd hn) (by rw [List.length_map]; have := of_decide_eq_true hs4; unfold lim; omega) ?_⟩⟩
            have hh := hid_new (o := .lst ((m.map fun q => q.1).map V.int)) s.dom hn
            have := iter_list (K := X.K) (S := hid O (upd H pl (.lst ((m.map fun q => q.1).map V.int)))) (ds := (m.map fun q => q.1).map D.int) (.of hh) (repAll_ints (m.map fun q => q.1))
            have em : (m.map fun q => q.1).map D.int = m.map fun q => D.int q.1 := by rw [List.map_map]; rfl
            rw [em] at this
            exact this
        all_goals exact old
    all_goals exact old
  all_goals exact old
/-! ### comprehensions -/
theorem hid_upd_in {O : List Addr} {H : Hp} {q : Addr} {o : HO} (h : q ∈ O) : hid O (upd H q o) = hid O H := by
  funext p
  unfold hid
  by_cases hp : p ∈ O
  · rw [if_pos hp, if_pos hp]
  · rw [if_neg hp, if_neg hp]
    exact upd_ne fun z => hp (by rw [z]; exact h)
theorem SR.chg {K : PySem.W.Frag} {O L : List Addr} {H : Hp} {σ : St} {ρ : DSt} {q : Addr} {o : HO} (r : SR K O L H σ ρ) (hq : q ∈ O) (hL : q ∉ L) (hn : Pl q o) (ht : TabsX H → TabsX (upd H q o)) : SR K O L (upd H q o) σ ρ where
  len := r.len
  dom := ⟨fun p hp => by
    by_cases e : p = q
    · rw [e]; exact ⟨o, upd_same, hn⟩
    · rw [upd_ne e]; exact r.dom.d p hp, ht r.dom.t, by rw [hid_upd_in hq]; exact r.dom.r⟩
  sub := r.sub
  dat := fun i d h => by rw [hid_upd_in hq]; exact r.dat i d h
  own := fun i ds h => by
    obtain ⟨p, xs, e, hp, q1, t, l⟩ := r.own i ds h
    rw [hid_upd_in hq]
    exact ⟨p, xs, e, hp, by rw [upd_ne (fun z => hL (by rw [← z]; exact hp))]; exact q1, t, l⟩
  inj := r.inj
  act := r.act
  ex := r.ex.map (fun _ _ _ h => ⟨h, rfl⟩) (fun p u xs hp h => ⟨hp, by rw [upd_ne fun z => hL (by rw [← z]; exact hp)]; exact h⟩) (by rw [hid_upd_in hq]; exact SameN.refl _)
/-- what was not there ahead is changed -/
theorem same_over {H H' : Hp} {A : Addr} {o : HO} (hA : H A = none) (s : Same H H') (ht : TabsX H' → TabsX (upd H' A o)) : Same H (upd H' A o) :=
  ⟨fun b u q nt => by rw [upd_ne (ne_of_none q hA)]; exact s.n b u q nt, fun t => ht (s.t t)⟩
def tTs (K : PySem.W.Frag) (f : DSt → Option Bool) : TT := fun σ H Q => ∃ O L ρ b, SR K O L H σ ρ ∧ f ρ = some b ∧ ∀ H', Same H H' → Q b H'
theorem compD_len {f : D → Option (Option D)} : ∀ {ds ys : List D}, compD f ds = some ys → ys.length ≤ ds.length
  | [], ys, h => by cases h; exact Nat.le_refl _
  | d :: ds, ys, h => by
    obtain ⟨o, h1, h⟩ := bind_inv (show (f d).bind _ = some ys from h)
    obtain ⟨zs, h2, h3⟩ := map_inv h
    have := compD_len h2
    subst h3
    cases o <;> simp [consO] <;> omega
theorem de_comp {own : List (Str × Nat)} {t : Tg} {fi : DSt → Option (List D)} {ft : DSt → Option Bool} {fe : DSt → Option D} (hix : ∀ i ∈ t.ixs, i ∈ own.map (·.2))
    {σ : St} {H : Hp} {Q : VK} (h : tD X.K (fun ρ => (fi ρ).bind fun ds => (compD (compF t ft fe (wipeD ρ (own.map (·.2)))) ds).map D.lst) σ H Q) : tLc (tI X.K fi) (tG X.K t) (tTs X.K ft) (tD X.K fe) (own.map (·.2)) σ H Q := by
  obtain ⟨O, L, ρ, d, s, e, g⟩ := h
  obtain ⟨ds, e1, e⟩ := bind_inv e
  obtain ⟨ys, e2, e3⟩ := map_inv e
  subst e3
  generalize hvs : own.map (·.2) = vs at *
  refine ⟨O, L, ρ, ds, s, e1, fun J H1 s1 hlen hJ A hA => ?_⟩
  have sw : SR X.K (A :: O) L (upd H1 A (.lst [])) (wipe σ vs) (wipeD ρ vs) := ((s.same s1).wipe vs).more hA pl_lst
  have hAL : A ∉ L := fun z => (s.same s1).dom.ne (s.sub A z) hA
  have hAO : A ∉ O := fun z => (s.same s1).dom.ne z hA
  refine ⟨fun i m H2 => m = ds.length - i ∧ i ≤ ds.length ∧ SR X.K (A :: O) L H2 (wipe σ vs) (wipeD ρ vs) ∧ Same H1 H2 ∧ SameN (hid O H1) (hid (A :: O) H2) ∧
    ∃ acc accD ys', H2 A = some (.lst acc) ∧ RepAll X.K (hid (A :: O) H2) acc accD ∧ accD.length ≤ i ∧ compD (compF t ft fe (wipeD ρ vs)) (ds.drop i) = some ys' ∧ ys = accD ++ ys', ⟨ds.length, by simp, Nat.zero_le _, sw, same_upd hA, ?_, [], [], ys, upd_same, .nil, Nat.le_refl _, e2, rfl⟩, ?_⟩
  · intro b o q _
    obtain ⟨n, q⟩ := of_hid q
    have ne : b ≠ A := ne_of_none q hA
    exact hid_get (by simp only [List.mem_cons, not_or]; exact ⟨ne, n⟩) (by rw [upd_ne ne]; exact q)
  · rintro i m H2 ⟨rfl, hi', sr, sm, sm2, acc, accD, ys', hacc, racc, hal, hcomp, hys⟩
    obtain ⟨jgo, jstop⟩ := hJ H2 (sm2.trans hid_le) i
    by_cases hlt : i < ds.length
    · obtain ⟨hgo, hyld⟩ := jgo ds[i] (List.getElem?_eq_getElem hlt)
      refine .inr ⟨hgo, fun H' => (i + 1 ≤ ds.length ∧ SR X.K (A :: O) L H' (wipe σ vs) (wipeD ρ vs) ∧ Same H1 H' ∧ SameN (hid O H1) (hid (A :: O) H') ∧
        ∃ acc accD ys', H' A = some (.lst acc) ∧ RepAll X.K (hid (A :: O) H') acc accD ∧ accD.length ≤ i + 1 ∧ compD (compF t ft fe (wipeD ρ vs)) (ds.drop (i + 1)) = some ys' ∧ ys = accD ++ ys'), fun H' w => ⟨ds.length - (i + 1), by omega, rfl, w⟩, fun x H' y => ?_⟩
      obtain ⟨s2, rx⟩ := hyld x H' y
      have rx := rx (A :: O) sr.dom sm2
      rw [List.drop_eq_getElem_cons hlt] at hcomp
      obtain ⟨o, c0, hcomp⟩ := bind_inv (show (compF t ft fe (wipeD ρ vs) ds[i]).bind _ = some ys' from hcomp)
      obtain ⟨zs, c4, c5⟩ := map_inv hcomp
      rw [compF_eq] at c0
      obtain ⟨ρ', c1, c0⟩ := bind_inv (show (t.put ds[i] (wipeD ρ vs)).bind _ = some o from c0)
      obtain ⟨b, c2, c0⟩ := bind_inv c0
      refine ⟨A :: O, L, wipeD ρ vs, ds[i], ρ', sr.same s2, rx, c1, fun σ2 s3 hw => ⟨by rw [hw vs hix]; exact wipe_wipe, ?_⟩⟩
      refine ⟨A :: O, L, ρ', b, s3, c2, fun H3 s4 => ?_⟩
      have t1 : Same H2 H3 := s2.trans s4
      cases b with
      | false =>
        cases c0
        exact ⟨hlt, sr.same t1, sm.trans t1, sm2.trans (hid_same t1), acc, accD, zs, t1.lst hacc, racc.mono (hid_same t1), by omega, c4, by rw [hys, ← c5]; rfl⟩
      | true =>
        obtain ⟨yd, c3, c6⟩ := map_inv (show (fe ρ').map some = some o from c0)
        subst c6
        subst c5
        refine ⟨A :: O, L, ρ', yd, s3.same s4, c3, fun v H4 s5 rv => ?_⟩
        have t2 : Same H2 H4 := t1.trans s5
        have racc' := racc.mono (hid_same (O := A :: O) t2)
        refine ⟨acc, t2.lst hacc, ?_, hlt, (sr.same t2).chg List.mem_cons_self hAL pl_lst (tabs_lst (t2.lst hacc)), same_over hA (sm.trans t2) (tabs_lst (t2.lst hacc)), ?_, acc ++ [v], accD ++ [yd], zs, upd_same, ?_, ?_, c4, ?_⟩
        · exact lim_lt (by rw [racc.length]; omega)
        · rw [hid_upd_in List.mem_cons_self]
          exact sm2.trans (hid_same t2)
        · rw [hid_upd_in List.mem_cons_self]
          exact racc'.append (.cons rv .nil)
        · rw [List.length_append]; show accD.length + 1 ≤ i + 1; omega
        · rw [hys, List.append_assoc]; rfl
    · have hi2 : i = ds.length := by omega
      subst hi2
      rw [List.drop_length] at hcomp
      cases hcomp
      rw [List.append_nil] at hys
      subst hys
      refine .inl ⟨jstop (Nat.le_refl _) (Nat.le_refl _), g _ _ (s1.trans sm) (.lst (hid_get hAO hacc) (racc.mono (hid_sub fun p hp => List.mem_cons_of_mem _ hp)) (by have := compD_len e2; omega))⟩
end
end Sw
/-! ## the interpreter is right: dict displays -/
namespace Sw
open PySem L2
variable [Tbs] [Acs]
inductive KvR (K : PySem.W.Frag) (H : Hp) : List (Key × V) → List (Key × D) → Prop
  | nil : KvR K H [] []
  | cons {k : Key} {v : V} {d : D} {vs : List (Key × V)} {ds : List (Key × D)} : Rep K H v d → KvR K H vs ds → KvR K H ((k, v) :: vs) ((k, d) :: ds)
section
variable {K : PySem.W.Frag} {H H' : Hp}
theorem KvR.mono (s : SameN H H') : ∀ {vs : List (Key × V)} {ds : List (Key × D)}, KvR K H vs ds → KvR K H' vs ds
  | _, _, .nil => .nil
  | _, _, .cons r t => .cons (r.mono s) (KvR.mono s t)
theorem KvR.length : ∀ {vs : List (Key × V)} {ds : List (Key × D)}, KvR K H vs ds → vs.length = ds.length
  | _, _, .nil => rfl
  | _, _, .cons _ t => by rw [List.length_cons, List.length_cons, KvR.length t]
theorem KvR.append : ∀ {vs ws : List (Key × V)} {ds es : List (Key × D)}, KvR K H vs ds → KvR K H ws es → KvR K H (vs ++ ws) (ds ++ es)
  | _, _, _, _, .nil, q => q
  | _, _, _, _, .cons r t, q => .cons r (KvR.append t q)
theorem KvR.any (k : Key) : ∀ {vs : List (Key × V)} {ds : List (Key × D)}, KvR K H vs ds → (vs.any fun kv => decide (kv.1 = k)) = (ds.any fun kv => decide (kv.1 = k))
  | _, _, .nil => rfl
  | _, _, .cons r t => by rw [List.any_cons, List.any_cons, KvR.any k t]
theorem KvR.upd {k : Key} {v : V} {d : D} (r : Rep K H v d) : ∀ {vs : List (Key × V)} {ds : List (Key × D)}, KvR K H vs ds → KvR K H (vs.map fun kv => if kv.1 = k then (kv.1, v) else kv) (ds.map fun kv => if kv.1 = k then (kv.1, d) else kv)
  | _, _, .nil => .nil
  | _, _, .cons (k := k0) q t => by
    rw [List.map_cons, List.map_cons]
    by_cases e : k0 = k
    · simp only [if_pos e]; exact .cons r (KvR.upd r t)
    · simp only [if_neg e]; exact .cons q (KvR.upd r t)
theorem KvR.put {k : Key} {v : V} {d : D} (r : Rep K H v d) {vs : List (Key × V)} {ds : List (Key × D)} (h : KvR K H vs ds) : KvR K H (putK vs k v) (putKd ds k d) := by
  unfold putK putKd
  rw [KvR.any k h]
  split
  · exact KvR.upd r h
  · exact h.append (.cons r .nil)
theorem KvR.merge {more : List (Key × V)} {ds : List (Key × D)} (h : KvR K H more ds) : ∀ {vs : List (Key × V)} {es : List (Key × D)}, KvR K H vs es → KvR K H (mergeK vs more) (mergeKd es ds) := by
  induction h with
  | nil => intro vs es q; exact q
  | cons r t ih => intro vs es q; exact ih (KvR.put r q)
theorem KvR.val (k : Key) : ∀ {vs : List (Key × V)} {ds : List (Key × D)}, KvR K H vs ds → (∀ d, valKd ds k = some d → ∃ v, valV vs k = some v ∧ Rep K H v d) ∧ (valKd ds k = none → valV vs k = none)
  | _, _, .nil => ⟨fun d h => (by cases h), fun _ => rfl⟩
  | _, _, .cons (k := k0) (v := v0) (d := d0) (vs := vs) (ds := ds) r t => by
    obtain ⟨h1, h2⟩ := KvR.val k t
    by_cases e : k0 = k
    · have e1 : valKd ((k0, d0) :: ds) k = some d0 := by unfold valKd; rw [List.find?_cons_of_pos (by simpa using e)]; rfl
      have e2 : valV ((k0, v0) :: vs) k = some v0 := by unfold valV; rw [List.find?_cons_of_pos (by simpa using e)]; rfl
      rw [e1, e2]
      exact ⟨fun d h => (by cases h; exact ⟨v0, rfl, r⟩), fun h => (by cases h)⟩
    · have e1 : valKd ((k0, d0) :: ds) k = valKd ds k := by unfold valKd; rw [List.find?_cons_of_neg (by simpa using e)]
      have e2 : valV ((k0, v0) :: vs) k = valV vs k := by unfold valV; rw [List.find?_cons_of_neg (by simpa using e)]
      rw [e1, e2]
      exact ⟨h1, h2⟩
theorem keyD_rep {v : V} {d : D} {k : Key} (r : Rep K H v d) (h : keyD d = some k) : v = kV k := by
  cases r <;> cases h <;> rfl
end
section
variable {X : Cx} {T : Tab} {k : Nat} {ev : Expr → DSt → Option D}
/-- the readings of a display's pairs -/
def trPairs (K : PySem.W.Frag) (ev : Expr → DSt → Option D) : List (Option Expr) → List Expr → List (TE × TE)
  | some a :: ks, v :: vs => (tD K (ev a), tD K (ev v)) :: trPairs K ev ks vs
  | _, _ => []
theorem pps_all {pos : Pos} (h : ∀ e, PE X e (tD X.K (ev e))) : ∀ (ks : List (Option Expr)) (vs : List Expr), ks.all (·.isSome) = true → ks.length = vs.length → PPs X pos ks vs (trPairs X.K ev ks vs)
  | [], [], _, _ => pps_nil
  | some a :: ks, v :: vs, hs, hl => pps_cons (h a) (h v) (pps_all h ks vs (by simpa using hs) (by simpa using hl))
  | none :: _, _, hs, _ => by simp at hs
  | _ :: _, [], _, hl => by simp at hl
  | [], _ :: _, _, hl => by simp at hl
theorem pairs_read {O L : List Addr} {σ : St} {ρ : DSt} : ∀ (ks : List (Option Expr)) (vs : List Expr) (l : List (Key × D)) (H : Hp) (Q : List (V × V) → Hp → Prop), SR X.K O L H σ ρ → evPairs ev ks vs ρ = some l →
    (∀ (kvs : List (Key × V)) (H' : Hp), Same H H' → KvR X.K (hid O H') kvs l → Q (kvs.map fun kv => (kV kv.1, kv.2)) H') → tPairs (trPairs X.K ev ks vs) σ H Q
  | [], [], l, H, Q, s, e, g => by
    cases e
    exact g [] H (Same.refl H) .nil
  | some a :: ks, v :: vs, l, H, Q, s, e, g => by
    obtain ⟨kk, e1, e⟩ := bind_inv (show ((ev a ρ).bind keyD).bind _ = some l from e)
    obtain ⟨dk, e2, e3⟩ := bind_inv e1
    obtain ⟨d, e4, e⟩ := bind_inv e
    obtain ⟨l', e5, e6⟩ := bind_inv e
    cases e6
    refine ⟨O, L, ρ, dk, s, e2, fun x H1 s1 r1 => ⟨O, L, ρ, d, s.same s1, e4, fun y H2 s2 r2 => ?_⟩⟩
    refine pairs_read ks vs l' H2 _ ((s.same s1).same s2) e5 fun kvs H3 s3 r3 => ?_
    have ex := keyD_rep r1 e3
    subst ex
    exact g ((kk, y) :: kvs) H3 (s1.trans (s2.trans s3)) (.cons (r2.mono (hid_same s3)) r3)
  | none :: _, _, l, H, Q, s, e, g => by cases e
  | some _ :: _, [], l, H, Q, s, e, g => by cases e
  | [], _ :: _, l, H, Q, s, e, g => by cases e
/-- a display, read: behind it the dict stands at p, owned by nobody else -/
theorem disp_read {ks : List (Option Expr)} {vs : List Expr} {O L : List Addr} {σ : St} {ρ : DSt} {H : Hp} {Q : VK} {l : List (Key × D)} (s : SR X.K O L H σ ρ) (e : evPairs ev ks vs ρ = some l) (hl : l.length ≤ 15)
    (g : ∀ (p : Addr) (kvs : List (Key × V)) (H' : Hp), p ∉ O → Same H H' → H' p = some (.dK kvs) → SR X.K (p :: O) L H' σ ρ → KvR X.K (hid (p :: O) H') kvs (mergeKd [] l) → Q (.ref p) H') : tDisp (trPairs X.K ev ks vs) σ H Q := by
  intro p hp
  have hpO : p ∉ O := fun z => s.dom.ne z hp
  have hpL : p ∉ L := fun z => hpO (s.sub p z)
  have s1 := s.more (o := .dK []) hp pl_dK
  refine pairs_read ks vs l _ _ s1 e fun kvs H' sm r => ⟨sm.dK upd_same, kvs, rfl, by rw [r.length]; exact hl, ?_⟩
  refine g p (mergeK [] kvs) _ hpO (same_over hp ((same_upd hp).trans sm) (tabs_dK (sm.dK upd_same))) upd_same ((s1.same sm).chg List.mem_cons_self hpL pl_dK (tabs_dK (sm.dK upd_same))) ?_
  · rw [hid_upd_in List.mem_cons_self]
    exact KvR.merge r .nil
theorem evPairs_len {ρ : DSt} : ∀ {ks : List (Option Expr)} {vs : List Expr} {l : List (Key × D)}, evPairs ev ks vs ρ = some l → l.length = ks.length
  | [], [], l, e => by cases e; rfl
  | some a :: ks, v :: vs, l, e => by
    obtain ⟨kk, e1, e⟩ := bind_inv (show ((ev a ρ).bind keyD).bind _ = some l from e)
    obtain ⟨d, e4, e⟩ := bind_inv e
    obtain ⟨l', e5, e6⟩ := bind_inv e
    cases e6
    rw [List.length_cons, List.length_cons, evPairs_len e5]
  | none :: _, _, l, e => by cases e
  | some _ :: _, [], l, e => by cases e
  | [], _ :: _, l, e => by cases e
theorem dictOk_inv {ks : List (Option Expr)} {vs : List Expr} (h : dictOk ks vs = true) : ks.all (·.isSome) = true ∧ ks.length = vs.length ∧ ks ≠ [] ∧ ks.length ≤ 15 := by
  unfold dictOk at h
  simp only [Bool.and_eq_true, beq_iff_eq, decide_eq_true_eq, Bool.not_eq_true'] at h
  obtain ⟨⟨⟨h1, h2⟩, h3⟩, h4⟩ := h
  exact ⟨h1, h2, fun z => (by subst z; cases h3), h4⟩
theorem de_dictIx {ks : List (Option Expr)} {vs : List Expr} {b : Expr} {dp pos : Pos} (hX : XOk T k X) (h : ∀ e, PE X e (tD X.K (ev e))) (hn : notSlice b = true) : PE X (.Subscript (.Dict ks vs dp) b pos) (tD X.K (dictIx ev ks vs b)) := by
  unfold dictIx
  by_cases hk : dictOk ks vs = true
  · simp only [if_pos hk]
    obtain ⟨h1, h2, h3, h4⟩ := dictOk_inv hk
    refine PE.imp (pe_dget (by have := hX.units; omega) (pe_disp (pps_all h ks vs h1 h2) h1 h2 h3 h4) (h b) (plain_ix hn)) fun σ H Q ⟨O, L, ρ, d, s, e, g⟩ => ?_
    obtain ⟨l, e1, e⟩ := bind_inv e
    obtain ⟨kk, e2, e3⟩ := bind_inv e
    obtain ⟨dk, e4, e5⟩ := bind_inv e2
    refine disp_read s e1 (by rw [evPairs_len e1]; exact h4) fun p kvs H1 hp sm hd s1 r1 => ?_
    refine ⟨p :: O, L, ρ, dk, s1, e4, fun y H2 s2 ry => ?_⟩
    have ey := keyD_rep ry e5
    subst ey
    obtain ⟨v, hv, rv⟩ := (KvR.val kk (r1.mono (hid_same s2))).1 d e3
    refine ⟨p, v, rfl, ?_, g v H2 (sm.trans s2) (rv.mono (hid_sub fun q hq => List.mem_cons_of_mem _ hq))⟩
    have := DGet.k (k := kk) (s2.dK hd)
    rw [hv] at this
    exact this
  · simp only [if_neg hk]
    exact pe_no fun _ => rfl
theorem de_dictGet {ks : List (Option Expr)} {vs : List Expr} {e f : Expr} {dp ap cp : Pos} (hX : XOk T k X) (h : ∀ e, PE X e (tD X.K (ev e))) (hl : (ap.endLine == cp.line) = true) (he : notStar e = true) (hf : notStar f = true) :
    PE X (.Call (.Attribute (.Dict ks vs dp) "get" ap) [e, f] [] cp) (tD X.K (dictGet ev ks vs e f)) := by
  unfold dictGet
  by_cases hk : dictOk ks vs = true
  · simp only [if_pos hk]
    obtain ⟨h1, h2, h3, h4⟩ := dictOk_inv hk
    have m2 : M2 X (.Dict ks vs dp) "get" ap e f cp := ⟨rfl, by rw [star_cons he, star_cons hf]; rfl, hl, by rw [star_cons he, star_cons hf]; rfl⟩
    refine PE.imp (pe_dget2 (by have := hX.units; omega) (pe_disp (pps_all h ks vs h1 h2) h1 h2 h3 h4) (h e) (h f) m2) fun σ H Q ⟨O, L, ρ, d, s, e, g⟩ => ?_
    obtain ⟨l, e1, e⟩ := bind_inv e
    obtain ⟨kk, e2, e⟩ := bind_inv e
    obtain ⟨dk, e4, e5⟩ := bind_inv e2
    obtain ⟨df, e6, e7⟩ := bind_inv e
    cases e7
    refine disp_read s e1 (by rw [evPairs_len e1]; exact h4) fun p kvs H1 hp sm hd s1 r1 => ?_
    refine ⟨p, rfl, .inl ⟨kvs, .inl hd⟩, p :: O, L, ρ, dk, s1, e4, fun y H2 s2 ry => ⟨p :: O, L, ρ, df, s1.same s2, e6, fun z H3 s3 rz => ?_⟩⟩
    have ey := keyD_rep ry e5
    subst ey
    refine ⟨_, DGet.k (k := kk) (s3.dK (s2.dK hd)), ?_⟩
    obtain ⟨q1, q2⟩ := KvR.val kk ((r1.mono (hid_same s2)).mono (hid_same s3))
    have fin : ∀ v, Rep X.K (hid (p :: O) H3) v ((valKd (mergeKd [] l) kk).getD df) → Q v H3 := fun v rv => g v H3 (sm.trans (s2.trans s3)) (rv.mono (hid_sub fun q hq => List.mem_cons_of_mem _ hq))
    cases q : valKd (mergeKd [] l) kk with
    | none =>
      rw [q2 q]
      refine fin z ?_
      rw [q]; exact rz
    | some d0 =>
      obtain ⟨v, hv, rv⟩ := q1 d0 q
      rw [hv]
      refine fin v ?_
      rw [q]; exact rv
  · simp only [if_neg hk]
    exact pe_no fun _ => rfl
end
end Sw
/-! ## functions handed on: calls of what was handed, lambdas -/
namespace Sw
open PySem L2
variable [Tbs] [Acs]
section
variable {X : Cx} {T : Tab} {k : Nat} {ev : Expr → DSt → Option D} {p pos : Pos}
theorem actAt_inv {ρ : DSt} {i : Nat} (h : actAt ρ i = true) : ρ[i]? = some (some .act) := by
  unfold actAt at h
  split at h
  · assumption
  · cases h
theorem isAct_inv {N : List Str} {sc : Scope} {x : Str} {ρ : DSt} (h : isAct N sc x ρ = true) : ∃ i, ixOf N x = some i ∧ ρ[i]? = some (some .act) ∧ Vis sc x := by
  have core : ∀ {b : Bool}, ((ixOf N x).map (actAt ρ)).getD false = true → ∃ i, ixOf N x = some i ∧ ρ[i]? = some (some .act) := fun {b} h => by
    cases q : ixOf N x with
    | none => rw [q] at h; cases h
    | some i => rw [q] at h; exact ⟨i, rfl, actAt_inv h⟩
  unfold isAct at h
  split at h
  · rename_i q; obtain ⟨i, h1, h2⟩ := core (b := true) h; exact ⟨i, h1, h2, .inl q⟩
  · rename_i q; obtain ⟨i, h1, h2⟩ := core (b := true) h; exact ⟨i, h1, h2, .inr (.inl q)⟩
  · rename_i q; obtain ⟨i, h1, h2⟩ := core (b := true) h; exact ⟨i, h1, h2, .inr (.inr q)⟩
  · cases h
theorem if_inv {c : Prop} [Decidable c] {α : Type} {o : Option α} {a : α} (h : (if c then o else none) = some a) : c ∧ o = some a := by
  split at h
  · rename_i q; exact ⟨q, h⟩
  · cases h
/-- what was handed is called -/
theorem de_act {f : Str} {e : Expr} {fe : DSt → Option D} {F : D → Option D} (hX : XOk T k X) (hF : T.ap = some F) (he : PE X e (tD X.K fe)) (hn : notStar e = true) :
    PE X (.Call (.Name f p) [e] [] pos) (tD X.K fun ρ => if isAct X.N X.env.scope f ρ = true then (fe ρ).bind F else none) := by
  refine ⟨fun pins s σ H Q I h => ?_⟩
  obtain ⟨O, L, ρ, d, sr, e0, g⟩ := h
  obtain ⟨hA, e0⟩ := if_inv e0
  obtain ⟨i, hi, ha, hv⟩ := isAct_inv hA
  obtain ⟨x, e1, e2⟩ := bind_inv e0
  have hs := sr.act i ha
  have hN := ixOf_get hi
  have hnm := hX.nm f (List.mem_of_getElem? hN)
  obtain ⟨hk, hfn, hR⟩ := hX.act F hF
  refine wpAny_Call_Name_kw (thn ((pe_var (pos := p) hN hv hnm.1 hnm.2).run pins s σ H (fun v H1 => v = .ref Acs.f ∧ H1 = H) I ⟨_, hs, rfl, rfl⟩) fun u s1 ⟨v, H1, I1, r1, q1⟩ => ?_)
  obtain ⟨rfl, rfl⟩ := q1
  cases r1
  have fat : ∀ {s' : Shared} {H' : Hp}, Inv X pins σ H' s' → PySem.W.FnAt Acs.f s'.heap := fun J => let ⟨oc, od, fd, sl, e⟩ := hfn; ⟨oc, od, fd, sl, J.bk _ _ e⟩
  refine PySem.W.callWith_F (fat I1) (thn ((pa_cons he pa_nil (star_cons hn _ _)).run pos pins s1 σ _ (fun vs H2 => spD X.K (one1 F) 1 vs H2 Q E0) I1
    ⟨O, L, ρ, x, sr, e1, fun v H2 s2 r2 => ⟨rfl, O, [x], d, sr.dom.same s2, .cons r2 .nil, e2, g.after s2⟩⟩) fun us s2 ⟨vs, H2, I2, r, q⟩ => ⟨fat I2, ?_⟩) (star_cons hn _ _) rfl
  exact wpAny_call (run_fnR hR (hX.room.mono hk) pass0 I2 r q)
/-! ### handed on by name -/
theorem lastOf_eq : ∀ {es as : List Expr} {e : Expr}, lastOf es = some (as, e) → es = as ++ [e]
  | [e0], as, e, h => by cases h; rfl
  | e0 :: e1 :: es, as, e, h => by
    obtain ⟨q, h1, h2⟩ := map_inv (show (lastOf (e1 :: es)).map _ = some (as, e) from h)
    cases h2
    rw [lastOf_eq (as := q.1) (e := q.2) h1]; rfl
theorem PA.imp' {es : List Expr} {t t' : TA} (h : PA X es t) (i : ∀ σ H Q, t' σ H Q → t σ H Q) : PA X es t' := ⟨fun pos pins s σ H Q I q => h.run pos pins s σ H Q I (i σ H Q q)⟩
theorem pa_act {x : Str} {i : Nat} (hX : XOk T k X) (h : ∀ e, PE X e (tD X.K (ev e))) (hi : ixOf X.N x = some i) (hv : Vis X.env.scope x) : ∀ as : List Expr, as.all notStar = true →
    PA X (as ++ [.Name x p]) (fun σ H Q => ∃ O L ρ ds, SR X.K O L H σ ρ ∧ evs ev as ρ = some ds ∧ ρ[i]? = some (some .act) ∧ ∀ vs H', Same H H' → RepAll X.K (hid O H') vs ds → Q (vs ++ [.ref Acs.f]) H')
  | [], _ => by
    have hN := ixOf_get hi
    have hnm := hX.nm x (List.mem_of_getElem? hN)
    refine PA.imp' (pa_cons (pe_var hN hv hnm.1 hnm.2) pa_nil rfl) fun σ H Q ⟨O, L, ρ, ds, s, e, a, g⟩ => ?_
    cases e
    exact ⟨_, s.act i a, g [] H (Same.refl H) .nil⟩
  | e :: as, hn => by
    obtain ⟨h1, h2⟩ := Bool.and_eq_true_iff.mp (show (notStar e && as.all notStar) = true from hn)
    refine PA.imp' (pa_cons (h e) (pa_act hX h hi hv as h2) (star_cons h1 _ _)) fun σ H Q ⟨O, L, ρ, ds, s, e0, a, g⟩ => ?_
    obtain ⟨d, e1, e0⟩ := bind_inv (show (ev e ρ).bind _ = some ds from e0)
    obtain ⟨ds', e2, e3⟩ := bind_inv e0
    cases e3
    exact ⟨O, L, ρ, d, s, e1, fun v H1 s1 r1 => ⟨O, L, ρ, ds', s.same s1, e2, a, fun vs H2 s2 r2 => g _ _ (s1.trans s2) (.cons (r1.mono (hid_same s2)) r2)⟩⟩
theorem notStar_app {as : List Expr} {x : Str} : as.all notStar = true → (as ++ [Expr.Name x p]).all notStar = true := fun h => by
  rw [List.all_append, h]; rfl
theorem de_hofN {g x : Str} {as : List Expr} {xp : Pos} {G : List D → (D → Option D) → Option D} {F : D → Option D} (hX : XOk T k X) (hs : NoStar ev) (h : ∀ e, PE X e (tD X.K (ev e))) (hg : Gl X g) (hG : T.hof g = some G) (hF : T.ap = some F) :
    PE X (.Call (.Name g p) (as ++ [.Name x xp]) [] pos) (tD X.K fun ρ => if isAct X.N X.env.scope x ρ = true then (evs ev as ρ).bind fun ds => G ds F else none) := by
  obtain ⟨f, fd, ps, FG, hm, hk, hb, hd, hnn, hlen⟩ := hX.hof g G hG
  by_cases hst : as.all notStar = true
  · refine ⟨fun pins s σ H Q I hh => ?_⟩
    obtain ⟨O, L, ρ, d, sr, e0, gv⟩ := hh
    obtain ⟨hA, e0⟩ := if_inv e0
    obtain ⟨i, hi, ha, hv⟩ := isAct_inv hA
    obtain ⟨ds, e1, e2⟩ := bind_inv e0
    have pa := pa_act (p := xp) hX h hi hv as hst
    have hall := notStar_app (p := xp) (x := x) hst
    have hl := hlen _ _ _ e2
    generalize hes : as ++ [Expr.Name x xp] = es at pa hall
    cases es with
    | nil => simp at hes
    | cons e es =>
      obtain ⟨h1, h2⟩ := Bool.and_eq_true_iff.mp (show (notStar e && es.all notStar) = true from hall)
      refine (pe_call (FG inferInstance X.base) hX.room hg hm hk hb .nil pass0 pa hd (star_cons h1 _ _) (star_any _ _ _ h2)).run pins s σ H Q I ?_
      refine ⟨O, L, ρ, ds, sr, e1, ha, fun vs H1 s1 r1 => ?_⟩
      show spH _ _ _ _ _ G ps.length ((vs ++ [.ref Acs.f]) ++ []) H1 Q E0
      rw [List.append_nil]
      exact ⟨by rw [List.length_append, r1.length]; exact hl, vs, Acs.f, F, O, ds, d, rfl, (hX.act F hF).2, sr.dom.same s1, r1, e2, gv.after s1⟩
  · refine pe_no fun ρ => ?_
    cases q : evs ev as ρ with
    | none => exact ite_self _
    | some ds => exact absurd (evs_star hs q) hst
end
end Sw
/-! ## a lambda handed to a def: the def runs over a greater base -/
namespace Sw
open PySem L2
section
theorem frames_base {h base base' : Heap} : ∀ {l : List Env}, (∀ b ∈ frs l, base'.get? b = none) → h.FunFrames base l → h.FunFrames base' l
  | [], _, _ => trivial
  | env :: l, hb, ⟨h1, ⟨L, o, hf, hn, ho, hd⟩, h2⟩ =>
    ⟨h1, ⟨L, o, hf, hb L (by unfold frs; rw [List.filterMap_cons, hf]; exact List.mem_cons_self), ho, hd⟩, frames_base (fun b hb' => hb b (by unfold frs; rw [List.filterMap_cons, hf]; exact List.mem_cons_of_mem _ hb')) h2⟩
/-- all that stands still while the frames l wait: neither tracked nor a frame -/
def bigBase (s : Shared) (H : Hp) (l : List Env) : Heap := PySem.W.hideAll s.heap (trk s.heap H ++ frs l)
variable {s : Shared} {H : Hp} {l : List Env} {b : Addr} {o : Obj}
theorem big_get (e : s.heap.get? b = some o) (n : H b = none) (hf : b ∉ frs l) : (bigBase s H l).get? b = some o :=
  PySem.W.hideAll_get _ e fun hm => by
    rcases List.mem_append.mp hm with z | z
    · have q : (H b).isSome = true := (List.mem_filter.mp z).2
      rw [n] at q; simp at q
    · exact hf z
theorem of_big (e : (bigBase s H l).get? b = some o) : s.heap.get? b = some o ∧ H b = none := by
  have e' : s.heap.get? b = some o := PySem.W.of_hideAll _ e
  refine ⟨e', ?_⟩
  cases q : H b with
  | none => rfl
  | some x =>
    have hm : b ∈ trk s.heap H := List.mem_filter.mpr ⟨List.mem_range.mpr (Heap.lt_size e'), by simp [q]⟩
    have z : (bigBase s H l).get? b = none := PySem.W.hideAll_none _ (List.mem_append_left _ hm)
    rw [z] at e; cases e
theorem big_fr (h : b ∈ frs l) : (bigBase s H l).get? b = none := PySem.W.hideAll_none _ (List.mem_append_right _ h)
end
section
variable {X : Cx} {pins : List (Addr × Obj)} {σ : St} {H : Hp} {s : Shared}
theorem env0_big (I : Inv X pins σ H s) : Env0 X.prog X.w X.K X.mg (bigBase s H X.stack) X.A X.stack s H := by
  have sub : ∀ b o, X.base.get? b = some o → (bigBase s H X.stack).get? b = some o := fun b o e => by
    obtain ⟨h1, h2⟩ := I.bs b o e
    refine big_get h1 h2 fun z => ?_
    have := (I.stack.mem z).1
    rw [e] at this; cases this
  obtain ⟨mb, hb, hbb⟩ := I.mod.blt
  exact ⟨I.ok.frames, ⟨I.mod.kin.keeps sub, I.mod.glob.keeps sub, ⟨mb, hb.keeps sub, hbb⟩, I.mod.nolimit.keeps sub⟩, fun b o e => of_big e, Nat.le_of_eq (PySem.W.hideAll_size _ _), frames_base (fun b hb => big_fr hb) I.stack, I.stkFree, I.hok, I.bare⟩
/-! ### the lambda's names -/
structure LamC (sc scope : Scope) (x : Str) : Prop where
  kind : scope.kind = .function
  co : scope.isCoroutine = false
  gen : scope.isGenerator = false
  par : scope.names.lookup x = some .local
  own : ∀ y ∈ scope.names, y.2 = .local → y.1 = x
  cell : ∀ y ∈ scope.names, y.2 ≠ .cell
  free : ∀ y ∈ scope.names, y.2 = .free → sc.names.lookup y.1 = some .cell ∨ sc.names.lookup y.1 = some .free
theorem lamB_inv {sc scope : Scope} {x : Str} (h : lamB sc scope x = true) : LamC sc scope x := by
  unfold lamB at h
  simp only [Bool.and_eq_true, Bool.or_eq_true, Bool.not_eq_true', decide_eq_true_eq, decide_eq_false_iff_not, List.all_eq_true] at h
  obtain ⟨h1, h2, h3, h4, h5⟩ := h
  refine ⟨h1, h2, h3, h4, fun y hy e => ?_, fun y hy => (h5 y hy).2.1, fun y hy e => ?_⟩
  · rcases (h5 y hy).1 with z | z
    · exact absurd e z
    · exact z
  · rcases (h5 y hy).2.2 with z | z
    · exact absurd e z
    · exact z
theorem lamPar_inv {ps : Arguments} {x : Str} (h : lamPar ps = some x) : ∃ ap, ps = ⟨[], [⟨x, none, ap⟩], none, [], [], none, []⟩ := by
  unfold lamPar at h
  split at h
  · cases h; exact ⟨_, rfl⟩
  · cases h
theorem lam_bind {x : Str} {ap : Pos} {q : Str} {body : Expr} {scope : Scope} {cl : List (Str × Addr)} {pm cv ctv u : Value} :
    bindArgs (PySem.W.kla_fn "<lambda>" q ⟨[], [⟨x, none, ap⟩], none, [], [], none, []⟩ body scope cl pm cv ctv) ⟨[u], []⟩ = pure [(x, u)] := by
  simp [bindArgs, seqItems?, notAStandIn]
def lamC (X : Cx) (base' : Heap) (A : Around) (outer : List Env) (s : Shared) (H : Hp) (E : XK) (scope : Scope) (f c' : Addr) : Cx :=
  { LamX.lamCx X A outer s H E scope f c' with
    base := base'
    xe := fun e s' => wpAny (model X.prog X.w) (A.deeper (LamX.lamEnv X scope s.heap.objs.size f c')) (leaving (LamX.lamEnv X scope s.heap.objs.size f c') e) (fun _ s'' => L2.CX0 outer H s E e s'') (fun e' s'' => L2.CX0 outer H s E e' s'') s' }
theorem nodup_ix : ∀ {N : List Str}, N.Nodup → ∀ {i j : Nat} {x : Str}, N[i]? = some x → N[j]? = some x → i = j
  | [], _, _, _, _, h1, _ => by simp at h1
  | y :: N, nd, 0, 0, x, h1, h2 => rfl
  | y :: N, nd, 0, j + 1, x, h1, h2 => by
    rw [List.getElem?_cons_zero] at h1
    rw [List.getElem?_cons_succ] at h2
    cases h1
    exact absurd (List.mem_of_getElem? h2) (List.nodup_cons.mp nd).1
  | y :: N, nd, i + 1, 0, x, h1, h2 => by
    rw [List.getElem?_cons_zero] at h2
    rw [List.getElem?_cons_succ] at h1
    cases h2
    exact absurd (List.mem_of_getElem? h1) (List.nodup_cons.mp nd).1
  | y :: N, nd, i + 1, j + 1, x, h1, h2 => by
    rw [List.getElem?_cons_succ] at h1 h2
    rw [nodup_ix (List.nodup_cons.mp nd).2 h1 h2]
theorem lamC_start {A : Around} {outer : List Env} {E : XK} {scope : Scope} {f c' : Addr} {x : Str} {i : Nat} {v : V} {u : Value} {h₁ : Heap} {tk : Nat} {s1 : Shared} {HZ : Hp} (I : Inv X pins σ H s) (L : LamC X.env.scope scope x) (hfn : ∀ y, X.fn y = true) (nd : X.N.Nodup) (hi : X.N[i]? = some x) (rv : RelV v u)
    (e0 : Env0 X.prog X.w X.K X.mg (bigBase s H X.stack) A outer s1 HZ) (hd : A.handled = none)
    (hns : h₁.Ns s1.heap.objs.size fun y => ([(x, u)] : List (Str × Value)).reverse.lookup y) (kp : ∀ b o, s1.heap.get? b = some o → h₁.get? b = some o) :
    Inv (lamC X (bigBase s H X.stack) A outer s1 HZ E scope f c') [] (σ.set i (some v)) HZ { s1 with heap := h₁, toks := tk } := by
  have hfree : ∀ y ∈ scope.names, y.2 = .free → ∃ c, X.env.cells.lookup y.1 = some c := fun y hy e => by
    rcases L.free y hy e with k | k
    · exact I.ok.has _ (.inl k)
    · exact I.ok.has _ (.inr k)
  have cm : ∀ {y c}, (cloFrom X.env.cells scope.names []).lookup y = some c → X.env.cells.lookup y = some c := fun {y c} e => by
    rcases cloFrom_mem (PySem.mem_of_lookup e) with hm | ⟨h1, h2⟩
    · cases hm
    · obtain ⟨c1, hc⟩ := hfree _ h1 rfl
      have hc : X.env.cells.lookup y = some c1 := hc
      have e2 : c = c1 := by rw [h2, hc] <;> rfl
      rw [e2]; exact hc
  have look : ∀ {y}, scope.names.lookup y = some .free → ∃ c, (cloFrom X.env.cells scope.names []).lookup y = some c := fun {y} hl =>
    mem_lookup (cloFrom_has (cells := X.env.cells) (acc := []) (PySem.mem_of_lookup hl))
  have still : ∀ {y c} {o : Obj}, X.env.cells.lookup y = some c → s.heap.get? c = some o → h₁.get? c = some o ∧ HZ c = none := fun {y c o} hc ho => by
    have nf : c ∉ frs X.stack := fun z => by
      rcases List.mem_cons.mp (I.stkSub c z) with q | q
      · exact I.cne y c hc q
      · obtain ⟨_, o', ho', _⟩ := I.ok.funs.mem q
        exact absurd (Nat.lt_of_lt_of_le (Heap.lt_size ho') (I.ok.cab y c (hfn y) hc)) (Nat.lt_irrefl _)
    obtain ⟨h1, h2⟩ := e0.bs c o (big_get ho (I.freeC y c hc) nf)
    exact ⟨kp _ _ h1, h2⟩
  have noA : ∀ b : Addr, b ∉ (lamC X (bigBase s H X.stack) A outer s1 HZ E scope f c').ex := fun b z => absurd (show b ∈ ([] : List Addr) from z) (by simp)
  refine ⟨⟨e0.mod, L.kind, rfl, rfl, Nat.le_refl _, fun y z c e1 e2 => I.ok.inj y z c (cm e1) (cm e2), fun y hy => ?_, fun y c z _ => ?_, fun _ => hd, Around.frames_deeper e0.frames, .inr ⟨rfl, rfl⟩, fun b z => absurd z (noA b), e0.bs, e0.bsz, fun b _ _ => noA b,
      fun b z => absurd z (noA b), e0.funs, e0.frf⟩,
    rfl, e0.bare, Un.kept kp, ⟨_, hns, fun j y w e1 e2 e3 => ?_⟩, fun y c e => ?_, e0.hok.fresh (Nat.le_refl _), fun y c e => ?_, fun q hq => absurd (show q ∈ ([] : List (Addr × Obj)) ++ [] from hq) (by simp), e0.hok.kept kp, ?_⟩
  · have hy : scope.names.lookup y = some .cell ∨ scope.names.lookup y = some .free := hy
    rcases hy with hy | hy
    · exact absurd rfl (L.cell _ (PySem.mem_of_lookup hy))
    · exact look hy
  · have z : false = true := z
    cases z
  · have e1 : X.N[j]? = some y := e1
    have e3 : Vis scope y := e3
    rcases e3 with k | k | k
    · have ey : y = x := L.own _ (PySem.mem_of_lookup k) rfl
      subst ey
      have ej := nodup_ix nd hi e1
      subst ej
      have hlt : i < σ.length := by rw [I.len]; exact (List.getElem?_eq_some_iff.mp hi).1
      rw [List.getElem?_set_self hlt] at e2
      cases e2
      exact ⟨u, rv, .inl ⟨k, by simp⟩⟩
    · exact absurd rfl (L.cell _ (PySem.mem_of_lookup k))
    · have ne : i ≠ j := fun z => by
        subst z
        rw [hi] at e1
        cases e1
        rw [L.par] at k; cases k
      rw [List.getElem?_set_ne ne] at e2
      obtain ⟨m, hn, hl⟩ := I.loc
      have hvis : Vis X.env.scope y := (L.free _ (PySem.mem_of_lookup k) rfl).elim (fun k => .inr (.inl k)) (fun k => .inr (.inr k))
      obtain ⟨w', r, q⟩ := hl j y w e1 e2 hvis
      obtain ⟨c2, h2⟩ := look k
      refine ⟨w', r, .inr ⟨.inr k, c2, h2, ?_⟩⟩
      have c1 := cm h2
      rcases q with ⟨k', _⟩ | ⟨_, c3, e', z⟩
      · have k' : X.env.scope.names.lookup y = some .local := k'
        rcases L.free _ (PySem.mem_of_lookup k) rfl with k2 | k2 <;> rw [show X.env.scope.names.lookup y = _ from k2] at k' <;> cases k'
      · rw [c1] at e'
        cases e'
        obtain ⟨oc, ho, hdc⟩ := z
        exact ⟨oc, (still c1 ho).1, hdc⟩
  · obtain ⟨w', oc, ho, hdc⟩ := I.cell y c (cm e)
    exact ⟨w', oc, (still (cm e) ho).1, hdc⟩
  · obtain ⟨w', oc, ho, hdc⟩ := I.cell y c (cm e)
    exact (still (cm e) ho).2
  · rw [List.length_set]; exact I.len
end
end Sw
/-! ## a lambda handed to a def -/
namespace Sw
open PySem L2
variable [tb : Tbs] [Acs]
set_option warn.classDefReducibility false
/-- what a lambda leans on: its code object, the captured data -/
def tbL (t : Tbs) (K : PySem.W.Frag) (σ : St) (ρ : DSt) (c' : Addr) (q : Str) : Tbs where
  T := t.T
  R := fun Hh => t.R Hh ∧ Hh c' = some (LamX.CodeO c' q) ∧ ∀ (j : Nat) d, ρ[j]? = some (some (.dat d)) → ∃ v, σ[j]? = some (some v) ∧ Rep K Hh v d
  mono := fun H H' s h => ⟨t.mono H H' s h.1, s _ _ h.2.1 (fun ps z => LamX.codeO_ne ps z), fun j d e => let ⟨v, h1, h2⟩ := h.2.2 j d e; ⟨v, h1, h2.mono s⟩⟩
section
variable {X : Cx} {pins : List (Addr × Obj)} {σ : St} {H : Hp} {s : Shared} {O Lo : List Addr} {ρ : DSt}
theorem datO_get {ρ : DSt} {j : Nat} {sl : Sl} (h : (ρ.map datO)[j]? = some (some sl)) : ∃ d, sl = .dat d ∧ ρ[j]? = some (some (.dat d)) := by
  rw [List.getElem?_map] at h
  obtain ⟨o, h1, h2⟩ := map_inv h
  cases o with
  | none => cases h2
  | some z =>
    cases z <;> cases h2
    exact ⟨_, rfl, h1⟩
theorem lam_act {scope : Scope} {body : Expr} {ap : Pos} {f c' : Addr} {x : Str} {i : Nat} {pm ctv : Value} {L : List Str → Scope → Expr → DSt → Option D} (I : Inv X pins σ H s) (hl : σ.length = ρ.length) (C : LamC X.env.scope scope x) (hfn : ∀ y, X.fn y = true) (nd : X.N.Nodup)
    (nm : ∀ x ∈ X.N, (x == ("__debug__" : Str)) = false ∧ (x == ("__classdict__" : Str)) = false) (hi : X.N[i]? = some x) (hL : LevOk X.prog X.w X.K X.mg L)
    (hf : s.heap.get? f = some (PySem.W.kla_obj "<lambda>" (X.env.qual ++ "<lambda>") ⟨[], [⟨x, none, ap⟩], none, [], [], none, []⟩ body scope (cloFrom X.env.cells scope.names []) pm c' ctv)) (hn : H f = none) (hfr : f ∉ frs X.stack) :
    @ActOk (tbL tb X.K σ ρ c' (X.env.qual ++ "<lambda>")) X.prog X.w X.K X.mg (bigBase s H X.stack) f (fun d => L X.N scope body ((ρ.map datO).set i (some (.dat d)))) := by
  have hbg := big_get (l := X.stack) hf hn hfr
  refine ⟨⟨_, _, _, _, hbg⟩, fun A outer s1 HZ us vs Q E hr e0 r hsp => ?_⟩
  obtain ⟨hlen, O3, ds3, r3, hD3, hr3, hF3, g3⟩ := hsp
  obtain ⟨hR0, hc3, hdat3⟩ := @Dom.r (tbL tb X.K σ ρ c' (X.env.qual ++ "<lambda>")) O3 HZ hD3
  match vs, us, ds3, r, hr3, hF3 with
  | [v], [u], [d], .cons rv .nil, .cons rd .nil, hF3 =>
    have of1 := (e0.bs _ _ hbg).1
    have hco : HZ c' = some (LamX.CodeO c' (X.env.qual ++ "<lambda>")) := (of_hid hc3).2
    obtain ⟨⟨oc, vs', t, hoc, hdc, hvc⟩, _, _⟩ := e0.hok c' _ hco
    refine PySem.W.kla_callFunE hr.depth of1 rfl C.co C.gen rfl ⟨c', oc, vs', t, rfl, hoc, hdc, hvc⟩ ?_
    rw [lam_bind]
    have nolim : s1.heap.NoLimit := e0.mod.nolimit.keeps fun b o e => (e0.bs b o e).1
    refine wpAny_pure (wpAny_newFunctionEnv (fun y hy => C.cell y hy) (fun y hy => ?_) (fun h₁ hns hsb => ⟨nolim.fresh _ hsb, ?_⟩) C.kind)
    · have e : y = (x, u) := by simpa using hy
      rw [e]; exact C.par
    show codeAny _ _ (.expr body (LamX.lamEnv X scope s1.heap.objs.size f c')) _ _
    have kp : ∀ b o, s1.heap.get? b = some o → h₁.get? b = some o := fun b o e => hsb.extBut b o (Nat.ne_of_lt (Heap.lt_size e)) (Heap.get?_push_of_some _ e)
    have J := lamC_start (E := E) (f := f) (c' := c') (tk := s1.toks + ([(x, u)] : List (Str × Value)).length) I C hfn nd hi rv e0 hr.hd hns kp
    have hP := hL (tbL tb X.K σ ρ c' (X.env.qual ++ "<lambda>")) acs0 (lamC X (bigBase s H X.stack) A outer s1 HZ E scope f c') rfl rfl rfl rfl rfl nd (hr.deeper _) nm body
    have sr0 : @SR (tbL tb X.K σ ρ c' (X.env.qual ++ "<lambda>")) acs0 X.K O3 [] HZ σ (ρ.map datO) := by
      refine @SR.mk (tbL tb X.K σ ρ c' (X.env.qual ++ "<lambda>")) acs0 X.K O3 [] HZ σ (ρ.map datO) (by rw [List.length_map]; exact hl) hD3 (fun _ h => (by cases h)) (fun j d' h => ?_) (fun j es h => ?_) (fun j j' es es' q h1 _ _ _ => ?_) (fun j h => ?_) (SRx.none fun j s hs h => by obtain ⟨d2, e1, _⟩ := datO_get h; subst e1; cases hs)
      · obtain ⟨d2, e1, e2⟩ := datO_get h
        cases e1
        exact hdat3 j d' e2
      · obtain ⟨d2, e1, e2⟩ := datO_get h
        cases e1
      · obtain ⟨d2, e1, e2⟩ := datO_get h1
        cases e1
      · obtain ⟨d2, e1, e2⟩ := datO_get h
        cases e1
    have sr1 := @SR.setDat (tbL tb X.K σ ρ c' (X.env.qual ++ "<lambda>")) acs0 X.K O3 [] HZ σ (ρ.map datO) v d sr0 i rd
    refine PySem.W.kla_codeExpr (wpAny_mono (hP.run [] _ _ HZ Q J ⟨O3, [], _, r3, sr1, hF3, g3⟩) (fun v s' hq => ?_) fun e s' hq => hq)
    obtain ⟨w', H', J', rv', q⟩ := hq
    exact ⟨w', H', J'.os, J'.bare, J'.base, J'.hok, rv', q⟩
end
section
variable {X : Cx} {T : Tab} {k : Nat} {ev : Expr → DSt → Option D} {p pos : Pos}
/-- the arguments ahead of a lambda, then it -/
theorem splice_lam {lam : Expr} (hlam : notStar lam = true) (h : ∀ e, PE X e (tD X.K (ev e))) {pins : List (Addr × Obj)} {σ : St} {O Lo : List Addr} {ρ : DSt} : ∀ (as : List Expr), as.all notStar = true → ∀ {ds : List D} {s : Shared} {H : Hp} {Q : List Value → Shared → Prop}, Inv X pins σ H s → SR X.K O Lo H σ ρ → evs ev as ρ = some ds →
    (∀ us vs H1 s1, Inv X pins σ H1 s1 → Same H H1 → RepAll X.K (hid O H1) vs ds → Vals vs us → wpAny (model X.prog X.w) X.A (eval lam X.env) (fun v s2 => Q (us ++ [v]) s2) X.xe s1) →
    wpAny (model X.prog X.w) X.A (spliced (backTo pos (starEach (as ++ [lam]) X.env))) Q X.xe s
  | [], _, ds, s, H, Q, I, sr, e, g => by
    cases e
    show wpAny _ _ (spliced (backTo pos (starEach [lam] X.env))) Q X.xe s
    rw [star_cons hlam]
    show wpAny _ _ (spliced ((false, eval lam X.env) :: backTo pos (starEach [] X.env))) Q X.xe s
    refine Calls.spliced_cons (thn (g [] [] H s I (Same.refl H) .nil .nil) fun v s2 hq => ?_)
    exact Calls.spliced_nil hq
  | a :: as, hn, ds, s, H, Q, I, sr, e, g => by
    obtain ⟨h1, h2⟩ := Bool.and_eq_true_iff.mp (show (notStar a && as.all notStar) = true from hn)
    obtain ⟨d, e1, e⟩ := bind_inv (show (ev a ρ).bind _ = some ds from e)
    obtain ⟨ds', e2, e3⟩ := bind_inv e
    cases e3
    show wpAny _ _ (spliced (backTo pos (starEach (a :: (as ++ [lam])) X.env))) Q X.xe s
    rw [star_cons h1]
    show wpAny _ _ (spliced ((false, eval a X.env) :: backTo pos (starEach (as ++ [lam]) X.env))) Q X.xe s
    refine Calls.spliced_cons (thn ((h a).run pins s σ H (fun v H1 => Same H H1 ∧ Rep X.K (hid O H1) v d) I ⟨O, Lo, ρ, d, sr, e1, fun v H1 s1 r1 => ⟨s1, r1⟩⟩) fun u s1 ⟨v, H1, I1, ru, sm, rv⟩ => ?_)
    refine splice_lam hlam h as h2 I1 (sr.same sm) e2 fun us vs H2 s2 I2 sm2 rs rus => ?_
    exact g (u :: us) (v :: vs) H2 s2 I2 (sm.trans sm2) (.cons (rv.mono (hid_same sm2)) rs) (.cons ru rus)
theorem de_hofL {g : Str} {as : List Expr} {ps : Arguments} {body : Expr} {scope : Scope} {lp : Pos} {G : List D → (D → Option D) → Option D} {L : List Str → Scope → Expr → DSt → Option D} (hX : XOk T k X) (hs : NoStar ev) (h : ∀ e, PE X e (tD X.K (ev e))) (hg : Gl X g) (hG : T.hof g = some G) (hL : T.lev X.env.scope = some L) :
    PE X (.Call (.Name g p) (as ++ [.Lambda ps body scope lp]) [] pos) (tD X.K fun ρ => (lamD L X.N X.env.scope ps body scope ρ).bind fun F => (evs ev as ρ).bind fun ds => G ds F) := by
  obtain ⟨f, fd, pps, FG, hm, hk, hb, hd, hnn, hlen⟩ := hX.hof g G hG
  obtain ⟨hfn, ⟨c, P, hcode, TB, hmT, hu⟩, hLev⟩ := hX.lev L hL
  by_cases hst : as.all notStar = true
  · refine ⟨fun pins s σ H Q I hh => ?_⟩
    obtain ⟨O, Lo, ρ, d, sr, e0, gv⟩ := hh
    obtain ⟨F, e1, e0⟩ := bind_inv e0
    obtain ⟨ds, e2, e3⟩ := bind_inv e0
    unfold lamD at e1
    obtain ⟨x, e4, e5⟩ := bind_inv e1
    obtain ⟨hB, e6⟩ := if_inv e5
    obtain ⟨i, hi, e7⟩ := bind_inv e6
    have C := lamB_inv hB
    obtain ⟨ap, eps⟩ := lamPar_inv e4
    subst eps
    have hl := hlen _ _ _ e3
    have hN := ixOf_get hi
    refine wpAny_Call_Name_kw (ld_glob I hg hm ?_ hd)
    have arg := splice_lam (pos := pos) (lam := .Lambda ⟨[], [⟨x, none, ap⟩], none, [], [], none, []⟩ body scope lp) rfl h as hst (Q := fun us s2 => X.K.In s2.heap ∧ wpAny (model X.prog X.w) X.A (call (.ref f) ([] ++ us)) (EP X pins σ Q) X.xe s2) I sr e2 fun us vs H1 s1 I1 sm rs rus => ?_
    · have hall : (as ++ [Expr.Lambda ⟨[], [⟨x, none, ap⟩], none, [], [], none, []⟩ body scope lp]).all notStar = true := by rw [List.all_append, hst]; rfl
      generalize hes : as ++ [Expr.Lambda ⟨[], [⟨x, none, ap⟩], none, [], [], none, []⟩ body scope lp] = es at arg hall
      cases es with
      | nil => simp at hes
      | cons e es =>
        obtain ⟨h1, h2⟩ := Bool.and_eq_true_iff.mp (show (notStar e && es.all notStar) = true from hall)
        exact PySem.W.callWith_K (h₀ := X.base) I.ok.mod.kin hk arg (star_cons h1 _ _) (star_any _ _ _ h2)
    have dm1 := sr.dom.same sm
    refine LamX.lam_make2 I1 TB hcode hmT hu dm1.t rfl (fun y hy e => ?_) fun f' c' pm ctv H2 s2 I2 eN T2 hf hfnn hfr hco => ⟨I2.kIn, ?_⟩
    · rcases C.free y hy e with k | k
      · exact I.ok.has _ (.inl k)
      · exact I.ok.has _ (.inr k)
    have sm2 : Same H1 H2 := ⟨eN, fun _ => T2⟩
    have dm2 := dm1.same sm2
    have cO : c' ∉ O := fun z => by
      obtain ⟨o, q1, q2⟩ := dm2.d c' z
      rw [hco] at q1
      cases q1
      exact q2.2 _ rfl
    have act := lam_act (ρ := ρ) (ap := ap) (i := i) I2 sr.len C hfn hX.nd hX.nm hN hLev hf hfnn hfr
    have eF : F = fun d => L X.N scope body ((ρ.map datO).set i (some (.dat d))) := (Option.some.inj e7).symm
    rw [← eF] at act
    have sm3 := sm.trans sm2
    have lenU : (us ++ [Value.ref f']).length = pps.length := by rw [List.length_append, ← rus.length, rs.length]; exact hl
    have b := hb s2 (us ++ [.ref f']) I2.kIn (by rw [List.append_nil]; exact lenU)
    rw [List.append_nil] at b
    have rc := (FG (tbL tb X.K σ ρ c' (X.env.qual ++ "<lambda>")) (bigBase s2 H2 X.stack)).run X.A X.stack s2 H2 ⟨us ++ [.ref f'], []⟩ (us ++ [.ref f']) (vs ++ [.ref f']) Q E0 hX.room (env0_big I2) b (rus.append (.cons (show RelV (.ref f') (.ref f') from rfl) .nil))
      ⟨by rw [List.length_append, rs.length]; exact hl, vs, f', F, O, ds, d, rfl, act, @Dom.mk (tbL tb X.K σ ρ c' (X.env.qual ++ "<lambda>")) O H2 dm2.d dm2.t ⟨dm2.r, hid_get cO hco, fun j d' e => ?_⟩, rs.mono (hid_same sm2), e3, fun v H' s' r' => gv v H' (@Same.mk tb H H' (sm3.n.trans (@Same.n (tbL tb X.K σ ρ c' (X.env.qual ++ "<lambda>")) _ _ s')) (fun _ => @Same.t (tbL tb X.K σ ρ c' (X.env.qual ++ "<lambda>")) _ _ s' T2)) r'⟩
    · refine wpAny_call (codeAny_mono rc fun r s' hq => ?_)
      cases r with
      | error e => exact (show False from hq).elim
      | ok fl =>
        cases fl with
        | ret u => exact I2.after hq
        | next => exact False.elim hq
        | brk => exact False.elim hq
        | cont => exact False.elim hq
    · obtain ⟨v, h1, h2⟩ := sr.dat j d' e
      exact ⟨v, h1, h2.mono (hid_same sm3)⟩
  · refine pe_no fun ρ => ?_
    cases q : evs ev as ρ with
    | none => cases lamD L X.N X.env.scope ps body scope ρ <;> rfl
    | some ds => exact absurd (evs_star hs q) hst
end
end Sw
/-! ## the interpreter is right: all expressions -/
namespace Sw
open PySem L2
variable [Tbs] [Acs]
section
variable {T : Tab} {k : Nat}
def EvOk (T : Tab) (k : Nat) (N : List Str) (ev : Ev) : Prop := (∀ X : Cx, XOk T k X → X.N = N → ∀ e, PE X e (tD X.K (ev false X.env.scope e)) ∧ PT X e (tT X.K (ev true X.env.scope e))) ∧ ∀ sc, NoStar (ev false sc)
theorem XOk.blk {X : Cx} (h : XOk T k X) (s : Shared) (H : Hp) (scope : Scope) (ce : Env) (fp : List Addr) (hl : (T.lev ce.scope).isNone = true) : XOk T k (X.blk s H scope ce fp) := ⟨h.calm, h.nd, h.room, h.nm, h.blt, h.gl, h.dg, h.fn, h.act, h.hof, fun L e => by
  rw [show T.lev ce.scope = some L from e] at hl; cases hl⟩
theorem setless_folded {e : Expr} (h : setless e = true) (env : Env) : ∀ x, foldedSetIterable e env x = pure x := by
  intro x
  cases e <;> first | rfl | cases h
theorem ptss {X : Cx} {ev : Expr → DSt → Option D} (h : ∀ e, PT X e (tT X.K (ev e))) : ∀ ifs : List Expr, PTs X ifs (tTs X.K (tstD ev ifs))
  | [] => ⟨fun pins s σ H Q I q => by
    obtain ⟨O, L, ρ, b, sr, e, g⟩ := q
    cases e
    exact pts_nil.run pins s σ H Q I (g H (Same.refl H))⟩
  | [c] => ⟨fun pins s σ H Q I q => by
    obtain ⟨O, L, ρ, b, sr, e, g⟩ := q
    obtain ⟨d, e1, e2⟩ := bind_inv (show (ev c ρ).bind asB = some b from e)
    have := asB_inv e2
    subst this
    exact (pts_one (h c)).run pins s σ H Q I ⟨O, L, ρ, b, sr, e1, g⟩⟩
  | _ :: _ :: _ => ⟨fun pins s σ H Q I q => by
    obtain ⟨O, L, ρ, b, sr, e, g⟩ := q
    cases e⟩
theorem blk_ok {X : Cx} {ev : Ev} {scope : Scope} (hX : XOk T k X) (h : EvOk T k X.N ev) (tg : Expr) (t : Tg) (ht : tgOf X.N (relS scope X.env.scope) tg = some t) (hst : (tgStores scope tg && (T.lev (relS scope X.env.scope)).isNone) = true) (ifs : List Expr) (elt : Expr)
    (s : Shared) (H : Hp) (C : Addr) (cl : List (Str × Addr)) (fp : List Addr) :
    PG (X.blk s H scope (compEnvC scope cl C X.env) fp) tg (tG X.K t) ∧ PTs (X.blk s H scope (compEnvC scope cl C X.env) fp) ifs (tTs X.K (tstD (ev true (relS scope X.env.scope)) ifs)) ∧
    PE (X.blk s H scope (compEnvC scope cl C X.env) fp) elt (tD X.K (ev false (relS scope X.env.scope) elt)) := by
  obtain ⟨hst, hlv⟩ := Bool.and_eq_true_iff.mp hst
  have hB : XOk T k (X.blk s H scope (compEnvC scope cl C X.env) fp) := hX.blk s H scope _ fp hlv
  have look : ∀ {x : Str}, (scope.names.lookup x = some .local ∨ scope.names.lookup x = some .cell) → (X.blk s H scope (compEnvC scope cl C X.env) fp).fn x = true ∨ (X.blk s H scope (compEnvC scope cl C X.env) fp).env.scope.names.lookup x = some .local := fun {x} hx => by
    rcases hx with hx | hx
    · exact .inr (lookup_relS_keep (sc := X.env.scope) (by decide) hx)
    · exact .inl (by show (scope.names.lookup x == some .cell) = true; rw [hx]; rfl)
  refine ⟨dg_all hB ht ?_ ?_, ?_, ?_⟩
  · cases tg <;> try exact True.intro
    case Name x p =>
      refine look ?_
      simp only [tgStores] at hst
      split at hst
      · rename_i q; exact .inl q
      · rename_i q; exact .inr q
      · cases hst
  · intro es k0 p0 e0 e he
    subst e0
    have := List.all_eq_true.mp (show es.all _ = true from hst) e he
    cases e <;> try exact True.intro
    case Name x p =>
      refine look ?_
      simp only at this
      split at this
      · rename_i q; exact .inl q
      · rename_i q; exact .inr q
      · cases this
  · exact ptss (fun e => (h.1 _ hB rfl e).2) ifs
  · exact (h.1 _ hB rfl elt).1
theorem de_lc {X : Cx} {ev : Ev} {elt tg iter : Expr} {ifs : List Expr} {scope : Scope} {pos : Pos} (hX : XOk T k X) (h : EvOk T k X.N ev) :
    PE X (.ListComp elt [⟨tg, iter, ifs, 0⟩] scope pos) (tD X.K fun ρ => stepE T X.N ev false X.env.scope (.ListComp elt [⟨tg, iter, ifs, 0⟩] scope pos) ρ) := by
  by_cases c1 : (setless iter && blkC X.N X.env.scope scope (ownOf X.N scope.names) && (tgStores scope tg && (T.lev (relS scope X.env.scope)).isNone)) = true
  · cases q : tgOf X.N (relS scope X.env.scope) tg with
    | none => exact pe_no fun ρ => by simp only [stepE, q, c1]; rfl
    | some t =>
      by_cases c2 : (t.ixs.all fun i => ((ownOf X.N scope.names).map (·.2)).contains i) = true
      · have e : (fun ρ => stepE T X.N ev false X.env.scope (.ListComp elt [⟨tg, iter, ifs, 0⟩] scope pos) ρ) = fun ρ => (iterD (ev false X.env.scope) X.env.scope (isTupE tg) iter ρ).bind fun ds =>
            (compD (compF t (tstD (ev true (relS scope X.env.scope)) ifs) (ev false (relS scope X.env.scope) elt) (wipeD ρ ((ownOf X.N scope.names).map (·.2)))) ds).map D.lst := by
          funext ρ
          simp only [stepE, c1, q, Option.bind, c2, if_true]
        rw [e]
        obtain ⟨c3, c4⟩ := Bool.and_eq_true_iff.mp c1
        obtain ⟨c5, c6⟩ := Bool.and_eq_true_iff.mp c3
        have ok := blkOk_by c6
        have pi : PI X tg iter (tI X.K (iterD (ev false X.env.scope) X.env.scope (isTupE tg) iter)) := di_all hX (h.2 _) fun e => (h.1 X hX rfl e).1
        have hix : ∀ i ∈ t.ixs, i ∈ (ownOf X.N scope.names).map (·.2) := fun i hi => by
          have := List.all_eq_true.mp c2 i hi
          simpa using this
        have base := pe_lc (pos := pos) hX.calm hX.nd pi ok (fun s H C cl fp => (blk_ok hX h tg t q c4 ifs elt s H C cl fp).1) (fun s H C cl fp => (blk_ok hX h tg t q c4 ifs elt s H C cl fp).2.1)
          (fun s H C cl fp => (blk_ok hX h tg t q c4 ifs elt s H C cl fp).2.2) (setless_folded c5 _)
        exact PE.imp base fun σ H Q hh => de_comp hix hh
      · exact pe_no fun ρ => by simp only [stepE, q, c1, Option.bind, if_true]; exact if_neg c2
  · exact pe_no fun ρ => by simp only [stepE]; exact if_neg c1
theorem de_hof {X : Cx} {ev : Ev} {f : Str} {args : List Expr} {p pos : Pos} {G : List D → (D → Option D) → Option D} (hX : XOk T k X) (h : EvOk T k X.N ev) (hg : isGl X.env.scope f = true) (hG : T.hof f = some G) :
    PE X (.Call (.Name f p) args [] pos) (tD X.K (hofE T X.N X.env.scope (ev false X.env.scope) G args)) := by
  have hE : ∀ e, PE X e (tD X.K (ev false X.env.scope e)) := fun e => (h.1 X hX rfl e).1
  cases q : lastOf args with
  | none => exact pe_no fun ρ => by unfold hofE; rw [q]
  | some r =>
    obtain ⟨as, e⟩ := r
    have ea := lastOf_eq q
    cases e
    case Name x xp =>
      cases qa : T.ap with
      | none => exact pe_no fun ρ => by unfold hofE; rw [q]; show T.ap.bind _ = none; rw [qa]; rfl
      | some F =>
        have := de_hofN (p := p) (pos := pos) (as := as) (x := x) (xp := xp) hX (h.2 _) hE (gl_of hg) hG qa
        rw [← ea] at this
        refine PE.imp this fun σ H Q ⟨O, L, ρ, d, s, e0, g⟩ => ⟨O, L, ρ, d, s, ?_, g⟩
        unfold hofE at e0
        rw [q] at e0
        have e0 : T.ap.bind (fun F => if isAct X.N X.env.scope x ρ = true then (evs (ev false X.env.scope) as ρ).bind fun ds => G ds F else none) = some d := e0
        rw [qa] at e0
        exact e0
    case Lambda ps body scope lp =>
      cases qa : T.lev X.env.scope with
      | none => exact pe_no fun ρ => by unfold hofE; rw [q]; show (T.lev X.env.scope).bind _ = none; rw [qa]; rfl
      | some L0 =>
        have := de_hofL (p := p) (pos := pos) (as := as) (ps := ps) (body := body) (scope := scope) (lp := lp) hX (h.2 _) hE (gl_of hg) hG qa
        rw [← ea] at this
        refine PE.imp this fun σ H Q ⟨O, L, ρ, d, s, e0, g⟩ => ⟨O, L, ρ, d, s, ?_, g⟩
        unfold hofE at e0
        rw [q] at e0
        have e0 : (T.lev X.env.scope).bind (fun L0 => (lamD L0 X.N X.env.scope ps body scope ρ).bind fun F => (evs (ev false X.env.scope) as ρ).bind fun ds => G ds F) = some d := e0
        rw [qa] at e0
        exact e0
    all_goals exact pe_no fun ρ => by unfold hofE; rw [q]
theorem de_call {X : Cx} {ev : Ev} {f : Str} {args : List Expr} {p pos : Pos} (hX : XOk T k X) (h : EvOk T k X.N ev) :
    PE X (.Call (.Name f p) args [] pos) (tD X.K fun ρ => stepE T X.N ev false X.env.scope (.Call (.Name f p) args [] pos) ρ) := by
  have hE : ∀ e, PE X e (tD X.K (ev false X.env.scope e)) := fun e => (h.1 X hX rfl e).1
  by_cases hg : isGl X.env.scope f = true
  · simp only [stepE, if_pos hg]
    by_cases hi : f = "isinstance"
    · subst hi
      simp only [if_true]
      match args with
      | [e, .Name t tp] =>
        by_cases ht : isGl X.env.scope t = true
        · simp only [if_pos ht]
          cases q : tyOf t with
          | none => exact pe_no fun _ => rfl
          | some ty =>
            by_cases hn : notStar e = true
            · exact de_isi hX (hE e) hn (gl_of hg) (gl_of ht) q
            · exact pe_no fun ρ => by
                show ((ev false X.env.scope e ρ).map _) = none
                rw [star_none (h.2 _) hn]; rfl
        · simp only [if_neg ht]
          exact pe_no fun _ => rfl
      | [] => exact pe_no fun _ => rfl
      | [_] => exact pe_no fun _ => rfl
      | e1 :: e2 :: e3 :: es => exact pe_no fun _ => by cases e2 <;> rfl
      | [e, e2] =>
        cases e2
        case Name t tp =>
          by_cases ht : isGl X.env.scope t = true
          · simp only [if_pos ht]
            cases q : tyOf t with
            | none => exact pe_no fun _ => rfl
            | some ty =>
              by_cases hn : notStar e = true
              · exact de_isi hX (hE e) hn (gl_of hg) (gl_of ht) q
              · exact pe_no fun ρ => by
                  show ((ev false X.env.scope e ρ).map _) = none
                  rw [star_none (h.2 _) hn]; rfl
          · simp only [if_neg ht]
            exact pe_no fun _ => rfl
        all_goals exact pe_no fun _ => rfl
    · simp only [if_neg hi]
      cases q : bltOf f with
      | some b => exact de_blt hX (h.2 _) hE (gl_of hg) q
      | none =>
        cases q2 : T.fn f with
        | none =>
          cases q3 : T.hof f with
          | none => exact pe_no fun _ => rfl
          | some G => exact de_hof hX h hg q3
        | some F => exact de_fn hX (h.2 _) hE (gl_of hg) q2
  · simp only [stepE, if_neg hg]
    match args with
    | [] => exact pe_no fun _ => rfl
    | _ :: _ :: _ => exact pe_no fun _ => rfl
    | [e] =>
      cases q : T.ap with
      | none => exact pe_no fun ρ => by show T.ap.bind _ = none; rw [q]; rfl
      | some F =>
        by_cases hn : notStar e = true
        · refine PE.imp (de_act (f := f) hX q (hE e) hn) fun σ H Q ⟨O, L, ρ, d, s, e0, g⟩ => ⟨O, L, ρ, d, s, ?_, g⟩
          have e0 : T.ap.bind (fun F => if isAct X.N X.env.scope f ρ = true then (ev false X.env.scope e ρ).bind F else none) = some d := e0
          rw [q] at e0
          exact e0
        · exact pe_no fun ρ => by
            show T.ap.bind (fun F => if isAct X.N X.env.scope f ρ = true then (ev false X.env.scope e ρ).bind F else none) = none
            rw [q, star_none (h.2 _) hn]
            exact ite_self _
theorem de_peek {X : Cx} {ev : Expr → DSt → Option D} {x : Str} {p pos : Pos} {b : Expr} (hX : XOk T k X) (hE : ∀ e, PE X e (tD X.K (ev e))) (hn : notSlice b = true) : PE X (.Subscript (.Name x p) b pos) (tD X.K (peekE X.N X.env.scope ev x p b)) := by
  have old := de_ix (pos := pos) (hE (.Name x p)) (hE b) hn
  have own : ∀ i, ixOf X.N x = some i → Vis X.env.scope x → PE X (.Subscript (.Name x p) b pos) (tD X.K fun ρ => (ownGet ρ i).bind fun ds => (ev b ρ).bind fun y => ixD (.lst ds) y) := fun i hi hv => by
    have hi' := ixOf_get hi
    have hnm := hX.nm x (List.mem_of_getElem? hi')
    refine PE.imp (pe_ix ix_list (pe_var hi' hv hnm.1 hnm.2) (hE b) (plain_ix hn)) fun σ H Q ⟨O, L, ρ, d, s, e, g⟩ => ?_
    obtain ⟨ds, e1, e⟩ := bind_inv e
    obtain ⟨y, e2, e3⟩ := bind_inv e
    have e1' : ρ[i]? = some (some (.own ds)) := by
      unfold ownGet at e1
      split at e1
      · rename_i z; cases e1; exact z
      · cases e1
    obtain ⟨pa, xs, o1, o2, o3, o4, o5⟩ := s.own i ds e1'
    refine ⟨.ref pa, o1, O, L, ρ, y, s, e2, fun v H1 s1 r1 => ?_⟩
    cases r1 <;> try (cases e3; done)
    case int j =>
      obtain ⟨v, h1, h2⟩ := (o4.mono (hid_same s1)).atI e3
      exact ⟨pa, xs, j, v, rfl, rfl, .of (s1.lst o3), h1, g v H1 s1 h2⟩
  refine ⟨fun pins s0 σ H Q I ⟨O, L, ρ, d, s, e, g⟩ => ?_⟩
  unfold peekE at e
  cases q : ownAt X.N X.env.scope x ρ with
  | none =>
    simp only [q] at e
    cases q2 : dlfNm X.N X.env.scope x ρ with
    | none =>
      simp only [q2] at e
      exact old.run pins s0 σ H Q I ⟨O, L, ρ, d, s, e, g⟩
    | some m =>
      simp only [q2] at e
      obtain ⟨j, e1, e⟩ := bind_inv e
      obtain ⟨y, e2, e3⟩ := bind_inv e1
      have ey := asI_inv e3
      subst ey
      obtain ⟨ds, e4, e5⟩ := map_inv e
      subst e5
      obtain ⟨i, hi, hd, hv⟩ := dlfNm_inv q2
      have hi' := ixOf_get hi
      have hnm := hX.nm x (List.mem_of_getElem? hi')
      obtain ⟨pa, es, h1, h2, h3⟩ := s.ex.dlf i m hd
      have units := hX.units
      refine (pe_dget (by omega) (pe_var hi' hv hnm.1 hnm.2) (hE b) (fun ov iv => by cases b <;> first | rfl | cases hn)).run pins s0 σ H Q I ⟨.ref pa, h1, O, L, ρ, .int j, s, e2, fun v H1 s1 r1 => ?_⟩
      cases r1
      have h2' := h2.mono (hid_same s1)
      unfold lookM at e4
      obtain ⟨⟨j', ds'⟩, e6, e7⟩ := map_inv e4
      have ej := List.find?_some e6
      have hmem := List.mem_of_find?_eq_some e6
      rw [← h3] at hmem
      obtain ⟨en, hen, ee⟩ := List.mem_map.mp hmem
      have k1 : en.1 = j := by
        have a : en.1 = j' := congrArg Prod.fst ee
        rw [a]; exact of_decide_eq_true ej
      have k2 : en.2.2 = ds := by
        have a : en.2.2 = ds' := congrArg Prod.snd ee
        rw [a]; exact e7
      obtain ⟨xs, b1, b2, b3⟩ := h2'.ls en hen
      refine ⟨pa, .ref en.2.1, rfl, ?_, g (.ref en.2.1) H1 s1 (.lst b1 (by rw [← k2]; exact b2) (by rw [← k2]; exact b3))⟩
      rw [← valV_E h2'.nk en hen k1]
      exact DGet.k (k := Sum.inl j) (of_hid h2'.hp).2
  | some ds =>
    rw [q] at e
    have fin : ∀ hv : Vis X.env.scope x, (ixOf X.N x).bind (ownGet ρ) = some ds → wpAny (model X.prog X.w) X.A (eval (.Subscript (.Name x p) b pos) X.env) (fun v s1 => ∃ x H', Inv X pins σ H' s1 ∧ RelV x v ∧ Q x H') X.xe s0 := fun hv z => by
      obtain ⟨i, z1, z2⟩ := bind_inv z
      exact (own i z1 hv).run pins s0 σ H Q I ⟨O, L, ρ, d, s, (by show (ownGet ρ i).bind _ = some d; rw [z2]; exact e), g⟩
    unfold ownAt at q
    split at q
    · rename_i h; exact fin (.inl h) q
    · rename_i h; exact fin (.inr (.inl h)) q
    · cases q
/-! ### a dict of the module -/
theorem dg_name' {X : Cx} {b : Expr} {kvs : List (Str × Int)} (hX : XOk T k X) (h : dgOf T X.env.scope b = some kvs) : ∃ a es n, KDict X.K X.w a es n ∧ PE X b (tC (.ref a)) ∧ (∀ op, behindInMarks op b = false) ∧
    ∀ z : Str, ∃ r, PySem.W.nsIn X.K a z = some r ∧ ((∃ i t, getK kvs z = some i ∧ r = some (.int i t)) ∨ (getK kvs z = none ∧ r = none)) := by
  cases b <;> try (cases h; done)
  case Name x p =>
    simp only [dgOf] at h
    by_cases hg : isGl X.env.scope x = true
    · rw [if_pos hg] at h
      obtain ⟨a, es, n, h1, h2, h3, h4⟩ := hX.dg x kvs h
      exact ⟨a, es, n, h2, pe_glob (gl_of hg) h1 rfl h4, fun op => setless_mark rfl op, h3⟩
    · rw [if_neg hg] at h; cases h
theorem de_inK {X : Cx} {a b : Expr} {fa : DSt → Option D} {op : CmpOp} {neg : Bool} {kvs : List (Str × Int)} {pos : Pos} (hX : XOk T k X) (ha : PE X a (tD X.K fa)) (h : dgOf T X.env.scope b = some kvs) (hn : negOf op = some neg) :
    PE X (.Compare a [op] [b] pos) (tD X.K fun ρ => (fa ρ).bind (inK neg kvs)) ∧ PT X (.Compare a [op] [b] pos) (tT X.K fun ρ => (fa ρ).bind (inK neg kvs)) := by
  obtain ⟨d, es, n, KD, pd, mk, hz⟩ := dg_name' hX h
  cases op <;> try (cases hn; done)
  case In =>
    cases hn
    refine ⟨PE.imp (pe_cmpR (op_in_kd KD) ha pd (mk _)) fun σ H Q ⟨O, L, ρ, e, s, q, g⟩ => ?_, PT.imp (pt_cmpR (op_in_kd KD) ha pd (mk _)) fun σ H Q ⟨O, L, ρ, e, s, q, g⟩ => ?_⟩
    · obtain ⟨x, q1, q2⟩ := bind_inv q
      refine ⟨O, L, ρ, x, s, q1, fun v H1 s1 r1 => ?_⟩
      cases r1 <;> try (cases q2; done)
      case str z hzz =>
        obtain ⟨r, e1, e2⟩ := hz z
        cases q2
        refine ⟨z, r, rfl, rfl, e1, ?_⟩
        rcases e2 with ⟨i, t, e2, e3⟩ | ⟨e2, e3⟩
        · rw [e3]; rw [e2] at g; exact g _ _ s1 (.bl _)
        · rw [e3]; rw [e2] at g; exact g _ _ s1 (.bl _)
    · obtain ⟨x, q1, q2⟩ := bind_inv q
      refine ⟨O, L, ρ, x, s, q1, fun v H1 s1 r1 => ?_⟩
      cases r1 <;> try (cases q2; done)
      case str z hzz =>
        obtain ⟨r, e1, e2⟩ := hz z
        have q2 : some (D.bl (getK kvs z).isSome) = some (D.bl e) := q2
        cases q2
        refine ⟨z, r, rfl, rfl, e1, _, rfl, ?_⟩
        rcases e2 with ⟨i, t, e2, e3⟩ | ⟨e2, e3⟩
        · rw [e3]; rw [e2] at g; exact g _ s1
        · rw [e3]; rw [e2] at g; exact g _ s1
  case NotIn =>
    cases hn
    refine ⟨PE.imp (pe_cmpR (op_notIn_kd KD) ha pd (mk _)) fun σ H Q ⟨O, L, ρ, e, s, q, g⟩ => ?_, PT.imp (pt_cmpR (op_notIn_kd KD) ha pd (mk _)) fun σ H Q ⟨O, L, ρ, e, s, q, g⟩ => ?_⟩
    · obtain ⟨x, q1, q2⟩ := bind_inv q
      refine ⟨O, L, ρ, x, s, q1, fun v H1 s1 r1 => ?_⟩
      cases r1 <;> try (cases q2; done)
      case str z hzz =>
        obtain ⟨r, e1, e2⟩ := hz z
        cases q2
        refine ⟨z, r, rfl, rfl, e1, ?_⟩
        rcases e2 with ⟨i, t, e2, e3⟩ | ⟨e2, e3⟩
        · rw [e3]; rw [e2] at g; exact g _ _ s1 (.bl _)
        · rw [e3]; rw [e2] at g; exact g _ _ s1 (.bl _)
    · obtain ⟨x, q1, q2⟩ := bind_inv q
      refine ⟨O, L, ρ, x, s, q1, fun v H1 s1 r1 => ?_⟩
      cases r1 <;> try (cases q2; done)
      case str z hzz =>
        obtain ⟨r, e1, e2⟩ := hz z
        have q2 : some (D.bl (!(getK kvs z).isSome)) = some (D.bl e) := q2
        cases q2
        refine ⟨z, r, rfl, rfl, e1, _, rfl, ?_⟩
        rcases e2 with ⟨i, t, e2, e3⟩ | ⟨e2, e3⟩
        · rw [e3]; rw [e2] at g; exact g _ s1
        · rw [e3]; rw [e2] at g; exact g _ s1
theorem noSl_of {b : Expr} (h : notSlice b = true) : NoSl b := by
  intro o i
  cases b <;> first | rfl | cases h
theorem de_ixK {X : Cx} {a b : Expr} {fb : DSt → Option D} {kvs : List (Str × Int)} {pos : Pos} (hX : XOk T k X) (hb : PE X b (tD X.K fb)) (hn : notSlice b = true) (h : dgOf T X.env.scope a = some kvs) :
    PE X (.Subscript a b pos) (tD X.K fun ρ => (fb ρ).bind (ixK kvs)) := by
  obtain ⟨d, es, n, KD, pd, mk, hz⟩ := dg_name' hX h
  refine ⟨fun pins s σ H Q I q => ?_⟩
  obtain ⟨O, L, ρ, e, sr, q, g⟩ := q
  obtain ⟨x, q1, q2⟩ := bind_inv q
  refine subD_of PySem.F.slot_dict_getitem.lookup (noSl_of hn) (thn (pd.run pins s σ H (fun v H1 => v = .ref d ∧ H1 = H) I ⟨rfl, rfl⟩) fun u s1 ⟨v, H1, I1, r1, ev, eH⟩ => ?_)
  subst ev eH
  obtain rfl : u = Value.ref d := r1
  refine thn (hb.run pins s1 σ H1 _ I1 ⟨O, L, ρ, x, sr, q1, fun v H2 s2 r2 => (⟨s2, r2⟩ : Same H1 H2 ∧ Rep X.K (hid O H2) v x)⟩) fun iv s2 ⟨y, H2, I2, ry, sm, rv⟩ => ⟨kd_type KD I2, ?_⟩
  obtain ⟨z, ex, ey⟩ : ∃ z, x = .str z ∧ y = .str z := by
    cases rv <;> first | (cases q2; done) | exact ⟨_, rfl, rfl⟩
  subst ex ey
  · obtain ⟨r, e1, e2⟩ := hz z
    rcases e2 with ⟨i, t, e2, e3⟩ | ⟨e2, e3⟩
    · rw [e3] at e1
      have q2 : (getK kvs z).map D.int = some e := q2
      rw [e2] at q2
      cases q2
      exact op_item_kd KD pins s2 σ H2 (.ref d) (.str z) _ _ Q I2 rfl ry ⟨z, _, .int i, rfl, rfl, e1, ⟨t, rfl⟩, g _ _ sm (.int _)⟩
    · have q2 : (getK kvs z).map D.int = some e := q2
      rw [e2] at q2
      cases q2
theorem any_okT {k : List (Option Int)} : ∀ {xs : List (List (Option Int) × Addr)} {ks : List D}, (ks.map okT = xs.map fun x => some x.1) → (ks.any fun e => decide (okT e = some k)) = xs.any fun x => decide (x.1 = k)
  | [], [], _ => rfl
  | [], _ :: _, h => by cases h
  | _ :: _, [], h => by cases h
  | x :: xs, d :: ks, h => by
    rw [List.map_cons, List.map_cons] at h
    injection h with h1 h2
    rw [List.any_cons, List.any_cons, any_okT h2, h1]
    congr 1
    by_cases c : x.1 = k
    · rw [decide_eq_true c, c]; simp
    · rw [decide_eq_false c]; simpa using c
theorem in_dct {X : Cx} {ev : Expr → DSt → Option D} {pos p : Pos} {x : Str} (hX : XOk T k X) (hE : ∀ e, PE X e (tD X.K (ev e))) (a : Expr) {i : Nat} (hi : ixOf X.N x = some i) (hv : Vis X.env.scope x) :
    PE X (.Compare a [.In] [.Name x p] pos) (tD X.K fun ρ => (dfzGet ρ i).bind fun ks => (ev a ρ).bind (inX ks)) ∧ PT X (.Compare a [.In] [.Name x p] pos) (tT X.K fun ρ => (dfzGet ρ i).bind fun ks => (ev a ρ).bind (inX ks)) := by
  have hi' := ixOf_get hi
  have hnm := hX.nm x (List.mem_of_getElem? hi')
  have core : ∀ {O L : List Addr} {ρ : DSt} {d : D} {σ : St} {H : Hp}, SR X.K O L H σ ρ → ((dfzGet ρ i).bind fun ks => (ev a ρ).bind (inX ks)) = some d → ∃ b, d = .bl b ∧ ∀ Q : VK, (∀ H', Same H H' → Q (.bl b) H') → tOp (rDctI X.K) (tD X.K (ev a)) (tVar i) σ H Q := fun {O L ρ d σ H} s e => by
    obtain ⟨ks, e1, e⟩ := bind_inv e
    obtain ⟨u, e2, e⟩ := bind_inv e
    obtain ⟨kk, e3, e4⟩ := bind_inv (show (okT u).bind _ = some d from e)
    cases e4
    refine ⟨_, rfl, fun Q q => ?_⟩
    obtain ⟨pa, o, xs, h1, h2, h3⟩ := s.ex.dfz i ks (dfzGet_inv e1)
    refine ⟨O, L, ρ, u, s, e2, fun v H1 s1 r1 => ?_⟩
    refine ⟨.ref pa, h1, ?_⟩
    obtain ⟨b, rfl, hb⟩ := okT_rep r1 e3
    have h3' := h3.mono (hid_same s1)
    refine ⟨pa, b, o, xs, kk, rfl, rfl, (of_hid (hid_same s1 pa _ h2 nt_dct)).2, fun y hy => same_sqT hid_le (DRep.keys h3'.r h3'.k y hy), h3.n, same_sqT hid_le hb, ?_⟩
    rw [← any_okT h3.k]
    exact q H1 s1
  have units := hX.units
  refine ⟨PE.imp (pe_cmpR (op_dctI units) (hE a) (pe_var hi' hv hnm.1 hnm.2) rfl) fun σ H Q ⟨O, L, ρ, d, s, e, g⟩ => ?_, PT.imp (pt_cmpR (op_dctI units) (hE a) (pe_var hi' hv hnm.1 hnm.2) rfl) fun σ H Q ⟨O, L, ρ, d, s, e, g⟩ => ?_⟩
  · obtain ⟨b, rfl, f⟩ := core s e
    exact f Q fun H' s' => g (.bl b) H' s' (.bl b)
  · obtain ⟨b, eb, f⟩ := core s e
    cases eb
    exact f _ fun H' s' => ⟨d, rfl, g H' s'⟩
theorem cmpE_ok {X : Cx} {ev : Expr → DSt → Option D} {pos : Pos} (hX : XOk T k X) (hE : ∀ e, PE X e (tD X.K (ev e))) (a : Expr) (op : CmpOp) (b : Expr) :
    PE X (.Compare a [op] [b] pos) (tD X.K (cmpE T X.N X.env.scope ev a op b)) ∧ PT X (.Compare a [op] [b] pos) (tT X.K (cmpE T X.N X.env.scope ev a op b)) := by
  have old : (cmpE T X.N X.env.scope ev a op b = fun ρ => match dfzAt X.N X.env.scope op b ρ with | some ks => (ev a ρ).bind (inX ks) | none => if setless b = true then (ev a ρ).bind fun x => (ev b ρ).bind fun y => cmpD op x y else none) → PE X (.Compare a [op] [b] pos) (tD X.K (cmpE T X.N X.env.scope ev a op b)) ∧ PT X (.Compare a [op] [b] pos) (tT X.K (cmpE T X.N X.env.scope ev a op b)) := fun e0 => by
    rw [e0]
    clear e0
    have o1 := de_cmp (pos := pos) (op := op) hX (hE a) (hE b)
    have o2 := dt_cmp (pos := pos) (op := op) hX (hE a) (hE b)
    have key : ∀ {ρ : DSt} {ks : List D}, dfzAt X.N X.env.scope op b ρ = some ks → ∃ x p i, op = .In ∧ b = .Name x p ∧ ixOf X.N x = some i ∧ dfzGet ρ i = some ks ∧ Vis X.env.scope x := fun {ρ ks} h => by
      unfold dfzAt at h
      split at h
      · rename_i x p
        obtain ⟨i, h1, h2, h3⟩ := dfzNm_inv h
        exact ⟨x, p, i, rfl, rfl, h1, by unfold dfzGet; rw [h2], h3⟩
      · cases h
    refine ⟨⟨fun pins s0 σ H Q I ⟨O, L, ρ, d, s, e, g⟩ => ?_⟩, ⟨fun pins s0 σ H Q I ⟨O, L, ρ, d, s, e, g⟩ => ?_⟩⟩
    · cases q : dfzAt X.N X.env.scope op b ρ with
      | none =>
        simp only [q] at e
        exact o1.run pins s0 σ H Q I ⟨O, L, ρ, d, s, e, g⟩
      | some ks =>
        simp only [q] at e
        obtain ⟨x, p, i, rfl, rfl, h1, h2, h3⟩ := key q
        exact (in_dct hX hE a h1 h3).1.run pins s0 σ H Q I ⟨O, L, ρ, d, s, (by show (dfzGet ρ i).bind _ = some d; rw [h2]; exact e), g⟩
    · cases q : dfzAt X.N X.env.scope op b ρ with
      | none =>
        simp only [q] at e
        exact o2.run pins s0 σ H Q I ⟨O, L, ρ, d, s, e, g⟩
      | some ks =>
        simp only [q] at e
        obtain ⟨x, p, i, rfl, rfl, h1, h2, h3⟩ := key q
        exact (in_dct hX hE a h1 h3).2.run pins s0 σ H Q I ⟨O, L, ρ, d, s, (by show (dfzGet ρ i).bind _ = some (D.bl d); rw [h2]; exact e), g⟩
  cases q1 : dgOf T X.env.scope b with
  | none => exact old (by funext ρ; (simp only [cmpE, q1]) <;> (cases dfzAt X.N X.env.scope op b ρ <;> rfl))
  | some kvs =>
    cases q2 : negOf op with
    | none => exact old (by funext ρ; (simp only [cmpE, q1, q2]) <;> (cases dfzAt X.N X.env.scope op b ρ <;> rfl))
    | some neg =>
      have e : cmpE T X.N X.env.scope ev a op b = fun ρ => (ev a ρ).bind (inK neg kvs) := by funext ρ; simp only [cmpE, q1, q2]
      rw [e]
      exact de_inK hX (hE a) q1 q2
theorem peekK_ok {X : Cx} {ev : Expr → DSt → Option D} {x : Str} {p pos : Pos} {b : Expr} (hX : XOk T k X) (hE : ∀ e, PE X e (tD X.K (ev e))) (hn : notSlice b = true) :
    PE X (.Subscript (.Name x p) b pos) (tD X.K fun ρ => match dgOf T X.env.scope (.Name x p) with | some kvs => (ev b ρ).bind (ixK kvs) | none => peekE X.N X.env.scope ev x p b ρ) := by
  cases q : dgOf T X.env.scope (.Name x p) with
  | none => exact de_peek hX hE hn
  | some kvs => exact de_ixK hX (hE b) hn q
theorem subE_ok {X : Cx} {ev : Expr → DSt → Option D} {pos : Pos} (hX : XOk T k X) (hE : ∀ e, PE X e (tD X.K (ev e))) (a b : Expr) : PE X (.Subscript a b pos) (tD X.K (subE T X.N X.env.scope ev a b)) := by
  cases b
  case Slice lo hi st p2 =>
    cases st with
    | none => exact de_slice (hE a) hE
    | some e =>
      by_cases hsh : ∃ k p1 q, lo = none ∧ hi = none ∧ e = .UnaryOp .USub (.Constant (.int 1) k p1) q
      · obtain ⟨k, p1, q, rfl, rfl, rfl⟩ := hsh
        exact de_rev (hE a)
      · refine pe_no fun ρ => ?_
        unfold subE
        split
        · rename_i z; cases z
        · rename_i z; cases z; exact absurd ⟨_, _, _, rfl, rfl, rfl⟩ hsh
        · rfl
        · rename_i z1 z2 z3
          exact absurd rfl (z3 _ _ _ _)
  all_goals
    cases a
    case Dict => exact de_dictIx hX hE rfl
    case Name => exact peekK_ok hX hE rfl
    all_goals exact de_ix (hE _) (hE _) rfl
theorem repAll_strs {K : PySem.W.Frag} {H : Hp} : ∀ {ys : List Str}, ys.all sOk = true → RepAll K H (ys.map V.str) (ys.map D.str)
  | [], _ => .nil
  | y :: ys, h => by
    rw [List.all_cons, Bool.and_eq_true] at h
    exact .cons (.str y h.1) (repAll_strs h.2)
theorem methE_ok {X : Cx} {ev : Expr → DSt → Option D} {pos : Pos} (hX : XOk T k X) (hE : ∀ e, PE X e (tD X.K (ev e))) (o : Expr) (m : Str) (ap : Pos) (args : List Expr) : PE X (.Call (.Attribute o m ap) args [] pos) (tD X.K (methE ev o m ap args pos)) := by
  cases o
  case Dict ks vs dp =>
    match args with
    | [e, f] =>
      by_cases h : (decide (m = "get") && (ap.endLine == pos.line) && !isStarE e && !isStarE f) = true
      · have e1 : methE ev (.Dict ks vs dp) m ap [e, f] pos = dictGet ev ks vs e f := by
          funext ρ
          exact if_pos h
        rw [e1]
        simp only [Bool.and_eq_true, decide_eq_true_eq, Bool.not_eq_true'] at h
        obtain ⟨⟨⟨h1, h2⟩, h3⟩, h4⟩ := h
        subst h1
        exact de_dictGet hX hE h2 (by cases e <;> first | rfl | cases h3) (by cases f <;> first | rfl | cases h4)
      · exact pe_no fun _ => if_neg h
    | [] => exact pe_no fun _ => rfl
    | [_] => exact pe_no fun _ => rfl
    | _ :: _ :: _ :: _ => exact pe_no fun _ => rfl
  case Constant c j cpos =>
    cases c
    case str x =>
      match args with
      | [e] =>
        by_cases h : (decide (m = "join") && (ap.endLine == pos.line) && !isStarE e) = true
        · have e1 : methE ev (.Constant (.str x) j cpos) m ap [e] pos = fun ρ => (ev (.Constant (.str x) j cpos) ρ).bind fun s => (ev e ρ).bind fun l => joinD s l := by
            funext ρ
            exact if_pos h
          rw [e1]
          simp only [Bool.and_eq_true, decide_eq_true_eq, Bool.not_eq_true'] at h
          obtain ⟨⟨h1, h2⟩, h3⟩ := h
          subst h1
          have hn : notStar e = true := by cases e <;> first | rfl | cases h3
          refine PE.imp (pe_join (hE (.Constant (.str x) j cpos)) (hE e) (star_cons hn _ _) rfl h2) fun σ H Q ⟨O, L, ρ, d, s, e0, g⟩ => ?_
          obtain ⟨a, q1, e0⟩ := bind_inv e0
          obtain ⟨b, q2, q3⟩ := bind_inv e0
          refine ⟨O, L, ρ, a, s, q1, fun v H1 s1 r1 => ?_⟩
          cases r1 <;> try (cases q3; done)
          case str y hy =>
            refine ⟨⟨y, rfl⟩, O, L, ρ, b, s.same s1, q2, fun u H2 s2 r2 => ?_⟩
            cases r2 <;> try (cases q3; done)
            case lst pa xs ds ha ra la =>
              obtain ⟨ys, q4, q5⟩ := bind_inv (show (strsD ds).bind _ = some d from q3)
              have e5 := strsD_rep ra q4
              subst e5
              split at q5
              · rename_i hz
                cases q5
                refine ⟨y, pa, ys, rfl, rfl, .inl (.of (hid_le.lst ha)), Nat.le_trans hz.1 (by decide), ?_⟩
                rw [show Txt.join y ys = Str.join y ys from TL.join_eq y ys]
                exact (g.after (s1.trans s2)).here (.str _ hz.2)
              · cases q5
        · exact pe_no fun _ => if_neg h
      | [] => exact pe_no fun _ => rfl
      | _ :: _ :: _ => exact pe_no fun _ => rfl
    all_goals exact pe_no fun _ => rfl
  case Name x p =>
    match args with
    | [e] =>
      by_cases h : ((ap.endLine == pos.line) && !isStarE e) = true
      · have e1 : methE ev (.Name x p) m ap [e] pos = fun ρ => (ev (.Name x p) ρ).bind fun s => (ev e ρ).bind fun l => methD m s l := by
          funext ρ
          exact if_pos h
        rw [e1]
        simp only [Bool.and_eq_true, Bool.not_eq_true'] at h
        obtain ⟨h2, h3⟩ := h
        have hn : notStar e = true := by cases e <;> first | rfl | cases h3
        by_cases c1 : m = "split"
        · subst c1
          refine PE.imp (pe_split (hE (.Name x p)) (hE e) (star_cons hn _ _) rfl h2) fun σ H Q ⟨O, L, ρ, d, s, e0, g⟩ => ?_
          obtain ⟨a, q1, e0⟩ := bind_inv e0
          obtain ⟨b, q2, q3⟩ := bind_inv e0
          refine ⟨O, L, ρ, a, s, q1, fun v H1 s1 r1 => ?_⟩
          replace q3 : splitD a b = some d := q3
          cases r1 <;> try (cases q3; done)
          case str y hy =>
            refine ⟨⟨y, rfl⟩, O, L, ρ, b, s.same s1, q2, fun u H2 s2 r2 => ?_⟩
            cases r2 <;> try (cases q3; done)
            case str z hz =>
              simp only [splitD] at q3
              split at q3
              · rename_i c
                cases q3
                refine ⟨y, z, rfl, rfl, c.1, ?_, fun q hq => ?_⟩
                · have := sOk_len hy
                  exact Nat.le_trans (Nat.add_le_add_right this 2) (by decide)
                · exact (g.after (s1.trans s2)).lst ((s.same s1).same s2).dom (repAll_strs c.2.1) (by rw [List.length_map]; exact c.2.2) hq
              · cases q3
        · by_cases c2 : m = "index"
          · subst c2
            refine PE.imp (pe_bm PySem.F.plainAttrs_list PySem.F.slot_list_index PySem.F.type_list_index mt_index (hE (.Name x p)) (pa_cons (hE e) pa_nil (star_cons hn _ _)) rfl ?_ h2 (star_cons hn _ _) rfl) fun σ H Q ⟨O, L, ρ, d, s, e0, g⟩ => ?_
            · rw [star_cons hn]; rfl
            obtain ⟨a, q1, e0⟩ := bind_inv e0
            obtain ⟨b, q2, q3⟩ := bind_inv e0
            refine ⟨O, L, ρ, a, s, q1, fun v H1 s1 r1 => ?_⟩
            replace q3 : indexD a b = some d := q3
            cases r1 <;> try (cases q3; done)
            case lst pa xs ds ha ra la =>
              refine ⟨.inl ⟨rfl, xs, .of (hid_le.lst ha)⟩, O, L, ρ, b, s.same s1, q2, fun u H2 s2 r2 => ?_⟩
              cases r2 <;> try (cases q3; done)
              case str z hz =>
                obtain ⟨ys, q4, q5⟩ := bind_inv (show (strsD ds).bind _ = some d from q3)
                have e5 := strsD_rep ra q4
                subst e5
                cases q6 : idxS z ys 0 with
                | none => rw [q6] at q5; cases q5
                | some j =>
                  rw [q6] at q5
                  cases q5
                  obtain ⟨i, k1, k2, k3⟩ := idxS_spec q6
                  rw [Nat.zero_add] at k1
                  subst k1
                  refine ⟨pa, ys.map V.str, .str z, j, .str z, rfl, rfl, .of (hid_le.lst ((hid_same s2).lst ha)), rfl, by simp [flatV], by rw [List.getElem?_map, k2]; rfl, by simp [eqV], fun m z' hm hz' => ?_, (g.after (s1.trans s2)).here (.int _)⟩
                  rw [List.getElem?_map] at hz'
                  cases q7 : ys[m]? with
                  | none => rw [q7] at hz'; cases hz'
                  | some y =>
                    rw [q7] at hz'
                    cases hz'
                    have : y ≠ z := fun e => k3 m hm (by rw [q7, e])
                    simp [eqV, this]
          · refine pe_no fun ρ => ?_
            have e2 : ∀ s l, methD m s l = none := fun s l => by unfold methD; rw [if_neg c1, if_neg c2]
            cases q1 : ev (.Name x p) ρ with
            | none => rfl
            | some s =>
              cases q2 : ev e ρ with
              | none => rfl
              | some l => exact e2 s l
      · exact pe_no fun _ => if_neg h
    | [] => exact pe_no fun _ => rfl
    | _ :: _ :: _ => exact pe_no fun _ => rfl
  all_goals exact pe_no fun _ => rfl
theorem stepE_val {X : Cx} {ev : Ev} (hX : XOk T k X) (h : EvOk T k X.N ev) (e : Expr) : PE X e (tD X.K (stepE T X.N ev false X.env.scope e)) := by
  have hE : ∀ e, PE X e (tD X.K (ev false X.env.scope e)) := fun e => (h.1 X hX rfl e).1
  have hT : ∀ e, PT X e (tT X.K (ev true X.env.scope e)) := fun e => (h.1 X hX rfl e).2
  cases e
  case Constant c j pos =>
    cases c
    case int i => exact de_const pe_int fun H => .int i
    case str x =>
      by_cases hs : sOk x = true
      · have e : stepE T X.N ev false X.env.scope (.Constant (.str x) j pos) = fun _ => some (.str x) := by
          funext ρ
          exact if_pos hs
        rw [e]
        exact de_const pe_str fun H => .str x hs
      · exact pe_no fun ρ => if_neg hs
    case bool b => exact de_const pe_bl fun H => .bl b
    case none => exact de_const pe_non fun H => .non
    all_goals exact pe_no fun _ => rfl
  case Name x pos => exact de_var hX
  case BinOp a op b pos => exact de_bin (hE a) (hE b)
  case UnaryOp op a pos =>
    cases op
    case Not => exact de_not (hE a)
    case USub => exact de_neg (hE a)
    all_goals exact pe_no fun _ => rfl
  case BoolOp op es pos =>
    cases op
    case And => exact de_boolV (isAnd := true) hE es
    case Or => exact de_boolV (isAnd := false) hE es
  case IfExp c a b pos => exact de_ifExp (hT c) (hE a) (hE b)
  case Compare a ops bs pos =>
    match ops, bs with
    | [op], [b] => exact (cmpE_ok hX hE a op b).1
    | [op, op'], [b, c] => exact de_chain hX (hE a) (hE b) (hE c)
    | [], _ => exact pe_no fun _ => by cases bs <;> rfl
    | [_], [] => exact pe_no fun _ => rfl
    | [_], _ :: _ :: _ => exact pe_no fun _ => rfl
    | [_, _], [] => exact pe_no fun _ => rfl
    | [_, _], [_] => exact pe_no fun _ => rfl
    | [_, _], _ :: _ :: _ :: _ => exact pe_no fun _ => rfl
    | _ :: _ :: _ :: _, _ => exact pe_no fun _ => rfl
  case Tuple es k0 pos => exact de_tup (h.2 _) hE
  case List es pos => exact de_lst (h.2 _) hE
  case Subscript a b pos =>
    exact subE_ok hX hE a b
  case Call f args kw pos =>
    cases f
    case Name f p =>
      cases kw with
      | nil => exact de_call hX h
      | cons _ _ => exact pe_no fun _ => rfl
    case Attribute o m ap =>
      cases kw with
      | nil => exact methE_ok hX hE o m ap args
      | cons _ _ => exact pe_no fun _ => rfl
    all_goals exact pe_no fun _ => rfl
  case ListComp elt gens scope pos =>
    match gens with
    | [⟨tg, iter, ifs, a⟩] =>
      by_cases ha : a = 0
      · subst ha
        exact de_lc hX h
      · refine pe_no fun ρ => ?_
        unfold stepE
        split <;> first | rfl | (rename_i q; simp at q; exact absurd q.2.2.1.2.2.2 ha) | simp_all
    | [] => exact pe_no fun _ => rfl
    | ⟨t1, i1, f1, a1⟩ :: c2 :: cs =>
      refine pe_no fun ρ => ?_
      unfold stepE
      split <;> first | rfl | simp_all
  all_goals exact pe_no fun _ => rfl
theorem stepE_tst {X : Cx} {ev : Ev} (hX : XOk T k X) (h : EvOk T k X.N ev) (e : Expr) : PT X e (tT X.K (stepE T X.N ev true X.env.scope e)) := by
  have hE : ∀ e, PE X e (tD X.K (ev false X.env.scope e)) := fun e => (h.1 X hX rfl e).1
  have hT : ∀ e, PT X e (tT X.K (ev true X.env.scope e)) := fun e => (h.1 X hX rfl e).2
  cases e
  case UnaryOp op a pos =>
    cases op
    case Not => exact dt_not (hT a)
    all_goals exact dt_truth (hE _) fun _ => rfl
  case BoolOp op es pos =>
    cases op
    case And => exact (de_boolT (isAnd := true) hT es).pt
    case Or => exact (de_boolT (isAnd := false) hT es).pt
  case IfExp c a b pos => exact pt_no fun _ => rfl
  case Compare a ops bs pos =>
    match ops, bs with
    | [op], [b] => exact (cmpE_ok hX hE a op b).2
    | [op, op'], [b, c] => exact dt_chain hX (hE a) (hE b) (hE c)
    | [], _ => exact pt_no fun _ => by cases bs <;> rfl
    | [_], [] => exact pt_no fun _ => rfl
    | [_], _ :: _ :: _ => exact pt_no fun _ => rfl
    | [_, _], [] => exact pt_no fun _ => rfl
    | [_, _], [_] => exact pt_no fun _ => rfl
    | [_, _], _ :: _ :: _ :: _ => exact pt_no fun _ => rfl
    | _ :: _ :: _ :: _, _ => exact pt_no fun _ => rfl
  all_goals exact dt_truth (hE _) fun _ => rfl
theorem evalD_ok (N : List Str) : ∀ n : Nat, EvOk T k N (evalD T N n)
  | 0 => ⟨fun X hX hN e => ⟨pe_no fun _ => rfl, pt_no fun _ => rfl⟩, fun sc e p ρ => rfl⟩
  | n + 1 => by
    have ih := evalD_ok N n
    refine ⟨fun X hX hN e => ?_, fun sc e p ρ => rfl⟩
    subst hN
    exact ⟨stepE_val hX ih e, stepE_tst hX ih e⟩
end
end Sw
/-! ## the interpreter is right: statements -/
namespace Sw
open PySem L2
variable [Tbs] [Acs]

/-- what stood and was not owned stands, not owned -/
structure FrO (L : List Addr) (H : Hp) (L' : List Addr) (H' : Hp) : Prop where
  f : ∀ p u, p ∉ L → H p = some u → NT u → p ∉ L' ∧ H' p = some u
  t : TabsX H → TabsX H'
theorem FrO.refl (L : List Addr) (H : Hp) : FrO L H L H := ⟨fun _ _ n h _ => ⟨n, h⟩, fun t => t⟩
theorem FrO.trans {L L1 L2 : List Addr} {H H1 H2 : Hp} (a : FrO L H L1 H1) (b : FrO L1 H1 L2 H2) : FrO L H L2 H2 := ⟨fun p u n h nt => let ⟨n1, h1⟩ := a.f p u n h nt; b.f p u n1 h1 nt, fun t => b.t (a.t t)⟩
theorem FrO.of_same {L : List Addr} {H H' : Hp} (s : Same H H') : FrO L H L H' := ⟨fun p u n h nt => ⟨n, s.n p u h nt⟩, s.t⟩
theorem FrO.same {L' : List Addr} {H H' : Hp} (f : FrO [] H L' H') : Same H H' := ⟨fun p u h nt => (f.f p u (by simp) h nt).2, f.t⟩
theorem FrO.hid {L L' B : List Addr} {H H' : Hp} (f : FrO L H L' H') : SameN (hid (L ++ B) H) (hid (L' ++ B) H') := fun p o h nt => by
  obtain ⟨n, h⟩ := of_hid h
  simp only [List.mem_append, not_or] at n
  obtain ⟨n1, h1⟩ := f.f p o n.1 h nt
  exact hid_get (by simp only [List.mem_append, not_or]; exact ⟨n1, n.2⟩) h1
/-- a new list, owned -/
theorem FrO.new {L : List Addr} {H : Hp} {a : Addr} {o : HO} (ha : H a = none) : FrO L H (a :: L) (upd H a o) := ⟨fun b u nb hb _ => by
  have ne : b ≠ a := ne_of_none hb ha
  exact ⟨by simp only [List.mem_cons, not_or]; exact ⟨ne, nb⟩, by rw [upd_ne ne]; exact hb⟩, (same_upd ha).t⟩
/-- an owned list is changed -/
theorem FrO.mut {L : List Addr} {H : Hp} {a : Addr} {xs : List V} {o : HO} (ha : a ∈ L) (hx : H a = some (.lst xs)) : FrO L H L (upd H a o) := ⟨fun b u nb hb _ => ⟨nb, by
  rw [upd_ne fun z => nb (by rw [z]; exact ha)]
  exact hb⟩, tabs_lst hx⟩
structure SS (K : PySem.W.Frag) (B L : List Addr) (H : Hp) (σ : St) (ρ : DSt) : Prop where
  sr : SR K (L ++ B) L H σ ρ
  dis : ∀ p ∈ L, p ∉ B
section
variable {K : PySem.W.Frag} {B L : List Addr} {H H' : Hp} {σ : St} {ρ : DSt}
theorem SS.same (r : SS K B L H σ ρ) (s : Same H H') : SS K B L H' σ ρ := ⟨r.sr.same s, r.dis⟩
theorem get_set_ne {ρ : DSt} {i j : Nat} {s : Option Sl} (h : i ≠ j) : (ρ.set i s)[j]? = ρ[j]? := List.getElem?_set_ne h
/-- what one slot owns becomes data -/
theorem SS.frz1 (r : SS K B L H σ ρ) (i : Nat) (s : Option Sl) (hs : ρ[i]? = some s) : ∃ L', SS K B L' H σ (ρ.set i (frz1 s)) ∧ FrO L H L' H := by
  have hlt : i < ρ.length := (List.getElem?_eq_some_iff.mp hs).1
  have keep : s = Sw.frz1 s → ∃ L', SS K B L' H σ (ρ.set i (Sw.frz1 s)) ∧ FrO L H L' H := fun e => by
    have e2 : ρ.set i (Sw.frz1 s) = ρ := by
      rw [← e]
      apply List.ext_getElem?
      intro j
      by_cases hj : i = j
      · subst hj; rw [List.getElem?_set_self hlt, hs]
      · rw [List.getElem?_set_ne hj]
    rw [e2]
    exact ⟨L, r, FrO.refl L H⟩
  cases s with
  | none => exact keep rfl
  | some sl =>
    cases sl with
    | dat d => exact keep rfl
    | act => exact keep rfl
    | dfz ks => exact keep rfl
    | dlf m => exact keep rfl
    | dct ks =>
      obtain ⟨p, o, xs, e, hp, hx, sat, dr⟩ := r.sr.ex.dct i ks hs
      refine ⟨L.filter (fun q => decide (q ≠ p)), ⟨?_, fun q hq => r.dis q (List.mem_filter.mp hq).1⟩, ⟨fun q u n h _ => ⟨fun z => n (List.mem_filter.mp z).1, h⟩, fun t => t⟩⟩
      have sm : SameN (hid (L ++ B) H) (hid (L.filter (fun q => decide (q ≠ p)) ++ B) H) := hid_sub fun q hq => by
        rcases List.mem_append.mp hq with z | z
        · exact List.mem_append_left _ (List.mem_filter.mp z).1
        · exact List.mem_append_right _ z
      have hpn : p ∉ L.filter (fun q => decide (q ≠ p)) ++ B := by
        intro z
        rcases List.mem_append.mp z with z | z
        · have := (List.mem_filter.mp z).2
          simp at this
        · exact r.dis p hp z
      have nx : ∀ {j : Nat} {s : Sl}, (∀ ks, s ≠ .dfz ks) → (ρ.set i (Sw.frz1 (some (.dct ks))))[j]? = some (some s) → i ≠ j ∧ ρ[j]? = some (some s) := fun {j s} hs' h => by
        by_cases hj : i = j
        · subst hj
          rw [List.getElem?_set_self hlt] at h
          cases h
          exact absurd rfl (hs' ks)
        · rw [List.getElem?_set_ne hj] at h
          exact ⟨hj, h⟩
      refine ⟨by rw [List.length_set]; exact r.sr.len, ⟨fun q hq => ?_, r.sr.dom.t, Tbs.mono _ _ sm r.sr.dom.r⟩, fun q hq => List.mem_append_left _ hq, fun j d h => ?_, fun j es h => ?_, fun j j' es es' q h1 h2 h3 h4 => ?_, fun j h => ?_, ⟨fun j js h => ?_, fun j js h => ?_, fun j j' js js' h1 h2 => ?_, fun j m h => ?_⟩⟩
      · rcases List.mem_append.mp hq with z | z
        · exact r.sr.dom.d q (List.mem_append_left _ (List.mem_filter.mp z).1)
        · exact r.sr.dom.d q (List.mem_append_right _ z)
      · obtain ⟨_, h⟩ := nx (fun _ z => by cases z) h
        obtain ⟨v, h1, h2⟩ := r.sr.dat j d h
        exact ⟨v, h1, h2.mono sm⟩
      · obtain ⟨_, h⟩ := nx (fun _ z => by cases z) h
        obtain ⟨q, ys, h1, h2, h3, h4, h5⟩ := r.sr.own j es h
        exact ⟨q, ys, h1, List.mem_filter.mpr ⟨h2, decide_eq_true fun z => by rw [z, hx] at h3; cases h3⟩, h3, h4.mono sm, h5⟩
      · exact r.sr.inj j j' es es' q (nx (fun _ z => by cases z) h1).2 (nx (fun _ z => by cases z) h2).2 h3 h4
      · exact r.sr.act j (nx (fun _ z => by cases z) h).2
      · obtain ⟨n1, h⟩ := nx (fun _ z => by cases z) h
        exact absurd (r.sr.ex.uni i j ks js hs h) n1
      · by_cases hj : i = j
        · subst hj
          rw [List.getElem?_set_self hlt] at h
          cases h
          exact ⟨p, o, xs, e, hid_get hpn hx, dr.mono sm⟩
        · rw [List.getElem?_set_ne hj] at h
          obtain ⟨q, o', ys, h1, h2, h3⟩ := r.sr.ex.dfz j js h
          exact ⟨q, o', ys, h1, sm q _ h2 nt_dct, h3.mono sm⟩
      · exact r.sr.ex.uni j j' js js' (nx (fun _ z => by cases z) h1).2 (nx (fun _ z => by cases z) h2).2
      · obtain ⟨q, es, h1, h2, h3⟩ := r.sr.ex.dlf j m (nx (fun _ z => by cases z) h).2
        exact ⟨q, es, h1, h2.mono sm, h3⟩
    | own ds =>
      obtain ⟨p, xs, e, hp, hx, rx, hl⟩ := r.sr.own i ds hs
      refine ⟨L.filter (fun q => decide (q ≠ p)), ⟨?_, fun q hq => r.dis q (List.mem_filter.mp hq).1⟩, ⟨fun q u n h _ => ⟨fun z => n (List.mem_filter.mp z).1, h⟩, fun t => t⟩⟩
      have sm : SameN (hid (L ++ B) H) (hid (L.filter (fun q => decide (q ≠ p)) ++ B) H) := hid_sub fun q hq => by
        rcases List.mem_append.mp hq with z | z
        · exact List.mem_append_left _ (List.mem_filter.mp z).1
        · exact List.mem_append_right _ z
      have hpn : p ∉ L.filter (fun q => decide (q ≠ p)) ++ B := by
        intro z
        rcases List.mem_append.mp z with z | z
        · have := (List.mem_filter.mp z).2
          simp at this
        · exact r.dis p hp z
      refine ⟨by rw [List.length_set]; exact r.sr.len, ⟨fun q hq => ?_, r.sr.dom.t, Tbs.mono _ _ sm r.sr.dom.r⟩, fun q hq => List.mem_append_left _ hq, fun j d h => ?_, fun j es h => ?_, fun j j' es es' q h1 h2 h3 h4 => ?_, fun j h => ?_, r.sr.ex.map (fun j s' hs' h => by
        obtain ⟨h1, h2⟩ := set_isX (fun u z => by cases z; rfl) hs' h
        exact ⟨h2, rfl⟩) (fun q o ys hq h => ⟨List.mem_filter.mpr ⟨hq, decide_eq_true fun z => by rw [z, hx] at h; cases h⟩, h⟩) sm⟩
      · rcases List.mem_append.mp hq with z | z
        · exact r.sr.dom.d q (List.mem_append_left _ (List.mem_filter.mp z).1)
        · exact r.sr.dom.d q (List.mem_append_right _ z)
      · by_cases hj : i = j
        · subst hj
          rw [List.getElem?_set_self hlt] at h
          cases h
          exact ⟨.ref p, e, .lst (hid_get hpn hx) (rx.mono sm) hl⟩
        · rw [List.getElem?_set_ne hj] at h
          obtain ⟨v, h1, h2⟩ := r.sr.dat j d h
          exact ⟨v, h1, h2.mono sm⟩
      · by_cases hj : i = j
        · subst hj
          rw [List.getElem?_set_self hlt] at h
          cases h
        · rw [List.getElem?_set_ne hj] at h
          obtain ⟨q, ys, h1, h2, h3, h4, h5⟩ := r.sr.own j es h
          refine ⟨q, ys, h1, List.mem_filter.mpr ⟨h2, decide_eq_true fun z => ?_⟩, h3, h4.mono sm, h5⟩
          subst z
          exact hj (r.sr.inj i j ds es q hs h e h1)
      · have ne : ∀ {j : Nat} {es : List D}, (ρ.set i (Sw.frz1 (some (.own ds))))[j]? = some (some (.own es)) → i ≠ j := fun {j es} q z => by
          subst z
          rw [List.getElem?_set_self hlt] at q; cases q
        have n1 := ne h1
        have n2 := ne h2
        rw [List.getElem?_set_ne n1] at h1
        rw [List.getElem?_set_ne n2] at h2
        exact r.sr.inj j j' es es' q h1 h2 h3 h4
      · by_cases hj : i = j
        · subst hj
          rw [List.getElem?_set_self hlt] at h; cases h
        · rw [List.getElem?_set_ne hj] at h
          exact r.sr.act j h
theorem SS.frz : ∀ (is : List Nat) {L : List Addr} {ρ : DSt}, SS K B L H σ ρ → ∃ L', SS K B L' H σ (Sw.frz ρ is) ∧ FrO L H L' H
  | [], L, ρ, r => ⟨L, r, FrO.refl L H⟩
  | i :: is, L, ρ, r => by
    unfold Sw.frz
    cases q : ρ[i]? with
    | none => exact SS.frz is r
    | some s =>
      obtain ⟨L1, r1, f1⟩ := r.frz1 i s q
      obtain ⟨L2, r2, f2⟩ := SS.frz is r1
      exact ⟨L2, r2, f1.trans f2⟩
theorem SS.frzE (r : SS K B L H σ ρ) (N : List Str) (e : Expr) : ∃ L', SS K B L' H σ (Sw.frzE N e ρ) ∧ FrO L H L' H := SS.frz _ r
theorem SS.setDat {v : V} {d : D} (r : SS K B L H σ ρ) (i : Nat) (h : Rep K (Sw.hid (L ++ B) H) v d) : SS K B L H (σ.set i (some v)) (ρ.set i (some (.dat d))) := ⟨r.sr.setDat i h, r.dis⟩
/-- a new list, owned by a slot -/
theorem SS.setOwn {p : Addr} {xs : List V} {ds : List D} (r : SS K B L H σ ρ) (i : Nat) (hp : H p = none) (h : RepAll K (Sw.hid (L ++ B) H) xs ds) (hl : ds.length ≤ lim) : SS K B (p :: L) (upd H p (.lst xs)) (σ.set i (some (.ref p))) (ρ.set i (some (.own ds))) := by
  have m := r.sr.more (o := .lst xs) hp pl_lst
  have hpL : p ∉ L := fun z => r.sr.dom.ne (List.mem_append_left _ z) hp
  have hpB : p ∉ B := fun z => r.sr.dom.ne (List.mem_append_right _ z) hp
  have sm : SameN (Sw.hid (L ++ B) H) (Sw.hid (p :: L ++ B) (upd H p (.lst xs))) := fun q o z _ => by
    obtain ⟨n, z⟩ := of_hid z
    have ne : q ≠ p := ne_of_none z hp
    exact hid_get (by simp only [List.cons_append, List.mem_cons, not_or]; exact ⟨ne, n⟩) (by rw [upd_ne ne]; exact z)
  refine ⟨⟨by rw [List.length_set, List.length_set]; exact r.sr.len, m.dom, fun q hq => List.mem_append_left _ hq, fun j d e => ?_, fun j es e => ?_, fun j j' es es' q h1 h2 h3 h4 => ?_, fun j e => ?_, m.ex.map (fun j s' hs' h => by
    obtain ⟨h1, h2⟩ := set_isX (fun u z => by cases z; rfl) hs' h
    exact ⟨h2, List.getElem?_set_ne h1⟩) (fun q o ys hq h => ⟨List.mem_cons_of_mem _ hq, h⟩) (SameN.refl _)⟩, fun q hq => ?_⟩
  · by_cases hj : i = j
    · subst hj
      by_cases hlt : i < ρ.length
      · rw [List.getElem?_set_self hlt] at e; cases e
      · rw [List.getElem?_eq_none (by simpa using hlt)] at e; cases e
    · rw [List.getElem?_set_ne hj] at e
      rw [List.getElem?_set_ne hj]
      exact m.dat j d e
  · by_cases hj : i = j
    · subst hj
      by_cases hlt : i < ρ.length
      · rw [List.getElem?_set_self hlt] at e
        cases e
        exact ⟨p, xs, List.getElem?_set_self (by rw [r.sr.len]; exact hlt), List.mem_cons_self, upd_same, h.mono sm, hl⟩
      · rw [List.getElem?_eq_none (by simpa using hlt)] at e; cases e
    · rw [List.getElem?_set_ne hj] at e
      rw [List.getElem?_set_ne hj]
      obtain ⟨q, ys, e1, e2, e3⟩ := m.own j es e
      exact ⟨q, ys, e1, List.mem_cons_of_mem _ e2, e3⟩
  · have other : ∀ {j : Nat} {es : List D}, i ≠ j → (ρ.set i (some (.own ds)))[j]? = some (some (.own es)) → (σ.set i (some (.ref p)))[j]? = some (some (.ref q)) → q ∈ L := fun {j es} hj e1 e2 => by
      rw [List.getElem?_set_ne hj] at e1 e2
      obtain ⟨q', ys, e3, e4, _⟩ := m.own j es e1
      rw [e2] at e3
      cases e3
      exact e4
    have mine : ∀ {es : List D}, (ρ.set i (some (.own ds)))[i]? = some (some (.own es)) → (σ.set i (some (.ref p)))[i]? = some (some (.ref q)) → q = p := fun {es} e1 e2 => by
      have hlt : i < ρ.length := by
        by_cases hlt : i < ρ.length
        · exact hlt
        · rw [List.getElem?_eq_none (by simpa using hlt)] at e1; cases e1
      rw [List.getElem?_set_self (by rw [r.sr.len]; exact hlt)] at e2
      cases e2; rfl
    by_cases hj : i = j
    · by_cases hj' : i = j'
      · rw [← hj, ← hj']
      · subst hj
        have := mine h1 h3
        subst this
        exact absurd (other hj' h2 h4) hpL
    · by_cases hj' : i = j'
      · subst hj'
        have := mine h2 h4
        subst this
        exact absurd (other hj h1 h3) hpL
      · rw [List.getElem?_set_ne hj] at h1 h3
        rw [List.getElem?_set_ne hj'] at h2 h4
        exact r.sr.inj j j' es es' q h1 h2 h3 h4
  · by_cases hj : i = j
    · subst hj
      by_cases hlt : i < ρ.length
      · rw [List.getElem?_set_self hlt] at e; cases e
      · rw [List.getElem?_eq_none (by simpa using hlt)] at e; cases e
    · rw [List.getElem?_set_ne hj] at e
      rw [List.getElem?_set_ne hj]
      exact r.sr.act j e
  · rcases List.mem_cons.mp hq with z | z
    · rw [z]; exact hpB
    · exact r.dis q z
/-- the list that a slot owns is changed -/
theorem SS.mutOwn {p : Addr} {ys : List V} {ds ds' : List D} {i : Nat} (r : SS K B L H σ ρ) (hi : ρ[i]? = some (some (.own ds))) (hσ : σ[i]? = some (some (.ref p))) (hp : p ∈ L) (h : RepAll K (Sw.hid (L ++ B) H) ys ds') (hl : ds'.length ≤ lim) :
    SS K B L (upd H p (.lst ys)) σ (ρ.set i (some (.own ds'))) := by
  have hO : p ∈ L ++ B := List.mem_append_left _ hp
  have hlt : i < ρ.length := (List.getElem?_eq_some_iff.mp hi).1
  have back : ∀ {j : Nat} {es : List D}, (ρ.set i (some (.own ds')))[j]? = some (some (.own es)) → ∃ es', ρ[j]? = some (some (.own es')) := fun {j es} e => by
    by_cases hj : i = j
    · subst hj; exact ⟨ds, hi⟩
    · rw [List.getElem?_set_ne hj] at e; exact ⟨es, e⟩
  obtain ⟨p0, xs0, z1, z2, z3, _, _⟩ := r.sr.own i ds hi
  have z3 : H p = some (.lst xs0) := by rw [hσ] at z1; cases z1; exact z3
  refine ⟨⟨by rw [List.length_set]; exact r.sr.len, ⟨fun q hq => ?_, tabs_lst z3 r.sr.dom.t, by rw [hid_upd_in hO]; exact r.sr.dom.r⟩, r.sr.sub, fun j d e => ?_, fun j es e => ?_, fun j j' es es' q h1 h2 h3 h4 => ?_, fun j e => ?_, r.sr.ex.map (fun j s' hs' h => by
    obtain ⟨h1, h2⟩ := set_isX (fun u z => by cases z; rfl) hs' h
    exact ⟨h2, rfl⟩) (fun q o zs hq h => ⟨hq, by rw [upd_ne fun z => by rw [z, z3] at h; cases h]; exact h⟩) (by rw [hid_upd_in hO]; exact SameN.refl _)⟩, r.dis⟩
  · by_cases e : q = p
    · rw [e]; exact ⟨_, upd_same, pl_lst⟩
    · rw [upd_ne e]; exact r.sr.dom.d q hq
  · rw [hid_upd_in hO]
    by_cases hj : i = j
    · subst hj; rw [List.getElem?_set_self hlt] at e; cases e
    · rw [List.getElem?_set_ne hj] at e; exact r.sr.dat j d e
  · rw [hid_upd_in hO]
    by_cases hj : i = j
    · subst hj
      rw [List.getElem?_set_self hlt] at e
      cases e
      exact ⟨p, ys, hσ, hp, upd_same, h, hl⟩
    · rw [List.getElem?_set_ne hj] at e
      obtain ⟨q, zs, e1, e2, e3, e4, e5⟩ := r.sr.own j es e
      refine ⟨q, zs, e1, e2, ?_, e4, e5⟩
      have ne : q ≠ p := fun z => by
        subst z
        exact hj (r.sr.inj i j ds es q hi e hσ e1)
      rw [upd_ne ne]; exact e3
  · obtain ⟨d1, k1⟩ := back h1
    obtain ⟨d2, k2⟩ := back h2
    exact r.sr.inj j j' d1 d2 q k1 k2 h3 h4
  · by_cases hj : i = j
    · subst hj; rw [List.getElem?_set_self hlt] at e; cases e
    · rw [List.getElem?_set_ne hj] at e; exact r.sr.act j e
/-- a new dict, owned by a slot -/
theorem SS.newDct {p : Addr} {o : Obj} (r : SS K B L H σ ρ) (i : Nat) (hp : H p = none) (sat : ∃ h, DctR h p o []) (hn : ρ.any isDct = false) : SS K B (p :: L) (upd H p (DctO p o [])) (σ.set i (some (.ref p))) (ρ.set i (some (.dct []))) := by
  have m := r.sr.more (o := DctO p o []) hp (pl_dct sat)
  have hpB : p ∉ B := fun z => r.sr.dom.ne (List.mem_append_right _ z) hp
  have none : ∀ {j : Nat} {js : List D}, ρ[j]? = some (some (.dct js)) → False := fun {j js} h => by
    have := List.any_eq_false.mp hn _ (List.mem_of_getElem? h)
    exact this rfl
  have nx : ∀ {j : Nat} {s : Sl}, (∀ ks, s ≠ .dct ks) → (ρ.set i (some (.dct [])))[j]? = some (some s) → i ≠ j ∧ ρ[j]? = some (some s) := fun {j s} hs' h => by
    by_cases hj : i = j
    · subst hj
      by_cases hl : i < ρ.length
      · rw [List.getElem?_set_self hl] at h
        cases h
        exact absurd rfl (hs' [])
      · rw [List.getElem?_eq_none (by simpa using hl)] at h; cases h
    · rw [List.getElem?_set_ne hj] at h
      exact ⟨hj, h⟩
  have only : ∀ {j : Nat} {js : List D}, (ρ.set i (some (.dct [])))[j]? = some (some (.dct js)) → i = j ∧ js = [] ∧ i < ρ.length := fun {j js} h => by
    by_cases hj : i = j
    · subst hj
      by_cases hl : i < ρ.length
      · rw [List.getElem?_set_self hl] at h
        cases h
        exact ⟨rfl, rfl, hl⟩
      · rw [List.getElem?_eq_none (by simpa using hl)] at h; cases h
    · rw [List.getElem?_set_ne hj] at h
      exact (none h).elim
  refine ⟨⟨by rw [List.length_set, List.length_set]; exact r.sr.len, m.dom, fun q hq => List.mem_append_left _ hq, fun j d e => ?_, fun j es e => ?_, fun j j' es es' q h1 h2 h3 h4 => ?_, fun j e => ?_, ⟨fun j js h => ?_, fun j js h => ?_, fun j j' js js' h1 h2 => ?_, fun j md h => ?_⟩⟩, fun q hq => ?_⟩
  · obtain ⟨hj, e⟩ := nx (fun _ z => by cases z) e
    rw [List.getElem?_set_ne hj]
    exact m.dat j d e
  · obtain ⟨hj, e⟩ := nx (fun _ z => by cases z) e
    rw [List.getElem?_set_ne hj]
    obtain ⟨q, ys, e1, e2, e3⟩ := m.own j es e
    exact ⟨q, ys, e1, List.mem_cons_of_mem _ e2, e3⟩
  · obtain ⟨n1, h1⟩ := nx (fun _ z => by cases z) h1
    obtain ⟨n2, h2⟩ := nx (fun _ z => by cases z) h2
    rw [List.getElem?_set_ne n1] at h3
    rw [List.getElem?_set_ne n2] at h4
    exact r.sr.inj j j' es es' q h1 h2 h3 h4
  · obtain ⟨hj, e⟩ := nx (fun _ z => by cases z) e
    rw [List.getElem?_set_ne hj]
    exact r.sr.act j e
  · obtain ⟨rfl, rfl, hl⟩ := only h
    exact ⟨p, o, [], List.getElem?_set_self (by rw [r.sr.len]; exact hl), List.mem_cons_self, upd_same, sat, .nil, rfl, List.nodup_nil, Nat.zero_le _⟩
  · obtain ⟨hj, h⟩ := nx (fun _ z => by cases z) h
    obtain ⟨q, o', ys, h1, h2, h3⟩ := m.ex.dfz j js h
    exact ⟨q, o', ys, by rw [List.getElem?_set_ne hj]; exact h1, h2, h3⟩
  · rw [← (only h1).1, ← (only h2).1]
  · obtain ⟨hj, h⟩ := nx (fun _ z => by cases z) h
    obtain ⟨q, es, h1, h2, h3⟩ := m.ex.dlf j md h
    exact ⟨q, es, by rw [List.getElem?_set_ne hj]; exact h1, h2, h3⟩
  · rcases List.mem_cons.mp hq with z | z
    · rw [z]; exact hpB
    · exact r.dis q z
/-- the dict that a slot owns is changed -/
theorem SS.mutDct {p : Addr} {o o' : Obj} {xs xs' : List (List (Option Int) × Addr)} {ks ks' : List D} {i : Nat} (r : SS K B L H σ ρ) (hi : ρ[i]? = some (some (.dct ks))) (hσ : σ[i]? = some (some (.ref p))) (hp : p ∈ L) (hx : H p = some (DctO p o xs)) (sat : ∃ h, DctR h p o xs) (sat' : ∃ h, DctR h p o' xs') (h : DRep K (Sw.hid (L ++ B) H) xs' ks') :
    SS K B L (upd H p (DctO p o' xs')) σ (ρ.set i (some (.dct ks'))) := by
  have hO : p ∈ L ++ B := List.mem_append_left _ hp
  have hlt : i < ρ.length := (List.getElem?_eq_some_iff.mp hi).1
  have nx : ∀ {j : Nat} {s : Sl}, (∀ ks, s ≠ .dct ks) → (ρ.set i (some (.dct ks')))[j]? = some (some s) → i ≠ j ∧ ρ[j]? = some (some s) := fun {j s} hs' h => by
    by_cases hj : i = j
    · subst hj
      rw [List.getElem?_set_self hlt] at h
      cases h
      exact absurd rfl (hs' ks')
    · rw [List.getElem?_set_ne hj] at h
      exact ⟨hj, h⟩
  have only : ∀ {j : Nat} {js : List D}, (ρ.set i (some (.dct ks')))[j]? = some (some (.dct js)) → i = j ∧ js = ks' := fun {j js} h => by
    by_cases hj : i = j
    · subst hj
      rw [List.getElem?_set_self hlt] at h
      cases h
      exact ⟨rfl, rfl⟩
    · rw [List.getElem?_set_ne hj] at h
      exact absurd (r.sr.ex.uni i j ks js hi h) hj
  refine ⟨⟨by rw [List.length_set]; exact r.sr.len, ⟨fun q hq => ?_, tabs_upd hx (pl_dct sat) r.sr.dom.t, by rw [hid_upd_in hO]; exact r.sr.dom.r⟩, r.sr.sub, fun j d e => ?_, fun j es e => ?_, fun j j' es es' q h1 h2 h3 h4 => ?_, fun j e => ?_, ⟨fun j js e => ?_, fun j js e => ?_, fun j j' js js' h1 h2 => ?_, fun j md e => ?_⟩⟩, r.dis⟩
  · by_cases e : q = p
    · rw [e]; exact ⟨_, upd_same, pl_dct sat'⟩
    · rw [upd_ne e]; exact r.sr.dom.d q hq
  · rw [hid_upd_in hO]
    exact r.sr.dat j d (nx (fun _ z => by cases z) e).2
  · rw [hid_upd_in hO]
    obtain ⟨q, zs, e1, e2, e3, e4, e5⟩ := r.sr.own j es (nx (fun _ z => by cases z) e).2
    exact ⟨q, zs, e1, e2, by rw [upd_ne fun z => by rw [z, hx] at e3; cases e3]; exact e3, e4, e5⟩
  · exact r.sr.inj j j' es es' q (nx (fun _ z => by cases z) h1).2 (nx (fun _ z => by cases z) h2).2 h3 h4
  · exact r.sr.act j (nx (fun _ z => by cases z) e).2
  · obtain ⟨rfl, rfl⟩ := only e
    rw [hid_upd_in hO]
    exact ⟨p, o', xs', hσ, hp, upd_same, sat', h⟩
  · rw [hid_upd_in hO]
    obtain ⟨q, o2, ys, h1, h2, h3⟩ := r.sr.ex.dfz j js (nx (fun _ z => by cases z) e).2
    exact ⟨q, o2, ys, h1, h2, h3⟩
  · rw [← (only h1).1, ← (only h2).1]
  · rw [hid_upd_in hO]
    obtain ⟨q, es, h1, h2, h3⟩ := r.sr.ex.dlf j md (nx (fun _ z => by cases z) e).2
    exact ⟨q, es, h1, h2, h3⟩
theorem FrO.mutD {a : Addr} {o : Obj} {xs : List (List (Option Int) × Addr)} {u : HO} (ha : a ∈ L) (hx : H a = some (DctO a o xs)) (sat : ∃ h, DctR h a o xs) : FrO L H L (upd H a u) := ⟨fun b w nb hb _ => ⟨nb, by
  rw [upd_ne fun z => nb (by rw [z]; exact ha)]
  exact hb⟩, tabs_upd hx (pl_dct sat)⟩
end

theorem dctGet_inv {ρ : DSt} {i : Nat} {ks : List D} (h : dctGet ρ i = some ks) : ρ[i]? = some (some (.dct ks)) := by
  unfold dctGet at h
  split at h
  · rename_i z; cases h; exact z
  · cases h
theorem DRep.put {K : PySem.W.Frag} {H : Hp} {xs : List (List (Option Int) × Addr)} {ks ks' : List D} {d : D} {b : Addr} {k : List (Option Int)} (h : DRep K H xs ks) (r : Rep K H (.ref b) d) (hk : okT d = some k) (hp : putX ks d = some ks') : DRep K H (putO xs k b) ks' := by
  unfold putX at hp
  rw [hk] at hp
  obtain ⟨hl, hp⟩ := if_inv (show (if ks.length < lim then some (if (ks.any fun e => decide (okT e = some k)) = true then ks else ks ++ [d]) else none) = some ks' from hp)
  have hp := Option.some.inj hp
  rw [any_okT h.k] at hp
  unfold putO
  by_cases c : (xs.any fun x => decide (x.1 = k)) = true
  · rw [if_pos c] at hp ⊢
    rw [← hp]; exact h
  · rw [if_neg c] at hp ⊢
    subst hp
    refine ⟨?_, ?_, ?_, by rw [List.length_append]; exact hl⟩
    · rw [List.map_append]; exact h.r.append (.cons r .nil)
    · rw [List.map_append, List.map_append, h.k]
      simp [hk]
    · rw [List.map_append]
      refine List.nodup_append.mpr ⟨h.n, by simp, fun a ha b hb z => ?_⟩
      simp at hb
      subst hb
      obtain ⟨y, hy, rfl⟩ := List.mem_map.mp ha
      exact c (List.any_eq_true.mpr ⟨y, hy, decide_eq_true z⟩)
def tS (K : PySem.W.Frag) (F : DSt → Kt → Option D) : TS := fun E σ H => ∃ B L ρ κ d, SS K B L H σ ρ ∧ F ρ κ = some d ∧
  (∀ ρ' L' σ' H', FrO L H L' H' → SS K B L' H' σ' ρ' → κ ρ' = some d → E.nx σ' H') ∧ (∀ L' v H', FrO L H L' H' → Rep K (hid (L' ++ B) H') v d → E.rt v H')
structure SOk (T : Tab) (k : Nat) (X : Cx) : Prop where
  ok : XOk T k X
  fn : ∀ x, X.fn x = true
  xe : X.xe = fun _ _ => False
  kind : X.env.scope.kind = .function
section
variable {X : Cx} {T : Tab} {k : Nat} {pos p : Pos}
theorem PS.imp {st : Stmt} {t t' : TS} (h : PS X st t) (i : ∀ E σ H, t' E σ H → t E σ H) : PS X st t' := ⟨fun pins s σ H E I q => h.run pins s σ H E I (i E σ H q)⟩
theorem PSs.imp {st : List Stmt} {t t' : TS} (h : PSs X st t) (i : ∀ E σ H, t' E σ H → t E σ H) : PSs X st t' := ⟨fun pins s σ H E I q => h.run pins s σ H E I (i E σ H q)⟩
theorem ps_no {st : Stmt} {F : DSt → Kt → Option D} (h : ∀ ρ κ, F ρ κ = none) : PS X st (tS X.K F) := ⟨fun pins s σ H E I q => by
  obtain ⟨B, L, ρ, κ, d, _, e, _⟩ := q
  rw [h] at e; cases e⟩
theorem pss_seq {ex : Stmt → DSt → Kt → Option D} (h : ∀ st, PS X st (tS X.K (ex st))) : ∀ sts : List Stmt, PSs X sts (tS X.K (seqS ex sts))
  | [] => PSs.imp pss_nil fun E σ H ⟨B, L, ρ, κ, d, s, e, n, r⟩ => n ρ L σ H (FrO.refl L H) s e
  | st :: sts => PSs.imp (pss_cons (h st) (pss_seq h sts)) fun E σ H ⟨B, L, ρ, κ, d, s, e, n, r⟩ =>
    ⟨B, L, ρ, fun ρ' => seqS ex sts ρ' κ, d, s, e, fun ρ' L' σ' H' f s' e' => ⟨B, L', ρ', κ, d, s', e', fun ρ2 L2 σ2 H2 f2 s2 e2 => n ρ2 L2 σ2 H2 (f.trans f2) s2 e2, fun L2 v H2 f2 r2 => r L2 v H2 (f.trans f2) r2⟩, r⟩
variable {N : List Str} {ev : Ev} {ex : List Stmt → DSt → Kt → Option D}
theorem ds_ret {e : Expr} {fe : DSt → Option D} (he : PE X e (tD X.K fe)) : PS X (.Return (some e) pos) (tS X.K fun ρ _ => fe (frzE X.N e ρ)) :=
  PS.imp (ps_ret he) fun E σ H ⟨B, L, ρ, κ, d, s, e0, n, r⟩ => by
    obtain ⟨L1, s1, f1⟩ := s.frzE X.N e
    exact ⟨L1 ++ B, L1, _, d, s1.sr, e0, fun v H' sm rv => r L1 v H' (f1.trans (FrO.of_same sm)) rv⟩
theorem ds_if {c : Expr} {a b : List Stmt} {fc : DSt → Option D} (hc : PT X c (tT X.K fc)) (ha : PSs X a (tS X.K (ex a))) (hb : PSs X b (tS X.K (ex b))) :
    PS X (.If c a b pos) (tS X.K fun ρ κ => ((fc (frzE X.N c ρ)).bind asB).bind fun t => if t = true then ex a (frzE X.N c ρ) κ else ex b (frzE X.N c ρ) κ) :=
  PS.imp (ps_if hc ha hb) fun E σ H ⟨B, L, ρ, κ, d, s, e, n, r⟩ => by
    obtain ⟨t, e1, e⟩ := bind_inv e
    obtain ⟨w, e2, e3⟩ := bind_inv e1
    have := asB_inv e3
    subst this
    obtain ⟨L1, s1, f1⟩ := s.frzE X.N c
    refine ⟨L1 ++ B, L1, _, t, s1.sr, e2, fun H1 sm => ?_⟩
    have f2 := f1.trans (FrO.of_same (L := L1) sm)
    cases t with
    | true => exact ⟨B, L1, _, κ, d, s1.same sm, e, fun ρ' L' σ' H' f s' e' => n ρ' L' σ' H' (f2.trans f) s' e', fun L' v H' f rv => r L' v H' (f2.trans f) rv⟩
    | false => exact ⟨B, L1, _, κ, d, s1.same sm, e, fun ρ' L' σ' H' f s' e' => n ρ' L' σ' H' (f2.trans f) s' e', fun L' v H' f rv => r L' v H' (f2.trans f) rv⟩
theorem ds_for {tg iter : Expr} {body : List Stmt} {t : Tg} {fi : DSt → Option (List D)} {fb : DSt → Kt → Option D} (hX : SOk T k X) (hi : PI X tg iter (tI X.K fi)) (hg : PG X tg (tG X.K t)) (hb : PSs X body (tS X.K fb)) (hs : setless iter = true) :
    PS X (.For tg iter body [] pos) (tS X.K fun ρ κ => (fi (frzE X.N iter ρ)).bind fun ds => forD t.put fb κ ds (frzE X.N iter ρ)) := by
  refine PS.imp (ps_for (by rw [hX.xe]; exact PassesOwn.never) hX.ok.calm hi hg hb (setless_folded hs _)) fun E σ H ⟨B, L, ρ, κ, d, s, e, n, r⟩ => ?_
  obtain ⟨ds, e1, e2⟩ := bind_inv e
  obtain ⟨L1, s1, f1⟩ := s.frzE X.N iter
  refine ⟨L1 ++ B, L1, _, ds, s1.sr, e1, fun J H1 sm hlen hJ => ?_⟩
  have f2 := f1.trans (FrO.of_same (L := L1) sm)
  refine ⟨fun i m σ2 H2 => m = ds.length - i ∧ i ≤ ds.length ∧ ∃ L2 ρ2, SS X.K B L2 H2 σ2 ρ2 ∧ FrO L1 H1 L2 H2 ∧ forD t.put fb κ (ds.drop i) ρ2 = some d, ⟨ds.length, by simp, Nat.zero_le _, L1, _, s1.same sm, FrO.refl _ _, e2⟩, ?_⟩
  rintro i m σ2 H2 ⟨rfl, hi', L2, ρ2, s2, f3, e3⟩
  have sm3 : SameN (hid (L1 ++ B) H1) (hid (L2 ++ B) H2) := f3.hid
  obtain ⟨jgo, jstop⟩ := hJ H2 (sm3.trans hid_le) i
  by_cases hlt : i < ds.length
  · obtain ⟨hgo, hyld⟩ := jgo ds[i] (List.getElem?_eq_getElem hlt)
    refine .inr ⟨hgo, fun σ' H' => i + 1 ≤ ds.length ∧ ∃ L3 ρ3, SS X.K B L3 H' σ' ρ3 ∧ FrO L1 H1 L3 H' ∧ forD t.put fb κ (ds.drop (i + 1)) ρ3 = some d, fun σ' H' w => ⟨ds.length - (i + 1), by omega, rfl, w⟩, fun x H' y => ?_⟩
    obtain ⟨sm4, rx⟩ := hyld x H' y
    have rx := rx (L2 ++ B) s2.sr.dom sm3
    rw [List.drop_eq_getElem_cons hlt] at e3
    obtain ⟨ρ', c1, e4⟩ := bind_inv (show (t.put ds[i] ρ2).bind _ = some d from e3)
    refine ⟨L2 ++ B, L2, ρ2, ds[i], ρ', s2.sr.same sm4, rx, c1, fun σ3 s3 _ => ?_⟩
    refine ⟨B, L2, ρ', _, d, ⟨s3, s2.dis⟩, e4, fun ρ4 L4 σ4 H4 f4 s4 e5 => ?_, fun L4 v H4 f4 rv => ?_⟩
    · exact ⟨hlt, L4, ρ4, s4, f3.trans ((FrO.of_same sm4).trans f4), e5⟩
    · exact r L4 v H4 (f2.trans (f3.trans ((FrO.of_same sm4).trans f4))) rv
  · have hi2 : i = ds.length := by omega
    subst hi2
    rw [List.drop_length] at e3
    exact .inl ⟨jstop (Nat.le_refl _) (Nat.le_refl _), n ρ2 L2 σ2 H2 (f2.trans f3) s2 e3⟩
theorem ds_while {c : Expr} {body : List Stmt} {fc : DSt → Option D} {fb : DSt → Kt → Option D} (hX : SOk T k X) (hc : PT X c (tT X.K fc)) (hb : PSs X body (tS X.K fb)) (n0 : Nat) :
    PS X (.While c body [] pos) (tS X.K fun ρ κ => whileD (fun ρ => (fc (frzE X.N c ρ)).bind asB) (frzE X.N c) fb κ n0 ρ) := by
  refine PS.imp (ps_while (by rw [hX.xe]; exact PassesOwn.never) hc hb) fun E σ H ⟨B, L, ρ, κ, d, s, e, n, r⟩ => ?_
  refine ⟨fun m σ2 H2 => ∃ L2 ρ2, SS X.K B L2 H2 σ2 ρ2 ∧ FrO L H L2 H2 ∧ whileD (fun ρ => (fc (frzE X.N c ρ)).bind asB) (frzE X.N c) fb κ m ρ2 = some d, ⟨n0, L, ρ, s, FrO.refl _ _, e⟩, ?_⟩
  rintro m σ2 H2 ⟨L2, ρ2, s2, f2, e2⟩
  cases m with
  | zero => cases e2
  | succ m =>
    obtain ⟨t, e3, e4⟩ := bind_inv (show ((fc (frzE X.N c ρ2)).bind asB).bind _ = some d from e2)
    obtain ⟨w, e5, e6⟩ := bind_inv e3
    have := asB_inv e6
    subst this
    obtain ⟨L3, s3, f3⟩ := s2.frzE X.N c
    refine ⟨L3 ++ B, L3, _, t, s3.sr, e5, fun H3 sm => ?_⟩
    have f4 := (f2.trans f3).trans (FrO.of_same (L := L3) sm)
    cases t with
    | true =>
      refine ⟨fun σ4 H4 => ∃ L4 ρ4, SS X.K B L4 H4 σ4 ρ4 ∧ FrO L H L4 H4 ∧ whileD (fun ρ => (fc (frzE X.N c ρ)).bind asB) (frzE X.N c) fb κ m ρ4 = some d, fun σ4 H4 q => ⟨m, Nat.lt_succ_self m, q⟩, ?_⟩
      exact ⟨B, L3, _, _, d, s3.same sm, e4, fun ρ5 L5 σ5 H5 f5 s5 e5 => ⟨L5, ρ5, s5, f4.trans f5, e5⟩, fun L5 v H5 f5 rv => r L5 v H5 (f4.trans f5) rv⟩
    | false => exact n _ L3 _ _ f4 (s3.same sm) e4
/-! ### assignments -/
theorem loc_of {x : Str} {q : Pos} {i : Nat} (h : tgIx X.N X.env.scope (.Name x q) = some i) : Loc X.env.scope x ∧ X.N[i]? = some x := by
  simp only [tgIx] at h
  split at h
  · rename_i e; exact ⟨.inl e, ixOf_get h⟩
  · rename_i e; exact ⟨.inr e, ixOf_get h⟩
  · cases h
theorem swaps_none {e : Expr} (h : isComp e = false) (tg : Option Expr) (l : Nat) (env : Env) : swapsWith e tg l env = pure false := by
  cases e <;> first | rfl | cases h
theorem ds_own {x : Str} {q lp : Pos} {es : List Expr} {evl : Expr → DSt → Option D} (hX : SOk T k X) (hs : NoStar evl) (hE : ∀ e, PE X e (tD X.K (evl e))) :
    PS X (.Assign [.Name x q] (.List es lp) pos) (tS X.K fun ρ κ => (tgIx X.N X.env.scope (.Name x q)).bind fun i => (evs evl es (frzE X.N (.List es lp) ρ)).bind fun ds => if ds.length ≤ lim then κ ((frzE X.N (.List es lp) ρ).set i (some (.own ds))) else none) := by
  cases qi : tgIx X.N X.env.scope (.Name x q) with
  | none => exact ps_no fun _ _ => rfl
  | some i =>
    by_cases hn : es.all notStar = true
    · obtain ⟨hl, hN⟩ := loc_of qi
      refine PS.imp (ps_set hX.ok.nd hN hl (pe_lst (da_args hE es hn)) rfl (.inl (hX.fn x))) fun E σ H ⟨B, L, ρ, κ, d, s, e, n, r⟩ => ?_
      obtain ⟨ds, e1, e⟩ := bind_inv (show (evs evl es (frzE X.N (.List es lp) ρ)).bind _ = some d from e)
      split at e
      · rename_i hz
        obtain ⟨L1, s1, f1⟩ := s.frzE X.N (.List es lp)
        refine ⟨L1 ++ B, L1, _, ds, s1.sr, e1, fun vs H1 sm rv => ⟨lim_le (by rw [rv.length]; exact hz), fun a ha => ?_⟩⟩
        refine n _ (a :: L1) _ _ (f1.trans ((FrO.of_same sm).trans (FrO.new ha))) ((s1.same sm).setOwn i ha rv hz) e
      · cases e
    · refine ps_no fun ρ κ => ?_
      show (evs evl es (frzE X.N (.List es lp) ρ)).bind _ = none
      cases q2 : evs evl es (frzE X.N (.List es lp) ρ) with
      | none => rfl
      | some ds => exact absurd (evs_star hs q2) hn
theorem ds_set {x : Str} {q : Pos} {e : Expr} {fe : DSt → Option D} (hX : SOk T k X) (he : ∀ i, tgIx X.N X.env.scope (.Name x q) = some i → PS X (.Assign [.Name x q] e pos) (tAsg (tD X.K fe) (gName i))) :
    PS X (.Assign [.Name x q] e pos) (tS X.K fun ρ κ => (tgIx X.N X.env.scope (.Name x q)).bind fun i => (fe (frzE X.N e ρ)).bind fun d => κ ((frzE X.N e ρ).set i (some (.dat d)))) := by
  cases qi : tgIx X.N X.env.scope (.Name x q) with
  | none => exact ps_no fun _ _ => rfl
  | some i =>
    refine PS.imp (he i qi) fun E σ H ⟨B, L, ρ, κ, d, s, e0, n, r⟩ => ?_
    obtain ⟨w, e1, e2⟩ := bind_inv (show (fe (frzE X.N e ρ)).bind _ = some d from e0)
    obtain ⟨L1, s1, f1⟩ := s.frzE X.N e
    exact ⟨L1 ++ B, L1, _, w, s1.sr, e1, fun v H1 sm rv => n _ L1 _ _ (f1.trans (FrO.of_same sm)) ((s1.same sm).setDat i rv) e2⟩
theorem asg_plain {x : Str} {q : Pos} {e : Expr} {fe : DSt → Option D} (hX : SOk T k X) (he : PE X e (tD X.K fe)) (hc : swapsWith e (some (.Name x q)) pos.line X.env = pure false) (i : Nat) (hi : tgIx X.N X.env.scope (.Name x q) = some i) :
    PS X (.Assign [.Name x q] e pos) (tAsg (tD X.K fe) (gName i)) := by
  obtain ⟨hl, hN⟩ := loc_of hi
  exact ps_set hX.ok.nd hN hl he hc (.inl (hX.fn x))
theorem blockK (hX : SOk T k X) : X.env.blockKind = .function := by unfold Env.blockKind; rw [hX.kind]; rfl
theorem asg_comp {x : Str} {q : Pos} {elt tg iter : Expr} {ifs : List Expr} {scope : Scope} {cp : Pos} (hX : SOk T k X) (h : EvOk T k X.N ev) (i : Nat) (hi : tgIx X.N X.env.scope (.Name x q) = some i) :
    PS X (.Assign [.Name x q] (.ListComp elt [⟨tg, iter, ifs, 0⟩] scope cp) pos) (tAsg (tD X.K fun ρ => stepE T X.N ev false X.env.scope (.ListComp elt [⟨tg, iter, ifs, 0⟩] scope cp) ρ) (gName i)) := by
  by_cases sw : (X.env.blockKind == .function && X.env.kindOf x == some .local && q.line == (Expr.ListComp elt [⟨tg, iter, ifs, 0⟩] scope cp).pos.line && !(scope.names.any fun (n, k) => n == x && (k == .local || k == .cell))) = true
  · have hsw : swapsWith (.ListComp elt [⟨tg, iter, ifs, 0⟩] scope cp) (some (.Name x q)) pos.line X.env = pure true := by
      unfold swapsWith
      simp only [sw]
    have hloc : X.env.scope.names.lookup x = some .local := by
      simp only [Bool.and_eq_true] at sw
      have := sw.1.1.2
      have z : X.env.kindOf x = some .local := by simpa using this
      exact z
    obtain ⟨hl, hN⟩ := loc_of hi
    have bad : ∀ {f : DSt → Option D}, (∀ ρ, f ρ = none) → PS X (.Assign [.Name x q] (.ListComp elt [⟨tg, iter, ifs, 0⟩] scope cp) pos) (tAsg (tD X.K f) (gName i)) := fun {f} hf => ⟨fun pins s σ H E I z => by
      obtain ⟨O, L, ρ, d, _, e, _⟩ := z
      rw [hf] at e; cases e⟩
    by_cases c1 : (setless iter && blkC X.N X.env.scope scope (ownOf X.N scope.names) && (tgStores scope tg && (T.lev (relS scope X.env.scope)).isNone)) = true
    · cases qt : tgOf X.N (relS scope X.env.scope) tg with
      | none => exact bad fun ρ => by simp only [stepE, qt, c1]; rfl
      | some t =>
        by_cases c2 : (t.ixs.all fun i => ((ownOf X.N scope.names).map (·.2)).contains i) = true
        · have e : (fun ρ => stepE T X.N ev false X.env.scope (.ListComp elt [⟨tg, iter, ifs, 0⟩] scope cp) ρ) = fun ρ => (iterD (ev false X.env.scope) X.env.scope (isTupE tg) iter ρ).bind fun ds =>
              (compD (compF t (tstD (ev true (relS scope X.env.scope)) ifs) (ev false (relS scope X.env.scope) elt) (wipeD ρ ((ownOf X.N scope.names).map (·.2)))) ds).map D.lst := by
            funext ρ
            simp only [stepE, c1, qt, Option.bind, c2, if_true]
          rw [e]
          obtain ⟨c3, c4⟩ := Bool.and_eq_true_iff.mp c1
          obtain ⟨c5, c6⟩ := Bool.and_eq_true_iff.mp c3
          have ok := blkOk_by c6
          have pi : PI X tg iter (tI X.K (iterD (ev false X.env.scope) X.env.scope (isTupE tg) iter)) := di_all hX.ok (h.2 _) fun e => (h.1 X hX.ok rfl e).1
          have hix : ∀ i ∈ t.ixs, i ∈ (ownOf X.N scope.names).map (·.2) := fun i hi => by
            have := List.all_eq_true.mp c2 i hi
            simpa using this
          have base := ps_setLc (i := i) (py := q) (spos := pos) (pos := cp) hX.ok.calm hX.ok.nd hN hloc hsw pi ok (fun s H C cl fp => (blk_ok hX.ok h tg t qt c4 ifs elt s H C cl fp).1) (fun s H C cl fp => (blk_ok hX.ok h tg t qt c4 ifs elt s H C cl fp).2.1)
            (fun s H C cl fp => (blk_ok hX.ok h tg t qt c4 ifs elt s H C cl fp).2.2) (setless_folded c5 _)
          exact PS.imp base fun E σ H hh => de_comp hix hh
        · exact bad fun ρ => by simp only [stepE, qt, c1, Option.bind, if_true]; exact if_neg c2
    · exact bad fun ρ => by simp only [stepE]; exact if_neg c1
  · refine asg_plain hX (de_lc hX.ok h) ?_ i hi
    unfold swapsWith
    simp only [Bool.not_eq_true] at sw
    simp only [sw]
end
end Sw
/-! ## the interpreter is right: tuples assigned, lists grown, all statements -/
namespace Sw
open PySem L2
variable [Tbs] [Acs]
section
variable {X : Cx} {T : Tab} {k : Nat} {pos p : Pos} {ev : Ev} {ex : List Stmt → DSt → Kt → Option D}
theorem stOk (hX : SOk T k X) (e : Expr) : StoreOk X e := by
  cases e <;> first | exact True.intro | exact .inl (hX.fn _)
theorem ds_asgT {tg e : Expr} {fe : DSt → Option D} {t : Tg} (hX : SOk T k X) (he : PE X e (tD X.K fe)) (ht : tgOf X.N X.env.scope tg = some t) (hs : swapsWithSole [tg] e pos.line X.env = pure false) (hw : swappedStores [tg] e X.env = pure none)
    (h1 : (assignEach [tg] X.env).map (·.2) = [assign tg X.env]) : PS X (.Assign [tg] e pos) (tS X.K fun ρ κ => (fe (frzE X.N e ρ)).bind fun d => (t.put d (frzE X.N e ρ)).bind κ) := by
  have pg := dg_all hX.ok ht (stOk hX tg) (fun es k0 p0 _ e _ => stOk hX e)
  refine PS.imp (ps_asg he pg hs hw h1) fun E σ H ⟨B, L, ρ, κ, d, s, e0, n, r⟩ => ?_
  obtain ⟨w, e1, e2⟩ := bind_inv e0
  obtain ⟨ρ', e3, e4⟩ := bind_inv e2
  obtain ⟨L1, s1, f1⟩ := s.frzE X.N e
  exact ⟨L1 ++ B, L1, _, w, s1.sr, e1, fun v H1 sm rv => ⟨L1 ++ B, L1, _, w, ρ', (s1.same sm).sr, rv, e3, fun σ' s' _ => n ρ' L1 σ' H1 (f1.trans (FrO.of_same sm)) ⟨s', s1.dis⟩ e4⟩⟩
def isTup : Expr → Bool
  | .Tuple _ _ _ => true
  | _ => false
theorem swapped_plain {ts : List Expr} {tk : Nat} {tp : Pos} {e : Expr} (h : isTup e = false) (env : Env) : swappedStores [.Tuple ts tk tp] e env = pure none := by
  cases e <;> first | rfl | cases h
theorem ds_tup {ts : List Expr} {tk : Nat} {tp : Pos} {e : Expr} {fe : DSt → Option D} (hX : SOk T k X) (he : PE X e (tD X.K fe)) (h : isTup e = false) :
    PS X (.Assign [.Tuple ts tk tp] e pos) (tS X.K fun ρ κ => if isComp e = true then none else (tgOf X.N X.env.scope (.Tuple ts tk tp)).bind fun t => (fe (frzE X.N e ρ)).bind fun d => (t.put d (frzE X.N e ρ)).bind κ) := by
  by_cases hc : isComp e = true
  · simp only [if_pos hc]; exact ps_no fun _ _ => rfl
  · simp only [if_neg hc]
    cases q : tgOf X.N X.env.scope (.Tuple ts tk tp) with
    | none => exact ps_no fun _ _ => rfl
    | some t => exact ds_asgT hX he q (show swapsWith e (some (.Tuple ts tk tp)) pos.line X.env = pure false from swaps_none (by simpa using hc) _ _ _) (swapped_plain h _) rfl
theorem isLoc_look {sc : Scope} {x : Str} : isLoc sc x = true ↔ sc.names.lookup x = some .local := by
  unfold isLoc
  split <;> simp_all
theorem swapped_some {x y : Str} {px py tp ep : Pos} {tk tk2 : Nat} {a b : Expr} (hX : SOk T k X) (h : parA X.env.scope x y px py a b = true) : swappedStores [.Tuple [.Name x px, .Name y py] tk tp] (.Tuple [a, b] tk2 ep) X.env = pure (some [x, y]) := by
  unfold parA at h
  simp only [Bool.and_eq_true, decide_eq_true_eq, Bool.not_eq_true'] at h
  obtain ⟨⟨⟨⟨⟨⟨⟨h1, h2⟩, h3⟩, h4⟩, h5⟩, h6⟩, h7⟩, h8⟩ := h
  have k1 : X.env.kindOf x = some .local := isLoc_look.mp h1
  have k2 : X.env.kindOf y = some .local := isLoc_look.mp h2
  have kb := blockK hX
  have h3' : py.line = px.line := by simpa using h3
  simp [swappedStores, kb, k1, k2, Expr.pos, h3', List.eraseDups_cons, h4, Ne.symm h4, h5, h6]
  intro q
  rcases q with q | q
  · cases a <;> first | (cases h7; done) | cases q
  · cases b <;> first | (cases h8; done) | cases q
theorem swapped_none {x y : Str} {px py tp ep : Pos} {tk tk2 : Nat} {a b : Expr} (hX : SOk T k X) (h : parB X.env.scope x y = true) : swappedStores [.Tuple [.Name x px, .Name y py] tk tp] (.Tuple [a, b] tk2 ep) X.env = pure none := by
  have kb := blockK hX
  have : ¬ (X.env.kindOf x = some .local ∧ X.env.kindOf y = some .local) := fun z => by
    have h1 : isLoc X.env.scope x = true := isLoc_look.mpr z.1
    have h2 : isLoc X.env.scope y = true := isLoc_look.mpr z.2
    unfold parB at h
    rw [h1, h2] at h; cases h
  by_cases c1 : X.env.kindOf x = some .local
  · have c2 : X.env.kindOf y ≠ some .local := fun z => this ⟨c1, z⟩
    simp [swappedStores, kb, c1, c2, Expr.pos]
  · by_cases c2 : X.env.kindOf y = some .local
    · by_cases c3 : py.line = px.line
      · simp [swappedStores, kb, c1, c2, Expr.pos, c3]
      · simp [swappedStores, kb, c1, c2, Expr.pos, c3]
    · simp [swappedStores, kb, c1, c2, Expr.pos]
theorem ds_par {x y : Str} {px py tp ep : Pos} {tk tk2 : Nat} {a b : Expr} {fa fb : DSt → Option D} (hX : SOk T k X) (h : parA X.env.scope x y px py a b = true) (ha : PE X a (tD X.K fa)) (hb : PE X b (tD X.K fb)) :
    PS X (.Assign [.Tuple [.Name x px, .Name y py] tk tp] (.Tuple [a, b] tk2 ep) pos) (tS X.K fun ρ κ => (tgIx X.N X.env.scope (.Name x px)).bind fun i => (tgIx X.N X.env.scope (.Name y py)).bind fun j =>
      (fa (frzE X.N (.Tuple [a, b] tk2 ep) ρ)).bind fun u => (fb (frzE X.N (.Tuple [a, b] tk2 ep) ρ)).bind fun v =>
        if i ≠ j then κ (((frzE X.N (.Tuple [a, b] tk2 ep) ρ).set i (some (.dat u))).set j (some (.dat v))) else none) := by
  have hw := swapped_some (tp := tp) (ep := ep) (tk := tk) (tk2 := tk2) hX h
  unfold parA at h
  simp only [Bool.and_eq_true, decide_eq_true_eq, Bool.not_eq_true'] at h
  obtain ⟨⟨⟨⟨⟨⟨⟨h1, h2⟩, h3⟩, h4⟩, h5⟩, h6⟩, h7⟩, h8⟩ := h
  have na : notStar a = true := by cases a <;> first | rfl | cases h7
  have nb : notStar b = true := by cases b <;> first | rfl | cases h8
  cases qi : tgIx X.N X.env.scope (.Name x px) with
  | none => exact ps_no fun _ _ => rfl
  | some i =>
    cases qj : tgIx X.N X.env.scope (.Name y py) with
    | none => exact ps_no fun _ _ => rfl
    | some j =>
      by_cases hij : i ≠ j
      · refine PS.imp (ps_par hX.ok.calm hX.ok.nd (loc_of qi).2 (loc_of qj).2 hij (isLoc_look.mp h1) (isLoc_look.mp h2) (pa_cons ha (pa_cons hb pa_nil (star_cons nb _ _)) (star_cons na _ _)) hw rfl) fun E σ H ⟨B, L, ρ, κ, d, s, e0, n, r⟩ => ?_
        obtain ⟨u, e1, e0⟩ := bind_inv (show (fa (frzE X.N (.Tuple [a, b] tk2 ep) ρ)).bind _ = some d from e0)
        obtain ⟨v, e2, e0⟩ := bind_inv e0
        rw [if_pos hij] at e0
        obtain ⟨L1, s1, f1⟩ := s.frzE X.N (.Tuple [a, b] tk2 ep)
        refine ⟨L1 ++ B, L1, _, u, s1.sr, e1, fun uv H1 sm1 ru => ⟨L1 ++ B, L1, _, v, (s1.same sm1).sr, e2, fun vv H2 sm2 rv => ⟨uv, vv, rfl, ?_⟩⟩⟩
        exact n _ L1 _ _ (f1.trans ((FrO.of_same sm1).trans (FrO.of_same sm2))) ((((s1.same sm1).same sm2).setDat i (ru.mono (hid_same sm2))).setDat j rv) e0
      · refine ps_no fun ρ κ => ?_
        show (fa _).bind (fun u => (fb _).bind fun v => if i ≠ j then _ else none) = none
        simp only [if_neg hij]
        cases fa (frzE X.N (.Tuple [a, b] tk2 ep) ρ) <;> first | rfl | (cases fb (frzE X.N (.Tuple [a, b] tk2 ep) ρ) <;> rfl)
/-! ### lists grown -/
theorem few_one {e : Expr} (hn : notStar e = true) (cpos : Pos) (env : Env) : ((backTo cpos (starEach [e] env)).all (fun x => !x.1) && (backToKw cpos (keywordEach [] env)).all (fun x => x.1.isSome)
      && decide ([e].length + ([] : List Keyword).length + (if ([] : List Keyword).isEmpty then 0 else 1) < 30)) = true := by
  rw [star_cons hn]; rfl
theorem ds_grow {x m : Str} {q ap cp : Pos} {e : Expr} {fe : DSt → Option D} {id : String} {r : V → List V → Hp → VK → Prop} {upd1 : List D → D → Option (List D)} (hX : SOk T k X) (he : PE X e (tD X.K fe)) (hnn : notStar e = true ∨ ∀ ρ, fe ρ = none) (hl : (ap.endLine == cp.line) = true)
    (sl : Slot "list" m id) (hty : typeOf (.builtin id) = pure (.type "method_descriptor")) (hm : MtR X id r)
    (hr : ∀ {O L : List Addr} {H : Hp} {pa : Addr} {xs : List V} {ds : List D} {v : V} {d : D} {ds' : List D} {Q : VK}, (∀ p ∈ L, p ∈ O) → H pa = some (.lst xs) → RepAll X.K (hid O H) xs ds → Rep X.K (hid O H) v d → upd1 ds d = some ds' →
      (∀ ys, RepAll X.K (hid O H) ys ds' → ds'.length ≤ lim → Q .non (upd H pa (.lst ys))) → r (.ref pa) [v] H Q) :
    PS X (.Expr (.Call (.Attribute (.Name x q) m ap) [e] [] cp) pos) (tS X.K fun ρ κ => (tgIx X.N X.env.scope (.Name x q)).bind fun i => (ownGet (frzE X.N e ρ) i).bind fun ds => (fe (frzE X.N e ρ)).bind fun d => (upd1 ds d).bind fun ds' => κ ((frzE X.N e ρ).set i (some (.own ds')))) := by
  by_cases hn : notStar e = true
  · cases qi : tgIx X.N X.env.scope (.Name x q) with
    | none => exact ps_no fun _ _ => rfl
    | some i =>
      obtain ⟨hlo, hN⟩ := loc_of qi
      have hnm := hX.ok.nm x (List.mem_of_getElem? hN)
      have hv : Vis X.env.scope x := by
        rcases hlo with z | z
        · exact .inl z
        · exact .inr (.inl z)
      refine PS.imp (ps_expr (pe_bm PySem.F.plainAttrs_list sl hty hm (pe_var (i := i) hN hv hnm.1 hnm.2) (pa_cons he pa_nil (star_cons hn _ _)) rfl (few_one hn _ _) hl (star_cons hn _ _) rfl) rfl) fun E σ H ⟨B, L, ρ, κ, d, s, e0, n, rr⟩ => ?_
      obtain ⟨ds, e1, e0⟩ := bind_inv (show (ownGet (frzE X.N e ρ) i).bind _ = some d from e0)
      obtain ⟨w, e2, e0⟩ := bind_inv e0
      obtain ⟨ds', e3, e4⟩ := bind_inv e0
      obtain ⟨L1, s1, f1⟩ := s.frzE X.N e
      have e1' : (frzE X.N e ρ)[i]? = some (some (.own ds)) := by
        unfold ownGet at e1
        split at e1
        · rename_i z; cases e1; exact z
        · cases e1
      obtain ⟨pa, xs, o1, o2, o3, o4, o5⟩ := s1.sr.own i ds e1'
      refine ⟨.ref pa, o1, .inl ⟨rfl, xs, .of o3⟩, L1 ++ B, L1, _, w, s1.sr, e2, fun v H1 sm rv => ?_⟩
      refine hr (s1.same sm).sr.sub (sm.lst o3) (o4.mono (hid_same sm)) rv e3 fun ys ry hly => ?_
      refine n _ L1 _ _ (f1.trans ((FrO.of_same sm).trans (FrO.mut o2 (sm.lst o3)))) ((s1.same sm).mutOwn e1' o1 o2 ry hly) e4
  · refine ps_no fun ρ κ => ?_
    cases qi : tgIx X.N X.env.scope (.Name x q) with
    | none => rfl
    | some i =>
      show (ownGet (frzE X.N e ρ) i).bind _ = none
      cases q2 : ownGet (frzE X.N e ρ) i with
      | none => rfl
      | some ds =>
        show (fe (frzE X.N e ρ)).bind _ = none
        cases q3 : fe (frzE X.N e ρ) with
        | none => rfl
        | some d =>
          rcases hnn with z | z
          · exact absurd z hn
          · rw [z] at q3; cases q3
theorem ds_meth {x m : Str} {q ap cp : Pos} {e : Expr} {fe : DSt → Option D} (hX : SOk T k X) (he : PE X e (tD X.K fe)) (hnn : notStar e = true ∨ ∀ ρ, fe ρ = none) :
    PS X (.Expr (.Call (.Attribute (.Name x q) m ap) [e] [] cp) pos) (tS X.K fun ρ κ => if (ap.endLine == cp.line) = true then
      (growOf m).bind fun g => (tgIx X.N X.env.scope (.Name x q)).bind fun i => (ownGet (frzE X.N e ρ) i).bind fun ds => (fe (frzE X.N e ρ)).bind fun d => (g ds d).bind fun ds' => κ ((frzE X.N e ρ).set i (some (.own ds'))) else none) := by
  by_cases hl : (ap.endLine == cp.line) = true
  · simp only [if_pos hl]
    by_cases h1 : m = "append"
    · subst h1
      have e1 : growOf "append" = some appD := if_pos rfl
      rw [e1]
      refine ds_grow (upd1 := appD) hX he hnn hl PySem.F.slot_list_append PySem.F.type_list_append mt_append fun {O L H pa xs ds v d ds' Q} _ h2 h3 h4 h5 h6 => ?_
      unfold appD at h5
      split at h5
      · rename_i hz
        cases h5
        refine ⟨pa, xs, v, rfl, rfl, h2, lim_lt (by rw [h3.length]; omega), h6 _ (h3.append (.cons h4 .nil)) ?_⟩
        rw [List.length_append]; show ds.length + 1 ≤ lim; omega
      · cases h5
    · by_cases h2 : m = "extend"
      · subst h2
        have e1 : growOf "extend" = some extD := by unfold growOf; rw [if_neg h1, if_pos rfl]
        rw [e1]
        refine ds_grow (upd1 := extD) hX he hnn hl PySem.F.slot_list_extend PySem.F.type_list_extend mt_extend fun {O L H pa xs ds v d ds' Q} _ h2 h3 h4 h5 h6 => ?_
        cases h4 <;> try (cases h5; done)
        case lst pb ys es hb rb lb =>
          simp only [extD] at h5
          split at h5
          · rename_i hz
            cases h5
            have l1 := h3.length
            have l2 := rb.length
            exact ⟨pa, pb, xs, ys, rfl, rfl, h2, hid_le.lst hb, lim_le (by omega), h6 _ (h3.append rb) (by rw [List.length_append]; exact hz)⟩
          · cases h5
      · have e1 : growOf m = none := by unfold growOf; rw [if_neg h1, if_neg h2]
        rw [e1]
        exact ps_no fun _ _ => rfl
  · simp only [if_neg hl]
    exact ps_no fun _ _ => rfl
/-! ### all statements -/
theorem parS_ok {tk tk2 : Nat} {tp ep : Pos} (hX : SOk T k X) (h : EvOk T k X.N ev) (ts es : List Expr) : PS X (.Assign [.Tuple ts tk tp] (.Tuple es tk2 ep) pos) (tS X.K (parS X.N X.env.scope ev tk tp tk2 ep ts es)) := by
  have hE : ∀ e, PE X e (tD X.K (ev false X.env.scope e)) := fun e => (h.1 X hX.ok rfl e).1
  by_cases hsh : ∃ x p y q a b, ts = [.Name x p, .Name y q] ∧ es = [a, b]
  · obtain ⟨x, p, y, q, a, b, rfl, rfl⟩ := hsh
    by_cases hA : parA X.env.scope x y p q a b = true
    · have e : parS X.N X.env.scope ev tk tp tk2 ep [.Name x p, .Name y q] [a, b] = fun ρ κ => (tgIx X.N X.env.scope (.Name x p)).bind fun i => (tgIx X.N X.env.scope (.Name y q)).bind fun j =>
          (ev false X.env.scope a (frzE X.N (.Tuple [a, b] tk2 ep) ρ)).bind fun u => (ev false X.env.scope b (frzE X.N (.Tuple [a, b] tk2 ep) ρ)).bind fun v =>
            if i ≠ j then κ (((frzE X.N (.Tuple [a, b] tk2 ep) ρ).set i (some (.dat u))).set j (some (.dat v))) else none := by
        funext ρ κ
        exact if_pos hA
      rw [e]
      exact ds_par hX hA (hE a) (hE b)
    · by_cases hB : parB X.env.scope x y = true
      · have e : parS X.N X.env.scope ev tk tp tk2 ep [.Name x p, .Name y q] [a, b] = fun ρ κ => (tgOf X.N X.env.scope (.Tuple [.Name x p, .Name y q] tk tp)).bind fun t =>
            (ev false X.env.scope (.Tuple [a, b] tk2 ep) (frzE X.N (.Tuple [a, b] tk2 ep) ρ)).bind fun d => (t.put d (frzE X.N (.Tuple [a, b] tk2 ep) ρ)).bind κ := by
          funext ρ κ
          exact (if_neg hA).trans (if_pos hB)
        rw [e]
        cases q2 : tgOf X.N X.env.scope (.Tuple [.Name x p, .Name y q] tk tp) with
        | none => exact ps_no fun _ _ => rfl
        | some t => exact ds_asgT hX (hE _) q2 rfl (swapped_none hX hB) rfl
      · exact ps_no fun ρ κ => (if_neg hA).trans (if_neg hB)
  · refine ps_no fun ρ κ => ?_
    unfold parS
    split
    · exact absurd ⟨_, _, _, _, _, _, rfl, rfl⟩ hsh
    · rfl
theorem ds_dct0 {x : Str} {q dp : Pos} {c : Bool} (hX : SOk T k X) :
    PS X (.Assign [.Name x q] (.Dict [] [] dp) pos) (tS X.K fun ρ κ => (tgIx X.N X.env.scope (.Name x q)).bind fun i => if (c && !ρ.any isDct) = true then κ (ρ.set i (some (.dct []))) else none) := by
  cases qi : tgIx X.N X.env.scope (.Name x q) with
  | none => exact ps_no fun _ _ => rfl
  | some i =>
    obtain ⟨hl, hN⟩ := loc_of qi
    refine PS.imp (ps_set hX.ok.nd hN hl pe_dct0 rfl (.inl (hX.fn x))) fun E σ H ⟨B, L, ρ, κ, d, s, e, n, r⟩ => ?_
    obtain ⟨h1, h2⟩ := if_inv (show (if (c && !ρ.any isDct) = true then κ (ρ.set i (some (.dct []))) else none) = some d from e)
    obtain ⟨_, h3⟩ := Bool.and_eq_true_iff.mp h1
    exact fun p o hp sat => n _ (p :: L) _ _ (FrO.new hp) (s.newDct i hp sat (by simpa using h3)) h2
theorem ds_dctS {x : Str} {q sp cp : Pos} {cj : Nat} {ke : Expr} {fe : DSt → Option D} {c : Bool} (hX : SOk T k X) (he : PE X ke (tD X.K fe)) :
    PS X (.Assign [.Subscript (.Name x q) ke sp] (.Constant (.bool true) cj cp) pos) (tS X.K fun ρ κ => if (c && noSl ke) = true then (tgIx X.N X.env.scope (.Name x q)).bind fun i => (dctGet (frzE X.N ke ρ) i).bind fun ks => (fe (frzE X.N ke ρ)).bind fun d => (putX ks d).bind fun ks' => κ ((frzE X.N ke ρ).set i (some (.dct ks'))) else none) := by
  cases qi : tgIx X.N X.env.scope (.Name x q) with
  | none =>
    refine ps_no fun ρ κ => ?_
    show (if _ then none else none) = none
    exact ite_self _
  | some i =>
    by_cases hn : noSl ke = true
    · obtain ⟨hl, hN⟩ := loc_of qi
      have hnm := hX.ok.nm x (List.mem_of_getElem? hN)
      have hv : Vis X.env.scope x := by
        rcases hl with z | z
        · exact .inl z
        · exact .inr (.inl z)
      refine PS.imp (ps_asg pe_bl (pg_sub (pe_var hN hv hnm.1 hnm.2) he (pset_dct hX.ok.units) (fun v => by cases ke <;> first | rfl | cases hn)) rfl (by cases ke <;> rfl)) fun E σ H ⟨B, L, ρ, κ, d, s, e, n, r⟩ => ?_
      obtain ⟨_, e⟩ := if_inv e
      obtain ⟨ks, e1, e⟩ := bind_inv (show (dctGet (frzE X.N ke ρ) i).bind _ = some d from e)
      obtain ⟨u, e2, e⟩ := bind_inv e
      obtain ⟨ks', e3, e⟩ := bind_inv e
      obtain ⟨L1, s1, f1⟩ := s.frzE X.N ke
      have hd := dctGet_inv e1
      obtain ⟨p, o, xs, h1, h2, h3, h4, h5⟩ := s1.sr.ex.dct i ks hd
      refine ⟨.ref p, h1, L1 ++ B, L1, _, u, s1.sr, e2, fun v H1 sm rv => ?_⟩
      obtain ⟨kk, k1, k2⟩ : ∃ kk, okT u = some kk ∧ True := by
        unfold putX at e3
        obtain ⟨kk, k1, _⟩ := bind_inv e3
        exact ⟨kk, k1, trivial⟩
      obtain ⟨b, rfl, hb⟩ := okT_rep rv k1
      have h5' := h5.mono (hid_same sm)
      have hpx : H1 p = some (DctO p o xs) := sm.n p _ h3 nt_dct
      refine ⟨p, b, o, xs, kk, rfl, rfl, rfl, hpx, fun y hy => same_sqT hid_le (DRep.keys h5'.r h5'.k y hy), h5.n, ?_, same_sqT hid_le hb, fun o' sat' => ?_⟩
      · have := h5.r.length
        rw [List.length_map] at this
        rw [this]; exact h5.l
      · exact n _ L1 _ _ (f1.trans ((FrO.of_same sm).trans (FrO.mutD h2 hpx h4))) ((s1.same sm).mutDct hd h1 h2 hpx h4 sat' (h5'.put rv k1 e3)) e
    · refine ps_no fun ρ κ => if_neg ?_
      rw [show noSl ke = false by simpa using hn, Bool.and_false]
      exact Bool.false_ne_true
theorem asgS_ok {ev' : Ev} (hX : SOk T k X) (hev : ev = stepE T X.N ev') (h' : EvOk T k X.N ev') (h : EvOk T k X.N ev) (mu : List Str) (tg e : Expr) : PS X (.Assign [tg] e pos) (tS X.K (asgS X.N mu X.env.scope ev tg e)) := by
  have hE : ∀ e, PE X e (tD X.K (ev false X.env.scope e)) := fun e => (h.1 X hX.ok rfl e).1
  cases tg
  case Name x q =>
    have bad : ∀ {e : Expr} {f : DSt → Option D} {i : Nat}, (∀ ρ, f ρ = none) → PS X (.Assign [.Name x q] e pos) (tAsg (tD X.K f) (gName i)) := fun {e f i} hf => ⟨fun pins s σ H E I z => by
      obtain ⟨O, L, ρ, d, _, e, _⟩ := z
      rw [hf] at e; cases e⟩
    cases e
    case List es lp =>
      by_cases hm : mu.contains x = true
      · have e : asgS X.N mu X.env.scope ev (.Name x q) (.List es lp) = fun ρ κ => (tgIx X.N X.env.scope (.Name x q)).bind fun i => (evs (ev false X.env.scope) es (frzE X.N (.List es lp) ρ)).bind fun ds => if ds.length ≤ lim then κ ((frzE X.N (.List es lp) ρ).set i (some (.own ds))) else none := by
          funext ρ κ
          exact if_pos hm
        rw [e]
        exact ds_own hX (h.2 _) hE
      · have e : asgS X.N mu X.env.scope ev (.Name x q) (.List es lp) = fun ρ κ => (tgIx X.N X.env.scope (.Name x q)).bind fun i => (ev false X.env.scope (.List es lp) (frzE X.N (.List es lp) ρ)).bind fun d => κ ((frzE X.N (.List es lp) ρ).set i (some (.dat d))) := by
          funext ρ κ
          exact if_neg hm
        rw [e]
        exact ds_set hX fun i hi => asg_plain hX (hE _) rfl i hi
    case ListComp elt gens scope cp =>
      refine ds_set hX fun i hi => ?_
      match gens with
      | [⟨tg, iter, ifs, a⟩] =>
        by_cases ha : a = 0
        · subst ha
          rw [hev]
          exact asg_comp hX h' i hi
        · refine bad fun ρ => ?_
          rw [hev]
          unfold stepE
          split <;> first | rfl | simp_all
      | [] =>
        refine bad fun ρ => ?_
        rw [hev]; rfl
      | ⟨t1, i1, f1, a1⟩ :: c2 :: cs =>
        refine bad fun ρ => ?_
        rw [hev]
        unfold stepE
        split <;> first | rfl | simp_all
    case Dict ks vs dp =>
      match ks, vs with
      | [], [] => exact ds_dct0 hX
      | _ :: _, _ => exact ds_set hX fun i hi => asg_plain hX (hE _) rfl i hi
      | [], _ :: _ => exact ds_set hX fun i hi => asg_plain hX (hE _) rfl i hi
    case SetComp => exact ds_set hX fun i hi => bad fun ρ => by rw [hev]; rfl
    case DictComp => exact ds_set hX fun i hi => bad fun ρ => by rw [hev]; rfl
    all_goals exact ds_set hX fun i hi => asg_plain hX (hE _) rfl i hi
  case Tuple ts tk tp =>
    cases e
    case Tuple es k2 ep => exact parS_ok hX h ts es
    all_goals exact ds_tup hX (hE _) rfl
  case Subscript o ke sp =>
    cases o
    case Name x q =>
      cases e
      case Constant c cj cp =>
        cases c
        case bool b =>
          cases b with
          | true => exact ds_dctS hX (hE ke)
          | false => exact ps_no fun _ _ => rfl
        all_goals exact ps_no fun _ _ => rfl
      all_goals exact ps_no fun _ _ => rfl
    all_goals exact ps_no fun _ _ => rfl
  all_goals exact ps_no fun _ _ => rfl
theorem stepS_ok {ev' : Ev} (hX : SOk T k X) (hev : ev = stepE T X.N ev') (h' : EvOk T k X.N ev') (h : EvOk T k X.N ev) (hex : ∀ sts, PSs X sts (tS X.K (ex sts))) (mu : List Str) (st : Stmt) : PS X st (tS X.K (stepS X.N mu X.env.scope ev ex st)) := by
  have hE : ∀ e, PE X e (tD X.K (ev false X.env.scope e)) := fun e => (h.1 X hX.ok rfl e).1
  have hT : ∀ e, PT X e (tT X.K (ev true X.env.scope e)) := fun e => (h.1 X hX.ok rfl e).2
  have hst : ∀ e, notStar e = true ∨ ∀ ρ, ev false X.env.scope e ρ = none := fun e => by
    by_cases z : notStar e = true
    · exact .inl z
    · exact .inr fun ρ => star_none (h.2 _) z ρ
  cases st
  case Return v pos =>
    cases v with
    | none =>
      refine PS.imp ps_retN fun E σ H ⟨B, L, ρ, κ, d, s, e, n, r⟩ => ?_
      cases e
      exact r L .non H (FrO.refl L H) .non
    | some e => exact ds_ret (hE e)
  case Pass pos => exact PS.imp ps_pass fun E σ H ⟨B, L, ρ, κ, d, s, e, n, r⟩ => n ρ L σ H (FrO.refl L H) s e
  case If c a b pos => exact ds_if (hT c) (hex a) (hex b)
  case For tg iter body orelse pos =>
    cases orelse with
    | cons _ _ => exact ps_no fun _ _ => rfl
    | nil =>
      by_cases hs : setless iter = true
      · have e : stepS X.N mu X.env.scope ev ex (.For tg iter body [] pos) = fun ρ κ => (tgOf X.N X.env.scope tg).bind fun t => (iterX X.N (ev false X.env.scope) X.env.scope (isTupE tg) iter (frzE X.N iter ρ)).bind fun ds => forD t.put (ex body) κ ds (frzE X.N iter ρ) := by
          funext ρ κ
          exact if_pos hs
        rw [e]
        cases q : tgOf X.N X.env.scope tg with
        | none => exact ps_no fun _ _ => rfl
        | some t => exact ds_for hX (di_x hX.ok (h.2 _) hE) (dg_all hX.ok q (stOk hX tg) fun es k0 p0 _ e _ => stOk hX e) (hex body) hs
      · exact ps_no fun _ _ => if_neg hs
  case While c body orelse pos =>
    cases orelse with
    | cons _ _ => exact ps_no fun _ _ => rfl
    | nil => exact ds_while hX (hT c) (hex body) 100
  case Assign tgs e pos =>
    match tgs with
    | [] => exact ps_no fun _ _ => rfl
    | _ :: _ :: _ => exact ps_no fun _ _ => rfl
    | [tg] => exact asgS_ok hX hev h' h mu tg e
  case Expr e pos =>
    cases e
    case Call f args kw cp =>
      cases f
      case Attribute o m ap =>
        cases o
        case Name x q =>
          match args, kw with
          | [e], [] => exact ds_meth hX (hE e) (hst e)
          | [], _ => exact ps_no fun _ _ => rfl
          | [_], _ :: _ => exact ps_no fun _ _ => rfl
          | _ :: _ :: _, _ => exact ps_no fun _ _ => rfl
        all_goals exact ps_no fun _ _ => rfl
      all_goals exact ps_no fun _ _ => rfl
    all_goals exact ps_no fun _ _ => rfl
  all_goals exact ps_no fun _ _ => rfl
end
end Sw
/-! ## defs, the program, the law -/
namespace Sw
open PySem L2
variable [Tbs] [Acs]
section
variable {T : Tab} {k : Nat}
theorem exec_ok {X : Cx} {ev' : Ev} (hX : SOk T k X) (h' : EvOk T k X.N ev') (h : EvOk T k X.N (stepE T X.N ev')) (mu : List Str) : ∀ (m : Nat) (st : Stmt), PS X st (tS X.K (exR X.N mu X.env.scope (stepE T X.N ev') m st))
  | 0, st => ps_no fun _ _ => rfl
  | m + 1, st => stepS_ok hX rfl h' h (fun sts => pss_seq (exec_ok hX h' h mu m) sts) mu st
theorem execD_ok {X : Cx} (hX : SOk T k X) (mu : List Str) (st : Stmt) : PS X st (tS X.K (execD T X.N mu X.env.scope st)) :=
  exec_ok hX (evalD_ok X.N 29) (evalD_ok X.N 30) mu 30 st
variable {P : Program} {w : World} {K : PySem.W.Frag} {mg : Str → Option Value} {base : Heap}
theorem start_get {K : PySem.W.Frag} {H : Hp} {O : List Addr} {N : List Str} {vs : List V} {ds : List D} (hO : Dom O H) (r : RepAll K (hid O H) vs ds) : SS K O [] H (start N vs) (ds.map (fun a => some (Sl.dat a)) ++ List.replicate (N.length - ds.length) none) := by
  have hl := r.length
  have dat : ∀ (i : Nat) s, (ds.map (fun a => some (Sl.dat a)) ++ List.replicate (N.length - ds.length) none)[i]? = some (some s) → ∃ d, s = .dat d ∧ ds[i]? = some d := fun i s h => by
    by_cases hi : i < ds.length
    · rw [List.getElem?_append_left (by rw [List.length_map]; exact hi), List.getElem?_map, List.getElem?_eq_getElem hi] at h
      cases h
      exact ⟨_, rfl, List.getElem?_eq_getElem hi⟩
    · rw [List.getElem?_append_right (by rw [List.length_map]; omega), List.getElem?_replicate] at h
      split at h <;> cases h
  refine ⟨⟨?_, hO, fun _ h => (by cases h), fun i d h => ?_, fun i es h => ?_, fun i j es es' p h1 h2 h3 h4 => ?_, fun i h => ?_, SRx.none fun i s hs h => ?_⟩, fun _ h => (by cases h)⟩
  · unfold L2.start
    rw [List.length_append, List.length_append, List.length_map, List.length_map, List.length_replicate, List.length_replicate, hl]
  · obtain ⟨d', e1, e2⟩ := dat i _ h
    cases e1
    obtain ⟨v, h1, h2⟩ := r.get e2
    refine ⟨v, ?_, h2⟩
    unfold L2.start
    have hi : i < vs.length := (List.getElem?_eq_some_iff.mp h1).1
    rw [List.getElem?_append_left (by rw [List.length_map]; exact hi), List.getElem?_map, h1]; rfl
  · obtain ⟨d', e1, _⟩ := dat i _ h
    cases e1
  · obtain ⟨d', e1, _⟩ := dat i _ h1
    cases e1
  · obtain ⟨d', e1, _⟩ := dat i _ h
    cases e1
  · obtain ⟨d', e1, _⟩ := dat i _ h
    subst e1; cases hs
/-- what a table of names must keep, wherever a def runs -/
structure TOk (T : Tab) (k : Nat) (P : Program) (w : World) (K : PySem.W.Frag) (mg : Str → Option Value) (base : Heap) : Prop where
  blt : ∀ x ∈ bltNames, mg x = none
  gl : ∀ x d, T.gl x = some d → ∃ v u, mg x = some u ∧ RelV v u ∧ (∀ H, Rep K H v d) ∧ (x == ("__debug__" : Str)) = false
  dg : ∀ d kvs, T.dg d = some kvs → ∃ a es n, mg d = some (.ref a) ∧ KDict K w a es n ∧ (∀ z : Str, ∃ r, PySem.W.nsIn K a z = some r ∧ ((∃ i t, getK kvs z = some i ∧ r = some (.int i t)) ∨ (getK kvs z = none ∧ r = none))) ∧ (d == ("__debug__" : Str)) = false
  fn : ∀ f F, T.fn f = some F → ∃ a fd ps, FnOk P w K mg base CX0 k a fd ps (spD K F ps.length) ∧ mg f = some (.ref a) ∧ PySem.W.keepIn K (.ref a) = true ∧ Binds K fd ps [] ∧ (f == ("__debug__" : Str)) = false ∧ f ≠ "__name__" ∧ ∀ ds d, F ds = some d → ds.length = ps.length
  hof : ∀ g G, T.hof g = some G → ∃ a fd ps, (∀ (tb : Tbs) (bs : Heap), FnOk P w K mg bs CX0 k a fd ps (@spH tb P w K mg bs G ps.length)) ∧ mg g = some (.ref a) ∧ PySem.W.keepIn K (.ref a) = true ∧ Binds K fd ps [] ∧
    (g == ("__debug__" : Str)) = false ∧ g ≠ "__name__" ∧ ∀ ds F d, G ds F = some d → ds.length + 1 = ps.length
  lev : ∀ sc L, T.lev sc = some L → LevOk P w K mg L
/-- a lambda can be made in the def at f -/
def MkF (K : PySem.W.Frag) (mg : Str → Option Value) (base : Heap) (x : Str) (f : Addr) : Prop := ∃ c P, (∀ o od fd osl, K.lookup f = some ⟨o, od, .func fd, osl⟩ → fd.code = .ref c) ∧ LamX.TabB base mg c P ∧ (P, x ++ ".<locals>." ++ "<lambda>") ∈ Tbs.T ∧ ∀ p ∈ Tbs.T, p.1 = P → p.2 = x ++ ".<locals>." ++ "<lambda>"
theorem fn_ok {x : Str} {st : Stmt} {f : Addr} {fd : FuncData} {N ps mu : List Str} (F : Fun K x x st f fd) (S : FnScope N ps (defScope st)) (nm : ∀ x ∈ N, (x == ("__debug__" : Str)) = false ∧ (x == ("__classdict__" : Str)) = false) (hap : T.ap = none) (t : TOk T k P w K mg base) (mk : ∀ L, T.lev (defScope st) = some L → MkF K mg base x f) :
    FnOk P w K mg base CX0 (k + 1) f fd ps (spD K (runD T N mu ps (defScope st) (defBody st)) ps.length) := by
  obtain ⟨oc, od, kV, doc, pm, an, cdv, ct, osl, rfl, lk, hcd⟩ := F.ex
  refine fn_of lk hcd S (fun vs H Q E h => h.1) fun A outer s H vs Q E hr h => ?_
  obtain ⟨hlen, O, ds, d, hO, r, e, g⟩ := h
  have hX : SOk T k (cxOf CX0 P w K mg base N x (defScope st) f cdv A outer s H E).nox := ⟨⟨rfl, S.nd, hr, nm, t.blt, t.gl, t.dg, t.fn, fun F e => (by rw [hap] at e; cases e), t.hof, fun L e => ⟨fun _ => rfl, ?_, t.lev _ L e⟩⟩, fun _ => rfl, rfl, S.kind⟩
  · have body := pss_seq (X := (cxOf CX0 P w K mg base N x (defScope st) f cdv A outer s H E).nox) (ex := execD T N mu (defScope st)) (fun st' => execD_ok hX mu st') (defBody st)
    refine ⟨_, body.nox, O, [], _, fun _ => some .non, d, start_get hO r, ?_, fun ρ' L' σ' H' f1 s' e' => ?_, fun L' v H' f1 rv => ?_⟩
    · unfold runD at e
      split at e
      · exact e
      · cases e
    · cases e'
      exact g .non H' f1.same .non
    · exact g v H' f1.same (rv.mono (hid_sub fun p hp => List.mem_append_right _ hp))
  · obtain ⟨c, Pt, h1, h2, h3, h4⟩ := mk L e
    exact ⟨c, Pt, h1 _ _ _ _ lk, h2, h3, h4⟩
/-! ### a def that is handed a function -/
noncomputable def runH (T : Tab) (N mu ps : List Str) (sc : Scope) (body : List Stmt) (as : List D) (F : D → Option D) : Option D :=
  if as.length + 1 = ps.length then seqS (execD { T with ap := some F } N mu sc) body (as.map (fun a => some (Sl.dat a)) ++ (some .act :: List.replicate (N.length - (as.length + 1)) none)) (fun _ => some .non)
  else none
theorem start_getH {K : PySem.W.Frag} {H : Hp} {O : List Addr} {N : List Str} {vs : List V} {ds : List D} (hO : Dom O H) (r : RepAll K (hid O H) vs ds) : SS K O [] H (start N (vs ++ [.ref Acs.f])) (ds.map (fun a => some (Sl.dat a)) ++ (some .act :: List.replicate (N.length - (ds.length + 1)) none)) := by
  have hl := r.length
  have dat : ∀ (i : Nat) s, (ds.map (fun a => some (Sl.dat a)) ++ (some .act :: List.replicate (N.length - (ds.length + 1)) none))[i]? = some (some s) → (∃ d, s = .dat d ∧ ds[i]? = some d) ∨ (s = .act ∧ i = ds.length) := fun i s h => by
    by_cases hi : i < ds.length
    · rw [List.getElem?_append_left (by rw [List.length_map]; exact hi), List.getElem?_map, List.getElem?_eq_getElem hi] at h
      cases h
      exact .inl ⟨_, rfl, List.getElem?_eq_getElem hi⟩
    · rw [List.getElem?_append_right (by rw [List.length_map]; omega), List.length_map] at h
      by_cases hi2 : i = ds.length
      · rw [hi2, Nat.sub_self, List.getElem?_cons_zero] at h
        cases h
        exact .inr ⟨rfl, hi2⟩
      · obtain ⟨m, hm⟩ : ∃ m, i - ds.length = m + 1 := ⟨i - ds.length - 1, by omega⟩
        rw [hm, List.getElem?_cons_succ, List.getElem?_replicate] at h
        split at h <;> cases h
  refine ⟨⟨?_, hO, fun _ h => (by cases h), fun i d h => ?_, fun i es h => ?_, fun i j es es' p h1 h2 h3 h4 => ?_, fun i h => ?_, SRx.none fun i s hs h => ?_⟩, fun _ h => (by cases h)⟩
  · unfold L2.start
    simp only [List.length_append, List.length_map, List.length_replicate, List.length_cons, List.length_nil, hl]
    omega
  · rcases dat i _ h with ⟨d', e1, e2⟩ | ⟨e1, _⟩
    · cases e1
      obtain ⟨v, h1, h2⟩ := r.get e2
      refine ⟨v, ?_, h2⟩
      unfold L2.start
      have hi : i < vs.length := (List.getElem?_eq_some_iff.mp h1).1
      rw [List.getElem?_append_left (by rw [List.length_map, List.length_append]; omega), List.getElem?_map, List.getElem?_append_left hi, h1]; rfl
    · cases e1
  · rcases dat i _ h with ⟨d', e1, e2⟩ | ⟨e1, _⟩ <;> cases e1
  · rcases dat i _ h1 with ⟨d', e1, e2⟩ | ⟨e1, _⟩ <;> cases e1
  · rcases dat i _ h with ⟨d', e1, e2⟩ | ⟨_, e1⟩
    · cases e1
    · unfold L2.start
      rw [e1, ← hl, List.getElem?_append_left (by rw [List.length_map, List.length_append]; exact Nat.lt_succ_self _), List.getElem?_map, List.getElem?_append_right (Nat.le_refl _), Nat.sub_self]
      rfl
  · rcases dat i _ h with ⟨d', e1, e2⟩ | ⟨e1, _⟩ <;> (subst e1; cases hs)
theorem runH_len {T : Tab} {N mu ps : List Str} {sc : Scope} {b : List Stmt} {as : List D} {F : D → Option D} {d : D} (h : runH T N mu ps sc b as F = some d) : as.length + 1 = ps.length := by
  unfold runH at h
  split at h
  · assumption
  · cases h
end
section
variable {T : Tab} {k : Nat} {P : Program} {w : World} {K : PySem.W.Frag} {mg : Str → Option Value}
omit [Tbs] [Acs] in
theorem fn_okH {x : Str} {st : Stmt} {f : Addr} {fd : FuncData} {N ps mu : List Str} (F : Fun K x x st f fd) (S : FnScope N ps (defScope st)) (nm : ∀ x ∈ N, (x == ("__debug__" : Str)) = false ∧ (x == ("__classdict__" : Str)) = false) (hk : lowK + 1 ≤ k) (hlv : ∀ sc, T.lev sc = none) (t : ∀ (tb : Tbs) (base : Heap), TOk T k P w K mg base)
    (tb : Tbs) (base : Heap) : FnOk P w K mg base CX0 (k + 1) f fd ps (@spH tb P w K mg base (runH T N mu ps (defScope st) (defBody st)) ps.length) := by
  refine F.ok S (fun vs H Q E h => h.1) fun cdv A outer s H vs Q E hr h => ?_
  obtain ⟨hlen, vs', f', Fn, O, ds, d, rfl, act, hO, r, e, g⟩ := h
  letI ac : Acs := ⟨f'⟩
  have t := t tb base
  have hX : SOk { T with ap := some Fn } k (cxOf CX0 P w K mg base N x (defScope st) f cdv A outer s H E).nox := ⟨⟨rfl, S.nd, hr, nm, t.blt, t.gl, t.dg, t.fn, fun F e => (by cases e; exact ⟨hk, act⟩), t.hof, fun L e => (by have z : T.lev (defScope st) = some L := e; rw [hlv] at z; cases z)⟩, fun _ => rfl, rfl, S.kind⟩
  have body := pss_seq (X := (cxOf CX0 P w K mg base N x (defScope st) f cdv A outer s H E).nox) (ex := execD { T with ap := some Fn } N mu (defScope st)) (fun st' => execD_ok hX mu st') (defBody st)
  refine ⟨_, body, O, [], _, fun _ => some .non, d, start_getH hO r, ?_, fun ρ' L' σ' H' f1 s' e' => ?_, fun L' v H' f1 rv => ?_⟩
  · unfold runH at e
    split at e
    · exact e
    · cases e
  · cases e'
    exact g .non H' f1.same .non
  · exact g v H' f1.same (rv.mono (hid_sub fun p hp => List.mem_append_right _ hp))
end

/-! ### places in a text -/
def stAt (b : List Stmt) (i : Nat) : Stmt := b.getD i (.Pass ⟨0, 0, 0, 0⟩)
def forBody : Stmt → List Stmt
  | .For _ _ b _ _ => b
  | _ => []
def ifBody : Stmt → List Stmt
  | .If _ b _ _ => b
  | _ => []
def elseBody : Stmt → List Stmt
  | .If _ _ b _ => b
  | _ => []
/-! ### a program's defs -/
structure DefR where
  name : Str
  st : Stmt
  N : List Str
  ps : List Str
  mu : List Str
  /-- it makes lambdas -/
  lam : Bool
def findR (f : Str) : List DefR → Option DefR
  | [] => none
  | r :: rs => if r.name = f then some r else findR f rs
/-- the module's constants and dicts -/
structure Gl where
  gl : Str → Option D
  dg : Str → Option (List (Str × Int))
  /-- defs that are handed a function; how a lambda's body is read; the room that these ask for -/
  hf : Str → Option (List D → (D → Option D) → Option D)
  lv : Option (List Str → Scope → Expr → DSt → Option D)
  m0 : Nat
  /-- defs that are told otherwise -/
  xf : Str → Option (List D → Option D)
def levR (gl : Gl) (r : DefR) : Scope → Option (List Str → Scope → Expr → DSt → Option D) := match r.lam with
  | true => fun sc => if sc.names = (defScope r.st).names then gl.lv else none
  | false => fun _ => none
theorem levR_inv {gl : Gl} {r : DefR} {sc : Scope} {L : List Str → Scope → Expr → DSt → Option D} (h : levR gl r sc = some L) : r.lam = true ∧ gl.lv = some L := by
  cases q : r.lam with
  | false =>
    have e : levR gl r = fun _ => none := by unfold levR; rw [q]
    rw [e] at h; cases h
  | true =>
    have e : levR gl r = fun sc => if sc.names = (defScope r.st).names then gl.lv else none := by unfold levR; rw [q]
    rw [e] at h
    exact ⟨rfl, (if_inv h).2⟩
noncomputable def tabR (P : List DefR) (gl : Gl) (Φ : Str → List D → Option D) (r : DefR) : Tab := ⟨fun f => match gl.xf f with | some G => some G | none => match findR f P with | some _ => some (Φ f) | none => none, gl.gl, gl.dg, none, gl.hf, levR gl r⟩
noncomputable def stepR (P : List DefR) (gl : Gl) (Φ : Str → List D → Option D) (f : Str) (as : List D) : Option D := match findR f P with
  | some r => runD (tabR P gl Φ r) r.N r.mu r.ps (defScope r.st) (defBody r.st) as
  | none => none
noncomputable def phi (P : List DefR) (gl : Gl) (n : Nat) : Str → List D → Option D := Nat.rec (fun _ _ => none) (fun _ Φ => stepR P gl Φ) n
theorem findR_name {f : Str} : ∀ {P : List DefR} {r : DefR}, findR f P = some r → r.name = f ∧ r ∈ P
  | q :: P, r, h => by
    unfold findR at h
    split at h
    · rename_i e; cases h; exact ⟨e, List.mem_cons_self⟩
    · obtain ⟨h1, h2⟩ := findR_name h; exact ⟨h1, List.mem_cons_of_mem _ h2⟩
/-- where a def stands behind the top -/
structure DefIn (K : PySem.W.Frag) (r : DefR) (f : Addr) (fd : FuncData) : Prop where
  at_ : PySem.W.nsIn K mainGlobals r.name = some (some (.ref f))
  fun_ : Fun K r.name r.name r.st f fd
  binds : Binds K fd r.ps []
structure DefOk (r : DefR) : Prop where
  sc : FnScope r.N r.ps (defScope r.st)
  nm : ∀ x ∈ r.N, (x == ("__debug__" : Str)) = false ∧ (x == ("__classdict__" : Str)) = false
  db : (r.name == ("__debug__" : Str)) = false
  nn : r.name ≠ "__name__"
theorem runD_len {T : Tab} {N mu ps : List Str} {sc : Scope} {b : List Stmt} {as : List D} {d : D} (h : runD T N mu ps sc b as = some d) : as.length = ps.length := by
  unfold runD at h
  split at h
  · assumption
  · cases h
/-- all that the head tells of a program -/
structure GOk (P : List DefR) (gl : Gl) (prog : Program) (w : World) (K : PySem.W.Frag) (mg : Str → Option Value) (base : Heap) : Prop where
  hP : ∀ r ∈ P, DefOk r ∧ ∃ f fd, DefIn K r f fd ∧ mg r.name = some (.ref f)
  blt : ∀ x ∈ bltNames, mg x = none
  hgl : ∀ x d, gl.gl x = some d → ∃ v u, mg x = some u ∧ RelV v u ∧ (∀ H, Rep K H v d) ∧ (x == ("__debug__" : Str)) = false
  hdg : ∀ d kvs, gl.dg d = some kvs → ∃ a es n, mg d = some (.ref a) ∧ KDict K w a es n ∧ (∀ z : Str, ∃ r, PySem.W.nsIn K a z = some r ∧ ((∃ i t, getK kvs z = some i ∧ r = some (.int i t)) ∨ (getK kvs z = none ∧ r = none))) ∧ (d == ("__debug__" : Str)) = false
  hof : ∀ g G, gl.hf g = some G → ∃ a fd ps, (∀ (tb : Tbs) (bs : Heap), FnOk prog w K mg bs CX0 gl.m0 a fd ps (@spH tb prog w K mg bs G ps.length)) ∧ mg g = some (.ref a) ∧ PySem.W.keepIn K (.ref a) = true ∧ Binds K fd ps [] ∧
    (g == ("__debug__" : Str)) = false ∧ g ≠ "__name__" ∧ ∀ ds F d, G ds F = some d → ds.length + 1 = ps.length
  lev : ∀ L, gl.lv = some L → LevOk prog w K mg L
  mkf : ∀ r ∈ P, r.lam = true → ∀ L, gl.lv = some L → ∀ f, mg r.name = some (.ref f) → MkF K mg base r.name f
  xf : ∀ g G, gl.xf g = some G → ∃ a fd ps, FnOk prog w K mg base CX0 gl.m0 a fd ps (spD K G ps.length) ∧ mg g = some (.ref a) ∧ PySem.W.keepIn K (.ref a) = true ∧ Binds K fd ps [] ∧ (g == ("__debug__" : Str)) = false ∧ g ≠ "__name__" ∧ ∀ ds d, G ds = some d → ds.length = ps.length
theorem tabR_ok {P : List DefR} {gl : Gl} {prog : Program} {w : World} {K : PySem.W.Frag} {mg : Str → Option Value} {base : Heap} (h0 : GOk P gl prog w K mg base) (n : Nat) (r : DefR)
    (ih : ∀ (x : Str) (r : DefR), findR x P = some r → ∃ f fd, DefIn K r f fd ∧ mg x = some (.ref f) ∧ FnOk prog w K mg base CX0 (gl.m0 + n) f fd r.ps (spD K (phi P gl n x) r.ps.length)) : TOk (tabR P gl (phi P gl n) r) (gl.m0 + n) prog w K mg base := by
  refine ⟨h0.blt, h0.hgl, h0.hdg, fun g F hg => ?_, fun g G hg => ?_, fun sc L hL => h0.lev L (levR_inv hL).2⟩
  · cases qx : gl.xf g with
    | some G =>
      have : (tabR P gl (phi P gl n) r).fn g = some G := by
        show (match gl.xf g with | some G => some G | none => match findR g P with | some _ => _ | none => none) = some G
        rw [qx]
      rw [this] at hg
      have hF := Option.some.inj hg
      rw [← hF]
      obtain ⟨a, fd, ps, k1, k2⟩ := h0.xf g G qx
      exact ⟨a, fd, ps, k1.mono (Nat.le_add_right _ _), k2⟩
    | none =>
    have e0 : (tabR P gl (phi P gl n) r).fn g = match findR g P with | some _ => some (phi P gl n g) | none => none := by
      show (match gl.xf g with | some G => some G | none => match findR g P with | some _ => some (phi P gl n g) | none => none) = _
      rw [qx]
    rw [e0] at hg
    cases q : findR g P with
    | none => rw [q] at hg; cases hg
    | some r' =>
      rw [q] at hg
      cases hg
      obtain ⟨f', fd', hd', hf', ok'⟩ := ih g r' q
      obtain ⟨hn', hm'⟩ := findR_name q
      obtain ⟨okr, _⟩ := h0.hP r' hm'
      refine ⟨f', fd', r'.ps, ok', hf', hd'.fun_.kp, hd'.binds, by rw [← hn']; exact okr.db, by rw [← hn']; exact okr.nn, fun ds d e => ?_⟩
      cases n with
      | zero => cases e
      | succ n =>
        have e1 : phi P gl (n + 1) g = runD (tabR P gl (phi P gl n) r') r'.N r'.mu r'.ps (defScope r'.st) (defBody r'.st) := by
          funext as
          show (match findR g P with | some r => _ | none => none) = _
          rw [q]; rfl
        rw [e1] at e
        exact runD_len e
  · obtain ⟨a, fd', ps, k1, k2⟩ := h0.hof g G hg
    exact ⟨a, fd', ps, fun tb bs => (k1 tb bs).mono (Nat.le_add_right _ _), k2⟩
theorem phi_ok {P : List DefR} {gl : Gl} {prog : Program} {w : World} {K : PySem.W.Frag} {mg : Str → Option Value} {base : Heap} (h0 : GOk P gl prog w K mg base) :
    ∀ (n : Nat) (x : Str) (r : DefR), findR x P = some r → ∃ f fd, DefIn K r f fd ∧ mg x = some (.ref f) ∧ FnOk prog w K mg base CX0 (gl.m0 + n) f fd r.ps (spD K (phi P gl n x) r.ps.length)
  | 0, x, r, h => by
    obtain ⟨hn, hm⟩ := findR_name h
    obtain ⟨ok, f, fd, hd, hf⟩ := h0.hP r hm
    rw [hn] at hf
    have no : ∀ vs H Q E, ¬ spD K (phi P gl 0 x) r.ps.length vs H Q E := fun vs H Q E h => by
      obtain ⟨_, O, ds, d, _, _, e, _⟩ := h
      cases e
    exact ⟨f, fd, hd, hf, ⟨fun vs H Q E h => absurd h (no vs H Q E), fun A outer s H args us vs Q E _ _ _ _ h => absurd h (no vs H Q E)⟩⟩
  | n + 1, x, r, h => by
    obtain ⟨hn, hm⟩ := findR_name h
    obtain ⟨ok, f, fd, hd, hf⟩ := h0.hP r hm
    have hf0 := hf
    rw [hn] at hf
    refine ⟨f, fd, hd, hf, ?_⟩
    have e : phi P gl (n + 1) x = runD (tabR P gl (phi P gl n) r) r.N r.mu r.ps (defScope r.st) (defBody r.st) := by
      funext as
      show (match findR x P with | some r => _ | none => none) = _
      rw [h]; rfl
    rw [e]
    exact fn_ok hd.fun_ ok.sc ok.nm rfl (tabR_ok h0 n r (phi_ok h0 n)) fun L hL => h0.mkf r hm (levR_inv hL).1 L (levR_inv hL).2 f hf0
/-! ### lambdas: what their bodies may call, and the defs that are handed them -/
def noH (gl : Gl) : Gl := ⟨gl.gl, gl.dg, fun _ => none, none, 0, fun _ => none⟩
noncomputable def lowT (P : List DefR) (gl : Gl) : Tab := ⟨fun f => match findR f P with | some _ => some (phi P (noH gl) lowK f) | none => none, gl.gl, gl.dg, none, fun _ => none, fun _ => none⟩
noncomputable def lowL (P : List DefR) (gl : Gl) : List Str → Scope → Expr → DSt → Option D := fun N sc e ρ => evalD (lowT P gl) N 30 false sc e ρ
noncomputable def tabH (hs P : List DefR) (gl : Gl) (Ψ : Str → List D → (D → Option D) → Option D) : Tab := { lowT P gl with hof := fun g => match findR g hs with | some _ => some (Ψ g) | none => none }
noncomputable def stepH (hs P : List DefR) (gl : Gl) (Ψ : Str → List D → (D → Option D) → Option D) (f : Str) (as : List D) (F : D → Option D) : Option D := match findR f hs with
  | some r => runH (tabH hs P gl Ψ) r.N r.mu r.ps (defScope r.st) (defBody r.st) as F
  | none => none
noncomputable def phiH (hs P : List DefR) (gl : Gl) (n : Nat) : Str → List D → (D → Option D) → Option D := Nat.rec (fun _ _ _ => none) (fun _ Ψ => stepH hs P gl Ψ) n
noncomputable def fullG (hs P : List DefR) (gl : Gl) (m : Nat) : Gl := ⟨gl.gl, gl.dg, fun g => match findR g hs with | some _ => some (phiH hs P gl m g) | none => none, some (lowL P gl), lowK + 1 + m, fun _ => none⟩
section
variable {hs P : List DefR} {gl : Gl} {prog : Program} {w : World} {K : PySem.W.Frag} {mg : Str → Option Value}
omit [Tbs] [Acs] in
theorem lowT_ok (h0 : ∀ (tb : Tbs) (base : Heap), GOk P (noH gl) prog w K mg base) (tb : Tbs) (base : Heap) : TOk (lowT P gl) lowK prog w K mg base := by
  have g0 := h0 tb base
  refine ⟨g0.blt, g0.hgl, g0.hdg, fun g F hg => ?_, fun g G hg => (by cases hg), fun sc L hL => (by cases hL)⟩
  cases q : findR g P with
  | none =>
    have : (lowT P gl).fn g = none := by
      show (match findR g P with | some _ => _ | none => none) = none
      rw [q]
    rw [this] at hg; cases hg
  | some r =>
    have : (lowT P gl).fn g = some (phi P (noH gl) lowK g) := by
      show (match findR g P with | some _ => some (phi P (noH gl) lowK g) | none => none) = _
      rw [q]
    rw [this] at hg
    cases hg
    obtain ⟨f', fd', hd', hf', ok'⟩ := phi_ok g0 lowK g r q
    obtain ⟨hn', hm'⟩ := findR_name q
    obtain ⟨okr, _⟩ := g0.hP r hm'
    refine ⟨f', fd', r.ps, by have z := ok'; rw [show (noH gl).m0 + lowK = lowK from Nat.zero_add _] at z; exact z, hf', hd'.fun_.kp, hd'.binds, by rw [← hn']; exact okr.db, by rw [← hn']; exact okr.nn, fun ds d e => ?_⟩
    have e1 : phi P (noH gl) lowK g = runD (tabR P (noH gl) (phi P (noH gl) 19) r) r.N r.mu r.ps (defScope r.st) (defBody r.st) := by
      funext as
      show (match findR g P with | some r => _ | none => none) = _
      rw [q]; rfl
    rw [e1] at e
    exact runD_len e
omit [Tbs] [Acs] in
theorem lowL_ok (h0 : ∀ (tb : Tbs) (base : Heap), GOk P (noH gl) prog w K mg base) : LevOk prog w K mg (lowL P gl) := fun tb ac X' h1 h2 h3 h4 calm nd room nm e => by
  subst h1 h2 h3 h4
  have t := lowT_ok h0 tb X'.base
  exact ((evalD_ok (T := lowT P gl) (k := lowK) X'.N 30).1 X' ⟨calm, nd, room, nm, t.blt, t.gl, t.dg, t.fn, fun F e => (by cases e), t.hof, fun L e => (by cases e)⟩ rfl e).1
omit [Tbs] [Acs] in
theorem phiH_ok (h0 : ∀ (tb : Tbs) (base : Heap), GOk P (noH gl) prog w K mg base) (hH : ∀ r ∈ hs, DefOk r ∧ ∃ f fd, DefIn K r f fd ∧ mg r.name = some (.ref f)) :
    ∀ (m : Nat) (x : Str) (r : DefR), findR x hs = some r → ∃ f fd, DefIn K r f fd ∧ mg x = some (.ref f) ∧ ∀ (tb : Tbs) (bs : Heap), FnOk prog w K mg bs CX0 (lowK + 1 + m) f fd r.ps (@spH tb prog w K mg bs (phiH hs P gl m x) r.ps.length)
  | 0, x, r, h => by
    obtain ⟨hn, hm⟩ := findR_name h
    obtain ⟨ok, f, fd, hd, hf⟩ := hH r hm
    rw [hn] at hf
    refine ⟨f, fd, hd, hf, fun tb bs => ?_⟩
    have no : ∀ vs H Q E, ¬ @spH tb prog w K mg bs (phiH hs P gl 0 x) r.ps.length vs H Q E := fun vs H Q E h => by
      obtain ⟨_, vs', f', Fn, O, ds, d, _, _, _, _, e, _⟩ := h
      cases e
    exact ⟨fun vs H Q E h => absurd h (no vs H Q E), fun A outer s H args us vs Q E _ _ _ _ h => absurd h (no vs H Q E)⟩
  | m + 1, x, r, h => by
    obtain ⟨hn, hm⟩ := findR_name h
    obtain ⟨ok, f, fd, hd, hf⟩ := hH r hm
    rw [hn] at hf
    refine ⟨f, fd, hd, hf, ?_⟩
    have e : phiH hs P gl (m + 1) x = runH (tabH hs P gl (phiH hs P gl m)) r.N r.mu r.ps (defScope r.st) (defBody r.st) := by
      funext as F
      show (match findR x hs with | some r => _ | none => none) = _
      rw [h]; rfl
    rw [e]
    refine fn_okH (k := lowK + 1 + m) hd.fun_ ok.sc ok.nm (Nat.le_add_right _ _) (fun _ => rfl) fun tb base => ?_
    have t := lowT_ok (gl := gl) h0 tb base
    refine ⟨t.blt, t.gl, t.dg, fun g F hg => ?_, fun g G hg => ?_, fun sc L hL => (by cases hL)⟩
    · obtain ⟨a, fd', ps, k1, k2⟩ := t.fn g F hg
      exact ⟨a, fd', ps, k1.mono (Nat.le_trans (Nat.le_succ _) (Nat.le_add_right _ _)), k2⟩
    · cases q : findR g hs with
      | none =>
        have : (tabH hs P gl (phiH hs P gl m)).hof g = none := by
          show (match findR g hs with | some _ => _ | none => none) = none
          rw [q]
        rw [this] at hg; cases hg
      | some r' =>
        have : (tabH hs P gl (phiH hs P gl m)).hof g = some (phiH hs P gl m g) := by
          show (match findR g hs with | some _ => some (phiH hs P gl m g) | none => none) = _
          rw [q]
        rw [this] at hg
        cases hg
        obtain ⟨f', fd', hd', hf', ok'⟩ := phiH_ok h0 hH m g r' q
        obtain ⟨hn', hm'⟩ := findR_name q
        obtain ⟨okr, _⟩ := hH r' hm'
        refine ⟨f', fd', r'.ps, ok', hf', hd'.fun_.kp, hd'.binds, by rw [← hn']; exact okr.db, by rw [← hn']; exact okr.nn, fun ds F d e => ?_⟩
        cases m with
        | zero => cases e
        | succ m =>
          have e1 : phiH hs P gl (m + 1) g = runH (tabH hs P gl (phiH hs P gl m)) r'.N r'.mu r'.ps (defScope r'.st) (defBody r'.st) := by
            funext as F
            show (match findR g hs with | some r => _ | none => none) = _
            rw [q]; rfl
          rw [e1] at e
          exact runH_len e
/-- the whole program, from what holds of it without lambdas -/
theorem full_ok {m : Nat} {base : Heap} (h0 : ∀ (tb : Tbs) (base : Heap), GOk P (noH gl) prog w K mg base) (hH : ∀ r ∈ hs, DefOk r ∧ ∃ f fd, DefIn K r f fd ∧ mg r.name = some (.ref f)) (mk : ∀ r ∈ P, r.lam = true → ∀ f, mg r.name = some (.ref f) → MkF K mg base r.name f) :
    GOk P (fullG hs P gl m) prog w K mg base := by
  have g0 := h0 inferInstance base
  refine ⟨g0.hP, g0.blt, g0.hgl, g0.hdg, fun g G hg => ?_, fun L hL => ?_, fun r hr hl L _ f hf => mk r hr hl f hf, fun g G hg => (by cases hg)⟩
  · cases q : findR g hs with
    | none =>
      have : (fullG hs P gl m).hf g = none := by
        show (match findR g hs with | some _ => _ | none => none) = none
        rw [q]
      rw [this] at hg; cases hg
    | some r' =>
      have : (fullG hs P gl m).hf g = some (phiH hs P gl m g) := by
        show (match findR g hs with | some _ => some (phiH hs P gl m g) | none => none) = _
        rw [q]
      rw [this] at hg
      cases hg
      obtain ⟨f', fd', hd', hf', ok'⟩ := phiH_ok h0 hH m g r' q
      obtain ⟨hn', hm'⟩ := findR_name q
      obtain ⟨okr, _⟩ := hH r' hm'
      refine ⟨f', fd', r'.ps, ok', hf', hd'.fun_.kp, hd'.binds, by rw [← hn']; exact okr.db, by rw [← hn']; exact okr.nn, fun ds F d e => ?_⟩
      cases m with
      | zero => cases e
      | succ m =>
        have e1 : phiH hs P gl (m + 1) g = runH (tabH hs P gl (phiH hs P gl m)) r'.N r'.mu r'.ps (defScope r'.st) (defBody r'.st) := by
          funext as F
          show (match findR g hs with | some r => _ | none => none) = _
          rw [q]; rfl
        rw [e1] at e
        exact runH_len e
  · cases hL
    exact lowL_ok h0
end
/-- a block of a def, at a nesting of m -/
noncomputable def blkR (P : List DefR) (gl : Gl) (Φ : Str → List D → Option D) (r : DefR) (m : Nat) (b : List Stmt) : DSt → Kt → Option D := seqS (exR r.N r.mu (defScope r.st) (evalD (tabR P gl Φ r) r.N 30) m) b
/-- a while of a def, at a nesting of m, with so many turns left; k is what comes behind -/
noncomputable def whlR (P : List DefR) (gl : Gl) (Φ : Str → List D → Option D) (r : DefR) (m : Nat) (st : Stmt) (k : Kt) (n : Nat) (ρ : DSt) : Option D := match st with
  | .While c body _ _ => whileD (fun ρ => (evalD (tabR P gl Φ r) r.N 30 true (defScope r.st) c (frzE r.N c ρ)).bind asB) (frzE r.N c) (blkR P gl Φ r m body) k n ρ
  | _ => none
def whileBody : Stmt → List Stmt
  | .While _ b _ _ => b
  | _ => []
/-! ### the law -/
theorem defIn_fd {K : PySem.W.Frag} {r : DefR} {f : Addr} {fd fd' : FuncData} (a : DefIn K r f fd) (b : DefIn K r f fd') : fd = fd' := by
  obtain ⟨_, _, _, _, _, _, _, _, _, _, h1, _⟩ := a.fun_.ex
  obtain ⟨_, _, _, _, _, _, _, _, _, _, h2, _⟩ := b.fun_.ex
  rw [h1] at h2
  injection h2 with h2
  injection h2 with _ _ h2
  injection h2
theorem gok_mk {prog : Program} {P : List DefR} {gl : Gl} {w : World} {K : PySem.W.Frag} {h : Heap} {mg : Str → Option Value} (X : K.In h) (G : h.Ns mainGlobals mg)
    (hok : ∀ r ∈ P, DefOk r) (hin : ∀ r ∈ P, ∃ f fd, DefIn K r f fd) (hb : ∀ x ∈ bltNames, PySem.W.nsIn K mainGlobals x = some none)
    (hgl : ∀ x d, gl.gl x = some d → ∃ v u, PySem.W.nsIn K mainGlobals x = some (some u) ∧ RelV v u ∧ (∀ H, Rep K H v d) ∧ (x == ("__debug__" : Str)) = false)
    (hdg : ∀ d kvs, gl.dg d = some kvs → ∃ a es n, PySem.W.nsIn K mainGlobals d = some (some (.ref a)) ∧ KDict K w a es n ∧ (∀ z : Str, ∃ r, PySem.W.nsIn K a z = some r ∧ ((∃ i t, getK kvs z = some i ∧ r = some (.int i t)) ∨ (getK kvs z = none ∧ r = none))) ∧ (d == ("__debug__" : Str)) = false)
    (h1 : ∀ g, gl.hf g = none) (h2 : gl.lv = none) (h3 : ∀ g, gl.xf g = none) (base : Heap) : GOk P gl prog w K mg base where
  hP := fun r hm => by
    obtain ⟨f, fd, hd⟩ := hin r hm
    exact ⟨hok r hm, f, fd, hd, PySem.W.mg_of X G hd.at_⟩
  blt := fun x hx => PySem.W.mg_none_of X G (hb x hx)
  hgl := fun x d e => by
    obtain ⟨v, u, h1, h2⟩ := hgl x d e
    exact ⟨v, u, PySem.W.mg_of X G h1, h2⟩
  hdg := fun d kvs e => by
    obtain ⟨a, es, n, h1, h2⟩ := hdg d kvs e
    exact ⟨a, es, n, PySem.W.mg_of X G h1, h2⟩
  hof := fun g G' e => by rw [h1] at e; cases e
  lev := fun L e => by rw [h2] at e; cases e
  mkf := fun r hr hl L e => by rw [h2] at e; cases e
  xf := fun g G' e => by rw [h3] at e; cases e
theorem law_mk {l : PySem.W.OpenLaw} {P : List DefR} {gl : Gl} {w : World} {K : PySem.W.Frag} {h : Heap} {mg : Str → Option Value} {fa : Addr} {n : Nat} {r : DefR} {Bs : Heap → Prop} (X : K.In h) (G : h.Ns mainGlobals mg) (hfa : mg "law" = some (.ref fa)) (hr : findR "law" P = some r) (hps : r.ps = (["script"] : List Str))
    (hin : ∀ r ∈ P, ∃ f fd, DefIn K r f fd ∧ (r.name = "law" → ∀ (s : Shared) (v : Value), BindsTo s fd ⟨[v], []⟩ [(("script" : Str), v)])) (ok : ∀ base, Bs base → GOk P gl l.prog w K mg base) :
    ∃ fd : FuncData, (∀ (s : Shared) (v : Value), BindsTo s fd ⟨[v], []⟩ [(("script" : Str), v)]) ∧ ∀ base : Heap, Bs base → FnOk l.prog w K mg base CX0 (gl.m0 + n) fa fd (["script"] : List Str) (spD K (phi P gl n "law") 1) := by
  obtain ⟨hn, hm⟩ := findR_name hr
  obtain ⟨f0, fd0, hd0, hb0⟩ := hin r hm
  refine ⟨fd0, hb0 hn, fun base hB => ?_⟩
  obtain ⟨f, fd, hd, hf, ok⟩ := phi_ok (ok base hB) n "law" r hr
  rw [hfa] at hf
  cases hf
  have e0 : f0 = fa := by
    have := PySem.W.mg_of X G hd0.at_
    rw [hn, hfa] at this
    cases this; rfl
  subst e0
  rw [← defIn_fd hd hd0]
  rw [hps] at ok
  exact ok
theorem sp_law {K : PySem.W.Frag} {F : List D → Option D} {H : Hp} {a : Addr} {ns : List Int} (hD : Dom [] H) (hl : ns.length ≤ 63) (hS : SqL K H a (ns.map V.int)) (h : F [.scr ns] = some (.bl true)) (E : XK) : spD K F 1 [.ref a] H (fun v _ => v = .bl true) E := by
  refine ⟨rfl, [], [.scr ns], .bl true, hD, .cons (.scr (by rw [hid_nil]; exact hS) (by unfold lim; omega)) .nil, h, fun v H' _ r => ?_⟩
  cases r
  rfl
/-- what k_is finds of a def -/
theorem defIn_mk {K : PySem.W.Frag} {r : DefR} {f : Addr} {oc : Value} {od an : Option Addr} {osl : Array (Option Value)} {kV doc pm cdv ct : Value} (a : PySem.W.nsIn K mainGlobals r.name = some (some (.ref f)))
    (l : K.lookup f = some ⟨oc, od, .func (PySem.W.fnOf r.name r.name (defArgs r.st) (defBody r.st) (defScope r.st) .none kV doc pm an cdv ct), osl⟩) (c : PySem.W.codeIn K cdv r.name = true) (k : PySem.W.keepIn K (.ref f) = true)
    (hb : ∀ (kV doc pm : Value) (an : Option Addr) (cdv ct : Value) (us : List Value), us.length = r.ps.length → bindArgs (PySem.W.fnOf r.name r.name (defArgs r.st) (defBody r.st) (defScope r.st) .none kV doc pm an cdv ct) ⟨us, []⟩ = pure (r.ps.zip us))
    (hlaw : r.name = "law" → r.ps = (["script"] : List Str)) :
    ∃ f fd, DefIn K r f fd ∧ (r.name = "law" → ∀ (s : Shared) (v : Value), BindsTo s fd ⟨[v], []⟩ [(("script" : Str), v)]) := by
  have F := fun_mk (st := r.st) l c k
  refine ⟨f, _, ⟨a, F, F.binds hb⟩, fun e s v => .of_eq ?_⟩
  have := hb kV doc pm an cdv ct [v] (by rw [hlaw e]; rfl)
  rw [hlaw e] at this
  exact this
theorem blt_in {K : PySem.W.Frag} (h0 : PySem.W.nsIn K mainGlobals "len" = some none) (h1 : PySem.W.nsIn K mainGlobals "int" = some none) (h2 : PySem.W.nsIn K mainGlobals "tuple" = some none) (h3 : PySem.W.nsIn K mainGlobals "list" = some none) (h4 : PySem.W.nsIn K mainGlobals "all" = some none) (h5 : PySem.W.nsIn K mainGlobals "any" = some none) (h6 : PySem.W.nsIn K mainGlobals "sum" = some none) (h7 : PySem.W.nsIn K mainGlobals "min" = some none) (h8 : PySem.W.nsIn K mainGlobals "isinstance" = some none) (h9 : PySem.W.nsIn K mainGlobals "range" = some none) (h10 : PySem.W.nsIn K mainGlobals "str" = some none) (h11 : PySem.W.nsIn K mainGlobals "bool" = some none) (h12 : PySem.W.nsIn K mainGlobals "max" = some none) (h13 : PySem.W.nsIn K mainGlobals "sorted" = some none) (h14 : PySem.W.nsIn K mainGlobals "enumerate" = some none) (h15 : PySem.W.nsIn K mainGlobals "zip" = some none) : ∀ x ∈ bltNames, PySem.W.nsIn K mainGlobals x = some none := by
  intro x hx
  simp only [bltNames, List.mem_cons, List.not_mem_nil, or_false] at hx
  rcases hx with rfl | rfl | rfl | rfl | rfl | rfl | rfl | rfl | rfl | rfl | rfl | rfl | rfl | rfl | rfl | rfl
  · exact h0
  · exact h1
  · exact h2
  · exact h3
  · exact h4
  · exact h5
  · exact h6
  · exact h7
  · exact h8
  · exact h9
  · exact h10
  · exact h11
  · exact h12
  · exact h13
  · exact h14
  · exact h15
end Sw
/-! ## the head: what the module's names stand for behind the top -/
namespace Sw
open PySem L2
def ddOf (r : DefR) : He.DefD := ⟨(r.name, none), r.name, r.name, defArgs r.st, defBody r.st, defScope r.st, [], []⟩
def entOf (e : DictEntry) : Option (Str × Int × Int) := match e.key, e.val with
  | .str x _, .int i _ => some (x, e.hash, i)
  | _, _ => none
def entsIn (P : Params) (kvs : List (Str × Int)) : List (Option (Str × Int × Int)) := kvs.map fun q => some (q.1, PyData.keyHash P q.1, q.2)
def dicI (K : PySem.W.Frag) (a : Addr) : Option (List (Option (Str × Int × Int))) := match K.lookup a with
  | some ⟨.type c, none, .dict es _, sl⟩ => (match decide (c = "dict") && (sl.isEmpty && !(a == sysModules)) with
    | true => some (es.toList.map entOf)
    | false => none)
  | _ => none
theorem ent_inv {e : DictEntry} {x : Str} {h i : Int} (q : entOf e = some (x, h, i)) : ∃ t u, e.key = .str x t ∧ e.val = .int i u ∧ e.hash = h := by
  unfold entOf at q
  split at q
  · rename_i y t j u h1 h2
    cases q
    exact ⟨t, u, h1, h2, rfl⟩
  · cases q
theorem ents_lit {P : Params} : ∀ {l : List DictEntry} {kvs : List (Str × Int)}, l.map entOf = entsIn P kvs → PySem.W.KeysLit P l
  | [], _, _ => trivial
  | e :: r, [], h => by cases h
  | e :: r, q :: kvs, h => by
    injection (show entOf e :: r.map entOf = some (q.1, PyData.keyHash P q.1, q.2) :: entsIn P kvs from h) with h2 h3
    obtain ⟨t, u, k1, k2, k3⟩ := ent_inv h2
    exact ⟨⟨q.1, t, k1, k3⟩, ents_lit h3⟩
theorem ents_find {P : Params} (z : Str) : ∀ {l : List DictEntry} {kvs : List (Str × Int)}, l.map entOf = entsIn P kvs →
    (∃ i t e, getK kvs z = some i ∧ l.find? (fun e => e.key.isStr z) = some e ∧ e.val = .int i t) ∨ (getK kvs z = none ∧ l.find? (fun e => e.key.isStr z) = none ∧ l.any (fun e => e.refKey) = false)
  | [], [], _ => .inr ⟨rfl, rfl, rfl⟩
  | [], _ :: _, h => by cases h
  | e :: r, [], h => by cases h
  | e :: r, q :: kvs, h => by
    injection (show entOf e :: r.map entOf = some (q.1, PyData.keyHash P q.1, q.2) :: entsIn P kvs from h) with h2 h3
    obtain ⟨t, u, k1, k2, k3⟩ := ent_inv h2
    have ih := ents_find z h3
    by_cases c : q.1 = z
    · have hs : e.key.isStr z = true := by rw [k1, c]; simp [Value.isStr]
      exact .inl ⟨q.2, u, e, by unfold getK; rw [if_pos c], List.find?_cons_of_pos (p := fun (e : DictEntry) => e.key.isStr z) hs, k2⟩
    · have hs : ¬ e.key.isStr z = true := by rw [k1]; simpa [Value.isStr] using c
      have hr : e.refKey = false := by unfold DictEntry.refKey; rw [k1]
      have hg : getK (q :: kvs) z = getK kvs z := by show (if _ then _ else _) = _; rw [if_neg c]
      rw [hg, List.find?_cons_of_neg (p := fun (e : DictEntry) => e.key.isStr z) hs, List.any_cons, hr, Bool.false_or]
      exact ih
theorem dicI_ok {K : PySem.W.Frag} {w : World} {a : Addr} {kvs : List (Str × Int)} (h : dicI K a = some (entsIn w.params kvs)) :
    ∃ es n, KDict K w a es n ∧ ∀ z : Str, ∃ r, PySem.W.nsIn K a z = some r ∧ ((∃ i t, getK kvs z = some i ∧ r = some (.int i t)) ∨ (getK kvs z = none ∧ r = none)) := by
  unfold dicI at h
  split at h
  · rename_i c es n sl q
    cases z : decide (c = "dict") && (sl.isEmpty && !(a == sysModules)) with
    | false => rw [z] at h; cases h
    | true =>
      rw [z] at h
      have h := Option.some.inj h
      simp only [Bool.and_eq_true, decide_eq_true_eq, Bool.not_eq_true'] at z
      obtain ⟨z1, z2, z3⟩ := z
      have e2 : sl = #[] := Array.isEmpty_iff.mp z2
      subst z1 e2
      refine ⟨es, n, ⟨q, ents_lit h, z3⟩, fun y => ?_⟩
      have e : PySem.W.nsIn K a y = (match es.toList.find? (fun e => e.key.isStr y) with
          | some e => some (some e.val)
          | none => if es.toList.any (fun e => e.refKey) then none else some none) := by
        unfold PySem.W.nsIn
        rw [q]
        rfl
      rcases ents_find y h with ⟨i, t, e0, k1, k2, k3⟩ | ⟨k1, k2, k3⟩
      · rw [e, k2]
        exact ⟨_, rfl, .inl ⟨i, t, k1, by rw [k3]⟩⟩
      · rw [e, k2, k3]
        exact ⟨_, rfl, .inr ⟨k1, rfl⟩⟩
  · cases h
abbrev AlI : Type := He.AlD × List (Option (List (Option (Str × Int × Int))))
def obsI (fa : List He.Fa) (fn : List He.DefD) (ts : List (Str × List (Str × Int))) (K : PySem.W.Frag) : AlI := (He.obsD fa fn K, ts.map fun t => dicI K (He.ga K t.1))
def valI (fn : List He.DefD) (ts : List (Str × List (Str × Int))) (w : World) : AlI := (He.valD fn, ts.map fun t => some (entsIn w.params t.2))
def obsIG (n : Nat) (fa : List He.Fa) (fn : List He.DefD) (ts : List (Str × List (Str × Int))) (g : Addr → Option Obj) : AlI := obsI fa fn ts (He.frG g (He.asD g n))
def SaysI (fa : List He.Fa) (fn : List He.DefD) (ts : List (Str × List (Str × Int))) (w : World) (K : PySem.W.Frag) : Prop := obsI fa fn ts K = valI fn ts w
def hookI (n : Nat) (fa : List He.Fa) (fn : List He.DefD) (ts : List (Str × List (Str × Int))) : PySem.W.Hook where
  α := AlI
  obs := fun s => obsIG n fa fn ts s.heap.get?
  val := fun w => valI fn ts w
  says := fun w h => ∃ K : PySem.W.Frag, K.In h ∧ SaysI fa fn ts w K
  of := fun _ _ e => ⟨_, He.frG_in, e⟩
  keeps := fun _ _ _ ⟨K, hK, c⟩ k => ⟨K, PySem.W.Frag.In.keeps hK k, c⟩
theorem obsIG_eq {n : Nat} {fa : List He.Fa} {fn : List He.DefD} {ts : List (Str × List (Str × Int))} {g : Addr → Option Obj} {s : Shared} (h : ∀ a, g a = s.heap.get? a) : obsIG n fa fn ts g = (hookI n fa fn ts).obs s := by
  have e : g = s.heap.get? := funext h
  rw [e] <;> rfl
/-- whole numbers that the module's names stand for -/
def intsOf : List (Str × Int) → Str → Option D
  | [], _ => none
  | q :: qs, x => if q.1 = x then some (.int q.2) else intsOf qs x
theorem intsOf_mem {x : Str} {d : D} : ∀ {cs : List (Str × Int)}, intsOf cs x = some d → ∃ i, d = .int i ∧ (x, i) ∈ cs
  | q :: qs, h => by
    unfold intsOf at h
    split at h
    · rename_i e; cases h; subst e; exact ⟨q.2, rfl, List.mem_cons_self⟩
    · obtain ⟨i, e, m⟩ := intsOf_mem h; exact ⟨i, e, List.mem_cons_of_mem _ m⟩
def tabsOf : List (Str × List (Str × Int)) → Str → Option (List (Str × Int))
  | [], _ => none
  | q :: qs, x => if q.1 = x then some q.2 else tabsOf qs x
theorem tabsOf_mem {x : Str} {d : List (Str × Int)} : ∀ {ts : List (Str × List (Str × Int))}, tabsOf ts x = some d → (x, d) ∈ ts
  | q :: qs, h => by
    unfold tabsOf at h
    split at h
    · rename_i e; cases h; subst e; exact List.mem_cons_self
    · exact List.mem_cons_of_mem _ (tabsOf_mem h)
def facL (P : List DefR) (cs : List (Str × Int)) (ts : List (Str × List (Str × Int))) : List He.Fa := P.map (fun r => He.Fa.glo r.name) ++ (bltNames.map He.Fa.free ++ (cs.map (fun q => He.Fa.int q.1 q.2) ++ ts.map fun t => He.Fa.glo t.1))
theorem says_fact {fa : List He.Fa} {fn : List He.DefD} {ts : List (Str × List (Str × Int))} {w : World} {K : PySem.W.Frag} (c : SaysI fa fn ts w K) {f : He.Fa} (h : f ∈ fa) : f.ok K = true := by
  have d : He.SaysD fa fn K := congrArg (fun z : AlI => z.1) c
  obtain ⟨i, hi, e⟩ := List.mem_iff_getElem.mp h
  exact d.fact i (f := f) (by rw [List.getElem?_eq_getElem hi, e])
theorem says_def {fa : List He.Fa} {fn : List He.DefD} {ts : List (Str × List (Str × Int))} {w : World} {K : PySem.W.Frag} (c : SaysI fa fn ts w K) {d : He.DefD} (h : d ∈ fn) : ∃ fd, FunD K d.name d.qual d.params d.body d.scope (d.dvs K) (d.kws K) (He.fAd K d.at_) fd := by
  have dd : He.SaysD fa fn K := congrArg (fun z : AlI => z.1) c
  obtain ⟨i, hi, e⟩ := List.mem_iff_getElem.mp h
  exact dd.def_ i (d := d) (by rw [List.getElem?_eq_getElem hi, e])
theorem says_tab {fa : List He.Fa} {fn : List He.DefD} {ts : List (Str × List (Str × Int))} {w : World} {K : PySem.W.Frag} (c : SaysI fa fn ts w K) {t : Str × List (Str × Int)} (h : t ∈ ts) : dicI K (He.ga K t.1) = some (entsIn w.params t.2) := by
  have e : ts.map (fun t => dicI K (He.ga K t.1)) = ts.map fun t => some (entsIn w.params t.2) := congrArg (fun z : AlI => z.2) c
  obtain ⟨i, hi, q⟩ := List.mem_iff_getElem.mp h
  have e2 : (ts.map fun t => dicI K (He.ga K t.1))[i]? = (ts.map fun t => some (entsIn w.params t.2))[i]? := by rw [e]
  rw [List.getElem?_map, List.getElem?_map, List.getElem?_eq_getElem hi, q] at e2
  exact Option.some.inj e2
def Bds (r : DefR) : Prop := ∀ (kV doc pm : Value) (an : Option Addr) (cdv ct : Value) (us : List Value), us.length = r.ps.length → bindArgs (PySem.W.fnOf r.name r.name (defArgs r.st) (defBody r.st) (defScope r.st) .none kV doc pm an cdv ct) ⟨us, []⟩ = pure (r.ps.zip us)
/-- what the head's facts tell of the defs of P -/
theorem says_in {P : List DefR} {fa : List He.Fa} {fn : List He.DefD} {ts : List (Str × List (Str × Int))} {w : World} {K : PySem.W.Frag} (c : SaysI fa fn ts w K) (h1 : ∀ r ∈ P, He.Fa.glo r.name ∈ fa) (h2 : ∀ r ∈ P, ddOf r ∈ fn) (hbd : ∀ r ∈ P, Bds r) (hlaw : ∀ r ∈ P, r.name = "law" → r.ps = (["script"] : List Str)) :
    ∀ r ∈ P, ∃ f fd, DefIn K r f fd ∧ (r.name = "law" → ∀ (s : Shared) (v : Value), BindsTo s fd ⟨[v], []⟩ [(("script" : Str), v)]) := fun r hm => by
  obtain ⟨fd, F⟩ := says_def c (h2 r hm)
  obtain ⟨⟨oc, od, dV, kV, doc, pm, an, cdv, ct, osl, e1, e2, e3, e4, e5⟩, kp⟩ := F
  have hd : dV = .none := by
    rcases e4 with ⟨_, z⟩ | ⟨z, _⟩
    · exact z
    · exact absurd rfl z
  subst hd
  subst e1
  have a : PySem.W.nsIn K mainGlobals r.name = some (some (.ref (He.ga K r.name))) := He.eqO_ok (says_fact c (f := .glo r.name) (h1 r hm))
  exact defIn_mk a e2 e3 kp (hbd r hm) (hlaw r hm)
/-- a program without lambdas -/
def flatG (cs : List (Str × Int)) (ts : List (Str × List (Str × Int))) : Gl := ⟨intsOf cs, tabsOf ts, fun _ => none, none, 0, fun _ => none⟩
theorem says_gok [Tbs] {prog : Program} {P Q : List DefR} {cs : List (Str × Int)} {ts : List (Str × List (Str × Int))} {w : World} {K : PySem.W.Frag} {h : Heap} {mg : Str → Option Value} (X : K.In h) (G : h.Ns mainGlobals mg) (hok : ∀ r ∈ P, DefOk r) (hin : ∀ r ∈ P, ∃ f fd, DefIn K r f fd)
    (hnd : (cs.all fun q => !(q.1 == ("__debug__" : Str))) = true ∧ (ts.all fun q => !(q.1 == ("__debug__" : Str))) = true) (c : SaysI (facL Q cs ts) (Q.map ddOf) ts w K) (base : Heap) : GOk P (flatG cs ts) prog w K mg base := by
  refine gok_mk X G hok hin (fun x hx => ?_) (fun x d e => ?_) (fun d kvs e => ?_) (fun _ => rfl) rfl (fun _ => rfl) base
  · exact He.eqO_ok (says_fact c (f := .free x) (by unfold facL; exact List.mem_append_right _ (List.mem_append_left _ (List.mem_map.mpr ⟨x, hx, rfl⟩))))
  · obtain ⟨i, e1, hm⟩ := intsOf_mem e
    subst e1
    have q := says_fact c (f := .int x i) (by unfold facL; exact List.mem_append_right _ (List.mem_append_right _ (List.mem_append_left _ (List.mem_map.mpr ⟨(x, i), hm, rfl⟩))))
    have hx := List.all_eq_true.mp hnd.1 _ hm
    have q : (match PySem.W.nsIn K mainGlobals x with
      | some (some (.int j _)) => decide (j = i)
      | _ => false) = true := q
    split at q
    · rename_i j t e2
      have := of_decide_eq_true q
      subst this
      exact ⟨.int j, .int j t, e2, ⟨t, rfl⟩, fun H => .int j, by simpa using hx⟩
    · cases q
  · have hm := tabsOf_mem e
    have a : PySem.W.nsIn K mainGlobals d = some (some (.ref (He.ga K d))) := He.eqO_ok (says_fact c (f := .glo d) (by unfold facL; exact List.mem_append_right _ (List.mem_append_right _ (List.mem_append_right _ (List.mem_map.mpr ⟨(d, kvs), hm, rfl⟩)))))
    obtain ⟨es, m, k1, k2⟩ := dicI_ok (says_tab c hm)
    have hx := List.all_eq_true.mp hnd.2 _ hm
    exact ⟨_, es, m, a, k1, k2, by simpa using hx⟩
theorem fac_glo {Q : List DefR} {cs : List (Str × Int)} {ts : List (Str × List (Str × Int))} {r : DefR} (h : r ∈ Q) : He.Fa.glo r.name ∈ facL Q cs ts := by unfold facL; exact List.mem_append_left _ (List.mem_map.mpr ⟨r, h, rfl⟩)
theorem dom_none {H : Hp} : @Dom tbs0 [] H := @Dom.mk tbs0 [] H (fun p hp => (by cases hp)) (fun p hp => (by cases hp)) trivial
theorem walk2 {l : PySem.W.OpenLaw} {P : List DefR} {cs : List (Str × Int)} {ts : List (Str × List (Str × Int))} {n m : Nat} {q : Program} {loose : List Str} {XP : (Str → Option Value) → Heap → Prop} {d : DefRec} {r : DefR} (hn : l.most = some 63) (hdf : d.params.defaults = []) (hnm : d.name = ("law" : Str)) (hr : Room n callerA)
    (hfr : findR "law" P = some r) (hps : r.ps = (["script"] : List Str)) (hok : ∀ r ∈ P, DefOk r) (hbd : ∀ r ∈ P, Bds r) (hnd : (cs.all fun q => !(q.1 == ("__debug__" : Str))) = true ∧ (ts.all fun q => !(q.1 == ("__debug__" : Str))) = true) (hl : ∀ r ∈ P, r.name = "law" → r.ps = (["script"] : List Str))
    (hlaw : ∀ ns : List Int, ns.length ≤ 63 → phi P (flatG cs ts) n "law" [.scr ns] = some (.bl true)) :
    PySem.W.WalkO q loose XP (hookI m (facL P cs ts) (P.map ddOf) ts).says l.row.toRowW d [] (fun f vs => PySem.call f vs) := by
  refine L2.walk_ofE (l := l) (n := 63) (k := n) (x := "script") (CX := L2.CX0) hn (by decide) hdf hr ?_ (fun _ _ _ _ z => z)
  intro w mg fa h Y G hmg
  obtain ⟨K, KX, c⟩ := Y
  rw [hnm] at hmg
  have hin := says_in (P := P) c (fun r hm => fac_glo hm) (fun r hm => List.mem_map.mpr ⟨r, hm, rfl⟩) hbd hl
  obtain ⟨fd, hb, hF⟩ := law_mk (l := l) (P := P) (gl := flatG cs ts) (w := w) (n := n) (Bs := fun _ => True) KX G hmg hfr hps hin (fun base _ => says_gok KX G hok (fun r hm => let ⟨f, fd, h, _⟩ := hin r hm; ⟨f, fd, h⟩) hnd c base)
  rw [show (flatG cs ts).m0 + n = n from Nat.zero_add n] at hF
  exact ⟨K, fd, _, KX, hb, fun H a ns hl2 _ hS => sp_law dom_none hl2 hS (hlaw ns hl2) _, fun base _ _ => hF base trivial⟩
end Sw
/-! ## the head and the end of a law whose defs make lambdas -/
namespace Sw
open PySem L2
/-- an empty table -/
def emT : Option Obj → Bool
  | some ⟨.none, none, .fields a, sl⟩ => a.isEmpty && sl.isEmpty
  | _ => false
theorem emT_inv {o : Option Obj} (h : emT o = true) : o = some { cls := .none, data := .fields #[] } := by
  unfold emT at h
  split at h
  · rename_i a sl
    obtain ⟨h1, h2⟩ := Bool.and_eq_true_iff.mp h
    rw [Array.isEmpty_iff.mp h1, Array.isEmpty_iff.mp h2]
  · cases h
/-- the makers' code objects and tables -/
def tabL (K : PySem.W.Frag) (g : Addr → Option Obj) : List Str → Option (List (Str × Addr × Addr))
  | [] => some []
  | x :: xs => match PySem.W.tabIn K x, tabL K g xs with
    | some cp, some l => if ((K.lookup cp.2).isNone && (PySem.W.codeHdIn K cp.1 cp.2 && (emT (g cp.2) && l.all fun q => !(q.2.2 == cp.2)))) = true then some ((x, cp) :: l) else none
    | _, _ => none
structure TabOk (K : PySem.W.Frag) (g : Addr → Option Obj) (ms : List Str) (l : List (Str × Addr × Addr)) : Prop where
  at_ : ∀ q ∈ l, PySem.W.tabIn K q.1 = some q.2 ∧ K.lookup q.2.2 = none ∧ PySem.W.codeHdIn K q.2.1 q.2.2 = true ∧ g q.2.2 = some { cls := .none, data := .fields #[] }
  all : ∀ x ∈ ms, ∃ q ∈ l, q.1 = x
  inj : ∀ q ∈ l, ∀ q' ∈ l, q.2.2 = q'.2.2 → q.1 = q'.1
theorem tabL_inv {K : PySem.W.Frag} {g : Addr → Option Obj} : ∀ {ms : List Str} {l : List (Str × Addr × Addr)}, tabL K g ms = some l → TabOk K g ms l
  | [], l, h => by cases h; exact ⟨fun q hq => (by cases hq), fun x hx => (by cases hx), fun q hq => (by cases hq)⟩
  | x :: xs, l, h => by
    simp only [tabL] at h
    split at h
    · rename_i cp l' h1 h2
      obtain ⟨h3, h4⟩ := if_inv h
      cases h4
      obtain ⟨k1, k2, k3⟩ := tabL_inv h2
      simp only [Bool.and_eq_true, List.all_eq_true, Bool.not_eq_true'] at h3
      obtain ⟨h5, h6, h7, h8⟩ := h3
      have hno : K.lookup cp.2 = none := by simpa using h5
      have hne : ∀ q ∈ l', q.2.2 ≠ cp.2 := fun q hq z => by
        have := h8 q hq
        rw [z] at this; simp at this
      refine ⟨fun q hq => ?_, fun y hy => ?_, fun q hq q' hq' e => ?_⟩
      · rcases List.mem_cons.mp hq with z | z
        · rw [z]; exact ⟨h1, hno, h6, emT_inv h7⟩
        · exact k1 q z
      · rcases List.mem_cons.mp hy with z | z
        · rw [z]; exact ⟨_, List.mem_cons_self, rfl⟩
        · obtain ⟨q, a, b⟩ := k2 y z; exact ⟨q, List.mem_cons_of_mem _ a, b⟩
      · rcases List.mem_cons.mp hq with z | z <;> rcases List.mem_cons.mp hq' with z' | z'
        · rw [z, z']
        · exact absurd (by rw [← e, z]) (hne q' z')
        · exact absurd (by rw [e, z']) (hne q z)
        · exact k3 q z q' z' e
    · cases h
theorem tabIn_inv {K : PySem.W.Frag} {x : Str} {c P f : Addr} (h : PySem.W.tabIn K x = some (c, P)) (hf : PySem.W.nsIn K mainGlobals x = some (some (.ref f))) : ∀ o od fd osl, K.lookup f = some ⟨o, od, .func fd, osl⟩ → fd.code = .ref c := fun o od fd osl lk => by
  unfold PySem.W.tabIn at h
  rw [hf] at h
  simp only [lk] at h
  split at h
  · rename_i c' hc
    split at h
    · split at h
      · cases h; exact hc
      · cases h
    · cases h
  · cases h
abbrev AlT : Type := AlI × Bool
/-- what the head reaches, but no empty table -/
def asT (g : Addr → Option Obj) (n : Nat) : List Addr := (He.asD g n).filter fun a => !emT (g a)
def obsTG (n : Nat) (fa : List He.Fa) (fn : List He.DefD) (ts : List (Str × List (Str × Int))) (ms : List Str) (g : Addr → Option Obj) : AlT := (obsI fa fn ts (He.frG g (asT g n)), (tabL (He.frG g (asT g n)) g ms).isSome)
def hookT (n : Nat) (fa : List He.Fa) (fn : List He.DefD) (ts : List (Str × List (Str × Int))) (ms : List Str) : PySem.W.Hook where
  α := AlT
  obs := fun s => obsTG n fa fn ts ms s.heap.get?
  val := fun w => (valI fn ts w, true)
  says := fun w h => ∃ (K : PySem.W.Frag) (l : List (Str × Addr × Addr)), K.In h ∧ SaysI fa fn ts w K ∧ TabOk K h.get? ms l
  of := fun w s e => by
    have e1 : SaysI fa fn ts w _ := congrArg (fun z : AlT => z.1) e
    have e2 : (tabL _ s.heap.get? ms).isSome = true := congrArg (fun z : AlT => z.2) e
    obtain ⟨l, hl⟩ := Option.isSome_iff_exists.mp e2
    exact ⟨_, l, He.frG_in, e1, tabL_inv hl⟩
  keeps := fun _ _ _ ⟨K, l, hK, c, t⟩ k => ⟨K, l, PySem.W.Frag.In.keeps hK k, c, fun q hq => let ⟨a, b, d, e⟩ := t.at_ q hq; ⟨a, b, d, k _ _ e⟩, t.all, t.inj⟩
theorem obsTG_eq {n : Nat} {fa : List He.Fa} {fn : List He.DefD} {ts : List (Str × List (Str × Int))} {ms : List Str} {g : Addr → Option Obj} {s : Shared} (h : ∀ a, g a = s.heap.get? a) : obsTG n fa fn ts ms g = (hookT n fa fn ts ms).obs s := by
  have e : g = s.heap.get? := funext h
  rw [e] <;> rfl
set_option warn.classDefReducibility false
def tbsL (l : List (Str × Addr × Addr)) : Tbs := ⟨l.map fun q => (q.2.2, q.1 ++ ".<locals>." ++ "<lambda>"), fun _ => True, fun _ _ _ h => h⟩
theorem walkT {l : PySem.W.OpenLaw} {P hs : List DefR} {cs : List (Str × Int)} {ts : List (Str × List (Str × Int))} {ms : List Str} {n m hm : Nat} {q : Program} {loose : List Str} {XP : (Str → Option Value) → Heap → Prop} {d : DefRec} {r : DefR} (hn : l.most = some 63) (hdf : d.params.defaults = []) (hnm : d.name = ("law" : Str)) (hr : Room (lowK + 1 + hm + n) callerA)
    (hfr : findR "law" P = some r) (hps : r.ps = (["script"] : List Str)) (hok : ∀ r ∈ P ++ hs, DefOk r) (hbd : ∀ r ∈ P ++ hs, Bds r) (hnd : (cs.all fun q => !(q.1 == ("__debug__" : Str))) = true ∧ (ts.all fun q => !(q.1 == ("__debug__" : Str))) = true) (hl : ∀ r ∈ P ++ hs, r.name = "law" → r.ps = (["script"] : List Str))
    (hms : ∀ r ∈ P, r.lam = true → r.name ∈ ms)
    (hlaw : ∀ ns : List Int, ns.length ≤ 63 → phi P (fullG hs P (flatG cs ts) hm) n "law" [.scr ns] = some (.bl true)) :
    PySem.W.WalkO q loose XP (hookT m (facL (P ++ hs) cs ts) ((P ++ hs).map ddOf) ts ms).says l.row.toRowW d [] (fun f vs => PySem.call f vs) := by
  refine Att.attach_callB hn hdf fun w s₀ s₁ mg mb fa o pm cd doc a vs ns G Y ho hd hcd hmg hobj hints hlen hbits hg => ?_
  obtain ⟨K, tl, KX, c, k1, k2, k3⟩ := Y
  rw [hnm] at hmg
  have hinA := says_in (P := P ++ hs) c (fun r hm => fac_glo hm) (fun r hm => List.mem_map.mpr ⟨r, hm, rfl⟩) hbd hl
  have hin : ∀ r ∈ P, _ := fun r hm => hinA r (List.mem_append_left _ hm)
  have tabs : ∀ p ∈ tl.map (·.2), PySem.W.CodeHd s₁.heap p.1 p.2 ∧ s₁.heap.get? p.2 = some { cls := .none, data := .fields #[] } := fun p hp => by
    obtain ⟨z, hz, rfl⟩ := List.mem_map.mp hp
    obtain ⟨a1, a2, a3, a4⟩ := k1 z hz
    exact ⟨PySem.W.codeHd_of_K KX a3, a4⟩
  letI tb : Tbs := tbsL tl
  have h0 : ∀ (tb : Tbs) (base : Heap), GOk P (noH (flatG cs ts)) l.prog w K mg base := fun tb base => says_gok KX G.T.g (fun r hm => hok r (List.mem_append_left _ hm)) (fun r hm => let ⟨f, fd, h, _⟩ := hin r hm; ⟨f, fd, h⟩) hnd c base
  have hH : ∀ r ∈ hs, DefOk r ∧ ∃ f fd, DefIn K r f fd ∧ mg r.name = some (.ref f) := fun r hm => by
    obtain ⟨f, fd, h, _⟩ := hinA r (List.mem_append_right _ hm)
    exact ⟨hok r (List.mem_append_right _ hm), f, fd, h, PySem.W.mg_of KX G.T.g h.at_⟩
  obtain ⟨fd, hb, hF⟩ := law_mk (l := l) (P := P) (gl := fullG hs P (flatG cs ts) hm) (w := w) (n := n) (Bs := fun base => ∀ p ∈ tl.map (·.2), LamX.TabB base mg p.1 p.2) KX G.T.g hmg hfr hps hin (fun base hB => full_ok h0 hH fun r hr' hlm f hf => by
    obtain ⟨z, hz, ez⟩ := k2 r.name (hms r hr' hlm)
    obtain ⟨a1, a2, a3, a4⟩ := k1 z hz
    obtain ⟨f0, fd0, hd0, _⟩ := hin r hr'
    have e0 := PySem.W.mg_of KX G.T.g hd0.at_
    rw [hf] at e0
    cases e0
    rw [ez] at a1
    refine ⟨z.2.1, z.2.2, tabIn_inv a1 hd0.at_, hB _ (List.mem_map.mpr ⟨z, hz, rfl⟩), ?_, fun p hp e => ?_⟩
    · rw [← ez]; exact List.mem_map.mpr ⟨z, hz, rfl⟩
    · obtain ⟨z', hz', rfl⟩ := List.mem_map.mp hp
      rw [← ez, k3 z' hz' z hz e])
  exact LamX.law_callTs (cs := tl.map (·.2)) KX G.T.g G.T.b G.T.builtins G.T.nolimit hg (fun p hp => (tabs p hp).2) (fun p hp => by
      obtain ⟨z, hz, rfl⟩ := List.mem_map.mp hp
      exact (k1 z hz).2.1) (fun p hp => (tabs p hp).1) G.T.bmain hobj hints (Nat.le_trans hlen (by decide)) hr (fun base _ _ hB => hF base hB) hb
    (fun H hHt hS => sp_law (@Dom.mk tb [] H (fun p hp => (by cases hp)) (fun p hp => by
      obtain ⟨z, hz, rfl⟩ := List.mem_map.mp hp
      exact LamX.TabS.nil (hHt z.2 (List.mem_map.mpr ⟨z, hz, rfl⟩))) trivial) hlen hS (hlaw ns hlen) _) fun H e s' z => z
end Sw
/-! ## a def that raises an error of the program's own -/
namespace Sw
open PySem L2
section
variable [Tbs] [Acs]
def ifTest : Stmt → Expr
  | .If c _ _ _ => c
  | _ => .Name "x" ⟨0, 0, 0, 0⟩
/-- the test at the head of a def -/
noncomputable def tstR (P : List DefR) (gl : Gl) (Φ : Str → List D → Option D) (r : DefR) (as : List D) : Option Bool :=
  (evalD (tabR P gl Φ r) r.N 30 true (defScope r.st) (ifTest (stAt (defBody r.st) 0)) (as.map (fun a => some (Sl.dat a)) ++ List.replicate (r.N.length - as.length) none)).bind asB
def spX (K : PySem.W.Frag) (F : List D → Option Bool) (C : Addr) (n : Nat) : Sp := fun vs H _ E => vs.length = n ∧ ∃ O ds, Dom O H ∧ RepAll K (hid O H) vs ds ∧ F ds = some true ∧ ∀ H', Same H H' → E (.ref C) none H'
theorem pss_never {X : Cx} {st : List Stmt} : PSs X st (fun _ _ _ => False) := ⟨fun _ _ _ _ _ _ h => h.elim⟩
/-- what must be known of the error's class -/
structure ErrC (K : PySem.W.Frag) (mg : Str → Option Value) (ex : Str) (C : Addr) : Prop where
  x : PySem.W.excIn K C [.type "ValueError", .type "Exception", .type "BaseException", .type "object"] "ValueError.__new__" = true
  g : mg ex = some (.ref C)
  k : PySem.W.keepIn K (.ref C) = true
  b : PySem.W.subIn K (.ref C) (.type "BaseException") = some true
  t : PySem.W.typeIn K (.ref C) = some (.type "type")
theorem raise_ok {P : List DefR} {gl : Gl} {prog : Program} {w : World} {K : PySem.W.Frag} {mg : Str → Option Value} {base : Heap} (h0 : GOk P gl prog w K mg base) (n : Nat) {x ex m : Str} {r : DefR} {C : Addr} {j : Nat} {c : Expr} {rest : List Stmt} {p1 p2 p3 p4 p5 : Pos}
    (hr : findR x P = some r) (hl : r.lam = false) (hb : defBody r.st = .If c [.Raise (some (.Call (.Name ex p1) [.Constant (.str m) j p2] [] p3)) none p4] [] p5 :: rest) (hgl : isGl (defScope r.st) ex = true) (hdb : (ex == ("__debug__" : Str)) = false) (he : ErrC K mg ex C) :
    ∃ f fd, DefIn K r f fd ∧ mg x = some (.ref f) ∧ FnOk prog w K mg base (L2.CX prog w) (gl.m0 + n + 1) f fd r.ps (spX K (tstR P gl (phi P gl n) r) C r.ps.length) := by
  obtain ⟨hn, hm⟩ := findR_name hr
  obtain ⟨ok, f, fd, hd, hf⟩ := h0.hP r hm
  rw [hn] at hf
  refine ⟨f, fd, hd, hf, hd.fun_.okX ok.sc (fun vs H Q E h => h.1) fun cdv A outer s H vs Q E hroom h => ?_⟩
  obtain ⟨hlen, O, ds, hO, rep, e, g⟩ := h
  have t := tabR_ok h0 n r (phi_ok h0 n)
  have hlev : levR gl r = fun _ => none := by unfold levR; rw [hl]
  have hX : XOk (tabR P gl (phi P gl n) r) (gl.m0 + n) (cxOf (L2.CX prog w) prog w K mg base r.N r.name (defScope r.st) f cdv A outer s H E) := ⟨rfl, ok.sc.nd, hroom, ok.nm, t.blt, t.gl, t.dg, t.fn, fun F e => (by cases e), t.hof, fun L e => (by
    have z : levR gl r (defScope r.st) = some L := e
    rw [hlev] at z; cases z)⟩
  have pt := ((evalD_ok (T := tabR P gl (phi P gl n) r) (k := gl.m0 + n) r.N 30).1 _ hX rfl c).2
  rw [hb]
  refine ⟨_, pss_cons (ps_if pt (pss_one (ps_raise rfl (takes_of rfl rfl rfl rfl) (pmk_own PySem.F.excBase_ValueError he.x he.g he.k (raises_own he.b he.t) (gl_of hgl) hdb))) pss_nil) pss_never, ?_⟩
  have hc : ifTest (stAt (defBody r.st) 0) = c := by rw [hb]; rfl
  obtain ⟨d, e1, e2⟩ := bind_inv e
  rw [hc] at e1
  have e3 := asB_inv e2
  subst e3
  refine ⟨O, [], _, true, (start_get hO rep).1, e1, fun H' s' => ?_⟩
  show ite (true = true) _ _
  rw [if_pos rfl]
  exact g H' s'
end
/-! ### the head, with more that is known of it -/
abbrev AlX : Type := AlI × Bool
def hookX (n : Nat) (fa : List He.Fa) (fn : List He.DefD) (ts : List (Str × List (Str × Int))) (xb : PySem.W.Frag → Bool) : PySem.W.Hook where
  α := AlX
  obs := fun s => (obsIG n fa fn ts s.heap.get?, xb (He.frG s.heap.get? (He.asD s.heap.get? n)))
  val := fun w => (valI fn ts w, true)
  says := fun w h => ∃ K : PySem.W.Frag, K.In h ∧ SaysI fa fn ts w K ∧ xb K = true
  of := fun w s e => ⟨_, He.frG_in, (congrArg (fun z : AlX => z.1) e : SaysI fa fn ts w _), congrArg (fun z : AlX => z.2) e⟩
  keeps := fun _ _ _ ⟨K, hK, c⟩ k => ⟨K, PySem.W.Frag.In.keeps hK k, c⟩
def obsXG (n : Nat) (fa : List He.Fa) (fn : List He.DefD) (ts : List (Str × List (Str × Int))) (xb : PySem.W.Frag → Bool) (g : Addr → Option Obj) : AlX := (obsIG n fa fn ts g, xb (He.frG g (He.asD g n)))
theorem obsXG_eq {n : Nat} {fa : List He.Fa} {fn : List He.DefD} {ts : List (Str × List (Str × Int))} {xb : PySem.W.Frag → Bool} {g : Addr → Option Obj} {s : Shared} (h : ∀ a, g a = s.heap.get? a) : obsXG n fa fn ts xb g = (hookX n fa fn ts xb).obs s := by
  have e : g = s.heap.get? := funext h
  rw [e] <;> rfl
theorem walkX {l : PySem.W.OpenLaw} {P : List DefR} {gl : Gl} {cs : List (Str × Int)} {ts : List (Str × List (Str × Int))} {xb : PySem.W.Frag → Bool} {n m : Nat} {q : Program} {loose : List Str} {XP : (Str → Option Value) → Heap → Prop} {d : DefRec} {r : DefR} (hn : l.most = some 63) (hdf : d.params.defaults = []) (hnm : d.name = ("law" : Str)) (hr : Room (gl.m0 + n) callerA)
    (hfr : findR "law" P = some r) (hps : r.ps = (["script"] : List Str)) (hok : ∀ r ∈ P, DefOk r) (hbd : ∀ r ∈ P, Bds r) (hnd : (cs.all fun q => !(q.1 == ("__debug__" : Str))) = true ∧ (ts.all fun q => !(q.1 == ("__debug__" : Str))) = true) (hl : ∀ r ∈ P, r.name = "law" → r.ps = (["script"] : List Str))
    (hG : ∀ (w : World) (K : PySem.W.Frag) (mg : Str → Option Value) (h : Heap) (base : Heap), K.In h → h.Ns mainGlobals mg → @GOk tbs0 P (flatG cs ts) l.prog w K mg base → xb K = true → @GOk tbs0 P gl l.prog w K mg base)
    (hlaw : ∀ ns : List Int, ns.length ≤ 63 → phi P gl n "law" [.scr ns] = some (.bl true)) :
    PySem.W.WalkO q loose XP (hookX m (facL P cs ts) (P.map ddOf) ts xb).says l.row.toRowW d [] (fun f vs => PySem.call f vs) := by
  refine L2.walk_ofE (l := l) (n := 63) (k := gl.m0 + n) (x := "script") (CX := L2.CX0) hn (by decide) hdf hr ?_ (fun _ _ _ _ z => z)
  intro w mg fa h Y G hmg
  obtain ⟨K, KX, c, cx⟩ := Y
  rw [hnm] at hmg
  have hin := says_in (P := P) c (fun r hm => fac_glo hm) (fun r hm => List.mem_map.mpr ⟨r, hm, rfl⟩) hbd hl
  obtain ⟨fd, hb, hF⟩ := law_mk (l := l) (P := P) (gl := gl) (w := w) (n := n) (Bs := fun _ => True) KX G hmg hfr hps hin (fun base _ => hG w K mg h base KX G (says_gok KX G hok (fun r hm => let ⟨f, fd, h, _⟩ := hin r hm; ⟨f, fd, h⟩) hnd c base) cx)
  exact ⟨K, fd, _, KX, hb, fun H a ns hl2 _ hS => sp_law dom_none hl2 hS (hlaw ns hl2) _, fun base _ _ => hF base trivial⟩
end Sw
/-! ## a dict of lists that is handed down and written -/
namespace Sw
open PySem L2
def kaE (es : List Ent) : List (Int × Addr) := es.map fun e => (e.1, e.2.1)
def adE (es : List Ent) : List Addr := es.map fun e => e.2.1
section
variable [Tbs]
structure DL (K : PySem.W.Frag) (B O : List Addr) (H : Hp) (p : Addr) (es : List Ent) : Prop where
  pB : p ∈ B
  hp : H p = some (.dK (kvE es))
  ls : ∀ e ∈ es, e.2.1 ∈ B ∧ ∃ xs, H e.2.1 = some (.lst xs) ∧ RepAll K (hid O H) xs e.2.2 ∧ e.2.2.length ≤ lim
  na : (adE es).Nodup
  nk : (es.map fun e => e.1).Nodup
theorem DL.keep {K : PySem.W.Frag} {B O O' : List Addr} {H H' : Hp} {p : Addr} {es : List Ent} (d : DL K B O H p es) (f : ∀ q ∈ B, ∀ u, H q = some u → NT u → H' q = some u) (sm : SameN (hid O H) (hid O' H')) : DL K B O' H' p es where
  pB := d.pB
  hp := f p d.pB _ d.hp nt_dK
  ls := fun e he => by
    obtain ⟨a, xs, b, c, l⟩ := d.ls e he
    exact ⟨a, xs, f _ a _ b nt_lst, c.mono sm, l⟩
  na := d.na
  nk := d.nk
/-- all that stood at the entry, but the lists, stands and is not owned -/
structure FrQ (as : List Addr) (H0 : Hp) (L : List Addr) (H : Hp) : Prop where
  f : ∀ q u, q ∉ as → H0 q = some u → NT u → q ∉ L ∧ H q = some u
  t : TabsX H0 → TabsX H
theorem FrQ.refl (as : List Addr) (H : Hp) : FrQ as H [] H := ⟨fun _ _ _ h _ => ⟨by simp, h⟩, fun t => t⟩
end
section
variable [Tbs] [Acs]
theorem FrQ.step {as : List Addr} {H0 H H' : Hp} {L L' : List Addr} (r : FrQ as H0 L H) (f : FrO L H L' H') : FrQ as H0 L' H' := ⟨fun q u n h nt => let ⟨a, b⟩ := r.f q u n h nt; f.f q u a b nt, fun t => f.t (r.t t)⟩
theorem DL.frO {K : PySem.W.Frag} {B L L' : List Addr} {H H' : Hp} {p : Addr} {es : List Ent} (d : DL K B (L ++ B) H p es) (hd : ∀ q ∈ L, q ∉ B) (f : FrO L H L' H') : DL K B (L' ++ B) H' p es :=
  d.keep (fun q hq u h nt => (f.f q u (fun z => hd q z hq) h nt).2) f.hid
/-- the lists are written by a callee -/
theorem SS.frP {K : PySem.W.Frag} {B L as : List Addr} {H H' : Hp} {σ : St} {ρ : DSt} (r : SS K B L H σ ρ) (ha : ∀ q ∈ as, q ∈ B) (hl : ∀ q ∈ as, ∃ xs, H' q = some (.lst xs)) (f : ∀ q u, q ∉ as → H q = some u → NT u → H' q = some u) (ft : TabsX H → TabsX H') : SS K B L H' σ ρ := by
  have nO : ∀ {q : Addr}, q ∉ L ++ B → q ∉ as := fun {q} n z => n (List.mem_append_right _ (ha q z))
  have nL : ∀ {q : Addr}, q ∈ L → q ∉ as := fun {q} n z => r.dis q n (ha q z)
  have sm : SameN (hid (L ++ B) H) (hid (L ++ B) H') := fun q u h nt => by
    obtain ⟨n, h⟩ := of_hid h
    exact hid_get n (f q u (nO n) h nt)
  refine ⟨⟨r.sr.len, ⟨fun q hq => ?_, ft r.sr.dom.t, Tbs.mono _ _ sm r.sr.dom.r⟩, r.sr.sub, fun i d h => let ⟨v, e, q⟩ := r.sr.dat i d h; ⟨v, e, q.mono sm⟩, fun i ds h => ?_, r.sr.inj, r.sr.act, r.sr.ex.map (fun _ _ _ h => ⟨h, rfl⟩) (fun p o xs hp h => ⟨hp, f p _ (nL hp) h nt_dct⟩) sm⟩, r.dis⟩
  · by_cases c : q ∈ as
    · obtain ⟨xs, e⟩ := hl q c
      exact ⟨_, e, pl_lst⟩
    · obtain ⟨o, e, n⟩ := r.sr.dom.d q hq
      exact ⟨o, f q o c e n.1, n⟩
  · obtain ⟨p, xs, e, hp, q1, t, l⟩ := r.sr.own i ds h
    exact ⟨p, xs, e, hp, f p _ (nL hp) q1 nt_lst, t.mono sm, l⟩
/-- f(.., d) writes the lists of the dict d -/
def spM (K : PySem.W.Frag) (F : List D → MD → Option MD) (n : Nat) : Sp := fun vs H Q _ => vs.length = n ∧ ∃ O vs' ds p es m', vs = vs' ++ [.ref p] ∧ Dom O H ∧ RepAll K (hid O H) vs' ds ∧ DL K O O H p es ∧ F ds (mdE es) = some m' ∧
  ∀ H' es', FrQ (adE es) H [] H' → kaE es' = kaE es → mdE es' = m' → DL K O O H' p es' → Q .non H'
/-- d[i].append(e) -/
def appM (m : MD) (i : Int) (e : D) : Option MD := if (m.any fun q => decide (q.1 = i)) = true then (if (m.all fun q => decide (q.2.length < lim)) = true then some (m.map fun q => if q.1 = i then (q.1, q.2 ++ [e]) else q) else none) else none
/-- an item is put behind the list of a key -/
def appE (es : List Ent) (i : Int) (d : D) : List Ent := es.map fun e => if e.1 = i then (e.1, e.2.1, e.2.2 ++ [d]) else e
theorem appE_ka (es : List Ent) (i : Int) (d : D) : kaE (appE es i d) = kaE es := by
  unfold kaE appE
  rw [List.map_map]
  refine List.map_congr_left fun e _ => ?_
  show ((if e.1 = i then (e.1, e.2.1, e.2.2 ++ [d]) else e).1, (if e.1 = i then (e.1, e.2.1, e.2.2 ++ [d]) else e).2.1) = (e.1, e.2.1)
  split <;> rfl
theorem ad_of_ka {es es' : List Ent} (h : kaE es' = kaE es) : adE es' = adE es := by
  have : ∀ es : List Ent, adE es = (kaE es).map (·.2) := fun es => by unfold adE kaE; rw [List.map_map]; rfl
  rw [this, this, h]
theorem key_of_ka {es es' : List Ent} (h : kaE es' = kaE es) : (es'.map fun e => e.1) = es.map fun e => e.1 := by
  have : ∀ es : List Ent, (es.map fun e => e.1) = (kaE es).map (·.1) := fun es => by unfold kaE; rw [List.map_map]; rfl
  rw [this, this, h]
theorem kv_of_ka {es es' : List Ent} (h : kaE es' = kaE es) : kvE es' = kvE es := by
  have : ∀ es : List Ent, kvE es = (kaE es).map fun q => (Sum.inl q.1, V.ref q.2) := fun es => by unfold kaE kvE; rw [List.map_map]; rfl
  rw [this, this, h]
theorem appE_md (es : List Ent) (i : Int) (d : D) : mdE (appE es i d) = (mdE es).map fun q => if q.1 = i then (q.1, q.2 ++ [d]) else q := by
  unfold mdE appE
  rw [List.map_map, List.map_map]
  refine List.map_congr_left fun e _ => ?_
  show ((if e.1 = i then (e.1, e.2.1, e.2.2 ++ [d]) else e).1, (if e.1 = i then (e.1, e.2.1, e.2.2 ++ [d]) else e).2.2) = if e.1 = i then (e.1, e.2.2 ++ [d]) else (e.1, e.2.2)
  split <;> rfl
theorem nodup_inj {α β : Type} {f : α → β} : ∀ {l : List α}, (l.map f).Nodup → ∀ x ∈ l, ∀ e ∈ l, f x = f e → x = e
  | [], _, x, hx, _, _, _ => by cases hx
  | y :: l, nd, x, hx, e, he, z => by
    have nd' := List.nodup_cons.mp (show (f y :: l.map f).Nodup from nd)
    rcases List.mem_cons.mp hx with h1 | h1
    · rcases List.mem_cons.mp he with h2 | h2
      · rw [h1, h2]
      · rw [h1] at z
        exact absurd (List.mem_map.mpr ⟨e, h2, z.symm⟩) nd'.1
    · rcases List.mem_cons.mp he with h2 | h2
      · rw [h2] at z
        exact absurd (List.mem_map.mpr ⟨x, h1, z⟩) nd'.1
      · exact nodup_inj nd'.2 x h1 e h2 z
theorem DL.app {K : PySem.W.Frag} {B O : List Addr} {H : Hp} {p : Addr} {es : List Ent} {i : Int} {e : Ent} {xs : List V} {v : V} {d : D} (h : DL K B O H p es) (hO : ∀ q ∈ B, q ∈ O) (he : e ∈ es) (hi : e.1 = i) (hx : H e.2.1 = some (.lst xs)) (rx : RepAll K (hid O H) xs e.2.2) (hl : e.2.2.length < lim) (rv : Rep K (hid O H) v d) :
    DL K B O (upd H e.2.1 (.lst (xs ++ [v]))) p (appE es i d) where
  pB := h.pB
  hp := by
    rw [kv_of_ka (appE_ka es i d), upd_ne]
    · exact h.hp
    · intro z
      have := h.hp
      rw [z, hx] at this; cases this
  ls := fun y hy => by
    obtain ⟨x, hx', rfl⟩ := List.mem_map.mp hy
    obtain ⟨a, ys, b, c, l⟩ := h.ls x hx'
    have hid' : hid O (upd H e.2.1 (.lst (xs ++ [v]))) = hid O H := hid_upd_in (hO _ (h.ls e he).1)
    rw [hid']
    by_cases q : x.1 = i
    · have e2 : x = e := nodup_inj h.nk x hx' e he (by rw [q, hi])
      subst e2
      rw [if_pos q]
      exact ⟨a, xs ++ [v], upd_same, rx.append (.cons rv .nil), by rw [List.length_append]; exact hl⟩
    · rw [if_neg q]
      refine ⟨a, ys, ?_, c, l⟩
      have ne : x.2.1 ≠ e.2.1 := fun z => by
        have := nodup_inj (f := fun e : Ent => e.2.1) h.na x hx' e he z
        rw [this] at q
        exact q hi
      rw [upd_ne ne]; exact b
  na := by rw [ad_of_ka (appE_ka es i d)]; exact h.na
  nk := by rw [key_of_ka (appE_ka es i d)]; exact h.nk
/-- what stood, was not owned and is none of the lists stands -/
def FrM (as L : List Addr) (H : Hp) (L' : List Addr) (H' : Hp) : Prop := ∀ q u, q ∉ as → q ∉ L → H q = some u → NT u → q ∉ L' ∧ H' q = some u
theorem FrM.refl (as L : List Addr) (H : Hp) : FrM as L H L H := fun _ _ _ n h _ => ⟨n, h⟩
theorem FrM.of {as L L' : List Addr} {H H' : Hp} (f : FrO L H L' H') : FrM as L H L' H' := fun q u _ n h nt => f.f q u n h nt
theorem FrM.trans {as L L1 L2 : List Addr} {H H1 H2 : Hp} (a : FrM as L H L1 H1) (b : FrM as L1 H1 L2 H2) : FrM as L H L2 H2 := fun q u x n h nt => let ⟨n1, h1⟩ := a q u x n h nt; b q u x n1 h1 nt
theorem FrM.hid {as L L' B : List Addr} {H H' : Hp} (f : FrM as L H L' H') (ha : ∀ q ∈ as, q ∈ B) : SameN (hid (L ++ B) H) (hid (L' ++ B) H') := fun q u h nt => by
  obtain ⟨n, h⟩ := of_hid h
  simp only [List.mem_append, not_or] at n
  obtain ⟨n1, h1⟩ := f q u (fun z => n.2 (ha q z)) n.1 h nt
  exact hid_get (by simp only [List.mem_append, not_or]; exact ⟨n1, n.2⟩) h1
/-! ### statements that write it -/
variable {X : Cx} {T : Tab} {k : Nat} {pos : Pos}
/-- where a def that was handed the dict stands -/
structure StM (X : Cx) (B as : List Addr) (H0 : Hp) (L : List Addr) (H : Hp) (σ : St) (ρ : DSt) (es : List Ent) : Prop where
  ss : SS X.K B L H σ ρ
  fq : FrQ as H0 L H
  dl : DL X.K B (L ++ B) H Acs.f es
  ad : adE es = as
theorem StM.step {B as : List Addr} {H0 : Hp} {L L' : List Addr} {H H' : Hp} {σ σ' : St} {ρ ρ' : DSt} {es : List Ent} (r : StM X B as H0 L H σ ρ es) (f : FrO L H L' H') (s : SS X.K B L' H' σ' ρ') : StM X B as H0 L' H' σ' ρ' es := ⟨s, r.fq.step f, r.dl.frO r.ss.dis f, r.ad⟩
theorem StM.same {B as : List Addr} {H0 : Hp} {L : List Addr} {H H' : Hp} {σ : St} {ρ : DSt} {es : List Ent} (r : StM X B as H0 L H σ ρ es) (s : Same H H') : StM X B as H0 L H' σ ρ es := r.step (FrO.of_same s) (r.ss.same s)
/-- d[i].append(e) -/
theorem ps_appM {x : Str} {q sp ap cp : Pos} {ke e : Expr} {fk fe : DSt → Option D} {i : Nat} (hX : SOk T k X) (hi : tgIx X.N X.env.scope (.Name x q) = some i) (hk : PE X ke (tD X.K fk)) (he : PE X e (tD X.K fe)) (hn : notStar e = true) (hsl : noSl ke = true) (hl : (ap.endLine == cp.line) = true) :
    PS X (.Expr (.Call (.Attribute (.Subscript (.Name x q) ke sp) "append" ap) [e] [] cp) pos) (fun E σ H => ∃ B as H0 L ρ es j d m', StM X B as H0 L H σ ρ es ∧ ρ[i]? = some (some .act) ∧ fk ρ = some (.int j) ∧ fe ρ = some d ∧ appM (mdE es) j d = some m' ∧
      ∀ L' H' es', StM X B as H0 L' H' σ ρ es' → mdE es' = m' → kaE es' = kaE es → FrM as L H L' H' → E.nx σ H') := by
  obtain ⟨hlo, hN⟩ := loc_of hi
  have hnm := hX.ok.nm x (List.mem_of_getElem? hN)
  have hv : Vis X.env.scope x := by
    rcases hlo with z | z
    · exact .inl z
    · exact .inr (.inl z)
  refine PS.imp (ps_expr (pe_bm PySem.F.plainAttrs_list PySem.F.slot_list_append PySem.F.type_list_append mt_append (pe_dget (by have := hX.ok.units; omega) (pe_var (i := i) hN hv hnm.1 hnm.2) hk (fun ov iv => by cases ke <;> first | rfl | cases hsl)) (pa_cons he pa_nil (star_cons hn _ _)) rfl (few_one hn _ _) hl (star_cons hn _ _) rfl) rfl) fun E σ H ⟨B, as, H0, L, ρ, es, j, d, m', st, ha, e1, e2, e3, n⟩ => ?_
  unfold appM at e3
  obtain ⟨c1, e3⟩ := if_inv e3
  obtain ⟨c2, e3⟩ := if_inv e3
  have e3 := Option.some.inj e3
  obtain ⟨y, hy, hyj⟩ := List.any_eq_true.mp c1
  obtain ⟨en, hen, rfl⟩ := List.mem_map.mp hy
  have hj : en.1 = j := of_decide_eq_true hyj
  have hlen : en.2.2.length < lim := of_decide_eq_true (List.all_eq_true.mp c2 _ hy)
  refine ⟨.ref Acs.f, st.ss.sr.act i ha, L ++ B, L, ρ, .int j, st.ss.sr, e1, fun v H1 s1 r1 => ?_⟩
  cases r1
  have st1 := st.same s1
  refine ⟨Acs.f, V.ref en.2.1, rfl, ?_, ?_⟩
  · have := valV_E st1.dl.nk en hen hj
    rw [← this]
    exact DGet.k (k := Sum.inl j) st1.dl.hp
  · obtain ⟨b1, xs, b2, b3, b4⟩ := st1.dl.ls en hen
    refine ⟨.inl ⟨rfl, xs, .of b2⟩, L ++ B, L, ρ, d, st1.ss.sr, e2, fun v H2 s2 rv => ?_⟩
    have st2 := st1.same s2
    obtain ⟨b1, xs, b2, b3, b4⟩ := st2.dl.ls en hen
    refine ⟨en.2.1, xs, v, rfl, rfl, b2, lim_lt (by rw [b3.length]; omega), ?_⟩
    have dl := st2.dl.app (fun q hq => List.mem_append_right _ hq) hen hj b2 b3 hlen rv
    have nL : en.2.1 ∉ L := fun z => st2.ss.dis _ z b1
    have inas : en.2.1 ∈ as := by rw [← st.ad]; exact List.mem_map.mpr ⟨en, hen, rfl⟩
    refine n L _ (appE es j d) ⟨?_, ⟨fun q u nq h nt => ?_, fun t => tabs_lst b2 (st2.fq.t t)⟩, dl, by rw [ad_of_ka (appE_ka es j d)]; exact st.ad⟩ (by rw [appE_md]; exact e3) (appE_ka es j d) (fun q u nq nl h nt => ⟨nl, by rw [upd_ne fun z => nq (by rw [z]; exact inas)]; exact s2.n q u (s1.n q u h nt) nt⟩)
    · exact st2.ss.frP (as := [en.2.1]) (fun q hq => by rw [List.mem_singleton.mp hq]; exact b1) (fun q hq => by rw [List.mem_singleton.mp hq]; exact ⟨_, upd_same⟩) (fun q u nq h _ => by rw [upd_ne fun z => nq (by rw [z]; exact List.mem_singleton.mpr rfl)]; exact h) (tabs_lst b2)
    · obtain ⟨a, b⟩ := st2.fq.f q u nq h nt
      exact ⟨a, by rw [upd_ne fun z => nq (by rw [z]; exact inas)]; exact b⟩
/-- f(.., d) -/
theorem ps_callM {g x : Str} {gp xp cp : Pos} {a0 : Expr} {as1 : List Expr} {ev : Expr → DSt → Option D} {i : Nat} {fa : Addr} {fd : FuncData} {ps : List Str} {F : List D → MD → Option MD} (hX : SOk T k X) (hE : ∀ e, PE X e (tD X.K (ev e))) (hi : tgIx X.N X.env.scope (.Name x xp) = some i) (hix : ixOf X.N x = some i)
    (hst : (a0 :: as1).all notStar = true) (FG : FnOk X.prog X.w X.K X.mg X.base CX0 k fa fd ps (spM X.K F ps.length)) (hg : L2.Gl X g) (hm : X.mg g = some (.ref fa)) (hk : PySem.W.keepIn X.K (.ref fa) = true) (hb : Binds X.K fd ps []) (hd : (g == ("__debug__" : Str)) = false) (hlen : ∀ ds m m', F ds m = some m' → ds.length + 1 = ps.length) :
    PS X (.Expr (.Call (.Name g gp) ((a0 :: as1) ++ [.Name x xp]) [] cp) pos) (fun E σ H => ∃ B as H0 L ρ es ds m', StM X B as H0 L H σ ρ es ∧ ρ[i]? = some (some .act) ∧ evs ev (a0 :: as1) ρ = some ds ∧ F ds (mdE es) = some m' ∧
      ∀ L' H' es', StM X B as H0 L' H' σ ρ es' → mdE es' = m' → kaE es' = kaE es → FrM as L H L' H' → E.nx σ H') := by
  obtain ⟨hlo, hN⟩ := loc_of hi
  have hv : Vis X.env.scope x := by
    rcases hlo with z | z
    · exact .inl z
    · exact .inr (.inl z)
  have pa := pa_act (p := xp) hX.ok hE hix hv (a0 :: as1) hst
  have hall := notStar_app (p := xp) (x := x) hst
  obtain ⟨h1, h2⟩ := Bool.and_eq_true_iff.mp (show (notStar a0 && (as1 ++ [Expr.Name x xp]).all notStar) = true from hall)
  refine PS.imp (ps_expr (pe_call FG hX.ok.room hg hm hk hb .nil pass0 pa hd (star_cons h1 _ _) (star_any _ _ _ h2)) rfl) fun E σ H ⟨B, as, H0, L, ρ, es, ds, m', st, ha, e1, e2, n⟩ => ?_
  refine ⟨L ++ B, L, ρ, ds, st.ss.sr, e1, ha, fun vs H1 s1 r1 => ?_⟩
  have st1 := st.same s1
  show spM X.K F ps.length ((vs ++ [.ref Acs.f]) ++ []) H1 _ E0
  rw [List.append_nil]
  have dlO : DL X.K (L ++ B) (L ++ B) H1 Acs.f es := ⟨List.mem_append_right _ st1.dl.pB, st1.dl.hp, fun e he => let ⟨a, b⟩ := st1.dl.ls e he; ⟨List.mem_append_right _ a, b⟩, st1.dl.na, st1.dl.nk⟩
  refine ⟨by rw [List.length_append, r1.length]; exact hlen _ _ _ e2, L ++ B, vs, ds, Acs.f, es, m', rfl, st1.ss.sr.dom, r1, dlO, e2, fun H' es' fq ka md dl' => ?_⟩
  have haB : ∀ q ∈ adE es, q ∈ B := fun q hq => by
    obtain ⟨e, he, rfl⟩ := List.mem_map.mp hq
    exact (st1.dl.ls e he).1
  have hl' : ∀ q ∈ adE es, ∃ xs, H' q = some (.lst xs) := fun q hq => by
    rw [← ad_of_ka ka] at hq
    obtain ⟨e, he, rfl⟩ := List.mem_map.mp hq
    obtain ⟨_, xs, b, _⟩ := dl'.ls e he
    exact ⟨xs, b⟩
  have hf : ∀ q u, q ∉ adE es → H1 q = some u → NT u → H' q = some u := fun q u a b c => (fq.f q u a b c).2
  have ss' := st1.ss.frP haB hl' hf fq.t
  refine n L H' es' ⟨ss', ⟨fun q u nq h nt => ?_, fun t => fq.t (st1.fq.t t)⟩, ⟨st1.dl.pB, dl'.hp, fun e he => ?_, dl'.na, dl'.nk⟩, by rw [ad_of_ka ka]; exact st.ad⟩ md ka fun q u nq nl h nt => ⟨nl, hf q u (by rw [st.ad]; exact nq) (s1.n q u h nt) nt⟩
  · obtain ⟨a, b⟩ := st1.fq.f q u nq h nt
    exact ⟨a, hf q u (by rw [st.ad]; exact nq) b nt⟩
  · obtain ⟨a, b⟩ := dl'.ls e he
    refine ⟨?_, b⟩
    have : e.2.1 ∈ adE es := by rw [← ad_of_ka ka]; exact List.mem_map.mpr ⟨e, he, rfl⟩
    exact haB _ this
end
/-! ### a def that writes it, and calls itself -/
def asgV : Stmt → Expr
  | .Assign _ e _ => e
  | _ => .Name "x" ⟨0, 0, 0, 0⟩
def forIt : Stmt → Expr
  | .For _ it _ _ _ => it
  | _ => .Name "x" ⟨0, 0, 0, 0⟩
def calArgs : Stmt → List Expr
  | .Expr (.Call _ as _ _) _ => as.dropLast
  | _ => []
def appKey : Stmt → Expr
  | .Expr (.Call (.Attribute (.Subscript _ ke _) _ _) _ _ _) _ => ke
  | _ => .Name "x" ⟨0, 0, 0, 0⟩
def appArg : Stmt → Expr
  | .Expr (.Call _ (e :: _) _ _) _ => e
  | _ => .Name "x" ⟨0, 0, 0, 0⟩
/-- the slots of a def that was handed the dict as its last -/
def slM (N : List Str) (ds : List D) : DSt := ds.map (fun a => some (Sl.dat a)) ++ (some Sl.act :: List.replicate (N.length - (ds.length + 1)) none)
def loopM (ev : Expr → DSt → Option D) (as : List Expr) (Ψ : List D → MD → Option MD) : List D → DSt → MD → Option MD
  | [], _, m => some m
  | d :: ds, ρ, m => (evs ev as (ρ.set 7 (some (.dat d)))).bind fun xs => (Ψ xs m).bind fun m' => loopM ev as Ψ ds (ρ.set 7 (some (.dat d))) m'
noncomputable def stMx (ev : Ev) (N : List Str) (sc : Scope) (e0 c1 c2 c3 ka ce : Expr) (as1 : List Expr) (it : Expr) (as2 : List Expr) (Ψ : List D → MD → Option MD) (ds : List D) (m : MD) : Option MD :=
  if ds.length + 1 = 5 then
  (ev false sc e0 (slM N ds)).bind fun d =>
  ((ev true sc c1 ((slM N ds).set 5 (some (.dat d)))).bind asB).bind fun b1 => if b1 = true then some m else
  ((ev true sc c2 ((slM N ds).set 5 (some (.dat d)))).bind asB).bind fun b2 => if b2 = true then
    (((ev true sc c3 ((slM N ds).set 5 (some (.dat d)))).bind asB).bind fun b3 => if b3 = true then ((ev false sc ka ((slM N ds).set 5 (some (.dat d)))).bind asI).bind fun j =>
      (ev false sc ce ((slM N ds).set 5 (some (.dat d)))).bind fun e => appM m j e else some m).bind fun m1 =>
    (evs (ev false sc) as1 ((slM N ds).set 5 (some (.dat d)))).bind fun xs => Ψ xs m1
  else (iterX N (ev false sc) sc false it ((slM N ds).set 5 (some (.dat d)))).bind fun its =>
    loopM (ev false sc) as2 Ψ its ((slM N ds).set 5 (some (.dat d))) m
  else none
section
variable [tbi : Tbs]
theorem settings_okx {P : List DefR} {gl : Gl} {prog : Program} {w : World} {K : PySem.W.Frag} {mg : Str → Option Value} {base : Heap} (h0 : GOk P gl prog w K mg base) (n : Nat) {r : DefR} {Ψ : List D → MD → Option MD} {f : Addr} {fd : FuncData} (hok : DefOk r) (hd : DefIn K r f fd) (hf : mg r.name = some (.ref f)) (hl : r.lam = false) (hps : r.ps.length = 5) (hN : r.N.length = 8)
    {e0 c1 c2 c3 ka ce it a0 b0 : Expr} {as1 as2 : List Expr} {q0 q1 q2 q3 q4 q5 q6 q7 q8 q9 q10 q11 q12 q13 q14 q15 q16 q17 q18 q19 q20 : Pos}
    (hb : defBody r.st = [.Assign [.Name "at" q0] e0 q1, .If c1 [.Return none q2] [] q3, .If c2 [.If c3 [.Expr (.Call (.Attribute (.Subscript (.Name "found" q4) ka q5) "append" q6) [ce] [] q7) q8] [] q9, .Expr (.Call (.Name r.name q10) ((a0 :: as1) ++ [.Name "found" q11]) [] q12) q13] [.For (.Name "setting" q14) it [.Expr (.Call (.Name r.name q15) ((b0 :: as2) ++ [.Name "found" q16]) [] q17) q18] [] q19] q20])
    (hF : ixOf r.N "found" = some 4) (hFt : ∀ q, tgIx r.N (defScope r.st) (.Name "found" q) = some 4) (hA : ∀ q, tgIx r.N (defScope r.st) (.Name "at" q) = some 5) (hS : ∀ q, tgIx r.N (defScope r.st) (.Name "setting" q) = some 7) (hG : isGl (defScope r.st) r.name = true)
    (hce : notStar ce = true) (hka : noSl ka = true) (hq : (q6.endLine == q7.line) = true) (h1 : (a0 :: as1).all notStar = true) (h2 : (b0 :: as2).all notStar = true) (hit : setless it = true)
    (hsw : ∀ X : Cx, X.env.scope = defScope r.st → swapsWith e0 (some (.Name "at" q0)) q1.line X.env = pure false)
    (hΨ : ∀ ds m m', Ψ ds m = some m' → ds.length + 1 = 5) (ih : FnOk prog w K mg base CX0 (gl.m0 + n) f fd r.ps (spM K Ψ 5)) :
    FnOk prog w K mg base CX0 (gl.m0 + n + 1) f fd r.ps (spM K (stMx (evalD (tabR P gl (phi P gl n) r) r.N 30) r.N (defScope r.st) e0 c1 c2 c3 ka ce (a0 :: as1) it (b0 :: as2) Ψ) 5) := by
  have ih : FnOk prog w K mg base CX0 (gl.m0 + n) f fd r.ps (spM K Ψ r.ps.length) := by rw [hps]; exact ih
  refine hd.fun_.ok hok.sc (fun vs H Q E h => by rw [hps]; exact h.1) fun cdv A outer s H vs Q E hroom h => ?_
  obtain ⟨hlen, O, vs', ds, p, es, m', rfl, hO, rep, dl, e, g⟩ := h
  letI ac : Acs := ⟨p⟩
  have t := tabR_ok h0 n r (phi_ok h0 n)
  have hlev : levR gl r = fun _ => none := by unfold levR; rw [hl]
  have hX : SOk (tabR P gl (phi P gl n) r) (gl.m0 + n) (cxOf CX0 prog w K mg base r.N r.name (defScope r.st) f cdv A outer s H E).nox := ⟨⟨rfl, hok.sc.nd, hroom, hok.nm, t.blt, t.gl, t.dg, t.fn, fun F e => (by cases e), t.hof, fun L e => (by
    have z : levR gl r (defScope r.st) = some L := e
    rw [hlev] at z; cases z)⟩, fun _ => rfl, rfl, hok.sc.kind⟩
  have hE : ∀ e, PE (cxOf CX0 prog w K mg base r.N r.name (defScope r.st) f cdv A outer s H E).nox e (tD K (evalD (tabR P gl (phi P gl n) r) r.N 30 false (defScope r.st) e)) := fun e => ((evalD_ok (T := tabR P gl (phi P gl n) r) (k := gl.m0 + n) r.N 30).1 _ hX.ok rfl e).1
  have hT : ∀ e, PT (cxOf CX0 prog w K mg base r.N r.name (defScope r.st) f cdv A outer s H E).nox e (tT K (evalD (tabR P gl (phi P gl n) r) r.N 30 true (defScope r.st) e)) := fun e => ((evalD_ok (T := tabR P gl (phi P gl n) r) (k := gl.m0 + n) r.N 30).1 _ hX.ok rfl e).2
  have hns := (evalD_ok (T := tabR P gl (phi P gl n) r) (k := gl.m0 + n) r.N 30).2 (defScope r.st)
  rw [hb]
  refine ⟨_, (pss_cons (asg_plain hX (hE e0) (hsw _ rfl) 5 (hA q0)) (pss_cons (ps_if (hT c1) (pss_one ps_retN) pss_nil) (pss_one (ps_if (hT c2)
    (pss_cons (ps_if (hT c3) (pss_one (ps_appM hX (hFt q4) (hE ka) (hE ce) hce hka hq)) pss_nil) (pss_one (ps_callM (F := Ψ) hX hE (hFt q11) hF h1 ih (gl_of hG) hf hd.fun_.kp hd.binds hok.db (fun ds m m' z => by rw [hps]; exact hΨ ds m m' z))))
    (pss_one (ps_for (by rw [hX.xe]; exact PassesOwn.never) rfl (di_x (tg := .Name "setting" q14) hX.ok hns hE) (dg_all (t := .nm 7) hX.ok (by show (tgIx r.N (defScope r.st) (.Name "setting" q14)).map Tg.nm = _; rw [hS]; rfl) (stOk hX _) fun es k0 p0 z => by cases z)
      (pss_one (ps_callM (F := Ψ) hX hE (hFt q16) hF h2 ih (gl_of hG) hf hd.fun_.kp hd.binds hok.db (fun ds m m' z => by rw [hps]; exact hΨ ds m m' z))) (setless_folded hit _))))))), ?_⟩
  have hds : ds.length + 1 = 5 := by
    have h1 := rep.length
    have h2 : (vs' ++ [V.ref p]).length = 5 := hlen
    rw [List.length_append, List.length_singleton] at h2
    omega
  unfold stMx at e
  rw [if_pos hds] at e
  obtain ⟨d, e1, e⟩ := bind_inv e
  obtain ⟨b1, e2, e⟩ := bind_inv e
  have slen : (slM r.N ds).length = 8 := by unfold slM; simp; omega
  have act0 : (slM r.N ds)[4]? = some (some .act) := by
    unfold slM
    rw [List.getElem?_append_right (by rw [List.length_map]; omega), List.length_map, show 4 - ds.length = 0 by omega]; rfl
  have st0 : StM (cxOf CX0 prog w K mg base r.N r.name (defScope r.st) f cdv A outer s H E).nox O (adE es) H [] H (L2.start r.N (vs' ++ [.ref p])) (slM r.N ds) es := ⟨start_getH hO rep, FrQ.refl _ _, dl, rfl⟩
  have fin : ∀ {L : List Addr} {H' : Hp} {σ' : St} {ρ' : DSt} {es' : List Ent}, StM (cxOf CX0 prog w K mg base r.N r.name (defScope r.st) f cdv A outer s H E).nox O (adE es) H L H' σ' ρ' es' → mdE es' = m' → kaE es' = kaE es → Q .non H' := fun {L H' σ' ρ' es'} st md ka =>
    g H' es' ⟨fun q u a b c => ⟨by simp, (st.fq.f q u a b c).2⟩, st.fq.t⟩ ka md (st.dl.keep (fun q _ u h _ => h) (hid_sub fun q hq => List.mem_append_right _ hq))
  refine ⟨[] ++ O, [], slM r.N ds, d, st0.ss.sr, e1, fun v H1 s1 r1 => ?_⟩
  have st1 : StM (cxOf CX0 prog w K mg base r.N r.name (defScope r.st) f cdv A outer s H E).nox O (adE es) H [] H1 ((L2.start r.N (vs' ++ [.ref p])).set 5 (some v)) ((slM r.N ds).set 5 (some (.dat d))) es := st0.step (FrO.of_same s1) ((st0.ss.same s1).setDat 5 r1)
  have act1 : ((slM r.N ds).set 5 (some (.dat d)))[4]? = some (some .act) := by rw [List.getElem?_set_ne (by decide)]; exact act0
  generalize (slM r.N ds).set 5 (some (.dat d)) = ρ1 at st1 act1 e2 e
  show tSeq _ _ _ ((L2.start r.N (vs' ++ [.ref p])).set 5 (some v)) H1
  generalize (L2.start r.N (vs' ++ [.ref p])).set 5 (some v) = σ1 at st1 ⊢
  obtain ⟨x1, ex1, ea1⟩ := bind_inv e2
  have z1 := asB_inv ea1
  subst z1
  refine ⟨[] ++ O, [], ρ1, b1, st1.ss.sr, ex1, fun H2 s2 => ?_⟩
  have st2 := st1.same s2
  show ite (b1 = true) _ _
  cases b1 with
  | true =>
    rw [if_pos rfl]
    exact fin st2 (Option.some.inj e) rfl
  | false =>
    rw [if_neg Bool.false_ne_true] at e ⊢
    obtain ⟨b2, e3, e⟩ := bind_inv e
    obtain ⟨x2, ex2, ea2⟩ := bind_inv e3
    have z2 := asB_inv ea2
    subst z2
    refine ⟨[] ++ O, [], ρ1, b2, st2.ss.sr, ex2, fun H3 s3 => ?_⟩
    have st3 := st2.same s3
    show ite (b2 = true) _ _
    cases b2 with
    | true =>
      rw [if_pos rfl] at e ⊢
      obtain ⟨m1, e4, e⟩ := bind_inv e
      obtain ⟨xs, e5, e6⟩ := bind_inv e
      obtain ⟨b3, e7, e8⟩ := bind_inv e4
      obtain ⟨x3, ex3, ea3⟩ := bind_inv e7
      have z3 := asB_inv ea3
      subst z3
      refine ⟨[] ++ O, [], ρ1, b3, st3.ss.sr, ex3, fun H4 s4 => ?_⟩
      have st4 := st3.same s4
      show ite (b3 = true) _ _
      cases b3 with
      | true =>
        rw [if_pos rfl] at e8 ⊢
        obtain ⟨j, e9, e10⟩ := bind_inv e8
        obtain ⟨y, ey, ej⟩ := bind_inv e9
        have zj := asI_inv ej
        subst zj
        obtain ⟨u, eu, e11⟩ := bind_inv e10
        exact ⟨O, adE es, H, [], ρ1, es, j, u, m1, st4, act1, ey, eu, e11, fun L' H' es' st' md ka _ => ⟨O, adE es, H, L', ρ1, es', xs, m', st', act1, e5, by rw [md]; exact e6, fun L2 H5 es2 st5 md2 ka2 _ => fin st5 md2 (ka2.trans ka)⟩⟩
      | false =>
        rw [if_neg Bool.false_ne_true] at e8 ⊢
        have md := Option.some.inj e8
        exact ⟨O, adE es, H, [], ρ1, es, xs, m', st4, act1, e5, by rw [md]; exact e6, fun L2 H5 es2 st5 md2 ka2 _ => fin st5 md2 ka2⟩
    | false =>
      rw [if_neg Bool.false_ne_true] at e ⊢
      obtain ⟨its, e4, e5⟩ := bind_inv e
      refine ⟨[] ++ O, [], ρ1, its, st3.ss.sr, e4, fun J H4 s4 hlen4 hJ => ?_⟩
      have st4 := st3.same s4
      have haB : ∀ q ∈ adE es, q ∈ O := fun q hq => by
        obtain ⟨en, he, rfl⟩ := List.mem_map.mp hq
        exact (dl.ls en he).1
      refine ⟨fun i mm σ2 H5 => mm = its.length - i ∧ i ≤ its.length ∧ ∃ L2 ρ2 es2, StM (cxOf CX0 prog w K mg base r.N r.name (defScope r.st) f cdv A outer s H E).nox O (adE es) H L2 H5 σ2 ρ2 es2 ∧ kaE es2 = kaE es ∧ FrM (adE es) [] H4 L2 H5 ∧ ρ2[4]? = some (some .act) ∧ loopM (evalD (tabR P gl (phi P gl n) r) r.N 30 false (defScope r.st)) (b0 :: as2) Ψ (its.drop i) ρ2 (mdE es2) = some m', ⟨its.length, by simp, Nat.zero_le _, [], ρ1, es, st4, rfl, FrM.refl _ _ _, act1, e5⟩, ?_⟩
      rintro i mm σ2 H5 ⟨rfl, hi', L2, ρ2, es2, st5, ka5, fm, act5, e6⟩
      have sm3 : SameN (hid ([] ++ O) H4) (hid (L2 ++ O) H5) := fm.hid haB
      obtain ⟨jgo, jstop⟩ := hJ H5 (sm3.trans hid_le) i
      by_cases hlt : i < its.length
      · obtain ⟨hgo, hyld⟩ := jgo its[i] (List.getElem?_eq_getElem hlt)
        refine .inr ⟨hgo, fun σ' H' => i + 1 ≤ its.length ∧ ∃ L3 ρ3 es3, StM (cxOf CX0 prog w K mg base r.N r.name (defScope r.st) f cdv A outer s H E).nox O (adE es) H L3 H' σ' ρ3 es3 ∧ kaE es3 = kaE es ∧ FrM (adE es) [] H4 L3 H' ∧ ρ3[4]? = some (some .act) ∧ loopM (evalD (tabR P gl (phi P gl n) r) r.N 30 false (defScope r.st)) (b0 :: as2) Ψ (its.drop (i + 1)) ρ3 (mdE es3) = some m', fun σ' H' w => ⟨its.length - (i + 1), by omega, rfl, w⟩, fun x H' y => ?_⟩
        obtain ⟨sm4, rx⟩ := hyld x H' y
        have rx := rx (L2 ++ O) st5.ss.sr.dom sm3
        rw [List.drop_eq_getElem_cons hlt] at e6
        obtain ⟨xs, e7, e6⟩ := bind_inv (show (evs _ _ _).bind _ = some m' from e6)
        obtain ⟨m2, e8, e6⟩ := bind_inv e6
        refine ⟨L2 ++ O, L2, ρ2, its[i], _, st5.ss.sr.same sm4, rx, rfl, fun σ3 s3' _ => ?_⟩
        have st6 : StM (cxOf CX0 prog w K mg base r.N r.name (defScope r.st) f cdv A outer s H E).nox O (adE es) H L2 H' σ3 (ρ2.set 7 (some (.dat its[i]))) es2 := (st5.same sm4).step (FrO.refl _ _) ⟨s3', st5.ss.dis⟩
        have act6 : (ρ2.set 7 (some (.dat its[i])))[4]? = some (some .act) := by rw [List.getElem?_set_ne (by decide)]; exact act5
        exact ⟨O, adE es, H, L2, _, es2, xs, m2, st6, act6, e7, e8, fun L7 H7 es7 st7 md7 ka7 fm7 => ⟨hlt, L7, _, es7, st7, ka7.trans ka5, fm.trans ((FrM.of (FrO.of_same sm4)).trans fm7), act6, by rw [md7]; exact e6⟩⟩
      · have hi2 : i = its.length := by omega
        subst hi2
        rw [List.drop_length] at e6
        exact .inl ⟨jstop (Nat.le_refl _) (Nat.le_refl _), fin st5 (Option.some.inj e6) ka5⟩
end
end Sw
/-! ## a def that makes a dict of lists, hands it down and reads it -/
namespace Sw
open PySem L2
section
variable [Tbs] [Acs]
theorem hid_perm {O O' : List Addr} {H : Hp} (h : ∀ q, q ∈ O ↔ q ∈ O') : hid O H = hid O' H := by
  funext q
  unfold hid
  by_cases c : q ∈ O
  · rw [if_pos c, if_pos ((h q).mp c)]
  · rw [if_neg c, if_neg fun z => c ((h q).mpr z)]
theorem SR.perm {K : PySem.W.Frag} {O O' L : List Addr} {H : Hp} {σ : St} {ρ : DSt} (r : SR K O L H σ ρ) (h : ∀ q, q ∈ O ↔ q ∈ O') : SR K O' L H σ ρ := by
  have e := hid_perm (H := H) h
  exact ⟨r.len, ⟨fun p hp => r.dom.d p ((h p).mpr hp), r.dom.t, by rw [← e]; exact r.dom.r⟩, fun p hp => (h p).mp (r.sub p hp), fun i d q => by rw [← e]; exact r.dat i d q, fun i ds q => by rw [← e]; exact r.own i ds q, r.inj, r.act, r.ex.map (fun _ _ _ h => ⟨h, rfl⟩) (fun p o xs hp h => ⟨hp, h⟩) (by rw [e]; exact SameN.refl _)⟩
/-- less is hidden -/
theorem SS.less {K : PySem.W.Frag} {B B' L : List Addr} {H : Hp} {σ : St} {ρ : DSt} (r : SS K B L H σ ρ) (h : ∀ q ∈ B', q ∈ B) : SS K B' L H σ ρ := by
  have sub : ∀ q ∈ L ++ B', q ∈ L ++ B := fun q hq => by
    rcases List.mem_append.mp hq with z | z
    · exact List.mem_append_left _ z
    · exact List.mem_append_right _ (h q z)
  have sm : SameN (hid (L ++ B) H) (hid (L ++ B') H) := hid_sub sub
  exact ⟨⟨r.sr.len, ⟨fun p hp => r.sr.dom.d p (sub p hp), r.sr.dom.t, Tbs.mono _ _ sm r.sr.dom.r⟩, fun p hp => List.mem_append_left _ hp, fun i d q => let ⟨v, a, b⟩ := r.sr.dat i d q; ⟨v, a, b.mono sm⟩, fun i ds q => let ⟨p, xs, a, b, c, d, e⟩ := r.sr.own i ds q; ⟨p, xs, a, b, c, d.mono sm, e⟩, r.sr.inj, r.sr.act, r.sr.ex.map (fun _ _ _ h => ⟨h, rfl⟩) (fun p o xs hp h => ⟨hp, h⟩) sm⟩, fun q hq z => r.dis q hq (h q z)⟩
/-- one more is hidden, new -/
theorem SS.hide {K : PySem.W.Frag} {B L : List Addr} {H : Hp} {σ : St} {ρ : DSt} {a : Addr} {o : HO} (r : SS K B L H σ ρ) (ha : H a = none) (hn : Pl a o) : SS K (a :: B) L (upd H a o) σ ρ := by
  have nL : a ∉ L := fun z => r.sr.dom.ne (List.mem_append_left _ z) ha
  refine ⟨(r.sr.more ha hn).perm fun q => ?_, fun q hq z => ?_⟩
  · simp only [List.mem_cons, List.mem_append]
    constructor
    · rintro (h | h | h)
      · exact .inr (.inl h)
      · exact .inl h
      · exact .inr (.inr h)
    · rintro (h | h | h)
      · exact .inr (.inl h)
      · exact .inl h
      · exact .inr (.inr h)
  · rcases List.mem_cons.mp z with z | z
    · exact nL (by rw [← z]; exact hq)
    · exact r.dis q hq z
/-- where the maker stands -/
structure StP (X : Cx) (O : List Addr) (H0 : Hp) (B L : List Addr) (H : Hp) (σ : St) (ρ : DSt) (es : List Ent) : Prop where
  ss : SS X.K B L H σ ρ
  fq : FrQ [] H0 L H
  dl : DL X.K B (L ++ B) H Acs.f es
  ob : ∀ q ∈ O, q ∈ B
  nw : ∀ q ∈ adE es, ∀ u, H0 q = some u → NT u → False
  np : ∀ u, H0 Acs.f = some u → NT u → False
variable {X : Cx} {T : Tab} {k : Nat} {pos : Pos}
theorem StP.step {O B : List Addr} {H0 : Hp} {L L' : List Addr} {H H' : Hp} {σ σ' : St} {ρ ρ' : DSt} {es : List Ent} (r : StP X O H0 B L H σ ρ es) (f : FrO L H L' H') (s : SS X.K B L' H' σ' ρ') : StP X O H0 B L' H' σ' ρ' es := ⟨s, r.fq.step f, r.dl.frO r.ss.dis f, r.ob, r.nw, r.np⟩
theorem StP.same {O B : List Addr} {H0 : Hp} {L : List Addr} {H H' : Hp} {σ : St} {ρ : DSt} {es : List Ent} (r : StP X O H0 B L H σ ρ es) (s : Same H H') : StP X O H0 B L H' σ ρ es := r.step (FrO.of_same s) (r.ss.same s)
theorem DL.new {K : PySem.W.Frag} {B L : List Addr} {H : Hp} {p a : Addr} {es : List Ent} {j : Int} (h : DL K B (L ++ B) H p es) (ha : H a = none) (nL : a ∉ L) (hj : j ∉ es.map fun e => e.1) :
    DL K (a :: B) (L ++ (a :: B)) (upd (upd H a (.lst [])) p (.dK (kvE (es ++ [(j, a, [])])))) p (es ++ [(j, a, [])]) := by
  have np : p ≠ a := fun z => by
    have := h.hp
    rw [z, ha] at this; cases this
  have sm : SameN (hid (L ++ B) H) (hid (L ++ (a :: B)) (upd (upd H a (.lst [])) p (.dK (kvE (es ++ [(j, a, [])]))))) := fun q u hq nt => by
    obtain ⟨n, hq⟩ := of_hid hq
    simp only [List.mem_append, not_or] at n
    have n1 : q ≠ a := ne_of_none hq ha
    have n2 : q ≠ p := fun z => n.2 (by rw [z]; exact h.pB)
    exact hid_get (by simp only [List.mem_append, List.mem_cons, not_or]; exact ⟨n.1, n1, n.2⟩) (by rw [upd_ne n2, upd_ne n1]; exact hq)
  refine ⟨List.mem_cons_of_mem _ h.pB, upd_same, fun e he => ?_, ?_, ?_⟩
  · rcases List.mem_append.mp he with he | he
    · obtain ⟨b1, xs, b2, b3, b4⟩ := h.ls e he
      have n1 : e.2.1 ≠ a := ne_of_none b2 ha
      have n2 : e.2.1 ≠ p := fun z => by
        have := h.hp
        rw [← z, b2] at this; cases this
      exact ⟨List.mem_cons_of_mem _ b1, xs, by rw [upd_ne n2, upd_ne n1]; exact b2, b3.mono sm, b4⟩
    · rw [List.mem_singleton.mp he]
      exact ⟨List.mem_cons_self, [], by rw [upd_ne (fun z => np z.symm)]; exact upd_same, .nil, Nat.zero_le _⟩
  · unfold adE
    rw [List.map_append]
    refine List.nodup_append.mpr ⟨h.na, by simp, fun x hx y hy z => ?_⟩
    simp at hy
    subst hy
    obtain ⟨e, he, rfl⟩ := List.mem_map.mp hx
    obtain ⟨_, xs, b2, _⟩ := h.ls e he
    rw [z, ha] at b2
    cases b2
  · rw [List.map_append]
    refine List.nodup_append.mpr ⟨h.nk, by simp, fun x hx y hy z => ?_⟩
    simp at hy
    subst hy
    exact hj (by rw [← z]; exact hx)
/-- d[j] = [] -/
theorem ps_putM {x : Str} {q sp lp : Pos} {ke : Expr} {fk : DSt → Option D} {i : Nat} (hX : SOk T k X) (hi : tgIx X.N X.env.scope (.Name x q) = some i) (hk : PE X ke (tD X.K fk)) (hsw : swapsWith (.List [] lp) (some (.Subscript (.Name x q) ke sp)) pos.line X.env = pure false) :
    PS X (.Assign [.Subscript (.Name x q) ke sp] (.List [] lp) pos) (fun E σ H => ∃ O H0 B L ρ es j, StP X O H0 B L H σ ρ es ∧ ρ[i]? = some (some .act) ∧ fk ρ = some (.int j) ∧ j ∉ (es.map fun e => e.1) ∧ es.length < 1000 ∧
      ∀ B' H' es', StP X O H0 B' L H' σ ρ es' → mdE es' = mdE es ++ [(j, [])] → SameN (hid (L ++ B) H) (hid (L ++ B') H') → E.nx σ H') := by
  obtain ⟨hlo, hN⟩ := loc_of hi
  have hnm := hX.ok.nm x (List.mem_of_getElem? hN)
  have hv : Vis X.env.scope x := by
    rcases hlo with z | z
    · exact .inl z
    · exact .inr (.inl z)
  refine PS.imp (ps_dput (by have := hX.ok.units; omega) (pe_var (i := i) hN hv hnm.1 hnm.2) hk (pe_lst pa_nil) hsw) fun E σ H ⟨O, H0, B, L, ρ, es, j, st, ha, e1, hj, hl, n⟩ => ?_
  refine ⟨Nat.zero_le _, fun a hn => ⟨.ref Acs.f, st.ss.sr.act i ha, ?_⟩⟩
  have nL : a ∉ L := fun z => st.ss.sr.dom.ne (List.mem_append_left _ z) hn
  have ss1 := st.ss.hide (o := .lst []) hn pl_lst
  refine ⟨L ++ (a :: B), L, ρ, .int j, ss1.sr, e1, fun v H2 s2 r2 => ?_⟩
  cases r2
  have np : Acs.f ≠ a := fun z => by
    have := st.dl.hp
    rw [z, hn] at this; cases this
  have hp1 : (upd H a (.lst [])) Acs.f = some (.dK (kvE es)) := by rw [upd_ne np]; exact st.dl.hp
  have hp2 : H2 Acs.f = some (.dK (kvE es)) := s2.n _ _ hp1 nt_dK
  have ek : putK (kvE es) (Sum.inl j) (V.ref a) = kvE (es ++ [(j, a, [])]) := by
    unfold putK
    rw [if_neg]
    · unfold kvE; rw [List.map_append]; rfl
    · intro z
      obtain ⟨y, hy, hz⟩ := List.any_eq_true.mp z
      obtain ⟨e, he, rfl⟩ := List.mem_map.mp hy
      have : (Sum.inl e.1 : Key) = Sum.inl j := of_decide_eq_true hz
      exact hj (List.mem_map.mpr ⟨e, he, Sum.inl.inj this⟩)
  refine ⟨Acs.f, _, rfl, DPut.k (k := Sum.inl j) hp2 (by unfold kvE; rw [List.length_map, sizeLine_eq]; omega), ?_⟩
  rw [ek]
  have aB : Acs.f ∈ a :: B := List.mem_cons_of_mem _ st.dl.pB
  have ss2 := (ss1.same s2)
  have hid2 : hid (L ++ (a :: B)) (upd H2 Acs.f (.dK (kvE (es ++ [(j, a, [])])))) = hid (L ++ (a :: B)) H2 := hid_upd_in (List.mem_append_right _ aB)
  have sm : SameN (hid (L ++ B) H) (hid (L ++ (a :: B)) (upd H2 Acs.f (.dK (kvE (es ++ [(j, a, [])]))))) := by
    rw [hid2]
    intro q u hq nt
    obtain ⟨nq, hq⟩ := of_hid hq
    simp only [List.mem_append, not_or] at nq
    have n1 : q ≠ a := ne_of_none hq hn
    exact hid_get (by simp only [List.mem_append, List.mem_cons, not_or]; exact ⟨nq.1, n1, nq.2⟩) (s2.n q u (by rw [upd_ne n1]; exact hq) nt)
  refine n (a :: B) _ (es ++ [(j, a, [])]) ⟨?_, ⟨fun q u _ h nt => ?_, fun t => tabs_dK hp2 (s2.t ((same_upd hn).t (st.fq.t t)))⟩, ?_, fun q hq => List.mem_cons_of_mem _ (st.ob q hq), fun q hq => ?_, st.np⟩ (by unfold mdE; rw [List.map_append]; rfl) sm
  · refine ⟨ss2.sr.chg (List.mem_append_right _ aB) (fun z => ss2.dis _ z aB) pl_dK (tabs_dK hp2), ss2.dis⟩
  · obtain ⟨b1, b2⟩ := st.fq.f q u (by simp) h nt
    have n1 : q ≠ a := ne_of_none b2 hn
    have n2 : q ≠ Acs.f := fun z => by rw [z] at h; exact st.np u h nt
    exact ⟨b1, by rw [upd_ne n2]; exact s2.n q u (by rw [upd_ne n1]; exact b2) nt⟩
  · refine (st.dl.new hn nL hj).keep (fun q _ u h nt => ?_) ?_
    · by_cases z : q = Acs.f
      · rw [z, upd_same] at h ⊢; exact h
      · rw [upd_ne z] at h ⊢
        exact s2.n q u h nt
    · rw [hid2, hid_upd_in (List.mem_append_right _ aB)]
      exact hid_same s2
  · unfold adE at hq
    rw [List.map_append] at hq
    rcases List.mem_append.mp hq with z | z
    · exact st.nw q z
    · have : q = a := by simpa using z
      intro u h nt
      rw [this] at h
      have := (st.fq.f a u (by simp) h nt).2
      rw [hn] at this
      cases this
theorem set_inv {ρ : DSt} {i j : Nat} {t : Option Sl} {s : Sl} (h : (ρ.set i t)[j]? = some (some s)) : (i = j ∧ t = some s ∧ i < ρ.length) ∨ (i ≠ j ∧ ρ[j]? = some (some s)) := by
  by_cases hj : i = j
  · subst hj
    by_cases hl : i < ρ.length
    · rw [List.getElem?_set_self hl] at h
      exact .inl ⟨rfl, Option.some.inj h, hl⟩
    · rw [List.getElem?_eq_none (by simpa using hl)] at h; cases h
  · rw [List.getElem?_set_ne hj] at h
    exact .inr ⟨hj, h⟩
/-- a slot holds what was made -/
theorem SS.setAct {K : PySem.W.Frag} {B L : List Addr} {H : Hp} {σ : St} {ρ : DSt} (r : SS K B L H σ ρ) (i : Nat) : SS K B L H (σ.set i (some (.ref Acs.f))) (ρ.set i (some .act)) := by
  have nx : ∀ {j : Nat} {s : Sl}, s ≠ .act → (ρ.set i (some .act))[j]? = some (some s) → ρ[j]? = some (some s) ∧ (σ.set i (some (.ref Acs.f)))[j]? = σ[j]? := fun {j s} ns h => by
    rcases set_inv h with ⟨_, e, _⟩ | ⟨n, e⟩
    · cases e; exact absurd rfl ns
    · exact ⟨e, List.getElem?_set_ne n⟩
  refine ⟨⟨by rw [List.length_set, List.length_set]; exact r.sr.len, r.sr.dom, r.sr.sub, fun j d h => ?_, fun j ds h => ?_, fun j j' ds es p h1 h2 h3 h4 => ?_, fun j h => ?_, r.sr.ex.map (fun j s hs h => nx (fun z => by rw [z] at hs; cases hs) h) (fun p o xs hp h => ⟨hp, h⟩) (SameN.refl _)⟩, r.dis⟩
  · obtain ⟨h1, h2⟩ := nx (fun z => by cases z) h
    rw [h2]; exact r.sr.dat j d h1
  · obtain ⟨h1, h2⟩ := nx (fun z => by cases z) h
    rw [h2]; exact r.sr.own j ds h1
  · obtain ⟨a1, a2⟩ := nx (fun z => by cases z) h1
    obtain ⟨b1, b2⟩ := nx (fun z => by cases z) h2
    rw [a2] at h3; rw [b2] at h4
    exact r.sr.inj j j' ds es p a1 b1 h3 h4
  · rcases set_inv h with ⟨rfl, _, hl⟩ | ⟨n, e⟩
    · exact List.getElem?_set_self (by rw [r.sr.len]; exact hl)
    · rw [List.getElem?_set_ne n]; exact r.sr.act j e
/-- the dict is read from now on -/
theorem SS.toDlf {K : PySem.W.Frag} {B L : List Addr} {H : Hp} {σ : St} {ρ : DSt} {i : Nat} {es : List Ent} (r : SS K B L H σ ρ) (ha : ρ[i]? = some (some .act)) (dv : DV K (hid (L ++ B) H) Acs.f es) : SS K B L H σ (ρ.set i (some (.dlf (mdE es)))) := by
  have nx : ∀ {j : Nat} {s : Sl}, (∀ m, s ≠ .dlf m) → (ρ.set i (some (.dlf (mdE es))))[j]? = some (some s) → ρ[j]? = some (some s) := fun {j s} ns h => by
    rcases set_inv h with ⟨_, e, _⟩ | ⟨n, e⟩
    · cases e; exact absurd rfl (ns _)
    · exact e
  refine ⟨⟨by rw [List.length_set]; exact r.sr.len, r.sr.dom, r.sr.sub, fun j d h => r.sr.dat j d (nx (fun _ z => by cases z) h), fun j ds h => r.sr.own j ds (nx (fun _ z => by cases z) h), fun j j' ds es p h1 h2 => r.sr.inj j j' ds es p (nx (fun _ z => by cases z) h1) (nx (fun _ z => by cases z) h2), fun j h => r.sr.act j (nx (fun _ z => by cases z) h), ⟨fun j ks h => r.sr.ex.dct j ks (nx (fun _ z => by cases z) h), fun j ks h => r.sr.ex.dfz j ks (nx (fun _ z => by cases z) h), fun j j' ks js h1 h2 => r.sr.ex.uni j j' ks js (nx (fun _ z => by cases z) h1) (nx (fun _ z => by cases z) h2), fun j m h => ?_⟩⟩, r.dis⟩
  rcases set_inv h with ⟨rfl, e, _⟩ | ⟨n, e⟩
  · cases e
    exact ⟨Acs.f, es, r.sr.act _ ha, dv, rfl⟩
  · exact r.sr.ex.dlf j m e
theorem putAll_get : ∀ {is : List Nat} {ds : List D} {ρ ρ' : DSt}, putAll is ds ρ = some ρ' → ∀ j, j ∉ is → ρ'[j]? = ρ[j]?
  | [], [], ρ, ρ', h, j, _ => by cases h; rfl
  | [], _ :: _, ρ, ρ', h, j, _ => by cases h
  | _ :: _, [], ρ, ρ', h, j, _ => by cases h
  | i :: is, d :: ds, ρ, ρ', h, j, n => by
    rw [putAll_get (show putAll is ds (ρ.set i (some (.dat d))) = some ρ' from h) j fun z => n (List.mem_cons_of_mem _ z)]
    exact List.getElem?_set_ne fun z => n (by rw [z]; exact List.mem_cons_self)
theorem put_get {is : List Nat} {d : D} {ρ ρ' : DSt} (h : (Tg.tp is).put d ρ = some ρ') (j : Nat) (n : j ∉ is) : ρ'[j]? = ρ[j]? := by
  cases d <;> first | (cases h; done) | exact putAll_get h j n
end
theorem pss_ex {X : Cx} {st : List Stmt} {t : Addr → TS} (h : ∀ p, PSs X st (t p)) : PSs X st (fun E σ H => ∃ p, t p E σ H) := ⟨fun pins s σ H D I ⟨p, q⟩ => (h p).run pins s σ H D I q⟩
def subKey : Stmt → Expr
  | .Assign [.Subscript _ ke _] _ _ => ke
  | _ => .Name "x" ⟨0, 0, 0, 0⟩
/-! ### the def that makes it -/
def loopP (tg : Tg) (fc : DSt → Option Bool) (fk : DSt → Option Int) : List D → DSt → MD → Option (DSt × MD)
  | [], ρ, m => some (ρ, m)
  | d :: ds, ρ, m => (tg.put d ρ).bind fun ρ' => (fc ρ').bind fun b => if b = true then (fk ρ').bind fun j => if (m.any fun q => decide (q.1 = j)) = true then none else if m.length < 1000 then loopP tg fc fk ds ρ' (m ++ [(j, [])]) else none
    else loopP tg fc fk ds ρ' m
def slP (N : List Str) (ds : List D) : DSt := (ds.map (fun a => some (Sl.dat a)) ++ List.replicate (N.length - ds.length) none).set 3 (some .act)
noncomputable def planR (ev : Ev) (ex : Stmt → DSt → Kt → Option D) (N : List Str) (sc : Scope) (it c ke : Expr) (as : List Expr) (rest : List Stmt) (Ψ : List D → MD → Option MD) (ds : List D) : Option D :=
  if ds.length = 3 then
  (iterX N (ev false sc) sc true it (slP N ds)).bind fun its => (loopP (.tp [4, 5]) (fun ρ => (ev true sc c ρ).bind asB) (fun ρ => (ev false sc ke ρ).bind asI) its (slP N ds) []).bind fun z =>
  (evs (ev false sc) as z.1).bind fun xs => (Ψ xs z.2).bind fun m => seqS ex rest (z.1.set 3 (some (.dlf m))) (fun _ => some .non)
  else none
section
variable [tbi : Tbs]
theorem plan_okx {P : List DefR} {gl : Gl} {prog : Program} {w : World} {K : PySem.W.Frag} {mg : Str → Option Value} {base : Heap} (h0 : GOk P gl prog w K mg base) (n : Nat) {r : DefR} {Ψ : List D → MD → Option MD} {f fs : Addr} {fd fds : FuncData} {g : Str} {ps : List Str} (hok : DefOk r) (hd : DefIn K r f fd) (hl : r.lam = false) (hps : r.ps.length = 3) (hN : r.N.length = 9)
    {it c ke a0 : Expr} {as : List Expr} {rest : List Stmt} {q0 q1 q2 q3 q4 q5 q6 q7 q8 q9 q10 q11 q12 q13 q14 q15 q16 : Pos} {tk : Nat} {x1 x2 : Str}
    (hb : defBody r.st = .Assign [.Name "found" q0] (.Dict [] [] q1) q2 :: .For (.Tuple [.Name x1 q3, .Name x2 q4] tk q5) it [.If c [.Assign [.Subscript (.Name "found" q6) ke q7] (.List [] q8) q9] [] q10] [] q11 :: .Expr (.Call (.Name g q12) ((a0 :: as) ++ [.Name "found" q13]) [] q14) q15 :: rest)
    (hF : ixOf r.N "found" = some 3) (hFt : ∀ q, tgIx r.N (defScope r.st) (.Name "found" q) = some 3) (hT2 : tgOf r.N (defScope r.st) (.Tuple [.Name x1 q3, .Name x2 q4] tk q5) = some (.tp [4, 5])) (hG : isGl (defScope r.st) g = true)
    (h1 : (a0 :: as).all notStar = true) (hit : setless it = true) (hgd : (g == ("__debug__" : Str)) = false)
    (hΨ : ∀ ds m m', Ψ ds m = some m' → ds.length + 1 = ps.length) (ih : FnOk prog w K mg base CX0 (gl.m0 + n) fs fds ps (spM K Ψ ps.length)) (hm : mg g = some (.ref fs)) (hk : PySem.W.keepIn K (.ref fs) = true) (hbs : Binds K fds ps []) :
    FnOk prog w K mg base CX0 (gl.m0 + n + 1) f fd r.ps (spD K (planR (evalD (tabR P gl (phi P gl n) r) r.N 30) (execD (tabR P gl (phi P gl n) r) r.N r.mu (defScope r.st)) r.N (defScope r.st) it c ke (a0 :: as) rest Ψ) r.ps.length) := by
  refine hd.fun_.ok hok.sc (fun vs H Q E h => h.1) fun cdv A outer s H vs Q E hroom h => ?_
  obtain ⟨hlen, O, ds, d, hO, rep, e, g'⟩ := h
  have hlev : levR gl r = fun _ => none := by unfold levR; rw [hl]
  have hX : ∀ ac : Acs, SOk (tabR P gl (phi P gl n) r) (gl.m0 + n) (cxOf CX0 prog w K mg base r.N r.name (defScope r.st) f cdv A outer s H E).nox := fun ac => by
    have t := tabR_ok h0 n r (phi_ok h0 n)
    exact ⟨⟨rfl, hok.sc.nd, hroom, hok.nm, t.blt, t.gl, t.dg, t.fn, fun F e => (by cases e), t.hof, fun L e => (by
      have z : levR gl r (defScope r.st) = some L := e
      rw [hlev] at z; cases z)⟩, fun _ => rfl, rfl, hok.sc.kind⟩
  have hX0 := hX ⟨0⟩
  have hE : ∀ (ac : Acs) e, PE (cxOf CX0 prog w K mg base r.N r.name (defScope r.st) f cdv A outer s H E).nox e (tD K (evalD (tabR P gl (phi P gl n) r) r.N 30 false (defScope r.st) e)) := fun ac e => ((evalD_ok (T := tabR P gl (phi P gl n) r) (k := gl.m0 + n) r.N 30).1 _ (hX ac).ok rfl e).1
  have hT : ∀ (ac : Acs) e, PT (cxOf CX0 prog w K mg base r.N r.name (defScope r.st) f cdv A outer s H E).nox e (tT K (evalD (tabR P gl (phi P gl n) r) r.N 30 true (defScope r.st) e)) := fun ac e => ((evalD_ok (T := tabR P gl (phi P gl n) r) (k := gl.m0 + n) r.N 30).1 _ (hX ac).ok rfl e).2
  have hns : ∀ ac : Acs, _ := fun ac => (evalD_ok (T := tabR P gl (phi P gl n) r) (k := gl.m0 + n) r.N 30).2 (defScope r.st)
  rw [hb]
  refine ⟨_, pss_cons (letI : Acs := ⟨0⟩; let ⟨hlo, hNi⟩ := loc_of (X := (cxOf CX0 prog w K mg base r.N r.name (defScope r.st) f cdv A outer s H E).nox) (hFt q0); ps_set hX0.ok.nd hNi hlo pe_dnewK rfl (.inl (hX0.fn _))) (pss_ex fun p => letI ac : Acs := ⟨p⟩; pss_cons
    (ps_for (by rw [(hX ac).xe]; exact PassesOwn.never) rfl (di_x (tg := .Tuple [.Name x1 q3, .Name x2 q4] tk q5) (hX ac).ok (hns ac) (hE ac)) (dg_all (t := .tp [4, 5]) (hX ac).ok hT2 (stOk (hX ac) _) fun es k0 p0 _ e _ => stOk (hX ac) e)
      (pss_one (ps_if (hT ac c) (pss_one (ps_putM (hX ac) (hFt q6) (hE ac ke) rfl)) pss_nil)) (setless_folded hit _))
    (pss_cons (ps_callM (F := Ψ) (hX ac) (hE ac) (hFt q13) hF h1 ih (gl_of hG) hm hk hbs hgd hΨ)
      (pss_seq (fun st' => execD_ok (hX ac) r.mu st') rest))), ?_⟩
  have hds : ds.length = 3 := by
    have h1 := rep.length
    have h2 : vs.length = r.ps.length := hlen
    omega
  unfold planR at e
  rw [if_pos hds] at e
  obtain ⟨its, e1, e⟩ := bind_inv e
  obtain ⟨z, e2, e⟩ := bind_inv e
  obtain ⟨xs, e3, e⟩ := bind_inv e
  obtain ⟨m, e4, e⟩ := bind_inv e
  intro p hp
  refine ⟨p, ?_⟩
  letI ac : Acs := ⟨p⟩
  have ss1 := ((start_get (N := r.N) hO rep).hide (o := .dK []) hp pl_dK).setAct 3
  have act1 : (slP r.N ds)[3]? = some (some .act) := List.getElem?_set_self (by rw [List.length_append, List.length_map, List.length_replicate]; omega)
  have st1 : StP (cxOf CX0 prog w K mg base r.N r.name (defScope r.st) f cdv A outer s H E).nox O H (p :: O) [] (upd H p (.dK [])) ((L2.start r.N vs).set 3 (some (.ref p))) (slP r.N ds) [] := ⟨ss1, ⟨fun q u _ h nt => ⟨by simp, by rw [upd_ne (ne_of_none h hp)]; exact h⟩, (same_upd hp).t⟩, ⟨List.mem_cons_self, upd_same, fun e he => (by cases he), List.nodup_nil, List.nodup_nil⟩, fun q hq => List.mem_cons_of_mem _ hq, fun q hq => (by cases hq), fun u h => (by
    have h : H p = some u := h
    rw [hp] at h; cases h)⟩
  show tSeq _ _ _ ((L2.start r.N vs).set 3 (some (.ref p))) (upd H p (.dK []))
  generalize slP r.N ds = ρ1 at st1 act1 e1 e2
  generalize (L2.start r.N vs).set 3 (some (.ref p)) = σ1 at st1 ⊢
  refine ⟨[] ++ (p :: O), [], ρ1, its, st1.ss.sr, e1, fun J H4 s4 hlen4 hJ => ?_⟩
  have st4 := st1.same s4
  refine ⟨fun i mm σ2 H5 => mm = its.length - i ∧ i ≤ its.length ∧ ∃ B2 ρ2 es2, StP (cxOf CX0 prog w K mg base r.N r.name (defScope r.st) f cdv A outer s H E).nox O H B2 [] H5 σ2 ρ2 es2 ∧ SameN (hid ([] ++ (p :: O)) H4) (hid ([] ++ B2) H5) ∧ ρ2[3]? = some (some .act) ∧ loopP (.tp [4, 5]) (fun ρ => (evalD (tabR P gl (phi P gl n) r) r.N 30 true (defScope r.st) c ρ).bind asB) (fun ρ => (evalD (tabR P gl (phi P gl n) r) r.N 30 false (defScope r.st) ke ρ).bind asI) (its.drop i) ρ2 (mdE es2) = some z, ⟨its.length, by simp, Nat.zero_le _, p :: O, ρ1, [], st4, SameN.refl _, act1, e2⟩, ?_⟩
  rintro i mm σ2 H5 ⟨rfl, hi', B2, ρ2, es2, st5, sm3, act5, e6⟩
  obtain ⟨jgo, jstop⟩ := hJ H5 (sm3.trans hid_le) i
  by_cases hlt : i < its.length
  · obtain ⟨hgo, hyld⟩ := jgo its[i] (List.getElem?_eq_getElem hlt)
    refine .inr ⟨hgo, fun σ' H' => i + 1 ≤ its.length ∧ ∃ B3 ρ3 es3, StP (cxOf CX0 prog w K mg base r.N r.name (defScope r.st) f cdv A outer s H E).nox O H B3 [] H' σ' ρ3 es3 ∧ SameN (hid ([] ++ (p :: O)) H4) (hid ([] ++ B3) H') ∧ ρ3[3]? = some (some .act) ∧ loopP (.tp [4, 5]) (fun ρ => (evalD (tabR P gl (phi P gl n) r) r.N 30 true (defScope r.st) c ρ).bind asB) (fun ρ => (evalD (tabR P gl (phi P gl n) r) r.N 30 false (defScope r.st) ke ρ).bind asI) (its.drop (i + 1)) ρ3 (mdE es3) = some z, fun σ' H' w => ⟨its.length - (i + 1), by omega, rfl, w⟩, fun x H' y => ?_⟩
    obtain ⟨sm4, rx⟩ := hyld x H' y
    have rx := rx ([] ++ B2) st5.ss.sr.dom sm3
    rw [List.drop_eq_getElem_cons hlt] at e6
    obtain ⟨ρ3, e7, e6⟩ := bind_inv (show ((Tg.tp [4, 5]).put _ _).bind _ = some z from e6)
    obtain ⟨b, e8, e6⟩ := bind_inv e6
    obtain ⟨y1, ey1, ea1⟩ := bind_inv e8
    have z1 := asB_inv ea1
    subst z1
    refine ⟨[] ++ B2, [], ρ2, its[i], ρ3, st5.ss.sr.same sm4, rx, e7, fun σ3 s3' _ => ?_⟩
    have st6 : StP (cxOf CX0 prog w K mg base r.N r.name (defScope r.st) f cdv A outer s H E).nox O H B2 [] H' σ3 ρ3 es2 := (st5.same sm4).step (FrO.refl _ _) ⟨s3', st5.ss.dis⟩
    have act6 : ρ3[3]? = some (some .act) := by rw [put_get e7 3 (by decide)]; exact act5
    refine ⟨[] ++ B2, [], ρ3, b, st6.ss.sr, ey1, fun H7 s7 => ?_⟩
    have st7 := st6.same s7
    have sm7 : SameN (hid ([] ++ (p :: O)) H4) (hid ([] ++ B2) H7) := sm3.trans ((hid_same sm4).trans (hid_same s7))
    show ite (b = true) _ _
    cases b with
    | true =>
      rw [if_pos rfl] at e6 ⊢
      obtain ⟨j, e9, e6⟩ := bind_inv e6
      obtain ⟨y2, ey2, ej⟩ := bind_inv e9
      have zj := asI_inv ej
      subst zj
      split at e6
      · cases e6
      · rename_i nj
        obtain ⟨ml, e6⟩ := if_inv e6
        have hj : j ∉ es2.map fun e => e.1 := fun hz => by
          obtain ⟨q, hq, e⟩ := List.mem_map.mp hz
          exact nj (List.any_eq_true.mpr ⟨(q.1, q.2.2), List.mem_map.mpr ⟨q, hq, rfl⟩, decide_eq_true e⟩)
        refine ⟨O, H, B2, [], ρ3, es2, j, st7, act6, ey2, hj, by unfold mdE at ml; rw [List.length_map] at ml; exact ml, fun B8 H8 es8 st8 md8 sm8 => ⟨hlt, B8, ρ3, es8, st8, sm7.trans sm8, act6, by rw [md8]; exact e6⟩⟩
    | false =>
      rw [if_neg Bool.false_ne_true] at e6 ⊢
      exact ⟨hlt, B2, ρ3, es2, st7, sm7, act6, e6⟩
  · have hi2 : i = its.length := by omega
    subst hi2
    rw [List.drop_length] at e6
    have e6 : (ρ2, mdE es2) = z := Option.some.inj e6
    subst e6
    refine .inl ⟨jstop (Nat.le_refl _) (Nat.le_refl _), ?_⟩
    refine ⟨B2, adE es2, H5, [], ρ2, es2, xs, m, ⟨st5.ss, FrQ.refl _ _, st5.dl, rfl⟩, act5, e3, e4, fun L' H' es' stm md ka _ => ?_⟩
    subst md
    have fq : FrQ [] H L' H' := ⟨fun q u _ h nt => let ⟨_, b⟩ := st5.fq.f q u (by simp) h nt; stm.fq.f q u (fun z => st5.nw q z u h nt) b nt, fun t => stm.fq.t (st5.fq.t t)⟩
    have nB : ∀ q ∈ B2, q ∉ L' := fun q hq hz => stm.ss.dis q hz hq
    have nO : ∀ q, (∀ u, H q = some u → NT u → False) → q ∉ O := fun q hq hz => by
      obtain ⟨o, h1, h2⟩ := hO.d q hz
      exact hq o h1 h2.1
    have sm9 : SameN (hid (L' ++ B2) H') (hid (L' ++ O) H') := hid_sub fun q hq => by
      rcases List.mem_append.mp hq with z | z
      · exact List.mem_append_left _ z
      · exact List.mem_append_right _ (st5.ob q z)
    have dv : DV K (hid (L' ++ O) H') p es' := by
      refine ⟨hid_get ?_ stm.dl.hp, fun en hen => ?_, stm.dl.nk⟩
      · simp only [List.mem_append, not_or]
        exact ⟨nB p st5.dl.pB, nO p st5.np⟩
      · obtain ⟨b1, ys, b2, b3, b4⟩ := stm.dl.ls en hen
        refine ⟨ys, hid_get ?_ b2, b3.mono sm9, b4⟩
        simp only [List.mem_append, not_or]
        refine ⟨nB _ b1, nO _ (st5.nw _ ?_)⟩
        rw [← ad_of_ka ka]
        exact List.mem_map.mpr ⟨en, hen, rfl⟩
    refine ⟨O, L', _, fun _ => some .non, d, (stm.ss.less st5.ob).toDlf act5 dv, e, fun ρ9 L9 σ9 H9 f9 s9 e9 => ?_, fun L9 v H9 f9 rv => ?_⟩
    · cases e9
      have fr := fq.step f9
      exact g' .non H9 ⟨fun q u h nt => (fr.f q u (by simp) h nt).2, fr.t⟩ .non
    · have fr := fq.step f9
      exact g' v H9 ⟨fun q u h nt => (fr.f q u (by simp) h nt).2, fr.t⟩ (rv.mono (hid_sub fun q hq => List.mem_append_right _ hq))
end
end Sw
/-! ## lambdas, and defs that are told otherwise, at once -/
namespace Sw
open PySem L2
noncomputable def fullX (hs P : List DefR) (gl : Gl) (m : Nat) (xf : Str → Option (List D → Option D)) (j : Nat) : Gl := ⟨gl.gl, gl.dg, (fullG hs P gl m).hf, (fullG hs P gl m).lv, lowK + 1 + m + j, xf⟩
def XfOk [Tbs] (xf : Str → Option (List D → Option D)) (prog : Program) (w : World) (K : PySem.W.Frag) (mg : Str → Option Value) (base : Heap) (k : Nat) : Prop := ∀ g F, xf g = some F → ∃ a fd ps, FnOk prog w K mg base CX0 k a fd ps (spD K F ps.length) ∧ mg g = some (.ref a) ∧ PySem.W.keepIn K (.ref a) = true ∧ Binds K fd ps [] ∧ (g == ("__debug__" : Str)) = false ∧ g ≠ "__name__" ∧ ∀ ds d, F ds = some d → ds.length = ps.length
theorem full_okX [Tbs] {hs P : List DefR} {gl : Gl} {prog : Program} {w : World} {K : PySem.W.Frag} {mg : Str → Option Value} {xf : Str → Option (List D → Option D)} {m j : Nat} {base : Heap} (h0 : ∀ (tb : Tbs) (base : Heap), GOk P (noH gl) prog w K mg base) (hH : ∀ r ∈ hs, DefOk r ∧ ∃ f fd, DefIn K r f fd ∧ mg r.name = some (.ref f)) (hx : XfOk xf prog w K mg base (lowK + 1 + m + j)) (mk : ∀ r ∈ P, r.lam = true → ∀ f, mg r.name = some (.ref f) → MkF K mg base r.name f) :
    GOk P (fullX hs P gl m xf j) prog w K mg base := by
  have g := full_ok (m := m) h0 hH mk
  refine ⟨g.hP, g.blt, g.hgl, g.hdg, fun x G hg => ?_, g.lev, g.mkf, hx⟩
  obtain ⟨a, fd, ps, h1, h2⟩ := g.hof x G hg
  exact ⟨a, fd, ps, fun tb bs => (h1 tb bs).mono (Nat.le_add_right _ _), h2⟩
theorem walkTX {l : PySem.W.OpenLaw} {P hs : List DefR} {cs : List (Str × Int)} {ts : List (Str × List (Str × Int))} {ms : List Str} {n m hm j : Nat} {xf : Str → Option (List D → Option D)} {q : Program} {loose : List Str} {XP : (Str → Option Value) → Heap → Prop} {d : DefRec} {r : DefR} (hn : l.most = some 63) (hdf : d.params.defaults = []) (hnm : d.name = ("law" : Str)) (hr : Room (lowK + 1 + hm + j + n) callerA)
    (hfr : findR "law" P = some r) (hps : r.ps = (["script"] : List Str)) (hok : ∀ r ∈ P ++ hs, DefOk r) (hbd : ∀ r ∈ P ++ hs, Bds r) (hnd : (cs.all fun q => !(q.1 == ("__debug__" : Str))) = true ∧ (ts.all fun q => !(q.1 == ("__debug__" : Str))) = true) (hl : ∀ r ∈ P ++ hs, r.name = "law" → r.ps = (["script"] : List Str))
    (hms : ∀ r ∈ P, r.lam = true → r.name ∈ ms)
    (hx : ∀ (tb : Tbs) (w : World) (K : PySem.W.Frag) (mg : Str → Option Value) (base : Heap), GOk P (noH (flatG cs ts)) l.prog w K mg base → XfOk xf l.prog w K mg base (lowK + 1 + hm + j))
    (hlaw : ∀ ns : List Int, ns.length ≤ 63 → phi P (fullX hs P (flatG cs ts) hm xf j) n "law" [.scr ns] = some (.bl true)) :
    PySem.W.WalkO q loose XP (hookT m (facL (P ++ hs) cs ts) ((P ++ hs).map ddOf) ts ms).says l.row.toRowW d [] (fun f vs => PySem.call f vs) := by
  refine Att.attach_callB hn hdf fun w s₀ s₁ mg mb fa o pm cd doc a vs ns G Y ho hd hcd hmg hobj hints hlen hbits hg => ?_
  obtain ⟨K, tl, KX, c, k1, k2, k3⟩ := Y
  rw [hnm] at hmg
  have hinA := says_in (P := P ++ hs) c (fun r hm => fac_glo hm) (fun r hm => List.mem_map.mpr ⟨r, hm, rfl⟩) hbd hl
  have hin : ∀ r ∈ P, _ := fun r hm => hinA r (List.mem_append_left _ hm)
  have tabs : ∀ p ∈ tl.map (·.2), PySem.W.CodeHd s₁.heap p.1 p.2 ∧ s₁.heap.get? p.2 = some { cls := .none, data := .fields #[] } := fun p hp => by
    obtain ⟨z, hz, rfl⟩ := List.mem_map.mp hp
    obtain ⟨a1, a2, a3, a4⟩ := k1 z hz
    exact ⟨PySem.W.codeHd_of_K KX a3, a4⟩
  letI tb : Tbs := tbsL tl
  have h0 : ∀ (tb : Tbs) (base : Heap), GOk P (noH (flatG cs ts)) l.prog w K mg base := fun tb base => says_gok KX G.T.g (fun r hm => hok r (List.mem_append_left _ hm)) (fun r hm => let ⟨f, fd, h, _⟩ := hin r hm; ⟨f, fd, h⟩) hnd c base
  have hH : ∀ r ∈ hs, DefOk r ∧ ∃ f fd, DefIn K r f fd ∧ mg r.name = some (.ref f) := fun r hm => by
    obtain ⟨f, fd, h, _⟩ := hinA r (List.mem_append_right _ hm)
    exact ⟨hok r (List.mem_append_right _ hm), f, fd, h, PySem.W.mg_of KX G.T.g h.at_⟩
  obtain ⟨fd, hb, hF⟩ := law_mk (l := l) (P := P) (gl := fullX hs P (flatG cs ts) hm xf j) (w := w) (n := n) (Bs := fun base => ∀ p ∈ tl.map (·.2), LamX.TabB base mg p.1 p.2) KX G.T.g hmg hfr hps hin (fun base hB => full_okX h0 hH (hx _ w K mg base (h0 _ base)) fun r hr' hlm f hf => by
    obtain ⟨z, hz, ez⟩ := k2 r.name (hms r hr' hlm)
    obtain ⟨a1, a2, a3, a4⟩ := k1 z hz
    obtain ⟨f0, fd0, hd0, _⟩ := hin r hr'
    have e0 := PySem.W.mg_of KX G.T.g hd0.at_
    rw [hf] at e0
    cases e0
    rw [ez] at a1
    refine ⟨z.2.1, z.2.2, tabIn_inv a1 hd0.at_, hB _ (List.mem_map.mpr ⟨z, hz, rfl⟩), ?_, fun p hp e => ?_⟩
    · rw [← ez]; exact List.mem_map.mpr ⟨z, hz, rfl⟩
    · obtain ⟨z', hz', rfl⟩ := List.mem_map.mp hp
      rw [← ez, k3 z' hz' z hz e])
  exact LamX.law_callTs (cs := tl.map (·.2)) KX G.T.g G.T.b G.T.builtins G.T.nolimit hg (fun p hp => (tabs p hp).2) (fun p hp => by
      obtain ⟨z, hz, rfl⟩ := List.mem_map.mp hp
      exact (k1 z hz).2.1) (fun p hp => (tabs p hp).1) G.T.bmain hobj hints (Nat.le_trans hlen (by decide)) hr (fun base _ _ hB => hF base hB) hb
    (fun H hHt hS => sp_law (@Dom.mk tb [] H (fun p hp => (by cases hp)) (fun p hp => by
      obtain ⟨z, hz, rfl⟩ := List.mem_map.mp hp
      exact LamX.TabS.nil (hHt z.2 (List.mem_map.mpr ⟨z, hz, rfl⟩))) trivial) hlen hS (hlaw ns hlen) _) fun H e s' z => z
end Sw
/-! ## a list comprehension whose element may raise (by a call) -/
namespace Sw
open PySem PySem.Spec L2
theorem note_frame {e : Value} {a b : Env} (h : a.frame = b.frame) : noteFrame e a = noteFrame e b := by
  unfold noteFrame frameOf
  rw [h]
/-- behind the block: ce is its environment -/
def postX (M : Model) (A : Around) (E : Value → Shared → Prop) (Q : Value → Shared → Prop) (acc : Value) (ce : Env) (r : Result) (t : Shared) : Prop := match r with
  | .ok _ => ∃ m, t.heap.Ns ce.locals m ∧ ∀ g, Heap.SameBut ce.locals t.heap g → Q acc { t with heap := g }
  | .error u => ∃ m, t.heap.Ns ce.locals m ∧ ∀ g, Heap.SameBut ce.locals t.heap g → wpAny M A (passOn "comprehension.variables-let-go" u ce : Sem Value) (fun _ _ => False) E { t with heap := g }
theorem compr_x {M : Model} {A : Around} {E : Value → Shared → Prop} {s : Shared} {env : Env} {e : Expr} {scope : Scope} {pos : Pos} {newAcc first : Sem Value} {g : Comprehension} {gs : List Comprehension} {cl : List (Str × Addr)} {Q : Value → Shared → Prop}
    (c1 : clausesOf e = g :: gs) (c2 : ∀ x, foldedSetIterable g.iter env x = pure x) (c3 : closureFor scope env = pure cl) (c4 : scope.kind = .function) (c5 : ∀ x ∈ scope.names, x.2 = .local → scope.names.lookup x.1 = some .local)
    (h : wpAny M A first (fun x t1 => wpAny M A (pyIter x) (fun it t2 => wpAny M A newAcc (fun acc t3 => wpAny M A (newFunctionEnv scope env.globals cl [] env.qual none .none (some env)) (fun ce t4 =>
      codeAny M A (.compStart e 0 it acc { ce with scope := relabel scope env }) (postX M A E Q acc { ce with scope := relabel scope env }) t4) E t3) E t2) E t1) E s) :
    wpAny M A (comprehension e scope env pos newAcc false first none) Q E s := by
  unfold comprehension
  rw [c3, c1]
  have up : ∀ (P : Value → Shared → Prop) (x : Value) (t : Shared), P x t → P x t := fun _ _ _ z => z
  refine wpAny_bind (wpAny_mono h (fun x t1 h1 => ?_) (up E))
  refine wpAny_bind (wpAny_standAt (wpAny_bind (wpAny_of_eq (c2 x) (wpAny_bind (wpAny_holding (wpAny_mono h1 (fun it t2 h2 => ?_) (up E)))))))
  refine wpAny_standIf (wpAny_bind (wpAny_mono h2 (fun acc t3 h3 => ?_) (up E)))
  refine wpAny_bind (wpAny_pure (wpAny_bind (wpAny_mono h3 (fun ce t4 h4 => ?_) (up E))))
  dsimp only
  have hv : ∀ x ∈ (scope.names.filter fun x => (x.2 == .local || x.2 == .cell) && x.1 != (".0" : Str)).reverse, x.2 = .local → Env.kindOf { ce with scope := relabel scope env } x.1 = some .local :=
    fun x hx hl => lookup_relabel_local (c5 x (List.mem_filter.mp (List.mem_reverse.mp hx)).1 hl)
  refine wpAny_holding (wpAny_bind (wpAny_attempt (wpAny_holding (wpAny_run (codeAny_mono h4 fun r t hr => ?_)))))
  cases r with
  | ok f =>
    obtain ⟨m, hn, hr⟩ := hr
    exact wpAny_bind (wpAny_holding (wpAny_comp_letGo (cenv := { ce with scope := relabel scope env }) c4 _ t m hv hn fun g _ _ sb => wpAny_pure (hr g sb)))
  | error u =>
    obtain ⟨m, hn, hr⟩ := hr
    refine wpAny_bind (wpAny_holding (wpAny_comp_letGo (cenv := { ce with scope := relabel scope env }) c4 _ t m hv hn fun g _ _ sb => ?_))
    exact wpAny_mono (hr g sb) (fun _ _ f => f.elim) (up E)
/-! ### the exception on its way through the block -/
theorem frames_at {h g B B' : Heap} : ∀ {l : List Env}, h.FunFrames B l → (∀ L ∈ frs l, g.get? L = h.get? L) → (∀ L ∈ frs l, B'.get? L = none) → g.FunFrames B' l
  | [], _, _, _ => trivial
  | env :: l, q, k, n => by
    obtain ⟨q1, ⟨L, o, q2, q3, q4, q5⟩, q6⟩ := q
    have hm : L ∈ frs (env :: l) := List.mem_filterMap.mpr ⟨env, List.mem_cons_self, q2⟩
    refine ⟨q1, ⟨L, o, q2, n L hm, (k L hm).trans q4, q5⟩, frames_at q6 (fun b hb => k b ?_) fun b hb => n b ?_⟩ <;>
    · obtain ⟨e, he, z⟩ := List.mem_filterMap.mp hb
      exact List.mem_filterMap.mpr ⟨e, List.mem_cons_of_mem _ he, z⟩
/-- noted at the def's own frame -/
def XH (X : Cx) (W : WX) (a : Addr) (t : Shared) : Prop :=
  ∃ (B : Heap) (sI : Shared) (pins : List (Addr × Obj)) (σ : St) (H : Hp) (cls : Value) (d : Option Addr),
    Inv X pins σ H sI ∧ (∀ b o, sI.heap.get? b = some o → b ∉ frs X.stack → B.get? b = some o) ∧ sI.heap.UpToSlots t.heap ∧ HandSPX.HeldZ B X.stack a (Zc cls d) X.env.locals t.heap ∧ H a = none ∧ t.os = sI.os ∧ PyProof.Rows.AllBare t.gens ∧ W cls d σ H
section
variable {X : Cx} {E : XK} {pins : List (Addr × Obj)} {σ : St} {H : Hp} {s t : Shared}
theorem XH.xe {W : WX} {a : Addr} (x : XH X W a t) : XE X W (.ref a) t := by
  obtain ⟨B, sI, pins, σ, H, cls, d, I, nb, up, hh, na, os, ag, w⟩ := x
  exact ⟨a, B, sI, pins, σ, H, cls, d, rfl, I, nb, up, .inr (.inr hh), na, os, ag, w⟩
/-- the place C (the block's names) changes -/
theorem held_but {W : WX} {a C : Addr} {g : Heap} {m : Str → Option Value} (hs : X.stack = X.env :: X.outer) (hf : X.env.frame = some X.env.locals) (x : XH X W a t) (hn : t.heap.Ns C m) (sb : Heap.SameBut C t.heap g)
    (fp : ∀ cls d σ H, W cls d σ H → FpOk X [] H C) : XH X W a { t with heap := g } := by
  obtain ⟨B, sI, pins, σ, H, cls, d, I, nb, up, ⟨k1, k2, k3, oe, vs, T, oT, ts, he, hz, hd, h1, hnT, hTe, hT, hdT, h3⟩, na, os, ag, w⟩ := x
  obtain ⟨oC, es, ep, hC, dC, _⟩ := hn
  have I : Inv X [] σ H sI := Inv.unpinned (pins := []) I
  obtain ⟨f0, f1, f2, f3, f4, f5⟩ := fp _ _ _ _ w
  have hfr : C ∉ frs X.stack := fun hm => by
    rw [hs] at hm
    obtain ⟨e, he, q⟩ := List.mem_filterMap.mp hm
    rcases List.mem_cons.mp he with rfl | he
    · rw [hf] at q; exact f1 (Option.some.inj q).symm
    · exact f2 (List.mem_filterMap.mpr ⟨e, he, q⟩)
  have nCa : a ≠ C := fun z => by rw [z, hC] at he; cases he; rw [dC] at hd; cases hd
  have nCT : T ≠ C := fun z => by rw [z, hC] at hT; cases hT; rw [dC] at hdT; cases hdT
  have hid : ∀ {h : Heap} {b : Addr} {o : Obj}, (PySem.W.hideAll h [C]).get? b = some o → h.get? b = some o ∧ b ≠ C := fun {h b o} e => ⟨PySem.W.of_hideAll _ e, fun z => by
    rw [z, PySem.W.hideAll_none _ (by simp)] at e; cases e⟩
  have put : ∀ {h : Heap} {b : Addr} {o : Obj}, h.get? b = some o → b ≠ C → (PySem.W.hideAll h [C]).get? b = some o := fun e n => PySem.W.hideAll_get _ e (by simp [n])
  have non : ∀ {h : Heap} {b : Addr}, h.get? b = none → (PySem.W.hideAll h [C]).get? b = none := fun {h b} e => by
    cases q : (PySem.W.hideAll h [C]).get? b with
    | none => rfl
    | some o => rw [(hid q).1] at e; cases e
  have sB : (PySem.W.hideAll B [C]).StaysIn g := fun b o e => by
    obtain ⟨e1, n⟩ := hid e
    exact (sb.2 b n).trans (k1 b o e1)
  refine ⟨PySem.W.hideAll B [C], { sI with heap := PySem.W.hideAll sI.heap [C], toks := sI.toks }, [], σ, H, cls, d, I.turned (fun b o n e => put e n) f0 f1 f3 f4 f5, fun b o e hb => ?_, fun b o e nf => ?_, ⟨sB, non k2, frames_at k3 (fun L hL => sb.2 L fun z => hfr (z ▸ hL)) (fun L hL => non (k3.mem hL).1), oe, vs, T, oT, ts, (sb.2 a nCa).trans he, hz, hd, h1, non hnT, hTe, (sb.2 T nCT).trans hT, hdT, h3⟩, na, os, ag, w⟩
  · obtain ⟨e1, n⟩ := hid e
    exact put (nb b o e1 hb) n
  · obtain ⟨e1, n⟩ := hid e
    obtain ⟨sl, q⟩ := up b o e1 nf
    exact ⟨sl, (sb.2 b n).trans q⟩
/-- .. and flies on from the def's own hand -/
theorem pass_on {W : WX} {a : Addr} {what : String} {ce : Env} {α : Type} (hf : X.env.frame = some X.env.locals) (hce : ce.frame = X.env.frame) (tk : Takes X W) (x : XH X W a t) : wpAny (model X.prog X.w) X.A (passOn what (.ref a) ce : Sem α) (fun _ _ => False) X.xe t := by
  obtain ⟨B, sI, pins, σ, H, cls, d, I, nb, up, hh, na, os, ag, w⟩ := x
  obtain ⟨k1, k2, k3, oe, vs, T, oT, ts, he, hz, hd, h1, hr⟩ := id hh
  unfold passOn
  refine wpAny_bind (wpAny_field he hd h1 ?_)
  rw [if_neg (show ¬ ((Value.ref T == Value.none) = true) from by simp)]
  have fin : wpAny (model X.prog X.w) X.A (setFlight (.ref a) ce.frame) (fun _ t2 => wpAny (model X.prog X.w) X.A (throw (.ref a) : Sem α) (fun _ _ => False) X.xe t2) X.xe t := by
    rw [hce, hf]
    exact HandSPX.setFlight_onZ hh fun g hg ug => wpAny_throw (tk _ _ (XH.xe ⟨B, sI, pins, σ, H, cls, d, I, nb, up.trans ug, hg, na, os, ag, w⟩))
  first
    | exact wpAny_bind (wpAny_pure (wpAny_bind fin))
    | exact wpAny_bind fin
/-- noted -/
theorem note_x {W : WX} {u : Value} {E₁ : Value → Shared → Prop} {Q : Unit → Shared → Prop} (hs : X.stack = X.env :: X.outer) (hf : X.env.frame = some X.env.locals) (x : XE X W u t) (h : ∀ a g, u = .ref a → XH X W a { t with heap := g } → t.heap.UpToSlots g → Q () { t with heap := g }) :
    wpAny (model X.prog X.w) X.A (noteFrame u X.env) Q E₁ t := by
  obtain ⟨a, B, sI, pins, σ, H, cls, d, rfl, I, nb, up, sky, na, os, ag, w⟩ := x
  have hfr : X.A.frames = some (X.env :: X.outer) := by rw [I.ok.frames, hs]
  rw [hs] at sky
  have fin : ∀ g, HandSPX.HeldZ B (X.env :: X.outer) a (Zc cls d) X.env.locals g → t.heap.UpToSlots g → Q () { t with heap := g } := fun g hg ug =>
    h a g rfl ⟨B, sI, pins, σ, H, cls, d, I, nb, up.trans ug, by rw [hs]; exact hg, na, os, ag, w⟩ ug
  rcases sky with ⟨hB, hn, hl, oe, vs, he, hz, hd, h1⟩ | fl | hh
  · exact HandSPX.look_newZ Zc.steady hfr hl hf he hB hn hd h1 hz fin
  · exact HandSPX.looks_onZ Zc.steady hfr hf fl fin
  · exact HandSPX.againZ hf hh.2.2.2 (fin t.heap hh (Heap.UpToSlots.refl _))
end
/-- the wish of a block: what a call in it let out -/
def blkE (X : Cx) (E : XK) (u : Value) (t : Shared) : Prop := ∃ pins σ H s, Inv X pins σ H s ∧ L2.CX X.prog X.w X.stack H s E u t
abbrev blkX (X : Cx) (s : Shared) (H : Hp) (scope : Scope) (ce : Env) (fp : List Addr) (E : XK) : Cx := (X.blk s H scope ce fp).wish (blkE (X.blk s H scope ce fp) E)
theorem passB {X : Cx} {s : Shared} {H : Hp} {scope : Scope} {ce : Env} {fp : List Addr} {E : XK} : Passes (L2.CX X.prog X.w) (blkX X s H scope ce fp E) E := fun pins σ H s e t I c => ⟨pins, σ, H, s, I.unwish, c⟩
section
variable {X : Cx} {E : XK}
theorem pe_lcX {elt tg iter : Expr} {ifs : List Expr} {scope : Scope} {own : List (Str × Nat)} {pos : Pos} {wi : TI} {g : TG} {tt : TT} {te : TE} (hc : X.calm = true) (hN : X.N.Nodup) (hs : X.stack = X.env :: X.outer) (hf : X.env.frame = some X.env.locals) (tk : Takes X (fun cls d _ H => E cls d H)) (hi : PI X tg iter wi) (ok : BlkOk X.N X.env.scope scope own)
    (hg : ∀ (s : Shared) (H : Hp) (C : Addr) (cl : List (Str × Addr)) (fp : List Addr), PG (X.blk s H scope (compEnvC scope cl C X.env) fp) tg g) (ht : ∀ (s : Shared) (H : Hp) (C : Addr) (cl : List (Str × Addr)) (fp : List Addr), PTs (X.blk s H scope (compEnvC scope cl C X.env) fp) ifs tt)
    (he : ∀ (s : Shared) (H : Hp) (C : Addr) (cl : List (Str × Addr)) (fp : List Addr), PE (blkX X s H scope (compEnvC scope cl C X.env) fp E) elt te) (hfs : ∀ x, foldedSetIterable iter X.env x = pure x := by intro _; rfl) :
    PE X (.ListComp elt [⟨tg, iter, ifs, 0⟩] scope pos) (tLc wi g tt te (own.map (·.2))) := by
  refine ⟨fun pins s σ H Q I h => ?_⟩
  rw [eval_ListComp]
  have clo : ∀ y ∈ scope.names, y.2 = .free → ∃ c, X.env.cells.lookup y.1 = some c := fun y hy e => I.ok.has _ (ok.free y hy e)
  refine compr_x rfl hfs (closure_ok clo) ok.kind (fun y hy e => by rw [ok.uniq y hy, e]) (thn (hi.run pins s σ H _ I h) fun xv s1 hx => thn hx fun itv s2 h2 => ?_)
  obtain ⟨it, fp, tn, J, H2, e, I2, T, st2, f2, q⟩ := h2
  subst e
  refine wpAny_newObj_type (newEnv_comp ?_) (by show 0 ≤ sizeLine; decide)
  generalize hD : s2.heap.objs.size = D
  obtain ⟨W, ⟨m0, w0⟩, turn⟩ := q D (I2.hok.fresh (Nat.le_of_eq hD))
  generalize hs3 : ({ s2 with heap := s2.heap.push { cls := .type "list", data := .seq ([] : List Value).toArray } } : Shared) = s3
  have h3 : s3.heap = s2.heap.push { cls := .type "list", data := .seq ([] : List Value).toArray } := by rw [← hs3]
  have I3 : Inv X pins σ (upd H2 D (.lst [])) s3 := by
    rw [← hs3]
    exact I2.laid (t' := s2.toks) (fun b o e => Heap.get?_push_of_some _ e) (Nat.le_of_eq hD) ⟨Nat.zero_le _, [], 0, .nil, by rw [← hD]; exact Heap.get?_push_size _ rfl⟩
  have f3 : ∀ b ∈ fp, FpOk X pins (upd H2 D (.lst [])) b ∧ b < s3.heap.objs.size := fun b hb => by
    obtain ⟨o, e, _⟩ := T.obj _ _ st2 b hb
    have hlt := Heap.lt_size e
    refine ⟨⟨?_, (f2 b hb).2⟩, by rw [h3, Heap.size_push]; exact Nat.lt_succ_of_lt hlt⟩
    rw [upd_ne (by rw [← hD]; exact Nat.ne_of_lt hlt)]
    exact (f2 b hb).1
  have st3 : tn 0 s3.heap := T.keep _ _ _ st2 fun b _ o e => by rw [h3]; exact Heap.get?_push_of_some _ e
  have I4 := block_start I3 ok hN f3
  have pg := hg s3 (upd H2 D (.lst [])) s3.heap.objs.size (cellsFrom (s3.heap.objs.size + 1) scope.names (cloFrom X.env.cells scope.names [])) fp
  have pt := ht s3 (upd H2 D (.lst [])) s3.heap.objs.size (cellsFrom (s3.heap.objs.size + 1) scope.names (cloFrom X.env.cells scope.names [])) fp
  have pe := he s3 (upd H2 D (.lst [])) s3.heap.objs.size (cellsFrom (s3.heap.objs.size + 1) scope.names (cloFrom X.env.cells scope.names [])) fp
  show codeAny _ _ (.compStart (.ListComp elt [⟨tg, iter, ifs, 0⟩] scope pos) 0 (.ref it) (.ref D) (compEnvC scope (cellsFrom (s3.heap.objs.size + 1) scope.names (cloFrom X.env.cells scope.names [])) s3.heap.objs.size X.env)) (postX (model X.prog X.w) X.A X.xe (EP X pins σ Q) (.ref D) (compEnvC scope (cellsFrom (s3.heap.objs.size + 1) scope.names (cloFrom X.env.cells scope.names [])) s3.heap.objs.size X.env)) { s3 with heap := pushCells (s3.heap.push { cls := .type "dict", data := .dict #[] }) scope.names }
  have nfp : ∀ b ∈ fp, (upd H2 D (.lst [])) b = none := fun b hb => (f3 b hb).1.1
  have hfe : (compEnvC scope (cellsFrom (s3.heap.objs.size + 1) scope.names (cloFrom X.env.cells scope.names [])) s3.heap.objs.size X.env).frame = X.env.frame := rfl
  have cL : (compEnvC scope (cellsFrom (s3.heap.objs.size + 1) scope.names (cloFrom X.env.cells scope.names [])) s3.heap.objs.size X.env).locals = s3.heap.objs.size := rfl
  generalize compEnvC scope (cellsFrom (s3.heap.objs.size + 1) scope.names (cloFrom X.env.cells scope.names [])) s3.heap.objs.size X.env = ce at I4 pg pt pe hfe cL ⊢
  generalize hH3 : upd H2 D (.lst []) = H3 at I3 I4 pg pt pe w0 nfp f3
  generalize hs4 : ({ s3 with heap := pushCells (s3.heap.push { cls := .type "dict", data := .dict #[] }) scope.names } : Shared) = s4 at I4 ⊢
  have st4 : tn 0 s4.heap := T.keep _ _ _ st3 fun b _ o e => by rw [← hs4]; exact pushCells_keeps _ _ _ _ (Heap.get?_push_of_some _ e)
  have stat : ∀ {σ' : St} {H' : Hp} {s' : Shared}, Inv (X.blk s3 H3 scope ce fp) [] σ' H' s' → (∀ b ∈ fp, H' b = none) → ∀ b ∈ fp, FpOk (X.blk s3 H3 scope ce fp) [] H' b := fun {σ' H' s'} I' hn b hb =>
    ⟨hn b hb, (I'.ok.exf b hb).1, I'.ok.exfs b hb, .inl hb, fun x c e => (I'.ok.exf b hb).2 x c e, fun p hp => absurd (show p ∈ ([] : List (Addr × Obj)) ++ [] from hp) (by simp)⟩
  -- from the block back to the def
  have back : ∀ {pn : List (Addr × Obj)} {σ' : St} {H' : Hp} {s' : Shared}, Inv (X.blk s3 H3 scope ce fp) pn σ' H' s' → Inv X pins σ H' s' ∧ H' s3.heap.objs.size = none ∧ ∃ m, s'.heap.Ns s3.heap.objs.size m := fun {pn σ' H' s'} I' => by
    refine ⟨I3.call' (ch := fp) I'.os I'.base I'.hok I'.bare fun b hb => ⟨(f3 b hb).1.2.2.2.1, (f3 b hb).1.2.1, (f3 b hb).1.2.2.2.2.1, (f3 b hb).1.2.2.2.2.2⟩, ?_, ?_⟩
    · have z : H' ce.locals = none := I'.free
      rwa [cL] at z
    · obtain ⟨m, hn, _⟩ := I'.loc
      have hn : s'.heap.Ns ce.locals m := hn
      rw [cL] at hn
      exact ⟨m, hn⟩
  have loop : codeAny (model X.prog X.w) X.A (.compLoop (.ListComp elt [⟨tg, iter, ifs, 0⟩] scope pos) 0 (.ref it) (.ref D) ce) (postX (model X.prog X.w) X.A X.xe (EP X pins σ Q) (.ref D) ce) s4 := by
    refine compLoop_any (fun n s' => ∃ i H', Inv (X.blk s3 H3 scope ce fp) [] (wipe σ (own.map (·.2))) H' s' ∧ tn i s'.heap ∧ (∀ b ∈ fp, H' b = none) ∧ W i n H') ?_ m0 ⟨0, H3, I4, st4, nfp, w0⟩
    rintro n s5 ⟨i, H5, I5, st5, n5, w5⟩
    rcases turn i n H5 w5 with ⟨stop, qq⟩ | ⟨go, Nx, hNx, step⟩
    · refine thnF (T.done (X.blk s3 H3 scope ce fp) rfl rfl rfl hc i [] s5 _ H5 (fun _ _ => False) I5 (stat I5 n5) st5 stop) fun r s6 ⟨hr, I6⟩ => ?_
      subst hr
      obtain ⟨I7, nC, m, hn⟩ := back I6
      obtain ⟨f0, f1, _, f3', f4, f5⟩ := I3.fpOk (Nat.le_refl _) nC
      refine ⟨m, by rw [cL]; exact hn, fun g sb => ?_⟩
      rw [cL] at sb
      exact ⟨.ref D, H5, I7.turned (t' := s6.toks) (fun b o hb e => (sb.2 b hb).trans e) f0 f1 f3' f4 f5, rfl, qq⟩
    · refine thnF (T.item (X.blk s3 H3 scope ce fp) rfl rfl rfl hc i [] s5 _ H5 (fun _ _ => False) I5 (stat I5 n5) st5 go) fun r s6 ⟨u, hr, h6⟩ => ?_
      subst hr
      refine thnF h6 fun _ s7 ⟨x, H7, I7, r7, y7, st7, n7⟩ => ?_
      have I7' := I7.pinned (stat I7 n7) (T.obj _ _ st7)
      refine thnF (pg.run _ s7 _ H7 x u _ I7' r7 (step x H7 y7)) fun _ s8 ⟨σ8, H8, I8, hw8, q8⟩ => ?_
      refine thnF (pt.run _ s8 σ8 H8 _ I8 q8) fun b s9 ⟨H9, I9, q9⟩ => ?_
      have fin : ∀ {s' : Shared} {H' : Hp}, Inv (X.blk s3 H3 scope ce fp) ([] ++ pinsAt fp s7.heap) σ8 H' s' → Nx H' → ∃ m, m < n ∧ ∃ i H', Inv (X.blk s3 H3 scope ce fp) [] (wipe σ (own.map (·.2))) H' s' ∧ tn i s'.heap ∧ (∀ b ∈ fp, H' b = none) ∧ W i m H' := fun {s' H'} I' nx => by
        obtain ⟨m', hm, w'⟩ := hNx H' nx
        have pin' : ∀ b ∈ fp, ∀ o, s7.heap.get? b = some o → s'.heap.get? b = some o ∧ H' b = none := fun b hb o e =>
          let z := I'.pin (b, o) (List.mem_append_right _ (List.mem_append_right _ (mem_pinsAt hb e)))
          ⟨z.1, z.2.1⟩
        refine ⟨m', hm, i + 1, H', (I'.unpinned (pins := [])).weak (by rw [← hw8, wipe_length]) (fun j v e => by rw [← hw8] at e; exact (wipe_some e).1), T.keep _ _ _ st7 fun b hb o e => (pin' b hb o e).1, fun b hb => ?_, w'⟩
        obtain ⟨o, e, _⟩ := T.obj _ _ st7 b hb
        exact (pin' b hb o e).2
      cases b with
      | false =>
        simp only [Bool.false_eq_true, if_false] at q9 ⊢
        exact fin I9 q9
      | true =>
        simp only [if_true] at q9 ⊢
        refine wpAny_mono (pe.run _ s9 σ8 H9 _ (I9.wish _) q9) (fun z s10 ⟨yv, H10, I10, r10, acc, hD10, hz10, nx⟩ => app_ok (X := X.blk s3 H3 scope ce fp) I10.unwish hD10 hz10 r10 fun s11 I11 => fin I11 nx) fun u t bx => ?_
        -- what the element let out
        obtain ⟨pn, σ', H', s', I', c⟩ := bx
        obtain ⟨I7, nC, m, hn⟩ := back I'
        have fC := I3.fpOk (Nat.le_refl _) nC
        have okX := I7.ok
        have tk' : Takes (X.tr (X.pn ++ pins) X.xe) (fun cls d _ H => E cls d H ∧ H s3.heap.objs.size = none) := fun u s' x => by
          obtain ⟨a, B, sI, pn', σ1, H1, cls, d, z1, J, z2, z3, z4, z5, z6, z7, z8, _⟩ := x
          exact tk u s' ⟨a, B, sI, pins, σ1, H1, cls, d, z1, J.ofTry okX, z2, z3, z4, z5, z6, z7, z8⟩
        have x0 : XE (X.tr (X.pn ++ pins) X.xe) (fun cls d _ H => E cls d H ∧ H s3.heap.objs.size = none) u t := by
          refine XE.of_call (E := fun cls d H => E cls d H ∧ H s3.heap.objs.size = none) (I7.toTry X.xe) (fun _ _ _ h => h) ?_
          obtain ⟨a, B, H'', cls, d, z1, z2, z3, ub, z4, z5, z6, z7⟩ := c
          obtain ⟨oC, _, _, hC, _⟩ := hn
          exact ⟨a, B, H'', cls, d, z1, z2, z3, ub, z4, z5, z6, z7, ub.free _ _ hC nC⟩
        have hnt : ∃ m, t.heap.Ns s3.heap.objs.size m := by
          obtain ⟨a, B, H'', cls, d, z1, z2, z3, ub, _⟩ := c
          obtain ⟨oC, es, ep, hC, k⟩ := hn
          refine ⟨m, oC, es, ep, z2.1 _ _ (ub.keep _ _ hC nC fun hm => ?_), k⟩
          have hm : s3.heap.objs.size ∈ frs X.stack := hm
          rw [hs] at hm
          obtain ⟨e, he, q⟩ := List.mem_filterMap.mp hm
          rcases List.mem_cons.mp he with rfl | he
          · rw [hf] at q; exact fC.2.1 (Option.some.inj q).symm
          · exact fC.2.2.1 (List.mem_filterMap.mpr ⟨e, he, q⟩)
        show wpAny _ _ (noteFrame u ce) _ _ _
        rw [note_frame hfe]
        refine note_x (X := X.tr (X.pn ++ pins) X.xe) hs hf x0 fun a g hu xh ug => ?_
        subst hu
        obtain ⟨m', oC, es, ep, hC, hdC, k⟩ := hnt
        obtain ⟨sl, hC2⟩ := ug _ _ hC (fun vs z => by rw [hdC] at z; cases z)
        refine ⟨m', by rw [cL]; exact ⟨_, es, ep, hC2, hdC, k⟩, fun g2 sb => ?_⟩
        rw [cL] at sb
        refine pass_on (X := X.tr (X.pn ++ pins) X.xe) hf hfe tk' (held_but (X := X.tr (X.pn ++ pins) X.xe) (C := s3.heap.objs.size) (m := m') hs hf xh ⟨_, es, ep, hC2, hdC, k⟩ sb fun cls d σ1 H1 w => ?_)
        exact ⟨w.2, fC.2.1, fC.2.2.1, fC.2.2.2.1, fC.2.2.2.2.1, fun p hp => fC.2.2.2.2.2 p (by rw [List.append_nil] at hp; exact hp)⟩
  exact codeAny_compStart_list loop (T.self X.A 0 _ _ _ st4 loop)
end
/-! ### the head, with methods of a class -/
theorem says_left {fa : List He.Fa} {fn ms : List He.DefD} {ts : List (Str × List (Str × Int))} {w : World} {K : PySem.W.Frag} (c : SaysI fa (fn ++ ms) ts w K) : SaysI fa fn ts w K := by
  have c1 : ((fa.all fun f => f.ok K) && (fn ++ ms).all fun d => d.ok K) = true := congrArg (fun z : AlI => z.1.1) c
  have c2 : (fn ++ ms).map (fun d => He.fnW K d.at_) = (fn ++ ms).map He.DefD.val := congrArg (fun z : AlI => z.1.2) c
  have c3 : (ts.map fun t => dicI K (He.ga K t.1)) = ts.map fun t => some (entsIn w.params t.2) := congrArg (fun z : AlI => z.2) c
  obtain ⟨a, b⟩ := He.ba c1
  rw [List.all_append] at b
  rw [List.map_append, List.map_append] at c2
  have d := (List.append_inj c2 (by rw [List.length_map, List.length_map])).1
  show ((((fa.all fun f => f.ok K) && fn.all fun d => d.ok K, fn.map fun d => He.fnW K d.at_), ts.map fun t => dicI K (He.ga K t.1)) : AlI) = ((true, fn.map He.DefD.val), ts.map fun t => some (entsIn w.params t.2))
  rw [a, (He.ba b).1, d, c3]
  rfl
def mdOf (C m q : Str) (st : Stmt) : He.DefD := ⟨(C, some m), m, q, defArgs st, defBody st, defScope st, [], []⟩
theorem md_fun {fa : List He.Fa} {fn : List He.DefD} {ts : List (Str × List (Str × Int))} {w : World} {K : PySem.W.Frag} (c : SaysI fa fn ts w K) {C m q : Str} {st : Stmt} (h : mdOf C m q st ∈ fn) : ∃ fd, Fun K m q st (He.ma K (He.ga K C) m) fd := by
  obtain ⟨fd, F⟩ := says_def c h
  obtain ⟨⟨oc, od, dV, kV, doc, pm, an, cdv, ct, osl, e1, e2, e3, e4, e5⟩, kp⟩ := F
  have hd : dV = .none := by
    rcases e4 with ⟨_, z⟩ | ⟨z, _⟩
    · exact z
    · exact absurd rfl z
  subst hd
  subst e1
  exact ⟨_, fun_mk (st := st) e2 e3 kp⟩
theorem walkM {l : PySem.W.OpenLaw} {P : List DefR} {gl : Gl} {cs : List (Str × Int)} {ts : List (Str × List (Str × Int))} {xb : PySem.W.Frag → Bool} {ms : List He.DefD} {n m : Nat} {q : Program} {loose : List Str} {XP : (Str → Option Value) → Heap → Prop} {d : DefRec} {r : DefR} (hn : l.most = some 63) (hdf : d.params.defaults = []) (hnm : d.name = ("law" : Str)) (hr : Room (gl.m0 + n) callerA)
    (hfr : findR "law" P = some r) (hps : r.ps = (["script"] : List Str)) (hok : ∀ r ∈ P, DefOk r) (hbd : ∀ r ∈ P, Bds r) (hnd : (cs.all fun q => !(q.1 == ("__debug__" : Str))) = true ∧ (ts.all fun q => !(q.1 == ("__debug__" : Str))) = true) (hl : ∀ r ∈ P, r.name = "law" → r.ps = (["script"] : List Str))
    (hG : ∀ (w : World) (K : PySem.W.Frag) (mg : Str → Option Value) (h : Heap) (base : Heap), K.In h → h.Ns mainGlobals mg → @GOk tbs0 P (flatG cs ts) l.prog w K mg base → xb K = true → (∀ C m q st, mdOf C m q st ∈ ms → ∃ fd, Fun K m q st (He.ma K (He.ga K C) m) fd) → @GOk tbs0 P gl l.prog w K mg base)
    (hlaw : ∀ ns : List Int, ns.length ≤ 63 → phi P gl n "law" [.scr ns] = some (.bl true)) :
    PySem.W.WalkO q loose XP (hookX m (facL P cs ts) (P.map ddOf ++ ms) ts xb).says l.row.toRowW d [] (fun f vs => PySem.call f vs) := by
  refine L2.walk_ofE (l := l) (n := 63) (k := gl.m0 + n) (x := "script") (CX := L2.CX0) hn (by decide) hdf hr ?_ (fun _ _ _ _ z => z)
  intro w mg fa h Y G hmg
  obtain ⟨K, KX, c, cx⟩ := Y
  rw [hnm] at hmg
  have c1 := says_left c
  have hin := says_in (P := P) c1 (fun r hm => fac_glo hm) (fun r hm => List.mem_map.mpr ⟨r, hm, rfl⟩) hbd hl
  have hms : ∀ C m q st, mdOf C m q st ∈ ms → ∃ fd, Fun K m q st (He.ma K (He.ga K C) m) fd := fun C m q st hm => md_fun c (List.mem_append_right _ hm)
  obtain ⟨fd, hb, hF⟩ := law_mk (l := l) (P := P) (gl := gl) (w := w) (n := n) (Bs := fun _ => True) KX G hmg hfr hps hin (fun base _ => hG w K mg h base KX G (says_gok KX G hok (fun r hm => let ⟨f, fd, h, _⟩ := hin r hm; ⟨f, fd, h⟩) hnd c1 base) cx hms)
  exact ⟨K, fd, _, KX, hb, fun H a ns hl2 _ hS => sp_law dom_none hl2 hS (hlaw ns hl2) _, fun base _ _ => hF base trivial⟩
end Sw
/-! ## plain facts: operations on known data, forms, rows -/
namespace Sw
open PySem L2
/-! ### operations on known data -/
/-- told as equations, not by unfolding: the kernel is not to look into what follows -/
theorem obs {α β : Type} (a : α) (f : α → Option β) : (some a).bind f = f a := Eq.trans rfl rfl
theorem oms {α β : Type} (a : α) (f : α → β) : (some a).map f = some (f a) := Eq.trans rfl rfl
theorem ptp2 (i j : Nat) (a b : D) (ρ : DSt) : (Tg.tp [i, j]).put (.tup [a, b]) ρ = some ((ρ.set i (some (.dat a))).set j (some (.dat b))) := Eq.trans rfl rfl
@[simp] theorem addD_int (i j : Int) : addD (.int i) (.int j) = some (.int (i + j)) := rfl
@[simp] theorem subD_int (i j : Int) : subD (.int i) (.int j) = some (.int (i - j)) := rfl
@[simp] theorem fdivD_int {j : Int} (i : Int) (h : 0 < j) (h2 : j < 1073741824) : fdivD (.int i) (.int j) = some (.int (i / j)) := if_pos ⟨h, h2⟩
@[simp] theorem modD_int {j : Int} (i : Int) (h : 0 < j) : modD (.int i) (.int j) = some (.int (i % j)) := if_pos h
@[simp] theorem mulD_r {j : Int} (i : Int) (h : -18446744073709551616 < j) (h2 : j < 18446744073709551616) : mulD (.int i) (.int j) = some (.int (i * j)) := if_pos (.inr ⟨by simpa using h, by simpa using h2⟩)
theorem mulD_l {i : Int} (j : Int) (h : -18446744073709551616 < i) (h2 : i < 18446744073709551616) : mulD (.int i) (.int j) = some (.int (i * j)) := if_pos (.inl ⟨by simpa using h, by simpa using h2⟩)
@[simp] theorem addD_tup {a b : List D} (h : a.length + b.length ≤ 1000000) : addD (.tup a) (.tup b) = some (.tup (a ++ b)) := if_pos h
@[simp] theorem addD_lst {a b : List D} (h : a.length + b.length ≤ 1000000) : addD (.lst a) (.lst b) = some (.lst (a ++ b)) := if_pos h
@[simp] theorem capL_of {mk : List D → D} {ds : List D} (h : ds.length ≤ 1000000) : capL mk ds = some (mk ds) := if_pos h
@[simp] theorem appD_of {ds : List D} {d : D} (h : ds.length < 1000000) : appD ds d = some (ds ++ [d]) := if_pos h
@[simp] theorem extD_of {ds es : List D} (h : ds.length + es.length ≤ 1000000) : extD ds (.lst es) = some (ds ++ es) := if_pos h
theorem ixD_tup {ds : List D} {i : Nat} : ixD (.tup ds) (.int (i : Int)) = ds[i]? := by
  show atI ds (i : Int) = _
  cases h : ds[i]? with
  | some v => exact atI_nat h
  | none =>
    unfold atI ixN
    have : ds.length ≤ i := List.getElem?_eq_none_iff.mp h
    rw [if_pos (by omega), if_neg (by omega)]; rfl
theorem ixD_lst {ds : List D} {i : Nat} : ixD (.lst ds) (.int (i : Int)) = ds[i]? := ixD_tup (ds := ds)
@[simp] theorem ixD_tup0 {ds : List D} : ixD (.tup ds) (.int 0) = ds[0]? := ixD_tup (i := 0)
@[simp] theorem ixD_tup1 {ds : List D} : ixD (.tup ds) (.int 1) = ds[1]? := ixD_tup (i := 1)
@[simp] theorem ixD_tup2 {ds : List D} : ixD (.tup ds) (.int 2) = ds[2]? := ixD_tup (i := 2)
@[simp] theorem ixD_lst0 {ds : List D} : ixD (.lst ds) (.int 0) = ds[0]? := ixD_lst (i := 0)
@[simp] theorem ixD_lst1 {ds : List D} : ixD (.lst ds) (.int 1) = ds[1]? := ixD_lst (i := 1)
theorem ixD_scr {ns : List Int} {i : Nat} : ixD (.scr ns) (.int (i : Int)) = (ns[i]?).map D.int := by
  show (atI ns (i : Int)).map D.int = _
  cases h : ns[i]? with
  | some v => rw [atI_nat h]
  | none =>
    unfold atI ixN
    have : ns.length ≤ i := List.getElem?_eq_none_iff.mp h
    rw [if_pos (by omega), if_neg (by omega)]; rfl
theorem eqD_of {a b : D} (h : dep a ≤ 150 ∨ dep b ≤ 150) : eqD a b = some (.bl (deq a b)) := if_pos (by omega)
theorem neD_of {a b : D} (h : dep a ≤ 150 ∨ dep b ≤ 150) : neD a b = some (.bl (!deq a b)) := if_pos (by omega)
@[simp] theorem eqD_int (a b : Int) : eqD (.int a) (.int b) = some (.bl (a == b)) := rfl
@[simp] theorem neD_int (a b : Int) : neD (.int a) (.int b) = some (.bl (a != b)) := rfl
@[simp] theorem eqD_bl (a b : Bool) : eqD (.bl a) (.bl b) = some (.bl (a == b)) := rfl
@[simp] theorem neD_bl (a b : Bool) : neD (.bl a) (.bl b) = some (.bl (a != b)) := rfl
@[simp] theorem eqD_str (a b : Str) : eqD (.str a) (.str b) = some (.bl (a == b)) := rfl
@[simp] theorem eqD_strR (a : D) (b : Str) : eqD a (.str b) = some (.bl (deq a (.str b))) := eqD_of (.inr (Nat.zero_le _))
@[simp] theorem neD_strR (a : D) (b : Str) : neD a (.str b) = some (.bl (!deq a (.str b))) := neD_of (.inr (Nat.zero_le _))
@[simp] theorem deq_tup_str (a : List D) (b : Str) : deq (.tup a) (.str b) = false := rfl
@[simp] theorem deq_tup (a b : List D) : deq (.tup a) (.tup b) = deqs a b := rfl
@[simp] theorem deq_lst (a b : List D) : deq (.lst a) (.lst b) = deqs a b := rfl
@[simp] theorem deqs_nil : deqs [] [] = true := rfl
@[simp] theorem deqs_cons (a b : D) (as bs : List D) : deqs (a :: as) (b :: bs) = (deq a b && deqs as bs) := rfl
@[simp] theorem deqs_nc (b : D) (bs : List D) : deqs [] (b :: bs) = false := rfl
@[simp] theorem deqs_cn (b : D) (bs : List D) : deqs (b :: bs) [] = false := rfl
@[simp] theorem deq_int (a b : Int) : deq (.int a) (.int b) = (a == b) := rfl
@[simp] theorem deq_str (a b : Str) : deq (.str a) (.str b) = (a == b) := rfl
@[simp] theorem deq_bl (a b : Bool) : deq (.bl a) (.bl b) = (a == b) := rfl
@[simp] theorem deq_non : deq .non .non = true := rfl
mutual
@[simp] theorem deq_refl : ∀ d : D, deq d d = true
  | .non => rfl
  | .bl b => by show (b == b) = true; simp
  | .int i => by show (i == i) = true; simp
  | .str x => by show (x == x) = true; simp
  | .tup ds => by rw [deq_tup]; exact deqs_refl ds
  | .lst ds => by rw [deq_lst]; exact deqs_refl ds
  | .scr ns => by
    show PyData.eqvAll (ns.map PyData.int) (ns.map PyData.int) = true
    induction ns with
    | nil => rfl
    | cons n ns ih =>
      show ((n == n) && PyData.eqvAll (ns.map PyData.int) (ns.map PyData.int)) = true
      rw [ih]; simp
theorem deqs_refl : ∀ ds : List D, deqs ds ds = true
  | [] => rfl
  | d :: ds => by rw [deqs_cons, deq_refl d, deqs_refl ds]; rfl
end
@[simp] theorem dep_tup (ds : List D) : dep (.tup ds) = deps ds + 1 := rfl
@[simp] theorem dep_lst (ds : List D) : dep (.lst ds) = deps ds + 1 := rfl
@[simp] theorem deps_nil : deps [] = 0 := rfl
@[simp] theorem deps_cons (d : D) (ds : List D) : deps (d :: ds) = max (dep d) (deps ds) := rfl
@[simp] theorem dep_int (i : Int) : dep (.int i) = 0 := rfl
@[simp] theorem dep_str (x : Str) : dep (.str x) = 0 := rfl
@[simp] theorem dep_bl (x : Bool) : dep (.bl x) = 0 := rfl
@[simp] theorem dep_non : dep .non = 0 := rfl
theorem deps_le {n : Nat} : ∀ {ds : List D}, (∀ d ∈ ds, dep d ≤ n) → deps ds ≤ n
  | [], _ => Nat.zero_le _
  | d :: ds, h => by
    rw [deps_cons]
    have h1 := h d List.mem_cons_self
    have h2 := deps_le (n := n) (ds := ds) fun e he => h e (List.mem_cons_of_mem _ he)
    omega
theorem rng1_of {n : Nat} (h : n ≤ 1000000) : rng1 (.int (n : Int)) = some (rangeD 0 n) := by
  show (if _ then _ else _) = _
  rw [if_pos (by unfold lim; omega)]; simp
theorem compD_map {f : D → Option (Option D)} {g : D → D} : ∀ {ds : List D}, (∀ d ∈ ds, f d = some (some (g d))) → compD f ds = some (ds.map g)
  | [], _ => rfl
  | d :: ds, h => by
    show (f d).bind _ = _
    rw [h d List.mem_cons_self]
    show (compD f ds).map _ = _
    rw [compD_map fun e he => h e (List.mem_cons_of_mem _ he)]; rfl
theorem compD_filter {f : D → Option (Option D)} {p : D → Bool} {g : D → D} : ∀ {ds : List D}, (∀ d ∈ ds, f d = some (if p d = true then some (g d) else none)) → compD f ds = some ((ds.filter p).map g)
  | [], _ => rfl
  | d :: ds, h => by
    show (f d).bind _ = _
    rw [h d List.mem_cons_self]
    show (compD f ds).map _ = _
    rw [compD_filter fun e he => h e (List.mem_cons_of_mem _ he)]
    by_cases q : p d = true
    · rw [if_pos q, List.filter_cons_of_pos q]; rfl
    · rw [if_neg q, List.filter_cons_of_neg q]; rfl
/-- over items that come from a list of another kind -/
theorem compD_mapA {α : Type} {f : D → Option (Option D)} {e : α → D} {g : α → D} : ∀ {as : List α}, (∀ a ∈ as, f (e a) = some (some (g a))) → compD f (as.map e) = some (as.map g)
  | [], _ => rfl
  | a :: as, h => by
    show (f (e a)).bind _ = _
    rw [h a List.mem_cons_self]
    show (compD f (as.map e)).map _ = _
    rw [compD_mapA fun e he => h e (List.mem_cons_of_mem _ he)]; rfl
theorem compD_filterA {α : Type} {f : D → Option (Option D)} {e : α → D} {p : α → Bool} {g : α → D} : ∀ {as : List α}, (∀ a ∈ as, f (e a) = some (if p a = true then some (g a) else none)) → compD f (as.map e) = some ((as.filter p).map g)
  | [], _ => rfl
  | a :: as, h => by
    show (f (e a)).bind _ = _
    rw [h a List.mem_cons_self]
    show (compD f (as.map e)).map _ = _
    rw [compD_filterA fun e he => h e (List.mem_cons_of_mem _ he)]
    by_cases q : p a = true
    · rw [if_pos q, List.filter_cons_of_pos q]; rfl
    · rw [if_neg q, List.filter_cons_of_neg q]; rfl
theorem boolsD_map {α : Type} (p : α → Bool) : ∀ as : List α, boolsD (as.map fun a => D.bl (p a)) = some (as.map p)
  | [] => rfl
  | a :: as => by
    show (boolsD (as.map _)).map _ = _
    rw [boolsD_map p as]; rfl
theorem phi_succ (P : List DefR) (gl : Gl) (n : Nat) (f : Str) (as : List D) : phi P gl (n + 1) f as = stepR P gl (phi P gl n) f as := rfl
@[simp] theorem forD_nil (put : D → DSt → Option DSt) (body : DSt → Kt → Option D) (k : Kt) (ρ : DSt) : forD put body k [] ρ = k ρ := rfl
@[simp] theorem forD_nm (i : Nat) (body : DSt → Kt → Option D) (k : Kt) (d : D) (ds : List D) (ρ : DSt) : forD (Tg.put (.nm i)) body k (d :: ds) ρ = body (ρ.set i (some (.dat d))) (forD (Tg.put (.nm i)) body k ds) := rfl

@[simp] theorem capT1 (a : D) : capL D.tup [a] = some (.tup [a]) := rfl
@[simp] theorem capT2 (a b : D) : capL D.tup [a, b] = some (.tup [a, b]) := rfl
@[simp] theorem capT3 (a b c : D) : capL D.tup [a, b, c] = some (.tup [a, b, c]) := rfl
@[simp] theorem capL1 (a : D) : capL D.lst [a] = some (.lst [a]) := rfl
@[simp] theorem capL2 (a b : D) : capL D.lst [a, b] = some (.lst [a, b]) := rfl
@[simp] theorem capL3 (a b c : D) : capL D.lst [a, b, c] = some (.lst [a, b, c]) := rfl
@[simp] theorem asB_bl (b : Bool) : asB (.bl b) = some b := rfl
@[simp] theorem asI_int (i : Int) : asI (.int i) = some i := rfl
@[simp] theorem truthD_bl (b : Bool) : truthD (.bl b) = b := rfl
@[simp] theorem seqD_lst (ds : List D) : seqD (.lst ds) = some ds := rfl
@[simp] theorem seqD_tup (ds : List D) : seqD (.tup ds) = some ds := rfl
@[simp] theorem lenD_lst (ds : List D) : lenD (.lst ds) = some (.int ds.length) := rfl
@[simp] theorem lenD_tup (ds : List D) : lenD (.tup ds) = some (.int ds.length) := rfl
@[simp] theorem one_def (f : D → Option D) (d : D) : one f [d] = f d := rfl
@[simp] theorem tupleD_lst (ds : List D) : tupleD (.lst ds) = some (.tup ds) := rfl
@[simp] theorem tupleD_tup (ds : List D) : tupleD (.tup ds) = some (.tup ds) := rfl
@[simp] theorem minD_int (i j : Int) : minD (.int i) (.int j) = some (.int (if j < i then j else i)) := rfl
@[simp] theorem compD_nil (f : D → Option (Option D)) : compD f [] = some [] := rfl
@[simp] theorem compD_cons (f : D → Option (Option D)) (d : D) (ds : List D) : compD f (d :: ds) = (f d).bind fun o => (compD f ds).map fun ys => consO o ys := rfl
@[simp] theorem consO_some (y : D) (ys : List D) : consO (some y) ys = y :: ys := rfl
@[simp] theorem consO_none (ys : List D) : consO none ys = ys := rfl
@[simp] theorem put_tp2 (i j : Nat) (a b : D) (ρ : DSt) : (Tg.tp [i, j]).put (.tup [a, b]) ρ = some ((ρ.set i (some (.dat a))).set j (some (.dat b))) := rfl
/-! ### forms and rows -/
inductive Form where
  | yes | no | is (k : Nat) | not (f : Form) | both (f g : Form) | either (f g : Form)
  deriving DecidableEq
def Form.d : Form → D
  | .yes => .str "yes"
  | .no => .str "no"
  | .is k => .tup [.str "is", .int k]
  | .not f => .tup [.str "not", f.d]
  | .both f g => .tup [.str "both", f.d, g.d]
  | .either f g => .tup [.str "either", f.d, g.d]
def Form.depth : Form → Nat
  | .yes => 0
  | .no => 0
  | .is _ => 0
  | .not f => f.depth + 1
  | .both f g => max f.depth g.depth + 1
  | .either f g => max f.depth g.depth + 1
/-- its switches are below n -/
def Form.lt (n : Nat) : Form → Prop
  | .yes => True
  | .no => True
  | .is k => k < n
  | .not f => f.lt n
  | .both f g => f.lt n ∧ g.lt n
  | .either f g => f.lt n ∧ g.lt n
def Form.ev (r : List Bool) : Form → Bool
  | .yes => true
  | .no => false
  | .is k => r.getD k false
  | .not f => !f.ev r
  | .both f g => f.ev r && g.ev r
  | .either f g => f.ev r || g.ev r
theorem Form.lt_mono {n m : Nat} (h : n ≤ m) : ∀ {f : Form}, f.lt n → f.lt m
  | .yes, _ => True.intro
  | .no, _ => True.intro
  | .is k, q => Nat.lt_of_lt_of_le q h
  | .not f, q => Form.lt_mono (f := f) h q
  | .both f g, q => ⟨Form.lt_mono (f := f) h q.1, Form.lt_mono (f := g) h q.2⟩
  | .either f g, q => ⟨Form.lt_mono (f := f) h q.1, Form.lt_mono (f := g) h q.2⟩
theorem dep_form : ∀ f : Form, dep f.d ≤ f.depth + 1
  | .yes => by show 0 ≤ _; omega
  | .no => by show 0 ≤ _; omega
  | .is k => by simp [Form.d, dep_tup, deps_cons, dep_str, dep_int, deps_nil]
  | .not f => by have := dep_form f; simp [Form.d, Form.depth, dep_tup, deps_cons, dep_str, deps_nil]; omega
  | .both f g => by have := dep_form f; have := dep_form g; simp [Form.d, Form.depth, dep_tup, deps_cons, dep_str, deps_nil]; omega
  | .either f g => by have := dep_form f; have := dep_form g; simp [Form.d, Form.depth, dep_tup, deps_cons, dep_str, deps_nil]; omega
def bi (b : Bool) : Int := if b then 1 else 0
def sd (b : Bool) : D := .int (bi b)
def rowD (r : List Bool) : D := .tup (r.map sd)
@[simp] theorem bi_eq1 (b : Bool) : (bi b == 1) = b := by cases b <;> rfl
def rowsOf : Nat → List (List Bool)
  | 0 => [[]]
  | n + 1 => (rowsOf n).flatMap fun r => [r ++ [false], r ++ [true]]
theorem rowsOf_len : ∀ (n : Nat) {r : List Bool}, r ∈ rowsOf n → r.length = n
  | 0, r, h => by simp [rowsOf] at h; subst h; rfl
  | n + 1, r, h => by
    simp only [rowsOf, List.mem_flatMap] at h
    obtain ⟨q, h1, h2⟩ := h
    have := rowsOf_len n h1
    simp at h2
    rcases h2 with h2 | h2 <;> (subst h2; simp [this])
theorem rowsOf_size : ∀ n : Nat, (rowsOf n).length = 2 ^ n
  | 0 => rfl
  | n + 1 => by
    have e : ∀ rs : List (List Bool), (rs.flatMap fun r => [r ++ [false], r ++ [true]]).length = 2 * rs.length := fun rs => by
      induction rs with
      | nil => rfl
      | cons r rs ih => rw [List.flatMap_cons, List.length_append, ih]; simp; omega
    rw [rowsOf, e, rowsOf_size n]; omega
theorem rowsOf_mem : ∀ (n : Nat) (r : List Bool), r.length = n → r ∈ rowsOf n
  | 0, r, h => by
    have : r = [] := List.eq_nil_of_length_eq_zero h
    subst this; simp [rowsOf]
  | n + 1, r, h => by
    have hne : r ≠ [] := fun z => by subst z; cases h
    have h1 : r.dropLast.length = n := by rw [List.length_dropLast]; omega
    have h2 := rowsOf_mem n r.dropLast h1
    have h3 := List.dropLast_concat_getLast hne
    simp only [rowsOf, List.mem_flatMap]
    refine ⟨r.dropLast, h2, ?_⟩
    cases q : r.getLast hne with
    | false => rw [q] at h3; rw [h3]; exact List.mem_cons_self
    | true => rw [q] at h3; rw [h3]; exact List.mem_cons_of_mem _ List.mem_cons_self
end Sw
/-! ## plain facts: rows, forms, who has its way -/
namespace Sw
open PySem L2
def evenF : Form → Nat → Form := fun f k => .either (.both f (.not (.is k))) (.both (.not f) (.is k))
/-- a duel: sides, form -/
def duelD (s : List Bool) (f : Form) : D := .tup [rowD s, f.d]
theorem mod2 (x : Int) : ∃ b : Bool, x % 2 = bi b := by
  have : x % 2 = 0 ∨ x % 2 = 1 := by omega
  rcases this with h | h
  · exact ⟨false, by rw [h]; rfl⟩
  · exact ⟨true, by rw [h]; rfl⟩
/-- a comprehension of settings -/
theorem comp_settings {f : D → Option (Option D)} : ∀ (ds : List D), (∀ d ∈ ds, ∃ b : Bool, f d = some (some (sd b))) → ∃ bs : List Bool, bs.length = ds.length ∧ compD f ds = some (bs.map sd)
  | [], _ => ⟨[], rfl, rfl⟩
  | d :: ds, h => by
    obtain ⟨b, hb⟩ := h d List.mem_cons_self
    obtain ⟨bs, h1, h2⟩ := comp_settings ds fun e he => h e (List.mem_cons_of_mem _ he)
    refine ⟨b :: bs, by simp [h1], ?_⟩
    rw [compD_cons, hb, h2]; rfl
theorem mem_rangeD {lo : Int} {n : Nat} {d : D} (h : d ∈ rangeD lo n) : ∃ i : Nat, i < n ∧ d = .int (lo + i) := by
  unfold rangeD at h
  obtain ⟨i, h1, h2⟩ := List.mem_map.mp h
  exact ⟨i, List.mem_range.mp h1, h2.symm⟩
theorem rangeD_len (lo : Int) (n : Nat) : (rangeD lo n).length = n := by unfold rangeD; simp
theorem row_ix {r : List Bool} {k : Nat} (h : k < r.length) : ixD (rowD r) (.int (k : Int)) = some (sd (r.getD k false)) := by
  unfold rowD
  rw [ixD_tup, List.getElem?_map, List.getElem?_eq_getElem h]
  simp [h]
theorem rowD_add (r : List Bool) (b : Bool) (h : r.length ≤ 1000) : addD (rowD r) (.tup [.int (bi b)]) = some (rowD (r ++ [b])) := by
  unfold rowD
  rw [addD_tup (by simp; omega)]
  simp [sd]
theorem rowD_add0 (r : List Bool) (h : r.length ≤ 1000) : addD (rowD r) (.tup [.int 0]) = some (rowD (r ++ [false])) := rowD_add r false h
theorem rowD_add1 (r : List Bool) (h : r.length ≤ 1000) : addD (rowD r) (.tup [.int 1]) = some (rowD (r ++ [true])) := rowD_add r true h
def grow2 (rs : List (List Bool)) : List (List Bool) := rs.flatMap fun r => [r ++ [false], r ++ [true]]
theorem grow2_len (rs : List (List Bool)) : (grow2 rs).length = 2 * rs.length := by
  unfold grow2
  induction rs with
  | nil => rfl
  | cons r rs ih => rw [List.flatMap_cons, List.length_append, ih]; simp; omega
/-- the least row in which just one of two forms holds -/
def partF (f g : Form) (m : Nat) : Option (List Bool) := (rowsOf m).find? fun r => f.ev r != g.ev r
def optRow : Option (List Bool) → D
  | some r => rowD r
  | none => .non
def Form.put (k : Nat) (s : Bool) : Form → Form
  | .yes => .yes
  | .no => .no
  | .is j => if j = k then (if s then .yes else .no) else .is j
  | .not f => .not (f.put k s)
  | .both f g => .both (f.put k s) (g.put k s)
  | .either f g => .either (f.put k s) (g.put k s)
theorem put_depth (k : Nat) (s : Bool) : ∀ f : Form, (f.put k s).depth = f.depth
  | .yes => rfl
  | .no => rfl
  | .is j => by simp only [Form.put]; split <;> (try split) <;> rfl
  | .not f => by simp only [Form.put, Form.depth, put_depth k s f]
  | .both f g => by simp only [Form.put, Form.depth, put_depth k s f, put_depth k s g]
  | .either f g => by simp only [Form.put, Form.depth, put_depth k s f, put_depth k s g]
theorem put_lt (k : Nat) (s : Bool) {n : Nat} : ∀ f : Form, f.lt n → (f.put k s).lt n
  | .yes, _ => True.intro
  | .no, _ => True.intro
  | .is j, h => by simp only [Form.put]; split <;> (try split) <;> first | exact True.intro | exact h
  | .not f, h => put_lt k s f h
  | .both f g, h => ⟨put_lt k s f h.1, put_lt k s g h.2⟩
  | .either f g, h => ⟨put_lt k s f h.1, put_lt k s g h.2⟩
theorem noyes (s : Bool) : ixD (.tup [.str "no", .str "yes"]) (sd s) = some (if s then Form.yes else Form.no).d := by cases s <;> rfl
theorem optRow_dep (o : Option (List Bool)) : dep (optRow o) ≤ 150 := by
  cases o with
  | none => simp [optRow]
  | some r =>
    simp only [optRow, rowD, dep_tup]
    have := deps_le (n := 0) (ds := r.map sd) fun d hd => by
      obtain ⟨b, _, rfl⟩ := List.mem_map.mp hd
      simp [sd]
    omega
theorem first_of (p : List Bool → Bool) (rs : List (List Bool)) (h : rs.length ≤ 1000) : (addD (.lst ((rs.filter p).map rowD)) (.lst [.non])).bind (fun x => ixD x (.int 0)) = some (optRow (rs.find? p)) := by
  have hl : (rs.filter p).length ≤ rs.length := List.length_filter_le _ _
  rw [addD_lst (by simp; omega)]
  simp only [Option.bind_some, ixD_lst0]
  induction rs with
  | nil => rfl
  | cons r rs ih =>
    by_cases c : p r = true
    · rw [List.find?_cons_of_pos c, List.filter_cons_of_pos c]; rfl
    · rw [List.find?_cons_of_neg c, List.filter_cons_of_neg c]
      exact ih (by simp at h; omega) (List.length_filter_le _ _)
/-- who has its way behind r, k switches being left (true: side 1) -/
def winF (s : List Bool) (f : Form) : Nat → List Bool → Bool
  | 0, r => !f.ev r
  | k + 1, r => if winF s f k (r ++ [false]) = s.getD r.length false then s.getD r.length false else winF s f k (r ++ [true])
theorem sd_eq (a b : Bool) : eqD (sd a) (sd b) = some (.bl (a == b)) := by cases a <;> cases b <;> rfl
theorem sd_ne (a b : Bool) : neD (sd a) (sd b) = some (.bl (a != b)) := by cases a <;> cases b <;> rfl
theorem isi_bool_sd (b : Bool) : isiB .bool (sd b) = false := rfl
theorem one_int (b : Bool) : one intD [.bl b] = some (sd b) := by cases b <;> rfl
theorem in_two (a b c : Bool) : inD false (sd c) (.lst [sd a, sd b]) = some (.bl (a == c || b == c)) := by cases a <;> cases b <;> cases c <;> rfl
theorem one_sub (a : Bool) : subD (.int 1) (sd a) = some (sd (!a)) := by cases a <;> rfl
/-- the good settings behind r, k switches being left behind the next one -/
def goodF (s : List Bool) (f : Form) (k : Nat) (r : List Bool) : List Bool := [false, true].filter fun b => winF s f k (r ++ [b]) == s.getD r.length false
theorem goodF_eq (s : List Bool) (f : Form) (k : Nat) (r : List Bool) : goodF s f k r = (if (winF s f k (r ++ [false]) == s.getD r.length false) = true then [false] else []) ++ (if (winF s f k (r ++ [true]) == s.getD r.length false) = true then [true] else []) := by
  simp only [goodF, List.filter_cons, List.filter_nil]
  generalize winF s f k (r ++ [false]) = a
  generalize winF s f k (r ++ [true]) = b
  generalize s.getD r.length false = c
  cases a <;> cases b <;> cases c <;> rfl
theorem rowD_dep (r : List Bool) : dep (rowD r) ≤ 1 := by
  simp only [rowD, dep_tup]
  have := deps_le (n := 0) (ds := r.map sd) fun d hd => by
    obtain ⟨b, _, rfl⟩ := List.mem_map.mp hd
    simp [sd]
  omega
theorem good_nil (s : List Bool) (f : Form) (k : Nat) (r : List Bool) : (winF s f (k + 1) r == s.getD r.length false) = !(goodF s f k r).isEmpty := by
  simp only [winF, goodF, List.filter_cons, List.filter_nil]
  generalize winF s f k (r ++ [false]) = a
  generalize winF s f k (r ++ [true]) = b
  generalize s.getD r.length false = c
  cases a <;> cases b <;> cases c <;> rfl
theorem ne_empty (r : List Bool) : neD (rowD r) (.tup []) = some (.bl (!r.isEmpty)) := by
  rw [neD_of (.inl (by have := rowD_dep r; omega))]
  cases r <;> rfl
theorem bl_eq0 (e side : Bool) : eqD (.bl e) (.bl (bi side == 0)) = some (.bl (e == !side)) := by cases e <;> cases side <;> rfl
/-! ### trees -/
def treeF (s : List Bool) (f : Form) (side : Bool) : Nat → List Bool → Option D
  | 0, r => if f.ev r == !side then some (.tup []) else none
  | k + 1, r => if s.getD r.length false == side then
      (match treeF s f side k (r ++ [false]) with
      | some t => some (.tup [.int 0, t])
      | none => match treeF s f side k (r ++ [true]) with
        | some t => some (.tup [.int 1, t])
        | none => none)
    else match treeF s f side k (r ++ [false]) with
      | none => none
      | some t => match treeF s f side k (r ++ [true]) with
        | none => none
        | some u => some (.tup [t, u])
def isNumB (d : D) : Option Bool := match d with
  | .int i => if i = 0 then some false else if i = 1 then some true else none
  | _ => none
def isTreeF (s : List Bool) (f : Form) (side : Bool) : Nat → List Bool → D → Bool
  | 0, r, .tup ts => ts.isEmpty && (f.ev r == !side)
  | k + 1, r, .tup [a, b] => if s.getD r.length false == side then (match isNumB a with
      | some x => isTreeF s f side k (r ++ [x]) b
      | none => false) else isTreeF s f side k (r ++ [false]) a && isTreeF s f side k (r ++ [true]) b
  | _, _, _ => false
def cntF (s : List Bool) (f : Form) (side : Bool) : Nat → List Bool → Nat
  | 0, r => if f.ev r == !side then 1 else 0
  | k + 1, r => if s.getD r.length false == side then cntF s f side k (r ++ [false]) + cntF s f side k (r ++ [true]) else cntF s f side k (r ++ [false]) * cntF s f side k (r ++ [true])
theorem cntF_zero (s : List Bool) (f : Form) (side : Bool) (r : List Bool) : cntF s f side 0 r ≤ 1 := by unfold cntF; split <;> decide
theorem cntF_le (s : List Bool) (f : Form) (side : Bool) : ∀ (k : Nat) (r : List Bool), cntF s f side (k + 1) r ≤ 2 ^ 2 ^ k
  | 0, r => by
    have h1 := cntF_zero s f side (r ++ [false])
    have h2 := cntF_zero s f side (r ++ [true])
    rw [cntF]
    split
    · show _ ≤ 2; omega
    · have := Nat.mul_le_mul h1 h2
      show _ ≤ 2; omega
  | k + 1, r => by
    have h1 := cntF_le s f side k (r ++ [false])
    have h2 := cntF_le s f side k (r ++ [true])
    have e : 2 ^ 2 ^ (k + 1) = 2 ^ 2 ^ k * 2 ^ 2 ^ k := by rw [← Nat.pow_add, Nat.pow_succ]; congr 1; omega
    have h3 : 2 ≤ 2 ^ 2 ^ k := by
      have : 2 ^ 1 ≤ 2 ^ 2 ^ k := Nat.pow_le_pow_right (by omega) Nat.one_le_two_pow
      simpa using this
    rw [cntF, e]
    split
    · have := Nat.mul_le_mul h3 (Nat.le_refl (2 ^ 2 ^ k))
      omega
    · exact Nat.mul_le_mul h1 h2
theorem cntF_small (s : List Bool) (f : Form) (side : Bool) (k : Nat) (r : List Bool) (hk : k ≤ 5) : cntF s f side k r ≤ 65536 := by
  cases k with
  | zero => exact Nat.le_trans (cntF_zero s f side r) (by decide)
  | succ k =>
    refine Nat.le_trans (cntF_le s f side k r) ?_
    have h1 : 2 ^ k ≤ 2 ^ 4 := Nat.pow_le_pow_right (by omega) (by omega)
    have h2 : 2 ^ 2 ^ k ≤ 2 ^ 2 ^ 4 := Nat.pow_le_pow_right (by omega) h1
    exact Nat.le_trans h2 (by decide)
theorem cntF_pos (s : List Bool) (f : Form) (side : Bool) : ∀ (k : Nat) (r : List Bool), decide (0 < cntF s f side k r) = (winF s f k r == side)
  | 0, r => by
    rw [cntF, winF]
    by_cases c : (f.ev r == !side) = true
    · rw [if_pos c]
      have : f.ev r = !side := by simpa using c
      rw [this]; cases side <;> rfl
    · rw [if_neg c]
      have : f.ev r = side := by revert c; cases f.ev r <;> cases side <;> decide
      rw [this]; cases side <;> rfl
  | k + 1, r => by
    have h0 := cntF_pos s f side k (r ++ [false])
    have h1 := cntF_pos s f side k (r ++ [true])
    rw [cntF, winF]
    generalize cntF s f side k (r ++ [false]) = a at *
    generalize cntF s f side k (r ++ [true]) = b at *
    generalize winF s f k (r ++ [false]) = x at *
    generalize winF s f k (r ++ [true]) = y at *
    generalize s.getD r.length false = c
    by_cases q : (c == side) = true
    · rw [if_pos q]
      have q : c = side := by simpa using q
      subst q
      have e : decide (0 < a + b) = (decide (0 < a) || decide (0 < b)) := by
        by_cases z : 0 < a <;> by_cases w : 0 < b <;> simp [z, w] <;> omega
      rw [e, h0, h1]
      cases x <;> cases y <;> cases c <;> rfl
    · rw [if_neg q]
      have q : c = !side := by revert q; cases c <;> cases side <;> decide
      subst q
      have e : decide (0 < a * b) = (decide (0 < a) && decide (0 < b)) := by
        by_cases z : 0 < a <;> by_cases w : 0 < b
        · simp [z, w, Nat.mul_pos z w]
        · have : b = 0 := by omega
          subst this; simp
        · have : a = 0 := by omega
          subst this; simp
        · have : a = 0 := by omega
          subst this; simp
      rw [e, h0, h1]
      cases x <;> cases y <;> cases side <;> rfl
/-- the side that has its way has a tree, and it is one -/
theorem treeF_win (s : List Bool) (f : Form) (side : Bool) : ∀ (k : Nat) (r : List Bool), (treeF s f side k r).isSome = (winF s f k r == side)
  | 0, r => by
    simp only [treeF, winF]
    cases f.ev r <;> cases side <;> rfl
  | k + 1, r => by
    have h0 := treeF_win s f side k (r ++ [false])
    have h1 := treeF_win s f side k (r ++ [true])
    simp only [treeF, winF]
    generalize winF s f k (r ++ [false]) = a at *
    generalize winF s f k (r ++ [true]) = b at *
    generalize s.getD r.length false = c
    cases q0 : treeF s f side k (r ++ [false]) <;> cases q1 : treeF s f side k (r ++ [true]) <;> rw [q0] at h0 <;> rw [q1] at h1 <;> cases a <;> cases b <;> cases c <;> cases side <;> first | rfl | (cases h0; done) | (cases h1; done)
theorem treeF_is (s : List Bool) (f : Form) (side : Bool) : ∀ (k : Nat) (r : List Bool) (d : D), treeF s f side k r = some d → isTreeF s f side k r d = true
  | 0, r, d, h => by
    simp only [treeF] at h
    split at h
    · rename_i c; cases h; simp only [isTreeF, List.isEmpty_nil, Bool.true_and]; exact c
    · cases h
  | k + 1, r, d, h => by
    simp only [treeF] at h
    by_cases c : (s.getD r.length false == side) = true
    · rw [if_pos c] at h
      cases q0 : treeF s f side k (r ++ [false]) with
      | some t =>
        rw [q0] at h; cases h
        simp only [isTreeF, c, if_true]
        exact treeF_is s f side k _ t q0
      | none =>
        rw [q0] at h
        cases q1 : treeF s f side k (r ++ [true]) with
        | some t =>
          rw [q1] at h; cases h
          simp only [isTreeF, c, if_true]
          exact treeF_is s f side k _ t q1
        | none => rw [q1] at h; cases h
    · rw [if_neg c] at h
      cases q0 : treeF s f side k (r ++ [false]) with
      | none => rw [q0] at h; cases h
      | some t =>
        rw [q0] at h
        cases q1 : treeF s f side k (r ++ [true]) with
        | none => rw [q1] at h; cases h
        | some u =>
          rw [q1] at h; cases h
          simp only [isTreeF, if_neg c, treeF_is s f side k _ t q0, treeF_is s f side k _ u q1, Bool.and_self]
theorem isTreeF_k {s : List Bool} {f : Form} {side : Bool} {k : Nat} {r : List Bool} {d : D} : isTreeF s f side (k + 1) r d = match d with
    | .tup [a, b] => if s.getD r.length false == side then (match isNumB a with
      | some x => isTreeF s f side k (r ++ [x]) b
      | none => false) else isTreeF s f side k (r ++ [false]) a && isTreeF s f side k (r ++ [true]) b
    | _ => false := by
  cases d with
  | tup ts =>
    match ts with
    | [] => rfl
    | [_] => rfl
    | [_, _] => rfl
    | _ :: _ :: _ :: _ => rfl
  | _ => rfl
/-! ### sides exchanged -/
theorem getD_not (s : List Bool) (k : Nat) (h : k < s.length) : (s.map not).getD k false = !s.getD k false := by
  simp [List.getD, h]
theorem win_exch (s : List Bool) (f : Form) : ∀ (k : Nat) (r : List Bool), r.length + k ≤ s.length → winF (s.map not) (.not f) k r = !winF s f k r
  | 0, r, _ => rfl
  | k + 1, r, h => by
    have h0 := win_exch s f k (r ++ [false]) (by simp; omega)
    have h1 := win_exch s f k (r ++ [true]) (by simp; omega)
    simp only [winF, h0, h1, getD_not s r.length (by omega)]
    generalize winF s f k (r ++ [false]) = a
    generalize winF s f k (r ++ [true]) = b
    generalize s.getD r.length false = c
    cases a <;> cases b <;> cases c <;> rfl
theorem cnt_exch (s : List Bool) (f : Form) (side : Bool) : ∀ (k : Nat) (r : List Bool), r.length + k ≤ s.length → cntF (s.map not) (.not f) (!side) k r = cntF s f side k r
  | 0, r, _ => by
    have e : ((!f.ev r) == !!side) = (f.ev r == !side) := by cases f.ev r <;> cases side <;> rfl
    simp only [cntF, Form.ev, e]
  | k + 1, r, h => by
    have h0 := cnt_exch s f side k (r ++ [false]) (by simp; omega)
    have h1 := cnt_exch s f side k (r ++ [true]) (by simp; omega)
    simp only [cntF, h0, h1, getD_not s r.length (by omega)]
    generalize s.getD r.length false = c
    cases c <;> cases side <;> rfl
theorem isTree_exch (s : List Bool) (f : Form) (side : Bool) : ∀ (k : Nat) (r : List Bool) (d : D), r.length + k ≤ s.length → isTreeF (s.map not) (.not f) (!side) k r d = isTreeF s f side k r d
  | 0, r, d, _ => by
    cases d <;> first | rfl | (simp only [isTreeF, Form.ev]; cases f.ev r <;> cases side <;> rfl)
  | k + 1, r, d, h => by
    have ih := fun x d => isTree_exch s f side k (r ++ [x]) d (by simp; omega)
    rw [isTreeF_k, isTreeF_k]
    split
    · rename_i a b
      have e : ((s.map not).getD r.length false == !side) = (s.getD r.length false == side) := by
        rw [getD_not s r.length (by omega)]; cases s.getD r.length false <;> cases side <;> rfl
      rw [e, ih, ih]
      cases isNumB a with
      | none => rfl
      | some x => simp only [ih]
    · rfl
/-! ### turns -/
def turnsF (s : List Bool) : Nat := ((List.range (s.length - 1)).filter fun k => s.getD k false != s.getD (k + 1) false).length
theorem turns_exch (s : List Bool) : turnsF (s.map not) = turnsF s := by
  unfold turnsF
  rw [List.length_map]
  congr 1
  apply List.filter_congr
  intro k hk
  have := List.mem_range.mp hk
  rw [getD_not s k (by omega), getD_not s (k + 1) (by omega)]
  cases s.getD k false <;> cases s.getD (k + 1) false <;> rfl
theorem rangeD_map (n : Nat) : rangeD 0 n = (List.range n).map fun (k : Nat) => D.int (k : Int) := by
  unfold rangeD
  apply List.map_congr_left
  intro k _
  rw [Int.zero_add]
theorem partF_none {f g : Form} {m : Nat} (h : ∀ r, r.length = m → f.ev r = g.ev r) : partF f g m = none := by
  unfold partF
  rw [List.find?_eq_none]
  intro r hr
  rw [h r (rowsOf_len m hr)]
  simp
/-! ### trees by their numbers -/
def numF (s : List Bool) (f : Form) (side : Bool) : Nat → List Bool → Nat → D
  | 0, _, _ => .tup []
  | k + 1, r, i => if s.getD r.length false == side then
      (if i < cntF s f side k (r ++ [false]) then .tup [.int 0, numF s f side k (r ++ [false]) i] else .tup [.int 1, numF s f side k (r ++ [true]) (i - cntF s f side k (r ++ [false]))])
    else .tup [numF s f side k (r ++ [false]) (i / cntF s f side k (r ++ [true])), numF s f side k (r ++ [true]) (i % cntF s f side k (r ++ [true]))]
theorem numF_dep (s : List Bool) (f : Form) (side : Bool) : ∀ (k : Nat) (r : List Bool) (i : Nat), dep (numF s f side k r i) ≤ k + 1
  | 0, _, _ => by simp [numF]
  | k + 1, r, i => by
    have h := fun x j => numF_dep s f side k (r ++ [x]) j
    rw [numF]
    have h0 := h false i
    have h1 := h true (i - cntF s f side k (r ++ [false]))
    have h2 := h false (i / cntF s f side k (r ++ [true]))
    have h3 := h true (i % cntF s f side k (r ++ [true]))
    split
    · split <;> simp only [dep_tup, deps_cons, deps_nil, dep_int] <;> omega
    · simp only [dep_tup, deps_cons, deps_nil]; omega
/-- two numbers below c0 * c1, by their parts -/
theorem divmod_lt {i j c : Nat} (hc : 0 < c) : i < j ↔ i / c < j / c ∨ (i / c = j / c ∧ i % c < j % c) := by
  have h1 := Nat.div_add_mod i c
  have h2 := Nat.div_add_mod j c
  have h3 := Nat.mod_lt i hc
  have h4 := Nat.mod_lt j hc
  constructor
  · intro h
    by_cases q : i / c < j / c
    · exact .inl q
    · right
      have h5 : j / c ≤ i / c := by omega
      have h6 : i / c ≤ j / c := Nat.div_le_div_right (Nat.le_of_lt h)
      have h7 : i / c = j / c := by omega
      refine ⟨h7, ?_⟩
      rw [h7] at h1
      omega
  · rintro (h | ⟨h, h'⟩)
    · have : c * (i / c + 1) ≤ c * (j / c) := Nat.mul_le_mul_left c h
      rw [Nat.mul_add] at this
      omega
    · rw [h] at h1
      omega
theorem divmod_eq {i j c : Nat} : i = j ↔ i / c = j / c ∧ i % c = j % c := by
  constructor
  · intro h; subst h; exact ⟨rfl, rfl⟩
  · rintro ⟨h, h'⟩
    have h1 := Nat.div_add_mod i c
    have h2 := Nat.div_add_mod j c
    rw [h, h'] at h1
    omega
theorem numF_inj (s : List Bool) (f : Form) (side : Bool) : ∀ (k : Nat) (r : List Bool) (i j : Nat), i < cntF s f side k r → j < cntF s f side k r → deq (numF s f side k r i) (numF s f side k r j) = decide (i = j)
  | 0, r, i, j, hi, hj => by
    have := cntF_zero s f side r
    have : i = j := by omega
    subst this
    rw [deq_refl, decide_eq_true rfl]
  | k + 1, r, i, j, hi, hj => by
    have ih := fun x i j => numF_inj s f side k (r ++ [x]) i j
    rw [cntF] at hi hj
    rw [numF, numF]
    by_cases c : (s.getD r.length false == side) = true
    · rw [if_pos c] at hi hj
      rw [if_pos c, if_pos c]
      by_cases c1 : i < cntF s f side k (r ++ [false]) <;> by_cases c2 : j < cntF s f side k (r ++ [false])
      · rw [if_pos c1, if_pos c2]
        simp [ih false i j c1 c2]
      · rw [if_pos c1, if_neg c2]
        have : ¬ i = j := by omega
        simp [this]
      · rw [if_neg c1, if_pos c2]
        have : ¬ i = j := by omega
        simp [this]
      · rw [if_neg c1, if_neg c2]
        simp only [deq_tup, deqs_cons, deqs_nil, deq_int, beq_self_eq_true, Bool.true_and, Bool.and_true]
        rw [ih true _ _ (by omega) (by omega)]
        exact decide_eq_decide.mpr (by omega)
    · rw [if_neg c] at hi hj
      rw [if_neg c, if_neg c]
      have hc : 0 < cntF s f side k (r ++ [true]) := by
        rcases Nat.eq_zero_or_pos (cntF s f side k (r ++ [true])) with z | z
        · rw [z] at hi; omega
        · exact z
      simp only [deq_tup, deqs_cons, deqs_nil, Bool.and_true]
      rw [ih false _ _ ((Nat.div_lt_iff_lt_mul hc).mpr hi) ((Nat.div_lt_iff_lt_mul hc).mpr hj), ih true _ _ (Nat.mod_lt _ hc) (Nat.mod_lt _ hc), ← Bool.decide_and]
      exact decide_eq_decide.mpr divmod_eq.symm
end Sw
/-! ## plain facts: cuts, sorted rows, forms put -/
namespace Sw
open PySem L2
/-! ### cuts -/
theorem cutTo (ds : List D) (n : Nat) : cutD ds none (some (n : Int)) = ds.take n := by
  unfold cutD
  rw [show HT.sIx ds.length 0 none = 0 from rfl, HT.sIx_nat, List.drop_zero, Nat.sub_zero]
  by_cases h : n ≤ ds.length
  · rw [Nat.min_eq_left h]
  · rw [Nat.min_eq_right (by omega), List.take_length, List.take_of_length_le (by omega)]
theorem cutFrom (ds : List D) (n : Nat) : cutD ds (some (n : Int)) none = ds.drop n := by
  unfold cutD
  rw [show HT.sIx ds.length ds.length none = ds.length from rfl, HT.sIx_nat]
  by_cases h : n ≤ ds.length
  · rw [Nat.min_eq_left h, List.take_of_length_le (by rw [List.length_drop]; omega)]
  · rw [Nat.min_eq_right (by omega), List.drop_length, List.drop_eq_nil_of_le (by omega)]; simp
theorem cutRowTo (r : List Bool) (n : Nat) : sliceD (rowD r) none (some (n : Int)) = some (rowD (r.take n)) := by
  show some (D.tup (cutD (r.map sd) none (some (n : Int)))) = _
  rw [cutTo, ← List.map_take]; rfl
theorem cutRowFrom (r : List Bool) (n : Nat) : sliceD (rowD r) (some (n : Int)) none = some (rowD (r.drop n)) := by
  show some (D.tup (cutD (r.map sd) (some (n : Int)) none)) = _
  rw [cutFrom, ← List.map_drop]; rfl
theorem rowD_append (r q : List Bool) (h : r.length + q.length ≤ 1000) : addD (rowD r) (rowD q) = some (rowD (r ++ q)) := by
  unfold rowD
  rw [addD_tup (by simp; omega)]
  simp
theorem one_row (b : Bool) : D.tup [sd b] = rowD [b] := rfl
theorem set_split : ∀ (r : List Bool) (k : Nat) (b : Bool), k < r.length → r.take k ++ [b] ++ r.drop (k + 1) = r.set k b
  | [], _, _, h => by simp at h
  | x :: r, 0, b, _ => by simp
  | x :: r, k + 1, b, h => by
    have := set_split r k b (by simpa using h)
    simp at this ⊢
    exact this
/-! ### rows are sorted -/
def kr (r : List Bool) : List Int := r.map bi
theorem rowD_tupI (r : List Bool) : rowD r = tupI (kr r) := by
  unfold rowD tupI kr
  rw [List.map_map]; rfl
theorem kr_inj {r q : List Bool} (h : kr r = kr q) : r = q := by
  unfold kr at h
  induction r generalizing q with
  | nil => cases q with
    | nil => rfl
    | cons => simp at h
  | cons x r ih => cases q with
    | nil => simp at h
    | cons y q =>
      simp only [List.map_cons, List.cons.injEq] at h
      rw [ih h.2]
      have : x = y := by revert h; cases x <;> cases y <;> simp [bi]
      rw [this]
def rlt (a b : List Bool) : Bool := HT.lexLt (kr a) (kr b)
theorem swo_row : SrtO.Swo rlt := NtL.swo_lexL kr
theorem lex_ext : ∀ (a b : List Bool) (x y : List Bool), a.length = b.length → rlt a b = true → rlt (a ++ x) (b ++ y) = true
  | [], [], _, _, _, h => by cases h
  | [], _ :: _, _, _, h, _ => by simp at h
  | _ :: _, [], _, _, h, _ => by simp at h
  | p :: a, q :: b, x, y, hl, h => by
    have h : HT.lexLt (bi p :: kr a) (bi q :: kr b) = true := h
    show HT.lexLt (bi p :: kr (a ++ x)) (bi q :: kr (b ++ y)) = true
    rw [HT.lexLt_cons] at h ⊢
    by_cases e : bi p = bi q
    · rw [if_pos e] at h ⊢
      exact lex_ext a b x y (by simpa using hl) h
    · rw [if_neg e] at h ⊢; exact h
theorem lex_pre : ∀ (a x y : List Bool), rlt (a ++ x) (a ++ y) = rlt x y
  | [], _, _ => rfl
  | p :: a, x, y => by
    show HT.lexLt (bi p :: kr (a ++ x)) (bi p :: kr (a ++ y)) = _
    rw [HT.lexLt_cons, if_pos rfl]
    exact lex_pre a x y
theorem rowsOf_sorted : ∀ n : Nat, (rowsOf n).Pairwise fun a b => rlt a b = true
  | 0 => List.pairwise_singleton _ _
  | n + 1 => by
    rw [rowsOf, List.pairwise_flatMap]
    refine ⟨fun r _ => ?_, ?_⟩
    · refine List.pairwise_cons.mpr ⟨fun q hq => ?_, List.pairwise_singleton _ _⟩
      have : q = r ++ [true] := by simpa using hq
      subst this
      rw [lex_pre]; rfl
    · refine List.Pairwise.imp_of_mem (fun {a b} ha hb h x hx y hy => ?_) (rowsOf_sorted n)
      have la := rowsOf_len n ha
      have lb := rowsOf_len n hb
      obtain ⟨u, rfl⟩ : ∃ u, x = a ++ [u] := by
        simp at hx; rcases hx with e | e
        · exact ⟨false, e⟩
        · exact ⟨true, e⟩
      obtain ⟨v, rfl⟩ : ∃ u, y = b ++ [u] := by
        simp at hy; rcases hy with e | e
        · exact ⟨false, e⟩
        · exact ⟨true, e⟩
      exact lex_ext a b _ _ (by omega) h
theorem intss_rows : ∀ rs : List (List Bool), intssD (rs.map rowD) = some (rs.map kr)
  | [] => rfl
  | r :: rs => by
    have hi : intsD (r.map sd) = some (kr r) := by
      induction r with
      | nil => rfl
      | cons b r ih =>
        show (intsD (r.map sd)).map _ = _
        rw [ih]; rfl
    show (intsD (r.map sd)).bind _ = _
    rw [hi, Option.bind_some, intss_rows rs, Option.bind_some]
    rfl
/-- sorted of rows: the sorted list of them -/
theorem sorted_rows {rs qs : List (List Bool)} (hne : 2 ≤ rs.length → ∀ r ∈ rs, r ≠ []) (p : qs.Perm rs) (hs : qs.Pairwise fun a b => rlt b a = false) : sortedD (.lst (rs.map rowD)) = some (.lst (qs.map rowD)) := by
  cases rs with
  | nil =>
    have : qs = [] := List.Perm.eq_nil p
    subst this
    rfl
  | cons r rs =>
    have e : intsD ((r :: rs).map rowD) = none := rfl
    have e2 := intss_rows (r :: rs)
    have e4 : (decide (((r :: rs).map kr).length < 2) || ((r :: rs).map kr).all fun n => !n.isEmpty) = true := by
      rw [Bool.or_eq_true]
      by_cases c : 2 ≤ (r :: rs).length
      · refine .inr (List.all_eq_true.mpr fun n hn => ?_)
        obtain ⟨q, hq, rfl⟩ := List.mem_map.mp hn
        have := hne c q hq
        cases q with
        | nil => exact absurd rfl this
        | cons => rfl
      · exact .inl (decide_eq_true (by rw [List.length_map]; omega))
    unfold sortedD
    simp only [e, e2, Option.bind_some, e4, if_true]
    have e3 : sortB HT.lexLt ((r :: rs).map kr) = qs.map kr := by
      refine perm_uniq (le := fun a b : List Int => HT.lexLt b a = false) (fun a b h1 h2 => lexLt_anti a b h2 h1) (sortB_sorted swo_L _) (List.pairwise_map.mpr hs) ?_
      exact (sortB_perm _ _).trans (p.map kr).symm
    show some (D.lst ((sortB HT.lexLt ((r :: rs).map kr)).map tupI)) = _
    rw [e3, List.map_map]
    congr 2
    exact List.map_congr_left fun q _ => (rowD_tupI q).symm
theorem sorted_filter {n : Nat} (hn : 0 < n) (p : List Bool → Bool) : sortedD (.lst (((rowsOf n).filter p).map rowD)) = some (.lst (((rowsOf n).filter p).map rowD)) := by
  refine sorted_rows (fun _ r hr => ?_) (List.Perm.refl _) ?_
  · have := rowsOf_len n (List.mem_filter.mp hr).1
    intro z; subst z; simp at this; omega
  · exact ((rowsOf_sorted n).sublist List.filter_sublist).imp fun {a b} h => swo_row.asym _ _ h
/-! ### forms put -/
theorem put_set (k : Nat) (b : Bool) (r : List Bool) (hk : k < r.length) : ∀ f : Form, (f.put k b).ev r = f.ev (r.set k b)
  | .yes => rfl
  | .no => rfl
  | .is j => by
    simp only [Form.put]
    by_cases c : j = k
    · subst c
      rw [if_pos rfl]
      cases b <;> simp [Form.ev, hk]
    · rw [if_neg c]
      simp [Form.ev, List.getElem?_set_ne (Ne.symm c)]
  | .not f => by simp only [Form.put, Form.ev, put_set k b r hk f]
  | .both f g => by simp only [Form.put, Form.ev, put_set k b r hk f, put_set k b r hk g]
  | .either f g => by simp only [Form.put, Form.ev, put_set k b r hk f, put_set k b r hk g]
theorem put_comm {k j : Nat} (h : k ≠ j) (a b : Bool) : ∀ f : Form, (f.put k a).put j b = (f.put j b).put k a
  | .yes => rfl
  | .no => rfl
  | .is i => by
    simp only [Form.put]
    by_cases c : i = k
    · subst c
      rw [if_pos rfl, if_neg h]
      simp only [Form.put, if_true]
      cases a <;> rfl
    · rw [if_neg c]
      by_cases c2 : i = j
      · subst c2
        simp only [Form.put, if_true]
        cases b <;> rfl
      · rw [if_neg c2]
        simp only [Form.put, if_neg c, if_neg c2]
  | .not f => by simp only [Form.put, put_comm h a b f]
  | .both f g => by simp only [Form.put, put_comm h a b f, put_comm h a b g]
  | .either f g => by simp only [Form.put, put_comm h a b f, put_comm h a b g]
theorem put_twice (k : Nat) (a b : Bool) : ∀ f : Form, (f.put k a).put k b = f.put k a
  | .yes => rfl
  | .no => rfl
  | .is i => by
    simp only [Form.put]
    by_cases c : i = k
    · rw [if_pos c]; cases a <;> rfl
    · rw [if_neg c]; simp only [Form.put, if_neg c]
  | .not f => by simp only [Form.put, put_twice k a b f]
  | .both f g => by simp only [Form.put, put_twice k a b f, put_twice k a b g]
  | .either f g => by simp only [Form.put, put_twice k a b f, put_twice k a b g]
theorem partF_symm (f g : Form) (m : Nat) : partF g f m = partF f g m := by
  unfold partF
  congr 1
  funext r
  cases f.ev r <;> cases g.ev r <;> rfl
theorem form_dep {f : Form} (h : f.depth ≤ 140) : dep f.d ≤ 150 := by have := dep_form f; omega
theorem ne_form {f : Form} (h : f.depth ≤ 140) : neD f.d f.d = some (.bl false) := by rw [neD_of (.inl (form_dep h)), deq_refl]; rfl
theorem eq_form {f : Form} (h : f.depth ≤ 140) : eqD f.d f.d = some (.bl true) := by rw [eqD_of (.inl (form_dep h)), deq_refl]
end Sw
namespace Sw
open PySem L2
def top (i : Nat) : Stmt := PySem.Challenge.pw_switchduel_k04_whole_texts_of_parts.main.body.getD i (.Pass ⟨0, 0, 0, 0⟩)
def ris_number : DefR := ⟨"is_number", top 7, ["thing", "most"], ["thing", "most"], [], false⟩
def ris_form_to : DefR := ⟨"is_form_to", top 8, ["thing", "many", "deep", "part"], ["thing", "many", "deep"], [], false⟩
def ris_form : DefR := ⟨"is_form", top 9, ["thing", "many"], ["thing", "many"], [], false⟩
def ris_duel : DefR := ⟨"is_duel", top 10, ["thing", "side"], ["thing"], [], false⟩
def rwords_of : DefR := ⟨"words_of", top 12, ["form", "found", "part"], ["form"], ["found"], false⟩
def rwritten : DefR := ⟨"written", top 13, ["duel", "side"], ["duel"], [], false⟩
def rread : DefR := ⟨"read", top 17, ["text", "words", "at", "word", "reader", "found"], ["text"], [], false⟩
def rlaw_cell_at : DefR := ⟨"_law_cell_at", top 19, ["script", "k"], ["script", "k"], [], false⟩
def rlaw_mixed : DefR := ⟨"_law_mixed", top 20, ["script", "k", "drawn"], ["script", "k"], [], false⟩
def rlaw_drawn : DefR := ⟨"_law_drawn", top 21, ["number", "k", "drawn"], ["number", "k"], [], false⟩
def rlaw_form : DefR := ⟨"_law_form", top 22, ["number", "many", "deep", "kind", "one", "other"], ["number", "many", "deep"], [], false⟩
def rlaw_none : DefR := ⟨"_law_none", top 23, ["text"], ["text"], [], false⟩
def rlaw_by_hand : DefR := ⟨"_law_by_hand", top 24, ["number", "deep", "k", "bad", "fine", "text"], ["number"], [], false⟩
def rlaw : DefR := ⟨"law", top 25, ["script", "many", "sides", "k", "one", "other", "head", "side", "here", "there", "whole", "word", "duel", "text", "used", "size"], ["script"], [], false⟩
def defsR : List DefR := [ris_number, ris_form_to, ris_form, ris_duel, rwords_of, rwritten, rread, rlaw_cell_at, rlaw_mixed, rlaw_drawn, rlaw_form, rlaw_none, rlaw_by_hand, rlaw]
def hofsR : List DefR := []
theorem ok_ris_number : DefOk ris_number := ⟨⟨rfl, rfl, rfl, by decide +kernel, rfl, by decide +kernel, by decide +kernel⟩, by decide +kernel, by decide +kernel, by decide +kernel⟩
theorem ok_ris_form_to : DefOk ris_form_to := ⟨⟨rfl, rfl, rfl, by decide +kernel, rfl, by decide +kernel, by decide +kernel⟩, by decide +kernel, by decide +kernel, by decide +kernel⟩
theorem ok_ris_form : DefOk ris_form := ⟨⟨rfl, rfl, rfl, by decide +kernel, rfl, by decide +kernel, by decide +kernel⟩, by decide +kernel, by decide +kernel, by decide +kernel⟩
theorem ok_ris_duel : DefOk ris_duel := ⟨⟨rfl, rfl, rfl, by decide +kernel, rfl, by decide +kernel, by decide +kernel⟩, by decide +kernel, by decide +kernel, by decide +kernel⟩
theorem ok_rwords_of : DefOk rwords_of := ⟨⟨rfl, rfl, rfl, by decide +kernel, rfl, by decide +kernel, by decide +kernel⟩, by decide +kernel, by decide +kernel, by decide +kernel⟩
theorem ok_rwritten : DefOk rwritten := ⟨⟨rfl, rfl, rfl, by decide +kernel, rfl, by decide +kernel, by decide +kernel⟩, by decide +kernel, by decide +kernel, by decide +kernel⟩
theorem ok_rread : DefOk rread := ⟨⟨rfl, rfl, rfl, by decide +kernel, rfl, by decide +kernel, by decide +kernel⟩, by decide +kernel, by decide +kernel, by decide +kernel⟩
theorem ok_rlaw_cell_at : DefOk rlaw_cell_at := ⟨⟨rfl, rfl, rfl, by decide +kernel, rfl, by decide +kernel, by decide +kernel⟩, by decide +kernel, by decide +kernel, by decide +kernel⟩
theorem ok_rlaw_mixed : DefOk rlaw_mixed := ⟨⟨rfl, rfl, rfl, by decide +kernel, rfl, by decide +kernel, by decide +kernel⟩, by decide +kernel, by decide +kernel, by decide +kernel⟩
theorem ok_rlaw_drawn : DefOk rlaw_drawn := ⟨⟨rfl, rfl, rfl, by decide +kernel, rfl, by decide +kernel, by decide +kernel⟩, by decide +kernel, by decide +kernel, by decide +kernel⟩
theorem ok_rlaw_form : DefOk rlaw_form := ⟨⟨rfl, rfl, rfl, by decide +kernel, rfl, by decide +kernel, by decide +kernel⟩, by decide +kernel, by decide +kernel, by decide +kernel⟩
theorem ok_rlaw_none : DefOk rlaw_none := ⟨⟨rfl, rfl, rfl, by decide +kernel, rfl, by decide +kernel, by decide +kernel⟩, by decide +kernel, by decide +kernel, by decide +kernel⟩
theorem ok_rlaw_by_hand : DefOk rlaw_by_hand := ⟨⟨rfl, rfl, rfl, by decide +kernel, rfl, by decide +kernel, by decide +kernel⟩, by decide +kernel, by decide +kernel, by decide +kernel⟩
theorem ok_rlaw : DefOk rlaw := ⟨⟨rfl, rfl, rfl, by decide +kernel, rfl, by decide +kernel, by decide +kernel⟩, by decide +kernel, by decide +kernel, by decide +kernel⟩
theorem ok_all : ∀ r ∈ defsR, DefOk r := by
  intro r hr
  simp only [defsR, hofsR, List.cons_append, List.nil_append, List.mem_cons, List.not_mem_nil, or_false] at hr
  rcases hr with rfl | rfl | rfl | rfl | rfl | rfl | rfl | rfl | rfl | rfl | rfl | rfl | rfl | rfl
  · exact ok_ris_number
  · exact ok_ris_form_to
  · exact ok_ris_form
  · exact ok_ris_duel
  · exact ok_rwords_of
  · exact ok_rwritten
  · exact ok_rread
  · exact ok_rlaw_cell_at
  · exact ok_rlaw_mixed
  · exact ok_rlaw_drawn
  · exact ok_rlaw_form
  · exact ok_rlaw_none
  · exact ok_rlaw_by_hand
  · exact ok_rlaw
theorem bd_ris_number : ∀ (kV doc pm : Value) (an : Option Addr) (cdv ct : Value) (us : List Value), us.length = ris_number.ps.length → bindArgs (PySem.W.fnOf ris_number.name ris_number.name (defArgs ris_number.st) (defBody ris_number.st) (defScope ris_number.st) .none kV doc pm an cdv ct) ⟨us, []⟩ = pure (ris_number.ps.zip us) :=
  fun _ _ _ _ _ _ us hl => match us, hl with | [_, _], _ => rfl
theorem bd_ris_form_to : ∀ (kV doc pm : Value) (an : Option Addr) (cdv ct : Value) (us : List Value), us.length = ris_form_to.ps.length → bindArgs (PySem.W.fnOf ris_form_to.name ris_form_to.name (defArgs ris_form_to.st) (defBody ris_form_to.st) (defScope ris_form_to.st) .none kV doc pm an cdv ct) ⟨us, []⟩ = pure (ris_form_to.ps.zip us) :=
  fun _ _ _ _ _ _ us hl => match us, hl with | [_, _, _], _ => rfl
theorem bd_ris_form : ∀ (kV doc pm : Value) (an : Option Addr) (cdv ct : Value) (us : List Value), us.length = ris_form.ps.length → bindArgs (PySem.W.fnOf ris_form.name ris_form.name (defArgs ris_form.st) (defBody ris_form.st) (defScope ris_form.st) .none kV doc pm an cdv ct) ⟨us, []⟩ = pure (ris_form.ps.zip us) :=
  fun _ _ _ _ _ _ us hl => match us, hl with | [_, _], _ => rfl
theorem bd_ris_duel : ∀ (kV doc pm : Value) (an : Option Addr) (cdv ct : Value) (us : List Value), us.length = ris_duel.ps.length → bindArgs (PySem.W.fnOf ris_duel.name ris_duel.name (defArgs ris_duel.st) (defBody ris_duel.st) (defScope ris_duel.st) .none kV doc pm an cdv ct) ⟨us, []⟩ = pure (ris_duel.ps.zip us) :=
  fun _ _ _ _ _ _ us hl => match us, hl with | [_], _ => rfl
theorem bd_rwords_of : ∀ (kV doc pm : Value) (an : Option Addr) (cdv ct : Value) (us : List Value), us.length = rwords_of.ps.length → bindArgs (PySem.W.fnOf rwords_of.name rwords_of.name (defArgs rwords_of.st) (defBody rwords_of.st) (defScope rwords_of.st) .none kV doc pm an cdv ct) ⟨us, []⟩ = pure (rwords_of.ps.zip us) :=
  fun _ _ _ _ _ _ us hl => match us, hl with | [_], _ => rfl
theorem bd_rwritten : ∀ (kV doc pm : Value) (an : Option Addr) (cdv ct : Value) (us : List Value), us.length = rwritten.ps.length → bindArgs (PySem.W.fnOf rwritten.name rwritten.name (defArgs rwritten.st) (defBody rwritten.st) (defScope rwritten.st) .none kV doc pm an cdv ct) ⟨us, []⟩ = pure (rwritten.ps.zip us) :=
  fun _ _ _ _ _ _ us hl => match us, hl with | [_], _ => rfl
theorem bd_rread : ∀ (kV doc pm : Value) (an : Option Addr) (cdv ct : Value) (us : List Value), us.length = rread.ps.length → bindArgs (PySem.W.fnOf rread.name rread.name (defArgs rread.st) (defBody rread.st) (defScope rread.st) .none kV doc pm an cdv ct) ⟨us, []⟩ = pure (rread.ps.zip us) :=
  fun _ _ _ _ _ _ us hl => match us, hl with | [_], _ => rfl
theorem bd_rlaw_cell_at : ∀ (kV doc pm : Value) (an : Option Addr) (cdv ct : Value) (us : List Value), us.length = rlaw_cell_at.ps.length → bindArgs (PySem.W.fnOf rlaw_cell_at.name rlaw_cell_at.name (defArgs rlaw_cell_at.st) (defBody rlaw_cell_at.st) (defScope rlaw_cell_at.st) .none kV doc pm an cdv ct) ⟨us, []⟩ = pure (rlaw_cell_at.ps.zip us) :=
  fun _ _ _ _ _ _ us hl => match us, hl with | [_, _], _ => rfl
theorem bd_rlaw_mixed : ∀ (kV doc pm : Value) (an : Option Addr) (cdv ct : Value) (us : List Value), us.length = rlaw_mixed.ps.length → bindArgs (PySem.W.fnOf rlaw_mixed.name rlaw_mixed.name (defArgs rlaw_mixed.st) (defBody rlaw_mixed.st) (defScope rlaw_mixed.st) .none kV doc pm an cdv ct) ⟨us, []⟩ = pure (rlaw_mixed.ps.zip us) :=
  fun _ _ _ _ _ _ us hl => match us, hl with | [_, _], _ => rfl
theorem bd_rlaw_drawn : ∀ (kV doc pm : Value) (an : Option Addr) (cdv ct : Value) (us : List Value), us.length = rlaw_drawn.ps.length → bindArgs (PySem.W.fnOf rlaw_drawn.name rlaw_drawn.name (defArgs rlaw_drawn.st) (defBody rlaw_drawn.st) (defScope rlaw_drawn.st) .none kV doc pm an cdv ct) ⟨us, []⟩ = pure (rlaw_drawn.ps.zip us) :=
  fun _ _ _ _ _ _ us hl => match us, hl with | [_, _], _ => rfl
theorem bd_rlaw_form : ∀ (kV doc pm : Value) (an : Option Addr) (cdv ct : Value) (us : List Value), us.length = rlaw_form.ps.length → bindArgs (PySem.W.fnOf rlaw_form.name rlaw_form.name (defArgs rlaw_form.st) (defBody rlaw_form.st) (defScope rlaw_form.st) .none kV doc pm an cdv ct) ⟨us, []⟩ = pure (rlaw_form.ps.zip us) :=
  fun _ _ _ _ _ _ us hl => match us, hl with | [_, _, _], _ => rfl
theorem bd_rlaw_none : ∀ (kV doc pm : Value) (an : Option Addr) (cdv ct : Value) (us : List Value), us.length = rlaw_none.ps.length → bindArgs (PySem.W.fnOf rlaw_none.name rlaw_none.name (defArgs rlaw_none.st) (defBody rlaw_none.st) (defScope rlaw_none.st) .none kV doc pm an cdv ct) ⟨us, []⟩ = pure (rlaw_none.ps.zip us) :=
  fun _ _ _ _ _ _ us hl => match us, hl with | [_], _ => rfl
theorem bd_rlaw_by_hand : ∀ (kV doc pm : Value) (an : Option Addr) (cdv ct : Value) (us : List Value), us.length = rlaw_by_hand.ps.length → bindArgs (PySem.W.fnOf rlaw_by_hand.name rlaw_by_hand.name (defArgs rlaw_by_hand.st) (defBody rlaw_by_hand.st) (defScope rlaw_by_hand.st) .none kV doc pm an cdv ct) ⟨us, []⟩ = pure (rlaw_by_hand.ps.zip us) :=
  fun _ _ _ _ _ _ us hl => match us, hl with | [_], _ => rfl
theorem bd_rlaw : ∀ (kV doc pm : Value) (an : Option Addr) (cdv ct : Value) (us : List Value), us.length = rlaw.ps.length → bindArgs (PySem.W.fnOf rlaw.name rlaw.name (defArgs rlaw.st) (defBody rlaw.st) (defScope rlaw.st) .none kV doc pm an cdv ct) ⟨us, []⟩ = pure (rlaw.ps.zip us) :=
  fun _ _ _ _ _ _ us hl => match us, hl with | [_], _ => rfl
theorem bd_all : ∀ r ∈ defsR, Bds r := by
  intro r hr
  simp only [defsR, hofsR, List.cons_append, List.nil_append, List.mem_cons, List.not_mem_nil, or_false] at hr
  rcases hr with rfl | rfl | rfl | rfl | rfl | rfl | rfl | rfl | rfl | rfl | rfl | rfl | rfl | rfl
  · exact bd_ris_number
  · exact bd_ris_form_to
  · exact bd_ris_form
  · exact bd_ris_duel
  · exact bd_rwords_of
  · exact bd_rwritten
  · exact bd_rread
  · exact bd_rlaw_cell_at
  · exact bd_rlaw_mixed
  · exact bd_rlaw_drawn
  · exact bd_rlaw_form
  · exact bd_rlaw_none
  · exact bd_rlaw_by_hand
  · exact bd_rlaw
def csR : List (Str × Int) := [("DEEP", 6), ("MOST", 6)]
def tsR : List (Str × List (Str × Int)) := [("PARTS", [("not", 1), ("both", 2), ("either", 2)])]
def gl0R : Gl := flatG csR tsR
noncomputable abbrev P0 (n : Nat) : Str → List D → Option D := phi defsR gl0R n
theorem P0_succ (n : Nat) (f : Str) (as : List D) : P0 (n + 1) f as = stepR defsR gl0R (P0 n) f as := rfl
def sInit : Stmt := inClass (top 16) 0
def sForm : Stmt := inClass (top 16) 1
def msR : List He.DefD := [mdOf "Reader" "__init__" "Reader.__init__" sInit, mdOf "Reader" "form" "Reader.form" sForm]
def figs : Str := "0123456789"
def kvsP : List (Str × Int) := [("not", 1), ("both", 2), ("either", 2)]
/-! what the Reader reads, plainly: so many levels are left; where it stands -/
def isW (w : Str) : Option D := match w.cps.toList with
  | [a, c] => if a = 115 ∧ 48 ≤ c ∧ c < 58 then some (.tup [.str "is", .int ((c : Int) - 48)]) else none
  | _ => none
def rdN (F : Nat → Option (D × Nat)) : Nat → Nat → Option (List D × Nat)
  | 0, i => some ([], i)
  | n + 1, i => (F i).bind fun q => (rdN F n q.2).bind fun r => some (q.1 :: r.1, r.2)
def rdF (ws : List Str) : Nat → Nat → Option (D × Nat)
  | 0, _ => none
  | n + 1, i => match ws[i]? with
    | none => none
    | some w => if w = "yes" ∨ w = "no" then some (.str w, i + 1) else match getK kvsP w with
      | some m => (rdN (rdF ws n) m.toNat (i + 1)).bind fun q => some (.tup (.str w :: q.1), q.2)
      | none => (isW w).bind fun d => some (d, i + 1)
def sideW (w : Str) : Bool := decide (w = "0") || decide (w = "1")
def digD (w : Str) : D := .int (if w = "1" then 1 else 0)
def readP (z : Str) : Option D :=
  if ((Txt.split z " ").take 7).contains ":" = true then
    (idxS ":" (Txt.split z " ") 0).bind fun i =>
      if ((Txt.split z " ").take i).all sideW = true then (rdF ((Txt.split z " ").drop (i + 1)) 7 0).bind fun q => some (.tup [.tup (((Txt.split z " ").take i).map digD), q.1]) else none
  else none
/-- the last test of read -/
noncomputable def endT (f : D) (z : Str) : Option Bool := (evalD (tabR defsR gl0R (P0 40) rread) rread.N 30 true (defScope rread.st) (ifTest (stAt (defBody rread.st) 7)) [some (.dat (.str z)), none, none, none, none, some (.dat f)]).bind asB
noncomputable def readO (z : Str) : Option (Option D) := if z.length ≤ 100000 then (match readP z with
    | none => some none
    | some f => (endT f z).map fun b => if b = true then none else some f) else none
noncomputable def readX : List D → Option D
  | [.str z] => (readO z).bind id
  | _ => none
noncomputable def noneX : List D → Option D
  | [.str z] => (readO z).map fun o => .bl o.isNone
  | _ => none
noncomputable def toldX : List D → Option D
  | [.str z] => (readO z).map fun o => o.getD .non
  | _ => none
def faR : List He.Fa := [.exc "NoText", .glo "NoText", .glo "DuelError", .glo "DuelError", .free "ValueError", .exm "NoText" "NoText" true, .cls "Reader", .glo "Reader", .noat "Reader" "words", .noat "Reader" "at", .meth "Reader" "form", .mkr "Reader", .str "FIGURES" "0123456789"]
def xbI (_ : PySem.W.Frag) : Bool := true
def xbR (K : PySem.W.Frag) : Bool := (faR.all fun f => f.ok K) && xbI K
noncomputable def xfR (f : Str) : Option (List D → Option D) := if f = "_law_none" then some noneX else if f = "read" then some readX else none
noncomputable def glR : Gl := ⟨intsOf csR, tabsOf tsR, fun _ => none, none, 60, xfR⟩
set_option maxHeartbeats 0
def looseR : List Str := "DuelError" :: "NoText" :: "DEEP" :: "MOST" :: "PARTS" :: "is_number" :: "is_form_to" :: "is_form" :: "is_duel" :: "words_of" :: "written" :: "FIGURES" :: "Reader" :: "read" :: "_law_cell_at" :: "_law_mixed" :: "_law_drawn" :: "_law_form" :: "_law_none" :: "_law_by_hand" :: []
abbrev rowR : PySem.W.OpenRow := PySem.W.OpenLaw.row PySem.Challenge.rw_switchduel_k04_whole_texts_of_parts
abbrev hkR : PySem.W.Hook := hookX 5 (facL defsR csR tsR) (defsR.map ddOf ++ msR) tsR xbR
def obR (s : PySem.W.SharedT) : AlX := obsXG 5 (facL defsR csR tsR) (defsR.map ddOf ++ msR) tsR xbR (HandSHeadRun.getT s)
theorem obR_eq (s : PySem.W.SharedT) : obR s = hkR.obs s.abs := obsXG_eq (HandSHeadRun.getT_eq s)
theorem runR (w : World) : HandSHeadRun.RunEq rowR (PySem.W.view rowR.prog [25]) hkR obR 3000 looseR w := by
  refine PySem.W.byRow2 "special-get-raises" (P := fun w => HandSHeadRun.RunEq rowR (PySem.W.view rowR.prog [25]) hkR obR 3000 looseR w) ?_ ?_ w
  · intro w os
    kernel_rfl
  · intro w os
    kernel_rfl
set_option maxHeartbeats 4000000
noncomputable abbrev Ph (n : Nat) : Str → List D → Option D := phi defsR glR n
theorem Ph_succ (n : Nat) (f : Str) (as : List D) : Ph (n + 1) f as = stepR defsR glR (Ph n) f as := rfl
/-! is_number -/
theorem e_is_number_eq (Φ : Str → List D → Option D) (thing : D) (most : Int) : stepR defsR glR Φ "is_number" [thing, .int most] =
    if (isiB .int thing) = true then if (!(isiB .bool thing)) = true then ((cmpI (fun i j => decide (i ≤ j)) (.int 0) thing).bind asB).bind fun b1 => if b1 = true then cmpI (fun i j => decide (i ≤ j)) thing (.int most) else some (.bl false) else some (.bl (!(isiB .bool thing))) else some (.bl (isiB .int thing)) := by kernel_rfl
theorem z_is_number_eq (Φ : Str → List D → Option D) (thing : D) (most : Int) : stepR defsR gl0R Φ "is_number" [thing, .int most] =
    if (isiB .int thing) = true then if (!(isiB .bool thing)) = true then ((cmpI (fun i j => decide (i ≤ j)) (.int 0) thing).bind asB).bind fun b1 => if b1 = true then cmpI (fun i j => decide (i ≤ j)) thing (.int most) else some (.bl false) else some (.bl (!(isiB .bool thing))) else some (.bl (isiB .int thing)) := by kernel_rfl
/-! is_form_to -/
theorem e_is_form_to_eq (Φ : Str → List D → Option D) (thing : D) (many : Int) (deep : Int) : stepR defsR glR Φ "is_form_to" [thing, .int many, .int deep] =
    if (isiB .str thing) = true then inD false thing (.tup [.str "yes", .str "no"]) else ((if (!(isiB .tuple thing)) = false then (((lenD thing).bind fun x1 => cmpI (fun i j => decide (i < j)) x1 (.int 2)).bind asB).bind fun b2 => if b2 = false then ((((ixD thing (.int 0)).map fun x3 => .bl (isiB .str x3)).map fun x4 => .bl (truthD x4)).bind asB).map fun b => .bl (!b) else some (.bl b2) else some (.bl (!(isiB .tuple thing)))).bind asB).bind fun b5 => if b5 = true then some (.bl false) else (((ixD thing (.int 0)).bind fun x6 => eqD x6 (.str "is")).bind asB).bind fun b7 => if b7 = true then ((lenD thing).bind fun x8 => eqD x8 (.int 2)).bind fun x9 => if (truthD x9) = true then ((ixD thing (.int 1)).bind fun x10 => some [x10, .int (many - 1)]).bind (Φ "is_number") else some x9 else ((if (deep == 0) = false then (((ixD thing (.int 0)).bind fun x11 => inK true [("not", 1), ("both", 2), ("either", 2)] x11).bind asB).bind fun b12 => if b12 = false then (lenD thing).bind fun x13 => (((ixD thing (.int 0)).bind fun x14 => ixK [("not", 1), ("both", 2), ("either", 2)] x14).bind fun x15 => addD (.int 1) x15).bind fun x16 => neD x13 x16 else some (.bl b12) else some (.bl (deep == 0))).bind asB).bind fun b17 => if b17 = true then some (.bl false) else ((((sliceD thing (some 1) none).bind seqD).bind fun l19 => (compD (fun d18 => (Φ "is_form_to" [d18, .int many, .int (deep - 1)]).map some) l19).map D.lst).bind fun x20 => some [x20]).bind (one allD) := by kernel_rfl
theorem z_is_form_to_eq (Φ : Str → List D → Option D) (thing : D) (many : Int) (deep : Int) : stepR defsR gl0R Φ "is_form_to" [thing, .int many, .int deep] =
    if (isiB .str thing) = true then inD false thing (.tup [.str "yes", .str "no"]) else ((if (!(isiB .tuple thing)) = false then (((lenD thing).bind fun x1 => cmpI (fun i j => decide (i < j)) x1 (.int 2)).bind asB).bind fun b2 => if b2 = false then ((((ixD thing (.int 0)).map fun x3 => .bl (isiB .str x3)).map fun x4 => .bl (truthD x4)).bind asB).map fun b => .bl (!b) else some (.bl b2) else some (.bl (!(isiB .tuple thing)))).bind asB).bind fun b5 => if b5 = true then some (.bl false) else (((ixD thing (.int 0)).bind fun x6 => eqD x6 (.str "is")).bind asB).bind fun b7 => if b7 = true then ((lenD thing).bind fun x8 => eqD x8 (.int 2)).bind fun x9 => if (truthD x9) = true then ((ixD thing (.int 1)).bind fun x10 => some [x10, .int (many - 1)]).bind (Φ "is_number") else some x9 else ((if (deep == 0) = false then (((ixD thing (.int 0)).bind fun x11 => inK true [("not", 1), ("both", 2), ("either", 2)] x11).bind asB).bind fun b12 => if b12 = false then (lenD thing).bind fun x13 => (((ixD thing (.int 0)).bind fun x14 => ixK [("not", 1), ("both", 2), ("either", 2)] x14).bind fun x15 => addD (.int 1) x15).bind fun x16 => neD x13 x16 else some (.bl b12) else some (.bl (deep == 0))).bind asB).bind fun b17 => if b17 = true then some (.bl false) else ((((sliceD thing (some 1) none).bind seqD).bind fun l19 => (compD (fun d18 => (Φ "is_form_to" [d18, .int many, .int (deep - 1)]).map some) l19).map D.lst).bind fun x20 => some [x20]).bind (one allD) := by kernel_rfl
theorem e_is_form_to_s_eq (Φ : Str → List D → Option D) (x : Str) (many : Int) (deep : Int) : stepR defsR glR Φ "is_form_to" [.str x, .int many, .int deep] =
    inD false (.str x) (.tup [.str "yes", .str "no"]) := by kernel_rfl
theorem z_is_form_to_s_eq (Φ : Str → List D → Option D) (x : Str) (many : Int) (deep : Int) : stepR defsR gl0R Φ "is_form_to" [.str x, .int many, .int deep] =
    inD false (.str x) (.tup [.str "yes", .str "no"]) := by kernel_rfl
theorem e_is_form_to_t_eq (Φ : Str → List D → Option D) (ts : List D) (many : Int) (deep : Int) : stepR defsR glR Φ "is_form_to" [.tup ts, .int many, .int deep] =
    ((if (decide (((ts.length : Nat) : Int) < 2)) = false then ((((ixD (.tup ts) (.int 0)).map fun x1 => .bl (isiB .str x1)).map fun x2 => .bl (truthD x2)).bind asB).map fun b => .bl (!b) else some (.bl (decide (((ts.length : Nat) : Int) < 2)))).bind asB).bind fun b3 => if b3 = true then some (.bl false) else (((ixD (.tup ts) (.int 0)).bind fun x4 => eqD x4 (.str "is")).bind asB).bind fun b5 => if b5 = true then if (((ts.length : Nat) : Int) == 2) = true then ((ixD (.tup ts) (.int 1)).bind fun x6 => some [x6, .int (many - 1)]).bind (Φ "is_number") else some (.bl (((ts.length : Nat) : Int) == 2)) else ((if (deep == 0) = false then (((ixD (.tup ts) (.int 0)).bind fun x7 => inK true [("not", 1), ("both", 2), ("either", 2)] x7).bind asB).bind fun b8 => if b8 = false then (((ixD (.tup ts) (.int 0)).bind fun x9 => ixK [("not", 1), ("both", 2), ("either", 2)] x9).bind fun x10 => addD (.int 1) x10).bind fun x11 => neD (.int ((ts.length : Nat) : Int)) x11 else some (.bl b8) else some (.bl (deep == 0))).bind asB).bind fun b12 => if b12 = true then some (.bl false) else (((compD (fun d13 => (Φ "is_form_to" [d13, .int many, .int (deep - 1)]).map some) (cutD ts (some 1) none)).map D.lst).bind fun x14 => some [x14]).bind (one allD) := by kernel_rfl
theorem z_is_form_to_t_eq (Φ : Str → List D → Option D) (ts : List D) (many : Int) (deep : Int) : stepR defsR gl0R Φ "is_form_to" [.tup ts, .int many, .int deep] =
    ((if (decide (((ts.length : Nat) : Int) < 2)) = false then ((((ixD (.tup ts) (.int 0)).map fun x1 => .bl (isiB .str x1)).map fun x2 => .bl (truthD x2)).bind asB).map fun b => .bl (!b) else some (.bl (decide (((ts.length : Nat) : Int) < 2)))).bind asB).bind fun b3 => if b3 = true then some (.bl false) else (((ixD (.tup ts) (.int 0)).bind fun x4 => eqD x4 (.str "is")).bind asB).bind fun b5 => if b5 = true then if (((ts.length : Nat) : Int) == 2) = true then ((ixD (.tup ts) (.int 1)).bind fun x6 => some [x6, .int (many - 1)]).bind (Φ "is_number") else some (.bl (((ts.length : Nat) : Int) == 2)) else ((if (deep == 0) = false then (((ixD (.tup ts) (.int 0)).bind fun x7 => inK true [("not", 1), ("both", 2), ("either", 2)] x7).bind asB).bind fun b8 => if b8 = false then (((ixD (.tup ts) (.int 0)).bind fun x9 => ixK [("not", 1), ("both", 2), ("either", 2)] x9).bind fun x10 => addD (.int 1) x10).bind fun x11 => neD (.int ((ts.length : Nat) : Int)) x11 else some (.bl b8) else some (.bl (deep == 0))).bind asB).bind fun b12 => if b12 = true then some (.bl false) else (((compD (fun d13 => (Φ "is_form_to" [d13, .int many, .int (deep - 1)]).map some) (cutD ts (some 1) none)).map D.lst).bind fun x14 => some [x14]).bind (one allD) := by kernel_rfl
/-! is_form -/
theorem e_is_form_eq (Φ : Str → List D → Option D) (thing : D) (many : D) : stepR defsR glR Φ "is_form" [thing, many] =
    Φ "is_form_to" [thing, many, .int 6] := by kernel_rfl
theorem z_is_form_eq (Φ : Str → List D → Option D) (thing : D) (many : D) : stepR defsR gl0R Φ "is_form" [thing, many] =
    Φ "is_form_to" [thing, many, .int 6] := by kernel_rfl
/-! is_duel -/
theorem e_is_duel_eq (Φ : Str → List D → Option D) (thing : D) : stepR defsR glR Φ "is_duel" [thing] =
    ((if (!(isiB .tuple thing)) = false then (((lenD thing).bind fun x1 => neD x1 (.int 2)).bind asB).bind fun b2 => if b2 = false then ((((ixD thing (.int 0)).map fun x3 => .bl (isiB .tuple x3)).map fun x4 => .bl (truthD x4)).bind asB).map fun b => .bl (!b) else some (.bl b2) else some (.bl (!(isiB .tuple thing)))).bind asB).bind fun b5 => if b5 = true then some (.bl false) else (((((((((ixD thing (.int 0)).bind fun x6 => some [x6]).bind (one lenD)).bind fun x7 => ((cmpI (fun i j => decide (i ≤ j)) (.int 1) x7).bind asB).bind fun b8 => if b8 = true then cmpI (fun i j => decide (i ≤ j)) x7 (.int 6) else some (.bl false)).bind asB).map fun b => .bl (!b)).bind asB).bind fun b9 => if b9 = false then (((((((ixD thing (.int 0)).bind seqD).bind fun l11 => (compD (fun d10 => (Φ "is_number" [d10, .int 1]).map some) l11).map D.lst).bind fun x12 => some [x12]).bind (one allD)).map fun x13 => .bl (truthD x13)).bind asB).map fun b => .bl (!b) else some (.bl b9)).bind asB).bind fun b14 => if b14 = true then some (.bl false) else ((ixD thing (.int 1)).bind fun x16 => ((((ixD thing (.int 0)).bind fun x15 => some [x15]).bind (one lenD)).bind fun x17 => some [x17]).bind fun l18 => some (x16 :: l18)).bind (Φ "is_form") := by kernel_rfl
theorem z_is_duel_eq (Φ : Str → List D → Option D) (thing : D) : stepR defsR gl0R Φ "is_duel" [thing] =
    ((if (!(isiB .tuple thing)) = false then (((lenD thing).bind fun x1 => neD x1 (.int 2)).bind asB).bind fun b2 => if b2 = false then ((((ixD thing (.int 0)).map fun x3 => .bl (isiB .tuple x3)).map fun x4 => .bl (truthD x4)).bind asB).map fun b => .bl (!b) else some (.bl b2) else some (.bl (!(isiB .tuple thing)))).bind asB).bind fun b5 => if b5 = true then some (.bl false) else (((((((((ixD thing (.int 0)).bind fun x6 => some [x6]).bind (one lenD)).bind fun x7 => ((cmpI (fun i j => decide (i ≤ j)) (.int 1) x7).bind asB).bind fun b8 => if b8 = true then cmpI (fun i j => decide (i ≤ j)) x7 (.int 6) else some (.bl false)).bind asB).map fun b => .bl (!b)).bind asB).bind fun b9 => if b9 = false then (((((((ixD thing (.int 0)).bind seqD).bind fun l11 => (compD (fun d10 => (Φ "is_number" [d10, .int 1]).map some) l11).map D.lst).bind fun x12 => some [x12]).bind (one allD)).map fun x13 => .bl (truthD x13)).bind asB).map fun b => .bl (!b) else some (.bl b9)).bind asB).bind fun b14 => if b14 = true then some (.bl false) else ((ixD thing (.int 1)).bind fun x16 => ((((ixD thing (.int 0)).bind fun x15 => some [x15]).bind (one lenD)).bind fun x17 => some [x17]).bind fun l18 => some (x16 :: l18)).bind (Φ "is_form") := by kernel_rfl
theorem e_is_duel_t_eq (Φ : Str → List D → Option D) (ts : List D) : stepR defsR glR Φ "is_duel" [.tup ts] =
    ((if (!(((ts.length : Nat) : Int) == 2)) = false then ((((ixD (.tup ts) (.int 0)).map fun x1 => .bl (isiB .tuple x1)).map fun x2 => .bl (truthD x2)).bind asB).map fun b => .bl (!b) else some (.bl (!(((ts.length : Nat) : Int) == 2)))).bind asB).bind fun b3 => if b3 = true then some (.bl false) else (((((((((ixD (.tup ts) (.int 0)).bind fun x4 => some [x4]).bind (one lenD)).bind fun x5 => ((cmpI (fun i j => decide (i ≤ j)) (.int 1) x5).bind asB).bind fun b6 => if b6 = true then cmpI (fun i j => decide (i ≤ j)) x5 (.int 6) else some (.bl false)).bind asB).map fun b => .bl (!b)).bind asB).bind fun b7 => if b7 = false then (((((((ixD (.tup ts) (.int 0)).bind seqD).bind fun l9 => (compD (fun d8 => (Φ "is_number" [d8, .int 1]).map some) l9).map D.lst).bind fun x10 => some [x10]).bind (one allD)).map fun x11 => .bl (truthD x11)).bind asB).map fun b => .bl (!b) else some (.bl b7)).bind asB).bind fun b12 => if b12 = true then some (.bl false) else ((ixD (.tup ts) (.int 1)).bind fun x14 => ((((ixD (.tup ts) (.int 0)).bind fun x13 => some [x13]).bind (one lenD)).bind fun x15 => some [x15]).bind fun l16 => some (x14 :: l16)).bind (Φ "is_form") := by kernel_rfl
theorem z_is_duel_t_eq (Φ : Str → List D → Option D) (ts : List D) : stepR defsR gl0R Φ "is_duel" [.tup ts] =
    ((if (!(((ts.length : Nat) : Int) == 2)) = false then ((((ixD (.tup ts) (.int 0)).map fun x1 => .bl (isiB .tuple x1)).map fun x2 => .bl (truthD x2)).bind asB).map fun b => .bl (!b) else some (.bl (!(((ts.length : Nat) : Int) == 2)))).bind asB).bind fun b3 => if b3 = true then some (.bl false) else (((((((((ixD (.tup ts) (.int 0)).bind fun x4 => some [x4]).bind (one lenD)).bind fun x5 => ((cmpI (fun i j => decide (i ≤ j)) (.int 1) x5).bind asB).bind fun b6 => if b6 = true then cmpI (fun i j => decide (i ≤ j)) x5 (.int 6) else some (.bl false)).bind asB).map fun b => .bl (!b)).bind asB).bind fun b7 => if b7 = false then (((((((ixD (.tup ts) (.int 0)).bind seqD).bind fun l9 => (compD (fun d8 => (Φ "is_number" [d8, .int 1]).map some) l9).map D.lst).bind fun x10 => some [x10]).bind (one allD)).map fun x11 => .bl (truthD x11)).bind asB).map fun b => .bl (!b) else some (.bl b7)).bind asB).bind fun b12 => if b12 = true then some (.bl false) else ((ixD (.tup ts) (.int 1)).bind fun x14 => ((((ixD (.tup ts) (.int 0)).bind fun x13 => some [x13]).bind (one lenD)).bind fun x15 => some [x15]).bind fun l16 => some (x14 :: l16)).bind (Φ "is_form") := by kernel_rfl
/-! words_of -/
theorem e_words_of_yes_eq (Φ : Str → List D → Option D) : stepR defsR glR Φ "words_of" [.str "yes"] =
    some (.lst [.str "yes"]) := by kernel_rfl
theorem z_words_of_yes_eq (Φ : Str → List D → Option D) : stepR defsR gl0R Φ "words_of" [.str "yes"] =
    some (.lst [.str "yes"]) := by kernel_rfl
theorem e_words_of_no_eq (Φ : Str → List D → Option D) : stepR defsR glR Φ "words_of" [.str "no"] =
    some (.lst [.str "no"]) := by kernel_rfl
theorem z_words_of_no_eq (Φ : Str → List D → Option D) : stepR defsR gl0R Φ "words_of" [.str "no"] =
    some (.lst [.str "no"]) := by kernel_rfl
theorem e_words_of_is_eq (Φ : Str → List D → Option D) (j : Int) : stepR defsR glR Φ "words_of" [.tup [.str "is", .int j]] =
    (((strD (.int j)).bind fun x1 => addD (.str "s") x1).bind fun x2 => some [x2]).bind (capL D.lst) := by kernel_rfl
theorem z_words_of_is_eq (Φ : Str → List D → Option D) (j : Int) : stepR defsR gl0R Φ "words_of" [.tup [.str "is", .int j]] =
    (((strD (.int j)).bind fun x1 => addD (.str "s") x1).bind fun x2 => some [x2]).bind (capL D.lst) := by kernel_rfl
theorem e_words_of_not_eq (Φ : Str → List D → Option D) (a : D) : stepR defsR glR Φ "words_of" [.tup [.str "not", a]] =
    (Φ "words_of" [a]).bind fun x1 => (extD [.str "not"] x1).bind fun l2 => some (.lst l2) := by kernel_rfl
theorem z_words_of_not_eq (Φ : Str → List D → Option D) (a : D) : stepR defsR gl0R Φ "words_of" [.tup [.str "not", a]] =
    (Φ "words_of" [a]).bind fun x1 => (extD [.str "not"] x1).bind fun l2 => some (.lst l2) := by kernel_rfl
theorem e_words_of_both_eq (Φ : Str → List D → Option D) (a : D) (b : D) : stepR defsR glR Φ "words_of" [.tup [.str "both", a, b]] =
    (Φ "words_of" [a]).bind fun x1 => (extD [.str "both"] x1).bind fun l2 => (Φ "words_of" [b]).bind fun x3 => (extD l2 x3).bind fun l4 => some (.lst l4) := by kernel_rfl
theorem z_words_of_both_eq (Φ : Str → List D → Option D) (a : D) (b : D) : stepR defsR gl0R Φ "words_of" [.tup [.str "both", a, b]] =
    (Φ "words_of" [a]).bind fun x1 => (extD [.str "both"] x1).bind fun l2 => (Φ "words_of" [b]).bind fun x3 => (extD l2 x3).bind fun l4 => some (.lst l4) := by kernel_rfl
theorem e_words_of_either_eq (Φ : Str → List D → Option D) (a : D) (b : D) : stepR defsR glR Φ "words_of" [.tup [.str "either", a, b]] =
    (Φ "words_of" [a]).bind fun x1 => (extD [.str "either"] x1).bind fun l2 => (Φ "words_of" [b]).bind fun x3 => (extD l2 x3).bind fun l4 => some (.lst l4) := by kernel_rfl
theorem z_words_of_either_eq (Φ : Str → List D → Option D) (a : D) (b : D) : stepR defsR gl0R Φ "words_of" [.tup [.str "either", a, b]] =
    (Φ "words_of" [a]).bind fun x1 => (extD [.str "either"] x1).bind fun l2 => (Φ "words_of" [b]).bind fun x3 => (extD l2 x3).bind fun l4 => some (.lst l4) := by kernel_rfl
/-! written -/
theorem e_written_eq (Φ : Str → List D → Option D) (ss : List D) (form : D) : stepR defsR glR Φ "written" [.tup [.tup ss, form]] =
    ((((compD (fun d1 => (strD d1).map some) ss).map D.lst).bind fun x2 => addD x2 (.lst [.str ":"])).bind fun x3 => (Φ "words_of" [form]).bind fun x4 => addD x3 x4).bind fun x5 => joinD (.str " ") x5 := by kernel_rfl
theorem z_written_eq (Φ : Str → List D → Option D) (ss : List D) (form : D) : stepR defsR gl0R Φ "written" [.tup [.tup ss, form]] =
    ((((compD (fun d1 => (strD d1).map some) ss).map D.lst).bind fun x2 => addD x2 (.lst [.str ":"])).bind fun x3 => (Φ "words_of" [form]).bind fun x4 => addD x3 x4).bind fun x5 => joinD (.str " ") x5 := by kernel_rfl
/-! _law_cell_at -/
theorem e_law_cell_at_eq (Φ : Str → List D → Option D) (ns : List Int) (k : Int) : stepR defsR glR Φ "_law_cell_at" [.scr ns, .int k] =
    if (decide (k < ((ns.length : Nat) : Int))) = true then ixD (.scr ns) (.int k) else some (.int 0) := by kernel_rfl
theorem e_law_cell_at_l_eq (Φ : Str → List D → Option D) (ls : List D) (k : Int) : stepR defsR glR Φ "_law_cell_at" [.lst ls, .int k] =
    if (decide (k < ((ls.length : Nat) : Int))) = true then ixD (.lst ls) (.int k) else some (.int 0) := by kernel_rfl
/-! _law_mixed -/
theorem e_law_mixed_eq (Φ : Str → List D → Option D) (ns : List Int) (k : Int) : stepR defsR glR Φ "_law_mixed" [.scr ns, .int k] =
    (((((Φ "_law_cell_at" [.scr ns, .int k]).bind fun x1 => (mulD (.int 7919) (.int k)).bind fun x2 => addD x1 x2).bind fun x3 => addD x3 (.int 1)).bind fun x4 => mulD x4 (.int 48271)).bind fun x5 => modD x5 (.int 2147483647)).bind fun x6 => (((mulD x6 x6).bind fun x7 => (mulD (.int 7) x6).bind fun x8 => addD x7 x8).bind fun x9 => addD x9 (.int k)).bind fun x10 => modD x10 (.int 2147483629) := by kernel_rfl
theorem e_law_mixed_l_eq (Φ : Str → List D → Option D) (ls : List D) (k : Int) : stepR defsR glR Φ "_law_mixed" [.lst ls, .int k] =
    (((((Φ "_law_cell_at" [.lst ls, .int k]).bind fun x1 => (mulD (.int 7919) (.int k)).bind fun x2 => addD x1 x2).bind fun x3 => addD x3 (.int 1)).bind fun x4 => mulD x4 (.int 48271)).bind fun x5 => modD x5 (.int 2147483647)).bind fun x6 => (((mulD x6 x6).bind fun x7 => (mulD (.int 7) x6).bind fun x8 => addD x7 x8).bind fun x9 => addD x9 (.int k)).bind fun x10 => modD x10 (.int 2147483629) := by kernel_rfl
/-! _law_drawn -/
theorem e_law_drawn_eq (Φ : Str → List D → Option D) (number : Int) (k : Int) : stepR defsR glR Φ "_law_drawn" [.int number, .int k] =
    (((((mulD (.int 104729) (.int k)).bind fun x1 => addD (.int number) x1).bind fun x2 => addD x2 (.int 17)).bind fun x3 => mulD x3 (.int 69621)).bind fun x4 => modD x4 (.int 2147483647)).bind fun x5 => (((mulD x5 x5).bind fun x6 => (mulD (.int 3) x5).bind fun x7 => addD x6 x7).bind fun x8 => addD x8 (.int k)).bind fun x9 => modD x9 (.int 2147483629) := by kernel_rfl
/-! _law_form -/
theorem e_law_form_eq (Φ : Str → List D → Option D) (number : Int) (many : Int) (deep : Int) : stepR defsR glR Φ "_law_form" [.int number, .int many, .int deep] =
    ((if (deep == 0) = false then some (.bl (decide ((number % 9) < 3))) else some (.bl (deep == 0))).bind asB).bind fun b1 => if b1 = true then if (((number / 9) % 17) == 1) = true then ixD (.tup [.str "yes", .str "no"]) (.int ((number / 153) % 2)) else (((modD (.int (number / 153)) (.int many)).bind fun x2 => some [x2]).bind fun l3 => some (.str "is" :: l3)).bind (capL D.tup) else (((Φ "_law_drawn" [.int number, .int 1]).bind fun x4 => some [x4, .int many, .int (deep - 1)]).bind (Φ "_law_form")).bind fun x5 => if ((number % 9) == 3) = true then some (.tup [.str "not", x5]) else (((Φ "_law_drawn" [.int number, .int 2]).bind fun x6 => some [x6, .int many, .int (deep - 1)]).bind (Φ "_law_form")).bind fun x7 => ((ixD (.tup [.str "both", .str "either"]) (.int ((number % 9) % 2))).bind fun x8 => some [x8, x5, x7]).bind (capL D.tup) := by kernel_rfl
/-! _law_by_hand -/
noncomputable def e_law_by_hand_b1 (Φ : Str → List D → Option D) : DSt → Kt → Option D := blkR defsR glR Φ rlaw_by_hand 29 (forBody (stAt (defBody rlaw_by_hand.st) 1))
theorem e_law_by_hand_b1_eq (Φ : Str → List D → Option D) (number : Int) (j_deep : D) (i_k : Int) (κ : Kt) : e_law_by_hand_b1 Φ [some (.dat (.int number)), some (.dat j_deep), some (.dat (.int i_k)), none, none, none] κ =
    (addD (.str "not ") j_deep).bind fun x1 => (((((addD (.str "1 : ") x1).bind fun x2 => some [x2]).bind noneX).bind fun x3 => neD x3 (.bl (decide (5 < i_k)))).bind asB).bind fun b4 => if b4 = true then some (.bl false) else κ [some (.dat (.int number)), some (.dat x1), some (.dat (.int i_k)), none, none, none] := by kernel_rfl
noncomputable def e_law_by_hand_k2 (Φ : Str → List D → Option D) : DSt → Option D := (fun ρ => blkR defsR glR Φ rlaw_by_hand 30 ((defBody rlaw_by_hand.st).drop 2) ρ (fun _ => some .non))
noncomputable def e_law_by_hand_b3 (Φ : Str → List D → Option D) : DSt → Kt → Option D := blkR defsR glR Φ rlaw_by_hand 29 (forBody (stAt (defBody rlaw_by_hand.st) 4))
theorem e_law_by_hand_b3_eq (Φ : Str → List D → Option D) (number : Int) (j_deep : D) (i_k : Int) (κ : Kt) : e_law_by_hand_b3 Φ [some (.dat (.int number)), some (.dat j_deep), some (.dat (.int i_k)), some (.dat (.lst [.str "", .str "0", .str "0 :", .str "0 : s", .str "0 : s1", .str "0 : s00", .str "0 : S0", .str "0 : not", .str "0 : both s0", .str "2 : s0", .str "0 : yes no", .str "0: s0", .str "0 :s0", .str "0  : s0", .str "0 : s0 ", .str " 0 : s0", .str "0 0 s0", .str "0 : : s0", .str "0 : s-1", .str "01 : s0", .str "0 : y"])), none, none] κ =
    ((((((((((mulD (.int 5) (.int i_k)).bind fun x5 => addD (.int (number / 7)) x5).bind fun x6 => modD x6 (.int 21)).bind fun x7 => ixD (.lst [.str "", .str "0", .str "0 :", .str "0 : s", .str "0 : s1", .str "0 : s00", .str "0 : S0", .str "0 : not", .str "0 : both s0", .str "2 : s0", .str "0 : yes no", .str "0: s0", .str "0 :s0", .str "0  : s0", .str "0 : s0 ", .str " 0 : s0", .str "0 0 s0", .str "0 : : s0", .str "0 : s-1", .str "01 : s0", .str "0 : y"]) x7).bind fun x8 => some [x8]).bind noneX).map fun x9 => .bl (truthD x9)).bind asB).map fun b => .bl (!b)).bind asB).bind fun b10 => if b10 = true then some (.bl false) else κ [some (.dat (.int number)), some (.dat j_deep), some (.dat (.int i_k)), some (.dat (.lst [.str "", .str "0", .str "0 :", .str "0 : s", .str "0 : s1", .str "0 : s00", .str "0 : S0", .str "0 : not", .str "0 : both s0", .str "2 : s0", .str "0 : yes no", .str "0: s0", .str "0 :s0", .str "0  : s0", .str "0 : s0 ", .str " 0 : s0", .str "0 0 s0", .str "0 : : s0", .str "0 : s-1", .str "01 : s0", .str "0 : y"])), none, none] := by kernel_rfl
noncomputable def e_law_by_hand_k4 (Φ : Str → List D → Option D) : DSt → Option D := (fun ρ => blkR defsR glR Φ rlaw_by_hand 30 ((defBody rlaw_by_hand.st).drop 5) ρ (fun _ => some .non))
theorem e_law_by_hand_k4_eq (Φ : Str → List D → Option D) (number : Int) (j_deep : D) (s_k : Option Sl) : e_law_by_hand_k4 Φ [some (.dat (.int number)), some (.dat j_deep), s_k, some (.dat (.lst [.str "", .str "0", .str "0 :", .str "0 : s", .str "0 : s1", .str "0 : s00", .str "0 : S0", .str "0 : not", .str "0 : both s0", .str "2 : s0", .str "0 : yes no", .str "0: s0", .str "0 :s0", .str "0  : s0", .str "0 : s0 ", .str " 0 : s0", .str "0 0 s0", .str "0 : : s0", .str "0 : s-1", .str "01 : s0", .str "0 : y"])), none, none] =
    ((compD (fun d11 => (((((((readX [d11]).bind fun x12 => some [x12]).bind (Φ "written")).bind fun x13 => neD x13 d11).bind asB).bind fun b14 => if b14 = false then (((((readX [d11]).bind fun x15 => some [x15]).bind (Φ "is_duel")).map fun x16 => .bl (truthD x16)).bind asB).map fun b => .bl (!b) else some (.bl b14)).bind asB).bind fun b17 => if b17 = true then some (some d11) else some none) [.str "0 : yes", .str "1 0 : either s1 not s0", .str "0 1 0 1 0 1 : both no s5"]).map D.lst).bind fun x18 => eqD x18 (.lst []) := by kernel_rfl
theorem e_law_by_hand_k2_eq (Φ : Str → List D → Option D) (number : Int) (j_deep : D) (s_k : Option Sl) : e_law_by_hand_k2 Φ [some (.dat (.int number)), some (.dat j_deep), s_k, none, none, none] =
    forD (Tg.put (.nm 2)) (e_law_by_hand_b3 Φ) (e_law_by_hand_k4 Φ) [.int 0, .int 1, .int 2, .int 3, .int 4, .int 5] [some (.dat (.int number)), some (.dat j_deep), s_k, some (.dat (.lst [.str "", .str "0", .str "0 :", .str "0 : s", .str "0 : s1", .str "0 : s00", .str "0 : S0", .str "0 : not", .str "0 : both s0", .str "2 : s0", .str "0 : yes no", .str "0: s0", .str "0 :s0", .str "0  : s0", .str "0 : s0 ", .str " 0 : s0", .str "0 0 s0", .str "0 : : s0", .str "0 : s-1", .str "01 : s0", .str "0 : y"])), none, none] := by kernel_rfl
theorem e_law_by_hand_eq (Φ : Str → List D → Option D) (number : Int) : stepR defsR glR Φ "_law_by_hand" [.int number] =
    forD (Tg.put (.nm 2)) (e_law_by_hand_b1 Φ) (e_law_by_hand_k2 Φ) [.int 0, .int 1, .int 2, .int 3, .int 4, .int 5, .int 6, .int 7] [some (.dat (.int number)), some (.dat (.str "s0")), none, none, none, none] := by kernel_rfl
/-! law -/
noncomputable def e_law_b1 (Φ : Str → List D → Option D) : DSt → Kt → Option D := blkR defsR glR Φ rlaw 29 (forBody (stAt (defBody rlaw.st) 10))
theorem e_law_b1_eq (Φ : Str → List D → Option D) (x3 : D) (x9 : D) (x11 : D) (x13 : D) (x19 : D) (x25 : D) (x31 : D) (x36 : D) (x70 : D) (x102 : D) (ns : List Int) (j_text : D) (i_size : Int) (κ : Kt) : e_law_b1 Φ [some (.dat (.scr ns)), some (.dat x3), some (.dat x9), none, some (.dat x11), some (.dat x13), some (.dat x19), none, some (.dat x25), some (.dat x31), some (.dat x36), some (.dat (.str "either")), some (.dat x70), some (.dat j_text), some (.dat x102), some (.dat (.int i_size))] κ =
    ((((((sliceD x9 none (some i_size)).bind seqD).bind fun l104 => (compD (fun d103 => (strD d103).map some) l104).map D.lst).bind fun x105 => joinD (.str " ") x105).bind fun x106 => addD x106 (.str " : ")).bind fun x107 => addD x107 x25).bind fun x108 => (((((noneX [x108]).bind fun x109 => ((((addD x102 (.lst [.int 0])).bind fun x110 => some [x110]).bind (one maxD)).bind fun x111 => cmpI (fun i j => decide (j ≤ i)) x111 (.int i_size)).bind fun x112 => neD x109 x112).bind asB).bind fun b113 => if b113 = false then (Φ "is_form" [x11, .int i_size]).bind fun x114 => ((noneX [x108]).map fun x115 => .bl (!(truthD x115))).bind fun x116 => neD x114 x116 else some (.bl b113)).bind asB).bind fun b117 => if b117 = true then some (.bl false) else κ [some (.dat (.scr ns)), some (.dat x3), some (.dat x9), none, some (.dat x11), some (.dat x13), some (.dat x19), none, some (.dat x25), some (.dat x31), some (.dat x36), some (.dat (.str "either")), some (.dat x70), some (.dat x108), some (.dat x102), some (.dat (.int i_size))] := by kernel_rfl
noncomputable def e_law_k2 (Φ : Str → List D → Option D) : DSt → Option D := (fun ρ => blkR defsR glR Φ rlaw 30 ((defBody rlaw.st).drop 11) ρ (fun _ => some .non))
theorem e_law_k2_eq (Φ : Str → List D → Option D) (x3 : D) (x9 : D) (x11 : D) (x13 : D) (x19 : D) (x25 : D) (x31 : D) (x36 : D) (x70 : D) (x102 : D) (ns : List Int) (j_text : D) (s_size : Option Sl) : e_law_k2 Φ [some (.dat (.scr ns)), some (.dat x3), some (.dat x9), none, some (.dat x11), some (.dat x13), some (.dat x19), none, some (.dat x25), some (.dat x31), some (.dat x36), some (.dat (.str "either")), some (.dat x70), some (.dat j_text), some (.dat x102), s_size] =
    (((((((((addD (.str "1 0 1 0 1 0 1 : ") x25).bind fun x118 => some [x118]).bind noneX).map fun x119 => .bl (truthD x119)).bind asB).map fun b => .bl (!b)).bind asB).bind fun b120 => if b120 = false then (((((addD (.str ": ") x25).bind fun x121 => some [x121]).bind noneX).map fun x122 => .bl (truthD x122)).bind asB).map fun b => .bl (!b) else some (.bl b120)).bind asB).bind fun b123 => if b123 = true then some (.bl false) else ((Φ "_law_mixed" [.scr ns, .int 4]).bind fun x124 => some [x124]).bind (Φ "_law_by_hand") := by kernel_rfl
theorem e_law_eq (Φ : Str → List D → Option D) (ns : List Int) : stepR defsR glR Φ "law" [.scr ns] =
    (((Φ "_law_mixed" [.scr ns, .int 0]).bind fun x1 => modD x1 (.int 4)).bind fun x2 => addD (.int 1) x2).bind fun x3 => ((((compD (fun d4 => (((((Φ "_law_mixed" [.scr ns, .int 1]).bind fun x5 => some [x5, d4]).bind (Φ "_law_drawn")).bind fun x6 => fdivD x6 (.int 4)).bind fun x7 => modD x7 (.int 2)).map some) [.int 0, .int 1, .int 2, .int 3, .int 4, .int 5]).map D.lst).bind fun x8 => some [x8]).bind (one tupleD)).bind fun x9 => (((Φ "_law_mixed" [.scr ns, .int 2]).bind fun x10 => some [x10, x3, .int 4]).bind (Φ "_law_form")).bind fun x11 => (((Φ "_law_mixed" [.scr ns, .int 3]).bind fun x12 => some [x12, x3, .int 4]).bind (Φ "_law_form")).bind fun x13 => (((((((asI x3).bind fun i => some (some i)).bind fun h14 => sliceD x9 none h14).bind seqD).bind fun l16 => (compD (fun d15 => (strD d15).map some) l16).map D.lst).bind fun x17 => joinD (.str " ") x17).bind fun x18 => addD x18 (.str " : ")).bind fun x19 => ((((((((asI x3).bind fun i => some (some i)).bind fun h20 => sliceD x9 none h20).bind fun x21 => some [x21, x11]).bind (capL D.tup)).bind fun x22 => some [x22]).bind (Φ "written")).bind fun x23 => (((lenD x19).bind asI).bind fun i => some (some i)).bind fun h24 => sliceD x23 h24 none).bind fun x25 => ((((((((asI x3).bind fun i => some (some i)).bind fun h26 => sliceD x9 none h26).bind fun x27 => some [x27, x13]).bind (capL D.tup)).bind fun x28 => some [x28]).bind (Φ "written")).bind fun x29 => (((lenD x19).bind asI).bind fun i => some (some i)).bind fun h30 => sliceD x29 h30 none).bind fun x31 => ((((seqD x9).bind fun l33 => (compD (fun d32 => (strD d32).map some) l33).map D.lst).bind fun x34 => joinD (.str " ") x34).bind fun x35 => addD x35 (.str " : ")).bind fun x36 => (((((((addD x19 x25).bind fun x37 => some [x37]).bind readX).bind fun x38 => (((((asI x3).bind fun i => some (some i)).bind fun h39 => sliceD x9 none h39).bind fun x40 => some [x40, x11]).bind (capL D.tup)).bind fun x41 => neD x38 x41).bind asB).bind fun b42 => if b42 = false then (Φ "written" [.tup [x9, x11]]).bind fun x43 => (addD x36 x25).bind fun x44 => neD x43 x44 else some (.bl b42)).bind asB).bind fun b45 => if b45 = true then some (.bl false) else (((((asI x3).bind fun i => some (some i)).bind fun h46 => sliceD x9 none h46).bind fun x47 => some [x47, .tup [.str "both", x11, x13]]).bind (capL D.tup)).bind fun x48 => (((((addD x19 (.str "both")).bind fun x49 => addD x49 (.str " ")).bind fun x50 => addD x50 x25).bind fun x51 => addD x51 (.str " ")).bind fun x52 => addD x52 x31).bind fun x53 => (((((Φ "written" [x48]).bind fun x54 => neD x54 x53).bind asB).bind fun b55 => if b55 = false then (readX [x53]).bind fun x56 => neD x56 x48 else some (.bl b55)).bind asB).bind fun b57 => if b57 = true then some (.bl false) else (((((((((((addD x19 (.str "both")).bind fun x58 => addD x58 (.str " ")).bind fun x59 => addD x59 x25).bind fun x60 => some [x60]).bind noneX).map fun x61 => .bl (truthD x61)).bind asB).map fun b => .bl (!b)).bind asB).bind fun b62 => if b62 = false then (((((((addD x19 x25).bind fun x63 => addD x63 (.str " ")).bind fun x64 => addD x64 x31).bind fun x65 => some [x65]).bind noneX).map fun x66 => .bl (truthD x66)).bind asB).map fun b => .bl (!b) else some (.bl b62)).bind asB).bind fun b67 => if b67 = true then some (.bl false) else (((((asI x3).bind fun i => some (some i)).bind fun h68 => sliceD x9 none h68).bind fun x69 => some [x69, .tup [.str "either", x11, x13]]).bind (capL D.tup)).bind fun x70 => (((((addD x19 (.str "either")).bind fun x71 => addD x71 (.str " ")).bind fun x72 => addD x72 x25).bind fun x73 => addD x73 (.str " ")).bind fun x74 => addD x74 x31).bind fun x75 => (((((Φ "written" [x70]).bind fun x76 => neD x76 x75).bind asB).bind fun b77 => if b77 = false then (readX [x75]).bind fun x78 => neD x78 x70 else some (.bl b77)).bind asB).bind fun b79 => if b79 = true then some (.bl false) else (((((((((((addD x19 (.str "either")).bind fun x80 => addD x80 (.str " ")).bind fun x81 => addD x81 x25).bind fun x82 => some [x82]).bind noneX).map fun x83 => .bl (truthD x83)).bind asB).map fun b => .bl (!b)).bind asB).bind fun b84 => if b84 = false then (((((((addD x19 x25).bind fun x85 => addD x85 (.str " ")).bind fun x86 => addD x86 x31).bind fun x87 => some [x87]).bind noneX).map fun x88 => .bl (truthD x88)).bind asB).map fun b => .bl (!b) else some (.bl b84)).bind asB).bind fun b89 => if b89 = true then some (.bl false) else ((((((addD x19 (.str "not ")).bind fun x90 => addD x90 x25).bind fun x91 => some [x91]).bind readX).bind fun x92 => (((((asI x3).bind fun i => some (some i)).bind fun h93 => sliceD x9 none h93).bind fun x94 => some [x94, .tup [.str "not", x11]]).bind (capL D.tup)).bind fun x95 => neD x92 x95).bind asB).bind fun b96 => if b96 = true then some (.bl false) else (((splitD x25 (.str " ")).bind seqD).bind fun l101 => (compD (fun d97 => (((sliceD d97 none (some 1)).bind fun x98 => eqD x98 (.str "s")).bind asB).bind fun b99 => if b99 = true then (((sliceD d97 (some 1) none).bind fun x100 => some [x100]).bind (one intD)).map some else some none) l101).map D.lst).bind fun x102 => (rng2 (.int 1) (.int 7)).bind fun l125 => forD (Tg.put (.nm 15)) (e_law_b1 Φ) (e_law_k2 Φ) l125 [some (.dat (.scr ns)), some (.dat x3), some (.dat x9), none, some (.dat x11), some (.dat x13), some (.dat x19), none, some (.dat x25), some (.dat x31), some (.dat x36), some (.dat (.str "either")), some (.dat x70), some (.dat x75), some (.dat x102), none] := by kernel_rfl
/-! the Reader -/
def fls (p : Addr) (i : Int) : List (Str × V) := [("words", .ref p), ("at", .int i)]
theorem fls_words (p : Addr) (i : Int) : (fls p i).lookup ("words" : Str) = some (.ref p) := by kernel_rfl
theorem fls_at (p : Addr) (i : Int) : (fls p i).lookup ("at" : Str) = some (.int i) := by kernel_rfl
theorem fls_form (p : Addr) (i : Int) : (fls p i).lookup ("form" : Str) = none := by kernel_rfl
theorem fls_put (p : Addr) (i j : Int) : putF "at" (.int j) (fls p i) = fls p j := by kernel_rfl
theorem fls_new (p : Addr) (i : Int) : putF "at" (.int i) (putF "words" (.ref p) []) = fls p i := by kernel_rfl
theorem strs_mapR (ys : List Str) : strsD (ys.map D.str) = some ys := by
  induction ys with
  | nil => rfl
  | cons y ys ih =>
    show (strsD (ys.map D.str)).map _ = _
    rw [ih]; rfl
/-- all but a stays -/
def ButS (a : Addr) (H H' : Hp) : Prop := ∀ b o, b ≠ a → NT o → H b = some o → H' b = some o
theorem ButS.refl (a : Addr) (H : Hp) : ButS a H H := fun _ _ _ _ h => h
theorem ButS.trans {a : Addr} {H H1 H2 : Hp} (x : ButS a H H1) (y : ButS a H1 H2) : ButS a H H2 := fun b o n t h => y b o n t (x b o n t h)
theorem ButS.of {a : Addr} {H H' : Hp} (s : Same H H') : ButS a H H' := fun b o _ t h => s.n b o h t
theorem ButS.put {a : Addr} {H : Hp} {o : HO} : ButS a H (upd H a o) := fun b u n _ h => by rw [upd_ne n]; exact h
theorem ButS.new {a p : Addr} {H : Hp} {o : HO} (h : H p = none) : ButS a H (upd H p o) := fun b u _ _ q => by rw [upd_ne (ne_of_none q h)]; exact q
/-- what is hidden is not asked for -/
theorem ButS.hid {a : Addr} {O : List Addr} {H H' : Hp} (s : ButS a H H') (ha : a ∈ O) : SameN (hid O H) (hid O H') := fun b o h t => by
  obtain ⟨n, h⟩ := of_hid h
  exact hid_get n (s b o (fun z => n (z ▸ ha)) t h)
theorem pl_ins {p C dx : Addr} {fs : List (Str × V)} : Pl p (.ins C dx fs) := ⟨fun _ z => (by cases z), fun _ z => (by obtain ⟨φ, e⟩ := code_ext; rw [e] at z; cases z)⟩
theorem nt_ins {C dx : Addr} {fs : List (Str × V)} : NT (.ins C dx fs) := fun _ z => by cases z
theorem tabs_any {H : Hp} : TabsX H := fun p hp => by cases hp
theorem ButS.dom {a : Addr} {O : List Addr} {H H' : Hp} (s : ButS a H H') (d : Dom O H) {C dx : Addr} {fs : List (Str × V)} (h : H' a = some (.ins C dx fs)) : Dom O H' := ⟨fun p hp => by
  obtain ⟨o, e, n⟩ := d.d p hp
  by_cases z : p = a
  · rw [z]; exact ⟨_, h, pl_ins⟩
  · exact ⟨o, s p o z n.1 e, n⟩, tabs_any, trivial⟩
/-- what the top has made of the class and the error -/
structure RdC (K : PySem.W.Frag) (mg : Str → Option Value) (C CN fI fF : Addr) : Prop where
  cl : Cls K C
  nW : NoAttr K C "words"
  nA : NoAttr K C "at"
  mgC : mg "Reader" = some (.ref C)
  make : Mk K C fI
  mt : Meth K C "form" fF
  err : ErrC K mg "NoText" CN
  fig : ∃ t, mg "FIGURES" = some (.str figs t)
def spI (C : Addr) : Sp := fun vs H Q _ => ∃ x dx p, vs = [.ref x, .ref p] ∧ H x = some (.ins C dx []) ∧ ∀ H', ButS x H H' → H' x = some (.ins C dx (fls p 0)) → Q .non H'
theorem scI : FnScope ["self", "words"] ["self", "words"] (defScope sInit) := ⟨rfl, rfl, rfl, by decide +kernel, rfl, by decide +kernel, by decide +kernel⟩
theorem scF : FnScope ["self", "deep", "word", "part"] ["self", "deep"] (defScope sForm) := ⟨rfl, rfl, rfl, by decide +kernel, rfl, by decide +kernel, by decide +kernel⟩
section
variable {P : Program} {w : World} {K : PySem.W.Frag} {mg : Str → Option Value} {base : Heap} {C CN fI fF : Addr}
theorem init_ok {fd : FuncData} (T : RdC K mg C CN fI fF) (F : Fun K "__init__" "Reader.__init__" sInit fI fd) : FnOk P w K mg base CX0 1 fI fd ["self", "words"] (spI C) := by
  refine F.ok scI (fun vs H Q E h => ?_) (fun cdv A outer s H vs Q E hr h => ?_)
  · obtain ⟨x, dx, p, rfl, _⟩ := h
    rfl
  · obtain ⟨x, dx, p, rfl, hx, k⟩ := h
    refine ⟨_, pss_cons (ps_fld (pv 0) (pv 1) rfl) (pss_one (ps_fld (pv 0) pe_int rfl)), ?_⟩
    refine ⟨_, rfl, _, rfl, x, C, dx, [], rfl, hx, T.cl, T.nW, (by show 0 < 1000; decide), _, rfl, x, C, dx, _, rfl, upd_same, T.cl, T.nA, (by show 1 < 1000; decide), ?_⟩
    refine k _ (ButS.trans .put .put) ?_
    rw [upd_same]
    show some (HO.ins C dx (putF "at" (.int 0) (putF "words" (.ref p) []))) = _
    rw [fls_new]
def T0 : Tab := ⟨fun _ => none, gl0R.gl, gl0R.dg, none, fun _ => none, fun _ => none⟩
def nF : List Str := ["self", "deep", "word", "part"]
def spF (K : PySem.W.Frag) (C CN : Addr) (n : Nat) : Sp := fun vs H Q E => ∃ (a dx p : Addr) (O : List Addr) (ws : List Str) (i : Nat), vs = [.ref a, .int ((n : Int) - 1)] ∧ H a = some (.ins C dx (fls p i)) ∧ a ∈ O ∧ Dom O H ∧ Rep K (hid O H) (.ref p) (.lst (ws.map D.str)) ∧ i ≤ ws.length ∧
  (match rdF ws n i with
    | some q => ∀ v H', ButS a H H' → H' a = some (.ins C dx (fls p (q.2 : Nat))) → Rep K (hid O H') v q.1 → q.2 ≤ ws.length → Q v H'
    | none => ∀ H' (j : Int), ButS a H H' → H' a = some (.ins C dx (fls p j)) → E (.ref CN) none H')
theorem spF_len {n : Nat} {vs : List V} {H : Hp} {Q : VK} {E : XK} (h : spF K C CN n vs H Q E) : vs.length = 2 := by
  obtain ⟨a, dx, p, O, ws, i, rfl, _⟩ := h
  rfl
theorem form0_ok {fd : FuncData} (T : RdC K mg C CN fI fF) (F : Fun K "form" "Reader.form" sForm fF fd) (hlen : mg "len" = none) : FnOk P w K mg base (L2.CX P w) 1 fF fd ["self", "deep"] (spF K C CN 0) := by
  refine F.okX scF (fun vs H Q E h => spF_len h) (fun cdv A outer s H vs Q E hr h => ?_)
  obtain ⟨a, dx, p, O, ws, i, rfl, ha, haO, dom, rp, hi, g⟩ := h
  have g : ∀ H' (j : Int), ButS a H H' → H' a = some (.ins C dx (fls p j)) → E (.ref CN) none H' := g
  cases rp with
  | lst hp ra lp =>
    have hx := strsD_rep ra (strs_mapR ws)
    subst hx
    have hpH := (of_hid hp).2
    refine ⟨_, pss_cons (ps_if (PW.pt (pw_or (pt_cmpR op_eq (pe_fld (pv 0) rfl) (pe_callB call_len_seq (by rfl) hlen PySem.boot_len (pa_cons (pe_fld (pv 0) rfl) pa_nil)) (nomark _)) (pw_or1 (pt_cmpR op_lt (pv 1) pe_int (nomark _)))))
      (pss_one (ps_raise rfl (takes_of rfl rfl rfl rfl) (pmk_own PySem.F.excBase_ValueError T.err.x T.err.g T.err.k (raises_own T.err.b T.err.t) rfl))) pss_nil) pss_never, ?_⟩
    refine ⟨_, rfl, a, C, dx, _, _, rfl, ha, T.cl, T.nA, fls_at p i, _, rfl, a, C, dx, _, _, rfl, ha, T.cl, T.nW, fls_words p i, p, _, rfl, .inl (.of hpH), rfl, _, rfl, ?_⟩
    refine ite2 (fun _ => iteT (g H i (.refl a H) ha)) fun _ => ⟨_, rfl, _, _, rfl, rfl, _, rfl, ?_⟩
    exact ite2 (fun _ => g H i (.refl a H) ha) fun c => absurd (decide_eq_true (show ((0 : Nat) : Int) - 1 < 0 by decide)) c
theorem xok {X : Cx} {k : Nat} (h0 : @GOk tbs0 defsR gl0R X.prog X.w X.K X.mg X.base) (c : X.calm = true) (nd : X.N.Nodup) (r : Room k X.A) (nm : ∀ x ∈ X.N, (x == ("__debug__" : Str)) = false ∧ (x == ("__classdict__" : Str)) = false) : XOk T0 k X :=
  ⟨c, nd, r, nm, h0.blt, h0.hgl, h0.hdg, fun f F e => (by cases e), fun F e => (by cases e), fun g G e => (by cases e), fun L e => (by cases e)⟩
theorem sr_of {K : PySem.W.Frag} {O : List Addr} {H : Hp} {σ : St} {ρ : DSt} (hl : σ.length = ρ.length) (dom : Dom O H) (h : ∀ (i : Nat) s, ρ[i]? = some (some s) → ∃ d v, s = .dat d ∧ σ[i]? = some (some v) ∧ Rep K (hid O H) v d) : SR K O [] H σ ρ := by
  refine ⟨hl, dom, fun _ z => (by cases z), fun i d q => ?_, fun i ds q => ?_, fun i j ds es p q _ _ _ => ?_, fun i q => ?_, SRx.none fun i s hs q => ?_⟩
  · obtain ⟨d', v, e, h1, h2⟩ := h i _ q
    cases e
    exact ⟨v, h1, h2⟩
  · obtain ⟨d', v, e, _⟩ := h i _ q
    cases e
  · obtain ⟨d', v, e, _⟩ := h i _ q
    cases e
  · obtain ⟨d', v, e, _⟩ := h i _ q
    cases e
  · obtain ⟨d', v, e, _⟩ := h i _ q
    subst e
    cases hs
theorem sr_form {K : PySem.W.Frag} {O : List Addr} {H : Hp} {a : Addr} {k : Int} {w : Str} {x : Option V} (dom : Dom O H) (hw : sOk w = true) : SR K O [] H [some (.ref a), some (.int k), some (.str w), x] [none, some (.dat (.int k)), some (.dat (.str w)), none] := by
  refine sr_of rfl dom fun i s q => ?_
  match i, q with
  | 0, q => cases q
  | 1, q => cases q; exact ⟨_, _, rfl, rfl, .int k⟩
  | 2, q => cases q; exact ⟨_, _, rfl, rfl, .str w hw⟩
  | 3, q => cases q
  | i + 4, q => cases q
theorem yn_eq (x : Str) : inD false (.str x) (.tup [.str "yes", .str "no"]) = some (.bl (x == "yes" || x == "no")) := by
  have e : inD false (.str x) (.tup [.str "yes", .str "no"]) = some (.bl ([D.str "yes", .str "no"].any fun z => deq z (.str x))) := rfl
  rw [e]
  show some (D.bl ((("yes" : Str) == x) || ((("no" : Str) == x) || false))) = _
  rw [Bool.or_false, BEq.comm (a := ("yes" : Str)), BEq.comm (a := ("no" : Str))]
abbrev fB : List Stmt := defBody sForm
def retE : Stmt → Expr
  | .Return (some e) _ => e
  | _ => .Name "x" ⟨0, 0, 0, 0⟩
def binL : Expr → Expr
  | .BinOp a _ _ _ => a
  | e => e
def binR' : Expr → Expr
  | .BinOp _ _ b _ => b
  | e => e
def callA : Expr → Expr
  | .Call _ (a :: _) _ _ => a
  | e => e
def compA : Expr → Expr
  | .ListComp _ [⟨_, .Call _ (a :: _) _ _, _, _⟩] _ _ => a
  | e => e
theorem ev_yn (k : Int) (w : Str) : evalD T0 nF 30 true (defScope sForm) (ifTest (stAt fB 3)) [none, some (.dat (.int k)), some (.dat (.str w)), none] = some (.bl (w == "yes" || w == "no")) := by
  refine Eq.trans ?_ (yn_eq w)
  kernel_rfl
theorem ev_in (k : Int) (w : Str) : evalD T0 nF 30 true (defScope sForm) (ifTest (stAt fB 4)) [none, some (.dat (.int k)), some (.dat (.str w)), none] = some (.bl (getK kvsP w).isSome) := by kernel_rfl
theorem kv_12 {w : Str} {m : Int} (h : getK kvsP w = some m) : m = 1 ∨ m = 2 := by
  unfold kvsP at h
  simp only [getK] at h
  split at h
  · cases h; exact .inl rfl
  · split at h
    · cases h; exact .inr rfl
    · split at h
      · cases h; exact .inr rfl
      · cases h
theorem nmF : ∀ x ∈ nF, (x == ("__debug__" : Str)) = false ∧ (x == ("__classdict__" : Str)) = false := by decide +kernel
theorem rdF_at {ws : List Str} {n i : Nat} {w : Str} (h : ws[i]? = some w) : rdF ws (n + 1) i = if w = "yes" ∨ w = "no" then some (.str w, i + 1) else match getK kvsP w with
      | some m => (rdN (rdF ws n) m.toNat (i + 1)).bind fun q => some (.tup (.str w :: q.1), q.2)
      | none => (isW w).bind fun d => some (d, i + 1) := by
  show (match ws[i]? with | none => none | some w => _) = _
  rw [h] <;> rfl
theorem ev_one (k : Int) (w : Str) : evalD T0 nF 30 false (defScope sForm) (binL (retE (stAt (ifBody (stAt fB 4)) 0))) [none, some (.dat (.int k)), some (.dat (.str w)), none] = some (.tup [.str w]) := by kernel_rfl
theorem ev_ix (k : Int) (w : Str) : evalD T0 nF 30 false (defScope sForm) (compA (callA (binR' (retE (stAt (ifBody (stAt fB 4)) 0))))) [none, some (.dat (.int k)), some (.dat (.str w)), none] = (getK kvsP w).map D.int := by kernel_rfl
theorem hid_put {D : Addr} {O : List Addr} {H : Hp} {o : HO} : SameN (hid (D :: O) H) (hid (D :: O) (upd H D o)) := fun b u h _ => by
  obtain ⟨n, h⟩ := of_hid h
  exact hid_get n (by rw [upd_ne fun z => n (by rw [z]; exact List.mem_cons_self)]; exact h)
theorem hid_more {a D : Addr} {O : List Addr} {H H' : Hp} (s : ButS a H H') (ha : a ∈ O) (hD : H D = none) : SameN (hid O H) (hid (D :: O) H') := fun b u h t => by
  obtain ⟨n, h⟩ := of_hid h
  refine hid_get ?_ (s b u (fun z => n (z ▸ ha)) t h)
  simp only [List.mem_cons, not_or]
  exact ⟨ne_of_none h hD, n⟩
theorem isW_len {w : Str} (h : w.length ≠ 2) : isW w = none := by
  have h : w.cps.toList.length ≠ 2 := h
  unfold isW
  split
  · rename_i q; rw [q] at h; exact absurd rfl h
  · rfl
theorem isW_not {w : Str} {x c : Nat} (e : w.cps.toList = [x, c]) (h : ¬ (x = 115 ∧ 48 ≤ c ∧ c < 58)) : isW w = none := by
  unfold isW
  rw [e]
  exact if_neg h
theorem two_of {w : Str} (h : w.length = 2) : ∃ x c, w.cps.toList = [x, c] := by
  have h : w.cps.toList.length = 2 := h
  match q : w.cps.toList, h with
  | [x, c], _ => exact ⟨x, c, rfl⟩
theorem one_inj {x y : Nat} (h : (⟨#[x]⟩ : Str) = ⟨#[y]⟩) : x = y := by
  injection h with h
  injection h with h
  injection h
theorem fig_iff (c : Nat) : c ∈ figs.cps.toList ↔ 48 ≤ c ∧ c < 58 := by
  have e : figs.cps.toList = [48, 49, 50, 51, 52, 53, 54, 55, 56, 57] := by decide +kernel
  rw [e]
  simp only [List.mem_cons, List.not_mem_nil, or_false]
  omega
theorem dig_int {c : Nat} (h : 48 ≤ c ∧ c < 58) : PySem.intText? ⟨#[c]⟩ = some ((c : Int) - 48) := by
  have : c = 48 ∨ c = 49 ∨ c = 50 ∨ c = 51 ∨ c = 52 ∨ c = 53 ∨ c = 54 ∨ c = 55 ∨ c = 56 ∨ c = 57 := by omega
  rcases this with rfl | rfl | rfl | rfl | rfl | rfl | rfl | rfl | rfl | rfl <;> decide +kernel
theorem form_ok {fd : FuncData} (h0 : @GOk tbs0 defsR gl0R P w K mg base) (T : RdC K mg C CN fI fF) (F : Fun K "form" "Reader.form" sForm fF fd) (b : Binds K fd ["self", "deep"] []) : ∀ n : Nat, FnOk P w K mg base (L2.CX P w) (n + 1) fF fd ["self", "deep"] (spF K C CN n)
  | 0 => form0_ok T F (h0.blt _ (by decide))
  | n + 1 => by
    have ih := form_ok h0 T F b n
    have hlen : mg "len" = none := h0.blt _ (by decide)
    have htup : mg "tuple" = none := h0.blt _ (by decide)
    have hrng : mg "range" = none := h0.blt _ (by decide)
    have hint : mg "int" = none := h0.blt _ (by decide)
    obtain ⟨tf, hfig⟩ := T.fig
    refine F.okX scF (fun vs H Q E h => spF_len h) (fun cdv A outer s H vs Q E hr h => ?_)
    obtain ⟨a, dx, p, O, ws, i, rfl, ha, haO, dom, rp, hi, g⟩ := h
    have rp0 := rp
    have hX : XOk T0 (n + 1) (cxOf (L2.CX P w) P w K mg base nF "Reader.form" (defScope sForm) fF cdv A outer s H E) := xok h0 rfl scF.nd hr nmF
    have evE := fun e => ((evalD_ok (T := T0) (k := n + 1) nF 30).1 _ hX rfl e).1
    have evT := fun e => ((evalD_ok (T := T0) (k := n + 1) nF 30).1 _ hX rfl e).2
    have tk : Takes (cxOf (L2.CX P w) P w K mg base nF "Reader.form" (defScope sForm) fF cdv A outer s H E) (fun cls d _ H => E cls d H) := takes_of rfl rfl rfl rfl
    cases rp with
    | lst hp ra lp =>
      have hx := strsD_rep ra (strs_mapR ws)
      subst hx
      have hpH := (of_hid hp).2
      refine ⟨_, pss_cons (ps_if (PW.pt (pw_or (pt_cmpR op_eq (pe_fld (pv 0) rfl) (pe_callB call_len_seq (by rfl) hlen PySem.boot_len (pa_cons (pe_fld (pv 0) rfl) pa_nil)) (nomark _)) (pw_or1 (pt_cmpR op_lt (pv 1) pe_int (nomark _)))))
        (pss_one (ps_raise rfl tk (pmk_own PySem.F.excBase_ValueError T.err.x T.err.g T.err.k (raises_own T.err.b T.err.t) rfl))) pss_nil)
        (pss_cons (ps_set (i := 2) scF.nd rfl (Or.inl rfl) (pe_ix ix_list (pe_fld (pv 0) rfl) (pe_fld (pv 0) rfl) (fun _ _ => rfl)))
        (pss_cons (ps_fld (pv 0) (pe_op op_add (pe_fld (pv 0) rfl) pe_int) rfl)
        (pss_cons (ps_if (evT _) (pss_one (ps_ret (pv 2))) pss_nil)
        (pss_cons (ps_if (evT _) (pss_one (ps_ret (pe_op op_addD (evE _) (pe_callTy call_tupleD (by rfl) htup (by decide +kernel) (pa_cons
          (pe_lcX (own := [("part", 3)]) (g := gName 3) (tt := tYes) rfl scF.nd rfl rfl tk (pi_range1 (by rfl) hrng (pa_cons (evE _) pa_nil)) (blkOk_by (own := [("part", 3)]) (N := nF) (sc := defScope sForm) (by decide +kernel))
            (fun _ _ _ _ _ => pg_name (i := 3) scF.nd rfl (Or.inl rfl)) (fun _ _ _ _ _ => pts_nil)
            (fun _ _ _ _ _ => pe_meth (pv 0) T.cl T.mt ih hr b .nil passB (pa_cons (pe_op op_sub (pv 1) pe_int) pa_nil))) pa_nil))))) pss_nil)
        (pss_cons (ps_if (PW.pt (pw_and (pt_cmpR op_eq (pe_callB call_len_str (by rfl) hlen PySem.boot_len (pa_cons (pv 2) pa_nil)) pe_int (nomark _)) (pw_and (pt_cmpR op_eq (pe_ix ix_str (pv 2) pe_int (fun _ _ => rfl)) pe_str (nomark _))
            (pw_and1 (pt_cmpR op_in_sign (pe_ix ix_str (pv 2) pe_int (fun _ _ => rfl)) (pe_glob (v := .str figs) rfl hfig ⟨_, rfl⟩) rfl)))))
          (pss_one (ps_ret (pe_tup (pa_cons pe_str (pa_cons (pe_callTy call_int_str (by rfl) hint (by decide +kernel) (pa_cons (pe_ix ix_str (pv 2) pe_int (fun _ _ => rfl)) pa_nil)) pa_nil))))) pss_nil)
        (pss_one (ps_raise rfl tk (pmk_own PySem.F.excBase_ValueError T.err.x T.err.g T.err.k (raises_own T.err.b T.err.t) rfl)))))))), ?_⟩
      refine ⟨_, rfl, a, C, dx, _, _, rfl, ha, T.cl, T.nA, fls_at p i, _, rfl, a, C, dx, _, _, rfl, ha, T.cl, T.nW, fls_words p i, p, _, rfl, .inl (.of hpH), rfl, _, rfl, ?_⟩
      refine ite2 (fun c => iteT ?_) fun c => ⟨_, rfl, _, _, rfl, rfl, _, rfl, ?_⟩
      · have e : i = ws.length := by
          have z := of_decide_eq_true c
          injection z with z
          rw [List.length_map] at z
          exact Int.ofNat.inj z
        have e2 : rdF ws (n + 1) i = none := by
          unfold rdF
          rw [List.getElem?_eq_none (by omega)]
        rw [e2] at g
        exact g H i (.refl a H) ha
      refine ite2 (fun c2 => absurd (of_decide_eq_true c2) (by omega)) fun _ => ?_
      have hlt : i < ws.length := by
        refine Nat.lt_of_le_of_ne hi fun e => c (decide_eq_true ?_)
        rw [List.length_map, e]
      obtain ⟨wd, hwd⟩ : ∃ wd, ws[i]? = some wd := ⟨_, List.getElem?_eq_getElem hlt⟩
      have hok : sOk wd = true := by
        obtain ⟨v, h1, h2⟩ := ra.get (i := i) (d := .str wd) (by rw [List.getElem?_map, hwd]; rfl)
        cases h2
        assumption
      refine ⟨_, rfl, a, C, dx, _, _, rfl, ha, T.cl, T.nW, fls_words p i, _, rfl, a, C, dx, _, _, rfl, ha, T.cl, T.nA, fls_at p i, p, _, _, .str wd, rfl, rfl, .of hpH, atI_nat (by rw [List.getElem?_map, hwd]; rfl), ?_⟩
      refine ⟨_, rfl, a, C, dx, _, _, rfl, ha, T.cl, T.nA, fls_at p i, _, _, rfl, rfl, _, rfl, a, C, dx, _, rfl, ha, T.cl, T.nA, (by show 2 < 1000; decide), ?_⟩
      have hA : (upd H a (.ins C dx (putF "at" (.int ((i : Int) + 1)) (fls p i)))) a = some (.ins C dx (fls p ((i + 1 : Nat) : Int))) := by
        rw [upd_same, fls_put]; rfl
      have sA : ButS a H (upd H a (.ins C dx (putF "at" (.int ((i : Int) + 1)) (fls p i)))) := .put
      generalize upd H a (.ins C dx (putF "at" (.int ((i : Int) + 1)) (fls p i))) = H1 at hA sA ⊢
      have dom1 := sA.dom dom hA
      refine ⟨O, [], _, _, sr_form (k := ((n + 1 : Nat) : Int) - 1) dom1 hok, ev_yn _ wd, fun H2 s2 => ?_⟩
      have sA2 := sA.trans (.of s2)
      have hA2 : H2 a = some (.ins C dx (fls p ((i + 1 : Nat) : Int))) := s2.n a _ hA nt_ins
      have dom2 := sA2.dom dom hA2
      refine ite2 (fun c3 => ?_) fun c3 => ?_
      · have e2 : rdF ws (n + 1) i = some (.str wd, i + 1) := by
          rw [rdF_at hwd, if_pos (by simpa using c3)]
        rw [e2] at g
        exact ⟨_, rfl, g _ H2 sA2 hA2 (.str wd hok) hlt⟩
      have nyn : ¬ (wd = "yes" ∨ wd = "no") := by simpa using c3
      have eR := rdF_at (n := n) hwd
      rw [if_neg nyn] at eR
      refine ⟨O, [], _, _, sr_form (k := ((n + 1 : Nat) : Int) - 1) dom2 hok, ev_in _ wd, fun H3 s3 => ?_⟩
      have sA3 := sA2.trans (.of s3)
      have hA3 : H3 a = some (.ins C dx (fls p ((i + 1 : Nat) : Int))) := s3.n a _ hA2 nt_ins
      have dom3 := sA3.dom dom hA3
      refine ite2 (fun c4 => ?_) fun c4 => ?_
      · obtain ⟨m, hm⟩ := Option.isSome_iff_exists.mp c4
        have hm12 := kv_12 hm
        rw [hm] at eR
        have eR : rdF ws (n + 1) i = (rdN (rdF ws n) m.toNat (i + 1)).bind fun q => some (.tup (.str wd :: q.1), q.2) := eR
        refine ⟨O, [], _, _, sr_form (k := ((n + 1 : Nat) : Int) - 1) dom3 hok, ev_one _ wd, fun v1 H4 s4 r1 => ?_⟩
        have sA4 := sA3.trans (.of s4)
        have hA4 : H4 a = some (.ins C dx (fls p ((i + 1 : Nat) : Int))) := s4.n a _ hA3 nt_ins
        have dom4 := sA4.dom dom hA4
        refine ⟨O, [], _, .int m, sr_form (k := ((n + 1 : Nat) : Int) - 1) dom4 hok, (ev_ix _ wd).trans (by rw [hm]; rfl), fun v5 H5 s5 r5 => ?_⟩
        cases r5
        have sA5 := sA4.trans (.of s5)
        have hA5 : H5 a = some (.ins C dx (fls p ((i + 1 : Nat) : Int))) := s5.n a _ hA4 nt_ins
        have dom5 := sA5.dom dom hA5
        refine ⟨m, rfl, by omega, by omega, fun Z hZ => ?_⟩
        have rp5 : Rep K (hid O H5) (.ref p) (.lst (ws.map D.str)) := rp0.mono (sA5.hid haO)
        have nZO : Z ∉ O := fun z => dom5.ne z hZ
        have nZa : Z ≠ a := fun z => by rw [z, hA5] at hZ; cases hZ
        refine lc_range (lo := 0) (n := m.toNat) (fun t Hh => ∃ (ds : List D) (j : Nat) (acc : List V), Hh a = some (.ins C dx (fls p (j : Nat))) ∧ j ≤ ws.length ∧ Hh Z = some (.lst acc) ∧ RepAll K (hid (Z :: O) Hh) acc ds ∧ ButS a H5 Hh ∧ ds.length = t ∧
          rdN (rdF ws n) m.toNat (i + 1) = (rdN (rdF ws n) (m.toNat - t) j).bind fun r => some (ds ++ r.1, r.2)) ?_ ?_ ?_
        · refine ⟨[], i + 1, [], by rw [upd_ne nZa.symm]; exact hA5, hlt, upd_same, .nil, .new hZ, rfl, ?_⟩
          rw [Nat.sub_zero]
          cases rdN (rdF ws n) m.toNat (i + 1) <;> rfl
        · rintro t Hh ht ⟨ds, j, acc, q1, q2, q3, q4, q5, q6, q7⟩
          have bsH : ButS a H Hh := sA5.trans q5
          have domh : Dom O Hh := bsH.dom dom q1
          have domZ : Dom (Z :: O) Hh := ⟨fun b hb => by
            rcases List.mem_cons.mp hb with e | hb
            · rw [e]; exact ⟨_, q3, pl_lst⟩
            · exact domh.d b hb, tabs_any, trivial⟩
          have step : rdN (rdF ws n) (m.toNat - t) j = (rdF ws n j).bind fun q => (rdN (rdF ws n) (m.toNat - (t + 1)) q.2).bind fun r => some (q.1 :: r.1, r.2) := by
            obtain ⟨u, hu⟩ : ∃ u, m.toNat - t = u + 1 := ⟨m.toNat - t - 1, by omega⟩
            rw [hu, show m.toNat - (t + 1) = u by omega]; rfl
          rw [step] at q7
          refine ⟨rfl, ?_⟩
          unfold tYes
          dsimp only
          rw [if_pos rfl]
          refine ⟨_, rfl, a, dx, _, rfl, q1, fls_form p j, _, rfl, _, _, rfl, rfl, a, dx, p, Z :: O, ws, j, ?_, q1, List.mem_cons_of_mem _ haO, domZ, rp5.mono (hid_more q5 haO hZ), q2, ?_⟩
          · show [V.ref a, V.int (((n + 1 : Nat) : Int) - 1 - 1)] = [V.ref a, V.int ((n : Int) - 1)]
            rw [show ((n + 1 : Nat) : Int) - 1 - 1 = (n : Int) - 1 by omega]
          · cases q8 : rdF ws n j with
            | none =>
              rw [q8] at q7
              have q7 : rdN (rdF ws n) m.toNat (i + 1) = none := q7
              rw [q7] at eR
              have eR : rdF ws (n + 1) i = none := eR
              rw [eR] at g
              exact fun H' j' b1 b2 => g H' j' (bsH.trans b1) b2
            | some q =>
              rw [q8] at q7
              refine fun v H' b1 b2 b3 b4 => ⟨acc, b1 Z _ nZa nt_lst q3, ?_, ?_⟩
              · rw [q4.length, q6]
                exact Nat.lt_of_lt_of_le (show t < 3 by omega) (by decide)
              · refine ⟨ds ++ [q.1], q.2, acc ++ [v], by rw [upd_ne nZa.symm]; exact b2, b4, upd_same, ((q4.mono (b1.hid (List.mem_cons_of_mem _ haO))).append (.cons b3 .nil)).mono hid_put, fun b o nb nt hb => by rw [upd_ne (ne_of_none hb hZ)]; exact (q5.trans b1) b o nb nt hb, by simp [q6], ?_⟩
                · rw [q7]
                  show ((rdN (rdF ws n) (m.toNat - (t + 1)) q.2).bind _).bind _ = _
                  cases rdN (rdF ws n) (m.toNat - (t + 1)) q.2 with
                  | none => rfl
                  | some r => show some (ds ++ q.1 :: r.1, r.2) = some ((ds ++ [q.1]) ++ r.1, r.2); simp
        · rintro H6 ⟨ds, j, acc, q1, q2, q3, q4, q5, q6, q7⟩
          rw [Nat.sub_self] at q7
          have q7 : rdN (rdF ws n) m.toNat (i + 1) = some (ds ++ [], j) := q7
          rw [List.append_nil] at q7
          rw [q7] at eR
          have eR : rdF ws (n + 1) i = some (.tup (.str wd :: ds), j) := eR
          rw [eR] at g
          have bs6 : ButS a H H6 := sA5.trans q5
          have dom6 := bs6.dom dom q1
          have r6 : RepAll K (hid O H6) acc ds := q4.mono (hid_sub fun b hb => List.mem_cons_of_mem _ hb)
          have hl : ds.length ≤ 2 := by omega
          refine ⟨O, [.lst ds], .tup ds, dom6, .cons (.lst (hid_get nZO q3) r6 (by unfold lim; omega)) .nil, rfl, fun v7 H7 s7 r7 => ?_⟩
          have hA7 : H7 a = some (.ins C dx (fls p (j : Nat))) := s7.n a _ q1 nt_ins
          have bs7 := bs6.trans (.of s7)
          have dom7 := bs7.dom dom hA7
          refine ⟨O, .tup [.str wd], .tup ds, .tup (.str wd :: ds), dom7, r1.mono (((ButS.of s5).trans (q5.trans (.of s7))).hid haO), r7, ?_, fun v8 H8 s8 r8 => ?_⟩
          · show (if ([D.str wd].length + ds.length ≤ lim) then some (D.tup ([D.str wd] ++ ds)) else none) = _
            rw [if_pos (by unfold lim; simp; omega)]; rfl
          · exact g v8 H8 (bs7.trans (.of s8)) (s8.n a _ hA7 nt_ins) r8 q2
      · have hk : getK kvsP wd = none := by
          cases q : getK kvsP wd with
          | none => rfl
          | some m => exact absurd (by rw [q]; rfl) c4
        rw [hk] at eR
        have eR : rdF ws (n + 1) i = (isW wd).bind fun d => some (d, i + 1) := eR
        have raise : isW wd = none → E (.ref CN) none H3 := fun e => by
          rw [e] at eR
          have eR : rdF ws (n + 1) i = none := eR
          rw [eR] at g
          exact g H3 _ sA3 hA3
        have hwl : wd.length ≤ sizeLine := lim_le (sOk_len hok)
        refine ⟨_, rfl, wd, rfl, hwl, rfl, _, rfl, ?_⟩
        refine ite2 (fun c5 => ?_) fun c5 => iteF (raise (isW_len fun z => c5 (by rw [z]; rfl)))
        have hl2 : wd.length = 2 := by
          have z := of_decide_eq_true c5
          injection z with z
          omega
        obtain ⟨x, c, hxc⟩ := two_of hl2
        refine ⟨_, rfl, wd, 0, x, rfl, rfl, hwl, by rw [hxc]; rfl, rfl, _, rfl, ?_⟩
        refine ite2 (fun c6 => ?_) fun c6 => iteF (raise (isW_not hxc fun z => c6 (by rw [z.1]; rfl)))
        have hx : x = 115 := by
          have z := of_decide_eq_true c6
          injection z with z
          exact one_inj (z.trans (show ("s" : Str) = ⟨#[115]⟩ by decide +kernel))
        refine ⟨_, rfl, wd, 1, c, rfl, rfl, hwl, by rw [hxc]; rfl, c, figs, rfl, rfl, _, rfl, ?_⟩
        refine ite2 (fun c7 => ?_) fun c7 => raise (isW_not hxc fun z => c7 (decide_eq_true ((fig_iff c).mpr z.2)))
        have hc := (fig_iff c).mp (of_decide_eq_true c7)
        have eI : isW wd = some (.tup [.str "is", .int ((c : Int) - 48)]) := by
          unfold isW
          rw [hxc]
          exact if_pos ⟨hx, hc⟩
        rw [eI] at eR
        have eR : rdF ws (n + 1) i = some (.tup [.str "is", .int ((c : Int) - 48)], i + 1) := eR
        rw [eR] at g
        refine ⟨_, rfl, wd, 1, c, rfl, rfl, hwl, by rw [hxc]; rfl, ⟨#[c]⟩, (c : Int) - 48, rfl, dig_int hc, by show 1 ≤ 640; decide, by show 2 ≤ sizeLine; decide, fun t ht => ?_⟩
        exact g _ _ (sA3.trans (.new ht)) (by rw [upd_ne (ne_of_none hA3 ht)]; exact hA3) (.tup (.of (hid_new dom3 ht)) (.cons (.str _ (by decide +kernel)) (.cons (.int _) .nil)) (by show 2 ≤ lim; decide)) hlt
end
/-! texts cut into pieces -/
theorem spl_sum : ∀ (l acc : List Nat), ((TL.spl [32] 0 acc l).map List.length).sum + (TL.spl [32] 0 acc l).length = acc.length + l.length + 1
  | [], acc => by rw [TL.spl_nil]; simp
  | c :: l, acc => by
    by_cases h : TL.pre [32] (c :: l) = true
    · rw [TL.spl_hit h]
      have ih := spl_sum l []
      rw [List.map_cons, List.sum_cons, List.length_cons]
      show acc.length + ((TL.spl [32] 0 [] l).map List.length).sum + ((TL.spl [32] 0 [] l).length + 1) = _
      simp only [List.length_nil, List.length_cons] at ih ⊢
      omega
    · rw [TL.spl_miss (by simpa using h)]
      have ih := spl_sum l (acc ++ [c])
      rw [ih]
      simp only [List.length_append, List.length_cons, List.length_nil]
      omega
theorem spl_mem : ∀ (l acc p : List Nat), p ∈ TL.spl [32] 0 acc l → ∀ x ∈ p, x ∈ acc ∨ x ∈ l
  | [], acc, p, h, x, hx => by
    rw [TL.spl_nil] at h
    rw [List.mem_singleton] at h
    subst h
    exact .inl hx
  | c :: l, acc, p, h, x, hx => by
    by_cases hc : TL.pre [32] (c :: l) = true
    · rw [TL.spl_hit hc] at h
      rcases List.mem_cons.mp h with e | h
      · subst e; exact .inl hx
      · rcases spl_mem l [] p h x hx with z | z
        · cases z
        · exact .inr (List.mem_cons_of_mem _ z)
    · rw [TL.spl_miss (by simpa using hc)] at h
      rcases spl_mem l (acc ++ [c]) p h x hx with z | z
      · rcases List.mem_append.mp z with z | z
        · exact .inl z
        · exact .inr (by rw [List.mem_singleton] at z; rw [z]; exact List.mem_cons_self)
      · exact .inr (List.mem_cons_of_mem _ z)
abbrev pcs (z : Str) : List Str := Txt.split z " "
theorem pcs_tl (z : Str) : (pcs z).map TL.tl = TL.spl [32] 0 [] (TL.tl z) := by
  have e : TL.tl (" " : Str) = [32] := by decide +kernel
  have := TL.split_spl z " " (by rw [e]; simp) (TL.kind_ok (by decide +kernel))
  rw [e] at this
  exact this
theorem pcs_sum (z : Str) : ((pcs z).map Str.length).sum + (pcs z).length = z.length + 1 := by
  have h := spl_sum (TL.tl z) []
  rw [← pcs_tl, List.map_map, List.length_map] at h
  have e : (List.length ∘ TL.tl) = Str.length := funext fun x => (TL.len_tl x).symm
  rw [e, ← TL.len_tl z, List.length_nil, Nat.zero_add] at h
  exact h
theorem ok_tl (z : Str) : PyData.strOk z = true ↔ ∀ c ∈ TL.tl z, c < 0x110000 := by
  unfold PyData.strOk
  rw [Array.all_eq_true_iff_forall_mem]
  constructor
  · intro h c hc
    exact of_decide_eq_true (h c (Array.mem_toList_iff.mp hc))
  · intro h c hc
    exact decide_eq_true (h c (Array.mem_toList_iff.mpr hc))
theorem pcs_ok {z : Str} (h : PyData.strOk z = true) : ∀ p ∈ pcs z, PyData.strOk p = true := fun p hp => by
  rw [ok_tl] at h ⊢
  intro c hc
  have : TL.tl p ∈ TL.spl [32] 0 [] (TL.tl z) := by rw [← pcs_tl]; exact List.mem_map.mpr ⟨p, hp, rfl⟩
  rcases spl_mem _ _ _ this c hc with q | q
  · cases q
  · exact h c q
theorem pcs_ne (z : Str) : pcs z ≠ [] := fun e => by
  have := pcs_sum z
  rw [e] at this
  simp at this
theorem le_sum : ∀ {l : List Nat} {x : Nat}, x ∈ l → x ≤ l.sum
  | y :: l, x, h => by
    rw [List.sum_cons]
    rcases List.mem_cons.mp h with e | h
    · omega
    · have := le_sum h
      omega
theorem len_mem {z : Str} {p : Str} (hp : p ∈ pcs z) : p.length ≤ z.length := by
  have h := pcs_sum z
  have h1 : p.length ≤ ((pcs z).map Str.length).sum := le_sum (List.mem_map.mpr ⟨p, hp, rfl⟩)
  have h2 : 0 < (pcs z).length := List.length_pos_iff.mpr (pcs_ne z)
  omega
theorem sOk_ok {z : Str} (h : sOk z = true) : PyData.strOk z = true := by
  unfold sOk at h
  rw [Bool.and_eq_true] at h
  exact h.1
theorem sOk_of {z : Str} (h : PyData.strOk z = true) (hl : z.length ≤ 1000000) : sOk z = true := by
  unfold sOk
  rw [Bool.and_eq_true]
  exact ⟨h, decide_eq_true hl⟩
theorem split_ok {z : Str} (h : sOk z = true) (hl : z.length ≤ 100000) : splitD (.str z) (.str " ") = some (.lst ((pcs z).map D.str)) := by
  refine if_pos ⟨by decide +kernel, ?_, ?_⟩
  · rw [List.all_eq_true]
    intro p hp
    exact sOk_of (pcs_ok (sOk_ok h) p hp) (Nat.le_trans (len_mem hp) (by omega))
  · have := pcs_sum z
    show (pcs z).length ≤ 1000000
    omega
/-! read -/
abbrev rB : List Stmt := defBody rread.st
noncomputable abbrev TR : Tab := tabR defsR gl0R (P0 40) rread
def tupE0 : Expr → Expr
  | .Tuple (a :: _) _ _ => a
  | e => e
theorem er0 (z : Str) : evalD TR rread.N 30 true (defScope rread.st) (ifTest (stAt rB 0)) [some (.dat (.str z)), none, none, none, none, none] = some (.bl false) := by kernel_rfl
theorem er1 (z : Str) : evalD TR rread.N 30 false (defScope rread.st) (asgV (stAt rB 1)) [some (.dat (.str z)), none, none, none, none, none] = splitD (.str z) (.str " ") := by kernel_rfl
theorem er2 (z : Str) (l : List D) : evalD TR rread.N 30 true (defScope rread.st) (ifTest (stAt rB 2)) [some (.dat (.str z)), some (.dat (.lst l)), none, none, none, none] = inD true (.str ":") (.lst (cutD l none (some 7))) := by kernel_rfl
theorem er3 (z : Str) (l : List D) : evalD TR rread.N 30 false (defScope rread.st) (asgV (stAt rB 3)) [some (.dat (.str z)), some (.dat (.lst l)), none, none, none, none] = indexD (.lst l) (.str ":") := by kernel_rfl
theorem er4 (z : Str) (l : List D) (i : Int) : evalD TR rread.N 30 true (defScope rread.st) (ifTest (stAt rB 4)) [some (.dat (.str z)), some (.dat (.lst l)), some (.dat (.int i)), none, none, none] =
    (((((((compD (fun d => (inD false d (.tup [.str "0", .str "1"])).map some) (cutD l none (some i))).map D.lst).bind fun x => some [x]).bind (one allD)).map fun d => .bl (truthD d)).bind asB).map fun b => .bl (!b)) := by kernel_rfl
theorem er5 (z : Str) (l : List D) (i : Int) : evalD TR rread.N 30 false (defScope rread.st) (callA (asgV (stAt rB 5))) [some (.dat (.str z)), some (.dat (.lst l)), some (.dat (.int i)), none, none, none] = some (.lst (cutD l (some (i + 1)) none)) := by kernel_rfl
theorem er6 (z : Str) (l : List D) (i : Int) : evalD TR rread.N 30 false (defScope rread.st) (tupE0 (asgV (stAt rB 6))) [some (.dat (.str z)), some (.dat (.lst l)), some (.dat (.int i)), none, none, none] =
    (((compD (fun d => ((some [d]).bind (one intD)).map some) (cutD l none (some i))).map D.lst).bind fun x => some [x]).bind (one tupleD) := by kernel_rfl
/-! .. what these are -/
theorem in_str (x : Str) (ys : List Str) : inD true (.str x) (.lst (ys.map D.str)) = some (.bl (!ys.contains x)) := by
  have h1 : dep (.str x) ≤ 150 := by show (0 : Nat) ≤ 150; decide
  show (if min (deps (ys.map D.str)) (dep (.str x)) ≤ 150 then some (D.bl (if true then !(ys.map D.str).any (fun z => deq z (.str x)) else _)) else none) = _
  rw [if_pos (Nat.le_trans (Nat.min_le_right _ _) h1), if_pos rfl, List.any_map]
  have e : ((fun z => deq z (.str x)) ∘ D.str) = fun y => y == x := funext fun y => rfl
  rw [e]
  congr 3
  rw [Bool.eq_iff_iff, List.any_eq_true, List.contains_iff_mem]
  constructor
  · rintro ⟨y, h, q⟩
    rw [← eq_of_beq q]; exact h
  · exact fun h => ⟨x, h, beq_self_eq_true x⟩
theorem side_eq (x : Str) : inD false (.str x) (.tup [.str "0", .str "1"]) = some (.bl (sideW x)) := by
  have e : inD false (.str x) (.tup [.str "0", .str "1"]) = some (.bl ([D.str "0", .str "1"].any fun z => deq z (.str x))) := rfl
  rw [e]
  show some (D.bl ((("0" : Str) == x) || ((("1" : Str) == x) || false))) = _
  rw [Bool.or_false, BEq.comm (a := ("0" : Str)), BEq.comm (a := ("1" : Str))]
  unfold sideW
  congr 3
theorem er4' (z : Str) (us : List Str) (i : Nat) : evalD TR rread.N 30 true (defScope rread.st) (ifTest (stAt rB 4)) [some (.dat (.str z)), some (.dat (.lst (us.map D.str))), some (.dat (.int (i : Int))), none, none, none] = some (.bl (!(us.take i).all sideW)) := by
  rw [er4, cutTo, ← List.map_take, compD_mapA (g := fun u => D.bl (sideW u)) fun u _ => by rw [side_eq]; rfl]
  show (((((some [D.lst ((us.take i).map fun u => D.bl (sideW u))]).bind (one allD)).map _).bind asB).map _) = _
  show ((((boolsD _).map fun bs => D.bl (bs.all id)).map _).bind asB).map _ = _
  rw [boolsD_map sideW]
  show some (D.bl (!(((us.take i).map sideW).all id))) = _
  rw [List.all_map]; rfl
theorem dig_of {u : Str} (h : sideW u = true) : intD (.str u) = some (digD u) := by
  unfold sideW at h
  rw [Bool.or_eq_true] at h
  rcases h with h | h
  · have := of_decide_eq_true h
    subst this
    have q : PySem.intText? "0" = some 0 := by decide +kernel
    show (if (("0" : Str)).length ≤ 640 then (PySem.intText? "0").map D.int else none) = _
    rw [q, if_pos (by decide +kernel)]
    kernel_rfl
  · have := of_decide_eq_true h
    subst this
    have q : PySem.intText? "1" = some 1 := by decide +kernel
    show (if (("1" : Str)).length ≤ 640 then (PySem.intText? "1").map D.int else none) = _
    rw [q, if_pos (by decide +kernel)]
    kernel_rfl
theorem er6' (z : Str) (us : List Str) (i : Nat) (h : (us.take i).all sideW = true) : evalD TR rread.N 30 false (defScope rread.st) (tupE0 (asgV (stAt rB 6))) [some (.dat (.str z)), some (.dat (.lst (us.map D.str))), some (.dat (.int (i : Int))), none, none, none] = some (.tup ((us.take i).map digD)) := by
  rw [er6, cutTo, ← List.map_take, compD_mapA (g := digD) fun u hu => by
    show ((intD (.str u)).map some) = _
    rw [dig_of (List.all_eq_true.mp h u hu)]; rfl]
  rfl
theorem idx_some {x : Str} : ∀ {ys : List Str} {n : Nat}, x ∈ ys → ∃ i, idxS x ys n = some i
  | y :: ys, n, h => by
    unfold idxS
    by_cases e : y = x
    · rw [if_pos e]; exact ⟨n, rfl⟩
    · rw [if_neg e]
      rcases List.mem_cons.mp h with z | z
      · exact absurd z.symm e
      · exact idx_some z
/-! the walk -/
def spR (K : PySem.W.Frag) (CN : Addr) : Sp := fun vs H Q E => ∃ (O : List Addr) (z : Str) (o : Option D), vs = [.str z] ∧ Dom O H ∧ sOk z = true ∧ readO z = some o ∧
  (match o with
    | some f => ∀ v H', Same H H' → Rep K (hid O H') v f → Q v H'
    | none => ∀ H', Same H H' → E (.ref CN) none H')
theorem same_of {H H' : Hp} (h : SameN H H') : Same H H' := ⟨h, fun _ => tabs_any⟩
theorem same_but {a : Addr} {H H1 H2 : Hp} (h : SameN H H1) (ha : H a = none) (s : ButS a H1 H2) : SameN H H2 := fun b o q t => s b o (ne_of_none q ha) t (h b o q t)
theorem srA {K : PySem.W.Frag} {O : List Addr} {H : Hp} {z : Str} {x1 x2 x3 x4 x5 : Option V} (dom : Dom O H) (hz : sOk z = true) : SR K O [] H [some (.str z), x1, x2, x3, x4, x5] [some (.dat (.str z)), none, none, none, none, none] := by
  refine sr_of rfl dom fun i s q => ?_
  match i, q with
  | 0, q => cases q; exact ⟨_, _, rfl, rfl, .str z hz⟩
  | 1, q => cases q
  | 2, q => cases q
  | 3, q => cases q
  | 4, q => cases q
  | 5, q => cases q
  | i + 6, q => cases q
theorem srB {K : PySem.W.Frag} {O : List Addr} {H : Hp} {z : Str} {v : V} {d : D} {x2 x3 x4 x5 : Option V} (dom : Dom O H) (hz : sOk z = true) (hv : Rep K (hid O H) v d) : SR K O [] H [some (.str z), some v, x2, x3, x4, x5] [some (.dat (.str z)), some (.dat d), none, none, none, none] := by
  refine sr_of rfl dom fun i s q => ?_
  match i, q with
  | 0, q => cases q; exact ⟨_, _, rfl, rfl, .str z hz⟩
  | 1, q => cases q; exact ⟨_, _, rfl, rfl, hv⟩
  | 2, q => cases q
  | 3, q => cases q
  | 4, q => cases q
  | 5, q => cases q
  | i + 6, q => cases q
theorem srC {K : PySem.W.Frag} {O : List Addr} {H : Hp} {z : Str} {v : V} {d : D} {k : Int} {x3 x4 x5 : Option V} (dom : Dom O H) (hz : sOk z = true) (hv : Rep K (hid O H) v d) : SR K O [] H [some (.str z), some v, some (.int k), x3, x4, x5] [some (.dat (.str z)), some (.dat d), some (.dat (.int k)), none, none, none] := by
  refine sr_of rfl dom fun i s q => ?_
  match i, q with
  | 0, q => cases q; exact ⟨_, _, rfl, rfl, .str z hz⟩
  | 1, q => cases q; exact ⟨_, _, rfl, rfl, hv⟩
  | 2, q => cases q; exact ⟨_, _, rfl, rfl, .int k⟩
  | 3, q => cases q
  | 4, q => cases q
  | 5, q => cases q
  | i + 6, q => cases q
theorem srD {K : PySem.W.Frag} {O : List Addr} {H : Hp} {z : Str} {v : V} {d : D} {x1 x2 x3 x4 : Option V} (dom : Dom O H) (hz : sOk z = true) (hv : Rep K (hid O H) v d) : SR K O [] H [some (.str z), x1, x2, x3, x4, some v] [some (.dat (.str z)), none, none, none, none, some (.dat d)] := by
  refine sr_of rfl dom fun i s q => ?_
  match i, q with
  | 0, q => cases q; exact ⟨_, _, rfl, rfl, .str z hz⟩
  | 1, q => cases q
  | 2, q => cases q
  | 3, q => cases q
  | 4, q => cases q
  | 5, q => cases q; exact ⟨_, _, rfl, rfl, hv⟩
  | i + 6, q => cases q
theorem rO_none {z : Str} (hl : z.length ≤ 100000) (h : readP z = none) : readO z = some none := by
  unfold readO
  rw [if_pos hl, h]
theorem rO_some {z : Str} {f : D} (hl : z.length ≤ 100000) (h : readP z = some f) : readO z = (endT f z).map fun b => if b = true then none else some f := by
  unfold readO
  rw [if_pos hl, h]
section
variable {P : Program} {w : World} {K : PySem.W.Frag} {mg : Str → Option Value} {base : Heap} {C CN fI fF : Addr}
theorem read_ok {f : Addr} {fd fdI fdF : FuncData} (h0 : @GOk tbs0 defsR gl0R P w K mg base) (T : RdC K mg C CN fI fF) (hd : DefIn K rread f fd) (FI : Fun K "__init__" "Reader.__init__" sInit fI fdI) (bI : Binds K fdI ["self", "words"] []) (FF : Fun K "form" "Reader.form" sForm fF fdF) (bF : Binds K fdF ["self", "deep"] []) :
    FnOk P w K mg base (L2.CX P w) 41 f fd ["text"] (spR K CN) := by
  have GI : FnOk P w K mg base CX0 1 fI fdI ["self", "words"] (spI C) := init_ok T FI
  have GF := form_ok h0 T FF bF 7
  obtain ⟨ok, _⟩ := h0.hP rread (by simp [defsR])
  have t := tabR_ok h0 40 rread (phi_ok h0 40)
  refine hd.fun_.okX ok.sc (fun vs H Q E h => ?_) (fun cdv A outer s H vs Q E hr h => ?_)
  · obtain ⟨O, z, o, rfl, _⟩ := h
    rfl
  obtain ⟨O, z, o, rfl, dom, hz, ho, g⟩ := h
  have hX : XOk TR 40 (cxOf (L2.CX P w) P w K mg base rread.N "read" (defScope rread.st) f cdv A outer s H E) := ⟨rfl, ok.sc.nd, hr, ok.nm, t.blt, t.gl, t.dg, t.fn, fun F e => (by cases e), t.hof, fun L e => (by
    have z : levR gl0R rread (defScope rread.st) = some L := e
    cases z)⟩
  have evE := fun e => ((evalD_ok (T := TR) (k := 40) rread.N 30).1 _ hX rfl e).1
  have evT := fun e => ((evalD_ok (T := TR) (k := 40) rread.N 30).1 _ hX rfl e).2
  have tk : Takes (cxOf (L2.CX P w) P w K mg base rread.N "read" (defScope rread.st) f cdv A outer s H E) (fun cls d _ H => E cls d H) := takes_of rfl rfl rfl rfl
  refine ⟨_, pss_cons (ps_if (evT _) (pss_one (ps_raise rfl tk (pmk_own PySem.F.excBase_ValueError T.err.x T.err.g T.err.k (raises_own T.err.b T.err.t) rfl))) pss_nil)
    (pss_cons (ps_set (i := 1) ok.sc.nd rfl (Or.inl rfl) (evE _))
    (pss_cons (ps_if (evT _) (pss_one (ps_raise rfl tk (pmk_own PySem.F.excBase_ValueError T.err.x T.err.g T.err.k (raises_own T.err.b T.err.t) rfl))) pss_nil)
    (pss_cons (ps_set (i := 2) ok.sc.nd rfl (Or.inl rfl) (evE _))
    (pss_cons (ps_if (evT _) (pss_one (ps_raise rfl tk (pmk_own PySem.F.excBase_ValueError T.err.x T.err.g T.err.k (raises_own T.err.b T.err.t) rfl))) pss_nil)
    (pss_cons (ps_set (i := 4) ok.sc.nd rfl (Or.inl rfl) (pe_make T.make GI (hr.mono (by decide)) rfl T.mgC bI .nil pass0 (pa_cons (evE _) pa_nil)))
    (pss_cons (ps_set (i := 5) ok.sc.nd rfl (Or.inl rfl) (pe_tup (pa_cons (evE _) (pa_cons (pe_meth (pv 4) T.cl T.mt GF (hr.mono (by decide)) bF .nil (passes_call tk fun _ _ _ _ h => h) (pa_cons (evE _) pa_nil)) pa_nil))))
    (pss_cons (ps_if (evT _) (pss_one (ps_raise rfl tk (pmk_own PySem.F.excBase_ValueError T.err.x T.err.g T.err.k (raises_own T.err.b T.err.t) rfl))) pss_nil)
    (pss_one (ps_ret (pv 5)))))))))), ?_⟩
  have hl : z.length ≤ 100000 := by
    unfold readO at ho
    split at ho
    · assumption
    · cases ho
  have no : readP z = none → ∀ H', SameN H H' → E (.ref CN) none H' := fun e H' s' => by
    rw [rO_none hl e] at ho
    cases ho
    exact g H' (same_of s')
  refine ⟨O, [], _, _, srA dom hz, er0 z, fun H1 s1 => iteF ?_⟩
  have dom1 := dom.same s1
  refine ⟨O, [], _, _, srA dom1 hz, (er1 z).trans (split_ok hz hl), fun v1 H2 s2 r1 => ?_⟩
  have dom2 := dom1.same s2
  have s02 := s1.trans s2
  refine ⟨O, [], _, _, srB dom2 hz r1, (er2 z _).trans (by rw [show cutD ((pcs z).map D.str) none (some 7) = ((pcs z).take 7).map D.str from (cutTo _ 7).trans List.map_take.symm, in_str]), fun H3 s3 => ?_⟩
  have s03 := s02.trans s3
  refine ite2 (fun c => no ?_ H3 s03.n) fun c => ?_
  · unfold readP
    rw [if_neg (by simpa using c)]
  have hcol : ((pcs z).take 7).contains ":" = true := by simpa using c
  obtain ⟨i, hi⟩ := idx_some (n := 0) (x := ":") (ys := pcs z) (List.mem_of_mem_take (by simpa using hcol))
  have dom3 := dom2.same s3
  have r3 := r1.mono (hid_same s3)
  refine ⟨O, [], _, .int i, srB dom3 hz r3, (er3 z _).trans (by show (strsD _).bind _ = _; rw [strs_mapR]; show (idxS ":" (pcs z) 0).map _ = _; rw [hi]; rfl), fun v4 H4 s4 r4 => ?_⟩
  cases r4
  have s04 := s03.trans s4
  have dom4 := dom3.same s4
  have r4 := r3.mono (hid_same s4)
  refine ⟨O, [], _, _, srC dom4 hz r4, er4' z _ i, fun H5 s5 => ?_⟩
  have s05 := s04.trans s5
  have dom5 := dom4.same s5
  have r5 := r4.mono (hid_same s5)
  have eP : readP z = (if ((pcs z).take i).all sideW = true then (rdF ((pcs z).drop (i + 1)) 7 0).bind fun q => some (.tup [.tup (((pcs z).take i).map digD), q.1]) else none) := by
    unfold readP
    rw [if_pos hcol, hi]; rfl
  refine ite2 (fun c2 => no ?_ H5 s05.n) fun c2 => ?_
  · rw [eP, if_neg (by simpa using c2)]
  have hsd : ((pcs z).take i).all sideW = true := by simpa using c2
  rw [if_pos hsd] at eP
  refine ⟨O, [], _, _, srC dom5 hz r5, er5 z _ i, fun v6 H6 s6 r6 => ?_⟩
  have s06 := s05.trans s6
  have dom6 := dom5.same s6
  have e6 : cutD ((pcs z).map D.str) (some ((i : Int) + 1)) none = ((pcs z).drop (i + 1)).map D.str := (cutFrom _ (i + 1)).trans List.map_drop.symm
  rw [e6] at r6
  obtain ⟨p6, rfl⟩ : ∃ p, v6 = .ref p := by cases r6; exact ⟨_, rfl⟩
  intro x dx hx hdx hne
  refine ⟨x, dx, p6, rfl, upd_same, fun H7 b7 h7 => ⟨rfl, ?_⟩⟩
  have s67 : SameN H6 (upd (upd H6 dx (.own x)) x (.ins C dx [])) := fun b o q t => by rw [upd_ne (ne_of_none q hx), upd_ne (ne_of_none q hdx)]; exact q
  have s7 : SameN H6 H7 := same_but s67 hx b7
  have h6x : SameN (hid O H6) (hid (x :: O) H7) := fun b o q t => by
    obtain ⟨n, q⟩ := of_hid q
    refine hid_get ?_ (s7 b o q t)
    simp only [List.mem_cons, not_or]
    exact ⟨ne_of_none q hx, n⟩
  have dom7 : Dom (x :: O) H7 := ⟨fun b hb => by
    rcases List.mem_cons.mp hb with e | hb
    · rw [e]; exact ⟨_, h7, pl_ins⟩
    · obtain ⟨o', e, n⟩ := dom6.d b hb
      exact ⟨o', s7 b o' e n.1, n⟩, tabs_any, trivial⟩
  have r7 := (r5.mono (hid_same s6)).mono h6x
  have rp7 := r6.mono h6x
  refine ⟨x :: O, [], _, _, srC dom7 hz r7, er6' z _ i hsd, fun v8 H8 s8 r8 => ?_⟩
  have h8 : H8 x = some (.ins C dx (fls p6 0)) := s8.n x _ h7 nt_ins
  refine ⟨_, rfl, x, dx, _, rfl, h8, fls_form p6 0, x :: O, [], _, .int 6, srA (dom7.same s8) hz, by kernel_rfl, fun v9 H9 s9 r9 => ?_⟩
  cases r9
  have h9 : H9 x = some (.ins C dx (fls p6 0)) := s9.n x _ h8 nt_ins
  have dom9 := (dom7.same s8).same s9
  have s69 : SameN H6 H9 := s7.trans (s8.n.trans s9.n)
  have s09 : SameN H H9 := s06.n.trans s69
  refine ⟨x, dx, p6, x :: O, (pcs z).drop (i + 1), 0, rfl, h9, List.mem_cons_self, dom9, (rp7.mono (hid_same s8)).mono (hid_same s9), Nat.zero_le _, ?_⟩
  cases q : rdF ((pcs z).drop (i + 1)) 7 0 with
  | none =>
    rw [q] at eP
    exact fun H' j b1 b2 => no eP H' (s06.n.trans (same_but s69 hx b1))
  | some r =>
    rw [q] at eP
    have eP : readP z = some (.tup [.tup (((pcs z).take i).map digD), r.1]) := eP
    refine fun v H' b1 b2 b3 b4 => ⟨by show 2 ≤ sizeLine; decide, fun t ht => ?_⟩
    have s0' : SameN H H' := s06.n.trans (same_but s69 hx b1)
    have dom' := b1.dom dom9 b2
    have s0t : SameN H (upd H' t (.tup [v8, v])) := s0'.trans (same_upd ht).n
    have domt := dom'.same (same_upd (o := .tup [v8, v]) ht)
    have rt : Rep K (hid (x :: O) (upd H' t (.tup [v8, v]))) (.ref t) (.tup [.tup (((pcs z).take i).map digD), r.1]) := .tup (.of (hid_new dom' ht)) ((RepAll.cons ((r8.mono (hid_same s9)).mono (b1.hid List.mem_cons_self)) (.cons b3 .nil)).mono (hid_same (same_upd ht))) (by show 2 ≤ lim; decide)
    rw [rO_some hl eP] at ho
    cases q2 : endT (.tup [.tup (((pcs z).take i).map digD), r.1]) z with
    | none => rw [q2] at ho; cases ho
    | some b =>
      rw [q2] at ho
      obtain ⟨db, q3, q4⟩ := bind_inv (show (evalD TR rread.N 30 true (defScope rread.st) _ _).bind asB = some b from q2)
      have q4 := asB_inv q4
      subst q4
      refine ⟨x :: O, [], _, b, srD domt hz rt, q3, fun Hz sz => ?_⟩
      have s0z := s0t.trans sz.n
      cases b with
      | true =>
        cases ho
        exact iteT (g Hz (same_of s0z))
      | false =>
        cases ho
        exact iteF ⟨_, rfl, g _ Hz (same_of s0z) ((rt.mono (hid_same sz)).mono (hid_sub fun b hb => List.mem_cons_of_mem _ hb))⟩
end
/-! read, from what the top has left -/
theorem fa_ok {K : PySem.W.Frag} (xb : xbR K = true) (i : Nat) {f : He.Fa} (h : faR[i]? = some f) : f.ok K = true := List.all_eq_true.mp (He.ba xb).1 f (List.mem_of_getElem? h)
theorem xb_rdc {K : PySem.W.Frag} {mg : Str → Option Value} {h : Heap} (X : K.In h) (G : h.Ns mainGlobals mg) (xb : xbR K = true) : RdC K mg (He.ga K "Reader") (He.ga K "NoText") (He.ma K (He.ga K "Reader") "__init__") (He.ma K (He.ga K "Reader") "form") where
  cl := He.cls_ok (fa_ok xb 6 rfl)
  nW := He.noat_ok (fa_ok xb 8 rfl)
  nA := He.noat_ok (fa_ok xb 9 rfl)
  mgC := He.glo_ok X G (fa_ok xb 7 rfl)
  make := He.mkr_ok (fa_ok xb 11 rfl)
  mt := He.meth_ok (fa_ok xb 10 rfl)
  err := by
    obtain ⟨a, b, c, d⟩ := He.exc_ok (fa_ok xb 0 rfl)
    exact ⟨a, He.glo_ok X G (fa_ok xb 1 rfl), b, c, d⟩
  fig := He.str_ok X G (fa_ok xb 12 rfl)
/-- read, from what the top has left -/
theorem read_all {prog : Program} {w : World} {K : PySem.W.Frag} {mg : Str → Option Value} {h base : Heap} (X : K.In h) (G : h.Ns mainGlobals mg) (h0 : @GOk tbs0 defsR gl0R prog w K mg base) (xb : xbR K = true) (hms : ∀ C m q st, mdOf C m q st ∈ msR → ∃ fd, Fun K m q st (He.ma K (He.ga K C) m) fd) :
    ∃ f fd, DefIn K rread f fd ∧ mg "read" = some (.ref f) ∧ FnOk prog w K mg base (L2.CX prog w) 41 f fd ["text"] (spR K (He.ga K "NoText")) := by
  obtain ⟨ok, f, fd, hd, hf⟩ := h0.hP rread (by simp [defsR])
  obtain ⟨fdI, FI⟩ := hms "Reader" "__init__" "Reader.__init__" sInit (by simp [msR])
  obtain ⟨fdF, FF⟩ := hms "Reader" "form" "Reader.form" sForm (by simp [msR])
  have bI := FI.binds (ps := ["self", "words"]) fun _ _ _ _ _ _ us hl => match us, hl with | [_, _], _ => rfl
  have bF := FF.binds (ps := ["self", "deep"]) fun _ _ _ _ _ _ us hl => match us, hl with | [_, _], _ => rfl
  exact ⟨f, fd, hd, hf, read_ok h0 (xb_rdc X G xb) hd FI bI FF bF⟩
theorem readP_tup {z : Str} {f : D} (h : readP z = some f) : ∃ ds, f = .tup ds := by
  unfold readP at h
  split at h
  · obtain ⟨i, _, h⟩ := bind_inv h
    split at h
    · obtain ⟨q, _, h⟩ := bind_inv h
      cases h
      exact ⟨_, rfl⟩
    · cases h
  · cases h
theorem readO_tup {z : Str} {f : D} (h : readO z = some (some f)) : ∃ ds, f = .tup ds := by
  unfold readO at h
  split at h
  · split at h
    · cases h
    · rename_i f' e
      cases q : endT f' z with
      | none => rw [q] at h; cases h
      | some b =>
        rw [q] at h
        cases b with
        | true => cases h
        | false => cases h; exact readP_tup e
  · cases h
/-! _law_none, and read where it finds a duel -/
theorem noneX_inv {ds : List D} {d : D} (h : noneX ds = some d) : ∃ z o, ds = [.str z] ∧ readO z = some o ∧ d = .bl o.isNone := by
  unfold noneX at h
  split at h
  · rename_i z
    cases q : readO z with
    | none => rw [q] at h; cases h
    | some o => rw [q] at h; cases h; exact ⟨z, o, rfl, q, rfl⟩
  · cases h
theorem readX_inv {ds : List D} {d : D} (h : readX ds = some d) : ∃ z, ds = [.str z] ∧ readO z = some (some d) := by
  unfold readX at h
  split at h
  · rename_i z
    cases q : readO z with
    | none => rw [q] at h; cases h
    | some o =>
      rw [q] at h
      have h : o = some d := h
      exact ⟨z, rfl, by rw [h] at q; exact q⟩
  · cases h
theorem none_ok {prog : Program} {w : World} {K : PySem.W.Frag} {mg : Str → Option Value} {h base : Heap} (X : K.In h) (G : h.Ns mainGlobals mg) (h0 : @GOk tbs0 defsR gl0R prog w K mg base) (xb : xbR K = true) (hms : ∀ C m q st, mdOf C m q st ∈ msR → ∃ fd, Fun K m q st (He.ma K (He.ga K C) m) fd) :
    ∃ a fd ps, FnOk prog w K mg base CX0 42 a fd ps (@spD tbs0 K noneX ps.length) ∧ mg "_law_none" = some (.ref a) ∧ PySem.W.keepIn K (.ref a) = true ∧ Binds K fd ps [] ∧ (("_law_none" : Str) == ("__debug__" : Str)) = false ∧ ("_law_none" : Str) ≠ "__name__" ∧ ∀ ds d, noneX ds = some d → ds.length = ps.length := by
  have err := (xb_rdc X G xb).err
  have te := He.exm_ok (fa_ok xb 5 rfl)
  obtain ⟨fR, fdR, hdR, hfR, okR⟩ := read_all X G h0 xb hms
  obtain ⟨ok, f, fd, hd, hf⟩ := h0.hP rlaw_none (by simp [defsR])
  refine ⟨f, fd, ["text"], ?_, hf, hd.fun_.kp, hd.binds, by decide +kernel, by decide, fun ds d e => ?_⟩
  · refine hd.fun_.ok ok.sc (fun vs H Q E h => h.1) fun cdv A outer s H vs Q E hr hsp => ?_
    obtain ⟨hlen, O, ds, d, hO, rep, e, g⟩ := hsp
    obtain ⟨z, o, rfl, eo, rfl⟩ := noneX_inv e
    obtain ⟨v, rfl, rv⟩ := rep.one
    have hz : v = .str z ∧ sOk z = true := by cases rv; exact ⟨rfl, by assumption⟩
    obtain ⟨rfl, hz⟩ := hz
    have hr1 : Room 41 _ := hr
    refine ⟨_, pss_cons (ps_try_only (tb := fun W => tDrop (tCallS (spR K (He.ga K "NoText")) (WE W) (tCons (tVar 0) tNil))) (ts := fun a cls d => tRet (tC (.bl true)))
      (Wout := fun _ _ _ _ => False) rfl rfl ⟨rfl, by decide, Or.inl err.g⟩ takes0
      (fun W pn xe tk _ => pss_one (ps_expr (pe_callS okR hr1 rfl hfR hdR.fun_.kp hdR.binds (fun σ => passAt tk σ) (by exact pa_cons (pv 0) pa_nil))))
      (fun a oe cls d pn hz hfl => pss_one (ps_ret pe_bl))) (pss_one (ps_ret pe_bl)), ?_⟩
    refine ⟨_, rfl, O, z, o, rfl, hO, hz, eo, ?_⟩
    cases o with
    | none => exact fun H' s' => ⟨true, te, fun _ a ha => g (.bl true) H' s' (.bl true), fun q => nomatch q⟩
    | some f0 => exact fun v' H' s' r' => g (.bl false) H' s' (.bl false)
  · obtain ⟨z, o, rfl, _⟩ := noneX_inv e
    rfl
theorem cx_false {P : Program} {w : World} {outer : List Env} {H : Hp} {s : Shared} {u : Value} {s' : Shared} (h : L2.CX P w outer H s E0 u s') : False := by
  obtain ⟨_, _, _, _, _, _, _, _, _, _, _, _, z⟩ := h
  exact z.elim
theorem readX_ok {prog : Program} {w : World} {K : PySem.W.Frag} {mg : Str → Option Value} {h base : Heap} (X : K.In h) (G : h.Ns mainGlobals mg) (h0 : @GOk tbs0 defsR gl0R prog w K mg base) (xb : xbR K = true) (hms : ∀ C m q st, mdOf C m q st ∈ msR → ∃ fd, Fun K m q st (He.ma K (He.ga K C) m) fd) :
    ∃ a fd ps, FnOk prog w K mg base CX0 41 a fd ps (@spD tbs0 K readX ps.length) ∧ mg "read" = some (.ref a) ∧ PySem.W.keepIn K (.ref a) = true ∧ Binds K fd ps [] ∧ (("read" : Str) == ("__debug__" : Str)) = false ∧ ("read" : Str) ≠ "__name__" ∧ ∀ ds d, readX ds = some d → ds.length = ps.length := by
  obtain ⟨fR, fdR, hdR, hfR, okR⟩ := read_all X G h0 xb hms
  have sp : ∀ vs H Q E, @spD tbs0 K readX 1 vs H Q E → spR K (He.ga K "NoText") vs H Q E0 := fun vs H Q E h => by
    obtain ⟨hlen, O, ds, d, hO, rep, e, g⟩ := h
    obtain ⟨z, rfl, eo⟩ := readX_inv e
    obtain ⟨v, rfl, rv⟩ := rep.one
    have hz : v = .str z ∧ sOk z = true := by cases rv; exact ⟨rfl, by assumption⟩
    obtain ⟨rfl, hz⟩ := hz
    exact ⟨O, z, some d, rfl, hO, hz, eo, g⟩
  refine ⟨fR, fdR, ["text"], ⟨fun vs H Q E h => h.1, fun A outer s H args us vs Q E c1 c2 c3 c4 h => ?_⟩, hfR, hdR.fun_.kp, hdR.binds, by decide +kernel, by decide, fun ds d e => ?_⟩
  · refine codeAny_mono (okR.run A outer s H args us vs Q E0 c1 c2 c3 c4 (sp vs H Q E h)) fun r s' q => ?_
    cases r with
    | error e => exact (cx_false q).elim
    | ok fl =>
      cases fl with
      | ret u => exact q
      | next => exact q
      | brk => exact q
      | cont => exact q
  · obtain ⟨z, rfl, _⟩ := readX_inv e
    rfl
theorem hGR {prog : Program} (w : World) (K : PySem.W.Frag) (mg : Str → Option Value) (h base : Heap) (X : K.In h) (G : h.Ns mainGlobals mg) (h0 : @GOk tbs0 defsR (flatG csR tsR) prog w K mg base) (xb : xbR K = true) (hms : ∀ C m q st, mdOf C m q st ∈ msR → ∃ fd, Fun K m q st (He.ma K (He.ga K C) m) fd) : @GOk tbs0 defsR glR prog w K mg base where
  hP := h0.hP
  blt := h0.blt
  hgl := h0.hgl
  hdg := h0.hdg
  hof := fun g G' e => by cases e
  lev := fun L e => by cases e
  mkf := fun r hr hl L e => by cases e
  xf := fun g F e => by
    have e : (if g = "_law_none" then some noneX else if g = "read" then some readX else none) = some F := e
    by_cases c : g = "_law_none"
    · rw [if_pos c] at e
      cases e
      subst c
      obtain ⟨a, fd, ps, k1, k2⟩ := none_ok X G h0 xb hms
      exact ⟨a, fd, ps, k1.mono (by decide), k2⟩
    · rw [if_neg c] at e
      by_cases c2 : g = "read"
      · rw [if_pos c2] at e
        cases e
        subst c2
        obtain ⟨a, fd, ps, k1, k2⟩ := readX_ok X G h0 xb hms
        exact ⟨a, fd, ps, k1.mono (by decide), k2⟩
      · rw [if_neg c2] at e; cases e
/-! texts, plainly -/
theorem tl_cut (z : Str) (lo hi : Option Int) : TL.tl (cutS z lo hi) = (TL.tl z |>.drop (HT.sIx z.length 0 lo)).take (HT.sIx z.length z.length hi - HT.sIx z.length 0 lo) := by
  show (Array.toList _) = _
  unfold cutS
  rfl
theorem cut_ok {z : Str} (h : PyData.strOk z = true) (lo hi : Option Int) : PyData.strOk (cutS z lo hi) = true ∧ (cutS z lo hi).length ≤ z.length := by
  constructor
  · rw [ok_tl] at h ⊢
    intro c hc
    rw [tl_cut] at hc
    exact h c (List.mem_of_mem_drop (List.mem_of_mem_take hc))
  · rw [TL.len_tl, TL.len_tl z, tl_cut, List.length_take, List.length_drop]
    omega
theorem app_okS {x y : Str} (hx : PyData.strOk x = true) (hy : PyData.strOk y = true) : PyData.strOk (x ++ y) = true := by
  unfold PyData.strOk at *
  show (x.cps ++ y.cps).all _ = true
  rw [Array.all_append, hx, hy]; rfl
theorem app_len (x y : Str) : (x ++ y).length = x.length + y.length := by
  show (x.cps ++ y.cps).size = _
  rw [Array.size_append]; rfl
theorem sl_ok {z : Str} (hz : sOk z = true) (lo hi : Option Int) : sliceD (.str z) lo hi = some (.str (cutS z lo hi)) := by
  obtain ⟨h1, h2⟩ := cut_ok (sOk_ok hz) lo hi
  exact if_pos (sOk_of h1 (Nat.le_trans h2 (sOk_len hz)))
theorem ad_ok {x y : Str} (hx : PyData.strOk x = true) (hy : PyData.strOk y = true) (hl : x.length + y.length ≤ 1000000) : addD (.str x) (.str y) = some (.str (x ++ y)) := if_pos (sOk_of (app_okS hx hy) (by rw [app_len]; exact hl))
/-! ### what the law draws -/
theorem cell_spec (n : Nat) (ns : List Int) (k : Nat) : ∃ c : Int, Ph (n + 1) "_law_cell_at" [.scr ns, .int k] = some (.int c) := by
  rw [Ph_succ, e_law_cell_at_eq]
  by_cases h : (k : Int) < ((ns.length : Nat) : Int)
  · rw [if_pos (decide_eq_true h), ixD_scr]
    have : k < ns.length := by omega
    exact ⟨ns[k], by rw [List.getElem?_eq_getElem this]; rfl⟩
  · rw [if_neg (by simpa using h)]
    exact ⟨0, rfl⟩
theorem mixed_spec (n : Nat) (ns : List Int) (k : Nat) (hk : k ≤ 1000) : ∃ m : Int, Ph (n + 2) "_law_mixed" [.scr ns, .int k] = some (.int m) ∧ 0 ≤ m ∧ m < 2147483629 := by
  obtain ⟨c, hc⟩ := cell_spec n ns k
  rw [Ph_succ, e_law_mixed_eq, hc]
  have h1 : mulD (.int 7919) (.int (k : Int)) = some (.int (7919 * k)) := mulD_l _ (by omega) (by omega)
  simp only [h1, Option.bind_some, addD_int]
  rw [mulD_r _ (by omega) (by omega)]
  simp only [Option.bind_some]
  rw [modD_int _ (by omega)]
  simp only [Option.bind_some]
  generalize hx : (c + 7919 * (k : Int) + 1) * 48271 % 2147483647 = x
  have hx0 : 0 ≤ x := by omega
  have hx1 : x < 2147483647 := by omega
  rw [mulD_l x (by omega) (by omega), mulD_l (i := 7) x (by omega) (by omega)]
  simp only [Option.bind_some, addD_int]
  rw [modD_int _ (by omega)]
  exact ⟨_, rfl, by omega, by omega⟩
theorem drawn_spec (n : Nat) (a : Int) (k : Nat) (hk : k ≤ 1000000) : ∃ m : Int, Ph (n + 1) "_law_drawn" [.int a, .int k] = some (.int m) ∧ 0 ≤ m ∧ m < 2147483629 := by
  rw [Ph_succ, e_law_drawn_eq]
  have h1 : mulD (.int 104729) (.int (k : Int)) = some (.int (104729 * k)) := mulD_l _ (by omega) (by omega)
  simp only [h1, Option.bind_some, addD_int]
  rw [mulD_r _ (by omega) (by omega)]
  simp only [Option.bind_some]
  rw [modD_int _ (by omega)]
  simp only [Option.bind_some]
  generalize hx : (a + 104729 * (k : Int) + 17) * 69621 % 2147483647 = x
  have hx0 : 0 ≤ x := by omega
  have hx1 : x < 2147483647 := by omega
  rw [mulD_l x (by omega) (by omega), mulD_l (i := 3) x (by omega) (by omega)]
  simp only [Option.bind_some, addD_int]
  rw [modD_int _ (by omega)]
  exact ⟨_, rfl, by omega, by omega⟩
theorem form_spec (many : Nat) (hm : 0 < many) : ∀ (deep n : Nat) (a : Int), ∃ f : Form, Ph (n + deep + 2) "_law_form" [.int a, .int many, .int deep] = some f.d ∧ f.lt many ∧ f.depth ≤ deep := by
  have leaf : ∀ (a : Int) (deep : Nat), ∃ f : Form, (if (((a / 9) % 17) == 1) = true then ixD (.tup [.str "yes", .str "no"]) (.int ((a / 153) % 2)) else (((modD (.int (a / 153)) (.int many)).bind fun x2 => some [x2]).bind fun l3 => some (.str "is" :: l3)).bind (capL D.tup)) = some f.d ∧ f.lt many ∧ f.depth ≤ deep := fun a deep => by
    by_cases h : (((a / 9) % 17) == 1) = true
    · rw [if_pos h]
      have h2 : a / 153 % 2 = 0 ∨ a / 153 % 2 = 1 := by omega
      rcases h2 with h2 | h2
      · rw [h2]; exact ⟨.yes, rfl, True.intro, Nat.zero_le _⟩
      · rw [h2]; exact ⟨.no, rfl, True.intro, Nat.zero_le _⟩
    · rw [if_neg h, modD_int _ (by omega)]
      refine ⟨.is (a / 153 % many).toNat, ?_, ?_, Nat.zero_le _⟩
      · have h0 : 0 ≤ a / 153 % (many : Int) := Int.emod_nonneg _ (by omega)
        show some (D.tup [.str "is", .int (a / 153 % many)]) = _
        rw [Form.d, Int.toNat_of_nonneg h0]
      · have h0 : 0 ≤ a / 153 % (many : Int) := Int.emod_nonneg _ (by omega)
        have h1 : a / 153 % (many : Int) < many := Int.emod_lt_of_pos _ (by omega)
        show (a / 153 % (many : Int)).toNat < many
        omega
  intro deep
  induction deep with
  | zero =>
    intro n a
    rw [Ph_succ, e_law_form_eq]
    exact leaf a 0
  | succ deep ih =>
    intro n a
    rw [show n + (deep + 1) + 2 = (n + deep + 2) + 1 by omega, Ph_succ, e_law_form_eq]
    have hd : (((deep + 1 : Nat) : Int) == 0) = false := by simp; omega
    have hd1 : (((deep + 1 : Nat) : Int) - 1) = (deep : Int) := by omega
    rw [hd, hd1]
    simp only [if_true, Option.bind_some, asB_bl]
    by_cases h3 : decide (a % 9 < 3) = true
    · rw [if_pos h3]; exact leaf a _
    · rw [if_neg h3]
      obtain ⟨m1, hm1, _, _⟩ := drawn_spec (n + deep + 1) a 1 (by omega)
      obtain ⟨m2, hm2, _, _⟩ := drawn_spec (n + deep + 1) a 2 (by omega)
      have hm1 : Ph (n + deep + 2) "_law_drawn" [.int a, .int 1] = some (.int m1) := hm1
      have hm2 : Ph (n + deep + 2) "_law_drawn" [.int a, .int 2] = some (.int m2) := hm2
      obtain ⟨f, hf, hf1, hf2⟩ := ih n m1
      obtain ⟨g, hg, hg1, hg2⟩ := ih n m2
      rw [hm1, hm2]
      simp only [Option.bind_some, hf, hg]
      by_cases h4 : (a % 9 == 3) = true
      · rw [if_pos h4]; exact ⟨.not f, rfl, hf1, by simp [Form.depth]; omega⟩
      · rw [if_neg h4]
        have h2 : a % 9 % 2 = 0 ∨ a % 9 % 2 = 1 := by omega
        rcases h2 with h2 | h2
        · rw [h2]; exact ⟨.both f g, rfl, ⟨hf1, hg1⟩, by simp [Form.depth]; omega⟩
        · rw [h2]; exact ⟨.either f g, rfl, ⟨hf1, hg1⟩, by simp [Form.depth]; omega⟩
theorem form_spec' {many deep n : Nat} {a : Int} (hm : 0 < many) (h : deep + 2 ≤ n) : ∃ f : Form, Ph n "_law_form" [.int a, .int many, .int deep] = some f.d ∧ f.lt many ∧ f.depth ≤ deep := by
  have := form_spec many hm deep (n - deep - 2) a
  rwa [show n - deep - 2 + deep + 2 = n by omega] at this
/-! numbers, forms, duels among all things -/
def numB (most : Int) : D → Bool
  | .int i => decide (0 ≤ i) && decide (i ≤ most)
  | _ => false
def partsK : List (Str × Int) := [("not", 1), ("both", 2), ("either", 2)]
def formB (many : Int) (below : Option (D → Bool)) : D → Bool
  | .str x => x == "yes" || x == "no"
  | .tup (.str w :: b :: r) => if (w == "is") = true then r.isEmpty && numB (many - 1) b else match below with
    | none => false
    | some p => (getK partsK w == some ((r.length + 1 : Nat) : Int)) && (b :: r).all p
  | _ => false
def isFormF (many : Int) : Nat → D → Bool
  | 0 => formB many none
  | k + 1 => formB many (some (isFormF many k))
def belowF (many : Int) : Nat → Option (D → Bool)
  | 0 => none
  | k + 1 => some (isFormF many k)
theorem isFormF_eq (many : Int) (deep : Nat) (d : D) : isFormF many deep d = formB many (belowF many deep) d := by cases deep <;> rfl
theorem formB_tup (many : Int) (below : Option (D → Bool)) (w : Str) (b : D) (r : List D) : formB many below (.tup (.str w :: b :: r)) = if (w == "is") = true then r.isEmpty && numB (many - 1) b else match below with
    | none => false
    | some p => (getK partsK w == some ((r.length + 1 : Nat) : Int)) && (b :: r).all p := rfl
theorem numb_eq (d : D) (most : Int) : (if (isiB .int d) = true then if (!(isiB .bool d)) = true then ((cmpI (fun i j => decide (i ≤ j)) (.int 0) d).bind asB).bind fun b1 => if b1 = true then cmpI (fun i j => decide (i ≤ j)) d (.int most) else some (D.bl false) else some (D.bl (!(isiB .bool d))) else some (D.bl (isiB .int d))) = some (.bl (numB most d)) := by
  cases d with
  | int i =>
    have h1 : isiB .int (.int i) = true := rfl
    have h2 : isiB .bool (.int i) = false := rfl
    rw [h1, if_pos rfl, h2, Bool.not_false, if_pos rfl]
    show ((some (D.bl (decide (0 ≤ i)))).bind asB).bind _ = _
    rw [obs, asB_bl, obs]
    show _ = some (D.bl (decide (0 ≤ i) && decide (i ≤ most)))
    by_cases c : 0 ≤ i
    · rw [decide_eq_true c, if_pos rfl, Bool.true_and]; rfl
    · rw [decide_eq_false c, if_neg Bool.false_ne_true, Bool.false_and]
  | _ => rfl
theorem number_spec (n : Nat) (d : D) (most : Int) : Ph (n + 1) "is_number" [d, .int most] = some (.bl (numB most d)) := by
  rw [Ph_succ]
  exact (e_is_number_eq _ _ _).trans (numb_eq d most)
theorem in_yesno (x : Str) : inD false (.str x) (.tup [.str "yes", .str "no"]) = some (.bl (x == "yes" || x == "no")) := by
  have e : inD false (.str x) (.tup [.str "yes", .str "no"]) = some (.bl ([D.str "yes", .str "no"].any fun z => deq z (.str x))) := rfl
  rw [e]
  show some (D.bl ((("yes" : Str) == x) || ((("no" : Str) == x) || false))) = _
  rw [Bool.or_false, BEq.comm (a := ("yes" : Str)), BEq.comm (a := ("no" : Str))]
theorem all_bl {α : Type} (p : α → Bool) (l : List α) : one allD [.lst (l.map fun a => D.bl (p a))] = some (.bl (l.all p)) := by
  rw [one_def]
  show (boolsD _).map _ = _
  rw [boolsD_map p, oms, List.all_map]; rfl
theorem cut1 (a : D) (r : List D) : cutD (a :: r) (some 1) none = r := cutFrom (a :: r) 1
theorem form_to_spec (many : Int) : ∀ (deep : Nat) (d : D) (n : Nat), deep + 2 ≤ n → Ph n "is_form_to" [d, .int many, .int deep] = some (.bl (isFormF many deep d)) := by
  intro deep
  have main : ∀ (deep : Nat) (n : Nat), 1 ≤ n → (∀ (k : Nat), deep = k + 1 → ∀ e : D, Ph n "is_form_to" [e, .int many, .int k] = some (.bl (isFormF many k e))) → ∀ d : D, Ph (n + 1) "is_form_to" [d, .int many, .int deep] = some (.bl (isFormF many deep d)) := fun deep n hn1 ih d => by
    obtain ⟨m, rfl⟩ : ∃ m, n = m + 1 := ⟨n - 1, by omega⟩
    rw [Ph_succ (m + 1), isFormF_eq]
    cases d with
    | str x =>
      refine (e_is_form_to_s_eq _ _ _ _).trans ?_
      rw [in_yesno]; rfl
    | tup ts =>
      refine (e_is_form_to_t_eq _ _ _ _).trans ?_
      match ts with
      | [] => rfl
      | [a] => cases a <;> rfl
      | a :: b :: r =>
        have hl : decide ((((a :: b :: r).length : Nat) : Int) < 2) = false := decide_eq_false (by simp; omega)
        have i0 : ixD (.tup (a :: b :: r)) (.int 0) = some a := by rw [ixD_tup0]; rfl
        have i1 : ixD (.tup (a :: b :: r)) (.int 1) = some b := by rw [ixD_tup1]; rfl
        rw [hl, if_pos rfl, i0, oms, oms, obs, asB_bl, oms, obs, asB_bl, obs, truthD_bl]
        cases a with
        | str w =>
          have hs : isiB .str (.str w) = true := rfl
          rw [hs, Bool.not_true, if_neg Bool.false_ne_true, obs, eqD_str, obs, asB_bl, obs, formB_tup]
          by_cases c : (w == "is") = true
          · rw [if_pos c, if_pos c, i1, obs, obs, number_spec]
            have e : (((((D.str w :: b :: r).length : Nat) : Int)) == 2) = r.isEmpty := by
              cases r with
              | nil => rfl
              | cons => simp; omega
            rw [e]
            cases r.isEmpty <;> rfl
          · rw [if_neg c, if_neg c]
            cases deep with
            | zero => rfl
            | succ k =>
              have e0 : ((((k + 1 : Nat) : Int)) == 0) = false := by simp; omega
              have e1 : ((((k + 1 : Nat) : Int)) - 1) = (k : Int) := by omega
              have ih := ih k rfl
              rw [e0, if_pos rfl, obs, obs]
              show ((((some (D.bl (!(getK partsK w).isSome))).bind asB).bind _).bind asB).bind _ = _
              rw [obs, asB_bl, obs]
              cases q : getK partsK w with
              | none =>
                rw [show (!(none : Option Int).isSome) = true from rfl, if_neg (by decide), obs, asB_bl, obs, if_pos rfl]
                rfl
              | some i =>
                have hk : ixK [("not", 1), ("both", 2), ("either", 2)] (.str w) = some (.int i) := by
                  show (getK partsK w).map D.int = _
                  rw [q]; rfl
                rw [show (!(some i).isSome) = false from rfl, if_pos rfl, hk, obs, addD_int, obs, neD_int, obs, asB_bl, obs, cut1, e1]
                have hc : compD (fun d13 => (Ph (m + 1) "is_form_to" [d13, .int many, .int (k : Int)]).map some) (b :: r) = some ((b :: r).map fun e => D.bl (isFormF many k e)) := compD_map fun e _ => by rw [ih e]; rfl
                rw [hc, oms, obs, obs, all_bl]
                have hb : (((((D.str w :: b :: r).length : Nat) : Int)) != 1 + i) = !(some i == some ((r.length + 1 : Nat) : Int)) := by
                  rw [show (some i == some ((r.length + 1 : Nat) : Int)) = (i == ((r.length + 1 : Nat) : Int)) from rfl, Bool.eq_iff_iff]
                  simp
                  omega
                rw [hb]
                cases (some i == some ((r.length + 1 : Nat) : Int)) <;> rfl
        | _ => rfl
    | _ => exact (e_is_form_to_eq _ _ _ _).trans rfl
  induction deep with
  | zero =>
    intro d n hn
    obtain ⟨m, rfl⟩ : ∃ m, n = m + 1 := ⟨n - 1, by omega⟩
    exact main 0 m (by omega) (fun k h => by cases h) d
  | succ k ih =>
    intro d n hn
    obtain ⟨m, rfl⟩ : ∃ m, n = m + 1 := ⟨n - 1, by omega⟩
    exact main (k + 1) m (by omega) (fun j h e => by cases h; exact ih e m (by omega)) d
theorem form_spec0 (many : Nat) (d : D) (n : Nat) (hn : 9 ≤ n) : Ph n "is_form" [d, .int many] = some (.bl (isFormF many 6 d)) := by
  obtain ⟨m, rfl⟩ : ∃ m, n = m + 1 := ⟨n - 1, by omega⟩
  rw [Ph_succ]
  exact (e_is_form_eq _ _ _).trans (form_to_spec many 6 d m (by omega))
def isDuelF : D → Bool
  | .tup [.tup ss, f] => (decide (1 ≤ ss.length) && decide (ss.length ≤ 6)) && (ss.all fun d => numB 1 d) && isFormF (ss.length : Nat) 6 f
  | _ => false
theorem range_test (k : Nat) : (((cmpI (fun i j => decide (i ≤ j)) (.int 1) (.int (k : Int))).bind asB).bind fun b6 => if b6 = true then cmpI (fun i j => decide (i ≤ j)) (.int (k : Int)) (.int 6) else some (D.bl false)) = some (.bl (decide (1 ≤ k) && decide (k ≤ 6))) := by
  show ((some (D.bl (decide ((1 : Int) ≤ (k : Int))))).bind asB).bind _ = _
  rw [obs, asB_bl, obs]
  have e1 : decide ((1 : Int) ≤ (k : Int)) = decide (1 ≤ k) := decide_eq_decide.mpr (by omega)
  have e2 : decide ((k : Int) ≤ (6 : Int)) = decide (k ≤ 6) := decide_eq_decide.mpr (by omega)
  rw [e1]
  cases decide (1 ≤ k) with
  | true =>
    rw [if_pos rfl]
    show some (D.bl (decide ((k : Int) ≤ 6))) = _
    rw [e2]; rfl
  | false => rfl
theorem duel_is_spec (d : D) (n : Nat) (hn : 10 ≤ n) : Ph n "is_duel" [d] = some (.bl (isDuelF d)) := by
  obtain ⟨m, rfl⟩ : ∃ m, n = m + 2 := ⟨n - 2, by omega⟩
  rw [Ph_succ (m + 1)]
  cases d with
  | tup ts =>
    refine (e_is_duel_t_eq _ _).trans ?_
    match ts with
    | [] => rfl
    | [a] => cases a <;> rfl
    | a :: b :: c :: r =>
      have e : (!((((a :: b :: c :: r).length : Nat) : Int) == 2)) = true := by simp; omega
      rw [e]
      cases a <;> rfl
    | [a, b] =>
      have i0 : ixD (.tup [a, b]) (.int 0) = some a := by rw [ixD_tup0]; rfl
      have i1 : ixD (.tup [a, b]) (.int 1) = some b := by rw [ixD_tup1]; rfl
      have e : (!((([a, b].length : Nat) : Int) == 2)) = false := rfl
      rw [e, if_pos rfl, i0, oms, oms, obs, asB_bl, oms, obs, asB_bl, obs, truthD_bl]
      cases a with
      | tup ss =>
        have hs : isiB .tuple (.tup ss) = true := rfl
        have hc : compD (fun d8 => (Ph (m + 1) "is_number" [d8, .int 1]).map some) ss = some (ss.map fun d => D.bl (numB 1 d)) := compD_map fun d _ => by rw [number_spec]; rfl
        rw [hs, Bool.not_true, if_neg Bool.false_ne_true, obs, obs, one_def, lenD_tup, obs, range_test, obs, asB_bl, oms, obs, asB_bl, obs, obs, seqD_tup, obs, hc, oms, obs, obs, all_bl, oms, obs, asB_bl, oms, truthD_bl, i1, obs, obs, obs, obs]
        rw [form_spec0 ss.length b (m + 1) (by omega)]
        show _ = some (D.bl (((decide (1 ≤ ss.length) && decide (ss.length ≤ 6)) && (ss.all fun d => numB 1 d)) && isFormF (ss.length : Nat) 6 b))
        cases (decide (1 ≤ ss.length) && decide (ss.length ≤ 6)) <;> cases (ss.all fun d => numB 1 d) <;> rfl
      | _ => rfl
  | _ => exact (e_is_duel_eq _ _).trans rfl
/-! texts, plainly -/
theorem str_ext {x y : Str} (h : x.cps = y.cps) : x = y := by cases x; cases y; cases h; rfl
theorem str_assoc (x y z : Str) : x ++ y ++ z = x ++ (y ++ z) := str_ext (Array.append_assoc ..)
theorem ok_app {x y : Str} (hx : PyData.strOk x = true) (hy : PyData.strOk y = true) : PyData.strOk (x ++ y) = true := by
  unfold PyData.strOk at *
  show (x.cps ++ y.cps).all _ = true
  rw [Array.all_append, hx, hy]; rfl
theorem join_two (s x y : Str) (ys : List Str) : Str.join s (x :: y :: ys) = x ++ s ++ Str.join s (y :: ys) := rfl
theorem join_app (s : Str) : ∀ (xs ys : List Str), xs ≠ [] → ys ≠ [] → Str.join s (xs ++ ys) = Str.join s xs ++ s ++ Str.join s ys
  | [], _, h, _ => absurd rfl h
  | [x], y :: ys, _, _ => rfl
  | [x], [], _, h => absurd rfl h
  | x :: z :: xs, ys, _, h => by
    have ih := join_app s (z :: xs) ys (by simp) h
    show x ++ s ++ Str.join s ((z :: xs) ++ ys) = x ++ s ++ Str.join s (z :: xs) ++ s ++ Str.join s ys
    rw [ih]
    simp only [str_assoc]
def wsz (ys : List Str) : Nat := (ys.map (·.length)).sum + ys.length
theorem wsz_app (xs ys : List Str) : wsz (xs ++ ys) = wsz xs + wsz ys := by unfold wsz; simp; omega
theorem wsz_cons (x : Str) (ys : List Str) : wsz (x :: ys) = x.length + 1 + wsz ys := by unfold wsz; simp; omega
def sp : Str := " "
theorem join_ok : ∀ ys : List Str, (∀ y ∈ ys, PyData.strOk y = true) → PyData.strOk (Str.join sp ys) = true ∧ (Str.join sp ys).length ≤ wsz ys
  | [], _ => ⟨by decide +kernel, Nat.zero_le _⟩
  | [x], h => ⟨h x List.mem_cons_self, by rw [wsz_cons]; show x.length ≤ _; omega⟩
  | x :: y :: ys, h => by
    obtain ⟨h1, h2⟩ := join_ok (y :: ys) fun z hz => h z (List.mem_cons_of_mem _ hz)
    rw [join_two]
    refine ⟨ok_app (ok_app (h x List.mem_cons_self) (by decide +kernel)) h1, ?_⟩
    rw [str_len_append, str_len_append, wsz_cons, show sp.length = 1 from rfl]
    omega
theorem strs_map (ys : List Str) : strsD (ys.map D.str) = some ys := by
  induction ys with
  | nil => rfl
  | cons y ys ih =>
    show (strsD (ys.map D.str)).map _ = _
    rw [ih]; rfl
theorem joinD_of (ys : List Str) (h : ∀ y ∈ ys, PyData.strOk y = true) (hl : wsz ys ≤ 100000) : joinD (.str " ") (.lst (ys.map D.str)) = some (.str (Str.join sp ys)) := by
  obtain ⟨h1, h2⟩ := join_ok ys h
  show (strsD (ys.map D.str)).bind _ = _
  rw [strs_map, obs]
  refine if_pos ⟨?_, ?_⟩
  · have : wsz ys = (ys.map (·.length)).sum + ys.length := rfl
    show (ys.map (·.length)).sum + ys.length * 1 ≤ 1000000
    rw [Nat.mul_one]
    omega
  · unfold sOk
    rw [Bool.and_eq_true]
    exact ⟨h1, decide_eq_true (show (Str.join sp ys).length ≤ 1000000 by omega)⟩
/-! the words of a form -/
def swd (k : Nat) : Str := (("s" : Str)) ++ Str.ofString (toString (k : Int))
def wordsF : Form → List Str
  | .yes => ["yes"]
  | .no => ["no"]
  | .is k => [swd k]
  | .not f => "not" :: wordsF f
  | .both f g => "both" :: (wordsF f ++ wordsF g)
  | .either f g => "either" :: (wordsF f ++ wordsF g)
theorem words_ne (f : Form) : wordsF f ≠ [] := by cases f <;> simp [wordsF]
theorem swd_ok (k : Nat) (h : k < 10) : strD (.int k) = some (.str (Str.ofString (toString (k : Int)))) ∧ addD (.str "s") (.str (Str.ofString (toString (k : Int)))) = some (.str (swd k)) ∧ PyData.strOk (swd k) = true ∧ (swd k).length ≤ 3 := by
  have : k = 0 ∨ k = 1 ∨ k = 2 ∨ k = 3 ∨ k = 4 ∨ k = 5 ∨ k = 6 ∨ k = 7 ∨ k = 8 ∨ k = 9 := by omega
  rcases this with rfl | rfl | rfl | rfl | rfl | rfl | rfl | rfl | rfl | rfl <;> exact ⟨if_pos (by decide +kernel), if_pos (by decide +kernel), by decide +kernel, by decide +kernel⟩
theorem words_ok : ∀ f : Form, f.lt 10 → ∀ y ∈ wordsF f, PyData.strOk y = true
  | .yes, _, y, h => by
    have : y = "yes" := by simpa [wordsF] using h
    subst this; decide +kernel
  | .no, _, y, h => by
    have : y = "no" := by simpa [wordsF] using h
    subst this; decide +kernel
  | .is k, hk, y, h => by
    have : y = swd k := by simpa [wordsF] using h
    subst this; exact (swd_ok k hk).2.2.1
  | .not f, hf, y, h => by
    rcases List.mem_cons.mp h with e | h
    · subst e; decide +kernel
    · exact words_ok f hf y h
  | .both f g, hf, y, h => by
    rcases List.mem_cons.mp h with e | h
    · subst e; decide +kernel
    · rcases List.mem_append.mp h with h | h
      · exact words_ok f hf.1 y h
      · exact words_ok g hf.2 y h
  | .either f g, hf, y, h => by
    rcases List.mem_cons.mp h with e | h
    · subst e; decide +kernel
    · rcases List.mem_append.mp h with h | h
      · exact words_ok f hf.1 y h
      · exact words_ok g hf.2 y h
theorem pow_max (a b : Nat) : 2 ^ a + 2 ^ b ≤ 2 ^ (max a b + 1) := by
  have h1 : 2 ^ a ≤ 2 ^ max a b := Nat.pow_le_pow_right (by omega) (by omega)
  have h2 : 2 ^ b ≤ 2 ^ max a b := Nat.pow_le_pow_right (by omega) (by omega)
  rw [Nat.pow_succ]; omega
theorem words_sz : ∀ f : Form, f.lt 10 → wsz (wordsF f) + 7 ≤ 14 * 2 ^ f.depth
  | .yes, _ => by decide +kernel
  | .no, _ => by decide +kernel
  | .is k, hk => by
    have := (swd_ok k hk).2.2.2
    show wsz [swd k] + 7 ≤ 14
    rw [wsz_cons]
    show (swd k).length + 1 + 0 + 7 ≤ 14
    omega
  | .not f, hf => by
    have h := words_sz f hf
    have : (2 : Nat) ^ (f.depth + 1) = 2 ^ f.depth * 2 := Nat.pow_succ ..
    show wsz ("not" :: wordsF f) + 7 ≤ 14 * 2 ^ (f.depth + 1)
    rw [wsz_cons, show (("not" : Str)).length = 3 from rfl]
    omega
  | .both f g, hf => by
    have h1 := words_sz f hf.1
    have h2 := words_sz g hf.2
    have := pow_max f.depth g.depth
    show wsz ("both" :: (wordsF f ++ wordsF g)) + 7 ≤ 14 * 2 ^ (max f.depth g.depth + 1)
    rw [wsz_cons, wsz_app, show (("both" : Str)).length = 4 from rfl]
    omega
  | .either f g, hf => by
    have h1 := words_sz f hf.1
    have h2 := words_sz g hf.2
    have := pow_max f.depth g.depth
    show wsz ("either" :: (wordsF f ++ wordsF g)) + 7 ≤ 14 * 2 ^ (max f.depth g.depth + 1)
    rw [wsz_cons, wsz_app, show (("either" : Str)).length = 6 from rfl]
    omega
theorem words_small (f : Form) (hf : f.lt 10) (hd : f.depth ≤ 10) : wsz (wordsF f) ≤ 15000 := by
  have h := words_sz f hf
  have : 2 ^ f.depth ≤ 2 ^ 10 := Nat.pow_le_pow_right (by omega) hd
  omega
theorem words_len (f : Form) (hf : f.lt 10) (hd : f.depth ≤ 10) : (wordsF f).length ≤ 15000 := by
  have := words_small f hf hd
  unfold wsz at this
  omega
theorem words_spec : ∀ (f : Form) (n : Nat), f.lt 10 → f.depth ≤ 10 → f.depth < n → Ph n "words_of" [f.d] = some (.lst ((wordsF f).map D.str))
  | f, 0, _, _, h => by omega
  | .yes, n + 1, _, _, _ => by rw [Ph_succ]; exact e_words_of_yes_eq _
  | .no, n + 1, _, _, _ => by rw [Ph_succ]; exact e_words_of_no_eq _
  | .is k, n + 1, hk, _, _ => by
    rw [Ph_succ]
    refine (e_words_of_is_eq _ _).trans ?_
    obtain ⟨h1, h2, _, _⟩ := swd_ok k hk
    rw [h1, obs, h2, obs, obs, capL1]; rfl
  | .not f, n + 1, hf, hd, hn => by
    rw [Ph_succ]
    refine (e_words_of_not_eq _ _).trans ?_
    have hd' : f.depth + 1 ≤ 10 := hd
    have hn' : f.depth + 1 < n + 1 := hn
    have h := words_spec f n hf (by omega) (by omega)
    have hl := words_len f hf (by omega)
    rw [h, obs, extD_of (by simp; omega), obs]; rfl
  | .both f g, n + 1, hf, hd, hn => by
    rw [Ph_succ]
    refine (e_words_of_both_eq _ _ _).trans ?_
    have hd' : max f.depth g.depth + 1 ≤ 10 := hd
    have hn' : max f.depth g.depth + 1 < n + 1 := hn
    have h1 := words_spec f n hf.1 (by omega) (by omega)
    have h2 := words_spec g n hf.2 (by omega) (by omega)
    have l1 := words_len f hf.1 (by omega)
    have l2 := words_len g hf.2 (by omega)
    rw [h1, obs, extD_of (by simp; omega), obs, h2, obs, extD_of (by simp; omega), obs]
    simp [wordsF]
  | .either f g, n + 1, hf, hd, hn => by
    rw [Ph_succ]
    refine (e_words_of_either_eq _ _ _).trans ?_
    have hd' : max f.depth g.depth + 1 ≤ 10 := hd
    have hn' : max f.depth g.depth + 1 < n + 1 := hn
    have h1 := words_spec f n hf.1 (by omega) (by omega)
    have h2 := words_spec g n hf.2 (by omega) (by omega)
    have l1 := words_len f hf.1 (by omega)
    have l2 := words_len g hf.2 (by omega)
    rw [h1, obs, extD_of (by simp; omega), obs, h2, obs, extD_of (by simp; omega), obs]
    simp [wordsF]
/-! the text of a duel -/
def sideS (b : Bool) : Str := if b then "1" else "0"
theorem str_sd (b : Bool) : strD (sd b) = some (.str (sideS b)) := by cases b <;> exact if_pos (by decide +kernel)
theorem side_ok (b : Bool) : PyData.strOk (sideS b) = true ∧ (sideS b).length = 1 := by cases b <;> exact ⟨by decide +kernel, rfl⟩
theorem sides_comp (s : List Bool) : compD (fun d1 => (strD d1).map some) (s.map sd) = some ((s.map sideS).map D.str) := by
  rw [List.map_map]
  exact compD_mapA fun b _ => by rw [str_sd]; rfl
theorem sides_sz (s : List Bool) : wsz (s.map sideS) = 2 * s.length := by
  induction s with
  | nil => rfl
  | cons b s ih => rw [List.map_cons, wsz_cons, ih, (side_ok b).2, List.length_cons]; omega
theorem sides_ok (s : List Bool) : ∀ y ∈ s.map sideS, PyData.strOk y = true := fun y hy => by
  obtain ⟨b, _, rfl⟩ := List.mem_map.mp hy
  exact (side_ok b).1
def textF (s : List Bool) (f : Form) : Str := Str.join sp (s.map sideS ++ [(":" : Str)] ++ wordsF f)
theorem colon_ok : PyData.strOk (":" : Str) = true := by decide +kernel
theorem written_spec (s : List Bool) (f : Form) (n : Nat) (hs : s.length ≤ 100) (hf : f.lt 10) (hd : f.depth ≤ 10) (hn : f.depth + 1 < n) : Ph n "written" [duelD s f] = some (.str (textF s f)) := by
  obtain ⟨m, rfl⟩ : ∃ m, n = m + 1 := ⟨n - 1, by omega⟩
  rw [Ph_succ]
  refine (e_written_eq _ _ _).trans ?_
  have hw := words_spec f m hf hd (by omega)
  have hl := words_len f hf hd
  have e : (s.map sideS).map D.str ++ [.str ":"] ++ (wordsF f).map D.str = (s.map sideS ++ [(":" : Str)] ++ wordsF f).map D.str := by simp
  rw [sides_comp, oms, obs, addD_lst (by simp; omega), obs, hw, obs, addD_lst (by simp; omega), obs, e]
  refine joinD_of _ (fun y hy => ?_) ?_
  · rcases List.mem_append.mp hy with hy | hy
    · rcases List.mem_append.mp hy with hy | hy
      · exact sides_ok s y hy
      · have : y = ":" := by simpa using hy
        subst this; exact colon_ok
    · exact words_ok f hf y hy
  · have := words_small f hf hd
    rw [wsz_app, wsz_app, sides_sz]
    show _ + 2 + _ ≤ _
    omega
/-! the same, over P0 -/
theorem number_specZ (n : Nat) (d : D) (most : Int) : P0 (n + 1) "is_number" [d, .int most] = some (.bl (numB most d)) := by
  rw [P0_succ]
  exact (z_is_number_eq _ _ _).trans (numb_eq d most)
theorem form_to_specZ (many : Int) : ∀ (deep : Nat) (d : D) (n : Nat), deep + 2 ≤ n → P0 n "is_form_to" [d, .int many, .int deep] = some (.bl (isFormF many deep d)) := by
  intro deep
  have main : ∀ (deep : Nat) (n : Nat), 1 ≤ n → (∀ (k : Nat), deep = k + 1 → ∀ e : D, P0 n "is_form_to" [e, .int many, .int k] = some (.bl (isFormF many k e))) → ∀ d : D, P0 (n + 1) "is_form_to" [d, .int many, .int deep] = some (.bl (isFormF many deep d)) := fun deep n hn1 ih d => by
    obtain ⟨m, rfl⟩ : ∃ m, n = m + 1 := ⟨n - 1, by omega⟩
    rw [P0_succ (m + 1), isFormF_eq]
    cases d with
    | str x =>
      refine (z_is_form_to_s_eq _ _ _ _).trans ?_
      rw [in_yesno]; rfl
    | tup ts =>
      refine (z_is_form_to_t_eq _ _ _ _).trans ?_
      match ts with
      | [] => rfl
      | [a] => cases a <;> rfl
      | a :: b :: r =>
        have hl : decide ((((a :: b :: r).length : Nat) : Int) < 2) = false := decide_eq_false (by simp; omega)
        have i0 : ixD (.tup (a :: b :: r)) (.int 0) = some a := by rw [ixD_tup0]; rfl
        have i1 : ixD (.tup (a :: b :: r)) (.int 1) = some b := by rw [ixD_tup1]; rfl
        rw [hl, if_pos rfl, i0, oms, oms, obs, asB_bl, oms, obs, asB_bl, obs, truthD_bl]
        cases a with
        | str w =>
          have hs : isiB .str (.str w) = true := rfl
          rw [hs, Bool.not_true, if_neg Bool.false_ne_true, obs, eqD_str, obs, asB_bl, obs, formB_tup]
          by_cases c : (w == "is") = true
          · rw [if_pos c, if_pos c, i1, obs, obs, number_specZ]
            have e : (((((D.str w :: b :: r).length : Nat) : Int)) == 2) = r.isEmpty := by
              cases r with
              | nil => rfl
              | cons => simp; omega
            rw [e]
            cases r.isEmpty <;> rfl
          · rw [if_neg c, if_neg c]
            cases deep with
            | zero => rfl
            | succ k =>
              have e0 : ((((k + 1 : Nat) : Int)) == 0) = false := by simp; omega
              have e1 : ((((k + 1 : Nat) : Int)) - 1) = (k : Int) := by omega
              have ih := ih k rfl
              rw [e0, if_pos rfl, obs, obs]
              show ((((some (D.bl (!(getK partsK w).isSome))).bind asB).bind _).bind asB).bind _ = _
              rw [obs, asB_bl, obs]
              cases q : getK partsK w with
              | none =>
                rw [show (!(none : Option Int).isSome) = true from rfl, if_neg (by decide), obs, asB_bl, obs, if_pos rfl]
                rfl
              | some i =>
                have hk : ixK [("not", 1), ("both", 2), ("either", 2)] (.str w) = some (.int i) := by
                  show (getK partsK w).map D.int = _
                  rw [q]; rfl
                rw [show (!(some i).isSome) = false from rfl, if_pos rfl, hk, obs, addD_int, obs, neD_int, obs, asB_bl, obs, cut1, e1]
                have hc : compD (fun d13 => (P0 (m + 1) "is_form_to" [d13, .int many, .int (k : Int)]).map some) (b :: r) = some ((b :: r).map fun e => D.bl (isFormF many k e)) := compD_map fun e _ => by rw [ih e]; rfl
                rw [hc, oms, obs, obs, all_bl]
                have hb : (((((D.str w :: b :: r).length : Nat) : Int)) != 1 + i) = !(some i == some ((r.length + 1 : Nat) : Int)) := by
                  rw [show (some i == some ((r.length + 1 : Nat) : Int)) = (i == ((r.length + 1 : Nat) : Int)) from rfl, Bool.eq_iff_iff]
                  simp
                  omega
                rw [hb]
                cases (some i == some ((r.length + 1 : Nat) : Int)) <;> rfl
        | _ => rfl
    | _ => exact (z_is_form_to_eq _ _ _ _).trans rfl
  induction deep with
  | zero =>
    intro d n hn
    obtain ⟨m, rfl⟩ : ∃ m, n = m + 1 := ⟨n - 1, by omega⟩
    exact main 0 m (by omega) (fun k h => by cases h) d
  | succ k ih =>
    intro d n hn
    obtain ⟨m, rfl⟩ : ∃ m, n = m + 1 := ⟨n - 1, by omega⟩
    exact main (k + 1) m (by omega) (fun j h e => by cases h; exact ih e m (by omega)) d
theorem form_spec0Z (many : Nat) (d : D) (n : Nat) (hn : 9 ≤ n) : P0 n "is_form" [d, .int many] = some (.bl (isFormF many 6 d)) := by
  obtain ⟨m, rfl⟩ : ∃ m, n = m + 1 := ⟨n - 1, by omega⟩
  rw [P0_succ]
  exact (z_is_form_eq _ _ _).trans (form_to_specZ many 6 d m (by omega))
theorem duel_is_specZ (d : D) (n : Nat) (hn : 10 ≤ n) : P0 n "is_duel" [d] = some (.bl (isDuelF d)) := by
  obtain ⟨m, rfl⟩ : ∃ m, n = m + 2 := ⟨n - 2, by omega⟩
  rw [P0_succ (m + 1)]
  cases d with
  | tup ts =>
    refine (z_is_duel_t_eq _ _).trans ?_
    match ts with
    | [] => rfl
    | [a] => cases a <;> rfl
    | a :: b :: c :: r =>
      have e : (!((((a :: b :: c :: r).length : Nat) : Int) == 2)) = true := by simp; omega
      rw [e]
      cases a <;> rfl
    | [a, b] =>
      have i0 : ixD (.tup [a, b]) (.int 0) = some a := by rw [ixD_tup0]; rfl
      have i1 : ixD (.tup [a, b]) (.int 1) = some b := by rw [ixD_tup1]; rfl
      have e : (!((([a, b].length : Nat) : Int) == 2)) = false := rfl
      rw [e, if_pos rfl, i0, oms, oms, obs, asB_bl, oms, obs, asB_bl, obs, truthD_bl]
      cases a with
      | tup ss =>
        have hs : isiB .tuple (.tup ss) = true := rfl
        have hc : compD (fun d8 => (P0 (m + 1) "is_number" [d8, .int 1]).map some) ss = some (ss.map fun d => D.bl (numB 1 d)) := compD_map fun d _ => by rw [number_specZ]; rfl
        rw [hs, Bool.not_true, if_neg Bool.false_ne_true, obs, obs, one_def, lenD_tup, obs, range_test, obs, asB_bl, oms, obs, asB_bl, obs, obs, seqD_tup, obs, hc, oms, obs, obs, all_bl, oms, obs, asB_bl, oms, truthD_bl, i1, obs, obs, obs, obs]
        rw [form_spec0Z ss.length b (m + 1) (by omega)]
        show _ = some (D.bl (((decide (1 ≤ ss.length) && decide (ss.length ≤ 6)) && (ss.all fun d => numB 1 d)) && isFormF (ss.length : Nat) 6 b))
        cases (decide (1 ≤ ss.length) && decide (ss.length ≤ 6)) <;> cases (ss.all fun d => numB 1 d) <;> rfl
      | _ => rfl
  | _ => exact (z_is_duel_eq _ _).trans rfl
theorem words_specZ : ∀ (f : Form) (n : Nat), f.lt 10 → f.depth ≤ 10 → f.depth < n → P0 n "words_of" [f.d] = some (.lst ((wordsF f).map D.str))
  | f, 0, _, _, h => by omega
  | .yes, n + 1, _, _, _ => by rw [P0_succ]; exact z_words_of_yes_eq _
  | .no, n + 1, _, _, _ => by rw [P0_succ]; exact z_words_of_no_eq _
  | .is k, n + 1, hk, _, _ => by
    rw [P0_succ]
    refine (z_words_of_is_eq _ _).trans ?_
    obtain ⟨h1, h2, _, _⟩ := swd_ok k hk
    rw [h1, obs, h2, obs, obs, capL1]; rfl
  | .not f, n + 1, hf, hd, hn => by
    rw [P0_succ]
    refine (z_words_of_not_eq _ _).trans ?_
    have hd' : f.depth + 1 ≤ 10 := hd
    have hn' : f.depth + 1 < n + 1 := hn
    have h := words_specZ f n hf (by omega) (by omega)
    have hl := words_len f hf (by omega)
    rw [h, obs, extD_of (by simp; omega), obs]; rfl
  | .both f g, n + 1, hf, hd, hn => by
    rw [P0_succ]
    refine (z_words_of_both_eq _ _ _).trans ?_
    have hd' : max f.depth g.depth + 1 ≤ 10 := hd
    have hn' : max f.depth g.depth + 1 < n + 1 := hn
    have h1 := words_specZ f n hf.1 (by omega) (by omega)
    have h2 := words_specZ g n hf.2 (by omega) (by omega)
    have l1 := words_len f hf.1 (by omega)
    have l2 := words_len g hf.2 (by omega)
    rw [h1, obs, extD_of (by simp; omega), obs, h2, obs, extD_of (by simp; omega), obs]
    simp [wordsF]
  | .either f g, n + 1, hf, hd, hn => by
    rw [P0_succ]
    refine (z_words_of_either_eq _ _ _).trans ?_
    have hd' : max f.depth g.depth + 1 ≤ 10 := hd
    have hn' : max f.depth g.depth + 1 < n + 1 := hn
    have h1 := words_specZ f n hf.1 (by omega) (by omega)
    have h2 := words_specZ g n hf.2 (by omega) (by omega)
    have l1 := words_len f hf.1 (by omega)
    have l2 := words_len g hf.2 (by omega)
    rw [h1, obs, extD_of (by simp; omega), obs, h2, obs, extD_of (by simp; omega), obs]
    simp [wordsF]
theorem written_specZ (s : List Bool) (f : Form) (n : Nat) (hs : s.length ≤ 100) (hf : f.lt 10) (hd : f.depth ≤ 10) (hn : f.depth + 1 < n) : P0 n "written" [duelD s f] = some (.str (textF s f)) := by
  obtain ⟨m, rfl⟩ : ∃ m, n = m + 1 := ⟨n - 1, by omega⟩
  rw [P0_succ]
  refine (z_written_eq _ _ _).trans ?_
  have hw := words_specZ f m hf hd (by omega)
  have hl := words_len f hf hd
  have e : (s.map sideS).map D.str ++ [.str ":"] ++ (wordsF f).map D.str = (s.map sideS ++ [(":" : Str)] ++ wordsF f).map D.str := by simp
  rw [sides_comp, oms, obs, addD_lst (by simp; omega), obs, hw, obs, addD_lst (by simp; omega), obs, e]
  refine joinD_of _ (fun y hy => ?_) ?_
  · rcases List.mem_append.mp hy with hy | hy
    · rcases List.mem_append.mp hy with hy | hy
      · exact sides_ok s y hy
      · have : y = ":" := by simpa using hy
        subst this; exact colon_ok
    · exact words_ok f hf y hy
  · have := words_small f hf hd
    rw [wsz_app, wsz_app, sides_sz]
    show _ + 2 + _ ≤ _
    omega
/-! what is read of a form's words -/
theorem drop_get {α : Type} {ws : List α} {i : Nat} {x : α} {r : List α} (h : ws.drop i = x :: r) : ws[i]? = some x ∧ ws.drop (i + 1) = r := by
  constructor
  · have : (ws.drop i)[0]? = some x := by rw [h]; rfl
    rwa [List.getElem?_drop, Nat.add_zero] at this
  · rw [← List.drop_drop (i := 1) (j := i), h]; rfl
theorem drop_app {α : Type} {ws xs r : List α} {i : Nat} (h : ws.drop i = xs ++ r) : ws.drop (i + xs.length) = r := by
  rw [← List.drop_drop (i := xs.length) (j := i), h, List.drop_left]
theorem swd_facts (k : Nat) (h : k < 10) : swd k ≠ "yes" ∧ swd k ≠ "no" ∧ getK kvsP (swd k) = none ∧ isW (swd k) = some (.tup [.str "is", .int k]) ∧ 32 ∉ TL.tl (swd k) := by
  have : k = 0 ∨ k = 1 ∨ k = 2 ∨ k = 3 ∨ k = 4 ∨ k = 5 ∨ k = 6 ∨ k = 7 ∨ k = 8 ∨ k = 9 := by omega
  rcases this with rfl | rfl | rfl | rfl | rfl | rfl | rfl | rfl | rfl | rfl <;> exact ⟨by decide +kernel, by decide +kernel, by decide +kernel, by kernel_rfl, by decide +kernel⟩
theorem rd_words (ws : List Str) : ∀ (f : Form) (n i : Nat) (r : List Str), f.lt 10 → f.depth ≤ n → ws.drop i = wordsF f ++ r → rdF ws (n + 1) i = some (f.d, i + (wordsF f).length)
  | .yes, n, i, r, _, _, h => by
    obtain ⟨h1, _⟩ := drop_get (show ws.drop i = ("yes" : Str) :: r from h)
    rw [rdF_at h1, if_pos (.inl rfl)]; rfl
  | .no, n, i, r, _, _, h => by
    obtain ⟨h1, _⟩ := drop_get (show ws.drop i = ("no" : Str) :: r from h)
    rw [rdF_at h1, if_pos (.inr rfl)]; rfl
  | .is k, n, i, r, hk, _, h => by
    obtain ⟨h1, _⟩ := drop_get (show ws.drop i = swd k :: r from h)
    obtain ⟨c1, c2, c3, c4, _⟩ := swd_facts k hk
    rw [rdF_at h1, if_neg (fun z => z.elim c1 c2), c3]
    show (isW (swd k)).bind _ = _
    rw [c4]; rfl
  | .not f, n, i, r, hf, hd, h => by
    obtain ⟨h1, h2⟩ := drop_get (show ws.drop i = ("not" : Str) :: (wordsF f ++ r) from h)
    obtain ⟨m, rfl⟩ : ∃ m, n = m + 1 := ⟨n - 1, by have : f.depth + 1 ≤ n := hd; omega⟩
    have ih := rd_words ws f m (i + 1) r hf (by have : f.depth + 1 ≤ m + 1 := hd; omega) h2
    rw [rdF_at h1, if_neg (by decide +kernel), show getK kvsP "not" = some 1 by decide +kernel]
    show (rdN (rdF ws (m + 1)) 1 (i + 1)).bind _ = _
    show (((rdF ws (m + 1) (i + 1)).bind _).bind _) = _
    rw [ih]
    show some (D.tup [.str "not", f.d], i + 1 + (wordsF f).length) = some (D.tup [.str "not", f.d], i + ((wordsF f).length + 1))
    congr 2; omega
  | .both f g, n, i, r, hf, hd, h => by
    obtain ⟨h1, h2⟩ := drop_get (show ws.drop i = ("both" : Str) :: (wordsF f ++ wordsF g ++ r) from h)
    rw [List.append_assoc] at h2
    have hd : max f.depth g.depth + 1 ≤ n := hd
    obtain ⟨m, rfl⟩ : ∃ m, n = m + 1 := ⟨n - 1, by omega⟩
    have ih1 := rd_words ws f m (i + 1) _ hf.1 (by omega) h2
    have ih2 := rd_words ws g m (i + 1 + (wordsF f).length) r hf.2 (by omega) (drop_app h2)
    rw [rdF_at h1, if_neg (by decide +kernel), show getK kvsP "both" = some 2 by decide +kernel]
    show (((rdF ws (m + 1) (i + 1)).bind fun q => ((rdF ws (m + 1) q.2).bind _).bind _).bind _) = _
    rw [ih1]
    show ((((rdF ws (m + 1) (i + 1 + (wordsF f).length)).bind _).bind _).bind _) = _
    rw [ih2]
    show some (D.tup [.str "both", f.d, g.d], i + 1 + (wordsF f).length + (wordsF g).length) = some (D.tup [.str "both", f.d, g.d], i + ((wordsF f ++ wordsF g).length + 1))
    rw [List.length_append]
    congr 2; omega
  | .either f g, n, i, r, hf, hd, h => by
    obtain ⟨h1, h2⟩ := drop_get (show ws.drop i = ("either" : Str) :: (wordsF f ++ wordsF g ++ r) from h)
    rw [List.append_assoc] at h2
    have hd : max f.depth g.depth + 1 ≤ n := hd
    obtain ⟨m, rfl⟩ : ∃ m, n = m + 1 := ⟨n - 1, by omega⟩
    have ih1 := rd_words ws f m (i + 1) _ hf.1 (by omega) h2
    have ih2 := rd_words ws g m (i + 1 + (wordsF f).length) r hf.2 (by omega) (drop_app h2)
    rw [rdF_at h1, if_neg (by decide +kernel), show getK kvsP "either" = some 2 by decide +kernel]
    show (((rdF ws (m + 1) (i + 1)).bind fun q => ((rdF ws (m + 1) q.2).bind _).bind _).bind _) = _
    rw [ih1]
    show ((((rdF ws (m + 1) (i + 1 + (wordsF f).length)).bind _).bind _).bind _) = _
    rw [ih2]
    show some (D.tup [.str "either", f.d, g.d], i + 1 + (wordsF f).length + (wordsF g).length) = some (D.tup [.str "either", f.d, g.d], i + ((wordsF f ++ wordsF g).length + 1))
    rw [List.length_append]
    congr 2; omega
/-! .. and what is read is a form -/
theorem isW_form {w : Str} {d : D} (h : isW w = some d) : ∃ f : Form, d = f.d ∧ f.lt 10 ∧ f.depth = 0 := by
  unfold isW at h
  split at h
  · rename_i a c e
    split at h
    · rename_i q
      cases h
      refine ⟨.is (c - 48), ?_, (by show c - 48 < 10; omega), rfl⟩
      show D.tup [.str "is", .int ((c : Int) - 48)] = D.tup [.str "is", .int ((c - 48 : Nat) : Int)]
      rw [show ((c - 48 : Nat) : Int) = (c : Int) - 48 by omega]
    · cases h
  · cases h
theorem kv_word {w : Str} {m : Int} (h : getK kvsP w = some m) : (w = "not" ∧ m = 1) ∨ (w = "both" ∧ m = 2) ∨ (w = "either" ∧ m = 2) := by
  unfold kvsP at h
  simp only [getK] at h
  split at h
  · rename_i e; cases h; exact .inl ⟨e.symm, rfl⟩
  · split at h
    · rename_i e; cases h; exact .inr (.inl ⟨e.symm, rfl⟩)
    · split at h
      · rename_i e; cases h; exact .inr (.inr ⟨e.symm, rfl⟩)
      · cases h
theorem rd_form (ws : List Str) : ∀ (n i : Nat) (q : D × Nat), rdF ws n i = some q → ∃ f : Form, q.1 = f.d ∧ f.lt 10 ∧ f.depth < n
  | 0, i, q, h => by cases h
  | n + 1, i, q, h => by
    have ih := rd_form ws n
    cases hw : ws[i]? with
    | none =>
      have : rdF ws (n + 1) i = none := by
        show (match ws[i]? with | none => none | some w => _) = _
        rw [hw]
      rw [this] at h; cases h
    | some w =>
      rw [rdF_at hw] at h
      split at h
      · rename_i c
        cases h
        rcases c with c | c
        · exact ⟨.yes, by rw [c]; rfl, trivial, Nat.succ_pos _⟩
        · exact ⟨.no, by rw [c]; rfl, trivial, Nat.succ_pos _⟩
      · split at h
        · rename_i m hm
          obtain ⟨p, hp, h⟩ := bind_inv h
          cases h
          rcases kv_word hm with ⟨rfl, rfl⟩ | ⟨rfl, rfl⟩ | ⟨rfl, rfl⟩
          · obtain ⟨a, ha, hp⟩ := bind_inv (show (rdF ws n (i + 1)).bind _ = some p from hp)
            cases hp
            obtain ⟨f, e1, e2, e3⟩ := ih _ _ ha
            exact ⟨.not f, by show D.tup [.str "not", a.1] = _; rw [e1]; rfl, e2, Nat.succ_lt_succ e3⟩
          · obtain ⟨a, ha, hp⟩ := bind_inv (show (rdF ws n (i + 1)).bind _ = some p from hp)
            obtain ⟨b', hb0, hp⟩ := bind_inv hp
            cases hp
            obtain ⟨b, hb, hb'⟩ := bind_inv (show (rdF ws n a.2).bind _ = some b' from hb0)
            cases hb'
            obtain ⟨f, e1, e2, e3⟩ := ih _ _ ha
            obtain ⟨g, e4, e5, e6⟩ := ih _ _ hb
            exact ⟨.both f g, by show D.tup [.str "both", a.1, b.1] = _; rw [e1, e4]; rfl, ⟨e2, e5⟩, by show max f.depth g.depth + 1 < n + 1; omega⟩
          · obtain ⟨a, ha, hp⟩ := bind_inv (show (rdF ws n (i + 1)).bind _ = some p from hp)
            obtain ⟨b', hb0, hp⟩ := bind_inv hp
            cases hp
            obtain ⟨b, hb, hb'⟩ := bind_inv (show (rdF ws n a.2).bind _ = some b' from hb0)
            cases hb'
            obtain ⟨f, e1, e2, e3⟩ := ih _ _ ha
            obtain ⟨g, e4, e5, e6⟩ := ih _ _ hb
            exact ⟨.either f g, by show D.tup [.str "either", a.1, b.1] = _; rw [e1, e4]; rfl, ⟨e2, e5⟩, by show max f.depth g.depth + 1 < n + 1; omega⟩
        · obtain ⟨d, hd, h⟩ := bind_inv h
          cases h
          obtain ⟨f, e1, e2, e3⟩ := isW_form hd
          exact ⟨f, e1, e2, by omega⟩
theorem rd_nots (ws : List Str) : ∀ (n i : Nat) (r : List Str), ws.drop i = List.replicate n ("not" : Str) ++ r → rdF ws n i = none
  | 0, _, _, _ => rfl
  | n + 1, i, r, h => by
    obtain ⟨h1, h2⟩ := drop_get (show ws.drop i = ("not" : Str) :: (List.replicate n ("not" : Str) ++ r) from h)
    have ih := rd_nots ws n (i + 1) r h2
    rw [rdF_at h1, if_neg (by decide +kernel), show getK kvsP "not" = some 1 by decide +kernel]
    show (((rdF ws n (i + 1)).bind _).bind _) = _
    rw [ih]; rfl
/-! the text of a duel, read -/
theorem word_blank : ∀ (f : Form), f.lt 10 → ∀ y ∈ wordsF f, 32 ∉ TL.tl y
  | .yes, _, y, h => by
    have : y = "yes" := by simpa [wordsF] using h
    subst this; decide +kernel
  | .no, _, y, h => by
    have : y = "no" := by simpa [wordsF] using h
    subst this; decide +kernel
  | .is k, hk, y, h => by
    have : y = swd k := by simpa [wordsF] using h
    subst this; exact (swd_facts k hk).2.2.2.2
  | .not f, hf, y, h => by
    rcases List.mem_cons.mp h with e | h
    · subst e; decide +kernel
    · exact word_blank f hf y h
  | .both f g, hf, y, h => by
    rcases List.mem_cons.mp h with e | h
    · subst e; decide +kernel
    · rcases List.mem_append.mp h with h | h
      · exact word_blank f hf.1 y h
      · exact word_blank g hf.2 y h
  | .either f g, hf, y, h => by
    rcases List.mem_cons.mp h with e | h
    · subst e; decide +kernel
    · rcases List.mem_append.mp h with h | h
      · exact word_blank f hf.1 y h
      · exact word_blank g hf.2 y h
theorem pcs_join (ys : List Str) (hn : ys ≠ []) (h : ∀ y ∈ ys, 32 ∉ TL.tl y) : pcs (Str.join sp ys) = ys := by
  have := TL.split_join (y := " ") (s := 32) (S := []) (by decide +kernel) (by decide +kernel) hn h
  rwa [TL.join_eq] at this
theorem side_facts (b : Bool) : sideW (sideS b) = true ∧ digD (sideS b) = sd b ∧ sideS b ≠ ":" ∧ 32 ∉ TL.tl (sideS b) := by
  cases b <;> exact ⟨by decide +kernel, by kernel_rfl, by decide +kernel, by decide +kernel⟩
theorem idx_at (x : Str) : ∀ (ys r : List Str) (n : Nat), (∀ y ∈ ys, y ≠ x) → idxS x (ys ++ x :: r) n = some (n + ys.length)
  | [], r, n, _ => by
    show (if x = x then some n else _) = _
    rw [if_pos rfl]; rfl
  | y :: ys, r, n, h => by
    show (if y = x then some n else idxS x (ys ++ x :: r) (n + 1)) = _
    rw [if_neg (h y List.mem_cons_self), idx_at x ys r (n + 1) fun z hz => h z (List.mem_cons_of_mem _ hz), List.length_cons]
    congr 1; omega
/-- a text's words: sides, the colon, more -/
theorem readP_of {z : Str} {s : List Bool} {r : List Str} (hz : pcs z = s.map sideS ++ (":" : Str) :: r) (hs : s.length ≤ 6) : readP z = (rdF r 7 0).bind fun q => some (.tup [.tup (s.map sd), q.1]) := by
  have hl : (s.map sideS).length = s.length := List.length_map ..
  have h1 : ((pcs z).take 7).contains ":" = true := by
    rw [hz, List.contains_iff_mem, List.take_append, hl]
    refine List.mem_append_right _ ?_
    obtain ⟨k, hk⟩ : ∃ k, 7 - s.length = k + 1 := ⟨6 - s.length, by omega⟩
    rw [hk]
    exact List.mem_cons_self
  have h2 : idxS ":" (pcs z) 0 = some s.length := by
    rw [hz, idx_at ":" _ r 0 fun y hy => ?_, hl, Nat.zero_add]
    obtain ⟨b, _, rfl⟩ := List.mem_map.mp hy
    exact (side_facts b).2.2.1
  have h3 : (pcs z).take s.length = s.map sideS := by rw [hz, ← hl, List.take_left]
  have h4 : (pcs z).drop (s.length + 1) = r := by
    rw [hz, ← hl, ← List.drop_drop (i := 1), List.drop_left]; rfl
  have h5 : ((s.map sideS).all sideW) = true := by
    rw [List.all_eq_true]
    intro y hy
    obtain ⟨b, _, rfl⟩ := List.mem_map.mp hy
    exact (side_facts b).1
  unfold readP
  have h1' : ((Txt.split z " ").take 7).contains ":" = true := h1
  rw [if_pos h1']
  show (idxS ":" (pcs z) 0).bind _ = _
  rw [h2]
  show (if ((pcs z).take s.length).all sideW = true then (rdF ((pcs z).drop (s.length + 1)) 7 0).bind fun q => some (D.tup [.tup (((pcs z).take s.length).map digD), q.1]) else none) = _
  rw [h3, if_pos h5, h4, List.map_map, show (digD ∘ sideS) = sd from funext fun b => (side_facts b).2.1]
theorem text_pcs (s : List Bool) (f : Form) (hf : f.lt 10) : pcs (textF s f) = s.map sideS ++ (":" : Str) :: wordsF f := by
  unfold textF
  rw [pcs_join]
  · simp
  · simp
  · intro y hy
    rcases List.mem_append.mp hy with hy | hy
    · rcases List.mem_append.mp hy with hy | hy
      · obtain ⟨b, _, rfl⟩ := List.mem_map.mp hy
        exact (side_facts b).2.2.2
      · have : y = ":" := by simpa using hy
        subst this; decide +kernel
    · exact word_blank f hf y hy
theorem readP_text (s : List Bool) (f : Form) (hs : s.length ≤ 6) (hf : f.lt 10) (hd : f.depth ≤ 6) : readP (textF s f) = some (duelD s f) := by
  rw [readP_of (text_pcs s f hf) hs, rd_words (wordsF f) f 6 0 [] hf hd (by simp)]
  rfl
theorem idx_lt {x : Str} : ∀ {ys : List Str} {n i k : Nat}, x ∈ ys.take k → idxS x ys n = some i → i < n + k
  | [], n, i, k, h, _ => by simp at h
  | y :: ys, n, i, 0, h, _ => by simp at h
  | y :: ys, n, i, k + 1, h, e => by
    unfold idxS at e
    split at e
    · cases e; omega
    · rename_i c
      rw [List.take_succ_cons] at h
      rcases List.mem_cons.mp h with z | z
      · exact absurd z.symm c
      · have := idx_lt z e; omega
theorem readP_duel {z : Str} {d : D} (h : readP z = some d) : ∃ s f, d = duelD s f ∧ s.length ≤ 6 ∧ f.lt 10 ∧ f.depth ≤ 6 := by
  unfold readP at h
  split at h
  · rename_i c
    obtain ⟨i, hi, h⟩ := bind_inv h
    have hlt := idx_lt (List.contains_iff_mem.mp c) hi
    split at h
    · rename_i hs
      obtain ⟨q, hq, h⟩ := bind_inv h
      cases h
      obtain ⟨f, e1, e2, e3⟩ := rd_form _ _ _ _ hq
      refine ⟨((pcs z).take i).map fun (w : Str) => decide (w = "1"), f, ?_, ?_, e2, by omega⟩
      · rw [e1]
        show D.tup [.tup (((pcs z).take i).map digD), f.d] = D.tup [.tup ((((pcs z).take i).map fun (w : Str) => decide (w = "1")).map sd), f.d]
        rw [List.map_map]
        congr 3
        refine List.map_congr_left fun w hw => ?_
        show digD w = sd (decide (w = "1"))
        unfold digD sd
        by_cases c : w = "1"
        · rw [if_pos c, decide_eq_true c]; rfl
        · rw [if_neg c, decide_eq_false c]; rfl
      · rw [List.length_map, List.length_take]; omega
    · cases h
  · cases h
/-! what read tells -/
theorem end_eq (Φ : Str → List D → Option D) (f : D) (z : Str) : evalD (tabR defsR gl0R Φ rread) rread.N 30 true (defScope rread.st) (ifTest (stAt (defBody rread.st) 7)) [some (.dat (.str z)), none, none, none, none, some (.dat f)] =
    ((((((Φ "is_duel" [f]).map fun d => D.bl (truthD d)).bind asB).map fun b => D.bl (!b)).bind asB).bind fun b => if b = false then (Φ "written" [f]).bind fun x => neD x (.str z) else some (.bl b)) := by kernel_rfl
theorem endT_duel (s : List Bool) (f : Form) (z : Str) (hs : s.length ≤ 6) (hf : f.lt 10) (hd : f.depth ≤ 6) : endT (duelD s f) z = some (!isDuelF (duelD s f) || !decide (textF s f = z)) := by
  unfold endT
  rw [end_eq, duel_is_specZ _ 40 (by omega)]
  show ((if (!isDuelF (duelD s f)) = false then _ else some (D.bl (!isDuelF (duelD s f)))).bind asB) = _
  cases isDuelF (duelD s f) with
  | false => rfl
  | true =>
    show ((P0 40 "written" [duelD s f]).bind _).bind asB = _
    rw [written_specZ s f 40 (by omega) hf (by omega) (by omega)]
    show (neD (.str (textF s f)) (.str z)).bind asB = _
    rw [neD_strR]
    show some (!(textF s f == z)) = _
    congr 2
theorem textF_len (s : List Bool) (f : Form) (hs : s.length ≤ 6) (hf : f.lt 10) (hd : f.depth ≤ 6) : (textF s f).length ≤ 1000 ∧ PyData.strOk (textF s f) = true := by
  have hok : ∀ y ∈ s.map sideS ++ [(":" : Str)] ++ wordsF f, PyData.strOk y = true := fun y hy => by
    rcases List.mem_append.mp hy with hy | hy
    · rcases List.mem_append.mp hy with hy | hy
      · exact sides_ok s y hy
      · have : y = ":" := by simpa using hy
        subst this; exact colon_ok
    · exact words_ok f hf y hy
  obtain ⟨h1, h2⟩ := join_ok _ hok
  refine ⟨?_, h1⟩
  refine Nat.le_trans h2 ?_
  have h3 := words_sz f hf
  have h4 : 2 ^ f.depth ≤ 2 ^ 6 := Nat.pow_le_pow_right (by omega) hd
  rw [wsz_app, wsz_app, sides_sz]
  show _ + 2 + _ ≤ _
  omega
theorem readO_text (s : List Bool) (f : Form) (hs : s.length ≤ 6) (hf : f.lt 10) (hd : f.depth ≤ 6) : readO (textF s f) = some (if isDuelF (duelD s f) = true then some (duelD s f) else none) := by
  have hl := (textF_len s f hs hf hd).1
  rw [rO_some (by omega) (readP_text s f hs hf hd), endT_duel s f _ hs hf hd]
  show some (if (!isDuelF (duelD s f) || !decide (textF s f = textF s f)) = true then none else some (duelD s f)) = _
  rw [decide_eq_true rfl, Bool.not_true, Bool.or_false]
  cases isDuelF (duelD s f) <;> rfl
theorem readO_any {z : Str} (hl : z.length ≤ 100000) : readO z = some none ∨ ∃ s f, readO z = some (some (duelD s f)) ∧ isDuelF (duelD s f) = true ∧ s.length ≤ 6 ∧ f.lt 10 ∧ f.depth ≤ 6 ∧ textF s f = z := by
  cases h : readP z with
  | none => exact .inl (rO_none hl h)
  | some d =>
    obtain ⟨s, f, rfl, hs, hf, hd⟩ := readP_duel h
    rw [rO_some hl h, endT_duel s f z hs hf hd]
    cases c1 : isDuelF (duelD s f) with
    | false => exact .inl rfl
    | true =>
      by_cases c2 : textF s f = z
      · rw [decide_eq_true c2]
        exact .inr ⟨s, f, rfl, c1, hs, hf, hd, c2⟩
      · rw [decide_eq_false c2]
        exact .inl rfl
theorem formF_iff (m : Nat) : ∀ (f : Form) (n : Nat), isFormF (m : Int) n f.d = true ↔ f.lt m ∧ f.depth ≤ n
  | .yes, n => by
    rw [isFormF_eq]
    exact ⟨fun _ => ⟨trivial, Nat.zero_le _⟩, fun _ => by show ((("yes" : Str)) == "yes" || (("yes" : Str)) == "no") = true; rw [beq_self_eq_true]; rfl⟩
  | .no, n => by
    rw [isFormF_eq]
    exact ⟨fun _ => ⟨trivial, Nat.zero_le _⟩, fun _ => by show ((("no" : Str)) == "yes" || (("no" : Str)) == "no") = true; rw [beq_self_eq_true, Bool.or_true]⟩
  | .is k, n => by
    rw [isFormF_eq]
    show formB (m : Int) (belowF (m : Int) n) (.tup (.str "is" :: .int k :: [])) = true ↔ k < m ∧ 0 ≤ n
    rw [formB_tup, if_pos (beq_self_eq_true _)]
    show (true && (decide ((0 : Int) ≤ (k : Int)) && decide ((k : Int) ≤ (m : Int) - 1))) = true ↔ _
    simp only [Bool.true_and, Bool.and_eq_true, decide_eq_true_eq]
    omega
  | .not f, n => by
    rw [isFormF_eq]
    show formB (m : Int) (belowF (m : Int) n) (.tup (.str "not" :: f.d :: [])) = true ↔ f.lt m ∧ f.depth + 1 ≤ n
    rw [formB_tup, if_neg (by decide +kernel)]
    cases n with
    | zero => exact ⟨fun h => (by cases h), fun h => absurd h.2 (by omega)⟩
    | succ n =>
      show ((getK partsK "not" == some (((0 + 1 : Nat)) : Int)) && (isFormF (m : Int) n f.d && true)) = true ↔ _
      rw [show (getK partsK "not" == some (((0 + 1 : Nat)) : Int)) = true by decide +kernel, Bool.true_and, Bool.and_true, formF_iff m f n]
      constructor <;> exact fun h => ⟨h.1, by omega⟩
  | .both f g, n => by
    rw [isFormF_eq]
    show formB (m : Int) (belowF (m : Int) n) (.tup (.str "both" :: f.d :: [g.d])) = true ↔ (f.lt m ∧ g.lt m) ∧ max f.depth g.depth + 1 ≤ n
    rw [formB_tup, if_neg (by decide +kernel)]
    cases n with
    | zero => exact ⟨fun h => (by cases h), fun h => absurd h.2 (by omega)⟩
    | succ n =>
      show ((getK partsK "both" == some (((1 + 1 : Nat)) : Int)) && (isFormF (m : Int) n f.d && (isFormF (m : Int) n g.d && true))) = true ↔ _
      rw [show (getK partsK "both" == some (((1 + 1 : Nat)) : Int)) = true by decide +kernel, Bool.true_and, Bool.and_true, Bool.and_eq_true, formF_iff m f n, formF_iff m g n]
      exact ⟨fun h => ⟨⟨h.1.1, h.2.1⟩, by have := h.1.2; have := h.2.2; omega⟩, fun h => ⟨⟨h.1.1, by omega⟩, ⟨h.1.2, by omega⟩⟩⟩
  | .either f g, n => by
    rw [isFormF_eq]
    show formB (m : Int) (belowF (m : Int) n) (.tup (.str "either" :: f.d :: [g.d])) = true ↔ (f.lt m ∧ g.lt m) ∧ max f.depth g.depth + 1 ≤ n
    rw [formB_tup, if_neg (by decide +kernel)]
    cases n with
    | zero => exact ⟨fun h => (by cases h), fun h => absurd h.2 (by omega)⟩
    | succ n =>
      show ((getK partsK "either" == some (((1 + 1 : Nat)) : Int)) && (isFormF (m : Int) n f.d && (isFormF (m : Int) n g.d && true))) = true ↔ _
      rw [show (getK partsK "either" == some (((1 + 1 : Nat)) : Int)) = true by decide +kernel, Bool.true_and, Bool.and_true, Bool.and_eq_true, formF_iff m f n, formF_iff m g n]
      exact ⟨fun h => ⟨⟨h.1.1, h.2.1⟩, by have := h.1.2; have := h.2.2; omega⟩, fun h => ⟨⟨h.1.1, by omega⟩, ⟨h.1.2, by omega⟩⟩⟩
theorem duelF_iff (s : List Bool) (f : Form) : isDuelF (duelD s f) = true ↔ 1 ≤ s.length ∧ s.length ≤ 6 ∧ f.lt s.length ∧ f.depth ≤ 6 := by
  show ((decide (1 ≤ (s.map sd).length) && decide ((s.map sd).length ≤ 6)) && ((s.map sd).all fun d => numB 1 d) && isFormF ((s.map sd).length : Nat) 6 f.d) = true ↔ _
  have h : ((s.map sd).all fun d => numB 1 d) = true := by
    rw [List.all_map, List.all_eq_true]
    intro b _
    cases b <;> decide
  rw [h, Bool.and_true, List.length_map, Bool.and_eq_true, Bool.and_eq_true, decide_eq_true_eq, decide_eq_true_eq, formF_iff]
  exact ⟨fun h => ⟨h.1.1, h.1.2, h.2⟩, fun h => ⟨⟨h.1, h.2.1⟩, h.2.2⟩⟩
theorem duel_ok (s : List Bool) (f : Form) (h1 : 1 ≤ s.length) (h6 : s.length ≤ 6) (hf : f.lt s.length) (hd : f.depth ≤ 6) : isDuelF (duelD s f) = true := (duelF_iff s f).mpr ⟨h1, h6, hf, hd⟩
theorem duel_dep (s : List Bool) (f : Form) (h : f.depth ≤ 100) : dep (duelD s f) ≤ 150 := by
  have h1 : dep (rowD s) ≤ 1 := rowD_dep s
  have h2 := dep_form f
  simp only [duelD, dep_tup, deps_cons, deps_nil]
  omega
/-! texts, so well and so long -/
structure Sz (x : Str) (n : Nat) : Prop where
  ok : PyData.strOk x = true
  le : x.length ≤ n
theorem Sz.app {x y : Str} {a b : Nat} (hx : Sz x a) (hy : Sz y b) : Sz (x ++ y) (a + b) := ⟨app_okS hx.ok hy.ok, by rw [app_len]; exact Nat.add_le_add hx.le hy.le⟩
theorem Sz.mono {x : Str} {a b : Nat} (hx : Sz x a) (h : a ≤ b) : Sz x b := ⟨hx.ok, Nat.le_trans hx.le h⟩
theorem addZ {x y : Str} {a b : Nat} (hx : Sz x a) (hy : Sz y b) (h : a + b ≤ 1000000) : addD (.str x) (.str y) = some (.str (x ++ y)) := ad_ok hx.ok hy.ok (Nat.le_trans (Nat.add_le_add hx.le hy.le) h)
theorem Sz.sOk {x : Str} {a : Nat} (hx : Sz x a) (h : a ≤ 1000000) : sOk x = true := sOk_of hx.ok (Nat.le_trans hx.le h)
/-- what stands ahead of the form's words -/
def headF (s : List Bool) : Str := Str.join sp (s.map sideS) ++ " : "
abbrev wF (f : Form) : Str := Str.join sp (wordsF f)
theorem colon_eq : (" : " : Str) = sp ++ ":" ++ sp := by decide +kernel
theorem text_eq (s : List Bool) (f : Form) (hs : 1 ≤ s.length) : textF s f = headF s ++ wF f := by
  have h1 : s.map sideS ≠ [] := fun e => by
    have := congrArg List.length e
    simp at this
    rw [this] at hs; simp at hs
  unfold textF headF
  rw [List.append_assoc, join_app sp _ _ h1 (by simp), join_app sp [(":" : Str)] _ (by simp) (words_ne f), colon_eq]
  show Str.join sp (s.map sideS) ++ sp ++ (":" ++ sp ++ wF f) = Str.join sp (s.map sideS) ++ (sp ++ ":" ++ sp) ++ wF f
  simp only [str_assoc]
theorem wF_not (f : Form) : wF (.not f) = "not " ++ wF f := by
  show Str.join sp ([("not" : Str)] ++ wordsF f) = _
  rw [join_app sp _ _ (by simp) (words_ne f)]
  show ("not" : Str) ++ sp ++ wF f = _
  rw [show ("not" : Str) ++ sp = "not " by decide +kernel]
theorem wF_both (f g : Form) : wF (.both f g) = "both" ++ " " ++ wF f ++ " " ++ wF g := by
  show Str.join sp ([("both" : Str)] ++ (wordsF f ++ wordsF g)) = _
  rw [join_app sp _ _ (by simp) (by simp [words_ne]), join_app sp _ _ (words_ne f) (words_ne g)]
  show ("both" : Str) ++ sp ++ (wF f ++ sp ++ wF g) = "both" ++ sp ++ wF f ++ sp ++ wF g
  simp only [str_assoc]
theorem wF_either (f g : Form) : wF (.either f g) = "either" ++ " " ++ wF f ++ " " ++ wF g := by
  show Str.join sp ([("either" : Str)] ++ (wordsF f ++ wordsF g)) = _
  rw [join_app sp _ _ (by simp) (by simp [words_ne]), join_app sp _ _ (words_ne f) (words_ne g)]
  show ("either" : Str) ++ sp ++ (wF f ++ sp ++ wF g) = "either" ++ sp ++ wF f ++ sp ++ wF g
  simp only [str_assoc]
theorem wF_sz (f : Form) (hf : f.lt 10) (hd : f.depth ≤ 4) : Sz (wF f) 300 := by
  obtain ⟨h1, h2⟩ := join_ok (wordsF f) (words_ok f hf)
  refine ⟨h1, Nat.le_trans h2 ?_⟩
  have h3 := words_sz f hf
  have h4 : 2 ^ f.depth ≤ 2 ^ 4 := Nat.pow_le_pow_right (by omega) hd
  omega
theorem sides_join_sz (s : List Bool) (hs : s.length ≤ 6) : Sz (Str.join sp (s.map sideS)) 20 := by
  obtain ⟨h1, h2⟩ := join_ok (s.map sideS) (sides_ok s)
  exact ⟨h1, Nat.le_trans h2 (by rw [sides_sz]; omega)⟩
theorem colon_sz : Sz (" : " : Str) 3 := ⟨by decide +kernel, by decide +kernel⟩
theorem head_sz (s : List Bool) (hs : s.length ≤ 6) : Sz (headF s) 30 := ((sides_join_sz s hs).app colon_sz).mono (by omega)
theorem cut_app (x y : Str) : cutS (x ++ y) (some (x.length : Int)) none = y := by
  have e : TL.tl (cutS (x ++ y) (some (x.length : Int)) none) = TL.tl y := by
    rw [tl_cut, HT.sIx_nat, HT.sIx_none, TL.tl_append, app_len, Nat.min_eq_left (Nat.le_add_right _ _), TL.len_tl x, List.drop_left, Nat.add_sub_cancel_left, TL.len_tl y, List.take_length]
  have : ∀ z : Str, (⟨(TL.tl z).toArray⟩ : Str) = z := fun z => TL.mk_tl z
  rw [← this (cutS _ _ _), e, this y]
/-! what read tells of them -/
theorem readX_text (s : List Bool) (f : Form) (h1 : 1 ≤ s.length) (h6 : s.length ≤ 6) (hf : f.lt s.length) (hd : f.depth ≤ 6) : readX [.str (textF s f)] = some (duelD s f) := by
  show (readO (textF s f)).bind id = _
  rw [readO_text s f h6 (Form.lt_mono (by omega) hf) hd, if_pos (duel_ok s f h1 h6 hf hd)]
  rfl
theorem noneX_text (s : List Bool) (f : Form) (h6 : s.length ≤ 6) (hf : f.lt 10) (hd : f.depth ≤ 6) : noneX [.str (textF s f)] = some (.bl (!isDuelF (duelD s f))) := by
  show (readO (textF s f)).map _ = _
  rw [readO_text s f h6 hf hd]
  cases isDuelF (duelD s f) <;> rfl
theorem noneX_no {z : Str} (hl : z.length ≤ 100000) (h : readP z = none) : noneX [.str z] = some (.bl true) := by
  show (readO z).map _ = _
  rw [rO_none hl h]
  rfl
theorem noneX_not {z : Str} {s : List Bool} {f : Form} (hl : z.length ≤ 100000) (h : readP z = some (duelD s f)) (hs : s.length ≤ 6) (hf : f.lt 10) (hd : f.depth ≤ 6) (no : (!isDuelF (duelD s f) || !decide (textF s f = z)) = true) : noneX [.str z] = some (.bl true) := by
  show (readO z).map _ = _
  rw [rO_some hl h, endT_duel s f z hs hf hd, no]
  rfl
/-- words behind the sides -/
def lineF (s : List Bool) (ws : List Str) : Str := Str.join sp (s.map sideS ++ (":" : Str) :: ws)
theorem line_pcs (s : List Bool) (ws : List Str) (h : ∀ y ∈ ws, 32 ∉ TL.tl y) : pcs (lineF s ws) = s.map sideS ++ (":" : Str) :: ws := by
  refine pcs_join _ (by simp) fun y hy => ?_
  rcases List.mem_append.mp hy with hy | hy
  · obtain ⟨b, _, rfl⟩ := List.mem_map.mp hy
    exact (side_facts b).2.2.2
  · rcases List.mem_cons.mp hy with rfl | hy
    · decide +kernel
    · exact h y hy
theorem line_eq (s : List Bool) (ws : List Str) (hs : 1 ≤ s.length) (hw : ws ≠ []) : lineF s ws = headF s ++ Str.join sp ws := by
  have h1 : s.map sideS ≠ [] := fun e => by
    have := congrArg List.length e
    simp at this
    rw [this] at hs; simp at hs
  unfold lineF headF
  rw [show (":" : Str) :: ws = [(":" : Str)] ++ ws from rfl, join_app sp _ _ h1 (by simp), join_app sp [(":" : Str)] _ (by simp) hw, colon_eq]
  show Str.join sp (s.map sideS) ++ sp ++ (":" ++ sp ++ Str.join sp ws) = Str.join sp (s.map sideS) ++ (sp ++ ":" ++ sp) ++ Str.join sp ws
  simp only [str_assoc]
theorem rd_end (ws : List Str) (n i : Nat) (h : ws.length ≤ i) : rdF ws n i = none := by
  cases n with
  | zero => rfl
  | succ n =>
    show (match ws[i]? with | none => none | some w => _) = _
    rw [List.getElem?_eq_none h]
/-- a word that wants two forms, with one -/
theorem half_none (w : Str) (hw : w = "both" ∨ w = "either") (f : Form) (hf : f.lt 10) (hd : f.depth ≤ 5) : rdF (w :: wordsF f) 7 0 = none := by
  have h1 := rd_words (w :: wordsF f) f 5 1 [] hf hd (by simp)
  have h2 := rd_end (w :: wordsF f) 6 (1 + (wordsF f).length) (by rw [List.length_cons]; omega)
  have n1 : ¬ (w = "yes" ∨ w = "no") := by rcases hw with rfl | rfl <;> decide +kernel
  have n2 : getK kvsP w = some 2 := by rcases hw with rfl | rfl <;> decide +kernel
  rw [rdF_at (w := w) rfl, if_neg n1, n2]
  show (((rdF (w :: wordsF f) 6 1).bind fun q => ((rdF (w :: wordsF f) 6 q.2).bind _).bind _).bind _) = _
  rw [h1]
  show ((((rdF (w :: wordsF f) 6 (1 + (wordsF f).length)).bind _).bind _).bind _) = _
  rw [h2]; rfl
theorem none_half (s : List Bool) (w : Str) (hw : w = "both" ∨ w = "either") (f : Form) (h1 : 1 ≤ s.length) (h6 : s.length ≤ 6) (hf : f.lt 10) (hd : f.depth ≤ 4) : noneX [.str (headF s ++ w ++ " " ++ wF f)] = some (.bl true) := by
  have wok : Sz w 6 ∧ 32 ∉ TL.tl w := by rcases hw with rfl | rfl <;> exact ⟨⟨by decide +kernel, by decide +kernel⟩, by decide +kernel⟩
  have e : headF s ++ w ++ " " ++ wF f = lineF s (w :: wordsF f) := by
    rw [line_eq s _ h1 (by simp), show w :: wordsF f = [w] ++ wordsF f from rfl, join_app sp _ _ (by simp) (words_ne f)]
    show headF s ++ w ++ sp ++ wF f = headF s ++ (w ++ sp ++ wF f)
    simp only [str_assoc]
  have hz : Sz (headF s ++ w ++ " " ++ wF f) 400 := ((((head_sz s h6).app wok.1).app (⟨by decide +kernel, by decide +kernel⟩ : Sz (" " : Str) 1)).app (wF_sz f hf hd)).mono (by omega)
  refine noneX_no (Nat.le_trans hz.le (by omega)) ?_
  rw [e, readP_of (line_pcs s _ fun y hy => ?_) h6, half_none w hw f hf (by omega)]
  · rfl
  · rcases List.mem_cons.mp hy with rfl | hy
    · exact wok.2
    · exact word_blank f hf y hy
theorem none_two (s : List Bool) (f g : Form) (h1 : 1 ≤ s.length) (h6 : s.length ≤ 6) (hf : f.lt 10) (hd : f.depth ≤ 4) (hg : g.lt 10) (hgd : g.depth ≤ 4) : noneX [.str (headF s ++ wF f ++ " " ++ wF g)] = some (.bl true) := by
  have e : headF s ++ wF f ++ " " ++ wF g = lineF s (wordsF f ++ wordsF g) := by
    rw [line_eq s _ h1 (by simp [words_ne]), join_app sp _ _ (words_ne f) (words_ne g)]
    show headF s ++ wF f ++ sp ++ wF g = headF s ++ (wF f ++ sp ++ wF g)
    simp only [str_assoc]
  have hz : Sz (headF s ++ wF f ++ " " ++ wF g) 1000 := ((((head_sz s h6).app (wF_sz f hf hd)).app (⟨by decide +kernel, by decide +kernel⟩ : Sz (" " : Str) 1)).app (wF_sz g hg hgd)).mono (by omega)
  have hb : ∀ y ∈ wordsF f ++ wordsF g, 32 ∉ TL.tl y := fun y hy => by
    rcases List.mem_append.mp hy with hy | hy
    · exact word_blank f hf y hy
    · exact word_blank g hg y hy
  refine noneX_not (s := s) (f := f) (Nat.le_trans hz.le (by omega)) ?_ h6 hf (by omega) ?_
  · rw [e, readP_of (line_pcs s _ hb) h6, rd_words (wordsF f ++ wordsF g) f 6 0 (wordsF g) hf (by omega) (by simp)]
    rfl
  · have ne : textF s f ≠ headF s ++ wF f ++ " " ++ wF g := fun q => by
      have p1 := text_pcs s f hf
      rw [q, e, line_pcs s _ hb] at p1
      have := congrArg List.length p1
      have h0 := List.length_pos_iff.mpr (words_ne g)
      simp at this
      exact words_ne g this
    rw [decide_eq_false ne, Bool.not_false, Bool.or_true]
theorem none_seven (f : Form) (hf : f.lt 10) (hd : f.depth ≤ 4) : noneX [.str ("1 0 1 0 1 0 1 : " ++ wF f)] = some (.bl true) := by
  have e : ("1 0 1 0 1 0 1 : " : Str) = headF [true, false, true, false, true, false, true] := by decide +kernel
  have hz : Sz ("1 0 1 0 1 0 1 : " ++ wF f) 400 := ((⟨by decide +kernel, by decide +kernel⟩ : Sz ("1 0 1 0 1 0 1 : " : Str) 20).app (wF_sz f hf hd)).mono (by omega)
  refine noneX_no (Nat.le_trans hz.le (by omega)) ?_
  have p := line_pcs [true, false, true, false, true, false, true] (wordsF f) (word_blank f hf)
  rw [line_eq _ _ (by decide) (words_ne f), ← e] at p
  unfold readP
  have : ¬ ((Txt.split ("1 0 1 0 1 0 1 : " ++ wF f) " ").take 7).contains ":" = true := by
    show ¬ ((pcs ("1 0 1 0 1 0 1 : " ++ wF f)).take 7).contains ":" = true
    rw [p]
    show ¬ ([true, false, true, false, true, false, true].map sideS).contains ":" = true
    decide +kernel
  rw [if_neg this]
theorem none_zero (f : Form) (hf : f.lt 10) (hd : f.depth ≤ 4) : noneX [.str (": " ++ wF f)] = some (.bl true) := by
  have e : ": " ++ wF f = textF [] f := by
    unfold textF
    show _ = Str.join sp ([(":" : Str)] ++ wordsF f)
    rw [join_app sp _ _ (by simp) (words_ne f)]
    show (": " : Str) ++ wF f = ":" ++ sp ++ wF f
    rw [show (":" : Str) ++ sp = ": " by decide +kernel]
  rw [e, noneX_text [] f (by decide) hf (by omega)]
  have : isDuelF (duelD [] f) = false := by
    cases h : isDuelF (duelD [] f) with
    | false => rfl
    | true => exact absurd ((duelF_iff [] f).mp h).1 (by decide)
  rw [this]; rfl
/-! the switches that are used -/
def usedF : Form → List Nat
  | .yes => []
  | .no => []
  | .is k => [k]
  | .not f => usedF f
  | .both f g => usedF f ++ usedF g
  | .either f g => usedF f ++ usedF g
theorem lt_used (n : Nat) : ∀ f : Form, f.lt n ↔ ∀ k ∈ usedF f, k < n
  | .yes => ⟨fun _ k h => (by cases h), fun _ => trivial⟩
  | .no => ⟨fun _ k h => (by cases h), fun _ => trivial⟩
  | .is k => ⟨fun h j hj => by have : j = k := by simpa [usedF] using hj
                               rw [this]; exact h, fun h => h k (by simp [usedF])⟩
  | .not f => lt_used n f
  | .both f g => by
    show (f.lt n ∧ g.lt n) ↔ ∀ k ∈ usedF f ++ usedF g, k < n
    rw [lt_used n f, lt_used n g]
    constructor
    · intro h k hk
      rcases List.mem_append.mp hk with hk | hk
      · exact h.1 k hk
      · exact h.2 k hk
    · exact fun h => ⟨fun k hk => h k (List.mem_append_left _ hk), fun k hk => h k (List.mem_append_right _ hk)⟩
  | .either f g => by
    show (f.lt n ∧ g.lt n) ↔ ∀ k ∈ usedF f ++ usedF g, k < n
    rw [lt_used n f, lt_used n g]
    constructor
    · intro h k hk
      rcases List.mem_append.mp hk with hk | hk
      · exact h.1 k hk
      · exact h.2 k hk
    · exact fun h => ⟨fun k hk => h k (List.mem_append_left _ hk), fun k hk => h k (List.mem_append_right _ hk)⟩
abbrev useD : D → Option (Option D) := fun d97 => (((sliceD d97 none (some 1)).bind fun x98 => eqD x98 (.str "s")).bind asB).bind fun b99 => if b99 = true then (((sliceD d97 (some 1) none).bind fun x100 => some [x100]).bind (one intD)).map some else some none
theorem use_yes : useD (.str "yes") = some none := by kernel_rfl
theorem use_no : useD (.str "no") = some none := by kernel_rfl
theorem use_not : useD (.str "not") = some none := by kernel_rfl
theorem use_both : useD (.str "both") = some none := by kernel_rfl
theorem use_either : useD (.str "either") = some none := by kernel_rfl
theorem use_is (k : Nat) (h : k < 10) : useD (.str (swd k)) = some (some (.int k)) := by
  have : k = 0 ∨ k = 1 ∨ k = 2 ∨ k = 3 ∨ k = 4 ∨ k = 5 ∨ k = 6 ∨ k = 7 ∨ k = 8 ∨ k = 9 := by omega
  rcases this with rfl | rfl | rfl | rfl | rfl | rfl | rfl | rfl | rfl | rfl <;> kernel_rfl
theorem compD_app (f : D → Option (Option D)) : ∀ (xs ys as bs : List D), compD f xs = some as → compD f ys = some bs → compD f (xs ++ ys) = some (as ++ bs)
  | [], ys, as, bs, h1, h2 => by cases h1; exact h2
  | x :: xs, ys, as, bs, h1, h2 => by
    rw [compD_cons] at h1
    obtain ⟨o, h3, h1⟩ := bind_inv h1
    cases q : compD f xs with
    | none => rw [q] at h1; cases h1
    | some cs =>
      rw [q] at h1
      cases h1
      rw [List.cons_append, compD_cons, h3, obs, compD_app f xs ys cs bs q h2, oms]
      cases o <;> rfl
theorem used_comp : ∀ f : Form, f.lt 10 → compD useD ((wordsF f).map D.str) = some ((usedF f).map fun (k : Nat) => D.int (k : Int))
  | .yes, _ => by show compD useD [.str "yes"] = _; rw [compD_cons, use_yes, obs, compD_nil, oms]; rfl
  | .no, _ => by show compD useD [.str "no"] = _; rw [compD_cons, use_no, obs, compD_nil, oms]; rfl
  | .is k, hk => by show compD useD [.str (swd k)] = _; rw [compD_cons, use_is k hk, obs, compD_nil, oms]; rfl
  | .not f, hf => by
    show compD useD (.str "not" :: (wordsF f).map D.str) = _
    rw [compD_cons, use_not, obs, used_comp f hf, oms]; rfl
  | .both f g, hf => by
    show compD useD (.str "both" :: (wordsF f ++ wordsF g).map D.str) = _
    rw [compD_cons, use_both, obs, List.map_append, compD_app _ _ _ _ _ (used_comp f hf.1) (used_comp g hf.2), oms, ← List.map_append]; rfl
  | .either f g, hf => by
    show compD useD (.str "either" :: (wordsF f ++ wordsF g).map D.str) = _
    rw [compD_cons, use_either, obs, List.map_append, compD_app _ _ _ _ _ (used_comp f hf.1) (used_comp g hf.2), oms, ← List.map_append]; rfl
theorem ints_nat : ∀ us : List Nat, intsD (us.map fun (k : Nat) => D.int (k : Int)) = some (us.map fun (k : Nat) => (k : Int))
  | [] => rfl
  | u :: us => by
    show (intsD (us.map fun (k : Nat) => D.int (k : Int))).map _ = _
    rw [ints_nat us]; rfl
theorem max_used (us : List Nat) : ∃ M : Int, maxD (.lst ((us ++ [0]).map fun (k : Nat) => D.int (k : Int))) = some (.int M) ∧ ∀ n : Nat, 1 ≤ n → ((n : Int) ≤ M ↔ ¬ ∀ k ∈ us, k < n) := by
  have e := ints_nat (us ++ [0])
  obtain ⟨v, vs, hv⟩ : ∃ v vs, us ++ [0] = v :: vs := by
    cases us with
    | nil => exact ⟨0, [], rfl⟩
    | cons u us => exact ⟨u, us ++ [0], rfl⟩
  rw [hv] at e ⊢
  obtain ⟨m1, m2⟩ := maxL_ok (v : Int) (vs.map fun (k : Nat) => (k : Int))
  refine ⟨maxL (v : Int) (vs.map fun (k : Nat) => (k : Int)), ?_, fun n hn => ?_⟩
  · show (match intsD ((v :: vs).map fun (k : Nat) => D.int (k : Int)) with | some (n :: ns) => some (D.int (maxL n ns)) | _ => none) = _
    rw [e] <;> rfl
  · have hm : maxL (v : Int) (vs.map fun (k : Nat) => (k : Int)) ∈ (us ++ [0]).map fun (k : Nat) => (k : Int) := by rw [hv]; exact m1
    obtain ⟨k, hk, ek⟩ := List.mem_map.mp hm
    have ek : (k : Int) = maxL (v : Int) (vs.map fun (k : Nat) => (k : Int)) := ek
    rw [← ek]
    constructor
    · intro h hall
      rcases List.mem_append.mp hk with hk | hk
      · have := hall k hk; omega
      · have : k = 0 := by simpa using hk
        omega
    · intro h
      refine Classical.byContradiction fun c => h fun j hj => ?_
      have hj2 : (j : Int) ∈ (us ++ [0]).map fun (k : Nat) => (k : Int) := List.mem_map.mpr ⟨j, List.mem_append_left _ hj, rfl⟩
      rw [hv] at hj2
      have := m2 _ hj2
      rw [← ek] at this
      omega
/-! one size -/
theorem sides_head (t : List Bool) (ht : t.length ≤ 6) : ((compD (fun d => (strD d).map some) (t.map sd)).map D.lst).bind (fun x => joinD (.str " ") x) = some (.str (Str.join sp (t.map sideS))) := by
  rw [sides_comp, oms, obs, joinD_of _ (sides_ok t) (by rw [sides_sz]; omega)]
theorem size_turn (n : Nat) (hn : 12 ≤ n) (s6 : List Bool) (h6 : s6.length = 6) (f : Form) (hf : f.lt 10) (hd : f.depth ≤ 4) (k : Nat) (hk1 : 1 ≤ k) (hk6 : k ≤ 6) (x3 x13 x19 x31 x36 x70 : D) (ns : List Int) (j_text : D) (κ : Kt) :
    e_law_b1 (Ph n) [some (.dat (.scr ns)), some (.dat x3), some (.dat (rowD s6)), none, some (.dat f.d), some (.dat x13), some (.dat x19), none, some (.dat (.str (wF f))), some (.dat x31), some (.dat x36), some (.dat (.str "either")), some (.dat x70), some (.dat j_text), some (.dat (.lst ((usedF f).map fun (k : Nat) => D.int (k : Int)))), some (.dat (.int (k : Int)))] κ =
    κ [some (.dat (.scr ns)), some (.dat x3), some (.dat (rowD s6)), none, some (.dat f.d), some (.dat x13), some (.dat x19), none, some (.dat (.str (wF f))), some (.dat x31), some (.dat x36), some (.dat (.str "either")), some (.dat x70), some (.dat (.str (textF (s6.take k) f))), some (.dat (.lst ((usedF f).map fun (k : Nat) => D.int (k : Int)))), some (.dat (.int (k : Int)))] := by
  refine (e_law_b1_eq _ _ _ _ _ _ _ _ _ _ _ _ _ _ _).trans ?_
  have hl : (s6.take k).length = k := by rw [List.length_take, h6]; omega
  have e1 : seqD (rowD (s6.take k)) = some ((s6.take k).map sd) := rfl
  have e2 : addD (.str (Str.join sp ((s6.take k).map sideS))) (.str " : ") = some (.str (headF (s6.take k))) := addZ (sides_join_sz _ (by omega)) colon_sz (by omega)
  have e3 : addD (.str (headF (s6.take k))) (.str (wF f)) = some (.str (textF (s6.take k) f)) := by
    rw [text_eq _ f (by omega)]
    exact addZ (head_sz _ (by omega)) (wF_sz f hf hd) (by omega)
  have e4 : noneX [.str (textF (s6.take k) f)] = some (.bl (!decide (∀ j ∈ usedF f, j < k))) := by
    rw [noneX_text _ f (by omega) hf (by omega)]
    congr 3
    rw [Bool.eq_iff_iff, duelF_iff, decide_eq_true_eq, ← lt_used, hl]
    exact ⟨fun h => h.2.2.1, fun h => ⟨hk1, hk6, h, by omega⟩⟩
  obtain ⟨M, hM, hM2⟩ := max_used (usedF f)
  have e5 : addD (.lst ((usedF f).map fun (k : Nat) => D.int (k : Int))) (.lst [.int 0]) = some (.lst ((usedF f ++ [0]).map fun (k : Nat) => D.int (k : Int))) := by
    rw [addD_lst ?_, List.map_append]
    · rfl
    · have hu : (usedF f).length ≤ 300 := by
        have h1 : ∀ f : Form, (usedF f).length ≤ (wordsF f).length := fun f => by
          induction f with
          | yes => exact Nat.zero_le _
          | no => exact Nat.zero_le _
          | is k => exact Nat.le_refl _
          | not f ih => exact Nat.le_trans ih (Nat.le_succ _)
          | both f g ih1 ih2 => simp only [usedF, wordsF, List.length_append, List.length_cons]; omega
          | either f g ih1 ih2 => simp only [usedF, wordsF, List.length_append, List.length_cons]; omega
        have h2 : (wordsF f).length ≤ wsz (wordsF f) := by unfold wsz; omega
        have h3 := words_sz f hf
        have h4 : 2 ^ f.depth ≤ 2 ^ 4 := Nat.pow_le_pow_right (by omega) hd
        have := h1 f
        omega
      rw [List.length_map]
      show _ + 1 ≤ _
      omega
  have e6 : cmpI (fun i j => decide (j ≤ i)) (.int M) (.int (k : Int)) = some (.bl (!decide (∀ j ∈ usedF f, j < k))) := by
    show some (D.bl (decide ((k : Int) ≤ M))) = _
    congr 2
    rw [Bool.eq_iff_iff, decide_eq_true_eq, hM2 k hk1]
    simp
  have e7 : Ph n "is_form" [f.d, .int (k : Int)] = some (.bl (decide (∀ j ∈ usedF f, j < k))) := by
    rw [form_spec0 k f.d n (by omega)]
    congr 2
    rw [Bool.eq_iff_iff, formF_iff, decide_eq_true_eq, ← lt_used]
    exact ⟨fun h => h.1, fun h => ⟨h, by omega⟩⟩
  have e8 : ∀ b : Bool, neD (.bl b) (.bl b) = some (.bl false) := fun b => by cases b <;> rfl
  rw [cutRowTo, obs, e1, obs, sides_head _ (by omega), obs, e2, obs, e3, obs, e4, obs, e5, obs, obs, one_def, hM, obs, e6, obs, e8, obs, asB_bl, obs, if_pos rfl, e7, obs, oms, obs, truthD_bl, Bool.not_not, e8, obs, asB_bl, obs, if_neg Bool.false_ne_true]
/-! typed by hand -/
def nsF : Nat → Form
  | 0 => .is 0
  | k + 1 => .not (nsF k)
theorem ns_lt (m : Nat) (hm : 0 < m) : ∀ k, (nsF k).lt m
  | 0 => hm
  | k + 1 => ns_lt m hm k
theorem ns_depth : ∀ k, (nsF k).depth = k
  | 0 => rfl
  | k + 1 => by show (nsF k).depth + 1 = k + 1; rw [ns_depth k]
theorem ns_words : ∀ k, wordsF (nsF k) = List.replicate k ("not" : Str) ++ [swd 0]
  | 0 => rfl
  | k + 1 => by show ("not" : Str) :: wordsF (nsF k) = _; rw [ns_words k]; rfl
theorem ns_text (k : Nat) : textF [true] (nsF k) = "1 : " ++ wF (nsF k) := by
  rw [text_eq [true] _ (by decide), show headF [true] = "1 : " by decide +kernel]
theorem ns_sz : ∀ k, Sz (wF (nsF k)) (10 + 4 * k)
  | 0 => ⟨by decide +kernel, by decide +kernel⟩
  | k + 1 => by
    show Sz (wF (.not (nsF k))) _
    rw [wF_not]
    exact ((⟨by decide +kernel, by decide +kernel⟩ : Sz ("not " : Str) 4).app (ns_sz k)).mono (by omega)
theorem ns_none (k : Nat) (hk : k ≤ 8) : noneX [.str (textF [true] (nsF k))] = some (.bl (decide (6 < k))) := by
  by_cases c : k ≤ 6
  · rw [noneX_text [true] _ (by decide) (ns_lt 10 (by omega) k) (by rw [ns_depth]; exact c), duel_ok [true] _ (by decide) (by decide) (ns_lt 1 (by omega) k) (by rw [ns_depth]; exact c), decide_eq_false (by omega)]
    rfl
  · rw [decide_eq_true (by omega)]
    have e : readP (textF [true] (nsF k)) = none := by
      rw [readP_of (text_pcs [true] _ (ns_lt 10 (by omega) k)) (by decide), rd_nots (wordsF (nsF k)) 7 0 (List.replicate (k - 7) ("not" : Str) ++ [swd 0])]
      · rfl
      · rw [List.drop_zero, ns_words, ← List.append_assoc, List.replicate_append_replicate, show 7 + (k - 7) = k by omega]
    refine noneX_no ?_ e
    rw [ns_text]
    have := ((⟨by decide +kernel, by decide +kernel⟩ : Sz ("1 : " : Str) 4).app (ns_sz k)).le
    omega
def badL : List Str := ["", "0", "0 :", "0 : s", "0 : s1", "0 : s00", "0 : S0", "0 : not", "0 : both s0", "2 : s0", "0 : yes no", "0: s0", "0 :s0", "0  : s0", "0 : s0 ", " 0 : s0", "0 0 s0", "0 : : s0", "0 : s-1", "01 : s0", "0 : y"]
theorem bad_none : ∀ z ∈ badL, noneX [.str z] = some (.bl true) := by
  have no : ∀ z : Str, z.length ≤ 100 → (readP z).isNone = true → noneX [.str z] = some (.bl true) := fun z hl h => noneX_no (by omega) (Option.isNone_iff_eq_none.mp h)
  have n1 : noneX [.str "0 : s1"] = some (.bl true) := noneX_not (s := [false]) (f := .is 1) (by decide +kernel) (by kernel_rfl) (by decide) (show (1 : Nat) < 10 by decide) (by decide) (by decide +kernel)
  have n2 : noneX [.str "0 : yes no"] = some (.bl true) := noneX_not (s := [false]) (f := .yes) (by decide +kernel) (by kernel_rfl) (by decide) trivial (by decide) (by decide +kernel)
  have n3 : noneX [.str "0 : s0 "] = some (.bl true) := noneX_not (s := [false]) (f := .is 0) (by decide +kernel) (by kernel_rfl) (by decide) (show (0 : Nat) < 10 by decide) (by decide) (by decide +kernel)
  intro z hz
  simp only [badL, List.mem_cons, List.not_mem_nil, or_false] at hz
  rcases hz with rfl | rfl | rfl | rfl | rfl | rfl | rfl | rfl | rfl | rfl | rfl | rfl | rfl | rfl | rfl | rfl | rfl | rfl | rfl | rfl | rfl
  all_goals first
    | exact n1
    | exact n2
    | exact n3
    | exact no _ (by decide +kernel) (by decide +kernel)
theorem hand_b1 (n : Nat) (number : Int) (k : Nat) (hk : k ≤ 7) (κ : Kt) : e_law_by_hand_b1 (Ph n) [some (.dat (.int number)), some (.dat (.str (wF (nsF k)))), some (.dat (.int (k : Int))), none, none, none] κ = κ [some (.dat (.int number)), some (.dat (.str (wF (nsF (k + 1))))), some (.dat (.int (k : Int))), none, none, none] := by
  refine (e_law_by_hand_b1_eq _ _ _ _ _).trans ?_
  have e1 : addD (.str "not ") (.str (wF (nsF k))) = some (.str (wF (nsF (k + 1)))) := by
    show _ = some (D.str (wF (.not (nsF k))))
    rw [wF_not]
    exact addZ (⟨by decide +kernel, by decide +kernel⟩ : Sz ("not " : Str) 4) (ns_sz k) (by omega)
  have e2 : addD (.str "1 : ") (.str (wF (nsF (k + 1)))) = some (.str (textF [true] (nsF (k + 1)))) := by
    rw [ns_text]
    exact addZ (⟨by decide +kernel, by decide +kernel⟩ : Sz ("1 : " : Str) 4) (ns_sz (k + 1)) (by omega)
  have e3 : decide ((5 : Int) < (k : Int)) = decide (6 < k + 1) := decide_eq_decide.mpr (by omega)
  have e8 : ∀ b : Bool, neD (.bl b) (.bl b) = some (.bl false) := fun b => by cases b <;> rfl
  rw [e1, obs, e2, obs, obs, ns_none (k + 1) (by omega), obs, e3, e8, obs, asB_bl, obs, if_neg Bool.false_ne_true]
theorem hand_loop1 (n : Nat) (number : Int) : ∀ (m k : Nat) (s_k : Option Sl), k + m ≤ 8 → ∃ s_k', forD (Tg.put (.nm 2)) (e_law_by_hand_b1 (Ph n)) (e_law_by_hand_k2 (Ph n)) ((List.range' k m).map fun (i : Nat) => D.int (i : Int)) [some (.dat (.int number)), some (.dat (.str (wF (nsF k)))), s_k, none, none, none] =
    e_law_by_hand_k2 (Ph n) [some (.dat (.int number)), some (.dat (.str (wF (nsF (k + m))))), s_k', none, none, none]
  | 0, k, s_k, _ => ⟨s_k, rfl⟩
  | m + 1, k, s_k, h => by
    obtain ⟨s_k', ih⟩ := hand_loop1 n number m (k + 1) (some (.dat (.int (k : Int)))) (by omega)
    refine ⟨s_k', ?_⟩
    rw [List.range'_succ, List.map_cons, forD_nm]
    refine (hand_b1 n number k (by omega) _).trans ?_
    refine Eq.trans ih ?_
    rw [show k + 1 + m = k + (m + 1) by omega]
theorem bad_get (j : Int) (h0 : 0 ≤ j) (h1 : j < 21) : ∃ z, z ∈ badL ∧ ixD (.lst (badL.map D.str)) (.int j) = some (.str z) := by
  obtain ⟨k, rfl⟩ : ∃ k : Nat, j = (k : Int) := ⟨j.toNat, by omega⟩
  have hl : k < badL.length := by show k < 21; omega
  refine ⟨badL[k], List.getElem_mem hl, ?_⟩
  exact atI_nat (by rw [List.getElem?_map, List.getElem?_eq_getElem hl]; rfl)
theorem hand_b3 (n : Nat) (number : Int) (j_deep : D) (k : Nat) (hk : k ≤ 1000) (κ : Kt) : e_law_by_hand_b3 (Ph n) [some (.dat (.int number)), some (.dat j_deep), some (.dat (.int (k : Int))), some (.dat (.lst (badL.map D.str))), none, none] κ = κ [some (.dat (.int number)), some (.dat j_deep), some (.dat (.int (k : Int))), some (.dat (.lst (badL.map D.str))), none, none] := by
  refine (e_law_by_hand_b3_eq _ _ _ _ _).trans ?_
  obtain ⟨z, hz, e⟩ := bad_get ((number / 7 + 5 * (k : Int)) % 21) (by omega) (by omega)
  have e1 : mulD (.int 5) (.int (k : Int)) = some (.int (5 * k)) := mulD_l _ (by omega) (by omega)
  have e2 : modD (.int (number / 7 + 5 * (k : Int))) (.int 21) = some (.int ((number / 7 + 5 * (k : Int)) % 21)) := rfl
  have e3 : ixD (.lst [.str "", .str "0", .str "0 :", .str "0 : s", .str "0 : s1", .str "0 : s00", .str "0 : S0", .str "0 : not", .str "0 : both s0", .str "2 : s0", .str "0 : yes no", .str "0: s0", .str "0 :s0", .str "0  : s0", .str "0 : s0 ", .str " 0 : s0", .str "0 0 s0", .str "0 : : s0", .str "0 : s-1", .str "01 : s0", .str "0 : y"]) (.int ((number / 7 + 5 * (k : Int)) % 21)) = some (.str z) := e
  rw [e1, obs, addD_int, obs, e2, obs, e3, obs, obs, bad_none z hz, oms, obs, truthD_bl, asB_bl, oms, obs, asB_bl, obs, Bool.not_true, if_neg Bool.false_ne_true]
  rfl
theorem hand_loop2 (n : Nat) (number : Int) (j_deep : D) : ∀ (ks : List Nat) (s_k : Option Sl), (∀ k ∈ ks, k ≤ 1000) → ∃ s_k', forD (Tg.put (.nm 2)) (e_law_by_hand_b3 (Ph n)) (e_law_by_hand_k4 (Ph n)) (ks.map fun (i : Nat) => D.int (i : Int)) [some (.dat (.int number)), some (.dat j_deep), s_k, some (.dat (.lst (badL.map D.str))), none, none] =
    e_law_by_hand_k4 (Ph n) [some (.dat (.int number)), some (.dat j_deep), s_k', some (.dat (.lst (badL.map D.str))), none, none]
  | [], s_k, _ => ⟨s_k, rfl⟩
  | k :: ks, s_k, h => by
    obtain ⟨s_k', ih⟩ := hand_loop2 n number j_deep ks (some (.dat (.int (k : Int)))) fun j hj => h j (List.mem_cons_of_mem _ hj)
    refine ⟨s_k', ?_⟩
    rw [List.map_cons, forD_nm]
    exact (hand_b3 n number j_deep k (h k List.mem_cons_self) _).trans ih
theorem fine_one (n : Nat) (hn : 12 ≤ n) (z : Str) (s : List Bool) (f : Form) (e : z = textF s f) (h1 : 1 ≤ s.length) (h6 : s.length ≤ 6) (hf : f.lt s.length) (hd : f.depth ≤ 6) :
    (((((((readX [.str z]).bind fun x12 => some [x12]).bind (Ph n "written")).bind fun x13 => neD x13 (.str z)).bind asB).bind fun b14 => if b14 = false then (((((readX [.str z]).bind fun x15 => some [x15]).bind (Ph n "is_duel")).map fun x16 => D.bl (truthD x16)).bind asB).map fun b => D.bl (!b) else some (.bl b14)).bind asB).bind (fun b17 => if b17 = true then some (some (D.str z)) else some none) = some none := by
  have hf' : f.lt 10 := Form.lt_mono (by omega) hf
  have e8 : neD (.str (textF s f)) (.str (textF s f)) = some (.bl false) := by rw [neD_strR, deq_refl]; rfl
  rw [e, readX_text s f h1 h6 hf hd, obs, obs, written_spec s f n (by omega) hf' (by omega) (by omega), obs, e8, obs, asB_bl, obs, if_pos rfl, obs, duel_is_spec _ n (by omega), duel_ok s f h1 h6 hf hd, oms, obs, truthD_bl, asB_bl, oms, obs, asB_bl, obs, Bool.not_true, if_neg Bool.false_ne_true]
theorem hand_k4 (n : Nat) (hn : 12 ≤ n) (number : Int) (j_deep : D) (s_k : Option Sl) : e_law_by_hand_k4 (Ph n) [some (.dat (.int number)), some (.dat j_deep), s_k, some (.dat (.lst (badL.map D.str))), none, none] = some (.bl true) := by
  refine (e_law_by_hand_k4_eq _ _ _ _).trans ?_
  rw [compD_cons, compD_cons, compD_cons, compD_nil,
    fine_one n hn "0 : yes" [false] .yes (by decide +kernel) (by decide) (by decide) trivial (by decide),
    fine_one n hn "1 0 : either s1 not s0" [true, false] (.either (.is 1) (.not (.is 0))) (by decide +kernel) (by decide) (by decide) ⟨show (1 : Nat) < 2 by decide, show (0 : Nat) < 2 by decide⟩ (by decide),
    fine_one n hn "0 1 0 1 0 1 : both no s5" [false, true, false, true, false, true] (.both .no (.is 5)) (by decide +kernel) (by decide) (by decide) ⟨trivial, show (5 : Nat) < 6 by decide⟩ (by decide)]
  rfl
theorem by_hand (n : Nat) (hn : 12 ≤ n) (number : Int) : Ph (n + 1) "_law_by_hand" [.int number] = some (.bl true) := by
  rw [Ph_succ]
  refine (e_law_by_hand_eq _ _).trans ?_
  obtain ⟨s1, e1⟩ := hand_loop1 n number 8 0 none (by omega)
  have e0 : wF (nsF 0) = "s0" := by decide +kernel
  rw [e0] at e1
  refine Eq.trans e1 ?_
  refine (e_law_by_hand_k2_eq _ _ _ _).trans ?_
  obtain ⟨s2, e2⟩ := hand_loop2 n number (.str (wF (nsF (0 + 8)))) [0, 1, 2, 3, 4, 5] s1 (by decide)
  refine Eq.trans e2 ?_
  exact hand_k4 n hn number _ s2
/-! the law -/
theorem neD_self {a : D} (h : dep a ≤ 150) : neD a a = some (.bl false) := by rw [neD_of (.inl h), deq_refl]; rfl
theorem neS_self (x : Str) : neD (.str x) (.str x) = some (.bl false) := by rw [neD_strR, deq_refl]; rfl
theorem size_loop (s6 : List Bool) (h6 : s6.length = 6) (f : Form) (hf : f.lt 10) (hd : f.depth ≤ 4) (x3 x13 x19 x31 x36 x70 : D) (ns : List Int) : ∀ (ks : List Nat) (j : D) (s_size : Option Sl), (∀ k ∈ ks, 1 ≤ k ∧ k ≤ 6) → ∃ j' s',
    forD (Tg.put (.nm 15)) (e_law_b1 (Ph 39)) (e_law_k2 (Ph 39)) (ks.map fun (k : Nat) => D.int (k : Int)) [some (.dat (.scr ns)), some (.dat x3), some (.dat (rowD s6)), none, some (.dat f.d), some (.dat x13), some (.dat x19), none, some (.dat (.str (wF f))), some (.dat x31), some (.dat x36), some (.dat (.str "either")), some (.dat x70), some (.dat j), some (.dat (.lst ((usedF f).map fun (k : Nat) => D.int (k : Int)))), s_size] =
    e_law_k2 (Ph 39) [some (.dat (.scr ns)), some (.dat x3), some (.dat (rowD s6)), none, some (.dat f.d), some (.dat x13), some (.dat x19), none, some (.dat (.str (wF f))), some (.dat x31), some (.dat x36), some (.dat (.str "either")), some (.dat x70), some (.dat j'), some (.dat (.lst ((usedF f).map fun (k : Nat) => D.int (k : Int)))), s']
  | [], j, s_size, _ => ⟨j, s_size, rfl⟩
  | k :: ks, j, s_size, h => by
    obtain ⟨j', s', ih⟩ := size_loop s6 h6 f hf hd x3 x13 x19 x31 x36 x70 ns ks (.str (textF (s6.take k) f)) (some (.dat (.int (k : Int)))) fun i hi => h i (List.mem_cons_of_mem _ hi)
    refine ⟨j', s', ?_⟩
    rw [List.map_cons, forD_nm]
    obtain ⟨k1, k6⟩ := h k List.mem_cons_self
    exact (size_turn 39 (by omega) s6 h6 f hf hd k k1 k6 x3 x13 x19 x31 x36 x70 ns j _).trans ih
theorem hlaw (ns : List Int) (_ : ns.length ≤ 63) : Ph 40 "law" [.scr ns] = some (.bl true) := by
  rw [Ph_succ 39]
  refine (e_law_eq _ _).trans ?_
  obtain ⟨m0, h0, _, _⟩ := mixed_spec 37 ns 0 (by omega)
  obtain ⟨m1, h1, _, _⟩ := mixed_spec 37 ns 1 (by omega)
  obtain ⟨m2, h2, _, _⟩ := mixed_spec 37 ns 2 (by omega)
  obtain ⟨m3, h3, _, _⟩ := mixed_spec 37 ns 3 (by omega)
  obtain ⟨m4, h4, _, _⟩ := mixed_spec 37 ns 4 (by omega)
  have h0 : Ph 39 "_law_mixed" [.scr ns, .int 0] = some (.int m0) := h0
  have h1 : Ph 39 "_law_mixed" [.scr ns, .int 1] = some (.int m1) := h1
  have h2 : Ph 39 "_law_mixed" [.scr ns, .int 2] = some (.int m2) := h2
  have h3 : Ph 39 "_law_mixed" [.scr ns, .int 3] = some (.int m3) := h3
  have h4 : Ph 39 "_law_mixed" [.scr ns, .int 4] = some (.int m4) := h4
  obtain ⟨many, hm, hm1, hm4⟩ : ∃ many : Nat, 1 + m0 % 4 = (many : Int) ∧ 1 ≤ many ∧ many ≤ 4 := ⟨(1 + m0 % 4).toNat, by omega, by omega, by omega⟩
  have a1 : modD (.int m0) (.int 4) = some (.int (m0 % 4)) := rfl
  have a2 : addD (.int 1) (.int (m0 % 4)) = some (.int (many : Int)) := by rw [addD_int, hm]
  obtain ⟨s6, hs6, a3⟩ := comp_settings (f := fun d4 => (((((Ph 39 "_law_mixed" [.scr ns, .int 1]).bind fun x5 => some [x5, d4]).bind (Ph 39 "_law_drawn")).bind fun x6 => fdivD x6 (.int 4)).bind fun x7 => modD x7 (.int 2)).map some) [.int 0, .int 1, .int 2, .int 3, .int 4, .int 5] (fun d hd => by
    obtain ⟨k, hk, rfl⟩ : ∃ k : Nat, k ≤ 5 ∧ d = .int (k : Int) := by
      simp only [List.mem_cons, List.not_mem_nil, or_false] at hd
      rcases hd with rfl | rfl | rfl | rfl | rfl | rfl
      · exact ⟨0, by omega, rfl⟩
      · exact ⟨1, by omega, rfl⟩
      · exact ⟨2, by omega, rfl⟩
      · exact ⟨3, by omega, rfl⟩
      · exact ⟨4, by omega, rfl⟩
      · exact ⟨5, by omega, rfl⟩
    obtain ⟨m, hmm, _, _⟩ := drawn_spec 38 m1 k (by omega)
    have hmm : Ph 39 "_law_drawn" [.int m1, .int (k : Int)] = some (.int m) := hmm
    obtain ⟨b, hb⟩ := mod2 (m / 4)
    refine ⟨b, ?_⟩
    have c1 : fdivD (.int m) (.int 4) = some (.int (m / 4)) := rfl
    have c2 : modD (.int (m / 4)) (.int 2) = some (.int (m / 4 % 2)) := rfl
    rw [h1, obs, obs, hmm, obs, c1, obs, c2, oms, hb]; rfl)
  have hs6 : s6.length = 6 := hs6
  obtain ⟨f, hf0, hf, hfd⟩ := form_spec' (many := many) (deep := 4) (n := 39) (a := m2) (by omega) (by omega)
  obtain ⟨g, hg0, hg, hgd⟩ := form_spec' (many := many) (deep := 4) (n := 39) (a := m3) (by omega) (by omega)
  have hf0 : Ph 39 "_law_form" [.int m2, .int (many : Int), .int 4] = some f.d := hf0
  have hg0 : Ph 39 "_law_form" [.int m3, .int (many : Int), .int 4] = some g.d := hg0
  have hf' : f.lt 10 := Form.lt_mono (by omega) hf
  have hg' : g.lt 10 := Form.lt_mono (by omega) hg
  generalize hs : s6.take many = s
  have hsl : s.length = many := by rw [← hs, List.length_take, hs6]; omega
  have a4 : one tupleD [.lst (s6.map sd)] = some (rowD s6) := rfl
  have a5 : asI (.int (many : Int)) = some (many : Int) := rfl
  have a6 : sliceD (rowD s6) none (some (many : Int)) = some (rowD s) := by rw [cutRowTo, hs]
  have a7 : seqD (rowD s) = some (s.map sd) := rfl
  have a7' : seqD (rowD s6) = some (s6.map sd) := rfl
  have a8 : addD (.str (Str.join sp (s.map sideS))) (.str " : ") = some (.str (headF s)) := addZ (sides_join_sz _ (by omega)) colon_sz (by omega)
  have a8' : addD (.str (Str.join sp (s6.map sideS))) (.str " : ") = some (.str (headF s6)) := addZ (sides_join_sz _ (by omega)) colon_sz (by omega)
  have c2 : ∀ (t : List Bool) (q : Form), capL D.tup [rowD t, q.d] = some (duelD t q) := fun t q => rfl
  have wr : ∀ (t : List Bool) (q : Form), t.length ≤ 6 → q.lt 10 → q.depth ≤ 5 → Ph 39 "written" [duelD t q] = some (.str (textF t q)) := fun t q h1 h2 h3 => written_spec t q 39 (by omega) h2 (by omega) (by omega)
  have ln : lenD (.str (headF s)) = some (.int ((headF s).length : Int)) := rfl
  have ln2 : asI (.int ((headF s).length : Int)) = some ((headF s).length : Int) := rfl
  have zh := head_sz s (by omega)
  have zf := wF_sz f hf' hfd
  have zg := wF_sz g hg' hgd
  have cut : ∀ q : Form, sOk (wF q) = true → sliceD (.str (textF s q)) (some ((headF s).length : Int)) none = some (.str (wF q)) := fun q hq => by
    rw [text_eq s q (by omega)]
    show (if sOk (cutS (headF s ++ wF q) (some ((headF s).length : Int)) none) = true then _ else _) = _
    rw [cut_app, if_pos hq]
  have cf := cut f (zf.sOk (by omega))
  have cg := cut g (zg.sOk (by omega))
  have rd : ∀ q : Form, q.lt many → q.depth ≤ 5 → readX [.str (textF s q)] = some (duelD s q) := fun q h1 h2 => readX_text s q (by omega) (by omega) (by rw [hsl]; exact h1) (by omega)
  have t1 : addD (.str (headF s)) (.str (wF f)) = some (.str (textF s f)) := by
    rw [text_eq s f (by omega)]
    exact addZ zh zf (by omega)
  have t6 : addD (.str (headF s6)) (.str (wF f)) = some (.str (textF s6 f)) := by
    rw [text_eq s6 f (by omega)]
    exact addZ (head_sz s6 (by omega)) zf (by omega)
  have dp : ∀ q : Form, q.depth ≤ 5 → dep (duelD s q) ≤ 150 := fun q hq => duel_dep s q (by omega)
  rw [h0, obs, a1, obs, a2, obs, a3, oms, obs, obs, a4, obs, h2, obs, obs, hf0, obs, h3, obs, obs, hg0, obs, a5, obs, obs, a6, obs, a7, obs, sides_head s (by omega), obs, a8, obs]
  have cb : capL D.tup [rowD s, D.tup [.str "both", f.d, g.d]] = some (duelD s (.both f g)) := rfl
  have ce : capL D.tup [rowD s, D.tup [.str "either", f.d, g.d]] = some (duelD s (.either f g)) := rfl
  have cn : capL D.tup [rowD s, D.tup [.str "not", f.d]] = some (duelD s (.not f)) := rfl
  have z1 : Sz (" " : Str) 1 := ⟨by decide +kernel, by decide +kernel⟩
  have zb : Sz ("both" : Str) 4 := ⟨by decide +kernel, by decide +kernel⟩
  have ze : Sz ("either" : Str) 6 := ⟨by decide +kernel, by decide +kernel⟩
  have zn : Sz ("not " : Str) 4 := ⟨by decide +kernel, by decide +kernel⟩
  have b1 : addD (.str (headF s)) (.str "both") = some (.str (headF s ++ "both")) := addZ zh zb (by omega)
  have b2 : addD (.str (headF s ++ "both")) (.str " ") = some (.str (headF s ++ "both" ++ " ")) := addZ (zh.app zb) z1 (by omega)
  have b3 : addD (.str (headF s ++ "both" ++ " ")) (.str (wF f)) = some (.str (headF s ++ "both" ++ " " ++ wF f)) := addZ ((zh.app zb).app z1) zf (by omega)
  have b4 : addD (.str (headF s ++ "both" ++ " " ++ wF f)) (.str " ") = some (.str (headF s ++ "both" ++ " " ++ wF f ++ " ")) := addZ (((zh.app zb).app z1).app zf) z1 (by omega)
  have b5 : addD (.str (headF s ++ "both" ++ " " ++ wF f ++ " ")) (.str (wF g)) = some (.str (textF s (.both f g))) := by
    rw [text_eq s _ (by omega), wF_both, addZ ((((zh.app zb).app z1).app zf).app z1) zg (by omega)]
    simp only [str_assoc]
  have d1 : addD (.str (headF s)) (.str "either") = some (.str (headF s ++ "either")) := addZ zh ze (by omega)
  have d2 : addD (.str (headF s ++ "either")) (.str " ") = some (.str (headF s ++ "either" ++ " ")) := addZ (zh.app ze) z1 (by omega)
  have d3 : addD (.str (headF s ++ "either" ++ " ")) (.str (wF f)) = some (.str (headF s ++ "either" ++ " " ++ wF f)) := addZ ((zh.app ze).app z1) zf (by omega)
  have d4 : addD (.str (headF s ++ "either" ++ " " ++ wF f)) (.str " ") = some (.str (headF s ++ "either" ++ " " ++ wF f ++ " ")) := addZ (((zh.app ze).app z1).app zf) z1 (by omega)
  have d5 : addD (.str (headF s ++ "either" ++ " " ++ wF f ++ " ")) (.str (wF g)) = some (.str (textF s (.either f g))) := by
    rw [text_eq s _ (by omega), wF_either, addZ ((((zh.app ze).app z1).app zf).app z1) zg (by omega)]
    simp only [str_assoc]
  have k1 : addD (.str (headF s)) (.str "not ") = some (.str (headF s ++ "not ")) := addZ zh zn (by omega)
  have k2 : addD (.str (headF s ++ "not ")) (.str (wF f)) = some (.str (textF s (.not f))) := by
    rw [text_eq s _ (by omega), wF_not, addZ (zh.app zn) zf (by omega)]
    simp only [str_assoc]
  have zt : Sz (textF s f) 400 := by rw [text_eq s f (by omega)]; exact (zh.app zf).mono (by omega)
  have u1 : addD (.str (textF s f)) (.str " ") = some (.str (textF s f ++ " ")) := addZ zt z1 (by omega)
  have u2 : addD (.str (textF s f ++ " ")) (.str (wF g)) = some (.str (textF s f ++ " " ++ wF g)) := addZ (zt.app z1) zg (by omega)
  have n1 : noneX [.str (headF s ++ "both" ++ " " ++ wF f)] = some (.bl true) := none_half s "both" (.inl rfl) f (by omega) (by omega) hf' hfd
  have n2 : noneX [.str (headF s ++ "either" ++ " " ++ wF f)] = some (.bl true) := none_half s "either" (.inr rfl) f (by omega) (by omega) hf' hfd
  have n3 : noneX [.str (textF s f ++ " " ++ wF g)] = some (.bl true) := by
    rw [text_eq s f (by omega)]
    exact none_two s f g (by omega) (by omega) hf' hfd hg' hgd
  have db : (Form.both f g).depth ≤ 5 := by show max f.depth g.depth + 1 ≤ 5; omega
  have de : (Form.either f g).depth ≤ 5 := by show max f.depth g.depth + 1 ≤ 5; omega
  have dn : (Form.not f).depth ≤ 5 := by show f.depth + 1 ≤ 5; omega
  have w1 := wr s f (by omega) hf' (by omega)
  have w2 := wr s g (by omega) hg' (by omega)
  have w3 := wr s (.both f g) (by omega) ⟨hf', hg'⟩ db
  have w4 := wr s (.either f g) (by omega) ⟨hf', hg'⟩ de
  have w5 : Ph 39 "written" [D.tup [rowD s6, f.d]] = some (.str (textF s6 f)) := wr s6 f (by omega) hf' (by omega)
  have r1 := rd f hf (by omega)
  have r2 := rd (.both f g) ⟨hf, hg⟩ db
  have r3 := rd (.either f g) ⟨hf, hg⟩ de
  have r4 := rd (.not f) hf dn
  have e1 := neD_self (dp f (by omega))
  have e2 := neD_self (dp _ db)
  have e3 := neD_self (dp _ de)
  have e4 := neD_self (dp _ dn)
  have sp1 : splitD (.str (wF f)) (.str " ") = some (.lst ((wordsF f).map D.str)) := by
    rw [split_ok (zf.sOk (by omega)) (Nat.le_trans zf.le (by omega)), pcs_join _ (words_ne f) (word_blank f hf')]
  have sp2 : ∀ l : List D, seqD (.lst l) = some l := fun l => rfl
  have ht : (¬ (true : Bool) = false) := by decide
  simp only [obs, c2 s f, c2 s g, w1, w2, ln, ln2, cf, cg, a7', sides_head s6 (by omega), a8', t1, r1, e1, asB_bl, if_true, w5, t6, neS_self, Bool.false_eq_true, if_false, cb, b1, b2, b3, b4, b5, w3, r2, e2, n1, oms, truthD_bl, Bool.not_true, u1, u2, n3, ce, d1, d2, d3, d4, d5, w4, r3, e3, n2, k1, k2, r4, cn, e4, sp1, sp2]
  rw [used_comp f hf', oms, obs]
  have rg : rng2 (.int 1) (.int 7) = some (([1, 2, 3, 4, 5, 6] : List Nat).map fun (k : Nat) => D.int (k : Int)) := by kernel_rfl
  rw [rg, obs]
  obtain ⟨j, sz, e⟩ := size_loop s6 hs6 f hf' hfd (.int (many : Int)) g.d (.str (headF s)) (.str (wF g)) (.str (headF s6)) (duelD s (.either f g)) ns [1, 2, 3, 4, 5, 6] (.str (textF s (.either f g))) none (by decide)
  refine Eq.trans e ?_
  refine (e_law_k2_eq _ _ _ _ _ _ _ _ _ _ _ _ _ _).trans ?_
  have q1 : addD (.str "1 0 1 0 1 0 1 : ") (.str (wF f)) = some (.str ("1 0 1 0 1 0 1 : " ++ wF f)) := addZ (⟨by decide +kernel, by decide +kernel⟩ : Sz ("1 0 1 0 1 0 1 : " : Str) 20) zf (by omega)
  have q2 : addD (.str ": ") (.str (wF f)) = some (.str (": " ++ wF f)) := addZ (⟨by decide +kernel, by decide +kernel⟩ : Sz (": " : Str) 2) zf (by omega)
  have q3 := none_seven f hf' hfd
  have q4 := none_zero f hf' hfd
  have q5 : Ph 39 "_law_by_hand" [.int m4] = some (.bl true) := by_hand 38 (by omega) m4
  simp only [q1, obs, q3, oms, truthD_bl, asB_bl, Bool.not_true, if_true, q2, q4, Bool.false_eq_true, if_false, h4, q5]
end Sw
open PySem PySem.W PySem.Calls PyProof.Rows
set_option maxRecDepth 100000 in
set_option maxHeartbeats 0 in
theorem PySem.Challenge.cw_switchduel_k04_whole_texts_of_parts_holds : PySem.Challenge.rw_switchduel_k04_whole_texts_of_parts.Holds := by
  w_on; o_law
  refine HandSHeadRun.head_any (r := OpenLaw.row PySem.Challenge.rw_switchduel_k04_whole_texts_of_parts) (q := view (OpenLaw.row PySem.Challenge.rw_switchduel_k04_whole_texts_of_parts).prog [25]) (H := Sw.hkR) (ob := Sw.obR) (M := 3000) (loose := Sw.looseR) (d := HandSHeadRun.topDef (OpenLaw.row PySem.Challenge.rw_switchduel_k04_whole_texts_of_parts).prog 25) (kwd := []) Sw.obR_eq
    (by kernel_rfl) (fun s => by kernel_rfl) Sw.runR (by kernel_rfl) (by kernel_rfl) (by kernel_rfl) (by rfl) (by first | assumption | decide +kernel) (by decide +kernel) ⟨rfl, rfl, rfl, rfl, rfl, by decide +kernel⟩ ?hw ?hc
  case hw => w_witness2
  case hc =>
    exact Sw.walkM (l := PySem.Challenge.rw_switchduel_k04_whole_texts_of_parts) (P := Sw.defsR) (gl := Sw.glR) (cs := Sw.csR) (ts := Sw.tsR) (xb := Sw.xbR) (ms := Sw.msR) (n := 40) (r := Sw.rlaw) rfl (by kernel_rfl) (by kernel_rfl) ⟨rfl, by decide, by decide⟩ (by kernel_rfl) (by kernel_rfl) Sw.ok_all Sw.bd_all (by decide +kernel) (by decide +kernel) Sw.hGR Sw.hlaw
