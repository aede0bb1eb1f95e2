import PyProof.Rows.All
import HandS.Conv
import HandS.DictComp
import HandS.Ends
import HandS.ForMost
import HandS.IsInst
import HandS.More
import HandS.TupAny
import HandS.TupSets
import HandS.Walk
import HandS.Wide
import HandS.Zip
import KE.GoesEnum
import KE.KDictDisplayH
import KE.KDictWalk
import KE.KeyNested
import OpenK.AllK
import PyProof.EqAt
import PyProof.EqKinds
import PyProof.TupleCall
import Wide.All
import Wide.FinOn
import PySem.Challenge.RW_takenover_k70_whole_fewest_rows_done
set_option Elab.async false
set_option linter.all false
set_option maxRecDepth 100000
set_option maxHeartbeats 4000000
/-! own rules, 1: enumerate of a tuple; the items of a dict whose keys are tuples -/
namespace K70
open PySem PySem.Spec PyProof.Rows L2
/-! ### enumerate(t), t a tuple -/
theorem enum_newT (t : Addr) (items : Array Value) : Meets (Builtin.«enumerate.__new__» ⟨[.type "enumerate", .ref t], []⟩) (fun _ R s => s.heap.IsTuple t items ∧
    R (.ok (.ret (.ref (s.heap.push { cls := .type "tuple_iterator", data := .fields #[.ref t, .int 0 0] }).objs.size)))
      { s with heap := (s.heap.push { cls := .type "tuple_iterator", data := .fields #[.ref t, .int 0 0] }).push { cls := .type "enumerate", data := .fields #[.none, .bool false, .ref s.heap.objs.size, rawInt 0, .none, .none] } }) :=
  .of_wp fun prog w A R s hh => by
    obtain ⟨hp, g, d, tk, os⟩ := s
    obtain ⟨ht, hR⟩ := hh
    have ht : Heap.IsTuple (Shared.heap ⟨hp, g, d, tk, os⟩) t items := ht
    have hsub := sub_enumerate
    have it : ∀ {A' : Around} {E : Value → Shared → Prop} {Q : Value → Shared → Prop}, Q (.ref hp.objs.size) ⟨hp.push { cls := .type "tuple_iterator", data := .fields #[.ref t, .int 0 0] }, g, d, tk, os⟩ →
        wpAny (model prog w) A' (pyIter (.ref t)) Q E ⟨hp, g, d, tk, os⟩ := fun q => wpAny_pyIter_tuple ht q
    wp_walk using it
    refine wpAny_stack_any fun st => wpAny_pure ?_
    split
    · rename_i c _ _ _ _ _
      cases (c == Value.type "enumerate") <;> (wp_walk using it; exact ⟨_, rfl, hR⟩)
    · wp_walk using it
      exact ⟨_, rfl, hR⟩
/-- what a for over enumerate(t) goes through; the tuple at a holds xs -/
def ItE (a : Addr) (xs : List V) : It where
  go := fun i H => H a = some (.tup xs) ∧ i < xs.length
  yld := fun i H v H' => ∃ T x, xs[i]? = some x ∧ v = .ref T ∧ H T = none ∧ H' = upd H T (.tup [.int (i : Nat), x])
  stop := fun i H => H a = some (.tup xs) ∧ xs.length ≤ i
abbrev StE (a : Addr) (n : Nat) (its : Array Value) (e it : Addr) (i : Nat) (h : Heap) : Prop := (∃ old, IsEnum h e it ((i : Nat) : Int) old) ∧ h.IsTupleIter it a i ∧ e ≠ it ∧ a ≠ it
theorem turn_enumT {P : Program} {w : World} {K : PySem.W.Frag} {elts : List Expr} {kk : Nat} {tpos : Pos} (a e it : Addr) (xs : List V) :
    Turn P w K (.Tuple elts kk tpos) (ItE a xs) [e, it] e (StE a xs.length #[] e it) where
  mem := List.mem_cons_self
  obj := fun i h st b hb => by
    obtain ⟨⟨old, he⟩, ⟨o, ho, hc, hd⟩, _⟩ := st
    rcases List.mem_cons.mp hb with z | z
    · subst z
      exact ⟨_, he, fun v q => nomatch q⟩
    · obtain rfl := List.mem_singleton.mp z
      exact ⟨o, ho, fun v q => by rw [hd] at q; cases q⟩
  keep := fun i h h' st k => by
    obtain ⟨⟨old, he⟩, hi, r⟩ := st
    exact ⟨⟨old, k e (by simp) _ he⟩, hi.at fun o q => k it (by simp) o q, r⟩
  item := by
    intro X hP hw hK hc i pins s σ H E I hf st hg
    subst hP hw hK
    obtain ⟨⟨old, he⟩, hit, hei, hai⟩ := st
    obtain ⟨ha, hlt⟩ := hg
    obtain ⟨its, rv, pt, hz⟩ := I.tuple (.of ha)
    have hlen := rv.length
    have hel : e < s.heap.objs.size := Heap.lt_size he
    have hil : it < s.heap.objs.size := by obtain ⟨_, q, _⟩ := hit; exact Heap.lt_size q
    have hal : a < s.heap.objs.size := pt.lt
    have hea : e ≠ a := fun z => by
      have q := (hf e (by simp)).1
      rw [z, ha] at q
      cases q
    have D := Draws.tuple (prog := X.prog) (w := X.w) (A := X.A.in1) (I.ok.hd hc) it a hai its.toArray
    refine wpAny_pyNext_enum_itemC D he ⟨hit, pt⟩ (by simpa using hlen ▸ hlt) hei (by simp [hei, hea]) fun x h' tk hx ho hs' hT hsz hk => ?_
    refine ⟨_, rfl, wpAny_letOwnedTupleGo_enum (s := { s with heap := h', toks := tk + 1 }) ho fun h2 he2 sb => ?_⟩
    obtain ⟨xv, hxv⟩ : ∃ xv, xs[i]? = some xv := ⟨xs[i], List.getElem?_eq_getElem hlt⟩
    obtain ⟨u, hu, ru⟩ := rv.get hxv
    have hx' : its[i]? = some x := by simpa using hx
    have eu : u = x := Option.some.inj (hu.symm.trans hx')
    subst eu
    have hT2 : h2.get? s.heap.objs.size = some { cls := .type "tuple", data := .seq #[.int i tk, u] } := (sb.2 _ (Nat.ne_of_gt hel)).trans hT
    have new : ObjOk X.prog X.w (upd H s.heap.objs.size (.tup [.int (i : Nat), xv])) h2 s.heap.objs.size (.tup [.int (i : Nat), xv]) :=
      ⟨by show 2 ≤ sizeLine; decide, [.int i tk, u], .cons ⟨_, rfl⟩ (.cons ru .nil), ⟨_, hT2, rfl, _, rfl⟩⟩
    have I2 : Inv X pins σ (upd H s.heap.objs.size (.tup [.int (i : Nat), xv])) { s with heap := h2, toks := tk + 1 } := by
      refine I.turnedNew (ch := [e, it]) (fun b ob hb q => ?_) hf (Nat.le_refl _) new
      have n1 : b ≠ e := fun z => hb (by simp [z])
      have n2 : b ≠ it := fun z => hb (by simp [z])
      exact (sb.2 b n1).trans (hk b ob n1 n2 q)
    refine ⟨.ref s.heap.objs.size, _, I2, rfl, ⟨_, xv, hxv, rfl, I.hok.fresh (Nat.le_refl _), rfl⟩, ⟨⟨u, ?_⟩, hs'.1.at fun o q => (sb.2 it (Ne.symm hei)).trans q, hei, hai⟩, fun b hb => ?_⟩
    · have e1 : ((i + 1 : Nat) : Int) = (i : Int) + 1 := by omega
      rw [e1]
      exact he2
    · have hb' : b < s.heap.objs.size := by
        rcases List.mem_cons.mp hb with z | z
        · rw [z]; exact hel
        · rw [List.mem_singleton.mp z]; exact hil
      rw [upd_ne (Nat.ne_of_lt hb')]
      exact (hf b hb).1
  done := by
    intro X hP hw hK hc i pins s σ H E I hf st hg
    subst hP hw hK
    obtain ⟨⟨old, he⟩, hit, hei, hai⟩ := st
    obtain ⟨ha, hge⟩ := hg
    obtain ⟨its, rv, pt, hz⟩ := I.tuple (.of ha)
    have hlen := rv.length
    obtain ⟨f0, f1, f2, f3, f4, f5⟩ := hf it (by simp)
    -- the iterator draws nothing at i: the same as at its end
    have D : Draws X.prog X.w X.A.in1 it [it, a] i (fun j v => False) (fun j h => h.IsTupleIter it a j ∧ h.IsTuple a its.toArray ∧ j = i) :=
      { live := fun _ _ st => let ⟨o, ho, _⟩ := st.1; ⟨o, ho⟩
        frame := fun _ _ _ st hk => ⟨st.1.at fun o e => hk it (by simp) o e, st.2.1.at fun o e => hk a (by simp) o e, st.2.2⟩
        item := fun j s Q E hj st hQ => absurd st.2.2 (Nat.ne_of_lt hj)
        done := fun s Q E st hE => wpAny_nextOf_tuple_end (I.ok.hd hc) st.1 st.2.1 (Array.getElem?_eq_none (by rw [List.size_toArray]; omega)) hE }
    exact wpAny_pyNext_enum_endD D he ⟨hit, pt, rfl⟩ fun h' eb => ⟨rfl, I.turned (t' := s.toks) (fun b o hb q => eb b o hb q) f0 f1 f3 f4 f5⟩
  self := fun A i s Q E st h => by
    obtain ⟨⟨old, he⟩, _⟩ := st
    exact wpAny_pyIter_enum he h
def iEnT (ta : TA) : TI := fun σ H R => ta σ H fun vs H1 => ∃ a xs, vs = [.ref a] ∧ H1 a = some (.tup xs) ∧ R (ItE a xs) H1
theorem pi_enumT {X : Cx} {e : Expr} {ta : TA} {p pos tpos : Pos} {elts : List Expr} {kk : Nat} (hg : Gl X "enumerate") (hm : X.mg "enumerate" = none) (ha : PA X [e] ta)
    (hs : starEach [e] X.env = [(false, eval e X.env)] := by rfl) : PI X (.Tuple elts kk tpos) (.Call (.Name "enumerate" p) [e] [] pos) (iEnT ta) := by
  refine ⟨fun pins s σ H R I h => Call_ (ld_blt I hg hm boot_enumerate (PyProof.Rows.callWith_type1 (thn (ha.run pos pins s σ H _ I h) fun us s1 hr => ?_) hs rfl))⟩
  obtain ⟨vs, H1, I1, r1, a, xs, ex, hq, q⟩ := hr
  subst ex
  cases r1 with
  | cons r rr =>
    cases rr
    cases r
    obtain ⟨its, rv, pt, hz⟩ := I1.tuple (.of hq)
    have hal : a < s1.heap.objs.size := pt.lt
    refine callType_new F.called_enumerate (by decide) (F.typeCall_enumerate_1 _) (F.newCall_enumerate_1 _) (fun obj => F.args_object_init_2 obj _) F.entry_enumerate_new (enum_newT a its.toArray) ⟨pt, ?_⟩
    have hz : (s1.heap.push { cls := .type "tuple_iterator", data := .fields #[.ref a, .int 0 0] }).objs.size = s1.heap.objs.size + 1 := Heap.size_push ..
    generalize hh1 : s1.heap.push { cls := .type "tuple_iterator", data := .fields #[.ref a, .int 0 0] } = h1 at hz
    have hi1 : h1.get? s1.heap.objs.size = some { cls := .type "tuple_iterator", data := .fields #[.ref a, .int 0 0] } := by rw [← hh1]; exact Heap.get?_push_size _ rfl
    have k1 : ∀ b o, s1.heap.get? b = some o → h1.get? b = some o := fun b o z => by rw [← hh1]; exact Heap.get?_push_of_some _ z
    show _ ∧ _
    rw [hz]
    have he : IsEnum (h1.push { cls := .type "enumerate", data := .fields #[.none, .bool false, .ref s1.heap.objs.size, rawInt 0, .none, .none] }) (s1.heap.objs.size + 1) s1.heap.objs.size 0 .none := by
      have z := Heap.get?_push_size h1 (o := { cls := .type "enumerate", data := .fields #[.none, .bool false, .ref s1.heap.objs.size, rawInt 0, .none, .none] }) rfl
      rw [hz] at z
      exact z
    refine ⟨⟨_, he, rfl⟩, wpAny_pyIter_enum he ?_⟩
    refine ⟨s1.heap.objs.size + 1, [s1.heap.objs.size + 1, s1.heap.objs.size], _, _, H1, rfl, I1.kept (t' := s1.toks) fun b o z => Heap.get?_push_of_some _ (k1 b o z), turn_enumT a (s1.heap.objs.size + 1) s1.heap.objs.size xs, ?_, fun b hb => ?_, q⟩
    · exact ⟨⟨.none, he⟩, ⟨_, Heap.get?_push_of_some _ hi1, rfl, rfl⟩, Nat.succ_ne_self _, Nat.ne_of_lt hal⟩
    · have hle : s1.heap.objs.size ≤ b := by
        rcases List.mem_cons.mp hb with z | z
        · rw [z]; exact Nat.le_succ _
        · rw [List.mem_singleton.mp z]; exact Nat.le_refl _
      exact I1.fpOk hle (I1.hok.fresh hle)

/-! ### for k, v in d.items(), the keys of d tuples; d locked -/
def ItI (d : Addr) (o : Obj) (kvs : List (List Key × V)) : It where
  go := fun i H => H d = some (.frz o (.dT kvs)) ∧ i < kvs.length
  yld := fun i H x H' => ∃ T k v b, kvs[i]? = some (k, v) ∧ x = .ref T ∧ H T = none ∧ H b = some (.tup (k.map kV)) ∧ H' = upd H T (.tup [.ref b, v])
  stop := fun i H => H d = some (.frz o (.dT kvs)) ∧ kvs.length ≤ i
/-- the locked dict, its entries and their values -/
theorem frzT_val {X : Cx} {pins : List (Addr × Obj)} {σ : L2.St} {H : Hp} {s : Shared} {d : Addr} {o : Obj} {kvs : List (List Key × V)} (I : Inv X pins σ H s) (h : H d = some (.frz o (.dT kvs))) :
    (d == sysModules) = false ∧ ∃ (es : Array DictEntry) (ep : Nat), o.data = .dict es ep ∧ s.heap.DictRaw d es ep ∧ es.size = kvs.length ∧
      ∀ (i : Nat) (hi : i < es.size), ∃ (k : List Key) (v : V) (b : Addr), kvs[i]? = some (k, v) ∧ es[i].key = .ref b ∧ H b = some (.tup (k.map kV)) ∧ RelV v es[i].val := by
  obtain ⟨hd, z, hs, xs, pr, o', es, ep, ho, hx, hdt, he, _⟩ := I.hok d _ h
  rw [hd] at ho
  cases ho
  have l1 : es.size = xs.length := size_of_entries he
  have l2 : kvs.length = xs.length := Paired.length pr
  refine ⟨hs, es, ep, hdt, ⟨o, hd, hx, hdt⟩, by omega, fun i hi => ?_⟩
  have hik : i < kvs.length := by omega
  obtain ⟨q, hq, e1, e2, e3⟩ := paired_get pr (List.getElem?_eq_getElem hik)
  have z := entry_at he i
  rw [hq, Array.getElem?_eq_getElem hi] at z
  have z' : es[i] = entryOfKey (tupleKind (mixKind X.prog X.w)) q := Option.some.inj z
  refine ⟨kvs[i].1, kvs[i].2, q.2.1, List.getElem?_eq_getElem hik, ?_, e2, ?_⟩
  · rw [z'] <;> rfl
  · rw [z']; exact e3
theorem turn_itemsT {P : Program} {w : World} {K : PySem.W.Frag} {elts : List Expr} {kk : Nat} {tpos : Pos} {d : Addr} {o : Obj} {es : Array DictEntry} {ep : Nat} {kvs : List (List Key × V)} (it : Addr) (hod : o.data = .dict es ep) :
    Turn P w K (.Tuple elts kk tpos) (ItI d o kvs) [it] it (fun i h => ∃ ok ov, IsItemIter h it d i kvs.length ep ok ov) where
  mem := List.mem_singleton.mpr rfl
  obj := fun i h st b hb => by
    obtain rfl := List.mem_singleton.mp hb
    obtain ⟨ok, ov, e⟩ := st
    exact ⟨_, e, fun v z => nomatch z⟩
  keep := fun i h h' st k => by
    obtain ⟨ok, ov, e⟩ := st
    exact ⟨ok, ov, k it (by simp) _ e⟩
  item := by
    intro X hP hw hK hc i pins s σ H E I hf st hg
    subst hP hw hK
    obtain ⟨hd, hi⟩ := hg
    obtain ⟨hs, es', ep', hdt, hraw, hsz, ent⟩ := frzT_val I hd
    obtain ⟨rfl, rfl⟩ := dict_ep hod hdt
    obtain ⟨ok, ov, he⟩ := st
    have hlt : it < s.heap.objs.size := Heap.lt_size he
    have hi' : i < es'.size := by omega
    obtain ⟨k, v, b, hkv, hkey, hb, hval⟩ := ent i hi'
    rw [← hsz] at he
    refine wpAny_pyNext_items_item_raw he hraw hi' fun h1 ho hT hz hk => ?_
    refine ⟨_, rfl, wpAny_letOwnedTupleGo_items (s := { s with heap := h1 }) ho fun h2 he2 sb => ?_⟩
    have hT2 : h2.get? s.heap.objs.size = some { cls := .type "tuple", data := .seq #[es'[i].key, es'[i].val] } := (sb.2 _ (Nat.ne_of_gt hlt)).trans hT
    have new : ObjOk X.prog X.w (upd H s.heap.objs.size (.tup [.ref b, v])) h2 s.heap.objs.size (.tup [.ref b, v]) :=
      ⟨by show 2 ≤ sizeLine; decide, [es'[i].key, es'[i].val], .cons hkey (.cons hval .nil), ⟨_, hT2, rfl, _, rfl⟩⟩
    have I1 : Inv X pins σ (upd H s.heap.objs.size (.tup [.ref b, v])) { s with heap := h2 } := by
      refine I.turnedNew (t' := s.toks) (ch := [it]) (fun c ob hc q => ?_) hf (Nat.le_refl _) new
      have n1 : c ≠ it := fun z => hc (by simp [z])
      exact (sb.2 c n1).trans (hk c ob n1 q)
    refine ⟨.ref s.heap.objs.size, _, I1, rfl, ⟨_, k, v, b, hkv, rfl, I.hok.fresh (Nat.le_refl _), hb, rfl⟩, ⟨_, _, by rw [← hsz]; exact he2⟩, fun c hcm => ?_⟩
    rw [List.mem_singleton.mp hcm, upd_ne (Nat.ne_of_lt hlt)]
    exact (hf it (by simp)).1
  done := by
    intro X hP hw hK hc i pins s σ H E I hf st hg
    subst hP hw hK
    obtain ⟨hd, hi⟩ := hg
    obtain ⟨hs, es', ep', hdt, hraw, hsz, ent⟩ := frzT_val I hd
    obtain ⟨rfl, rfl⟩ := dict_ep hod hdt
    obtain ⟨ok, ov, he⟩ := st
    obtain ⟨f0, f1, f2, f3, f4, f5⟩ := hf it (by simp)
    rw [← hsz] at he
    exact wpAny_pyNext_items_end_raw (I.ok.hd hc) he hraw (by omega) fun h' eb => ⟨rfl, I.turned (t' := s.toks) (fun c ob hb e => eb c ob hb e) f0 f1 f3 f4 f5⟩
  self := fun A i s Q E st h => by
    obtain ⟨_, _, e⟩ := st
    exact PySem.W.kcp_self e h
def iItT (td : TE) : TI := fun σ H R => td σ H fun x H1 => ∃ d o kvs, x = .ref d ∧ H1 d = some (.frz o (.dT kvs)) ∧ R (ItI d o kvs) H1
theorem pi_itemsT {X : Cx} {e : Expr} {td : TE} {elts : List Expr} {kk : Nat} {tpos apos cpos : Pos} (he : PE X e td) (hbase : attributeBase e "items" X.env (eval e X.env) = eval e X.env := by rfl) (hline : (apos.endLine == cpos.line) = true := by rfl) :
    PI X (.Tuple elts kk tpos) (.Call (.Attribute e "items" apos) [] [] cpos) (iItT td) := by
  refine ⟨fun pins s σ H R I h => wpAny_Call_method (T := "dict") (id := "dict.items") hbase rfl hline F.plainAttrs_dict F.slot_dict_items F.type_dict_items (thn (he.run pins s σ H _ I h) fun u s1 hr => ?_)⟩
  obtain ⟨x, H1, I1, rx, d, o, kvs, ex, hd, q⟩ := hr
  subst ex
  obtain rfl : u = Value.ref d := rx
  obtain ⟨hs, es, ep, hdt, hraw, hsz, ent⟩ := frzT_val I1 hd
  obtain ⟨o2, hgd, hx, _⟩ := id hraw
  have I2 : Inv X pins σ H1 { s1 with heap := s1.heap.push { cls := .type "dict_items", data := .fields #[.ref d] } } := I1.kept (t' := s1.toks) fun b ob z => Heap.get?_push_of_some _ z
  refine ⟨hraw.typeIs, fun b z => ?_, ?_⟩
  · cases z
    exact ⟨o2, hgd, hx.2.1⟩
  · show wpAny _ _ (callWith cpos (.builtin "dict.items") [.ref d] [] []) _ X.xe s1
    have fin : wpAny (model X.prog X.w) X.A (pyIter (.ref s1.heap.objs.size)) (PIE X pins σ (.Tuple elts kk tpos) R) X.xe { s1 with heap := s1.heap.push { cls := .type "dict_items", data := .fields #[.ref d] } } := by
      refine wpAny_pyIter_items_raw (d := d) (es := es) (ep := ep) ⟨_, Heap.get?_push_size _ rfl, rfl, rfl⟩ (hraw.at fun _ z => Heap.get?_push_of_some _ z) (pi_one (tk := s1.toks) I2 _ (turn_itemsT _ hdt) ⟨.none, .none, ?_⟩ q)
      rw [hsz]
      exact Heap.get?_push_size _ rfl
    exact method_meetsIn F.slot_dict_items F.entry_dict_items rfl (PySem.evalArgs_none ⟨rfl, hraw.typeIs, F.args_dict_items_1 _, _, meets_dict_items_raw d hs, ⟨es, ep, hraw⟩, fin⟩)
end K70

set_option maxRecDepth 100000
set_option maxHeartbeats 4000000
/-! own rules, 2: dicts whose keys are pairs (number, tuple of ints); {t: e} with a tuple; {t: e for t in ..}; repr of data -/
namespace K70
open PySem PySem.Spec PyProof.Rows L2
/-! ### a dict whose keys are pairs (m, t), t a tuple of ints -/
abbrev PK := Nat × List Int
def nk (k : PK) : NestedKey := .tup [.num (k.1 : Int), .tup (k.2.map NestedKey.num)]
theorem num_inj : ∀ {a b : List Int}, a.map NestedKey.num = b.map NestedKey.num → a = b
  | [], [], _ => rfl
  | [], _ :: _, e => by simp at e
  | _ :: _, [], e => by simp at e
  | x :: xs, y :: ys, e => by
    rw [List.map_cons, List.map_cons] at e
    injection e with e1 e2
    injection e1 with e1
    rw [e1, num_inj e2]
theorem nk_inj {a b : PK} (e : nk a = nk b) : a = b := by
  obtain ⟨m, es⟩ := a
  obtain ⟨n, fs⟩ := b
  unfold nk at e
  injection e with e
  injection e with e1 e2
  injection e1 with e1
  injection e2 with e2 _
  injection e2 with e2
  have h1 : m = n := Int.ofNat_inj.mp e1
  have h2 : es = fs := num_inj e2
  rw [h1, h2]
theorem depth_nums : ∀ es : List Int, NestedKey.depthAll (es.map NestedKey.num) = 0
  | [] => rfl
  | e :: es => by
    rw [List.map_cons, NestedKey.depthAll, depth_nums es]
    rfl
theorem depth_nk (k : PK) : (nk k).depth ≤ 8 := by
  unfold nk
  simp only [NestedKey.depth, NestedKey.depthAll, depth_nums]
  omega
/-- at a stands the key k -/
def KeyAt (H : Hp) (k : PK) (a : Addr) : Prop := ∃ b, H a = some (.tup [.int (k.1 : Nat), .ref b]) ∧ H b = some (.tup (k.2.map V.int))
theorem nums_are {h : Heap} : ∀ {es : List Int} {us : List Value}, Vals (es.map V.int) us → NestedAll h (es.map NestedKey.num) us
  | [], _, r => by rw [List.map_nil] at r; cases r; exact .nil
  | e :: es, _, r => by
    rw [List.map_cons] at r
    cases r with
    | cons q t =>
      obtain ⟨k, rfl⟩ := q
      exact .cons (.int e k) (nums_are t)
theorem KeyAt.is {P : Program} {w : World} {H : Hp} {h : Heap} {k : PK} {a : Addr} (ok : HOk P w H h) (q : KeyAt H k a) : (nestedKind P w).is h (nk k) a := by
  obtain ⟨b, ha, hb⟩ := q
  obtain ⟨_, its, r, o, h1, h2, n, h3⟩ := (show ObjOk P w H h a (.tup [.int (k.1 : Nat), .ref b]) from ok a _ ha)
  obtain ⟨_, it2, r2, o2, g1, g2, n2, g3⟩ := (show ObjOk P w H h b (.tup (k.2.map V.int)) from ok b _ hb)
  refine ⟨?_, depth_nk k⟩
  cases r with
  | cons r1 rr =>
    cases rr with
    | cons r2' rr =>
      cases rr
      obtain ⟨t, rfl⟩ := r1
      cases r2'
      exact .tup h1 h2 h3 (.cons (.int _ t) (.cons (.tup g1 g2 g3 (by simpa using nums_are r2)) .nil))
theorem KeyAt.keeps {H H' : Hp} {k : PK} {a : Addr} (q : KeyAt H k a) (t : ∀ b xs, H b = some (.tup xs) → H' b = some (.tup xs)) : KeyAt H' k a := by
  obtain ⟨b, h1, h2⟩ := q
  exact ⟨b, t _ _ h1, t _ _ h2⟩
abbrev NRel : PK × Addr × V → NestedKey × Addr × Value → Prop := fun p q => q.1 = nk p.1 ∧ q.2.1 = p.2.1 ∧ RelV p.2.2 q.2.2
def NdP (P : Program) (w : World) (d : Addr) (L : List (PK × Addr × V)) (h : Heap) : Prop := (d == sysModules) = false ∧ ∃ xs : List (NestedKey × Addr × Value), Paired NRel L xs ∧
  ∃ o es ep, h.get? d = some o ∧ o.ExactDict ∧ o.data = .dict es ep ∧ es.toList = xs.map (entryOfKey (nestedKind P w)) ∧ (xs.map (·.1)).Nodup
def NdO (P : Program) (w : World) (d : Addr) (L : List (PK × Addr × V)) : HO := .ext (NdP P w d L)
/-- the dict at d holds kvs -/
def NdAt (P : Program) (w : World) (H : Hp) (d : Addr) (kvs : List (PK × V)) : Prop := ∃ L : List (PK × Addr × V), L.map (fun x => (x.1, x.2.2)) = kvs ∧ H d = some (NdO P w d L) ∧ ∀ x ∈ L, KeyAt H x.1 x.2.1
theorem NdAt.keeps {P : Program} {w : World} {H H' : Hp} {d : Addr} {kvs : List (PK × V)} (q : NdAt P w H d kvs) (e : ∀ o, H d = some o → H' d = some o) (t : ∀ b xs, H b = some (.tup xs) → H' b = some (.tup xs)) : NdAt P w H' d kvs := by
  obtain ⟨L, h1, h2, h3⟩ := q
  exact ⟨L, h1, e _ h2, fun x hx => (h3 x hx).keeps t⟩
theorem ndO_ok {P : Program} {w : World} {H : Hp} {h : Heap} {d : Addr} {L : List (PK × Addr × V)} (q : NdP P w d L h) : ObjOk P w H h d (NdO P w d L) := by
  refine ⟨q, ?_, fun h1 h2 z k => ?_⟩
  · obtain ⟨_, xs, _, o, _, _, ho, _⟩ := q
    exact ⟨o, ho⟩
  · obtain ⟨z0, xs, z1, o, es, ep, ho, r⟩ := z
    exact ⟨z0, xs, z1, o, es, ep, k o ho, r⟩
theorem nd_rd {P : Program} {w : World} {H : Hp} {h : Heap} {d : Addr} {L : List (PK × Addr × V)} (ok : HOk P w H h) (e : H d = some (NdO P w d L)) (hk : ∀ x ∈ L, KeyAt H x.1 x.2.1) :
    (d == sysModules) = false ∧ ∃ xs, Paired NRel L xs ∧ h.DictOfH (nestedKind P w) d xs := by
  obtain ⟨⟨z, xs, rel, o, es, ep, h1, h2, h3, h4, h5⟩, _⟩ := (show ObjOk P w H h d (NdO P w d L) from ok d _ e)
  refine ⟨z, xs, rel, o, es, ep, h1, h2, h3, h4, fun x hx => ?_, h5⟩
  have all : ∀ {l : List (PK × Addr × V)} {m : List (NestedKey × Addr × Value)}, Paired NRel l m → (∀ x ∈ l, KeyAt H x.1 x.2.1) → ∀ x ∈ m, (nestedKind P w).is h x.1 x.2.1 := by
    intro l m q
    induction q with
    | nil => intro _ x hx; exact nomatch hx
    | @cons p q ps qs hq t ih =>
      intro hl x hx
      rcases List.mem_cons.mp hx with e | hx
      · subst e
        obtain ⟨e1, e2, _⟩ := hq
        rw [e1, e2]
        exact (hl p List.mem_cons_self).is ok
      · exact ih (fun y hy => hl y (List.mem_cons_of_mem _ hy)) x hx
  exact all rel hk x hx
theorem nrel_val {L : List (PK × Addr × V)} {xs : List (NestedKey × Addr × Value)} (r : Paired NRel L xs) (k : PK) : RelO (valV (L.map fun x => (x.1, x.2.2)) k) ((atKey xs (nk k)).map (·.2)) := by
  induction r with
  | nil => exact True.intro
  | @cons p q ps qs h t ih =>
    obtain ⟨h1, _, h2⟩ := h
    rw [List.map_cons]
    by_cases e : p.1 = k
    · have e' : q.1 = nk k := by rw [h1, e]
      have b : atKey (q :: qs) (nk k) = some q.2 := by simp [atKey, List.find?_cons, e']
      rw [valV_pos (p := (p.1, p.2.2)) e, b]
      exact h2
    · have e' : ¬ q.1 = nk k := fun z => e (nk_inj (h1.symm.trans z))
      have b : atKey (q :: qs) (nk k) = atKey qs (nk k) := by simp [atKey, List.find?_cons, e']
      rw [valV_neg (p := (p.1, p.2.2)) e, b]
      exact ih
theorem nrel_repl {L : List (PK × Addr × V)} {xs : List (NestedKey × Addr × Value)} (r : Paired NRel L xs) (k : PK) {y : V} {u : Value} (ry : RelV y u) :
    Paired NRel (L.map fun p => if p.1 = k then (p.1, p.2.1, y) else p) (xs.map (putAt (nk k) u)) := by
  induction r with
  | nil => exact .nil
  | @cons p q ps qs h t ih =>
    rw [List.map_cons, List.map_cons]
    refine .cons ?_ ih
    obtain ⟨h1, h2, h3⟩ := h
    unfold putAt
    by_cases e : p.1 = k
    · have e' : q.1 = nk k := by rw [h1, e]
      rw [if_pos e, if_pos e']
      exact ⟨h1, h2, ry⟩
    · rw [if_neg e, if_neg fun z => e (nk_inj (h1.symm.trans z))]
      exact ⟨h1, h2, h3⟩
/-- L behind d[k] = v, k's tuple at b -/
def putL (L : List (PK × Addr × V)) (k : PK) (b : Addr) (v : V) : List (PK × Addr × V) :=
  if (valV (L.map fun x => (x.1, x.2.2)) k).isSome = true then L.map fun p => if p.1 = k then (p.1, p.2.1, v) else p else L ++ [(k, b, v)]
theorem putL_kvs (L : List (PK × Addr × V)) (k : PK) (b : Addr) (v : V) : (putL L k b v).map (fun x => (x.1, x.2.2)) = putK (L.map fun x => (x.1, x.2.2)) k v := by
  unfold putL putK
  rw [valV_any]
  split
  · rw [List.map_map, List.map_map]
    refine List.map_congr_left fun p _ => ?_
    show ((if p.1 = k then (p.1, p.2.1, v) else p).1, (if p.1 = k then (p.1, p.2.1, v) else p).2.2) = if p.1 = k then (p.1, v) else (p.1, p.2.2)
    split <;> rfl
  · rw [List.map_append] <;> rfl
theorem nrel_put {L : List (PK × Addr × V)} {xs : List (NestedKey × Addr × Value)} (r : Paired NRel L xs) (k : PK) {b : Addr} {y : V} {u : Value} (ry : RelV y u) : Paired NRel (putL L k b y) (storedH xs (nk k) b u) := by
  have e : (valV (L.map fun x => (x.1, x.2.2)) k).isSome = (atKey xs (nk k)).isSome := by
    rw [(nrel_val r k).isSome_eq, Option.isSome_map]
  unfold putL storedH
  rw [e]
  by_cases q : (atKey xs (nk k)).isSome = true
  · rw [if_pos q, if_pos q]
    exact nrel_repl r k ry
  · rw [if_neg q, if_neg q]
    exact Paired.snoc r ⟨rfl, rfl, ry⟩
theorem mem_putL {L : List (PK × Addr × V)} {k : PK} {b : Addr} {v : V} {H : Hp} (hL : ∀ x ∈ L, KeyAt H x.1 x.2.1) (hk : KeyAt H k b) : ∀ x ∈ putL L k b v, KeyAt H x.1 x.2.1 := by
  intro x hx
  unfold putL at hx
  split at hx
  · obtain ⟨p, hp, e⟩ := List.mem_map.mp hx
    have z := hL p hp
    split at e
    · subst e; exact z
    · subst e; exact z
  · rcases List.mem_append.mp hx with q | q
    · exact hL x q
    · rw [List.mem_singleton.mp q]
      exact hk
section
variable {X : Cx} {pins : List (Addr × Obj)} {σ : L2.St} {H : Hp} {s : Shared} {d a : Addr} {kvs : List (PK × V)} {k : PK} {A : Around} {E : Value → Shared → Prop}
theorem nd_room (hu : A.units + 64 < cLine) : (nestedKind X.prog X.w).room A.in1 := by
  show A.units + 1 + 8 < cLine
  omega
theorem nd_typeIs (I : Inv X pins σ H s) (g : NdAt X.prog X.w H d kvs) : s.TypeIs (.ref d) "dict" ∧ (∀ b, Value.ref d = .ref b → ∃ ob, s.heap.get? b = some ob ∧ ob.dict = none) ∧ (d == sysModules) = false := by
  obtain ⟨L, e, hd, hk⟩ := g
  obtain ⟨z, xs, rel, dd⟩ := nd_rd I.hok hd hk
  refine ⟨dd.typeIs, fun b q => ?_, z⟩
  cases q
  obtain ⟨ob, _, _, h1, h2, _⟩ := dd
  exact ⟨ob, h1, h2.2.1⟩
theorem nd_getItem {v : V} {Q : Value → Shared → Prop} (hu : A.units + 64 < cLine) (I : Inv X pins σ H s) (g : NdAt X.prog X.w H d kvs) (ka : KeyAt H k a) (l : valV kvs k = some v) (h : ∀ w' s', Inv X pins σ H s' → RelV v w' → Q w' s') :
    wpAny (model X.prog X.w) A (getItem (.ref d) (.ref a)) Q E s := by
  obtain ⟨L, e, hd, hk⟩ := g
  obtain ⟨z, xs, rel, dd⟩ := nd_rd I.hok hd hk
  have q := nrel_val rel k
  rw [e, l] at q
  obtain ⟨w', hw, rw'⟩ := RelO.some_of (v := v) (o := (atKey xs (nk k)).map (·.2)) q
  obtain ⟨p, hp, hp2⟩ := Option.map_eq_some_iff.mp hw
  refine wpAny_getItem_heap (nd_room hu) (ka.is I.hok) dd hp ?_
  rw [hp2]
  exact h w' _ (I.tok _) rw'
theorem nd_in {Q : Value → Shared → Prop} (hu : A.units + 64 < cLine) (I : Inv X pins σ H s) (g : NdAt X.prog X.w H d kvs) (ka : KeyAt H k a) (h : ∀ s', Inv X pins σ H s' → Q (.bool (valV kvs k).isSome) s') :
    wpAny (model X.prog X.w) A (compareOp .In (.ref a) (.ref d)) Q E s := by
  obtain ⟨L, e, hd, hk⟩ := g
  obtain ⟨z, xs, rel, dd⟩ := nd_rd I.hok hd hk
  refine wpAny_in_heap (nd_room hu) (ka.is I.hok) z dd ?_
  have q := (nrel_val rel k).isSome_eq
  rw [Option.isSome_map, e] at q
  rw [← q]
  exact h _ (I.tok _)
theorem nd_notIn {Q : Value → Shared → Prop} (hu : A.units + 64 < cLine) (I : Inv X pins σ H s) (g : NdAt X.prog X.w H d kvs) (ka : KeyAt H k a) (h : ∀ s', Inv X pins σ H s' → Q (.bool (!(valV kvs k).isSome)) s') :
    wpAny (model X.prog X.w) A (compareOp .NotIn (.ref a) (.ref d)) Q E s := by
  obtain ⟨L, e, hd, hk⟩ := g
  obtain ⟨z, xs, rel, dd⟩ := nd_rd I.hok hd hk
  refine wpAny_notIn_heap (nd_room hu) (ka.is I.hok) z dd ?_
  have q := (nrel_val rel k).isSome_eq
  rw [Option.isSome_map, e] at q
  rw [← q]
  exact h _ (I.tok _)
theorem nd_get2 {v : V} {r : Value} {Q : Value → Shared → Prop} (hu : A.units + 64 < cLine) (I : Inv X pins σ H s) (g : NdAt X.prog X.w H d kvs) (ka : KeyAt H k a) (rd : RelV v r) (h : ∀ w' s', Inv X pins σ H s' → RelV ((valV kvs k).getD v) w' → Q w' s') :
    wpAny (model X.prog X.w) A (call (.builtin "dict.get") [.ref d, .ref a, r]) Q E s := by
  obtain ⟨L, e, hd, hk⟩ := g
  obtain ⟨z, xs, rel, dd⟩ := nd_rd I.hok hd hk
  refine call_meetsIn PySem.F.slot_dict_get dd.typeIs PySem.F.entry_dict_get (PySem.F.args_dict_get_3 _ _ _) (meetsH_dict_get_default (nestedKind X.prog X.w) d a z r) ⟨nd_room hu, nk k, xs, ka.is I.hok, dd, h _ _ (I.tok _) ?_⟩
  have q := nrel_val rel k
  rw [e] at q
  exact q.getD rd
theorem nd_setItem {v : V} {r : Value} {Q : Unit → Shared → Prop} (hu : A.units + 64 < cLine) (I : Inv X pins σ H s) (g : NdAt X.prog X.w H d kvs) (ka : KeyAt H k a) (hl : kvs.length < sizeLine) (rv : RelV v r)
    (h : ∀ s' H', Inv X pins σ H' s' → (∀ c, c ≠ d → H' c = H c) → NdAt X.prog X.w H' d (putK kvs k v) → Q () s') : wpAny (model X.prog X.w) A (setItem (.ref d) (.ref a) r) Q E s := by
  obtain ⟨L, e, hd, hk⟩ := g
  obtain ⟨z, xs, rel, dd⟩ := nd_rd I.hok hd hk
  have e1 : L.length = xs.length := Paired.length rel
  have e2 : L.length = kvs.length := by rw [← e, List.length_map]
  have hz : xs.length ≤ sizeLine := by omega
  have noT : ∀ b ys, H b = some (.tup ys) → b ≠ d := fun b ys q => ne_of q hd fun z => nomatch z
  have kp : ∀ b ys, H b = some (.tup ys) → upd H d (NdO X.prog X.w d (putL L k a v)) b = some (.tup ys) := fun b ys q => by rw [upd_ne (noT b ys q)]; exact q
  refine wpAny_setItem_heap (hsz := hz) (nd_room hu) (ka.is I.hok) dd fun h' dd' hs => h _ (upd H d (NdO X.prog X.w d (putL L k a v))) ?_ (fun c hc => upd_ne hc) ⟨putL L k a v, ?_, upd_same, fun x hx => (mem_putL hk ka x hx).keeps kp⟩
  · obtain ⟨q, es, ep, hq, h2, h3, h4, _, h5⟩ := dd'
    exact d_write I (by rw [hd]; exact True.intro) hs ⟨q, hq⟩ (ndO_ok ⟨z, _, nrel_put rel k rv, q, es, ep, hq, h2, h3, h4, h5⟩)
  · rw [putL_kvs, e]
end
/-- {}, to be such a dict -/
def tNdNew (P : Program) (w : World) : TE := fun _ H Q => ∀ p H', H p = none → (∀ c, c ≠ p → H' c = H c) → NdAt P w H' p [] → Q (.ref p) H'
theorem pe_ndnew {X : Cx} {pos : Pos} : PE X (.Dict [] [] pos) (tNdNew X.prog X.w) := ⟨fun pins s σ H Q I h => by
  have new : NdP X.prog X.w s.heap.objs.size [] (s.heap.push { cls := .type "dict", data := .dict #[] }) :=
    ⟨beq_eq_false_iff_ne.mpr (Ne.symm (Nat.ne_of_lt I.big)), [], .nil, _, #[], 0, Heap.get?_push_size _ rfl, ⟨rfl, rfl, rfl⟩, rfl, rfl, List.nodup_nil⟩
  refine wpAny_Dict_empty ⟨.ref s.heap.objs.size, _, I.laid (a := s.heap.objs.size) (o := NdO X.prog X.w s.heap.objs.size []) (t' := s.toks) (fun _ _ q => Heap.get?_push_of_some _ q) (Nat.le_refl _) (ndO_ok new), rfl, ?_⟩
  exact h _ _ (I.hok.fresh (Nat.le_refl _)) (fun c hc => upd_ne hc) ⟨[], rfl, upd_same, fun x hx => nomatch hx⟩⟩
/-- d[k], k in d, k not in d, d.get(k, x), d[k] = v -/
def tNdGet (P : Program) (w : World) (td ty : TE) : TE := fun σ H Q => td σ H fun x H1 => ty σ H1 fun y H2 => ∃ d a kvs k v, x = .ref d ∧ y = .ref a ∧ NdAt P w H2 d kvs ∧ KeyAt H2 k a ∧ valV kvs k = some v ∧ Q v H2
def tNdIn (P : Program) (w : World) (ty td : TE) : TE := fun σ H Q => ty σ H fun y H1 => td σ H1 fun x H2 => ∃ d a kvs k, x = .ref d ∧ y = .ref a ∧ NdAt P w H2 d kvs ∧ KeyAt H2 k a ∧ Q (.bl (valV kvs k).isSome) H2
def tNdNotIn (P : Program) (w : World) (ty td : TE) : TE := fun σ H Q => ty σ H fun y H1 => td σ H1 fun x H2 => ∃ d a kvs k, x = .ref d ∧ y = .ref a ∧ NdAt P w H2 d kvs ∧ KeyAt H2 k a ∧ Q (.bl (!(valV kvs k).isSome)) H2
def tNdGet2 (P : Program) (w : World) (td ty tx : TE) : TE := fun σ H Q => td σ H fun x H1 => ∃ d, x = .ref d ∧ (∃ kvs, NdAt P w H1 d kvs) ∧ ty σ H1 fun y H2 => tx σ H2 fun z H3 => ∃ a kvs k, y = .ref a ∧ NdAt P w H3 d kvs ∧ KeyAt H3 k a ∧ Q ((valV kvs k).getD z) H3
def sNdPut (P : Program) (w : World) (td ty tv : TE) : TS := fun D σ H => tv σ H fun v H1 => td σ H1 fun x H2 => ty σ H2 fun y H3 => ∃ d a kvs k, x = .ref d ∧ y = .ref a ∧ NdAt P w H3 d kvs ∧ KeyAt H3 k a ∧ kvs.length < sizeLine ∧
  ∀ H4, (∀ c, c ≠ d → H4 c = H3 c) → NdAt P w H4 d (putK kvs k v) → D.nx σ H4
section
variable {X : Cx} {o i e f value : Expr} {pos pos' apos cpos : Pos} {td ty tx tv : TE}
theorem pe_ndget (hu : X.A.units + 64 < cLine) (ho : PE X o td) (hi : PE X i ty) (hs : NoSl i) : PE X (.Subscript o i pos) (tNdGet X.prog X.w td ty) := by
  refine ⟨fun pins s σ H Q I h => subD_of PySem.F.slot_dict_getitem.lookup hs (thn (ho.run pins s σ H _ I h) fun u s1 h1 => ?_)⟩
  obtain ⟨x, H1, I1, rx, q1⟩ := h1
  refine thn (hi.run pins s1 σ H1 _ I1 q1) fun iv s2 h2 => ?_
  obtain ⟨y, H2, I2, ry, d, a, kvs, k, v, ex, ey, g, ka, l, q2⟩ := h2
  subst ex ey
  obtain rfl : u = Value.ref d := rx
  obtain rfl : iv = Value.ref a := ry
  exact ⟨(nd_typeIs I2 g).1, nd_getItem hu I2 g ka l fun w' s3 I3 rw' => ⟨v, H2, I3, rw', q2⟩⟩
theorem pc_ndin (hu : X.A.units + 64 < cLine) (hi : PE X i ty) (ho : PE X o td) : PC X .In i o (tNdIn X.prog X.w ty td) := by
  refine ⟨fun pins s σ H Q I h => thn (hi.run pins s σ H _ I h) fun iv s1 h1 => ?_⟩
  obtain ⟨y, H1, I1, ry, q1⟩ := h1
  refine thn (ho.run pins s1 σ H1 _ I1 q1) fun u s2 h2 => ?_
  obtain ⟨x, H2, I2, rx, d, a, kvs, k, ex, ey, g, ka, q2⟩ := h2
  subst ex ey
  obtain rfl : u = Value.ref d := rx
  obtain rfl : iv = Value.ref a := ry
  exact nd_in hu I2 g ka fun s3 I3 => ⟨.bl _, H2, I3, rfl, q2⟩
theorem pc_ndnotin (hu : X.A.units + 64 < cLine) (hi : PE X i ty) (ho : PE X o td) : PC X .NotIn i o (tNdNotIn X.prog X.w ty td) := by
  refine ⟨fun pins s σ H Q I h => thn (hi.run pins s σ H _ I h) fun iv s1 h1 => ?_⟩
  obtain ⟨y, H1, I1, ry, q1⟩ := h1
  refine thn (ho.run pins s1 σ H1 _ I1 q1) fun u s2 h2 => ?_
  obtain ⟨x, H2, I2, rx, d, a, kvs, k, ex, ey, g, ka, q2⟩ := h2
  subst ex ey
  obtain rfl : u = Value.ref d := rx
  obtain rfl : iv = Value.ref a := ry
  exact nd_notIn hu I2 g ka fun s3 I3 => ⟨.bl _, H2, I3, rfl, q2⟩
theorem pe_ndget2 (hu : X.A.units + 64 < cLine) (ho : PE X o td) (he : PE X e ty) (hf : PE X f tx) (m : M2 X o "get" apos e f cpos) : PE X (.Call (.Attribute o "get" apos) [e, f] [] cpos) (tNdGet2 X.prog X.w td ty tx) := by
  refine ⟨fun pins s σ H Q I h => wpAny_Call_method m.base m.few m.line PySem.F.plainAttrs_dict PySem.F.slot_dict_get PySem.F.type_dict_get (thn (ho.run pins s σ H _ I h) fun u s1 h1 => ?_)⟩
  obtain ⟨x, H1, I1, rx, d, ex, ⟨kvs0, g0⟩, q1⟩ := h1
  subst ex
  obtain rfl : u = Value.ref d := rx
  refine ⟨(nd_typeIs I1 g0).1, (nd_typeIs I1 g0).2.1, ?_⟩
  rw [m.trees]
  refine Calls.callWith_builtin rfl (Calls.evalArgs_plain (Calls.spliced_cons (thn (he.run pins s1 σ H1 _ I1 q1) fun iv s2 h2 => ?_)))
  obtain ⟨y, H2, I2, ry, q2⟩ := h2
  refine Calls.spliced_cons (thn (hf.run pins s2 σ H2 _ I2 q2) fun fv s3 h3 => Calls.spliced_nil ?_)
  obtain ⟨z, H3, I3, rz, a, kvs, k, ey, g, ka, q3⟩ := h3
  subst ey
  obtain rfl : iv = Value.ref a := ry
  exact nd_get2 hu I3 g ka rz fun w' s4 I4 rw' => ⟨_, H3, I4, rw', q3⟩
theorem ps_ndput (hu : X.A.units + 64 < cLine) (ho : PE X o td) (hi : PE X i ty) (hv : PE X value tv) (hs : swapsWith value (some (.Subscript o i pos')) pos.line X.env = pure false) :
    PS X (.Assign [.Subscript o i pos'] value pos) (sNdPut X.prog X.w td ty tv) := by
  refine ⟨fun pins s σ H D I h => wpAny_Assign_Subscript (thn (hv.run pins s σ H _ I h) fun r s1 h1 => ?_) hs⟩
  obtain ⟨v, H1, I1, rv, q1⟩ := h1
  refine thn (ho.run pins s1 σ H1 _ I1 q1) fun u s2 h2 => ?_
  obtain ⟨x, H2, I2, rx, q2⟩ := h2
  refine thn (hi.run pins s2 σ H2 _ I2 q2) fun iv s3 h3 => ?_
  obtain ⟨y, H3, I3, ry, d, a, kvs, k, ex, ey, g, ka, hl, q3⟩ := h3
  subst ex ey
  obtain rfl : u = Value.ref d := rx
  obtain rfl : iv = Value.ref a := ry
  exact nd_setItem hu I3 g ka hl rv fun s4 H4 I4 e4 g4 => ⟨σ, H4, I4, q3 H4 e4 g4⟩
end
/-! ### repr of data -/
def rReprD (K : PySem.W.Frag) : List V → Hp → VK → Prop := fun xs H Q => ∃ x d, xs = [x] ∧ Dp K H x d ∧ (d = .none ∨ ((∃ a, x = .ref a) ∧ d.showable = true ∧ d.hasDict = false ∧ d.depth ≤ 60 ∧ d.shown.length ≤ sizeLine)) ∧ Q (.str d.shown) H
theorem call_reprD {X : Cx} (hg : X.A.guards = some []) (hu : X.A.units + 64 < cLine) : CallR X (.builtin "repr") (rReprD X.K) := by
  intro pins s σ H xs us Q I r h
  obtain ⟨x, d, rfl, hd, hc, q⟩ := h
  obtain ⟨u, rfl, rx⟩ := vals1 r
  rcases hc with rfl | ⟨⟨a, rfl⟩, h1, h2, h3, h4⟩
  · cases hd
    cases rx
    exact PySem.P.repr_of_none ⟨.str _, H, I.tok _, ⟨_, rfl⟩, q⟩
  · obtain ⟨as, rd⟩ := Dp.reads I d _ u hd rx
    obtain rfl : u = Value.ref a := rx
    refine repr_of_reads' rd h1 (PyData.noDict_hsm h2) hg (by omega) (fun _ _ e => e) (fun h' t tk hk => ⟨.str d.shown, H, I.kept (t' := tk) hk, ⟨t, rfl⟩, q⟩) h4
end K70

set_option maxRecDepth 100000
set_option maxHeartbeats 4000000
/-! own rules, 3: {t: e} with a tuple of ints, and {t: e for t in ..} -/
namespace K70
open PySem PySem.Spec PyProof.Rows L2
/-- {t: e}: a new dict of one entry, its key a tuple -/
def tDisp1T (tk tv : TE) : TE := fun σ H Q => ∀ p, H p = none → tPairs [(tk, tv)] σ (upd H p (.dT [])) fun ps H2 => ∃ x y, ps = [(x, y)] ∧ H2 p = some (.dT []) ∧ ∃ k b, x = .ref b ∧ H2 b = some (.tup (k.map kV)) ∧ Q (.ref p) (upd H2 p (.dT [(k, y)]))
theorem pe_disp1T {X : Cx} {pos : Pos} {k v : Expr} {tk tv : TE} (hu : X.A.units < cLine) (hk : PE X k tk) (hv : PE X v tv) : PE X (.Dict [some k] [v] pos) (tDisp1T tk tv) := by
  refine ⟨fun pins s σ H Q I q => ?_⟩
  have hn := I.hok.fresh (Nat.le_refl s.heap.objs.size)
  have I1 := I.laid (a := s.heap.objs.size) (o := .dT []) (h' := s.heap.push { cls := .type "dict", data := .dict #[] }) (t' := s.toks) (fun _ _ z => Heap.get?_push_of_some _ z) (Nat.le_refl _) (dt_empty s.heap I.big)
  rw [arm_eval_Dict, zip_pairTrees [some k] [v] X.env pos rfl rfl, dictDisplay_pairs (pairTrees [some k] [v] X.env pos) (fun z => nomatch z) (by show 1 < 17; decide)]
  refine wpAny_bind (wpAny_standAt (wpAny_bind (wpAny_subDictH (knd := tupleKind (mixKind X.prog X.w)) hu (by show 1 ≤ 15; decide) (thn ((pps_cons (pos := pos) hk hv pps_nil).run pins _ σ _ _ I1 (q _ hn)) fun ws s2 hr => ?_))))
  obtain ⟨ps, H2, I2, rel, x, y, rfl, e, ks, b, rfl, hb, q2⟩ := hr
  cases rel with
  | @cons c d cs ds h t =>
    cases t
    obtain ⟨u, r⟩ := d
    obtain ⟨ru, rv⟩ := h
    obtain rfl : u = Value.ref b := ru
    obtain ⟨z, hd, vs0, r0, dd⟩ := dt_of I2.hok e
    cases r0
    refine ⟨[(ks, b, r)], ⟨rfl, rfl, key_of I2.hok hb, trivial⟩, dd, fun h' tk dd' hs => wpAny_pure ⟨.ref s.heap.objs.size, _, ?_, rfl, q2⟩⟩
    obtain ⟨o, es, ep, g1, g2, g3, g4, _, g5⟩ := dd'
    have nb : b ≠ s.heap.objs.size := ne_of hb e fun w => nomatch w
    refine d_write (t' := tk) I2 (by rw [e]; exact True.intro) hs ⟨o, g1⟩ ⟨(by show 1 ≤ sizeLine; decide), hd, [(ks, b, r)], .cons ⟨rfl, ?_, rv⟩ .nil, o, es, ep, g1, g2, g3, g4, g5⟩
    rw [upd_ne nb]
    exact hb
/-! ### {t: e for t in ..}, the keys tuples -/
/-- one store of the comprehension -/
theorem dT_dictSet {X : Cx} {pins : List (Addr × Obj)} {σ : L2.St} {H : Hp} {s : Shared} {E : Value → Shared → Prop} {D b : Addr} {kvs : List (List Key × V)} {k : List Key} {v : V} {r : Value} {Q : Unit → Shared → Prop} (hu : X.A.units < cLine)
    (I : Inv X pins σ H s) (hD : H D = some (.dT kvs)) (hz : kvs.length < sizeLine) (hb : H b = some (.tup (k.map kV))) (rv : RelV v r)
    (h : ∀ s', Inv X pins σ (upd H D (.dT (putK kvs k v))) s' → Q () s') : wpAny (model X.prog X.w) X.A (dictSet D (.ref b) r) Q E s := by
  obtain ⟨z, hd, xs, rel, dd⟩ := dt_of I.hok hD
  have hxs : xs.length ≤ sizeLine := by rw [← Paired.length rel]; exact z
  have hl : (putK kvs k v).length ≤ sizeLine := by
    have := length_putK kvs k v
    omega
  refine wpAny_dictSet_heap (hsz := hxs) (show (tupleKind (mixKind X.prog X.w)).room X.A from hu) (key_of I.hok hb) dd fun h' dd' hs => h _ ?_
  obtain ⟨o, es, ep, g1, g2, g3, g4, _, g5⟩ := dd'
  refine d_write I (by rw [hD]; exact True.intro) hs ⟨o, g1⟩ ⟨hl, hd, _, (rel.put k hb rv).keeps fun c ys ec => ?_, o, es, ep, g1, g2, g3, g4, g5⟩
  rw [upd_ne (ne_of ec hD fun w => nomatch w)]
  exact ec
abbrev DcTurn (g : TG) (tt : TT) (tk tv : TE) (vs : List Nat) (σ : L2.St) (D : Addr) (x : V) (H : Hp) (Nx : Hp → Prop) : Prop := g x (wipe σ vs) H fun σ2 H2 => wipe σ2 vs = wipe σ vs ∧ tt σ2 H2 fun c H3 =>
  if c = true then tk σ2 H3 fun y H4 => tv σ2 H4 fun z H5 => ∃ kvs k b, y = .ref b ∧ H5 b = some (.tup (k.map kV)) ∧ H5 D = some (.dT kvs) ∧ kvs.length < sizeLine ∧ Nx (upd H5 D (.dT (putK kvs k z))) else Nx H3
abbrev DcW (J : It) (g : TG) (tt : TT) (tk tv : TE) (vs : List Nat) (σ : L2.St) (D : Addr) (Qd : Hp → Prop) (W : Nat → Nat → Hp → Prop) : Prop := ∀ i m H, W i m H →
  (J.stop i H ∧ Qd H) ∨ (J.go i H ∧ ∃ Nx : Hp → Prop, (∀ H', Nx H' → ∃ m', m' < m ∧ W (i + 1) m' H') ∧ ∀ x H', J.yld i H x H' → DcTurn g tt tk tv vs σ D x H' Nx)
def tDcT (wi : TI) (g : TG) (tt : TT) (tk tv : TE) (vs : List Nat) : TE := fun σ H Q => wi σ H fun J H1 => ∀ D, H1 D = none → ∃ W : Nat → Nat → Hp → Prop, (∃ m, W 0 m (upd H1 D (.dT []))) ∧ DcW J g tt tk tv vs σ D (Q (.ref D)) W
section
variable {X : Cx}
/-- the loop within the block: Y the block's context -/
theorem dcT_loop {Y : Cx} {σ : L2.St} {kx vx tg iter : Expr} {ifs : List Expr} {scope : Scope} {pos : Pos} {J : It} {fp : List Addr} {it D : Addr} {tn : Nat → Heap → Prop} {g : TG} {tt : TT} {tk tv : TE} {vs : List Nat} {Qd : Hp → Prop} {R : Result → Shared → Prop} {W : Nat → Nat → Hp → Prop}
    (hu : Y.A.units < cLine) (hc : Y.calm = true) (hex : Y.ex = fp) (hpn : Y.pn = []) (hxe : Y.xe = fun _ _ => False) (pg : PG Y tg g) (pt : PTs Y ifs tt) (pk : PE Y kx tk) (pe : PE Y vx tv) (T : Turn Y.prog Y.w Y.K tg J fp it tn)
    (turn : DcW J g tt tk tv vs σ D Qd W) (hend : ∀ s' H', Inv Y [] (wipe σ vs) H' s' → Qd H' → R (.ok .next) s')
    {m0 : Nat} {H0 : Hp} {s0 : Shared} (I0 : Inv Y [] (wipe σ vs) H0 s0) (st0 : tn 0 s0.heap) (n0 : ∀ b ∈ fp, H0 b = none) (w0 : W 0 m0 H0) :
    codeAny (model Y.prog Y.w) Y.A (.compLoop (.DictComp kx vx [⟨tg, iter, ifs, 0⟩] scope pos) 0 (.ref it) (.ref D) Y.env) R s0 := by
  have stat : ∀ {σ' : L2.St} {H' : Hp} {s' : Shared}, Inv Y [] σ' H' s' → (∀ b ∈ fp, H' b = none) → ∀ b ∈ fp, FpOk Y [] H' b := by
    intro σ' H' s' I' hn b hb
    have hb' : b ∈ Y.ex := by rw [hex]; exact hb
    refine ⟨hn b hb, (I'.ok.exf b hb').1, I'.ok.exfs b hb', .inl hb', fun x c e => (I'.ok.exf b hb').2 x c e, fun p hp => ?_⟩
    rw [hpn] at hp
    exact absurd hp (by simp)
  refine compLoop_anyD (fun n s' => ∃ i H', Inv Y [] (wipe σ vs) H' s' ∧ tn i s'.heap ∧ (∀ b ∈ fp, H' b = none) ∧ W i n H') (fun n s5 hI => ?_) m0 ⟨0, H0, I0, st0, n0, w0⟩
  obtain ⟨i, H5, I5, st5, n5, w5⟩ := hI
  rcases turn i n H5 w5 with ⟨stop, qq⟩ | ⟨go, Nx, hNx, step⟩
  · refine thnF (T.done Y rfl rfl rfl hc i [] s5 _ H5 (fun _ _ => False) I5 (stat I5 n5) st5 stop) fun r s6 hr => ?_
    obtain ⟨rfl, I6⟩ := hr
    exact hend s6 H5 I6 qq
  · refine thnF (T.item Y rfl rfl rfl hc i [] s5 _ H5 (fun _ _ => False) I5 (stat I5 n5) st5 go) fun r s6 hr => ?_
    obtain ⟨u, rfl, h6⟩ := hr
    refine thnF h6 fun _ s7 h7 => ?_
    obtain ⟨x, H7, I7, r7, y7, st7, n7⟩ := h7
    have I7p := I7.pinned (stat I7 n7) (T.obj _ _ st7)
    have rg := pg.run _ s7 _ H7 x u _ I7p r7 (step x H7 y7)
    rw [hxe] at rg
    refine thnF rg fun _ s8 h8 => ?_
    obtain ⟨σ8, H8, I8, hw8, q8⟩ := h8
    have rt := pt.run _ s8 σ8 H8 _ I8 q8
    rw [hxe] at rt
    refine thnF rt fun c s9 h9 => ?_
    obtain ⟨H9, I9, q9⟩ := h9
    have fin : ∀ {s' : Shared} {H' : Hp}, Inv Y ([] ++ pinsAt fp s7.heap) σ8 H' s' → Nx H' → ∃ m, m < n ∧ ∃ i H', Inv Y [] (wipe σ vs) H' s' ∧ tn i s'.heap ∧ (∀ b ∈ fp, H' b = none) ∧ W i m H' := by
      intro s' H' I' nx
      obtain ⟨m', hm, w'⟩ := hNx H' nx
      have pin' : ∀ b ∈ fp, ∀ o, s7.heap.get? b = some o → s'.heap.get? b = some o ∧ H' b = none := fun b hb o e =>
        let z := I'.pin (b, o) (List.mem_append_right _ (List.mem_append_right _ (mem_pinsAt hb e)))
        ⟨z.1, z.2.1⟩
      refine ⟨m', hm, i + 1, H', (I'.unpinned (pins := [])).weak ?_ ?_, T.keep _ _ _ st7 fun b hb o e => (pin' b hb o e).1, fun b hb => ?_, w'⟩
      · rw [← hw8, wipe_length]
      · intro j v e
        rw [← hw8] at e
        exact (wipe_some e).1
      · obtain ⟨o, e, _⟩ := T.obj _ _ st7 b hb
        exact (pin' b hb o e).2
    cases c with
    | false => exact fin I9 (by simpa using q9)
    | true =>
      have q9 := (if_pos rfl : (if true = true then _ else _) = _) ▸ q9
      have rk := pk.run _ s9 σ8 H9 _ I9 q9
      rw [hxe] at rk
      refine thnF rk fun z s10 h10 => ?_
      obtain ⟨yk, H10, I10, r10, q10⟩ := h10
      have rv := pe.run _ s10 σ8 H10 _ I10 q10
      rw [hxe] at rv
      refine thnF rv fun z2 s11 h11 => ?_
      obtain ⟨yv, H11, I11, r11, kvs, k, b, ek, hb, hD, hz, nx⟩ := h11
      subst ek
      obtain rfl : z = Value.ref b := r10
      exact dT_dictSet (X := Y) hu I11 hD hz hb r11 fun s12 I12 => fin I12 nx
theorem pe_dcT {kx vx tg iter : Expr} {ifs : List Expr} {scope : Scope} {own : List (Str × Nat)} {pos : Pos} {wi : TI} {g : TG} {tt : TT} {tk tv : TE} (hu : X.A.units < cLine) (hc : X.calm = true) (hN : X.N.Nodup) (hi : PI X tg iter wi) (ok : BlkOk X.N X.env.scope scope own)
    (hg : ∀ (s : Shared) (H : Hp) (C : Addr) (cl : List (Str × Addr)) (fp : List Addr), PG (X.blk s H scope (compEnvC scope cl C X.env) fp) tg g)
    (ht : ∀ (s : Shared) (H : Hp) (C : Addr) (cl : List (Str × Addr)) (fp : List Addr), PTs (X.blk s H scope (compEnvC scope cl C X.env) fp) ifs tt)
    (hk : ∀ (s : Shared) (H : Hp) (C : Addr) (cl : List (Str × Addr)) (fp : List Addr), PE (X.blk s H scope (compEnvC scope cl C X.env) fp) kx tk)
    (he : ∀ (s : Shared) (H : Hp) (C : Addr) (cl : List (Str × Addr)) (fp : List Addr), PE (X.blk s H scope (compEnvC scope cl C X.env) fp) vx tv)
    (hs : ∀ x, foldedSetIterable iter X.env x = pure x := by intro _; rfl) : PE X (.DictComp kx vx [⟨tg, iter, ifs, 0⟩] scope pos) (tDcT wi g tt tk tv (own.map (·.2))) := by
  refine ⟨fun pins s σ H Q I h => ?_⟩
  rw [arm_eval_DictComp]
  have hfree : ∀ y ∈ scope.names, y.2 = .free → ∃ c, X.env.cells.lookup y.1 = some c := fun y hy e => (ok.free y hy e).elim (fun k => I.ok.has _ (.inl k)) fun k => I.ok.has _ (.inr k)
  refine wpAny_comprehension_free rfl hs (closure_ok hfree) ok.kind (fun y hy e => by rw [ok.uniq y hy, e]) (thn (hi.run pins s σ H _ I h) fun xv s1 hx => thn hx fun itv s2 h2 => ?_)
  obtain ⟨it, fp, tn, J, H2, rfl, I2, T, st2, f2, q⟩ := h2
  refine wpAny_newObj_type (newEnv_comp ?_)
  have hDn : H2 s2.heap.objs.size = none := I2.hok.fresh (Nat.le_refl _)
  obtain ⟨W, ⟨m0, w0⟩, turn⟩ := q _ hDn
  generalize hD : s2.heap.objs.size = D at hDn w0 turn
  generalize hs3 : ({ s2 with heap := s2.heap.push { cls := .type "dict", data := .dict #[] } } : Shared) = s3
  have h3 : s3.heap = s2.heap.push { cls := .type "dict", data := .dict #[] } := by rw [← hs3]
  have k3 : ∀ b o, s2.heap.get? b = some o → s3.heap.get? b = some o := fun b o e => by rw [h3]; exact Heap.get?_push_of_some _ e
  have I3 : Inv X pins σ (upd H2 D (.dT [])) s3 := by
    rw [← hs3, ← hD]
    exact I2.laid (t' := s2.toks) (fun b o e => Heap.get?_push_of_some _ e) (Nat.le_refl _) (dt_empty s2.heap I2.big)
  generalize hH3 : upd H2 D (.dT []) = H3 at I3 w0
  have f3 : ∀ b ∈ fp, FpOk X pins H3 b ∧ b < s3.heap.objs.size := by
    intro b hb
    obtain ⟨o, e, _⟩ := T.obj _ _ st2 b hb
    have hlt : b < s2.heap.objs.size := Heap.lt_size e
    refine ⟨⟨?_, (f2 b hb).2⟩, Heap.lt_size (k3 b o e)⟩
    rw [← hH3, upd_ne (by rw [← hD]; exact Nat.ne_of_lt hlt)]
    exact (f2 b hb).1
  have st3 : tn 0 s3.heap := T.keep _ _ _ st2 fun b _ o e => k3 b o e
  have I4 := block_start I3 ok hN f3
  show codeAny _ _ (.compStart (.DictComp kx vx [⟨tg, iter, ifs, 0⟩] scope pos) 0 (.ref it) (.ref D) (compEnvC scope (cellsFrom (s3.heap.objs.size + 1) scope.names (cloFrom X.env.cells scope.names [])) s3.heap.objs.size X.env)) _ { s3 with heap := pushCells (s3.heap.push { cls := .type "dict", data := .dict #[] }) scope.names }
  generalize hcl : cellsFrom (s3.heap.objs.size + 1) scope.names (cloFrom X.env.cells scope.names []) = cl at I4 ⊢
  generalize hs4 : ({ s3 with heap := pushCells (s3.heap.push { cls := .type "dict", data := .dict #[] }) scope.names } : Shared) = s4 at I4 ⊢
  have st4 : tn 0 s4.heap := T.keep _ _ _ st3 fun b _ o e => by rw [← hs4]; exact pushCells_keeps _ _ _ _ (Heap.get?_push_of_some _ e)
  have loop := dcT_loop (Y := X.blk s3 H3 scope (compEnvC scope cl s3.heap.objs.size X.env) fp) (σ := σ) (iter := iter) (scope := scope) (pos := pos) (R := compPost (model X.prog X.w) X.A X.xe none (EP X pins σ Q) (.ref D) s3.heap.objs.size) hu hc rfl rfl rfl (hg s3 H3 _ cl fp) (ht s3 H3 _ cl fp) (hk s3 H3 _ cl fp) (he s3 H3 _ cl fp) T turn
    (fun s6 H6 I6 qq => ?_) I4 st4 (fun b hb => (f3 b hb).1.1) w0
  · exact codeAny_compStart_dict loop (T.self X.A 0 _ _ _ st4 loop)
  · have I7 : Inv X pins σ H6 s6 := I3.call' (ch := fp) I6.os I6.base I6.hok I6.bare fun b hb => ⟨(f3 b hb).1.2.2.2.1, (f3 b hb).1.2.1, (f3 b hb).1.2.2.2.2.1, (f3 b hb).1.2.2.2.2.2⟩
    have nC : H6 s3.heap.objs.size = none := I6.free
    obtain ⟨m, hn, _⟩ := I6.loc
    obtain ⟨f0, f1, f4, f5, f6, f7⟩ := I3.fpOk (Nat.le_refl _) nC
    exact ⟨m, hn, fun h'' sb => ⟨.ref D, H6, I7.turned (t' := s6.toks) (fun b o hb e => (sb.2 b hb).trans e) f0 f1 f5 f6 f7, rfl, qq⟩⟩
end
end K70

/-! the mathematics: rows, finds, the least doings -/
namespace K70
structure Row where
  x : Nat
  y : Nat
  s : Bool
structure Fnd where
  m : Nat
  o : Nat
  e : Int
def cp (es : List Int) (r : Row) : List Int := es.set r.x (es.getD r.y 0)
def mv (b : Bool) (es : List Int) (r : Row) : List Int := if b = true then cp es r else es
def opts (r : Row) : List Bool := if r.s = true then [true] else [false, true]
def nxs (es : List Int) (r : Row) : List (Bool × List Int) := (opts r).map fun b => (b, mv b es r)
def told (fs : List Fnd) (m : Nat) : List Fnd := fs.filter fun f => decide (f.m = m)
def fits (es : List Int) (fs : List Fnd) : Bool := fs.all fun f => decide (es.getD f.o 0 = f.e)
def heeds (fs : List Fnd) (m : Nat) (es : List Int) : Bool := fits es (told fs m)
def begun (n : Nat) : List Int := (List.range n).map fun (i : Nat) => (i : Int)
def rowAt (rs : List Row) (m : Nat) : Row := rs.getD m ⟨0, 0, false⟩
/-- the sheets that can be there at a moment, from those at the first -/
def rch (fs : List Fnd) (S : List (List Int)) (rs : List Row) : Nat → List (List Int)
  | 0 => S
  | m + 1 => ((rch fs S rs m).flatMap fun es => (opts (rowAt rs m)).map fun b => mv b es (rowAt rs m)).filter fun es => heeds fs (m + 1) es
theorem mem_rch {fs : List Fnd} {S : List (List Int)} {rs : List Row} {m : Nat} {es : List Int} :
    es ∈ rch fs S rs (m + 1) ↔ ∃ q ∈ rch fs S rs m, ∃ b ∈ opts (rowAt rs m), mv b q (rowAt rs m) = es ∧ heeds fs (m + 1) es = true := by
  show es ∈ List.filter _ _ ↔ _
  rw [List.mem_filter, List.mem_flatMap]
  constructor
  · rintro ⟨⟨q, hq, hb⟩, h⟩
    obtain ⟨b, hb, e⟩ := List.mem_map.mp hb
    exact ⟨q, hq, b, hb, e, h⟩
  · rintro ⟨q, hq, b, hb, e, h⟩
    exact ⟨⟨q, hq, List.mem_map.mpr ⟨b, hb, e⟩⟩, h⟩
def omin : Option Nat → Option Nat → Option Nat
  | none, y => y
  | some a, none => some a
  | some a, some b => some (if b < a then b else a)
def comb : Option (Nat × List Bool) → Option (Nat × List Bool) → Option (Nat × List Bool)
  | none, y => y
  | some a, none => some a
  | some a, some b => if b.1 < a.1 then some b else some a
theorem comb_none (a : Option (Nat × List Bool)) : comb a none = a := by cases a <;> rfl
theorem omin_none (a : Option Nat) : omin a none = a := by cases a <;> rfl
theorem comb_fst (a b : Option (Nat × List Bool)) : (comb a b).map (·.1) = omin (a.map (·.1)) (b.map (·.1)) := by
  cases a with
  | none => rfl
  | some a =>
    cases b with
    | none => rfl
    | some b =>
      show Option.map _ (if b.1 < a.1 then some b else some a) = some (if b.1 < a.1 then b.1 else a.1)
      split <;> rfl
theorem comb_assoc (a b c : Option (Nat × List Bool)) : comb (comb a b) c = comb a (comb b c) := by
  cases a with
  | none => rfl
  | some a =>
    cases b with
    | none => rfl
    | some b =>
      cases c with
      | none => simp only [comb_none]
      | some c =>
        show comb (if b.1 < a.1 then some b else some a) (some c) = comb (some a) (if c.1 < b.1 then some c else some b)
        by_cases h1 : b.1 < a.1 <;> by_cases h2 : c.1 < b.1 <;> simp only [h1, h2, if_true, if_false, comb]
        · rw [if_pos (by omega)]
        · by_cases h3 : c.1 < a.1
          · omega
          · rw [if_neg h3]
/-- the least number of rows done from sheets on -/
def lf (fs : List Fnd) : List Row → Nat → List Int → Option Nat
  | [], _, _ => some 0
  | r :: rs, m, es => (opts r).foldr (fun b acc => omin (if heeds fs (m + 1) (mv b es r) = true then (lf fs rs (m + 1) (mv b es r)).map (b.toNat + ·) else none) acc) none
/-- .. and the least such doing -/
def best (fs : List Fnd) : List Row → Nat → List Int → Option (Nat × List Bool)
  | [], _, _ => some (0, [])
  | r :: rs, m, es => (opts r).foldr (fun b acc => comb (if heeds fs (m + 1) (mv b es r) = true then (best fs rs (m + 1) (mv b es r)).map (fun p => (b.toNat + p.1, b :: p.2)) else none) acc) none
theorem opts_cases (r : Row) : (r.s = true ∧ opts r = [true]) ∨ (r.s = false ∧ opts r = [false, true]) := by
  unfold opts
  cases h : r.s
  · exact .inr ⟨rfl, by simp⟩
  · exact .inl ⟨rfl, by simp⟩
theorem lf_best (fs : List Fnd) : ∀ (rs : List Row) (m : Nat) (es : List Int), lf fs rs m es = (best fs rs m es).map (·.1)
  | [], _, _ => rfl
  | r :: rs, m, es => by
    have one : ∀ b, (if heeds fs (m + 1) (mv b es r) = true then (lf fs rs (m + 1) (mv b es r)).map (b.toNat + ·) else none) =
        (if heeds fs (m + 1) (mv b es r) = true then (best fs rs (m + 1) (mv b es r)).map (fun p => (b.toNat + p.1, b :: p.2)) else none).map (·.1) := fun b => by
      rw [lf_best fs rs]
      split
      · rw [Option.map_map, Option.map_map] <;> rfl
      · rfl
    unfold lf best
    rcases opts_cases r with ⟨_, e⟩ | ⟨_, e⟩
    · rw [e]
      simp only [List.foldr_cons, List.foldr_nil, omin_none, comb_none]
      exact one true
    · rw [e]
      simp only [List.foldr_cons, List.foldr_nil, omin_none, comb_none]
      rw [comb_fst, one false, one true]
/-- what is told: None or the pair -/
def ans (fs : List Fnd) (n : Nat) (rs : List Row) : Option (Nat × List Bool) := if heeds fs 0 (begun n) = true then best fs rs 0 (begun n) else none
theorem best_len (fs : List Fnd) : ∀ (rs : List Row) (m : Nat) (es : List Int) (p : Nat × List Bool), best fs rs m es = some p → p.2.length = rs.length
  | [], _, _, p, h => by
    cases h
    rfl
  | r :: rs, m, es, p, h => by
    have one : ∀ b q, (if heeds fs (m + 1) (mv b es r) = true then (best fs rs (m + 1) (mv b es r)).map (fun p => (b.toNat + p.1, b :: p.2)) else none) = some q → q.2.length = rs.length + 1 := fun b q h => by
      split at h
      · obtain ⟨z, hz, rfl⟩ := Option.map_eq_some_iff.mp h
        show z.2.length + 1 = _
        rw [best_len fs rs _ _ z hz]
      · cases h
    have two : ∀ a b : Option (Nat × List Bool), (∀ q, a = some q → q.2.length = rs.length + 1) → (∀ q, b = some q → q.2.length = rs.length + 1) → ∀ q, comb a b = some q → q.2.length = rs.length + 1 := fun a b ha hb q hq => by
      cases a with
      | none => exact hb q hq
      | some a =>
        cases b with
        | none => exact ha q hq
        | some b =>
          change (if b.1 < a.1 then some b else some a) = some q at hq
          split at hq
          · exact hb q hq
          · exact ha q hq
    show p.2.length = rs.length + 1
    unfold best at h
    rcases opts_cases r with ⟨_, e⟩ | ⟨_, e⟩
    · rw [e] at h
      simp only [List.foldr_cons, List.foldr_nil, comb_none] at h
      exact one true p h
    · rw [e] at h
      simp only [List.foldr_cons, List.foldr_nil, comb_none] at h
      exact two _ _ (one false) (one true) p h
/-- one step of the doing that is told: b is the first flag that goes with what is due -/
def Step (fs : List Fnd) (r : Row) (rs : List Row) (m : Nat) (es : List Int) (c : Nat) (d : List Bool) : Prop :=
    ∃ b d' c', d = b :: d' ∧ c = b.toNat + c' ∧ b ∈ opts r ∧ heeds fs (m + 1) (mv b es r) = true ∧ best fs rs (m + 1) (mv b es r) = some (c', d') ∧ lf fs rs (m + 1) (mv b es r) = some c' ∧
      (b = true → r.s = false → ¬ (heeds fs (m + 1) (mv false es r) = true ∧ lf fs rs (m + 1) (mv false es r) = some c))
theorem best_step {fs : List Fnd} {r : Row} {rs : List Row} {m : Nat} {es : List Int} {c : Nat} {d : List Bool} (h : best fs (r :: rs) m es = some (c, d)) : Step fs r rs m es c d := by
  have one : ∀ b q, (if heeds fs (m + 1) (mv b es r) = true then (best fs rs (m + 1) (mv b es r)).map (fun p => (b.toNat + p.1, b :: p.2)) else none) = some q →
      ∃ d' c', q = (b.toNat + c', b :: d') ∧ heeds fs (m + 1) (mv b es r) = true ∧ best fs rs (m + 1) (mv b es r) = some (c', d') ∧ lf fs rs (m + 1) (mv b es r) = some c' := fun b q h => by
    split at h
    · rename_i hh
      obtain ⟨z, hz, rfl⟩ := Option.map_eq_some_iff.mp h
      exact ⟨z.2, z.1, rfl, hh, hz, by rw [lf_best, hz] <;> rfl⟩
    · cases h
  unfold best at h
  rcases opts_cases r with ⟨hs, e⟩ | ⟨hs, e⟩
  · rw [e] at h
    simp only [List.foldr_cons, List.foldr_nil, comb_none] at h
    obtain ⟨d', c', q, h1, h2, h3⟩ := one true _ h
    cases q
    exact ⟨true, d', c', rfl, rfl, by rw [e]; exact List.mem_singleton.mpr rfl, h1, h2, h3, fun _ z => by rw [hs] at z; cases z⟩
  · rw [e] at h
    simp only [List.foldr_cons, List.foldr_nil, comb_none] at h
    generalize hA : (if heeds fs (m + 1) (mv false es r) = true then (best fs rs (m + 1) (mv false es r)).map (fun p => (false.toNat + p.1, false :: p.2)) else none) = A at h
    generalize hB : (if heeds fs (m + 1) (mv true es r) = true then (best fs rs (m + 1) (mv true es r)).map (fun p => (true.toNat + p.1, true :: p.2)) else none) = B at h
    have viaB : ∀ q, B = some q → (c, d) = q → (∀ a, A = some a → c < a.1) → Step fs r rs m es c d := fun q hq eq lt => by
      obtain ⟨d', c', q', h1, h2, h3⟩ := one true q (hB.trans hq)
      rw [q'] at eq
      cases eq
      refine ⟨true, d', c', rfl, rfl, by rw [e]; simp, h1, h2, h3, fun _ _ z => ?_⟩
      obtain ⟨z1, z2⟩ := z
      rw [lf_best] at z2
      obtain ⟨p, hp, ep⟩ := Option.map_eq_some_iff.mp z2
      have hA' : A = some (false.toNat + p.1, false :: p.2) := by rw [← hA, if_pos z1, hp] <;> rfl
      have := lt _ hA'
      change _ < 0 + p.1 at this
      omega
    have viaA : ∀ q, A = some q → (c, d) = q → Step fs r rs m es c d := fun q hq eq => by
      obtain ⟨d', c', q', h1, h2, h3⟩ := one false q (hA.trans hq)
      rw [q'] at eq
      cases eq
      exact ⟨false, d', c', rfl, rfl, by rw [e]; simp, h1, h2, h3, fun z => by cases z⟩
    cases A with
    | none =>
      cases B with
      | none => cases h
      | some b => exact viaB b rfl (Option.some.inj h).symm fun a z => by cases z
    | some a =>
      cases B with
      | none => exact viaA a rfl (Option.some.inj h).symm
      | some b =>
        change (if b.1 < a.1 then some b else some a) = some (c, d) at h
        split at h
        · rename_i hlt
          have eb := Option.some.inj h
          refine viaB b rfl eb.symm fun a' z => ?_
          cases z
          rw [eb] at hlt
          exact hlt
        · exact viaA a rfl (Option.some.inj h).symm
end K70

/-! the mathematics: all doings gone through; sheets do not fall, so there are few -/
namespace K70
/-! ### all doings -/
def allD : List Row → List (List Bool)
  | [] => [[]]
  | r :: rs => (opts r).flatMap fun b => (allD rs).map (b :: ·)
/-- one turn of the list of doings made from the front -/
def growD (acc : List (List Bool)) (r : Row) : List (List Bool) := acc.flatMap fun d => (opts r).map fun b => d ++ [b]
theorem grow_all : ∀ (rs : List Row) (acc : List (List Bool)), rs.foldl growD acc = acc.flatMap fun d => (allD rs).map (d ++ ·)
  | [], acc => by
    show acc = acc.flatMap fun d => [d ++ []]
    induction acc with
    | nil => rfl
    | cons d acc ih => rw [List.flatMap_cons, ← ih, List.append_nil] <;> rfl
  | r :: rs, acc => by
    show rs.foldl growD (growD acc r) = _
    rw [grow_all rs]
    unfold growD
    rw [List.flatMap_assoc]
    congr 1
    funext d
    show List.flatMap _ ((opts r).map fun b => d ++ [b]) = ((opts r).flatMap fun b => (allD rs).map (b :: ·)).map (d ++ ·)
    rw [List.flatMap_map, List.map_flatMap]
    congr 1
    funext b
    rw [List.map_map]
    congr 1
    funext x
    show d ++ [b] ++ x = d ++ b :: x
    rw [List.append_assoc] <;> rfl
theorem grow_eq (rs : List Row) : rs.foldl growD [[]] = allD rs := by
  rw [grow_all]
  show (allD rs).map ([] ++ ·) ++ [] = allD rs
  rw [List.append_nil]
  have e : (fun x : List Bool => [] ++ x) = id := by funext x; rfl
  rw [e, List.map_id]
theorem growD_len (rs : List Row) (acc : List (List Bool)) (r : Row) : (growD acc r).length ≤ 2 * acc.length := by
  unfold growD
  induction acc with
  | nil => simp
  | cons d acc ih =>
    rw [List.flatMap_cons, List.length_append, List.length_cons, List.length_map]
    have : (opts r).length ≤ 2 := by rcases opts_cases r with ⟨_, e⟩ | ⟨_, e⟩ <;> rw [e] <;> simp
    omega
def isD (rs : List Row) (d : List Bool) : Prop := d.length = rs.length ∧ ∀ i, (rowAt rs i).s = true → i < rs.length → d.getD i false = true
theorem mem_opts {b : Bool} {r : Row} : b ∈ opts r ↔ (r.s = true → b = true) := by
  rcases opts_cases r with ⟨h, e⟩ | ⟨h, e⟩
  · rw [e, h]; simp
  · rw [e, h]; cases b <;> simp
theorem mem_allD : ∀ {rs : List Row} {d : List Bool}, d ∈ allD rs ↔ isD rs d
  | [], d => by
    show d ∈ [[]] ↔ _
    rw [List.mem_singleton]
    constructor
    · rintro rfl
      exact ⟨rfl, fun i _ h => absurd h (Nat.not_lt_zero i)⟩
    · rintro ⟨h, _⟩
      exact List.length_eq_zero_iff.mp h
  | r :: rs, d => by
    show d ∈ List.flatMap _ _ ↔ _
    rw [List.mem_flatMap]
    constructor
    · rintro ⟨b, hb, h⟩
      obtain ⟨d', hd, rfl⟩ := List.mem_map.mp h
      obtain ⟨h1, h2⟩ := mem_allD.mp hd
      refine ⟨by simp [h1], fun i hs hi => ?_⟩
      cases i with
      | zero => exact mem_opts.mp hb hs
      | succ i => exact h2 i hs (by simpa using hi)
    · rintro ⟨h1, h2⟩
      cases d with
      | nil => simp at h1
      | cons b d =>
        refine ⟨b, mem_opts.mpr fun hs => h2 0 hs (by simp), List.mem_map.mpr ⟨d, mem_allD.mpr ⟨by simpa using h1, fun i hs hi => h2 (i + 1) hs (by simpa using hi)⟩, rfl⟩⟩
/-- the sheets of a doing at a moment -/
def st (n : Nat) (rs : List Row) (d : List Bool) : Nat → List Int
  | 0 => begun n
  | i + 1 => mv (d.getD i false) (st n rs d i) (rowAt rs i)
def led (n : Nat) (rs : List Row) (d : List Bool) : List (List Int) := (List.range (rs.length + 1)).map fun i => st n rs d i
def vd (fs : List Fnd) (n : Nat) (rs : List Row) (d : List Bool) : Bool := fs.all fun f => decide ((st n rs d f.m).getD f.o 0 = f.e)
def cnt (d : List Bool) : Nat := (d.filter fun b => b).length
/-- the first of the least in a list of doings -/
def fml (l : List (List Bool)) : Option (Nat × List Bool) := l.foldl (fun acc d => comb acc (some (cnt d, d))) none
theorem fml_from : ∀ (l : List (List Bool)) (a : Option (Nat × List Bool)), l.foldl (fun acc d => comb acc (some (cnt d, d))) a = comb a (fml l)
  | [], a => (comb_none a).symm
  | d :: l, a => by
    unfold fml
    rw [List.foldl_cons, List.foldl_cons, fml_from l, fml_from l, comb_assoc] <;> rfl
theorem fml_append (l k : List (List Bool)) : fml (l ++ k) = comb (fml l) (fml k) := by
  unfold fml
  rw [List.foldl_append, fml_from k] <;> rfl
theorem fml_cons (d : List Bool) (l : List (List Bool)) : fml (d :: l) = comb (some (cnt d, d)) (fml l) := by
  have := fml_append [d] l
  exact this
theorem comb_add (b : Bool) (x y : Option (Nat × List Bool)) : (comb x y).map (fun p => (b.toNat + p.1, b :: p.2)) = comb (x.map fun p => (b.toNat + p.1, b :: p.2)) (y.map fun p => (b.toNat + p.1, b :: p.2)) := by
  cases x with
  | none => rfl
  | some x =>
    cases y with
    | none => rfl
    | some y =>
      show Option.map _ (if y.1 < x.1 then some y else some x) = if b.toNat + y.1 < b.toNat + x.1 then _ else _
      by_cases h : y.1 < x.1
      · rw [if_pos h, if_pos (by omega)] <;> rfl
      · rw [if_neg h, if_neg (by omega)] <;> rfl
theorem cnt_cons (b : Bool) (d : List Bool) : cnt (b :: d) = b.toNat + cnt d := by
  unfold cnt
  cases b <;> simp <;> omega
theorem fml_map (b : Bool) : ∀ l : List (List Bool), fml (l.map (b :: ·)) = (fml l).map fun p => (b.toNat + p.1, b :: p.2)
  | [] => rfl
  | d :: l => by
    rw [List.map_cons, fml_cons, fml_cons, comb_add, fml_map b l, cnt_cons] <;> rfl
/-- the finds behind a moment, along a doing of the rows behind it -/
def vds (fs : List Fnd) : List Row → Nat → List Int → List Bool → Bool
  | r :: rs, m, es, b :: d => heeds fs (m + 1) (mv b es r) && vds fs rs (m + 1) (mv b es r) d
  | _, _, _, _ => true
theorem fml_best (fs : List Fnd) : ∀ (rs : List Row) (m : Nat) (es : List Int), fml ((allD rs).filter fun d => vds fs rs m es d) = best fs rs m es
  | [], m, es => rfl
  | r :: rs, m, es => by
    have one : ∀ b, fml (((allD rs).map (b :: ·)).filter fun d => vds fs (r :: rs) m es d) = if heeds fs (m + 1) (mv b es r) = true then (best fs rs (m + 1) (mv b es r)).map (fun p => (b.toNat + p.1, b :: p.2)) else none := fun b => by
      rw [List.filter_map]
      by_cases h : heeds fs (m + 1) (mv b es r) = true
      · rw [if_pos h, fml_map, ← fml_best fs rs]
        congr 2
        refine List.filter_congr fun d _ => ?_
        show (heeds fs (m + 1) (mv b es r) && vds fs rs (m + 1) (mv b es r) d) = _
        rw [h, Bool.true_and]
      · rw [if_neg h]
        have e : (allD rs).filter ((fun d => vds fs (r :: rs) m es d) ∘ (b :: ·)) = [] := by
          refine List.filter_eq_nil_iff.mpr fun d _ q => h ?_
          have q' : (heeds fs (m + 1) (mv b es r) && vds fs rs (m + 1) (mv b es r) d) = true := q
          exact (Bool.and_eq_true_iff.mp q').1
        rw [e] <;> rfl
    unfold best
    rcases opts_cases r with ⟨_, e⟩ | ⟨_, e⟩
    · have ea : allD (r :: rs) = (allD rs).map (true :: ·) := by
        show (opts r).flatMap _ = _
        rw [e, List.flatMap_cons, List.flatMap_nil, List.append_nil]
      rw [ea, e, one true]
      simp only [List.foldr_cons, List.foldr_nil, comb_none]
    · have ea : allD (r :: rs) = (allD rs).map (false :: ·) ++ (allD rs).map (true :: ·) := by
        show (opts r).flatMap _ = _
        rw [e, List.flatMap_cons, List.flatMap_cons, List.flatMap_nil, List.append_nil]
      rw [ea, e, List.filter_append, fml_append, one false, one true]
      simp only [List.foldr_cons, List.foldr_nil, comb_none]
theorem heeds_iff {fs : List Fnd} {m : Nat} {es : List Int} : heeds fs m es = true ↔ ∀ f ∈ fs, f.m = m → es.getD f.o 0 = f.e := by
  unfold heeds fits told
  rw [List.all_eq_true]
  constructor
  · intro h f hf e
    exact of_decide_eq_true (h f (List.mem_filter.mpr ⟨hf, decide_eq_true e⟩))
  · intro h f hf
    obtain ⟨h1, h2⟩ := List.mem_filter.mp hf
    exact decide_eq_true (h f h1 (of_decide_eq_true h2))
/-- the same along the whole doing: the state at the moment i behind es -/
def sts (rs : List Row) (es : List Int) (d : List Bool) : Nat → List Int
  | 0 => es
  | i + 1 => mv (d.getD i false) (sts rs es d i) (rowAt rs i)
theorem sts_cons (r : Row) (rs : List Row) (es : List Int) (b : Bool) (d : List Bool) : ∀ i, sts (r :: rs) es (b :: d) (i + 1) = sts rs (mv b es r) d i
  | 0 => rfl
  | i + 1 => by
    show mv ((b :: d).getD (i + 1) false) (sts (r :: rs) es (b :: d) (i + 1)) (rowAt (r :: rs) (i + 1)) = _
    rw [sts_cons r rs es b d i] <;> rfl
theorem st_sts (n : Nat) (rs : List Row) (d : List Bool) : ∀ i, st n rs d i = sts rs (begun n) d i
  | 0 => rfl
  | i + 1 => by
    show mv _ (st n rs d i) _ = mv _ (sts rs (begun n) d i) _
    rw [st_sts n rs d i]
theorem vds_iff (fs : List Fnd) : ∀ (rs : List Row) (m : Nat) (es : List Int) (d : List Bool), d.length = rs.length → (vds fs rs m es d = true ↔ ∀ i, 1 ≤ i → i ≤ rs.length → heeds fs (m + i) (sts rs es d i) = true)
  | [], m, es, d, _ => by
    constructor
    · intro _ i h1 h2
      exact absurd h2 (by simp; omega)
    · intro _
      unfold vds
      rfl
  | r :: rs, m, es, [], h => by simp at h
  | r :: rs, m, es, b :: d, h => by
    have ih := vds_iff fs rs (m + 1) (mv b es r) d (by simpa using h)
    show (heeds fs (m + 1) (mv b es r) && vds fs rs (m + 1) (mv b es r) d) = true ↔ _
    rw [Bool.and_eq_true, ih]
    constructor
    · rintro ⟨h1, h2⟩ i hi hl
      cases i with
      | zero => omega
      | succ i =>
        rw [sts_cons]
        cases i with
        | zero => exact h1
        | succ i =>
          have z := h2 (i + 1) (by omega) (by simpa using hl)
          have e : m + 1 + (i + 1) = m + (i + 1 + 1) := by omega
          rw [e] at z
          exact z
    · intro hh
      refine ⟨?_, fun i h1 h2 => ?_⟩
      · have z := hh 1 (Nat.le_refl 1) (by simp)
        rw [sts_cons] at z
        exact z
      · have z := hh (i + 1) (by omega) (by simpa using h2)
        rw [sts_cons] at z
        have e : m + (i + 1) = m + 1 + i := by omega
        rw [e] at z
        exact z
theorem vd_iff {fs : List Fnd} {n : Nat} {rs : List Row} {d : List Bool} (hd : d.length = rs.length) (hf : ∀ f ∈ fs, f.m ≤ rs.length) : vd fs n rs d = true ↔ heeds fs 0 (begun n) = true ∧ vds fs rs 0 (begun n) d = true := by
  rw [vds_iff fs rs 0 (begun n) d hd]
  unfold vd
  rw [List.all_eq_true]
  constructor
  · intro h
    refine ⟨heeds_iff.mpr fun f hm e => ?_, fun i _ _ => heeds_iff.mpr fun f hm e => ?_⟩
    · have z := of_decide_eq_true (h f hm)
      rw [e] at z
      exact z
    · have z := of_decide_eq_true (h f hm)
      have e' : f.m = i := by omega
      rw [e', st_sts] at z
      exact z
  · rintro ⟨h0, h1⟩ f hm
    refine decide_eq_true ?_
    rw [st_sts]
    by_cases e : f.m = 0
    · rw [e]
      exact heeds_iff.mp h0 f hm e
    · have z := h1 f.m (by omega) (hf f hm)
      exact heeds_iff.mp z f hm (by omega)
/-- all doings gone through tell the same -/
theorem due_ans {fs : List Fnd} {n : Nat} {rs : List Row} (hf : ∀ f ∈ fs, f.m ≤ rs.length) : fml ((allD rs).filter fun d => vd fs n rs d) = ans fs n rs := by
  unfold ans
  by_cases h : heeds fs 0 (begun n) = true
  · rw [if_pos h, ← fml_best]
    congr 1
    refine List.filter_congr fun d hm => ?_
    have hl := (mem_allD.mp hm).1
    rw [Bool.eq_iff_iff, vd_iff hl hf]
    exact ⟨fun z => z.2, fun z => ⟨h, z⟩⟩
  · rw [if_neg h]
    have e : (allD rs).filter (fun d => vd fs n rs d) = [] := by
      refine List.filter_eq_nil_iff.mpr fun d hm q => h ?_
      exact ((vd_iff (mem_allD.mp hm).1 hf).mp q).1
    rw [e] <;> rfl
theorem fml_none {l : List (List Bool)} (h : fml l = none) : l = [] := by
  cases l with
  | nil => rfl
  | cons d l =>
    rw [fml_cons] at h
    cases e : fml l with
    | none => rw [e] at h; cases h
    | some a =>
      rw [e] at h
      change (if a.1 < cnt d then some a else some (cnt d, d)) = none at h
      split at h <;> cases h
theorem fml_some : ∀ {l : List (List Bool)} {c : Nat} {d : List Bool}, fml l = some (c, d) → d ∈ l ∧ c = cnt d ∧ ∀ q ∈ l, c ≤ cnt q
  | [], c, d, h => by cases h
  | x :: l, c, d, h => by
    rw [fml_cons] at h
    cases e : fml l with
    | none =>
      rw [e] at h
      cases h
      rw [fml_none e]
      exact ⟨List.mem_singleton.mpr rfl, rfl, fun q hq => by rw [List.mem_singleton.mp hq]; exact Nat.le_refl _⟩
    | some a =>
      obtain ⟨c', d'⟩ := a
      obtain ⟨h1, h2, h3⟩ := fml_some e
      rw [e] at h
      change (if c' < cnt x then some (c', d') else some (cnt x, x)) = some (c, d) at h
      split at h
      · cases h
        exact ⟨List.mem_cons_of_mem _ h1, h2, fun q hq => (List.mem_cons.mp hq).elim (fun z => by rw [z]; omega) (h3 q)⟩
      · cases h
        exact ⟨List.mem_cons_self, rfl, fun q hq => (List.mem_cons.mp hq).elim (fun z => by rw [z]; exact Nat.le_refl _) fun z => by have := h3 q z; omega⟩
/-- a doing in which the finds are true, and the least -/
theorem ans_le {fs : List Fnd} {n : Nat} {rs : List Row} {d : List Bool} (hf : ∀ f ∈ fs, f.m ≤ rs.length) (hd : isD rs d) (hv : vd fs n rs d = true) : ∃ c q, ans fs n rs = some (c, q) ∧ c ≤ cnt d := by
  have hm : d ∈ (allD rs).filter fun d => vd fs n rs d := List.mem_filter.mpr ⟨mem_allD.mpr hd, hv⟩
  rw [← due_ans hf]
  cases e : fml ((allD rs).filter fun d => vd fs n rs d) with
  | none =>
    rw [fml_none e] at hm
    cases hm
  | some a =>
    obtain ⟨c, q⟩ := a
    exact ⟨c, q, rfl, (fml_some e).2.2 d hm⟩
theorem ans_is {fs : List Fnd} {n : Nat} {rs : List Row} {c : Nat} {d : List Bool} (hf : ∀ f ∈ fs, f.m ≤ rs.length) (h : ans fs n rs = some (c, d)) : isD rs d ∧ vd fs n rs d = true ∧ c = cnt d := by
  rw [← due_ans hf] at h
  obtain ⟨h1, h2, _⟩ := fml_some h
  obtain ⟨h3, h4⟩ := List.mem_filter.mp h1
  exact ⟨mem_allD.mp h3, h4, h2⟩
/-- fewer finds never need more -/
theorem ans_fewer {fs gs : List Fnd} {n : Nat} {rs : List Row} {c : Nat} {d : List Bool} (hf : ∀ f ∈ fs, f.m ≤ rs.length) (hs : ∀ f ∈ gs, f ∈ fs) (h : ans fs n rs = some (c, d)) : ∃ c' d', ans gs n rs = some (c', d') ∧ c' ≤ c := by
  obtain ⟨h1, h2, h3⟩ := ans_is hf h
  have hv : vd gs n rs d = true := by
    unfold vd at h2 ⊢
    rw [List.all_eq_true] at h2 ⊢
    exact fun f hm => h2 f (hs f hm)
  obtain ⟨c', q, e, le⟩ := ans_le (fun f hm => hf f (hs f hm)) h1 hv
  exact ⟨c', q, e, by omega⟩
theorem heeds_nil (m : Nat) (es : List Int) : heeds [] m es = true := rfl
theorem best_nil : ∀ (rs : List Row) (m : Nat) (es : List Int), best [] rs m es = some (cnt (rs.map (·.s)), rs.map (·.s))
  | [], _, _ => rfl
  | r :: rs, m, es => by
    have one : ∀ b, (if heeds [] (m + 1) (mv b es r) = true then (best [] rs (m + 1) (mv b es r)).map (fun p => (b.toNat + p.1, b :: p.2)) else none) = some (b.toNat + cnt (rs.map (·.s)), b :: rs.map (·.s)) := fun b => by
      rw [if_pos (heeds_nil _ _), best_nil rs] <;> rfl
    unfold best
    rcases opts_cases r with ⟨hs, e⟩ | ⟨hs, e⟩
    · rw [e]
      simp only [List.foldr_cons, List.foldr_nil, comb_none]
      rw [one true, List.map_cons, cnt_cons, hs]
    · rw [e]
      simp only [List.foldr_cons, List.foldr_nil, comb_none]
      rw [one true, one false, List.map_cons, cnt_cons, hs]
      show (if true.toNat + cnt (rs.map (·.s)) < false.toNat + cnt (rs.map (·.s)) then _ else _) = _
      rw [if_neg (by show ¬ 1 + cnt (rs.map (·.s)) < 0 + cnt (rs.map (·.s)); omega)]
/-- without finds the sure rows alone -/
theorem ans_nil (n : Nat) (rs : List Row) : ans [] n rs = some (cnt (rs.map (·.s)), rs.map (·.s)) := by
  unfold ans
  rw [if_pos (heeds_nil _ _), best_nil]
theorem cnt_le (d : List Bool) : cnt d ≤ d.length := List.length_filter_le _ _
end K70

/-! the mathematics: sheets never fall along the row, so there are few of them -/
namespace K70
/-- sheets of n offices -/
structure Shs (n : Nat) (es : List Int) : Prop where
  len : es.length = n
  mono : ∀ i j, i ≤ j → j < n → es.getD i 0 ≤ es.getD j 0
  low : ∀ i, i < n → 0 ≤ es.getD i 0
  high : ∀ i, i < n → es.getD i 0 < n
structure RowOk (n : Nat) (r : Row) : Prop where
  x : r.x < n
  y : r.y < n
  by1 : r.y = r.x + 1 ∨ r.x = r.y + 1
structure FndOk (n t : Nat) (f : Fnd) : Prop where
  m : f.m ≤ t
  o : f.o < n
  lo : 0 ≤ f.e
  hi : f.e < n
theorem getD_set (es : List Int) (x i : Nat) (v : Int) (hx : x < es.length) : (es.set x v).getD i 0 = if i = x then v else es.getD i 0 := by
  rw [List.getD_eq_getElem?_getD, List.getD_eq_getElem?_getD, List.getElem?_set]
  by_cases h : x = i
  · subst h
    rw [if_pos rfl, if_pos hx, if_pos rfl] <;> rfl
  · rw [if_neg h, if_neg (fun z => h z.symm)]
theorem begun_len (n : Nat) : (begun n).length = n := by
  unfold begun
  rw [List.length_map, List.length_range]
theorem begun_get (n i : Nat) (h : i < n) : (begun n).getD i 0 = i := by
  unfold begun
  rw [List.getD_eq_getElem?_getD, List.getElem?_map, List.getElem?_range h] <;> rfl
theorem begun_ok (n : Nat) : Shs n (begun n) :=
  ⟨begun_len n, fun i j h1 h2 => by rw [begun_get n i (by omega), begun_get n j h2]; omega, fun i h => by rw [begun_get n i h]; omega, fun i h => by rw [begun_get n i h]; omega⟩
theorem cp_ok {n : Nat} {es : List Int} {r : Row} (h : Shs n es) (hr : RowOk n r) : Shs n (cp es r) := by
  have hx : r.x < es.length := by rw [h.len]; exact hr.x
  have g : ∀ i, (cp es r).getD i 0 = if i = r.x then es.getD r.y 0 else es.getD i 0 := fun i => getD_set es r.x i _ hx
  refine ⟨by unfold cp; rw [List.length_set]; exact h.len, fun i j h1 h2 => ?_, fun i hi => ?_, fun i hi => ?_⟩
  · rw [g i, g j]
    by_cases e1 : i = r.x
    · by_cases e2 : j = r.x
      · rw [if_pos e1, if_pos e2]; exact Int.le_refl _
      · rw [if_pos e1, if_neg e2]
        exact h.mono _ _ (by have := hr.by1; omega) h2
    · by_cases e2 : j = r.x
      · rw [if_neg e1, if_pos e2]
        exact h.mono _ _ (by have := hr.by1; omega) hr.y
      · rw [if_neg e1, if_neg e2]
        exact h.mono _ _ h1 h2
  · rw [g i]
    split
    · exact h.low _ hr.y
    · exact h.low i hi
  · rw [g i]
    split
    · exact h.high _ hr.y
    · exact h.high i hi
theorem mv_ok {n : Nat} {es : List Int} {r : Row} {b : Bool} (h : Shs n es) (hr : RowOk n r) : Shs n (mv b es r) := by
  unfold mv
  split
  · exact cp_ok h hr
  · exact h
theorem rowAt_get {rs : List Row} {m : Nat} (h : m < rs.length) : rs[m]? = some (rowAt rs m) := by
  unfold rowAt
  rw [List.getD_eq_getElem?_getD, List.getElem?_eq_getElem h] <;> rfl
theorem rowAt_ok {n : Nat} {rs : List Row} {m : Nat} (hr : ∀ r ∈ rs, RowOk n r) (h : m < rs.length) : RowOk n (rowAt rs m) := hr _ (List.mem_of_getElem? (rowAt_get h))
theorem rch_ok {fs : List Fnd} {n : Nat} {S : List (List Int)} {rs : List Row} (hS : ∀ es ∈ S, Shs n es) (hr : ∀ r ∈ rs, RowOk n r) : ∀ (m : Nat), m ≤ rs.length → ∀ es ∈ rch fs S rs m, Shs n es
  | 0, _, es, he => hS es he
  | m + 1, hm, es, he => by
    obtain ⟨q, hq, b, hb, e, _⟩ := mem_rch.mp he
    rw [← e]
    exact mv_ok (rch_ok hS hr m (by omega) q hq) (rowAt_ok hr (by omega))
theorem st_ok {n : Nat} {rs : List Row} {d : List Bool} (hr : ∀ r ∈ rs, RowOk n r) : ∀ m, m ≤ rs.length → Shs n (st n rs d m)
  | 0, _ => begun_ok n
  | m + 1, hm => mv_ok (st_ok hr m (by omega)) (rowAt_ok hr (by omega))
/-- all lists of a length that do not fall, from a number of some on -/
def asc (n : Nat) : Nat → Nat → List (List Int)
  | 0, _ => [[]]
  | k + 1, lo => (List.range n).flatMap fun a => if lo ≤ a then (asc n k a).map ((a : Int) :: ·) else []
theorem mem_asc (n : Nat) : ∀ (k lo : Nat) (es : List Int), es.length = k → (∀ i j, i ≤ j → j < k → es.getD i 0 ≤ es.getD j 0) → (∀ i, i < k → (lo : Int) ≤ es.getD i 0) → (∀ i, i < k → es.getD i 0 < n) → es ∈ asc n k lo
  | 0, lo, es, h, _, _, _ => by
    rw [List.length_eq_zero_iff.mp h]
    exact List.mem_singleton.mpr rfl
  | k + 1, lo, [], h, _, _, _ => by simp at h
  | k + 1, lo, a :: es, h, h1, h2, h3 => by
    have ha : (lo : Int) ≤ a := h2 0 (by omega)
    have hb : a < n := h3 0 (by omega)
    obtain ⟨c, hc⟩ : ∃ c : Nat, a = (c : Int) := ⟨a.toNat, by omega⟩
    subst hc
    show _ ∈ List.flatMap _ _
    refine List.mem_flatMap.mpr ⟨c, List.mem_range.mpr (by omega), ?_⟩
    rw [if_pos (by omega)]
    refine List.mem_map.mpr ⟨es, mem_asc n k c es (by simpa using h) (fun i j hi hj => ?_) (fun i hi => ?_) (fun i hi => ?_), rfl⟩
    · exact h1 (i + 1) (j + 1) (by omega) (by omega)
    · exact h1 0 (i + 1) (by omega) (by omega)
    · exact h3 (i + 1) (by omega)
theorem shs_asc {n : Nat} {es : List Int} (h : Shs n es) : es ∈ asc n n 0 := mem_asc n n 0 es h.len h.mono (fun i hi => h.low i hi) h.high
theorem nodup_le {α : Type} [DecidableEq α] : ∀ {l k : List α}, l.Nodup → (∀ x ∈ l, x ∈ k) → l.length ≤ k.length
  | [], _, _, _ => Nat.zero_le _
  | a :: l, k, h, hs => by
    obtain ⟨h1, h2⟩ := List.nodup_cons.mp h
    have ih := nodup_le (l := l) (k := k.erase a) h2 fun x hx => (List.mem_erase_of_ne (fun (e : x = a) => h1 (by rw [← e]; exact hx))).mpr (hs x (List.mem_cons_of_mem _ hx))
    have ha : a ∈ k := hs a List.mem_cons_self
    rw [List.length_erase_of_mem ha] at ih
    have : 0 < k.length := List.length_pos_of_mem ha
    show l.length + 1 ≤ k.length
    omega
theorem asc_few : ∀ n, n ≤ 8 → (asc n n 0).length ≤ 6435 := by decide +kernel
theorem asc_few4 : ∀ n, n ≤ 4 → (asc n n 0).length ≤ 35 := by decide +kernel
theorem few {n : Nat} {S : List (List Int)} (hn : n ≤ 8) (hd : S.Nodup) (h : ∀ es ∈ S, Shs n es) : S.length ≤ 6435 := Nat.le_trans (nodup_le hd fun es he => shs_asc (h es he)) (asc_few n hn)
theorem few4 {n : Nat} {S : List (List Int)} (hn : n ≤ 4) (hd : S.Nodup) (h : ∀ es ∈ S, Shs n es) : S.length ≤ 35 := Nat.le_trans (nodup_le hd fun es he => shs_asc (h es he)) (asc_few4 n hn)
end K70

set_option maxRecDepth 100000
set_option maxHeartbeats 4000000
/-! the text: each def of the top, the names of its scope -/
namespace K70
open PySem PySem.Spec PyProof.Rows L2
def topS (i : Nat) : Stmt := PySem.Challenge.pw_takenover_k70_whole_fewest_rows_done.main.body.getD i (.Pass ⟨0, 0, 0, 0⟩)
abbrev sIsInteger : Stmt := topS 7
abbrev nIsInteger : List Str := ["thing"]
theorem scIsInteger : FnScope nIsInteger ["thing"] (defScope sIsInteger) := ⟨rfl, rfl, rfl, by decide +kernel, rfl, by decide +kernel, by decide +kernel⟩
abbrev sIsWithin : Stmt := topS 8
abbrev nIsWithin : List Str := ["thing", "least", "most"]
theorem scIsWithin : FnScope nIsWithin ["thing", "least", "most"] (defScope sIsWithin) := ⟨rfl, rfl, rfl, by decide +kernel, rfl, by decide +kernel, by decide +kernel⟩
abbrev sIsListed : Stmt := topS 9
abbrev nIsListed : List Str := ["thing"]
theorem scIsListed : FnScope nIsListed ["thing"] (defScope sIsListed) := ⟨rfl, rfl, rfl, by decide +kernel, rfl, by decide +kernel, by decide +kernel⟩
abbrev sIsTriple : Stmt := topS 10
abbrev nIsTriple : List Str := ["thing"]
theorem scIsTriple : FnScope nIsTriple ["thing"] (defScope sIsTriple) := ⟨rfl, rfl, rfl, by decide +kernel, rfl, by decide +kernel, by decide +kernel⟩
abbrev sIsFlag : Stmt := topS 11
abbrev nIsFlag : List Str := ["thing"]
theorem scIsFlag : FnScope nIsFlag ["thing"] (defScope sIsFlag) := ⟨rfl, rfl, rfl, by decide +kernel, rfl, by decide +kernel, by decide +kernel⟩
abbrev sCheckMost : Stmt := topS 12
abbrev nCheckMost : List Str := ["many", "most"]
theorem scCheckMost : FnScope nCheckMost ["many", "most"] (defScope sCheckMost) := ⟨rfl, rfl, rfl, by decide +kernel, rfl, by decide +kernel, by decide +kernel⟩
abbrev sIsRow : Stmt := topS 15
abbrev nIsRow : List Str := ["offices", "thing"]
theorem scIsRow : FnScope nIsRow ["offices", "thing"] (defScope sIsRow) := ⟨rfl, rfl, rfl, by decide +kernel, rfl, by decide +kernel, by decide +kernel⟩
abbrev sFirstBad : Stmt := topS 16
abbrev nFirstBad : List Str := ["offices", "rows", "number", "row"]
theorem scFirstBad : FnScope nFirstBad ["offices", "rows"] (defScope sFirstBad) := ⟨rfl, rfl, rfl, by decide +kernel, rfl, by decide +kernel, by decide +kernel⟩
abbrev sLogInit : Stmt := inClass (topS 17) 0
abbrev nLogInit : List Str := ["self", "offices", "rows", "wrong"]
theorem scLogInit : FnScope nLogInit ["self", "offices", "rows"] (defScope sLogInit) := ⟨rfl, rfl, rfl, by decide +kernel, rfl, by decide +kernel, by decide +kernel⟩
abbrev sBegun : Stmt := topS 18
abbrev nBegun : List Str := ["offices"]
theorem scBegun : FnScope nBegun ["offices"] (defScope sBegun) := ⟨rfl, rfl, rfl, by decide +kernel, rfl, by decide +kernel, by decide +kernel⟩
abbrev sCopied : Stmt := topS 19
abbrev nCopied : List Str := ["editions", "row"]
theorem scCopied : FnScope nCopied ["editions", "row"] (defScope sCopied) := ⟨rfl, rfl, rfl, by decide +kernel, rfl, by decide +kernel, by decide +kernel⟩
abbrev sIsFind : Stmt := topS 22
abbrev nIsFind : List Str := ["log", "thing"]
theorem scIsFind : FnScope nIsFind ["log", "thing"] (defScope sIsFind) := ⟨rfl, rfl, rfl, by decide +kernel, rfl, by decide +kernel, by decide +kernel⟩
abbrev sCheckFinds : Stmt := topS 23
abbrev nCheckFinds : List Str := ["log", "finds", "find"]
theorem scCheckFinds : FnScope nCheckFinds ["log", "finds"] (defScope sCheckFinds) := ⟨rfl, rfl, rfl, by decide +kernel, rfl, by decide +kernel, by decide +kernel⟩
abbrev sCheckFew : Stmt := topS 26
abbrev nCheckFew : List Str := ["log"]
theorem scCheckFew : FnScope nCheckFew ["log"] (defScope sCheckFew) := ⟨rfl, rfl, rfl, by decide +kernel, rfl, by decide +kernel, by decide +kernel⟩
abbrev sFindsByMoment : Stmt := topS 27
abbrev nFindsByMoment : List Str := ["log", "finds", "moment", "found", "office", "edition"]
theorem scFindsByMoment : FnScope nFindsByMoment ["log", "finds"] (defScope sFindsByMoment) := ⟨rfl, rfl, rfl, by decide +kernel, rfl, by decide +kernel, by decide +kernel⟩
abbrev sHasAll : Stmt := topS 28
abbrev nHasAll : List Str := ["editions", "pairs", "office", "edition"]
theorem scHasAll : FnScope nHasAll ["editions", "pairs"] (defScope sHasAll) := ⟨rfl, rfl, rfl, by decide +kernel, rfl, by decide +kernel, by decide +kernel⟩
abbrev sNexts : Stmt := topS 29
abbrev nNexts : List Str := ["editions", "row", "found"]
theorem scNexts : FnScope nNexts ["editions", "row"] (defScope sNexts) := ⟨rfl, rfl, rfl, by decide +kernel, rfl, by decide +kernel, by decide +kernel⟩
abbrev sWaysTo : Stmt := topS 30
abbrev nWaysTo : List Str := ["log", "finds", "told", "first", "found", "moment", "row", "later", "editions", "many", "flag", "more"]
theorem scWaysTo : FnScope nWaysTo ["log", "finds"] (defScope sWaysTo) := ⟨rfl, rfl, rfl, by decide +kernel, rfl, by decide +kernel, by decide +kernel⟩
abbrev sFewestFrom : Stmt := topS 31
abbrev nFewestFrom : List Str := ["log", "finds", "come", "editions", "found", "moment", "ahead", "some", "flag", "more"]
theorem scFewestFrom : FnScope nFewestFrom ["log", "finds"] (defScope sFewestFrom) := ⟨rfl, rfl, rfl, by decide +kernel, rfl, by decide +kernel, by decide +kernel⟩
abbrev sFewestDone : Stmt := topS 32
abbrev nFewestDone : List Str := ["log", "finds", "rows", "editions", "doing", "moment", "row", "due", "flag", "more"]
theorem scFewestDone : FnScope nFewestDone ["log", "finds"] (defScope sFewestDone) := ⟨rfl, rfl, rfl, by decide +kernel, rfl, by decide +kernel, by decide +kernel⟩
abbrev sLawHand : Stmt := topS 34
abbrev nLawHand : List Str := ["_law_script", "_law_cells", "_law_cell"]
theorem scLawHand : FnScope nLawHand ["_law_script"] (defScope sLawHand) := ⟨rfl, rfl, rfl, by decide +kernel, rfl, by decide +kernel, by decide +kernel⟩
abbrev sLawDraw : Stmt := topS 35
abbrev nLawDraw : List Str := ["_law_hand_here", "_law_many", "_law_cell", "_law_digit", "_law_number"]
theorem scLawDraw : FnScope nLawDraw ["_law_hand_here", "_law_many"] (defScope sLawDraw) := ⟨rfl, rfl, rfl, by decide +kernel, rfl, by decide +kernel, by decide +kernel⟩
abbrev sLawRow : Stmt := topS 36
abbrev nLawRow : List Str := ["_law_hand_here", "_law_offices", "_law_share", "_law_one", "_law_other"]
theorem scLawRow : FnScope nLawRow ["_law_hand_here", "_law_offices", "_law_share"] (defScope sLawRow) := ⟨rfl, rfl, rfl, by decide +kernel, rfl, by decide +kernel, by decide +kernel⟩
abbrev sLawRows : Stmt := topS 37
abbrev nLawRows : List Str := ["_law_hand_here", "_law_offices", "_law_most", "_law_share", "_law_turn"]
theorem scLawRows : FnScope nLawRows ["_law_hand_here", "_law_offices", "_law_most", "_law_share"] (defScope sLawRows) := ⟨rfl, rfl, rfl, by decide +kernel, rfl, by decide +kernel, by decide +kernel⟩
abbrev sLawLed : Stmt := topS 38
abbrev nLawLed : List Str := ["_law_offices", "_law_rows_here", "_law_doing", "_law_found", "_law_flag", "_law_row_here", "_law_now"]
theorem scLawLed : FnScope nLawLed ["_law_offices", "_law_rows_here", "_law_doing"] (defScope sLawLed) := ⟨rfl, rfl, rfl, by decide +kernel, rfl, by decide +kernel, by decide +kernel⟩
abbrev sLawDoings : Stmt := topS 39
abbrev nLawDoings : List Str := ["_law_rows_here", "_law_found", "_law_row_here", "_law_later", "_law_doing"]
theorem scLawDoings : FnScope nLawDoings ["_law_rows_here"] (defScope sLawDoings) := ⟨rfl, rfl, rfl, by decide +kernel, rfl, by decide +kernel, by decide +kernel⟩
abbrev sLawSomeDoing : Stmt := topS 40
abbrev nLawSomeDoing : List Str := ["_law_hand_here", "_law_rows_here", "_law_row_here"]
theorem scLawSomeDoing : FnScope nLawSomeDoing ["_law_hand_here", "_law_rows_here"] (defScope sLawSomeDoing) := ⟨rfl, rfl, rfl, by decide +kernel, rfl, by decide +kernel, by decide +kernel⟩
abbrev sLawFinds : Stmt := topS 41
abbrev nLawFinds : List Str := ["_law_hand_here", "_law_offices", "_law_rows_here", "_law_most", "_law_odd", "_law_led_here", "_law_found", "_law_turn", "_law_moment", "_law_office", "_law_edition"]
theorem scLawFinds : FnScope nLawFinds ["_law_hand_here", "_law_offices", "_law_rows_here", "_law_most", "_law_odd"] (defScope sLawFinds) := ⟨rfl, rfl, rfl, by decide +kernel, rfl, by decide +kernel, by decide +kernel⟩
abbrev sLawAreTrue : Stmt := topS 42
abbrev nLawAreTrue : List Str := ["_law_led_here", "_law_finds_here", "_law_moment", "_law_office", "_law_edition"]
theorem scLawAreTrue : FnScope nLawAreTrue ["_law_led_here", "_law_finds_here"] (defScope sLawAreTrue) := ⟨rfl, rfl, rfl, by decide +kernel, rfl, by decide +kernel, by decide +kernel⟩
abbrev sLawGood : Stmt := topS 43
abbrev nLawGood : List Str := ["_law_offices", "_law_rows_here", "_law_finds_here", "_law_found", "_law_doing", "_law_led_here"]
theorem scLawGood : FnScope nLawGood ["_law_offices", "_law_rows_here", "_law_finds_here"] (defScope sLawGood) := ⟨rfl, rfl, rfl, by decide +kernel, rfl, by decide +kernel, by decide +kernel⟩
abbrev sLawDue : Stmt := topS 44
abbrev nLawDue : List Str := ["_law_offices", "_law_rows_here", "_law_finds_here", "_law_best", "_law_doing", "_law_led_here", "_law_many", "_law_flag"]
theorem scLawDue : FnScope nLawDue ["_law_offices", "_law_rows_here", "_law_finds_here"] (defScope sLawDue) := ⟨rfl, rfl, rfl, by decide +kernel, rfl, by decide +kernel, by decide +kernel⟩
abbrev sLawLong : Stmt := topS 45
abbrev nLawLong : List Str := ["_law_hand_here", "_law_offices", "_law_rows_here", "_law_turn"]
theorem scLawLong : FnScope nLawLong ["_law_hand_here"] (defScope sLawLong) := ⟨rfl, rfl, rfl, by decide +kernel, rfl, by decide +kernel, by decide +kernel⟩
abbrev sLawNext : Stmt := topS 46
abbrev nLawNext : List Str := ["_law_editions", "_law_row_here", "_law_found"]
theorem scLawNext : FnScope nLawNext ["_law_editions", "_law_row_here"] (defScope sLawNext) := ⟨rfl, rfl, rfl, by decide +kernel, rfl, by decide +kernel, by decide +kernel⟩
abbrev sLawHeeds : Stmt := topS 47
abbrev nLawHeeds : List Str := ["_law_finds_here", "_law_moment", "_law_editions", "_law_at", "_law_office", "_law_edition"]
theorem scLawHeeds : FnScope nLawHeeds ["_law_finds_here", "_law_moment", "_law_editions"] (defScope sLawHeeds) := ⟨rfl, rfl, rfl, by decide +kernel, rfl, by decide +kernel, by decide +kernel⟩
abbrev sLawLongRight : Stmt := topS 48
abbrev nLawLongRight : List Str := ["_law_hand_here", "_law_offices", "_law_rows_here", "_law_finds_here", "_law_first", "_law_layers", "_law_moment", "_law_later", "_law_editions", "_law_flag", "_law_more", "_law_least", "_law_back", "_law_some", "_law_told", "_law_doing", "_law_due_here"]
theorem scLawLongRight : FnScope nLawLongRight ["_law_hand_here"] (defScope sLawLongRight) := ⟨rfl, rfl, rfl, by decide +kernel, rfl, by decide +kernel, by decide +kernel⟩
abbrev sLaw : Stmt := topS 49
abbrev nLaw : List Str := ["_law_script", "_law_hand_here", "_law_turn", "_law_offices", "_law_rows_here", "_law_finds_here", "_law_log", "_law_due_here", "_law_told", "_law_at", "_law_fewer", "_law_doing", "_law_led_here", "_law_last", "_law_some", "_law_least", "_law_sure", "_law_office", "_law_row_here", "_law_flag"]
theorem scLaw : FnScope nLaw ["_law_script"] (defScope sLaw) := ⟨rfl, rfl, rfl, by decide +kernel, rfl, by decide +kernel, by decide +kernel⟩
end K70

set_option maxRecDepth 100000
set_option maxHeartbeats 4000000
/-! what stands in the heap; how a def is called -/
namespace K70
open PySem PySem.Spec PyProof.Rows L2
/-! ### heaps -/
/-- the tuples are kept -/
abbrev Tk (H H' : Hp) : Prop := ∀ b xs, H b = some (.tup xs) → H' b = some (.tup xs)
theorem tk_same {H H' : Hp} (s : Same H H') : Tk H H' := fun b xs e => s b _ e
theorem tk_refl (H : Hp) : Tk H H := fun _ _ e => e
theorem Tk.trans {H H1 H2 : Hp} (a : Tk H H1) (b : Tk H1 H2) : Tk H H2 := fun c xs e => b c xs (a c xs e)
theorem same_new {H : Hp} {p : Addr} {o : HO} (h : H p = none) : Same H (upd H p o) := fun b x e => by
  rw [upd_ne (ne_of_none e h)]
  exact e
theorem tk_new {H : Hp} {p : Addr} {o : HO} (h : H p = none) : Tk H (upd H p o) := tk_same (same_new h)
theorem tk_lst {H : Hp} {p : Addr} {o : HO} {xs : List V} (h : H p = some (.lst xs)) : Tk H (upd H p o) := fun b ys e => by
  rw [upd_ne (ne_of e h fun z => nomatch z)]
  exact e
theorem tk_dT {H : Hp} {p : Addr} {o : HO} {kvs : List (List Key × V)} (h : H p = some (.dT kvs)) : Tk H (upd H p o) := fun b ys e => by
  rw [upd_ne (ne_of e h fun z => nomatch z)]
  exact e
/-- all but the thing at a is kept -/
abbrev But (a : Addr) (H H' : Hp) : Prop := ∀ b o, b ≠ a → H b = some o → H' b = some o
theorem But.refl (a : Addr) (H : Hp) : But a H H := fun _ _ _ e => e
theorem But.trans {a : Addr} {H H1 H2 : Hp} (x : But a H H1) (y : But a H1 H2) : But a H H2 := fun b o hb e => y b o hb (x b o hb e)
theorem But.same {a : Addr} {H H' : Hp} (s : Same H H') : But a H H' := fun b o _ e => s b o e
theorem But.tk {a : Addr} {H H' : Hp} {xs : List V} (x : But a H H') (h : H a = some (.lst xs)) : Tk H H' := fun b ys e => x b _ (ne_of e h fun z => nomatch z) e
theorem But.upd {a : Addr} {H : Hp} {o : HO} : But a H (upd H a o) := fun b u hb e => by
  rw [upd_ne hb]
  exact e
/-- what was kept but for a thing that was new is kept -/
theorem same_but {a : Addr} {H H1 H2 : Hp} (s : Same H H1) (n : H a = none) (x : But a H1 H2) : Same H H2 := fun b o e => x b o (ne_of_none e n) (s b o e)
/-! ### item by item -/
structure All2 {α : Type} (R : V → α → Prop) (vs : List V) (l : List α) : Prop where
  len : vs.length = l.length
  ea : ∀ (i : Nat) (v : V) (x : α), vs[i]? = some v → l[i]? = some x → R v x
section
variable {α : Type} {R : V → α → Prop} {vs : List V} {l : List α}
theorem All2.nil : All2 R [] [] := ⟨rfl, fun i v x e => by simp at e⟩
theorem All2.imp {R' : V → α → Prop} (a : All2 R vs l) (f : ∀ v x, R v x → R' v x) : All2 R' vs l := ⟨a.len, fun i v x h1 h2 => f v x (a.ea i v x h1 h2)⟩
theorem All2.get (a : All2 R vs l) {i : Nat} {x : α} (h : l[i]? = some x) : ∃ v, vs[i]? = some v ∧ R v x := by
  have hi : i < l.length := (List.getElem?_eq_some_iff.mp h).1
  have hv : vs[i]? = some (vs[i]'(by rw [a.len]; exact hi)) := List.getElem?_eq_getElem _
  exact ⟨_, hv, a.ea i _ x hv h⟩
theorem All2.back (a : All2 R vs l) {i : Nat} {v : V} (h : vs[i]? = some v) : ∃ x, l[i]? = some x ∧ R v x := by
  have hi : i < vs.length := (List.getElem?_eq_some_iff.mp h).1
  have hx : l[i]? = some (l[i]'(by rw [← a.len]; exact hi)) := List.getElem?_eq_getElem _
  exact ⟨_, hx, a.ea i v _ h hx⟩
theorem All2.snoc (a : All2 R vs l) {v : V} {x : α} (r : R v x) : All2 R (vs ++ [v]) (l ++ [x]) := by
  refine ⟨by simp [a.len], fun i v' x' h1 h2 => ?_⟩
  by_cases hi : i < vs.length
  · rw [List.getElem?_append_left hi] at h1
    rw [List.getElem?_append_left (by rw [← a.len]; exact hi)] at h2
    exact a.ea i v' x' h1 h2
  · have e1 : i = vs.length := by
      have := (List.getElem?_eq_some_iff.mp h1).1
      simp at this
      omega
    rw [e1] at h1
    rw [e1, a.len] at h2
    simp at h1 h2
    rw [← h1, ← h2]
    exact r
theorem All2.cons (a : All2 R vs l) {v : V} {x : α} (r : R v x) : All2 R (v :: vs) (x :: l) := by
  refine ⟨by simp [a.len], fun i v' x' h1 h2 => ?_⟩
  cases i with
  | zero =>
    simp at h1 h2
    rw [← h1, ← h2]
    exact r
  | succ i => exact a.ea i v' x' (by simpa using h1) (by simpa using h2)
theorem All2.append {ws : List V} {k : List α} (a : All2 R vs l) (b : All2 R ws k) : All2 R (vs ++ ws) (l ++ k) := by
  refine ⟨by simp [a.len, b.len], fun i v x h1 h2 => ?_⟩
  by_cases hi : i < vs.length
  · rw [List.getElem?_append_left hi] at h1
    rw [List.getElem?_append_left (by rw [← a.len]; exact hi)] at h2
    exact a.ea i v x h1 h2
  · rw [List.getElem?_append_right (by omega)] at h1
    rw [List.getElem?_append_right (by rw [← a.len]; omega), ← a.len] at h2
    exact b.ea _ v x h1 h2
theorem All2.map (f : α → V) (h : ∀ x, R (f x) x) : All2 R (l.map f) l := ⟨List.length_map .., fun i v x h1 h2 => by
  rw [List.getElem?_map, h2] at h1
  cases h1
  exact h x⟩
theorem All2.take (a : All2 R vs l) (n : Nat) : All2 R (vs.take n) (l.take n) := by
  refine ⟨by simp [a.len], fun i v x h1 h2 => ?_⟩
  rw [List.getElem?_take] at h1 h2
  split at h1
  · rename_i h
    rw [if_pos h] at h2
    exact a.ea i v x h1 h2
  · cases h1
theorem All2.drop (a : All2 R vs l) (n : Nat) : All2 R (vs.drop n) (l.drop n) :=
  ⟨by simp [a.len], fun i v x h1 h2 => a.ea (n + i) v x (by rw [← h1, List.getElem?_drop]) (by rw [← h2, List.getElem?_drop])⟩
end
/-! ### values -/
/-- a tuple of ints; of flags; a row; a find; a pair (flag, sheets); a pair (office, edition) -/
def IT (H : Hp) (v : V) (es : List Int) : Prop := ∃ p, v = .ref p ∧ H p = some (.tup (es.map V.int))
def BT (H : Hp) (v : V) (bs : List Bool) : Prop := ∃ p, v = .ref p ∧ H p = some (.tup (bs.map V.bl))
def RowV (H : Hp) (v : V) (r : Row) : Prop := ∃ p, v = .ref p ∧ H p = some (.tup [.int (r.x : Nat), .int (r.y : Nat), .bl r.s])
def FndV (H : Hp) (v : V) (f : Fnd) : Prop := ∃ p, v = .ref p ∧ H p = some (.tup [.int (f.m : Nat), .int (f.o : Nat), .int f.e])
def PrV (H : Hp) (v : V) (f : Fnd) : Prop := ∃ p, v = .ref p ∧ H p = some (.tup [.int (f.o : Nat), .int f.e])
def FsV (H : Hp) (v : V) (x : Bool × List Int) : Prop := ∃ p u, v = .ref p ∧ H p = some (.tup [.bl x.1, u]) ∧ IT H u x.2
/-- a tuple of such; a list of such at a -/
def TupOf {α : Type} (R : Hp → V → α → Prop) (H : Hp) (v : V) (l : List α) : Prop := ∃ p vs, v = .ref p ∧ H p = some (.tup vs) ∧ All2 (R H) vs l
def LstAt {α : Type} (R : Hp → V → α → Prop) (H : Hp) (a : Addr) (l : List α) : Prop := ∃ vs, H a = some (.lst vs) ∧ All2 (R H) vs l
/-- it leans on tuples alone -/
def Im {α : Type} (R : Hp → V → α → Prop) : Prop := ∀ (H H' : Hp) (v : V) (x : α), Tk H H' → R H v x → R H' v x
theorem Im.tk {α : Type} {R : Hp → V → α → Prop} (m : Im R) {H H' : Hp} {v : V} {x : α} (t : Tk H H') (r : R H v x) : R H' v x := m H H' v x t r
theorem im_it : Im IT := fun _ _ _ _ t ⟨p, e, h⟩ => ⟨p, e, t _ _ h⟩
theorem im_bt : Im BT := fun _ _ _ _ t ⟨p, e, h⟩ => ⟨p, e, t _ _ h⟩
theorem im_row : Im RowV := fun _ _ _ _ t ⟨p, e, h⟩ => ⟨p, e, t _ _ h⟩
theorem im_fnd : Im FndV := fun _ _ _ _ t ⟨p, e, h⟩ => ⟨p, e, t _ _ h⟩
theorem im_pr : Im PrV := fun _ _ _ _ t ⟨p, e, h⟩ => ⟨p, e, t _ _ h⟩
theorem im_fs : Im FsV := fun _ _ _ _ t ⟨p, u, e, h, i⟩ => ⟨p, u, e, t _ _ h, im_it.tk t i⟩
theorem im_tup {α : Type} {R : Hp → V → α → Prop} (m : Im R) : Im (TupOf R) := fun _ _ _ _ t ⟨p, vs, e, h, a⟩ => ⟨p, vs, e, t _ _ h, a.imp fun _ _ r => m.tk t r⟩
theorem LstAt.keep {α : Type} {R : Hp → V → α → Prop} (m : Im R) {H H' : Hp} {a : Addr} {l : List α} (x : LstAt R H a l) (t : Tk H H') (e : ∀ o, H a = some o → H' a = some o) : LstAt R H' a l := by
  obtain ⟨vs, h, q⟩ := x
  exact ⟨vs, e _ h, q.imp fun _ _ r => m.tk t r⟩
theorem LstAt.same {α : Type} {R : Hp → V → α → Prop} (m : Im R) {H H' : Hp} {a : Addr} {l : List α} (x : LstAt R H a l) (s : Same H H') : LstAt R H' a l := x.keep m (tk_same s) fun o h => s _ o h
abbrev RowsV := TupOf RowV
/-- finds: a list or tuple of them -/
def FndsV (H : Hp) (v : V) (fs : List Fnd) : Prop := ∃ p vs, v = .ref p ∧ (H p = some (.lst vs) ∨ H p = some (.tup vs)) ∧ All2 (FndV H) vs fs
theorem FndsV.same {H H' : Hp} {v : V} {fs : List Fnd} (x : FndsV H v fs) (s : Same H H') : FndsV H' v fs := by
  obtain ⟨p, vs, e, h, a⟩ := x
  exact ⟨p, vs, e, h.elim (fun z => .inl (s _ _ z)) fun z => .inr (s _ _ z), a.imp fun _ _ r => im_fnd.tk (tk_same s) r⟩
/-- a log -/
def LogV (C : Addr) (H : Hp) (v : V) (n : Nat) (rs : List Row) : Prop := ∃ x dx q, v = .ref x ∧ H x = some (.ins C dx [("offices", .int (n : Nat)), ("rows", q)]) ∧ RowsV H q rs
theorem LogV.same {C : Addr} {H H' : Hp} {v : V} {n : Nat} {rs : List Row} (x : LogV C H v n rs) (s : Same H H') : LogV C H' v n rs := by
  obtain ⟨x, dx, q, e, h, r⟩ := x
  exact ⟨x, dx, q, e, s _ _ h, (im_tup im_row).tk (tk_same s) r⟩
/-- the answer of fewest_done -/
def AnsV (H : Hp) (v : V) : Option (Nat × List Bool) → Prop
  | none => v = .non
  | some (c, d) => ∃ p u, v = .ref p ∧ H p = some (.tup [.int (c : Nat), u]) ∧ BT H u d
theorem im_ans : Im AnsV := fun H H' v x t h => match x, h with
  | none, h => h
  | some (_, _), ⟨p, u, e, hp, b⟩ => ⟨p, u, e, t _ _ hp, im_bt.tk t b⟩
/-! ### defs -/
/-- a def of the text, where it stands -/
structure Stn (K : PySem.W.Frag) (mg : Str → Option Value) (x : Str) (st : Stmt) (ps : List Str) : Prop where
  ex : ∃ f fd, mg x = some (.ref f) ∧ Fun K x x st f fd ∧ Binds K fd ps []
/-- a def that keeps a promise -/
structure Ok (P : Program) (w : World) (K : PySem.W.Frag) (mg : Str → Option Value) (base : Heap) (k : Nat) (x : Str) (sp : Sp) : Prop where
  ex : ∃ f fd ps, FnOk P w K mg base CX0 k f fd ps sp ∧ mg x = some (.ref f) ∧ PySem.W.keepIn K (.ref f) = true ∧ Binds K fd ps []
theorem ok_of {P : Program} {w : World} {K : PySem.W.Frag} {mg : Str → Option Value} {base : Heap} {x : Str} {st : Stmt} {N ps : List Str} {k : Nat} {sp : Sp} (D : Stn K mg x st ps) (S : FnScope N ps (defScope st)) (len : ∀ vs H Q E, sp vs H Q E → vs.length = ps.length)
    (hb : ∀ (f : Addr) (cdv : Value) (A : Around) (outer : List Env) (s : Shared) (H : Hp) (vs : List V) (Q : VK) (E : XK), Room k (A.deeper (envOfC x (defScope st) s.heap.objs.size f cdv)) → sp vs H Q E →
      ∃ t, PSs (cxOf CX0 P w K mg base N x (defScope st) f cdv A outer s H E).nox (defBody st) t ∧ t { nx := fun _ H' => Q .non H', rt := Q } (start N vs) H) : Ok P w K mg base (k + 1) x sp := by
  obtain ⟨f, fd, h, F, b⟩ := D.ex
  exact ⟨f, fd, ps, F.ok S len fun cdv A outer s H vs Q E hr hsp => hb f cdv A outer s H vs Q E hr hsp, h, F.kp, b⟩
theorem pe_f {X : Cx} {k j : Nat} {x : Str} {sp : Sp} {p pos : Pos} {e : Expr} {es : List Expr} {t : TA} (c : Ok X.prog X.w X.K X.mg X.base k x sp) (hr : Room j X.A) (ha : PA X (e :: es) t) (hk : k ≤ j := by decide) (hg : Gl X x := by rfl)
    (hdb : (x == ("__debug__" : Str)) = false := by decide) (he : starEach (e :: es) X.env = (false, eval e X.env) :: starEach es X.env := by rfl) (hpl : (backTo pos (starEach es X.env)).any (·.1) = false := by rfl) :
    PE X (.Call (.Name x p) (e :: es) [] pos) (tCall sp [] E0 t) := by
  obtain ⟨f, fd, ps, F, hm, kp, b⟩ := c.ex
  exact pe_call F (hr.mono hk) hg hm kp b .nil pass0 ha hdb he hpl
/-- the module's names: the built-ins stand free, the constants -/
structure Mg (mg : Str → Option Value) : Prop where
  int : mg "int" = none
  bool : mg "bool" = none
  list : mg "list" = none
  tuple : mg "tuple" = none
  isi : mg "isinstance" = none
  len : mg "len" = none
  enu : mg "enumerate" = none
  abs : mg "abs" = none
  min : mg "min" = none
  all : mg "all" = none
  range : mg "range" = none
  zip : mg "zip" = none
  sorted : mg "sorted" = none
  repr : mg "repr" = none
  offs : ∃ t, mg "MOST_OFFICES_checks" = some (.int 12 t)
  rows : ∃ t, mg "MOST_ROWS" = some (.int 60 t)
  fnds : ∃ t, mg "MOST_FINDS" = some (.int 40 t)
  few : ∃ t, mg "MOST_OFFICES_counts" = some (.int 8 t)
theorem pe_cst {X : Cx} {x : Str} {i : Int} {pos : Pos} (h : ∃ t, X.mg x = some (.int i t)) (hg : Gl X x := by rfl) (hd : (x == ("__debug__" : Str)) = false := by decide) : PE X (.Name x pos) (tC (.int i)) := by
  obtain ⟨t, h⟩ := h
  exact pe_glob hg h ⟨t, rfl⟩ hd
theorem line_of {n : Nat} (h : n ≤ 10000) : n ≤ sizeLine := Nat.le_trans h (by decide)
theorem line_lt {n : Nat} (h : n ≤ 10000) : n < sizeLine := Nat.lt_of_le_of_lt h (by decide)
end K70

set_option maxRecDepth 100000
set_option maxHeartbeats 4000000
/-! the checks, 1 -/
namespace K70
open PySem PySem.Spec PyProof.Rows L2
theorem bi_isi : bootBuiltins "isinstance" = some (.builtin "isinstance") := by decide +kernel
theorem bi_int : bootBuiltins "int" = some (.type "int") := by decide +kernel
theorem bi_bool : bootBuiltins "bool" = some (.type "bool") := by decide +kernel
theorem bi_list : bootBuiltins "list" = some (.type "list") := by decide +kernel
theorem bi_tuple : bootBuiltins "tuple" = some (.type "tuple") := by decide +kernel
theorem bi_abs : bootBuiltins "abs" = some (.builtin "abs") := by decide +kernel
theorem bi_all : bootBuiltins "all" = some (.builtin "all") := by decide +kernel
theorem bi_min : bootBuiltins "min" = some (.builtin "min") := by decide +kernel
theorem bi_repr : bootBuiltins "repr" = some (.builtin "repr") := by decide +kernel
theorem bi_sorted : bootBuiltins "sorted" = some (.builtin "sorted") := by decide +kernel
section
variable {P : Program} {w : World} {K : PySem.W.Frag} {mg : Str → Option Value} {base : Heap}
def spInt : Sp := fun vs H Q _ => ∃ i : Int, vs = [.int i] ∧ Q (.bl true) H
theorem ok_int (D : Stn K mg "is_integer" sIsInteger ["thing"]) (M : Mg mg) : Ok P w K mg base 1 "is_integer" spInt := by
  refine ok_of D scIsInteger (fun vs H Q E h => ?_) (fun f cdv A outer s H vs Q E hr h => ?_)
  · obtain ⟨i, rfl, _⟩ := h
    rfl
  · obtain ⟨i, rfl, q⟩ := h
    refine ⟨_, pss_one (ps_ret (pe_and (pe_callB call_isi (by rfl) M.isi bi_isi (pa_cons (pv 0) (pa_cons (pe_bltn (v := .ty "int") (by rfl) M.int bi_int rfl) pa_nil)))
      (pe_one (pe_not (pe_callB call_isi (by rfl) M.isi bi_isi (pa_cons (pv 0) (pa_cons (pe_bltn (v := .ty "bool") (by rfl) M.bool bi_bool rfl) pa_nil))))))), ?_⟩
    refine ⟨_, rfl, _, _, _, _, true, rfl, .ty "int", .base (.int _), kit_ty (by decide +kernel), true, rfl, iteT ?_⟩
    exact ⟨_, rfl, _, _, _, _, false, rfl, .ty "bool", .base (.int _), kit_ty (by decide +kernel), false, rfl, q⟩
def spWithin : Sp := fun vs H Q _ => ∃ a b c : Int, vs = [.int a, .int b, .int c] ∧ b ≤ a ∧ a ≤ c ∧ Q (.bl true) H
theorem ok_within (D : Stn K mg "is_within" sIsWithin ["thing", "least", "most"]) (G : Ok P w K mg base 1 "is_integer" spInt) : Ok P w K mg base 2 "is_within" spWithin := by
  refine ok_of D scIsWithin (fun vs H Q E h => ?_) (fun f cdv A outer s H vs Q E hr h => ?_)
  · obtain ⟨a, b, c, rfl, _⟩ := h
    rfl
  · obtain ⟨a, b, c, rfl, h1, h2, q⟩ := h
    refine ⟨_, pss_one (ps_ret (pe_and (pe_f G hr (pa_cons (pv 0) pa_nil)) (pe_one (pe_chain op_le op_le (pv 1) (pv 0) (pv 2))))), ?_⟩
    refine ⟨_, rfl, a, rfl, true, rfl, iteT ?_⟩
    refine ⟨_, rfl, _, rfl, _, _, rfl, rfl, _, rfl, ?_⟩
    rw [decide_eq_true h1]
    refine iteT ⟨_, rfl, _, _, rfl, rfl, ?_⟩
    show Q (.bl (decide (a ≤ c))) H
    rw [decide_eq_true h2]
    exact q
def spListed : Sp := fun vs H Q _ => ∃ (p : Addr) (xs : List V), vs = [.ref p] ∧ (H p = some (.lst xs) ∨ H p = some (.tup xs)) ∧ ∀ H', Same H H' → Q (.bl true) H'
theorem ok_listed (D : Stn K mg "is_listed" sIsListed ["thing"]) (M : Mg mg) : Ok P w K mg base 1 "is_listed" spListed := by
  refine ok_of D scIsListed (fun vs H Q E h => ?_) (fun f cdv A outer s H vs Q E hr h => ?_)
  · obtain ⟨p, xs, rfl, _⟩ := h
    rfl
  · obtain ⟨p, xs, rfl, hp, q⟩ := h
    refine ⟨_, pss_one (ps_ret (pe_callB call_isiT (by rfl) M.isi bi_isi (pa_cons (pv 0) (pa_cons (pe_tup (pa_cons (pe_bltn (v := .ty "list") (by rfl) M.list bi_list rfl) (pa_cons (pe_bltn (v := .ty "tuple") (by rfl) M.tuple bi_tuple rfl) pa_nil))) pa_nil)))), ?_⟩
    refine ⟨_, rfl, (by show 2 ≤ sizeLine; decide), fun T hT => ?_⟩
    have hs : Same H (upd H T (.tup [.ty "list", .ty "tuple"])) := same_new hT
    rcases hp with hp | hp
    · exact ⟨_, T, _, .type "list", [.type "list", .type "tuple"], true, rfl, upd_same, .cons (.ty "list") (.cons (.ty "tuple") .nil), .base (.lst (hs _ _ hp)), kitAny_cons (kit_ty (b := "list") (r := true) (by decide +kernel)) (fun z => by cases z) (fun _ => rfl), q _ hs⟩
    · exact ⟨_, T, _, .type "tuple", [.type "list", .type "tuple"], true, rfl, upd_same, .cons (.ty "list") (.cons (.ty "tuple") .nil), .base (.tup (hs _ _ hp)), kitAny_cons (kit_ty (b := "list") (r := false) (by decide +kernel)) (fun _ => kitAny_cons (kit_ty (b := "tuple") (r := true) (by decide +kernel)) (fun z => by cases z) (fun _ => rfl)) (fun z => by cases z), q _ hs⟩
def spTriple : Sp := fun vs H Q _ => ∃ (p : Addr) (a b c : V), vs = [.ref p] ∧ H p = some (.tup [a, b, c]) ∧ Q (.bl true) H
theorem ok_triple (D : Stn K mg "is_triple" sIsTriple ["thing"]) (M : Mg mg) : Ok P w K mg base 1 "is_triple" spTriple := by
  refine ok_of D scIsTriple (fun vs H Q E h => ?_) (fun f cdv A outer s H vs Q E hr h => ?_)
  · obtain ⟨p, a, b, c, rfl, _⟩ := h
    rfl
  · obtain ⟨p, a, b, c, rfl, hp, q⟩ := h
    refine ⟨_, pss_one (ps_ret (pe_and (pe_callB call_isi (by rfl) M.isi bi_isi (pa_cons (pv 0) (pa_cons (pe_bltn (v := .ty "tuple") (by rfl) M.tuple bi_tuple rfl) pa_nil)))
      (pe_one (pe_cmpR op_eq (pe_callB call_len_seq (by rfl) M.len PySem.boot_len (pa_cons (pv 0) pa_nil)) pe_int (nomark _))))), ?_⟩
    refine ⟨_, rfl, _, _, _, _, true, rfl, .ty "tuple", .base (.tup hp), kit_ty (by decide +kernel), true, rfl, iteT ?_⟩
    refine ⟨_, rfl, p, _, rfl, .inr (.of hp), rfl, ?_⟩
    exact q
def spFlag : Sp := fun vs H Q _ => ∃ b : Bool, vs = [.bl b] ∧ Q (.bl true) H
theorem ok_flag (D : Stn K mg "is_flag" sIsFlag ["thing"]) (M : Mg mg) : Ok P w K mg base 1 "is_flag" spFlag := by
  refine ok_of D scIsFlag (fun vs H Q E h => ?_) (fun f cdv A outer s H vs Q E hr h => ?_)
  · obtain ⟨b, rfl, _⟩ := h
    rfl
  · obtain ⟨b, rfl, q⟩ := h
    refine ⟨_, pss_one (ps_ret (pe_callB call_isi (by rfl) M.isi bi_isi (pa_cons (pv 0) (pa_cons (pe_bltn (v := .ty "bool") (by rfl) M.bool bi_bool rfl) pa_nil)))), ?_⟩
    exact ⟨_, rfl, _, _, _, _, true, rfl, .ty "bool", .base (.bl b), kit_ty (by decide +kernel), q⟩
def spMost : Sp := fun vs H Q _ => ∃ a b : Int, vs = [.int a, .int b] ∧ a ≤ b ∧ Q .non H
theorem ok_most (D : Stn K mg "check_most" sCheckMost ["many", "most"]) : Ok P w K mg base 1 "check_most" spMost := by
  refine ok_of D scCheckMost (fun vs H Q E h => ?_) (fun f cdv A outer s H vs Q E hr h => ?_)
  · obtain ⟨a, b, rfl, _⟩ := h
    rfl
  · obtain ⟨a, b, rfl, h1, q⟩ := h
    refine ⟨_, pss_one (ps_if (pt_cmpR op_gt (pv 0) (pv 1) (nomark _)) (pss_one (ps_never)) pss_nil), ?_⟩
    refine ⟨_, rfl, _, rfl, _, _, rfl, rfl, _, rfl, ?_⟩
    rw [decide_eq_false (show ¬ b < a by omega)]
    exact iteF q
def spRow : Sp := fun vs H Q _ => ∃ (n : Nat) (v : V) (r : Row), vs = [.int (n : Nat), v] ∧ RowV H v r ∧ RowOk n r ∧ Q (.bl true) H
theorem ok_row (D : Stn K mg "is_row" sIsRow ["offices", "thing"]) (M : Mg mg) (G1 : Ok P w K mg base 1 "is_triple" spTriple) (G2 : Ok P w K mg base 2 "is_within" spWithin) (G3 : Ok P w K mg base 1 "is_flag" spFlag) : Ok P w K mg base 3 "is_row" spRow := by
  refine ok_of D scIsRow (fun vs H Q E h => ?_) (fun f cdv A outer s H vs Q E hr h => ?_)
  · obtain ⟨n, v, r, rfl, _⟩ := h
    rfl
  · obtain ⟨n, v, r, rfl, hv, ho, q⟩ := h
    obtain ⟨p, rfl, hp⟩ := hv
    have hx := ho.x
    have hy := ho.y
    have e0 : atI [V.int (r.x : Nat), V.int (r.y : Nat), V.bl r.s] 0 = some (V.int (r.x : Nat)) := atI_nat (j := 0) rfl
    have e1 : atI [V.int (r.x : Nat), V.int (r.y : Nat), V.bl r.s] 1 = some (V.int (r.y : Nat)) := atI_nat (j := 1) rfl
    have e2 : atI [V.int (r.x : Nat), V.int (r.y : Nat), V.bl r.s] 2 = some (V.bl r.s) := atI_nat (j := 2) rfl
    refine ⟨_, pss_cons (ps_if (PW.pt (pw_or (pt_not (pt_val (pe_f G1 hr (pa_cons (pv 1) pa_nil))))
        (pw_or (pt_not (pt_val (pe_f G2 hr (pa_cons (pe_ix ix_tup (pv 1) pe_int (fun _ _ => rfl)) (pa_cons pe_int (pa_cons (pe_op op_sub (pv 0) pe_int) pa_nil))))))
        (pw_or1 (pt_not (pt_val (pe_f G2 hr (pa_cons (pe_ix ix_tup (pv 1) pe_int (fun _ _ => rfl)) (pa_cons pe_int (pa_cons (pe_op op_sub (pv 0) pe_int) pa_nil)))))))))) (pss_one (ps_ret pe_bl)) pss_nil)
      (pss_one (ps_ret (pe_and (pe_cmpR op_eq (pe_callB call_abs (by rfl) M.abs bi_abs (pa_cons (pe_op op_sub (pe_ix ix_tup (pv 1) pe_int (fun _ _ => rfl)) (pe_ix ix_tup (pv 1) pe_int (fun _ _ => rfl))) pa_nil)) pe_int (nomark _))
        (pe_one (pe_f G3 hr (pa_cons (pe_ix ix_tup (pv 1) pe_int (fun _ _ => rfl)) pa_nil)))))), ?_⟩
    -- is_triple(thing)
    refine ⟨_, rfl, p, _, _, _, rfl, hp, true, rfl, iteF ?_⟩
    -- is_within(thing[0], 0, offices - 1)
    refine ⟨_, rfl, p, _, 0, _, rfl, rfl, .of hp, e0, _, rfl, _, _, rfl, rfl, r.x, 0, (n : Int) - 1, rfl, by omega, by omega, true, rfl, iteF ?_⟩
    refine ⟨_, rfl, p, _, 1, _, rfl, rfl, .of hp, e1, _, rfl, _, _, rfl, rfl, r.y, 0, (n : Int) - 1, rfl, by omega, by omega, true, rfl, iteF ?_⟩
    -- abs(thing[0] - thing[1]) == 1
    refine ⟨_, rfl, p, _, 0, _, rfl, rfl, .of hp, e0, _, rfl, p, _, 1, _, rfl, rfl, .of hp, e1, _, _, rfl, rfl, _, rfl, rfl, true, ?_, iteT ?_⟩
    · have e : (if (r.x : Int) - (r.y : Int) < 0 then -((r.x : Int) - (r.y : Int)) else (r.x : Int) - (r.y : Int)) = 1 := by
        have := ho.by1
        split <;> omega
      rw [e] <;> rfl
    · exact ⟨_, rfl, p, _, 2, _, rfl, rfl, .of hp, e2, r.s, rfl, q⟩
end
end K70

set_option maxRecDepth 100000
set_option maxHeartbeats 4000000
/-! the checks, 2; a log made; begun, copied -/
namespace K70
open PySem PySem.Spec PyProof.Rows L2
theorem walk_en {a : Addr} {xs : List V} : Walk (ItE a xs) xs.length (fun H => H a = some (.tup xs)) (fun i H v H' => ∃ T x, xs[i]? = some x ∧ v = .ref T ∧ H T = none ∧ H' = upd H T (.tup [.int (i : Nat), x])) :=
  ⟨fun _ _ hi q => ⟨q, hi⟩, fun _ q => ⟨q, Nat.le_refl _⟩, fun _ _ _ _ _ _ y => y⟩
theorem walk_it {d : Addr} {o : Obj} {kvs : List (List Key × V)} : Walk (ItI d o kvs) kvs.length (fun H => H d = some (.frz o (.dT kvs)))
    (fun i H x H' => ∃ T k v b, kvs[i]? = some (k, v) ∧ x = .ref T ∧ H T = none ∧ H b = some (.tup (k.map kV)) ∧ H' = upd H T (.tup [.ref b, v])) :=
  ⟨fun _ _ hi q => ⟨q, hi⟩, fun _ q => ⟨q, Nat.le_refl _⟩, fun _ _ _ _ _ _ y => y⟩
section
variable {P : Program} {w : World} {K : PySem.W.Frag} {mg : Str → Option Value} {base : Heap}
def spBad : Sp := fun vs H Q _ => ∃ (n : Nat) (v : V) (rs : List Row), vs = [.int (n : Nat), v] ∧ RowsV H v rs ∧ (∀ r ∈ rs, RowOk n r) ∧ ∀ H', Same H H' → Q .non H'
theorem ok_bad (D : Stn K mg "first_bad" sFirstBad ["offices", "rows"]) (M : Mg mg) (G : Ok P w K mg base 3 "is_row" spRow) : Ok P w K mg base 4 "first_bad" spBad := by
  refine ok_of D scFirstBad (fun vs H Q E h => ?_) (fun f cdv A outer s H vs Q E hr h => ?_)
  · obtain ⟨n, v, rs, rfl, _⟩ := h
    rfl
  · obtain ⟨n, v, rs, rfl, hv, ho, q⟩ := h
    obtain ⟨p, us, rfl, hp, hu⟩ := hv
    refine ⟨_, pss_cons (ps_for PassesOwn.never rfl (pi_enumT (by rfl) M.enu (pa_cons (pv 1) pa_nil))
        (pg_tup rfl (pgs_cons (pg_name (i := 2) scFirstBad.nd rfl (.inl rfl)) (pgs_cons (pg_name (i := 3) scFirstBad.nd rfl (.inl rfl)) pgs_nil)))
        (pss_one (ps_if (pt_not (pt_val (pe_f G hr (pa_cons (pv 0) (pa_cons (pv 3) pa_nil))))) (pss_one (ps_ret (pv 2))) pss_nil)))
      (pss_one (ps_ret pe_non)), ?_⟩
    refine ⟨.ref p, rfl, p, us, rfl, hp, for_it walk_en (fun i σ H1 => ∃ y2 y3, σ = [some (.int (n : Nat)), some (.ref p), y2, y3] ∧ Same H H1) ⟨none, none, rfl, Same.refl H⟩ (fun i σ H1 _ ⟨_, _, _, s1⟩ => s1 _ _ hp) ?_ ?_⟩
    · rintro i x σ H1 H2 hi ⟨y2, y3, rfl, s1⟩ ⟨T, u, hx, rfl, nT, rfl⟩
      obtain ⟨r, hr1, hr2⟩ := hu.back hx
      have s2 : Same H (upd H1 T (.tup [.int (i : Nat), u])) := s1.trans (same_new nT)
      refine ⟨T, _, rfl, .of upd_same, rfl, _, _, rfl, _, _, rfl, rfl, ?_⟩
      exact ⟨_, rfl, u, rfl, n, u, r, rfl, im_row.tk (tk_same s2) hr2, ho r (List.mem_of_getElem? hr1), true, rfl, iteF ⟨_, _, rfl, s2⟩⟩
    · rintro σ H1 ⟨y2, y3, rfl, s1⟩
      exact q H1 s1
/-- Log.__init__: at x a fresh instance -/
def spLogI (C : Addr) : Sp := fun vs H Q _ => ∃ (x dx : Addr) (n : Nat) (v : V) (rs : List Row), vs = [.ref x, .int (n : Nat), v] ∧ H x = some (.ins C dx []) ∧ RowsV H v rs ∧ 1 ≤ n ∧ n ≤ 12 ∧ rs.length ≤ 60 ∧ (∀ r ∈ rs, RowOk n r) ∧
  ∀ H', LogV C H' (.ref x) n rs → But x H H' → Q .non H'
structure LogC (K : PySem.W.Frag) (mg : Str → Option Value) (C : Addr) (f : Addr) : Prop where
  cl : Cls K C
  nO : NoAttr K C "offices"
  nR : NoAttr K C "rows"
  mkC : Mk K C f
  mgC : mg "Log" = some (.ref C)
theorem ok_logI {C f : Addr} {fd : FuncData} (F : Fun K "__init__" "Log.__init__" sLogInit f fd) (L : LogC K mg C f) (M : Mg mg) (G1 : Ok P w K mg base 2 "is_within" spWithin) (G2 : Ok P w K mg base 4 "first_bad" spBad) :
    FnOk P w K mg base CX0 5 f fd ["self", "offices", "rows"] (spLogI C) := by
  refine F.ok scLogInit (fun vs H Q E h => ?_) (fun cdv A outer s H vs Q E hr h => ?_)
  · obtain ⟨x, dx, n, v, rs, rfl, _⟩ := h
    rfl
  · obtain ⟨x, dx, n, v, rs, rfl, hx, hv, h1, h2, h3, ho, q⟩ := h
    obtain ⟨p, us, rfl, hp, hu⟩ := id hv
    have hpx : p ≠ x := ne_of hp hx fun z => nomatch z
    refine ⟨_, pss_cons (ps_if (pt_not (pt_val (pe_f G1 hr (pa_cons (pv 1) (pa_cons pe_int (pa_cons (pe_cst M.offs) pa_nil)))))) pss_never pss_nil)
      (pss_cons (ps_if (PW.pt (pw_or (pt_not (pt_val (pe_callB call_isi (by rfl) M.isi bi_isi (pa_cons (pv 2) (pa_cons (pe_bltn (v := .ty "tuple") (by rfl) M.tuple bi_tuple rfl) pa_nil)))))
        (pw_or1 (pt_cmpR op_gt (pe_callB call_len_seq (by rfl) M.len PySem.boot_len (pa_cons (pv 2) pa_nil)) (pe_cst M.rows) (nomark _))))) pss_never pss_nil)
      (pss_cons (ps_set (i := 3) scLogInit.nd rfl (.inl rfl) (pe_f G2 hr (pa_cons (pv 1) (pa_cons (pv 2) pa_nil))))
      (pss_cons (ps_if (pt_cmpR op_notN (pv 3) pe_non (nomark _)) pss_never pss_nil)
      (pss_cons (ps_fld (pv 0) (pv 1) rfl) (pss_one (ps_fld (pv 0) (pv 2) rfl)))))), ?_⟩
    refine ⟨_, rfl, _, _, _, rfl, by omega, by omega, true, rfl, iteF ?_⟩
    refine ⟨_, rfl, _, _, _, _, true, rfl, .ty "tuple", .base (.tup hp), kit_ty (by decide +kernel), true, rfl, iteF ?_⟩
    refine ⟨_, rfl, p, us, rfl, .inr (.of hp), _, _, rfl, rfl, _, rfl, ?_⟩
    rw [decide_eq_false (show ¬ (60 : Int) < us.length by rw [hu.len]; omega)]
    refine iteF ?_
    refine ⟨_, rfl, _, rfl, n, _, rs, rfl, hv, ho, fun H1 s1 => ?_⟩
    refine ⟨_, rfl, rfl, _, rfl, iteF ?_⟩
    have hx1 := s1 _ _ hx
    refine ⟨_, rfl, _, rfl, x, C, dx, [], rfl, hx1, L.cl, L.nO, by decide, ?_⟩
    refine ⟨_, rfl, _, rfl, x, C, dx, _, rfl, upd_same, L.cl, L.nR, (by show 1 < 1000; decide), ?_⟩
    rw [upd_upd]
    refine q _ ⟨x, dx, .ref p, rfl, upd_same, p, us, rfl, ?_, hu.imp fun _ _ r => im_row.tk (fun b xs e => ?_) r⟩ fun b o hb e => ?_
    · rw [upd_ne hpx]
      exact s1 _ _ hp
    · rw [upd_ne (ne_of e hx fun z => nomatch z)]
      exact s1 _ _ e
    · rw [upd_ne hb]
      exact s1 _ _ e
def spBegun : Sp := fun vs H Q _ => ∃ n : Nat, vs = [.int (n : Nat)] ∧ n ≤ 12 ∧ ∀ H' v, Same H H' → IT H' v (begun n) → Q v H'
theorem rg_begun (n : Nat) : rgV 0 (n : Int) = (begun n).map V.int := by
  unfold rgV begun
  rw [List.map_map]
  have e : ((n : Int) - 0).toNat = n := by omega
  rw [e]
  refine List.map_congr_left fun i _ => ?_
  show V.int (0 + (i : Int)) = V.int (i : Int)
  rw [Int.zero_add]
theorem ok_begun (D : Stn K mg "begun" sBegun ["offices"]) (M : Mg mg) : Ok P w K mg base 1 "begun" spBegun := by
  refine ok_of D scBegun (fun vs H Q E h => ?_) (fun f cdv A outer s H vs Q E hr h => ?_)
  · obtain ⟨n, rfl, _⟩ := h
    rfl
  · obtain ⟨n, rfl, hn, q⟩ := h
    refine ⟨_, pss_one (ps_ret (pe_tupRg rfl (by rfl) M.tuple (prg_1 (by rfl) M.range (pv 0)))), ?_⟩
    refine ⟨_, rfl, n, rfl, RgOk.of_le (by omega) (by omega) (by omega) (by omega), fun p hp => ?_⟩
    exact q _ _ (same_new hp) ⟨p, rfl, by rw [upd_same, rg_begun]⟩
/-- the sheets behind a row that is done -/
def spCopied : Sp := fun vs H Q _ => ∃ (u v : V) (n : Nat) (es : List Int) (r : Row), vs = [u, v] ∧ IT H u es ∧ RowV H v r ∧ Shs n es ∧ n ≤ 12 ∧ RowOk n r ∧ ∀ H' z, Same H H' → IT H' z (cp es r) → Q z H'
theorem cp_eq {n : Nat} {es : List Int} {r : Row} (h : Shs n es) (hr : RowOk n r) : es.take r.x ++ ([es.getD r.y 0] ++ es.drop (r.x + 1)) = cp es r := by
  unfold cp
  rw [List.set_eq_take_append_cons_drop, if_pos (by rw [h.len]; exact hr.x)] <;> rfl
theorem get_int {es : List Int} {i : Nat} (h : i < es.length) : (es.map V.int)[i]? = some (.int (es.getD i 0)) := by
  rw [List.getElem?_map, List.getD_eq_getElem?_getD, List.getElem?_eq_getElem h] <;> rfl
theorem cut_take (xs : List V) (x : Nat) (h : x ≤ xs.length) : cutV xs none (some (x : Int)) = xs.take x := by
  unfold cutV
  rw [HT.sIx_none, HT.sIx_nat, Nat.min_eq_left h] <;> rfl
theorem cut_drop (xs : List V) (x : Nat) (h : x ≤ xs.length) : cutV xs (some (x : Int)) none = xs.drop x := by
  unfold cutV
  rw [HT.sIx_none, HT.sIx_nat, Nat.min_eq_left h]
  exact List.take_of_length_le (by rw [List.length_drop]; omega)
theorem copied_tail {Q : VK} {H3 : Hp} {a p p3 : Addr} {n : Nat} {es : List Int} {r : Row} (hs : Shs n es) (hn : n ≤ 12) (ho : RowOk n r) (ha : H3 a = some (.tup (es.map V.int))) (hp : H3 p = some (.tup [V.int (r.x : Nat), V.int (r.y : Nat), V.bl r.s]))
    (h3 : H3 p3 = some (.tup ((es.take r.x ++ [es.getD r.y 0]).map V.int))) (q : ∀ H' z, Same H3 H' → IT H' z (cp es r) → Q z H') :
    tSl (rSlT K) (tVar 0) (tPart (tOp (rI0 fun i j => V.int (i + j)) (tOp (rIxT K) (tVar 1) (tC (.int 0))) (tC (.int 1)))) tNoPart [some (.ref a), some (.ref p)] H3 (fun y H4 => rCatA K (.ref p3) y H4 Q) := by
  have hx := ho.x
  have hl := hs.len
  have e0 : atI [V.int (r.x : Nat), V.int (r.y : Nat), V.bl r.s] 0 = some (V.int (r.x : Nat)) := atI_nat (j := 0) rfl
  refine ⟨.ref a, rfl, .ref p, rfl, p, _, 0, _, rfl, rfl, .of hp, e0, _, _, rfl, rfl, ((r.x + 1 : Nat) : Int), rfl, a, _, rfl, .of ha, ?_, fun p4 n4 => ?_⟩
  · rintro ⟨z, _⟩
    rw [List.length_map, HT.sIx_nat] at z
    omega
  · have s4 : Same H3 (upd H3 p4 (.tup (cutV (es.map V.int) (some ((r.x + 1 : Nat) : Int)) none))) := same_new n4
    have ne : ((es.take r.x ++ [es.getD r.y 0]).map V.int) ≠ [] := by simp
    refine ⟨p3, p4, _, _, rfl, rfl, .of (s4 _ _ h3), .of upd_same, ?_, fun z => absurd z ne, fun _ z => ?_, fun _ _ p5 n5 => ?_⟩
    · refine line_of ?_
      rw [cut_drop _ _ (by rw [List.length_map]; omega)]
      simp
      omega
    · refine q _ _ s4 ⟨p3, rfl, ?_⟩
      rw [cut_drop _ _ (by rw [List.length_map]; omega), ← List.map_drop] at z
      have z' : es.drop (r.x + 1) = [] := List.map_eq_nil_iff.mp z
      rw [s4 _ _ h3, ← cp_eq hs ho, z', List.append_nil]
    · refine q _ _ (s4.trans (same_new n5)) ⟨p5, rfl, ?_⟩
      rw [upd_same, cut_drop _ _ (by rw [List.length_map]; omega), ← List.map_drop, ← List.map_append, List.append_assoc, cp_eq hs ho]
theorem ok_copied (D : Stn K mg "copied" sCopied ["editions", "row"]) : Ok P w K mg base 1 "copied" spCopied := by
  refine ok_of D scCopied (fun vs H Q E h => ?_) (fun f cdv A outer s H vs Q E hr h => ?_)
  · obtain ⟨u, v, n, es, r, rfl, _⟩ := h
    rfl
  · obtain ⟨u, v, n, es, r, rfl, hu, hv, hs, hn, ho, q⟩ := h
    obtain ⟨a, rfl, ha⟩ := hu
    obtain ⟨p, rfl, hp⟩ := hv
    have hx := ho.x
    have hy := ho.y
    have hl := hs.len
    have e0 : atI [V.int (r.x : Nat), V.int (r.y : Nat), V.bl r.s] 0 = some (V.int (r.x : Nat)) := atI_nat (j := 0) rfl
    have e1 : atI [V.int (r.x : Nat), V.int (r.y : Nat), V.bl r.s] 1 = some (V.int (r.y : Nat)) := atI_nat (j := 1) rfl
    refine ⟨_, pss_one (ps_ret (pe_op op_catA (pe_op op_catA (pe_slice sl_tup (pv 0) po_none (po_some (pe_ix ix_tup (pv 1) pe_int (fun _ _ => rfl))))
        (pe_tup (pa_cons (pe_ix ix_tup (pv 0) (pe_ix ix_tup (pv 1) pe_int (fun _ _ => rfl)) (fun _ _ => rfl)) pa_nil)))
      (pe_slice sl_tup (pv 0) (po_some (pe_op op_add (pe_ix ix_tup (pv 1) pe_int (fun _ _ => rfl)) pe_int)) po_none))), ?_⟩
    refine ⟨.ref a, rfl, .ref p, rfl, p, _, 0, _, rfl, rfl, .of hp, e0, (r.x : Nat), rfl, a, _, rfl, .of ha, ?_, fun p1 n1 => ?_⟩
    · rintro ⟨_, z⟩
      rw [List.length_map, HT.sIx_nat] at z
      omega
    · have s1 : Same H (upd H p1 (.tup (cutV (es.map V.int) none (some ((r.x : Nat) : Int))))) := same_new n1
      have ec : cutV (es.map V.int) none (some ((r.x : Nat) : Int)) = (es.take r.x).map V.int := by rw [cut_take _ _ (by rw [List.length_map]; omega), List.map_take]
      refine ⟨.ref a, rfl, .ref p, rfl, p, _, 1, _, rfl, rfl, .of (s1 _ _ hp), e1, a, _, (r.y : Nat), _, rfl, rfl, .of (s1 _ _ ha), atI_nat (get_int (by omega)), (by show 1 ≤ sizeLine; decide), fun p2 n2 => ?_⟩
      have s2 := s1.trans (same_new (o := .tup [V.int (es.getD r.y 0)]) n2)
      have g1 : (upd (upd H p1 (.tup (cutV (es.map V.int) none (some ((r.x : Nat) : Int))))) p2 (.tup [V.int (es.getD r.y 0)])) p1 = some (.tup ((es.take r.x).map V.int)) := by
        rw [same_new n2 _ _ upd_same, ec]
      refine ⟨p1, p2, _, _, rfl, rfl, .of g1, .of upd_same, ?_, fun z => ?_, fun _ z => absurd z (List.cons_ne_nil _ _), fun _ _ p3 n3 => ?_⟩
      · refine line_of ?_
        simp
        omega
      · have z' : es.take r.x = [] := List.map_eq_nil_iff.mp z
        refine copied_tail hs hn ho (s2 _ _ ha) (s2 _ _ hp) ?_ fun H' z s => q H' z (s2.trans s)
        rw [upd_same, z'] <;> rfl
      · have s3 := s2.trans (same_new (o := .tup ((es.take r.x).map V.int ++ [V.int (es.getD r.y 0)])) n3)
        refine copied_tail hs hn ho (s3 _ _ ha) (s3 _ _ hp) ?_ fun H' z s => q H' z (s3.trans s)
        rw [upd_same, List.map_append] <;> rfl
def spFind (C : Addr) : Sp := fun vs H Q _ => ∃ (u v : V) (n : Nat) (rs : List Row) (f : Fnd), vs = [u, v] ∧ LogV C H u n rs ∧ FndV H v f ∧ FndOk n rs.length f ∧ Q (.bl true) H
theorem ok_find {C f0 : Addr} (D : Stn K mg "is_find" sIsFind ["log", "thing"]) (L : LogC K mg C f0) (M : Mg mg) (G1 : Ok P w K mg base 1 "is_triple" spTriple) (G2 : Ok P w K mg base 2 "is_within" spWithin) : Ok P w K mg base 3 "is_find" (spFind C) := by
  refine ok_of D scIsFind (fun vs H Q E h => ?_) (fun f cdv A outer s H vs Q E hr h => ?_)
  · obtain ⟨u, v, n, rs, f, rfl, _⟩ := h
    rfl
  · obtain ⟨u, v, n, rs, f, rfl, hu, hv, ho, q⟩ := h
    obtain ⟨x, dx, qv, rfl, hx, hrs⟩ := hu
    obtain ⟨pr, us, rfl, hpr, hus⟩ := hrs
    obtain ⟨p, rfl, hp⟩ := hv
    have h1 := ho.m
    have h2 := ho.o
    have h3 := ho.lo
    have h4 := ho.hi
    have e0 : atI [V.int (f.m : Nat), V.int (f.o : Nat), V.int f.e] 0 = some (V.int (f.m : Nat)) := atI_nat (j := 0) rfl
    have e1 : atI [V.int (f.m : Nat), V.int (f.o : Nat), V.int f.e] 1 = some (V.int (f.o : Nat)) := atI_nat (j := 1) rfl
    have e2 : atI [V.int (f.m : Nat), V.int (f.o : Nat), V.int f.e] 2 = some (V.int f.e) := atI_nat (j := 2) rfl
    refine ⟨_, pss_cons (ps_if (PW.pt (pw_or (pt_not (pt_val (pe_f G1 hr (pa_cons (pv 1) pa_nil))))
        (pw_or1 (pt_not (pt_val (pe_f G2 hr (pa_cons (pe_ix ix_tup (pv 1) pe_int (fun _ _ => rfl)) (pa_cons pe_int (pa_cons (pe_callB call_len_seq (by rfl) M.len PySem.boot_len (pa_cons (pe_fld (pv 0) rfl) pa_nil)) pa_nil))))))))) (pss_one (ps_ret pe_bl)) pss_nil)
      (pss_one (ps_ret (pe_and (pe_f G2 hr (pa_cons (pe_ix ix_tup (pv 1) pe_int (fun _ _ => rfl)) (pa_cons pe_int (pa_cons (pe_op op_sub (pe_fld (pv 0) rfl) pe_int) pa_nil))))
        (pe_one (pe_f G2 hr (pa_cons (pe_ix ix_tup (pv 1) pe_int (fun _ _ => rfl)) (pa_cons pe_int (pa_cons (pe_op op_sub (pe_fld (pv 0) rfl) pe_int) pa_nil)))))))), ?_⟩
    refine ⟨_, rfl, p, _, _, _, rfl, hp, true, rfl, iteF ?_⟩
    refine ⟨_, rfl, p, _, 0, _, rfl, rfl, .of hp, e0, _, rfl, x, C, dx, _, _, rfl, hx, L.cl, L.nR, rfl, pr, us, rfl, .inr (.of hpr), f.m, 0, us.length, rfl, by omega, by rw [hus.len]; omega, true, rfl, iteF ?_⟩
    refine ⟨_, rfl, p, _, 1, _, rfl, rfl, .of hp, e1, _, rfl, x, C, dx, _, _, rfl, hx, L.cl, L.nO, rfl, _, _, rfl, rfl, f.o, 0, (n : Int) - 1, rfl, by omega, by omega, true, rfl, iteT ?_⟩
    exact ⟨_, rfl, p, _, 2, _, rfl, rfl, .of hp, e2, _, rfl, x, C, dx, _, _, rfl, hx, L.cl, L.nO, rfl, _, _, rfl, rfl, f.e, 0, (n : Int) - 1, rfl, by omega, by omega, q⟩
def spFew (C : Addr) : Sp := fun vs H Q _ => ∃ (u : V) (n : Nat) (rs : List Row), vs = [u] ∧ LogV C H u n rs ∧ n ≤ 8 ∧ Q .non H
theorem ok_few {C f0 : Addr} (D : Stn K mg "check_few" sCheckFew ["log"]) (L : LogC K mg C f0) (M : Mg mg) (G : Ok P w K mg base 1 "check_most" spMost) : Ok P w K mg base 2 "check_few" (spFew C) := by
  refine ok_of D scCheckFew (fun vs H Q E h => ?_) (fun f cdv A outer s H vs Q E hr h => ?_)
  · obtain ⟨u, n, rs, rfl, _⟩ := h
    rfl
  · obtain ⟨u, n, rs, rfl, hu, hn, q⟩ := h
    obtain ⟨x, dx, qv, rfl, hx, hrs⟩ := hu
    refine ⟨_, pss_one (ps_expr (pe_f G hr (pa_cons (pe_fld (pv 0) rfl) (pa_cons (pe_cst M.few) pa_nil)))), ?_⟩
    exact ⟨_, rfl, x, C, dx, _, _, rfl, hx, L.cl, L.nO, rfl, n, 8, rfl, by omega, q⟩
end
end K70

set_option maxRecDepth 100000
set_option maxHeartbeats 4000000
/-! the finds: checked, by moments, held; what can come behind a row -/
namespace K70
open PySem PySem.Spec PyProof.Rows L2
/-! ### what is walked is a list or a tuple -/
def iSeq (tl : TE) : TI := fun σ H R => tl σ H fun x H1 => ∃ (a : Addr) (xs : List V), x = .ref a ∧ (H1 a = some (.lst xs) ∨ H1 a = some (.tup xs)) ∧ ∀ J, Walk J xs.length (fun H' => H' a = H1 a) (YAt xs) → R J H1
theorem pi_seq {X : Cx} {tg l : Expr} {tl : TE} (hl : PE X l tl) : PI X tg l (iSeq tl) := by
  refine ⟨fun pins s σ H R I h => thn (hl.run pins s σ H _ I h) fun v s1 hv => ?_⟩
  obtain ⟨x, H1, I1, r1, a, xs, ex, hq, q⟩ := hv
  subst ex
  cases r1
  have fp : ∀ b ∈ [s1.heap.objs.size], FpOk X pins H1 b := fun b hb => by
    obtain rfl := List.mem_singleton.mp hb
    exact I1.fpOk (Nat.le_refl _) (I1.hok.fresh (Nat.le_refl _))
  rcases hq with hq | hq
  · obtain ⟨its, rv, p, hz⟩ := I1.list (.of hq)
    refine wpAny_pyIter_list p.isList ⟨s1.heap.objs.size, _, _, _, H1, rfl, I1.kept (t' := s1.toks) fun b o e => Heap.get?_push_of_some _ e, turn_list a _, ⟨_, Heap.get?_push_size _ rfl, rfl, rfl⟩, fp, q _ ?_⟩
    exact walk_list.mono (fun H' e => .of (e.trans hq)) fun _ _ _ _ _ _ y => y
  · obtain ⟨its, rv, p, hz⟩ := I1.tuple (.of hq)
    refine wpAny_pyIter_tuple (show s1.heap.IsTuple a its.toArray from p) ⟨s1.heap.objs.size, _, _, _, H1, rfl, I1.kept (t' := s1.toks) fun b o e => Heap.get?_push_of_some _ e, turn_tuple a _, ⟨_, Heap.get?_push_size _ rfl, rfl, rfl⟩, fp, q _ ?_⟩
    exact walk_tup.mono (fun H' e => .of (e.trans hq)) fun _ _ _ _ _ _ y => y
theorem take_snoc {α : Type} {l : List α} {i : Nat} {x : α} (h : l[i]? = some x) : l.take (i + 1) = l.take i ++ [x] := by
  rw [List.take_add_one, h] <;> rfl
section
variable {P : Program} {w : World} {K : PySem.W.Frag} {mg : Str → Option Value} {base : Heap}
def spFnds (C : Addr) : Sp := fun vs H Q _ => ∃ (u v : V) (n : Nat) (rs : List Row) (fs : List Fnd), vs = [u, v] ∧ LogV C H u n rs ∧ FndsV H v fs ∧ (∀ f ∈ fs, FndOk n rs.length f) ∧ fs.length ≤ 40 ∧ ∀ H', Same H H' → Q .non H'
theorem ok_fnds {C f0 : Addr} (D : Stn K mg "check_finds" sCheckFinds ["log", "finds"]) (L : LogC K mg C f0) (M : Mg mg) (G1 : Ok P w K mg base 1 "is_listed" spListed) (G2 : Ok P w K mg base 3 "is_find" (spFind C)) : Ok P w K mg base 4 "check_finds" (spFnds C) := by
  refine ok_of D scCheckFinds (fun vs H Q E h => ?_) (fun f cdv A outer s H vs Q E hr h => ?_)
  · obtain ⟨u, v, n, rs, fs, rfl, _⟩ := h
    rfl
  · obtain ⟨u, v, n, rs, fs, rfl, hu, hv, ho, hl, q⟩ := h
    obtain ⟨p, us, rfl, hp, hus⟩ := id hv
    refine ⟨_, pss_one (ps_if (PW.pt (pw_or (pt_not (pt_val (pe_f G1 hr (pa_cons (pv 1) pa_nil))))
      (pw_or (pt_cmpR op_gt (pe_callB call_len_seq (by rfl) M.len PySem.boot_len (pa_cons (pv 1) pa_nil)) (pe_cst M.fnds) (nomark _))
      (pw_or1 (pt_not (pt_val (pe_callB (cr_all rfl) (by rfl) M.all bi_all (pa_cons
        (pe_lc (own := [("find", 2)]) (g := gName 2) (tt := tYes) rfl scCheckFinds.nd (pi_seq (pv 1)) (blkOk_by (N := nCheckFinds) (sc := defScope sCheckFinds) (by decide +kernel)) (fun _ _ _ _ _ => pg_name (i := 2) scCheckFinds.nd rfl (.inl rfl)) (fun _ _ _ _ _ => pts_nil)
          (fun _ _ _ _ _ => pe_f G2 hr (pa_cons (pv 0) (pa_cons (pv 2) pa_nil)))) pa_nil)))))))) pss_never pss_nil), ?_⟩
    refine ⟨_, rfl, p, us, rfl, hp, fun H1 s1 => ⟨true, rfl, iteF ?_⟩⟩
    have hp1 : H1 p = some (.lst us) ∨ H1 p = some (.tup us) := hp.elim (fun z => .inl (s1 _ _ z)) fun z => .inr (s1 _ _ z)
    refine ⟨_, rfl, p, us, rfl, hp1.elim (fun z => .inl (.of z)) (fun z => .inr (.of z)), _, _, rfl, rfl, _, rfl, ?_⟩
    rw [decide_eq_false (show ¬ (40 : Int) < us.length by rw [hus.len]; omega)]
    refine iteF ?_
    refine ⟨_, rfl, p, us, rfl, hp1, fun J wk D nD => lc_it wk (fun i H2 => Same H1 H2 ∧ H2 D = some (.lst ((List.replicate i true).map V.bl))) ⟨same_new nD, upd_same⟩ ?_ ?_ ?_⟩
    · rintro i H2 _ ⟨s2, _⟩
      show H2 p = H1 p
      rcases hp1 with z | z <;> rw [s2 _ _ z, z]
    · rintro i x H2 H3 hi ⟨s2, hD⟩ ⟨rfl, hx⟩
      obtain ⟨g, hg1, hg2⟩ := hus.back hx
      have s3 := s1.trans s2
      refine ⟨rfl, ?_⟩
      refine ⟨_, rfl, _, rfl, u, x, n, rs, g, rfl, hu.same s3, im_fnd.tk (tk_same s3) hg2, ho g (List.mem_of_getElem? hg1), _, hD, ?_, fun b o e => ?_, ?_⟩
      · rw [List.length_map, List.length_replicate]
        have := hus.len
        exact line_lt (by omega)
      · rw [upd_ne (ne_of_none e nD)]
        exact s2 _ _ e
      · rw [upd_same, List.replicate_succ', List.map_append] <;> rfl
    · rintro H2 ⟨s2, hD⟩
      refine ⟨D, _, rfl, .of hD, ?_⟩
      have e : (List.replicate us.length true).all id = true := by simp
      rw [e]
      exact ⟨true, rfl, iteF (q H2 (s1.trans s2))⟩
/-- at p the list, by moments, of the lists of the pairs of finds -/
def ToldAt (H : Hp) (p : Addr) (fs : List Fnd) (t : Nat) : Prop := ∃ as : List Addr, as.length = t + 1 ∧ H p = some (.lst (as.map V.ref)) ∧ ∀ m a, as[m]? = some a → LstAt PrV H a (told fs m)
theorem ToldAt.same {H H' : Hp} {p : Addr} {fs : List Fnd} {t : Nat} (x : ToldAt H p fs t) (s : Same H H') : ToldAt H' p fs t := by
  obtain ⟨as, h1, h2, h3⟩ := x
  exact ⟨as, h1, s _ _ h2, fun m a e => (h3 m a e).same im_pr s⟩
def spByM (C : Addr) : Sp := fun vs H Q _ => ∃ (u v : V) (n : Nat) (rs : List Row) (fs : List Fnd), vs = [u, v] ∧ LogV C H u n rs ∧ FndsV H v fs ∧ (∀ f ∈ fs, FndOk n rs.length f) ∧ rs.length ≤ 60 ∧ fs.length ≤ 40 ∧
  ∀ p H', Same H H' → ToldAt H' p fs rs.length → Q (.ref p) H'
theorem told_snoc (fs : List Fnd) (f : Fnd) (m : Nat) : told (fs ++ [f]) m = if f.m = m then told fs m ++ [f] else told fs m := by
  unfold told
  rw [List.filter_append]
  by_cases h : f.m = m
  · rw [if_pos h]
    simp [h]
  · rw [if_neg h]
    simp [h]
theorem map_ref_get {as : List Addr} {m : Nat} {a : Addr} (h : as[m]? = some a) : (as.map V.ref)[m]? = some (.ref a) := by
  rw [List.getElem?_map, h] <;> rfl
theorem ok_byM {C f0 : Addr} (D : Stn K mg "finds_by_moment" sFindsByMoment ["log", "finds"]) (L : LogC K mg C f0) (M : Mg mg) : Ok P w K mg base 1 "finds_by_moment" (spByM C) := by
  refine ok_of D scFindsByMoment (fun vs H Q E h => ?_) (fun f cdv A outer s H vs Q E hr h => ?_)
  · obtain ⟨u, v, n, rs, fs, rfl, _⟩ := h
    rfl
  · obtain ⟨u, v, n, rs, fs, rfl, hu, hv, ho, h60, h40, q⟩ := h
    obtain ⟨p, us, rfl, hp, hus⟩ := id hv
    obtain ⟨x, dx, qv, rfl, hx, hrs⟩ := id hu
    obtain ⟨pr, ws, rfl, hpr, hws⟩ := hrs
    refine ⟨_, pss_cons (ps_setLc (i := 3) (own := [("moment", 2)]) (g := gName 2) (tt := tYes) rfl scFindsByMoment.nd rfl rfl (sw_true rfl rfl rfl (by decide +kernel))
        (pi_range1 (by rfl) M.range (pa_cons (pe_op op_add (pe_callB call_len_seq (by rfl) M.len PySem.boot_len (pa_cons (pe_fld (pv 0) rfl) pa_nil)) pe_int) pa_nil)) (blkOk_by (N := nFindsByMoment) (sc := defScope sFindsByMoment) (by decide +kernel))
        (fun _ _ _ _ _ => pg_name (i := 2) scFindsByMoment.nd rfl (.inl rfl)) (fun _ _ _ _ _ => pts_nil) (fun _ _ _ _ _ => pe_lst pa_nil))
      (pss_cons (ps_for PassesOwn.never rfl (pi_seq (pv 1)) (pg_tup rfl (pgs_cons (pg_name (i := 2) scFindsByMoment.nd rfl (.inl rfl)) (pgs_cons (pg_name (i := 4) scFindsByMoment.nd rfl (.inl rfl)) (pgs_cons (pg_name (i := 5) scFindsByMoment.nd rfl (.inl rfl)) pgs_nil))))
        (pss_one (ps_expr (pe_bm PySem.F.plainAttrs_list PySem.F.slot_list_append PySem.F.type_list_append mt_append (pe_ix ix_list (pv 3) (pv 2) (fun _ _ => rfl)) (pa_cons (pe_tup (pa_cons (pv 4) (pa_cons (pv 5) pa_nil))) pa_nil)))))
      (pss_one (ps_ret (pv 3)))), ?_⟩
    -- found = [[] for moment in range(len(log.rows) + 1)]
    refine ⟨_, rfl, x, C, dx, _, _, rfl, hx, L.cl, L.nR, rfl, pr, ws, rfl, .inr (.of hpr), _, _, rfl, rfl, (ws.length : Int) + 1, rfl, by omega, by rw [hws.len]; omega, fun D nD => ?_⟩
    have et : ((ws.length : Int) + 1).toNat = rs.length + 1 := by rw [hws.len]; omega
    rw [et]
    refine lc_range (lo := 0) (n := rs.length + 1) (fun i H1 => ∃ as : List Addr, as.length = i ∧ as.Nodup ∧ Same H H1 ∧ H1 D = some (.lst (as.map V.ref)) ∧ ∀ a ∈ as, H a = none ∧ a ≠ D ∧ H1 a = some (.lst [])) ⟨[], rfl, List.nodup_nil, same_new nD, upd_same, fun a h => nomatch h⟩ ?_ ?_
    · rintro i H1 hi ⟨as, e1, nd, s1, hD, ha⟩
      refine ⟨rfl, Nat.zero_le _, fun b nb => ⟨as.map V.ref, ?_, ?_, as ++ [b], by simp [e1], nd_snoc nd fun z => ?_, fun c o e => ?_, ?_, fun c hc => ?_⟩⟩
      · rw [upd_ne (ne_of_none hD nb)]
        exact hD
      · rw [List.length_map]
        exact line_lt (by omega)
      · have := (ha b z).2.2
        rw [nb] at this
        cases this
      · rw [upd_ne (ne_of_none e nD), upd_ne (ne_of_none (s1 _ _ e) nb)]
        exact s1 _ _ e
      · rw [upd_same, List.map_append] <;> rfl
      · rcases List.mem_append.mp hc with z | z
        · obtain ⟨z1, z2, z3⟩ := ha c z
          refine ⟨z1, z2, ?_⟩
          rw [upd_ne z2, upd_ne (ne_of_none z3 nb)]
          exact z3
        · rw [List.mem_singleton.mp z]
          have nbD : b ≠ D := fun y => by rw [y, hD] at nb; cases nb
          refine ⟨s1.free nb, nbD, ?_⟩
          rw [upd_ne nbD, upd_same]
    · rintro H1 ⟨as, e1, nd, s1, hD, ha⟩
      -- for moment, office, edition in finds
      have hp1 : H1 p = some (.lst us) ∨ H1 p = some (.tup us) := hp.elim (fun z => .inl (s1 _ _ z)) fun z => .inr (s1 _ _ z)
      have hpH : ∃ o, H p = some o := hp.elim (fun z => ⟨_, z⟩) fun z => ⟨_, z⟩
      refine ⟨_, rfl, p, us, rfl, hp1, fun J wk => for_it wk (fun i σ H2 => ∃ y2 y4 y5, σ = [some (.ref x), some (.ref p), y2, some (.ref D), y4, y5] ∧ Same H H2 ∧ H2 D = some (.lst (as.map V.ref)) ∧ ∀ m a, as[m]? = some a → LstAt PrV H2 a (told (fs.take i) m))
        ⟨none, none, none, rfl, s1, hD, fun m a e => ⟨[], (ha a (List.mem_of_getElem? e)).2.2, .nil⟩⟩ ?_ ?_ ?_⟩
      · rintro i σ H2 _ ⟨_, _, _, _, s2, _⟩
        show H2 p = H1 p
        rcases hp with z | z <;> rw [s2 _ _ z, s1 _ _ z]
      · rintro i v0 σ H3 H2 hi ⟨y2, y4, y5, rfl, s2, hD2, hm⟩ ⟨rfl, hv0⟩
        obtain ⟨g, hg1, hg2⟩ := hus.back hv0
        obtain ⟨b, rfl, hb⟩ := im_fnd.tk (tk_same s2) hg2
        have gok := ho g (List.mem_of_getElem? hg1)
        have hgm : g.m < as.length := by rw [e1]; have := gok.m; omega
        obtain ⟨a, haa⟩ : ∃ a, as[g.m]? = some a := ⟨_, List.getElem?_eq_getElem hgm⟩
        obtain ⟨vs0, hva, hall⟩ := hm g.m a haa
        obtain ⟨hna, haD, _⟩ := ha a (List.mem_of_getElem? haa)
        refine ⟨b, _, rfl, .of hb, rfl, _, _, rfl, _, _, rfl, _, _, rfl, rfl, ?_⟩
        refine ⟨_, rfl, _, rfl, D, _, (g.m : Nat), _, rfl, rfl, .of hD2, atI_nat (map_ref_get haa), .inl ⟨rfl, _, .of hva⟩, _, rfl, _, rfl, (by show 2 ≤ sizeLine; decide), fun T nT => ?_⟩
        have s3 : Same H2 (upd H2 T (.tup [.int (g.o : Nat), .int g.e])) := same_new nT
        refine ⟨a, vs0, _, rfl, rfl, s3 _ _ hva, ?_, ?_⟩
        · rw [hall.len]
          have : (told (fs.take i) g.m).length ≤ 40 := Nat.le_trans (List.length_filter_le _ _) (Nat.le_trans (List.length_take_le _ _) (by have := hi; rw [hus.len] at this; omega))
          exact line_lt (by omega)
        · refine ⟨_, _, _, rfl, fun c o e => ?_, ?_, fun m c hc => ?_⟩
          · rw [upd_ne (ne_of_none e hna)]
            exact s3 _ _ (s2 _ _ e)
          · rw [upd_ne (Ne.symm haD)]
            exact s3 _ _ hD2
          · rw [take_snoc hg1, told_snoc]
            have tk : Tk H2 (upd (upd H2 T (.tup [.int (g.o : Nat), .int g.e])) a (.lst (vs0 ++ [.ref T]))) := (tk_same s3).trans (tk_lst (s3 _ _ hva))
            by_cases em : g.m = m
            · rw [if_pos em]
              subst em
              have eca : c = a := Option.some.inj (hc.symm.trans haa)
              subst eca
              refine ⟨_, upd_same, (hall.imp fun _ _ r => im_pr.tk tk r).snoc ⟨T, rfl, ?_⟩⟩
              rw [upd_ne (ne_of_none hva nT).symm]
              exact upd_same
            · rw [if_neg em]
              have eca : c ≠ a := fun z => em (nd_ix nd (z ▸ haa) hc)
              exact (hm m c hc).keep im_pr tk fun o e => by
                rw [upd_ne eca]
                exact s3 _ _ e
      · rintro σ H2 ⟨y2, y4, y5, rfl, s2, hD2, hm⟩
        refine ⟨_, rfl, q D H2 s2 ⟨as, by rw [e1], hD2, fun m a e => ?_⟩⟩
        have := hm m a e
        rw [List.take_of_length_le (by rw [← hus.len]; exact Nat.le_refl _)] at this
        exact this
end
end K70

set_option maxRecDepth 100000
set_option maxHeartbeats 4000000
/-! whether sheets have what is told; what can come behind a row -/
namespace K70
open PySem PySem.Spec PyProof.Rows L2
section
variable {P : Program} {w : World} {K : PySem.W.Frag} {mg : Str → Option Value} {base : Heap}
def spHas : Sp := fun vs H Q _ => ∃ (u : V) (a : Addr) (es : List Int) (fs : List Fnd), vs = [u, .ref a] ∧ IT H u es ∧ LstAt PrV H a fs ∧ (∀ f ∈ fs, f.o < es.length) ∧ fs.length ≤ 40 ∧ ∀ H', Same H H' → Q (.bl (fits es fs)) H'
theorem fits_all (es : List Int) (fs : List Fnd) : (fs.map fun f => decide (es.getD f.o 0 = f.e)).all id = fits es fs := by
  unfold fits
  rw [List.all_map] <;> rfl
theorem ok_has (D : Stn K mg "has_all" sHasAll ["editions", "pairs"]) (M : Mg mg) : Ok P w K mg base 1 "has_all" spHas := by
  refine ok_of D scHasAll (fun vs H Q E h => ?_) (fun f cdv A outer s H vs Q E hr h => ?_)
  · obtain ⟨u, a, es, fs, rfl, _⟩ := h
    rfl
  · obtain ⟨u, a, es, fs, rfl, hu, ha, ho, h40, q⟩ := h
    obtain ⟨p, rfl, hp⟩ := hu
    obtain ⟨us, ha, hus⟩ := ha
    refine ⟨_, pss_one (ps_ret (pe_callB (cr_all rfl) (by rfl) M.all bi_all (pa_cons
      (pe_lc (own := [("office", 2), ("edition", 3)]) (g := gTup K 2 (gCons (gName 2) (gCons (gName 3) gNil))) (tt := tYes) (te := tOp rEq (tOp (rIxT K) (tVar 0) (tVar 2)) (tVar 3)) rfl scHasAll.nd (pi_list (pv 1)) (blkOk_by (N := nHasAll) (sc := defScope sHasAll) (by decide +kernel))
        (fun _ _ _ _ _ => pg_tup rfl (pgs_cons (pg_name (i := 2) scHasAll.nd rfl (.inl rfl)) (pgs_cons (pg_name (i := 3) scHasAll.nd rfl (.inl rfl)) pgs_nil))) (fun _ _ _ _ _ => pts_nil)
        (fun _ _ _ _ _ => pe_cmpR op_eq (pe_ix ix_tup (pv 0) (pv 2) (fun _ _ => rfl)) (pv 3) (nomark _))) pa_nil))), ?_⟩
    refine ⟨_, rfl, a, rfl, ⟨us, .of ha⟩, fun D nD => lc_list (K := K) (a := a) (xs := us) (fun i H2 => Same H H2 ∧ H2 D = some (.lst (((fs.take i).map fun f => decide (es.getD f.o 0 = f.e)).map V.bl))) ⟨same_new nD, upd_same⟩ (fun i H2 _ ⟨s2, _⟩ => .of (s2 _ _ ha)) ?_ ?_⟩
    · rintro i x H2 hx ⟨s2, hD⟩
      obtain ⟨g, hg1, hg2⟩ := hus.back hx
      obtain ⟨b, rfl, hb⟩ := im_pr.tk (tk_same s2) hg2
      refine ⟨b, _, rfl, .of hb, rfl, _, _, rfl, _, _, rfl, rfl, rfl, ?_⟩
      refine ⟨_, rfl, _, rfl, p, _, (g.o : Nat), _, rfl, rfl, .of (s2 _ _ hp), atI_nat (get_int (ho g (List.mem_of_getElem? hg1))), _, rfl, rfl, _, hD, ?_, fun c o e => ?_, ?_⟩
      · simp only [List.length_map]
        exact line_lt (Nat.le_trans (List.length_take_le' _ _) (by omega))
      · rw [upd_ne (ne_of_none e nD)]
        exact s2 _ _ e
      · rw [upd_same, take_snoc hg1, List.map_append, List.map_append]
        have e : decide (V.int (es.getD g.o 0) = V.int g.e) = decide (es.getD g.o 0 = g.e) := by
          by_cases z : es.getD g.o 0 = g.e
          · rw [decide_eq_true z, z, decide_eq_true rfl]
          · rw [decide_eq_false z, decide_eq_false fun y => z (V.int.inj y)]
        rw [e] <;> rfl
    · rintro H2 ⟨s2, hD⟩
      rw [List.take_of_length_le (by rw [← hus.len]; exact Nat.le_refl _)] at hD
      refine ⟨D, _, rfl, .of hD, ?_⟩
      rw [fits_all]
      exact q H2 s2
def spNexts : Sp := fun vs H Q _ => ∃ (u v : V) (n : Nat) (es : List Int) (r : Row), vs = [u, v] ∧ IT H u es ∧ RowV H v r ∧ Shs n es ∧ n ≤ 12 ∧ RowOk n r ∧ ∀ p H', Same H H' → H p = none → LstAt FsV H' p (nxs es r) → Q (.ref p) H'
theorem nexts_tail {Q : VK} {H1 : Hp} {u v : V} {f : Addr} {vs : List V} {n : Nat} {es : List Int} {r : Row} {k : List (Bool × List Int)} (hu : IT H1 u es) (hv : RowV H1 v r) (hs : Shs n es) (hn : n ≤ 12) (ho : RowOk n r) (hf : H1 f = some (.lst vs)) (hk : All2 (FsV H1) vs k) (h1 : k.length ≤ 1) (he : k ++ [(true, cp es r)] = nxs es r)
    (q : ∀ p H', Same H1 H' → H1 p = none → LstAt FsV H' p (nxs es r) → Q (.ref p) H') :
    tOp rCat (tVar 2) (tLst (tCons (tTup (tCons (tC (.bl true)) (tCons (tCall spCopied [] E0 (tCons (tVar 0) (tCons (tVar 1) tNil))) tNil))) tNil)) [some u, some v, some (.ref f)] H1 Q := by
  refine ⟨_, rfl, _, rfl, _, rfl, u, v, n, es, r, rfl, hu, hv, hs, hn, ho, fun H2 z s2 hz => ⟨(by show 2 ≤ sizeLine; decide), fun T nT => ⟨(by show 1 ≤ sizeLine; decide), fun l nl => ?_⟩⟩⟩
  have s3 : Same H2 (upd H2 T (.tup [.bl true, z])) := same_new nT
  have s4 := (s2.trans s3).trans (same_new (o := .lst [V.ref T]) nl)
  refine ⟨f, l, _, _, rfl, rfl, s4 _ _ hf, upd_same, ?_, fun p np => ?_⟩
  · rw [hk.len]
    exact line_of (by simp; omega)
  · have s5 := s4.trans (same_new (o := .lst (vs ++ [V.ref T])) np)
    refine q p _ s5 (s4.free np) ⟨_, upd_same, ?_⟩
    rw [← he]
    have s35 := (same_new (o := .lst [V.ref T]) nl).trans (same_new (o := .lst (vs ++ [V.ref T])) np)
    refine (hk.imp fun _ _ r => im_fs.tk (tk_same s5) r).snoc ⟨T, z, rfl, ?_, im_it.tk (tk_same (s3.trans s35)) hz⟩
    exact s35 _ _ upd_same
theorem ok_nexts (D : Stn K mg "nexts" sNexts ["editions", "row"]) (G : Ok P w K mg base 1 "copied" spCopied) : Ok P w K mg base 2 "nexts" spNexts := by
  refine ok_of D scNexts (fun vs H Q E h => ?_) (fun f cdv A outer s H vs Q E hr h => ?_)
  · obtain ⟨u, v, n, es, r, rfl, _⟩ := h
    rfl
  · obtain ⟨u, v, n, es, r, rfl, hu, hv, hs, hn, ho, q⟩ := h
    obtain ⟨p, rfl, hp⟩ := id hv
    have e2 : atI [V.int (r.x : Nat), V.int (r.y : Nat), V.bl r.s] 2 = some (V.bl r.s) := atI_nat (j := 2) rfl
    refine ⟨_, pss_cons (ps_set (i := 2) scNexts.nd rfl (.inl rfl) (pe_ifExp (pt_val (pe_ix ix_tup (pv 1) pe_int (fun _ _ => rfl))) (pe_lst pa_nil) (pe_lst (pa_cons (pe_tup (pa_cons pe_bl (pa_cons (pv 0) pa_nil))) pa_nil))))
      (pss_one (ps_ret (pe_op op_cat (pv 2) (pe_lst (pa_cons (pe_tup (pa_cons pe_bl (pa_cons (pe_f G hr (pa_cons (pv 0) (pa_cons (pv 1) pa_nil))) pa_nil))) pa_nil))))), ?_⟩
    refine ⟨_, rfl, p, _, 2, _, rfl, rfl, .of hp, e2, r.s, rfl, ?_⟩
    rcases opts_cases r with ⟨hrs, hop⟩ | ⟨hrs, hop⟩
    · rw [hrs]
      refine ⟨Nat.zero_le _, fun f1 nf => ?_⟩
      have s1 : Same H (upd H f1 (.lst [])) := same_new nf
      refine nexts_tail (im_it.tk (tk_same s1) hu) (im_row.tk (tk_same s1) hv) hs hn ho upd_same .nil (by simp) ?_ fun p' H' s' n' l' => q p' H' (s1.trans s') (s1.free n') l'
      unfold nxs
      rw [hop] <;> rfl
    · rw [hrs]
      refine ⟨_, rfl, (by show 2 ≤ sizeLine; decide), fun T nT => ⟨(by show 1 ≤ sizeLine; decide), fun f1 nf => ?_⟩⟩
      have s1 : Same H (upd H T (.tup [.bl false, u])) := same_new nT
      have s2 := s1.trans (same_new (o := .lst [V.ref T]) nf)
      refine nexts_tail (k := [(false, es)]) (im_it.tk (tk_same s2) hu) (im_row.tk (tk_same s2) hv) hs hn ho upd_same (All2.nil.cons ⟨T, u, rfl, same_new nf _ _ upd_same, im_it.tk (tk_same s2) hu⟩) (by simp) ?_ fun p' H' s' n' l' => q p' H' (s2.trans s') (s2.free n') l'
      unfold nxs
      rw [hop] <;> rfl
end
end K70

set_option maxRecDepth 100000
set_option maxHeartbeats 4000000
/-! ways_to: the sheets that can be there, moment by moment -/
namespace K70
open PySem PySem.Spec PyProof.Rows L2
def ik (es : List Int) : List Key := es.map Sum.inl
theorem ik_map (es : List Int) : (ik es).map kV = es.map V.int := by
  unfold ik
  rw [List.map_map] <;> rfl
theorem ik_inj : ∀ {a b : List Int}, ik a = ik b → a = b
  | [], [], _ => rfl
  | [], _ :: _, e => by simp [ik] at e
  | _ :: _, [], e => by simp [ik] at e
  | x :: xs, y :: ys, e => by
    have e' : Sum.inl x :: ik xs = (Sum.inl y :: ik ys : List Key) := e
    injection e' with e1 e2
    injection e1 with e1
    rw [e1, ik_inj e2]
/-- the pairs of a dict: its keys the sheets S, its values ints -/
structure Dic (kvs : List (List Key × V)) (S : List (List Int)) : Prop where
  keys : kvs.map (·.1) = S.map ik
  ival : ∀ p ∈ kvs, ∃ c : Int, p.2 = .int c
  nd : S.Nodup
theorem Dic.nil : Dic [] [] := ⟨rfl, fun _ h => (nomatch h), List.nodup_nil⟩
theorem Dic.len {kvs : List (List Key × V)} {S : List (List Int)} (d : Dic kvs S) : kvs.length = S.length := by
  have := congrArg List.length d.keys
  simpa using this
theorem mem_ik {S : List (List Int)} {es : List Int} : ik es ∈ S.map ik ↔ es ∈ S := by
  rw [List.mem_map]
  constructor
  · rintro ⟨q, h, e⟩
    rw [← ik_inj e]
    exact h
  · exact fun h => ⟨es, h, rfl⟩
theorem Dic.is {kvs : List (List Key × V)} {S : List (List Int)} (d : Dic kvs S) (es : List Int) : (valV kvs (ik es)).isSome = true ↔ es ∈ S := by
  rw [← mem_ik, ← d.keys]
  constructor
  · intro h
    obtain ⟨v, hv⟩ := Option.isSome_iff_exists.mp h
    exact valV_in hv
  · intro h
    cases e : valV kvs (ik es) with
    | some v => rfl
    | none => exact absurd h (valV_not e)
theorem mem_valV {κ : Type} [DecidableEq κ] {kvs : List (κ × V)} {k : κ} {v : V} (h : valV kvs k = some v) : (k, v) ∈ kvs := by
  unfold valV at h
  obtain ⟨p, hp, e⟩ := Option.map_eq_some_iff.mp h
  have h1 := List.mem_of_find?_eq_some hp
  have h2 : p.1 = k := of_decide_eq_true (List.find?_some (p := fun kv : κ × V => decide (kv.1 = k)) hp)
  rw [← h2, ← e]
  exact h1
theorem Dic.get {kvs : List (List Key × V)} {S : List (List Int)} (d : Dic kvs S) (es : List Int) : ∃ c : Int, (valV kvs (ik es)).getD (.int 0) = .int c := by
  cases e : valV kvs (ik es) with
  | none => exact ⟨0, rfl⟩
  | some v => exact d.ival _ (mem_valV e)
def addS (S : List (List Int)) (es : List Int) : List (List Int) := if es ∈ S then S else S ++ [es]
theorem mem_addS {S : List (List Int)} {es q : List Int} : q ∈ addS S es ↔ q ∈ S ∨ q = es := by
  unfold addS
  split
  · rename_i h
    constructor
    · exact .inl
    · rintro (z | z)
      · exact z
      · rw [z]; exact h
  · rw [List.mem_append, List.mem_singleton]
theorem Dic.put {kvs : List (List Key × V)} {S : List (List Int)} (d : Dic kvs S) (es : List Int) (c : Int) : Dic (putK kvs (ik es) (.int c)) (addS S es) := by
  by_cases h : es ∈ S
  · have hs := (d.is es).mpr h
    have e : putK kvs (ik es) (.int c) = kvs.map fun kv => if kv.1 = ik es then (kv.1, .int c) else kv := by
      unfold putK
      rw [valV_any, if_pos hs]
    unfold addS
    rw [e, if_pos h]
    refine ⟨?_, fun p hp => ?_, d.nd⟩
    · rw [← d.keys, List.map_map]
      refine List.map_congr_left fun p _ => ?_
      show (if p.1 = ik es then (p.1, V.int c) else p).1 = p.1
      split <;> rfl
    · obtain ⟨q, hq, rfl⟩ := List.mem_map.mp hp
      split
      · exact ⟨c, rfl⟩
      · exact d.ival q hq
  · have hn : valV kvs (ik es) = none := by
      cases e : valV kvs (ik es) with
      | none => rfl
      | some v => exact absurd ((d.is es).mp (by rw [e] <;> rfl)) h
    unfold addS
    rw [putK_new _ hn, if_neg h]
    refine ⟨?_, fun p hp => ?_, nd_snoc d.nd h⟩
    · rw [List.map_append, List.map_append, d.keys] <;> rfl
    · rcases List.mem_append.mp hp with z | z
      · exact d.ival p z
      · rw [List.mem_singleton.mp z]
        exact ⟨c, rfl⟩
theorem Dic.at {kvs : List (List Key × V)} {S : List (List Int)} (d : Dic kvs S) {i : Nat} {k : List Key} {v : V} (h : kvs[i]? = some (k, v)) : ∃ es c, S[i]? = some es ∧ k = ik es ∧ v = .int c := by
  have e : (kvs.map (·.1))[i]? = some k := by rw [List.getElem?_map, h] <;> rfl
  rw [d.keys, List.getElem?_map] at e
  obtain ⟨es, h1, h2⟩ := Option.map_eq_some_iff.mp e
  obtain ⟨c, hc⟩ := d.ival _ (List.mem_of_getElem? h)
  exact ⟨es, c, h1, h2.symm, hc⟩
/-- at d a dict of the sheets in T -/
def DicAt (H : Hp) (d : Addr) (T : List (List Int)) : Prop := ∃ kvs S, H d = some (.dT kvs) ∧ Dic kvs S ∧ ∀ es, es ∈ S ↔ es ∈ T
/-- at p a list of such, the sheets at each moment -/
def ComeAt (H : Hp) (p : Addr) (fs : List Fnd) (S0 : List (List Int)) (rs : List Row) (k : Nat) : Prop := ∃ ds : List Addr, ds.length = k ∧ H p = some (.lst (ds.map V.ref)) ∧ ∀ m d, ds[m]? = some d → DicAt H d (rch fs S0 rs m)
/-- the first sheets, if the finds let them be -/
def firstS (fs : List Fnd) (n : Nat) : List (List Int) := if heeds fs 0 (begun n) = true then [begun n] else []
theorem firstS_ok (fs : List Fnd) (n : Nat) : ∀ es ∈ firstS fs n, Shs n es := by
  intro es h
  unfold firstS at h
  split at h
  · rw [List.mem_singleton.mp h]
    exact begun_ok n
  · cases h
/-- what can come behind a row -/
def stepL (fs : List Fnd) (m : Nat) (L : List (List Int)) (r : Row) : List (List Int) := (L.flatMap fun es => (opts r).map fun b => mv b es r).filter fun es => heeds fs (m + 1) es
theorem mem_stepL {fs : List Fnd} {m : Nat} {L : List (List Int)} {r : Row} {es : List Int} : es ∈ stepL fs m L r ↔ ∃ q ∈ L, (∃ x ∈ nxs q r, x.2 = es) ∧ heeds fs (m + 1) es = true := by
  unfold stepL
  rw [List.mem_filter, List.mem_flatMap]
  constructor
  · rintro ⟨⟨q, hq, hb⟩, h⟩
    obtain ⟨b, hb, e⟩ := List.mem_map.mp hb
    exact ⟨q, hq, ⟨(b, mv b q r), List.mem_map.mpr ⟨b, hb, rfl⟩, e⟩, h⟩
  · rintro ⟨q, hq, ⟨x, hx, e⟩, h⟩
    obtain ⟨b, hb, rfl⟩ := List.mem_map.mp hx
    exact ⟨⟨q, hq, List.mem_map.mpr ⟨b, hb, e⟩⟩, h⟩
theorem stepL_congr {fs : List Fnd} {m : Nat} {L L' : List (List Int)} {r : Row} (h : ∀ es, es ∈ L ↔ es ∈ L') (es : List Int) : es ∈ stepL fs m L r ↔ es ∈ stepL fs m L' r := by
  rw [mem_stepL, mem_stepL]
  exact ⟨fun ⟨q, hq, z⟩ => ⟨q, (h q).mp hq, z⟩, fun ⟨q, hq, z⟩ => ⟨q, (h q).mpr hq, z⟩⟩
theorem nxs_ok {n : Nat} {es : List Int} {r : Row} (h : Shs n es) (hr : RowOk n r) : ∀ x ∈ nxs es r, Shs n x.2 := by
  intro x hx
  obtain ⟨b, _, rfl⟩ := List.mem_map.mp hx
  exact mv_ok h hr
/-- the thing at d is put back as it was -/
theorem unlock_same {H1 H2 : Hp} {d : Addr} {u o : HO} (s : Same (upd H1 d o) H2) (h : H1 d = some u) : Same H1 (upd H2 d u) := fun b x e => by
  by_cases hb : b = d
  · subst hb
    rw [upd_same, ← h, e]
  · rw [upd_ne hb]
    refine s b x ?_
    rw [upd_ne hb]
    exact e
theorem lock_lst {H1 : Hp} {d a : Addr} {kvs : List (List Key × V)} {o : HO} {xs : List V} (h : H1 d = some (.dT kvs)) (e : H1 a = some (.lst xs)) : upd H1 d o a = some (.lst xs) := by
  rw [upd_ne (ne_of e h fun z => nomatch z)]
  exact e
theorem ToldAt.lock {H : Hp} {d p : Addr} {kvs : List (List Key × V)} {o : HO} {fs : List Fnd} {t : Nat} (x : ToldAt H p fs t) (h : H d = some (.dT kvs)) : ToldAt (upd H d o) p fs t := by
  obtain ⟨as, h1, h2, h3⟩ := x
  refine ⟨as, h1, lock_lst h h2, fun m a e => ?_⟩
  obtain ⟨vs, h4, h5⟩ := h3 m a e
  exact ⟨vs, lock_lst h h4, h5.imp fun _ _ r => im_pr.tk (tk_dT h) r⟩
theorem ToldAt.get {H : Hp} {p : Addr} {fs : List Fnd} {t m : Nat} (x : ToldAt H p fs t) (hm : m ≤ t) : ∃ as a, H p = some (.lst as) ∧ as[m]? = some (.ref a) ∧ LstAt PrV H a (told fs m) := by
  obtain ⟨as, h1, h2, h3⟩ := x
  have hl : m < as.length := by omega
  exact ⟨_, as[m], h2, map_ref_get (List.getElem?_eq_getElem hl), h3 m _ (List.getElem?_eq_getElem hl)⟩
theorem told_ok {fs : List Fnd} {n t m : Nat} (h : ∀ f ∈ fs, FndOk n t f) : ∀ f ∈ told fs m, f.o < n := fun f hf => (h f (List.mem_filter.mp hf).1).o
theorem told_len (fs : List Fnd) (m : Nat) : (told fs m).length ≤ fs.length := List.length_filter_le _ _
theorem But.tkD {a : Addr} {H H' : Hp} {kvs : List (List Key × V)} (x : But a H H') (h : H a = some (.dT kvs)) : Tk H H' := fun b ys e => x b _ (ne_of e h fun z => nomatch z) e
theorem ToldAt.but {H H' : Hp} {l p : Addr} {kvs : List (List Key × V)} {fs : List Fnd} {t : Nat} (x : ToldAt H p fs t) (h : H l = some (.dT kvs)) (b : But l H H') : ToldAt H' p fs t := by
  obtain ⟨as, h1, h2, h3⟩ := x
  refine ⟨as, h1, b _ _ (ne_of h2 h fun z => nomatch z) h2, fun m a e => ?_⟩
  obtain ⟨vs, h4, h5⟩ := h3 m a e
  exact ⟨vs, b _ _ (ne_of h4 h fun z => nomatch z) h4, h5.imp fun _ _ r => im_pr.tk (b.tkD h) r⟩
/-- behind the walk over the locked dict all that was there is as it was -/
theorem back_same {H8 H10 : Hp} {l d : Addr} {u o f : HO} (nl : H8 l = none) (hd : H8 d = some u) (b : But l (upd (upd H8 l o) d f) H10) : Same H8 (upd H10 d u) := fun c x e => by
  have hc : c ≠ l := ne_of_none e nl
  by_cases hb : c = d
  · subst hb
    rw [upd_same, ← hd, e]
  · rw [upd_ne hb]
    refine b c x hc ?_
    rw [upd_ne hb, upd_ne hc]
    exact e
theorem DicAt.same {H H' : Hp} {d : Addr} {T : List (List Int)} (x : DicAt H d T) (s : Same H H') : DicAt H' d T := by
  obtain ⟨kvs, S, h, q⟩ := x
  exact ⟨kvs, S, s _ _ h, q⟩
theorem DicAt.push {H : Hp} {d p : Addr} {T : List (List Int)} {vs ws : List V} (x : DicAt H d T) (h : H p = some (.lst vs)) : DicAt (upd H p (.lst ws)) d T := by
  obtain ⟨kvs, S, h1, q⟩ := x
  refine ⟨kvs, S, ?_, q⟩
  rw [upd_ne (ne_of h1 h fun z => nomatch z)]
  exact h1
theorem ComeAt.same {H H' : Hp} {p : Addr} {fs : List Fnd} {S0 : List (List Int)} {rs : List Row} {k : Nat} (x : ComeAt H p fs S0 rs k) (s : Same H H') : ComeAt H' p fs S0 rs k := by
  obtain ⟨ds, h1, h2, h3⟩ := x
  exact ⟨ds, h1, s _ _ h2, fun m d e => (h3 m d e).same s⟩
theorem ComeAt.last {H : Hp} {p : Addr} {fs : List Fnd} {S0 : List (List Int)} {rs : List Row} {k : Nat} (x : ComeAt H p fs S0 rs (k + 1)) : ∃ us d, H p = some (.lst (us ++ [V.ref d])) ∧ us.length = k ∧ DicAt H d (rch fs S0 rs k) := by
  obtain ⟨ds, h1, h2, h3⟩ := x
  have hk : k < ds.length := by omega
  have e : ds = ds.take k ++ [ds[k]] := by
    have z := take_snoc (l := ds) (i := k) (List.getElem?_eq_getElem hk)
    rw [List.take_of_length_le (by omega)] at z
    exact z
  refine ⟨(ds.take k).map V.ref, ds[k], ?_, by simp; omega, h3 k _ (List.getElem?_eq_getElem hk)⟩
  rw [h2]
  conv => lhs; rw [e]
  rw [List.map_append] <;> rfl
theorem ComeAt.get {H : Hp} {p : Addr} {fs : List Fnd} {S0 : List (List Int)} {rs : List Row} {k m : Nat} (x : ComeAt H p fs S0 rs k) (hm : m < k) : ∃ us d, H p = some (.lst us) ∧ us[m]? = some (V.ref d) ∧ DicAt H d (rch fs S0 rs m) := by
  obtain ⟨ds, h1, h2, h3⟩ := x
  have hk : m < ds.length := by omega
  exact ⟨_, ds[m], h2, map_ref_get (List.getElem?_eq_getElem hk), h3 m _ (List.getElem?_eq_getElem hk)⟩
theorem ComeAt.snoc {H : Hp} {p d : Addr} {us : List V} {fs : List Fnd} {S0 : List (List Int)} {rs : List Row} {k : Nat} (x : ComeAt H p fs S0 rs k) (h : H p = some (.lst us)) (hd : DicAt H d (rch fs S0 rs k)) : ComeAt (upd H p (.lst (us ++ [V.ref d]))) p fs S0 rs (k + 1) := by
  obtain ⟨ds, h1, h2, h3⟩ := x
  rw [h] at h2
  cases h2
  refine ⟨ds ++ [d], by simp [h1], by rw [upd_same, List.map_append] <;> rfl, fun m b e => ?_⟩
  by_cases hm : m < ds.length
  · rw [List.getElem?_append_left hm] at e
    exact (h3 m b e).push h
  · have e1 : m = ds.length := by
      have := (List.getElem?_eq_some_iff.mp e).1
      simp at this
      omega
    rw [e1] at e
    simp at e
    rw [← e, e1, h1]
    exact hd.push h
theorem stepL_snoc {fs : List Fnd} {m : Nat} {L : List (List Int)} {q : List Int} {r : Row} {es : List Int} : es ∈ stepL fs m (L ++ [q]) r ↔ es ∈ stepL fs m L r ∨ ((∃ x ∈ nxs q r, x.2 = es) ∧ heeds fs (m + 1) es = true) := by
  rw [mem_stepL, mem_stepL]
  constructor
  · rintro ⟨p, hp, z⟩
    rcases List.mem_append.mp hp with y | y
    · exact .inl ⟨p, y, z⟩
    · rw [List.mem_singleton.mp y] at z
      exact .inr z
  · rintro (⟨p, hp, z⟩ | z)
    · exact ⟨p, List.mem_append.mpr (.inl hp), z⟩
    · exact ⟨q, List.mem_append.mpr (.inr (List.mem_singleton.mpr rfl)), z⟩
section
variable {P : Program} {w : World} {K : PySem.W.Frag} {mg : Str → Option Value} {base : Heap}
def spWays (C : Addr) : Sp := fun vs H Q _ => ∃ (u v : V) (n : Nat) (rs : List Row) (fs : List Fnd), vs = [u, v] ∧ LogV C H u n rs ∧ FndsV H v fs ∧ (∀ f ∈ fs, FndOk n rs.length f) ∧ (∀ r ∈ rs, RowOk n r) ∧ n ≤ 8 ∧ rs.length ≤ 60 ∧ fs.length ≤ 40 ∧
  ∀ p H', Same H H' → ComeAt H' p fs (firstS fs n) rs (rs.length + 1) → Q (.ref p) H'
theorem first_dict {n : Nat} {fs : List Fnd} {σ : L2.St} {H3 : Hp} {z : V} {K1 : V → Hp → Prop} (hz : IT H3 z (begun n)) (e : σ[3]? = some (some z)) (k : ∀ d H4, Same H3 H4 → DicAt H4 d (firstS fs n) → K1 (.ref d) H4) :
    if fits (begun n) (told fs 0) = true then tDisp1T (tVar 3) (tC (.int 1)) σ H3 K1 else tDNewT σ H3 K1 := by
  have ef : firstS fs n = if fits (begun n) (told fs 0) = true then [begun n] else [] := rfl
  refine ite2 (fun h => fun p np => ?_) (fun h => fun p np => ?_)
  · obtain ⟨b, rfl, hb⟩ := hz
    have s1 : Same H3 (upd H3 p (.dT [])) := same_new np
    refine ⟨_, e, _, _, rfl, upd_same, ik (begun n), b, rfl, by rw [ik_map]; exact s1 _ _ hb, ?_⟩
    rw [upd_upd]
    refine k p _ (same_new np) ⟨_, [begun n], upd_same, ⟨rfl, fun q hq => ?_, by simp⟩, fun es => ?_⟩
    · rw [List.mem_singleton.mp hq]
      exact ⟨1, rfl⟩
    · rw [ef, if_pos h]
  · refine k p _ (same_new np) ⟨_, [], upd_same, .nil, fun es => ?_⟩
    rw [ef, if_neg h]
theorem ok_ways {C f0 : Addr} (D : Stn K mg "ways_to" sWaysTo ["log", "finds"]) (L : LogC K mg C f0) (M : Mg mg) (G1 : Ok P w K mg base 1 "finds_by_moment" (spByM C)) (G2 : Ok P w K mg base 1 "begun" spBegun) (G3 : Ok P w K mg base 1 "has_all" spHas)
    (G4 : Ok P w K mg base 2 "nexts" spNexts) : Ok P w K mg base 3 "ways_to" (spWays C) := by
  refine ok_of D scWaysTo (fun vs H Q E h => ?_) (fun f cdv A outer s H vs Q E hr h => ?_)
  · obtain ⟨u, v, n, rs, fs, rfl, _⟩ := h
    rfl
  · obtain ⟨u, v, n, rs, fs, rfl, hu, hv, ho, hro, hn8, h60, h40, q⟩ := h
    obtain ⟨x, dx, qv, rfl, hx, hrs⟩ := id hu
    obtain ⟨pr, ws, rfl, hpr, hws⟩ := id hrs
    refine ⟨_, pss_cons (ps_set (i := 2) scWaysTo.nd rfl (.inl rfl) (pe_f G1 hr (pa_cons (pv 0) (pa_cons (pv 1) pa_nil))))
      (pss_cons (ps_set (i := 3) scWaysTo.nd rfl (.inl rfl) (pe_f G2 hr (pa_cons (pe_fld (pv 0) rfl) pa_nil)))
      (pss_cons (ps_set (i := 4) scWaysTo.nd rfl (.inl rfl) (pe_lst (pa_cons (pe_ifExp (pt_val (pe_f G3 hr (pa_cons (pv 3) (pa_cons (pe_ix ix_list (pv 2) pe_int (fun _ _ => rfl)) pa_nil)))) (pe_disp1T hr.units0 (pv 3) pe_int) pe_dnewT) pa_nil)))
      (pss_cons (ps_for PassesOwn.never rfl (pi_enumT (by rfl) M.enu (pa_cons (pe_fld (pv 0) rfl) pa_nil)) (pg_tup rfl (pgs_cons (pg_name (i := 5) scWaysTo.nd rfl (.inl rfl)) (pgs_cons (pg_name (i := 6) scWaysTo.nd rfl (.inl rfl)) pgs_nil)))
        (pss_cons (ps_set (i := 7) scWaysTo.nd rfl (.inl rfl) pe_dnewT)
        (pss_cons (ps_lock (ps_for PassesOwn.never rfl (pi_itemsT (pe_ix ix_list (pv 4) (pe_un un_neg pe_int) (fun _ _ => rfl))) (pg_tup rfl (pgs_cons (pg_name (i := 8) scWaysTo.nd rfl (.inl rfl)) (pgs_cons (pg_name (i := 9) scWaysTo.nd rfl (.inl rfl)) pgs_nil)))
          (pss_one (ps_for PassesOwn.never rfl (pi_list (pe_f G4 hr (pa_cons (pv 8) (pa_cons (pv 6) pa_nil)))) (pg_tup rfl (pgs_cons (pg_name (i := 10) scWaysTo.nd rfl (.inl rfl)) (pgs_cons (pg_name (i := 11) scWaysTo.nd rfl (.inl rfl)) pgs_nil)))
            (pss_one (ps_if (pt_val (pe_f G3 hr (pa_cons (pv 11) (pa_cons (pe_ix ix_list (pv 2) (pe_op op_add (pv 5) pe_int) (fun _ _ => rfl)) pa_nil))))
              (pss_one (ps_dput (hu_of hr) (pv 7) (pv 11) (pe_op op_add (pe_dget2 (hu_of hr) (pv 7) (pv 11) pe_int ⟨rfl, rfl, rfl, rfl⟩) (pv 9)) rfl)) pss_nil))))))
        (pss_one (ps_expr (pe_bm PySem.F.plainAttrs_list PySem.F.slot_list_append PySem.F.type_list_append mt_append (pv 4) (pa_cons (pv 7) pa_nil)))))))
      (pss_one (ps_ret (pv 4)))))), ?_⟩
    -- told, first
    refine ⟨_, rfl, _, rfl, .ref x, v, n, rs, fs, rfl, hu, hv, ho, h60, h40, fun t H1 s1 ht => ?_⟩
    refine ⟨_, rfl, x, C, dx, _, _, rfl, s1 _ _ hx, L.cl, L.nO, rfl, n, rfl, by omega, fun H2 z s2 hz => ?_⟩
    have ht2 := ht.same s2
    obtain ⟨as0, a0, g1, g2, g3⟩ := ht2.get (Nat.zero_le _)
    -- found = [.. first ..]
    refine ⟨_, rfl, _, rfl, t, _, 0, _, rfl, rfl, .of g1, atI_nat (j := 0) g2, z, a0, begun n, told fs 0, rfl, hz, g3, (by rw [begun_len]; exact told_ok ho), Nat.le_trans (told_len fs 0) h40, fun H3 s3 => ⟨_, rfl, ?_⟩⟩
    have hz3 := im_it.tk (tk_same s3) hz
    refine first_dict hz3 rfl (fun d H4 s4 hd => ⟨(by show 1 ≤ sizeLine; decide), fun fa nf => ?_⟩)
    -- the rows
    have s5 : Same H4 (upd H4 fa (.lst [.ref d])) := same_new nf
    have sA := ((s1.trans s2).trans s3).trans s4
    have htA : ToldAt H4 t fs rs.length := (ht2.same s3).same s4
    have hc0 : ComeAt (upd H4 fa (.lst [.ref d])) fa fs (firstS fs n) rs 1 := by
      refine ⟨[d], rfl, upd_same, fun m b e => ?_⟩
      cases m with
      | zero =>
        cases e
        exact hd.same s5
      | succ m => simp at e
    refine ⟨_, rfl, x, C, dx, _, _, rfl, s5 _ _ (sA _ _ hx), L.cl, L.nR, rfl, pr, ws, rfl, s5 _ _ (sA _ _ hpr),
      for_it walk_en (fun i σ H7 => ∃ y5 y6 y7 y8 y9 y10 y11, σ = [some (.ref x), some v, some (.ref t), some z, some (.ref fa), y5, y6, y7, y8, y9, y10, y11] ∧ Same H4 H7 ∧ ComeAt H7 fa fs (firstS fs n) rs (i + 1))
        ⟨none, none, none, none, none, none, none, rfl, s5, hc0⟩ (fun i σ H7 _ ⟨_, _, _, _, _, _, _, _, s7, _⟩ => s7 _ _ (sA _ _ hpr)) ?_ ?_⟩
    · rintro i x0 σ H7 H8 hi ⟨y5, y6, y7, y8, y9, y10, y11, rfl, s7, hc⟩ ⟨T, u0, hx0, rfl, nT, rfl⟩
      obtain ⟨r, hr1, hr2⟩ := hws.back hx0
      have hi' : i < rs.length := by rw [← hws.len]; exact hi
      have er : rowAt rs i = r := Option.some.inj ((rowAt_get hi').symm.trans hr1)
      have ro := hro r (List.mem_of_getElem? hr1)
      refine ⟨T, _, rfl, .of upd_same, rfl, _, _, rfl, _, _, rfl, rfl, fun l nl => ?_⟩
      generalize eH : upd H7 T (.tup [.int (i : Nat), u0]) = H8 at nl ⊢
      have s8 : Same H7 H8 := eH ▸ same_new nT
      have hc8 := hc.same s8
      obtain ⟨us, dd, hfa, hul, kvs, S, hdd, hD, hS⟩ := hc8.last
      have hSo : ∀ es ∈ S, Shs n es := fun es h => rch_ok (firstS_ok fs n) hro i (by omega) es ((hS es).mp h)
      have ndl : dd ≠ l := ne_of_none hdd nl
      have hdd9 : (upd H8 l (.dT [])) dd = some (.dT kvs) := by rw [upd_ne ndl]; exact hdd
      refine ⟨dd, .dT kvs, hdd9, True.intro, fun od => ?_⟩
      have hl0 : (upd (upd H8 l (.dT [])) dd (.frz od (.dT kvs))) l = some (.dT []) := by rw [upd_ne (Ne.symm ndl), upd_same]
      have hf0 : (upd (upd H8 l (.dT [])) dd (.frz od (.dT kvs))) fa = some (.lst (us ++ [V.ref dd])) := by
        rw [upd_ne (ne_of hfa hdd fun z => nomatch z), upd_ne (ne_of_none hfa nl)]
        exact hfa
      have htl : ToldAt (upd (upd H8 l (.dT [])) dd (.frz od (.dT kvs))) t fs rs.length := (((htA.same s7).same s8).same (same_new nl)).lock hdd9
      have hrl : RowV (upd (upd H8 l (.dT [])) dd (.frz od (.dT kvs))) u0 r := im_row.tk (((tk_same ((sA.trans s7).trans s8)).trans (tk_new nl)).trans (tk_dT hdd9)) hr2
      generalize eL : upd (upd H8 l (.dT [])) dd (.frz od (.dT kvs)) = HL at hl0 hf0 htl hrl ⊢
      have hdL : HL dd = some (.frz od (.dT kvs)) := by rw [← eL, upd_same]
      refine ⟨_, rfl, _, rfl, fa, _, -1, _, rfl, rfl, .of hf0, atI_last _ _, dd, od, kvs, rfl, hdL,
        for_it walk_it (fun j σ H9 => ∃ z8 z9 z10 z11, σ = [some (.ref x), some v, some (.ref t), some z, some (.ref fa), some (.int (i : Nat)), some u0, some (.ref l), z8, z9, z10, z11] ∧ But l HL H9 ∧
          ∃ kv2 S2, H9 l = some (.dT kv2) ∧ Dic kv2 S2 ∧ ∀ es, es ∈ S2 ↔ es ∈ stepL fs i (S.take j) r)
          ⟨_, _, _, _, rfl, But.refl _ _, [], [], hl0, .nil, fun es => Iff.rfl⟩ (fun j σ H9 _ ⟨_, _, _, _, _, b9, _⟩ => b9 _ _ ndl hdL) ?_ ?_⟩
      · rintro j x1 σ H9 H10 hj ⟨z8, z9, z10, z11, rfl, b9, kv2, S2, hl9, hD2, hS2⟩ ⟨T2, k, v2, b, hk, rfl, nT2, hb, rfl⟩
        obtain ⟨q0, c, hq0, rfl, rfl⟩ := hD.at hk
        have qo := hSo q0 (List.mem_of_getElem? hq0)
        refine ⟨T2, _, rfl, .of upd_same, rfl, _, _, rfl, _, _, rfl, rfl, ?_⟩
        have b10 : But l HL (upd H9 T2 (.tup [.ref b, .int c])) := b9.trans (But.same (same_new nT2))
        have hl10 : (upd H9 T2 (.tup [.ref b, .int c])) l = some (.dT kv2) := same_new nT2 _ _ hl9
        have hb10 : (upd H9 T2 (.tup [.ref b, .int c])) b = some (.tup (q0.map V.int)) := by
          rw [← ik_map]
          exact same_new nT2 _ _ hb
        generalize upd H9 T2 (.tup [.ref b, .int c]) = H10 at b10 hl10 hb10 ⊢
        refine ⟨_, rfl, _, rfl, _, _, n, q0, r, rfl, ⟨b, rfl, hb10⟩, im_row.tk (b10.tkD hl0) hrl, qo, by omega, ro, fun p H11 s11 np hp => ?_⟩
        obtain ⟨xs, hpx, hxs⟩ := hp
        have plp : p ≠ l := fun y => by rw [y, hl10] at np; cases np
        have b11 : But l HL H11 := b10.trans (But.same s11)
        have hl11 := s11 _ _ hl10
        refine ⟨p, rfl, ⟨xs, .of hpx⟩, ?_⟩
        refine for_list (Pv := fun k σ H12 => ∃ z10 z11, σ = [some (.ref x), some v, some (.ref t), some z, some (.ref fa), some (.int (i : Nat)), some u0, some (.ref l), some (.ref b), some (.int c), z10, z11] ∧ But l H11 H12 ∧
          ∃ kv3 S3, H12 l = some (.dT kv3) ∧ Dic kv3 S3 ∧ ∀ es, es ∈ S3 ↔ es ∈ S2 ∨ ((∃ x ∈ (nxs q0 r).take k, x.2 = es) ∧ heeds fs (i + 1) es = true))
          ⟨_, _, rfl, But.refl _ _, kv2, S2, hl11, hD2, fun es => ?_⟩ (fun k σ H12 _ ⟨_, _, _, b12, _⟩ => .of (b12 _ _ plp hpx)) ?_ ?_
        · constructor
          · exact .inl
          · rintro (y | ⟨⟨x, hx, _⟩, _⟩)
            · exact y
            · cases hx
        · rintro k xk σ H12 hxk ⟨z10, z11, rfl, b12, kv3, S3, hl12, hD3, hS3⟩
          obtain ⟨⟨fl, more⟩, hk1, hk2⟩ := hxs.back hxk
          have mo : Shs n more := nxs_ok qo ro _ (List.mem_of_getElem? hk1)
          obtain ⟨a3, u3, rfl, ha3, b3, rfl, hb3⟩ := im_fs.tk (b12.tkD hl11) hk2
          refine ⟨a3, _, rfl, .of ha3, rfl, _, _, rfl, _, _, rfl, rfl, ?_⟩
          have ht12 := htl.but hl0 (b11.trans b12)
          obtain ⟨as1, a1, g1, g2, g3⟩ := ht12.get (show i + 1 ≤ rs.length from hi')
          refine ⟨_, rfl, _, rfl, _, rfl, _, _, rfl, rfl, t, _, ((i + 1 : Nat) : Int), _, rfl, rfl, .of g1, atI_nat g2, .ref b3, a1, more, told fs (i + 1), rfl, ⟨b3, rfl, hb3⟩, g3, (by rw [mo.len]; exact told_ok ho), Nat.le_trans (told_len fs _) h40, fun H13 s13 => ?_⟩
          have b13 : But l H11 H13 := b12.trans (But.same s13)
          have hl13 := s13 _ _ hl12
          refine ⟨heeds fs (i + 1) more, rfl, ?_⟩
          have full : ∀ es, ((∃ x ∈ (nxs q0 r).take (k + 1), x.2 = es) ∧ heeds fs (i + 1) es = true) ↔ ((∃ x ∈ (nxs q0 r).take k, x.2 = es) ∧ heeds fs (i + 1) es = true) ∨ (more = es ∧ heeds fs (i + 1) more = true) := fun es => by
            rw [take_snoc hk1]
            constructor
            · rintro ⟨⟨x, hx, e⟩, h⟩
              rcases List.mem_append.mp hx with y | y
              · exact .inl ⟨⟨x, y, e⟩, h⟩
              · rw [List.mem_singleton.mp y] at e
                exact .inr ⟨e, by rw [show more = es from e]; exact h⟩
            · rintro (⟨⟨x, hx, e⟩, h⟩ | ⟨e, h⟩)
              · exact ⟨⟨x, List.mem_append.mpr (.inl hx), e⟩, h⟩
              · exact ⟨⟨_, List.mem_append.mpr (.inr (List.mem_singleton.mpr rfl)), e⟩, e ▸ h⟩
          refine ite2 (fun hh => ?_) (fun hh => ?_)
          · obtain ⟨c3, hc3⟩ := hD3.get more
            refine ⟨_, rfl, l, rfl, .inr ⟨_, .inl hl13⟩, _, rfl, _, .t (k := ik more) hl13 (by rw [ik_map]; exact s13 _ _ hb3), ?_⟩
            rw [hc3]
            have h3o : ∀ es ∈ S3, Shs n es := fun es h => by
              rcases (hS3 es).mp h with y | ⟨⟨x, hx, e⟩, _⟩
              · obtain ⟨q, hq, ⟨x, hx, e⟩, _⟩ := mem_stepL.mp ((hS2 es).mp y)
                rw [← e]
                exact nxs_ok (hSo q (List.mem_of_mem_take hq)) ro x hx
              · rw [← e]
                exact nxs_ok qo ro x (List.mem_of_mem_take hx)
            refine ⟨_, rfl, _, _, rfl, rfl, _, rfl, _, rfl, l, _, rfl, .t (k := ik more) hl13 (by rw [ik_map]; exact s13 _ _ hb3) ?_, _, _, rfl, b13.trans But.upd, _, _, upd_same, hD3.put more _, fun es => ?_⟩
            · rw [hD3.len]
              exact line_lt (Nat.le_trans (few hn8 hD3.nd h3o) (by decide))
            · rw [mem_addS, full, hS3]
              constructor
              · rintro ((y | y) | y)
                · exact .inl y
                · exact .inr (.inl y)
                · exact .inr (.inr ⟨y.symm, hh⟩)
              · rintro (y | y | y)
                · exact .inl (.inl y)
                · exact .inl (.inr y)
                · exact .inr y.1.symm
          · refine ⟨_, _, rfl, b13, kv3, S3, hl13, hD3, fun es => ?_⟩
            rw [full, hS3]
            constructor
            · rintro (y | y)
              · exact .inl y
              · exact .inr (.inl y)
            · rintro (y | y | y)
              · exact .inl y
              · exact .inr y
              · exact absurd y.2 hh
        · rintro σ H12 ⟨z10, z11, rfl, b12, kv3, S3, hl12, hD3, hS3⟩
          refine ⟨_, _, _, _, rfl, b11.trans b12, kv3, S3, hl12, hD3, fun es => ?_⟩
          rw [hS3, take_snoc hq0, stepL_snoc, hS2, List.take_of_length_le (l := nxs q0 r) (by rw [← hxs.len]; exact Nat.le_refl _)]
      · rintro σ H9 ⟨z8, z9, z10, z11, rfl, b9, kv2, S2, hl9, hD2, hS2⟩
        refine ⟨b9 _ _ ndl hdL, ?_⟩
        have s10 : Same H8 (upd H9 dd (.dT kvs)) := back_same nl hdd (by rw [eL]; exact b9)
        have hl10 : (upd H9 dd (.dT kvs)) l = some (.dT kv2) := by rw [upd_ne (Ne.symm ndl)]; exact hl9
        generalize upd H9 dd (.dT kvs) = H10 at s10 hl10 ⊢
        refine ⟨_, rfl, .inl ⟨rfl, _, .of (s10 _ _ hfa)⟩, _, rfl, fa, _, _, rfl, rfl, s10 _ _ hfa, line_lt (by simp; omega), ?_⟩
        refine ⟨_, _, _, _, _, _, _, rfl, fun b o e => ?_, (hc8.same s10).snoc (s10 _ _ hfa) ⟨kv2, S2, hl10, hD2, fun es => ?_⟩⟩
        · have z1 := s10 _ _ (s8 _ _ (s7 _ _ e))
          rw [upd_ne (ne_of_none e nf)]
          exact z1
        · rw [hS2, List.take_of_length_le (by rw [hD.len]; exact Nat.le_refl _)]
          show _ ↔ es ∈ stepL fs i (rch fs (firstS fs n) rs i) (rowAt rs i)
          rw [er]
          exact stepL_congr hS es
    · rintro σ H7 ⟨y5, y6, y7, y8, y9, y10, y11, rfl, s7, hc⟩
      refine ⟨_, rfl, q fa H7 (sA.trans s7) ?_⟩
      rw [← hws.len]
      exact hc
end
end K70

set_option maxRecDepth 100000
set_option maxHeartbeats 4000000
/-! fewest_from: the least numbers of rows done from sheets on -/
namespace K70
open PySem PySem.Spec PyProof.Rows L2
/-! ### the least of some -/
theorem fold_omin : ∀ l : List (Option Nat), (l.foldr omin none = none → ∀ x ∈ l, x = none) ∧ ∀ k, l.foldr omin none = some k → some k ∈ l ∧ ∀ j, some j ∈ l → k ≤ j
  | [] => ⟨fun _ x h => (nomatch h), fun k h => (nomatch h)⟩
  | none :: l => by
    obtain ⟨h1, h2⟩ := fold_omin l
    refine ⟨fun h x hx => ?_, fun k h => ?_⟩
    · rcases List.mem_cons.mp hx with e | hx
      · exact e
      · exact h1 h x hx
    · obtain ⟨a, b⟩ := h2 k h
      refine ⟨List.mem_cons_of_mem _ a, fun j hj => ?_⟩
      rcases List.mem_cons.mp hj with e | hj
      · cases e
      · exact b j hj
  | some a :: l => by
    obtain ⟨h1, h2⟩ := fold_omin l
    have ef : (some a :: l).foldr omin none = omin (some a) (l.foldr omin none) := rfl
    rw [ef]
    cases e : l.foldr omin none with
    | none =>
      refine ⟨fun h => (nomatch h), fun k h => ?_⟩
      cases h
      refine ⟨List.mem_cons_self, fun j hj => ?_⟩
      rcases List.mem_cons.mp hj with z | hj
      · cases z
        exact Nat.le_refl _
      · cases h1 e _ hj
    | some b =>
      obtain ⟨m1, m2⟩ := h2 b e
      refine ⟨fun h => (nomatch h), fun k h => ?_⟩
      have h : some (if b < a then b else a) = some k := h
      have h := Option.some.inj h
      by_cases lt : b < a
      · rw [if_pos lt] at h
        subst h
        refine ⟨List.mem_cons_of_mem _ m1, fun j hj => ?_⟩
        rcases List.mem_cons.mp hj with z | hj
        · cases z
          omega
        · exact m2 j hj
      · rw [if_neg lt] at h
        subst h
        refine ⟨List.mem_cons_self, fun j hj => ?_⟩
        rcases List.mem_cons.mp hj with z | hj
        · cases z
          exact Nat.le_refl _
        · have := m2 j hj
          omega
/-- what is told of sheets, if they are among W -/
def wv (W : List (List Int)) (f : List Int → Option Nat) (es : List Int) : Option Nat := if es ∈ W then f es else none
/-- the numbers of those that are told of -/
def cands (g : List Int → Option Nat) (l : List (Bool × List Int)) : List Nat := l.filterMap fun x => (g x.2).map (x.1.toNat + ·)
theorem cands_snoc {g : List Int → Option Nat} {l : List (Bool × List Int)} {x : Bool × List Int} : cands g (l ++ [x]) = cands g l ++ ((g x.2).map (x.1.toNat + ·)).toList := by
  unfold cands
  rw [List.filterMap_append]
  cases e : g x.2 <;> simp [e]
theorem cands_len (g : List Int → Option Nat) (l : List (Bool × List Int)) : (cands g l).length ≤ l.length := List.length_filterMap_le _ _
theorem mem_cands {g : List Int → Option Nat} {l : List (Bool × List Int)} {k : Nat} : k ∈ cands g l ↔ some k ∈ l.map fun x => (g x.2).map (x.1.toNat + ·) := by
  unfold cands
  rw [List.mem_filterMap, List.mem_map] <;> rfl
/-- the least numbers from a moment on -/
def lfAt (fs : List Fnd) (rs : List Row) (m : Nat) : List Int → Option Nat := lf fs (rs.drop m) m
theorem lf_cands {fs : List Fnd} {S0 : List (List Int)} {rs : List Row} {m : Nat} {es : List Int} (he : es ∈ rch fs S0 rs m) (hm : m < rs.length) :
    lfAt fs rs m es = ((nxs es (rowAt rs m)).map fun x => (wv (rch fs S0 rs (m + 1)) (lfAt fs rs (m + 1)) x.2).map (x.1.toNat + ·)).foldr omin none := by
  have ed : rs.drop m = rowAt rs m :: rs.drop (m + 1) := by
    rw [List.drop_eq_getElem_cons hm]
    have : rowAt rs m = rs[m] := by
      have z := rowAt_get hm
      rw [List.getElem?_eq_getElem hm] at z
      exact (Option.some.inj z).symm
    rw [this]
  have one : ∀ b ∈ opts (rowAt rs m), (wv (rch fs S0 rs (m + 1)) (lfAt fs rs (m + 1)) (mv b es (rowAt rs m))).map (b.toNat + ·) =
      if heeds fs (m + 1) (mv b es (rowAt rs m)) = true then (lf fs (rs.drop (m + 1)) (m + 1) (mv b es (rowAt rs m))).map (b.toNat + ·) else none := fun b hb => by
    unfold wv
    by_cases h : heeds fs (m + 1) (mv b es (rowAt rs m)) = true
    · rw [if_pos (mem_rch.mpr ⟨es, he, b, hb, rfl, h⟩), if_pos h] <;> rfl
    · rw [if_neg h, if_neg] <;> first | rfl | skip
      intro z
      obtain ⟨_, _, _, _, _, z⟩ := mem_rch.mp z
      exact h z
  unfold lfAt
  rw [ed]
  unfold lf nxs
  rw [List.map_map]
  rcases opts_cases (rowAt rs m) with ⟨_, e⟩ | ⟨_, e⟩
  · have h1 := one true (by rw [e]; simp)
    rw [e]
    show omin _ none = omin _ none
    rw [← h1] <;> rfl
  · have h1 := one true (by rw [e]; simp)
    have h0 := one false (by rw [e]; simp)
    rw [e]
    show omin _ (omin _ none) = omin _ (omin _ none)
    rw [← h1, ← h0] <;> rfl
theorem lf_none {fs : List Fnd} {S0 : List (List Int)} {rs : List Row} {m : Nat} {es : List Int} (he : es ∈ rch fs S0 rs m) (hm : m < rs.length)
    (h : cands (wv (rch fs S0 rs (m + 1)) (lfAt fs rs (m + 1))) (nxs es (rowAt rs m)) = []) : lfAt fs rs m es = none := by
  rw [lf_cands he hm]
  obtain ⟨_, h2⟩ := fold_omin ((nxs es (rowAt rs m)).map fun x => (wv (rch fs S0 rs (m + 1)) (lfAt fs rs (m + 1)) x.2).map (x.1.toNat + ·))
  cases e : List.foldr omin none ((nxs es (rowAt rs m)).map fun x => (wv (rch fs S0 rs (m + 1)) (lfAt fs rs (m + 1)) x.2).map (x.1.toNat + ·)) with
  | none => rfl
  | some k =>
    have z := mem_cands.mpr (h2 k e).1
    rw [h] at z
    cases z
theorem lf_some {fs : List Fnd} {S0 : List (List Int)} {rs : List Row} {m k : Nat} {es : List Int} (he : es ∈ rch fs S0 rs m) (hm : m < rs.length)
    (hk : k ∈ cands (wv (rch fs S0 rs (m + 1)) (lfAt fs rs (m + 1))) (nxs es (rowAt rs m))) (hl : ∀ j ∈ cands (wv (rch fs S0 rs (m + 1)) (lfAt fs rs (m + 1))) (nxs es (rowAt rs m)), k ≤ j) : lfAt fs rs m es = some k := by
  rw [lf_cands he hm]
  obtain ⟨h1, h2⟩ := fold_omin ((nxs es (rowAt rs m)).map fun x => (wv (rch fs S0 rs (m + 1)) (lfAt fs rs (m + 1)) x.2).map (x.1.toNat + ·))
  cases e : List.foldr omin none ((nxs es (rowAt rs m)).map fun x => (wv (rch fs S0 rs (m + 1)) (lfAt fs rs (m + 1)) x.2).map (x.1.toNat + ·)) with
  | none => cases h1 e _ (mem_cands.mp hk)
  | some j =>
    obtain ⟨a, b⟩ := h2 j e
    have c1 := hl j (mem_cands.mpr a)
    have c2 := b k (mem_cands.mp hk)
    rw [Nat.le_antisymm c2 c1]
/-! ### what stands -/
def vN (o : Option Nat) : Option V := o.map fun k => V.int (k : Nat)
/-- a dict that holds of the sheets in T what is told of them -/
def Lfs (kvs : List (List Key × V)) (T : List (List Int)) (f : List Int → Option Nat) : Prop := ∀ es, valV kvs (ik es) = vN (wv T f es)
def LfD (H : Hp) (d : Addr) (T : List (List Int)) (f : List Int → Option Nat) : Prop := ∃ kvs, H d = some (.dT kvs) ∧ Lfs kvs T f
theorem LfD.same {H H' : Hp} {d : Addr} {T : List (List Int)} {f : List Int → Option Nat} (x : LfD H d T f) (s : Same H H') : LfD H' d T f := by
  obtain ⟨kvs, h, q⟩ := x
  exact ⟨kvs, s _ _ h, q⟩
theorem Lfs.nil (f : List Int → Option Nat) : Lfs [] [] f := fun es => by
  unfold wv
  rw [if_neg (by simp)] <;> rfl
theorem Lfs.congr {kvs : List (List Key × V)} {T T' : List (List Int)} {f : List Int → Option Nat} (x : Lfs kvs T f) (h : ∀ es, es ∈ T ↔ es ∈ T') : Lfs kvs T' f := fun es => by
  rw [x es]
  unfold wv
  by_cases z : es ∈ T
  · rw [if_pos z, if_pos ((h es).mp z)]
  · rw [if_neg z, if_neg fun y => z ((h es).mpr y)]
theorem Lfs.put {kvs : List (List Key × V)} {T : List (List Int)} {f : List Int → Option Nat} (x : Lfs kvs T f) {es : List Int} {k : Nat} (h : f es = some k) : Lfs (putK kvs (ik es) (.int (k : Nat))) (T ++ [es]) f := fun q => by
  rw [valV_put]
  by_cases e : q = es
  · subst e
    unfold wv
    rw [if_pos rfl, if_pos (by simp), h] <;> rfl
  · rw [if_neg fun z => e (ik_inj z), x q]
    unfold wv
    by_cases z : q ∈ T
    · rw [if_pos z, if_pos (List.mem_append.mpr (.inl z))]
    · rw [if_neg z, if_neg]
      rw [List.mem_append, List.mem_singleton]
      rintro (y | y)
      · exact z y
      · exact e y
theorem Lfs.skip {kvs : List (List Key × V)} {T : List (List Int)} {f : List Int → Option Nat} (x : Lfs kvs T f) {es : List Int} (h : f es = none) : Lfs kvs (T ++ [es]) f := fun q => by
  rw [x q]
  unfold wv
  by_cases z : q ∈ T
  · rw [if_pos z, if_pos (List.mem_append.mpr (.inl z))]
  · rw [if_neg z]
    by_cases e : q = es
    · subst e
      rw [if_pos (by simp), h]
    · rw [if_neg]
      rw [List.mem_append, List.mem_singleton]
      rintro (y | y)
      · exact z y
      · exact e y
/-- at p the list of such, from the moment k on -/
def FromAt (H : Hp) (p : Addr) (fs : List Fnd) (S0 : List (List Int)) (rs : List Row) (k : Nat) : Prop := ∃ ds : List Addr, ds.length + k = rs.length + 1 ∧ H p = some (.lst (ds.map V.ref)) ∧ ∀ j d, ds[j]? = some d → LfD H d (rch fs S0 rs (k + j)) (lfAt fs rs (k + j))
theorem FromAt.same {H H' : Hp} {p : Addr} {fs : List Fnd} {S0 : List (List Int)} {rs : List Row} {k : Nat} (x : FromAt H p fs S0 rs k) (s : Same H H') : FromAt H' p fs S0 rs k := by
  obtain ⟨ds, h1, h2, h3⟩ := x
  exact ⟨ds, h1, s _ _ h2, fun m d e => (h3 m d e).same s⟩
theorem FromAt.get {H : Hp} {p : Addr} {fs : List Fnd} {S0 : List (List Int)} {rs : List Row} {k j : Nat} (x : FromAt H p fs S0 rs k) (hj : k + j ≤ rs.length) : ∃ us d, H p = some (.lst us) ∧ us[j]? = some (V.ref d) ∧ LfD H d (rch fs S0 rs (k + j)) (lfAt fs rs (k + j)) := by
  obtain ⟨ds, h1, h2, h3⟩ := x
  have hk : j < ds.length := by omega
  exact ⟨_, ds[j], h2, map_ref_get (List.getElem?_eq_getElem hk), h3 j _ (List.getElem?_eq_getElem hk)⟩
theorem FromAt.cons {H : Hp} {p d : Addr} {us : List V} {fs : List Fnd} {S0 : List (List Int)} {rs : List Row} {k : Nat} (x : FromAt H p fs S0 rs (k + 1)) (h : H p = some (.lst us)) (hd : LfD H d (rch fs S0 rs k) (lfAt fs rs k)) : FromAt (upd H p (.lst ([V.ref d] ++ us))) p fs S0 rs k := by
  obtain ⟨ds, h1, h2, h3⟩ := x
  rw [h] at h2
  cases h2
  have keep : ∀ {c T f}, LfD H c T f → LfD (upd H p (.lst ([V.ref d] ++ ds.map V.ref))) c T f := fun {c T f} z => by
    obtain ⟨kvs, z1, z2⟩ := z
    refine ⟨kvs, ?_, z2⟩
    rw [upd_ne (ne_of z1 h fun y => nomatch y)]
    exact z1
  refine ⟨d :: ds, by simp; omega, by rw [upd_same] <;> rfl, fun m b e => ?_⟩
  cases m with
  | zero =>
    cases e
    exact keep hd
  | succ m =>
    have := h3 m b (by simpa using e)
    rw [show k + (m + 1) = k + 1 + m by omega]
    exact keep this
/-- a dict that was there is read though one is locked and one is new -/
theorem rd_lock {H8 HL : Hp} {l d c : Addr} {o : HO} {od : Obj} {u v : HO} (nl : H8 l = none) (hd : H8 d = some u) (e : upd (upd H8 l o) d (.frz od u) = HL) (h : H8 c = some v) : Rd HL c v := by
  subst e
  by_cases hc : c = d
  · subst hc
    rw [hd] at h
    cases h
    exact .inr ⟨od, upd_same⟩
  · refine .inl ?_
    rw [upd_ne hc, upd_ne (ne_of_none h nl)]
    exact h
theorem Rd.but {a c : Addr} {H H' : Hp} {u : HO} (b : But a H H') (hc : c ≠ a) (h : Rd H c u) : Rd H' c u := by
  rcases h with h | ⟨o, h⟩
  · exact .inl (b _ _ hc h)
  · exact .inr ⟨o, b _ _ hc h⟩
theorem walk_kt {d : Addr} {o : Obj} {kvs : List (List Key × V)} : Walk (Itkt d o kvs) kvs.length (fun H => H d = some (.frz o (.dT kvs)))
    (fun i H x H' => H' = H ∧ ∃ k v q, kvs[i]? = some (k, v) ∧ x = .ref q ∧ H q = some (.tup (k.map kV))) :=
  ⟨fun _ _ hi q => ⟨q, hi⟩, fun _ q => ⟨q, Nat.le_refl _⟩, fun _ _ _ _ _ _ y => y⟩
/-- the turns of a walk, for the comprehension of a dict -/
theorem dc_it {J : It} {n : Nat} {G : Hp → Prop} {Y : Nat → Hp → V → Hp → Prop} (w : Walk J n G Y) {g : TG} {tt : TT} {tk tv : TE} {vs : List Nat} {σ : L2.St} {H0 : Hp} {D : Addr} {Qd : Hp → Prop} (Pv : Nat → Hp → Prop) (h0 : Pv 0 H0)
    (hG : ∀ i H, i ≤ n → Pv i H → G H) (hs : ∀ i x H H', i < n → Pv i H → Y i H x H' → DcTurn g tt tk tv vs σ D x H' (Pv (i + 1))) (hd : ∀ H, Pv n H → Qd H) : ∃ W : Nat → Nat → Hp → Prop, (∃ m, W 0 m H0) ∧ DcW J g tt tk tv vs σ D Qd W := by
  refine ⟨fun i m H => m + i = n ∧ Pv i H, ⟨n, Nat.add_zero _, h0⟩, fun i m H hw => ?_⟩
  obtain ⟨e, p⟩ := hw
  have q := hG i H (by omega) p
  rcases Nat.lt_or_ge i n with lt | ge
  · exact .inr ⟨w.goes i H lt q, Pv (i + 1), fun H' p' => ⟨n - (i + 1), by omega, by omega, p'⟩, fun x H' y => hs i x H H' lt p (w.yields i H x H' lt q y)⟩
  · have en : i = n := by omega
    subst en
    exact .inl ⟨w.stops H q, hd H p⟩
section
variable {P : Program} {w : World} {K : PySem.W.Frag} {mg : Str → Option Value} {base : Heap}
def rIntB : List V → Hp → VK → Prop := fun xs H Q => (∃ i, xs = [.int i] ∧ Q (.int i) H) ∨ ∃ k, xs = [.bl k] ∧ Q (.int (if k then 1 else 0)) H
def spFrom (C : Addr) : Sp := fun vs H Q _ => ∃ (u v : V) (n : Nat) (rs : List Row) (fs : List Fnd), vs = [u, v] ∧ LogV C H u n rs ∧ FndsV H v fs ∧ (∀ f ∈ fs, FndOk n rs.length f) ∧ (∀ r ∈ rs, RowOk n r) ∧ n ≤ 8 ∧ rs.length ≤ 60 ∧ fs.length ≤ 40 ∧
  ∀ p H', Same H H' → FromAt H' p fs (firstS fs n) rs 0 → Q (.ref p) H'
theorem ok_from {C f0 : Addr} (D : Stn K mg "fewest_from" sFewestFrom ["log", "finds"]) (L : LogC K mg C f0) (M : Mg mg) (G1 : Ok P w K mg base 3 "ways_to" (spWays C)) (G2 : Ok P w K mg base 2 "nexts" spNexts) : Ok P w K mg base 4 "fewest_from" (spFrom C) := by
  refine ok_of D scFewestFrom (fun vs H Q E h => ?_) (fun f cdv A outer s H vs Q E hr h => ?_)
  · obtain ⟨u, v, n, rs, fs, rfl, _⟩ := h
    rfl
  · obtain ⟨u, v, n, rs, fs, rfl, hu, hv, ho, hro, hn8, h60, h40, q⟩ := h
    obtain ⟨x, dx, qv, rfl, hx, hrs⟩ := id hu
    obtain ⟨pr, ws, rfl, hpr, hws⟩ := id hrs
    refine ⟨_, pss_cons (ps_set (i := 2) scFewestFrom.nd rfl (.inl rfl) (pe_f G1 hr (pa_cons (pv 0) (pa_cons (pv 1) pa_nil))))
      (pss_cons (ps_set (i := 4) scFewestFrom.nd rfl (.inr rfl) (pe_lst (pa_cons (pe_lock
        (pe_dcT (own := [("editions", 3)]) (g := gName 3) (tt := tYes) hr.units0 rfl scFewestFrom.nd (pi_keys (pe_ix ix_list (pv 2) (pe_un un_neg pe_int) (fun _ _ => rfl))) (blkOk_by (N := nFewestFrom) (sc := defScope sFewestFrom) (by decide +kernel))
          (fun _ _ _ _ _ => pg_name (i := 3) scFewestFrom.nd rfl (.inl rfl)) (fun _ _ _ _ _ => pts_nil) (fun _ _ _ _ _ => pv 3) (fun _ _ _ _ _ => pe_int))) pa_nil)))
      (pss_cons (ps_for PassesOwn.never rfl (pi_range3 (by rfl) M.range (pa_cons (pe_op op_sub (pe_callB call_len_seq (by rfl) M.len PySem.boot_len (pa_cons (pe_fld (pv 0) rfl) pa_nil)) pe_int) (pa_cons (pe_un un_neg pe_int) (pa_cons (pe_un un_neg pe_int) pa_nil))))
          (pg_name (i := 5) scFewestFrom.nd rfl (.inl rfl))
        (pss_cons (ps_set (i := 6) scFewestFrom.nd rfl (.inl rfl) pe_dnewT)
        (pss_cons (ps_lock (ps_for PassesOwn.never rfl (pi_keys (pe_ix ix_list (pv 2) (pv 5) (fun _ _ => rfl))) (pg_name (i := 3) scFewestFrom.nd rfl (.inl rfl))
          (pss_cons (ps_setLc (i := 7) (own := [("flag", 8), ("more", 9)]) (g := gTup K 2 (gCons (gName 8) (gCons (gName 9) gNil))) (tt := tB (tDIn (tVar 9) (tOp (rIxL K) (tVar 4) (tC (.int 0))))) (te := tOp (rI0 fun i j => .int (i + j)) (tCB rIntB (tCons (tVar 8) tNil)) (tDGet (tOp (rIxL K) (tVar 4) (tC (.int 0))) (tVar 9))) rfl scFewestFrom.nd rfl rfl (sw_true rfl rfl rfl (by decide +kernel))
              (pi_list (pe_f G2 hr (pa_cons (pv 3) (pa_cons (pe_ix ix_tup (pe_fld (pv 0) rfl) (pv 5) (fun _ _ => rfl)) pa_nil)))) (blkOk_by (N := nFewestFrom) (sc := defScope sFewestFrom) (by decide +kernel))
              (fun _ _ _ _ _ => pg_tup rfl (pgs_cons (pg_name (i := 8) scFewestFrom.nd rfl (.inl rfl)) (pgs_cons (pg_name (i := 9) scFewestFrom.nd rfl (.inl rfl)) pgs_nil))) (fun _ _ _ _ _ => pts_one (pt_cmp (pc_din (hu_of hr) (pv 9) (pe_ix ix_list (pv 4) pe_int (fun _ _ => rfl)))))
              (fun _ _ _ _ _ => pe_op op_add (pe_callTy (r := rIntB) call_int1 (by rfl) M.int bi_int (pa_cons (pv 8) pa_nil)) (pe_dget (hu_of hr) (pe_ix ix_list (pv 4) pe_int (fun _ _ => rfl)) (pv 9) (fun _ _ => rfl))))
          (pss_one (ps_if (pt_cmpR op_gt (pe_callB call_len_seq (by rfl) M.len PySem.boot_len (pa_cons (pv 7) pa_nil)) pe_int (nomark _))
            (pss_one (ps_dput (hu_of hr) (pv 6) (pv 3) (pe_callB (cr_min rfl) (by rfl) M.min bi_min (pa_cons (pv 7) pa_nil)) rfl)) pss_nil)))))
        (pss_one (ps_expr (pe_bm PySem.F.plainAttrs_list PySem.F.slot_list_insert PySem.F.type_list_insert mt_insert (pv 4) (pa_cons pe_int (pa_cons (pv 6) pa_nil))))))))
      (pss_one (ps_ret (pv 4))))), ?_⟩
    refine ⟨_, rfl, _, rfl, .ref x, v, n, rs, fs, rfl, hu, hv, ho, hro, hn8, h60, h40, fun cm H1 s1 hc => ?_⟩
    obtain ⟨us, dd, hcm, hul, kvs, S, hdd, hD, hS⟩ := hc.last
    have hSo : ∀ es ∈ S, Shs n es := fun es h => rch_ok (firstS_ok fs n) hro _ (Nat.le_refl _) es ((hS es).mp h)
    refine ⟨dd, .dT kvs, hdd, True.intro, fun od => ⟨_, rfl, _, rfl, cm, _, -1, _, rfl, rfl, .of (lock_lst hdd hcm), atI_last _ _, dd, od, rfl, .inr ⟨kvs, upd_same, fun D nD =>
      dc_it walk_kt (fun i H2 => Same (upd H1 dd (.frz od (.dT kvs))) H2 ∧ ∃ kv, H2 D = some (.dT kv) ∧ kv.length ≤ i ∧ Lfs kv (S.take i) (fun _ => some 0)) ⟨same_new nD, [], upd_same, Nat.le_refl _, .nil _⟩ (fun i H2 _ ⟨s2, _⟩ => s2 _ _ upd_same) ?_ ?_⟩⟩⟩
    · rintro i x0 H2 _ hi ⟨s2, kv, hDv, hl, hf⟩ ⟨rfl, k, v0, b, hk, rfl, hb⟩
      obtain ⟨es, c, hes, rfl, rfl⟩ := hD.at hk
      have hle : kvs.length ≤ 6435 := by rw [hD.len]; exact few hn8 hD.nd hSo
      refine ⟨rfl, _, rfl, kv, ik es, b, rfl, hb, hDv, line_lt (by omega), fun c o e => ?_, _, upd_same, Nat.le_trans (length_putK _ _ _) (by omega), ?_⟩
      · rw [upd_ne (ne_of_none e nD)]
        exact s2 _ _ e
      · rw [take_snoc hes]
        exact hf.put (k := 0) rfl
    rintro H2 ⟨s2, kv, hDv, _, hf⟩
    refine ⟨s2 _ _ upd_same, (by show 1 ≤ sizeLine; decide), fun fa nf => ?_⟩
    have s3 : Same H1 (upd H2 dd (.dT kvs)) := unlock_same s2 hdd
    have nDd : D ≠ dd := fun e => by rw [e, upd_same] at nD; cases nD
    have s4 : Same (upd H2 dd (.dT kvs)) (upd (upd H2 dd (.dT kvs)) fa (.lst [.ref D])) := same_new nf
    have hD0 : (upd H2 dd (.dT kvs)) D = some (.dT kv) := by rw [upd_ne nDd]; exact hDv
    have hfr0 : FromAt (upd (upd H2 dd (.dT kvs)) fa (.lst [.ref D])) fa fs (firstS fs n) rs rs.length := by
      refine ⟨[D], by simp; omega, upd_same, fun j d e => ?_⟩
      cases j with
      | succ j => simp at e
      | zero =>
        cases e
        refine ⟨kv, s4 _ _ hD0, ?_⟩
        have e1 : lfAt fs rs (rs.length + 0) = fun _ => some 0 := by
          funext es
          unfold lfAt
          rw [Nat.add_zero, List.drop_length] <;> rfl
        rw [e1]
        rw [List.take_of_length_le (by rw [hD.len]; exact Nat.le_refl _)] at hf
        exact hf.congr hS
    generalize upd (upd H2 dd (.dT kvs)) fa (.lst [.ref D]) = H4 at s4 hfr0 ⊢
    have sA := (s1.trans s3).trans s4
    have nfH : H fa = none := (s1.trans s3).free nf
    have nf1 : H1 fa = none := s3.free nf
    have sB := s3.trans s4
    clear s4 hD0 hDv hf nDd nD s2 hS hD hdd hcm
    have en : ((ws.length : Int) - 1 - -1).toNat = rs.length := by rw [hws.len]; omega
    refine ⟨_, rfl, x, C, dx, _, _, rfl, sA _ _ hx, L.cl, L.nR, rfl, pr, ws, rfl, .inr (.of (sA _ _ hpr)), _, _, rfl, rfl, 1, rfl, 1, rfl, _, _, _, _, rfl, RgC.neg (by omega) (by rw [hws.len]; omega) (by omega) (by omega), ?_⟩
    rw [en]
    refine for_rangeC (fun i σ H5 => ∃ y3 y5 y6 y7 y8 y9, σ = [some (.ref x), some v, some (.ref cm), y3, some (.ref fa), y5, y6, y7, y8, y9] ∧ Same H1 H5 ∧ ∃ k, k + i = rs.length ∧ FromAt H5 fa fs (firstS fs n) rs k)
      ⟨none, none, none, none, none, none, rfl, sB, _, rfl, hfr0⟩ ?_ ?_
    · rintro i σ H5 hi ⟨y3, y5, y6, y7, y8, y9, rfl, s5, k, ek, hfr⟩
      obtain ⟨m, rfl⟩ : ∃ m, k = m + 1 := ⟨k - 1, by omega⟩
      have hm : m < rs.length := by omega
      have em : (ws.length : Int) - 1 + (i : Nat) * -1 = (m : Nat) := by rw [hws.len]; omega
      rw [em]
      obtain ⟨us2, dd2, hcm, hgm, kvs, S, hdd, hD, hS⟩ := (hc.same s5).get (m := m) (by omega)
      obtain ⟨us3, f1, hfa, hf1, kvf, hff, hfl⟩ := hfr.get (j := 0) (by omega)
      rw [Nat.add_zero] at hfl
      have hSo : ∀ es ∈ S, Shs n es := fun es h => rch_ok (firstS_ok fs n) hro m (by omega) es ((hS es).mp h)
      have hle : kvs.length ≤ 6435 := by rw [hD.len]; exact few hn8 hD.nd hSo
      have ro := rowAt_ok hro hm
      obtain ⟨u0, hu0, hr0⟩ := hws.get (rowAt_get hm)
      refine fun l nl => ?_
      have ndl : dd2 ≠ l := ne_of_none hdd nl
      have hdd9 : (upd H5 l (.dT [])) dd2 = some (.dT kvs) := by rw [upd_ne ndl]; exact hdd
      refine ⟨dd2, .dT kvs, hdd9, True.intro, fun od2 => ?_⟩
      have hl0 : (upd (upd H5 l (.dT [])) dd2 (.frz od2 (.dT kvs))) l = some (.dT []) := by rw [upd_ne (Ne.symm ndl), upd_same]
      have kp : ∀ b o, H5 b = some o → b ≠ dd2 → (upd (upd H5 l (.dT [])) dd2 (.frz od2 (.dT kvs))) b = some o := fun b o e z => by
        rw [upd_ne z, upd_ne (ne_of_none e nl)]
        exact e
      have hx0 := kp _ _ (s5 _ _ (s1 _ _ hx)) (ne_of (s5 _ _ (s1 _ _ hx)) hdd fun z => nomatch z)
      have hp0 := kp _ _ (s5 _ _ (s1 _ _ hpr)) (ne_of (s5 _ _ (s1 _ _ hpr)) hdd fun z => nomatch z)
      have hc0 := kp _ _ hcm (ne_of hcm hdd fun z => nomatch z)
      have hf0 := kp _ _ hfa (ne_of hfa hdd fun z => nomatch z)
      have f1l : f1 ≠ l := ne_of_none hff nl
      have hrl : RowV (upd (upd H5 l (.dT [])) dd2 (.frz od2 (.dT kvs))) u0 (rowAt rs m) := im_row.tk (((tk_same (s1.trans s5)).trans (tk_new nl)).trans (tk_dT hdd9)) hr0
      generalize eL : upd (upd H5 l (.dT [])) dd2 (.frz od2 (.dT kvs)) = HL at hl0 hx0 hp0 hc0 hf0 hrl ⊢
      have hdL : HL dd2 = some (.frz od2 (.dT kvs)) := by rw [← eL, upd_same]
      have hrd : Rd HL f1 (.dT kvf) := rd_lock nl hdd eL hff
      refine ⟨_, rfl, _, rfl, cm, _, (m : Nat), _, rfl, rfl, .of hc0, atI_nat hgm, dd2, od2, rfl, .inr ⟨kvs, hdL,
        for_it walk_kt (fun j σ H9 => ∃ z3 z7 z8 z9, σ = [some (.ref x), some v, some (.ref cm), z3, some (.ref fa), some (.int (m : Nat)), some (.ref l), z7, z8, z9] ∧ But l HL H9 ∧
          ∃ kv2, H9 l = some (.dT kv2) ∧ kv2.length ≤ j ∧ Lfs kv2 (S.take j) (lfAt fs rs m))
          ⟨_, _, _, _, rfl, But.refl _ _, [], hl0, Nat.le_refl _, .nil _⟩ (fun j σ H9 _ ⟨_, _, _, _, _, b9, _⟩ => b9 _ _ ndl hdL) ?_ ?_⟩⟩
      · rintro j x1 σ H9 _ hj ⟨z3, z7, z8, z9, rfl, b9, kv2, hl9, hlen, hf2⟩ ⟨rfl, k, v2, b, hk, rfl, hb⟩
        obtain ⟨es, c, hes, rfl, rfl⟩ := hD.at hk
        rw [ik_map] at hb
        have qo := hSo es (List.mem_of_getElem? hes)
        have her := (hS es).mp (List.mem_of_getElem? hes)
        have xl : x ≠ l := ne_of hx0 hl0 fun z => nomatch z
        have pl : pr ≠ l := ne_of hp0 hl0 fun z => nomatch z
        have fal : fa ≠ l := ne_of hf0 hl0 fun z => nomatch z
        refine ⟨_, rfl, _, rfl, x, C, dx, _, _, rfl, b9 _ _ xl hx0, L.cl, L.nR, rfl, _, rfl, pr, _, (m : Nat), _, rfl, rfl, .of (b9 _ _ pl hp0), atI_nat hu0, _, _, n, es, rowAt rs m, rfl, ⟨b, rfl, hb⟩, im_row.tk (b9.tkD hl0) hrl, qo, by omega, ro, fun p H10 s10 np hp => ?_⟩
        obtain ⟨xs, hpx, hxs⟩ := hp
        have b10 : But l HL H10 := b9.trans (But.same s10)
        refine ⟨p, rfl, ⟨xs, .of hpx⟩, fun D2 nD2 => ?_⟩
        generalize eg : wv (rch fs (firstS fs n) rs (m + 1)) (lfAt fs rs (m + 1)) = g at *
        have xs2 : xs.length ≤ 2 := by
          rw [hxs.len]
          unfold nxs
          rw [List.length_map]
          rcases opts_cases (rowAt rs m) with ⟨_, e⟩ | ⟨_, e⟩ <;> rw [e] <;> decide
        refine lc_list (K := K) (a := p) (xs := xs) (fun k H11 => Same H10 H11 ∧ H11 D2 = some (.lst (((cands g ((nxs es (rowAt rs m)).take k)).map fun q : Nat => (q : Int)).map V.int))) ⟨same_new nD2, upd_same⟩ (fun k H11 _ ⟨s11, _⟩ => .of (s11 _ _ hpx)) ?_ ?_
        · rintro k xk H11 hxk ⟨s11, hD2⟩
          obtain ⟨⟨fl, more⟩, hk1, hk2⟩ := hxs.back hxk
          obtain ⟨a3, u3, rfl, ha3, b3, rfl, hb3⟩ := im_fs.tk (tk_same s11) hk2
          have b11 : But l HL H11 := b10.trans (But.same s11)
          have hg3 : DGet H11 f1 (.ref b3) (vN (g more)) := .inr ⟨kvf, ik more, b3, Rd.but b11 f1l hrd, rfl, by rw [ik_map]; exact hb3, by rw [← eg]; exact (hfl more).symm⟩
          refine ⟨a3, _, rfl, .of ha3, rfl, _, _, rfl, _, _, rfl, rfl, rfl, ?_⟩
          refine ⟨_, rfl, _, rfl, fa, _, 0, _, rfl, rfl, .of (b11 _ _ fal hf0), atI_nat (j := 0) hf1, f1, _, rfl, hg3, _, rfl, ?_⟩
          refine ite2 (fun hh => ?_) (fun hh => ?_)
          · cases e : g more with
            | none =>
              rw [e] at hh
              cases hh
            | some q0 =>
              rw [e] at hg3
              refine ⟨_, rfl, .inr ⟨fl, rfl, _, rfl, fa, _, 0, _, rfl, rfl, .of (b11 _ _ fal hf0), atI_nat (j := 0) hf1, _, rfl, f1, _, rfl, hg3, _, _, rfl, rfl, _, hD2, ?_, fun b o e => ?_, ?_⟩⟩
              · simp only [List.length_map]
                have := cands_len g ((nxs es (rowAt rs m)).take k)
                have := List.length_take_le' k (nxs es (rowAt rs m))
                rw [← hxs.len] at this
                exact line_lt (by omega)
              · rw [upd_ne (ne_of_none e nD2)]
                exact s11 _ _ e
              · rw [upd_same, take_snoc hk1, cands_snoc, e]
                simp only [List.map_append]
                cases fl <;> simp <;> omega
          · cases e : g more with
            | some q0 =>
              rw [e] at hh
              exact absurd rfl hh
            | none =>
              refine ⟨s11, ?_⟩
              rw [hD2, take_snoc hk1, cands_snoc, e]
              simp
        · rintro H11 ⟨s11, hD2⟩
          rw [List.take_of_length_le (by rw [← hxs.len]; exact Nat.le_refl _)] at hD2
          have b11 : But l HL H11 := b10.trans (But.same s11)
          have hl11 := s11 _ _ (s10 _ _ hl9)
          refine ⟨_, rfl, D2, _, rfl, .inl (.of hD2), _, _, rfl, rfl, _, rfl, ?_⟩
          by_cases hn : cands g (nxs es (rowAt rs m)) = []
          · rw [decide_eq_false (show ¬ (0 : Int) < _ by rw [hn]; simp)]
            refine iteF ⟨_, _, _, _, rfl, b11, kv2, hl11, by omega, ?_⟩
            rw [take_snoc hes]
            exact hf2.skip (lf_none her hm (by rw [eg]; exact hn))
          · have hpos : 0 < (cands g (nxs es (rowAt rs m))).length := List.length_pos_iff.mpr hn
            rw [decide_eq_true (show (0 : Int) < _ by simp only [List.length_map]; omega)]
            refine iteT ⟨_, rfl, D2, _, rfl, .of hD2, by simp only [List.length_map]; exact hpos, fun q hq hmin => ?_⟩
            obtain ⟨q1, hq1, rfl⟩ := List.mem_map.mp hq
            refine ⟨_, rfl, _, rfl, l, _, rfl, .t (k := ik es) hl11 (by rw [ik_map]; exact s11 _ _ (s10 _ _ hb)) (line_lt (by omega)), _, _, _, _, rfl, b11.trans But.upd, _, upd_same, Nat.le_trans (length_putK _ _ _) (by omega), ?_⟩
            rw [take_snoc hes]
            refine hf2.put (lf_some her hm (by rw [eg]; exact hq1) fun j hj => ?_)
            rw [eg] at hj
            have := hmin (j : Nat) (List.mem_map.mpr ⟨j, hj, rfl⟩)
            omega
      · rintro σ H9 ⟨z3, z7, z8, z9, rfl, b9, kv2, hl9, hlen, hf2⟩
        refine ⟨b9 _ _ ndl hdL, ?_⟩
        have s10 : Same H5 (upd H9 dd2 (.dT kvs)) := back_same nl hdd (by rw [eL]; exact b9)
        have hl10 : (upd H9 dd2 (.dT kvs)) l = some (.dT kv2) := by rw [upd_ne (Ne.symm ndl)]; exact hl9
        generalize upd H9 dd2 (.dT kvs) = H10 at s10 hl10 ⊢
        have hlu : us3.length ≤ 61 := by
          obtain ⟨ds, q1, q2, _⟩ := hfr
          rw [hfa] at q2
          cases q2
          rw [List.length_map]
          omega
        refine ⟨_, rfl, .inl ⟨rfl, _, .of (s10 _ _ hfa)⟩, _, rfl, fa, us3, 0, .ref l, rfl, rfl, s10 _ _ hfa, line_lt (by omega), by decide, by decide, ?_⟩
        refine ⟨_, _, _, _, _, _, rfl, fun b o e => ?_, m, by omega, (hfr.same s10).cons (s10 _ _ hfa) ⟨kv2, hl10, ?_⟩⟩
        · have z1 := s10 _ _ (s5 _ _ e)
          rw [upd_ne (ne_of_none e nf1)]
          exact z1
        · rw [List.take_of_length_le (by rw [hD.len]; exact Nat.le_refl _)] at hf2
          exact hf2.congr hS
    · rintro σ H5 ⟨y3, y5, y6, y7, y8, y9, rfl, s5, k, ek, hfr⟩
      have : k = 0 := by omega
      subst this
      exact ⟨_, rfl, q fa H5 (s1.trans s5) hfr⟩
end
end K70

set_option maxRecDepth 100000
set_option maxHeartbeats 4000000
/-! fewest_done -/
namespace K70
open PySem PySem.Spec PyProof.Rows L2
theorem cat_bt {K : PySem.W.Frag} {Q : VK} {H : Hp} {u : V} {T : Addr} {d : List Bool} {b : Bool} (hu : BT H u d) (hT : H T = some (.tup [.bl b])) (hl : d.length ≤ 100) (q : ∀ z H', Same H H' → BT H' z (d ++ [b]) → Q z H') : rCatA K u (.ref T) H Q := by
  obtain ⟨p, rfl, hp⟩ := hu
  refine ⟨p, T, _, _, rfl, rfl, .of hp, .of hT, ?_, fun z => ?_, fun _ z => absurd z (List.cons_ne_nil _ _), fun _ _ p2 n2 => ?_⟩
  · exact line_of (by simp; omega)
  · have z' : d = [] := List.map_eq_nil_iff.mp z
    refine q _ _ (Same.refl H) ⟨T, rfl, ?_⟩
    rw [hT, z'] <;> rfl
  · refine q _ _ (same_new n2) ⟨p2, rfl, ?_⟩
    rw [upd_same, List.map_append] <;> rfl
section
variable {P : Program} {w : World} {K : PySem.W.Frag} {mg : Str → Option Value} {base : Heap}
def spDone (C : Addr) : Sp := fun vs H Q _ => ∃ (u v : V) (n : Nat) (rs : List Row) (fs : List Fnd), vs = [u, v] ∧ LogV C H u n rs ∧ FndsV H v fs ∧ (∀ f ∈ fs, FndOk n rs.length f) ∧ (∀ r ∈ rs, RowOk n r) ∧ n ≤ 8 ∧ rs.length ≤ 60 ∧ fs.length ≤ 40 ∧
  ∀ z H', Same H H' → AnsV H' z (ans fs n rs) → Q z H'
theorem ok_done {C f0 : Addr} (D : Stn K mg "fewest_done" sFewestDone ["log", "finds"]) (L : LogC K mg C f0) (M : Mg mg) (G1 : Ok P w K mg base 4 "check_finds" (spFnds C)) (G2 : Ok P w K mg base 2 "check_few" (spFew C)) (G3 : Ok P w K mg base 4 "fewest_from" (spFrom C))
    (G4 : Ok P w K mg base 1 "begun" spBegun) (G5 : Ok P w K mg base 2 "nexts" spNexts) : Ok P w K mg base 5 "fewest_done" (spDone C) := by
  refine ok_of D scFewestDone (fun vs H Q E h => ?_) (fun f cdv A outer s H vs Q E hr h => ?_)
  · obtain ⟨u, v, n, rs, fs, rfl, _⟩ := h
    rfl
  · obtain ⟨u, v, n, rs, fs, rfl, hu, hv, ho, hro, hn8, h60, h40, q⟩ := h
    obtain ⟨x, dx, qv, rfl, hx, hrs⟩ := id hu
    obtain ⟨pr, ws, rfl, hpr, hws⟩ := id hrs
    refine ⟨_, pss_cons (ps_expr (pe_f G1 hr (pa_cons (pv 0) (pa_cons (pv 1) pa_nil))))
      (pss_cons (ps_expr (pe_f G2 hr (pa_cons (pv 0) pa_nil)))
      (pss_cons (ps_set (i := 2) scFewestDone.nd rfl (.inl rfl) (pe_f G3 hr (pa_cons (pv 0) (pa_cons (pv 1) pa_nil))))
      (pss_cons (ps_set (i := 3) scFewestDone.nd rfl (.inl rfl) (pe_f G4 hr (pa_cons (pe_fld (pv 0) rfl) pa_nil)))
      (pss_cons (ps_if (pt_cmp (pc_dnotin (hu_of hr) (pv 3) (pe_ix ix_list (pv 2) pe_int (fun _ _ => rfl)))) (pss_one (ps_ret pe_non)) pss_nil)
      (pss_cons (ps_set (i := 4) scFewestDone.nd rfl (.inl rfl) (pe_tup pa_nil))
      (pss_cons (ps_for PassesOwn.never rfl (pi_enumT (by rfl) M.enu (pa_cons (pe_fld (pv 0) rfl) pa_nil)) (pg_tup rfl (pgs_cons (pg_name (i := 5) scFewestDone.nd rfl (.inl rfl)) (pgs_cons (pg_name (i := 6) scFewestDone.nd rfl (.inl rfl)) pgs_nil)))
        (pss_cons (ps_set (i := 7) scFewestDone.nd rfl (.inl rfl) (pe_dget (hu_of hr) (pe_ix ix_list (pv 2) (pv 5) (fun _ _ => rfl)) (pv 3) (fun _ _ => rfl)))
        (pss_one (ps_for PassesOwn.never rfl (pi_list (pe_f G5 hr (pa_cons (pv 3) (pa_cons (pv 6) pa_nil)))) (pg_tup rfl (pgs_cons (pg_name (i := 8) scFewestDone.nd rfl (.inl rfl)) (pgs_cons (pg_name (i := 9) scFewestDone.nd rfl (.inl rfl)) pgs_nil)))
          (pss_one (ps_if (PW.pt (pw_and (pt_cmpR op_eq (pe_callB call_len_seq (by rfl) M.len PySem.boot_len (pa_cons (pv 4) pa_nil)) (pv 5) (nomark _))
              (pw_and1 (pt_cmpR op_eq (pe_dget1 (hu_of hr) (pe_ix ix_list (pv 2) (pe_op op_add (pv 5) pe_int) (fun _ _ => rfl)) (pv 9) ⟨rfl, rfl, rfl, rfl⟩)
                (pe_op op_sub (pv 7) (pe_callTy (r := rIntB) call_int1 (by rfl) M.int bi_int (pa_cons (pv 8) pa_nil))) (nomark _)))))
            (pss_cons (ps_set (i := 4) scFewestDone.nd rfl (.inl rfl) (pe_op op_catA (pv 4) (pe_tup (pa_cons (pv 8) pa_nil))))
              (pss_one (ps_set (i := 3) scFewestDone.nd rfl (.inl rfl) (pv 9)))) pss_nil))))))
      (pss_one (ps_ret (pe_tup (pa_cons (pe_dget (hu_of hr) (pe_ix ix_list (pv 2) pe_int (fun _ _ => rfl)) (pe_f G4 hr (pa_cons (pe_fld (pv 0) rfl) pa_nil)) (fun _ _ => rfl)) (pa_cons (pv 4) pa_nil))))))))))), ?_⟩
    refine ⟨_, rfl, _, rfl, .ref x, v, n, rs, fs, rfl, hu, hv, ho, h40, fun H1 s1 => ?_⟩
    refine ⟨_, rfl, .ref x, n, rs, rfl, hu.same s1, hn8, ?_⟩
    refine ⟨_, rfl, _, rfl, .ref x, v, n, rs, fs, rfl, hu.same s1, hv.same s1, ho, hro, hn8, h60, h40, fun rw_ H2 s2 hf => ?_⟩
    have sA := s1.trans s2
    refine ⟨_, rfl, x, C, dx, _, _, rfl, sA _ _ hx, L.cl, L.nO, rfl, n, rfl, by omega, fun H3 z s3 hz => ?_⟩
    have sB := sA.trans s3
    have hf3 := hf.same s3
    obtain ⟨us, f1, hrw, hf1, kvf, hff, hfl⟩ := hf3.get (j := 0) (by omega)
    obtain ⟨bz, rfl, hbz⟩ := id hz
    have hk0 : valV kvf (ik (begun n)) = vN ((ans fs n rs).map (·.1)) := by
      rw [hfl]
      show vN (if begun n ∈ firstS fs n then lf fs (rs.drop 0) 0 (begun n) else none) = _
      unfold ans firstS
      by_cases h : heeds fs 0 (begun n) = true
      · rw [if_pos h, if_pos h, if_pos (List.mem_singleton.mpr rfl), lf_best] <;> rfl
      · rw [if_neg h, if_neg h, if_neg (by simp)]
        rfl
    refine ⟨_, rfl, _, rfl, rw_, _, 0, _, rfl, rfl, .of hrw, atI_nat (j := 0) hf1, f1, _, rfl, .t (k := ik (begun n)) hff (by rw [ik_map]; exact hbz), _, rfl, ?_⟩
    rw [hk0]
    cases ea : ans fs n rs with
    | none =>
      refine iteT ?_
      exact q _ _ sB (by rw [ea]; rfl)
    | some a =>
      obtain ⟨c0, full⟩ := a
      rw [ea] at hk0
      refine iteF ⟨Nat.zero_le _, fun T0 nT0 => ?_⟩
      have s4 : Same H3 (upd H3 T0 (.tup [])) := same_new nT0
      have hT0 : BT (upd H3 T0 (.tup [])) (.ref T0) [] := ⟨T0, rfl, upd_same⟩
      generalize upd H3 T0 (.tup []) = H4 at s4 hT0 ⊢
      have hz4 := im_it.tk (tk_same s4) hz
      have hf4 := hf3.same s4
      have hh : heeds fs 0 (begun n) = true ∧ best fs rs 0 (begun n) = some (c0, full) := by
        unfold ans at ea
        by_cases h : heeds fs 0 (begun n) = true
        · rw [if_pos h] at ea
          exact ⟨h, ea⟩
        · rw [if_neg h] at ea
          cases ea
      obtain ⟨hh0, hb0⟩ := hh
      have hlen : full.length = rs.length := best_len fs rs 0 _ _ hb0
      have hS0 : begun n ∈ firstS fs n := by
        unfold firstS
        rw [if_pos hh0]
        exact List.mem_singleton.mpr rfl
      refine ⟨_, rfl, x, C, dx, _, _, rfl, s4 _ _ (sB _ _ hx), L.cl, L.nR, rfl, pr, ws, rfl, s4 _ _ (sB _ _ hpr),
        for_it walk_en (fun i σ H5 => ∃ u dg es d c rest y5 y6 y7 y8 y9, σ = [some (.ref x), some v, some (.ref rw_), some u, some dg, y5, y6, y7, y8, y9] ∧ Same H4 H5 ∧ IT H5 u es ∧ BT H5 dg d ∧ es ∈ rch fs (firstS fs n) rs i ∧
            best fs (rs.drop i) i es = some (c, rest) ∧ d ++ rest = full ∧ d.length = i)
          ⟨_, _, begun n, [], c0, full, none, none, none, none, none, rfl, Same.refl _, hz4, hT0, hS0, hb0, rfl, rfl⟩ (fun i σ H5 _ ⟨_, _, _, _, _, _, _, _, _, _, _, _, s5, _⟩ => s5 _ _ (s4 _ _ (sB _ _ hpr))) ?_ ?_⟩
      · rintro i x0 σ H5 H6 hi ⟨u, dg, es, d, c, rest, y5, y6, y7, y8, y9, rfl, s5, hes, hdg, her, hbe, hfu, hdl⟩ ⟨T, u0, hx0, rfl, nT, rfl⟩
        obtain ⟨r, hr1, hr2⟩ := hws.back hx0
        have hi' : i < rs.length := by rw [← hws.len]; exact hi
        have er : rowAt rs i = r := Option.some.inj ((rowAt_get hi').symm.trans hr1)
        have ro := hro r (List.mem_of_getElem? hr1)
        have eso : Shs n es := rch_ok (firstS_ok fs n) hro i (by omega) es her
        refine ⟨T, _, rfl, .of upd_same, rfl, _, _, rfl, _, _, rfl, rfl, ?_⟩
        have s6 : Same H5 (upd H5 T (.tup [.int (i : Nat), u0])) := same_new nT
        generalize upd H5 T (.tup [.int (i : Nat), u0]) = H6 at s6 ⊢
        have s46 := s5.trans s6
        have hes6 := im_it.tk (tk_same s6) hes
        have hdg6 := im_bt.tk (tk_same s6) hdg
        have hu6 := im_row.tk (tk_same ((sB.trans s4).trans s46)) hr2
        obtain ⟨us2, f2, hrw2, hf2, kv2, hff2, hfl2⟩ := (hf4.same s46).get (j := i) (by omega)
        obtain ⟨us3, f3, hrw3, hf3, kv3, hff3, hfl3⟩ := (hf4.same s46).get (j := i + 1) (by omega)
        rw [Nat.zero_add] at hfl2 hfl3
        obtain ⟨bu, rfl, hbu⟩ := id hes6
        have hv2 : valV kv2 (ik es) = some (.int (c : Nat)) := by
          rw [hfl2]
          unfold wv lfAt
          rw [if_pos her, lf_best, hbe] <;> rfl
        refine ⟨_, rfl, _, rfl, rw_, _, (i : Nat), _, rfl, rfl, .of hrw2, atI_nat hf2, _, rfl, f2, _, rfl, .inr ⟨kv2, ik es, bu, .inl hff2, rfl, by rw [ik_map]; exact hbu, hv2.symm⟩, ?_⟩
        refine ⟨_, rfl, _, rfl, _, _, n, es, r, rfl, hes6, hu6, eso, by omega, ro, fun p H7 s7 np hp => ?_⟩
        obtain ⟨xs, hpx, hxs⟩ := hp
        have ed : rs.drop i = r :: rs.drop (i + 1) := by
          rw [List.drop_eq_getElem_cons hi']
          rw [List.getElem?_eq_getElem hi'] at hr1
          rw [Option.some.inj hr1]
        rw [ed] at hbe
        obtain ⟨b, d', c', erest, ec, hbo, hhb, hbb, hlb, hno⟩ := best_step hbe
        refine ⟨p, rfl, ⟨xs, .of hpx⟩, ?_⟩
        refine for_list (Pv := fun k σ H8 => ∃ u' dg' y8 y9, σ = [some (.ref x), some v, some (.ref rw_), some u', some dg', some (.int (i : Nat)), some u0, some (.int (c : Nat)), y8, y9] ∧ Same H7 H8 ∧
            ((b ∉ (opts r).take k ∧ u' = .ref bu ∧ dg' = dg) ∨ (b ∈ (opts r).take k ∧ IT H8 u' (mv b es r) ∧ BT H8 dg' (d ++ [b]))))
          ⟨_, _, _, _, rfl, Same.refl _, .inl ⟨by simp, rfl, rfl⟩⟩ (fun k σ H8 _ ⟨_, _, _, _, _, s8, _⟩ => .of (s8 _ _ hpx)) ?_ ?_
        · rintro k xk σ H8 hxk ⟨u', dg', y8, y9, rfl, s8, hch⟩
          obtain ⟨⟨fl, more⟩, hk1, hk2⟩ := hxs.back hxk
          obtain ⟨a3, u3, rfl, ha3, b3, rfl, hb3⟩ := im_fs.tk (tk_same s8) hk2
          have hok : (opts r)[k]? = some fl ∧ more = mv fl es r := by
            unfold nxs at hk1
            rw [List.getElem?_map] at hk1
            obtain ⟨b1, q1, q2⟩ := Option.map_eq_some_iff.mp hk1
            cases q2
            exact ⟨q1, rfl⟩
          obtain ⟨hok, rfl⟩ := hok
          have s78 := s7.trans s8
          refine ⟨a3, _, rfl, .of ha3, rfl, _, _, rfl, _, _, rfl, rfl, ?_⟩
          rcases hch with ⟨hnb, rfl, rfl⟩ | ⟨hb, hu', hdg'⟩
          · -- not yet
            have hdg8 := im_bt.tk (tk_same s78) hdg6
            obtain ⟨pd, rfl, hpd⟩ := id hdg8
            refine ⟨_, rfl, pd, _, rfl, .inr (.of hpd), _, rfl, rfl, true, by rw [List.length_map, hdl]; simp, iteT ?_⟩
            refine ⟨_, rfl, _, rfl, _, _, rfl, rfl, rw_, _, ((i + 1 : Nat) : Int), _, rfl, rfl, .of (s78 _ _ hrw3), atI_nat hf3, f3, rfl, .inr ⟨_, .inl (s78 _ _ hff3)⟩, _, rfl, _, .t (k := ik (mv fl es r)) (s78 _ _ hff3) (by rw [ik_map]; exact hb3), ?_⟩
            rw [hfl3]
            refine ⟨_, rfl, _, rfl, .inr ⟨fl, rfl, _, _, rfl, rfl, ?_⟩⟩
            have hsc : ∀ (o : Option Nat) (j : Int), scal ((vN o).getD .non) (.int j) = true := fun o j => by cases o <;> rfl
            refine ⟨hsc _ _, _, rfl, ?_⟩
            by_cases efb : fl = b
            · subst efb
              have hv3 : wv (rch fs (firstS fs n) rs (i + 1)) (lfAt fs rs (i + 1)) (mv fl es r) = some c' := by
                unfold wv lfAt
                rw [if_pos (mem_rch.mpr ⟨es, her, fl, by rw [er]; exact hbo, by rw [er], hhb⟩), hlb]
              rw [hv3, decide_eq_true (show (vN (some c')).getD .non = .int _ by
                show V.int _ = V.int _
                rw [ec]
                cases fl <;> simp <;> omega)]
              refine iteT ⟨_, rfl, _, rfl, (by show 1 ≤ sizeLine; decide), fun T2 nT2 => ?_⟩
              have s9 : Same H8 (upd H8 T2 (.tup [.bl fl])) := same_new nT2
              refine cat_bt (im_bt.tk (tk_same s9) hdg8) upd_same (by omega) fun z2 H9 s10 hz2 => ?_
              refine ⟨_, rfl, _, _, _, _, rfl, (s8.trans s9).trans s10, .inr ⟨?_, ⟨b3, rfl, (s9.trans s10) _ _ hb3⟩, hz2⟩⟩
              rw [take_snoc hok]
              simp
            · rw [decide_eq_false, ]
              · refine iteF ⟨_, _, _, _, rfl, s8, .inl ⟨?_, rfl, rfl⟩⟩
                rw [take_snoc hok]
                intro z
                rcases List.mem_append.mp z with y | y
                · exact hnb y
                · exact efb (List.mem_singleton.mp y).symm
              · intro hv
                rcases opts_cases r with ⟨hs, e⟩ | ⟨hs, e⟩
                · rw [e] at hok hbo
                  have e1 := List.mem_singleton.mp hbo
                  have e2 := List.mem_singleton.mp (List.mem_of_getElem? hok)
                  exact efb (e2.trans e1.symm)
                · have hk0 : fl = false ∧ b = true := by
                    rw [e] at hok hnb
                    cases k with
                    | zero =>
                      have : fl = false := (Option.some.inj hok).symm
                      subst this
                      refine ⟨rfl, ?_⟩
                      cases b
                      · exact absurd rfl efb
                      · rfl
                    | succ k =>
                      cases k with
                      | zero =>
                        have : fl = true := (Option.some.inj hok).symm
                        subst this
                        cases b
                        · exact absurd (by simp) hnb
                        · exact absurd rfl efb
                      | succ k => simp at hok
                  obtain ⟨rfl, rfl⟩ := hk0
                  refine hno rfl hs ?_
                  cases ew : wv (rch fs (firstS fs n) rs (i + 1)) (lfAt fs rs (i + 1)) (mv false es r) with
                  | none =>
                    rw [ew] at hv
                    cases hv
                  | some q0 =>
                    rw [ew] at hv
                    have e3 : ((q0 : Nat) : Int) = (c : Int) - 0 := V.int.inj hv
                    have e4 : q0 = c := by omega
                    subst e4
                    unfold wv lfAt at ew
                    by_cases hm : mv false es r ∈ rch fs (firstS fs n) rs (i + 1)
                    · rw [if_pos hm] at ew
                      obtain ⟨_, _, _, _, _, h1⟩ := mem_rch.mp hm
                      exact ⟨h1, ew⟩
                    · rw [if_neg hm] at ew
                      cases ew
          · obtain ⟨pd, rfl, hpd⟩ := id hdg'
            refine ⟨_, rfl, pd, _, rfl, .inr (.of hpd), _, rfl, rfl, false, ?_, iteF (iteF ?_)⟩
            · refine congrArg V.bl (decide_eq_false fun z => ?_)
              have := V.int.inj z
              simp [hdl] at this
              omega
            · refine ⟨_, _, _, _, rfl, s8, .inr ⟨?_, hu', hdg'⟩⟩
              rw [take_snoc hok]
              exact List.mem_append.mpr (.inl hb)
        · rintro σ H8 ⟨u', dg', y8, y9, rfl, s8, hch⟩
          have eo : (opts r).take xs.length = opts r := List.take_of_length_le (by
            rw [hxs.len]
            unfold nxs
            rw [List.length_map]
            exact Nat.le_refl _)
          rw [eo] at hch
          rcases hch with ⟨hnb, _⟩ | ⟨_, hu', hdg'⟩
          · exact absurd hbo hnb
          · refine ⟨u', dg', mv b es r, d ++ [b], c', d', _, _, _, _, _, rfl, (s46.trans s7).trans s8, hu', hdg', ?_, hbb, ?_, by simp [hdl]⟩
            · exact mem_rch.mpr ⟨es, her, b, by rw [er]; exact hbo, by rw [er], hhb⟩
            · rw [← hfu, erest, List.append_assoc] <;> rfl
      · rintro σ H5 ⟨u, dg, es, d, c, rest, y5, y6, y7, y8, y9, rfl, s5, hes, hdg, her, hbe, hfu, hdl⟩
        have erest : rest = [] := by
          have := best_len _ _ _ _ _ hbe
          rw [List.length_drop, hws.len] at this
          exact List.eq_nil_of_length_eq_zero (by rw [this]; omega)
        rw [erest, List.append_nil] at hfu
        subst hfu
        have s35 := s4.trans s5
        have sC := sB.trans s35
        refine ⟨_, rfl, rw_, _, 0, _, rfl, rfl, .of (s35 _ _ hrw), atI_nat (j := 0) hf1, _, rfl, x, C, dx, _, _, rfl, sC _ _ hx, L.cl, L.nO, rfl, n, rfl, by omega, fun H7 z7 s7 hz7 => ?_⟩
        obtain ⟨b7, rfl, hb7⟩ := hz7
        refine ⟨f1, _, rfl, .inr ⟨kvf, ik (begun n), b7, .inl ((s35.trans s7) _ _ hff), rfl, by rw [ik_map]; exact hb7, hk0.symm⟩, _, rfl, (by show 2 ≤ sizeLine; decide), fun p np => ?_⟩
        have s8 : Same H7 (upd H7 p (.tup [.int (c0 : Nat), dg])) := same_new np
        refine q _ _ ((sC.trans s7).trans s8) ?_
        rw [ea]
        exact ⟨p, dg, rfl, upd_same, im_bt.tk (tk_same (s7.trans s8)) hdg⟩
end
end K70

set_option maxRecDepth 100000
set_option maxHeartbeats 4000000
/-! the law's hand and its draws -/
namespace K70
open PySem PySem.Spec PyProof.Rows L2
/-- the first statement may leave in several ways, all of them Pm: then the rest is read once -/
theorem split {X : Cx} {a : Stmt} {rest : List Stmt} {D : Ends} {σ : L2.St} {H : Hp} (Pm : L2.St → Hp → Prop) (h1 : ∃ ta, PS X a ta ∧ ∀ D' : Ends, (∀ σ' H', Pm σ' H' → D'.nx σ' H') → D'.rt = D.rt → D'.bk = D.bk → D'.ct = D.ct → ta D' σ H)
    (h2 : ∃ tr, PSs X rest tr ∧ ∀ σ' H', Pm σ' H' → tr D σ' H') : ∃ t, PSs X (a :: rest) t ∧ t D σ H := by
  obtain ⟨ta, pa, qa⟩ := h1
  obtain ⟨tr, pr, qr⟩ := h2
  exact ⟨_, pss_cons pa pr, qa _ (fun σ' H' p => qr σ' H' p) rfl rfl rfl⟩
/-- at a the hand -/
def HandAt (cs : Addr) (H : Hp) (a : Addr) : Prop := ∃ (ns : List Int) (i : Nat) (c2 c3 c4 : Int), cs ≠ a ∧ H a = some (.lst [.ref cs, .int (i : Nat), .int c2, .int c3, .int c4]) ∧ H cs = some (.lst (ns.map V.int))
theorem HandAt.lst {H : Hp} {cs a : Addr} (h : HandAt cs H a) : ∃ xs, H a = some (.lst xs) := by
  obtain ⟨ns, i, c2, c3, c4, _, h, _⟩ := h
  exact ⟨_, h⟩
theorem HandAt.same {H H' : Hp} {cs a : Addr} (h : HandAt cs H a) (s : Same H H') : HandAt cs H' a := by
  obtain ⟨ns, i, c2, c3, c4, hc, h1, h2⟩ := h
  exact ⟨ns, i, c2, c3, c4, hc, s _ _ h1, s _ _ h2⟩
theorem But.tkH {cs a : Addr} {H H' : Hp} (x : But a H H') (h : HandAt cs H a) : Tk H H' := by
  obtain ⟨xs, h⟩ := h.lst
  exact x.tk h
section
variable {P : Program} {w : World} {K : PySem.W.Frag} {mg : Str → Option Value} {base : Heap}
def spDraw : Sp := fun vs H Q _ => ∃ (a cs : Addr) (m : Nat), vs = [.ref a, .int (m : Nat)] ∧ 0 < m ∧ m ≤ 1000 ∧ HandAt cs H a ∧ ∀ (d : Nat) H', d < m → But a H H' → HandAt cs H' a → Q (.int (d : Nat)) H'
theorem emod_nat {i : Int} {m : Nat} (h : 0 < m) : ∃ d : Nat, d < m ∧ i % (m : Int) = (d : Int) := by
  have h1 := Int.emod_nonneg i (show (m : Int) ≠ 0 by omega)
  have h2 := Int.emod_lt_of_pos i (show (0 : Int) < m by omega)
  exact ⟨(i % (m : Int)).toNat, by omega, by omega⟩
theorem ok_draw (D : Stn K mg "_law_draw" sLawDraw ["_law_hand_here", "_law_many"]) (M : Mg mg) : Ok P w K mg base 1 "_law_draw" spDraw := by
  refine ok_of D scLawDraw (fun vs H Q E h => ?_) (fun f cdv A outer s H vs Q E hr h => ?_)
  · obtain ⟨a, cs, m, rfl, _⟩ := h
    rfl
  · obtain ⟨a, cs, m, rfl, hm, hm9, hh, q⟩ := h
    refine split (fun σ' H' => ∃ y2 y3 y4, σ' = [some (.ref a), some (.int (m : Nat)), y2, y3, y4] ∧ But a H H' ∧ HandAt cs H' a)
      ⟨_, ps_if (PW.pt (pw_and (pt_cmpR op_eq (pe_ix ix_list (pv 0) pe_int (fun _ _ => rfl)) pe_int (nomark _)) (pw_and1 (pt_cmpR op_lt (pe_ix ix_list (pv 0) pe_int (fun _ _ => rfl)) (pe_callB call_len_seq (by rfl) M.len PySem.boot_len (pa_cons (pe_ix ix_list (pv 0) pe_int (fun _ _ => rfl)) pa_nil)) (nomark _)))))
        (pss_cons (ps_set (i := 2) scLawDraw.nd rfl (.inl rfl) (pe_ix ix_list (pe_ix ix_list (pv 0) pe_int (fun _ _ => rfl)) (pe_ix ix_list (pv 0) pe_int (fun _ _ => rfl)) (fun _ _ => rfl)))
        (pss_cons (ps_asg (pe_op op_add (pe_ix ix_list (pv 0) pe_int (fun _ _ => rfl)) pe_int) (pg_sub (pv 0) pe_int set_list))
        (pss_cons (ps_asg (pe_op op_mod (pe_callTy (r := rIntB) call_int1 (by rfl) M.int bi_int (pa_cons (pe_op op_add (pe_op op_add (pe_op op_mul (pe_ix ix_list (pv 0) pe_int (fun _ _ => rfl)) pe_int) (pv 2)) pe_int) pa_nil)) pe_int) (pg_sub (pv 0) pe_int set_list))
        (pss_one (ps_if (pt_cmpR op_ge (pv 2) (pe_op op_pow pe_int pe_int) (nomark _)) (pss_one (ps_asg (pv 2) (pg_sub (pv 0) pe_int set_list))) pss_nil))))) pss_nil, fun D' k _ _ _ => ?_⟩
      ⟨_, pss_cons (ps_if (pt_cmpR op_gt (pe_ix ix_list (pv 0) pe_int (fun _ _ => rfl)) pe_int (nomark _))
          (pss_cons (ps_set (i := 3) scLawDraw.nd rfl (.inl rfl) (pe_op op_mod (pe_callTy (r := rIntB) call_int1 (by rfl) M.int bi_int (pa_cons (pe_ix ix_list (pv 0) pe_int (fun _ _ => rfl)) pa_nil)) (pv 1)))
          (pss_cons (ps_asg (pe_op op_fdivW (pe_ix ix_list (pv 0) pe_int (fun _ _ => rfl)) (pv 1)) (pg_sub (pv 0) pe_int set_list))
          (pss_one (ps_ret (pv 3))))) pss_nil)
        (pss_cons (ps_asg (pe_op op_add (pe_ix ix_list (pv 0) pe_int (fun _ _ => rfl)) pe_int) (pg_sub (pv 0) pe_int set_list))
        (pss_cons (ps_set (i := 4) scLawDraw.nd rfl (.inl rfl) (pe_op op_mod (pe_callTy (r := rIntB) call_int1 (by rfl) M.int bi_int (pa_cons (pe_op op_mul (pe_callTy (r := rIntB) call_int1 (by rfl) M.int bi_int (pa_cons (pe_op op_add (pe_ix ix_list (pv 0) pe_int (fun _ _ => rfl)) (pe_op op_mul pe_int (pe_ix ix_list (pv 0) pe_int (fun _ _ => rfl)))) pa_nil)) pe_int) pa_nil)) pe_int))
        (pss_cons (ps_set (i := 4) scLawDraw.nd rfl (.inl rfl) (pe_op op_mod (pe_callTy (r := rIntB) call_int1 (by rfl) M.int bi_int (pa_cons (pe_op op_mul (pv 4) (pe_op op_add (pe_op op_fdiv (pv 4) pe_int) pe_int)) pa_nil)) pe_int))
        (pss_cons (ps_set (i := 4) scLawDraw.nd rfl (.inl rfl) (pe_op op_mod (pe_callTy (r := rIntB) call_int1 (by rfl) M.int bi_int (pa_cons (pe_op op_mul (pv 4) (pe_op op_add (pe_op op_fdiv (pv 4) pe_int) pe_int)) pa_nil)) pe_int))
        (pss_one (ps_ret (pe_op op_mod (pe_callTy (r := rIntB) call_int1 (by rfl) M.int bi_int (pa_cons (pe_op op_fdiv (pv 4) pe_int) pa_nil)) (pv 1)))))))), fun σ' H' hp => ?_⟩
    · obtain ⟨ns, i, c2, c3, c4, hca, ha, hc⟩ := id hh
      skip
      refine ⟨_, rfl, a, _, 2, _, rfl, rfl, .of ha, atI_nat (j := 2) rfl, rfl, _, rfl, ?_⟩
      refine ite2 (fun _ => ?_) (fun h2 => ?_)
      · refine ⟨_, rfl, a, _, 1, _, rfl, rfl, .of ha, atI_nat (j := 1) rfl, _, rfl, a, _, 0, _, rfl, rfl, .of ha, atI_nat (j := 0) rfl, cs, _, rfl, .inl (.of hc), _, _, rfl, rfl, _, rfl, ?_⟩
        refine ite2 (fun hlt => ?_) (fun _ => ?_)
        · have hlt := of_decide_eq_true hlt
          rw [List.length_map] at hlt
          have hi : i < ns.length := by omega
          have hg : (ns.map V.int)[i]? = some (.int ns[i]) := by
            rw [List.getElem?_map, List.getElem?_eq_getElem hi] <;> rfl
          generalize ns[i] = z at hg
          refine ⟨_, rfl, a, _, 0, _, rfl, rfl, .of ha, atI_nat (j := 0) rfl, _, rfl, a, _, 1, _, rfl, rfl, .of ha, atI_nat (j := 1) rfl, cs, _, (i : Nat), _, rfl, rfl, .of hc, atI_nat hg, ?_⟩
          refine ⟨_, rfl, a, _, 1, _, rfl, rfl, .of ha, atI_nat (j := 1) rfl, _, _, rfl, rfl, _, rfl, a, _, 1, 1, rfl, rfl, ha, rfl, ?_⟩
          have b1 : But a H (upd H a (.lst [.ref cs, .int ((i : Nat) + 1), .int c2, .int c3, .int c4])) := But.upd
          refine ⟨_, rfl, a, _, 3, _, rfl, rfl, .of upd_same, atI_nat (j := 3) rfl, _, _, rfl, rfl, .inr ⟨by decide, by decide⟩, _, rfl, _, _, rfl, rfl, _, _, rfl, rfl, .inl ⟨_, rfl, _, _, rfl, rfl, (by show (0 : Int) < 2147483629; decide), _, rfl, a, _, 3, 3, rfl, rfl, upd_same, rfl, ?_⟩⟩
          refine ⟨_, rfl, _, _, rfl, rfl, ⟨by decide, by decide, by decide⟩, _, _, rfl, rfl, _, rfl, ?_⟩
          rw [upd_upd]
          refine ite2 (fun _ => ?_) (fun _ => ?_)
          · refine ⟨_, rfl, _, rfl, a, _, 2, 2, rfl, rfl, upd_same, rfl, ?_⟩
            rw [upd_upd]
            exact k _ _ ⟨_, _, _, rfl, But.upd, ns, i + 1, _, _, _, hca, upd_same, by rw [upd_ne hca]; exact hc⟩
          · exact k _ _ ⟨_, _, _, rfl, But.upd, ns, i + 1, _, _, _, hca, upd_same, by rw [upd_ne hca]; exact hc⟩
        · exact k _ _ ⟨_, _, _, rfl, But.refl _ _, hh⟩
      · exact k _ _ ⟨_, _, _, rfl, But.refl _ _, hh⟩
    · obtain ⟨y2, y3, y4, rfl, bt, ns, i, c2, c3, c4, hca, ha, hc⟩ := hp
      refine ⟨_, rfl, a, _, 2, _, rfl, rfl, .of ha, atI_nat (j := 2) rfl, _, _, rfl, rfl, _, rfl, ?_⟩
      refine ite2 (fun hpos => ?_) (fun _ => ?_)
      · obtain ⟨d, hd, ed⟩ := emod_nat (i := c2) hm
        refine ⟨_, rfl, a, _, 2, _, rfl, rfl, .of ha, atI_nat (j := 2) rfl, .inl ⟨_, rfl, _, rfl, _, _, rfl, rfl, (by show (0 : Int) < (m : Nat); omega), ?_⟩⟩
        dsimp only
        rw [ed]
        refine ⟨_, rfl, a, _, 2, _, rfl, rfl, .of ha, atI_nat (j := 2) rfl, _, rfl, _, _, rfl, rfl, wide_div (b := 10) (by omega) (by omega) (by decide) (by decide), _, rfl, a, _, 2, 2, rfl, rfl, ha, rfl, ?_⟩
        exact ⟨_, rfl, q d _ hd (bt.trans But.upd) ⟨ns, i, _, _, _, hca, upd_same, by rw [upd_ne hca]; exact hc⟩⟩
      · have ixs := ha
        refine ⟨_, rfl, a, _, 4, _, rfl, rfl, .of ha, atI_nat (j := 4) rfl, _, _, rfl, rfl, _, rfl, a, _, 4, 4, rfl, rfl, ha, rfl, ?_⟩
        refine ⟨_, rfl, a, _, 3, _, rfl, rfl, .of upd_same, atI_nat (j := 3) rfl, _, rfl, a, _, 4, _, rfl, rfl, .of upd_same, atI_nat (j := 4) rfl, _, _, rfl, rfl, .inl ⟨by decide, by decide⟩, _, _, rfl, rfl, .inl ⟨_, rfl, _, _, rfl, rfl, .inr ⟨by decide, by decide⟩, .inl ⟨_, rfl, _, _, rfl, rfl, (by show (0 : Int) < 2147483647; decide), ?_⟩⟩⟩
        have fin : ∀ zz : Int, Q (.int (zz % ((m : Nat) : Int))) (upd H' a (.lst ([V.ref cs, V.int ((i : Nat) : Int), V.int c2, V.int c3, V.int c4].set 4 (V.int (c4 + 1))))) := fun z => by
          obtain ⟨d, hd, ed⟩ := emod_nat (i := z) hm
          rw [ed]
          exact q d _ hd (bt.trans But.upd) ⟨ns, i, _, _, _, hca, upd_same, by rw [upd_ne hca]; exact hc⟩
        refine ⟨_, rfl, _, rfl, _, _, rfl, rfl, ⟨by decide, by decide⟩, _, _, rfl, rfl, _, _, rfl, rfl, .inl ⟨by omega, by omega⟩, .inl ⟨_, rfl, _, _, rfl, rfl, (by show (0 : Int) < 2147483647; decide), ?_⟩⟩
        refine ⟨_, rfl, _, rfl, _, _, rfl, rfl, ⟨by decide, by decide⟩, _, _, rfl, rfl, _, _, rfl, rfl, .inl ⟨by omega, by omega⟩, .inl ⟨_, rfl, _, _, rfl, rfl, (by show (0 : Int) < 2147483399; decide), ?_⟩⟩
        exact ⟨_, rfl, _, _, rfl, rfl, ⟨by decide, by decide⟩, .inl ⟨_, rfl, _, rfl, _, _, rfl, rfl, (by show (0 : Int) < (m : Nat); omega), fin _⟩⟩
end
end K70

set_option maxRecDepth 100000
set_option maxHeartbeats 4000000
/-! the law's hand, row, rows -/
namespace K70
open PySem PySem.Spec PyProof.Rows L2
section
variable {P : Program} {w : World} {K : PySem.W.Frag} {mg : Str → Option Value} {base : Heap}
theorem HandAt.cells {cs : Addr} {H : Hp} {h : Addr} (x : HandAt cs H h) : ∃ xs, H cs = some (.lst xs) := by
  obtain ⟨ns, i, c2, c3, c4, _, _, h⟩ := x
  exact ⟨_, h⟩
theorem HandAt.push {cs : Addr} {H : Hp} {h p : Addr} {o : HO} (x : HandAt cs H h) (hp : p ≠ h) (hc : cs ≠ p) : HandAt cs (upd H p o) h := by
  obtain ⟨ns, i, c2, c3, c4, h1, h2, h3⟩ := x
  exact ⟨ns, i, c2, c3, c4, h1, by rw [upd_ne (Ne.symm hp)]; exact h2, by rw [upd_ne hc]; exact h3⟩
def spHand (K : PySem.W.Frag) : Sp := fun vs H Q _ => ∃ (a : Addr) (ns : List Int), vs = [.ref a] ∧ SqL K H a (ns.map V.int) ∧ ∀ p cs H', HandAt cs H' p → Q (.ref p) H'
theorem cut_mem {ns : List Int} {lo hi : Option Int} {x : V} (h : x ∈ cutV (ns.map V.int) lo hi) : ∃ z : Int, x = .int z := by
  unfold cutV at h
  have h2 := List.mem_of_mem_drop (List.mem_of_mem_take h)
  obtain ⟨z, _, e⟩ := List.mem_map.mp h2
  exact ⟨z, e.symm⟩
theorem ok_hand (D : Stn K mg "_law_hand" sLawHand ["_law_script"]) (M : Mg mg) : Ok P w K mg base 1 "_law_hand" (spHand K) := by
  refine ok_of D scLawHand (fun vs H Q E h => ?_) (fun f cdv A outer s H vs Q E hr h => ?_)
  · obtain ⟨a, ns, rfl, _⟩ := h
    rfl
  · obtain ⟨a, ns, rfl, ha, q⟩ := h
    refine ⟨_, pss_cons (ps_setLc (i := 1) (own := [("_law_cell", 2)]) (g := gName 2) (tt := tYes) rfl scLawHand.nd rfl rfl (sw_true rfl rfl rfl (by decide +kernel))
        (pi_list (pe_slice sl_list (pv 0) po_none (po_some pe_int))) (blkOk_by (N := nLawHand) (sc := defScope sLawHand) (by decide +kernel))
        (fun _ _ _ _ _ => pg_name (i := 2) scLawHand.nd rfl (.inl rfl)) (fun _ _ _ _ _ => pts_nil)
        (fun _ _ _ _ _ => pe_callB call_abs (by rfl) M.abs bi_abs (pa_cons (pe_callTy (r := rIntB) call_int1 (by rfl) M.int bi_int (pa_cons (pv 2) pa_nil)) pa_nil)))
      (pss_one (ps_ret (pe_lst (pa_cons (pv 1) (pa_cons pe_int (pa_cons pe_int (pa_cons (pe_op op_add pe_int (pe_callB call_len_seq (by rfl) M.len PySem.boot_len (pa_cons (pv 1) pa_nil))) (pa_cons pe_int pa_nil)))))))), ?_⟩
    refine ⟨_, rfl, 63, rfl, a, _, rfl, ha, fun p1 n1 => ⟨p1, rfl, ⟨_, .of upd_same⟩, fun D nD => ?_⟩⟩
    refine lc_list (K := K) (a := p1) (xs := cutV (ns.map V.int) none (some 63)) (fun i H2 => H2 p1 = some (.lst (cutV (ns.map V.int) none (some 63))) ∧ ∃ acc : List Int, acc.length = i ∧ H2 D = some (.lst (acc.map V.int)))
      ⟨same_new nD _ _ upd_same, [], rfl, upd_same⟩ (fun i H2 _ ⟨h, _⟩ => .of h) ?_ ?_
    · rintro i x H2 hx ⟨hp, acc, hl, hD⟩
      obtain ⟨z, rfl⟩ := cut_mem (List.mem_of_getElem? hx)
      have hi : i < 64 := by
        have h1 := (List.getElem?_eq_some_iff.mp hx).1
        have h2 : (cutV (ns.map V.int) none (some 63)).length ≤ 63 := by
          unfold cutV
          rw [List.length_take, HT.sIx_none, show (63 : Int) = ((63 : Nat) : Int) from rfl, HT.sIx_nat]
          omega
        omega
      have nDp : p1 ≠ D := fun e => by rw [← e, upd_same] at nD; cases nD
      refine ⟨rfl, _, rfl, .inl ⟨_, rfl, _, rfl, _, hD, by rw [List.length_map, hl]; exact line_lt (by omega), ?_, acc ++ [if z < 0 then -z else z], by simp [hl], ?_⟩⟩
      · rw [upd_ne nDp]
        exact hp
      · rw [upd_same, List.map_append] <;> rfl
    · rintro H2 ⟨hp, acc, hl, hD⟩
      refine ⟨_, rfl, _, rfl, D, _, rfl, .inl (.of hD), _, _, rfl, rfl, (by show 5 ≤ sizeLine; decide), fun p np => ?_⟩
      have nDp : D ≠ p := fun e => by rw [← e, hD] at np; cases np
      refine q p D _ ⟨acc, 0, 0, _, 0, nDp, upd_same, ?_⟩
      rw [upd_ne nDp]
      exact hD
def spRow' : Sp := fun vs H Q _ => ∃ (h cs : Addr) (n : Nat) (sh : Int), vs = [.ref h, .int (n : Nat), .int sh] ∧ 2 ≤ n ∧ n ≤ 12 ∧ HandAt cs H h ∧ ∀ v r H', But h H H' → HandAt cs H' h → RowV H' v r → RowOk n r → Q v H'
theorem row_tail {h cs : Addr} {n : Nat} {sh : Int} {H2 : Hp} {Q : VK} {x y : Nat} {σ : L2.St} (hh : HandAt cs H2 h) (ro : x < n ∧ y < n ∧ (y = x + 1 ∨ x = y + 1)) (es : σ = [some (.ref h), some (.int (n : Nat)), some (.int sh), some (.int (x : Nat)), some (.int (y : Nat))])
    (q : ∀ v r H', But h H2 H' → HandAt cs H' h → RowV H' v r → RowOk n r → Q v H') :
    tTup (tCons (tVar 3) (tCons (tVar 4) (tCons (tOp (rI0 fun i j => .bl (decide (i < j))) (tCall spDraw [] E0 (tCons (tVar 0) (tCons (tC (.int 12)) tNil))) (tVar 2)) tNil))) σ H2 Q := by
  subst es
  refine ⟨_, rfl, _, rfl, _, rfl, h, cs, 12, rfl, by decide, by decide, hh, fun d H3 hd b3 hh3 => ⟨_, rfl, _, _, rfl, rfl, (by show 3 ≤ sizeLine; decide), fun p np => ?_⟩⟩
  exact q _ ⟨x, y, decide ((d : Int) < sh)⟩ _ (b3.trans (But.same (same_new np))) (hh3.same (same_new np)) ⟨p, rfl, upd_same⟩ ⟨ro.1, ro.2.1, ro.2.2⟩
theorem ok_row' (D : Stn K mg "_law_row" sLawRow ["_law_hand_here", "_law_offices", "_law_share"]) (G : Ok P w K mg base 1 "_law_draw" spDraw) : Ok P w K mg base 2 "_law_row" spRow' := by
  refine ok_of D scLawRow (fun vs H Q E h => ?_) (fun f cdv A outer s H vs Q E hr h => ?_)
  · obtain ⟨h, cs, n, sh, rfl, _⟩ := h
    rfl
  · obtain ⟨h, cs, n, sh, rfl, h2, h12, hh, q⟩ := h
    refine ⟨_, pss_cons (ps_set (i := 3) scLawRow.nd rfl (.inl rfl) (pe_f G hr (pa_cons (pv 0) (pa_cons (pv 1) pa_nil))))
      (pss_cons (ps_set (i := 4) scLawRow.nd rfl (.inl rfl) (pe_op op_sub (pe_op op_add (pv 3) pe_int) (pe_op op_mul pe_int (pe_f G hr (pa_cons (pv 0) (pa_cons pe_int pa_nil))))))
      (pss_cons (ps_if (PW.pt (pw_or (pt_cmpR op_lt (pv 4) pe_int (nomark _)) (pw_or1 (pt_cmpR op_eq (pv 4) (pv 1) (nomark _))))) (pss_one (ps_set (i := 4) scLawRow.nd rfl (.inl rfl) (pe_op op_sub (pe_op op_mul pe_int (pv 3)) (pv 4)))) pss_nil)
      (pss_one (ps_ret (pe_tup (pa_cons (pv 3) (pa_cons (pv 4) (pa_cons (pe_cmpR op_lt (pe_f G hr (pa_cons (pv 0) (pa_cons pe_int pa_nil))) (pv 2) (nomark _)) pa_nil)))))))), ?_⟩
    refine ⟨_, rfl, _, rfl, h, cs, n, rfl, by omega, by omega, hh, fun x H1 hx b1 hh1 => ?_⟩
    refine ⟨_, rfl, _, _, rfl, rfl, _, rfl, h, cs, 2, rfl, by decide, by decide, hh1, fun d H2 hd b2 hh2 => ⟨_, _, rfl, rfl, .inl ⟨by decide, by decide⟩, _, _, rfl, rfl, ?_⟩⟩
    have b12 := b1.trans b2
    have q2 : ∀ v r H', But h H2 H' → HandAt cs H' h → RowV H' v r → RowOk n r → Q v H' := fun v r H' b => q v r H' (b12.trans b)
    refine ⟨_, rfl, _, _, rfl, rfl, _, rfl, ?_⟩
    refine ite2 (fun hneg => ?_) (fun hneg => ?_)
    · refine iteT ⟨_, rfl, _, _, rfl, rfl, .inl ⟨by decide, by decide⟩, _, rfl, _, _, rfl, rfl, ?_⟩
      have hneg := of_decide_eq_true hneg
      have e : 2 * (x : Int) - ((x : Int) + 1 - 2 * (d : Int)) = ((x + 1 : Nat) : Int) := by omega
      dsimp only
      rw [e]
      exact row_tail hh2 ⟨hx, by omega, .inl rfl⟩ rfl q2
    · have hneg : ¬ (x : Int) + 1 - 2 * (d : Int) < 0 := fun z => hneg (decide_eq_true z)
      refine ⟨_, rfl, _, rfl, rfl, _, rfl, ?_⟩
      refine ite2 (fun heq => ?_) (fun heq => ?_)
      · refine ⟨_, rfl, _, _, rfl, rfl, .inl ⟨by decide, by decide⟩, _, rfl, _, _, rfl, rfl, ?_⟩
        have heq := V.int.inj (of_decide_eq_true heq)
        have e : 2 * (x : Int) - ((x : Int) + 1 - 2 * (d : Int)) = ((x - 1 : Nat) : Int) := by omega
        dsimp only
        rw [e]
        exact row_tail hh2 ⟨hx, by omega, .inr (by omega)⟩ rfl q2
      · have heq : ¬ (x : Int) + 1 - 2 * (d : Int) = (n : Int) := fun z => heq (decide_eq_true (congrArg V.int z))
        have e : (x : Int) + 1 - 2 * (d : Int) = ((x + 1 - 2 * d : Nat) : Int) := by omega
        dsimp only
        rw [e]
        exact row_tail hh2 ⟨hx, by omega, by omega⟩ rfl q2
def spRows' : Sp := fun vs H Q _ => ∃ (h cs : Addr) (n m : Nat) (sh : Int), vs = [.ref h, .int (n : Nat), .int (m : Nat), .int sh] ∧ n ≤ 12 ∧ 1 ≤ n ∧ m ≤ 60 ∧ HandAt cs H h ∧ ∀ v rs H', But h H H' → HandAt cs H' h → RowsV H' v rs → rs.length ≤ m → (∀ r ∈ rs, RowOk n r) → Q v H'
theorem ok_rows' (D : Stn K mg "_law_rows" sLawRows ["_law_hand_here", "_law_offices", "_law_most", "_law_share"]) (M : Mg mg) (G1 : Ok P w K mg base 1 "_law_draw" spDraw) (G2 : Ok P w K mg base 2 "_law_row" spRow') : Ok P w K mg base 3 "_law_rows" spRows' := by
  refine ok_of D scLawRows (fun vs H Q E h => ?_) (fun f cdv A outer s H vs Q E hr h => ?_)
  · obtain ⟨h, cs, n, m, sh, rfl, _⟩ := h
    rfl
  · obtain ⟨h, cs, n, m, sh, rfl, h12, h1, h60, hh, q⟩ := h
    refine ⟨_, pss_cons (ps_if (pt_cmpR op_eq (pv 1) pe_int (nomark _)) (pss_one (ps_ret (pe_tup pa_nil))) pss_nil)
      (pss_one (ps_ret (pe_callTy call_tuple_of (by rfl) M.tuple bi_tuple (pa_cons
        (pe_lc (own := [("_law_turn", 4)]) (g := gName 4) (tt := tYes) rfl scLawRows.nd (pi_range1 (by rfl) M.range (pa_cons (pe_f G1 hr (pa_cons (pv 0) (pa_cons (pe_op op_add (pv 2) pe_int) pa_nil))) pa_nil)) (blkOk_by (N := nLawRows) (sc := defScope sLawRows) (by decide +kernel))
          (fun _ _ _ _ _ => pg_name (i := 4) scLawRows.nd rfl (.inl rfl)) (fun _ _ _ _ _ => pts_nil)
          (fun _ _ _ _ _ => pe_f G2 hr (pa_cons (pv 0) (pa_cons (pv 1) (pa_cons (pv 3) pa_nil))))) pa_nil)))), ?_⟩
    refine ⟨_, rfl, rfl, _, rfl, ?_⟩
    refine ite2 (fun _ => ⟨Nat.zero_le _, fun p np => ?_⟩) (fun hne => ?_)
    · exact q _ [] _ (But.same (same_new np)) (hh.same (same_new np)) ⟨p, _, rfl, upd_same, .nil⟩ (Nat.zero_le _) fun _ z => (nomatch z)
    · have hne : n ≠ 1 := fun z => hne (decide_eq_true (by rw [z] <;> rfl))
      refine ⟨_, rfl, _, rfl, _, _, rfl, rfl, h, cs, m + 1, rfl, by omega, by omega, hh, fun d H1 hd b1 hh1 => ⟨_, rfl, by omega, by omega, fun D nD => ?_⟩⟩
      have et : ((d : Nat) : Int).toNat = d := by omega
      rw [et]
      have hDh : D ≠ h := fun e => by
        obtain ⟨xs, hx⟩ := hh1.lst
        rw [e, hx] at nD
        cases nD
      have hcD : cs ≠ D := fun e => by
        obtain ⟨xs, hx⟩ := hh1.cells
        rw [e, nD] at hx
        cases hx
      refine lc_range (lo := 0) (n := d) (fun i H2 => But h H1 H2 ∧ HandAt cs H2 h ∧ ∃ us rs, H2 D = some (.lst us) ∧ All2 (RowV H2) us rs ∧ rs.length = i ∧ ∀ r ∈ rs, RowOk n r)
        ⟨But.same (same_new nD), hh1.same (same_new nD), [], [], upd_same, .nil, rfl, fun _ z => (nomatch z)⟩ ?_ ?_
      · rintro i H2 hi ⟨b2, hh2, us, rs, hD, hu, hl, ho⟩
        refine ⟨rfl, _, rfl, _, rfl, _, rfl, h, cs, n, sh, rfl, by omega, h12, hh2, fun v r H3 b3 hh3 hv hr => ?_⟩
        have hD3 := b3 _ _ hDh hD
        have tk : Tk H2 (upd H3 D (.lst (us ++ [v]))) := (b3.tkH hh2).trans (tk_lst hD3)
        refine ⟨us, hD3, by rw [hu.len, hl]; exact line_lt (by omega), fun b o hb e => ?_, ?_, us ++ [v], rs ++ [r], upd_same, (hu.imp fun _ _ z => im_row.tk tk z).snoc (im_row.tk (tk_lst hD3) hv), by simp [hl], fun r' z => ?_⟩
        · rw [upd_ne (ne_of_none e nD)]
          exact b3 _ _ hb (b2 _ _ hb e)
        · exact hh3.push hDh hcD
        · rcases List.mem_append.mp z with z | z
          · exact ho r' z
          · rw [List.mem_singleton.mp z]
            exact hr
      · rintro H2 ⟨b2, hh2, us, rs, hD, hu, hl, ho⟩
        refine ⟨D, us, rfl, .inl ⟨.of hD, fun l nl => ?_⟩⟩
        have s3 : Same H2 (upd H2 l (.tup us)) := same_new nl
        exact q _ rs _ ((b1.trans b2).trans (But.same s3)) (hh2.same s3) ⟨l, us, rfl, upd_same, hu.imp fun _ _ z => im_row.tk (tk_same s3) z⟩ (by omega) ho
end
end K70

set_option maxRecDepth 100000
set_option maxHeartbeats 4000000
/-! the law's own going through: sheets of a doing, all doings, a drawn doing, finds -/
namespace K70
open PySem PySem.Spec PyProof.Rows L2
/-- both ways of an if lead to Pm -/
theorem if_join {b : Bool} {tb te : TS} {D : Ends} {σ : L2.St} {H : Hp} (Pm : L2.St → Hp → Prop) (ht : b = true → ∀ D' : Ends, (∀ σ' H', Pm σ' H' → D'.nx σ' H') → tb D' σ H) (he : b = false → ∀ D' : Ends, (∀ σ' H', Pm σ' H' → D'.nx σ' H') → te D' σ H)
    (hn : ∀ σ' H', Pm σ' H' → D.nx σ' H') : if b = true then tb D σ H else te D σ H := by
  cases b
  · exact he rfl D hn
  · exact ht rfl D hn
theorem HandAt.new {cs : Addr} {H : Hp} {h p : Addr} (x : HandAt cs H h) (n : H p = none) : p ≠ h ∧ cs ≠ p := by
  obtain ⟨ns, i, c2, c3, c4, h1, h2, h3⟩ := x
  refine ⟨fun e => ?_, fun e => ?_⟩
  · rw [e, h2] at n; cases n
  · rw [← e, h3] at n; cases n
def ledTo (n : Nat) (rs : List Row) (d : List Bool) (k : Nat) : List (List Int) := (List.range k).map fun i => st n rs d i
theorem ledTo_snoc (n : Nat) (rs : List Row) (d : List Bool) (k : Nat) : ledTo n rs d (k + 1) = ledTo n rs d k ++ [st n rs d k] := by
  unfold ledTo
  rw [List.range_succ, List.map_append] <;> rfl
theorem ledTo_len (n : Nat) (rs : List Row) (d : List Bool) (k : Nat) : (ledTo n rs d k).length = k := by
  unfold ledTo
  rw [List.length_map, List.length_range]
theorem led_get {n : Nat} {rs : List Row} {d : List Bool} {i : Nat} (h : i ≤ rs.length) : (led n rs d)[i]? = some (st n rs d i) := by
  unfold led
  rw [List.getElem?_map, List.getElem?_range (by omega)] <;> rfl
theorem All2.last {α : Type} {R : V → α → Prop} {vs : List V} {l : List α} {x : α} (a : All2 R vs (l ++ [x])) : ∃ us v, vs = us ++ [v] ∧ All2 R us l ∧ R v x := by
  obtain ⟨v, h1, h2⟩ := a.get (i := l.length) (x := x) (by simp)
  have hl := a.len
  rw [List.length_append, List.length_singleton] at hl
  refine ⟨vs.take l.length, v, ?_, ?_, h2⟩
  · rw [← take_snoc h1, List.take_of_length_le (by omega)]
  · have := a.take l.length
    rw [List.take_left'  rfl] at this
    exact this
section
variable {P : Program} {w : World} {K : PySem.W.Frag} {mg : Str → Option Value} {base : Heap}
def spLed : Sp := fun vs H Q _ => ∃ (n : Nat) (v u : V) (rs : List Row) (d : List Bool), vs = [.int (n : Nat), v, u] ∧ RowsV H v rs ∧ BT H u d ∧ d.length = rs.length ∧ n ≤ 12 ∧ rs.length ≤ 60 ∧ (∀ r ∈ rs, RowOk n r) ∧
  ∀ p H', Same H H' → H p = none → LstAt IT H' p (led n rs d) → Q (.ref p) H'
theorem ok_led (D : Stn K mg "_law_led" sLawLed ["_law_offices", "_law_rows_here", "_law_doing"]) (M : Mg mg) : Ok P w K mg base 1 "_law_led" spLed := by
  refine ok_of D scLawLed (fun vs H Q E h => ?_) (fun f cdv A outer s H vs Q E hr h => ?_)
  · obtain ⟨n, v, u, rs, d, rfl, _⟩ := h
    rfl
  · obtain ⟨n, v, u, rs, d, rfl, hv, hu, hl, hn, h60, ho, q⟩ := h
    obtain ⟨pv', ws, rfl, hpv, hws⟩ := id hv
    obtain ⟨pu, rfl, hpu⟩ := id hu
    refine ⟨_, pss_cons (ps_set (i := 3) scLawLed.nd rfl (.inl rfl) (pe_lst (pa_cons (pe_tupRg rfl (by rfl) M.tuple (prg_1 (by rfl) M.range (pv 0))) pa_nil)))
      (pss_cons (ps_for PassesOwn.never rfl (RZ.pi_zipA (by rfl) M.zip (pa_cons (pv 2) (pa_cons (pv 1) pa_nil))) (pg_tup rfl (pgs_cons (pg_name (i := 4) scLawLed.nd rfl (.inl rfl)) (pgs_cons (pg_name (i := 5) scLawLed.nd rfl (.inl rfl)) pgs_nil)))
        (pss_cons (ps_set (i := 6) scLawLed.nd rfl (.inl rfl) (pe_callTy call_list_of (by rfl) M.list bi_list (pa_cons (pe_ix ix_list (pv 3) (pe_un un_neg pe_int) (fun _ _ => rfl)) pa_nil)))
        (pss_cons (ps_if (pt_val (pv 4)) (pss_one (ps_asg (pe_ix ix_list (pv 6) (pe_ix ix_tup (pv 5) pe_int (fun _ _ => rfl)) (fun _ _ => rfl)) (pg_sub (pv 6) (pe_ix ix_tup (pv 5) pe_int (fun _ _ => rfl)) set_list))) pss_nil)
        (pss_one (ps_expr (pe_bm PySem.F.plainAttrs_list PySem.F.slot_list_append PySem.F.type_list_append mt_append (pv 3) (pa_cons (pe_callTy call_tuple_of (by rfl) M.tuple bi_tuple (pa_cons (pv 6) pa_nil)) pa_nil)))))))
      (pss_one (ps_ret (pv 3)))), ?_⟩
    refine ⟨_, rfl, n, rfl, RgOk.of_le (by omega) (by omega) (by omega) (by omega), fun p0 n0 => ⟨(by show 1 ≤ sizeLine; decide), fun F nF => ?_⟩⟩
    have s0 : Same H (upd H p0 (.tup (rgV 0 (n : Int)))) := same_new n0
    have s1 := s0.trans (same_new (o := .lst [V.ref p0]) nF)
    have nFH : H F = none := s0.free nF
    have h0 : IT (upd (upd H p0 (.tup (rgV 0 (n : Int)))) F (.lst [V.ref p0])) (.ref p0) (begun n) := ⟨p0, rfl, by rw [same_new nF _ _ upd_same, rg_begun]⟩
    refine ⟨_, rfl, _, rfl, pu, pv', _, ws, rfl, .inr ⟨.of (s1 _ _ hpu), .of (s1 _ _ hpv), ?_⟩⟩
    refine RZ.for_zipT (xs := d.map V.bl) (ys := ws) (by rw [List.length_map, hws.len, hl]) (fun i σ H2 => ∃ y4 y5 y6 vs, σ = [some (.int (n : Nat)), some (.ref pv'), some (.ref pu), some (.ref F), y4, y5, y6] ∧ Same H H2 ∧ H2 F = some (.lst vs) ∧ All2 (IT H2) vs (ledTo n rs d (i + 1)))
      ⟨none, none, none, _, rfl, s1, upd_same, All2.nil.snoc h0⟩ (fun i σ H2 ⟨_, _, _, _, _, s2, _⟩ => ⟨.of (s2 _ _ hpu), .of (s2 _ _ hpv)⟩) ?_ ?_
    · rintro i x y T σ H2 hx hy ⟨y4, y5, y6, vs, rfl, s2, hF, hvs⟩ nT
      obtain ⟨r, hr1, hr2⟩ := hws.back hy
      have hi : i < rs.length := (List.getElem?_eq_some_iff.mp hr1).1
      have er : rowAt rs i = r := Option.some.inj ((rowAt_get hi).symm.trans hr1)
      have ro := ho r (List.mem_of_getElem? hr1)
      rw [List.getElem?_map] at hx
      obtain ⟨b, hb, rfl⟩ := Option.map_eq_some_iff.mp hx
      have eb : d.getD i false = b := by rw [List.getD_eq_getElem?_getD, hb] <;> rfl
      rw [ledTo_snoc] at hvs
      have hvs' := hvs
      obtain ⟨us, v0, rfl, _, hv0⟩ := hvs'.last
      obtain ⟨p1, rfl, hp1⟩ := id hv0
      have so : Shs n (st n rs d i) := st_ok ho i (by omega)
      refine ⟨T, _, rfl, .of upd_same, rfl, _, _, rfl, _, _, rfl, rfl, ?_⟩
      have s3 : Same H2 (upd H2 T (.tup [.bl b, y])) := same_new nT
      generalize upd H2 T (.tup [.bl b, y]) = H3 at s3 ⊢
      obtain ⟨p2, rfl, hp2⟩ := im_row.tk (tk_same (s2.trans s3)) hr2
      refine ⟨_, rfl, _, rfl, F, _, -1, _, rfl, rfl, .of (s3 _ _ hF), atI_last _ _, p1, _, rfl, .inr (.of (s3 _ _ hp1)), fun N nN => ?_⟩
      have s4 : Same H3 (upd H3 N (.lst ((st n rs d i).map V.int))) := same_new nN
      have hp2' := s4 _ _ hp2
      have hN0 : (upd H3 N (.lst ((st n rs d i).map V.int))) N = some (.lst ((st n rs d i).map V.int)) := upd_same
      have nFN : F ≠ N := ne_of_none (s3 _ _ hF) nN
      generalize upd H3 N (.lst ((st n rs d i).map V.int)) = H4 at s4 hp2' hN0 ⊢
      refine ⟨_, rfl, b, rfl, ?_⟩
      refine if_join (fun σ' H' => σ' = [some (.int (n : Nat)), some (.ref pv'), some (.ref pu), some (.ref F), some (.bl b), some (.ref p2), some (.ref N)] ∧ Same H3 H' ∧ H' N = some (.lst ((mv b (st n rs d i) r).map V.int))) ?_ ?_ ?_
      · rintro rfl D' k
        have e0 : atI [V.int (r.x : Nat), V.int (r.y : Nat), V.bl r.s] 0 = some (V.int (r.x : Nat)) := atI_nat (j := 0) rfl
        have e1 : atI [V.int (r.x : Nat), V.int (r.y : Nat), V.bl r.s] 1 = some (V.int (r.y : Nat)) := atI_nat (j := 1) rfl
        refine ⟨_, rfl, _, rfl, p2, _, 1, _, rfl, rfl, .of hp2', e1, N, _, (r.y : Nat), _, rfl, rfl, .of hN0, atI_nat (get_int (by rw [so.len]; exact ro.y)), _, rfl, _, rfl, p2, _, 0, _, rfl, rfl, .of hp2', e0, N, _, (r.x : Nat), r.x, rfl, rfl, hN0, ?_, ?_⟩
        · unfold ixN
          rw [if_pos (by omega), if_pos (by rw [List.length_map, so.len]; have := ro.x; omega)]
          simp
        · refine k _ _ ⟨rfl, fun c o e => ?_, ?_⟩
          · rw [upd_ne (ne_of_none e nN)]
            exact s4 _ _ e
          · rw [upd_same]
            unfold mv cp
            rw [if_pos rfl, List.map_set]
      · rintro rfl D' k
        exact k _ _ ⟨rfl, s4, hN0⟩
      · rintro σ' H5 ⟨rfl, s5, hN5⟩
        refine ⟨_, rfl, .inl ⟨rfl, _, .of (s5 _ _ (s3 _ _ hF))⟩, _, rfl, N, _, rfl, .inl ⟨.of hN5, fun l nl => ?_⟩⟩
        have s6 : Same H5 (upd H5 l (.tup ((mv b (st n rs d i) r).map V.int))) := same_new nl
        have sA := (s3.trans s5).trans s6
        refine ⟨F, _, _, rfl, rfl, sA _ _ hF, ?_, _, _, _, _, rfl, fun c o e => ?_, upd_same, ?_⟩
        · have := hvs.len
          rw [this, List.length_append, ledTo_len]
          exact line_lt (by simp; omega)
        · rw [upd_ne (ne_of_none e nFH)]
          exact sA _ _ (s2 _ _ e)
        · rw [ledTo_snoc, ledTo_snoc]
          have tk : Tk H2 (upd (upd H5 l (.tup ((mv b (st n rs d i) r).map V.int))) F (.lst (us ++ [V.ref p1] ++ [V.ref l]))) := (tk_same sA).trans (tk_lst (sA _ _ hF))
          refine (hvs.imp fun _ _ z => im_it.tk tk z).snoc ⟨l, rfl, ?_⟩
          rw [upd_ne (ne_of_none (s5 _ _ (s3 _ _ hF)) nl).symm, upd_same]
          show _ = some (HO.tup ((mv (d.getD i false) (st n rs d i) (rowAt rs i)).map V.int))
          rw [eb, er]
    · rintro σ H2 ⟨y4, y5, y6, vs, rfl, s2, hF, hvs⟩
      refine ⟨_, rfl, q F H2 s2 nFH ⟨vs, hF, ?_⟩⟩
      rw [List.length_map, hl] at hvs
      exact hvs
end
end K70

set_option maxRecDepth 100000
set_option maxHeartbeats 4000000
/-! all doings, a drawn doing, finds -/
namespace K70
open PySem PySem.Spec PyProof.Rows L2
theorem allD_snoc {rs : List Row} {i : Nat} {r : Row} (h : rs[i]? = some r) : allD (rs.take (i + 1)) = growD (allD (rs.take i)) r := by
  rw [← grow_eq, ← grow_eq, take_snoc h, List.foldl_append] <;> rfl
theorem allD_len : ∀ (rs : List Row), (allD rs).length ≤ 2 ^ rs.length := fun rs => by
  have h : ∀ i, i ≤ rs.length → (allD (rs.take i)).length ≤ 2 ^ i := fun i => by
    induction i with
    | zero => exact fun _ => by rw [← grow_eq] <;> simp
    | succ i ih =>
      intro hi
      have hg : rs[i]? = some rs[i] := List.getElem?_eq_getElem (by omega)
      rw [allD_snoc hg]
      have h1 := growD_len rs (allD (rs.take i)) rs[i]
      have h2 := ih (by omega)
      rw [Nat.pow_succ]
      omega
  have := h rs.length (Nat.le_refl _)
  rw [List.take_of_length_le (Nat.le_refl _)] at this
  exact this
theorem growD_snoc (acc : List (List Bool)) (d : List Bool) (r : Row) : growD (acc ++ [d]) r = growD acc r ++ (opts r).map fun b => d ++ [b] := by
  unfold growD
  rw [List.flatMap_append] <;> simp
section
variable {P : Program} {w : World} {K : PySem.W.Frag} {mg : Str → Option Value} {base : Heap}
def spDoings : Sp := fun vs H Q _ => ∃ (v : V) (rs : List Row), vs = [v] ∧ RowsV H v rs ∧ rs.length ≤ 8 ∧ ∀ p H', Same H H' → H p = none → LstAt BT H' p (allD rs) → Q (.ref p) H'
theorem ok_doings (D : Stn K mg "_law_doings" sLawDoings ["_law_rows_here"]) (M : Mg mg) : Ok P w K mg base 1 "_law_doings" spDoings := by
  refine ok_of D scLawDoings (fun vs H Q E h => ?_) (fun f cdv A outer s H vs Q E hr h => ?_)
  · obtain ⟨v, rs, rfl, _⟩ := h
    rfl
  · obtain ⟨v, rs, rfl, hv, h8, q⟩ := h
    obtain ⟨pr, ws, rfl, hpr, hws⟩ := id hv
    refine ⟨_, pss_cons (ps_set (i := 1) scLawDoings.nd rfl (.inl rfl) (pe_lst (pa_cons (pe_tup pa_nil) pa_nil)))
      (pss_cons (ps_for PassesOwn.never rfl (pi_seq (pv 0)) (pg_name (i := 2) scLawDoings.nd rfl (.inl rfl))
        (pss_cons (ps_set (i := 3) scLawDoings.nd rfl (.inl rfl) (pe_lst pa_nil))
        (pss_cons (ps_for PassesOwn.never rfl (pi_list (pv 1)) (pg_name (i := 4) scLawDoings.nd rfl (.inl rfl))
          (pss_cons (ps_if (pt_not (pt_val (pe_ix ix_tup (pv 2) pe_int (fun _ _ => rfl)))) (pss_one (ps_expr (pe_bm PySem.F.plainAttrs_list PySem.F.slot_list_append PySem.F.type_list_append mt_append (pv 3) (pa_cons (pe_op op_catA (pv 4) (pe_tup (pa_cons pe_bl pa_nil))) pa_nil)))) pss_nil)
          (pss_one (ps_expr (pe_bm PySem.F.plainAttrs_list PySem.F.slot_list_append PySem.F.type_list_append mt_append (pv 3) (pa_cons (pe_op op_catA (pv 4) (pe_tup (pa_cons pe_bl pa_nil))) pa_nil))))))
        (pss_one (ps_set (i := 1) scLawDoings.nd rfl (.inl rfl) (pv 3))))))
      (pss_one (ps_ret (pv 1)))), ?_⟩
    refine ⟨Nat.zero_le _, fun p0 n0 => ⟨(by show 1 ≤ sizeLine; decide), fun F nF => ?_⟩⟩
    have s0 : Same H (upd H p0 (.tup [])) := same_new n0
    have s1 := s0.trans (same_new (o := .lst [V.ref p0]) nF)
    have h0 : BT (upd (upd H p0 (.tup [])) F (.lst [V.ref p0])) (.ref p0) [] := ⟨p0, rfl, same_new nF _ _ upd_same⟩
    have hF0 : (upd (upd H p0 (.tup [])) F (.lst [V.ref p0])) F = some (.lst [V.ref p0]) := upd_same
    have nFH : H F = none := s0.free nF
    generalize upd (upd H p0 (.tup [])) F (.lst [V.ref p0]) = H1 at s1 h0 hF0 ⊢
    refine ⟨_, rfl, pr, ws, rfl, .inr (s1 _ _ hpr), fun J wk => for_it wk (fun i σ H2 => ∃ y2 y3 y4 F, σ = [some (.ref pr), some (.ref F), y2, y3, y4] ∧ Same H H2 ∧ H F = none ∧ LstAt BT H2 F (allD (rs.take i)))
      ⟨none, none, none, F, rfl, s1, nFH, _, hF0, All2.nil.snoc h0⟩ ?_ ?_ ?_⟩
    · rintro i σ H2 _ ⟨_, _, _, _, _, s2, _⟩
      show H2 pr = H1 pr
      rw [s2 _ _ hpr, s1 _ _ hpr]
    · rintro i v0 σ H3 H2 hi ⟨y2, y3, y4, F, rfl, s2, nFH, vs, hF, hvs⟩ ⟨rfl, hv0⟩
      obtain ⟨r, hr1, hr2⟩ := hws.back hv0
      obtain ⟨p2, rfl, hp2⟩ := im_row.tk (tk_same s2) hr2
      have hi8 : i < 8 := by have := hi; rw [hws.len] at this; omega
      have hacc : (allD (rs.take i)).length ≤ 256 := by
        have h1 := allD_len (rs.take i)
        have h2 : (rs.take i).length ≤ 8 := by rw [List.length_take]; omega
        have h3 : 2 ^ (rs.take i).length ≤ 2 ^ 8 := Nat.pow_le_pow_right (by decide) h2
        omega
      refine ⟨Nat.zero_le _, fun L nL => ?_⟩
      have s3 : Same H2 (upd H2 L (.lst [])) := same_new nL
      have hL0 : (upd H2 L (.lst [])) L = some (.lst []) := upd_same
      have nFL : F ≠ L := ne_of_none hF nL
      generalize upd H2 L (.lst []) = H3 at s3 hL0 ⊢
      have e2 : atI [V.int (r.x : Nat), V.int (r.y : Nat), V.bl r.s] 2 = some (V.bl r.s) := atI_nat (j := 2) rfl
      refine ⟨_, rfl, F, rfl, ⟨_, .of (s3 _ _ hF)⟩, for_list (Pv := fun j σ H4 => ∃ y4 us, σ = [some (.ref pr), some (.ref F), some (.ref p2), some (.ref L), y4] ∧ Same H2 H4 ∧ H4 L = some (.lst us) ∧ All2 (BT H4) us (growD ((allD (rs.take i)).take j) r))
        ⟨_, [], rfl, s3, hL0, .nil⟩ (fun j σ H4 _ ⟨_, _, _, s4, _⟩ => .of (s4 _ _ hF)) ?_ ?_⟩
      · rintro j x σ H4 hx ⟨y4, us, rfl, s4, hL, hus⟩
        obtain ⟨d, hd1, hd2⟩ := hvs.back hx
        have hdl : d.length ≤ 8 := by
          have h1 := (mem_allD.mp (List.mem_of_getElem? hd1)).1
          rw [h1, List.length_take]
          omega
        have hul : us.length ≤ 512 := by
          have h1 := hus.len
          have h2 := growD_len rs ((allD (rs.take i)).take j) r
          have h3 := List.length_take_le' j (allD (rs.take i))
          omega
        refine ⟨_, rfl, p2, _, 2, _, rfl, rfl, .of (s4 _ _ hp2), e2, r.s, rfl, ?_⟩
        refine if_join (fun σ' H' => σ' = [some (.ref pr), some (.ref F), some (.ref p2), some (.ref L), some x] ∧ Same H2 H' ∧ ∃ us', H' L = some (.lst us') ∧ us'.length ≤ 513 ∧ All2 (BT H') us' (growD ((allD (rs.take i)).take j) r ++ if r.s = true then [] else [d ++ [false]])) ?_ ?_ ?_
        · intro hns D' k
          have hns : r.s = false := by cases e : r.s <;> simp [e] at hns <;> rfl
          refine ⟨_, rfl, .inl ⟨rfl, _, .of hL⟩, _, rfl, (by show 1 ≤ sizeLine; decide), fun T nT => ?_⟩
          have s5 : Same H4 (upd H4 T (.tup [.bl false])) := same_new nT
          refine cat_bt (im_bt.tk (tk_same (s4.trans s5)) hd2) upd_same (by omega) fun z H5 s6 hz => ?_
          have s56 := s5.trans s6
          refine ⟨L, us, _, rfl, rfl, s56 _ _ hL, line_lt (by omega), k _ _ ⟨rfl, fun b o e => ?_, _, upd_same, by simp; omega, ?_⟩⟩
          · rw [upd_ne (ne_of_none e nL)]
            exact s56 _ _ (s4 _ _ e)
          · rw [hns, if_neg (by decide)]
            exact (hus.imp fun _ _ z => im_bt.tk ((tk_same s56).trans (tk_lst (s56 _ _ hL))) z).snoc (im_bt.tk (tk_lst (s56 _ _ hL)) hz)
        · intro hs D' k
          have hs : r.s = true := by cases e : r.s <;> simp [e] at hs <;> rfl
          refine k _ _ ⟨rfl, s4, us, hL, by omega, ?_⟩
          rw [hs, if_pos rfl, List.append_nil]
          exact hus
        · rintro σ' H5 ⟨rfl, s5, us', hL5, hl5, hus5⟩
          refine ⟨_, rfl, .inl ⟨rfl, _, .of hL5⟩, _, rfl, (by show 1 ≤ sizeLine; decide), fun T nT => ?_⟩
          have s6 : Same H5 (upd H5 T (.tup [.bl true])) := same_new nT
          refine cat_bt (im_bt.tk (tk_same (s5.trans s6)) hd2) upd_same (by omega) fun z H6 s7 hz => ?_
          have s67 := s6.trans s7
          refine ⟨L, us', _, rfl, rfl, s67 _ _ hL5, line_lt (by omega), _, _, rfl, fun b o e => ?_, upd_same, ?_⟩
          · rw [upd_ne (ne_of_none e nL)]
            exact s67 _ _ (s5 _ _ e)
          · rw [take_snoc hd1, growD_snoc]
            have tk := (tk_same s67).trans (tk_lst (o := .lst (us' ++ [z])) (s67 _ _ hL5))
            have := (hus5.imp fun _ _ z => im_bt.tk tk z).snoc (im_bt.tk (tk_lst (o := .lst (us' ++ [z])) (s67 _ _ hL5)) hz)
            rcases opts_cases r with ⟨hs, e⟩ | ⟨hs, e⟩
            · rw [hs, if_pos rfl, List.append_nil] at this
              rw [e]
              exact this
            · rw [hs, if_neg (by decide), List.append_assoc] at this
              rw [e]
              exact this
      · rintro σ H4 ⟨y4, us, rfl, s4, hL, hus⟩
        rw [List.take_of_length_le (by rw [← hvs.len]; exact Nat.le_refl _)] at hus
        refine ⟨_, rfl, _, _, _, _, rfl, s2.trans s4, s2.free nL, us, hL, ?_⟩
        rw [allD_snoc hr1]
        exact hus
    · rintro σ H2 ⟨y2, y3, y4, F, rfl, s2, nFH, hF⟩
      rw [List.take_of_length_le (by rw [← hws.len]; exact Nat.le_refl _)] at hF
      exact ⟨_, rfl, q F H2 s2 nFH hF⟩
def spSome : Sp := fun vs H Q _ => ∃ (h cs : Addr) (v : V) (rs : List Row), vs = [.ref h, v] ∧ HandAt cs H h ∧ RowsV H v rs ∧ rs.length ≤ 60 ∧ ∀ u d H', But h H H' → HandAt cs H' h → BT H' u d → isD rs d → Q u H'
theorem ok_some (D : Stn K mg "_law_some_doing" sLawSomeDoing ["_law_hand_here", "_law_rows_here"]) (M : Mg mg) (G : Ok P w K mg base 1 "_law_draw" spDraw) : Ok P w K mg base 2 "_law_some_doing" spSome := by
  refine ok_of D scLawSomeDoing (fun vs H Q E h => ?_) (fun f cdv A outer s H vs Q E hr h => ?_)
  · obtain ⟨h, cs, v, rs, rfl, _⟩ := h
    rfl
  · obtain ⟨h, cs, v, rs, rfl, hh, hv, h60, q⟩ := h
    obtain ⟨pr, ws, rfl, hpr, hws⟩ := id hv
    refine ⟨_, pss_one (ps_ret (pe_callTy call_tuple_of (by rfl) M.tuple bi_tuple (pa_cons
        (pe_lc (own := [("_law_row_here", 2)]) (g := gName 2) (tt := tYes) (te := tOrV (tOp (rIxT K) (tVar 2) (tC (.int 2))) (tOp rEq (tCall spDraw [] E0 (tCons (tVar 0) (tCons (tC (.int 2)) tNil))) (tC (.int 0)))) rfl scLawSomeDoing.nd (pi_seq (pv 1)) (blkOk_by (N := nLawSomeDoing) (sc := defScope sLawSomeDoing) (by decide +kernel))
          (fun _ _ _ _ _ => pg_name (i := 2) scLawSomeDoing.nd rfl (.inl rfl)) (fun _ _ _ _ _ => pts_nil)
          (fun _ _ _ _ _ => pe_or (pe_ix ix_tup (pv 2) pe_int (fun _ _ => rfl)) (pe_one (pe_cmpR op_eq (pe_f G hr (pa_cons (pv 0) (pa_cons pe_int pa_nil))) pe_int (nomark _))))) pa_nil))), ?_⟩
    refine ⟨_, rfl, pr, ws, rfl, .inr hpr, fun J wk D nD => ?_⟩
    obtain ⟨hDh, hcD⟩ := hh.new nD
    refine lc_it wk (fun i H2 => But h H H2 ∧ HandAt cs H2 h ∧ ∃ bs : List Bool, H2 D = some (.lst (bs.map V.bl)) ∧ bs.length = i ∧ ∀ j b, bs[j]? = some b → (rowAt rs j).s = true → b = true)
      ⟨But.same (same_new nD), hh.same (same_new nD), [], upd_same, rfl, fun j b e => by simp at e⟩ ?_ ?_ ?_
    · rintro i H2 _ ⟨b2, hh2, _⟩
      show H2 pr = H pr
      rw [b2.tkH hh _ _ hpr, hpr]
    · rintro i x H2 H3 hi ⟨b3, hh3, bs, hD, hl, hb⟩ ⟨rfl, hx⟩
      obtain ⟨r, hr1, hr2⟩ := hws.back hx
      obtain ⟨p2, rfl, hp2⟩ := im_row.tk (b3.tkH hh) hr2
      have hir : i < rs.length := (List.getElem?_eq_some_iff.mp hr1).1
      have er : rowAt rs i = r := Option.some.inj ((rowAt_get hir).symm.trans hr1)
      have e2 : atI [V.int (r.x : Nat), V.int (r.y : Nat), V.bl r.s] 2 = some (V.bl r.s) := atI_nat (j := 2) rfl
      have put : ∀ (H4 : Hp) (b : Bool), But h H3 H4 → HandAt cs H4 h → (r.s = true → b = true) → ∃ acc, H4 D = some (.lst acc) ∧ acc.length < sizeLine ∧ (fun i H2 => But h H H2 ∧ HandAt cs H2 h ∧ ∃ bs : List Bool, H2 D = some (.lst (bs.map V.bl)) ∧ bs.length = i ∧ ∀ j b, bs[j]? = some b → (rowAt rs j).s = true → b = true) (i + 1) (upd H4 D (.lst (acc ++ [V.bl b]))) := fun H4 b b4 hh4 hrb => by
        refine ⟨_, b4 _ _ hDh hD, by rw [List.length_map, hl]; exact line_lt (by omega), fun c o hc e => ?_, hh4.push hDh hcD, bs ++ [b], by rw [upd_same, List.map_append] <;> rfl, by simp [hl], fun j b' e hs => ?_⟩
        · rw [upd_ne (ne_of_none e nD)]
          exact b4 _ _ hc (b3 _ _ hc e)
        · by_cases hj : j < bs.length
          · rw [List.getElem?_append_left hj] at e
            exact hb j b' e hs
          · have ej : j = bs.length := by
              have := (List.getElem?_eq_some_iff.mp e).1
              simp at this
              omega
            rw [ej] at e
            simp at e
            rw [← e]
            rw [ej, hl, er] at hs
            exact hrb hs
      refine ⟨rfl, _, rfl, p2, _, 2, _, rfl, rfl, .of hp2, e2, r.s, rfl, ?_⟩
      refine ite2 (fun hs => ?_) (fun hs => ?_)
      · exact put _ true (But.refl _ _) hh3 fun _ => rfl
      · exact ⟨_, rfl, h, cs, 2, rfl, by decide, by decide, hh3, fun d H4 hd b4 hh4 => ⟨rfl, put _ _ b4 hh4 fun z => absurd z hs⟩⟩
    · rintro H2 ⟨b2, hh2, bs, hD, hl, hb⟩
      refine ⟨D, _, rfl, .inl ⟨.of hD, fun l nl => ?_⟩⟩
      have s3 : Same H2 (upd H2 l (.tup (bs.map V.bl))) := same_new nl
      refine q _ bs _ (b2.trans (But.same s3)) (hh2.same s3) ⟨l, rfl, upd_same⟩ ⟨by rw [hl, hws.len], fun i hs hi => ?_⟩
      have hg : bs[i]? = some (bs[i]'(by rw [hl, hws.len]; exact hi)) := List.getElem?_eq_getElem _
      rw [List.getD_eq_getElem?_getD, hg]
      exact hb i _ hg hs
def spFinds : Sp := fun vs H Q _ => ∃ (h cs : Addr) (n m o : Nat) (v : V) (rs : List Row), vs = [.ref h, .int (n : Nat), v, .int (m : Nat), .int (o : Nat)] ∧ HandAt cs H h ∧ RowsV H v rs ∧ 1 ≤ n ∧ n ≤ 12 ∧ m ≤ 40 ∧ 1 ≤ o ∧ o ≤ 100 ∧ rs.length ≤ 60 ∧ (∀ r ∈ rs, RowOk n r) ∧
  ∀ p fs H', But h H H' → H p = none → HandAt cs H' h → LstAt FndV H' p fs → fs.length ≤ m → (∀ f ∈ fs, FndOk n rs.length f) → Q (.ref p) H'
theorem ok_finds (D : Stn K mg "_law_finds" sLawFinds ["_law_hand_here", "_law_offices", "_law_rows_here", "_law_most", "_law_odd"]) (M : Mg mg) (G1 : Ok P w K mg base 1 "_law_draw" spDraw) (G2 : Ok P w K mg base 1 "_law_led" spLed) (G3 : Ok P w K mg base 2 "_law_some_doing" spSome) :
    Ok P w K mg base 3 "_law_finds" spFinds := by
  refine ok_of D scLawFinds (fun vs H Q E h => ?_) (fun f cdv A outer s H vs Q E hr h => ?_)
  · obtain ⟨h, cs, n, m, o, v, rs, rfl, _⟩ := h
    rfl
  · obtain ⟨h, cs, n, m, o, v, rs, rfl, hh, hv, hn1, hn, hm, ho1, ho, h60, hro, q⟩ := h
    obtain ⟨pr, ws, rfl, hpr, hws⟩ := id hv
    refine ⟨_, pss_cons (ps_set (i := 5) scLawFinds.nd rfl (.inl rfl) (pe_f G2 hr (pa_cons (pv 1) (pa_cons (pv 2) (pa_cons (pe_f G3 hr (pa_cons (pv 0) (pa_cons (pv 2) pa_nil))) pa_nil)))))
      (pss_cons (ps_set (i := 6) scLawFinds.nd rfl (.inl rfl) (pe_lst pa_nil))
      (pss_cons (ps_for PassesOwn.never rfl (pi_range1 (by rfl) M.range (pa_cons (pe_f G1 hr (pa_cons (pv 0) (pa_cons (pe_op op_add (pv 3) pe_int) pa_nil))) pa_nil)) (pg_name (i := 7) scLawFinds.nd rfl (.inl rfl))
        (pss_cons (ps_set (i := 8) scLawFinds.nd rfl (.inl rfl) (pe_f G1 hr (pa_cons (pv 0) (pa_cons (pe_op op_add (pe_callB call_len_seq (by rfl) M.len PySem.boot_len (pa_cons (pv 2) pa_nil)) pe_int) pa_nil))))
        (pss_cons (ps_set (i := 9) scLawFinds.nd rfl (.inl rfl) (pe_f G1 hr (pa_cons (pv 0) (pa_cons (pv 1) pa_nil))))
        (pss_cons (ps_set (i := 10) scLawFinds.nd rfl (.inl rfl) (pe_ix ix_tup (pe_ix ix_list (pv 5) (pv 8) (fun _ _ => rfl)) (pv 9) (fun _ _ => rfl)))
        (pss_cons (ps_if (pt_cmpR op_eq (pe_f G1 hr (pa_cons (pv 0) (pa_cons (pv 4) pa_nil))) pe_int (nomark _)) (pss_one (ps_set (i := 10) scLawFinds.nd rfl (.inl rfl) (pe_f G1 hr (pa_cons (pv 0) (pa_cons (pv 1) pa_nil))))) pss_nil)
        (pss_one (ps_expr (pe_bm PySem.F.plainAttrs_list PySem.F.slot_list_append PySem.F.type_list_append mt_append (pv 6) (pa_cons (pe_tup (pa_cons (pv 8) (pa_cons (pv 9) (pa_cons (pv 10) pa_nil)))) pa_nil)))))))))
      (pss_one (ps_ret (pv 6))))), ?_⟩
    refine ⟨_, rfl, _, rfl, _, rfl, _, rfl, h, cs, .ref pr, rs, rfl, hh, hv, h60, fun u d H1 b1 hh1 hu hd => ?_⟩
    have hv1 := (im_tup im_row).tk (b1.tkH hh) hv
    refine ⟨n, .ref pr, u, rs, d, rfl, hv1, hu, hd.1, hn, h60, hro, fun Lp H2 s2 nLp hLp => ⟨Nat.zero_le _, fun F nF => ?_⟩⟩
    have b2 : But h H H2 := b1.trans (But.same s2)
    have hh2 := hh1.same s2
    obtain ⟨vl, hLl, hLa⟩ := hLp
    have hLh : Lp ≠ h := fun e => by
      obtain ⟨xs, hx⟩ := hh1.lst
      rw [e, hx] at nLp
      cases nLp
    obtain ⟨hFh, hcF⟩ := hh2.new nF
    have hFL : F ≠ Lp := fun e => by rw [e, hLl] at nF; cases nF
    have s3 : Same H2 (upd H2 F (.lst [])) := same_new nF
    have nFH : H F = none := by
      cases e : H F with
      | none => rfl
      | some z =>
        have := b2 _ _ hFh e
        rw [nF] at this
        cases this
    refine ⟨_, rfl, _, rfl, _, _, rfl, rfl, h, cs, m + 1, rfl, by omega, by omega, hh2.same s3, fun t H3 ht b3 hh3 => ⟨_, rfl, by omega, by omega, ?_⟩⟩
    have et : ((t : Nat) : Int).toNat = t := by omega
    rw [et]
    have b23 : But h H2 H3 := (But.same s3).trans b3
    refine for_range (lo := 0) (n := t) (fun i σ H4 => ∃ y7 y8 y9 y10 us fs, σ = [some (.ref h), some (.int (n : Nat)), some (.ref pr), some (.int (m : Nat)), some (.int (o : Nat)), some (.ref Lp), some (.ref F), y7, y8, y9, y10] ∧ But h H2 H4 ∧ HandAt cs H4 h ∧ H4 F = some (.lst us) ∧ All2 (FndV H4) us fs ∧ fs.length = i ∧ ∀ f ∈ fs, FndOk n rs.length f)
      ⟨none, none, none, none, [], [], rfl, b23, hh3, b3 _ _ hFh upd_same, .nil, rfl, fun _ z => (nomatch z)⟩ ?_ ?_
    · rintro i σ H4 hi ⟨y7, y8, y9, y10, us, fs, rfl, b4, hh4, hF, hus, hl, hfo⟩
      have tk4 := b4.tkH hh2
      obtain ⟨pr', ws', ew, hpr4, hws4⟩ := (im_tup im_row).tk ((b1.tkH hh).trans ((tk_same s2).trans tk4)) hv
      cases ew
      refine ⟨_, rfl, _, rfl, pr, _, rfl, .inr (.of hpr4), _, _, rfl, rfl, h, cs, rs.length + 1, by rw [hws4.len] <;> rfl, by omega, by omega, hh4, fun mo H5 hmo b5 hh5 => ?_⟩
      refine ⟨_, rfl, _, rfl, h, cs, n, rfl, by omega, by omega, hh5, fun of' H6 hof b6 hh6 => ?_⟩
      have b46 := b5.trans b6
      have b26 := b4.trans b46
      obtain ⟨vst, hvs1, hvs2⟩ := hLa.get (led_get (n := n) (d := d) (show mo ≤ rs.length by omega))
      obtain ⟨pst, rfl, hpst⟩ := im_it.tk (b26.tkH hh2) hvs2
      have so : Shs n (st n rs d mo) := st_ok hro mo (by omega)
      refine ⟨_, rfl, _, rfl, Lp, _, (mo : Nat), _, rfl, rfl, .of (b26 _ _ hLh hLl), atI_nat hvs1, _, rfl, pst, _, (of' : Nat), _, rfl, rfl, .of hpst, atI_nat (get_int (by rw [so.len]; exact hof)), ?_⟩
      refine ⟨_, rfl, _, rfl, h, cs, o, rfl, by omega, by omega, hh6, fun od H7 hod b7 hh7 => ⟨rfl, _, rfl, ?_⟩⟩
      refine if_join (fun σ' H' => ∃ e : Int, σ' = [some (.ref h), some (.int (n : Nat)), some (.ref pr), some (.int (m : Nat)), some (.int (o : Nat)), some (.ref Lp), some (.ref F), some (.int (0 + (i : Nat))), some (.int (mo : Nat)), some (.int (of' : Nat)), some (.int e)] ∧ 0 ≤ e ∧ e < n ∧ But h H4 H' ∧ HandAt cs H' h) ?_ ?_ ?_
      · intro _ D' k
        exact ⟨_, rfl, _, rfl, h, cs, n, rfl, by omega, by omega, hh7, fun e H8 he b8 hh8 => k _ _ ⟨_, rfl, by omega, by omega, (b46.trans b7).trans b8, hh8⟩⟩
      · intro _ D' k
        exact k _ _ ⟨_, rfl, so.low _ hof, so.high _ hof, b46.trans b7, hh7⟩
      · rintro σ' H8 ⟨e, rfl, he0, hen, b8, hh8⟩
        have hF8 := b8 _ _ hFh hF
        refine ⟨_, rfl, .inl ⟨rfl, _, .of hF8⟩, _, rfl, _, rfl, _, rfl, (by show 3 ≤ sizeLine; decide), fun T nT => ?_⟩
        have s9 : Same H8 (upd H8 T (.tup [.int (mo : Nat), .int (of' : Nat), .int e])) := same_new nT
        have tk : Tk H4 (upd (upd H8 T (.tup [.int (mo : Nat), .int (of' : Nat), .int e])) F (.lst (us ++ [.ref T]))) := ((b8.tkH hh4).trans (tk_same s9)).trans (tk_lst (s9 _ _ hF8))
        refine ⟨F, us, _, rfl, rfl, s9 _ _ hF8, by rw [hus.len, hl]; exact line_lt (by omega), _, _, _, _, us ++ [.ref T], fs ++ [⟨mo, of', e⟩], rfl, fun c o' hc ec => ?_, (hh8.same s9).push hFh hcF, upd_same, (hus.imp fun _ _ z => im_fnd.tk tk z).snoc ⟨T, rfl, ?_⟩, by simp [hl], fun f z => ?_⟩
        · rw [upd_ne (ne_of_none ec nF)]
          exact s9 _ _ (b8 _ _ hc (b4 _ _ hc ec))
        · exact tk_lst (s9 _ _ hF8) _ _ upd_same
        · rcases List.mem_append.mp z with z | z
          · exact hfo f z
          · rw [List.mem_singleton.mp z]
            exact ⟨by show mo ≤ _; omega, hof, he0, hen⟩
    · rintro σ H4 ⟨y7, y8, y9, y10, us, fs, rfl, b4, hh4, hF, hus, hl, hfo⟩
      exact ⟨_, rfl, q F fs H4 (b2.trans b4) nFH hh4 ⟨us, hF, hus⟩ (by omega) hfo⟩
end
end K70

set_option maxRecDepth 100000
set_option maxHeartbeats 4000000
/-! whether finds are true; the good doings; what is due -/
namespace K70
open PySem PySem.Spec PyProof.Rows L2
def GdV (H : Hp) (v : V) (d : List Bool) : Prop := ∃ p u l, v = .ref p ∧ H p = some (.tup [u, l]) ∧ BT H u d
theorem im_gd : Im GdV := fun _ _ _ _ t ⟨p, u, l, e, h, i⟩ => ⟨p, u, l, e, t _ _ h, im_bt.tk t i⟩
theorem vd_all (fs : List Fnd) (n : Nat) (rs : List Row) (d : List Bool) : (fs.map fun f => decide ((st n rs d f.m).getD f.o 0 = f.e)).all id = vd fs n rs d := by
  unfold vd
  rw [List.all_map] <;> rfl
section
variable {P : Program} {w : World} {K : PySem.W.Frag} {mg : Str → Option Value} {base : Heap}
def spTrue : Sp := fun vs H Q _ => ∃ (L F : Addr) (n : Nat) (rs : List Row) (d : List Bool) (fs : List Fnd), vs = [.ref L, .ref F] ∧ LstAt IT H L (led n rs d) ∧ LstAt FndV H F fs ∧ (∀ f ∈ fs, FndOk n rs.length f) ∧ (∀ r ∈ rs, RowOk n r) ∧ fs.length ≤ 40 ∧ ∀ H', Same H H' → Q (.bl (vd fs n rs d)) H'
theorem ok_true (D : Stn K mg "_law_are_true" sLawAreTrue ["_law_led_here", "_law_finds_here"]) (M : Mg mg) : Ok P w K mg base 1 "_law_are_true" spTrue := by
  refine ok_of D scLawAreTrue (fun vs H Q E h => ?_) (fun f cdv A outer s H vs Q E hr h => ?_)
  · obtain ⟨L, F, n, rs, d, fs, rfl, _⟩ := h
    rfl
  · obtain ⟨L, F, n, rs, d, fs, rfl, ⟨ls, hL, hls⟩, ⟨us, hF, hus⟩, ho, hro, h40, q⟩ := h
    refine ⟨_, pss_one (ps_ret (pe_callB (cr_all rfl) (by rfl) M.all bi_all (pa_cons
      (pe_lc (own := [("_law_moment", 2), ("_law_office", 3), ("_law_edition", 4)]) (g := gTup K 3 (gCons (gName 2) (gCons (gName 3) (gCons (gName 4) gNil)))) (tt := tYes) (te := tOp rEq (tOp (rIxT K) (tOp (rIxL K) (tVar 0) (tVar 2)) (tVar 3)) (tVar 4)) rfl scLawAreTrue.nd (pi_list (pv 1)) (blkOk_by (N := nLawAreTrue) (sc := defScope sLawAreTrue) (by decide +kernel))
        (fun _ _ _ _ _ => pg_tup rfl (pgs_cons (pg_name (i := 2) scLawAreTrue.nd rfl (.inl rfl)) (pgs_cons (pg_name (i := 3) scLawAreTrue.nd rfl (.inl rfl)) (pgs_cons (pg_name (i := 4) scLawAreTrue.nd rfl (.inl rfl)) pgs_nil)))) (fun _ _ _ _ _ => pts_nil)
        (fun _ _ _ _ _ => pe_cmpR op_eq (pe_ix ix_tup (pe_ix ix_list (pv 0) (pv 2) (fun _ _ => rfl)) (pv 3) (fun _ _ => rfl)) (pv 4) (nomark _))) pa_nil))), ?_⟩
    refine ⟨_, rfl, F, rfl, ⟨us, .of hF⟩, fun D nD => lc_list (K := K) (a := F) (xs := us) (fun i H2 => Same H H2 ∧ H2 D = some (.lst (((fs.take i).map fun f => decide ((st n rs d f.m).getD f.o 0 = f.e)).map V.bl))) ⟨same_new nD, upd_same⟩ (fun i H2 _ ⟨s2, _⟩ => .of (s2 _ _ hF)) ?_ ?_⟩
    · rintro i x H2 hx ⟨s2, hD⟩
      obtain ⟨g, hg1, hg2⟩ := hus.back hx
      have go := ho g (List.mem_of_getElem? hg1)
      obtain ⟨b, rfl, hb⟩ := im_fnd.tk (tk_same s2) hg2
      obtain ⟨v1, hv1, hv2⟩ := hls.get (led_get (n := n) (d := d) go.m)
      obtain ⟨p1, rfl, hp1⟩ := im_it.tk (tk_same s2) hv2
      have so : Shs n (st n rs d g.m) := st_ok hro g.m go.m
      refine ⟨b, _, rfl, .of hb, rfl, _, _, rfl, _, _, rfl, _, _, rfl, rfl, rfl, ?_⟩
      refine ⟨_, rfl, _, rfl, L, _, (g.m : Nat), _, rfl, rfl, .of (s2 _ _ hL), atI_nat hv1, _, rfl, p1, _, (g.o : Nat), _, rfl, rfl, .of hp1, atI_nat (get_int (by rw [so.len]; exact go.o)), _, rfl, rfl, _, hD, ?_, fun c o e => ?_, ?_⟩
      · simp only [List.length_map]
        exact line_lt (Nat.le_trans (List.length_take_le' _ _) (by omega))
      · rw [upd_ne (ne_of_none e nD)]
        exact s2 _ _ e
      · rw [upd_same, take_snoc hg1, List.map_append, List.map_append]
        have e : decide (V.int ((st n rs d g.m).getD g.o 0) = V.int g.e) = decide ((st n rs d g.m).getD g.o 0 = g.e) := by
          by_cases z : (st n rs d g.m).getD g.o 0 = g.e
          · rw [decide_eq_true z, z, decide_eq_true rfl]
          · rw [decide_eq_false z, decide_eq_false fun y => z (V.int.inj y)]
        rw [e] <;> rfl
    · rintro H2 ⟨s2, hD⟩
      rw [List.take_of_length_le (by rw [← hus.len]; exact Nat.le_refl _)] at hD
      refine ⟨D, _, rfl, .of hD, ?_⟩
      rw [vd_all]
      exact q H2 s2
def spGood : Sp := fun vs H Q _ => ∃ (n : Nat) (v : V) (F : Addr) (rs : List Row) (fs : List Fnd), vs = [.int (n : Nat), v, .ref F] ∧ RowsV H v rs ∧ LstAt FndV H F fs ∧ (∀ f ∈ fs, FndOk n rs.length f) ∧ (∀ r ∈ rs, RowOk n r) ∧ n ≤ 12 ∧ rs.length ≤ 8 ∧ fs.length ≤ 40 ∧
  ∀ p H', Same H H' → H p = none → LstAt GdV H' p ((allD rs).filter fun d => vd fs n rs d) → Q (.ref p) H'
theorem ok_good (D : Stn K mg "_law_good" sLawGood ["_law_offices", "_law_rows_here", "_law_finds_here"]) (G1 : Ok P w K mg base 1 "_law_doings" spDoings) (G2 : Ok P w K mg base 1 "_law_led" spLed) (G3 : Ok P w K mg base 1 "_law_are_true" spTrue) : Ok P w K mg base 2 "_law_good" spGood := by
  refine ok_of D scLawGood (fun vs H Q E h => ?_) (fun f cdv A outer s H vs Q E hr h => ?_)
  · obtain ⟨n, v, F, rs, fs, rfl, _⟩ := h
    rfl
  · obtain ⟨n, v, F, rs, fs, rfl, hv, hF, ho, hro, hn, h8, h40, q⟩ := h
    refine ⟨_, pss_cons (ps_set (i := 3) scLawGood.nd rfl (.inl rfl) (pe_lst pa_nil))
      (pss_cons (ps_for PassesOwn.never rfl (pi_list (pe_f G1 hr (pa_cons (pv 1) pa_nil))) (pg_name (i := 4) scLawGood.nd rfl (.inl rfl))
        (pss_cons (ps_set (i := 5) scLawGood.nd rfl (.inl rfl) (pe_f G2 hr (pa_cons (pv 0) (pa_cons (pv 1) (pa_cons (pv 4) pa_nil)))))
        (pss_one (ps_if (pt_val (pe_f G3 hr (pa_cons (pv 5) (pa_cons (pv 2) pa_nil)))) (pss_one (ps_expr (pe_bm PySem.F.plainAttrs_list PySem.F.slot_list_append PySem.F.type_list_append mt_append (pv 3) (pa_cons (pe_tup (pa_cons (pv 4) (pa_cons (pv 5) pa_nil))) pa_nil)))) pss_nil))))
      (pss_one (ps_ret (pv 3)))), ?_⟩
    refine ⟨Nat.zero_le _, fun G nG => ?_⟩
    have s1 : Same H (upd H G (.lst [])) := same_new nG
    refine ⟨_, rfl, v, rs, rfl, (im_tup im_row).tk (tk_same s1) hv, h8, fun p H2 s2 np hp => ?_⟩
    obtain ⟨vs, hp1, hp2⟩ := hp
    have hG2 := s2 _ _ (upd_same (H := H) (a := G) (o := .lst []))
    have s12 := s1.trans s2
    refine ⟨p, rfl, ⟨vs, .of hp1⟩, for_list (Pv := fun i σ H3 => ∃ y4 y5 us, σ = [some (.int (n : Nat)), some v, some (.ref F), some (.ref G), y4, y5] ∧ (∀ b o, b ≠ G → H2 b = some o → H3 b = some o) ∧ H3 G = some (.lst us) ∧ All2 (GdV H3) us (((allD rs).take i).filter fun d => vd fs n rs d))
      ⟨none, none, [], rfl, fun _ _ _ e => e, hG2, .nil⟩ (fun i σ H3 _ ⟨_, _, _, _, b3, _⟩ => .of (b3 _ _ ?_ hp1)) ?_ ?_⟩
    · intro e
      rw [e, upd_same] at np
      cases np
    · rintro i x σ H3 hx ⟨y4, y5, us, rfl, b3, hG, hus⟩
      obtain ⟨d, hd1, hd2⟩ := hp2.back hx
      have tk : Tk H H3 := fun b xs e => b3 _ _ (ne_of_none e nG) (s12 _ _ e)
      have hd3 : BT H3 x d := im_bt.tk (fun b xs e => b3 _ _ (ne_of e hG2 fun z => nomatch z) e) hd2
      have hdl := (mem_allD.mp (List.mem_of_getElem? hd1)).1
      refine ⟨_, rfl, _, rfl, _, rfl, n, v, x, rs, d, rfl, (im_tup im_row).tk tk hv, hd3, hdl, hn, by omega, hro, fun Lp H4 s4 nLp hLp => ?_⟩
      have hF4 : LstAt FndV H4 F fs := (hF.keep im_fnd tk fun o e => b3 _ _ (ne_of_none e nG) (s12 _ _ e)).same im_fnd s4
      refine ⟨_, rfl, _, rfl, Lp, F, n, rs, d, fs, rfl, hLp, hF4, ho, hro, h40, fun H5 s5 => ⟨_, rfl, ?_⟩⟩
      have s45 := s4.trans s5
      have el : us.length ≤ 256 := by
        rw [hus.len]
        refine Nat.le_trans (List.length_filter_le _ _) (Nat.le_trans (List.length_take_le' _ _) (Nat.le_trans (allD_len rs) ?_))
        exact Nat.le_trans (Nat.pow_le_pow_right (by decide) h8) (by decide)
      refine ite2 (fun hv => ?_) (fun hv => ?_)
      · refine ⟨_, rfl, .inl ⟨rfl, _, .of (s45 _ _ hG)⟩, _, rfl, _, rfl, (by show 2 ≤ sizeLine; decide), fun T nT => ?_⟩
        have s6 : Same H5 (upd H5 T (.tup [x, .ref Lp])) := same_new nT
        have sA := s45.trans s6
        have tkA : Tk H3 (upd (upd H5 T (.tup [x, .ref Lp])) G (.lst (us ++ [.ref T]))) := (tk_same sA).trans (tk_lst (sA _ _ hG))
        refine ⟨G, us, _, rfl, rfl, sA _ _ hG, line_lt (by omega), _, _, _, rfl, fun b o hb e => ?_, upd_same, ?_⟩
        · rw [upd_ne hb]
          exact sA _ _ (b3 _ _ hb e)
        · rw [take_snoc hd1, List.filter_append, show List.filter (fun d => vd fs n rs d) [d] = [d] by simp [hv]]
          exact (hus.imp fun _ _ z => im_gd.tk tkA z).snoc ⟨T, x, .ref Lp, rfl, tk_lst (sA _ _ hG) _ _ upd_same, im_bt.tk tkA hd3⟩
      · refine ⟨_, _, us, rfl, fun b o hb e => s45 _ _ (b3 _ _ hb e), s45 _ _ hG, ?_⟩
        rw [take_snoc hd1, List.filter_append, show List.filter (fun d => vd fs n rs d) [d] = [] by simp [hv], List.append_nil]
        exact hus.imp fun _ _ z => im_gd.tk (tk_same s45) z
    · rintro σ H3 ⟨y4, y5, us, rfl, b3, hG, hus⟩
      rw [List.take_of_length_le (by rw [← hp2.len]; exact Nat.le_refl _)] at hus
      exact ⟨_, rfl, q G H3 (fun b o e => b3 _ _ (ne_of_none e nG) (s12 _ _ e)) nG ⟨us, hG, hus⟩⟩
def spDue : Sp := fun vs H Q _ => ∃ (n : Nat) (v : V) (F : Addr) (rs : List Row) (fs : List Fnd), vs = [.int (n : Nat), v, .ref F] ∧ RowsV H v rs ∧ LstAt FndV H F fs ∧ (∀ f ∈ fs, FndOk n rs.length f) ∧ (∀ r ∈ rs, RowOk n r) ∧ n ≤ 12 ∧ rs.length ≤ 8 ∧ fs.length ≤ 40 ∧
  ∀ z H', Same H H' → AnsV H' z (ans fs n rs) → Q z H'
theorem ok_due (D : Stn K mg "_law_due" sLawDue ["_law_offices", "_law_rows_here", "_law_finds_here"]) (M : Mg mg) (G : Ok P w K mg base 2 "_law_good" spGood) : Ok P w K mg base 3 "_law_due" spDue := by
  refine ok_of D scLawDue (fun vs H Q E h => ?_) (fun f cdv A outer s H vs Q E hr h => ?_)
  · obtain ⟨n, v, F, rs, fs, rfl, _⟩ := h
    rfl
  · obtain ⟨n, v, F, rs, fs, rfl, hv, hF, ho, hro, hn, h8, h40, q⟩ := h
    refine ⟨_, pss_cons (ps_set (i := 3) scLawDue.nd rfl (.inl rfl) pe_non)
      (pss_cons (ps_for PassesOwn.never rfl (pi_list (pe_f G hr (pa_cons (pv 0) (pa_cons (pv 1) (pa_cons (pv 2) pa_nil))))) (pg_tup rfl (pgs_cons (pg_name (i := 4) scLawDue.nd rfl (.inl rfl)) (pgs_cons (pg_name (i := 5) scLawDue.nd rfl (.inl rfl)) pgs_nil)))
        (pss_cons (ps_set (i := 6) scLawDue.nd rfl (.inl rfl) (pe_callB call_len_seq (by rfl) M.len PySem.boot_len (pa_cons
          (pe_lc (own := [("_law_flag", 7)]) (g := gName 7) rfl scLawDue.nd (pi_seq (pv 4)) (blkOk_by (N := nLawDue) (sc := defScope sLawDue) (by decide +kernel))
            (fun _ _ _ _ _ => pg_name (i := 7) scLawDue.nd rfl (.inl rfl)) (fun _ _ _ _ _ => pts_one (pt_val (pv 7))) (fun _ _ _ _ _ => pv 7)) pa_nil)))
        (pss_one (ps_if (PW.pt (pw_or (pt_cmpR op_isN (pv 3) pe_non (nomark _)) (pw_or1 (pt_cmpR op_lt (pv 6) (pe_ix ix_tup (pv 3) pe_int (fun _ _ => rfl)) (nomark _)))))
          (pss_one (ps_set (i := 3) scLawDue.nd rfl (.inl rfl) (pe_tup (pa_cons (pv 6) (pa_cons (pv 4) pa_nil))))) pss_nil))))
      (pss_one (ps_ret (pv 3)))), ?_⟩
    refine ⟨_, rfl, _, rfl, _, rfl, n, v, F, rs, fs, rfl, hv, hF, ho, hro, hn, h8, h40, fun p H1 s1 np hp => ?_⟩
    obtain ⟨vs, hp1, hp2⟩ := hp
    have hlen : ∀ d ∈ (allD rs).filter (fun d => vd fs n rs d), d.length ≤ 8 := fun d hd => by
      have h1 := (mem_allD.mp (List.mem_filter.mp hd).1).1
      omega
    rw [← due_ans (fun f hf => (ho f hf).m)] at q
    generalize (allD rs).filter (fun d => vd fs n rs d) = l at hp2 hlen q
    refine ⟨p, rfl, ⟨vs, .of hp1⟩, for_list (Pv := fun i σ H2 => ∃ z y4 y5 y6 y7, σ = [some (.int (n : Nat)), some v, some (.ref F), some z, y4, y5, y6, y7] ∧ Same H1 H2 ∧ AnsV H2 z (fml (l.take i)))
      ⟨_, none, none, none, none, rfl, Same.refl _, rfl⟩ (fun i σ H2 _ ⟨_, _, _, _, _, _, s2, _⟩ => .of (s2 _ _ hp1)) ?_ ?_⟩
    · rintro i x σ H2 hx ⟨z, y4, y5, y6, y7, rfl, s2, hz⟩
      obtain ⟨d, hd1, hd2⟩ := hp2.back hx
      have hd8 := hlen d (List.mem_of_getElem? hd1)
      obtain ⟨p2, u, l2, rfl, hp2', pu, rfl, hpu⟩ := im_gd.tk (tk_same s2) hd2
      refine ⟨p2, _, rfl, .of hp2', rfl, _, _, rfl, _, _, rfl, rfl, ?_⟩
      refine ⟨_, rfl, pu, _, rfl, .inr hpu, fun J wk D nD => lc_it wk (fun i H3 => Same H2 H3 ∧ H3 D = some (.lst (((d.take i).filter fun b => b).map V.bl))) ⟨same_new nD, upd_same⟩ ?_ ?_ ?_⟩
      · rintro j H3 _ ⟨s3, _⟩
        show H3 pu = H2 pu
        rw [s3 _ _ hpu, hpu]
      · rintro j x H3 H4 hj ⟨s3, hD⟩ ⟨rfl, hx⟩
        rw [List.getElem?_map] at hx
        obtain ⟨b, hb, rfl⟩ := Option.map_eq_some_iff.mp hx
        refine ⟨rfl, _, rfl, b, rfl, ite2 (fun hb1 => ?_) (fun hb1 => ?_)⟩
        · subst hb1
          refine ⟨_, rfl, _, hD, ?_, fun c o e => ?_, ?_⟩
          · rw [List.length_map]
            have h1 := List.length_filter_le (fun b => b) (d.take j)
            have h2 := List.length_take_le' j d
            exact line_lt (by omega)
          · rw [upd_ne (ne_of_none e nD)]
            exact s3 _ _ e
          · rw [upd_same, take_snoc hb, List.filter_append, List.map_append] <;> rfl
        · refine ⟨s3, ?_⟩
          have : b = false := by cases b <;> simp at hb1 <;> rfl
          rw [hD, take_snoc hb, List.filter_append, this, show List.filter (fun b => b) [false] = [] from rfl, List.append_nil]
      · rintro H3 ⟨s3, hD⟩
        rw [List.take_of_length_le (by simp)] at hD
        refine ⟨D, _, rfl, .inl (.of hD), ?_⟩
        rw [List.length_map]
        have hz3 := im_ans.tk (tk_same s3) hz
        have ef : fml (l.take (i + 1)) = comb (fml (l.take i)) (some (cnt d, d)) := by
          rw [take_snoc hd1, fml_append, fml_cons] <;> rfl
        have put : ∀ T, H3 T = none → AnsV (upd H3 T (.tup [.int (cnt d : Nat), .ref pu])) (.ref T) (some (cnt d, d)) := fun T nT => ⟨T, _, rfl, upd_same, pu, rfl, (same_new nT) _ _ (s3 _ _ hpu)⟩
        cases ea : fml (l.take i) with
        | none =>
          rw [ea] at hz3 ef
          have ez : z = .non := hz3
          subst ez
          refine ⟨_, rfl, rfl, _, rfl, iteT (iteT ⟨_, rfl, _, rfl, (by show 2 ≤ sizeLine; decide), fun T nT => ⟨_, _, _, _, _, rfl, (s2.trans s3).trans (same_new nT), ?_⟩⟩)⟩
          rw [ef]
          exact put T nT
        | some a =>
          obtain ⟨c, d0⟩ := a
          rw [ea] at hz3 ef
          obtain ⟨pz, uz, rfl, hpz, hbz⟩ := id hz3
          refine ⟨_, rfl, rfl, _, rfl, iteF ⟨_, rfl, _, rfl, pz, _, 0, _, rfl, rfl, .of hpz, atI_nat (j := 0) rfl, _, _, rfl, rfl, _, rfl, ?_⟩⟩
          refine ite2 (fun hlt => ?_) (fun hlt => ?_)
          · have hlt : cnt d < c := by
              have h1 : ((cnt d : Nat) : Int) < ((c : Nat) : Int) := of_decide_eq_true hlt
              omega
            refine ⟨_, rfl, _, rfl, (by show 2 ≤ sizeLine; decide), fun T nT => ⟨_, _, _, _, _, rfl, (s2.trans s3).trans (same_new nT), ?_⟩⟩
            rw [ef]
            show AnsV _ _ (if cnt d < c then some (cnt d, d) else some (c, d0))
            rw [if_pos hlt]
            exact put T nT
          · have hlt : ¬ cnt d < c := fun z => hlt (decide_eq_true (show ((cnt d : Nat) : Int) < ((c : Nat) : Int) by omega))
            refine ⟨_, _, _, _, _, rfl, s2.trans s3, ?_⟩
            rw [ef]
            show AnsV _ _ (if cnt d < c then some (cnt d, d) else some (c, d0))
            rw [if_neg hlt]
            exact hz3
    · rintro σ H2 ⟨z, y4, y5, y6, y7, rfl, s2, hz⟩
      rw [List.take_of_length_le (by rw [← hp2.len]; exact Nat.le_refl _)] at hz
      exact ⟨_, rfl, q z H2 (s1.trans s2) hz⟩
end
end K70

set_option maxRecDepth 100000
set_option maxHeartbeats 4000000
/-! the law's own steps of a long log: what can come behind a row, whether finds are heeded, a long log; answers as data -/
namespace K70
open PySem PySem.Spec PyProof.Rows L2
/-! ### answers as data -/
def ansD : Option (Nat × List Bool) → PyData
  | none => .none
  | some (c, d) => .tuple [.int (c : Nat), .tuple (d.map PyData.bool)]
theorem dp_bools {K : PySem.W.Frag} {H : Hp} : ∀ d : List Bool, DpAll K H (d.map V.bl) (d.map PyData.bool)
  | [] => .nil
  | b :: d => .cons (.bl b) (dp_bools d)
theorem dp_pair {K : PySem.W.Frag} {H : Hp} {p : Addr} {u : V} {c : Nat} {d : List Bool} (hp : H p = some (.tup [.int (c : Nat), u])) (hu : BT H u d) : Dp K H (.ref p) (ansD (some (c, d))) := by
  obtain ⟨q, rfl, hq⟩ := hu
  exact .tup (.of hp) (.cons (.int _) (.cons (.tup (.of hq) (dp_bools d)) .nil))
theorem dp_ans {K : PySem.W.Frag} {H : Hp} {v : V} : ∀ {o : Option (Nat × List Bool)}, AnsV H v o → Dp K H v (ansD o)
  | none, h => by
    have e : v = .non := h
    rw [e]
    exact .non
  | some (c, d), ⟨p, u, e, hp, hu⟩ => by
    rw [e]
    exact dp_pair hp hu
theorem lay_bools : ∀ d : List Bool, PyData.canLayAll0 (d.map PyData.bool) = true
  | [] => rfl
  | b :: d => by
    rw [List.map_cons, PyData.canLayAll0, lay_bools d]
    rfl
theorem deep_bools : ∀ d : List Bool, PyData.depthAll (d.map PyData.bool) = 0
  | [] => rfl
  | b :: d => by
    rw [List.map_cons, PyData.depthAll, deep_bools d]
    rfl
theorem lay_ans : ∀ o : Option (Nat × List Bool), (ansD o).canLay0 = true
  | none => rfl
  | some (c, d) => by
    show PyData.canLay0 (.tuple [.int (c : Nat), .tuple (d.map PyData.bool)]) = true
    simp only [PyData.canLay0, PyData.canLayAll0, lay_bools, Bool.and_true]
theorem deep_ans : ∀ o : Option (Nat × List Bool), (ansD o).depth ≤ 3
  | none => by decide
  | some (c, d) => by
    show PyData.depth (.tuple [.int (c : Nat), .tuple (d.map PyData.bool)]) ≤ 3
    simp only [PyData.depth, PyData.depthAll, deep_bools]
    decide
theorem shaped_ans (o : Option (Nat × List Bool)) : SeqAt.shaped (ansD o) = true := by
  unfold SeqAt.shaped
  rw [lay_ans o, Bool.true_and]
  have := deep_ans o
  exact decide_eq_true (by omega)
theorem eqv_ans (o : Option (Nat × List Bool)) : PyData.eqv (ansD o) (ansD o) = true := PySem.SeqAt.eqv_refl _ (lay_ans o)
theorem show_bools : ∀ d : List Bool, ((PyData.shownAll (d.map PyData.bool)).map (·.length)).sum ≤ 5 * d.length ∧ (PyData.shownAll (d.map PyData.bool)).length = d.length ∧ PyData.showableAll (d.map PyData.bool) = true
  | [] => ⟨Nat.le_refl _, rfl, rfl⟩
  | b :: d => by
    obtain ⟨h1, h2, h3⟩ := show_bools d
    have e : (PyData.shown (.bool b)).length ≤ 5 := by cases b <;> decide
    rw [List.map_cons, PyData.shownAll, PyData.showableAll, List.map_cons, List.sum_cons, List.length_cons, List.length_cons, h2, h3]
    refine ⟨by omega, rfl, rfl⟩
theorem small_log {c : Nat} (h : c ≤ 60) : ((c : Int).natAbs.log2) < 1920 := by
  have h1 : (c : Int).natAbs = c := Int.natAbs_natCast c
  rw [h1]
  have h2 : Nat.log2 c ≤ c := by
    by_cases z : c = 0
    · rw [z]; decide
    · have := Nat.log2_lt (n := c) (k := c) z
      have := this.mpr Nat.lt_two_pow_self
      omega
  omega
/-- how long the text of an answer is -/
theorem show_ans {c : Nat} {d : List Bool} (hc : c ≤ 60) (hd : d.length ≤ 60) : (ansD (some (c, d))).showable = true ∧ (ansD (some (c, d))).hasDict = false ∧ (ansD (some (c, d))).depth ≤ 60 ∧ (ansD (some (c, d))).shown.length ≤ sizeLine := by
  obtain ⟨h1, h2, h3⟩ := show_bools d
  have hl := small_log hc
  refine ⟨?_, PyData.hasDict_of_canLay _ (lay_ans _), Nat.le_trans (deep_ans _) (by decide), ?_⟩
  · show PyData.showable (.tuple [.int (c : Nat), .tuple (d.map PyData.bool)]) = true
    simp only [PyData.showable, PyData.showableAll, h3, decide_eq_true hl, Bool.and_true]
  · refine line_of ?_
    have e1 : (PyData.shown (.int (c : Nat))).length ≤ 1921 := by
      have := int_text_length_le (a := (c : Int)) (k := 1920) (by decide) hl
      show (Str.ofString (toString (c : Int))).length ≤ 1921
      rw [PySem.ofString_length]
      exact this
    have e2 := tupleText_len_le (PyData.shownAll (d.map PyData.bool))
    have e3 := tupleText_len_le [PyData.shown (.int (c : Nat)), tupleText (PyData.shownAll (d.map PyData.bool))]
    have e4 : (ansD (some (c, d))).shown = tupleText [PyData.shown (.int (c : Nat)), tupleText (PyData.shownAll (d.map PyData.bool))] := by
      show PyData.shown (.tuple [.int (c : Nat), .tuple (d.map PyData.bool)]) = _
      simp only [PyData.shown, PyData.shownAll]
    rw [e4]
    simp only [List.map_cons, List.map_nil, List.sum_cons, List.sum_nil, List.length_cons, List.length_nil] at e3
    rw [h2] at e2
    omega
/-! ### sheets behind a row that is done, in a wider body -/
abbrev tCp (K : PySem.W.Frag) : TE := tOp (rCatA K) (tOp (rCatA K) (tSl (rSlT K) (tVar 0) tNoPart (tPart (tOp (rIxT K) (tVar 1) (tC (.int 0))))) (tTup (tCons (tOp (rIxT K) (tVar 0) (tOp (rIxT K) (tVar 1) (tC (.int 1)))) tNil)))
  (tSl (rSlT K) (tVar 0) (tPart (tOp (rI0 fun i j => V.int (i + j)) (tOp (rIxT K) (tVar 1) (tC (.int 0))) (tC (.int 1)))) tNoPart)
theorem cp_tail {K : PySem.W.Frag} {Q : VK} {H3 : Hp} {σ : L2.St} {a p p3 : Addr} {n : Nat} {es : List Int} {r : Row} (e0 : σ[0]? = some (some (V.ref a))) (e1 : σ[1]? = some (some (V.ref p))) (hs : Shs n es) (hn : n ≤ 12) (ho : RowOk n r) (ha : H3 a = some (.tup (es.map V.int)))
    (hp : H3 p = some (.tup [V.int (r.x : Nat), V.int (r.y : Nat), V.bl r.s])) (h3 : H3 p3 = some (.tup ((es.take r.x ++ [es.getD r.y 0]).map V.int))) (q : ∀ H' z, Same H3 H' → IT H' z (cp es r) → Q z H') :
    tSl (rSlT K) (tVar 0) (tPart (tOp (rI0 fun i j => V.int (i + j)) (tOp (rIxT K) (tVar 1) (tC (.int 0))) (tC (.int 1)))) tNoPart σ H3 (fun y H4 => rCatA K (.ref p3) y H4 Q) := by
  have hx := ho.x
  have hl := hs.len
  have g0 : atI [V.int (r.x : Nat), V.int (r.y : Nat), V.bl r.s] 0 = some (V.int (r.x : Nat)) := atI_nat (j := 0) rfl
  refine ⟨.ref a, e0, .ref p, e1, p, _, 0, _, rfl, rfl, .of hp, g0, _, _, rfl, rfl, ((r.x + 1 : Nat) : Int), rfl, a, _, rfl, .of ha, ?_, fun p4 n4 => ?_⟩
  · rintro ⟨z, _⟩
    rw [List.length_map, HT.sIx_nat] at z
    omega
  · have s4 : Same H3 (upd H3 p4 (.tup (cutV (es.map V.int) (some ((r.x + 1 : Nat) : Int)) none))) := same_new n4
    have ne : ((es.take r.x ++ [es.getD r.y 0]).map V.int) ≠ [] := by simp
    refine ⟨p3, p4, _, _, rfl, rfl, .of (s4 _ _ h3), .of upd_same, ?_, fun z => absurd z ne, fun _ z => ?_, fun _ _ p5 n5 => ?_⟩
    · refine line_of ?_
      rw [cut_drop _ _ (by rw [List.length_map]; omega)]
      simp
      omega
    · refine q _ _ s4 ⟨p3, rfl, ?_⟩
      rw [cut_drop _ _ (by rw [List.length_map]; omega), ← List.map_drop] at z
      have z' : es.drop (r.x + 1) = [] := List.map_eq_nil_iff.mp z
      rw [s4 _ _ h3, ← cp_eq hs ho, z', List.append_nil]
    · refine q _ _ (s4.trans (same_new n5)) ⟨p5, rfl, ?_⟩
      rw [upd_same, cut_drop _ _ (by rw [List.length_map]; omega), ← List.map_drop, ← List.map_append, List.append_assoc, cp_eq hs ho]
theorem cp_read {K : PySem.W.Frag} {Q : VK} {H : Hp} {σ : L2.St} {a p : Addr} {n : Nat} {es : List Int} {r : Row} (e0 : σ[0]? = some (some (V.ref a))) (e1 : σ[1]? = some (some (V.ref p))) (hs : Shs n es) (hn : n ≤ 12) (ho : RowOk n r) (ha : H a = some (.tup (es.map V.int)))
    (hp : H p = some (.tup [V.int (r.x : Nat), V.int (r.y : Nat), V.bl r.s])) (q : ∀ H' z, Same H H' → IT H' z (cp es r) → Q z H') : tCp K σ H Q := by
  have hx := ho.x
  have hy := ho.y
  have hl := hs.len
  have g0 : atI [V.int (r.x : Nat), V.int (r.y : Nat), V.bl r.s] 0 = some (V.int (r.x : Nat)) := atI_nat (j := 0) rfl
  have g1 : atI [V.int (r.x : Nat), V.int (r.y : Nat), V.bl r.s] 1 = some (V.int (r.y : Nat)) := atI_nat (j := 1) rfl
  refine ⟨.ref a, e0, .ref p, e1, p, _, 0, _, rfl, rfl, .of hp, g0, (r.x : Nat), rfl, a, _, rfl, .of ha, ?_, fun p1 n1 => ?_⟩
  · rintro ⟨_, z⟩
    rw [List.length_map, HT.sIx_nat] at z
    omega
  · have s1 : Same H (upd H p1 (.tup (cutV (es.map V.int) none (some ((r.x : Nat) : Int))))) := same_new n1
    have ec : cutV (es.map V.int) none (some ((r.x : Nat) : Int)) = (es.take r.x).map V.int := by rw [cut_take _ _ (by rw [List.length_map]; omega), List.map_take]
    refine ⟨.ref a, e0, .ref p, e1, p, _, 1, _, rfl, rfl, .of (s1 _ _ hp), g1, a, _, (r.y : Nat), _, rfl, rfl, .of (s1 _ _ ha), atI_nat (get_int (by omega)), (by show 1 ≤ sizeLine; decide), fun p2 n2 => ?_⟩
    have s2 := s1.trans (same_new (o := .tup [V.int (es.getD r.y 0)]) n2)
    have k1 : (upd (upd H p1 (.tup (cutV (es.map V.int) none (some ((r.x : Nat) : Int))))) p2 (.tup [V.int (es.getD r.y 0)])) p1 = some (.tup ((es.take r.x).map V.int)) := by
      rw [same_new n2 _ _ upd_same, ec]
    refine ⟨p1, p2, _, _, rfl, rfl, .of k1, .of upd_same, ?_, fun z => ?_, fun _ z => absurd z (List.cons_ne_nil _ _), fun _ _ p3 n3 => ?_⟩
    · refine line_of ?_
      simp
      omega
    · have z' : es.take r.x = [] := List.map_eq_nil_iff.mp z
      refine cp_tail e0 e1 hs hn ho (s2 _ _ ha) (s2 _ _ hp) ?_ fun H' z s => q H' z (s2.trans s)
      rw [upd_same, z'] <;> rfl
    · have s3 := s2.trans (same_new (o := .tup ((es.take r.x).map V.int ++ [V.int (es.getD r.y 0)])) n3)
      refine cp_tail e0 e1 hs hn ho (s3 _ _ ha) (s3 _ _ hp) ?_ fun H' z s => q H' z (s3.trans s)
      rw [upd_same, List.map_append] <;> rfl
section
variable {P : Program} {w : World} {K : PySem.W.Frag} {mg : Str → Option Value} {base : Heap}
theorem lnext_tail {Q : VK} {H1 : Hp} {a p : Addr} {f : Addr} {vs : List V} {n : Nat} {es : List Int} {r : Row} {k : List (Bool × List Int)} (hu : H1 a = some (.tup (es.map V.int))) (hv : H1 p = some (.tup [V.int (r.x : Nat), V.int (r.y : Nat), V.bl r.s])) (hs : Shs n es) (hn : n ≤ 12) (ho : RowOk n r) (hf : H1 f = some (.lst vs)) (hk : All2 (FsV H1) vs k) (h1 : k.length ≤ 1) (he : k ++ [(true, cp es r)] = nxs es r)
    (q : ∀ p H', Same H1 H' → H1 p = none → LstAt FsV H' p (nxs es r) → Q (.ref p) H') :
    tOp rCat (tVar 2) (tLst (tCons (tTup (tCons (tC (.bl true)) (tCons (tCp K) tNil))) tNil)) [some (.ref a), some (.ref p), some (.ref f)] H1 Q := by
  refine ⟨_, rfl, cp_read rfl rfl hs hn ho hu hv fun H2 z s2 hz => ⟨(by show 2 ≤ sizeLine; decide), fun T nT => ⟨(by show 1 ≤ sizeLine; decide), fun l nl => ?_⟩⟩⟩
  have s3 : Same H2 (upd H2 T (.tup [.bl true, z])) := same_new nT
  have s4 := (s2.trans s3).trans (same_new (o := .lst [V.ref T]) nl)
  refine ⟨f, l, _, _, rfl, rfl, s4 _ _ hf, upd_same, ?_, fun p np => ?_⟩
  · rw [hk.len]
    exact line_of (by simp; omega)
  · have s5 := s4.trans (same_new (o := .lst (vs ++ [V.ref T])) np)
    refine q p _ s5 (s4.free np) ⟨_, upd_same, ?_⟩
    rw [← he]
    have s35 := (same_new (o := .lst [V.ref T]) nl).trans (same_new (o := .lst (vs ++ [V.ref T])) np)
    refine (hk.imp fun _ _ r => im_fs.tk (tk_same s5) r).snoc ⟨T, z, rfl, ?_, im_it.tk (tk_same (s3.trans s35)) hz⟩
    exact s35 _ _ upd_same
theorem ok_lnext (D : Stn K mg "_law_next" sLawNext ["_law_editions", "_law_row_here"]) : Ok P w K mg base 1 "_law_next" spNexts := by
  refine ok_of D scLawNext (fun vs H Q E h => ?_) (fun f cdv A outer s H vs Q E hr h => ?_)
  · obtain ⟨u, v, n, es, r, rfl, _⟩ := h
    rfl
  · obtain ⟨u, v, n, es, r, rfl, hu, hv, hs, hn, ho, q⟩ := h
    obtain ⟨p, rfl, hp⟩ := id hv
    obtain ⟨a, rfl, ha⟩ := id hu
    have e2 : atI [V.int (r.x : Nat), V.int (r.y : Nat), V.bl r.s] 2 = some (V.bl r.s) := atI_nat (j := 2) rfl
    refine ⟨_, pss_cons (ps_set (i := 2) scLawNext.nd rfl (.inl rfl) (pe_lst pa_nil))
      (pss_cons (ps_if (pt_not (pt_val (pe_ix ix_tup (pv 1) pe_int (fun _ _ => rfl)))) (pss_one (ps_expr (pe_bm PySem.F.plainAttrs_list PySem.F.slot_list_append PySem.F.type_list_append mt_append (pv 2) (pa_cons (pe_tup (pa_cons pe_bl (pa_cons (pv 0) pa_nil))) pa_nil)))) pss_nil)
      (pss_one (ps_ret (pe_op op_cat (pv 2) (pe_lst (pa_cons (pe_tup (pa_cons pe_bl (pa_cons (pe_op op_catA (pe_op op_catA (pe_slice sl_tup (pv 0) po_none (po_some (pe_ix ix_tup (pv 1) pe_int (fun _ _ => rfl))))
        (pe_tup (pa_cons (pe_ix ix_tup (pv 0) (pe_ix ix_tup (pv 1) pe_int (fun _ _ => rfl)) (fun _ _ => rfl)) pa_nil)))
      (pe_slice sl_tup (pv 0) (po_some (pe_op op_add (pe_ix ix_tup (pv 1) pe_int (fun _ _ => rfl)) pe_int)) po_none)) pa_nil))) pa_nil)))))), ?_⟩
    refine ⟨Nat.zero_le _, fun f1 nf => ?_⟩
    have s1 : Same H (upd H f1 (.lst [])) := same_new nf
    have hf0 : (upd H f1 (.lst [])) f1 = some (.lst []) := upd_same
    generalize upd H f1 (.lst []) = H1 at s1 hf0 ⊢
    refine ⟨_, rfl, p, _, 2, _, rfl, rfl, .of (s1 _ _ hp), e2, r.s, rfl, ?_⟩
    rcases opts_cases r with ⟨hrs, hop⟩ | ⟨hrs, hop⟩
    · rw [hrs]
      refine iteF (lnext_tail (s1 _ _ ha) (s1 _ _ hp) hs hn ho hf0 .nil (by simp) ?_ fun p' H' s' n' l' => q p' H' (s1.trans s') (s1.free n') l')
      unfold nxs
      rw [hop] <;> rfl
    · rw [hrs]
      refine iteT ⟨_, rfl, .inl ⟨rfl, _, .of hf0⟩, _, rfl, (by show 2 ≤ sizeLine; decide), fun T nT => ?_⟩
      have s2 : Same H1 (upd H1 T (.tup [.bl false, .ref a])) := same_new nT
      refine ⟨f1, _, _, rfl, rfl, s2 _ _ hf0, (by show 0 < sizeLine; decide), ?_⟩
      have tk : Tk H1 (upd (upd H1 T (.tup [.bl false, .ref a])) f1 (.lst ([] ++ [.ref T]))) := (tk_same s2).trans (tk_lst (s2 _ _ hf0))
      have s3 : Same H (upd (upd H1 T (.tup [.bl false, .ref a])) f1 (.lst ([] ++ [.ref T]))) := fun b o e => by
        rw [upd_ne (ne_of_none e nf)]
        exact s2 _ _ (s1 _ _ e)
      refine lnext_tail (k := [(false, es)]) (s3 _ _ ha) (s3 _ _ hp) hs hn ho upd_same (All2.nil.cons ⟨T, .ref a, rfl, tk_lst (s2 _ _ hf0) _ _ upd_same, a, rfl, s3 _ _ ha⟩) (by simp) ?_ fun p' H' s' n' l' => q p' H' (s3.trans s') (s3.free n') l'
      unfold nxs
      rw [hop] <;> rfl
/-- the finds at a moment that sheets do not have -/
def badF (fs : List Fnd) (m : Nat) (es : List Int) : List Fnd := fs.filter fun f => decide (f.m = m) && !decide (es.getD f.o 0 = f.e)
theorem bad_heeds (fs : List Fnd) (m : Nat) (es : List Int) : decide ((badF fs m es).length = 0) = heeds fs m es := by
  rw [Bool.eq_iff_iff, decide_eq_true_iff, heeds_iff, List.length_eq_zero_iff]
  unfold badF
  rw [List.filter_eq_nil_iff]
  constructor
  · intro h f hf e
    have := h f hf
    by_cases z : es.getD f.o 0 = f.e
    · exact z
    · exact absurd (by rw [decide_eq_true e, decide_eq_false z] <;> rfl) this
  · intro h f hf z
    obtain ⟨z1, z2⟩ := Bool.and_eq_true_iff.mp z
    rw [h f hf (of_decide_eq_true z1), decide_eq_true rfl] at z2
    cases z2
def spHeeds : Sp := fun vs H Q _ => ∃ (F : Addr) (m n : Nat) (u : V) (es : List Int) (fs : List Fnd), vs = [.ref F, .int (m : Nat), u] ∧ LstAt FndV H F fs ∧ IT H u es ∧ es.length = n ∧ (∀ f ∈ fs, f.o < n) ∧ fs.length ≤ 40 ∧ ∀ H', Same H H' → Q (.bl (heeds fs m es)) H'
theorem ok_heeds (D : Stn K mg "_law_heeds" sLawHeeds ["_law_finds_here", "_law_moment", "_law_editions"]) (M : Mg mg) : Ok P w K mg base 1 "_law_heeds" spHeeds := by
  refine ok_of D scLawHeeds (fun vs H Q E h => ?_) (fun f cdv A outer s H vs Q E hr h => ?_)
  · obtain ⟨F, m, n, u, es, fs, rfl, _⟩ := h
    rfl
  · obtain ⟨F, m, n, u, es, fs, rfl, ⟨us, hF, hus⟩, hu, hn, ho, h40, q⟩ := h
    obtain ⟨pu, rfl, hpu⟩ := hu
    refine ⟨_, pss_one (ps_ret (pe_cmpR op_eq (pe_callB call_len_seq (by rfl) M.len PySem.boot_len (pa_cons
      (pe_lc (own := [("_law_at", 3), ("_law_office", 4), ("_law_edition", 5)]) (g := gTup K 3 (gCons (gName 3) (gCons (gName 4) (gCons (gName 5) gNil)))) (tt := tAnd (tTest (tOp rEq (tVar 3) (tVar 1))) (tTest (tOp rNe (tOp (rIxT K) (tVar 2) (tVar 4)) (tVar 5)))) (te := tC (.int 1)) rfl scLawHeeds.nd (pi_list (pv 0)) (blkOk_by (N := nLawHeeds) (sc := defScope sLawHeeds) (by decide +kernel))
        (fun _ _ _ _ _ => pg_tup rfl (pgs_cons (pg_name (i := 3) scLawHeeds.nd rfl (.inl rfl)) (pgs_cons (pg_name (i := 4) scLawHeeds.nd rfl (.inl rfl)) (pgs_cons (pg_name (i := 5) scLawHeeds.nd rfl (.inl rfl)) pgs_nil))))
        (fun _ _ _ _ _ => pts_one (PW.pt (pw_and (pt_cmpR op_eq (pv 3) (pv 1) (nomark _)) (pw_and1 (pt_cmpR op_ne (pe_ix ix_tup (pv 2) (pv 4) (fun _ _ => rfl)) (pv 5) (nomark _))))))
        (fun _ _ _ _ _ => pe_int)) pa_nil)) pe_int (nomark _))), ?_⟩
    refine ⟨_, rfl, F, rfl, ⟨us, .of hF⟩, fun D nD => lc_list (K := K) (a := F) (xs := us) (fun i H2 => Same H H2 ∧ H2 D = some (.lst (List.replicate (badF (fs.take i) m es).length (.int 1)))) ⟨same_new nD, upd_same⟩ (fun i H2 _ ⟨s2, _⟩ => .of (s2 _ _ hF)) ?_ ?_⟩
    · rintro i x H2 hx ⟨s2, hD⟩
      obtain ⟨g, hg1, hg2⟩ := hus.back hx
      obtain ⟨b, rfl, hb⟩ := im_fnd.tk (tk_same s2) hg2
      have eb : badF (fs.take (i + 1)) m es = badF (fs.take i) m es ++ badF [g] m es := by
        unfold badF
        rw [take_snoc hg1, List.filter_append]
      refine ⟨b, _, rfl, .of hb, rfl, _, _, rfl, _, _, rfl, _, _, rfl, rfl, rfl, ?_⟩
      refine ⟨_, rfl, _, rfl, rfl, _, rfl, ?_⟩
      refine ite2 (fun h1 => ?_) (fun h1 => ?_)
      · have h1 : g.m = m := by
          have := V.int.inj (of_decide_eq_true h1)
          omega
        refine ⟨_, rfl, _, rfl, pu, _, (g.o : Nat), _, rfl, rfl, .of (s2 _ _ hpu), atI_nat (get_int (by rw [hn]; exact ho g (List.mem_of_getElem? hg1))), _, rfl, rfl, _, rfl, ?_⟩
        refine ite2 (fun h2 => ?_) (fun h2 => ?_)
        · have h2 : ¬ es.getD g.o 0 = g.e := fun z => by
            rw [z, decide_eq_true rfl] at h2
            cases h2
          have e1 : badF [g] m es = [g] := by
            unfold badF
            simp [h1, h2]
            exact fun z => h2 (by simpa using z)
          refine ⟨_, hD, ?_, fun c o e => ?_, ?_⟩
          · rw [List.length_replicate]
            exact line_lt (Nat.le_trans (List.length_filter_le _ _) (Nat.le_trans (List.length_take_le' _ _) (by omega)))
          · rw [upd_ne (ne_of_none e nD)]
            exact s2 _ _ e
          · rw [upd_same, eb, e1, List.length_append, List.length_singleton, List.replicate_succ']
        · have h2 : es.getD g.o 0 = g.e := by
            by_cases z : es.getD g.o 0 = g.e
            · exact z
            · exact absurd (by rw [decide_eq_false fun y => z (V.int.inj y)] <;> rfl) h2
          have e1 : badF [g] m es = [] := by
            unfold badF
            rw [List.filter_eq_nil_iff]
            intro f hf z
            rw [List.mem_singleton.mp hf, h2] at z
            simp at z
          rw [eb, e1, List.append_nil]
          exact ⟨s2, hD⟩
      · have h1 : ¬ g.m = m := fun z => h1 (by rw [z]; exact decide_eq_true rfl)
        have e1 : badF [g] m es = [] := by
          unfold badF
          simp [h1]
        rw [eb, e1, List.append_nil]
        exact ⟨s2, hD⟩
    · rintro H2 ⟨s2, hD⟩
      rw [List.take_of_length_le (by rw [← hus.len]; exact Nat.le_refl _)] at hD
      refine ⟨D, _, rfl, .inl (.of hD), rfl, ?_⟩
      rw [List.length_replicate]
      have e : decide (V.int ((badF fs m es).length : Nat) = V.int 0) = heeds fs m es := by
        rw [← bad_heeds]
        by_cases z : (badF fs m es).length = 0
        · rw [z]
          rfl
        · rw [decide_eq_false z, decide_eq_false fun y => z (by have := V.int.inj y; omega)]
      rw [e]
      exact q H2 s2
def spLong : Sp := fun vs H Q _ => ∃ (h cs : Addr), vs = [.ref h] ∧ HandAt cs H h ∧ ∀ p n v F rs fs H', But h H H' → HandAt cs H' h → H' p = some (.tup [.int (n : Nat), v, .ref F]) → 3 ≤ n → n ≤ 4 → RowsV H' v rs → rs.length ≤ 40 → (∀ r ∈ rs, RowOk n r) → LstAt FndV H' F fs → fs.length ≤ 4 → (∀ f ∈ fs, FndOk n rs.length f) → Q (.ref p) H'
theorem ok_long (D : Stn K mg "_law_long" sLawLong ["_law_hand_here"]) (M : Mg mg) (G1 : Ok P w K mg base 1 "_law_draw" spDraw) (G2 : Ok P w K mg base 2 "_law_row" spRow') (G3 : Ok P w K mg base 3 "_law_finds" spFinds) : Ok P w K mg base 4 "_law_long" spLong := by
  refine ok_of D scLawLong (fun vs H Q E h => ?_) (fun f cdv A outer s H vs Q E hr h => ?_)
  · obtain ⟨h, cs, rfl, _⟩ := h
    rfl
  · obtain ⟨h, cs, rfl, hh, q⟩ := h
    refine ⟨_, pss_cons (ps_set (i := 1) scLawLong.nd rfl (.inr rfl) (pe_op op_add pe_int (pe_f G1 hr (pa_cons (pv 0) (pa_cons pe_int pa_nil)))))
      (pss_cons (ps_set (i := 2) scLawLong.nd rfl (.inl rfl) (pe_callTy call_tuple_of (by rfl) M.tuple bi_tuple (pa_cons
        (pe_lc (own := [("_law_turn", 3)]) (g := gName 3) (tt := tYes) rfl scLawLong.nd (pi_range1 (by rfl) M.range (pa_cons (pe_op op_add pe_int (pe_f G1 hr (pa_cons (pv 0) (pa_cons pe_int pa_nil)))) pa_nil)) (blkOk_by (N := nLawLong) (sc := defScope sLawLong) (by decide +kernel))
          (fun _ _ _ _ _ => pg_name (i := 3) scLawLong.nd rfl (.inl rfl)) (fun _ _ _ _ _ => pts_nil)
          (fun _ _ _ _ _ => pe_f G2 hr (pa_cons (pv 0) (pa_cons (pv 1) (pa_cons pe_int pa_nil))))) pa_nil)))
      (pss_one (ps_ret (pe_tup (pa_cons (pv 1) (pa_cons (pv 2) (pa_cons (pe_f G3 hr (pa_cons (pv 0) (pa_cons (pv 1) (pa_cons (pv 2) (pa_cons pe_int (pa_cons pe_int pa_nil)))))) pa_nil))))))), ?_⟩
    refine ⟨_, rfl, h, cs, 2, rfl, by decide, by decide, hh, fun d H1 hd b1 hh1 => ⟨_, _, rfl, rfl, ?_⟩⟩
    dsimp only
    rw [show (3 : Int) + (d : Nat) = ((3 + d : Nat) : Int) by omega]
    generalize hn : 3 + d = n
    refine ⟨_, rfl, h, cs, 21, rfl, by decide, by decide, hh1, fun d2 H2 hd2 b2 hh2 => ⟨_, _, rfl, rfl, ?_⟩⟩
    dsimp only
    rw [show (20 : Int) + (d2 : Nat) = ((20 + d2 : Nat) : Int) by omega]
    generalize ht : 20 + d2 = t
    refine ⟨_, rfl, by omega, by omega, fun D nD => ?_⟩
    have et : ((t : Nat) : Int).toNat = t := by omega
    rw [et]
    obtain ⟨hDh, hcD⟩ := hh2.new nD
    refine lc_range (lo := 0) (n := t) (fun i H3 => But h H2 H3 ∧ HandAt cs H3 h ∧ ∃ us rs, H3 D = some (.lst us) ∧ All2 (RowV H3) us rs ∧ rs.length = i ∧ ∀ r ∈ rs, RowOk n r)
      ⟨But.same (same_new nD), hh2.same (same_new nD), [], [], upd_same, .nil, rfl, fun _ z => (nomatch z)⟩ ?_ ?_
    · rintro i H3 hi ⟨b3, hh3, us, rs, hD, hu, hl, ho⟩
      refine ⟨rfl, _, rfl, _, rfl, h, cs, n, 1, rfl, by omega, by omega, hh3, fun v r H4 b4 hh4 hv hr' => ?_⟩
      have hD4 := b4 _ _ hDh hD
      have tk : Tk H3 (upd H4 D (.lst (us ++ [v]))) := (b4.tkH hh3).trans (tk_lst hD4)
      refine ⟨us, hD4, by rw [hu.len, hl]; exact line_lt (by omega), fun b o hb e => ?_, ?_, us ++ [v], rs ++ [r], upd_same, (hu.imp fun _ _ z => im_row.tk tk z).snoc (im_row.tk (tk_lst hD4) hv), by simp [hl], fun r' z => ?_⟩
      · rw [upd_ne (ne_of_none e nD)]
        exact b4 _ _ hb (b3 _ _ hb e)
      · exact hh4.push hDh hcD
      · rcases List.mem_append.mp z with z | z
        · exact ho r' z
        · rw [List.mem_singleton.mp z]
          exact hr'
    · rintro H3 ⟨b3, hh3, us, rs, hD, hu, hl, ho⟩
      refine ⟨D, us, rfl, .inl ⟨.of hD, fun l nl => ?_⟩⟩
      have s4 : Same H3 (upd H3 l (.tup us)) := same_new nl
      have hv : RowsV (upd H3 l (.tup us)) (.ref l) rs := ⟨l, us, rfl, upd_same, hu.imp fun _ _ z => im_row.tk (tk_same s4) z⟩
      have hh4 := hh3.same s4
      have b4 : But h H (upd H3 l (.tup us)) := ((b1.trans b2).trans b3).trans (But.same s4)
      generalize upd H3 l (.tup us) = H4 at hv hh4 b4 ⊢
      refine ⟨_, rfl, _, rfl, _, rfl, _, rfl, _, rfl, h, cs, n, 4, 12, .ref l, rs, rfl, hh4, hv, by omega, by omega, by decide, by decide, by decide, by omega, ho, fun F fs H5 b5 nF hh5 hF hf4 hfo => ⟨(by show 3 ≤ sizeLine; decide), fun p np => ?_⟩⟩
      have s6 : Same H5 (upd H5 p (.tup [.int (n : Nat), .ref l, .ref F])) := same_new np
      refine q p n (.ref l) F rs fs _ ((b4.trans b5).trans (But.same s6)) (hh5.same s6) upd_same (by omega) (by omega) ((im_tup im_row).tk ((b5.tkH hh4).trans (tk_same s6)) hv) (by omega) ho (hF.same im_fnd s6) hf4 hfo
end
end K70

set_option maxRecDepth 100000
set_option maxHeartbeats 4000000
/-! for the law's own way through a long log: layers, the dict of least numbers, a log made -/
namespace K70
open PySem PySem.Spec PyProof.Rows L2
/-! ### a dict used as a set of sheets -/
structure Dk (kvs : List (List Key × V)) (S : List (List Int)) : Prop where
  keys : kvs.map (·.1) = S.map ik
  nd : S.Nodup
theorem Dk.nil : Dk [] [] := ⟨rfl, List.nodup_nil⟩
theorem Dk.len {kvs : List (List Key × V)} {S : List (List Int)} (d : Dk kvs S) : kvs.length = S.length := by
  have := congrArg List.length d.keys
  simpa using this
theorem Dk.is {kvs : List (List Key × V)} {S : List (List Int)} (d : Dk kvs S) (es : List Int) : (valV kvs (ik es)).isSome = true ↔ es ∈ S := by
  rw [← mem_ik, ← d.keys]
  constructor
  · intro h
    obtain ⟨v, hv⟩ := Option.isSome_iff_exists.mp h
    exact valV_in hv
  · intro h
    cases e : valV kvs (ik es) with
    | some v => rfl
    | none => exact absurd h (valV_not e)
theorem Dk.put {kvs : List (List Key × V)} {S : List (List Int)} (d : Dk kvs S) (es : List Int) (v : V) : Dk (putK kvs (ik es) v) (addS S es) := by
  by_cases h : es ∈ S
  · have hs := (d.is es).mpr h
    have e : putK kvs (ik es) v = kvs.map fun kv => if kv.1 = ik es then (kv.1, v) else kv := by
      unfold putK
      rw [valV_any, if_pos hs]
    unfold addS
    rw [e, if_pos h]
    refine ⟨?_, d.nd⟩
    rw [← d.keys, List.map_map]
    refine List.map_congr_left fun p _ => ?_
    show (if p.1 = ik es then (p.1, v) else p).1 = p.1
    split <;> rfl
  · have hn : valV kvs (ik es) = none := by
      cases e : valV kvs (ik es) with
      | none => rfl
      | some u => exact absurd ((d.is es).mp (by rw [e] <;> rfl)) h
    unfold addS
    rw [putK_new _ hn, if_neg h]
    refine ⟨?_, nd_snoc d.nd h⟩
    rw [List.map_append, List.map_append, d.keys] <;> rfl
theorem keys_it {H : Hp} {kvs : List (List Key × V)} {bs : List Addr} (h : IsKeys H kvs bs) : ∀ {S : List (List Int)}, kvs.map (·.1) = S.map ik → All2 (IT H) (bs.map V.ref) S := by
  unfold IsKeys at h
  induction h with
  | nil =>
    intro S e
    cases S with
    | nil => exact .nil
    | cons s S => simp at e
  | @cons p b ps bs hq t ih =>
    intro S e
    cases S with
    | nil => simp at e
    | cons s S =>
      rw [List.map_cons, List.map_cons] at e
      injection e with e1 e2
      exact (ih e2).cons ⟨b, rfl, by rw [hq, e1, ik_map]⟩
theorem All2.uncons {α : Type} {R : V → α → Prop} {v : V} {vs : List V} {l : List α} (a : All2 R (v :: vs) l) : ∃ x k, l = x :: k ∧ R v x ∧ All2 R vs k := by
  cases l with
  | nil => have := a.len; simp at this
  | cons x k => exact ⟨x, k, rfl, a.ea 0 v x rfl rfl, by have := a.len; simpa using this, fun i u y h1 h2 => a.ea (i + 1) u y (by simpa using h1) (by simpa using h2)⟩
theorem All2.perm {α : Type} {R : V → α → Prop} {ys xs : List V} (p : ys.Perm xs) : ∀ {S : List α}, All2 R xs S → ∃ T, All2 R ys T ∧ T.Perm S := by
  induction p with
  | nil => exact fun {S} a => ⟨S, a, .refl _⟩
  | cons x p ih =>
    intro S a
    obtain ⟨s, k, rfl, h1, h2⟩ := a.uncons
    obtain ⟨T, q1, q2⟩ := ih h2
    exact ⟨s :: T, q1.cons h1, q2.cons s⟩
  | swap x y l =>
    intro S a
    obtain ⟨s, k, rfl, h1, h2⟩ := a.uncons
    obtain ⟨t, m, rfl, h3, h4⟩ := h2.uncons
    exact ⟨t :: s :: m, (h4.cons h1).cons h3, .swap s t m⟩
  | trans p1 p2 ih1 ih2 =>
    intro S a
    obtain ⟨T, q1, q2⟩ := ih2 a
    obtain ⟨U, q3, q4⟩ := ih1 q1
    exact ⟨U, q3, q4.trans q2⟩
theorem Shs.bd {n : Nat} {es : List Int} (h : Shs n es) : TS.Bd (n : Int) es := by
  intro m hm
  obtain ⟨i, hi, e⟩ := List.getElem_of_mem hm
  have e2 : es.getD i 0 = m := by rw [List.getD_eq_getElem?_getD, List.getElem?_eq_getElem hi, ← e] <;> rfl
  have hn : i < n := by rw [← h.len]; exact hi
  exact ⟨e2 ▸ h.low i hn, e2 ▸ h.high i hn⟩
/-- sorted(xs), of some length and bound -/
theorem cr_sortE {X : Cx} : CallR X (.builtin "sorted") (fun vs H Q => ∃ (d : Nat) (B : Int), 1 ≤ d ∧ rSortU X.K d B vs H Q) := by
  intro pins s σ H vs us Q I r h
  obtain ⟨d, B, hd, h⟩ := h
  exact cr_sortT hd pins s σ H vs us Q I r h
/-! ### layers -/
def SetAt (H : Hp) (a : Addr) (T : List (List Int)) : Prop := ∃ vs S, H a = some (.lst vs) ∧ All2 (IT H) vs S ∧ (∀ es, es ∈ S ↔ es ∈ T) ∧ vs.length ≤ 64
theorem SetAt.keep {H H' : Hp} {a : Addr} {T : List (List Int)} (x : SetAt H a T) (t : Tk H H') (e : ∀ o, H a = some o → H' a = some o) : SetAt H' a T := by
  obtain ⟨vs, S, h, q, z⟩ := x
  exact ⟨vs, S, e _ h, q.imp fun _ _ r => im_it.tk t r, z⟩
theorem SetAt.same {H H' : Hp} {a : Addr} {T : List (List Int)} (x : SetAt H a T) (s : Same H H') : SetAt H' a T := x.keep (tk_same s) fun o h => s _ o h
def LayAt (H : Hp) (p : Addr) (fs : List Fnd) (n : Nat) (rs : List Row) (k : Nat) : Prop := ∃ as : List Addr, as.length = k ∧ H p = some (.lst (as.map V.ref)) ∧ p ∉ as ∧ ∀ m a, as[m]? = some a → SetAt H a (rch fs [begun n] rs m)
section
variable {H H' : Hp} {p a : Addr} {fs : List Fnd} {n : Nat} {rs : List Row} {k m : Nat}
theorem LayAt.same (x : LayAt H p fs n rs k) (s : Same H H') : LayAt H' p fs n rs k := by
  obtain ⟨as, h1, h2, hp, h3⟩ := x
  exact ⟨as, h1, s _ _ h2, hp, fun m a e => (h3 m a e).same s⟩
theorem LayAt.get (x : LayAt H p fs n rs k) (hm : m < k) : ∃ us a, H p = some (.lst us) ∧ us.length = k ∧ us[m]? = some (V.ref a) ∧ SetAt H a (rch fs [begun n] rs m) := by
  obtain ⟨as, h1, h2, hp, h3⟩ := x
  have hk : m < as.length := by omega
  exact ⟨_, as[m], h2, by rw [List.length_map, h1], map_ref_get (List.getElem?_eq_getElem hk), h3 m _ (List.getElem?_eq_getElem hk)⟩
theorem LayAt.last (x : LayAt H p fs n rs (k + 1)) : ∃ us a, H p = some (.lst (us ++ [V.ref a])) ∧ us.length = k ∧ SetAt H a (rch fs [begun n] rs k) := by
  obtain ⟨as, h1, h2, hp, h3⟩ := x
  have hk : k < as.length := by omega
  have e : as = as.take k ++ [as[k]] := by
    have z := take_snoc (l := as) (i := k) (List.getElem?_eq_getElem hk)
    rw [List.take_of_length_le (by omega)] at z
    exact z
  refine ⟨(as.take k).map V.ref, as[k], ?_, by simp; omega, h3 k _ (List.getElem?_eq_getElem hk)⟩
  rw [h2]
  conv => lhs; rw [e]
  rw [List.map_append] <;> rfl
theorem LayAt.snoc {us : List V} (x : LayAt H p fs n rs k) (h : H p = some (.lst us)) (ha : SetAt H a (rch fs [begun n] rs k)) (hne : a ≠ p) : LayAt (upd H p (.lst (us ++ [V.ref a]))) p fs n rs (k + 1) := by
  obtain ⟨as, h1, h2, hp, h3⟩ := x
  rw [h] at h2
  cases h2
  have push : ∀ {b : Addr} {T : List (List Int)}, b ≠ p → SetAt H b T → SetAt (upd H p (.lst (as.map V.ref ++ [V.ref a]))) b T := fun {b T} hb y => y.keep (tk_lst h) fun o e => by rw [upd_ne hb]; exact e
  refine ⟨as ++ [a], by simp [h1], by rw [upd_same, List.map_append] <;> rfl, fun z => ?_, fun m b e => ?_⟩
  · rcases List.mem_append.mp z with z | z
    · exact hp z
    · exact hne (List.mem_singleton.mp z).symm
  · by_cases hm : m < as.length
    · rw [List.getElem?_append_left hm] at e
      exact push (fun z => hp (z ▸ List.mem_of_getElem? e)) (h3 m b e)
    · have e1 : m = as.length := by
        have := (List.getElem?_eq_some_iff.mp e).1
        simp at this
        omega
      rw [e1] at e
      simp at e
      rw [← e, e1, h1]
      exact push hne ha
theorem step_rch {S : List (List Int)} (h : ∀ es, es ∈ S ↔ es ∈ rch fs [begun n] rs m) (es : List Int) : es ∈ stepL fs m S (rowAt rs m) ↔ es ∈ rch fs [begun n] rs (m + 1) := stepL_congr h es
theorem first_ok (n : Nat) : ∀ es ∈ [begun n], Shs n es := fun es h => by
  rw [List.mem_singleton.mp h]
  exact begun_ok n
end
/-! ### the least numbers, by moment and sheets -/
/-- what stands at p, when all behind the moment k has been told and of the moment k those in T -/
def lv (fs : List Fnd) (n : Nat) (rs : List Row) (k : Nat) (T : List (List Int)) (p : PK) : Option Nat :=
  if p.1 < k then none else if p.1 = k then wv T (lfAt fs rs k) p.2 else if p.1 ≤ rs.length then wv (rch fs [begun n] rs p.1) (lfAt fs rs p.1) p.2 else none
def NdR (fs : List Fnd) (n : Nat) (rs : List Row) (kvs : List (PK × V)) (k : Nat) (T : List (List Int)) : Prop := ∀ p, valV kvs p = vN (lv fs n rs k T p)
section
variable {fs : List Fnd} {n : Nat} {rs : List Row} {kvs : List (PK × V)} {k m : Nat} {T T' : List (List Int)} {es : List Int} {c : Nat}
theorem wv_nil (f : List Int → Option Nat) (es : List Int) : wv [] f es = none := by
  unfold wv
  rw [if_neg (by simp)]
theorem wv_snoc (T : List (List Int)) (f : List Int → Option Nat) (es q : List Int) : wv (T ++ [es]) f q = if q = es then f es else wv T f q := by
  unfold wv
  by_cases h : q = es
  · subst h
    rw [if_pos (by simp), if_pos rfl]
  · rw [if_neg h]
    by_cases z : q ∈ T
    · rw [if_pos (List.mem_append.mpr (.inl z)), if_pos z]
    · rw [if_neg z, if_neg]
      intro y
      rcases List.mem_append.mp y with y | y
      · exact z y
      · exact h (List.mem_singleton.mp y)
theorem wv_congr {f : List Int → Option Nat} (h : ∀ es, es ∈ T ↔ es ∈ T') (q : List Int) : wv T f q = wv T' f q := by
  unfold wv
  by_cases z : q ∈ T
  · rw [if_pos z, if_pos ((h q).mp z)]
  · rw [if_neg z, if_neg fun y => z ((h q).mpr y)]
theorem NdR.nil : NdR fs n rs [] rs.length [] := fun p => by
  have e : lv fs n rs rs.length [] p = none := by
    unfold lv
    by_cases h1 : p.1 < rs.length
    · rw [if_pos h1]
    · rw [if_neg h1]
      by_cases h2 : p.1 = rs.length
      · rw [if_pos h2, wv_nil]
      · rw [if_neg h2, if_neg (by omega)]
  rw [e] <;> rfl
theorem NdR.congr (x : NdR fs n rs kvs k T) (h : ∀ es, es ∈ T ↔ es ∈ T') : NdR fs n rs kvs k T' := fun p => by
  rw [x p]
  unfold lv
  rw [wv_congr h]
theorem NdR.down (x : NdR fs n rs kvs (k + 1) (rch fs [begun n] rs (k + 1))) (hk : k + 1 ≤ rs.length) : NdR fs n rs kvs k [] := fun p => by
  rw [x p]
  unfold lv
  by_cases h1 : p.1 < k
  · rw [if_pos h1, if_pos (by omega)]
  · rw [if_neg h1]
    by_cases h2 : p.1 = k
    · rw [if_pos h2, if_pos (by omega), wv_nil]
    · rw [if_neg h2, if_neg (by omega)]
      by_cases h3 : p.1 = k + 1
      · rw [if_pos h3, if_pos (by omega), h3]
      · rw [if_neg h3]
theorem NdR.put (x : NdR fs n rs kvs k T) (h : lfAt fs rs k es = some c) : NdR fs n rs (putK kvs (k, es) (.int (c : Nat))) k (T ++ [es]) := fun p => by
  rw [valV_put]
  unfold lv
  by_cases e : p = (k, es)
  · subst e
    rw [if_pos rfl, if_neg (Nat.lt_irrefl _), if_pos rfl, wv_snoc, if_pos rfl, h] <;> rfl
  · rw [if_neg e, x p]
    unfold lv
    by_cases h1 : p.1 < k
    · rw [if_pos h1, if_pos h1]
    · rw [if_neg h1, if_neg h1]
      by_cases h2 : p.1 = k
      · rw [if_pos h2, if_pos h2, wv_snoc, if_neg]
        intro z
        exact e (Prod.ext h2 z)
      · rw [if_neg h2, if_neg h2]
theorem NdR.skip (x : NdR fs n rs kvs k T) (h : lfAt fs rs k es = none) : NdR fs n rs kvs k (T ++ [es]) := fun p => by
  rw [x p]
  unfold lv
  by_cases h1 : p.1 < k
  · rw [if_pos h1, if_pos h1]
  · rw [if_neg h1, if_neg h1]
    by_cases h2 : p.1 = k
    · rw [if_pos h2, if_pos h2, wv_snoc]
      by_cases h3 : p.2 = es
      · rw [if_pos h3, h, h3]
        unfold wv
        split
        · rw [h]
        · rfl
      · rw [if_neg h3]
    · rw [if_neg h2, if_neg h2]
/-- what is told of a later moment -/
theorem NdR.at (x : NdR fs n rs kvs k T) (h1 : k < m) (h2 : m ≤ rs.length) (es : List Int) : valV kvs (m, es) = vN (wv (rch fs [begun n] rs m) (lfAt fs rs m) es) := by
  rw [x (m, es)]
  unfold lv
  rw [if_neg (by show ¬ m < k; omega), if_neg (by show ¬ m = k; omega), if_pos h2]
theorem NdR.at0 (x : NdR fs n rs kvs 0 (rch fs [begun n] rs 0)) (h2 : m ≤ rs.length) (es : List Int) : valV kvs (m, es) = vN (wv (rch fs [begun n] rs m) (lfAt fs rs m) es) := by
  by_cases h : m = 0
  · subst h
    rw [x (0, es)]
    unfold lv
    rw [if_neg (Nat.lt_irrefl _), if_pos rfl]
  · exact x.at (by omega) h2 es
theorem putK_len (kvs : List (PK × V)) (k : PK) (v : V) : (putK kvs k v).length ≤ kvs.length + 1 := length_putK _ _ _
end
theorem nd_ne {P : Program} {w : World} {H : Hp} {d g : Addr} {kvs : List (PK × V)} {us : List V} (x : NdAt P w H d kvs) (h : H g = some (.lst us)) : d ≠ g := by
  obtain ⟨L, _, h2, _⟩ := x
  exact ne_of h2 h fun z => nomatch z
theorem nd_same {P : Program} {w : World} {H H' : Hp} {d : Addr} {kvs : List (PK × V)} (x : NdAt P w H d kvs) (s : Same H H') : NdAt P w H' d kvs := x.keeps (fun o e => s _ o e) (tk_same s)
/-! ### a log made -/
structure LgOk (P : Program) (w : World) (K : PySem.W.Frag) (mg : Str → Option Value) (base : Heap) (C f : Addr) : Prop where
  ex : ∃ fd, FnOk P w K mg base CX0 5 f fd ["self", "offices", "rows"] (spLogI C) ∧ Binds K fd ["self", "offices", "rows"] []
theorem pe_log {X : Cx} {C f : Addr} {j : Nat} {p pos : Pos} {e : Expr} {es : List Expr} {t : TA} (L : LogC X.K X.mg C f) (G : LgOk X.prog X.w X.K X.mg X.base C f) (hr : Room j X.A) (ha : PA X (e :: es) t) (hj : 6 ≤ j := by decide) (hg : Gl X "Log" := by rfl)
    (he : starEach (e :: es) X.env = (false, eval e X.env) :: starEach es X.env := by rfl) (hpl : (backTo pos (starEach es X.env)).any (·.1) = false := by rfl) :
    PE X (.Call (.Name "Log" p) (e :: es) [] pos) (tMake C (spLogI C) [] E0 t) := by
  obtain ⟨fd, F, b⟩ := G.ex
  exact pe_make L.mkC F (hr.mono hj) hg L.mgC b .nil pass0 ha (by decide) he hpl
theorem log_read {C : Addr} {H1 : Hp} {Qx : Addr → Hp → Prop} {n : Nat} {v : V} {rs : List Row} (hv : RowsV H1 v rs) (h1 : 1 ≤ n) (h2 : n ≤ 12) (h3 : rs.length ≤ 60) (ho : ∀ r ∈ rs, RowOk n r) (q : ∀ x H', Same H1 H' → LogV C H' (.ref x) n rs → Qx x H') :
    ∀ x dx, H1 x = none → H1 dx = none → dx ≠ x → spLogI C (.ref x :: ([.int (n : Nat), v] ++ [])) (upd (upd H1 dx (.own x)) x (.ins C dx [])) (fun u H2 => u = .non ∧ Qx x H2) E0 := by
  intro x dx nx ndx hne
  have s0 : Same H1 (upd (upd H1 dx (.own x)) x (.ins C dx [])) := fun b o e => by
    rw [upd_ne (ne_of_none e nx), upd_ne (ne_of_none e ndx)]
    exact e
  refine ⟨x, dx, n, v, rs, rfl, upd_same, (im_tup im_row).tk (tk_same s0) hv, h1, h2, h3, ho, fun H' hl hb => ⟨rfl, q x H' (fun b o e => hb b o (ne_of_none e nx) (s0 b o e)) hl⟩⟩
end K70

set_option maxRecDepth 100000
set_option maxHeartbeats 4000000
/-! the law's own way through a long log -/
namespace K70
open PySem PySem.Spec PyProof.Rows L2
section
variable {P : Program} {w : World} {K : PySem.W.Frag} {mg : Str → Option Value} {base : Heap}
def spLR : Sp := fun vs H Q _ => ∃ (h cs : Addr), vs = [.ref h] ∧ HandAt cs H h ∧ ∀ H', But h H H' → HandAt cs H' h → Q (.bl true) H'
theorem ok_lr {C f0 : Addr} (D : Stn K mg "_law_long_right" sLawLongRight ["_law_hand_here"]) (M : Mg mg) (L : LogC K mg C f0) (GL : LgOk P w K mg base C f0) (G0 : Ok P w K mg base 4 "_law_long" spLong) (G1 : Ok P w K mg base 1 "_law_next" spNexts) (G2 : Ok P w K mg base 1 "_law_heeds" spHeeds)
    (G3 : Ok P w K mg base 5 "fewest_done" (spDone C)) : Ok P w K mg base 7 "_law_long_right" spLR := by
  refine ok_of D scLawLongRight (fun vs H Q E h => ?_) (fun f cdv A outer s H vs Q E hr h => ?_)
  · obtain ⟨h, cs, rfl, _⟩ := h
    rfl
  · obtain ⟨h, cs, rfl, hh, q⟩ := h
    refine ⟨_, pss_cons (ps_asg (pe_f G0 hr (pa_cons (pv 0) pa_nil)) (pg_tup rfl (pgs_cons (pg_name (i := 1) scLawLongRight.nd rfl (.inl rfl)) (pgs_cons (pg_name (i := 2) scLawLongRight.nd rfl (.inl rfl)) (pgs_cons (pg_name (i := 3) scLawLongRight.nd rfl (.inl rfl)) pgs_nil)))))
      (pss_cons (ps_set (i := 4) scLawLongRight.nd rfl (.inl rfl) (pe_tupRg rfl (by rfl) M.tuple (prg_1 (by rfl) M.range (pv 1))))
      (pss_cons (ps_set (i := 5) scLawLongRight.nd rfl (.inl rfl) (pe_lst (pa_cons (pe_lst (pa_cons (pv 4) pa_nil)) pa_nil)))
      (pss_cons (ps_for PassesOwn.never rfl (pi_range1 (by rfl) M.range (pa_cons (pe_callB call_len_seq (by rfl) M.len PySem.boot_len (pa_cons (pv 2) pa_nil)) pa_nil)) (pg_name (i := 6) scLawLongRight.nd rfl (.inl rfl))
        (pss_cons (ps_set (i := 7) scLawLongRight.nd rfl (.inl rfl) pe_dnewT)
        (pss_cons (ps_for PassesOwn.never rfl (pi_list (pe_ix ix_list (pv 5) (pe_un un_neg pe_int) (fun _ _ => rfl))) (pg_name (i := 8) scLawLongRight.nd rfl (.inl rfl))
          (pss_one (ps_for PassesOwn.never rfl (pi_list (pe_f G1 hr (pa_cons (pv 8) (pa_cons (pe_ix ix_tup (pv 2) (pv 6) (fun _ _ => rfl)) pa_nil)))) (pg_tup rfl (pgs_cons (pg_name (i := 9) scLawLongRight.nd rfl (.inl rfl)) (pgs_cons (pg_name (i := 10) scLawLongRight.nd rfl (.inl rfl)) pgs_nil)))
            (pss_one (ps_if (pt_val (pe_f G2 hr (pa_cons (pv 3) (pa_cons (pe_op op_add (pv 6) pe_int) (pa_cons (pv 10) pa_nil)))))
              (pss_one (ps_dput (hu_of hr) (pv 7) (pv 10) pe_bl rfl)) pss_nil)))))
        (pss_one (ps_expr (pe_bm PySem.F.plainAttrs_list PySem.F.slot_list_append PySem.F.type_list_append mt_append (pv 5) (pa_cons (pe_callB cr_sortE (by rfl) M.sorted bi_sorted (pa_cons (pe_callTy (call_list_dT rfl) (by rfl) M.list bi_list (pa_cons (pv 7) pa_nil)) pa_nil)) pa_nil))))))
      )
      (pss_cons (ps_set (i := 11) scLawLongRight.nd rfl (.inl rfl) pe_ndnew)
      (pss_cons (ps_for PassesOwn.never rfl (pi_list (pe_ix ix_list (pv 5) (pe_un un_neg pe_int) (fun _ _ => rfl))) (pg_name (i := 8) scLawLongRight.nd rfl (.inl rfl))
        (pss_one (ps_ndput hr.units (pv 11) (pe_tup (pa_cons (pe_callB call_len_seq (by rfl) M.len PySem.boot_len (pa_cons (pv 2) pa_nil)) (pa_cons (pv 8) pa_nil))) pe_int rfl)))
      (pss_cons (ps_for PassesOwn.never rfl (pi_range1 (by rfl) M.range (pa_cons (pe_callB call_len_seq (by rfl) M.len PySem.boot_len (pa_cons (pv 2) pa_nil)) pa_nil)) (pg_name (i := 12) scLawLongRight.nd rfl (.inl rfl))
        (pss_cons (ps_set (i := 6) scLawLongRight.nd rfl (.inl rfl) (pe_op op_sub (pe_op op_sub (pe_callB call_len_seq (by rfl) M.len PySem.boot_len (pa_cons (pv 2) pa_nil)) pe_int) (pv 12)))
        (pss_one (ps_for PassesOwn.never rfl (pi_list (pe_ix ix_list (pv 5) (pv 6) (fun _ _ => rfl))) (pg_name (i := 8) scLawLongRight.nd rfl (.inl rfl))
          (pss_cons (ps_set (i := 13) scLawLongRight.nd rfl (.inl rfl) (pe_lst pa_nil))
          (pss_cons (ps_for PassesOwn.never rfl (pi_list (pe_f G1 hr (pa_cons (pv 8) (pa_cons (pe_ix ix_tup (pv 2) (pv 6) (fun _ _ => rfl)) pa_nil)))) (pg_tup rfl (pgs_cons (pg_name (i := 9) scLawLongRight.nd rfl (.inl rfl)) (pgs_cons (pg_name (i := 10) scLawLongRight.nd rfl (.inl rfl)) pgs_nil)))
            (pss_one (ps_if (pt_cmp (pc_ndin hr.units (pe_tup (pa_cons (pe_op op_add (pv 6) pe_int) (pa_cons (pv 10) pa_nil))) (pv 11)))
              (pss_one (ps_expr (pe_bm PySem.F.plainAttrs_list PySem.F.slot_list_append PySem.F.type_list_append mt_append (pv 13) (pa_cons (pe_op op_add (pe_callTy (r := rIntB) call_int1 (by rfl) M.int bi_int (pa_cons (pv 9) pa_nil))
                (pe_ndget hr.units (pv 11) (pe_tup (pa_cons (pe_op op_add (pv 6) pe_int) (pa_cons (pv 10) pa_nil))) (fun _ _ => rfl))) pa_nil)))) pss_nil)))
          (pss_one (ps_if (pt_cmpR op_gt (pe_callB call_len_seq (by rfl) M.len PySem.boot_len (pa_cons (pv 13) pa_nil)) pe_int (nomark _))
            (pss_one (ps_ndput hr.units (pv 11) (pe_tup (pa_cons (pv 6) (pa_cons (pv 8) pa_nil))) (pe_callB (cr_min rfl) (by rfl) M.min bi_min (pa_cons (pv 13) pa_nil)) rfl)) pss_nil))))))))
      (pss_cons (ps_set (i := 14) scLawLongRight.nd rfl (.inl rfl) (pe_f G3 hr (pa_cons (pe_log L GL hr (pa_cons (pv 1) (pa_cons (pv 2) pa_nil))) (pa_cons (pv 3) pa_nil))))
      (pss_cons (ps_if (PW.pt (pw_or (pt_cmp (pc_ndnotin hr.units (pe_tup (pa_cons pe_int (pa_cons (pv 4) pa_nil))) (pv 11))) (pw_or1 (pt_not (pt_val (pe_f G2 hr (pa_cons (pv 3) (pa_cons pe_int (pa_cons (pv 4) pa_nil)))))))))
          (pss_one (ps_ret (pe_cmpR op_isN (pv 14) pe_non (nomark _)))) pss_nil)
      (pss_cons (ps_set (i := 15) scLawLongRight.nd rfl (.inl rfl) (pe_tup pa_nil))
      (pss_cons (ps_set (i := 8) scLawLongRight.nd rfl (.inl rfl) (pv 4))
      (pss_cons (ps_for PassesOwn.never rfl (pi_range1 (by rfl) M.range (pa_cons (pe_callB call_len_seq (by rfl) M.len PySem.boot_len (pa_cons (pv 2) pa_nil)) pa_nil)) (pg_name (i := 6) scLawLongRight.nd rfl (.inl rfl))
        (pss_cons (ps_set (i := 16) scLawLongRight.nd rfl (.inl rfl) (pe_ndget hr.units (pv 11) (pe_tup (pa_cons (pv 6) (pa_cons (pv 8) pa_nil))) (fun _ _ => rfl)))
        (pss_one (ps_for PassesOwn.never rfl (pi_list (pe_f G1 hr (pa_cons (pv 8) (pa_cons (pe_ix ix_tup (pv 2) (pv 6) (fun _ _ => rfl)) pa_nil)))) (pg_tup rfl (pgs_cons (pg_name (i := 9) scLawLongRight.nd rfl (.inl rfl)) (pgs_cons (pg_name (i := 10) scLawLongRight.nd rfl (.inl rfl)) pgs_nil)))
          (pss_one (ps_if (PW.pt (pw_and (pt_cmpR op_eq (pe_callB call_len_seq (by rfl) M.len PySem.boot_len (pa_cons (pv 15) pa_nil)) (pv 6) (nomark _))
              (pw_and1 (pt_cmpR op_eq (pe_ndget2 hr.units (pv 11) (pe_tup (pa_cons (pe_op op_add (pv 6) pe_int) (pa_cons (pv 10) pa_nil))) (pe_un un_neg pe_int) ⟨rfl, rfl, rfl, rfl⟩)
                (pe_op op_sub (pv 16) (pe_callTy (r := rIntB) call_int1 (by rfl) M.int bi_int (pa_cons (pv 9) pa_nil))) (nomark _)))))
            (pss_cons (ps_set (i := 15) scLawLongRight.nd rfl (.inl rfl) (pe_op op_catA (pv 15) (pe_tup (pa_cons (pv 9) pa_nil))))
              (pss_one (ps_set (i := 8) scLawLongRight.nd rfl (.inl rfl) (pv 10)))) pss_nil))))))
      (pss_one (ps_ret (pe_cmpR (op_eqD hr.units) (pv 14) (pe_tup (pa_cons (pe_ndget hr.units (pv 11) (pe_tup (pa_cons pe_int (pa_cons (pv 4) pa_nil))) (fun _ _ => rfl)) (pa_cons (pv 15) pa_nil))) (nomark _))))))))))))))), ?_⟩
    refine ⟨_, rfl, h, cs, rfl, hh, fun p n v F rs fs H1 b1 hh1 hp1 n3 n4 hv h40 hro hF hf4 hfo => ?_⟩
    refine ⟨p, _, rfl, .of hp1, rfl, _, _, rfl, _, _, rfl, _, _, rfl, rfl, ?_⟩
    obtain ⟨pr, ws, rfl, hpr, hws⟩ := id hv
    -- first
    refine ⟨_, rfl, n, rfl, RgOk.of_le (by omega) (by omega) (by omega) (by omega), fun p0 np0 => ?_⟩
    have s2 : Same H1 (upd H1 p0 (.tup (rgV 0 (n : Int)))) := same_new np0
    have hp0 : (upd H1 p0 (.tup (rgV 0 (n : Int)))) p0 = some (.tup ((begun n).map V.int)) := by rw [upd_same, rg_begun]
    have bH2 : But h H (upd H1 p0 (.tup (rgV 0 (n : Int)))) := b1.trans (But.same s2)
    generalize upd H1 p0 (.tup (rgV 0 (n : Int))) = H2 at s2 hp0 bH2 ⊢
    have hh2 := hh1.same s2
    have hF2 := hF.same im_fnd s2
    have hpr2 := s2 _ _ hpr
    have hws2 : All2 (RowV H2) ws rs := hws.imp fun _ _ r => im_row.tk (tk_same s2) r
    clear hp1 hF hpr hws hv hh1 b1
    -- layers
    refine ⟨_, rfl, (by show 1 ≤ sizeLine; decide), fun a0 na0 => ⟨(by show 1 ≤ sizeLine; decide), fun la nla => ?_⟩⟩
    have s3 : Same H2 (upd H2 a0 (.lst [.ref p0])) := same_new na0
    have ha0 : (upd (upd H2 a0 (.lst [.ref p0])) la (.lst [.ref a0])) a0 = some (.lst [.ref p0]) := same_new nla _ _ upd_same
    have hla0 : (upd (upd H2 a0 (.lst [.ref p0])) la (.lst [.ref a0])) la = some (.lst [.ref a0]) := upd_same
    have nla2 : H2 la = none := s3.free nla
    have a0la : a0 ≠ la := fun e => by rw [← e, upd_same] at nla; cases nla
    have s4 : Same H2 (upd (upd H2 a0 (.lst [.ref p0])) la (.lst [.ref a0])) := s3.trans (same_new nla)
    generalize upd (upd H2 a0 (.lst [.ref p0])) la (.lst [.ref a0]) = H4 at ha0 hla0 s4 ⊢
    have hlay0 : LayAt H4 la fs n rs 1 := by
      refine ⟨[a0], rfl, hla0, fun z => a0la (List.mem_singleton.mp z).symm, fun m a e => ?_⟩
      cases m with
      | succ m => simp at e
      | zero =>
        cases e
        exact ⟨_, [begun n], ha0, All2.nil.snoc ⟨p0, rfl, s4 _ _ hp0⟩, fun _ => Iff.rfl, by simp⟩
    clear hla0 ha0 s3 nla na0
    have el : ((ws.length : Int)).toNat = rs.length := by rw [hws2.len]; omega
    refine ⟨_, rfl, pr, ws, rfl, .inr (.of (s4 _ _ hpr2)), _, rfl, by omega, by rw [hws2.len]; omega, ?_⟩
    rw [el]
    refine for_range (lo := 0) (n := rs.length) (fun i σ H7 => ∃ y6 y7 y8 y9 y10, σ = [some (.ref h), some (.int (n : Nat)), some (.ref pr), some (.ref F), some (.ref p0), some (.ref la), y6, y7, y8, y9, y10, none, none, none, none, none, none] ∧ Same H2 H7 ∧ LayAt H7 la fs n rs (i + 1))
      ⟨none, none, none, none, none, rfl, s4, hlay0⟩ ?_ ?_
    · rintro i σ H7 hi ⟨y6, y7, y8, y9, y10, rfl, s7, hlay⟩
      rw [Int.zero_add]
      refine fun l nl => ?_
      have s78 : Same H7 (upd H7 l (.dT [])) := same_new nl
      have hl8 : (upd H7 l (.dT [])) l = some (.dT []) := upd_same
      have hlay8 := hlay.same s78
      have ro := rowAt_ok hro hi
      obtain ⟨u0, hu0, hr0⟩ := hws2.get (rowAt_get hi)
      have s8 := s7.trans s78
      have nl2 : H2 l = none := s7.free nl
      generalize upd H7 l (.dT []) = H8 at s78 hl8 hlay8 s8 ⊢
      obtain ⟨us, a, hla, hul, vs, S, hav, hvs, hS, hv64⟩ := hlay8.last
      have hSo : ∀ es ∈ S, Shs n es := fun es h => rch_ok (first_ok n) hro i (by omega) es ((hS es).mp h)
      have hal : a ≠ l := ne_of hav hl8 fun z => nomatch z
      have hlal : la ≠ l := ne_of hla hl8 fun z => nomatch z
      have hprl : pr ≠ l := ne_of (s8 _ _ hpr2) hl8 fun z => nomatch z
      have hFs : LstAt FndV H8 F fs := hF2.same im_fnd s8
      have hr8 : RowV H8 u0 (rowAt rs i) := im_row.tk (tk_same s8) hr0
      refine ⟨_, rfl, _, rfl, la, _, -1, _, rfl, rfl, .of hla, atI_last _ _, a, rfl, ⟨vs, .of hav⟩, ?_⟩
      refine for_list (Pv := fun j σ H9 => ∃ z8 z9 z10, σ = [some (.ref h), some (.int (n : Nat)), some (.ref pr), some (.ref F), some (.ref p0), some (.ref la), some (.int (i : Nat)), some (.ref l), z8, z9, z10, none, none, none, none, none, none] ∧ But l H8 H9 ∧
          ∃ kv2 S2, H9 l = some (.dT kv2) ∧ Dk kv2 S2 ∧ ∀ es, es ∈ S2 ↔ es ∈ stepL fs i (S.take j) (rowAt rs i))
        ⟨_, _, _, rfl, But.refl _ _, [], [], hl8, .nil, fun es => Iff.rfl⟩ (fun j σ H9 _ ⟨_, _, _, _, b9, _⟩ => .of (b9 _ _ hal hav)) ?_ ?_
      · rintro j x0 σ H9 hx0 ⟨z8, z9, z10, rfl, b9, kv2, S2, hl9, hD2, hS2⟩
        obtain ⟨q0, hq0, hq1⟩ := hvs.back hx0
        have qo := hSo q0 (List.mem_of_getElem? hq0)
        have hq9 : IT H9 x0 q0 := im_it.tk (b9.tkD hl8) hq1
        refine ⟨_, rfl, _, rfl, _, rfl, pr, _, (i : Nat), _, rfl, rfl, .of (b9 _ _ hprl (s8 _ _ hpr2)), atI_nat hu0, _, _, n, q0, rowAt rs i, rfl, hq9, im_row.tk (b9.tkD hl8) hr8, qo, by omega, ro, fun p1 H11 s11 np1 hp1 => ?_⟩
        obtain ⟨xs, hpx, hxs⟩ := hp1
        have plp : p1 ≠ l := fun y => by rw [y, hl9] at np1; cases np1
        have b11 : But l H8 H11 := b9.trans (But.same s11)
        have hl11 := s11 _ _ hl9
        refine ⟨p1, rfl, ⟨xs, .of hpx⟩, ?_⟩
        refine for_list (Pv := fun k σ H12 => ∃ z9 z10, σ = [some (.ref h), some (.int (n : Nat)), some (.ref pr), some (.ref F), some (.ref p0), some (.ref la), some (.int (i : Nat)), some (.ref l), some x0, z9, z10, none, none, none, none, none, none] ∧ But l H11 H12 ∧
            ∃ kv3 S3, H12 l = some (.dT kv3) ∧ Dk kv3 S3 ∧ ∀ es, es ∈ S3 ↔ es ∈ S2 ∨ ((∃ x ∈ (nxs q0 (rowAt rs i)).take k, x.2 = es) ∧ heeds fs (i + 1) es = true))
          ⟨_, _, rfl, But.refl _ _, kv2, S2, hl11, hD2, fun es => ?_⟩ (fun k σ H12 _ ⟨_, _, _, b12, _⟩ => .of (b12 _ _ plp hpx)) ?_ ?_
        · constructor
          · exact .inl
          · rintro (y | ⟨⟨x, hx, _⟩, _⟩)
            · exact y
            · cases hx
        · rintro k xk σ H12 hxk ⟨z9, z10, rfl, b12, kv3, S3, hl12, hD3, hS3⟩
          obtain ⟨⟨fl, more⟩, hk1, hk2⟩ := hxs.back hxk
          have mo : Shs n more := nxs_ok qo ro _ (List.mem_of_getElem? hk1)
          obtain ⟨a3, u3, rfl, ha3, b3, rfl, hb3⟩ := im_fs.tk (b12.tkD hl11) hk2
          refine ⟨a3, _, rfl, .of ha3, rfl, _, _, rfl, _, _, rfl, rfl, ?_⟩
          have hF12 : LstAt FndV H12 F fs := by
            obtain ⟨ff, hf1, hf2⟩ := hFs
            exact ⟨ff, (b11.trans b12) _ _ (ne_of hf1 hl8 fun z => nomatch z) hf1, hf2.imp fun _ _ r => im_fnd.tk ((b11.trans b12).tkD hl8) r⟩
          refine ⟨_, rfl, _, rfl, _, _, rfl, rfl, _, rfl, F, i + 1, n, .ref b3, more, fs, rfl, hF12, ⟨b3, rfl, hb3⟩, mo.len, fun f hf => (hfo f hf).o, by omega, fun H13 s13 => ?_⟩
          have b13 : But l H11 H13 := b12.trans (But.same s13)
          have hl13 := s13 _ _ hl12
          refine ⟨heeds fs (i + 1) more, rfl, ?_⟩
          have full : ∀ es, ((∃ x ∈ (nxs q0 (rowAt rs i)).take (k + 1), x.2 = es) ∧ heeds fs (i + 1) es = true) ↔ ((∃ x ∈ (nxs q0 (rowAt rs i)).take k, x.2 = es) ∧ heeds fs (i + 1) es = true) ∨ (more = es ∧ heeds fs (i + 1) more = true) := fun es => by
            rw [take_snoc hk1]
            constructor
            · rintro ⟨⟨x, hx, e⟩, h⟩
              rcases List.mem_append.mp hx with y | y
              · exact .inl ⟨⟨x, y, e⟩, h⟩
              · rw [List.mem_singleton.mp y] at e
                exact .inr ⟨e, by rw [show more = es from e]; exact h⟩
            · rintro (⟨⟨x, hx, e⟩, h⟩ | ⟨e, h⟩)
              · exact ⟨⟨x, List.mem_append.mpr (.inl hx), e⟩, h⟩
              · exact ⟨⟨_, List.mem_append.mpr (.inr (List.mem_singleton.mpr rfl)), e⟩, e ▸ h⟩
          refine ite2 (fun hh => ?_) (fun hh => ?_)
          · have h3o : ∀ es ∈ S3, Shs n es := fun es h => by
              rcases (hS3 es).mp h with y | ⟨⟨x, hx, e⟩, _⟩
              · obtain ⟨q, hq, ⟨x, hx, e⟩, _⟩ := mem_stepL.mp ((hS2 es).mp y)
                rw [← e]
                exact nxs_ok (hSo q (List.mem_of_mem_take hq)) ro x hx
              · rw [← e]
                exact nxs_ok qo ro x (List.mem_of_mem_take hx)
            refine ⟨_, rfl, _, rfl, l, _, rfl, .t (k := ik more) hl13 (by rw [ik_map]; exact s13 _ _ hb3) ?_, _, _, rfl, b13.trans But.upd, _, _, upd_same, hD3.put more _, fun es => ?_⟩
            · rw [hD3.len]
              exact line_lt (Nat.le_trans (few4 n4 hD3.nd h3o) (by decide))
            · rw [mem_addS, full, hS3]
              constructor
              · rintro ((y | y) | y)
                · exact .inl y
                · exact .inr (.inl y)
                · exact .inr (.inr ⟨y.symm, hh⟩)
              · rintro (y | y | y)
                · exact .inl (.inl y)
                · exact .inl (.inr y)
                · exact .inr y.1.symm
          · refine ⟨_, _, rfl, b13, kv3, S3, hl13, hD3, fun es => ?_⟩
            rw [full, hS3]
            constructor
            · rintro (y | y)
              · exact .inl y
              · exact .inr (.inl y)
            · rintro (y | y | y)
              · exact .inl y
              · exact .inr y
              · exact absurd y.2 hh
        · rintro σ H12 ⟨z9, z10, rfl, b12, kv3, S3, hl12, hD3, hS3⟩
          refine ⟨_, _, _, rfl, b11.trans b12, kv3, S3, hl12, hD3, fun es => ?_⟩
          rw [hS3, take_snoc hq0, stepL_snoc, hS2, List.take_of_length_le (l := nxs q0 (rowAt rs i)) (by rw [← hxs.len]; exact Nat.le_refl _)]
      · rintro σ H9 ⟨z8, z9, z10, rfl, b9, kv2, S2, hl9, hD2, hS2⟩
        have hS3 : ∀ es, es ∈ S2 ↔ es ∈ rch fs [begun n] rs (i + 1) := fun es => by
          rw [hS2, List.take_of_length_le (by rw [← hvs.len]; exact Nat.le_refl _)]
          exact step_rch hS es
        have h2o : ∀ es ∈ S2, Shs n es := fun es h => rch_ok (first_ok n) hro (i + 1) (by omega) es ((hS3 es).mp h)
        have h35 := few4 n4 hD2.nd h2o
        have hla9 := b9 _ _ hlal hla
        refine ⟨_, rfl, .inl ⟨rfl, _, .of hla9⟩, _, rfl, l, kv2, rfl, .inl hl9, fun q1 bs nq1 hk => ?_⟩
        have hit := keys_it hk hD2.keys
        have s10 : Same H9 (upd H9 q1 (.lst (bs.map V.ref))) := same_new nq1
        have hit10 : All2 (IT (upd H9 q1 (.lst (bs.map V.ref)))) (bs.map V.ref) S2 := hit.imp fun _ _ r => im_it.tk (tk_same s10) r
        have hb64 : (bs.map V.ref).length ≤ 35 := by rw [hit.len]; exact h35
        refine ⟨n, (n : Int), by omega, q1, bs.map V.ref, rfl, .of upd_same, by omega, fun x hx => ?_, fun ys p2 hperm _ np2 => ?_⟩
        · obtain ⟨jx, hjx⟩ := List.getElem?_of_mem hx
          obtain ⟨es, he1, t, rfl, he2⟩ := hit10.back hjx
          have eo := h2o es (List.mem_of_getElem? he1)
          exact ⟨es, ⟨t, rfl, .of he2⟩, eo.len, eo.bd⟩
        · obtain ⟨T, hT1, hT2⟩ := hit10.perm hperm
          have s11 := s10.trans (same_new (o := .lst ys) np2)
          have hla11 := s11 _ _ hla9
          have p2la : p2 ≠ la := fun e => by
            have := s10 _ _ hla9
            rw [← e, np2] at this
            cases this
          have hset : SetAt (upd (upd H9 q1 (.lst (bs.map V.ref))) p2 (.lst ys)) p2 (rch fs [begun n] rs (i + 1)) :=
            ⟨ys, T, upd_same, hT1.imp fun _ _ r => im_it.tk (tk_same (same_new np2)) r, fun es => (hT2.mem_iff).trans (hS3 es), by rw [hperm.length_eq]; omega⟩
          have b11 : But l H8 (upd (upd H9 q1 (.lst (bs.map V.ref))) p2 (.lst ys)) := b9.trans (But.same s11)
          generalize upd (upd H9 q1 (.lst (bs.map V.ref))) p2 (.lst ys) = H11 at hla11 hset b11 s11 ⊢
          refine ⟨la, _, _, rfl, rfl, hla11, line_lt (by simp; omega), ?_⟩
          have s211 : Same H2 H11 := fun b o e => b11 b o (ne_of_none e nl2) (s8 _ _ e)
          have hlay11 : LayAt H11 la fs n rs (i + 1) := by
            obtain ⟨as, h1, h2, h3, h4⟩ := hlay8
            refine ⟨as, h1, b11 _ _ hlal h2, h3, fun m a' e => ?_⟩
            obtain ⟨vs', S', g1, g2⟩ := h4 m a' e
            exact (show SetAt H8 a' _ from ⟨vs', S', g1, g2⟩).keep (b11.tkD hl8) fun o eo => b11 _ _ (ne_of g1 hl8 fun z => nomatch z) eo
          refine ⟨_, _, _, _, _, rfl, fun b o e => ?_, hlay11.snoc hla11 hset p2la⟩
          rw [upd_ne (ne_of_none e nla2)]
          exact s211 _ _ e
    rintro σ H3 ⟨y6, y7, y8, y9, y10, rfl, s3, hlay⟩
    clear hlay0 s4 H4
    have hh3 := hh2.same s3
    have bH3 := bH2.trans (But.same s3)
    have hF3 := hF2.same im_fnd s3
    have hpr3 := s3 _ _ hpr2
    have hws3 : All2 (RowV H3) ws rs := hws2.imp fun _ _ r => im_row.tk (tk_same s3) r
    have hp03 := s3 _ _ hp0
    clear s3 hh2 bH2 hF2 hpr2 hws2 hp0 nla2
    -- least = {}
    refine fun d H4 nd hc hN => ?_
    have s4 : Same H3 H4 := fun b o e => by
      rw [hc b (ne_of_none e nd)]
      exact e
    have two : 2 ≤ sizeLine := by decide
    obtain ⟨us, a, hla, hul, vs, S, hav, hvs, hS, hv64⟩ := hlay.last
    refine ⟨_, rfl, _, rfl, la, _, -1, _, rfl, rfl, .of (s4 _ _ hla), atI_last _ _, a, rfl, ⟨vs, .of (s4 _ _ hav)⟩, ?_⟩
    refine for_list (Pv := fun j σ H5 => ∃ y8, σ = [some (.ref h), some (.int (n : Nat)), some (.ref pr), some (.ref F), some (.ref p0), some (.ref la), y6, y7, y8, y9, y10, some (.ref d), none, none, none, none, none] ∧ Same H3 H5 ∧
        ∃ kvs, NdAt P w H5 d kvs ∧ kvs.length ≤ j ∧ NdR fs n rs kvs rs.length (S.take j))
      ⟨_, rfl, s4, [], hN, Nat.le_refl _, NdR.nil⟩ (fun j σ H5 _ ⟨_, _, s5, _⟩ => .of (s5 _ _ hav)) ?_ ?_
    · rintro j x σ H5 hx ⟨y8, rfl, s5, kvs, hN5, hlen, hR⟩
      obtain ⟨es, he1, he2⟩ := hvs.back hx
      obtain ⟨b, rfl, hb⟩ := im_it.tk (tk_same s5) he2
      have hj : j < vs.length := (List.getElem?_eq_some_iff.mp hx).1
      refine ⟨_, rfl, _, rfl, pr, ws, rfl, .inr (.of (s5 _ _ hpr3)), _, rfl, two, fun T nT => ?_⟩
      have s6 : Same H5 (upd H5 T (.tup [.int (ws.length : Nat), .ref b])) := same_new nT
      refine ⟨d, T, kvs, (rs.length, es), rfl, rfl, nd_same hN5 s6, ⟨b, by rw [upd_same, hws3.len], s6 _ _ hb⟩, line_lt (by omega), fun H6 hc6 hN6 => ⟨_, rfl, fun c o e => ?_, _, hN6, Nat.le_trans (putK_len _ _ _) (by omega), ?_⟩⟩
      · rw [hc6 c (ne_of_none e nd)]
        exact s6 _ _ (s5 _ _ e)
      · rw [take_snoc he1]
        refine hR.put (c := 0) ?_
        unfold lfAt
        rw [List.drop_length] <;> rfl
    rintro σ H5 ⟨y8, rfl, s5, kvs, hN5, hlen, hR⟩
    rw [List.take_of_length_le (by rw [← hvs.len]; exact Nat.le_refl _)] at hR
    have hR5 := hR.congr hS
    have hl5 : kvs.length ≤ 64 := by omega
    clear hR hlen hS hvs hav hul hla s4 hN hc H4
    -- back through the moments
    refine ⟨_, rfl, pr, ws, rfl, .inr (.of (s5 _ _ hpr3)), _, rfl, by omega, by rw [hws3.len]; omega, ?_⟩
    rw [el]
    refine for_range (lo := 0) (n := rs.length) (fun i σ H6 => ∃ y6 y7 y8 y9 y10 y12 y13, σ = [some (.ref h), some (.int (n : Nat)), some (.ref pr), some (.ref F), some (.ref p0), some (.ref la), y6, y7, y8, y9, y10, some (.ref d), y12, y13, none, none, none] ∧ Same H3 H6 ∧
        ∃ kvs k, k + i = rs.length ∧ NdAt P w H6 d kvs ∧ kvs.length ≤ 64 * (i + 1) ∧ NdR fs n rs kvs k (rch fs [begun n] rs k))
      ⟨_, _, _, _, _, _, _, rfl, s5, kvs, rs.length, rfl, hN5, by omega, hR5⟩ ?_ ?_
    · rintro i σ H6 hi ⟨y6, y7, y8, y9, y10, y12, y13, rfl, s6, kvs, k, ek, hN6, hlen, hR⟩
      obtain ⟨m, rfl⟩ : ∃ m, k = m + 1 := ⟨k - 1, by omega⟩
      have hm : m < rs.length := by omega
      rw [Int.zero_add]
      refine ⟨_, rfl, pr, ws, rfl, .inr (.of (s6 _ _ hpr3)), _, _, rfl, rfl, _, rfl, _, _, rfl, rfl, ?_⟩
      dsimp only
      rw [show ((ws.length : Nat) : Int) - 1 - ((i : Nat) : Int) = ((m : Nat) : Int) by rw [hws3.len]; omega]
      obtain ⟨us, a, hla, hul, hgm, vs, S, hav, hvs, hS, hv64⟩ := hlay.get (m := m) (by omega)
      have hSo : ∀ es ∈ S, Shs n es := fun es h => rch_ok (first_ok n) hro m (by omega) es ((hS es).mp h)
      have ro := rowAt_ok hro hm
      obtain ⟨u0, hu0, hr0⟩ := hws3.get (rowAt_get hm)
      refine ⟨_, rfl, _, rfl, la, _, (m : Nat), _, rfl, rfl, .of (s6 _ _ hla), atI_nat hgm, a, rfl, ⟨vs, .of (s6 _ _ hav)⟩, ?_⟩
      refine for_list (Pv := fun j σ H7 => ∃ z8 z9 z10 z13, σ = [some (.ref h), some (.int (n : Nat)), some (.ref pr), some (.ref F), some (.ref p0), some (.ref la), some (.int (m : Nat)), y7, z8, z9, z10, some (.ref d), some (.int (i : Nat)), z13, none, none, none] ∧ Same H3 H7 ∧
          ∃ kv2, NdAt P w H7 d kv2 ∧ kv2.length ≤ 64 * (i + 1) + j ∧ NdR fs n rs kv2 m (S.take j))
        ⟨_, _, _, _, rfl, s6, kvs, hN6, by omega, hR.down (by omega)⟩ (fun j σ H7 _ ⟨_, _, _, _, _, s7, _⟩ => .of (s7 _ _ hav)) ?_ ?_
      · rintro j x σ H7 hx ⟨z8, z9, z10, z13, rfl, s7, kv2, hN7, hlen2, hR2⟩
        obtain ⟨es, he1, he2⟩ := hvs.back hx
        obtain ⟨bx, rfl, hbx⟩ := id he2
        have eso := hSo es (List.mem_of_getElem? he1)
        have her := (hS es).mp (List.mem_of_getElem? he1)
        have hj : j < vs.length := (List.getElem?_eq_some_iff.mp hx).1
        refine ⟨Nat.zero_le _, fun g ng => ?_⟩
        have s78 : Same H7 (upd H7 g (.lst [])) := same_new ng
        have hg8 : (upd H7 g (.lst [])) g = some (.lst []) := upd_same
        have ng3 : H3 g = none := s7.free ng
        generalize upd H7 g (.lst []) = H8 at s78 hg8 ⊢
        have hN8 := nd_same hN7 s78
        have s8 := s7.trans s78
        refine ⟨_, rfl, _, rfl, _, rfl, pr, _, (m : Nat), _, rfl, rfl, .of (s8 _ _ hpr3), atI_nat hu0, _, _, n, es, rowAt rs m, rfl, im_it.tk (tk_same s8) he2, im_row.tk (tk_same s8) hr0, eso, by omega, ro, fun p1 H9 s9 np1 hp1 => ?_⟩
        obtain ⟨xs, hpx, hxs⟩ := hp1
        have hg9 := s9 _ _ hg8
        have pg : p1 ≠ g := fun e => by rw [e, hg8] at np1; cases np1
        have hN9 := nd_same hN8 s9
        have dg := nd_ne hN9 hg9
        generalize eg : wv (rch fs [begun n] rs (m + 1)) (lfAt fs rs (m + 1)) = gg
        have look : ∀ q, valV kv2 (m + 1, q) = vN (gg q) := fun q => by
          rw [← eg]
          exact hR2.at (by omega) (by omega) q
        have xs2 : xs.length ≤ 2 := by
          rw [hxs.len]
          unfold nxs
          rw [List.length_map]
          rcases opts_cases (rowAt rs m) with ⟨_, e⟩ | ⟨_, e⟩ <;> rw [e] <;> decide
        refine ⟨p1, rfl, ⟨xs, .of hpx⟩, ?_⟩
        refine for_list (Pv := fun k σ H10 => ∃ z9 z10, σ = [some (.ref h), some (.int (n : Nat)), some (.ref pr), some (.ref F), some (.ref p0), some (.ref la), some (.int (m : Nat)), y7, some (.ref bx), z9, z10, some (.ref d), some (.int (i : Nat)), some (.ref g), none, none, none] ∧ But g H9 H10 ∧
            H10 g = some (.lst (((cands gg ((nxs es (rowAt rs m)).take k)).map fun q : Nat => (q : Int)).map V.int)))
          ⟨_, _, rfl, But.refl _ _, hg9⟩ (fun k σ H10 _ ⟨_, _, _, b10, _⟩ => .of (b10 _ _ pg hpx)) ?_ ?_
        · rintro k xk σ H10 hxk ⟨z9, z10, rfl, b10, hg10⟩
          obtain ⟨⟨fl, more⟩, hk1, hk2⟩ := hxs.back hxk
          obtain ⟨a3, u3, rfl, ha3, b3, rfl, hb3⟩ := im_fs.tk (b10.tk hg9) hk2
          refine ⟨a3, _, rfl, .of ha3, rfl, _, _, rfl, _, _, rfl, rfl, ?_⟩
          have hN10 : NdAt P w H10 d kv2 := hN9.keeps (fun o e => b10 _ _ dg e) (b10.tk hg9)
          refine ⟨_, rfl, _, _, rfl, rfl, _, rfl, two, fun T nT => ?_⟩
          have s11 : Same H10 (upd H10 T (.tup [.int ((m : Nat) + 1), .ref b3])) := same_new nT
          have hT11 : (upd H10 T (.tup [.int ((m : Nat) + 1), .ref b3])) T = some (.tup [.int ((m + 1 : Nat) : Int), .ref b3]) := upd_same
          generalize upd H10 T (.tup [.int ((m : Nat) + 1), .ref b3]) = H11 at s11 hT11 ⊢
          have hg11 := s11 _ _ hg10
          refine ⟨_, rfl, d, T, kv2, (m + 1, more), rfl, rfl, nd_same hN10 s11, ⟨b3, hT11, s11 _ _ hb3⟩, _, rfl, ?_⟩
          rw [look]
          refine ite2 (fun hh => ?_) (fun hh => ?_)
          · cases e : gg more with
            | none =>
              rw [e] at hh
              cases hh
            | some q0 =>
              refine ⟨_, rfl, .inl ⟨rfl, _, .of hg11⟩, _, rfl, .inr ⟨fl, rfl, _, rfl, _, rfl, _, _, rfl, rfl, _, rfl, two, fun T2 nT2 => ?_⟩⟩
              have s12 : Same H11 (upd H11 T2 (.tup [.int ((m : Nat) + 1), .ref b3])) := same_new nT2
              have hT12 : (upd H11 T2 (.tup [.int ((m : Nat) + 1), .ref b3])) T2 = some (.tup [.int ((m + 1 : Nat) : Int), .ref b3]) := upd_same
              generalize upd H11 T2 (.tup [.int ((m : Nat) + 1), .ref b3]) = H12 at s12 hT12 ⊢
              have s1012 := s11.trans s12
              refine ⟨d, T2, kv2, (m + 1, more), .int (q0 : Nat), rfl, rfl, nd_same hN10 s1012, ⟨b3, hT12, s1012 _ _ hb3⟩, by rw [look, e] <;> rfl, _, _, rfl, rfl, g, _, _, rfl, rfl, s12 _ _ hg11, ?_, _, _, rfl, ?_, ?_⟩
              · simp only [List.length_map]
                have := cands_len gg ((nxs es (rowAt rs m)).take k)
                have := List.length_take_le' k (nxs es (rowAt rs m))
                rw [← hxs.len] at this
                exact line_lt (by omega)
              · exact (b10.trans (But.same s1012)).trans But.upd
              · rw [upd_same, take_snoc hk1, cands_snoc, e]
                simp only [List.map_append]
                cases fl <;> simp <;> omega
          · cases e : gg more with
            | some q0 =>
              rw [e] at hh
              exact absurd rfl hh
            | none =>
              refine ⟨_, _, rfl, b10.trans (But.same s11), ?_⟩
              rw [hg11, take_snoc hk1, cands_snoc, e]
              simp
        · rintro σ H10 ⟨z9, z10, rfl, b10, hg10⟩
          rw [List.take_of_length_le (by rw [← hxs.len]; exact Nat.le_refl _)] at hg10
          have hN10 : NdAt P w H10 d kv2 := hN9.keeps (fun o e => b10 _ _ dg e) (b10.tk hg9)
          have s10 : Same H3 H10 := fun b o e => b10 b o (ne_of_none e ng3) (s9 _ _ (s8 _ _ e))
          refine ⟨_, rfl, g, _, rfl, .inl (.of hg10), _, _, rfl, rfl, _, rfl, ?_⟩
          by_cases hn : cands gg (nxs es (rowAt rs m)) = []
          · rw [decide_eq_false (show ¬ (0 : Int) < _ by rw [hn]; simp)]
            refine iteF ⟨_, _, _, _, rfl, s10, kv2, hN10, by omega, ?_⟩
            rw [take_snoc he1]
            exact hR2.skip (lf_none her hm (by rw [eg]; exact hn))
          · have hpos : 0 < (cands gg (nxs es (rowAt rs m))).length := List.length_pos_iff.mpr hn
            rw [decide_eq_true (show (0 : Int) < _ by simp only [List.length_map]; omega)]
            refine iteT ⟨_, rfl, g, _, rfl, .of hg10, by simp only [List.length_map]; exact hpos, fun q hq hmin => ?_⟩
            obtain ⟨q1, hq1, rfl⟩ := List.mem_map.mp hq
            refine ⟨_, rfl, _, rfl, _, rfl, two, fun T nT => ?_⟩
            have s11 : Same H10 (upd H10 T (.tup [.int (m : Nat), .ref bx])) := same_new nT
            refine ⟨d, T, kv2, (m, es), rfl, rfl, nd_same hN10 s11, ⟨bx, upd_same, s11 _ _ (s10 _ _ hbx)⟩, line_lt (by omega), fun H12 hc12 hN12 => ⟨_, _, _, _, rfl, fun c o e => ?_, _, hN12, Nat.le_trans (putK_len _ _ _) (by omega), ?_⟩⟩
            · rw [hc12 c (ne_of_none e nd)]
              exact s11 _ _ (s10 _ _ e)
            · rw [take_snoc he1]
              refine hR2.put (lf_some her hm (by rw [eg]; exact hq1) fun j hj => ?_)
              rw [eg] at hj
              have := hmin (j : Nat) (List.mem_map.mpr ⟨j, hj, rfl⟩)
              omega
      · rintro σ H7 ⟨z8, z9, z10, z13, rfl, s7, kv2, hN7, hlen2, hR2⟩
        rw [List.take_of_length_le (by rw [← hvs.len]; exact Nat.le_refl _)] at hR2
        exact ⟨_, _, _, _, _, _, _, rfl, s7, kv2, m, by omega, hN7, by omega, hR2.congr hS⟩
    rintro σ H6 ⟨y6, y7, y8, y9, y10, y12, y13, rfl, s6, kvs, k, ek, hN6, hlen, hR⟩
    obtain rfl : k = 0 := by omega
    clear hN5 hR5 hl5 s5 H5 ek hlen hlay nd
    have hwv : wv (rch fs [begun n] rs 0) (lfAt fs rs 0) (begun n) = (best fs rs 0 (begun n)).map (·.1) := by
      unfold wv lfAt
      rw [if_pos (show begun n ∈ rch fs [begun n] rs 0 from List.mem_singleton.mpr rfl)]
      exact lf_best fs rs 0 (begun n)
    have hk0 : valV kvs (0, begun n) = vN ((best fs rs 0 (begun n)).map (·.1)) := by
      rw [hR.at0 (Nat.zero_le _), hwv]
    have hv6 : RowsV H6 (.ref pr) rs := ⟨pr, ws, rfl, s6 _ _ hpr3, hws3.imp fun _ _ r => im_row.tk (tk_same s6) r⟩
    -- told
    refine ⟨_, rfl, _, rfl, log_read hv6 (by omega) (by omega) (by omega) hro fun x H7 s7 hlog => ?_⟩
    have hF7 : FndsV H7 (.ref F) fs := by
      obtain ⟨ff, g1, g2⟩ := hF3
      exact ⟨F, ff, rfl, .inl ((s6.trans s7) _ _ g1), g2.imp fun _ _ r => im_fnd.tk (tk_same (s6.trans s7)) r⟩
    refine ⟨_, rfl, .ref x, .ref F, n, rs, fs, rfl, hlog, hF7, hfo, hro, by omega, by omega, by omega, fun z H8 s8 hz => ?_⟩
    have s38 : Same H3 H8 := s6.trans (s7.trans s8)
    have hN8 := nd_same hN6 (s7.trans s8)
    clear hF7 hlog s8 s7 hv6 hN6 s6 H7 H6
    -- if
    refine ⟨_, rfl, two, fun T nT => ?_⟩
    have s9 : Same H8 (upd H8 T (.tup [.int 0, .ref p0])) := same_new nT
    have hT9 : (upd H8 T (.tup [.int 0, .ref p0])) T = some (.tup [.int ((0 : Nat) : Int), .ref p0]) := upd_same
    generalize upd H8 T (.tup [.int 0, .ref p0]) = H9 at s9 hT9 ⊢
    have s39 := s38.trans s9
    have hN9 := nd_same hN8 s9
    refine ⟨_, rfl, d, T, kvs, (0, begun n), rfl, rfl, hN9, ⟨p0, hT9, s39 _ _ hp03⟩, _, rfl, ?_⟩
    rw [hk0]
    cases eb : best fs rs 0 (begun n) with
    | none =>
      have ea : ans fs n rs = none := by
        unfold ans
        split
        · exact eb
        · rfl
      rw [ea] at hz
      have ez : z = .non := hz
      subst ez
      refine iteT ⟨_, rfl, rfl, ?_⟩
      rw [decide_eq_true rfl]
      exact q H9 (bH3.trans (But.same s39)) (hh3.same s39)
    | some a =>
      obtain ⟨c0, full⟩ := a
      rw [eb] at hk0
      refine iteF ⟨_, rfl, _, rfl, F, 0, n, .ref p0, begun n, fs, rfl, hF3.same im_fnd s39, ⟨p0, rfl, s39 _ _ hp03⟩, begun_len n, fun f hf => (hfo f hf).o, by omega, fun H10 s10 => ⟨_, rfl, ?_⟩⟩
      have s310 := s39.trans s10
      have hN10 := nd_same hN9 s10
      have hz10 := im_ans.tk (tk_same (s9.trans s10)) hz
      clear hz hN9 hT9 s39 s9 hN8 s38 nT s10 H9
      by_cases hh0 : heeds fs 0 (begun n) = true
      case neg =>
        have ea : ans fs n rs = none := by
          unfold ans
          rw [if_neg hh0]
        rw [ea] at hz10
        have ez : z = .non := hz10
        subst ez
        have hf : heeds fs 0 (begun n) = false := by
          cases e : heeds fs 0 (begun n)
          · rfl
          · exact absurd e hh0
        rw [hf]
        refine iteT ⟨_, rfl, rfl, ?_⟩
        rw [decide_eq_true rfl]
        exact q H10 (bH3.trans (But.same s310)) (hh3.same s310)
      rw [hh0]
      have ea : ans fs n rs = some (c0, full) := by
        unfold ans
        rw [if_pos hh0]
        exact eb
      rw [ea] at hz10
      have hlen : full.length = rs.length := best_len fs rs 0 _ _ eb
      refine iteF ⟨Nat.zero_le _, fun T0 nT0 => ⟨_, rfl, ?_⟩⟩
      have s11 : Same H10 (upd H10 T0 (.tup [])) := same_new nT0
      have hT0 : BT (upd H10 T0 (.tup [])) (.ref T0) [] := ⟨T0, rfl, upd_same⟩
      generalize upd H10 T0 (.tup []) = H11 at s11 hT0 ⊢
      have s3B := s310.trans s11
      have hNB := nd_same hN10 s11
      have hzB := im_ans.tk (tk_same s11) hz10
      clear s11 nT0 hz10 hN10 s310 H10
      refine ⟨_, rfl, pr, ws, rfl, .inr (.of (s3B _ _ hpr3)), _, rfl, by omega, by rw [hws3.len]; omega, ?_⟩
      rw [el]
      refine for_range (lo := 0) (n := rs.length) (fun i σ H5 => ∃ u dg es dd c rest y6 y9 y10 y16, σ = [some (.ref h), some (.int (n : Nat)), some (.ref pr), some (.ref F), some (.ref p0), some (.ref la), y6, y7, some u, y9, y10, some (.ref d), y12, y13, some z, some dg, y16] ∧ Same H11 H5 ∧ IT H5 u es ∧ BT H5 dg dd ∧ es ∈ rch fs [begun n] rs i ∧
          best fs (rs.drop i) i es = some (c, rest) ∧ dd ++ rest = full ∧ dd.length = i)
        ⟨_, _, begun n, [], c0, full, _, _, _, _, rfl, Same.refl _, ⟨p0, rfl, s3B _ _ hp03⟩, hT0, List.mem_singleton.mpr rfl, eb, rfl, rfl⟩ ?_ ?_
      · rintro i σ H5 hi' ⟨u, dg, es, dd, c, rest, y6, y9, y10, y16, rfl, s5, hes, hdg, her, hbe, hfu, hdl⟩
        rw [Int.zero_add]
        have hNi := nd_same hNB s5
        have s35 := s3B.trans s5
        have ro := rowAt_ok hro hi'
        generalize er : rowAt rs i = r at ro
        have hr1 : rs[i]? = some r := by rw [rowAt_get hi', er]
        have eso : Shs n es := rch_ok (first_ok n) hro i (by omega) es her
        obtain ⟨bu, rfl, hbu⟩ := id hes
        obtain ⟨u0, hu0, hr0⟩ := hws3.get hr1
        have hv2 : valV kvs (i, es) = some (.int (c : Nat)) := by
          rw [hR.at0 (by omega)]
          unfold wv lfAt
          rw [if_pos her, lf_best, hbe] <;> rfl
        refine ⟨_, rfl, _, rfl, _, rfl, two, fun T nT => ?_⟩
        have s6 : Same H5 (upd H5 T (.tup [.int (i : Nat), .ref bu])) := same_new nT
        have hT6 : (upd H5 T (.tup [.int (i : Nat), .ref bu])) T = some (.tup [.int (i : Nat), .ref bu]) := upd_same
        generalize upd H5 T (.tup [.int (i : Nat), .ref bu]) = H6 at s6 hT6 ⊢
        refine ⟨d, T, kvs, (i, es), _, rfl, rfl, nd_same hNi s6, ⟨bu, hT6, s6 _ _ hbu⟩, hv2, ?_⟩
        have s36 := s35.trans s6
        have hes6 := im_it.tk (tk_same s6) hes
        have hdg6 := im_bt.tk (tk_same s6) hdg
        refine ⟨_, rfl, _, rfl, _, rfl, pr, _, (i : Nat), _, rfl, rfl, .of (s36 _ _ hpr3), atI_nat hu0, _, _, n, es, r, rfl, hes6, im_row.tk (tk_same s36) hr0, eso, by omega, ro, fun p1 H7 s7 np1 hp1 => ?_⟩
        obtain ⟨xs, hpx, hxs⟩ := hp1
        have ed : rs.drop i = r :: rs.drop (i + 1) := by
          rw [List.drop_eq_getElem_cons hi']
          rw [List.getElem?_eq_getElem hi'] at hr1
          rw [Option.some.inj hr1]
        rw [ed] at hbe
        obtain ⟨b, d', c', erest, ec, hbo, hhb, hbb, hlb, hno⟩ := best_step hbe
        have hN7 := nd_same hNi (s6.trans s7)
        refine ⟨p1, rfl, ⟨xs, .of hpx⟩, ?_⟩
        refine for_list (Pv := fun k σ H8 => ∃ u' dg' y9 y10, σ = [some (.ref h), some (.int (n : Nat)), some (.ref pr), some (.ref F), some (.ref p0), some (.ref la), some (.int (i : Nat)), y7, some u', y9, y10, some (.ref d), y12, y13, some z, some dg', some (.int (c : Nat))] ∧ Same H7 H8 ∧
            ((b ∉ (opts r).take k ∧ u' = .ref bu ∧ dg' = dg) ∨ (b ∈ (opts r).take k ∧ IT H8 u' (mv b es r) ∧ BT H8 dg' (dd ++ [b]))))
          ⟨_, _, _, _, rfl, Same.refl _, .inl ⟨by simp, rfl, rfl⟩⟩ (fun k σ H8 _ ⟨_, _, _, _, _, s8, _⟩ => .of (s8 _ _ hpx)) ?_ ?_
        · rintro k xk σ H8 hxk ⟨u', dg', y9, y10, rfl, s8, hch⟩
          obtain ⟨⟨fl, more⟩, hk1, hk2⟩ := hxs.back hxk
          obtain ⟨a3, u3, rfl, ha3, b3, rfl, hb3⟩ := im_fs.tk (tk_same s8) hk2
          have hok : (opts r)[k]? = some fl ∧ more = mv fl es r := by
            unfold nxs at hk1
            rw [List.getElem?_map] at hk1
            obtain ⟨b1, q1, q2⟩ := Option.map_eq_some_iff.mp hk1
            cases q2
            exact ⟨q1, rfl⟩
          obtain ⟨hok, rfl⟩ := hok
          have s78 := s7.trans s8
          have hN8 := nd_same hN7 s8
          refine ⟨a3, _, rfl, .of ha3, rfl, _, _, rfl, _, _, rfl, rfl, ?_⟩
          rcases hch with ⟨hnb, rfl, rfl⟩ | ⟨hb, hu', hdg'⟩
          · have hdg8 := im_bt.tk (tk_same s78) hdg6
            obtain ⟨pd, rfl, hpd⟩ := id hdg8
            refine ⟨_, rfl, pd, _, rfl, .inr (.of hpd), _, rfl, rfl, true, by rw [List.length_map, hdl]; simp, iteT ?_⟩
            refine ⟨_, rfl, d, rfl, ⟨_, hN8⟩, _, rfl, _, _, rfl, rfl, _, rfl, two, fun T2 nT2 => ?_⟩
            have s9 : Same H8 (upd H8 T2 (.tup [.int ((i : Nat) + 1), .ref b3])) := same_new nT2
            have hT9 : (upd H8 T2 (.tup [.int ((i : Nat) + 1), .ref b3])) T2 = some (.tup [.int ((i + 1 : Nat) : Int), .ref b3]) := upd_same
            generalize upd H8 T2 (.tup [.int ((i : Nat) + 1), .ref b3]) = H9 at s9 hT9 ⊢
            refine ⟨_, rfl, T2, kvs, (i + 1, mv fl es r), rfl, nd_same hN8 s9, ⟨b3, hT9, s9 _ _ hb3⟩, ?_⟩
            rw [hR.at0 (m := i + 1) (by omega)]
            refine ⟨_, rfl, _, rfl, .inr ⟨fl, rfl, _, _, rfl, rfl, ?_⟩⟩
            have hsc : ∀ (o : Option Nat) (j : Int), scal ((vN o).getD (.int (-1))) (.int j) = true := fun o j => by cases o <;> rfl
            refine ⟨hsc _ _, _, rfl, ?_⟩
            by_cases efb : fl = b
            · subst efb
              have hv3 : wv (rch fs [begun n] rs (i + 1)) (lfAt fs rs (i + 1)) (mv fl es r) = some c' := by
                unfold wv lfAt
                rw [if_pos (mem_rch.mpr ⟨es, her, fl, by rw [er]; exact hbo, by rw [er], hhb⟩), hlb]
              rw [hv3, decide_eq_true (show (vN (some c')).getD (.int (-1)) = .int _ by
                show V.int _ = V.int _
                rw [ec]
                cases fl <;> simp <;> omega)]
              refine iteT ⟨_, rfl, _, rfl, (by show 1 ≤ sizeLine; decide), fun T3 nT3 => ?_⟩
              have s10 : Same H9 (upd H9 T3 (.tup [.bl fl])) := same_new nT3
              refine cat_bt (im_bt.tk (tk_same (s9.trans s10)) hdg8) upd_same (by omega) fun z2 H10 s11 hz2 => ?_
              refine ⟨_, rfl, _, _, _, _, rfl, ((s8.trans s9).trans s10).trans s11, .inr ⟨?_, ⟨b3, rfl, ((s9.trans s10).trans s11) _ _ hb3⟩, hz2⟩⟩
              rw [take_snoc hok]
              simp
            · rw [decide_eq_false, ]
              · refine iteF ⟨_, _, _, _, rfl, s8.trans s9, .inl ⟨?_, rfl, rfl⟩⟩
                rw [take_snoc hok]
                intro z
                rcases List.mem_append.mp z with y | y
                · exact hnb y
                · exact efb (List.mem_singleton.mp y).symm
              · intro hv
                rcases opts_cases r with ⟨hs, e⟩ | ⟨hs, e⟩
                · rw [e] at hok hbo
                  have e1 := List.mem_singleton.mp hbo
                  have e2 := List.mem_singleton.mp (List.mem_of_getElem? hok)
                  exact efb (e2.trans e1.symm)
                · have hk0 : fl = false ∧ b = true := by
                    rw [e] at hok hnb
                    cases k with
                    | zero =>
                      have : fl = false := (Option.some.inj hok).symm
                      subst this
                      refine ⟨rfl, ?_⟩
                      cases b
                      · exact absurd rfl efb
                      · rfl
                    | succ k =>
                      cases k with
                      | zero =>
                        have : fl = true := (Option.some.inj hok).symm
                        subst this
                        cases b
                        · exact absurd (by simp) hnb
                        · exact absurd rfl efb
                      | succ k => simp at hok
                  obtain ⟨rfl, rfl⟩ := hk0
                  refine hno rfl hs ?_
                  cases ew : wv (rch fs [begun n] rs (i + 1)) (lfAt fs rs (i + 1)) (mv false es r) with
                  | none =>
                    rw [ew] at hv
                    have e3 : (-1 : Int) = (c : Int) - 0 := V.int.inj hv
                    omega
                  | some q0 =>
                    rw [ew] at hv
                    have e3 : ((q0 : Nat) : Int) = (c : Int) - 0 := V.int.inj hv
                    have e4 : q0 = c := by omega
                    subst e4
                    unfold wv lfAt at ew
                    by_cases hm : mv false es r ∈ rch fs [begun n] rs (i + 1)
                    · rw [if_pos hm] at ew
                      obtain ⟨_, _, _, _, _, h1⟩ := mem_rch.mp hm
                      exact ⟨h1, ew⟩
                    · rw [if_neg hm] at ew
                      cases ew
          · obtain ⟨pd, rfl, hpd⟩ := id hdg'
            refine ⟨_, rfl, pd, _, rfl, .inr (.of hpd), _, rfl, rfl, false, ?_, iteF (iteF ?_)⟩
            · refine congrArg V.bl (decide_eq_false fun z => ?_)
              have := V.int.inj z
              simp [hdl] at this
              omega
            · refine ⟨_, _, _, _, rfl, s8, .inr ⟨?_, hu', hdg'⟩⟩
              rw [take_snoc hok]
              exact List.mem_append.mpr (.inl hb)
        · rintro σ H8 ⟨u', dg', y9, y10, rfl, s8, hch⟩
          have eo : (opts r).take xs.length = opts r := List.take_of_length_le (by
            rw [hxs.len]
            unfold nxs
            rw [List.length_map]
            exact Nat.le_refl _)
          rw [eo] at hch
          rcases hch with ⟨hnb, _⟩ | ⟨_, hu', hdg'⟩
          · exact absurd hbo hnb
          · refine ⟨u', dg', mv b es r, dd ++ [b], c', d', _, _, _, _, rfl, ((s5.trans s6).trans s7).trans s8, hu', hdg', ?_, hbb, ?_, by simp [hdl]⟩
            · exact mem_rch.mpr ⟨es, her, b, by rw [er]; exact hbo, by rw [er], hhb⟩
            · rw [← hfu, erest, List.append_assoc] <;> rfl
      · rintro σ H5 ⟨u, dg, es, dd, c, rest, y6, y9, y10, y16, rfl, s5, hes, hdg, her, hbe, hfu, hdl⟩
        have e0 : rest = [] := by
          have h1 := congrArg List.length hfu
          rw [List.length_append, hdl, hlen] at h1
          exact List.length_eq_zero_iff.mp (by omega)
        rw [e0, List.append_nil] at hfu
        subst hfu
        have s35 := s3B.trans s5
        refine ⟨_, rfl, _, rfl, _, rfl, two, fun T nT => ?_⟩
        have s6 : Same H5 (upd H5 T (.tup [.int 0, .ref p0])) := same_new nT
        have hT6 : (upd H5 T (.tup [.int 0, .ref p0])) T = some (.tup [.int ((0 : Nat) : Int), .ref p0]) := upd_same
        generalize upd H5 T (.tup [.int 0, .ref p0]) = H6 at s6 hT6 ⊢
        refine ⟨d, T, kvs, (0, begun n), .int (c0 : Nat), rfl, rfl, nd_same hNB (s5.trans s6), ⟨p0, hT6, (s35.trans s6) _ _ hp03⟩, by rw [hk0] <;> rfl, _, rfl, two, fun T2 nT2 => ?_⟩
        have s7 : Same H6 (upd H6 T2 (.tup [.int (c0 : Nat), dg])) := same_new nT2
        have s67 := s6.trans s7
        refine ⟨ansD (some (c0, dd)), ansD (some (c0, dd)), dp_ans (im_ans.tk (tk_same (s5.trans s67)) hzB), dp_pair upd_same (im_bt.tk (tk_same s67) hdg), shaped_ans _, shaped_ans _, ?_⟩
        rw [eqv_ans]
        exact q _ (bH3.trans (But.same (s35.trans s67))) (hh3.same (s35.trans s67))
end
end K70

set_option maxRecDepth 100000
set_option maxHeartbeats 4000000
/-! the law itself -/
namespace K70
open PySem PySem.Spec PyProof.Rows L2
theorem seq_join {ta tb : TS} {D : Ends} {σ : L2.St} {H : Hp} (Pm : L2.St → Hp → Prop) (h1 : ∀ D' : Ends, (∀ σ' H', Pm σ' H' → D'.nx σ' H') → ta D' σ H) (h2 : ∀ σ' H', Pm σ' H' → tb D σ' H') : tSeq ta tb D σ H := h1 _ h2
theorem next_in {D : Ends} {σ : L2.St} {H : Hp} (h : D.nx σ H) : tNext D σ H := h
theorem pair_in {ta : TE} {tb : TA} {σ : L2.St} {H : Hp} {Q : VK} (h : ta σ H fun x H1 => tb σ H1 fun xs H2 => (x :: xs).length ≤ sizeLine ∧ ∀ p, H2 p = none → Q (.ref p) (upd H2 p (.tup (x :: xs)))) : tTup (tCons ta tb) σ H Q := h
theorem LogV.but {C : Addr} {h : Addr} {cs : Addr} {H H' : Hp} {v : V} {n : Nat} {rs : List Row} (x : LogV C H v n rs) (hh : HandAt cs H h) (b : But h H H') : LogV C H' v n rs := by
  obtain ⟨a, dx, q, e, hx, r⟩ := x
  obtain ⟨ks, hk⟩ := hh.lst
  exact ⟨a, dx, q, e, b _ _ (ne_of hx hk fun z => nomatch z) hx, (im_tup im_row).tk (b.tkH hh) r⟩
theorem ne_ans {K : PySem.W.Frag} {H : Hp} {Q : VK} {x y : V} {o : Option (Nat × List Bool)} (hx : AnsV H x o) (hy : AnsV H y o) (q : Q (.bl false) H) : rNeD K x y H Q := by
  refine ⟨ansD o, ansD o, dp_ans hx, dp_ans hy, shaped_ans _, shaped_ans _, ?_⟩
  rw [eqv_ans]
  exact q
theorem repr_ok {H : Hp} {x : V} : ∀ {o : Option (Nat × List Bool)}, AnsV H x o → (∀ c d, o = some (c, d) → c ≤ 60 ∧ d.length ≤ 60) → ansD o = .none ∨ ((∃ a, x = .ref a) ∧ (ansD o).showable = true ∧ (ansD o).hasDict = false ∧ (ansD o).depth ≤ 60 ∧ (ansD o).shown.length ≤ sizeLine)
  | none, _, _ => .inl rfl
  | some (c, d), hx, ho => by
    obtain ⟨p, u, e, _, _⟩ := hx
    exact .inr ⟨⟨p, e⟩, show_ans (ho c d rfl).1 (ho c d rfl).2⟩
/-- the flags of a doing that are true, by the law's list -/
theorem flags_read {K : PySem.W.Frag} {y0 y1 y2 y3 y4 y5 y6 y7 y8 y9 y10 y11 y12 y13 y14 y15 y16 y17 y18 y19 : Option V} {H : Hp} {u : V} {d : List Bool} {i : Nat} {Q : VK}
    (hv : ([y0, y1, y2, y3, y4, y5, y6, y7, y8, y9, y10, y11, y12, y13, y14, y15, y16, y17, y18, y19] : L2.St)[i]? = some (some u)) (hu : BT H u d) (hd : d.length ≤ 60) (q : ∀ H', Same H H' → Q (.int (cnt d : Nat)) H') :
    tCB (fun xs H Q => ∃ p ys, xs = [.ref p] ∧ (SqL K H p ys ∨ SqT K H p ys) ∧ Q (.int ys.length) H) (tCons (tLc (iSeq (tVar i)) (gName 19) (tB (tVar 19)) (tVar 19) [19]) tNil) [y0, y1, y2, y3, y4, y5, y6, y7, y8, y9, y10, y11, y12, y13, y14, y15, y16, y17, y18, y19] H Q := by
  obtain ⟨pu, rfl, hpu⟩ := id hu
  refine ⟨_, hv, pu, _, rfl, .inr hpu, fun J wk D nD => lc_it wk (fun i H3 => Same H H3 ∧ H3 D = some (.lst (((d.take i).filter fun b => b).map V.bl))) ⟨same_new nD, upd_same⟩ ?_ ?_ ?_⟩
  · rintro j H3 _ ⟨s3, _⟩
    show H3 pu = H pu
    rw [s3 _ _ hpu, hpu]
  · rintro j x H3 H4 hj ⟨s3, hD⟩ ⟨rfl, hx⟩
    rw [List.getElem?_map] at hx
    obtain ⟨b, hb, rfl⟩ := Option.map_eq_some_iff.mp hx
    refine ⟨rfl, _, rfl, b, rfl, ite2 (fun hb1 => ?_) (fun hb1 => ?_)⟩
    · subst hb1
      refine ⟨_, rfl, _, hD, ?_, fun c o e => ?_, ?_⟩
      · rw [List.length_map]
        exact line_lt (Nat.le_trans (List.length_filter_le _ _) (Nat.le_trans (List.length_take_le' _ _) (by omega)))
      · rw [upd_ne (ne_of_none e nD)]
        exact s3 _ _ e
      · rw [upd_same, take_snoc hb, List.filter_append, List.map_append] <;> rfl
    · refine ⟨s3, ?_⟩
      have : b = false := by cases b <;> simp at hb1 <;> rfl
      rw [hD, take_snoc hb, List.filter_append, this, show List.filter (fun b => b) [false] = [] from rfl, List.append_nil]
  · rintro H3 ⟨s3, hD⟩
    rw [List.take_of_length_le (by simp)] at hD
    refine ⟨D, _, rfl, .inl (.of hD), ?_⟩
    rw [List.length_map]
    exact q H3 s3
def lastF (n : Nat) (rs : List Row) (d : List Bool) (k : Nat) : List Fnd := (List.range k).map fun o => ⟨rs.length, o, (st n rs d rs.length).getD o 0⟩
theorem lastF_snoc (n : Nat) (rs : List Row) (d : List Bool) (k : Nat) : lastF n rs d (k + 1) = lastF n rs d k ++ [⟨rs.length, k, (st n rs d rs.length).getD k 0⟩] := by
  unfold lastF
  rw [List.range_succ, List.map_append] <;> rfl
theorem lastF_len (n : Nat) (rs : List Row) (d : List Bool) (k : Nat) : (lastF n rs d k).length = k := by
  unfold lastF
  rw [List.length_map, List.length_range]
theorem lastF_ok {n : Nat} {rs : List Row} {d : List Bool} (ho : ∀ r ∈ rs, RowOk n r) : ∀ f ∈ lastF n rs d n, FndOk n rs.length f := by
  intro f hf
  obtain ⟨o, h, rfl⟩ := List.mem_map.mp hf
  have hn := List.mem_range.mp h
  have so : Shs n (st n rs d rs.length) := st_ok ho rs.length (Nat.le_refl _)
  exact ⟨Nat.le_refl _, hn, so.low o hn, so.high o hn⟩
theorem lastF_vd (n : Nat) (rs : List Row) (d : List Bool) (k : Nat) : vd (lastF n rs d k) n rs d = true := by
  unfold vd
  rw [List.all_eq_true]
  intro f hf
  obtain ⟨o, h, rfl⟩ := List.mem_map.mp hf
  exact decide_eq_true rfl
def spLaw (K : PySem.W.Frag) : Sp := fun vs H Q _ => ∃ (a : Addr) (ns : List Int), vs = [.ref a] ∧ SqL K H a (ns.map V.int) ∧ ∀ H', Q (.bl true) H'
section
variable {P : Program} {w : World} {K : PySem.W.Frag} {mg : Str → Option Value} {base : Heap}
theorem law_does {C f0 f : Addr} {cdv : Value} {A : Around} {outer : List Env} {s : Shared} {H : Hp} {vs : List V} {Q : VK} {E : XK} (M : Mg mg) (L : LogC K mg C f0) (GL : LgOk P w K mg base C f0) (GH : Ok P w K mg base 1 "_law_hand" (spHand K)) (GD : Ok P w K mg base 1 "_law_draw" spDraw)
    (GR : Ok P w K mg base 7 "_law_long_right" spLR) (GW : Ok P w K mg base 3 "_law_rows" spRows') (GF : Ok P w K mg base 3 "_law_finds" spFinds) (GU : Ok P w K mg base 3 "_law_due" spDue) (GN : Ok P w K mg base 5 "fewest_done" (spDone C)) (GS : Ok P w K mg base 2 "_law_some_doing" spSome)
    (GE : Ok P w K mg base 1 "_law_led" spLed) (hr : Room 7 (A.deeper (envOfC "law" (defScope sLaw) s.heap.objs.size f cdv))) (hg : (A.deeper (envOfC "law" (defScope sLaw) s.heap.objs.size f cdv)).guards = some []) (h : spLaw K vs H Q E) :
    ∃ t, PSs (cxOf CX0 P w K mg base nLaw "law" (defScope sLaw) f cdv A outer s H E).nox (defBody sLaw) t ∧ t { nx := fun _ H' => Q .non H', rt := Q } (start nLaw vs) H := by
  obtain ⟨a, ns, rfl, ha, q⟩ := h
  refine ⟨_, pss_cons (ps_set (i := 1) scLaw.nd rfl (.inl rfl) (pe_f GH hr (pa_cons (pv 0) pa_nil)))
      (pss_cons (ps_if (PW.pt (pw_and (pt_cmpR op_eq (pe_f GD hr (pa_cons (pv 1) (pa_cons pe_int pa_nil))) pe_int (nomark _)) (pw_and1 (pt_not (pt_val (pe_f GR hr (pa_cons (pv 1) pa_nil))))))) (pss_one (ps_ret pe_bl)) pss_nil)
      (pss_cons (ps_for PassesOwn.never rfl (pi_range1 (by rfl) M.range (pa_cons pe_int pa_nil)) (pg_name (i := 2) scLaw.nd rfl (.inl rfl))
        (pss_cons (ps_set (i := 3) scLaw.nd rfl (.inl rfl) (pe_ix ix_list (pe_lst (pa_cons (pe_op op_add pe_int (pe_f GD hr (pa_cons (pv 1) (pa_cons pe_int pa_nil)))) (pa_cons pe_int (pa_cons (pe_ix ix_list (pe_lst (pa_cons pe_int (pa_cons pe_int pa_nil))) (pe_callTy (r := rIntB) call_int1 (by rfl) M.int bi_int (pa_cons (pe_cmpR op_eq (pe_f GD hr (pa_cons (pv 1) (pa_cons pe_int pa_nil))) pe_int (nomark _)) pa_nil)) (fun _ _ => rfl)) pa_nil)))) (pv 2) (fun _ _ => rfl)))
        (pss_cons (ps_set (i := 4) scLaw.nd rfl (.inl rfl) (pe_f GW hr (pa_cons (pv 1) (pa_cons (pv 3) (pa_cons pe_int (pa_cons pe_int pa_nil))))))
        (pss_cons (ps_set (i := 5) scLaw.nd rfl (.inl rfl) (pe_f GF hr (pa_cons (pv 1) (pa_cons (pv 3) (pa_cons (pv 4) (pa_cons pe_int (pa_cons pe_int pa_nil)))))))
        (pss_cons (ps_set (i := 6) scLaw.nd rfl (.inl rfl) (pe_log L GL hr (pa_cons (pv 3) (pa_cons (pv 4) pa_nil))))
        (pss_cons (ps_set (i := 7) scLaw.nd rfl (.inl rfl) (pe_f GU hr (pa_cons (pv 3) (pa_cons (pv 4) (pa_cons (pv 5) pa_nil)))))
        (pss_cons (ps_set (i := 8) scLaw.nd rfl (.inl rfl) (pe_f GN hr (pa_cons (pv 6) (pa_cons (pv 5) pa_nil))))
        (pss_cons (ps_if (PW.pt (pw_or (pt_cmpR (op_neD hr.units) (pv 8) (pv 7) (nomark _)) (pw_or (pt_cmpR op_ne (pe_callB (call_reprD hg hr.units) (by rfl) M.repr bi_repr (pa_cons (pv 8) pa_nil)) (pe_callB (call_reprD hg hr.units) (by rfl) M.repr bi_repr (pa_cons (pv 7) pa_nil)) (nomark _)) (pw_or1 (pt_cmpR (op_neD hr.units) (pe_f GN hr (pa_cons (pv 6) (pa_cons (pe_callTy call_tuple_of (by rfl) M.tuple bi_tuple (pa_cons (pv 5) pa_nil)) pa_nil))) (pv 7) (nomark _)))))) (pss_one (ps_ret pe_bl)) pss_nil)
        (pss_cons (ps_if (PW.pt (pw_and (pt_cmpR op_gt (pe_callB call_len_seq (by rfl) M.len PySem.boot_len (pa_cons (pv 5) pa_nil)) pe_int (nomark _)) (pw_and1 (pt_cmpR op_notN (pv 7) pe_non (nomark _))))) (pss_cons (ps_set (i := 9) scLaw.nd rfl (.inl rfl) (pe_f GD hr (pa_cons (pv 1) (pa_cons (pe_callB call_len_seq (by rfl) M.len PySem.boot_len (pa_cons (pv 5) pa_nil)) pa_nil))))
            (pss_cons (ps_set (i := 10) scLaw.nd rfl (.inl rfl) (pe_f GN hr (pa_cons (pv 6) (pa_cons (pe_op op_cat (pe_slice sl_list (pv 5) po_none (po_some (pv 9))) (pe_slice sl_list (pv 5) (po_some (pe_op op_add (pv 9) pe_int)) po_none)) pa_nil))))
            (pss_one (ps_if (PW.pt (pw_or (pt_cmpR op_isN (pv 10) pe_non (nomark _)) (pw_or1 (pt_cmpR op_gt (pe_ix ix_tup (pv 10) pe_int (fun _ _ => rfl)) (pe_ix ix_tup (pv 7) pe_int (fun _ _ => rfl)) (nomark _))))) (pss_one (ps_ret pe_bl)) pss_nil)))) pss_nil)
        (pss_cons (ps_set (i := 11) scLaw.nd rfl (.inl rfl) (pe_f GS hr (pa_cons (pv 1) (pa_cons (pv 4) pa_nil))))
        (pss_cons (ps_set (i := 12) scLaw.nd rfl (.inr rfl) (pe_f GE hr (pa_cons (pv 3) (pa_cons (pv 4) (pa_cons (pv 11) pa_nil)))))
        (pss_cons (ps_set (i := 13) scLaw.nd rfl (.inr rfl) (pe_callB call_len_seq (by rfl) M.len PySem.boot_len (pa_cons (pv 4) pa_nil)))
        (pss_cons (ps_setLc (i := 14) (own := [("_law_office", 17)]) (g := gName 17) (tt := tYes) (te := tTup (tCons (tVar 13) (tCons (tVar 17) (tCons (tOp (rIxT K) (tOp (rIxL K) (tVar 12) (tVar 13)) (tVar 17)) tNil)))) rfl scLaw.nd rfl rfl (sw_true rfl rfl rfl (by decide +kernel))
            (pi_range1 (by rfl) M.range (pa_cons (pv 3) pa_nil)) (blkOk_by (N := nLaw) (sc := defScope sLaw) (by decide +kernel)) (fun _ _ _ _ _ => pg_name (i := 17) scLaw.nd rfl (.inl rfl)) (fun _ _ _ _ _ => pts_nil)
            (fun _ _ _ _ _ => pe_tup (pa_cons (pv 13) (pa_cons (pv 17) (pa_cons (pe_ix ix_tup (pe_ix ix_list (pv 12) (pv 13) (fun _ _ => rfl)) (pv 17) (fun _ _ => rfl)) pa_nil)))))
        (pss_cons (ps_set (i := 15) scLaw.nd rfl (.inl rfl) (pe_f GN hr (pa_cons (pv 6) (pa_cons (pv 14) pa_nil))))
        (pss_cons (ps_if (PW.pt (pw_or (pt_cmpR op_isN (pv 15) pe_non (nomark _)) (pw_or1 (pt_cmpR op_gt (pe_ix ix_tup (pv 15) pe_int (fun _ _ => rfl)) (pe_callB call_len_seq (by rfl) M.len PySem.boot_len (pa_cons (pe_lc (own := [("_law_flag", 19)]) (g := gName 19) (tt := tB (tVar 19)) (te := tVar 19) rfl scLaw.nd (pi_seq (pv 11)) (blkOk_by (N := nLaw) (sc := defScope sLaw) (by decide +kernel)) (fun _ _ _ _ _ => pg_name (i := 19) scLaw.nd rfl (.inl rfl)) (fun _ _ _ _ _ => pts_one (pt_val (pv 19))) (fun _ _ _ _ _ => pv 19)) pa_nil)) (nomark _))))) (pss_one (ps_ret pe_bl)) pss_nil)
        (pss_cons (ps_set (i := 16) scLaw.nd rfl (.inl rfl) (pe_callTy call_tuple_of (by rfl) M.tuple bi_tuple (pa_cons (pe_lc (own := [("_law_row_here", 18)]) (g := gName 18) (tt := tYes) (te := tOp (rIxT K) (tVar 18) (tC (.int 2))) rfl scLaw.nd (pi_seq (pv 4)) (blkOk_by (N := nLaw) (sc := defScope sLaw) (by decide +kernel)) (fun _ _ _ _ _ => pg_name (i := 18) scLaw.nd rfl (.inl rfl)) (fun _ _ _ _ _ => pts_nil) (fun _ _ _ _ _ => pe_ix ix_tup (pv 18) pe_int (fun _ _ => rfl))) pa_nil)))
        (pss_one (ps_if (pt_cmpR (op_neD hr.units) (pe_f GN hr (pa_cons (pv 6) (pa_cons (pe_lst pa_nil) pa_nil))) (pe_tup (pa_cons (pe_callB call_len_seq (by rfl) M.len PySem.boot_len (pa_cons (pe_lc (own := [("_law_flag", 19)]) (g := gName 19) (tt := tB (tVar 19)) (te := tVar 19) rfl scLaw.nd (pi_seq (pv 16)) (blkOk_by (N := nLaw) (sc := defScope sLaw) (by decide +kernel)) (fun _ _ _ _ _ => pg_name (i := 19) scLaw.nd rfl (.inl rfl)) (fun _ _ _ _ _ => pts_one (pt_val (pv 19))) (fun _ _ _ _ _ => pv 19)) pa_nil)) (pa_cons (pv 16) pa_nil))) (nomark _)) (pss_one (ps_ret pe_bl)) pss_nil))))))))))))))))))
      (pss_one (ps_ret pe_bl)))), ?_⟩
  have hne : ∀ {H : Hp} {cs h p : Addr}, HandAt cs H h → H p = none → p ≠ h := fun x y => (x.new y).1
  refine ⟨_, rfl, a, ns, rfl, ha, fun hd cs H1 hh => ?_⟩
  dsimp only
  refine seq_join (fun σ' H' => σ' = [some (.ref a), some (.ref hd), none, none, none, none, none, none, none, none, none, none, none, none, none, none, none, none, none, none] ∧ HandAt cs H' hd) ?_ ?_
  · intro D' k
    refine ⟨_, rfl, hd, cs, 8, rfl, by decide, by decide, hh, fun d H2 hd2 b2 hh2 => ⟨rfl, _, rfl, ?_⟩⟩
    refine ite2 (fun _ => ?_) (fun _ => ?_)
    · exact ⟨_, rfl, hd, cs, rfl, hh2, fun H3 b3 hh3 => ⟨true, rfl, iteF (k _ _ ⟨rfl, hh3⟩)⟩⟩
    · exact iteF (k _ _ ⟨rfl, hh2⟩)
  rintro σ1 H2 ⟨rfl, hh2⟩
  clear hh ha
  refine ⟨_, rfl, (by decide), (by decide), ?_⟩
  refine for_range (lo := 0) (n := 3) (fun i σ H => ∃ y2 y3 y4 y5 y6 y7 y8 y9 y10 y11 y12 y13 y14 y15 y16 y17 y18 y19, σ = [some (.ref a), some (.ref hd), y2, y3, y4, y5, y6, y7, y8, y9, y10, y11, y12, y13, y14, y15, y16, y17, y18, y19] ∧ HandAt cs H hd)
    ⟨_, _, _, _, _, _, _, _, _, _, _, _, _, _, _, _, _, _, rfl, hh2⟩ ?_ (fun σ H' ⟨_, _, _, _, _, _, _, _, _, _, _, _, _, _, _, _, _, _, _, _⟩ => q H')
  rintro i σ H3 hi ⟨y2, y3, y4, y5, y6, y7, y8, y9, y10, y11, y12, y13, y14, y15, y16, y17, y18, y19, rfl, hh3⟩
  rw [Int.zero_add]
  clear hh2
  dsimp only
  refine seq_join (fun σ' H' => ∃ n : Nat, 1 ≤ n ∧ n ≤ 8 ∧ σ' = [some (.ref a), some (.ref hd), some (.int (i : Nat)), some (.int (n : Nat)), y4, y5, y6, y7, y8, y9, y10, y11, y12, y13, y14, y15, y16, y17, y18, y19] ∧ HandAt cs H' hd) ?_ ?_
  · intro D' k
    refine ⟨_, rfl, hd, cs, 6, rfl, by decide, by decide, hh3, fun d H4 hd4 b4 hh4 => ⟨_, _, rfl, rfl, ?_⟩⟩
    refine ⟨(by show 2 ≤ sizeLine; decide), fun p np => ?_⟩
    have hp := hne hh4 np
    have s5 : Same H4 (upd H4 p (.lst [.int 5, .int 8])) := same_new np
    have hpp : (upd H4 p (.lst [.int 5, .int 8])) p = some (.lst [.int 5, .int 8]) := upd_same
    have hh5 := hh4.same s5
    generalize upd H4 p (.lst [.int 5, .int 8]) = H5 at s5 hpp hh5 ⊢
    refine ⟨_, rfl, hd, cs, 6, rfl, by decide, by decide, hh5, fun d6 H6 hd6 b6 hh6 => ⟨rfl, .inr ⟨_, rfl, ?_⟩⟩⟩
    have hpp6 := b6 _ _ hp hpp
    have hx : ∃ x : Nat, (x = 5 ∨ x = 8) ∧ atI [V.int 5, V.int 8] (if decide (V.int (d6 : Nat) = V.int 0) = true then 1 else 0) = some (.int (x : Nat)) := by
      by_cases z : d6 = 0
      · subst z
        exact ⟨8, .inr rfl, atI_nat (j := 1) rfl⟩
      · rw [decide_eq_false fun y => z (by have := V.int.inj y; omega)]
        exact ⟨5, .inl rfl, atI_nat (j := 0) rfl⟩
    obtain ⟨x, hx58, hx⟩ := hx
    refine ⟨p, _, _, _, rfl, rfl, .of hpp6, hx, (by show 3 ≤ sizeLine; decide), fun p2 np2 => ⟨_, rfl, ?_⟩⟩
    have hn : ∃ n : Nat, 1 ≤ n ∧ n ≤ 8 ∧ [V.int (1 + (d : Nat)), V.int 4, V.int (x : Nat)][i]? = some (.int (n : Nat)) := by
      have h3 : i = 0 ∨ i = 1 ∨ i = 2 := by omega
      rcases h3 with rfl | rfl | rfl
      · exact ⟨1 + d, by omega, by omega, by show some (V.int (1 + (d : Nat))) = _; rw [Int.natCast_add] <;> rfl⟩
      · exact ⟨4, by decide, by decide, rfl⟩
      · exact ⟨x, by omega, by omega, rfl⟩
    obtain ⟨n, n1, n8, hn⟩ := hn
    exact ⟨p2, _, (i : Nat), _, rfl, rfl, .of upd_same, atI_nat hn, k _ _ ⟨n, n1, n8, rfl, hh6.same (same_new np2)⟩⟩
  rintro σ1 H4 ⟨n, n1, n8, rfl, hh4⟩
  clear hh3
  refine ⟨_, rfl, _, rfl, hd, cs, n, 8, 2, rfl, by omega, n1, by decide, hh4, fun v rs H5 b5 hh5 hv hr8 hro => ?_⟩
  refine ⟨_, rfl, _, rfl, _, rfl, hd, cs, n, 6, 8, v, rs, rfl, hh5, hv, n1, by omega, by decide, by decide, by decide, by omega, hro, fun F fs H6 b6 nF hh6 hF hf6 hfo => ?_⟩
  have hfd : F ≠ hd := hne hh5 nF
  have hv6 : RowsV H6 v rs := (im_tup im_row).tk (b6.tkH hh5) hv
  refine ⟨_, rfl, _, rfl, log_read hv6 n1 (by omega) (by omega) hro fun x H7 s7 hlog => ?_⟩
  have hF7 := hF.same im_fnd s7
  have hv7 : RowsV H7 v rs := (im_tup im_row).tk (tk_same s7) hv6
  have hh7 := hh6.same s7
  refine ⟨_, rfl, _, rfl, _, rfl, n, v, F, rs, fs, rfl, hv7, hF7, hfo, hro, by omega, hr8, by omega, fun zd H8 s8 hzd => ?_⟩
  have fv : ∀ {H}, LstAt FndV H F fs → FndsV H (.ref F) fs := fun ⟨ff, g1, g2⟩ => ⟨F, ff, rfl, .inl g1, g2⟩
  refine ⟨_, rfl, _, rfl, .ref x, .ref F, n, rs, fs, rfl, hlog.same s8, fv (hF7.same im_fnd s8), hfo, hro, by omega, by omega, by omega, fun zt H9 s9 hzt => ?_⟩
  have s79 := s8.trans s9
  have hF9 := hF7.same im_fnd s79
  have hv9 : RowsV H9 v rs := (im_tup im_row).tk (tk_same s79) hv7
  have hh9 := hh7.same s79
  have hlog9 := hlog.same s79
  have hzd9 := im_ans.tk (tk_same s9) hzd
  have hsm : ∀ c d, ans fs n rs = some (c, d) → c ≤ 60 ∧ d.length ≤ 60 := fun c d e => by
    obtain ⟨h1, _, h3⟩ := ans_is (fun f hf => (hfo f hf).m) e
    have h4 := cnt_le d
    have h5 := h1.1
    omega
  clear hzd hlog hF hF7 hv hv6 hv7 hh5 hh6 hh7 hh4 b5 b6 nF s7 s8 s9 s79 H4 H5 H6 H7 H8
  refine ⟨_, rfl, _, rfl, ?_⟩
  refine ne_ans hzt hzd9 ?_
  refine ⟨_, rfl, iteF ?_⟩
  refine ⟨_, rfl, zt, ansD (ans fs n rs), rfl, dp_ans hzt, repr_ok hzt hsm, _, rfl, zd, ansD (ans fs n rs), rfl, dp_ans hzd9, repr_ok hzd9 hsm, rfl, false, ?_, iteF ?_⟩
  · rw [decide_eq_true rfl] <;> rfl
  obtain ⟨ff, hf1, hf2⟩ := hF9
  refine ⟨_, rfl, _, rfl, F, ff, rfl, .inl ⟨.of hf1, fun l nl => ?_⟩⟩
  have s10 : Same H9 (upd H9 l (.tup ff)) := same_new nl
  refine ⟨.ref x, .ref l, n, rs, fs, rfl, hlog9.same s10, ⟨l, ff, rfl, .inr upd_same, hf2.imp fun _ _ r => im_fnd.tk (tk_same s10) r⟩, hfo, hro, by omega, by omega, by omega, fun z2 H11 s11 hz2 => ?_⟩
  have s911 := s10.trans s11
  have hzd11 := im_ans.tk (tk_same s911) hzd9
  refine ⟨_, rfl, ?_⟩
  refine ne_ans hz2 hzd11 ?_
  refine ⟨_, rfl, iteF ?_⟩
  have hf11 := s911 _ _ hf1
  have hf22 : All2 (FndV H11) ff fs := hf2.imp fun _ _ r => im_fnd.tk (tk_same s911) r
  have hh11 := hh9.same s911
  have hv11 : RowsV H11 v rs := (im_tup im_row).tk (tk_same s911) hv9
  have hlog11 := hlog9.same s911
  clear hz2 hzd9 hlog9 hv9 hh9 hf1 hf2 s10 s11 s911 nl hzt
  refine next_in ?_
  dsimp only
  refine seq_join (fun σ' H' => ∃ z9 z10, σ' = [some (.ref a), some (.ref hd), some (.int (i : Nat)), some (.int (n : Nat)), some v, some (.ref F), some (.ref x), some zd, some zt, z9, z10, y11, y12, y13, y14, y15, y16, y17, y18, y19] ∧ But hd H11 H' ∧ HandAt cs H' hd) ?_ ?_
  · intro D' k
    refine ⟨_, rfl, F, ff, rfl, .inl (.of hf11), _, _, rfl, rfl, _, rfl, ?_⟩
    refine ite2 (fun hpos => ?_) (fun _ => iteF (k _ _ ⟨_, _, rfl, But.refl _ _, hh11⟩))
    have hpos : 0 < ff.length := by
      have : (0 : Int) < ((ff.length : Nat) : Int) := of_decide_eq_true hpos
      omega
    have hfl := hf22.len
    refine ⟨_, rfl, rfl, _, rfl, ?_⟩
    cases eo : ans fs n rs with
    | none =>
      rw [eo] at hzd11
      obtain rfl : zd = .non := hzd11
      exact iteF (k _ _ ⟨_, _, rfl, But.refl _ _, hh11⟩)
    | some o =>
      obtain ⟨c, d⟩ := o
      rw [eo] at hzd11
      obtain ⟨pz, uz, rfl, hpz, _⟩ := hzd11
      refine iteT ⟨_, rfl, _, rfl, F, ff, rfl, .inl (.of hf11), hd, cs, ff.length, rfl, hpos, by omega, hh11, fun m H12 hm b12 hh12 => ?_⟩
      have hf12 := b12 _ _ hfd hf11
      refine ⟨_, rfl, _, rfl, _, rfl, (m : Nat), rfl, F, ff, rfl, .of hf12, fun p1 np1 => ?_⟩
      have e1 : cutV ff none (some ((m : Nat) : Int)) = ff.take m := by
        unfold cutV
        rw [HT.sIx_none, HT.sIx_nat, List.drop_zero, Nat.sub_zero, Nat.min_eq_left (by omega)]
      have e2 : cutV ff (some (((m + 1 : Nat)) : Int)) none = ff.drop (m + 1) := by
        unfold cutV
        rw [HT.sIx_none, HT.sIx_nat, Nat.min_eq_left (by omega), List.take_of_length_le (by rw [List.length_drop]; omega)]
      rw [e1]
      have s13 : Same H12 (upd H12 p1 (.lst (ff.take m))) := same_new np1
      have hp1 : (upd H12 p1 (.lst (ff.take m))) p1 = some (.lst (ff.take m)) := upd_same
      generalize upd H12 p1 (.lst (ff.take m)) = H13 at s13 hp1 ⊢
      refine ⟨_, rfl, _, rfl, _, _, rfl, rfl, ((m + 1 : Nat) : Int), by rw [Int.natCast_add] <;> rfl, F, ff, rfl, .of (s13 _ _ hf12), fun p2 np2 => ?_⟩
      rw [e2]
      have s14 : Same H13 (upd H13 p2 (.lst (ff.drop (m + 1)))) := same_new np2
      have hp2 : (upd H13 p2 (.lst (ff.drop (m + 1)))) p2 = some (.lst (ff.drop (m + 1))) := upd_same
      generalize upd H13 p2 (.lst (ff.drop (m + 1))) = H14 at s14 hp2 ⊢
      refine ⟨p1, p2, _, _, rfl, rfl, s14 _ _ hp1, hp2, line_of (by rw [List.length_take, List.length_drop]; omega), fun p3 np3 => ?_⟩
      have s15 : Same H14 (upd H14 p3 (.lst (ff.take m ++ ff.drop (m + 1)))) := same_new np3
      have sA := s13.trans (s14.trans s15)
      have hp3 : (upd H14 p3 (.lst (ff.take m ++ ff.drop (m + 1)))) p3 = some (.lst (ff.take m ++ ff.drop (m + 1))) := upd_same
      generalize upd H14 p3 (.lst (ff.take m ++ ff.drop (m + 1))) = H15 at sA hp3 ⊢
      have tk : Tk H11 H15 := (b12.tkH hh11).trans (tk_same sA)
      have hgs : ∀ g ∈ fs.take m ++ fs.drop (m + 1), g ∈ fs := fun g h => (List.mem_append.mp h).elim (fun z => List.mem_of_mem_take z) fun z => List.mem_of_mem_drop z
      refine ⟨.ref x, .ref p3, n, rs, fs.take m ++ fs.drop (m + 1), rfl, (hlog11.but hh11 b12).same sA, ⟨p3, _, rfl, .inl hp3, ((hf22.take m).append (hf22.drop (m + 1))).imp fun _ _ r => im_fnd.tk tk r⟩, fun g h => hfo g (hgs g h), hro, by omega, by omega, ?_, fun zf H16 s16 hzf => ?_⟩
      · rw [List.length_append, List.length_take, List.length_drop]
        omega
      obtain ⟨c', d', e', hle⟩ := ans_fewer (fun f hf => (hfo f hf).m) hgs eo
      rw [e'] at hzf
      obtain ⟨pf, uf, rfl, hpf, _⟩ := hzf
      refine ⟨_, rfl, rfl, _, rfl, iteF ⟨_, rfl, pf, _, 0, _, rfl, rfl, .of hpf, atI_nat (j := 0) rfl, _, rfl, pz, _, 0, _, rfl, rfl, .of (s16 _ _ (tk _ _ hpz)), atI_nat (j := 0) rfl, _, _, rfl, rfl, _, rfl, ?_⟩⟩
      refine ite2 (fun z => absurd (of_decide_eq_true z) (by omega)) (fun _ => ?_)
      exact k _ _ ⟨_, _, rfl, b12.trans (But.same (sA.trans s16)), hh12.same (sA.trans s16)⟩
  rintro σ2 H12 ⟨z9, z10, rfl, b12, hh12⟩
  have hv12 : RowsV H12 v rs := (im_tup im_row).tk (b12.tkH hh11) hv11
  have hlog12 := hlog11.but hh11 b12
  clear hzd11 hf11 hf22 hh11 hv11 hlog11 b12
  refine ⟨_, rfl, _, rfl, hd, cs, v, rs, rfl, hh12, hv12, by omega, fun ud dd H13 b13 hh13 hud hdd => ?_⟩
  have hv13 : RowsV H13 v rs := (im_tup im_row).tk (b13.tkH hh12) hv12
  have hlog13 := hlog12.but hh12 b13
  clear hv12 hlog12 hh12 b13
  refine ⟨_, rfl, _, rfl, _, rfl, n, v, ud, rs, dd, rfl, hv13, hud, hdd.1, by omega, by omega, hro, fun Lp H14 s14 nLp hLp => ?_⟩
  obtain ⟨pr, ws, rfl, hpr, hws⟩ := id ((im_tup im_row).tk (tk_same s14) hv13)
  have hud14 := im_bt.tk (tk_same s14) hud
  have hlog14 := hlog13.same s14
  have hh14 := hh13.same s14
  clear hv13 hud hlog13 hh13 s14 nLp
  refine ⟨_, rfl, pr, ws, rfl, .inr (.of hpr), ?_⟩
  rw [show ((ws.length : Nat) : Int) = ((rs.length : Nat) : Int) by rw [hws.len]]
  obtain ⟨ls, hL, hls⟩ := hLp
  obtain ⟨v1, hv1, hv2⟩ := hls.get (led_get (n := n) (d := dd) (Nat.le_refl _))
  obtain ⟨pe, rfl, hpe⟩ := hv2
  have so : Shs n (st n rs dd rs.length) := st_ok hro rs.length (Nat.le_refl _)
  refine ⟨_, rfl, _, rfl, by omega, by omega, fun D nD => ?_⟩
  rw [show ((n : Nat) : Int).toNat = n by omega]
  refine lc_range (lo := 0) (n := n) (fun j H => Same H14 H ∧ ∃ us, H D = some (.lst us) ∧ All2 (FndV H) us (lastF n rs dd j)) ⟨same_new nD, [], upd_same, .nil⟩ ?_ ?_
  · rintro j H15 hj ⟨s15, us, hD, hus⟩
    rw [Int.zero_add]
    have hul : us.length = j := by rw [hus.len, lastF_len]
    refine ⟨rfl, _, rfl, _, rfl, _, rfl, _, rfl, Lp, _, (rs.length : Nat), _, rfl, rfl, .of (s15 _ _ hL), atI_nat hv1, _, rfl, pe, _, (j : Nat), _, rfl, rfl, .of (s15 _ _ hpe), atI_nat (get_int (by rw [so.len]; exact hj)), (by show 3 ≤ sizeLine; decide), fun T nT => ?_⟩
    have s16 : Same H15 (upd H15 T (.tup [.int (rs.length : Nat), .int (j : Nat), .int ((st n rs dd rs.length).getD j 0)])) := same_new nT
    have hD16 := s16 _ _ hD
    refine ⟨us, hD16, line_lt (by omega), fun b o e => ?_, us ++ [.ref T], upd_same, ?_⟩
    · rw [upd_ne (ne_of_none e nD)]
      exact s16 _ _ (s15 _ _ e)
    · rw [lastF_snoc]
      have tk := (tk_same s16).trans (tk_lst (o := .lst (us ++ [.ref T])) hD16)
      exact (hus.imp fun _ _ r => im_fnd.tk tk r).snoc ⟨T, rfl, tk_lst hD16 _ _ upd_same⟩
  rintro H15 ⟨s15, us, hD, hus⟩
  refine ⟨_, rfl, _, rfl, .ref x, .ref D, n, rs, lastF n rs dd n, rfl, hlog14.same s15, ⟨D, us, rfl, .inl hD, hus⟩, lastF_ok hro, hro, by omega, by omega, by rw [lastF_len]; omega, fun zl H16 s16 hzl => ?_⟩
  obtain ⟨c, qq, e, hle⟩ := ans_le (fun f hf => (lastF_ok hro f hf).m) hdd (lastF_vd n rs dd n)
  rw [e] at hzl
  obtain ⟨pl, ul, rfl, hpl, _⟩ := hzl
  have s1416 := s15.trans s16
  refine ⟨_, rfl, rfl, _, rfl, iteF ⟨_, rfl, pl, _, 0, _, rfl, rfl, .of hpl, atI_nat (j := 0) rfl, ?_⟩⟩
  refine flags_read (i := 11) rfl (im_bt.tk (tk_same s1416) hud14) (by rw [hdd.1]; omega) fun H17 s17 => ?_
  refine ⟨_, _, rfl, rfl, _, rfl, ?_⟩
  refine ite2 (fun z => absurd (of_decide_eq_true z) (by omega)) (fun _ => ?_)
  have s1417 := s1416.trans s17
  have hpr17 := s1417 _ _ hpr
  have hlog17 := hlog14.same s1417
  have hh17 := hh14.same s1417
  have hws17 : All2 (RowV H17) ws rs := hws.imp fun _ _ r => im_row.tk (tk_same s1417) r
  clear hpl hle s1417 s1416 s15 s16 s17 hud14 hh14 hlog14 hws hpr hus hD
  refine ⟨_, rfl, pr, ws, rfl, .inr hpr17, fun J wk D2 nD2 => lc_it wk (fun j H => Same H17 H ∧ H D2 = some (.lst (((rs.take j).map (·.s)).map V.bl))) ⟨same_new nD2, upd_same⟩ ?_ ?_ ?_⟩
  · rintro j H18 _ ⟨s18, _⟩
    show H18 pr = H17 pr
    rw [s18 _ _ hpr17, hpr17]
  · rintro j x0 H18 H19 hj ⟨s18, hD2⟩ ⟨rfl, hx0⟩
    obtain ⟨r, hr1, hr2⟩ := hws17.back hx0
    obtain ⟨p3, rfl, hp3⟩ := im_row.tk (tk_same s18) hr2
    have e2 : atI [V.int (r.x : Nat), V.int (r.y : Nat), V.bl r.s] 2 = some (V.bl r.s) := atI_nat (j := 2) rfl
    have hj8 : j < 8 := by
      have h1 := (List.getElem?_eq_some_iff.mp hr1).1
      omega
    refine ⟨rfl, _, rfl, p3, _, 2, _, rfl, rfl, .of hp3, e2, _, hD2, ?_, fun b o e => ?_, ?_⟩
    · rw [List.length_map, List.length_map]
      exact line_lt (Nat.le_trans (List.length_take_le' _ _) (by omega))
    · rw [upd_ne (ne_of_none e nD2)]
      exact s18 _ _ e
    · rw [upd_same, take_snoc hr1, List.map_append, List.map_append] <;> rfl
  rintro H18 ⟨s18, hD2⟩
  rw [List.take_of_length_le (by rw [hws17.len]; exact Nat.le_refl _)] at hD2
  refine ⟨D2, _, rfl, .inl ⟨.of hD2, fun l nl => ?_⟩⟩
  have s19 : Same H18 (upd H18 l (.tup ((rs.map (·.s)).map V.bl))) := same_new nl
  have hsu : BT (upd H18 l (.tup ((rs.map (·.s)).map V.bl))) (.ref l) (rs.map (·.s)) := ⟨l, rfl, upd_same⟩
  have s1719 := s18.trans s19
  generalize upd H18 l (.tup ((rs.map (·.s)).map V.bl)) = H19 at s1719 hsu ⊢
  refine ⟨_, rfl, Nat.zero_le _, fun le nle => ?_⟩
  have s20 : Same H19 (upd H19 le (.lst [])) := same_new nle
  refine ⟨.ref x, .ref le, n, rs, [], rfl, hlog17.same (s1719.trans s20), ⟨le, [], rfl, .inl upd_same, .nil⟩, (fun _ z => nomatch z), hro, by omega, by omega, Nat.zero_le _, fun zf H21 s21 hzf => ?_⟩
  have s1921 := s20.trans s21
  dsimp only
  refine pair_in ?_
  refine flags_read (i := 16) rfl (im_bt.tk (tk_same s1921) hsu) (by rw [List.length_map]; omega) fun H22 s22 => ?_
  refine ⟨_, rfl, (by show 2 ≤ sizeLine; decide), fun T nT => ?_⟩
  have s23 : Same H22 (upd H22 T (.tup [.int (cnt (rs.map (·.s)) : Nat), .ref l])) := same_new nT
  have s1923 := s1921.trans (s22.trans s23)
  rw [ans_nil] at hzf
  refine ne_ans (im_ans.tk (tk_same (s22.trans s23)) hzf) ⟨T, _, rfl, upd_same, im_bt.tk (tk_same s1923) hsu⟩ ?_
  refine ⟨_, rfl, iteF ?_⟩
  exact ⟨_, _, _, _, _, _, _, _, _, _, _, _, _, _, _, _, _, _, rfl, hh17.same (s1719.trans s1923)⟩
end
end K70

set_option maxRecDepth 100000
set_option maxHeartbeats 4000000
/-! the law's def is walked once, at its caller: repr asks that no guard stands there -/
namespace K70
open PySem PySem.Spec PyProof.Rows L2
section
variable {P : Program} {w : World} {K : PySem.W.Frag} {mg : Str → Option Value} {base : Heap}
/-- what the one call of the law's def comes to -/
def Once (P : Program) (w : World) (K : PySem.W.Frag) (mg : Str → Option Value) (base : Heap) (g : Addr) : Prop :=
  ∀ (sh : Shared) (I : Hp) (b : Addr) (zs : List Int) (Q : VK), Env0 P w K mg base callerA [] sh I → SqL K I b (zs.map V.int) → (∀ J, Q (.bl true) J) →
    codeAny (model P w) callerA (.call (.ref g) ⟨[.ref b], []⟩) (CR CX0 [] P w I sh Q E0) sh
/-- from the walk of its body -/
theorem once_of {g : Addr} {fd : FuncData} (F : Fun K "law" "law" sLaw g fd) (ob : ∀ (sh : Shared) (u : Value), BindsTo sh fd ⟨[u], []⟩ [("_law_script", u)])
    (walk : ∀ (cdv : Value) (sh : Shared) (I : Hp) (vs : List V) (Q : VK), Room 7 (callerA.deeper (envOfC "law" (defScope sLaw) sh.heap.objs.size g cdv)) → spLaw K vs I Q E0 →
      ∃ t, PSs (cxOf CX0 P w K mg base nLaw "law" (defScope sLaw) g cdv callerA [] sh I E0).nox (defBody sLaw) t ∧ t { nx := fun _ J => Q .non J, rt := Q } (start nLaw vs) I) : Once P w K mg base g := by
  obtain ⟨oc, od, kV, doc, pm, an, cdv, ct, osl, efd, lk, hcd⟩ := F.ex
  subst efd
  intro sh I b zs Q e0 hS q
  have big : Room 8 callerA := ⟨rfl, by decide, by decide⟩
  have inH := e0.mod.kin.keeps fun c o e => (e0.bs c o e).1
  have noL := e0.mod.nolimit.keeps fun c o e => (e0.bs c o e).1
  have kinds : ∀ y ∈ (["_law_script"] : List Str).zip [Value.ref b], (defScope sLaw).names.lookup y.1 = some .local ∨ ((defScope sLaw).names.lookup y.1 = some .cell ∧ ((cellsFrom (sh.heap.objs.size + 1) (defScope sLaw).names []).lookup y.1).isSome = true) := by
    rintro ⟨x, u⟩ hy
    exact (scLaw.par x (List.of_mem_zip hy).1).elim .inl fun c => .inr ⟨c, PySem.W.cellsFrom_some _ _ _ (.inl c)⟩
  refine codeAny_call_function big.depth (inH _ _ lk) rfl scLaw.co scLaw.gen rfl (PySem.W.codeRec_of inH hcd) (ob sh (.ref b) _ _ _ _ ?_)
  refine wpAny_newFunctionEnv_cells scLaw.kind kinds fun ev eev s2 x2 => ?_
  subst eev
  refine ⟨noL.keeps x2.toInCall.keep, codeAny_func ?_⟩
  obtain ⟨t, ht, hq⟩ := walk cdv sh I [.ref b] Q (big.deeper _) ⟨b, zs, rfl, hS, q⟩
  have J := inv_start (CX := CX0) (E := E0) scLaw big.hd e0 rfl (.cons rfl .nil : Vals [V.ref b] [Value.ref b]) x2
  refine wpAny_mono (ht.nox.run [] s2 _ I _ J hq) (fun fl s' hs => ?_) fun e s' hs => hs
  cases fl with
  | brk =>
    obtain ⟨_, _, _, z⟩ := hs
    exact z.elim
  | cont =>
    obtain ⟨_, _, _, z⟩ := hs
    exact z.elim
  | next =>
    obtain ⟨σ', I', J', z⟩ := hs
    exact ⟨.non, I', J'.os, J'.bare, J'.base, J'.hok, rfl, z⟩
  | ret u =>
    obtain ⟨v, σ', I', J', rv, z⟩ := hs
    exact ⟨v, I', J'.os, J'.bare, J'.base, J'.hok, rv, z⟩
/-- over any heap in which nothing but the script may be known -/
theorem once_core {mb : Str → Option Value} {g b : Addr} {sh : Shared} {us : List Value} {zs : List Int} {I : Hp} (inH : K.In sh.heap) (gl : sh.heap.Ns mainGlobals mg) (bl : sh.heap.Ns builtinsNs mb) (bb : ∀ x : Str, x ≠ "__name__" → mb x = bootBuiltins x) (noL : sh.heap.NoLimit) (noG : sh.gens = #[])
    (hb : sh.heap.get? b = some { cls := .type "list", data := .seq us.toArray }) (F : ∀ base : Heap, K.In base → base.Ns mainGlobals mg → Once P w K mg base g)
    (hO : ∀ c, I c = none ∨ ∃ o xs, I c = some (.frz o (.lst xs))) (hS : SqL K I b (zs.map V.int)) (ok : HOk P w I sh.heap) (hA : ∀ c, I c ≠ none → c = b) (hK : I b ≠ none → K.lookup b = none) :
    codeAny (model P w) callerA (.call (.ref g) ⟨[.ref b], []⟩) (fun r s' => r = .ok (.ret (.bool true)) ∧ OldK sh.heap s'.heap ∧ s'.os = sh.os ∧ AllBare s'.gens) sh := by
  have at_b : ∀ {c : Addr} {u : HO}, I c = some u → c = b := fun {c u} e => hA c fun z => by
    rw [e] at z
    cases z
  have dictN : ∀ {c : Addr} {o : Obj} {es : Array DictEntry} {ep : Nat}, sh.heap.get? c = some o → o.data = .dict es ep → I c = none := fun {c o es ep} e d => by
    cases q : I c with
    | none => rfl
    | some u =>
      rw [at_b q, hb] at e
      cases e
      cases (show Data.seq us.toArray _ = Data.dict es ep from d)
  have ns : ∀ {c : Addr} {m : Str → Option Value}, sh.heap.Ns c m → (hidT sh.heap I).Ns c m := fun {c m} ⟨o, es, ep, e, d, r⟩ => ⟨o, es, ep, hidT_get e (dictN e d), d, r⟩
  have inB : K.In (hidT sh.heap I) := fun c o e => hidT_get (inH c o e) (by
    cases q : I c with
    | none => rfl
    | some u =>
      have ec := at_b q
      subst ec
      rw [hK fun z => by rw [q] at z; cases z] at e
      cases e)
  have md : Mod K mg (hidT sh.heap I) := ⟨inB, ns gl, ⟨mb, ns bl, bb⟩, noL.elim fun mc z => ⟨mc, ns z.1, z.2⟩⟩
  have none_in : ∀ c : Addr, c ∉ ([] : List Addr) := fun c z => nomatch z
  have e0 : Env0 P w K mg (hidT sh.heap I) callerA [] sh I := ⟨rfl, md, fun c o e => of_hidT e, Nat.le_of_eq (hidT_size _ _), trivial, fun c z => (none_in c z).elim, ok, .of_eq noG⟩
  refine codeAny_mono (F _ inB (ns gl) sh I b zs (fun v _ => v = .bl true) e0 hS fun _ => rfl) fun r s' h => ?_
  cases r with
  | error e => exact False.elim h
  | ok fl =>
    cases fl with
    | next => exact False.elim h
    | brk => exact False.elim h
    | cont => exact False.elim h
    | ret u =>
      obtain ⟨v, I', os, bare, un, ok', rv, rfl⟩ := h
      obtain rfl : u = Value.bool true := rv
      refine ⟨rfl, OldK.of_keep fun c o e => ?_, os, bare⟩
      cases q : I c with
      | none => exact un.keep c o e q (none_in c) (none_in c)
      | some u =>
        rcases hO c with z | ⟨oc, xs, z⟩
        · rw [q] at z
          cases z
        · have z2 := un.frzs c oc _ z
          have k1 := (ok c _ z).1
          have k2 := (ok' c _ z2).1
          rw [e] at k1
          cases k1
          exact k2
theorem once_call {mb : Str → Option Value} {g b : Addr} {sh : Shared} {us : List Value} {zs : List Int} (inH : K.In sh.heap) (gl : sh.heap.Ns mainGlobals mg) (bl : sh.heap.Ns builtinsNs mb) (bb : ∀ x : Str, x ≠ "__name__" → mb x = bootBuiltins x) (noL : sh.heap.NoLimit) (noG : sh.gens = #[])
    (hb : sh.heap.get? b = some { cls := .type "list", data := .seq us.toArray }) (hi : IntsAre us zs) (hz : zs.length ≤ sizeLine) (F : ∀ base : Heap, K.In base → base.Ns mainGlobals mg → Once P w K mg base g) :
    codeAny (model P w) callerA (.call (.ref g) ⟨[.ref b], []⟩) (fun r s' => r = .ok (.ret (.bool true)) ∧ OldK sh.heap s'.heap ∧ s'.os = sh.os ∧ AllBare s'.gens) sh := by
  have lu := hi.length
  have rv := vals_ints hi
  cases hk : K.lookup b with
  | some o =>
    have e := inH b o hk
    rw [hb] at e
    cases e
    exact once_core (I := fun _ => none) inH gl bl bb noL noG hb F (fun _ => .inl rfl) (.inr ⟨_, us.toArray, _, hk, rfl, rfl, rfl, by rw [List.size_toArray, lu]; exact hz, by simpa using rv⟩) (fun c u z => nomatch (show (none : Option HO) = some u from z)) (fun c z => absurd rfl z) fun z => absurd rfl z
  | none =>
    have hp : ∀ {c : Addr} {u : HO}, (if c = b then some (HO.frz { cls := .type "list", data := .seq us.toArray } (.lst (zs.map V.int))) else none) = some u → c = b ∧ u = .frz { cls := .type "list", data := .seq us.toArray } (.lst (zs.map V.int)) := fun {c u} z => by
      by_cases hc : c = b
      · rw [if_pos hc] at z
        exact ⟨hc, (Option.some.inj z).symm⟩
      · rw [if_neg hc] at z
        cases z
    refine once_core (zs := zs) (I := fun c => if c = b then some (.frz { cls := .type "list", data := .seq us.toArray } (.lst (zs.map V.int))) else none) inH gl bl bb noL noG hb F (fun c => ?_) (.inl (.inr ⟨_, if_pos rfl⟩)) (fun c u z => ?_) (fun c z => ?_) fun _ => hk
    · by_cases hc : c = b
      · exact .inr ⟨_, _, if_pos hc⟩
      · exact .inl (if_neg hc)
    · obtain ⟨rfl, rfl⟩ := hp z
      exact ⟨hb, by rw [List.length_map]; exact hz, us, _, rv, hb⟩
    · by_cases hc : c = b
      · exact hc
      · exact absurd (if_neg hc) z
end
/-- the goal that the head leaves -/
theorem walk_once {l : PySem.W.OpenLaw} {q : Program} {loose : List Str} {XP : (Str → Option Value) → Heap → Prop} {YP : World → Heap → Prop} {d : DefRec} {K : Params → PySem.W.Frag} (hn : l.most = some 63) (hdf : d.params.defaults = [])
    (hY : ∀ (w : World) (h : Heap), YP w h → (K w.params).In h)
    (F : ∀ (w : World) (mg : Str → Option Value) (g : Addr) (h : Heap), (K w.params).In h → h.Ns mainGlobals mg → mg d.name = some (.ref g) → ∀ base : Heap, (K w.params).In base → base.Ns mainGlobals mg → Once l.prog w (K w.params) mg base g) :
    PySem.W.WalkO q loose XP YP l.row.toRowW d [] (fun f vs => PySem.call f vs) :=
  Att.attach_call hn hdf fun w s₀ sh mg mb g o pm cd doc b us zs G Y ho hd hcd hmg hobj hints hlen hg =>
    once_call (hY w _ Y) G.T.g G.T.b G.T.builtins G.T.nolimit hg hobj hints (Nat.le_trans hlen (by decide)) (F w mg g _ (hY w _ Y) G.T.g hmg)
end K70

set_option maxRecDepth 100000
set_option maxHeartbeats 4000000
/-! how the arguments of each def bind; all defs together -/
namespace K70
open PySem PySem.Spec PyProof.Rows L2
abbrev Argd (x qual : Str) (st : Stmt) (ps : List Str) : Prop := ∀ (kV doc pm : Value) (an : Option Addr) (cdv ct : Value) (us : List Value), us.length = ps.length → bindArgs (PySem.W.fnOf x qual (defArgs st) (defBody st) (defScope st) .none kV doc pm an cdv ct) ⟨us, []⟩ = pure (ps.zip us)
theorem arg_sIsInteger : Argd "is_integer" "is_integer" sIsInteger ["thing"] := fun _ _ _ _ _ _ us hl => match us, hl with | [_], _ => rfl
theorem arg_sIsWithin : Argd "is_within" "is_within" sIsWithin ["thing", "least", "most"] := fun _ _ _ _ _ _ us hl => match us, hl with | [_, _, _], _ => rfl
theorem arg_sIsListed : Argd "is_listed" "is_listed" sIsListed ["thing"] := fun _ _ _ _ _ _ us hl => match us, hl with | [_], _ => rfl
theorem arg_sIsTriple : Argd "is_triple" "is_triple" sIsTriple ["thing"] := fun _ _ _ _ _ _ us hl => match us, hl with | [_], _ => rfl
theorem arg_sIsFlag : Argd "is_flag" "is_flag" sIsFlag ["thing"] := fun _ _ _ _ _ _ us hl => match us, hl with | [_], _ => rfl
theorem arg_sCheckMost : Argd "check_most" "check_most" sCheckMost ["many", "most"] := fun _ _ _ _ _ _ us hl => match us, hl with | [_, _], _ => rfl
theorem arg_sIsRow : Argd "is_row" "is_row" sIsRow ["offices", "thing"] := fun _ _ _ _ _ _ us hl => match us, hl with | [_, _], _ => rfl
theorem arg_sFirstBad : Argd "first_bad" "first_bad" sFirstBad ["offices", "rows"] := fun _ _ _ _ _ _ us hl => match us, hl with | [_, _], _ => rfl
theorem arg_sBegun : Argd "begun" "begun" sBegun ["offices"] := fun _ _ _ _ _ _ us hl => match us, hl with | [_], _ => rfl
theorem arg_sCopied : Argd "copied" "copied" sCopied ["editions", "row"] := fun _ _ _ _ _ _ us hl => match us, hl with | [_, _], _ => rfl
theorem arg_sIsFind : Argd "is_find" "is_find" sIsFind ["log", "thing"] := fun _ _ _ _ _ _ us hl => match us, hl with | [_, _], _ => rfl
theorem arg_sCheckFew : Argd "check_few" "check_few" sCheckFew ["log"] := fun _ _ _ _ _ _ us hl => match us, hl with | [_], _ => rfl
theorem arg_sCheckFinds : Argd "check_finds" "check_finds" sCheckFinds ["log", "finds"] := fun _ _ _ _ _ _ us hl => match us, hl with | [_, _], _ => rfl
theorem arg_sFindsByMoment : Argd "finds_by_moment" "finds_by_moment" sFindsByMoment ["log", "finds"] := fun _ _ _ _ _ _ us hl => match us, hl with | [_, _], _ => rfl
theorem arg_sHasAll : Argd "has_all" "has_all" sHasAll ["editions", "pairs"] := fun _ _ _ _ _ _ us hl => match us, hl with | [_, _], _ => rfl
theorem arg_sNexts : Argd "nexts" "nexts" sNexts ["editions", "row"] := fun _ _ _ _ _ _ us hl => match us, hl with | [_, _], _ => rfl
theorem arg_sWaysTo : Argd "ways_to" "ways_to" sWaysTo ["log", "finds"] := fun _ _ _ _ _ _ us hl => match us, hl with | [_, _], _ => rfl
theorem arg_sFewestFrom : Argd "fewest_from" "fewest_from" sFewestFrom ["log", "finds"] := fun _ _ _ _ _ _ us hl => match us, hl with | [_, _], _ => rfl
theorem arg_sFewestDone : Argd "fewest_done" "fewest_done" sFewestDone ["log", "finds"] := fun _ _ _ _ _ _ us hl => match us, hl with | [_, _], _ => rfl
theorem arg_sLawHand : Argd "_law_hand" "_law_hand" sLawHand ["_law_script"] := fun _ _ _ _ _ _ us hl => match us, hl with | [_], _ => rfl
theorem arg_sLawDraw : Argd "_law_draw" "_law_draw" sLawDraw ["_law_hand_here", "_law_many"] := fun _ _ _ _ _ _ us hl => match us, hl with | [_, _], _ => rfl
theorem arg_sLawRow : Argd "_law_row" "_law_row" sLawRow ["_law_hand_here", "_law_offices", "_law_share"] := fun _ _ _ _ _ _ us hl => match us, hl with | [_, _, _], _ => rfl
theorem arg_sLawRows : Argd "_law_rows" "_law_rows" sLawRows ["_law_hand_here", "_law_offices", "_law_most", "_law_share"] := fun _ _ _ _ _ _ us hl => match us, hl with | [_, _, _, _], _ => rfl
theorem arg_sLawLed : Argd "_law_led" "_law_led" sLawLed ["_law_offices", "_law_rows_here", "_law_doing"] := fun _ _ _ _ _ _ us hl => match us, hl with | [_, _, _], _ => rfl
theorem arg_sLawDoings : Argd "_law_doings" "_law_doings" sLawDoings ["_law_rows_here"] := fun _ _ _ _ _ _ us hl => match us, hl with | [_], _ => rfl
theorem arg_sLawSomeDoing : Argd "_law_some_doing" "_law_some_doing" sLawSomeDoing ["_law_hand_here", "_law_rows_here"] := fun _ _ _ _ _ _ us hl => match us, hl with | [_, _], _ => rfl
theorem arg_sLawFinds : Argd "_law_finds" "_law_finds" sLawFinds ["_law_hand_here", "_law_offices", "_law_rows_here", "_law_most", "_law_odd"] := fun _ _ _ _ _ _ us hl => match us, hl with | [_, _, _, _, _], _ => rfl
theorem arg_sLawAreTrue : Argd "_law_are_true" "_law_are_true" sLawAreTrue ["_law_led_here", "_law_finds_here"] := fun _ _ _ _ _ _ us hl => match us, hl with | [_, _], _ => rfl
theorem arg_sLawGood : Argd "_law_good" "_law_good" sLawGood ["_law_offices", "_law_rows_here", "_law_finds_here"] := fun _ _ _ _ _ _ us hl => match us, hl with | [_, _, _], _ => rfl
theorem arg_sLawDue : Argd "_law_due" "_law_due" sLawDue ["_law_offices", "_law_rows_here", "_law_finds_here"] := fun _ _ _ _ _ _ us hl => match us, hl with | [_, _, _], _ => rfl
theorem arg_sLawLong : Argd "_law_long" "_law_long" sLawLong ["_law_hand_here"] := fun _ _ _ _ _ _ us hl => match us, hl with | [_], _ => rfl
theorem arg_sLawNext : Argd "_law_next" "_law_next" sLawNext ["_law_editions", "_law_row_here"] := fun _ _ _ _ _ _ us hl => match us, hl with | [_, _], _ => rfl
theorem arg_sLawHeeds : Argd "_law_heeds" "_law_heeds" sLawHeeds ["_law_finds_here", "_law_moment", "_law_editions"] := fun _ _ _ _ _ _ us hl => match us, hl with | [_, _, _], _ => rfl
theorem arg_sLawLongRight : Argd "_law_long_right" "_law_long_right" sLawLongRight ["_law_hand_here"] := fun _ _ _ _ _ _ us hl => match us, hl with | [_], _ => rfl
theorem arg_sLogInit : Argd "__init__" "Log.__init__" sLogInit ["self", "offices", "rows"] := fun _ _ _ _ _ _ us hl => match us, hl with | [_, _, _], _ => rfl
theorem stn_mk {K : PySem.W.Frag} {mg : Str → Option Value} {h : Heap} {x : Str} {st : Stmt} {ps : List Str} {f : Addr} {od an : Option Addr} {osl : Array (Option Value)} {oc kV doc pm cdv ct : Value} (X : K.In h) (G : h.Ns mainGlobals mg) (hb : Argd x x st ps)
    (a : PySem.W.nsIn K mainGlobals x = some (some (.ref f))) (l : K.lookup f = some ⟨oc, od, .func (PySem.W.fnOf x x (defArgs st) (defBody st) (defScope st) .none kV doc pm an cdv ct), osl⟩) (c : PySem.W.codeIn K cdv x = true) (k : PySem.W.keepIn K (.ref f) = true) : Stn K mg x st ps :=
  ⟨⟨f, _, PySem.W.mg_of X G a, fun_mk l c k, (fun_mk l c k).binds hb⟩⟩
theorem cst_mk {K : PySem.W.Frag} {mg : Str → Option Value} {h : Heap} {x : Str} {i : Int} {v : Value} (X : K.In h) (G : h.Ns mainGlobals mg) (a : PySem.W.nsIn K mainGlobals x = some (some v)) (e : ∃ t, v = .int i t) : ∃ t, mg x = some (.int i t) :=
  e.elim fun t z => ⟨t, z ▸ PySem.W.mg_of X G a⟩
theorem once_mk {P : Program} {w : World} {K : PySem.W.Frag} {mg : Str → Option Value} {h : Heap} {g f0 C fL : Addr} {od an odI anI : Option Addr} {osl oslI : Array (Option Value)} {oc kV doc pm cdv ct ocI kVI docI pmI cdvI ctI : Value} (X : K.In h) (G : h.Ns mainGlobals mg) (hg : mg "law" = some (.ref g)) (M : Mg mg)
    (aC : PySem.W.nsIn K mainGlobals "Log" = some (some (.ref C))) (aI : PySem.W.findIn K (.ref C) "__init__" = some (some (.ref f0))) (iI : PySem.W.isFn K (.ref f0) = true)
    (lI : K.lookup f0 = some ⟨ocI, odI, .func (PySem.W.fnOf "__init__" "Log.__init__" (defArgs sLogInit) (defBody sLogInit) (defScope sLogInit) .none kVI docI pmI anI cdvI ctI), oslI⟩) (cI : PySem.W.codeIn K cdvI "Log.__init__" = true) (kI : PySem.W.keepIn K (.ref f0) = true)
    (aL : PySem.W.nsIn K mainGlobals "law" = some (some (.ref fL))) (lL : K.lookup fL = some ⟨oc, od, .func (PySem.W.fnOf "law" "law" (defArgs sLaw) (defBody sLaw) (defScope sLaw) .none kV doc pm an cdv ct), osl⟩) (cL : PySem.W.codeIn K cdv "law" = true) (kL : PySem.W.keepIn K (.ref fL) = true)
    (gP : PySem.W.plainGet K C Str.empty = true) (gD : PySem.W.hasDictIn K C = true) (gO : PySem.W.plainOver K C = true) (gS : PySem.W.findIn K (.ref C) "__setattr__" = some (some (.builtin "object.__setattr__"))) (gM : PySem.W.makesIn K C = true) (gK : PySem.W.keepIn K (.ref C) = true)
    (nO : PySem.W.findIn K (.ref C) "offices" = some none) (nR : PySem.W.findIn K (.ref C) "rows" = some none)
    (DIsInteger : Stn K mg "is_integer" sIsInteger ["thing"])
    (DIsWithin : Stn K mg "is_within" sIsWithin ["thing", "least", "most"])
    (DIsListed : Stn K mg "is_listed" sIsListed ["thing"])
    (DIsTriple : Stn K mg "is_triple" sIsTriple ["thing"])
    (DIsFlag : Stn K mg "is_flag" sIsFlag ["thing"])
    (DCheckMost : Stn K mg "check_most" sCheckMost ["many", "most"])
    (DIsRow : Stn K mg "is_row" sIsRow ["offices", "thing"])
    (DFirstBad : Stn K mg "first_bad" sFirstBad ["offices", "rows"])
    (DBegun : Stn K mg "begun" sBegun ["offices"])
    (DCopied : Stn K mg "copied" sCopied ["editions", "row"])
    (DIsFind : Stn K mg "is_find" sIsFind ["log", "thing"])
    (DCheckFew : Stn K mg "check_few" sCheckFew ["log"])
    (DCheckFinds : Stn K mg "check_finds" sCheckFinds ["log", "finds"])
    (DFindsByMoment : Stn K mg "finds_by_moment" sFindsByMoment ["log", "finds"])
    (DHasAll : Stn K mg "has_all" sHasAll ["editions", "pairs"])
    (DNexts : Stn K mg "nexts" sNexts ["editions", "row"])
    (DWaysTo : Stn K mg "ways_to" sWaysTo ["log", "finds"])
    (DFewestFrom : Stn K mg "fewest_from" sFewestFrom ["log", "finds"])
    (DFewestDone : Stn K mg "fewest_done" sFewestDone ["log", "finds"])
    (DLawHand : Stn K mg "_law_hand" sLawHand ["_law_script"])
    (DLawDraw : Stn K mg "_law_draw" sLawDraw ["_law_hand_here", "_law_many"])
    (DLawRow : Stn K mg "_law_row" sLawRow ["_law_hand_here", "_law_offices", "_law_share"])
    (DLawRows : Stn K mg "_law_rows" sLawRows ["_law_hand_here", "_law_offices", "_law_most", "_law_share"])
    (DLawLed : Stn K mg "_law_led" sLawLed ["_law_offices", "_law_rows_here", "_law_doing"])
    (DLawDoings : Stn K mg "_law_doings" sLawDoings ["_law_rows_here"])
    (DLawSomeDoing : Stn K mg "_law_some_doing" sLawSomeDoing ["_law_hand_here", "_law_rows_here"])
    (DLawFinds : Stn K mg "_law_finds" sLawFinds ["_law_hand_here", "_law_offices", "_law_rows_here", "_law_most", "_law_odd"])
    (DLawAreTrue : Stn K mg "_law_are_true" sLawAreTrue ["_law_led_here", "_law_finds_here"])
    (DLawGood : Stn K mg "_law_good" sLawGood ["_law_offices", "_law_rows_here", "_law_finds_here"])
    (DLawDue : Stn K mg "_law_due" sLawDue ["_law_offices", "_law_rows_here", "_law_finds_here"])
    (DLawLong : Stn K mg "_law_long" sLawLong ["_law_hand_here"])
    (DLawNext : Stn K mg "_law_next" sLawNext ["_law_editions", "_law_row_here"])
    (DLawHeeds : Stn K mg "_law_heeds" sLawHeeds ["_law_finds_here", "_law_moment", "_law_editions"])
    (DLawLongRight : Stn K mg "_law_long_right" sLawLongRight ["_law_hand_here"])
    (base : Heap) : Once P w K mg base g := by
  have e := hg.symm.trans (PySem.W.mg_of X G aL)
  cases e
  have L : LogC K mg C f0 := ⟨⟨gP, gD, gO, gS⟩, nO, nR, ⟨gM, aI, iI, gK⟩, PySem.W.mg_of X G aC⟩
  have FI := fun_mk (st := sLogInit) lI cI kI
  have FL := fun_mk (st := sLaw) lL cL kL
  have o1 := ok_int (P := P) (w := w) (base := base) DIsInteger M
  have o2 := ok_within DIsWithin o1
  have o3 := ok_listed (P := P) (w := w) (base := base) DIsListed M
  have o4 := ok_triple (P := P) (w := w) (base := base) DIsTriple M
  have o5 := ok_flag (P := P) (w := w) (base := base) DIsFlag M
  have o6 := ok_most (P := P) (w := w) (base := base) DCheckMost
  have o7 := ok_row DIsRow M o4 o2 o5
  have o8 := ok_bad DFirstBad M o7
  have oI := ok_logI FI L M o2 o8
  have GL : LgOk P w K mg base C f0 := ⟨⟨_, oI, FI.binds arg_sLogInit⟩⟩
  have o9 := ok_begun (P := P) (w := w) (base := base) DBegun M
  have o10 := ok_copied (P := P) (w := w) (base := base) DCopied
  have o11 := ok_find DIsFind L M o4 o2
  have o12 := ok_few DCheckFew L M o6
  have o13 := ok_fnds DCheckFinds L M o3 o11
  have o14 := ok_byM (P := P) (w := w) (base := base) DFindsByMoment L M
  have o15 := ok_has (P := P) (w := w) (base := base) DHasAll M
  have o16 := ok_nexts DNexts o10
  have o17 := ok_ways DWaysTo L M o14 o9 o15 o16
  have o18 := ok_from DFewestFrom L M o17 o16
  have o19 := ok_done DFewestDone L M o13 o12 o18 o9 o16
  have l1 := ok_draw (P := P) (w := w) (base := base) DLawDraw M
  have l2 := ok_hand (P := P) (w := w) (base := base) DLawHand M
  have l3 := ok_row' DLawRow l1
  have l4 := ok_rows' DLawRows M l1 l3
  have l5 := ok_led (P := P) (w := w) (base := base) DLawLed M
  have l6 := ok_doings (P := P) (w := w) (base := base) DLawDoings M
  have l7 := ok_some DLawSomeDoing M l1
  have l8 := ok_finds DLawFinds M l1 l5 l7
  have l9 := ok_true (P := P) (w := w) (base := base) DLawAreTrue M
  have l10 := ok_good DLawGood l6 l5 l9
  have l11 := ok_due DLawDue M l10
  have l12 := ok_long DLawLong M l1 l3 l8
  have l13 := ok_lnext (P := P) (w := w) (base := base) DLawNext
  have l14 := ok_heeds (P := P) (w := w) (base := base) DLawHeeds M
  have l15 := ok_lr DLawLongRight M L GL l12 l13 l14 o19
  exact once_of FL (fun sh u => .of_eq rfl) fun cdv sh I vs Q hr hs => law_does M L GL l2 l1 l15 l4 l8 l11 o19 l7 l5 hr rfl hs
end K70

set_option maxRecDepth 100000
open PySem PySem.W PyProof.Rows
set_option maxHeartbeats 0 in
theorem PySem.Challenge.cw_takenover_k70_whole_fewest_rows_done_holds : PySem.Challenge.rw_takenover_k70_whole_fewest_rows_done.Holds := by
  w_on; o_law; k_head; (case hw => w_witness2)
  k_fill
  refine K70.walk_once (l := PySem.Challenge.rw_takenover_k70_whole_fewest_rows_done) rfl rfl (fun w h Y => PySem.W.kIn_of Y) ?F
  case F =>
    intro w mg g h X G hg base _ _
    have M : K70.Mg mg := by
      refine' ⟨PySem.W.mg_none_of X G ?n0, PySem.W.mg_none_of X G ?n1, PySem.W.mg_none_of X G ?n2, PySem.W.mg_none_of X G ?n3, PySem.W.mg_none_of X G ?n4, PySem.W.mg_none_of X G ?n5, PySem.W.mg_none_of X G ?n6, PySem.W.mg_none_of X G ?n7, PySem.W.mg_none_of X G ?n8, PySem.W.mg_none_of X G ?n9, PySem.W.mg_none_of X G ?n10, PySem.W.mg_none_of X G ?n11, PySem.W.mg_none_of X G ?n12, PySem.W.mg_none_of X G ?n13, K70.cst_mk X G ?c0 ?e0, K70.cst_mk X G ?c1 ?e1, K70.cst_mk X G ?c2 ?e2, K70.cst_mk X G ?c3 ?e3⟩
      (case n0 => k_is)
      (case n1 => k_is)
      (case n2 => k_is)
      (case n3 => k_is)
      (case n4 => k_is)
      (case n5 => k_is)
      (case n6 => k_is)
      (case n7 => k_is)
      (case n8 => k_is)
      (case n9 => k_is)
      (case n10 => k_is)
      (case n11 => k_is)
      (case n12 => k_is)
      (case n13 => k_is)
      (case c0 => k_is); (case e0 => exact ⟨_, rfl⟩)
      (case c1 => k_is); (case e1 => exact ⟨_, rfl⟩)
      (case c2 => k_is); (case e2 => exact ⟨_, rfl⟩)
      (case c3 => k_is); (case e3 => exact ⟨_, rfl⟩)
    have DIsInteger := by
      refine' K70.stn_mk X G K70.arg_sIsInteger ?a ?l ?c ?k
      (case a => k_is); (case l => k_is); (case c => k_is); (case k => k_is)
    have DIsWithin := by
      refine' K70.stn_mk X G K70.arg_sIsWithin ?a ?l ?c ?k
      (case a => k_is); (case l => k_is); (case c => k_is); (case k => k_is)
    have DIsListed := by
      refine' K70.stn_mk X G K70.arg_sIsListed ?a ?l ?c ?k
      (case a => k_is); (case l => k_is); (case c => k_is); (case k => k_is)
    have DIsTriple := by
      refine' K70.stn_mk X G K70.arg_sIsTriple ?a ?l ?c ?k
      (case a => k_is); (case l => k_is); (case c => k_is); (case k => k_is)
    have DIsFlag := by
      refine' K70.stn_mk X G K70.arg_sIsFlag ?a ?l ?c ?k
      (case a => k_is); (case l => k_is); (case c => k_is); (case k => k_is)
    have DCheckMost := by
      refine' K70.stn_mk X G K70.arg_sCheckMost ?a ?l ?c ?k
      (case a => k_is); (case l => k_is); (case c => k_is); (case k => k_is)
    have DIsRow := by
      refine' K70.stn_mk X G K70.arg_sIsRow ?a ?l ?c ?k
      (case a => k_is); (case l => k_is); (case c => k_is); (case k => k_is)
    have DFirstBad := by
      refine' K70.stn_mk X G K70.arg_sFirstBad ?a ?l ?c ?k
      (case a => k_is); (case l => k_is); (case c => k_is); (case k => k_is)
    have DBegun := by
      refine' K70.stn_mk X G K70.arg_sBegun ?a ?l ?c ?k
      (case a => k_is); (case l => k_is); (case c => k_is); (case k => k_is)
    have DCopied := by
      refine' K70.stn_mk X G K70.arg_sCopied ?a ?l ?c ?k
      (case a => k_is); (case l => k_is); (case c => k_is); (case k => k_is)
    have DIsFind := by
      refine' K70.stn_mk X G K70.arg_sIsFind ?a ?l ?c ?k
      (case a => k_is); (case l => k_is); (case c => k_is); (case k => k_is)
    have DCheckFew := by
      refine' K70.stn_mk X G K70.arg_sCheckFew ?a ?l ?c ?k
      (case a => k_is); (case l => k_is); (case c => k_is); (case k => k_is)
    have DCheckFinds := by
      refine' K70.stn_mk X G K70.arg_sCheckFinds ?a ?l ?c ?k
      (case a => k_is); (case l => k_is); (case c => k_is); (case k => k_is)
    have DFindsByMoment := by
      refine' K70.stn_mk X G K70.arg_sFindsByMoment ?a ?l ?c ?k
      (case a => k_is); (case l => k_is); (case c => k_is); (case k => k_is)
    have DHasAll := by
      refine' K70.stn_mk X G K70.arg_sHasAll ?a ?l ?c ?k
      (case a => k_is); (case l => k_is); (case c => k_is); (case k => k_is)
    have DNexts := by
      refine' K70.stn_mk X G K70.arg_sNexts ?a ?l ?c ?k
      (case a => k_is); (case l => k_is); (case c => k_is); (case k => k_is)
    have DWaysTo := by
      refine' K70.stn_mk X G K70.arg_sWaysTo ?a ?l ?c ?k
      (case a => k_is); (case l => k_is); (case c => k_is); (case k => k_is)
    have DFewestFrom := by
      refine' K70.stn_mk X G K70.arg_sFewestFrom ?a ?l ?c ?k
      (case a => k_is); (case l => k_is); (case c => k_is); (case k => k_is)
    have DFewestDone := by
      refine' K70.stn_mk X G K70.arg_sFewestDone ?a ?l ?c ?k
      (case a => k_is); (case l => k_is); (case c => k_is); (case k => k_is)
    have DLawHand := by
      refine' K70.stn_mk X G K70.arg_sLawHand ?a ?l ?c ?k
      (case a => k_is); (case l => k_is); (case c => k_is); (case k => k_is)
    have DLawDraw := by
      refine' K70.stn_mk X G K70.arg_sLawDraw ?a ?l ?c ?k
      (case a => k_is); (case l => k_is); (case c => k_is); (case k => k_is)
    have DLawRow := by
      refine' K70.stn_mk X G K70.arg_sLawRow ?a ?l ?c ?k
      (case a => k_is); (case l => k_is); (case c => k_is); (case k => k_is)
    have DLawRows := by
      refine' K70.stn_mk X G K70.arg_sLawRows ?a ?l ?c ?k
      (case a => k_is); (case l => k_is); (case c => k_is); (case k => k_is)
    have DLawLed := by
      refine' K70.stn_mk X G K70.arg_sLawLed ?a ?l ?c ?k
      (case a => k_is); (case l => k_is); (case c => k_is); (case k => k_is)
    have DLawDoings := by
      refine' K70.stn_mk X G K70.arg_sLawDoings ?a ?l ?c ?k
      (case a => k_is); (case l => k_is); (case c => k_is); (case k => k_is)
    have DLawSomeDoing := by
      refine' K70.stn_mk X G K70.arg_sLawSomeDoing ?a ?l ?c ?k
      (case a => k_is); (case l => k_is); (case c => k_is); (case k => k_is)
    have DLawFinds := by
      refine' K70.stn_mk X G K70.arg_sLawFinds ?a ?l ?c ?k
      (case a => k_is); (case l => k_is); (case c => k_is); (case k => k_is)
    have DLawAreTrue := by
      refine' K70.stn_mk X G K70.arg_sLawAreTrue ?a ?l ?c ?k
      (case a => k_is); (case l => k_is); (case c => k_is); (case k => k_is)
    have DLawGood := by
      refine' K70.stn_mk X G K70.arg_sLawGood ?a ?l ?c ?k
      (case a => k_is); (case l => k_is); (case c => k_is); (case k => k_is)
    have DLawDue := by
      refine' K70.stn_mk X G K70.arg_sLawDue ?a ?l ?c ?k
      (case a => k_is); (case l => k_is); (case c => k_is); (case k => k_is)
    have DLawLong := by
      refine' K70.stn_mk X G K70.arg_sLawLong ?a ?l ?c ?k
      (case a => k_is); (case l => k_is); (case c => k_is); (case k => k_is)
    have DLawNext := by
      refine' K70.stn_mk X G K70.arg_sLawNext ?a ?l ?c ?k
      (case a => k_is); (case l => k_is); (case c => k_is); (case k => k_is)
    have DLawHeeds := by
      refine' K70.stn_mk X G K70.arg_sLawHeeds ?a ?l ?c ?k
      (case a => k_is); (case l => k_is); (case c => k_is); (case k => k_is)
    have DLawLongRight := by
      refine' K70.stn_mk X G K70.arg_sLawLongRight ?a ?l ?c ?k
      (case a => k_is); (case l => k_is); (case c => k_is); (case k => k_is)
    refine' K70.once_mk X G hg M ?aC ?aI ?iI ?lI ?cI ?kI ?aL ?lL ?cL ?kL ?gP ?gD ?gO ?gS ?gM ?gK ?nO ?nR DIsInteger DIsWithin DIsListed DIsTriple DIsFlag DCheckMost DIsRow DFirstBad DBegun DCopied DIsFind DCheckFew DCheckFinds DFindsByMoment DHasAll DNexts DWaysTo DFewestFrom DFewestDone DLawHand DLawDraw DLawRow DLawRows DLawLed DLawDoings DLawSomeDoing DLawFinds DLawAreTrue DLawGood DLawDue DLawLong DLawNext DLawHeeds DLawLongRight base
    (case aC => k_is)
    (case aI => k_is)
    (case iI => k_is)
    (case lI => k_is)
    (case cI => k_is)
    (case kI => k_is)
    (case aL => k_is)
    (case lL => k_is)
    (case cL => k_is)
    (case kL => k_is)
    (case gP => k_is)
    (case gD => k_is)
    (case gO => k_is)
    (case gS => k_is)
    (case gM => k_is)
    (case gK => k_is)
    (case nO => k_is)
    (case nR => k_is)
