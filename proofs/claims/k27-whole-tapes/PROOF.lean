import PyProof.Rows.All
import Wide.All
import OpenK.AllK
import Wide.FinOn
import KE.KDictWalk
import KE.KDictSum
import KE.GoesEnum
import KE.SortData
import HandS.ForMost
import HandS.Walk
import HandS.Conv
import HandS.DictTup
import HandS.DictComp
import HandS.Codes
import HandS.TupLen
import HandS.TupLe
import HandS.TupAny
import HandS.IsInst
import HandS.Style
import HandS.Defaults
import PySem.Challenge.RW_streetpapers_k27_whole_tapes
set_option Elab.async false
set_option linter.all false
set_option maxRecDepth 100000
set_option maxHeartbeats 4000000
/-! Rules of our own: enumerate of a tuple, the keys of a dict whose keys are tuples, sorted keys, a dict of tuple keys by a comprehension, attributes as targets. -/
namespace TP
open PySem PySem.Spec PyProof.Rows L2

/-! ### enumerate(a tuple) -/
set_option maxHeartbeats 1000000 in
theorem enumT_new (t : Addr) (items : Array Value) :
    Meets (Builtin.«enumerate.__new__» ⟨[.type "enumerate", .ref t], []⟩) (fun _ R z => z.heap.IsTuple t items ∧
      R (.ok (.ret (.ref (z.heap.push { cls := .type "tuple_iterator", data := .fields #[.ref t, .int 0 0] }).objs.size)))
        { z with heap := (z.heap.push { cls := .type "tuple_iterator", data := .fields #[.ref t, .int 0 0] }).push { cls := .type "enumerate", data := .fields #[.none, .bool false, .ref z.heap.objs.size, rawInt 0, .none, .none] } }) :=
  .of_wp fun pr wd Ar R z hz => by
    obtain ⟨hp, gn, dr, tk, os⟩ := z
    obtain ⟨ht, hz⟩ := hz
    have sb := sub_enumerate
    have it1 : ∀ {A' : Around} {E : Value → Shared → Prop} {Q : Value → Shared → Prop}, Q (.ref hp.objs.size) ⟨hp.push { cls := .type "tuple_iterator", data := .fields #[.ref t, .int 0 0] }, gn, dr, tk, os⟩ → wpAny (model pr wd) A' (pyIter (.ref t)) Q E ⟨hp, gn, dr, tk, os⟩ :=
      fun q => wpAny_pyIter_tuple (s := ⟨hp, gn, dr, tk, os⟩) ht q
    wp_walk using it1
    refine wpAny_stack_any fun st => wpAny_pure ?_
    split
    · rename_i c _ _ _ _ _
      cases (c == Value.type "enumerate")
      · wp_walk using it1
        exact ⟨_, rfl, hz⟩
      · wp_walk using it1
        exact ⟨_, rfl, hz⟩
    · wp_walk using it1
      exact ⟨_, rfl, hz⟩

theorem enumT_call {prog : Program} {w : World} {A : Around} {E : Value → Shared → Prop} {s : Shared} {t : Addr} {items : Array Value} {Q : Value → Shared → Prop} (ht : s.heap.IsTuple t items)
    (h : ∀ hn : Heap, IsEnum hn (s.heap.objs.size + 1) s.heap.objs.size 0 .none → hn.IsTupleIter s.heap.objs.size t 0 → (∀ b o, s.heap.get? b = some o → hn.get? b = some o) → Q (.ref (s.heap.objs.size + 1)) { s with heap := hn }) :
    wpAny (model prog w) A (call (.type "enumerate") [.ref t]) Q E s := by
  refine callType_new F.called_enumerate (by decide) (F.typeCall_enumerate_1 _) (F.newCall_enumerate_1 _) (fun ob => F.args_object_init_2 ob _) F.entry_enumerate_new (enumT_new t items) ⟨ht, ?_⟩
  have hs : (s.heap.push { cls := .type "tuple_iterator", data := .fields #[.ref t, .int 0 0] }).objs.size = s.heap.objs.size + 1 := Heap.size_push ..
  show _ ∧ _
  rw [hs]
  have g := Heap.get?_push_size (s.heap.push { cls := .type "tuple_iterator", data := .fields #[.ref t, .int 0 0] }) (o := { cls := .type "enumerate", data := .fields #[.none, .bool false, .ref s.heap.objs.size, rawInt 0, .none, .none] }) rfl
  rw [hs] at g
  exact ⟨⟨_, g, rfl⟩, h _ g ⟨_, Heap.get?_push_of_some _ (Heap.get?_push_size _ rfl), rfl, rfl⟩ fun b o x => Heap.get?_push_of_some _ (Heap.get?_push_of_some _ x)⟩

/-- what enumerate(t) gives, t the tuple at a -/
def JEt (K : PySem.W.Frag) (a : Addr) : It where
  go := fun i H => ∃ (xs : List V) (x : V), SqT K H a xs ∧ xs[i]? = some x
  yld := fun i H v H' => ∃ T x, v = .ref T ∧ H T = none ∧ H' = upd H T (.tup [.int (i : Nat), x]) ∧ ∀ xs, SqT K H a xs → xs[i]? = some x
  stop := fun i H => ∃ xs : List V, SqT K H a xs ∧ xs.length = i
theorem walk_enumT {K : PySem.W.Frag} {a : Addr} {xs : List V} : Walk (JEt K a) xs.length (fun H => SqT K H a xs) (YPair (fun i => some (.int (i : Nat))) (fun i => xs[i]?)) where
  goes := fun i H hi q => ⟨xs, xs[i], q, by simp [hi]⟩
  stops := fun H q => ⟨xs, q, rfl⟩
  yields := fun i H v H' hi q y => by
    obtain ⟨T, x, e1, e2, e3, e4⟩ := y
    exact ⟨T, .int (i : Nat), x, e1, e2, e3, rfl, e4 xs q⟩

theorem turn_enumT {P : Program} {w : World} {K : PySem.W.Frag} {elts : List Expr} {kk : Nat} {tpos : Pos} (a e it : Addr) (hai : a ≠ it) :
    Turn P w K (.Tuple elts kk tpos) (JEt K a) [e, it] e (fun i h => (∃ old, IsEnum h e it ((i : Nat) : Int) old) ∧ h.IsTupleIter it a i ∧ e ≠ it ∧ e ≠ a) where
  mem := by simp
  obj := fun i h st b hb => by
    obtain ⟨⟨old, he⟩, ⟨o, ho, hc, hd⟩, _⟩ := st
    rcases (show b = e ∨ b = it by simpa using hb) with z | z
    · subst z
      exact ⟨_, he, fun v q => nomatch q⟩
    · subst z
      exact ⟨o, ho, fun v q => by rw [hd] at q; cases q⟩
  keep := fun i h h' st k => by
    obtain ⟨⟨old, he⟩, hi, hne, hea⟩ := st
    exact ⟨⟨old, k e (by simp) _ he⟩, hi.at fun o q => k it (by simp) o q, hne, hea⟩
  item := by
    intro X hP hw hK hc i pins s σ H E I hf st hg
    subst hP hw hK
    obtain ⟨⟨old, he⟩, hit, hne, hea⟩ := st
    obtain ⟨xs, x, hq, hx⟩ := hg
    obtain ⟨its, rv, tp, hz⟩ := I.tuple hq
    have tp' : s.heap.IsTuple a its.toArray := tp
    obtain ⟨u, hu, ru⟩ := rv.get hx
    have hi : i < its.toArray.size := by
      have := (List.getElem?_eq_some_iff.mp hu).1
      simpa using this
    have szE : e < s.heap.objs.size := Heap.lt_size he
    have szI : it < s.heap.objs.size := by obtain ⟨_, q, _⟩ := id hit; exact Heap.lt_size q
    refine PySem.wpAny_pyNext_enum_itemC (Draws.tuple (show X.A.in1.handled = none from I.ok.hd hc) it a hai its.toArray) he ⟨hit, tp'⟩ hi hne (by simp [hne, hea]) fun y hn tk hy ho st2 hT hsz hk => ?_
    have ey : y = u := by
      have q : its.toArray[i]? = some y := hy
      rw [List.getElem?_toArray, hu] at q
      exact (Option.some.inj q).symm
    subst ey
    refine ⟨_, rfl, wpAny_letOwnedTupleGo_enum (s := { s with heap := hn, toks := tk + 1 }) ho fun hm he' sb => ?_⟩
    have gT : hm.get? s.heap.objs.size = some { cls := .type "tuple", data := .seq #[.int i tk, y] } := (sb.2 _ (Nat.ne_of_gt szE)).trans hT
    have laid : ObjOk X.prog X.w (upd H s.heap.objs.size (.tup [.int (i : Nat), x])) hm s.heap.objs.size (.tup [.int (i : Nat), x]) :=
      ⟨by show 2 ≤ sizeLine; decide, [.int i tk, y], .cons ⟨_, rfl⟩ (.cons ru .nil), ⟨_, gT, rfl, _, rfl⟩⟩
    have I1 := I.turnedNew (t' := tk + 1) (ch := [e, it]) (fun b ob hb q => (sb.2 b fun z => hb (by simp [z])).trans (hk b ob (fun z => hb (by simp [z])) (fun z => hb (by simp [z])) q)) hf (Nat.le_refl _) laid
    refine ⟨.ref s.heap.objs.size, _, I1, rfl, ⟨_, x, rfl, I.hok.fresh (Nat.le_refl _), rfl, fun ys hy => by rw [I.tuple_inj hy hq]; exact hx⟩, ⟨⟨y, ?_⟩, st2.1.at fun o q => (sb.2 it (Ne.symm hne)).trans q, hne, hea⟩, fun b hb => ?_⟩
    · rw [show ((i + 1 : Nat) : Int) = (i : Int) + 1 by omega]
      exact he'
    · have lt : b < s.heap.objs.size := by
        rcases (show b = e ∨ b = it by simpa using hb) with z | z
        · subst z; exact szE
        · subst z; exact szI
      rw [upd_ne (Nat.ne_of_lt lt)]
      exact (hf b hb).1
  done := by
    intro X hP hw hK hc i pins s σ H E I hf st hg
    subst hP hw hK
    obtain ⟨⟨old, he⟩, hit, hne, hea⟩ := st
    obtain ⟨xs, hq, hx⟩ := hg
    obtain ⟨its, rv, tp, hz⟩ := I.tuple hq
    have tp' : s.heap.IsTuple a its.toArray := tp
    obtain ⟨f0, f1, f2, f3, f4, f5⟩ := hf it (by simp)
    have en : its.toArray.size = i := by
      have := rv.length
      simp
      omega
    refine wpAny_pyNext_enum_endD (n := its.toArray.size) (Draws.tuple (show X.A.in1.handled = none from I.ok.hd hc) it a hai its.toArray) he ⟨by rw [en]; exact hit, tp'⟩ fun hn eb => ⟨rfl, ?_⟩
    exact I.turned (t' := s.toks) (fun b o hb q => eb b o hb q) f0 f1 f3 f4 f5
  self := fun A i s Q E st h => by
    obtain ⟨⟨old, he⟩, _⟩ := st
    exact wpAny_pyIter_enum he h
def iEnumT (K : PySem.W.Frag) (ta : TA) : TI := fun σ H R => ta σ H fun vs H1 => ∃ a xs, vs = [.ref a] ∧ SqT K H1 a xs ∧ R (JEt K a) H1
theorem pi_enumT {X : Cx} {e : Expr} {ta : TA} {p pos tpos : Pos} {elts : List Expr} {kk : Nat} (hg : Gl X "enumerate") (hm : X.mg "enumerate" = none) (ha : PA X [e] ta) (hs : starEach [e] X.env = [(false, eval e X.env)] := by rfl) :
    PI X (.Tuple elts kk tpos) (.Call (.Name "enumerate" p) [e] [] pos) (iEnumT X.K ta) := by
  refine ⟨fun pins s σ H R I h => ?_⟩
  refine Call_ (ld_blt I hg hm boot_enumerate (PyProof.Rows.callWith_type1 (thn (ha.run pos pins s σ H _ I h) fun us z ⟨vs, H1, I1, r1, q1⟩ => ?_) hs rfl))
  obtain ⟨a, xs, ex, hq, q⟩ := q1
  subst ex
  cases r1 with
  | cons r rr =>
    cases rr
    cases r
    obtain ⟨its, rv, tp, hz⟩ := I1.tuple hq
    have al : a < z.heap.objs.size := by obtain ⟨o, ho, _⟩ := id tp; exact Heap.lt_size ho
    refine enumT_call (show z.heap.IsTuple a its.toArray from tp) fun hn he hit hk => wpAny_pyIter_enum he ?_
    refine ⟨z.heap.objs.size + 1, [z.heap.objs.size + 1, z.heap.objs.size], _, _, H1, rfl, I1.kept (t' := z.toks) hk, turn_enumT a (z.heap.objs.size + 1) z.heap.objs.size (Nat.ne_of_lt al), ⟨⟨.none, he⟩, hit, Nat.succ_ne_self _, ?_⟩, fun b hb => ?_, q⟩
    · exact Nat.ne_of_gt (Nat.lt_succ_of_lt al)
    · have hle : z.heap.objs.size ≤ b := by
        rcases (show b = z.heap.objs.size + 1 ∨ b = z.heap.objs.size by simpa using hb) with w' | w'
        · rw [w']; exact Nat.le_succ _
        · rw [w']; exact Nat.le_refl _
      exact I1.fpOk hle (I1.hok.fresh hle)
end TP
set_option Elab.async false
set_option linter.all false
set_option maxRecDepth 100000
set_option maxHeartbeats 4000000
namespace TP
open PySem PySem.Spec PyProof.Rows L2

/-! ### for k in d.keys(), the keys tuples -/
def iKeysT (td : TE) : TI := fun σ H R => td σ H fun x H1 => ∃ d o kvs, x = .ref d ∧ H1 d = some (.frz o (.dT kvs)) ∧ R (Itkt d o kvs) H1
theorem pi_keysT {X : Cx} {tg e : Expr} {td : TE} {apos cpos : Pos} (he : PE X e td) (hbase : attributeBase e "keys" X.env (eval e X.env) = eval e X.env := by rfl) (hline : (apos.endLine == cpos.line) = true := by rfl) :
    PI X tg (.Call (.Attribute e "keys" apos) [] [] cpos) (iKeysT td) := by
  refine ⟨fun pins s σ H R I h => ?_⟩
  refine wpAny_Call_method (T := "dict") (id := "dict.keys") hbase rfl hline F.plainAttrs_dict F.slot_dict_keys F.type_dict_keys (thn (he.run pins s σ H _ I h) fun u z ⟨x, H1, I1, rx, d, o, kvs, ex, hd, q⟩ => ?_)
  subst ex
  obtain rfl : u = Value.ref d := rx
  obtain ⟨hs, hgd, hx, es, ep, hdt, hsz, ent⟩ := I1.frzT hd
  have raw : z.heap.DictRaw d es ep := ⟨o, hgd, hx, hdt⟩
  have nd : ∀ a, Value.ref d = .ref a → ∃ ob, z.heap.get? a = some ob ∧ ob.dict = none := fun a e => by
    cases e
    exact ⟨o, hgd, hx.2.1⟩
  refine ⟨raw.typeIs, nd, ?_⟩
  generalize hv : ({ cls := .type "dict_keys", data := .fields #[.ref d] } : Obj) = vo
  have I2 : Inv X pins σ H1 { z with heap := z.heap.push vo } := I1.kept (t' := z.toks) fun b ob q => Heap.get?_push_of_some _ q
  have gv : (z.heap.push vo).get? z.heap.objs.size = some vo := Heap.get?_push_size _ (by rw [← hv]; rfl)
  have fin : wpAny (model X.prog X.w) X.A (pyIter (.ref z.heap.objs.size)) (PIE X pins σ tg R) X.xe { z with heap := z.heap.push vo } := by
    refine PySem.wpAny_pyIter_keys_raw (d := d) (es := es) (ep := ep) ⟨vo, gv, by rw [← hv], by rw [← hv]⟩ (raw.at fun ob q => Heap.get?_push_of_some _ q) (pi_one (tk := z.toks) I2 _ (turn_keysT _ hdt) ⟨_, Heap.get?_push_size _ rfl, rfl, ?_⟩ q)
    rw [hsz] <;> rfl
  subst hv
  show wpAny _ _ (callWith cpos (.builtin "dict.keys") [.ref d] [] []) _ X.xe z
  exact method_meetsIn F.slot_dict_keys F.entry_dict_keys rfl (PySem.evalArgs_none ⟨rfl, raw.typeIs, F.args_dict_keys_1 _, _, PySem.meets_dict_keys_raw d hs, ⟨es, ep, raw⟩, fin⟩)

/-! ### d.keys() as a value -/
/-- the view d.keys() at p -/
def keysO (p d : Addr) : HO := .ext fun h => PySem.W.KdlKeysView h p d
theorem keysO_ok {P : Program} {w : World} {H : Hp} {h : Heap} {p d : Addr} (e : h.get? p = some { cls := .type "dict_keys", data := .fields #[.ref d] }) : ObjOk P w H h p (keysO p d) :=
  ⟨⟨_, e, rfl, rfl⟩, ⟨_, e⟩, fun h1 h2 x k => let ⟨o, ho, r⟩ := x; ⟨o, k o ho, r⟩⟩
section
variable {X : Cx}
theorem dk_raw {P : Program} {w : World} {H : Hp} {h : Heap} {a : Addr} {kvs : List (Key × V)} (ok : HOk P w H h) (e : H a = some (.dK kvs)) : (a == sysModules) = false ∧ ∃ es ep, h.DictRaw a es ep := by
  obtain ⟨_, hd, vs, _, dd⟩ := dk_of ok e
  obtain ⟨es, ep, r, _⟩ := Heap.DictOf.raw dd
  exact ⟨hd, es, ep, r⟩
def rKeysV : V → List V → Hp → VK → Prop := fun x xs H Q => ∃ a : Addr, x = .ref a ∧ xs = [] ∧ ((∃ kvs, H a = some (.dK kvs)) ∨ ∃ kvs, H a = some (.dT kvs)) ∧ ∀ p, H p = none → Q (.ref p) (upd H p (keysO p a))
theorem mt_keysV : MtR X "dict.keys" rKeysV := by
  intro pins s σ H x xs v us Q I rx rxs h
  obtain ⟨a, rfl, rfl, ha, q⟩ := h
  cases rx
  cases rxs
  obtain ⟨hd, es, ep, raw⟩ : (a == sysModules) = false ∧ ∃ es ep, s.heap.DictRaw a es ep := by
    rcases ha with ⟨kvs, ha⟩ | ⟨kvs, ha⟩
    · exact dk_raw I.hok ha
    · obtain ⟨_, hd, _, _, o, es, ep, ho, hx, hdat, _⟩ := dt_of I.hok ha
      exact ⟨hd, es, ep, o, ho, hx, hdat⟩
  refine call_meetsIn PySem.F.slot_dict_keys raw.typeIs PySem.F.entry_dict_keys (PySem.F.args_dict_keys_1 _) (PySem.meets_dict_keys_raw a hd) ⟨⟨es, ep, raw⟩, ?_⟩
  exact ⟨.ref s.heap.objs.size, _, I.laid (t' := s.toks) (fun b u e => Heap.get?_push_of_some _ e) (Nat.le_refl _) (keysO_ok (Heap.get?_push_size _ rfl)), rfl, q _ (I.hok.fresh (Nat.le_refl _))⟩
end
end TP
set_option Elab.async false
set_option linter.all false
set_option maxRecDepth 100000
set_option maxHeartbeats 4000000
namespace TP
open PySem PySem.Spec PyProof.Rows L2
open PySem.W (EachIs)

/-! ### sorted(d.keys()) -/
/-- what a view of a dict's keys gives, whatever they are -/
theorem src_keys {prog : Program} {w : World} {r d : Addr} {es : Array DictEntry} {ep : Nat} :
    PySem.W.KdlSrc prog w "dict_keys" r d es.size (fun i v => ∃ hi : i < es.size, v = es[i].key) (fun h => PySem.W.KdlKeysView h r d ∧ h.DictRaw d es ep) where
  type := fun _ hm => hm.1.typeIs
  there := fun _ hm => ⟨let ⟨_, ho, _⟩ := hm.1; Heap.lt_size ho, let ⟨_, ho, _⟩ := hm.2; Heap.lt_size ho⟩
  keep := fun _ _ hm hk => ⟨let ⟨o, ho, x⟩ := hm.1; ⟨o, hk r (.inl rfl) o ho, x⟩, hm.2.at fun o e => hk d (.inr rfl) o e⟩
  notList := by decide
  notTuple := by decide
  hint := fun _ _ _ _ hm hq => PySem.W.kdl_hint_keys hm.1.typeIs hq
  iter := fun _ s hh hm => ⟨_, _, (fun _ _ hq => PySem.wpAny_pyIter_keys_raw hm.1 hm.2 hq), Walks.rawKeys hh _ d (Nat.ne_of_lt (let ⟨_, ho, _⟩ := hm.2; Heap.lt_size ho)) es ep, ⟨⟨_, Heap.get?_push_size _ rfl, rfl, rfl⟩, hm.2.at fun _ e => Heap.get?_push_of_some _ e⟩⟩
/-- sorted(view), up to the new list's own sort -/
theorem sorted_view {prog : Program} {w : World} {A : Around} {E : Value → Shared → Prop} {s : Shared} {T : String} {r d : Addr} {n : Nat} {P : Nat → Value → Prop} {OK : Heap → Prop} {Q : Value → Shared → Prop}
    (K : PySem.W.KdlSrc prog w T r d n P OK) (hh : A.handled = none) (hok : OK s.heap) (hn : n ≤ sizeLine)
    (h : ∀ (hp : Heap) (tk : Nat) (vs : List Value), (∀ b o, s.heap.get? b = some o → hp.get? b = some o) → vs.length = n → (∀ (j : Nat) (v : Value), vs[j]? = some v → P j v) →
      wpAny (model prog w) A.in1 (call (.builtin "list.sort") [.ref hp.objs.size]) (fun _ z => Q (.ref hp.objs.size) z) E { s with heap := hp.push { cls := .type "list", data := .seq vs.toArray }, toks := tk }) :
    wpAny (model prog w) A (call (.builtin "sorted") [.ref r]) Q E s := by
  refine Calls.call_function_entry kind_sorted plain_sorted entry_sorted (args_sorted1 _) ?_
  unfold Builtin.«sorted»
  refine wpAny_bind (m := checkCount "sorted" 1 1 _) (wpAny_pure ?_)
  refine wpAny_bind (PySem.W.kdu_collect (A := A.in1) K hh hok hn fun hp tk acc hk hacc => ?_)
  have hl : acc.toList.length = n := by rw [Array.length_toList]; exact hacc.1
  refine wpAny_bind (wpAny_newList ?_ (by rw [hl]; exact hn))
  have g := h hp tk acc.toList hk hl fun j v e => hacc.2 j v (by rw [← Array.getElem?_toList]; exact e)
  exact wpAny_bind (wpAny_holding (wpAny_mono g (fun _ z x => wpAny_pure ⟨_, rfl, x⟩) fun _ _ e => e))
theorem each_of {α β : Type} {R : α → β → Prop} : ∀ {as : List α} {bs : List β}, as.length = bs.length → (∀ (j : Nat) (a : α) (b : β), as[j]? = some a → bs[j]? = some b → R a b) → EachIs R as bs
  | [], [], _, _ => .nil
  | [], _ :: _, e, _ => by simp at e
  | _ :: _, [], e, _ => by simp at e
  | a :: as, b :: bs, e, h => .cons (h 0 a b rfl rfl) (each_of (by simpa using e) fun j x y h1 h2 => h (j + 1) x y (by simpa using h1) (by simpa using h2))
theorem each_get {α β : Type} {R : α → β → Prop} : ∀ {as : List α} {bs : List β}, EachIs R as bs → ∀ (j : Nat) (b : β), bs[j]? = some b → ∃ a, as[j]? = some a ∧ R a b
  | _, _, .nil, j, b, e => by simp at e
  | _, _, .cons h t, 0, b, e => by
    simp at e
    subst e
    exact ⟨_, rfl, h⟩
  | _, _, .cons h t, j + 1, b, e => by
    obtain ⟨a, h1, h2⟩ := each_get t j b (by simpa using e)
    exact ⟨a, by simpa using h1, h2⟩
theorem each_map_eq {α β : Type} {f : β → α} : ∀ {as : List α} {bs : List β}, EachIs (fun a b => a = f b) as bs → as = bs.map f
  | _, _, .nil => rfl
  | _, _, .cons h t => by rw [List.map_cons, ← each_map_eq t, h]

section
variable {X : Cx}
/-- behind the sort: one new list -/
theorem sort_laid {pins : List (Addr × Obj)} {σ : L2.St} {H : Hp} {s : Shared} {hp : Heap} {tk : Nat} {vs out : List Value} {ys : List V} (I : L2.Inv X pins σ H s) (hk : ∀ b o, s.heap.get? b = some o → hp.get? b = some o) (hl : ys.length ≤ sizeLine) (hv : Vals ys out) :
    H hp.objs.size = none ∧ L2.Inv X pins σ (upd H hp.objs.size (.lst ys)) { s with heap := sortedHeap (hp.push { cls := .type "list", data := .seq vs.toArray }) hp.objs.size vs out.toArray, toks := tk } := by
  have I1 : L2.Inv X pins σ H { s with heap := hp, toks := s.toks } := I.kept hk
  obtain ⟨e, ge2⟩ := sortedHeap_at (h := hp.push { cls := .type "list", data := .seq vs.toArray }) (a := hp.objs.size) (vs := vs) (n := 0) (out := out.toArray) (Heap.get?_push_size _ rfl)
  refine ⟨I1.hok.fresh (Nat.le_refl _), I1.laid (t' := tk) (fun b o q => ?_) (Nat.le_refl _) ⟨hl, out, e, hv, ge2⟩⟩
  have lt := Heap.lt_size q
  rw [sortedHeap_old (Nat.ne_of_lt lt) (by rw [Heap.size_push]; exact Nat.lt_succ_of_lt lt)]
  exact Heap.get?_push_of_some _ q
/-- an int key's entry -/
theorem mix_int {P : Program} {w : World} {k : Int} {v : Value} (h : (mixKind P w).is (Sum.inl k) v = true) : ∃ t, v = .int k t := by
  rcases keyIs_shape (k := Sum.inl k) (v := v) h with ⟨i, t, e, rfl⟩ | ⟨x, t, e, _⟩
  · cases e
    exact ⟨t, rfl⟩
  · cases e
def leI (x y : Int) : Bool := decide (x ≤ y)
/-- sorted of the keys of a dict whose keys are ints -/
def rSortK : List V → Hp → VK → Prop := fun vs H Q => ∃ (p a : Addr) (kvs : List (Key × V)) (ks : List Int), vs = [.ref p] ∧ H p = some (keysO p a) ∧ H a = some (.dK kvs) ∧ kvs.map (·.1) = ks.map Sum.inl ∧
  ∀ D, H D = none → Q (.ref D) (upd H D (.lst ((ks.mergeSort leI).map V.int)))
theorem cr_sortK (hc : X.calm = true) (hu : X.A.units + 64 < cLine) : CallR X (.builtin "sorted") rSortK := by
  intro pins s σ H xs us Q I r h
  obtain ⟨p, a, kvs, ks, rfl, hp, ha, hks, q⟩ := h
  obtain ⟨u, rfl, rx⟩ := r.one
  cases rx
  obtain ⟨z, hd, vs0, rel, dd⟩ := dk_of I.hok ha
  obtain ⟨es, ep, raw, sz, ent⟩ := Heap.DictOf.raw dd
  have view : PySem.W.KdlKeysView s.heap p a := (I.hok p _ hp).1
  have l1 : kvs.length = vs0.length := Paired.length rel
  have l2 : kvs.length = ks.length := by
    have := congrArg List.length hks
    simpa using this
  refine sorted_view src_keys (I.ok.hd hc) ⟨view, raw⟩ (by rw [sz, ← l1]; exact z) fun hp tk vs hk hl hv => ?_
  have e1 : EachIs (fun v k => ∃ t, v = Value.int k t) vs ks := each_of (by rw [hl, sz, ← l1, l2]) fun j v k h1 h2 => by
    obtain ⟨hi, e⟩ := hv j v h1
    have hj : j < kvs.length := by rw [l2]; exact (List.getElem?_eq_some_iff.mp h2).1
    have hj0 : j < vs0.length := by omega
    have ek : (vs0.map (·.1))[j]? = some (Sum.inl k) := by
      rw [← KV.keys rel, hks, List.getElem?_map, h2]
      rfl
    have ek2 : vs0[j].1 = Sum.inl k := by
      rw [List.getElem?_map, List.getElem?_eq_getElem hj0] at ek
      exact Option.some.inj ek
    obtain ⟨i1, _⟩ := ent j hi (Sum.inl k) vs0[j].2 (by rw [List.getElem?_eq_getElem hj0, ← ek2])
    obtain ⟨t, e2⟩ := mix_int i1
    exact ⟨t, by rw [e, e2]⟩
  refine PySem.W.list_sort_data (n := 0) (bs := ks) (enc := PyData.int) (R := fun v k => ∃ t, v = Value.int k t) (Heap.get?_push_size _ rfl) e1
    (e1.mono fun v k ⟨t, e⟩ => ⟨_, by rw [e]; exact Reads.int k t, by simp⟩) (PySem.W.AllAlike.of fun b b2 => by simp [PySem.W.alike]) (PySem.W.Sortable.others fun b => ⟨by simp, by simp⟩) (by rw [← l2]; exact z)
    (fun b _ => by show X.A.in1.units + 1 + 0 < cLine; show X.A.units + 1 + 1 + 0 < cLine; omega) fun out hlo e3 => ?_
  have le : PySem.W.dataLe false (PyData.int : Int → PyData) = leI := PySem.W.dataLe_int (fun b : Int => b)
  rw [le] at e3
  have rv : Vals ((ks.mergeSort leI).map V.int) out := by
    have : ∀ {o : List Value} {bs : List Int}, EachIs (fun v k => ∃ t, v = Value.int k t) o bs → Vals (bs.map V.int) o := by
      intro o bs e
      induction e with
      | nil => exact .nil
      | cons h t ih => exact .cons h ih
    exact this e3
  obtain ⟨f0, I2⟩ := sort_laid (tk := tk) (vs := vs) (out := out) I hk (by rw [List.length_map, List.length_mergeSort, ← l2]; exact z) rv
  exact ⟨.ref hp.objs.size, _, I2, rfl, q _ f0⟩
end
end TP
set_option Elab.async false
set_option linter.all false
set_option maxRecDepth 100000
set_option maxHeartbeats 4000000
namespace TP
open PySem PySem.Spec PyProof.Rows L2
open PySem.W (EachIs)

/-- the key of the place (x, 0) -/
abbrev pk (x : Int) : List Key := [Sum.inl x, Sum.inl 0]
section
variable {X : Cx}
theorem zip_get {α β : Type} : ∀ {as : List α} {bs : List β} {j : Nat} {c : α × β}, (as.zip bs)[j]? = some c → as[j]? = some c.1 ∧ bs[j]? = some c.2
  | [], _, _, _, h => by simp at h
  | _ :: _, [], _, _, h => by simp at h
  | a :: as, b :: bs, 0, c, h => by
    simp at h
    subst h
    exact ⟨rfl, rfl⟩
  | a :: as, b :: bs, j + 1, c, h => by
    have := zip_get (as := as) (bs := bs) (j := j) (c := c) (by simpa using h)
    simpa using this
/-- sorted of the keys of a dict whose keys are places (x, 0) -/
def rSortT : List V → Hp → VK → Prop := fun vs H Q => ∃ (p a : Addr) (kvs : List (List Key × V)) (ks : List Int), vs = [.ref p] ∧ H p = some (keysO p a) ∧ H a = some (.dT kvs) ∧ kvs.map (·.1) = ks.map pk ∧
  ∀ D (as : List Addr), H D = none → Paired (fun (b : Addr) (x : Int) => H b = some (.tup [.int x, .int 0])) as (ks.mergeSort leI) → Q (.ref D) (upd H D (.lst (as.map V.ref)))
theorem cr_sortT (hc : X.calm = true) (hu : X.A.units + 64 < cLine) : CallR X (.builtin "sorted") rSortT := by
  intro pins s σ H xs us Q I r h
  obtain ⟨p, a, kvs, ks, rfl, hp, ha, hks, q⟩ := h
  obtain ⟨u, rfl, rx⟩ := r.one
  cases rx
  obtain ⟨z, hd, xs0, rel, dd⟩ := dt_of I.hok ha
  obtain ⟨es, ep, raw, sz, ent⟩ := Heap.DictOfH.raw dd
  have view : PySem.W.KdlKeysView s.heap p a := (I.hok p _ hp).1
  have l1 : kvs.length = xs0.length := Paired.length rel
  have l2 : kvs.length = ks.length := by
    have := congrArg List.length hks
    simpa using this
  -- the j-th key
  have key : ∀ (j : Nat) (y : List Key × Addr × Value) (k : Int), xs0[j]? = some y → ks[j]? = some k → H y.2.1 = some (.tup [.int k, .int 0]) := fun j y k h1 h2 => by
    have hj : j < kvs.length := by rw [l2]; exact (List.getElem?_eq_some_iff.mp h2).1
    obtain ⟨b, hb, e1, e2, _⟩ := paired_get rel (i := j) (a := kvs[j]) (List.getElem?_eq_getElem hj)
    rw [h1] at hb
    have hb : y = b := Option.some.inj hb
    subst hb
    have ek : kvs[j].1 = pk k := by
      have : (kvs.map (·.1))[j]? = (ks.map pk)[j]? := by rw [hks]
      rw [List.getElem?_map, List.getElem?_map, List.getElem?_eq_getElem hj, h2] at this
      exact Option.some.inj this
    rw [ek] at e2
    exact e2
  generalize hbs : ((xs0.map fun y => y.2.1).zip ks) = bs
  have hbl : bs.length = ks.length := by
    rw [← hbs, List.length_zip, List.length_map, ← l1, l2, Nat.min_self]
  refine sorted_view src_keys (I.ok.hd hc) ⟨view, raw⟩ (by rw [sz, ← l1]; exact z) fun hp tk vs hk hl hv => ?_
  let R : Value → Addr × Int → Prop := fun v b => v = .ref b.1 ∧ H b.1 = some (.tup [.int b.2, .int 0])
  have e1 : EachIs R vs bs := each_of (by rw [hl, sz, ← l1, l2, hbl]) fun j v b h1 h2 => by
    rw [← hbs] at h2
    obtain ⟨g1, g2⟩ := zip_get h2
    rw [List.getElem?_map] at g1
    cases hy : xs0[j]? with
    | none => rw [hy] at g1; cases g1
    | some y =>
      rw [hy] at g1
      have g1 : y.2.1 = b.1 := Option.some.inj g1
      obtain ⟨hi, e⟩ := hv j v h1
      obtain ⟨y', hy', ek, _⟩ := ent j hi
      rw [hy] at hy'
      have hy' : y = y' := Option.some.inj hy'
      subst hy'
      refine ⟨by rw [e, ek, g1], ?_⟩
      rw [← g1]
      exact key j y b.2 hy g2
  have rd : ∀ (v : Value) (b : Addr × Int), R v b → ∃ as, Reads (hp.push { cls := .type "list", data := .seq vs.toArray }) v (PyData.tuple [.int b.2, .int 0]) as ∧ hp.objs.size ∉ as := fun v b hR => by
    obtain ⟨rfl, hb⟩ := hR
    obtain ⟨_, its, rv, o, ho, hcl, n, hdat⟩ := I.hok _ _ hb
    obtain ⟨t1, t2, rfl⟩ : ∃ t1 t2, its = [Value.int b.2 t1, Value.int 0 t2] := by
      cases rv with
      | cons r1 rr =>
        cases rr with
        | cons r2 rr =>
          cases rr
          obtain ⟨t1, rfl⟩ := r1
          obtain ⟨t2, rfl⟩ := r2
          exact ⟨t1, t2, rfl⟩
    exact ⟨_, Reads.tuple (Heap.get?_push_of_some _ (hk _ _ ho)) hcl hdat (.cons (.int b.2 t1) (.cons (.int 0 t2) .nil)), by simp⟩
  refine PySem.W.list_sort_data (n := 0) (bs := bs) (enc := fun b : Addr × Int => PyData.tuple [.int b.2, .int 0]) (R := R) (Heap.get?_push_size _ rfl) e1
    (e1.mono rd) (PySem.W.AllAlike.of fun b b2 => by simp [PySem.W.alike, PySem.W.alikeAll]) (PySem.W.Sortable.tuples fun b => ⟨_, _, rfl⟩) (by rw [hbl, ← l2]; exact z)
    (fun b _ => by show X.A.in1.units + 1 + _ < cLine; have : (PyData.tuple [PyData.int b.2, PyData.int 0]).depth = 1 := by simp [PyData.depth, PyData.depthAll]
                   rw [this]; show X.A.units + 1 + 1 + 1 < cLine; omega) fun out hlo e3 => ?_
  have le : PySem.W.dataLe false (fun b : Addr × Int => PyData.tuple [.int b.2, .int 0]) = fun b c => leI b.2 c.2 := by
    rw [PySem.W.dataLe_ii (fun b : Addr × Int => b.2) (fun _ => 0)]
    funext b c
    unfold leI
    apply decide_eq_decide.mpr
    omega
  rw [le] at e3
  have hz : ∀ {α β : Type} (l : List α) (m : List β), l.length = m.length → (l.zip m).map Prod.snd = m := fun l m e => List.map_snd_zip (by omega)
  have ms : (bs.mergeSort fun b c => leI b.2 c.2).map Prod.snd = ks.mergeSort leI := by
    rw [List.map_mergeSort (s := leI) (fun a _ b _ => rfl), ← hbs, hz _ _ (by rw [List.length_map, ← l1, l2])]
  generalize hm : (bs.mergeSort fun b c => leI b.2 c.2) = cs at e3 ms
  have hcl : cs.length ≤ sizeLine := by
    rw [← hm, List.length_mergeSort, hbl, ← l2]
    exact z
  have fin : Vals ((cs.map Prod.fst).map V.ref) out ∧ Paired (fun (b : Addr) (x : Int) => H b = some (.tup [.int x, .int 0])) (cs.map Prod.fst) (cs.map Prod.snd) := by
    clear hm ms hlo hcl
    induction e3 with
    | nil => exact ⟨.nil, .nil⟩
    | cons hR t ih => exact ⟨.cons hR.1 ih.1, .cons hR.2 ih.2⟩
  obtain ⟨f0, I2⟩ := sort_laid (tk := tk) (vs := vs) (out := out) I hk (by rw [List.length_map, List.length_map]; exact hcl) fin.1
  refine ⟨.ref hp.objs.size, _, I2, rfl, q _ _ f0 ?_⟩
  rw [← ms]
  exact fin.2
end
end TP
set_option Elab.async false
set_option linter.all false
set_option maxRecDepth 100000
set_option maxHeartbeats 4000000
namespace TP
open PySem PySem.Spec PyProof.Rows L2

/-! ### {k: v for x in xs}, the keys tuples, no test -/
section
variable {X : Cx}
/-- a tuple key stored by a comprehension -/
theorem dictSetT {pins : List (Addr × Obj)} {σ : L2.St} {H : Hp} {s : Shared} {E : Value → Shared → Prop} {D b : Addr} {kvs : List (List Key × V)} {k : List Key} {v : V} {r : Value} {Q : Unit → Shared → Prop} (hu : X.A.units + 1 < cLine) (I : L2.Inv X pins σ H s)
    (hD : H D = some (.dT kvs)) (hb : H b = some (.tup (k.map kV))) (hz : kvs.length < sizeLine) (rv : RelV v r) (h : ∀ z, L2.Inv X pins σ (upd H D (.dT (putK kvs k v))) z → Q () z) : wpAny (model X.prog X.w) X.A (dictSet D (.ref b) r) Q E s := by
  obtain ⟨z, hd, xs, rel, dd⟩ := dt_of I.hok hD
  have lx : xs.length ≤ sizeLine := by rw [← Paired.length rel]; exact z
  have lp : (putK kvs k v).length ≤ sizeLine := by have := length_putK kvs k v; omega
  have room : (tupleKind (mixKind X.prog X.w)).room X.A := (show X.A.units < cLine by omega)
  refine wpAny_dictSet_heap (hsz := lx) room (key_of I.hok hb) dd fun hn dn sb => ?_
  obtain ⟨q, es, ep, g1, g2, g3, g4, _, g5⟩ := dn
  refine h _ (d_write I (by rw [hD]; exact True.intro) sb ⟨q, g1⟩ ⟨lp, hd, _, (rel.put k hb rv).keeps fun c ys ec => ?_, q, es, ep, g1, g2, g3, g4, g5⟩)
  rw [upd_ne (ne_of ec hD fun z => nomatch z)]
  exact ec
/-- what is asked: D the new dict; W the invariant by the turn and a measure -/
def tDcT (wi : TI) (g : TG) (tk tv : TE) (vs : List Nat) : TE := fun σ H Q => wi σ H fun J H1 => ∀ D, H1 D = none → ∃ W : Nat → Nat → Hp → Prop, (∃ m, W 0 m (upd H1 D (.dT []))) ∧ ∀ i m H, W i m H →
  (J.stop i H ∧ Q (.ref D) H) ∨ (J.go i H ∧ ∃ Nx : Hp → Prop, (∀ H', Nx H' → ∃ m', m' < m ∧ W (i + 1) m' H') ∧ ∀ x H', J.yld i H x H' → g x (wipe σ vs) H' fun σ2 H2 => wipe σ2 vs = wipe σ vs ∧
    tk σ2 H2 fun y H4 => tv σ2 H4 fun z H5 => ∃ (kvs : List (List Key × V)) (k : List Key) (b : Addr), y = .ref b ∧ H5 b = some (.tup (k.map kV)) ∧ H5 D = some (.dT kvs) ∧ kvs.length < sizeLine ∧ Nx (upd H5 D (.dT (putK kvs k z))))
theorem pe_dcT {kx vx tg iter : Expr} {scope : Scope} {own : List (Str × Nat)} {pos : Pos} {wi : TI} {g : TG} {tk tv : TE} (hu : X.A.units + 20 < cLine) (hc : X.calm = true) (hN : X.N.Nodup) (hi : PI X tg iter wi) (ok : BlkOk X.N X.env.scope scope own)
    (hg : ∀ (s : Shared) (H : Hp) (C : Addr) (cl : List (Str × Addr)) (fp : List Addr), PG (X.blk s H scope (compEnvC scope cl C X.env) fp) tg g)
    (hk : ∀ (s : Shared) (H : Hp) (C : Addr) (cl : List (Str × Addr)) (fp : List Addr), PE (X.blk s H scope (compEnvC scope cl C X.env) fp) kx tk)
    (hv : ∀ (s : Shared) (H : Hp) (C : Addr) (cl : List (Str × Addr)) (fp : List Addr), PE (X.blk s H scope (compEnvC scope cl C X.env) fp) vx tv) (hs : ∀ x, foldedSetIterable iter X.env x = pure x := by intro _; rfl) :
    PE X (.DictComp kx vx [⟨tg, iter, [], 0⟩] scope pos) (tDcT wi g tk tv (own.map (·.2))) := by
  refine ⟨fun pins st σ H Q I want => ?_⟩
  rw [arm_eval_DictComp]
  have cap : ∀ y ∈ scope.names, y.2 = .free → ∃ c, X.env.cells.lookup y.1 = some c := fun y hy e => (ok.free y hy e).elim (fun k => I.ok.has _ (.inl k)) fun k => I.ok.has _ (.inr k)
  refine wpAny_comprehension_free rfl hs (closure_ok cap) ok.kind (fun y hy e => by rw [ok.uniq y hy, e]) (thn (hi.run pins st σ H _ I want) fun xv sa hx => thn hx fun itv sb hb => ?_)
  obtain ⟨it, fp, tn, J, Hb, e, Ib, T, stb, fb, q⟩ := hb
  subst e
  refine wpAny_newObj_type (newEnv_comp ?_)
  generalize hD : sb.heap.objs.size = D
  obtain ⟨W, ⟨m0, w0⟩, turn⟩ := q D (Ib.hok.fresh (Nat.le_of_eq hD))
  generalize hsc : ({ sb with heap := sb.heap.push { cls := .type "dict", data := .dict #[] } } : Shared) = sc
  have hc3 : sc.heap = sb.heap.push { cls := .type "dict", data := .dict #[] } := by rw [← hsc]
  have Ic : L2.Inv X pins σ (upd Hb D (.dT [])) sc := by
    rw [← hsc]
    refine Ib.laid (t' := sb.toks) (fun b o e => Heap.get?_push_of_some _ e) (Nat.le_of_eq hD) ?_
    rw [← hD]
    exact dt_empty sb.heap Ib.big
  have low : ∀ b ∈ fp, b < sb.heap.objs.size := fun b hb => let ⟨_, e, _⟩ := T.obj _ _ stb b hb; Heap.lt_size e
  have fc : ∀ b ∈ fp, FpOk X pins (upd Hb D (.dT [])) b ∧ b < sc.heap.objs.size := fun b hb => by
    have lt := low b hb
    refine ⟨⟨?_, (fb b hb).2⟩, by rw [hc3, Heap.size_push]; exact Nat.lt_succ_of_lt lt⟩
    rw [upd_ne (by rw [← hD]; exact Nat.ne_of_lt lt)]
    exact (fb b hb).1
  have stc : tn 0 sc.heap := T.keep _ _ _ stb fun b _ o e => by rw [hc3]; exact Heap.get?_push_of_some _ e
  have Id := block_start Ic ok hN fc
  have pg := hg sc (upd Hb D (.dT [])) sc.heap.objs.size (cellsFrom (sc.heap.objs.size + 1) scope.names (cloFrom X.env.cells scope.names [])) fp
  have pk' := hk sc (upd Hb D (.dT [])) sc.heap.objs.size (cellsFrom (sc.heap.objs.size + 1) scope.names (cloFrom X.env.cells scope.names [])) fp
  have pv' := hv sc (upd Hb D (.dT [])) sc.heap.objs.size (cellsFrom (sc.heap.objs.size + 1) scope.names (cloFrom X.env.cells scope.names [])) fp
  generalize hce : compEnvC scope (cellsFrom (sc.heap.objs.size + 1) scope.names (cloFrom X.env.cells scope.names [])) sc.heap.objs.size X.env = ce at Id pg pk' pv'
  have cL : ce.locals = sc.heap.objs.size := by rw [← hce]; rfl
  generalize hH : upd Hb D (.dT []) = Hc at Ic Id pg pk' pv' w0 fc
  generalize hsd : ({ sc with heap := pushCells (sc.heap.push { cls := .type "dict", data := .dict #[] }) scope.names } : Shared) = sd at Id
  have std : tn 0 sd.heap := T.keep _ _ _ stc fun b _ o e => by rw [← hsd]; exact pushCells_keeps _ _ _ _ (Heap.get?_push_of_some _ e)
  have alive : ∀ {σ' : L2.St} {H' : Hp} {z : Shared}, L2.Inv (X.blk sc Hc scope ce fp) [] σ' H' z → (∀ b ∈ fp, H' b = none) → ∀ b ∈ fp, FpOk (X.blk sc Hc scope ce fp) [] H' b := fun {σ' H' z} I' hn b hb =>
    ⟨hn b hb, (I'.ok.exf b hb).1, I'.ok.exfs b hb, .inl hb, fun x c e => (I'.ok.exf b hb).2 x c e, fun p hp => by cases (show p ∈ ([] : List (Addr × Obj)) ++ [] from hp)⟩
  suffices loop : codeAny (model X.prog X.w) X.A (.compLoop (.DictComp kx vx [⟨tg, iter, [], 0⟩] scope pos) 0 (.ref it) (.ref D) ce) (compPost (model X.prog X.w) X.A X.xe none (EP X pins σ Q) (.ref D) sc.heap.objs.size) sd by
    subst hsd hce
    exact codeAny_compStart_dict loop (T.self X.A 0 _ _ _ std loop)
  refine compLoop_anyD (fun n z => ∃ i H', L2.Inv (X.blk sc Hc scope ce fp) [] (wipe σ (own.map (·.2))) H' z ∧ tn i z.heap ∧ (∀ b ∈ fp, H' b = none) ∧ W i n H') ?_ m0 ⟨0, Hc, Id, std, fun b hb => (fc b hb).1.1, w0⟩
  rintro n z5 ⟨i, H5, I5, st5, n5, w5⟩
  rcases turn i n H5 w5 with ⟨stop, goal⟩ | ⟨go, Nx, hNx, step⟩
  · refine thnF (T.done (X.blk sc Hc scope ce fp) rfl rfl rfl hc i [] z5 _ H5 (fun _ _ => False) I5 (alive I5 n5) st5 stop) fun r z6 ⟨hr, I6⟩ => ?_
    subst hr
    -- back in the def
    have I7 : L2.Inv X pins σ H5 z6 := Ic.call' (ch := fp) I6.os I6.base I6.hok I6.bare fun b hb => let f := (fc b hb).1; ⟨f.2.2.2.1, f.2.1, f.2.2.2.2.1, f.2.2.2.2.2⟩
    have nC : H5 ce.locals = none := I6.free
    obtain ⟨m, hn, _⟩ := I6.loc
    have hn' : z6.heap.Ns ce.locals m := hn
    rw [cL] at nC hn'
    obtain ⟨f0, f1, f2, f3, f4, f5⟩ : FpOk X pins H5 sc.heap.objs.size := Ic.fpOk (Nat.le_refl _) nC
    exact ⟨m, hn', fun h'' sb => ⟨.ref D, H5, I7.turned (t' := z6.toks) (fun b o hb e => (sb.2 b hb).trans e) f0 f1 f3 f4 f5, rfl, goal⟩⟩
  · refine thnF (T.item (X.blk sc Hc scope ce fp) rfl rfl rfl hc i [] z5 _ H5 (fun _ _ => False) I5 (alive I5 n5) st5 go) fun r z6 ⟨u, hr, h6⟩ => ?_
    subst hr
    refine thnF h6 fun _ z7 ⟨x, H7, I7, r7, y7, st7, n7⟩ => ?_
    have I7' := I7.pinned (alive I7 n7) (T.obj _ _ st7)
    refine thnF (pg.run _ z7 _ H7 x u _ I7' r7 (step x H7 y7)) fun _ z8 ⟨σ8, H8, I8, hw8, q8⟩ => ?_
    refine wpAny_pure ?_
    rw [if_pos rfl]
    refine thnF (pk'.run _ z8 σ8 H8 _ I8 q8) fun kvv z10 ⟨yk, H10, I10, r10, q10⟩ => ?_
    refine thnF (pv'.run _ z10 σ8 H10 _ I10 q10) fun vvv z11 ⟨yv, H11, I11, r11, kvs, k, b, ek, hb11, hD11, hz11, nx⟩ => ?_
    subst ek
    cases r10
    refine dictSetT (X := X.blk sc Hc scope ce fp) (by show X.A.units + 1 < cLine; omega) I11 hD11 hb11 hz11 r11 fun z12 I12 => ?_
    obtain ⟨m', hm, w'⟩ := hNx _ nx
    have pin' : ∀ b ∈ fp, ∀ o, z7.heap.get? b = some o → z12.heap.get? b = some o ∧ (upd H11 D (.dT (putK kvs k yv))) b = none := fun b hb o e =>
      let z := I12.pin (b, o) (List.mem_append_right _ (List.mem_append_right _ (mem_pinsAt hb e)))
      ⟨z.1, z.2.1⟩
    refine ⟨m', hm, i + 1, _, (I12.unpinned (pins := [])).weak (by rw [← hw8, wipe_length]) (fun j v e => ?_), T.keep _ _ _ st7 fun b hb o e => (pin' b hb o e).1, fun b hb => ?_, w'⟩
    · rw [← hw8] at e
      exact (wipe_some e).1
    · obtain ⟨o, e, _⟩ := T.obj _ _ st7 b hb
      exact (pin' b hb o e).2
end
end TP
set_option Elab.async false
set_option linter.all false
set_option maxRecDepth 100000
set_option maxHeartbeats 4000000
namespace TP
open PySem PySem.Spec PyProof.Rows L2
section
variable {X : Cx}
/-- o.f as a target -/
def gFld (K : PySem.W.Frag) (ta : TE) (f : Str) : TG := fun v σ H Q => ta σ H fun x H1 => ∃ a C dx fs, x = .ref a ∧ H1 a = some (.ins C dx fs) ∧ Cls K C ∧ NoAttr K C f ∧ fs.length < 1000 ∧ Q σ (upd H1 a (.ins C dx (putF f v fs)))
theorem pg_fld {o : Expr} {ta : TE} {f : Str} {pos : Pos} (ha : PE X o ta) : PG X (.Attribute o f pos) (gFld X.K ta f) := by
  refine ⟨fun pins s σ H v u Q I r h => ?_⟩
  rw [arm_assign_Attribute]
  refine wpAny_bind (wpAny_holding (thn (ha.run pins s σ H _ I h) fun ov z ⟨x, H1, I1, rx, a, C, dx, fs, ex, ea, c, n, l, q⟩ => ?_))
  subst ex
  obtain rfl : ov = Value.ref a := rx
  refine wpAny_bind (wpAny_standAt (wpAny_bind (wpAny_holding (setattr_ok I1 ea c n l r fun z2 I2 => wpAny_release ⟨σ, _, I2, q⟩))))
theorem ip_mul : PIp X .Mult (rI CMul fun i j => .int (i * j)) := fun pins s σ H x y v u Q I r1 r2 h => iop_mul pins s σ H x y v u Q I r1 r2 h

/-- a dict of tuple keys by a comprehension over what J walks -/
theorem dcT_it {J : It} {n : Nat} {G : Hp → Prop} {Y : Nat → Hp → V → Hp → Prop} (w : Walk J n G Y) {g : TG} {tk tv : TE} {vs : List Nat} {σ : L2.St} {H1 : Hp} {D : Addr} {Qd : Hp → Prop} (Pv : Nat → Hp → Prop) (h0 : Pv 0 (upd H1 D (.dT []))) (hG : ∀ i H, i ≤ n → Pv i H → G H)
    (hs : ∀ i x H H', i < n → Pv i H → Y i H x H' → g x (wipe σ vs) H' fun σ2 H2 => wipe σ2 vs = wipe σ vs ∧
      tk σ2 H2 fun y H4 => tv σ2 H4 fun z H5 => ∃ (kvs : List (List Key × V)) (k : List Key) (b : Addr), y = .ref b ∧ H5 b = some (.tup (k.map kV)) ∧ H5 D = some (.dT kvs) ∧ kvs.length < sizeLine ∧ Pv (i + 1) (upd H5 D (.dT (putK kvs k z)))) (hd : ∀ H, Pv n H → Qd H) :
    ∃ W : Nat → Nat → Hp → Prop, (∃ m, W 0 m (upd H1 D (.dT []))) ∧ ∀ i m H, W i m H →
      (J.stop i H ∧ Qd H) ∨ (J.go i H ∧ ∃ Nx : Hp → Prop, (∀ H', Nx H' → ∃ m', m' < m ∧ W (i + 1) m' H') ∧ ∀ x H', J.yld i H x H' → g x (wipe σ vs) H' fun σ2 H2 => wipe σ2 vs = wipe σ vs ∧
        tk σ2 H2 fun y H4 => tv σ2 H4 fun z H5 => ∃ (kvs : List (List Key × V)) (k : List Key) (b : Addr), y = .ref b ∧ H5 b = some (.tup (k.map kV)) ∧ H5 D = some (.dT kvs) ∧ kvs.length < sizeLine ∧ Nx (upd H5 D (.dT (putK kvs k z)))) := by
  refine ⟨fun i m H => m = n - i ∧ i ≤ n ∧ Pv i H, ⟨n, by simp, Nat.zero_le _, h0⟩, ?_⟩
  rintro i m H ⟨rfl, hi, p⟩
  have q := hG i H hi p
  by_cases lt : i < n
  · exact .inr ⟨w.goes i H lt q, Pv (i + 1), fun H' p' => ⟨n - (i + 1), by omega, rfl, lt, p'⟩, fun x H' y => hs i x H H' lt p (w.yields i H x H' lt q y)⟩
  · obtain rfl : i = n := by omega
    exact .inl ⟨w.stops H q, hd H p⟩
/-- a dict of int keys by a comprehension over what J walks -/
theorem dcK_it {J : It} {n : Nat} {G : Hp → Prop} {Y : Nat → Hp → V → Hp → Prop} (w : Walk J n G Y) {g : TG} {tt : TT} {tk tv : TE} {vs : List Nat} {σ : L2.St} {H1 : Hp} {D : Addr} {Qd : Hp → Prop} (Pv : Nat → Hp → Prop) (h0 : Pv 0 (upd H1 D (.dK []))) (hG : ∀ i H, i ≤ n → Pv i H → G H)
    (hs : ∀ i x H H', i < n → Pv i H → Y i H x H' → g x (wipe σ vs) H' fun σ2 H2 => wipe σ2 vs = wipe σ vs ∧ tt σ2 H2 fun b H3 =>
      if b = true then tk σ2 H3 fun y H4 => tv σ2 H4 fun z H5 => ∃ kvs k, y = kV k ∧ H5 D = some (.dK kvs) ∧ kvs.length < sizeLine ∧ Pv (i + 1) (upd H5 D (.dK (putK kvs k z))) else Pv (i + 1) H3) (hd : ∀ H, Pv n H → Qd H) :
    ∃ W : Nat → Nat → Hp → Prop, (∃ m, W 0 m (upd H1 D (.dK []))) ∧ ∀ i m H, W i m H →
      (J.stop i H ∧ Qd H) ∨ (J.go i H ∧ ∃ Nx : Hp → Prop, (∀ H', Nx H' → ∃ m', m' < m ∧ W (i + 1) m' H') ∧ ∀ x H', J.yld i H x H' → g x (wipe σ vs) H' fun σ2 H2 => wipe σ2 vs = wipe σ vs ∧ tt σ2 H2 fun b H3 =>
        if b = true then tk σ2 H3 fun y H4 => tv σ2 H4 fun z H5 => ∃ kvs k, y = kV k ∧ H5 D = some (.dK kvs) ∧ kvs.length < sizeLine ∧ Nx (upd H5 D (.dK (putK kvs k z))) else Nx H3) := by
  refine ⟨fun i m H => m = n - i ∧ i ≤ n ∧ Pv i H, ⟨n, by simp, Nat.zero_le _, h0⟩, ?_⟩
  rintro i m H ⟨rfl, hi, p⟩
  have q := hG i H hi p
  by_cases lt : i < n
  · exact .inr ⟨w.goes i H lt q, Pv (i + 1), fun H' p' => ⟨n - (i + 1), by omega, rfl, lt, p'⟩, fun x H' y => hs i x H H' lt p (w.yields i H x H' lt q y)⟩
  · obtain rfl : i = n := by omega
    exact .inl ⟨w.stops H q, hd H p⟩
/-- two for clauses: the outer -/
theorem lc2_it {J : It} {n : Nat} {G : Hp → Prop} {Y : Nat → Hp → V → Hp → Prop} (w : Walk J n G Y) {g : TG} {tt : TT} {wi1 : TI} {g1 : TG} {tt1 : TT} {te : TE} {vs vs1 : List Nat} {σ : L2.St} {H1 : Hp} {D : Addr} {Qd : Hp → Prop} (Pv : Nat → Hp → Prop) (h0 : Pv 0 (upd H1 D (.lst []))) (hG : ∀ i H, i ≤ n → Pv i H → G H)
    (hs : ∀ i x H H', i < n → Pv i H → Y i H x H' → g x (wipe σ vs) H' fun σ2 H2 => wipe σ2 vs = wipe σ vs ∧ tt σ2 H2 fun b H3 => if b = true then wi1 σ2 H3 fun J1 H4 => ∃ W1 : Nat → Nat → Hp → Prop, (∃ m, W1 0 m H4) ∧ ∀ j k H, W1 j k H →
      (J1.stop j H ∧ Pv (i + 1) H) ∨ (J1.go j H ∧ ∃ Nx1 : Hp → Prop, (∀ H', Nx1 H' → ∃ k', k' < k ∧ W1 (j + 1) k' H') ∧ ∀ x H', J1.yld j H x H' → g1 x (wipe σ2 vs1) H' fun σ3 H5 => wipe σ3 vs1 = wipe σ2 vs1 ∧ tt1 σ3 H5 fun b H6 =>
        if b = true then te σ3 H6 fun y H7 => ∃ acc, H7 D = some (.lst acc) ∧ acc.length < sizeLine ∧ Nx1 (upd H7 D (.lst (acc ++ [y]))) else Nx1 H6) else Pv (i + 1) H3) (hd : ∀ H, Pv n H → Qd H) :
    ∃ W : Nat → Nat → Hp → Prop, (∃ m, W 0 m (upd H1 D (.lst []))) ∧ ∀ i m H, W i m H → (J.stop i H ∧ Qd H) ∨ (J.go i H ∧ ∃ Nx : Hp → Prop, (∀ H', Nx H' → ∃ m', m' < m ∧ W (i + 1) m' H') ∧ ∀ x H', J.yld i H x H' →
      g x (wipe σ vs) H' fun σ2 H2 => wipe σ2 vs = wipe σ vs ∧ tt σ2 H2 fun b H3 => if b = true then wi1 σ2 H3 fun J1 H4 => ∃ W1 : Nat → Nat → Hp → Prop, (∃ m, W1 0 m H4) ∧ ∀ j k H, W1 j k H →
        (J1.stop j H ∧ Nx H) ∨ (J1.go j H ∧ ∃ Nx1 : Hp → Prop, (∀ H', Nx1 H' → ∃ k', k' < k ∧ W1 (j + 1) k' H') ∧ ∀ x H', J1.yld j H x H' → g1 x (wipe σ2 vs1) H' fun σ3 H5 => wipe σ3 vs1 = wipe σ2 vs1 ∧ tt1 σ3 H5 fun b H6 =>
          if b = true then te σ3 H6 fun y H7 => ∃ acc, H7 D = some (.lst acc) ∧ acc.length < sizeLine ∧ Nx1 (upd H7 D (.lst (acc ++ [y]))) else Nx1 H6) else Nx H3) := by
  refine ⟨fun i m H => m = n - i ∧ i ≤ n ∧ Pv i H, ⟨n, by simp, Nat.zero_le _, h0⟩, ?_⟩
  rintro i m H ⟨rfl, hi, p⟩
  have q := hG i H hi p
  by_cases lt : i < n
  · exact .inr ⟨w.goes i H lt q, Pv (i + 1), fun H' p' => ⟨n - (i + 1), by omega, rfl, lt, p'⟩, fun x H' y => hs i x H H' lt p (w.yields i H x H' lt q y)⟩
  · obtain rfl : i = n := by omega
    exact .inl ⟨w.stops H q, hd H p⟩
/-- .. the inner -/
theorem lc2in_it {J1 : It} {n : Nat} {G : Hp → Prop} {Y : Nat → Hp → V → Hp → Prop} (w : Walk J1 n G Y) {g1 : TG} {tt1 : TT} {te : TE} {vs1 : List Nat} {σ2 : L2.St} {H4 : Hp} {D : Addr} {Nx : Hp → Prop} (Pv : Nat → Hp → Prop) (h0 : Pv 0 H4) (hG : ∀ i H, i ≤ n → Pv i H → G H)
    (hs : ∀ i x H H', i < n → Pv i H → Y i H x H' → g1 x (wipe σ2 vs1) H' fun σ3 H5 => wipe σ3 vs1 = wipe σ2 vs1 ∧ tt1 σ3 H5 fun b H6 =>
        if b = true then te σ3 H6 fun y H7 => ∃ acc, H7 D = some (.lst acc) ∧ acc.length < sizeLine ∧ Pv (i + 1) (upd H7 D (.lst (acc ++ [y]))) else Pv (i + 1) H6) (hd : ∀ H, Pv n H → Nx H) :
    ∃ W1 : Nat → Nat → Hp → Prop, (∃ m, W1 0 m H4) ∧ ∀ j k H, W1 j k H →
        (J1.stop j H ∧ Nx H) ∨ (J1.go j H ∧ ∃ Nx1 : Hp → Prop, (∀ H', Nx1 H' → ∃ k', k' < k ∧ W1 (j + 1) k' H') ∧ ∀ x H', J1.yld j H x H' → g1 x (wipe σ2 vs1) H' fun σ3 H5 => wipe σ3 vs1 = wipe σ2 vs1 ∧ tt1 σ3 H5 fun b H6 =>
          if b = true then te σ3 H6 fun y H7 => ∃ acc, H7 D = some (.lst acc) ∧ acc.length < sizeLine ∧ Nx1 (upd H7 D (.lst (acc ++ [y]))) else Nx1 H6) := by
  refine ⟨fun i m H => m = n - i ∧ i ≤ n ∧ Pv i H, ⟨n, by simp, Nat.zero_le _, h0⟩, ?_⟩
  rintro i m H ⟨rfl, hi, p⟩
  have q := hG i H hi p
  by_cases lt : i < n
  · exact .inr ⟨w.goes i H lt q, Pv (i + 1), fun H' p' => ⟨n - (i + 1), by omega, rfl, lt, p'⟩, fun x H' y => hs i x H H' lt p (w.yields i H x H' lt q y)⟩
  · obtain rfl : i = n := by omega
    exact .inl ⟨w.stops H q, hd H p⟩
end
end TP
set_option Elab.async false
set_option linter.all false
set_option maxRecDepth 100000
set_option maxHeartbeats 4000000
/-! The rules with the written part K given, for use within a comprehension's block. -/
namespace TP
open PySem PySem.Spec PyProof.Rows L2
section
variable {X : Cx} (K : PySem.W.Frag)
theorem pi_tupK {tg l : Expr} {tl : TE} (hl : PE X l tl) (hK : X.K = K := by rfl) : PI X tg l (iTup K tl) := by subst hK; exact pi_tup hl
theorem pi_listK {tg l : Expr} {tl : TE} (hl : PE X l tl) (hK : X.K = K := by rfl) : PI X tg l (iList K tl) := by subst hK; exact pi_list hl
theorem ix_tupK (hK : X.K = K := by rfl) : IxR X (rIxT K) := by subst hK; exact ix_tup
theorem ix_listK (hK : X.K = K := by rfl) : IxR X (rIxL K) := by subst hK; exact ix_list
def rLenS (K : PySem.W.Frag) : List V → Hp → VK → Prop := fun xs H Q => ∃ p ys, xs = [.ref p] ∧ (SqL K H p ys ∨ SqT K H p ys) ∧ Q (.int ys.length) H
theorem len_K (hK : X.K = K := by rfl) : CallR X (.builtin "len") (rLenS K) := by subst hK; exact call_len_seq
def rTupOf (K : PySem.W.Frag) : List V → Hp → VK → Prop := fun xs H Q => ∃ p ys, xs = [.ref p] ∧ ((SqL K H p ys ∧ ∀ l, H l = none → Q (.ref l) (upd H l (.tup ys))) ∨ (SqT K H p ys ∧ Q (.ref p) H))
theorem tup_K (hK : X.K = K := by rfl) : CallR X (.type "tuple") (rTupOf K) := by subst hK; exact call_tuple_of
theorem eqD_K (hu : X.A.units + 64 < cLine) (hK : X.K = K := by rfl) : OpR X (compareOp .Eq) (rEqD K) := by subst hK; exact op_eqD hu
theorem neD_K (hu : X.A.units + 64 < cLine) (hK : X.K = K := by rfl) : OpR X (compareOp .NotEq) (rNeD K) := by subst hK; exact op_neD hu
theorem catT_K (hK : X.K = K := by rfl) : OpR X (binaryOp .Add) (rCatT K) := by subst hK; exact op_catT
theorem sl_tupK (hK : X.K = K := by rfl) : SlR X (rSlT K) := by subst hK; exact sl_tup
theorem sl_listK (hK : X.K = K := by rfl) : SlR X (rSlL K) := by subst hK; exact sl_list
theorem pe_fldK {e : Expr} {ta : TE} {f : Str} {pos : Pos} (he : PE X e ta) (hb : attributeBase e f X.env (eval e X.env) = eval e X.env := by rfl) (hK : X.K = K := by rfl) : PE X (.Attribute e f pos) (tFld K ta f) := by subst hK; exact pe_fld he hb
theorem leT_K (hu : X.A.units < cLine) (hK : X.K = K := by rfl) : OpR X (compareOp .LtE) (rLeT K) := by subst hK; exact op_leT hu
theorem notin_K (hK : X.K = K := by rfl) : OpR X (compareOp .NotIn) (rIn K true) := by subst hK; exact op_notIn_seq
theorem max_K (hc : X.calm = true) (hK : X.K = K := by rfl) : CallR X (.builtin "max") (rMax K) := by subst hK; exact cr_max hc
theorem min_K (hc : X.calm = true) (hK : X.K = K := by rfl) : CallR X (.builtin "min") (rMin K) := by subst hK; exact cr_min hc
theorem pg_tupK {es : List Expr} {k : Nat} {t : TGs} {n : Nat} {pos : Pos} (hc : X.calm = true) (h : PGs X es t) (hn : (assignEach es X.env).length = n := by rfl) (hst : (assignEach es X.env).findIdx? (·.1) = none := by rfl) (hK : X.K = K := by rfl) : PG X (.Tuple es k pos) (gTup K n t) := by subst hK; exact pg_tup hc h hn hst
theorem isiT_K (hK : X.K = K := by rfl) : CallR X (.builtin "isinstance") (rIsiT K) := by subst hK; exact call_isiT
end
end TP
section
set_option autoImplicit false
/-! The mathematics: machines with a tape, the walker's run on a row, papers of streets. Plain Lean. -/
namespace TP

abbrev Rule := Option (Int × Int × Int)
abbrev Mach := List (List Rule)

/-- the rule for a state and a sign -/
def rl (M : Mach) (q c : Int) : Rule := ((M[q.toNat]?).bind fun r => r[c.toNat]?).getD none

structure Good (M : Mach) (S G : Nat) : Prop where
  len : M.length = S
  row : ∀ (i : Nat) (r : List Rule), M[i]? = some r → r.length = G
  rule : ∀ (i j : Nat) (r : List Rule) (w m q : Int), M[i]? = some r → r[j]? = some (some (w, m, q)) → (0 ≤ w ∧ w < G) ∧ (m = 1 ∨ m = -1) ∧ (0 ≤ q ∧ q < S)
  s1 : 1 ≤ S
  s2 : S ≤ 2
  g1 : 2 ≤ G
  g2 : G ≤ 3

structure Cfg where
  f : Int → Int
  x : Int
  q : Int
  b : Bool

def setF (f : Int → Int) (x v : Int) : Int → Int := fun z => if z = x then v else f z
theorem setF_same (f : Int → Int) (x v : Int) : setF f x v x = v := if_pos rfl
theorem setF_ne (f : Int → Int) {x z : Int} (v : Int) (h : z ≠ x) : setF f x v z = f z := if_neg h

def stepC (M : Mach) (c : Cfg) : Option Cfg :=
  match rl M c.q (c.f c.x) with
  | none => none
  | some (w, m, q) => some ⟨setF c.f c.x w, c.x + m, q, decide (m ≠ 1)⟩

theorem stepC_none {M : Mach} {c : Cfg} (h : rl M c.q (c.f c.x) = none) : stepC M c = none := by
  unfold stepC; rw [h]
theorem stepC_some {M : Mach} {c : Cfg} {w m q : Int} (h : rl M c.q (c.f c.x) = some (w, m, q)) : stepC M c = some ⟨setF c.f c.x w, c.x + m, q, decide (m ≠ 1)⟩ := by
  unfold stepC; rw [h]
theorem rl_of_step {M : Mach} {c d : Cfg} (h : stepC M c = some d) : ∃ w m q, rl M c.q (c.f c.x) = some (w, m, q) ∧ d = ⟨setF c.f c.x w, c.x + m, q, decide (m ≠ 1)⟩ := by
  unfold stepC at h
  cases e : rl M c.q (c.f c.x) with
  | none => rw [e] at h; cases h
  | some t =>
    obtain ⟨w, m, q⟩ := t
    rw [e] at h
    exact ⟨w, m, q, rfl, (Option.some.inj h).symm⟩
theorem rl_of_stop {M : Mach} {c : Cfg} (h : stepC M c = none) : rl M c.q (c.f c.x) = none := by
  unfold stepC at h
  cases e : rl M c.q (c.f c.x) with
  | none => rfl
  | some t => obtain ⟨w, m, q⟩ := t; rw [e] at h; cases h

/-- n steps, all done -/
def runC (M : Mach) (c : Cfg) : Nat → Option Cfg
  | 0 => some c
  | n + 1 => (runC M c n).bind (stepC M)
theorem runC_zero (M : Mach) (c : Cfg) : runC M c 0 = some c := rfl
theorem runC_succ {M : Mach} {c d : Cfg} {n : Nat} (h : runC M c n = some d) : runC M c (n + 1) = stepC M d := by
  show (runC M c n).bind (stepC M) = _
  rw [h]; rfl
theorem runC_add (M : Mach) (c : Cfg) (a : Nat) : ∀ {d : Cfg} (b : Nat), runC M c a = some d → runC M c (a + b) = runC M d b
  | d, 0, h => h
  | d, b + 1, h => by
    show (runC M c (a + b)).bind (stepC M) = (runC M d b).bind (stepC M)
    rw [runC_add M c a b h]
theorem runC_pre {M : Mach} {c d : Cfg} {n : Nat} (h : runC M c n = some d) : ∀ (k : Nat), k ≤ n → ∃ e, runC M c k = some e := by
  induction n generalizing d with
  | zero => intro k hk; exact ⟨c, by rw [Nat.le_zero.mp hk]; rfl⟩
  | succ n ih =>
    intro k hk
    have h' : (runC M c n).bind (stepC M) = some d := h
    cases e : runC M c n with
    | none => rw [e] at h'; cases h'
    | some d' =>
      by_cases hkn : k ≤ n
      · exact ih e k hkn
      · have : k = n + 1 := by omega
        subst this
        exact ⟨d, h⟩
theorem runC_split {M : Mach} {c d : Cfg} {n : Nat} (h : runC M c (n + 1) = some d) : ∃ e, runC M c n = some e ∧ stepC M e = some d := by
  obtain ⟨e, he⟩ := runC_pre h n (Nat.le_succ n)
  refine ⟨e, he, ?_⟩
  rw [← runC_succ he]; exact h
/-- it can't stop ahead of a step that is done -/
theorem runC_going {M : Mach} {c d e : Cfg} {n k : Nat} (h : runC M c n = some d) (hk : k < n) (he : runC M c k = some e) : ∃ e', stepC M e = some e' := by
  obtain ⟨e', h'⟩ := runC_pre h (k + 1) hk
  rw [runC_succ he] at h'
  exact ⟨e', h'⟩

/-- at most many steps, to a stop: n done, ending at d -/
structure Ends (M : Mach) (c : Cfg) (many n : Nat) (d : Cfg) : Prop where
  le : n ≤ many
  run : runC M c n = some d
  fin : n = many ∨ stepC M d = none
theorem Ends.uniq {M : Mach} {c d e : Cfg} {many n k : Nat} (a : Ends M c many n d) (b : Ends M c many k e) : n = k ∧ d = e := by
  have main : ∀ {n k : Nat} {d e : Cfg}, Ends M c many n d → Ends M c many k e → ¬ n < k := by
    intro n k d e a b h
    obtain ⟨d', hd⟩ := runC_going b.run h a.run
    rcases a.fin with z | z
    · have := b.le; omega
    · rw [z] at hd; cases hd
  have h1 := main a b
  have h2 := main b a
  have : n = k := by omega
  subst this
  refine ⟨rfl, ?_⟩
  have := a.run.symm.trans b.run
  exact Option.some.inj this
theorem Ends.exact {M : Mach} {c d : Cfg} {n : Nat} (h : runC M c n = some d) : Ends M c n n d := ⟨Nat.le_refl _, h, .inl rfl⟩
theorem ends_ex (M : Mach) (c : Cfg) (many : Nat) : ∃ n d, Ends M c many n d := by
  induction many with
  | zero => exact ⟨0, c, Nat.le_refl _, rfl, .inl rfl⟩
  | succ many ih =>
    obtain ⟨n, d, a⟩ := ih
    rcases a.fin with z | z
    · subst z
      cases e : stepC M d with
      | none => exact ⟨n, d, Nat.le_succ _, a.run, .inr e⟩
      | some d' => exact ⟨n + 1, d', Nat.le_refl _, by rw [runC_succ a.run]; exact e, .inl rfl⟩
    · exact ⟨n, d, Nat.le_trans a.le (Nat.le_succ _), a.run, .inr z⟩

/-! ### the run does not look at the direction; bounds -/
theorem run_x {M : Mach} (hM : ∀ q c w m q', rl M q c = some (w, m, q') → m = 1 ∨ m = -1) {c : Cfg} : ∀ (n : Nat) {d : Cfg}, runC M c n = some d → c.x - n ≤ d.x ∧ d.x ≤ c.x + n
  | 0, d, h => by
    have : c = d := Option.some.inj h
    subst this
    omega
  | n + 1, d, h => by
    obtain ⟨e, he, hs⟩ := runC_split h
    have ih := run_x hM n he
    obtain ⟨w, m, q, hr, rfl⟩ := rl_of_step hs
    have := hM _ _ _ _ _ hr
    show c.x - ((n + 1 : Nat) : Int) ≤ e.x + m ∧ e.x + m ≤ c.x + ((n + 1 : Nat) : Int)
    omega

/-! ### streets -/
/-- least k from 1 on with P + k m in K; none if there is none -/
def Next (K : Int → Prop) (m P : Int) : Option Nat → Prop
  | some k => 1 ≤ k ∧ K (P + (k : Int) * m) ∧ ∀ j : Nat, 1 ≤ j → j < k → ¬ K (P + (j : Int) * m)
  | none => ∀ j : Nat, 1 ≤ j → ¬ K (P + (j : Int) * m)
theorem Next.uniq {K : Int → Prop} {m P : Int} : ∀ {o o' : Option Nat}, Next K m P o → Next K m P o' → o = o'
  | none, none, _, _ => rfl
  | none, some k, a, b => absurd b.2.1 (a k b.1)
  | some k, none, a, b => absurd a.2.1 (b k a.1)
  | some k, some k', a, b => by
    have h1 : ¬ k < k' := fun h => b.2.2 k a.1 h a.2.1
    have h2 : ¬ k' < k := fun h => a.2.2 k' b.1 h b.2.1
    rw [show k = k' by omega]
/-- the floor has P's colour at P moved, ahead of the next treading -/
def Free (f : Int → Int) (m P : Int) : Option Nat → Prop
  | some k => ∀ j : Nat, j < k → f (P + (j : Int) * m) = f P
  | none => ∀ j : Nat, f (P + (j : Int) * m) = f P
def OkAt (f left : Int → Int) (K : Int → Prop) (m P : Int) : Prop := ∀ o, Next K m P o → Free f m P o ∧ ∀ k, o = some k → left (P + (k : Int) * m) = f P
theorem okAt_iff {f left : Int → Int} {K : Int → Prop} {m P : Int} {o : Option Nat} (h : Next K m P o) : OkAt f left K m P ↔ (Free f m P o ∧ ∀ k, o = some k → left (P + (k : Int) * m) = f P) :=
  ⟨fun a => a o h, fun a o' h' => by rw [h'.uniq h]; exact a⟩
/-- trodden in the first p steps -/
def Trod (M : Mach) (c : Cfg) (p : Nat) (P : Int) : Prop := ∃ i ci, i < p ∧ runC M c i = some ci ∧ ci.x = P
structure Street (M : Mach) (c : Cfg) (p : Nat) (cp : Cfg) : Prop where
  run : runC M c p = some cp
  q : cp.q = c.q
  b : cp.b = c.b
  m : cp.x - c.x ≠ 0
  ok : ∀ P, Trod M c p P → OkAt c.f cp.f (Trod M c p) (cp.x - c.x) P

section
variable {M : Mach} {c cp : Cfg} {p : Nat}
theorem next_ex (K : Int → Prop) (m P : Int) : ∃ o, Next K m P o := by
  by_cases h : ∃ j : Nat, 1 ≤ j ∧ K (P + (j : Int) * m)
  · obtain ⟨j, hj⟩ := h
    have : ∀ n j : Nat, j ≤ n → (1 ≤ j ∧ K (P + (j : Int) * m)) → ∃ o, Next K m P o := by
      intro n
      induction n with
      | zero => intro j h0 h1; omega
      | succ n ih =>
        intro j hjn hj
        by_cases h2 : ∃ i : Nat, i < j ∧ 1 ≤ i ∧ K (P + (i : Int) * m)
        · obtain ⟨i, h3, h4⟩ := h2
          exact ih i (by omega) h4
        · exact ⟨some j, hj.1, hj.2, fun i h5 h6 h7 => h2 ⟨i, h6, h5, h7⟩⟩
    exact this j j (Nat.le_refl _) hj
  · exact ⟨none, fun j h1 h2 => h ⟨j, h1, h2⟩⟩
/-- squares off the trodden ones stay -/
theorem off_keeps : ∀ (n : Nat) {d : Cfg}, runC M c n = some d → ∀ Z, ¬ Trod M c n Z → d.f Z = c.f Z
  | 0, d, h, Z, _ => by
    have : c = d := Option.some.inj h
    rw [this]
  | n + 1, d, h, Z, hz => by
    obtain ⟨e, he, hs⟩ := runC_split h
    obtain ⟨w, m, q, hr, rfl⟩ := rl_of_step hs
    have h1 : ¬ Trod M c n Z := fun ⟨i, ci, hi, hc, hx⟩ => hz ⟨i, ci, Nat.lt_succ_of_lt hi, hc, hx⟩
    have h2 : Z ≠ e.x := fun z => hz ⟨n, e, Nat.lt_succ_self n, he, z.symm⟩
    show setF e.f e.x w Z = c.f Z
    rw [setF_ne _ _ h2]
    exact off_keeps n he Z h1
/-- a walk from a stand that is alike on the trodden squares, moved by t, is the same walk moved -/
theorem moved_run {c' : Cfg} {t : Int} {p : Nat} {cp : Cfg} (hp : runC M c p = some cp) (hx : c'.x = c.x + t) (hq : c'.q = c.q) (hb : c'.b = c.b) (hf : ∀ P, Trod M c p P → c'.f (P + t) = c.f P) :
    ∀ (i : Nat) {ci : Cfg}, i ≤ p → runC M c i = some ci → ∃ di, runC M c' i = some di ∧ di.x = ci.x + t ∧ di.q = ci.q ∧ di.b = ci.b ∧ (∀ P, Trod M c p P → di.f (P + t) = ci.f P) ∧ ∀ Z, ¬ Trod M c p (Z - t) → di.f Z = c'.f Z
  | 0, ci, _, h => by
    have : c = ci := Option.some.inj h
    subst this
    exact ⟨c', rfl, hx, hq, hb, hf, fun _ _ => rfl⟩
  | i + 1, ci, hi, h => by
    obtain ⟨e, he, hs⟩ := runC_split h
    obtain ⟨d, hd, dx, dq, db, df, dz⟩ := moved_run hp hx hq hb hf i (by omega) he
    obtain ⟨w, m, q, hr, rfl⟩ := rl_of_step hs
    have ht : Trod M c p e.x := ⟨i, e, by omega, he, rfl⟩
    have hr' : rl M d.q (d.f d.x) = some (w, m, q) := by rw [dq, dx, df _ ht]; exact hr
    refine ⟨_, (runC_succ hd).trans (stepC_some hr'), ?_, rfl, rfl, fun P hP => ?_, fun Z hZ => ?_⟩
    · show d.x + m = e.x + m + t
      omega
    · show setF d.f d.x w (P + t) = setF e.f e.x w P
      by_cases hPe : P = e.x
      · rw [hPe, dx, setF_same, setF_same]
      · rw [setF_ne _ _ hPe, setF_ne _ _ (by omega)]
        exact df P hP
    · show setF d.f d.x w Z = c'.f Z
      have : Z ≠ d.x := fun z => hZ (by rw [show Z - t = e.x by omega]; exact ht)
      rw [setF_ne _ _ this]
      exact dz Z hZ

/-- what the floor is behind n rounds -/
structure Behind (M : Mach) (c : Cfg) (p : Nat) (cp : Cfg) (n : Nat) (d : Cfg) : Prop where
  run : runC M c (n * p) = some d
  x : d.x = c.x + (n : Int) * (cp.x - c.x)
  q : d.q = c.q
  b : d.b = c.b
  trod : ∀ (Z : Int) (j : Nat), j < n → Trod M c p (Z - (j : Int) * (cp.x - c.x)) → (∀ j' : Nat, j < j' → j' < n → ¬ Trod M c p (Z - (j' : Int) * (cp.x - c.x))) → d.f Z = cp.f (Z - (j : Int) * (cp.x - c.x))
  free : ∀ Z : Int, (∀ j : Nat, j < n → ¬ Trod M c p (Z - (j : Int) * (cp.x - c.x))) → d.f Z = c.f Z

theorem Behind.alike (S : Street M c p cp) {n : Nat} {d : Cfg} (B : Behind M c p cp n d) (P : Int) (hP : Trod M c p P) : d.f (P + (n : Int) * (cp.x - c.x)) = c.f P := by
  generalize hm : cp.x - c.x = m at *
  obtain ⟨o, ho⟩ := next_ex (Trod M c p) m P
  have ok := S.ok P hP
  rw [hm] at ok
  obtain ⟨fr, lf⟩ := ok o ho
  have tr := B.trod (P + (n : Int) * m)
  have fe := B.free (P + (n : Int) * m)
  rw [hm] at tr fe
  have mv : ∀ j : Nat, j ≤ n → P + (n : Int) * m - (j : Int) * m = P + ((n - j : Nat) : Int) * m := fun j hj => by
    rw [Int.ofNat_sub hj, Int.sub_mul]; omega
  match o, ho, fr, lf with
  | some k, ho, fr, lf =>
    by_cases hk : k ≤ n
    · have e1 := tr (n - k) (by have := ho.1; omega) (by rw [mv _ (by omega), show n - (n - k) = k by omega]; exact ho.2.1)
        (fun j' h1 h2 h3 => ho.2.2 (n - j') (by omega) (by omega) (by rw [mv _ (by omega)] at h3; exact h3))
      rw [e1, mv _ (by omega), show n - (n - k) = k by omega]
      exact lf k rfl
    · rw [fe fun j h1 h2 => ho.2.2 (n - j) (by omega) (by omega) (by rw [mv _ (by omega)] at h2; exact h2)]
      exact fr n (by omega)
  | none, ho, fr, lf =>
    rw [fe fun j h1 h2 => ho (n - j) (by omega) (by rw [mv _ (by omega)] at h2; exact h2)]
    exact fr n

theorem Behind.next (S : Street M c p cp) {n : Nat} {d : Cfg} (B : Behind M c p cp n d) : ∃ d', Behind M c p cp (n + 1) d' := by
  have al := B.alike S
  obtain ⟨d', hr, dx, dq, db, df, dz⟩ := moved_run S.run B.x B.q B.b al p (Nat.le_refl _) S.run
  refine ⟨d', ⟨?_, ?_, ?_, ?_, ?_, ?_⟩⟩
  · rw [Nat.succ_mul, runC_add M c (n * p) p B.run]; exact hr
  · rw [dx, Int.natCast_succ, Int.add_mul]; omega
  · rw [dq]; exact S.q
  · rw [db]; exact S.b
  · intro Z j hj ht hn
    by_cases hjn : j = n
    · subst hjn
      have e := df _ ht
      rw [show Z - (j : Int) * (cp.x - c.x) + (j : Int) * (cp.x - c.x) = Z by omega] at e
      exact e
    · have h1 : ¬ Trod M c p (Z - (n : Int) * (cp.x - c.x)) := hn n (by omega) (Nat.lt_succ_self n)
      rw [dz Z h1]
      exact B.trod Z j (by omega) ht fun j' h2 h3 => hn j' h2 (by omega)
  · intro Z hn
    rw [dz Z (hn n (Nat.lt_succ_self n))]
    exact B.free Z fun j hj => hn j (by omega)

theorem Street.behind (S : Street M c p cp) : ∀ n : Nat, ∃ d, Behind M c p cp n d
  | 0 => ⟨c, by rw [Nat.zero_mul]; rfl, by omega, rfl, rfl, fun Z j h => absurd h (Nat.not_lt_zero j), fun _ _ => rfl⟩
  | n + 1 => by
    obtain ⟨d, B⟩ := S.behind n
    exact B.next S

/-- THE STREET: the walk goes on for ever, each round moved on -/
theorem Street.told (S : Street M c p cp) (n i : Nat) (hi : i ≤ p) {ci : Cfg} (h : runC M c i = some ci) : ∃ d, runC M c (n * p + i) = some d ∧ d.x = ci.x + (n : Int) * (cp.x - c.x) ∧ d.q = ci.q ∧ d.b = ci.b := by
  obtain ⟨d, B⟩ := S.behind n
  obtain ⟨di, hr, dx, dq, db, _, _⟩ := moved_run S.run B.x B.q B.b (B.alike S) i hi h
  exact ⟨di, by rw [runC_add M c (n * p) i B.run]; exact hr, dx, dq, db⟩
end

/-! ### rounds -/
theorem round_told {M : Mach} {c d : Cfg} {p : Nat} (h : runC M c p = some d) (e : d = c) : ∀ (n : Nat), runC M c n = runC M c (n % p) := by
  subst e
  intro n
  have key : ∀ k r : Nat, runC M d (k * p + r) = runC M d r := by
    intro k r
    induction k with
    | zero => rw [Nat.zero_mul, Nat.zero_add]
    | succ k ih => rw [Nat.succ_mul, Nat.add_right_comm, Nat.add_comm, runC_add M d p _ h]; exact ih
  have := key (n / p) (n % p)
  rw [Nat.mul_comm, Nat.div_add_mod] at this
  exact this
end TP
end
set_option Elab.async false
set_option linter.all false
set_option maxRecDepth 100000
set_option maxHeartbeats 4000000
namespace TP
open PySem PySem.Spec PyProof.Rows L2

/-! ### the text -/
def top (i : Nat) : Stmt := PySem.Challenge.pw_streetpapers_k27_whole_tapes.main.body.getD i (.Pass ⟨0, 0, 0, 0⟩)
abbrev meth (i j : Nat) : Stmt := inClass (top i) j

/-! ### what the top has written -/
/-- a constant of the module -/
def Cst (mg : Str → Option Value) (x : Str) (v : V) : Prop := ∃ u, mg x = some u ∧ RelV v u
structure Txt (K : PySem.W.Frag) (mg : Str → Option Value) (CW CR CS CT CF : Addr) : Prop where
  len : mg "len" = none
  isi : mg "isinstance" = none
  tuple : mg "tuple" = none
  int : mg "int" = none
  bool : mg "bool" = none
  str : mg "str" = none
  list : mg "list" = none
  dict : mg "dict" = none
  sorted : mg "sorted" = none
  enum : mg "enumerate" = none
  range : mg "range" = none
  max : mg "max" = none
  min : mg "min" = none
  abs : mg "abs" = none
  cStT : Cst mg "MOST_STATES_tables" (.int 10)
  cCol : Cst mg "MOST_COLOURS" (.int 6)
  cFar : Cst mg "FAR" (.int (10 ^ 60))
  cSq : Cst mg "MOST_SQUARES" (.int 4000)
  cSteps : Cst mg "MOST_STEPS" (.int 100000)
  cStM : Cst mg "MOST_STATES_tapes" (.int 5)
  cTape : Cst mg "MOST_TAPE" (.int 400)
  cRight : Cst mg "RIGHT" (.int 1)
  cLeft : Cst mg "LEFT" (.int 3)
  cRound : Cst mg "MOST_ROUND" (.int 2000)
  cLooked : Cst mg "MOST_LOOKED" (.int 30000)
  cFirst : Cst mg "FIRST_LOOK" (.int 16)
  cHead : ∃ aH t0 t1 t2 t3 : Addr, Cst mg "HEADINGS" (.ref aH) ∧ ∀ H, SqT K H aH [.ref t0, .ref t1, .ref t2, .ref t3] ∧ SqT K H t1 [.int 1, .int 0] ∧ SqT K H t3 [.int (-1), .int 0]
  wC : Cls K CW
  wTable : NoAttr K CW "table"
  wSquares : NoAttr K CW "squares"
  wPlace : NoAttr K CW "place"
  wHeading : NoAttr K CW "heading"
  wState : NoAttr K CW "state"
  wDone : NoAttr K CW "done"
  rC : Cls K CR
  rGround : NoAttr K CR "ground"
  rPeriod : NoAttr K CR "period"
  rFirst : NoAttr K CR "first"
  rLeft : NoAttr K CR "left"
  rWays : NoAttr K CR "ways"
  rWhole : NoAttr K CR "is_whole"
  rEnd : NoAttr K CR "end"
  rMove : NoAttr K CR "move"
  rBack : NoAttr K CR "is_back"
  sC : Cls K CS
  sTable : NoAttr K CS "table"
  sRound : NoAttr K CS "round"
  tC : Cls K CT
  tTable : NoAttr K CT "table"
  tGround : NoAttr K CT "ground"
  tBegan : NoAttr K CT "began"
  tPaper : NoAttr K CT "paper"
  tFar : NoAttr K CT "far"
  fC : Cls K CF
  fTable : NoAttr K CF "table"
  fGround : NoAttr K CF "ground"
  fBegan : NoAttr K CF "began"
  fWalk : NoAttr K CF "walk"
  fRead : NoAttr K CF "read"
  fKept : NoAttr K CF "kept"
  fKeptAt : NoAttr K CF "kept_at"

/-! ### isinstance of the kinds that are met -/
inductive Kd (H : Hp) : V → String → Prop
  | non : Kd H .non "NoneType"
  | int (i : Int) : Kd H (.int i) "int"
  | str (x : Str) : Kd H (.str x) "str"
  | lst {a : Addr} {xs : List V} (h : H a = some (.lst xs)) : Kd H (.ref a) "list"
  | tup {a : Addr} {xs : List V} (h : H a = some (.tup xs)) : Kd H (.ref a) "tuple"
theorem Kd.x {K : PySem.W.Frag} {H : Hp} {v : V} {t : String} (k : Kd H v t) : TyX K H v (.type t) := by
  cases k with
  | non => exact .base .non
  | int i => exact .base (.int i)
  | str x => exact .base (.str x)
  | lst h => exact .base (.lst h)
  | tup h => exact .base (.tup h)
section
variable {X : Cx}
def rIsiB : List V → Hp → VK → Prop := fun xs H Q => ∃ (x : V) (t c : String) (b : Bool), xs = [x, .ty c] ∧ Kd H x t ∧ kitB t c = some b ∧ Q (.bl b) H
theorem call_isiB : CallR X (.builtin "isinstance") rIsiB := by
  intro pins s σ H xs us Q I r h
  obtain ⟨x, t, c, b, e, k, kb, q⟩ := h
  exact call_isi pins s σ H xs us Q I r ⟨x, .ty c, .type t, .type c, b, e, .ty c, k.x, kit_ty kb, q⟩
end
theorem k_tt : kitB "tuple" "tuple" = some true := by decide +kernel
theorem k_ii : kitB "int" "int" = some true := by decide +kernel
theorem k_ib : kitB "int" "bool" = some false := by decide +kernel
theorem k_ss : kitB "str" "str" = some true := by decide +kernel
end TP
set_option Elab.async false
set_option linter.all false
set_option maxRecDepth 100000
set_option maxHeartbeats 4000000
/-! Data in the abstract heap: tuples of tuples of ints. -/
namespace TP
open PySem PySem.Spec PyProof.Rows L2

mutual
/-- the value reads as the datum; tuples, ints, texts, None alone -/
inductive Rp (H : Hp) : V → PyData → Prop
  | non : Rp H .non .none
  | int (i : Int) : Rp H (.int i) (.int i)
  | str (x : Str) : Rp H (.str x) (.str x)
  | tup {a : Addr} {xs : List V} {ds : List PyData} : H a = some (.tup xs) → RpAll H xs ds → Rp H (.ref a) (.tuple ds)
inductive RpAll (H : Hp) : List V → List PyData → Prop
  | nil : RpAll H [] []
  | cons {v : V} {vs : List V} {d : PyData} {ds : List PyData} : Rp H v d → RpAll H vs ds → RpAll H (v :: vs) (d :: ds)
end
/-- tuples stay -/
def TK (H H' : Hp) : Prop := ∀ b xs, H b = some (.tup xs) → H' b = some (.tup xs)
theorem TK.refl (H : Hp) : TK H H := fun _ _ h => h
theorem TK.trans {H H1 H2 : Hp} (a : TK H H1) (b : TK H1 H2) : TK H H2 := fun c x h => b c x (a c x h)
theorem Same.tk {H H' : Hp} (s : Same H H') : TK H H' := fun b xs h => s b _ h
theorem TK.new {H : Hp} {p : Addr} {o : HO} (h : H p = none) : TK H (upd H p o) := fun b xs e => by rw [upd_ne (ne_of_none e h)]; exact e
theorem Same.new {H : Hp} {p : Addr} {o : HO} (h : H p = none) : Same H (upd H p o) := fun b x e => by rw [upd_ne (ne_of_none e h)]; exact e
/-- what is no tuple is written -/
theorem TK.write {H : Hp} {p : Addr} {o o' : HO} (h : H p = some o) (hn : ∀ xs, o ≠ .tup xs) : TK H (upd H p o') := fun b xs e => by rw [upd_ne (ne_of e h fun z => hn xs z.symm)]; exact e
mutual
theorem Rp.keep {H H' : Hp} (k : TK H H') : ∀ {v : V} {d : PyData}, Rp H v d → Rp H' v d
  | _, _, .non => .non
  | _, _, .int i => .int i
  | _, _, .str x => .str x
  | _, _, .tup h r => .tup (k _ _ h) (RpAll.keep k r)
theorem RpAll.keep {H H' : Hp} (k : TK H H') : ∀ {vs : List V} {ds : List PyData}, RpAll H vs ds → RpAll H' vs ds
  | _, _, .nil => .nil
  | _, _, .cons h r => .cons (Rp.keep k h) (RpAll.keep k r)
end
mutual
theorem Rp.dp {K : PySem.W.Frag} {H : Hp} : ∀ {v : V} {d : PyData}, Rp H v d → Dp K H v d
  | _, _, .non => .non
  | _, _, .int i => .int i
  | _, _, .str x => .str x
  | _, _, .tup h r => .tup (SqT.of h) (RpAll.dp r)
theorem RpAll.dp {K : PySem.W.Frag} {H : Hp} : ∀ {vs : List V} {ds : List PyData}, RpAll H vs ds → DpAll K H vs ds
  | _, _, .nil => .nil
  | _, _, .cons h r => .cons (Rp.dp h) (RpAll.dp r)
end
theorem RpAll.length {H : Hp} : ∀ {vs : List V} {ds : List PyData}, RpAll H vs ds → vs.length = ds.length
  | _, _, .nil => rfl
  | _, _, .cons _ r => congrArg Nat.succ (RpAll.length r)
theorem RpAll.get {H : Hp} : ∀ {vs : List V} {ds : List PyData} {i : Nat} {d : PyData}, RpAll H vs ds → ds[i]? = some d → ∃ v, vs[i]? = some v ∧ Rp H v d
  | _, _, i, d, .nil, e => by simp at e
  | _, _, 0, d, .cons h r, e => by
    simp at e
    subst e
    exact ⟨_, rfl, h⟩
  | _, _, i + 1, d, .cons h r, e => by
    obtain ⟨v, h1, h2⟩ := RpAll.get (i := i) r (by simpa using e)
    exact ⟨v, by simpa using h1, h2⟩
theorem RpAll.get' {H : Hp} {vs : List V} {ds : List PyData} {i : Nat} {v : V} (r : RpAll H vs ds) (e : vs[i]? = some v) : ∃ d, ds[i]? = some d ∧ Rp H v d := by
  have hi : i < ds.length := by rw [← r.length]; exact (List.getElem?_eq_some_iff.mp e).1
  obtain ⟨v', h1, h2⟩ := r.get (List.getElem?_eq_getElem hi)
  rw [e] at h1
  cases h1
  exact ⟨_, List.getElem?_eq_getElem hi, h2⟩
theorem RpAll.snoc {H : Hp} : ∀ {vs : List V} {ds : List PyData} {v : V} {d : PyData}, RpAll H vs ds → Rp H v d → RpAll H (vs ++ [v]) (ds ++ [d])
  | _, _, v, d, .nil, h => .cons h .nil
  | _, _, v, d, .cons h r, h' => .cons h (RpAll.snoc r h')
theorem Rp.of_tup {H : Hp} {v : V} {ds : List PyData} (h : Rp H v (.tuple ds)) : ∃ a xs, v = .ref a ∧ H a = some (.tup xs) ∧ RpAll H xs ds := by
  cases h with
  | tup h r => exact ⟨_, _, rfl, h, r⟩
theorem Rp.of_int {H : Hp} {v : V} {i : Int} (h : Rp H v (.int i)) : v = .int i := by cases h; rfl
theorem Rp.of_none {H : Hp} {v : V} (h : Rp H v .none) : v = .non := by cases h; rfl
theorem Rp.of_str {H : Hp} {v : V} {x : Str} (h : Rp H v (.str x)) : v = .str x := by cases h; rfl
/-- a row of ints -/
theorem RpAll.ints {H : Hp} : ∀ (is : List Int), RpAll H (is.map V.int) (is.map PyData.int)
  | [] => .nil
  | i :: is => .cons (.int i) (RpAll.ints is)
theorem RpAll.of_ints {H : Hp} : ∀ {is : List Int} {vs : List V}, RpAll H vs (is.map PyData.int) → vs = is.map V.int
  | [], _, h => by cases h; rfl
  | i :: is, _, h => by
    cases h with
    | cons h1 h2 =>
      rw [h1.of_int, RpAll.of_ints h2]
      rfl
/-- a tuple of ints -/
def itD (is : List Int) : PyData := .tuple (is.map PyData.int)
theorem Rp.of_its {H : Hp} {v : V} {is : List Int} (h : Rp H v (itD is)) : ∃ a, v = .ref a ∧ H a = some (.tup (is.map V.int)) := by
  obtain ⟨a, xs, e, h1, h2⟩ := Rp.of_tup h
  rw [h2.of_ints] at h1
  exact ⟨a, e, h1⟩
theorem Rp.its {H : Hp} {a : Addr} {is : List Int} (h : H a = some (.tup (is.map V.int))) : Rp H (.ref a) (itD is) := .tup h (RpAll.ints is)

/-! ### the data of the program -/
/-- a rule or an entry -/
def trD : Rule → PyData
  | none => .none
  | some (a, b, c) => itD [a, b, c]
def rowD (r : List Rule) : PyData := .tuple (r.map trD)
def gridD (M : Mach) : PyData := .tuple (M.map rowD)
/-- (x, 0, v) of each -/
def floorD (S : List (Int × Int)) : PyData := .tuple (S.map fun p => itD [p.1, 0, p.2])
def rowsD (S : List (Int × Int)) : PyData := .tuple (S.map fun p => itD [p.1, p.2])
def hdg (b : Bool) : Int := if b then 3 else 1
def sd (q : Int) (b : Bool) : Int := 2 * q + (if b then 1 else 0)
def walkerD (c : Cfg) : PyData := itD [c.x, 0, hdg c.b, sd c.q c.b]
def standD (S : List (Int × Int)) (c : Cfg) : PyData := .tuple [floorD S, walkerD c]

structure Grid (M : Mach) (S G : Nat) (p : Int → Prop) : Prop where
  len : M.length = S
  row : ∀ (i : Nat) (r : List Rule), M[i]? = some r → r.length = G
  ent : ∀ (i j : Nat) (r : List Rule) (a b c : Int), M[i]? = some r → r[j]? = some (some (a, b, c)) → (0 ≤ a ∧ a < G) ∧ p b ∧ (0 ≤ c ∧ c < S)
theorem Grid.at {M : Mach} {S G : Nat} {p : Int → Prop} (g : Grid M S G p) {q c : Int} (hq : 0 ≤ q) (hq2 : q < S) (hc : 0 ≤ c) (hc2 : c < G) : ∃ r, M[q.toNat]? = some r ∧ r[c.toNat]? = some (rl M q c) := by
  have h1 : q.toNat < M.length := by rw [g.len]; omega
  have e1 : M[q.toNat]? = some M[q.toNat] := List.getElem?_eq_getElem h1
  have h2 : c.toNat < (M[q.toNat]).length := by rw [g.row _ _ e1]; omega
  refine ⟨M[q.toNat], e1, ?_⟩
  unfold rl
  rw [e1]
  show (M[q.toNat])[c.toNat]? = some (((M[q.toNat])[c.toNat]?).getD none)
  rw [List.getElem?_eq_getElem h2]
  rfl
theorem Good.grid {M : Mach} {S G : Nat} (g : Good M S G) : Grid M S G (fun b => b = 1 ∨ b = -1) := ⟨g.len, g.row, fun i j r a b c h1 h2 => g.rule i j r a b c h1 h2⟩
/-- the entry of a rule, for a walker that heads right (false) or left (true) -/
def ent (b : Bool) : Rule → Rule
  | none => none
  | some (a, m, q) => some (a, if decide (m ≠ 1) = b then 0 else 2, sd q (decide (m ≠ 1)))
def tabOf (M : Mach) : Mach := M.flatMap fun r => [r.map (ent false), r.map (ent true)]
theorem tabOf_get (M : Mach) : ∀ (i : Nat) (b : Bool), (tabOf M)[2 * i + (if b then 1 else 0)]? = M[i]?.map fun r => r.map (ent b) := by
  induction M with
  | nil => intro i b; simp [tabOf]
  | cons r M ih =>
    intro i b
    have e : tabOf (r :: M) = r.map (ent false) :: r.map (ent true) :: tabOf M := rfl
    rw [e]
    match i with
    | 0 => cases b <;> rfl
    | i + 1 =>
      have := ih i b
      rw [show 2 * (i + 1) + (if b then 1 else 0) = (2 * i + (if b then 1 else 0)) + 1 + 1 by omega]
      rw [List.getElem?_cons_succ, List.getElem?_cons_succ, List.getElem?_cons_succ]
      exact this
theorem tabOf_length (M : Mach) : (tabOf M).length = 2 * M.length := by
  induction M with
  | nil => rfl
  | cons r M ih =>
    show (tabOf M).length + 1 + 1 = 2 * (M.length + 1)
    omega
theorem Good.tab {M : Mach} {S G : Nat} (g : Good M S G) : Grid (tabOf M) (2 * S) G (fun b => 0 ≤ b ∧ b ≤ 3) := by
  have two : ∀ i, ∃ (j : Nat) (b : Bool), i = 2 * j + (if b then 1 else 0) := fun i => by
    rcases Nat.mod_two_eq_zero_or_one i with h | h
    · exact ⟨i / 2, false, by simp; omega⟩
    · exact ⟨i / 2, true, by simp; omega⟩
  refine ⟨by rw [tabOf_length, g.len], fun i r h => ?_, fun i k r x y z h1 h2 => ?_⟩
  · obtain ⟨j, b, rfl⟩ := two i
    rw [tabOf_get] at h
    cases e : M[j]? with
    | none => rw [e] at h; cases h
    | some r0 =>
      rw [e] at h
      have h : r0.map (ent b) = r := Option.some.inj h
      rw [← h, List.length_map]
      exact g.row j r0 e
  · obtain ⟨j, b, rfl⟩ := two i
    rw [tabOf_get] at h1
    cases e : M[j]? with
    | none => rw [e] at h1; cases h1
    | some r0 =>
      rw [e] at h1
      have h1 : r0.map (ent b) = r := Option.some.inj h1
      rw [← h1, List.getElem?_map] at h2
      cases e2 : r0[k]? with
      | none => rw [e2] at h2; cases h2
      | some o =>
        rw [e2] at h2
        have h2 : ent b o = some (x, y, z) := Option.some.inj h2
        cases o with
        | none => cases h2
        | some t =>
          obtain ⟨a, m, q⟩ := t
          have := g.rule j k r0 a m q e e2
          simp only [ent, Option.some.injEq, Prod.mk.injEq] at h2
          obtain ⟨rfl, rfl, rfl⟩ := h2
          refine ⟨this.1, ?_, ?_⟩
          · split <;> omega
          · unfold sd
            split <;> omega
theorem rl_tab {M : Mach} {q c : Int} (b : Bool) (hq : 0 ≤ q) : rl (tabOf M) (sd q b) c = ent b (rl M q c) := by
  unfold rl
  have e : (sd q b).toNat = 2 * q.toNat + (if b then 1 else 0) := by
    unfold sd
    cases b <;> simp <;> omega
  rw [e, tabOf_get]
  cases h : M[q.toNat]? with
  | none => rfl
  | some r =>
    show ((r.map (ent b))[c.toNat]?).getD none = ent b ((r[c.toNat]?).getD none)
    rw [List.getElem?_map]
    cases r[c.toNat]? with
    | none => rfl
    | some o => rfl
end TP
namespace TP
open PySem PySem.Spec PyProof.Rows L2
theorem iteD {c A B : Prop} [Decidable c] (hc : c) (h : A) : if decide c = true then A else B := by
  rw [decide_eq_true hc]
  exact iteT h
theorem iteDF {c A B : Prop} [Decidable c] (hc : ¬ c) (h : B) : if decide c = true then A else B := by
  rw [decide_eq_false hc]
  exact iteF h
theorem iteND {c A B : Prop} [Decidable c] (hc : c) (h : B) : if (!decide c) = true then A else B := by
  rw [decide_eq_true hc]
  exact iteF h
theorem iteNDT {c A B : Prop} [Decidable c] (hc : ¬ c) (h : A) : if (!decide c) = true then A else B := by
  rw [decide_eq_false hc]
  exact iteT h
end TP
namespace TP
open PySem PySem.Spec PyProof.Rows L2
theorem hu64 {A : Around} {k : Nat} (hr : Room k A) : A.units + 64 < cLine := by have := hr.un; omega
theorem hu20 {A : Around} {k : Nat} (hr : Room k A) : A.units + 20 < cLine := by have := hr.un; omega
theorem hu1 {A : Around} {k : Nat} (hr : Room k A) : A.units + 1 < cLine := by have := hr.un; omega
theorem hu0 {A : Around} {k : Nat} (hr : Room k A) : A.units < cLine := by have := hr.un; omega
end TP
namespace TP
open PySem PySem.Spec PyProof.Rows L2
/-- data of None, ints, tuples and lists, at most n deep -/
def pl : Nat → PyData → Bool
  | _, .none => true
  | _, .int _ => true
  | n + 1, .list ds => ds.all (pl n)
  | n + 1, .tuple ds => ds.all (pl n)
  | _, _ => false
theorem pl_all {n : Nat} : ∀ {ds : List PyData}, ds.all (pl n) = true → ∀ d ∈ ds, pl n d = true := fun h d hd => List.all_eq_true.mp h d hd
theorem pl_mono : ∀ {n : Nat} {d : PyData}, pl n d = true → pl (n + 1) d = true
  | _, .none, _ => rfl
  | _, .int _, _ => rfl
  | n + 1, .list ds, h => List.all_eq_true.mpr fun d hd => pl_mono (List.all_eq_true.mp h d hd)
  | n + 1, .tuple ds, h => List.all_eq_true.mpr fun d hd => pl_mono (List.all_eq_true.mp h d hd)
  | 0, .list _, h => by cases h
  | 0, .tuple _, h => by cases h
  | 0, .bool _, h => by cases h
  | n + 1, .bool _, h => by cases h
  | 0, .str _, h => by cases h
  | n + 1, .str _, h => by cases h
  | 0, .dict _, h => by cases h
  | n + 1, .dict _, h => by cases h
theorem pl_le {n m : Nat} {d : PyData} (h : n ≤ m) (hd : pl n d = true) : pl m d = true := by
  induction h with
  | refl => exact hd
  | step _ ih => exact pl_mono ih
theorem lay_all : ∀ {ds : List PyData}, (∀ d ∈ ds, d.canLay0 = true) → PyData.canLayAll0 ds = true
  | [], _ => rfl
  | d :: ds, h => by
    show (d.canLay0 && PyData.canLayAll0 ds) = true
    rw [h d (List.mem_cons_self ..), lay_all fun e he => h e (List.mem_cons_of_mem _ he)]
    rfl
theorem dep_all {n : Nat} : ∀ {ds : List PyData}, (∀ d ∈ ds, d.depth ≤ n) → PyData.depthAll ds ≤ n
  | [], _ => by simp [PyData.depthAll]
  | d :: ds, h => by
    have h1 := h d (List.mem_cons_self ..)
    have h2 := dep_all fun e he => h e (List.mem_cons_of_mem _ he)
    show max d.depth (PyData.depthAll ds) ≤ n
    omega
theorem pl_lay : ∀ {n : Nat} {d : PyData}, pl n d = true → d.canLay0 = true ∧ d.depth ≤ n
  | _, .none, _ => ⟨rfl, by simp [PyData.depth]⟩
  | _, .int _, _ => ⟨rfl, by simp [PyData.depth]⟩
  | n + 1, .list ds, h => by
    have ih : ∀ d ∈ ds, d.canLay0 = true ∧ d.depth ≤ n := fun d hd => pl_lay (List.all_eq_true.mp h d hd)
    have := dep_all fun d hd => (ih d hd).2
    exact ⟨lay_all fun d hd => (ih d hd).1, by rw [PyData.depth]; omega⟩
  | n + 1, .tuple ds, h => by
    have ih : ∀ d ∈ ds, d.canLay0 = true ∧ d.depth ≤ n := fun d hd => pl_lay (List.all_eq_true.mp h d hd)
    have := dep_all fun d hd => (ih d hd).2
    exact ⟨lay_all fun d hd => (ih d hd).1, by rw [PyData.depth]; omega⟩
  | 0, .list _, h => by cases h
  | 0, .tuple _, h => by cases h
  | 0, .bool _, h => by cases h
  | n + 1, .bool _, h => by cases h
  | 0, .str _, h => by cases h
  | n + 1, .str _, h => by cases h
  | 0, .dict _, h => by cases h
  | n + 1, .dict _, h => by cases h
theorem pl_shaped {n : Nat} {d : PyData} (h : pl n d = true) (hn : n ≤ 64) : SeqAt.shaped d = true := by
  obtain ⟨h1, h2⟩ := pl_lay h
  unfold SeqAt.shaped
  rw [h1, decide_eq_true (by omega)]
  rfl
mutual
theorem eqv_iff : ∀ {n m : Nat} {d e : PyData}, pl n d = true → pl m e = true → (PyData.eqv d e = true ↔ d = e)
  | _, _, .none, .none, _, _ => by simp [PyData.eqv]
  | _, _, .none, .int _, _, _ => by simp [PyData.eqv]
  | _, _, .none, .list _, _, _ => by simp [PyData.eqv]
  | _, _, .none, .tuple _, _, _ => by simp [PyData.eqv]
  | _, _, .int _, .none, _, _ => by simp [PyData.eqv]
  | _, _, .int i, .int j, _, _ => by simp [PyData.eqv]
  | _, _, .int _, .list _, _, _ => by simp [PyData.eqv]
  | _, _, .int _, .tuple _, _, _ => by simp [PyData.eqv]
  | _, _, .list _, .none, _, _ => by simp [PyData.eqv]
  | _, _, .list _, .int _, _, _ => by simp [PyData.eqv]
  | n + 1, m + 1, .list xs, .list ys, h1, h2 => by
    have := eqvAll_iff (n := n) (m := m) (pl_all h1) (pl_all h2)
    rw [PyData.eqv, this]
    simp
  | _, _, .list _, .tuple _, _, _ => by simp [PyData.eqv]
  | _, _, .tuple _, .none, _, _ => by simp [PyData.eqv]
  | _, _, .tuple _, .int _, _, _ => by simp [PyData.eqv]
  | _, _, .tuple _, .list _, _, _ => by simp [PyData.eqv]
  | n + 1, m + 1, .tuple xs, .tuple ys, h1, h2 => by
    have := eqvAll_iff (n := n) (m := m) (pl_all h1) (pl_all h2)
    rw [PyData.eqv, this]
    simp
  | 0, _, .list _, _, h, _ => by cases h
  | 0, _, .tuple _, _, h, _ => by cases h
  | _, 0, _, .list _, _, h => by cases h
  | _, 0, _, .tuple _, _, h => by cases h
  | 0, _, .bool _, _, h, _ => by cases h
  | n + 1, _, .bool _, _, h, _ => by cases h
  | 0, _, .str _, _, h, _ => by cases h
  | n + 1, _, .str _, _, h, _ => by cases h
  | 0, _, .dict _, _, h, _ => by cases h
  | n + 1, _, .dict _, _, h, _ => by cases h
  | _, 0, _, .bool _, _, h => by cases h
  | _, n + 1, _, .bool _, _, h => by cases h
  | _, 0, _, .str _, _, h => by cases h
  | _, n + 1, _, .str _, _, h => by cases h
  | _, 0, _, .dict _, _, h => by cases h
  | _, n + 1, _, .dict _, _, h => by cases h
theorem eqvAll_iff : ∀ {n m : Nat} {xs ys : List PyData}, (∀ d ∈ xs, pl n d = true) → (∀ d ∈ ys, pl m d = true) → (PyData.eqvAll xs ys = true ↔ xs = ys)
  | _, _, [], [], _, _ => by simp [PyData.eqvAll]
  | _, _, [], _ :: _, _, _ => by simp [PyData.eqvAll]
  | _, _, _ :: _, [], _, _ => by simp [PyData.eqvAll]
  | n, m, x :: xs, y :: ys, h1, h2 => by
    have a := eqv_iff (h1 x (List.mem_cons_self ..)) (h2 y (List.mem_cons_self ..))
    have b := eqvAll_iff (fun d hd => h1 d (List.mem_cons_of_mem _ hd)) (fun d hd => h2 d (List.mem_cons_of_mem _ hd))
    rw [PyData.eqvAll, Bool.and_eq_true, a, b]
    simp
end
theorem shaped_nil : SeqAt.shaped (.list []) = true := pl_shaped (n := 1) rfl (by decide)
theorem dp_nil {K : PySem.W.Frag} {H : Hp} {p : Addr} (h : H p = some (.lst [])) : Dp K H (.ref p) (.list []) := .lst (SqL.of h) .nil
theorem pl_its {is : List Int} : pl 1 (itD is) = true := by
  show (is.map PyData.int).all (pl 0) = true
  rw [List.all_map]
  exact List.all_eq_true.mpr fun i _ => rfl
theorem pl_floor {S : List (Int × Int)} : pl 2 (floorD S) = true := by
  show (S.map fun p => itD [p.1, 0, p.2]).all (pl 1) = true
  rw [List.all_map]
  exact List.all_eq_true.mpr fun p _ => pl_its
theorem pl_stand {S : List (Int × Int)} {c : Cfg} : pl 3 (standD S c) = true := by
  show ([floorD S, walkerD c]).all (pl 2) = true
  simp only [List.all_cons, List.all_nil, Bool.and_true, Bool.and_eq_true]
  exact ⟨pl_floor, pl_mono pl_its⟩
end TP
namespace TP
open PySem PySem.Spec PyProof.Rows L2
theorem n32 : ¬ (HT.sIx 3 0 none = 0 ∧ HT.sIx 3 3 (some 2) = 3) := by decide
theorem n42 : ¬ (HT.sIx 4 0 none = 0 ∧ HT.sIx 4 4 (some 2) = 4) := by decide
theorem n4b : ¬ (HT.sIx 4 0 (some 2) = 0 ∧ HT.sIx 4 4 none = 4) := by decide
theorem n413 : ¬ (HT.sIx 4 0 (some 1) = 0 ∧ HT.sIx 4 4 (some 3) = 4) := by decide
/-- the order of two pairs of ints -/
theorem le_pairs (x y x' y' : Int) : Ob.lexAt (fun j => decide ([x, y].getD j 0 = [x', y'].getD j 0)) (fun j => decide ([x, y].getD j 0 ≤ [x', y'].getD j 0)) (decide (2 ≤ 2)) 0 2 = decide (x < x' ∨ (x = x' ∧ y ≤ y')) := by
  rw [Ob.lexAt_succ, Ob.lexAt_succ, Ob.lexAt_zero]
  show (if decide (x = x') = true then (if decide (y = y') = true then true else decide (y ≤ y')) else decide (x ≤ x')) = _
  by_cases h1 : x = x'
  · subst h1
    by_cases h2 : y = y'
    · subst h2; simp
    · simp [h2]
  · simp only [h1, decide_false, Bool.false_eq_true, if_false, false_and, or_false]
    apply decide_eq_decide.mpr
    omega
end TP
namespace TP
open PySem PySem.Spec PyProof.Rows L2
theorem small1000' {n : Nat} (h : n ≤ 100000) : n < sizeLine := Nat.lt_of_le_of_lt h (by decide)
/-- a write at an address that was free at first -/
theorem Same.wr {H H1 : Hp} {D : Addr} {o : HO} (s : Same H H1) (h : H D = none) : Same H (upd H1 D o) := fun b x e => by
  rw [upd_ne (ne_of_none e h)]
  exact s b x e
end TP
set_option Elab.async false
set_option linter.all false
set_option maxRecDepth 100000
set_option maxHeartbeats 4000000
/-! Floors as dicts and as sorted lists. -/
namespace TP
open PySem PySem.Spec PyProof.Rows L2

def encS (L : List (Int × Int)) : List (List Key × V) := L.map fun p => (pk p.1, V.int p.2)
def look (L : List (Int × Int)) (x : Int) : Int := ((L.find? fun p => decide (p.1 = x)).map (·.2)).getD 0
theorem pk_inj {x y : Int} (h : pk x = pk y) : x = y := by
  injection h with h1 _
  exact Sum.inl.inj h1
theorem pk_dec (x y : Int) : decide (pk x = pk y) = decide (x = y) := by
  apply decide_eq_decide.mpr
  exact ⟨pk_inj, fun h => by rw [h]⟩
theorem valV_enc (L : List (Int × Int)) (x : Int) : valV (encS L) (pk x) = (L.find? fun p => decide (p.1 = x)).map fun p => V.int p.2 := by
  induction L with
  | nil => rfl
  | cons p L ih =>
    by_cases h : p.1 = x
    · have e : encS (p :: L) = (pk p.1, V.int p.2) :: encS L := rfl
      rw [e, valV_pos (by rw [h]), List.find?_cons, decide_eq_true h]
      rfl
    · have e : encS (p :: L) = (pk p.1, V.int p.2) :: encS L := rfl
      rw [e, valV_neg (fun q => h (pk_inj q)), List.find?_cons, decide_eq_false h, ih]
theorem val_look (L : List (Int × Int)) (x : Int) : (valV (encS L) (pk x)).getD (.int 0) = .int (look L x) := by
  rw [valV_enc]
  unfold look
  cases L.find? fun p => decide (p.1 = x) <;> rfl
theorem find_mem {L : List (Int × Int)} (nd : (L.map (·.1)).Nodup) {p : Int × Int} (h : p ∈ L) : L.find? (fun q => decide (q.1 = p.1)) = some p := by
  induction L with
  | nil => cases h
  | cons q L ih =>
    rw [List.map_cons, List.nodup_cons] at nd
    rcases List.mem_cons.mp h with rfl | h
    · rw [List.find?_cons, decide_eq_true rfl]
    · have : q.1 ≠ p.1 := fun e => nd.1 (List.mem_map.mpr ⟨p, h, e.symm⟩)
      rw [List.find?_cons, decide_eq_false this]
      exact ih nd.2 h
theorem look_mem {L : List (Int × Int)} (nd : (L.map (·.1)).Nodup) {p : Int × Int} (h : p ∈ L) : look L p.1 = p.2 := by
  unfold look
  rw [find_mem nd h]
  rfl
theorem look_ne {L : List (Int × Int)} {x : Int} (h : look L x ≠ 0) : (x, look L x) ∈ L := by
  unfold look at h ⊢
  cases e : L.find? fun p => decide (p.1 = x) with
  | none => rw [e] at h; exact absurd rfl h
  | some p =>
    have h1 := List.find?_some e
    have h2 := List.mem_of_find?_eq_some e
    have h3 : p.1 = x := of_decide_eq_true h1
    show (x, p.2) ∈ L
    rw [← h3]
    exact h2
theorem look_none {L : List (Int × Int)} {x : Int} (h : x ∉ L.map (·.1)) : valV (encS L) (pk x) = none := by
  rw [valV_enc]
  have : L.find? (fun p => decide (p.1 = x)) = none := List.find?_eq_none.mpr fun p hp => by
    intro q
    exact h (List.mem_map.mpr ⟨p, hp, of_decide_eq_true q⟩)
  rw [this]
  rfl
/-- the dict with these pairs holds the floor f -/
structure SqRep (L : List (Int × Int)) (f : Int → Int) : Prop where
  nd : (L.map (·.1)).Nodup
  val : ∀ x, look L x = f x
/-- the ascending squares of f -/
structure Canon (f : Int → Int) (S : List (Int × Int)) : Prop where
  asc : S.Pairwise fun p q => p.1 < q.1
  nz : ∀ p ∈ S, p.2 ≠ 0
  mem : ∀ x v, v ≠ 0 → ((x, v) ∈ S ↔ f x = v)
theorem asc_nodup {S : List (Int × Int)} (h : S.Pairwise fun p q => p.1 < q.1) : (S.map (·.1)).Nodup := by
  unfold List.Nodup
  rw [List.pairwise_map]
  exact h.imp fun h => Int.ne_of_lt h
theorem Canon.rep {f : Int → Int} {S : List (Int × Int)} (c : Canon f S) : SqRep S f := by
  refine ⟨asc_nodup c.asc, fun x => ?_⟩
  by_cases h : f x = 0
  · rw [h]
    by_cases h2 : look S x = 0
    · exact h2
    · exact absurd ((c.mem x _ h2).mp (look_ne h2)) (by rw [h]; exact fun e => h2 e.symm)
  · have := (c.mem x (f x) h).mpr rfl
    exact look_mem (asc_nodup c.asc) this
theorem asc_eq : ∀ {S S' : List (Int × Int)}, S.Pairwise (fun p q => p.1 < q.1) → S'.Pairwise (fun p q => p.1 < q.1) → (∀ p, p ∈ S ↔ p ∈ S') → S = S'
  | [], [], _, _, _ => rfl
  | [], p :: S', _, _, h => absurd ((h p).mpr (List.mem_cons_self ..)) (by simp)
  | p :: S, [], _, _, h => absurd ((h p).mp (List.mem_cons_self ..)) (by simp)
  | p :: S, q :: S', h1, h2, h => by
    rw [List.pairwise_cons] at h1 h2
    have e : p = q := by
      rcases List.mem_cons.mp ((h p).mp (List.mem_cons_self ..)) with e | m1
      · exact e
      · rcases List.mem_cons.mp ((h q).mpr (List.mem_cons_self ..)) with e | m2
        · exact e.symm
        · have a := h2.1 p m1
          have b := h1.1 q m2
          omega
    subst e
    rw [asc_eq h1.2 h2.2 fun r => ?_]
    constructor
    · intro hr
      rcases List.mem_cons.mp ((h r).mp (List.mem_cons_of_mem _ hr)) with e | m
      · subst e
        exact absurd (h1.1 r hr) (Int.lt_irrefl _)
      · exact m
    · intro hr
      rcases List.mem_cons.mp ((h r).mpr (List.mem_cons_of_mem _ hr)) with e | m
      · subst e
        exact absurd (h2.1 r hr) (Int.lt_irrefl _)
      · exact m
theorem Canon.uniq {f : Int → Int} {S S' : List (Int × Int)} (a : Canon f S) (b : Canon f S') : S = S' := by
  refine asc_eq a.asc b.asc fun p => ?_
  obtain ⟨x, v⟩ := p
  constructor
  · intro h
    have hv := a.nz _ h
    exact (b.mem x v hv).mpr ((a.mem x v hv).mp h)
  · intro h
    have hv := b.nz _ h
    exact (a.mem x v hv).mpr ((b.mem x v hv).mp h)
theorem Canon.fn {f g : Int → Int} {S : List (Int × Int)} (a : Canon f S) (b : Canon g S) : f = g := by
  funext x
  rw [← a.rep.val x, ← b.rep.val x]
/-- the list that the sort and the test make -/
def canon (f : Int → Int) (ks : List Int) : List (Int × Int) := (ks.map fun x => (x, f x)).filter fun p => decide (p.2 ≠ 0)
theorem canon_snoc (f : Int → Int) (ks : List Int) (x : Int) : canon f (ks ++ [x]) = canon f ks ++ (if f x = 0 then [] else [(x, f x)]) := by
  unfold canon
  rw [List.map_append, List.filter_append]
  by_cases h : f x = 0 <;> simp [h]
theorem sorted_asc {ks : List Int} (nd : ks.Nodup) : (ks.mergeSort leI).Pairwise (· < ·) := by
  have tr : ∀ a b c : Int, leI a b = true → leI b c = true → leI a c = true := fun a b c h1 h2 => by
    unfold leI at *
    simp at *
    omega
  have tot : ∀ a b : Int, (leI a b || leI b a) = true := fun a b => by
    unfold leI
    simp
    omega
  have h1 := List.pairwise_mergeSort tr tot ks
  have h2 : (ks.mergeSort leI).Nodup := (List.mergeSort_perm ks leI).symm.nodup nd
  have h3 := h1.and h2
  exact h3.imp fun h => by
    have := of_decide_eq_true h.1
    have := h.2
    omega
theorem canon_ok {f : Int → Int} {ks : List Int} (nd : ks.Nodup) (h : ∀ x, f x ≠ 0 → x ∈ ks) : Canon f (canon f (ks.mergeSort leI)) := by
  refine ⟨?_, fun p hp => ?_, fun x v hv => ?_⟩
  · refine List.Pairwise.filter _ ?_
    rw [List.pairwise_map]
    exact sorted_asc nd
  · have := (List.mem_filter.mp hp).2
    exact of_decide_eq_true this
  · unfold canon
    rw [List.mem_filter, List.mem_map]
    constructor
    · rintro ⟨⟨y, _, e⟩, _⟩
      cases e
      rfl
    · intro e
      refine ⟨⟨x, ?_, by rw [e]⟩, decide_eq_true hv⟩
      rw [List.mem_mergeSort]
      exact h x (by rw [e]; exact hv)
theorem SqRep.canon {L : List (Int × Int)} {f : Int → Int} (r : SqRep L f) : Canon f (canon f ((L.map (·.1)).mergeSort leI)) := by
  refine canon_ok r.nd fun x hx => ?_
  rw [← r.val x] at hx
  exact List.mem_map.mpr ⟨_, look_ne hx, rfl⟩
/-! ### a square painted -/
def putL (L : List (Int × Int)) (x v : Int) : List (Int × Int) := if (L.any fun p => decide (p.1 = x)) = true then L.map (fun p => if p.1 = x then (p.1, v) else p) else L ++ [(x, v)]
theorem enc_any (L : List (Int × Int)) (x : Int) : ((encS L).any fun kv => decide (kv.1 = pk x)) = L.any fun p => decide (p.1 = x) := by
  unfold encS
  rw [List.any_map]
  congr 1
  funext p
  exact pk_dec p.1 x
theorem enc_put (L : List (Int × Int)) (x v : Int) : putK (encS L) (pk x) (.int v) = encS (putL L x v) := by
  unfold putK putL
  rw [enc_any]
  split
  · unfold encS
    rw [List.map_map, List.map_map]
    congr 1
    funext p
    show (if pk p.1 = pk x then (pk p.1, V.int v) else (pk p.1, V.int p.2)) = _
    by_cases h : p.1 = x
    · rw [if_pos (by rw [h])]
      show _ = (pk (if p.1 = x then (p.1, v) else p).1, V.int (if p.1 = x then (p.1, v) else p).2)
      rw [if_pos h]
    · rw [if_neg (fun e => h (pk_inj e))]
      show _ = (pk (if p.1 = x then (p.1, v) else p).1, V.int (if p.1 = x then (p.1, v) else p).2)
      rw [if_neg h]
  · unfold encS
    rw [List.map_append]
    rfl
theorem putL_length (L : List (Int × Int)) (x v : Int) : (putL L x v).length ≤ L.length + 1 := by
  unfold putL
  split
  · rw [List.length_map]; omega
  · rw [List.length_append]; exact Nat.le_refl _
theorem find_map (x v y : Int) : ∀ L : List (Int × Int), (L.map fun p => if p.1 = x then (p.1, v) else p).find? (fun p => decide (p.1 = y)) = (L.find? fun p => decide (p.1 = y)).map fun p => if p.1 = x then (p.1, v) else p
  | [] => rfl
  | p :: L => by
    have e : (if p.1 = x then (p.1, v) else p).1 = p.1 := by split <;> rfl
    rw [List.map_cons, List.find?_cons, List.find?_cons, e]
    by_cases h : p.1 = y
    · rw [decide_eq_true h]
      rfl
    · rw [decide_eq_false h]
      exact find_map x v y L
theorem look_put (L : List (Int × Int)) (x v y : Int) : look (putL L x v) y = if y = x then v else look L y := by
  unfold look putL
  split
  · rename_i h
    rw [find_map]
    by_cases hy : y = x
    · subst hy
      rw [if_pos rfl]
      obtain ⟨p, hp, e⟩ := List.any_eq_true.mp h
      cases hf : L.find? fun p => decide (p.1 = y) with
      | none =>
        have := List.find?_eq_none.mp hf p hp
        exact absurd e this
      | some q =>
        have e2 : q.1 = y := of_decide_eq_true (List.find?_some (p := fun p : Int × Int => decide (p.1 = y)) hf)
        show ((some (if q.1 = y then (q.1, v) else q)).map (·.2)).getD 0 = v
        rw [if_pos e2]
        rfl
    · rw [if_neg hy]
      cases hf : L.find? fun p => decide (p.1 = y) with
      | none => rfl
      | some q =>
        have e2 : q.1 = y := of_decide_eq_true (List.find?_some (p := fun p : Int × Int => decide (p.1 = y)) hf)
        show ((some (if q.1 = x then (q.1, v) else q)).map (·.2)).getD 0 = q.2
        rw [if_neg (by omega)]
        rfl
  · rename_i h
    have no : L.find? (fun p => decide (p.1 = x)) = none := List.find?_eq_none.mpr fun p hp q => h (List.any_eq_true.mpr ⟨p, hp, q⟩)
    rw [List.find?_append]
    by_cases hy : y = x
    · subst hy
      rw [no, if_pos rfl]
      simp
    · rw [if_neg hy]
      cases hf : L.find? fun p => decide (p.1 = y) with
      | some q => rfl
      | none =>
        have : ¬ (x = y) := fun e => hy e.symm
        simp [this]
theorem SqRep.put {L : List (Int × Int)} {f : Int → Int} (r : SqRep L f) (x v : Int) : SqRep (putL L x v) (setF f x v) := by
  refine ⟨?_, fun y => ?_⟩
  · unfold putL
    split
    · rw [List.map_map]
      have : (Prod.fst ∘ fun p : Int × Int => if p.1 = x then (p.1, v) else p) = Prod.fst := by
        funext p
        show (if p.1 = x then (p.1, v) else p).1 = p.1
        split <;> rfl
      rw [this]
      exact r.nd
    · rename_i h
      rw [List.map_append, List.nodup_append]
      refine ⟨r.nd, by simp, fun a ha b hb => ?_⟩
      rw [show b = x by simpa using hb]
      intro e
      obtain ⟨p, hp, e2⟩ := List.mem_map.mp ha
      exact h (List.any_eq_true.mpr ⟨p, hp, decide_eq_true (e2.trans e)⟩)
  · rw [look_put, r.val y]
    rfl
def dropL (L : List (Int × Int)) (x : Int) : List (Int × Int) := L.filter fun p => decide (p.1 ≠ x)
theorem enc_drop (L : List (Int × Int)) (x : Int) : dropK (encS L) (pk x) = encS (dropL L x) := by
  unfold dropK dropL encS
  rw [List.filter_map]
  congr 1
  congr 1
  funext p
  show decide (pk p.1 ≠ pk x) = decide (p.1 ≠ x)
  apply decide_eq_decide.mpr
  exact ⟨fun h e => h (by rw [e]), fun h e => h (pk_inj e)⟩
theorem SqRep.drop {L : List (Int × Int)} {f : Int → Int} (r : SqRep L f) (x : Int) : SqRep (dropL L x) (setF f x 0) := by
  have nd : ((dropL L x).map (·.1)).Nodup := by
    unfold dropL
    exact List.Nodup.sublist (List.Sublist.map _ List.filter_sublist) r.nd
  refine ⟨nd, fun y => ?_⟩
  by_cases hy : y = x
  · subst hy
    rw [setF_same]
    by_cases h : look (dropL L y) y = 0
    · exact h
    · have := (List.mem_filter.mp (look_ne h)).2
      simp at this
  · rw [setF_ne _ _ hy, ← r.val y]
    by_cases h : look L y = 0
    · rw [h]
      by_cases h2 : look (dropL L x) y = 0
      · exact h2
      · have := look_mem r.nd (List.mem_filter.mp (look_ne h2)).1
        exact absurd (this.symm.trans h) h2
    · have m := look_ne h
      have : (y, look L y) ∈ dropL L x := List.mem_filter.mpr ⟨m, decide_eq_true hy⟩
      exact look_mem nd this
theorem dropL_length (L : List (Int × Int)) (x : Int) : (dropL L x).length ≤ L.length := List.length_filter_le _ _
theorem SqRep.blank {L : List (Int × Int)} {f : Int → Int} (r : SqRep L f) {x : Int} (h : valV (encS L) (pk x) = none) : SqRep L (setF f x 0) := by
  refine ⟨r.nd, fun y => ?_⟩
  by_cases hy : y = x
  · subst hy
    have e := val_look L y
    rw [h] at e
    rw [setF_same]
    exact (V.int.inj e).symm
  · rw [setF_ne _ _ hy]
    exact r.val y
end TP
set_option Elab.async false
set_option linter.all false
set_option maxRecDepth 100000
set_option maxHeartbeats 4000000
/-! Tapes as dicts with int keys. -/
namespace TP
open PySem PySem.Spec PyProof.Rows L2
abbrev ik (x : Int) : Key := Sum.inl x
theorem ik_inj {x y : Int} (h : ik x = ik y) : x = y := Sum.inl.inj h
theorem ik_dec (x y : Int) : decide (ik x = ik y) = decide (x = y) := by
  apply decide_eq_decide.mpr
  exact ⟨ik_inj, fun h => by rw [h]⟩
def encK (L : List (Int × Int)) : List (Key × V) := L.map fun p => (ik p.1, V.int p.2)
theorem valK_enc (L : List (Int × Int)) (x : Int) : valV (encK L) (ik x) = (L.find? fun p => decide (p.1 = x)).map fun p => V.int p.2 := by
  induction L with
  | nil => rfl
  | cons p L ih =>
    by_cases h : p.1 = x
    · have e : encK (p :: L) = (ik p.1, V.int p.2) :: encK L := rfl
      rw [e, valV_pos (by rw [h]), List.find?_cons, decide_eq_true h]
      rfl
    · have e : encK (p :: L) = (ik p.1, V.int p.2) :: encK L := rfl
      rw [e, valV_neg (fun q => h (ik_inj q)), List.find?_cons, decide_eq_false h, ih]
theorem valK_look (L : List (Int × Int)) (x : Int) : (valV (encK L) (ik x)).getD (.int 0) = .int (look L x) := by
  rw [valK_enc]
  unfold look
  cases L.find? fun p => decide (p.1 = x) <;> rfl
theorem lookK_none {L : List (Int × Int)} {x : Int} (h : x ∉ L.map (·.1)) : valV (encK L) (ik x) = none := by
  rw [valK_enc]
  have : L.find? (fun p => decide (p.1 = x)) = none := List.find?_eq_none.mpr fun p hp => by
    intro q
    exact h (List.mem_map.mpr ⟨p, hp, of_decide_eq_true q⟩)
  rw [this]
  rfl
theorem encK_any (L : List (Int × Int)) (x : Int) : ((encK L).any fun kv => decide (kv.1 = ik x)) = L.any fun p => decide (p.1 = x) := by
  unfold encK
  rw [List.any_map]
  congr 1
  funext p
  exact ik_dec p.1 x
theorem encK_put (L : List (Int × Int)) (x v : Int) : putK (encK L) (ik x) (.int v) = encK (putL L x v) := by
  unfold putK putL
  rw [encK_any]
  split
  · unfold encK
    rw [List.map_map, List.map_map]
    congr 1
    funext p
    show (if ik p.1 = ik x then (ik p.1, V.int v) else (ik p.1, V.int p.2)) = _
    by_cases h : p.1 = x
    · rw [if_pos (by rw [h])]
      show _ = (ik (if p.1 = x then (p.1, v) else p).1, V.int (if p.1 = x then (p.1, v) else p).2)
      rw [if_pos h]
    · rw [if_neg (fun e => h (ik_inj e))]
      show _ = (ik (if p.1 = x then (p.1, v) else p).1, V.int (if p.1 = x then (p.1, v) else p).2)
      rw [if_neg h]
  · unfold encK
    rw [List.map_append]
    rfl

/-- the floor that a tape is -/
def tapeF (tape : List Int) : Int → Int := fun x => if 0 ≤ x then (tape[x.toNat]?).getD 0 else 0
def tapeL (tape : List Int) (n : Nat) : List (Int × Int) := (List.range n).map fun i : Nat => ((i : Int), (tape[i]?).getD 0)
theorem tapeL_succ (tape : List Int) (n : Nat) : tapeL tape (n + 1) = tapeL tape n ++ [((n : Int), (tape[n]?).getD 0)] := by
  unfold tapeL
  rw [List.range_succ, List.map_append]
  rfl
theorem tapeL_length (tape : List Int) (n : Nat) : (tapeL tape n).length = n := by
  unfold tapeL
  rw [List.length_map, List.length_range]
theorem tapeL_keys (tape : List Int) (n : Nat) (x : Int) : x ∈ (tapeL tape n).map (·.1) ↔ 0 ≤ x ∧ x < n := by
  unfold tapeL
  rw [List.map_map, List.mem_map]
  constructor
  · rintro ⟨i, hi, rfl⟩
    have := List.mem_range.mp hi
    show (0 : Int) ≤ (i : Int) ∧ (i : Int) < n
    omega
  · intro h
    exact ⟨x.toNat, List.mem_range.mpr (by omega), by show ((x.toNat : Nat) : Int) = x; omega⟩
theorem tapeL_nodup (tape : List Int) (n : Nat) : ((tapeL tape n).map (·.1)).Nodup := by
  unfold tapeL
  rw [List.map_map]
  have : (Prod.fst ∘ fun i : Nat => ((i : Int), (tape[i]?).getD 0)) = fun i : Nat => (i : Int) := rfl
  rw [this]
  unfold List.Nodup
  rw [List.pairwise_map]
  exact List.nodup_range.imp fun h e => h (by omega)
theorem tape_rep (tape : List Int) : SqRep (tapeL tape tape.length) (tapeF tape) := by
  refine ⟨tapeL_nodup _ _, fun x => ?_⟩
  by_cases h : 0 ≤ x ∧ x < tape.length
  · have m : (x, (tape[x.toNat]?).getD 0) ∈ tapeL tape tape.length := by
      unfold tapeL
      exact List.mem_map.mpr ⟨x.toNat, List.mem_range.mpr (by omega), by
        show (((x.toNat : Nat) : Int), _) = _
        rw [show ((x.toNat : Nat) : Int) = x by omega]⟩
    rw [look_mem (tapeL_nodup _ _) m]
    unfold tapeF
    rw [if_pos h.1]
  · have z : tapeF tape x = 0 := by
      unfold tapeF
      split
      · rw [List.getElem?_eq_none (by omega)]
        rfl
      · rfl
    rw [z]
    by_cases h2 : look (tapeL tape tape.length) x = 0
    · exact h2
    · exact absurd ((tapeL_keys tape tape.length x).mp (List.mem_map.mpr ⟨_, look_ne h2, rfl⟩)) h
theorem tapeF_in {tape : List Int} {G : Nat} (h : ∀ x ∈ tape, 0 ≤ x ∧ x < (G : Int)) (g : 0 < G) (x : Int) : 0 ≤ tapeF tape x ∧ tapeF tape x < G := by
  unfold tapeF
  split
  · cases e : tape[x.toNat]? with
    | none => show (0 : Int) ≤ 0 ∧ (0 : Int) < G; omega
    | some y => exact h y (List.mem_of_getElem? e)
  · omega
/-- an ascending list of keys is left as it is -/
theorem sort_asc {ks : List Int} (h : ks.Pairwise (· < ·)) : ks.mergeSort leI = ks :=
  List.mergeSort_of_pairwise (h.imp fun h => decide_eq_true (by omega))
theorem canon_self {f : Int → Int} {S : List (Int × Int)} (c : Canon f S) : canon f (S.map (·.1)) = S := by
  have h := c.rep.canon
  rw [sort_asc (by rw [List.pairwise_map]; exact c.asc)] at h
  exact h.uniq c
end TP
set_option Elab.async false
set_option linter.all false
set_option maxRecDepth 100000
set_option maxHeartbeats 4000000
namespace TP
open PySem PySem.Spec PyProof.Rows L2
abbrev Ca (P : Program) (w : World) (K : PySem.W.Frag) (mg : Str → Option Value) (base : Heap) (k : Nat) (x : Str) (sp : Sp) := C8.Cal P w K mg base k x sp []
section
variable {P : Program} {w : World} {K : PySem.W.Frag} {mg : Str → Option Value} {base : Heap} {CW CR CS CT CF : Addr} {f : Addr} {fd : FuncData}

/-! ### is_in -/
def spIsIn : Sp := fun vs H Q _ => ∃ v lo hi : Int, vs = [.int v, .int lo, .int hi] ∧ Q (.bl (decide (lo ≤ v ∧ v ≤ hi))) H
theorem sc_is_in : FnScope ["value", "least", "most"] ["value", "least", "most"] (C8.fnScope (top 14)) := C8.fnScope_by (by decide +kernel)
theorem ok_is_in (T : Txt K mg CW CR CS CT CF) (F : C8.Def K mg "is_in" (top 14) f fd) (b : Binds K fd ["value", "least", "most"] []) : Ca P w K mg base 1 "is_in" spIsIn := by
  refine C8.cal0 F b .nil sc_is_in (fun vs H Q E h => ?_) (fun cdv A outer s H vs Q E hr h => ?_)
  · obtain ⟨_, _, _, rfl, _⟩ := h; rfl
  · obtain ⟨v, lo, hi, rfl, k⟩ := h
    refine ⟨_, (pss_one (ps_ret (pe_and (pe_callB call_isiB (by rfl) T.isi (by decide +kernel) (pa_cons (pv 0) (pa_cons (pe_bltn (by rfl) T.int boot_int (v := .ty "int") rfl) pa_nil))) (pe_and (pe_not (pe_callB call_isiB (by rfl) T.isi (by decide +kernel) (pa_cons (pv 0) (pa_cons (pe_bltn (by rfl) T.bool boot_bool (v := .ty "bool") rfl) pa_nil)))) (pe_one (pe_chain op_le op_le (pv 1) (pv 0) (pv 2))))))), ?_⟩
    refine ⟨_, rfl, _, _, _, _, rfl, .int v, k_ii, _, rfl, iteT ?_⟩
    refine ⟨_, rfl, _, _, _, _, rfl, .int v, k_ib, _, rfl, _, rfl, iteT ?_⟩
    refine ⟨_, rfl, _, rfl, _, _, rfl, rfl, _, rfl, ?_⟩
    by_cases h1 : lo ≤ v
    · rw [decide_eq_true h1]
      refine iteT ⟨_, rfl, _, _, rfl, rfl, ?_⟩
      rw [show decide (lo ≤ v ∧ v ≤ hi) = decide (v ≤ hi) by simp [h1]] at k
      exact k
    · rw [decide_eq_false h1]
      refine iteF ?_
      rw [show decide (lo ≤ v ∧ v ≤ hi) = false by simp [h1]] at k
      exact k

/-! ### is_entry -/
def spIsEntry : Sp := fun vs H Q _ => ∃ (v : V) (o : Rule) (S G : Int), vs = [v, .int S, .int G] ∧ Rp H v (trD o) ∧ (∀ a b c, o = some (a, b, c) → (0 ≤ a ∧ a < G) ∧ (0 ≤ b ∧ b ≤ 3) ∧ (0 ≤ c ∧ c < S)) ∧ Q (.bl true) H
theorem sc_is_entry : FnScope ["entry", "states", "colours"] ["entry", "states", "colours"] (C8.fnScope (top 15)) := C8.fnScope_by (by decide +kernel)
theorem ok_is_entry (T : Txt K mg CW CR CS CT CF) (c_is_in : Ca P w K mg base 1 "is_in" spIsIn) (F : C8.Def K mg "is_entry" (top 15) f fd) (b : Binds K fd ["entry", "states", "colours"] []) : Ca P w K mg base 2 "is_entry" spIsEntry := by
  refine C8.cal0 F b .nil sc_is_entry (fun vs H Q E h => ?_) (fun cdv A outer s H vs Q E hr h => ?_)
  · obtain ⟨_, _, _, _, rfl, _⟩ := h; rfl
  · obtain ⟨v, o, S, G, rfl, hv, ho, k⟩ := h
    refine ⟨_, (pss_cons (ps_if (pt_cmpR op_isN (pv 0) pe_non (nomark _)) (pss_one (ps_ret pe_bl)) pss_nil)
      (pss_cons (ps_if (PW.pt (pw_or (pt_not (pt_val (pe_callB call_isiB (by rfl) T.isi (by decide +kernel) (pa_cons (pv 0) (pa_cons (pe_bltn (by rfl) T.tuple boot_tuple (v := .ty "tuple") rfl) pa_nil))))) (pw_or1 (pt_cmpR op_ne (pe_callB (len_K K) (by rfl) T.len (by decide +kernel) (pa_cons (pv 0) pa_nil)) pe_int (nomark _))))) (pss_one (ps_ret pe_bl)) pss_nil)
      (pss_one (ps_ret (pe_and (C8.pe_c c_is_in hr (by decide) (by rfl) (pa_cons (pe_ix (ix_tupK K) (pv 0) pe_int (fun _ _ => rfl)) (pa_cons pe_int (pa_cons (pe_op op_sub (pv 2) pe_int) pa_nil)))) (pe_and (C8.pe_c c_is_in hr (by decide) (by rfl) (pa_cons (pe_ix (ix_tupK K) (pv 0) pe_int (fun _ _ => rfl)) (pa_cons pe_int (pa_cons pe_int pa_nil)))) (pe_one (C8.pe_c c_is_in hr (by decide) (by rfl) (pa_cons (pe_ix (ix_tupK K) (pv 0) pe_int (fun _ _ => rfl)) (pa_cons pe_int (pa_cons (pe_op op_sub (pv 1) pe_int) pa_nil))))))))))), ?_⟩
    cases o with
    | none =>
      rw [Rp.of_none hv]
      refine ⟨_, rfl, rfl, _, rfl, iteT ?_⟩
      exact k
    | some t =>
      obtain ⟨x, y, z⟩ := t
      obtain ⟨h1, h2, h3⟩ := ho x y z rfl
      obtain ⟨a, rfl, ha⟩ := Rp.of_its hv
      refine ⟨_, rfl, rfl, _, rfl, iteF ?_⟩
      refine ⟨_, rfl, _, _, _, _, rfl, .tup ha, k_tt, _, rfl, iteF ?_⟩
      refine ⟨_, rfl, _, _, rfl, .inr (SqT.of ha), rfl, _, rfl, iteF ?_⟩
      refine ⟨_, rfl, _, _, _, _, rfl, rfl, SqT.of ha, rfl, _, rfl, _, _, rfl, rfl, _, _, _, rfl, _, rfl, iteD (by omega) ?_⟩
      refine ⟨_, rfl, _, _, _, _, rfl, rfl, SqT.of ha, rfl, _, _, _, rfl, _, rfl, iteD (by omega) ?_⟩
      refine ⟨_, rfl, _, _, _, _, rfl, rfl, SqT.of ha, rfl, _, rfl, _, _, rfl, rfl, _, _, _, rfl, ?_⟩
      rw [decide_eq_true (by omega)]
      exact k
end
end TP
set_option Elab.async false
set_option linter.all false
set_option maxRecDepth 100000
set_option maxHeartbeats 4000000
namespace TP
open PySem PySem.Spec PyProof.Rows L2
section
variable {P : Program} {w : World} {K : PySem.W.Frag} {mg : Str → Option Value} {base : Heap} {CW CR CS CT CF : Addr} {f : Addr} {fd : FuncData}
theorem gridD_inv {H : Hp} {v : V} {M : Mach} (h : Rp H v (gridD M)) : ∃ a xs, v = .ref a ∧ H a = some (.tup xs) ∧ xs.length = M.length ∧ RpAll H xs (M.map rowD) := by
  obtain ⟨a, xs, e, h1, h2⟩ := Rp.of_tup h
  exact ⟨a, xs, e, h1, by rw [h2.length, List.length_map], h2⟩
theorem rowD_at {H : Hp} {xs : List V} {M : Mach} {i : Nat} {x : V} (h : RpAll H xs (M.map rowD)) (e : xs[i]? = some x) : ∃ r b ys, M[i]? = some r ∧ x = .ref b ∧ H b = some (.tup ys) ∧ ys.length = r.length ∧ RpAll H ys (r.map trD) := by
  obtain ⟨d, h1, h2⟩ := h.get' e
  rw [List.getElem?_map] at h1
  cases hr : M[i]? with
  | none => rw [hr] at h1; cases h1
  | some r =>
    rw [hr] at h1
    have h1 : rowD r = d := Option.some.inj h1
    rw [← h1] at h2
    obtain ⟨b, ys, e2, h3, h4⟩ := Rp.of_tup h2
    exact ⟨r, b, ys, rfl, e2, h3, by rw [h4.length, List.length_map], h4⟩
theorem trD_at {H : Hp} {ys : List V} {r : List Rule} {i : Nat} {x : V} (h : RpAll H ys (r.map trD)) (e : ys[i]? = some x) : ∃ o, r[i]? = some o ∧ Rp H x (trD o) := by
  obtain ⟨d, h1, h2⟩ := h.get' e
  rw [List.getElem?_map] at h1
  cases hr : r[i]? with
  | none => rw [hr] at h1; cases h1
  | some o =>
    rw [hr] at h1
    have h1 : trD o = d := Option.some.inj h1
    rw [← h1] at h2
    exact ⟨o, rfl, h2⟩

/-! ### is_table -/
structure TabOk (M : Mach) (S G : Nat) : Prop where
  grid : Grid M S G (fun b => 0 ≤ b ∧ b ≤ 3)
  s1 : 1 ≤ S
  s2 : S ≤ 10
  g1 : 2 ≤ G
  g2 : G ≤ 6
theorem Good.tok {M : Mach} {S G : Nat} (g : Good M S G) : TabOk (tabOf M) (2 * S) G := ⟨g.tab, by have := g.s1; omega, by have := g.s2; omega, g.g1, by have := g.g2; omega⟩
def spTable (r : V) : Sp := fun vs H Q _ => ∃ (v : V) (M : Mach) (S G : Nat), vs = [v] ∧ Rp H v (gridD M) ∧ TabOk M S G ∧ ∀ H', Same H H' → Q r H'
theorem sc_is_table : FnScope ["table", "row", "entry"] ["table"] (C8.fnScope (top 16)) := C8.fnScope_by (by decide +kernel)
theorem ok_is_table (T : Txt K mg CW CR CS CT CF) (c_is_entry : Ca P w K mg base 2 "is_entry" spIsEntry) (F : C8.Def K mg "is_table" (top 16) f fd) (b : Binds K fd ["table"] []) : Ca P w K mg base 3 "is_table" (spTable (.bl true)) := by
  refine C8.cal0 F b .nil sc_is_table (fun vs H Q E h => ?_) (fun cdv A outer s H vs Q E hr h => ?_)
  · obtain ⟨_, _, _, _, rfl, _⟩ := h; rfl
  · obtain ⟨v, M, S, G, rfl, hv, ok, k⟩ := h
    have hu := hr.un
    obtain ⟨a, xs, rfl, ha, hl, hxs⟩ := gridD_inv hv
    rw [ok.grid.len] at hl
    have s1 := ok.s1
    have s2 := ok.s2
    have g1 := ok.g1
    have g2 := ok.g2
    refine ⟨_, (pss_cons (ps_if (PW.pt (pw_or (pt_not (pt_val (pe_callB call_isiB (by rfl) T.isi (by decide +kernel) (pa_cons (pv 0) (pa_cons (pe_bltn (by rfl) T.tuple boot_tuple (v := .ty "tuple") rfl) pa_nil))))) (pw_or1 (pt_not (pt_chain op_le op_le pe_int (pe_callB (len_K K) (by rfl) T.len (by decide +kernel) (pa_cons (pv 0) pa_nil)) (C8.pe_gc (by rfl) T.cStT)))))) (pss_one (ps_ret pe_bl)) pss_nil)
      (pss_cons (ps_for PassesOwn.never rfl (pi_tupK K (pv 0)) (pg_name (i := 1) sc_is_table.nd rfl (.inl rfl))
        (pss_one (ps_if (PW.pt (pw_or (pt_not (pt_val (pe_callB call_isiB (by rfl) T.isi (by decide +kernel) (pa_cons (pv 1) (pa_cons (pe_bltn (by rfl) T.tuple boot_tuple (v := .ty "tuple") rfl) pa_nil))))) (pw_or (pt_not (pt_chain op_le op_le pe_int (pe_callB (len_K K) (by rfl) T.len (by decide +kernel) (pa_cons (pv 1) pa_nil)) (C8.pe_gc (by rfl) T.cCol))) (pw_or1 (pt_cmpR op_ne (pe_callB (len_K K) (by rfl) T.len (by decide +kernel) (pa_cons (pv 1) pa_nil)) (pe_callB (len_K K) (by rfl) T.len (by decide +kernel) (pa_cons (pe_ix (ix_tupK K) (pv 0) pe_int (fun _ _ => rfl)) pa_nil)) (nomark _)))))) (pss_one (ps_ret pe_bl)) pss_nil)))
      (pss_one (ps_ret (pe_cmpR (eqD_K K (hu64 hr)) (pe_lc2 (own := [("row", 1), ("entry", 2)]) (vs1 := [2]) (by rfl) sc_is_table.nd (pi_tupK K (pv 0)) (blkOk_by (own := [("row", 1), ("entry", 2)]) (N := ["table", "row", "entry"]) (sc := C8.fnScope (top 16)) (by decide +kernel)) (by decide) (fun _ _ _ _ _ => (pg_name (i := 1) sc_is_table.nd rfl (.inl rfl))) (fun _ _ _ _ _ => pts_nil) (fun _ _ _ _ _ => (pi_tupK K (pv 1))) (fun _ _ _ _ _ => (pg_name (i := 2) sc_is_table.nd rfl (.inl rfl))) (fun _ _ _ _ _ => (pts_one (pt_not (pt_val (C8.pe_c c_is_entry hr (by decide) (by rfl) (pa_cons (pv 2) (pa_cons (pe_callB (len_K K) (by rfl) T.len (by decide +kernel) (pa_cons (pv 0) pa_nil)) (pa_cons (pe_callB (len_K K) (by rfl) T.len (by decide +kernel) (pa_cons (pe_ix (ix_tupK K) (pv 0) pe_int (fun _ _ => rfl)) pa_nil)) pa_nil)))))))) (fun _ _ _ _ _ => (pv 2))) (pe_lst pa_nil) (nomark _)))))), ?_⟩
    refine ⟨_, rfl, _, _, _, _, rfl, .tup ha, k_tt, _, rfl, iteF ?_⟩
    refine ⟨_, rfl, _, _, rfl, .inr (SqT.of ha), _, _, rfl, rfl, _, rfl, iteD (by omega) ⟨_, _, rfl, rfl, _, rfl, iteND (by omega) ?_⟩⟩
    refine ⟨_, rfl, _, rfl, ⟨_, SqT.of ha⟩, for_tup (K := K) (a := a) (xs := xs) (fun i σ H' => H' = H ∧ ∃ r : Option V, σ = [some (.ref a), r, none]) ⟨rfl, none, rfl⟩ (fun i σ H' _ h => by rw [h.1]; exact SqT.of ha) ?_ ?_⟩
    · rintro i x σ H' hi ⟨rfl, r, rfl⟩
      obtain ⟨r, b, ys, hr1, rfl, hb, hbl, hys⟩ := rowD_at hxs hi
      have hg := ok.grid.row i r hr1
      refine ⟨_, rfl, _, _, _, _, rfl, .tup hb, k_tt, _, rfl, iteF ?_⟩
      obtain ⟨b0, ys0, ha0, hb0, hl0⟩ : ∃ b0 ys0, xs[0]? = some (.ref b0) ∧ H' b0 = some (.tup ys0) ∧ ys0.length = G := by
        obtain ⟨x0, hx0⟩ : ∃ x0, xs[0]? = some x0 := ⟨xs[0], List.getElem?_eq_getElem (by omega)⟩
        obtain ⟨r0, b0, ys0, h1, h2, h3, h4, _⟩ := rowD_at hxs hx0
        exact ⟨b0, ys0, by rw [hx0, h2], h3, by rw [h4, ok.grid.row 0 r0 h1]⟩
      refine ⟨_, rfl, _, _, rfl, .inr (SqT.of hb), _, _, rfl, rfl, _, rfl, iteD (by omega) ⟨_, _, rfl, rfl, _, rfl, iteND (by omega) ?_⟩⟩
      refine ⟨_, rfl, _, _, rfl, .inr (SqT.of hb), _, rfl, _, _, _, _, rfl, rfl, SqT.of ha, at_of (j := 0) rfl ha0, _, _, rfl, .inr (SqT.of hb0), rfl, _, rfl, iteND (by rw [hbl, hg, hl0]) ?_⟩
      exact ⟨rfl, _, rfl⟩
    · rintro σ H' ⟨rfl, r, rfl⟩
      obtain ⟨b0, ys0, ha0, hb0, hl0⟩ : ∃ b0 ys0, xs[0]? = some (.ref b0) ∧ H' b0 = some (.tup ys0) ∧ ys0.length = G := by
        obtain ⟨x0, hx0⟩ : ∃ x0, xs[0]? = some x0 := ⟨xs[0], List.getElem?_eq_getElem (by omega)⟩
        obtain ⟨r0, b0, ys0, h1, h2, h3, h4, _⟩ := rowD_at hxs hx0
        exact ⟨b0, ys0, by rw [hx0, h2], h3, by rw [h4, ok.grid.row 0 r0 h1]⟩
      refine ⟨_, rfl, _, rfl, ⟨_, SqT.of ha⟩, fun D hD => lc2_it (walk_tup (K := K) (a := a) (xs := xs)) (fun i H2 => Same H' H2 ∧ H2 D = some (.lst [])) ⟨Same.new hD, upd_same⟩ (fun i H2 _ h => SqT.of (h.1 _ _ ha)) ?_ ?_⟩
      · rintro i x H2 H3 hi ⟨sm, hd⟩ ⟨rfl, hx⟩
        obtain ⟨r, b, ys, hr1, rfl, hb, hbl, hys⟩ := rowD_at hxs hx
        refine ⟨rfl, _, rfl, _, rfl, ⟨_, SqT.of (sm _ _ hb)⟩, lc2in_it (walk_tup (K := K) (a := b) (xs := ys)) (fun i H2 => Same H' H2 ∧ H2 D = some (.lst [])) ⟨sm, hd⟩ (fun i H2 _ h => SqT.of (h.1 _ _ hb)) ?_ fun H2 h => h⟩
        rintro j y H4 H5 hj ⟨sm4, hd4⟩ ⟨rfl, hy⟩
        obtain ⟨o, ho1, ho2⟩ := trD_at hys hy
        refine ⟨rfl, _, rfl, _, rfl, _, _, rfl, .inr (SqT.of (sm4 _ _ ha)), _, rfl, _, _, _, _, rfl, rfl, SqT.of (sm4 _ _ ha), at_of (j := 0) rfl ha0, _, _, rfl, .inr (SqT.of (sm4 _ _ hb0)), ?_⟩
        refine ⟨_, o, _, _, rfl, Rp.keep (Same.tk sm4) ho2, fun a b c e => ?_, _, rfl, iteF ⟨sm4, hd4⟩⟩
        have := ok.grid.ent i j r a b c hr1 (by rw [ho1, e])
        omega
      · rintro H2 ⟨sm, hd⟩
        refine ⟨Nat.zero_le _, fun p hp => ⟨.list [], .list [], dp_nil (by rw [upd_ne (ne_of_none hd hp)]; exact hd), dp_nil upd_same, shaped_nil, shaped_nil, ?_⟩⟩
        exact k _ (sm.trans (Same.new hp))
end
end TP
set_option Elab.async false
set_option linter.all false
set_option maxRecDepth 100000
set_option maxHeartbeats 4000000
namespace TP
open PySem PySem.Spec PyProof.Rows L2
section
variable {P : Program} {w : World} {K : PySem.W.Frag} {mg : Str → Option Value} {base : Heap} {CW CR CS CT CF : Addr} {f : Addr} {fd : FuncData}

/-! ### need_table -/
theorem sc_need_table : FnScope ["table"] ["table"] (C8.fnScope (top 17)) := C8.fnScope_by (by decide +kernel)
theorem ok_need_table (T : Txt K mg CW CR CS CT CF) (c_is_table : Ca P w K mg base 3 "is_table" (spTable (.bl true))) (F : C8.Def K mg "need_table" (top 17) f fd) (b : Binds K fd ["table"] []) : Ca P w K mg base 4 "need_table" (spTable .non) := by
  refine C8.cal0 F b .nil sc_need_table (fun vs H Q E h => ?_) (fun cdv A outer s H vs Q E hr h => ?_)
  · obtain ⟨_, _, _, _, rfl, _⟩ := h; rfl
  · obtain ⟨v, M, S, G, rfl, hv, ok, k⟩ := h
    refine ⟨_, (pss_one (ps_if (pt_not (pt_val (C8.pe_c c_is_table hr (by decide) (by rfl) (pa_cons (pv 0) pa_nil)))) (pss_one ps_never) pss_nil)), ?_⟩
    exact ⟨_, rfl, v, M, S, G, rfl, hv, ok, fun H' sm => ⟨_, rfl, iteF (k H' sm)⟩⟩

/-! ### is_place, is_square -/
abbrev Far (x : Int) : Prop := -(10 ^ 60) ≤ x ∧ x ≤ 10 ^ 60
def spPlace : Sp := fun vs H Q _ => ∃ (a : Addr) (x y : Int), vs = [.ref a] ∧ H a = some (.tup [.int x, .int y]) ∧ Far x ∧ Far y ∧ Q (.bl true) H
theorem sc_is_place : FnScope ["value"] ["value"] (C8.fnScope (top 22)) := C8.fnScope_by (by decide +kernel)
theorem ok_is_place (T : Txt K mg CW CR CS CT CF) (c_is_in : Ca P w K mg base 1 "is_in" spIsIn) (F : C8.Def K mg "is_place" (top 22) f fd) (b : Binds K fd ["value"] []) : Ca P w K mg base 2 "is_place" spPlace := by
  refine C8.cal0 F b .nil sc_is_place (fun vs H Q E h => ?_) (fun cdv A outer s H vs Q E hr h => ?_)
  · obtain ⟨_, _, _, rfl, _⟩ := h; rfl
  · obtain ⟨a, x, y, rfl, ha, hx, hy, k⟩ := h
    refine ⟨_, (pss_cons (ps_if (PW.pt (pw_or (pt_not (pt_val (pe_callB call_isiB (by rfl) T.isi (by decide +kernel) (pa_cons (pv 0) (pa_cons (pe_bltn (by rfl) T.tuple boot_tuple (v := .ty "tuple") rfl) pa_nil))))) (pw_or1 (pt_cmpR op_ne (pe_callB (len_K K) (by rfl) T.len (by decide +kernel) (pa_cons (pv 0) pa_nil)) pe_int (nomark _))))) (pss_one (ps_ret pe_bl)) pss_nil)
      (pss_one (ps_ret (pe_and (C8.pe_c c_is_in hr (by decide) (by rfl) (pa_cons (pe_ix (ix_tupK K) (pv 0) pe_int (fun _ _ => rfl)) (pa_cons (pe_un un_neg (C8.pe_gc (by rfl) T.cFar)) (pa_cons (C8.pe_gc (by rfl) T.cFar) pa_nil)))) (pe_one (C8.pe_c c_is_in hr (by decide) (by rfl) (pa_cons (pe_ix (ix_tupK K) (pv 0) pe_int (fun _ _ => rfl)) (pa_cons (pe_un un_neg (C8.pe_gc (by rfl) T.cFar)) (pa_cons (C8.pe_gc (by rfl) T.cFar) pa_nil))))))))), ?_⟩
    refine ⟨_, rfl, _, _, _, _, rfl, .tup ha, k_tt, _, rfl, iteF ?_⟩
    refine ⟨_, rfl, _, _, rfl, .inr (SqT.of ha), rfl, _, rfl, iteF ?_⟩
    refine ⟨_, rfl, _, _, _, _, rfl, rfl, SqT.of ha, rfl, _, rfl, _, _, _, rfl, _, rfl, iteD hx ?_⟩
    refine ⟨_, rfl, _, _, _, _, rfl, rfl, SqT.of ha, rfl, _, rfl, _, _, _, rfl, ?_⟩
    rw [decide_eq_true hy]
    exact k
def spSquare : Sp := fun vs H Q _ => ∃ (a : Addr) (x y v G : Int), vs = [.ref a, .int G] ∧ H a = some (.tup [.int x, .int y, .int v]) ∧ Far x ∧ Far y ∧ 1 ≤ v ∧ v < G ∧ ∀ H', Same H H' → Q (.bl true) H'
theorem sc_is_square : FnScope ["value", "colours"] ["value", "colours"] (C8.fnScope (top 23)) := C8.fnScope_by (by decide +kernel)
theorem ok_is_square (T : Txt K mg CW CR CS CT CF) (c_is_in : Ca P w K mg base 1 "is_in" spIsIn) (c_is_place : Ca P w K mg base 2 "is_place" spPlace) (F : C8.Def K mg "is_square" (top 23) f fd) (b : Binds K fd ["value", "colours"] []) : Ca P w K mg base 3 "is_square" spSquare := by
  refine C8.cal0 F b .nil sc_is_square (fun vs H Q E h => ?_) (fun cdv A outer s H vs Q E hr h => ?_)
  · obtain ⟨_, _, _, _, _, rfl, _⟩ := h; rfl
  · obtain ⟨a, x, y, v, G, rfl, ha, hx, hy, h1, h2, k⟩ := h
    refine ⟨_, (pss_cons (ps_if (PW.pt (pw_or (pt_not (pt_val (pe_callB call_isiB (by rfl) T.isi (by decide +kernel) (pa_cons (pv 0) (pa_cons (pe_bltn (by rfl) T.tuple boot_tuple (v := .ty "tuple") rfl) pa_nil))))) (pw_or (pt_cmpR op_ne (pe_callB (len_K K) (by rfl) T.len (by decide +kernel) (pa_cons (pv 0) pa_nil)) pe_int (nomark _)) (pw_or1 (pt_not (pt_val (C8.pe_c c_is_place hr (by decide) (by rfl) (pa_cons (pe_slice (sl_tupK K) (pv 0) po_none (po_some pe_int)) pa_nil)))))))) (pss_one (ps_ret pe_bl)) pss_nil)
      (pss_one (ps_ret (C8.pe_c c_is_in hr (by decide) (by rfl) (pa_cons (pe_ix (ix_tupK K) (pv 0) pe_int (fun _ _ => rfl)) (pa_cons pe_int (pa_cons (pe_op op_sub (pv 1) pe_int) pa_nil))))))), ?_⟩
    refine ⟨_, rfl, _, _, _, _, rfl, .tup ha, k_tt, _, rfl, iteF ?_⟩
    refine ⟨_, rfl, _, _, rfl, .inr (SqT.of ha), rfl, _, rfl, iteF ?_⟩
    refine ⟨_, rfl, _, rfl, _, _, rfl, SqT.of ha, n32, fun p hp => ?_⟩
    have ha' : (upd H p (.tup (cutV [V.int x, V.int y, V.int v] none (some 2)))) a = some (.tup [.int x, .int y, .int v]) := by rw [upd_ne (ne_of_none ha hp)]; exact ha
    refine ⟨p, x, y, rfl, upd_same, hx, hy, _, rfl, iteF ?_⟩
    refine ⟨_, rfl, _, _, _, _, rfl, rfl, SqT.of ha', rfl, _, rfl, _, _, rfl, rfl, _, _, _, rfl, ?_⟩
    rw [decide_eq_true (by omega)]
    exact k _ (Same.new hp)
end
end TP
set_option Elab.async false
set_option linter.all false
set_option maxRecDepth 100000
set_option maxHeartbeats 4000000
namespace TP
open PySem PySem.Spec PyProof.Rows L2
section
variable {P : Program} {w : World} {K : PySem.W.Frag} {mg : Str → Option Value} {base : Heap} {CW CR CS CT CF : Addr} {f : Addr} {fd : FuncData}

/-! ### need_floor -/
structure FloorOk (S : List (Int × Int)) (G : Nat) : Prop where
  asc : S.Pairwise fun p q => p.1 < q.1
  col : ∀ p ∈ S, 1 ≤ p.2 ∧ p.2 < G
  far : ∀ p ∈ S, Far p.1
  few : S.length ≤ 4000
theorem floorD_at {H : Hp} {xs : List V} {S : List (Int × Int)} {i : Nat} {x : V} (h : RpAll H xs (S.map fun p => itD [p.1, 0, p.2])) (e : xs[i]? = some x) : ∃ q b, S[i]? = some q ∧ x = .ref b ∧ H b = some (.tup [.int q.1, .int 0, .int q.2]) := by
  obtain ⟨d, h1, h2⟩ := h.get' e
  rw [List.getElem?_map] at h1
  cases hr : S[i]? with
  | none => rw [hr] at h1; cases h1
  | some q =>
    rw [hr] at h1
    have h1 : itD [q.1, 0, q.2] = d := Option.some.inj h1
    rw [← h1] at h2
    obtain ⟨b, e2, h3⟩ := Rp.of_its h2
    exact ⟨q, b, rfl, e2, h3⟩
def spFloor : Sp := fun vs H Q _ => ∃ (v : V) (S : List (Int × Int)) (G : Nat), vs = [v, .int G] ∧ Rp H v (floorD S) ∧ FloorOk S G ∧ ∀ H', Same H H' → Q .non H'
theorem sc_need_floor : FnScope ["floor", "colours", "index", "square"] ["floor", "colours"] (C8.fnScope (top 24)) := C8.fnScope_by (by decide +kernel)
theorem ok_need_floor (T : Txt K mg CW CR CS CT CF) (c_is_square : Ca P w K mg base 3 "is_square" spSquare) (F : C8.Def K mg "need_floor" (top 24) f fd) (b : Binds K fd ["floor", "colours"] []) : Ca P w K mg base 4 "need_floor" spFloor := by
  refine C8.cal0 F b .nil sc_need_floor (fun vs H Q E h => ?_) (fun cdv A outer s H vs Q E hr h => ?_)
  · obtain ⟨_, _, _, rfl, _⟩ := h; rfl
  · obtain ⟨v, S, G, rfl, hv, ok, k⟩ := h
    obtain ⟨a, xs, rfl, ha, hxs⟩ := Rp.of_tup hv
    have hl : xs.length = S.length := by rw [hxs.length, List.length_map]
    have few := ok.few
    refine ⟨_, (pss_cons (ps_if (PW.pt (pw_or (pt_not (pt_val (pe_callB call_isiB (by rfl) T.isi (by decide +kernel) (pa_cons (pv 0) (pa_cons (pe_bltn (by rfl) T.tuple boot_tuple (v := .ty "tuple") rfl) pa_nil))))) (pw_or1 (pt_cmpR op_gt (pe_callB (len_K K) (by rfl) T.len (by decide +kernel) (pa_cons (pv 0) pa_nil)) (C8.pe_gc (by rfl) T.cSq) (nomark _))))) (pss_one ps_never) pss_nil)
      (pss_one (ps_for PassesOwn.never rfl (pi_enumT (by rfl) T.enum (pa_cons (pv 0) pa_nil)) (pg_tupK K (n := 2) rfl (pgs_cons (pg_name (i := 2) sc_need_floor.nd rfl (.inl rfl)) (pgs_cons (pg_name (i := 3) sc_need_floor.nd rfl (.inl rfl)) pgs_nil)))
        (pss_one (ps_if (PW.pt (pw_or (pt_not (pt_val (C8.pe_c c_is_square hr (by decide) (by rfl) (pa_cons (pv 3) (pa_cons (pv 1) pa_nil))))) (pw_or1 (PW.pt (pw_and (pt_cmpR op_gt (pv 2) pe_int (nomark _)) (pw_and1 (pt_cmpR (leT_K K (hu0 hr)) (pe_slice (sl_tupK K) (pv 3) po_none (po_some pe_int)) (pe_slice (sl_tupK K) (pe_ix (ix_tupK K) (pv 0) (pe_op op_sub (pv 2) pe_int) (fun _ _ => rfl)) po_none (po_some pe_int)) (nomark _)))))))) (pss_one ps_never) pss_nil))))), ?_⟩
    refine ⟨_, rfl, _, _, _, _, rfl, .tup ha, k_tt, _, rfl, iteF ?_⟩
    refine ⟨_, rfl, _, _, rfl, .inr (SqT.of ha), _, _, rfl, rfl, _, rfl, iteDF (by omega) ?_⟩
    refine ⟨_, rfl, a, xs, rfl, SqT.of ha, for_it (walk_enumT (K := K) (a := a) (xs := xs)) (fun i σ H' => Same H H' ∧ ∃ r1 r2 : Option V, σ = [some (.ref a), some (.int G), r1, r2]) ⟨Same.refl _, none, none, rfl⟩ (fun i σ H' _ h => SqT.of (h.1 _ _ ha)) ?_ ?_⟩
    · rintro i x σ H1 H2 hi ⟨sm, r1, r2, rfl⟩ ⟨p, x1, x2, rfl, hp, rfl, e1, e2⟩
      have e1 : V.int (i : Nat) = x1 := Option.some.inj e1
      subst e1
      obtain ⟨q, b, hq, rfl, hb⟩ := floorD_at hxs e2
      have hqm := List.mem_of_getElem? hq
      have hcol := ok.col q hqm
      have hfar := ok.far q hqm
      have smp : Same H (upd H1 p (.tup [.int (i : Nat), .ref b])) := sm.trans (Same.new hp)
      refine ⟨p, _, rfl, SqT.of upd_same, rfl, _, _, rfl, _, _, rfl, rfl, ?_⟩
      refine ⟨_, rfl, _, rfl, b, q.1, 0, q.2, G, rfl, smp _ _ hb, hfar, ⟨by decide, by decide⟩, hcol.1, hcol.2, fun H3 sm3 => ⟨_, rfl, iteF ?_⟩⟩
      have sm03 := smp.trans sm3
      refine ⟨_, rfl, _, _, rfl, rfl, _, rfl, ?_⟩
      by_cases h0 : (0 : Int) < (i : Nat)
      · refine iteD h0 ?_
        obtain ⟨j, rfl⟩ : ∃ j, i = j + 1 := ⟨i - 1, by omega⟩
        have hj : j < xs.length := by omega
        obtain ⟨q', b', hq', ex', hb'⟩ := floorD_at hxs (List.getElem?_eq_getElem hj)
        have lt : q'.1 < q.1 := by
          have hjS : j < S.length := by omega
          have hjS1 : j + 1 < S.length := by omega
          have e3 : S[j] = q' := by rw [List.getElem?_eq_getElem hjS] at hq'; exact Option.some.inj hq'
          have e4 : S[j + 1] = q := by rw [List.getElem?_eq_getElem hjS1] at hq; exact Option.some.inj hq
          have := (List.pairwise_iff_getElem.mp ok.asc) j (j + 1) hjS hjS1 (Nat.lt_succ_self _)
          rw [e3, e4] at this
          exact this
        refine ⟨_, rfl, _, rfl, b, _, rfl, SqT.of (sm03 _ _ hb), n32, fun p1 hp1 => ?_⟩
        have sm4 := sm03.trans (Same.new (o := .tup [.int q.1, .int 0]) hp1)
        refine ⟨_, rfl, _, rfl, _, _, rfl, rfl, a, xs, _, _, rfl, rfl, SqT.of (sm4 _ _ ha), at_of (j := j) (by omega) (List.getElem?_eq_getElem hj), _, rfl, ?_⟩
        rw [ex']
        refine ⟨b', _, rfl, SqT.of (sm4 _ _ hb'), n32, fun p2 hp2 => ?_⟩
        refine ⟨p1, p2, [q.1, 0], [q'.1, 0], rfl, rfl, SqT.of (show (upd (upd H3 p1 _) p2 _) p1 = _ by rw [upd_ne (ne_of_none upd_same hp2)]; exact upd_same), SqT.of upd_same, _, rfl, ?_⟩
        have e5 := le_pairs q.1 0 q'.1 0
        rw [show decide (q.1 < q'.1 ∨ q.1 = q'.1 ∧ (0 : Int) ≤ 0) = false from decide_eq_false (by omega)] at e5
        show if Ob.lexAt (fun j => decide ([q.1, 0].getD j 0 = [q'.1, 0].getD j 0)) (fun j => decide ([q.1, 0].getD j 0 ≤ [q'.1, 0].getD j 0)) (decide (2 ≤ 2)) 0 2 = true then _ else _
        rw [e5]
        exact iteF ⟨sm4.trans (Same.new hp2), _, _, rfl⟩
      · refine iteDF h0 (iteF ?_)
        exact ⟨sm03, _, _, rfl⟩
    · rintro σ H' ⟨sm, r1, r2, rfl⟩
      exact k H' sm

/-! ### is_walker, need_stand -/
structure WkOk (x y h s : Int) (S : Nat) : Prop where
  x : Far x
  y : Far y
  h : 0 ≤ h ∧ h ≤ 3
  s : 0 ≤ s ∧ s < S
def spWalker : Sp := fun vs H Q _ => ∃ (v u : V) (M : Mach) (S G : Nat) (x y h s : Int), vs = [v, u] ∧ Rp H v (gridD M) ∧ TabOk M S G ∧ Rp H u (itD [x, y, h, s]) ∧ WkOk x y h s S ∧ ∀ H', Same H H' → Q (.bl true) H'
theorem sc_is_walker : FnScope ["table", "value"] ["table", "value"] (C8.fnScope (top 29)) := C8.fnScope_by (by decide +kernel)
theorem ok_is_walker (T : Txt K mg CW CR CS CT CF) (c_is_in : Ca P w K mg base 1 "is_in" spIsIn) (c_is_place : Ca P w K mg base 2 "is_place" spPlace) (F : C8.Def K mg "is_walker" (top 29) f fd) (b : Binds K fd ["table", "value"] []) : Ca P w K mg base 3 "is_walker" spWalker := by
  refine C8.cal0 F b .nil sc_is_walker (fun vs H Q E h => ?_) (fun cdv A outer s H vs Q E hr h => ?_)
  · obtain ⟨_, _, _, _, _, _, _, _, _, rfl, _⟩ := h; rfl
  · obtain ⟨v, u, M, S, G, x, y, h, st, rfl, hv, ok, hu, wk, k⟩ := h
    obtain ⟨a, xs, rfl, ha, hl, hxs⟩ := gridD_inv hv
    rw [ok.grid.len] at hl
    obtain ⟨b, rfl, hb⟩ := Rp.of_its hu
    have wh := wk.h
    have ws := wk.s
    refine ⟨_, (pss_cons (ps_if (PW.pt (pw_or (pt_not (pt_val (pe_callB call_isiB (by rfl) T.isi (by decide +kernel) (pa_cons (pv 1) (pa_cons (pe_bltn (by rfl) T.tuple boot_tuple (v := .ty "tuple") rfl) pa_nil))))) (pw_or (pt_cmpR op_ne (pe_callB (len_K K) (by rfl) T.len (by decide +kernel) (pa_cons (pv 1) pa_nil)) pe_int (nomark _)) (pw_or1 (pt_not (pt_val (C8.pe_c c_is_place hr (by decide) (by rfl) (pa_cons (pe_slice (sl_tupK K) (pv 1) po_none (po_some pe_int)) pa_nil)))))))) (pss_one (ps_ret pe_bl)) pss_nil)
      (pss_one (ps_ret (pe_and (C8.pe_c c_is_in hr (by decide) (by rfl) (pa_cons (pe_ix (ix_tupK K) (pv 1) pe_int (fun _ _ => rfl)) (pa_cons pe_int (pa_cons pe_int pa_nil)))) (pe_one (C8.pe_c c_is_in hr (by decide) (by rfl) (pa_cons (pe_ix (ix_tupK K) (pv 1) pe_int (fun _ _ => rfl)) (pa_cons pe_int (pa_cons (pe_op op_sub (pe_callB (len_K K) (by rfl) T.len (by decide +kernel) (pa_cons (pv 0) pa_nil)) pe_int) pa_nil))))))))), ?_⟩
    refine ⟨_, rfl, _, _, _, _, rfl, .tup hb, k_tt, _, rfl, iteF ?_⟩
    refine ⟨_, rfl, _, _, rfl, .inr (SqT.of hb), rfl, _, rfl, iteF ?_⟩
    refine ⟨_, rfl, _, rfl, _, _, rfl, SqT.of hb, n42, fun p hp => ?_⟩
    have sm : Same H (upd H p (.tup (cutV ([x, y, h, st].map V.int) none (some 2)))) := Same.new hp
    refine ⟨p, x, y, rfl, upd_same, wk.x, wk.y, _, rfl, iteF ?_⟩
    refine ⟨_, rfl, _, _, _, _, rfl, rfl, SqT.of (sm _ _ hb), rfl, _, _, _, rfl, _, rfl, iteD wh ?_⟩
    refine ⟨_, rfl, _, _, _, _, rfl, rfl, SqT.of (sm _ _ hb), rfl, _, rfl, _, _, rfl, .inr (SqT.of (sm _ _ ha)), _, _, rfl, rfl, _, _, _, rfl, ?_⟩
    rw [decide_eq_true (by omega)]
    exact k _ sm
def spStand : Sp := fun vs H Q _ => ∃ (v fl u : V) (M : Mach) (S G : Nat) (Sq : List (Int × Int)) (x y h s : Int), vs = [v, fl, u] ∧ Rp H v (gridD M) ∧ TabOk M S G ∧ Rp H fl (floorD Sq) ∧ FloorOk Sq G ∧ Rp H u (itD [x, y, h, s]) ∧ WkOk x y h s S ∧ ∀ H', Same H H' → Q .non H'
theorem sc_need_stand : FnScope ["table", "floor", "walker"] ["table", "floor", "walker"] (C8.fnScope (top 30)) := C8.fnScope_by (by decide +kernel)
theorem ok_need_stand (T : Txt K mg CW CR CS CT CF) (c_need_table : Ca P w K mg base 4 "need_table" (spTable .non)) (c_need_floor : Ca P w K mg base 4 "need_floor" spFloor) (c_is_walker : Ca P w K mg base 3 "is_walker" spWalker)
    (F : C8.Def K mg "need_stand" (top 30) f fd) (b : Binds K fd ["table", "floor", "walker"] []) : Ca P w K mg base 5 "need_stand" spStand := by
  refine C8.cal0 F b .nil sc_need_stand (fun vs H Q E h => ?_) (fun cdv A outer s H vs Q E hr h => ?_)
  · obtain ⟨_, _, _, _, _, _, _, _, _, _, _, rfl, _⟩ := h; rfl
  · obtain ⟨v, fl, u, M, S, G, Sq, x, y, h, st, rfl, hv, ok, hf, fok, hu, wk, k⟩ := h
    refine ⟨_, (pss_cons (ps_expr (C8.pe_c c_need_table hr (by decide) (by rfl) (pa_cons (pv 0) pa_nil)))
      (pss_cons (ps_expr (C8.pe_c c_need_floor hr (by decide) (by rfl) (pa_cons (pv 1) (pa_cons (pe_callB (len_K K) (by rfl) T.len (by decide +kernel) (pa_cons (pe_ix (ix_tupK K) (pv 0) pe_int (fun _ _ => rfl)) pa_nil)) pa_nil))))
      (pss_one (ps_if (pt_not (pt_val (C8.pe_c c_is_walker hr (by decide) (by rfl) (pa_cons (pv 0) (pa_cons (pv 2) pa_nil))))) (pss_one ps_never) pss_nil)))), ?_⟩
    refine ⟨_, rfl, v, M, S, G, rfl, hv, ok, fun H1 s1 => ?_⟩
    have hv1 := Rp.keep (Same.tk s1) hv
    obtain ⟨a, xs, rfl, ha, hl, hxs⟩ := gridD_inv hv1
    obtain ⟨x0, hx0⟩ : ∃ x0, xs[0]? = some x0 := ⟨xs[0]'(by have := ok.s1; have := ok.grid.len; omega), List.getElem?_eq_getElem _⟩
    obtain ⟨r0, b0, ys0, h1, rfl, h3, h4, _⟩ := rowD_at hxs hx0
    refine ⟨_, rfl, _, rfl, a, xs, 0, _, rfl, rfl, SqT.of ha, at_of (j := 0) rfl hx0, _, _, rfl, .inr (SqT.of h3), fl, Sq, G, ?_, Rp.keep (Same.tk s1) hf, fok, fun H2 s2 => ?_⟩
    · rw [h4, ok.grid.row 0 r0 h1]; rfl
    · have s12 := s1.trans s2
      exact ⟨_, rfl, _, rfl, _, u, M, S, G, x, y, h, st, rfl, Rp.keep (Same.tk s12) hv, ok, Rp.keep (Same.tk s12) hu, wk, fun H3 s3 => ⟨_, rfl, iteF (k _ (s12.trans s3))⟩⟩
end
end TP
set_option Elab.async false
set_option linter.all false
set_option maxRecDepth 100000
set_option maxHeartbeats 4000000
namespace TP
open PySem PySem.Spec PyProof.Rows L2
section
variable {P : Program} {w : World} {K : PySem.W.Frag} {mg : Str → Option Value} {base : Heap} {CW CR CS CT CF : Addr} {f : Addr} {fd : FuncData}

/-! ### is_rule, need_machine, need_tape -/
def spRule : Sp := fun vs H Q _ => ∃ (v : V) (o : Rule) (S G : Int), vs = [v, .int S, .int G] ∧ Rp H v (trD o) ∧ (∀ a b c, o = some (a, b, c) → (0 ≤ a ∧ a < G) ∧ (b = 1 ∨ b = -1) ∧ (0 ≤ c ∧ c < S)) ∧ Q (.bl true) H
theorem sc_is_rule : FnScope ["rule", "states", "signs"] ["rule", "states", "signs"] (C8.fnScope (top 38)) := C8.fnScope_by (by decide +kernel)
theorem ok_is_rule (T : Txt K mg CW CR CS CT CF) (c_is_in : Ca P w K mg base 1 "is_in" spIsIn) (F : C8.Def K mg "is_rule" (top 38) f fd) (b : Binds K fd ["rule", "states", "signs"] []) : Ca P w K mg base 2 "is_rule" spRule := by
  refine C8.cal0 F b .nil sc_is_rule (fun vs H Q E h => ?_) (fun cdv A outer s H vs Q E hr h => ?_)
  · obtain ⟨_, _, _, _, rfl, _⟩ := h; rfl
  · obtain ⟨v, o, S, G, rfl, hv, ho, k⟩ := h
    refine ⟨_, (pss_cons (ps_if (pt_cmpR op_isN (pv 0) pe_non (nomark _)) (pss_one (ps_ret pe_bl)) pss_nil)
      (pss_cons (ps_if (PW.pt (pw_or (pt_not (pt_val (pe_callB call_isiB (by rfl) T.isi (by decide +kernel) (pa_cons (pv 0) (pa_cons (pe_bltn (by rfl) T.tuple boot_tuple (v := .ty "tuple") rfl) pa_nil))))) (pw_or (pt_cmpR op_ne (pe_callB (len_K K) (by rfl) T.len (by decide +kernel) (pa_cons (pv 0) pa_nil)) pe_int (nomark _)) (pw_or1 (pt_not (pt_val (C8.pe_c c_is_in hr (by decide) (by rfl) (pa_cons (pe_ix (ix_tupK K) (pv 0) pe_int (fun _ _ => rfl)) (pa_cons pe_int (pa_cons (pe_op op_sub (pv 2) pe_int) pa_nil)))))))))) (pss_one (ps_ret pe_bl)) pss_nil)
      (pss_one (ps_ret (pe_and (C8.pe_c c_is_in hr (by decide) (by rfl) (pa_cons (pe_ix (ix_tupK K) (pv 0) pe_int (fun _ _ => rfl)) (pa_cons (pe_un un_neg pe_int) (pa_cons pe_int pa_nil)))) (pe_and (pe_cmpR op_ne (pe_ix (ix_tupK K) (pv 0) pe_int (fun _ _ => rfl)) pe_int (nomark _)) (pe_one (C8.pe_c c_is_in hr (by decide) (by rfl) (pa_cons (pe_ix (ix_tupK K) (pv 0) pe_int (fun _ _ => rfl)) (pa_cons pe_int (pa_cons (pe_op op_sub (pv 1) pe_int) pa_nil))))))))))), ?_⟩
    cases o with
    | none =>
      rw [Rp.of_none hv]
      refine ⟨_, rfl, rfl, _, rfl, iteT ?_⟩
      exact k
    | some t =>
      obtain ⟨x, y, z⟩ := t
      obtain ⟨h1, h2, h3⟩ := ho x y z rfl
      obtain ⟨a, rfl, ha⟩ := Rp.of_its hv
      refine ⟨_, rfl, rfl, _, rfl, iteF ?_⟩
      refine ⟨_, rfl, _, _, _, _, rfl, .tup ha, k_tt, _, rfl, iteF ?_⟩
      refine ⟨_, rfl, _, _, rfl, .inr (SqT.of ha), rfl, _, rfl, iteF ?_⟩
      refine ⟨_, rfl, _, _, _, _, rfl, rfl, SqT.of ha, rfl, _, rfl, _, _, rfl, rfl, _, _, _, rfl, _, rfl, iteND (by omega) ?_⟩
      refine ⟨_, rfl, _, _, _, _, rfl, rfl, SqT.of ha, rfl, _, rfl, _, _, _, rfl, _, rfl, iteD (by omega) ?_⟩
      refine ⟨_, rfl, _, _, _, _, rfl, rfl, SqT.of ha, rfl, rfl, _, rfl, iteNDT (fun e => by have := V.int.inj e; omega) ?_⟩
      refine ⟨_, rfl, _, _, _, _, rfl, rfl, SqT.of ha, rfl, _, rfl, _, _, rfl, rfl, _, _, _, rfl, ?_⟩
      rw [decide_eq_true (by omega)]
      exact k
def spMachine : Sp := fun vs H Q _ => ∃ (v : V) (M : Mach) (S G : Nat), vs = [v] ∧ Rp H v (gridD M) ∧ Good M S G ∧ ∀ H', Same H H' → Q .non H'
theorem sc_need_machine : FnScope ["machine", "row", "rule"] ["machine"] (C8.fnScope (top 39)) := C8.fnScope_by (by decide +kernel)
theorem ok_need_machine (T : Txt K mg CW CR CS CT CF) (c_is_rule : Ca P w K mg base 2 "is_rule" spRule) (F : C8.Def K mg "need_machine" (top 39) f fd) (b : Binds K fd ["machine"] []) : Ca P w K mg base 3 "need_machine" spMachine := by
  refine C8.cal0 F b .nil sc_need_machine (fun vs H Q E h => ?_) (fun cdv A outer s H vs Q E hr h => ?_)
  · obtain ⟨_, _, _, _, rfl, _⟩ := h; rfl
  · obtain ⟨v, M, S, G, rfl, hv, ok, k⟩ := h
    obtain ⟨a, xs, rfl, ha, hl, hxs⟩ := gridD_inv hv
    rw [ok.len] at hl
    have s1 := ok.s1
    have s2 := ok.s2
    have g1 := ok.g1
    have g2 := ok.g2
    obtain ⟨b0, ys0, ha0, hb0, hl0⟩ : ∃ b0 ys0, xs[0]? = some (.ref b0) ∧ H b0 = some (.tup ys0) ∧ ys0.length = G := by
      obtain ⟨x0, hx0⟩ : ∃ x0, xs[0]? = some x0 := ⟨xs[0], List.getElem?_eq_getElem (by omega)⟩
      obtain ⟨r0, b0, ys0, h1, h2, h3, h4, _⟩ := rowD_at hxs hx0
      exact ⟨b0, ys0, by rw [hx0, h2], h3, by rw [h4, ok.row 0 r0 h1]⟩
    refine ⟨_, (pss_cons (ps_if (PW.pt (pw_or (pt_not (pt_val (pe_callB call_isiB (by rfl) T.isi (by decide +kernel) (pa_cons (pv 0) (pa_cons (pe_bltn (by rfl) T.tuple boot_tuple (v := .ty "tuple") rfl) pa_nil))))) (pw_or1 (pt_not (pt_chain op_le op_le pe_int (pe_callB (len_K K) (by rfl) T.len (by decide +kernel) (pa_cons (pv 0) pa_nil)) (C8.pe_gc (by rfl) T.cStM)))))) (pss_one ps_never) pss_nil)
      (pss_one (ps_for PassesOwn.never rfl (pi_tupK K (pv 0)) (pg_name (i := 1) sc_need_machine.nd rfl (.inr rfl))
        (pss_cons (ps_if (PW.pt (pw_or (pt_not (pt_val (pe_callB call_isiB (by rfl) T.isi (by decide +kernel) (pa_cons (pv 1) (pa_cons (pe_bltn (by rfl) T.tuple boot_tuple (v := .ty "tuple") rfl) pa_nil))))) (pw_or (pt_not (pt_chain op_le op_le pe_int (pe_callB (len_K K) (by rfl) T.len (by decide +kernel) (pa_cons (pv 1) pa_nil)) (C8.pe_gc (by rfl) T.cCol))) (pw_or1 (pt_cmpR op_ne (pe_callB (len_K K) (by rfl) T.len (by decide +kernel) (pa_cons (pv 1) pa_nil)) (pe_callB (len_K K) (by rfl) T.len (by decide +kernel) (pa_cons (pe_ix (ix_tupK K) (pv 0) pe_int (fun _ _ => rfl)) pa_nil)) (nomark _)))))) (pss_one ps_never) pss_nil)
      (pss_one (ps_if (pt_cmpR (neD_K K (hu64 hr)) (pe_lc (own := [("rule", 2)]) (by rfl) sc_need_machine.nd (pi_tupK K (pv 1)) (blkOk_by (own := [("rule", 2)]) (N := ["machine", "row", "rule"]) (sc := C8.fnScope (top 39)) (by decide +kernel)) (fun _ _ _ _ _ => (pg_name (i := 2) sc_need_machine.nd rfl (.inl rfl))) (fun _ _ _ _ _ => (pts_one (pt_not (pt_val (C8.pe_c c_is_rule hr (by decide) (by rfl) (pa_cons (pv 2) (pa_cons (pe_callB (len_K K) (by rfl) T.len (by decide +kernel) (pa_cons (pv 0) pa_nil)) (pa_cons (pe_callB (len_K K) (by rfl) T.len (by decide +kernel) (pa_cons (pv 1) pa_nil)) pa_nil)))))))) (fun _ _ _ _ _ => (pv 2))) (pe_lst pa_nil) (nomark _)) (pss_one ps_never) pss_nil)))))), ?_⟩
    refine ⟨_, rfl, _, _, _, _, rfl, .tup ha, k_tt, _, rfl, iteF ?_⟩
    refine ⟨_, rfl, _, _, rfl, .inr (SqT.of ha), _, _, rfl, rfl, _, rfl, iteD (by omega) ⟨_, _, rfl, rfl, _, rfl, iteND (by omega) ?_⟩⟩
    refine ⟨_, rfl, _, rfl, ⟨_, SqT.of ha⟩, for_tup (K := K) (a := a) (xs := xs) (fun i σ H' => Same H H' ∧ ∃ r : Option V, σ = [some (.ref a), r, none]) ⟨Same.refl _, none, rfl⟩ (fun i σ H' _ h => SqT.of (h.1 _ _ ha)) ?_ ?_⟩
    · rintro i x σ H' hi ⟨sm, r, rfl⟩
      obtain ⟨r, b, ys, hr1, rfl, hb, hbl, hys⟩ := rowD_at hxs hi
      have hg := ok.row i r hr1
      refine ⟨_, rfl, _, _, _, _, rfl, .tup (sm _ _ hb), k_tt, _, rfl, iteF ?_⟩
      refine ⟨_, rfl, _, _, rfl, .inr (SqT.of (sm _ _ hb)), _, _, rfl, rfl, _, rfl, iteD (by omega) ⟨_, _, rfl, rfl, _, rfl, iteND (by omega) ?_⟩⟩
      refine ⟨_, rfl, _, _, rfl, .inr (SqT.of (sm _ _ hb)), _, rfl, _, _, _, _, rfl, rfl, SqT.of (sm _ _ ha), at_of (j := 0) rfl ha0, _, _, rfl, .inr (SqT.of (sm _ _ hb0)), rfl, _, rfl, iteND (by rw [hbl, hg, hl0]) ?_⟩
      -- the rules of the row
      refine ⟨_, rfl, _, rfl, ⟨_, SqT.of (sm _ _ hb)⟩, fun D hD => lc_it (walk_tup (K := K) (a := b) (xs := ys)) (fun i H2 => Same H' H2 ∧ H2 D = some (.lst [])) ⟨Same.new hD, upd_same⟩ (fun i H2 _ h => SqT.of (h.1 _ _ (sm _ _ hb))) ?_ ?_⟩
      · rintro j y H4 H5 hj ⟨sm4, hd4⟩ ⟨rfl, hy⟩
        obtain ⟨o, ho1, ho2⟩ := trD_at hys hy
        have smH := sm.trans sm4
        refine ⟨rfl, _, rfl, _, rfl, _, _, rfl, .inr (SqT.of (smH _ _ ha)), _, rfl, _, _, rfl, .inr (SqT.of (smH _ _ hb)), ?_⟩
        refine ⟨_, o, _, _, rfl, Rp.keep (Same.tk smH) ho2, fun a b c e => ?_, _, rfl, iteF ⟨sm4, hd4⟩⟩
        have := ok.rule i j r a b c hr1 (by rw [ho1, e])
        omega
      · rintro H2 ⟨sm2, hd⟩
        refine ⟨Nat.zero_le _, fun p hp => ⟨.list [], .list [], dp_nil (by rw [upd_ne (ne_of_none hd hp)]; exact hd), dp_nil upd_same, shaped_nil, shaped_nil, _, rfl, iteF ?_⟩⟩
        exact ⟨(sm.trans sm2).trans (Same.new hp), _, rfl⟩
    · rintro σ H' ⟨sm, r, rfl⟩
      exact k H' sm
structure TapeOk (tape : List Int) (G : Nat) : Prop where
  few : tape.length ≤ 400
  in_ : ∀ x ∈ tape, 0 ≤ x ∧ x < G
def spTape : Sp := fun vs H Q _ => ∃ (v t : V) (M : Mach) (S G : Nat) (tape : List Int) (h q : Int), vs = [v, t, .int h, .int q] ∧ Rp H v (gridD M) ∧ Good M S G ∧ Rp H t (itD tape) ∧ TapeOk tape G ∧ Far h ∧ (0 ≤ q ∧ q < S) ∧ ∀ H', Same H H' → Q .non H'
theorem sc_need_tape : FnScope ["machine", "tape", "head", "state", "sign"] ["machine", "tape", "head", "state"] (C8.fnScope (top 40)) := C8.fnScope_by (by decide +kernel)
theorem ok_need_tape (T : Txt K mg CW CR CS CT CF) (c_is_in : Ca P w K mg base 1 "is_in" spIsIn) (c_is_place : Ca P w K mg base 2 "is_place" spPlace) (c_need_machine : Ca P w K mg base 3 "need_machine" spMachine) (F : C8.Def K mg "need_tape" (top 40) f fd) (b : Binds K fd ["machine", "tape", "head", "state"] []) : Ca P w K mg base 4 "need_tape" spTape := by
  refine C8.cal0 F b .nil sc_need_tape (fun vs H Q E h => ?_) (fun cdv A outer s H vs Q E hr h => ?_)
  · obtain ⟨_, _, _, _, _, _, _, _, rfl, _⟩ := h; rfl
  · obtain ⟨v, t, M, S, G, tape, h, q, rfl, hv0, ok, ht0, tok, hh, hq, k⟩ := h
    refine ⟨_, (pss_cons (ps_expr (C8.pe_c c_need_machine hr (by decide) (by rfl) (pa_cons (pv 0) pa_nil)))
      (pss_cons (ps_if (PW.pt (pw_or (pt_not (pt_val (pe_callB call_isiB (by rfl) T.isi (by decide +kernel) (pa_cons (pv 1) (pa_cons (pe_bltn (by rfl) T.tuple boot_tuple (v := .ty "tuple") rfl) pa_nil))))) (pw_or1 (pt_cmpR op_gt (pe_callB (len_K K) (by rfl) T.len (by decide +kernel) (pa_cons (pv 1) pa_nil)) (C8.pe_gc (by rfl) T.cTape) (nomark _))))) (pss_one ps_never) pss_nil)
      (pss_cons (ps_if (pt_cmpR (neD_K K (hu64 hr)) (pe_lc (own := [("sign", 4)]) (by rfl) sc_need_tape.nd (pi_tupK K (pv 1)) (blkOk_by (own := [("sign", 4)]) (N := ["machine", "tape", "head", "state", "sign"]) (sc := C8.fnScope (top 40)) (by decide +kernel)) (fun _ _ _ _ _ => (pg_name (i := 4) sc_need_tape.nd rfl (.inl rfl))) (fun _ _ _ _ _ => (pts_one (pt_not (pt_val (C8.pe_c c_is_in hr (by decide) (by rfl) (pa_cons (pv 4) (pa_cons pe_int (pa_cons (pe_op op_sub (pe_callB (len_K K) (by rfl) T.len (by decide +kernel) (pa_cons (pe_ix (ix_tupK K) (pv 0) pe_int (fun _ _ => rfl)) pa_nil)) pe_int) pa_nil)))))))) (fun _ _ _ _ _ => (pv 4))) (pe_lst pa_nil) (nomark _)) (pss_one ps_never) pss_nil)
      (pss_one (ps_if (PW.pt (pw_or (pt_not (pt_val (C8.pe_c c_is_place hr (by decide) (by rfl) (pa_cons (pe_tup (pa_cons (pv 2) (pa_cons pe_int pa_nil))) pa_nil)))) (pw_or1 (pt_not (pt_val (C8.pe_c c_is_in hr (by decide) (by rfl) (pa_cons (pv 3) (pa_cons pe_int (pa_cons (pe_op op_sub (pe_callB (len_K K) (by rfl) T.len (by decide +kernel) (pa_cons (pv 0) pa_nil)) pe_int) pa_nil))))))))) (pss_one ps_never) pss_nil))))), ?_⟩
    refine ⟨_, rfl, v, M, S, G, rfl, hv0, ok, fun H1 sm1 => ?_⟩
    have hv := Rp.keep (Same.tk sm1) hv0
    obtain ⟨a, xs, rfl, ha, hl, hxs⟩ := gridD_inv hv
    rw [ok.len] at hl
    have s1 := ok.s1
    obtain ⟨b0, ys0, ha0, hb0, hl0⟩ : ∃ b0 ys0, xs[0]? = some (.ref b0) ∧ H1 b0 = some (.tup ys0) ∧ ys0.length = G := by
      obtain ⟨x0, hx0⟩ : ∃ x0, xs[0]? = some x0 := ⟨xs[0], List.getElem?_eq_getElem (by omega)⟩
      obtain ⟨r0, b0, ys0, h1, h2, h3, h4, _⟩ := rowD_at hxs hx0
      exact ⟨b0, ys0, by rw [hx0, h2], h3, by rw [h4, ok.row 0 r0 h1]⟩
    obtain ⟨b, rfl, hb⟩ := Rp.of_its (Rp.keep (Same.tk sm1) ht0)
    have few := tok.few
    have bl : (tape.map V.int).length = tape.length := List.length_map _
    refine ⟨_, rfl, _, _, _, _, rfl, .tup hb, k_tt, _, rfl, iteF ?_⟩
    refine ⟨_, rfl, _, _, rfl, .inr (SqT.of hb), _, _, rfl, rfl, _, rfl, iteDF (by rw [bl]; omega) ?_⟩
    refine ⟨_, rfl, _, rfl, ⟨_, SqT.of hb⟩, fun D hD => lc_it (walk_tup (K := K) (a := b) (xs := tape.map V.int)) (fun i H2 => Same H1 H2 ∧ H2 D = some (.lst [])) ⟨Same.new hD, upd_same⟩ (fun i H2 _ h => SqT.of (h.1 _ _ hb)) ?_ ?_⟩
    · rintro j y H4 H5 hj ⟨sm4, hd4⟩ ⟨rfl, hy⟩
      obtain ⟨z, hz, rfl⟩ : ∃ z, tape[j]? = some z ∧ y = .int z := by
        rw [List.getElem?_map] at hy
        cases e : tape[j]? with
        | none => rw [e] at hy; cases hy
        | some z => rw [e] at hy; exact ⟨z, rfl, (Option.some.inj hy).symm⟩
      have := tok.in_ z (List.mem_of_getElem? hz)
      refine ⟨rfl, _, rfl, _, rfl, _, _, _, _, rfl, rfl, SqT.of (sm4 _ _ ha), at_of (j := 0) rfl ha0, _, _, rfl, .inr (SqT.of (sm4 _ _ hb0)), _, _, rfl, rfl, _, _, _, rfl, _, rfl, iteND (by omega) ⟨sm4, hd4⟩⟩
    · rintro H2 ⟨sm2, hd⟩
      refine ⟨Nat.zero_le _, fun p hp => ⟨.list [], .list [], dp_nil (by rw [upd_ne (ne_of_none hd hp)]; exact hd), dp_nil upd_same, shaped_nil, shaped_nil, _, rfl, iteF ?_⟩⟩
      have sm3 := (sm1.trans sm2).trans (Same.new (o := .lst []) hp)
      have sm13 := sm2.trans (Same.new (o := .lst []) hp)
      refine ⟨_, rfl, by show 2 ≤ sizeLine; decide, fun p2 hp2 => ⟨p2, h, 0, rfl, upd_same, hh, ⟨by decide, by decide⟩, _, rfl, iteF ?_⟩⟩
      refine ⟨_, rfl, _, rfl, _, _, rfl, .inr (SqT.of ((Same.new hp2) _ _ (sm13 _ _ ha))), _, _, rfl, rfl, _, _, _, rfl, _, rfl, iteND (by omega) ?_⟩
      exact k _ (sm3.trans (Same.new hp2))
end
end TP
set_option Elab.async false
set_option linter.all false
set_option maxRecDepth 100000
set_option maxHeartbeats 4000000
namespace TP
open PySem PySem.Spec PyProof.Rows L2
section
variable {P : Program} {w : World} {K : PySem.W.Frag} {mg : Str → Option Value} {base : Heap} {CW CR CS CT CF : Addr} {f : Addr} {fd : FuncData}

/-! ### squares_of, floor_of -/
def spSquares : Sp := fun vs H Q _ => ∃ (v : V) (S : List (Int × Int)), vs = [v] ∧ Rp H v (floorD S) ∧ (S.Pairwise fun p q => p.1 < q.1) ∧ S.length ≤ 10000 ∧ ∀ H' d, Same H H' → H d = none → H' d = some (.dT (encS S)) → Q (.ref d) H'
theorem sc_squares_of : FnScope ["floor", "square"] ["floor"] (C8.fnScope (top 25)) := C8.fnScope_by (by decide +kernel)
theorem ok_squares_of (T : Txt K mg CW CR CS CT CF) (F : C8.Def K mg "squares_of" (top 25) f fd) (b : Binds K fd ["floor"] []) : Ca P w K mg base 1 "squares_of" spSquares := by
  refine C8.cal0 F b .nil sc_squares_of (fun vs H Q E h => ?_) (fun cdv A outer s H vs Q E hr h => ?_)
  · obtain ⟨_, _, rfl, _⟩ := h; rfl
  · obtain ⟨v, S, rfl, hv, asc, few, k⟩ := h
    obtain ⟨a, xs, rfl, ha, hxs⟩ := Rp.of_tup hv
    have hl : xs.length = S.length := by rw [hxs.length, List.length_map]
    refine ⟨_, (pss_one (ps_ret (pe_dcT (own := [("square", 1)]) (hu20 hr) (by rfl) sc_squares_of.nd (pi_tupK K (pv 0)) (blkOk_by (own := [("square", 1)]) (N := ["floor", "square"]) (sc := C8.fnScope (top 25)) (by decide +kernel)) (fun _ _ _ _ _ => (pg_name (i := 1) sc_squares_of.nd rfl (.inl rfl))) (fun _ _ _ _ _ => (pe_slice (sl_tupK K) (pv 1) po_none (po_some pe_int))) (fun _ _ _ _ _ => (pe_ix (ix_tupK K) (pv 1) pe_int (fun _ _ => rfl)))))), ?_⟩
    refine ⟨_, rfl, _, rfl, ⟨_, SqT.of ha⟩, fun D hD => dcT_it (walk_tup (K := K) (a := a) (xs := xs)) (fun i H2 => Same H H2 ∧ H2 D = some (.dT (encS (S.take i)))) ⟨Same.new hD, upd_same⟩ (fun i H2 _ h => SqT.of (h.1 _ _ ha)) ?_ ?_⟩
    · rintro i x H1 H2 hi ⟨sm, hd⟩ ⟨rfl, hx⟩
      obtain ⟨q, b, hq, rfl, hb⟩ := floorD_at hxs hx
      refine ⟨rfl, _, rfl, _, rfl, b, _, rfl, SqT.of (sm _ _ hb), n32, fun p hp => ?_⟩
      have smp := sm.trans (Same.new (o := .tup (cutV [V.int q.1, V.int 0, V.int q.2] none (some 2))) hp)
      have npD : D ≠ p := ne_of_none hd hp
      have hiS : i < S.length := by omega
      have e3 : S[i] = q := by rw [List.getElem?_eq_getElem hiS] at hq; exact Option.some.inj hq
      refine ⟨_, rfl, _, _, _, _, rfl, rfl, SqT.of (smp _ _ hb), rfl, _, pk q.1, p, rfl, upd_same, by rw [upd_ne npD]; exact hd, small1000' ?_, ?_⟩
      · unfold encS
        rw [List.length_map, List.length_take]
        omega
      · have fresh : q.1 ∉ (S.take i).map (·.1) := fun hm => by
          obtain ⟨r, hr, e⟩ := List.mem_map.mp hm
          obtain ⟨j, hj, e4⟩ := List.getElem_of_mem hr
          rw [List.length_take] at hj
          rw [List.getElem_take] at e4
          have := (List.pairwise_iff_getElem.mp asc) j i (by omega) hiS (by omega)
          rw [e3, e4] at this
          omega
        refine ⟨Same.wr smp hD, ?_⟩
        · rw [upd_same, putK_new _ (look_none fresh), List.take_add_one, hq]
          unfold encS
          rw [List.map_append]
          rfl
    · rintro H2 ⟨sm, hd⟩
      rw [hl, List.take_length] at hd
      exact k H2 D sm hD hd
/-- what the dict at d holds: the floor g -/
def spFloorOf : Sp := fun vs H Q _ => ∃ (d : Addr) (L : List (Int × Int)) (g : Int → Int), vs = [.ref d] ∧ H d = some (.dT (encS L)) ∧ SqRep L g ∧ L.length ≤ 10000 ∧ ∀ H' v S, Same H H' → Canon g S → Rp H' v (floorD S) → Q v H'
theorem par_get {α β : Type} {F : α → β → Prop} : ∀ {as : List α} {bs : List β} {j : Nat} {b : β}, Paired F as bs → bs[j]? = some b → ∃ a, as[j]? = some a ∧ F a b
  | _, _, j, b, .nil, e => by simp at e
  | _, _, 0, b, .cons h t, e => by
    simp at e
    subst e
    exact ⟨_, rfl, h⟩
  | _, _, j + 1, b, .cons h t, e => by
    obtain ⟨a, h1, h2⟩ := par_get (j := j) (b := b) t (by simpa using e)
    exact ⟨a, by simpa using h1, h2⟩
theorem sc_floor_of : FnScope ["squares", "place"] ["squares"] (C8.fnScope (top 26)) := C8.fnScope_by (by decide +kernel)
theorem ok_floor_of (T : Txt K mg CW CR CS CT CF) (F : C8.Def K mg "floor_of" (top 26) f fd) (b : Binds K fd ["squares"] []) : Ca P w K mg base 1 "floor_of" spFloorOf := by
  refine C8.cal0 F b .nil sc_floor_of (fun vs H Q E h => ?_) (fun cdv A outer s H vs Q E hr h => ?_)
  · obtain ⟨_, _, _, rfl, _⟩ := h; rfl
  · obtain ⟨d, L, g, rfl, hd, rep, few, k⟩ := h
    refine ⟨_, (pss_one (ps_ret (pe_callTy (tup_K K) (by rfl) T.tuple (by decide +kernel) (pa_cons (pe_lc (own := [("place", 1)]) (by rfl) sc_floor_of.nd (pi_listK K (pe_callB (cr_sortT (by rfl) (hu64 hr)) (by rfl) T.sorted (by decide +kernel) (pa_cons (pe_bm0 PySem.F.plainAttrs_dict PySem.F.slot_dict_keys PySem.F.type_dict_keys mt_keysV (pv 0)) pa_nil))) (blkOk_by (own := [("place", 1)]) (N := ["squares", "place"]) (sc := C8.fnScope (top 26)) (by decide +kernel)) (fun _ _ _ _ _ => (pg_name (i := 1) sc_floor_of.nd rfl (.inl rfl))) (fun _ _ _ _ _ => (pts_one (pt_cmpR op_ne (pe_dget (hu1 hr) (pv 0) (pv 1) (fun _ _ => rfl)) pe_int (nomark _)))) (fun _ _ _ _ _ => (pe_op (catT_K K) (pv 1) (pe_tup (pa_cons (pe_dget (hu1 hr) (pv 0) (pv 1) (fun _ _ => rfl)) pa_nil))))) pa_nil)))), ?_⟩
    refine ⟨_, rfl, .inr (.inr (.inl ⟨rfl, .inr ⟨_, hd⟩⟩)), d, rfl, rfl, .inr ⟨_, hd⟩, fun p hp => ?_⟩
    have dp : d ≠ p := ne_of_none hd hp
    have s1 : Same H (upd H p (keysO p d)) := Same.new hp
    refine ⟨p, d, _, L.map (·.1), rfl, upd_same, s1 _ _ hd, by unfold encS; rw [List.map_map, List.map_map]; rfl, fun D as hD pr => ?_⟩
    generalize hks : (L.map (·.1)).mergeSort leI = ks at pr
    have kl : ks.length = L.length := by rw [← hks, List.length_mergeSort, List.length_map]
    have al : (as.map V.ref).length = ks.length := by rw [List.length_map]; exact Paired.length pr
    have s2 : Same H (upd (upd H p (keysO p d)) D (.lst (as.map V.ref))) := s1.trans (Same.new hD)
    refine ⟨D, rfl, ⟨_, SqL.of upd_same⟩, fun D2 hD2 => lc_it (walk_list (K := K) (a := D) (xs := as.map V.ref)) (fun i H2 => Same H H2 ∧ Same (upd (upd H p (keysO p d)) D (.lst (as.map V.ref))) H2 ∧ ∃ out, H2 D2 = some (.lst out) ∧ RpAll H2 out ((canon g (ks.take i)).map fun p => itD [p.1, 0, p.2]))
      ⟨s2.trans (Same.new hD2), Same.new hD2, [], upd_same, .nil⟩ (fun i H2 _ h => SqL.of (h.2.1 _ _ upd_same)) ?_ ?_⟩
    · rintro i x H1 H2 hi ⟨sm, sm2, out, ho, hout⟩ ⟨rfl, hx⟩
      have hik : i < ks.length := by omega
      have hki : ks[i]? = some ks[i] := List.getElem?_eq_getElem hik
      obtain ⟨q, hq, hqt⟩ := par_get pr hki
      have ex : x = .ref q := by
        rw [List.getElem?_map, hq] at hx
        exact (Option.some.inj hx).symm
      subst ex
      have hqt2 : H2 q = some (.tup [.int ks[i], .int 0]) := sm2 _ _ ((Same.new hD) _ _ hqt)
      have mem : ks[i] ∈ L.map (·.1) := by
        rw [← List.mem_mergeSort (le := leI), hks]
        exact List.getElem_mem hik
      obtain ⟨pq, hpq, epq⟩ := List.mem_map.mp mem
      have hv : valV (encS L) (pk ks[i]) = some (.int (g ks[i])) := by
        rw [valV_enc, ← epq, find_mem rep.nd hpq, ← rep.val, look_mem rep.nd hpq]
        rfl
      have dg : DGet H2 d (.ref q) (some (.int (g ks[i]))) := by rw [← hv]; exact DGet.t (sm _ _ hd) hqt2
      refine ⟨rfl, _, rfl, _, rfl, d, _, rfl, dg, rfl, _, rfl, ?_⟩
      have st : ks.take (i + 1) = ks.take i ++ [ks[i]] := by rw [List.take_add_one, hki]; rfl
      by_cases hz : g ks[i] = 0
      · refine iteND (by rw [hz]) ⟨sm, sm2, out, ho, ?_⟩
        rw [st, canon_snoc, if_pos hz, List.append_nil]
        exact hout
      · refine iteNDT (fun e => hz (V.int.inj e)) ?_
        refine ⟨_, rfl, _, rfl, _, rfl, d, _, rfl, dg, Nat.succ_le_of_lt (by decide), fun p1 hp1 => ?_⟩
        have g1 := Same.new (o := .tup [V.int (g ks[i])]) hp1
        refine ⟨q, p1, _, _, rfl, rfl, SqT.of (g1 _ _ hqt2), SqT.of upd_same, by simp, by show 2 + 1 ≤ sizeLine; decide, fun e => by simp at e, fun _ p2 hp2 => ?_⟩
        have g2 := g1.trans (Same.new (o := .tup ([V.int ks[i], V.int 0] ++ [V.int (g ks[i])])) hp2)
        have n2 : D2 ≠ p2 := ne_of_none (g1 _ _ ho) hp2
        have nD : H D2 = none := s2.free hD2
        have g3 := g2
        refine ⟨out, g2 _ _ ho, small1000' ?_, Same.wr (sm.trans g2) nD, Same.wr (sm2.trans g2) hD2, _, upd_same, ?_⟩
        · have : out.length = (canon g (ks.take i)).length := by rw [hout.length, List.length_map]
          rw [this]
          have h1 : (canon g (ks.take i)).length ≤ (ks.take i).length := by
            unfold canon
            refine Nat.le_trans (List.length_filter_le _ _) ?_
            rw [List.length_map]
            exact Nat.le_refl _
          have h2 : (ks.take i).length ≤ ks.length := by rw [List.length_take]; omega
          omega
        · rw [st, canon_snoc, if_neg hz, List.map_append]
          have tk : TK H2 (upd (upd (upd H2 p1 (.tup [V.int (g ks[i])])) p2 (.tup ([V.int ks[i], V.int 0] ++ [V.int (g ks[i])]))) D2 (.lst (out ++ [V.ref p2]))) :=
            TK.trans (Same.tk g2) (TK.write (g2 _ _ ho) fun xs z => by cases z)
          refine RpAll.snoc (RpAll.keep tk hout) (Rp.its ?_)
          rw [upd_ne n2.symm, upd_same]
          rfl
    · rintro H2 ⟨sm, sm2, out, ho, hout⟩
      rw [al, List.take_length] at hout
      refine ⟨D2, out, rfl, .inl ⟨SqL.of ho, fun l hl => ?_⟩⟩
      have cn := rep.canon
      rw [hks] at cn
      exact k _ _ _ (sm.trans (Same.new hl)) cn (.tup upd_same (RpAll.keep (Same.tk (Same.new hl)) hout))
end
end TP
set_option Elab.async false
set_option linter.all false
set_option maxRecDepth 100000
set_option maxHeartbeats 4000000
namespace TP
open PySem PySem.Spec PyProof.Rows L2
def wf (t : V) (d pl : Addr) (h s n : Int) : List (Str × V) := [("table", t), ("squares", .ref d), ("place", .ref pl), ("heading", .int h), ("state", .int s), ("done", .int n)]
structure CfgOk (c : Cfg) (S G : Nat) : Prop where
  col : ∀ x, 0 ≤ c.f x ∧ c.f x < G
  st : 0 ≤ c.q ∧ c.q < S
theorem CfgOk.step {M : Mach} {S G : Nat} {c c' : Cfg} (g : Good M S G) (k : CfgOk c S G) (h : stepC M c = some c') : CfgOk c' S G := by
  obtain ⟨w, m, q, hr, rfl⟩ := rl_of_step h
  obtain ⟨r, h1, h2⟩ := g.grid.at k.st.1 k.st.2 (k.col c.x).1 (k.col c.x).2
  rw [hr] at h2
  obtain ⟨a1, a2, a3⟩ := g.rule _ _ _ _ _ _ h1 h2
  refine ⟨fun x => ?_, a3⟩
  show 0 ≤ setF c.f c.x w x ∧ setF c.f c.x w x < G
  unfold setF
  split
  · exact a1
  · exact k.col x
theorem rl_mv {M : Mach} {S G : Nat} {q c w m q' : Int} (g : Good M S G) (h : rl M q c = some (w, m, q')) : (0 ≤ w ∧ w < G) ∧ (m = 1 ∨ m = -1) ∧ (0 ≤ q' ∧ q' < S) := by
  unfold rl at h
  cases h1 : M[q.toNat]? with
  | none => rw [h1] at h; cases h
  | some r =>
    rw [h1] at h
    have h : (r[c.toNat]?).getD none = some (w, m, q') := h
    cases h2 : r[c.toNat]? with
    | none => rw [h2] at h; cases h
    | some o =>
      rw [h2] at h
      have h : o = some (w, m, q') := h
      rw [h] at h2
      exact g.rule _ _ _ _ _ _ h1 h2
/-- a Walk stands at p, its squares at d: it is at c, n steps done, at most B squares painted -/
structure WalkAt (CW : Addr) (M : Mach) (S G : Nat) (H : Hp) (p d : Addr) (c : Cfg) (n B : Nat) : Prop where
  good : Good M S G
  ok : CfgOk c S G
  ob : ∃ dx t pl, H p = some (.ins CW dx (wf t d pl (hdg c.b) (sd c.q c.b) n)) ∧ H pl = some (.tup [.int c.x, .int 0]) ∧ Rp H t (gridD (tabOf M))
  dc : ∃ L, H d = some (.dT (encS L)) ∧ SqRep L c.f ∧ L.length ≤ B
theorem WalkAt.ne {CW : Addr} {M : Mach} {S G : Nat} {H : Hp} {p d : Addr} {c : Cfg} {n B : Nat} (W : WalkAt CW M S G H p d c n B) : p ≠ d := by
  obtain ⟨dx, t, pl, h1, _⟩ := W.ob
  obtain ⟨L, h2, _⟩ := W.dc
  exact ne_of h1 h2 fun z => by cases z
/-- all but what stands at p and d is as it was -/
def But2 (H H' : Hp) (p d : Addr) : Prop := ∀ b o, H b = some o → b ≠ p → b ≠ d → H' b = some o
theorem But2.of {H H' : Hp} (s : Same H H') (p d : Addr) : But2 H H' p d := fun b o h _ _ => s b o h
theorem But2.trans {H H1 H2 : Hp} {p d : Addr} (a : But2 H H1 p d) (b : But2 H1 H2 p d) : But2 H H2 p d := fun c o h h1 h2 => b c o (a c o h h1 h2) h1 h2
theorem WalkAt.keep {CW : Addr} {M : Mach} {S G : Nat} {H H' : Hp} {p d : Addr} {c : Cfg} {n B : Nat} (W : WalkAt CW M S G H p d c n B) (s : Same H H') : WalkAt CW M S G H' p d c n B := by
  obtain ⟨dx, t, pl, h1, h2, h3⟩ := W.ob
  obtain ⟨L, h4, h5, h6⟩ := W.dc
  exact ⟨W.good, W.ok, ⟨dx, t, pl, s _ _ h1, s _ _ h2, Rp.keep (Same.tk s) h3⟩, ⟨L, s _ _ h4, h5, h6⟩⟩
theorem WalkAt.mono {CW : Addr} {M : Mach} {S G : Nat} {H : Hp} {p d : Addr} {c : Cfg} {n B B' : Nat} (W : WalkAt CW M S G H p d c n B) (h : B ≤ B') : WalkAt CW M S G H p d c n B' := by
  obtain ⟨L, h4, h5, h6⟩ := W.dc
  exact ⟨W.good, W.ok, W.ob, ⟨L, h4, h5, by omega⟩⟩
theorem WalkAt.tk {CW : Addr} {M : Mach} {S G : Nat} {H H' : Hp} {p d : Addr} {c : Cfg} {n B : Nat} (W : WalkAt CW M S G H p d c n B) (b : But2 H H' p d) : TK H H' := by
  obtain ⟨dx, t, pl, h1, _⟩ := W.ob
  obtain ⟨L, h2, _⟩ := W.dc
  exact fun q xs h => b q _ h (ne_of h h1 fun z => by cases z) (ne_of h h2 fun z => by cases z)
section
variable {P : Program} {w : World} {K : PySem.W.Frag} {mg : Str → Option Value} {base : Heap} {CW CR CS CT CF : Addr} {f : Addr} {fd : FuncData}
abbrev Me (P : Program) (w : World) (K : PySem.W.Frag) (mg : Str → Option Value) (base : Heap) (k : Nat) (C : Addr) (m : Str) (sp : Sp) := C8.Met P w K mg base k C m sp []
abbrev Ma (P : Program) (w : World) (K : PySem.W.Frag) (mg : Str → Option Value) (base : Heap) (k : Nat) (x : Str) (C : Addr) (sp : Sp) := C8.Mak P w K mg base k x C sp []

/-! ### Walk.__init__ -/
def spWalkInit (CW : Addr) : Sp := fun vs H Q _ => ∃ (p dx : Addr) (t fl wk : V) (M : Mach) (S G : Nat) (Sq : List (Int × Int)) (c : Cfg), vs = [.ref p, t, fl, wk] ∧ H p = some (.ins CW dx []) ∧ Rp H t (gridD (tabOf M)) ∧ Rp H fl (floorD Sq) ∧ Rp H wk (walkerD c) ∧
  Good M S G ∧ CfgOk c S G ∧ Canon c.f Sq ∧ Sq.length ≤ 3000 ∧ ∀ H' d, WalkAt CW M S G H' p d c 0 Sq.length → H d = none → (∀ b o, H b = some o → b ≠ p → H' b = some o) → Q .non H'
theorem sc_Walk_init : FnScope ["self", "table", "floor", "walker"] ["self", "table", "floor", "walker"] (C8.fnScope (meth 31 0)) := C8.fnScope_by (by decide +kernel)
theorem ok_Walk (T : Txt K mg CW CR CS CT CF) (c_squares_of : Ca P w K mg base 1 "squares_of" spSquares) (Mk : Mk K CW f) (hm : mg "Walk" = some (.ref CW)) (F : C8.Fun K "__init__" "Walk.__init__" (meth 31 0) f fd) (b : Binds K fd ["self", "table", "floor", "walker"] []) :
    Ma P w K mg base 2 "Walk" CW (spWalkInit CW) := by
  refine C8.mak0 Mk hm F b .nil sc_Walk_init (fun vs H Q E h => ?_) (fun cdv A outer s H vs Q E hr h => ?_)
  · obtain ⟨_, _, _, _, _, _, _, _, _, _, rfl, _⟩ := h; rfl
  · obtain ⟨p, dx, t, fl, wk, M, S, G, Sq, c, rfl, hp, ht, hf, hw, good, ok, can, few, k⟩ := h
    obtain ⟨a, rfl, ha⟩ := Rp.of_its hw
    refine ⟨_, (pss_cons (ps_fld (pv 0) (pv 1) rfl)
      (pss_cons (ps_fld (pv 0) (C8.pe_c c_squares_of hr (by decide) (by rfl) (pa_cons (pv 2) pa_nil)) rfl)
      (pss_cons (ps_fld (pv 0) (pe_slice (sl_tupK K) (pv 3) po_none (po_some pe_int)) rfl)
      (pss_cons (ps_fld (pv 0) (pe_ix (ix_tupK K) (pv 3) pe_int (fun _ _ => rfl)) rfl)
      (pss_cons (ps_fld (pv 0) (pe_ix (ix_tupK K) (pv 3) pe_int (fun _ _ => rfl)) rfl)
      (pss_one (ps_fld (pv 0) pe_int rfl))))))), ?_⟩
    refine ⟨_, rfl, _, rfl, p, CW, dx, _, rfl, hp, T.wC, T.wTable, (by show 0 < 1000; decide), ?_⟩
    have tk1 : TK H (upd H p (.ins CW dx (putF "table" t []))) := TK.write hp fun xs z => by cases z
    refine ⟨_, rfl, fl, Sq, rfl, Rp.keep tk1 hf, can.asc, by omega, fun H1 d s1 nd hd => ?_⟩
    have npd : p ≠ d := ne_of_none upd_same nd
    have hp1 := s1 _ _ upd_same
    refine ⟨_, rfl, p, CW, dx, _, rfl, hp1, T.wC, T.wSquares, (by show 1 < 1000; decide), ?_⟩
    generalize hH2 : upd H1 p (.ins CW dx (putF "squares" (.ref d) (putF "table" t []))) = H2
    have hp2 : H2 p = some (.ins CW dx (putF "squares" (.ref d) (putF "table" t []))) := by rw [← hH2]; exact upd_same
    have tk2 : TK H H2 := by
      rw [← hH2]
      exact TK.trans tk1 (TK.trans (Same.tk s1) (TK.write hp1 fun xs z => by cases z))
    have hd2 : H2 d = some (.dT (encS Sq)) := by rw [← hH2, upd_ne npd.symm]; exact hd
    refine ⟨_, rfl, _, rfl, a, _, rfl, SqT.of (tk2 _ _ ha), n42, fun pl npl => ?_⟩
    have np : p ≠ pl := ne_of_none hp2 npl
    have nd2 : d ≠ pl := ne_of_none hd2 npl
    have g3 : Same H2 (upd H2 pl (.tup (cutV ([c.x, 0, hdg c.b, sd c.q c.b].map V.int) none (some 2)))) := Same.new npl
    refine ⟨_, rfl, p, CW, dx, _, rfl, g3 _ _ hp2, T.wC, T.wPlace, (by show 2 < 1000; decide), ?_⟩
    generalize hH3 : upd (upd H2 pl (.tup (cutV ([c.x, 0, hdg c.b, sd c.q c.b].map V.int) none (some 2)))) p (.ins CW dx (putF "place" (.ref pl) (putF "squares" (.ref d) (putF "table" t [])))) = H3
    have hp3 : H3 p = some (.ins CW dx (putF "place" (.ref pl) (putF "squares" (.ref d) (putF "table" t [])))) := by rw [← hH3]; exact upd_same
    have tk3 : TK H H3 := by
      rw [← hH3]
      exact TK.trans tk2 (TK.trans (Same.tk g3) (TK.write (g3 _ _ hp2) fun xs z => by cases z))
    have hpl3 : H3 pl = some (.tup [.int c.x, .int 0]) := by
      rw [← hH3, upd_ne np.symm, upd_same]
      rfl
    have hd3 : H3 d = some (.dT (encS Sq)) := by rw [← hH3, upd_ne npd.symm]; exact g3 _ _ hd2
    refine ⟨_, rfl, _, _, _, _, rfl, rfl, SqT.of (tk3 _ _ ha), rfl, _, rfl, p, CW, dx, _, rfl, hp3, T.wC, T.wHeading, (by show 3 < 1000; decide), ?_⟩
    have tk4 : TK H (upd H3 p (.ins CW dx (putF "heading" (.int (hdg c.b)) (putF "place" (.ref pl) (putF "squares" (.ref d) (putF "table" t [])))))) := TK.trans tk3 (TK.write hp3 fun xs z => by cases z)
    refine ⟨_, rfl, _, _, _, _, rfl, rfl, SqT.of (tk4 _ _ ha), rfl, _, rfl, p, CW, dx, _, rfl, upd_same, T.wC, T.wState, (by show 4 < 1000; decide), ?_⟩
    refine ⟨_, rfl, p, CW, dx, _, rfl, upd_same, T.wC, T.wDone, (by show 5 < 1000; decide), ?_⟩
    have nd0 : H d = none := by
      have : upd H p (.ins CW dx (putF "table" t [])) d = none := nd
      rw [upd_ne npd.symm] at this
      exact this
    refine k _ d ⟨good, ok, ⟨dx, t, pl, upd_same, ?_, ?_⟩, ⟨Sq, ?_, can.rep, Nat.le_refl _⟩⟩ nd0 fun b o hb nb => ?_
    · rw [upd_ne np.symm, upd_ne np.symm, upd_ne np.symm]
      exact hpl3
    · exact Rp.keep (TK.trans (TK.trans tk4 (TK.write upd_same fun xs z => by cases z)) (TK.write upd_same fun xs z => by cases z)) ht
    · rw [upd_ne npd.symm, upd_ne npd.symm, upd_ne npd.symm]
      exact hd3
    · rw [upd_ne nb, upd_ne nb, upd_ne nb, ← hH3, upd_ne nb]
      refine g3 _ _ ?_
      rw [← hH2, upd_ne nb]
      refine s1 _ _ ?_
      rw [upd_ne nb]
      exact hb
end
end TP
set_option Elab.async false
set_option linter.all false
set_option maxRecDepth 100000
set_option maxHeartbeats 4000000
namespace TP
open PySem PySem.Spec PyProof.Rows L2
section
variable {P : Program} {w : World} {K : PySem.W.Frag} {mg : Str → Option Value} {base : Heap} {CW CR CS CT CF : Addr} {f : Addr} {fd : FuncData}

/-! ### Walk.colour, .entry, .walker -/
def spColour (CW : Addr) : Sp := fun vs H Q _ => ∃ (p d : Addr) (M : Mach) (S G : Nat) (c : Cfg) (n B : Nat), vs = [.ref p] ∧ WalkAt CW M S G H p d c n B ∧ Q (.int (c.f c.x)) H
theorem sc_Walk_colour : FnScope ["self"] ["self"] (C8.fnScope (meth 31 1)) := C8.fnScope_by (by decide +kernel)
theorem ok_Walk_colour (T : Txt K mg CW CR CS CT CF) (me : Meth K CW "colour" f) (F : C8.Fun K "colour" "Walk.colour" (meth 31 1) f fd) (b : Binds K fd ["self"] []) : Me P w K mg base 1 CW "colour" (spColour CW) := by
  refine C8.met0 T.wC me F b sc_Walk_colour (fun vs H Q E h => ?_) (fun cdv A outer s H vs Q E hr h => ?_)
  · obtain ⟨_, _, _, _, _, _, _, _, rfl, _⟩ := h; rfl
  · obtain ⟨p, d, M, S, G, c, n, B, rfl, W, k⟩ := h
    obtain ⟨dx, t, pl, h1, h2, h3⟩ := W.ob
    obtain ⟨L, h4, h5, h6⟩ := W.dc
    refine ⟨_, (pss_one (ps_ret (pe_dget2 (hu1 hr) (pe_fldK K (pv 0)) (pe_fldK K (pv 0)) pe_int ⟨rfl, rfl, rfl, rfl⟩))), ?_⟩
    refine ⟨_, rfl, p, CW, dx, _, _, rfl, h1, T.wC, T.wSquares, rfl, d, rfl, .inr ⟨_, .inl h4⟩, _, rfl, p, CW, dx, _, _, rfl, h1, T.wC, T.wPlace, rfl, _, DGet.t (k := pk c.x) h4 h2, ?_⟩
    show Q ((valV (encS L) (pk c.x)).getD (.int 0)) H
    rw [val_look, h5.val]
    exact k
theorem tab_entry {H : Hp} {xs : List V} {M : Mach} {S G : Nat} {c : Cfg} (g : Good M S G) (ok : CfgOk c S G) (h : RpAll H xs ((tabOf M).map rowD)) :
    ∃ b ys v, xs[(sd c.q c.b).toNat]? = some (.ref b) ∧ H b = some (.tup ys) ∧ ys[(c.f c.x).toNat]? = some v ∧ Rp H v (trD (ent c.b (rl M c.q (c.f c.x)))) := by
  obtain ⟨r, h1, h2⟩ := g.grid.at ok.st.1 ok.st.2 (ok.col c.x).1 (ok.col c.x).2
  have e : (sd c.q c.b).toNat = 2 * c.q.toNat + (if c.b then 1 else 0) := by
    have := ok.st.1
    unfold sd
    cases c.b <;> simp <;> omega
  have h3 : (tabOf M)[(sd c.q c.b).toNat]? = some (r.map (ent c.b)) := by
    rw [e, tabOf_get, h1]
    rfl
  obtain ⟨v0, h4, h5⟩ := h.get (i := (sd c.q c.b).toNat) (d := rowD (r.map (ent c.b))) (by rw [List.getElem?_map, h3]; rfl)
  obtain ⟨b, ys, rfl, h6, h7⟩ := Rp.of_tup h5
  obtain ⟨v, h8, h9⟩ := h7.get (i := (c.f c.x).toNat) (d := trD (ent c.b (rl M c.q (c.f c.x)))) (by rw [List.getElem?_map, List.getElem?_map, h2]; rfl)
  exact ⟨b, ys, v, h4, h6, h8, h9⟩
def spEntry (CW : Addr) : Sp := fun vs H Q _ => ∃ (p d : Addr) (M : Mach) (S G : Nat) (c : Cfg) (n B : Nat), vs = [.ref p] ∧ WalkAt CW M S G H p d c n B ∧ ∀ v, Rp H v (trD (ent c.b (rl M c.q (c.f c.x)))) → Q v H
theorem sc_Walk_entry : FnScope ["self"] ["self"] (C8.fnScope (meth 31 2)) := C8.fnScope_by (by decide +kernel)
theorem ok_Walk_entry (T : Txt K mg CW CR CS CT CF) (m_colour : Me P w K mg base 1 CW "colour" (spColour CW)) (me : Meth K CW "entry" f) (F : C8.Fun K "entry" "Walk.entry" (meth 31 2) f fd) (b : Binds K fd ["self"] []) : Me P w K mg base 2 CW "entry" (spEntry CW) := by
  refine C8.met0 T.wC me F b sc_Walk_entry (fun vs H Q E h => ?_) (fun cdv A outer s H vs Q E hr h => ?_)
  · obtain ⟨_, _, _, _, _, _, _, _, rfl, _⟩ := h; rfl
  · obtain ⟨p, d, M, S, G, c, n, B, rfl, W, k⟩ := h
    obtain ⟨dx, t, pl, h1, h2, h3⟩ := W.ob
    obtain ⟨a, xs, rfl, ha, hl, hxs⟩ := gridD_inv h3
    obtain ⟨b, ys, v, e1, e2, e3, e4⟩ := tab_entry W.good W.ok hxs
    have p1 : 0 ≤ sd c.q c.b := by have := W.ok.st.1; unfold sd; split <;> omega
    have p2 := (W.ok.col c.x).1
    refine ⟨_, (pss_one (ps_ret (pe_ix (ix_tupK K) (pe_ix (ix_tupK K) (pe_fldK K (pv 0)) (pe_fldK K (pv 0)) (fun _ _ => rfl)) (C8.pe_mt0 m_colour hr (by decide) (pv 0)) (fun _ _ => rfl)))), ?_⟩
    refine ⟨_, rfl, p, CW, dx, _, _, rfl, h1, T.wC, T.wTable, rfl, _, rfl, p, CW, dx, _, _, rfl, h1, T.wC, T.wState, rfl, a, xs, _, _, rfl, rfl, SqT.of ha, at_of (j := (sd c.q c.b).toNat) (by omega) e1, ?_⟩
    refine ⟨_, rfl, p, dx, _, rfl, h1, rfl, p, d, M, S, G, c, n, B, rfl, W, ?_⟩
    exact ⟨b, ys, _, _, rfl, rfl, SqT.of e2, at_of (j := (c.f c.x).toNat) (by omega) e3, k v e4⟩
def spWalkerM (CW : Addr) : Sp := fun vs H Q _ => ∃ (p d : Addr) (M : Mach) (S G : Nat) (c : Cfg) (n B : Nat), vs = [.ref p] ∧ WalkAt CW M S G H p d c n B ∧ ∀ H' v, Same H H' → Rp H' v (walkerD c) → Q v H'
theorem sc_Walk_walker : FnScope ["self"] ["self"] (C8.fnScope (meth 31 3)) := C8.fnScope_by (by decide +kernel)
theorem ok_Walk_walker (T : Txt K mg CW CR CS CT CF) (me : Meth K CW "walker" f) (F : C8.Fun K "walker" "Walk.walker" (meth 31 3) f fd) (b : Binds K fd ["self"] []) : Me P w K mg base 1 CW "walker" (spWalkerM CW) := by
  refine C8.met0 T.wC me F b sc_Walk_walker (fun vs H Q E h => ?_) (fun cdv A outer s H vs Q E hr h => ?_)
  · obtain ⟨_, _, _, _, _, _, _, _, rfl, _⟩ := h; rfl
  · obtain ⟨p, d, M, S, G, c, n, B, rfl, W, k⟩ := h
    obtain ⟨dx, t, pl, h1, h2, h3⟩ := W.ob
    refine ⟨_, (pss_one (ps_ret (pe_op (catT_K K) (pe_fldK K (pv 0)) (pe_tup (pa_cons (pe_fldK K (pv 0)) (pa_cons (pe_fldK K (pv 0)) pa_nil)))))), ?_⟩
    refine ⟨_, rfl, p, CW, dx, _, _, rfl, h1, T.wC, T.wPlace, rfl, _, rfl, p, CW, dx, _, _, rfl, h1, T.wC, T.wHeading, rfl, _, rfl, p, CW, dx, _, _, rfl, h1, T.wC, T.wState, rfl, by show 2 ≤ sizeLine; decide, fun p1 hp1 => ?_⟩
    have g1 := Same.new (o := .tup [V.int (hdg c.b), V.int (sd c.q c.b)]) hp1
    refine ⟨pl, p1, _, _, rfl, rfl, SqT.of (g1 _ _ h2), SqT.of upd_same, by simp, by show 2 + 2 ≤ sizeLine; decide, fun e => by simp at e, fun _ p2 hp2 => ?_⟩
    exact k _ _ (g1.trans (Same.new hp2)) (Rp.its upd_same)

/-! ### Walk.step -/
def spStep (CW : Addr) : Sp := fun vs H Q _ => ∃ (p d : Addr) (M : Mach) (S G : Nat) (c : Cfg) (n B : Nat), vs = [.ref p] ∧ WalkAt CW M S G H p d c n B ∧ B ≤ 3999 ∧
  (stepC M c = none → Q (.bl false) H) ∧ ∀ c' H', stepC M c = some c' → WalkAt CW M S G H' p d c' (n + 1) (B + 1) → But2 H H' p d → Q (.bl true) H'
theorem sc_Walk_step : FnScope ["self", "entry", "paint", "turn", "state", "ahead"] ["self"] (C8.fnScope (meth 31 4)) := C8.fnScope_by (by decide +kernel)
theorem ok_Walk_step (T : Txt K mg CW CR CS CT CF) (m_entry : Me P w K mg base 2 CW "entry" (spEntry CW)) (me : Meth K CW "step" f) (F : C8.Fun K "step" "Walk.step" (meth 31 4) f fd) (b : Binds K fd ["self"] []) : Me P w K mg base 3 CW "step" (spStep CW) := by
  refine C8.met0 T.wC me F b sc_Walk_step (fun vs H Q E h => ?_) (fun cdv A outer s H vs Q E hr h => ?_)
  · obtain ⟨_, _, _, _, _, _, _, _, rfl, _⟩ := h; rfl
  · obtain ⟨p, d, M, S, G, c, n, B, rfl, W, hB, k0, k1⟩ := h
    obtain ⟨aH, t0, t1, t2, t3, cHd, hHd⟩ := T.cHead
    obtain ⟨dx, t, pl, h1, h2, h3⟩ := W.ob
    obtain ⟨L, h4, h5, h6⟩ := W.dc
    have npd := W.ne
    refine ⟨_, (pss_cons (ps_set (i := 1) sc_Walk_step.nd rfl (.inl rfl) (C8.pe_mt0 m_entry hr (by decide) (pv 0)))
      (pss_cons (ps_if (pt_cmpR op_isN (pv 1) pe_non (nomark _)) (pss_one (ps_ret pe_bl)) pss_nil)
      (pss_cons (ps_asg (pv 1) (pg_tupK K (n := 3) rfl (pgs_cons (pg_name (i := 2) sc_Walk_step.nd rfl (.inl rfl)) (pgs_cons (pg_name (i := 3) sc_Walk_step.nd rfl (.inl rfl)) (pgs_cons (pg_name (i := 4) sc_Walk_step.nd rfl (.inl rfl)) pgs_nil)))))
      (C8.pss_cut (ps_if (PW.pt (pw_and (pt_cmpR op_ne (pv 2) pe_int (nomark _)) (pw_and (pt_cmp (pc_dnotin (hu1 hr) (pe_fldK K (pv 0)) (pe_fldK K (pv 0)))) (pw_and1 (pt_cmpR op_eq (pe_callB call_len_dT (by rfl) T.len (by decide +kernel) (pa_cons (pe_fldK K (pv 0)) pa_nil)) (C8.pe_gc (by rfl) T.cSq) (nomark _)))))) (pss_one ps_never) pss_nil)
      (C8.pss_cut (ps_if (pt_cmpR op_eq (pv 2) pe_int (nomark _)) (pss_one (ps_expr (pe_bm PySem.F.plainAttrs_dict PySem.F.slot_dict_pop PySem.F.type_dict_pop (L2.DX.mt_popT (hu1 hr)) (pe_fldK K (pv 0)) (pa_cons (pe_fldK K (pv 0)) (pa_cons pe_non pa_nil))))) (pss_one (ps_dput (hu1 hr) (pe_fldK K (pv 0)) (pe_fldK K (pv 0)) (pv 2) rfl)))
      (pss_cons (ps_fld (pv 0) (pe_op op_mod (pe_op op_add (pe_fldK K (pv 0)) (pv 3)) pe_int) rfl)
      (pss_cons (ps_set (i := 5) sc_Walk_step.nd rfl (.inl rfl) (pe_ix (ix_tupK K) (C8.pe_gc (by rfl) cHd) (pe_fldK K (pv 0)) (fun _ _ => rfl)))
      (pss_cons (ps_fld (pv 0) (pe_tup (pa_cons (pe_op op_add (pe_ix (ix_tupK K) (pe_fldK K (pv 0)) pe_int (fun _ _ => rfl)) (pe_ix (ix_tupK K) (pv 5) pe_int (fun _ _ => rfl))) (pa_cons (pe_op op_add (pe_ix (ix_tupK K) (pe_fldK K (pv 0)) pe_int (fun _ _ => rfl)) (pe_ix (ix_tupK K) (pv 5) pe_int (fun _ _ => rfl))) pa_nil))) rfl)
      (pss_cons (ps_fld (pv 0) (pv 4) rfl)
      (pss_cons (ps_fldaug (pv 0) pe_int in_add)
      (pss_one (ps_ret pe_bl)))))))))))), ?_⟩
    refine ⟨_, rfl, p, dx, _, rfl, h1, rfl, p, d, M, S, G, c, n, B, rfl, W, fun v hv => ?_⟩
    cases hrl : rl M c.q (c.f c.x) with
    | none =>
      rw [hrl] at hv
      rw [Rp.of_none hv]
      exact ⟨_, rfl, rfl, _, rfl, iteT (k0 (stepC_none hrl))⟩
    | some r =>
      obtain ⟨wr, m, q⟩ := r
      have hst := stepC_some hrl
      obtain ⟨g1, g2, g3⟩ := rl_mv W.good hrl
      rw [hrl] at hv
      obtain ⟨e, rfl, he⟩ := Rp.of_its hv
      refine ⟨_, rfl, rfl, _, rfl, iteF ?_⟩
      refine ⟨_, rfl, e, _, rfl, SqT.of he, rfl, _, _, rfl, _, _, rfl, _, _, rfl, rfl, ?_⟩
      -- not too many
      generalize hx1 : V.int (if decide (m ≠ 1) = c.b then 0 else 2) = x1
      refine ⟨fun σ' H' => σ' = [some (.ref p), some (.ref e), some (.int wr), some x1, some (.int (sd q (decide (m ≠ 1)))), none] ∧ H' = H, ?_, ?_⟩
      · refine ⟨_, rfl, rfl, _, rfl, ?_⟩
        by_cases w0 : wr = 0
        · exact iteND (by rw [w0]) ⟨by rw [← hx1]; rfl, rfl⟩
        · refine iteNDT (fun z => w0 (V.int.inj z)) ?_
          refine ⟨_, rfl, p, CW, dx, _, _, rfl, h1, T.wC, T.wPlace, rfl, _, rfl, p, CW, dx, _, _, rfl, h1, T.wC, T.wSquares, rfl, d, _, rfl, DGet.t (k := pk c.x) h4 h2, _, rfl, ?_⟩
          cases hval : (valV (encS L) (pk c.x)).isSome with
          | true => exact iteF ⟨by rw [← hx1]; rfl, rfl⟩
          | false =>
            refine iteT ?_
            refine ⟨_, rfl, p, CW, dx, _, _, rfl, h1, T.wC, T.wSquares, rfl, d, _, rfl, h4, rfl, _, rfl, iteDF (fun z => ?_) ⟨by rw [← hx1]; rfl, rfl⟩⟩
            have z2 := V.int.inj z
            have z3 : (encS L).length = L.length := List.length_map _
            omega
      · rintro σ' H' ⟨rfl, rfl⟩
        -- the square is painted
        refine ⟨fun σ' H1 => σ' = [some (.ref p), some (.ref e), some (.int wr), some x1, some (.int (sd q (decide (m ≠ 1)))), none] ∧ (∀ b o, H' b = some o → b ≠ d → H1 b = some o) ∧ ∃ L', H1 d = some (.dT (encS L')) ∧ SqRep L' (setF c.f c.x wr) ∧ L'.length ≤ B + 1, ?_, ?_⟩
        · refine ⟨_, rfl, rfl, _, rfl, ?_⟩
          by_cases w0 : wr = 0
          · refine iteD (by rw [w0]) ?_
            refine ⟨_, rfl, p, CW, dx, _, _, rfl, h1, T.wC, T.wSquares, rfl, .inr (.inr (.inl ⟨rfl, .inr ⟨_, h4⟩⟩)), _, rfl, p, CW, dx, _, _, rfl, h1, T.wC, T.wPlace, rfl, d, encS L, pk c.x, pl, .non, rfl, rfl, h4, h2, fun v' hv' => ?_, fun hn => ?_⟩
            · refine ⟨rfl, fun b o hb nb => by rw [upd_ne nb]; exact hb, dropL L c.x, by rw [upd_same, enc_drop], by rw [w0]; exact h5.drop c.x, ?_⟩
              have := dropL_length L c.x
              omega
            · exact ⟨rfl, fun b o hb nb => hb, L, h4, by rw [w0]; exact h5.blank hn, by omega⟩
          · refine iteDF (fun z => w0 (V.int.inj z)) ?_
            refine ⟨_, rfl, _, rfl, p, CW, dx, _, _, rfl, h1, T.wC, T.wSquares, rfl, _, rfl, p, CW, dx, _, _, rfl, h1, T.wC, T.wPlace, rfl, d, _, rfl, DPut.t (k := pk c.x) h4 h2 (small1000' (by unfold encS; rw [List.length_map]; omega)), ?_⟩
            refine ⟨rfl, fun b o hb nb => by rw [upd_ne nb]; exact hb, putL L c.x wr, by rw [upd_same, enc_put], h5.put c.x wr, ?_⟩
            have := putL_length L c.x wr
            omega
        · rintro σ' H1 ⟨rfl, fr, L', h4', h5', h6'⟩
          have h1a := fr _ _ h1 npd
          have h2a : H1 pl = some (.tup [.int c.x, .int 0]) := fr _ _ h2 (ne_of h2 h4 fun z => by cases z)
          have tka : TK H' H1 := fun b xs hb => fr _ _ hb (ne_of hb h4 fun z => by cases z)
          have hh : (hdg c.b + (if decide (m ≠ 1) = c.b then 0 else 2)) % 4 = hdg (decide (m ≠ 1)) := by
            unfold hdg
            rcases g2 with rfl | rfl
            · cases c.b <;> simp
            · cases c.b <;> simp
          subst hx1
          -- heading
          refine ⟨_, rfl, p, CW, dx, _, _, rfl, h1a, T.wC, T.wHeading, rfl, _, rfl, _, _, rfl, rfl, _, _, rfl, rfl, (by show (0 : Int) < 4; decide), _, rfl, p, CW, dx, _, rfl, h1a, T.wC, T.wHeading, (by show 6 < 1000; decide), ?_⟩
          have f1 : putF "heading" (V.int ((hdg c.b + (if decide (m ≠ 1) = c.b then 0 else 2)) % 4)) (wf t d pl (hdg c.b) (sd c.q c.b) n) = wf t d pl (hdg (decide (m ≠ 1))) (sd c.q c.b) n := by rw [hh]; rfl
          rw [f1]
          generalize hH2 : upd H1 p (.ins CW dx (wf t d pl (hdg (decide (m ≠ 1))) (sd c.q c.b) n)) = H2
          have h1b : H2 p = some (.ins CW dx (wf t d pl (hdg (decide (m ≠ 1))) (sd c.q c.b) n)) := by rw [← hH2]; exact upd_same
          have tkb : TK H1 H2 := by rw [← hH2]; exact TK.write h1a fun xs z => by cases z
          have h2b := tkb _ _ h2a
          have h4b : H2 d = some (.dT (encS L')) := by rw [← hH2, upd_ne npd.symm]; exact h4'
          -- ahead
          obtain ⟨q0, q1, q3⟩ := hHd H2
          have ah : ∃ ta, atI [V.ref t0, V.ref t1, V.ref t2, V.ref t3] (hdg (decide (m ≠ 1))) = some (.ref ta) ∧ SqT K H2 ta [.int m, .int 0] := by
            rcases g2 with rfl | rfl
            · exact ⟨t1, rfl, q1⟩
            · exact ⟨t3, rfl, q3⟩
          obtain ⟨ta, ha1, ha2⟩ := ah
          refine ⟨_, rfl, p, CW, dx, _, _, rfl, h1b, T.wC, T.wHeading, rfl, aH, _, _, _, rfl, rfl, q0, ha1, ?_⟩
          -- place
          refine ⟨_, rfl, p, CW, dx, _, _, rfl, h1b, T.wC, T.wPlace, rfl, _, _, _, _, rfl, rfl, SqT.of h2b, rfl, _, rfl, _, _, _, _, rfl, rfl, ha2, rfl, _, _, rfl, rfl, ?_⟩
          refine ⟨_, rfl, p, CW, dx, _, _, rfl, h1b, T.wC, T.wPlace, rfl, _, _, _, _, rfl, rfl, SqT.of h2b, rfl, _, rfl, _, _, _, _, rfl, rfl, ha2, rfl, _, _, rfl, rfl, by show 2 ≤ sizeLine; decide, fun np hnp => ?_⟩
          have g5 := Same.new (o := .tup [V.int (c.x + m), V.int (0 + 0)]) hnp
          have pnp : p ≠ np := ne_of_none h1b hnp
          have dnp : d ≠ np := ne_of_none h4b hnp
          refine ⟨_, rfl, p, CW, dx, _, rfl, g5 _ _ h1b, T.wC, T.wPlace, (by show 6 < 1000; decide), ?_⟩
          refine ⟨_, rfl, _, rfl, p, CW, dx, _, rfl, upd_same, T.wC, T.wState, (by show 6 < 1000; decide), ?_⟩
          refine ⟨_, rfl, p, CW, dx, _, _, rfl, upd_same, T.wC, T.wDone, rfl, _, _, rfl, rfl, dx, _, upd_same, (by show 6 < 1000; decide), ?_⟩
          refine k1 _ _ hst ⟨W.good, W.ok.step W.good hst, ⟨dx, t, np, ?_, ?_, ?_⟩, ⟨L', ?_, h5', h6'⟩⟩ fun b o hb nb nd => ?_
          · rw [upd_same]
            rfl
          · rw [upd_ne pnp.symm, upd_ne pnp.symm, upd_ne pnp.symm, upd_same]
            rfl
          · refine Rp.keep ?_ h3
            exact TK.trans (TK.trans (TK.trans (TK.trans (TK.trans tka tkb) (Same.tk g5)) (TK.write (g5 _ _ h1b) fun xs z => by cases z)) (TK.write upd_same fun xs z => by cases z)) (TK.write upd_same fun xs z => by cases z)
          · rw [upd_ne npd.symm, upd_ne npd.symm, upd_ne npd.symm]
            exact g5 _ _ h4b
          · rw [upd_ne nb, upd_ne nb, upd_ne nb]
            refine g5 _ _ ?_
            rw [← hH2, upd_ne nb]
            exact fr _ _ hb nd
end
end TP
set_option Elab.async false
set_option linter.all false
set_option maxRecDepth 100000
set_option maxHeartbeats 4000000
namespace TP
open PySem PySem.Spec PyProof.Rows L2
theorem Canon.length_le {L S : List (Int × Int)} {f : Int → Int} (r : SqRep L f) (c : Canon f S) : S.length ≤ L.length := by
  rw [c.uniq r.canon]
  unfold TP.canon
  refine Nat.le_trans (List.length_filter_le _ _) ?_
  rw [List.length_map, List.length_mergeSort, List.length_map]
  exact Nat.le_refl _
/-- a table, a floor and a walker -/
structure St3 (H : Hp) (t fl wk : V) (M : Mach) (S G : Nat) (Sq : List (Int × Int)) (c : Cfg) : Prop where
  t : Rp H t (gridD (tabOf M))
  f : Rp H fl (floorD Sq)
  w : Rp H wk (walkerD c)
  good : Good M S G
  ok : CfgOk c S G
  can : Canon c.f Sq
theorem St3.keep {H H' : Hp} {t fl wk : V} {M : Mach} {S G : Nat} {Sq : List (Int × Int)} {c : Cfg} (a : St3 H t fl wk M S G Sq c) (k : TK H H') : St3 H' t fl wk M S G Sq c :=
  ⟨Rp.keep k a.t, Rp.keep k a.f, Rp.keep k a.w, a.good, a.ok, a.can⟩
section
variable {P : Program} {w : World} {K : PySem.W.Frag} {mg : Str → Option Value} {base : Heap} {CW CR CS CT CF : Addr} {f : Addr} {fd : FuncData}

/-! ### Walk.go -/
def spGo (CW : Addr) : Sp := fun vs H Q _ => ∃ (p d : Addr) (M : Mach) (S G : Nat) (c : Cfg) (n B many : Nat), vs = [.ref p, .int many] ∧ WalkAt CW M S G H p d c n B ∧ n ≤ many ∧ B + (many - n) ≤ 4000 ∧
  ∀ H' k c', Ends M c (many - n) k c' → WalkAt CW M S G H' p d c' (n + k) (B + k) → But2 H H' p d → Q .non H'
theorem sc_Walk_go : FnScope ["self", "many"] ["self", "many"] (C8.fnScope (meth 31 5)) := C8.fnScope_by (by decide +kernel)
theorem ok_Walk_go (T : Txt K mg CW CR CS CT CF) (m_step : Me P w K mg base 3 CW "step" (spStep CW)) (me : Meth K CW "go" f) (F : C8.Fun K "go" "Walk.go" (meth 31 5) f fd) (b : Binds K fd ["self", "many"] []) : Me P w K mg base 4 CW "go" (spGo CW) := by
  refine C8.met0 T.wC me F b sc_Walk_go (fun vs H Q E h => ?_) (fun cdv A outer s H vs Q E hr h => ?_)
  · obtain ⟨_, _, _, _, _, _, _, _, _, rfl, _⟩ := h; rfl
  · obtain ⟨p, d, M, S, G, c, n, B, many, rfl, W, hn, hB, k⟩ := h
    refine ⟨_, (pss_one (ps_while PassesOwn.never (PW.pt (pw_and (pt_cmpR op_lt (pe_fldK K (pv 0)) (pv 1) (nomark _)) (pw_and1 (pt_val (C8.pe_mt0 m_step hr (by decide) (pv 0)))))) (pss_one ps_continue))), ?_⟩
    refine ⟨fun m σ H' => σ = [some (.ref p), some (.int many)] ∧ ∃ i c', runC M c i = some c' ∧ n + i ≤ many ∧ m = many - (n + i) ∧ WalkAt CW M S G H' p d c' (n + i) (B + i) ∧ But2 H H' p d, ⟨_, rfl, 0, c, rfl, hn, rfl, W, But2.of (Same.refl _) p d⟩, ?_⟩
    rintro m σ H' ⟨rfl, i, c', hi, hle, rfl, W', bt⟩
    obtain ⟨dx, t, pl, h1, h2, h3⟩ := W'.ob
    refine ⟨_, rfl, p, CW, dx, _, _, rfl, h1, T.wC, T.wDone, rfl, _, rfl, _, _, rfl, rfl, _, rfl, ?_⟩
    by_cases hlt : n + i < many
    · refine iteD (by omega) ?_
      refine ⟨_, rfl, p, dx, _, rfl, h1, rfl, p, d, M, S, G, c', n + i, B + i, rfl, W', by omega, fun hst => ⟨_, rfl, iteF ?_⟩, fun c2 H2 hst W2 b2 => ⟨_, rfl, iteT ?_⟩⟩
      · exact k H' i c' ⟨by omega, hi, .inr hst⟩ W' bt
      · refine ⟨fun σ' H'' => σ' = [some (.ref p), some (.int many)] ∧ H'' = H2, ?_, ⟨rfl, rfl⟩⟩
        rintro σ' H'' ⟨rfl, rfl⟩
        exact ⟨many - (n + (i + 1)), by omega, rfl, i + 1, c2, (runC_succ hi).trans hst, by omega, rfl, W2, bt.trans b2⟩
    · refine iteDF (by omega) (iteF ?_)
      have e : n + i = many := by omega
      exact k H' i c' ⟨by omega, hi, .inl (by omega)⟩ W' bt

/-! ### Walk.stand -/
def spStandM (CW : Addr) : Sp := fun vs H Q _ => ∃ (p d : Addr) (M : Mach) (S G : Nat) (c : Cfg) (n B : Nat), vs = [.ref p] ∧ WalkAt CW M S G H p d c n B ∧ B ≤ 10000 ∧ ∀ H' v Sq, Same H H' → Canon c.f Sq → Sq.length ≤ B → Rp H' v (standD Sq c) → Q v H'
theorem sc_Walk_stand : FnScope ["self"] ["self"] (C8.fnScope (meth 31 6)) := C8.fnScope_by (by decide +kernel)
theorem ok_Walk_stand (T : Txt K mg CW CR CS CT CF) (c_floor_of : Ca P w K mg base 1 "floor_of" spFloorOf) (m_walker : Me P w K mg base 1 CW "walker" (spWalkerM CW)) (me : Meth K CW "stand" f) (F : C8.Fun K "stand" "Walk.stand" (meth 31 6) f fd) (b : Binds K fd ["self"] []) : Me P w K mg base 2 CW "stand" (spStandM CW) := by
  refine C8.met0 T.wC me F b sc_Walk_stand (fun vs H Q E h => ?_) (fun cdv A outer s H vs Q E hr h => ?_)
  · obtain ⟨_, _, _, _, _, _, _, _, rfl, _⟩ := h; rfl
  · obtain ⟨p, d, M, S, G, c, n, B, rfl, W, hB, k⟩ := h
    obtain ⟨dx, t, pl, h1, h2, h3⟩ := W.ob
    obtain ⟨L, h4, h5, h6⟩ := W.dc
    refine ⟨_, (pss_one (ps_ret (pe_tup (pa_cons (C8.pe_c c_floor_of hr (by decide) (by rfl) (pa_cons (pe_fldK K (pv 0)) pa_nil)) (pa_cons (C8.pe_mt0 m_walker hr (by decide) (pv 0)) pa_nil))))), ?_⟩
    refine ⟨_, rfl, p, CW, dx, _, _, rfl, h1, T.wC, T.wSquares, rfl, d, L, c.f, rfl, h4, h5, by omega, fun H1 v1 Sq s1 can r1 => ?_⟩
    refine ⟨_, rfl, p, dx, _, rfl, s1 _ _ h1, rfl, p, d, M, S, G, c, n, B, rfl, W.keep s1, fun H2 v2 s2 r2 => ?_⟩
    refine ⟨by show 2 ≤ sizeLine; decide, fun q hq => ?_⟩
    have g := Same.new (o := .tup [v1, v2]) hq
    exact k _ _ Sq ((s1.trans s2).trans g) can (Nat.le_trans (Canon.length_le h5 can) h6) (.tup upd_same (.cons (Rp.keep (Same.tk (s2.trans g)) r1) (.cons (Rp.keep (Same.tk g) r2) .nil)))

/-! ### behind, walk -/
def spBehind (CW : Addr) : Sp := fun vs H Q _ => ∃ (t fl wk : V) (M : Mach) (S G : Nat) (Sq : List (Int × Int)) (c : Cfg) (many : Nat), vs = [t, fl, wk, .int many] ∧ St3 H t fl wk M S G Sq c ∧ Sq.length ≤ 3000 ∧ Sq.length + many ≤ 4000 ∧
  ∀ H' p d k c', Ends M c many k c' → WalkAt CW M S G H' p d c' k (Sq.length + k) → Same H H' → H p = none → H d = none → Q (.ref p) H'
theorem sc_behind : FnScope ["table", "floor", "walker", "many", "found"] ["table", "floor", "walker", "many"] (C8.fnScope (top 53)) := C8.fnScope_by (by decide +kernel)
theorem ok_behind (T : Txt K mg CW CR CS CT CF) (k_Walk : Ma P w K mg base 2 "Walk" CW (spWalkInit CW)) (m_go : Me P w K mg base 4 CW "go" (spGo CW)) (F : C8.Def K mg "behind" (top 53) f fd) (b : Binds K fd ["table", "floor", "walker", "many"] []) : Ca P w K mg base 5 "behind" (spBehind CW) := by
  refine C8.cal0 F b .nil sc_behind (fun vs H Q E h => ?_) (fun cdv A outer s H vs Q E hr h => ?_)
  · obtain ⟨_, _, _, _, _, _, _, _, _, rfl, _⟩ := h; rfl
  · obtain ⟨t, fl, wk, M, S, G, Sq, c, many, rfl, a, few, hm, k⟩ := h
    refine ⟨_, (pss_cons (ps_set (i := 4) sc_behind.nd rfl (.inl rfl) (C8.pe_mk k_Walk hr (by decide) (by rfl) (pa_cons (pv 0) (pa_cons (pv 1) (pa_cons (pv 2) pa_nil)))))
      (pss_cons (ps_expr (C8.pe_mt m_go hr (by decide) (pv 4) (pa_cons (pv 3) pa_nil)))
      (pss_one (ps_ret (pv 4))))), ?_⟩
    refine ⟨_, rfl, _, rfl, _, rfl, fun x dx nx ndx nex => ?_⟩
    have s0 : Same H (upd (upd H dx (.own x)) x (.ins CW dx [])) := fun b o e => by
      rw [upd_ne (ne_of_none e nx), upd_ne (ne_of_none e ndx)]
      exact e
    have a0 := a.keep (Same.tk s0)
    refine ⟨x, dx, t, fl, wk, M, S, G, Sq, c, rfl, upd_same, a0.t, a0.f, a0.w, a.good, a.ok, a.can, few, fun H1 d W1 nd k1 => ⟨rfl, ?_⟩⟩
    have s1 : Same H H1 := Same.made nx ndx k1
    have nd0 : H d = none := s0.free nd
    obtain ⟨dx1, t1, pl1, h1, _⟩ := W1.ob
    refine ⟨_, rfl, x, dx1, _, rfl, h1, rfl, _, rfl, x, d, M, S, G, c, 0, Sq.length, many, rfl, W1, Nat.zero_le _, by omega, fun H2 i c' en W2 b2 => ?_⟩
    rw [Nat.zero_add] at W2
    refine ⟨_, rfl, k H2 x d i c' en W2 (fun b o e => b2 b o (s1 b o e) (ne_of_none e nx) (ne_of_none e nd0)) nx nd0⟩
def spWalkF : Sp := fun vs H Q _ => ∃ (t fl wk : V) (M : Mach) (S G : Nat) (Sq : List (Int × Int)) (c : Cfg) (many : Nat), vs = [t, fl, wk, .int many] ∧ St3 H t fl wk M S G Sq c ∧ FloorOk Sq G ∧ Far c.x ∧ Sq.length ≤ 1000 ∧ many ≤ 1000 ∧
  ∀ H' v k c' S', Ends M c many k c' → Canon c'.f S' → Same H H' → Rp H' v (.tuple [floorD S', walkerD c', .int k]) → Q v H'
theorem wk_ok {M : Mach} {S G : Nat} {c : Cfg} (ok : CfgOk c S G) (fx : Far c.x) : WkOk c.x 0 (hdg c.b) (sd c.q c.b) (2 * S) := by
  have := ok.st
  refine ⟨fx, ⟨by decide, by decide⟩, ?_, ?_⟩
  · unfold hdg; split <;> omega
  · unfold sd; split <;> omega
theorem sc_walk : FnScope ["table", "floor", "walker", "many", "found"] ["table", "floor", "walker", "many"] (C8.fnScope (top 32)) := C8.fnScope_by (by decide +kernel)
theorem ok_walk (T : Txt K mg CW CR CS CT CF) (c_need_stand : Ca P w K mg base 5 "need_stand" spStand) (c_is_in : Ca P w K mg base 1 "is_in" spIsIn) (k_Walk : Ma P w K mg base 2 "Walk" CW (spWalkInit CW)) (m_go : Me P w K mg base 4 CW "go" (spGo CW)) (m_stand : Me P w K mg base 2 CW "stand" (spStandM CW))
    (F : C8.Def K mg "walk" (top 32) f fd) (b : Binds K fd ["table", "floor", "walker", "many"] []) : Ca P w K mg base 6 "walk" spWalkF := by
  refine C8.cal0 F b .nil sc_walk (fun vs H Q E h => ?_) (fun cdv A outer s H vs Q E hr h => ?_)
  · obtain ⟨_, _, _, _, _, _, _, _, _, rfl, _⟩ := h; rfl
  · obtain ⟨t, fl, wk, M, S, G, Sq, c, many, rfl, a, fok, fx, few, hm, k⟩ := h
    refine ⟨_, (pss_cons (ps_expr (C8.pe_c c_need_stand hr (by decide) (by rfl) (pa_cons (pv 0) (pa_cons (pv 1) (pa_cons (pv 2) pa_nil)))))
      (pss_cons (ps_if (pt_not (pt_val (C8.pe_c c_is_in hr (by decide) (by rfl) (pa_cons (pv 3) (pa_cons pe_int (pa_cons (C8.pe_gc (by rfl) T.cSteps) pa_nil)))))) (pss_one ps_never) pss_nil)
      (pss_cons (ps_set (i := 4) sc_walk.nd rfl (.inl rfl) (C8.pe_mk k_Walk hr (by decide) (by rfl) (pa_cons (pv 0) (pa_cons (pv 1) (pa_cons (pv 2) pa_nil)))))
      (pss_cons (ps_expr (C8.pe_mt m_go hr (by decide) (pv 4) (pa_cons (pv 3) pa_nil)))
      (pss_one (ps_ret (pe_op (catT_K K) (C8.pe_mt0 m_stand hr (by decide) (pv 4)) (pe_tup (pa_cons (pe_fldK K (pv 4)) pa_nil))))))))), ?_⟩
    refine ⟨_, rfl, _, rfl, _, rfl, t, fl, wk, _, 2 * S, G, Sq, c.x, 0, hdg c.b, sd c.q c.b, rfl, a.t, a.good.tok, a.f, fok, a.w, wk_ok (M := M) a.ok fx, fun Ha sa => ?_⟩
    refine ⟨_, rfl, _, _, _, rfl, _, rfl, iteND (by omega) ?_⟩
    refine ⟨_, rfl, _, rfl, _, rfl, fun x dx nx ndx nex => ?_⟩
    have s0 : Same Ha (upd (upd Ha dx (.own x)) x (.ins CW dx [])) := fun b o e => by
      rw [upd_ne (ne_of_none e nx), upd_ne (ne_of_none e ndx)]
      exact e
    have a0 := a.keep (Same.tk (sa.trans s0))
    refine ⟨x, dx, t, fl, wk, M, S, G, Sq, c, rfl, upd_same, a0.t, a0.f, a0.w, a.good, a.ok, a.can, by omega, fun H1 d W1 nd k1 => ⟨rfl, ?_⟩⟩
    have s1 : Same Ha H1 := Same.made nx ndx k1
    have nd0 : Ha d = none := s0.free nd
    obtain ⟨dx1, t1, pl1, h1, _⟩ := W1.ob
    refine ⟨_, rfl, x, dx1, _, rfl, h1, rfl, _, rfl, x, d, M, S, G, c, 0, Sq.length, many, rfl, W1, Nat.zero_le _, by omega, fun H2 i c' en W2 b2 => ?_⟩
    rw [Nat.zero_add] at W2
    have ile := en.le
    obtain ⟨dx2, t2, pl2, h2, _⟩ := W2.ob
    have s2 : Same H H2 := fun b o e => b2 b o (s1 b o (sa b o e)) (ne_of_none (sa b o e) nx) (ne_of_none (sa b o e) nd0)
    refine ⟨_, rfl, x, dx2, _, rfl, h2, rfl, x, d, M, S, G, c', i, _, rfl, W2, by omega, fun H3 v S' s3 can _ r3 => ?_⟩
    have W3 := W2.keep s3
    obtain ⟨dx3, t3, pl3, h3, _⟩ := W3.ob
    refine ⟨_, rfl, x, CW, dx3, _, _, rfl, h3, T.wC, T.wDone, rfl, Nat.succ_le_of_lt (by decide), fun p1 hp1 => ?_⟩
    have g1 := Same.new (o := .tup [V.int (i : Nat)]) hp1
    obtain ⟨va, xs, rfl, hva, rall⟩ := Rp.of_tup r3
    obtain ⟨x1, x2, rfl⟩ : ∃ x1 x2, xs = [x1, x2] := by
      have := rall.length
      match xs, this with
      | [x1, x2], _ => exact ⟨x1, x2, rfl⟩
    refine ⟨va, p1, _, _, rfl, rfl, SqT.of (g1 _ _ hva), SqT.of upd_same, by simp, by show 2 + 1 ≤ sizeLine; decide, fun e => by simp at e, fun _ p2 hp2 => ?_⟩
    have g2 := g1.trans (Same.new (o := .tup ([x1, x2] ++ [V.int (i : Nat)])) hp2)
    refine k _ _ i c' S' en can ((s2.trans s3).trans g2) (.tup upd_same ?_)
    have := RpAll.keep (Same.tk g2) rall
    exact RpAll.snoc this (.int _)
end
end TP
set_option Elab.async false
set_option linter.all false
set_option maxRecDepth 100000
set_option maxHeartbeats 4000000
namespace TP
open PySem PySem.Spec PyProof.Rows L2
theorem mach_entry {H : Hp} {xs : List V} {M : Mach} {S G : Nat} {c : Cfg} (g : Good M S G) (ok : CfgOk c S G) (h : RpAll H xs (M.map rowD)) :
    ∃ b ys v, xs[c.q.toNat]? = some (.ref b) ∧ H b = some (.tup ys) ∧ ys[(c.f c.x).toNat]? = some v ∧ Rp H v (trD (rl M c.q (c.f c.x))) := by
  obtain ⟨r, h1, h2⟩ := g.grid.at ok.st.1 ok.st.2 (ok.col c.x).1 (ok.col c.x).2
  obtain ⟨v0, h4, h5⟩ := h.get (i := c.q.toNat) (d := rowD r) (by rw [List.getElem?_map, h1]; rfl)
  obtain ⟨b, ys, rfl, h6, h7⟩ := Rp.of_tup h5
  obtain ⟨v, h8, h9⟩ := h7.get (i := (c.f c.x).toNat) (d := trD (rl M c.q (c.f c.x))) (by rw [List.getElem?_map, h2]; rfl)
  exact ⟨b, ys, v, h4, h6, h8, h9⟩
def cfg0 (tape : List Int) (h q : Int) : Cfg := ⟨tapeF tape, h, q, false⟩
theorem cfg0_ok {M : Mach} {S G : Nat} {tape : List Int} {h q : Int} (g : Good M S G) (tok : TapeOk tape G) (hq : 0 ≤ q ∧ q < S) : CfgOk (cfg0 tape h q) S G := ⟨fun x => tapeF_in tok.in_ (by have := g.g1; omega) x, hq⟩
theorem runC_ok {M : Mach} {S G : Nat} {c : Cfg} (g : Good M S G) (ok : CfgOk c S G) : ∀ (n : Nat) {d : Cfg}, runC M c n = some d → CfgOk d S G
  | 0, d, h => by
    have : c = d := Option.some.inj h
    rw [← this]
    exact ok
  | n + 1, d, h => by
    obtain ⟨e, he, hs⟩ := runC_split h
    exact (runC_ok g ok n he).step g hs
theorem big {n : Nat} (h : n ≤ 1000000) : n < sizeLine := Nat.lt_of_le_of_lt h (by decide)
section
variable {P : Program} {w : World} {K : PySem.W.Frag} {mg : Str → Option Value} {base : Heap} {CW CR CS CT CF : Addr} {f : Addr} {fd : FuncData}

/-! ### tape_run -/
/-- a machine, a tape, a head, a state -/
structure Tp (H : Hp) (v t : V) (M : Mach) (S G : Nat) (tape : List Int) (h q : Int) : Prop where
  v : Rp H v (gridD M)
  good : Good M S G
  t : Rp H t (itD tape)
  ok : TapeOk tape G
  far : Far h
  q : 0 ≤ q ∧ q < S
def runD (S' : List (Int × Int)) (c : Cfg) (k : Nat) : PyData := .tuple [rowsD S', .int c.x, .int c.q, .int k]
def spRun (most : Nat) : Sp := fun vs H Q _ => ∃ (v t : V) (M : Mach) (S G : Nat) (tape : List Int) (h q : Int) (many : Nat), vs = [v, t, .int h, .int q, .int many] ∧ Tp H v t M S G tape h q ∧ many ≤ most ∧
  ∀ H' r k c' S', Ends M (cfg0 tape h q) many k c' → Canon c'.f S' → Same H H' → Rp H' r (runD S' c' k) → Q r H'
theorem sc_tape_run : FnScope ["machine", "tape", "head", "state", "many", "signs", "done", "write", "move", "after", "rows", "at", "sign"] ["machine", "tape", "head", "state", "many"] (C8.fnScope (top 41)) := C8.fnScope_by (by decide +kernel)
theorem ok_tape_run (T : Txt K mg CW CR CS CT CF) (c_need_tape : Ca P w K mg base 4 "need_tape" spTape) (c_is_in : Ca P w K mg base 1 "is_in" spIsIn) (F : C8.Def K mg "tape_run" (top 41) f fd) (b : Binds K fd ["machine", "tape", "head", "state", "many"] []) : Ca P w K mg base 5 "tape_run" (spRun 10000) := by
  refine C8.cal0 F b .nil sc_tape_run (fun vs H Q E h => ?_) (fun cdv A outer s H vs Q E hr h => ?_)
  · obtain ⟨_, _, _, _, _, _, _, _, _, rfl, _⟩ := h; rfl
  · obtain ⟨v, t, M, S, G, tape, h, q, many, rfl, tp, hm, k⟩ := h
    refine ⟨_, (pss_cons (ps_expr (C8.pe_c c_need_tape hr (by decide) (by rfl) (pa_cons (pv 0) (pa_cons (pv 1) (pa_cons (pv 2) (pa_cons (pv 3) pa_nil))))))
      (pss_cons (ps_if (pt_not (pt_val (C8.pe_c c_is_in hr (by decide) (by rfl) (pa_cons (pv 4) (pa_cons pe_int (pa_cons (C8.pe_gc (by rfl) T.cSteps) pa_nil)))))) (pss_one ps_never) pss_nil)
      (pss_cons (ps_asg (pe_tup (pa_cons (pe_dc (own := [("at", 11), ("sign", 12)]) (by rfl) sc_tape_run.nd (pi_enumT (by rfl) T.enum (pa_cons (pv 1) pa_nil)) (blkOk_by (own := [("at", 11), ("sign", 12)]) (N := ["machine", "tape", "head", "state", "many", "signs", "done", "write", "move", "after", "rows", "at", "sign"]) (sc := C8.fnScope (top 41)) (by decide +kernel)) (fun _ _ _ _ _ => (pg_tupK K (n := 2) rfl (pgs_cons (pg_name (i := 11) sc_tape_run.nd rfl (.inl rfl)) (pgs_cons (pg_name (i := 12) sc_tape_run.nd rfl (.inl rfl)) pgs_nil)))) (fun _ _ _ _ _ => pts_nil) (fun _ _ _ _ _ => (pv 11)) (fun _ _ _ _ _ => (pv 12))) (pa_cons pe_int pa_nil))) (pg_tupK K (n := 2) rfl (pgs_cons (pg_name (i := 5) sc_tape_run.nd rfl (.inr rfl)) (pgs_cons (pg_name (i := 6) sc_tape_run.nd rfl (.inl rfl)) pgs_nil))))
      (C8.pss_cut (ps_while PassesOwn.never (PW.pt (pw_and (pt_cmpR op_lt (pv 6) (pv 4) (nomark _)) (pw_and1 (pt_cmpR op_notN (pe_ix (ix_tupK K) (pe_ix (ix_tupK K) (pv 0) (pv 3) (fun _ _ => rfl)) (pe_dget2 (hu1 hr) (pv 5) (pv 2) pe_int ⟨rfl, rfl, rfl, rfl⟩) (fun _ _ => rfl)) pe_non (nomark _))))) (pss_cons (ps_asg (pe_ix (ix_tupK K) (pe_ix (ix_tupK K) (pv 0) (pv 3) (fun _ _ => rfl)) (pe_dget2 (hu1 hr) (pv 5) (pv 2) pe_int ⟨rfl, rfl, rfl, rfl⟩) (fun _ _ => rfl)) (pg_tupK K (n := 3) rfl (pgs_cons (pg_name (i := 7) sc_tape_run.nd rfl (.inl rfl)) (pgs_cons (pg_name (i := 8) sc_tape_run.nd rfl (.inl rfl)) (pgs_cons (pg_name (i := 9) sc_tape_run.nd rfl (.inl rfl)) pgs_nil)))))
      (pss_cons (ps_dput (hu1 hr) (pv 5) (pv 2) (pv 7) rfl)
      (pss_one (ps_par3 (i := 2) (j := 3) (l := 6) (by rfl) sc_tape_run.nd rfl rfl rfl (by decide) (by decide) (by decide) rfl rfl rfl (pa_cons (pe_op op_add (pv 2) (pv 8)) (pa_cons (pv 9) (pa_cons (pe_op op_add (pv 6) pe_int) pa_nil))) (by rfl))))))
      (pss_cons (ps_set (i := 10) sc_tape_run.nd rfl (.inl rfl) (pe_callTy (tup_K K) (by rfl) T.tuple (by decide +kernel) (pa_cons (pe_lc (own := [("at", 11)]) (by rfl) sc_tape_run.nd (pi_listK K (pe_callB (cr_sortK (by rfl) (hu64 hr)) (by rfl) T.sorted (by decide +kernel) (pa_cons (pe_bm0 PySem.F.plainAttrs_dict PySem.F.slot_dict_keys PySem.F.type_dict_keys mt_keysV (pv 5)) pa_nil))) (blkOk_by (own := [("at", 11)]) (N := ["machine", "tape", "head", "state", "many", "signs", "done", "write", "move", "after", "rows", "at", "sign"]) (sc := C8.fnScope (top 41)) (by decide +kernel)) (fun _ _ _ _ _ => (pg_name (i := 11) sc_tape_run.nd rfl (.inl rfl))) (fun _ _ _ _ _ => (pts_one (pt_cmpR op_ne (pe_dget (hu1 hr) (pv 5) (pv 11) (fun _ _ => rfl)) pe_int (nomark _)))) (fun _ _ _ _ _ => (pe_tup (pa_cons (pv 11) (pa_cons (pe_dget (hu1 hr) (pv 5) (pv 11) (fun _ _ => rfl)) pa_nil))))) pa_nil)))
      (pss_one (ps_ret (pe_tup (pa_cons (pv 10) (pa_cons (pv 2) (pa_cons (pv 3) (pa_cons (pv 6) pa_nil)))))))))))), ?_⟩
    refine ⟨_, rfl, _, rfl, _, rfl, _, rfl, v, t, M, S, G, tape, h, q, rfl, tp.v, tp.good, tp.t, tp.ok, tp.far, tp.q, fun H1 s1 => ?_⟩
    refine ⟨_, rfl, _, _, _, rfl, _, rfl, iteND (by omega) ?_⟩
    obtain ⟨a, xs, rfl, ha, hl, hxs⟩ := gridD_inv (Rp.keep (Same.tk s1) tp.v)
    obtain ⟨bt, rfl, hbt⟩ := Rp.of_its (Rp.keep (Same.tk s1) tp.t)
    have few := tp.ok.few
    -- signs
    refine ⟨_, rfl, bt, _, rfl, SqT.of hbt, fun D hD => dcK_it (walk_enumT (K := K) (a := bt) (xs := tape.map V.int)) (fun i H2 => Same H1 H2 ∧ H2 D = some (.dK (encK (tapeL tape i)))) ⟨Same.new hD, upd_same⟩ (fun i H2 _ h => SqT.of (h.1 _ _ hbt)) ?_ ?_⟩
    · rintro i x H2 H3 hi ⟨sm, hd⟩ ⟨p, x1, x2, rfl, hp, rfl, e1, e2⟩
      have e1 : V.int (i : Nat) = x1 := Option.some.inj e1
      subst e1
      replace e2 : (tape.map V.int)[i]? = some x2 := e2
      rw [List.getElem?_map] at e2
      cases e3 : tape[i]? with
      | none => rw [e3] at e2; cases e2
      | some z =>
        rw [e3] at e2
        have e2 : V.int z = x2 := Option.some.inj e2
        subst e2
        have npD : D ≠ p := ne_of_none hd hp
        have smp := sm.trans (Same.new (o := .tup [V.int (i : Nat), V.int z]) hp)
        refine ⟨p, _, rfl, SqT.of upd_same, rfl, _, _, rfl, _, _, rfl, rfl, rfl, _, rfl, _, rfl, _, ik (i : Nat), rfl, by rw [upd_ne npD]; exact hd, big ?_, ?_⟩
        · have : (encK (tapeL tape i)).length = i := by unfold encK; rw [List.length_map, tapeL_length]
          rw [List.length_map] at hi
          omega
        · refine ⟨Same.wr smp hD, ?_⟩
          rw [upd_same, putK_new _ (lookK_none fun hm => by have := (tapeL_keys tape i _).mp hm; omega), tapeL_succ, e3]
          unfold encK
          rw [List.map_append]
          rfl
    · rintro H2 ⟨sm2, hd2⟩
      rw [List.length_map] at hd2
      refine ⟨by show 2 ≤ sizeLine; decide, fun p0 np0 => ⟨p0, _, rfl, SqT.of upd_same, rfl, _, _, rfl, _, _, rfl, rfl, ?_⟩⟩
      have g0 := Same.new (o := .tup [V.ref D, V.int 0]) np0
      refine ⟨fun σ H' => ∃ i c' L o7 o8 o9, σ = [some (.ref a), some (.ref bt), some (.int (Cfg.x c')), some (.int c'.q), some (.int many), some (.ref D), some (.int (i : Nat)), o7, o8, o9, none, none, none] ∧ Ends M (cfg0 tape h q) many i c' ∧ Same H1 H' ∧ H' D = some (.dK (encK L)) ∧ SqRep L c'.f ∧ L.length ≤ 400 + i, ?_, ?_⟩
      · refine ⟨fun m σ H' => ∃ i c' L o7 o8 o9, σ = [some (.ref a), some (.ref bt), some (.int (Cfg.x c')), some (.int c'.q), some (.int many), some (.ref D), some (.int (i : Nat)), o7, o8, o9, none, none, none] ∧ runC M (cfg0 tape h q) i = some c' ∧ i ≤ many ∧ m = many - i ∧ Same H1 H' ∧ H' D = some (.dK (encK L)) ∧ SqRep L c'.f ∧ L.length ≤ 400 + i, ?_, ?_⟩
        · exact ⟨_, 0, cfg0 tape h q, _, none, none, none, rfl, rfl, Nat.zero_le _, rfl, sm2.trans g0, g0 _ _ hd2, tape_rep tape, by rw [tapeL_length]; omega⟩
        rintro m σ H' ⟨i, c', L, o7, o8, o9, rfl, hi, hle, rfl, sm, hd, rep, hL⟩
        have ok' := runC_ok tp.good (cfg0_ok tp.good tp.ok tp.q) i hi
        obtain ⟨b, ys, v, e1, e2, e3, e4⟩ := mach_entry tp.good ok' (RpAll.keep (Same.tk sm) hxs)
        have lk : (valV (encK L) (ik c'.x)).getD (.int 0) = .int (c'.f c'.x) := by rw [valK_look, rep.val]
        refine ⟨_, rfl, _, rfl, _, _, rfl, rfl, _, rfl, ?_⟩
        by_cases hlt : i < many
        · refine iteD (by omega) ?_
          refine ⟨_, rfl, _, rfl, a, xs, _, _, rfl, rfl, SqT.of (sm _ _ ha), at_of (j := c'.q.toNat) (by have := ok'.st.1; omega) e1, _, rfl, D, rfl, .inl ⟨_, .inl hd⟩, _, rfl, _, DGet.k (k := ik c'.x) hd, b, ys, _, v, rfl, lk, SqT.of e2, at_of (j := (c'.f c'.x).toNat) (by have := (ok'.col c'.x).1; omega) e3, ?_⟩
          cases hrl : rl M c'.q (c'.f c'.x) with
          | none =>
            rw [hrl] at e4
            rw [Rp.of_none e4]
            exact ⟨rfl, _, rfl, iteF ⟨i, c', L, o7, o8, o9, rfl, ⟨hle, hi, .inr (stepC_none hrl)⟩, sm, hd, rep, hL⟩⟩
          | some r =>
            obtain ⟨wr, m, q'⟩ := r
            have hst := stepC_some hrl
            rw [hrl] at e4
            obtain ⟨e, rfl, he⟩ := Rp.of_its e4
            refine ⟨rfl, _, rfl, iteT ?_⟩
            refine ⟨fun σ' H'' => σ' = [some (.ref a), some (.ref bt), some (.int (c'.x + m)), some (.int q'), some (.int many), some (.ref D), some (.int ((i : Nat) + 1)), some (.int wr), some (.int m), some (.int q'), none, none, none] ∧ H'' = upd H' D (.dK (encK (putL L c'.x wr))), ?_, ?_⟩
            · rintro σ' H'' ⟨rfl, rfl⟩
              refine ⟨many - (i + 1), by omega, i + 1, _, putL L c'.x wr, _, _, _, rfl, (runC_succ hi).trans hst, by omega, rfl, Same.wr sm hD, upd_same, rep.put _ _, ?_⟩
              have := putL_length L c'.x wr
              omega
            refine ⟨_, rfl, _, rfl, a, xs, _, _, rfl, rfl, SqT.of (sm _ _ ha), at_of (j := c'.q.toNat) (by have := ok'.st.1; omega) e1, _, rfl, D, rfl, .inl ⟨_, .inl hd⟩, _, rfl, _, DGet.k (k := ik c'.x) hd, b, ys, _, _, rfl, lk, SqT.of e2, at_of (j := (c'.f c'.x).toNat) (by have := (ok'.col c'.x).1; omega) e3, ?_⟩
            refine ⟨e, _, rfl, SqT.of he, rfl, _, _, rfl, _, _, rfl, _, _, rfl, rfl, ?_⟩
            refine ⟨_, rfl, _, rfl, _, rfl, D, _, rfl, DPut.k (k := ik c'.x) hd (big ?_), ?_⟩
            · unfold encK
              rw [List.length_map]
              omega
            rw [encK_put]
            exact ⟨_, rfl, _, rfl, _, _, rfl, rfl, _, rfl, _, rfl, _, _, rfl, rfl, _, _, _, rfl, rfl, rfl⟩
        · exact iteDF (by omega) (iteF ⟨i, c', L, o7, o8, o9, rfl, ⟨hle, hi, .inl (by omega)⟩, sm, hd, rep, hL⟩)
      rintro σ H' ⟨i, c', L, o7, o8, o9, rfl, en, sm, hd, rep, hL⟩
      have hle := en.le
      refine ⟨_, rfl, .inr (.inr (.inl ⟨rfl, .inl ⟨_, hd⟩⟩)), D, rfl, rfl, .inl ⟨_, hd⟩, fun p hp => ?_⟩
      have dp : D ≠ p := ne_of_none hd hp
      have s2 : Same H' (upd H' p (keysO p D)) := Same.new hp
      refine ⟨p, D, _, L.map (·.1), rfl, upd_same, s2 _ _ hd, by unfold encK; rw [List.map_map, List.map_map]; rfl, fun E1 hE1 => ?_⟩
      generalize hks : (L.map (·.1)).mergeSort leI = ks
      have kl : ks.length = L.length := by rw [← hks, List.length_mergeSort, List.length_map]
      generalize hHH : upd (upd H' p (keysO p D)) E1 (.lst (ks.map V.int)) = HH
      have s3 : Same H' HH := by rw [← hHH]; exact s2.trans (Same.new hE1)
      have hE : HH E1 = some (.lst (ks.map V.int)) := by rw [← hHH]; exact upd_same
      refine ⟨E1, rfl, ⟨_, SqL.of hE⟩, fun D2 hD2 => lc_it (walk_list (K := K) (a := E1) (xs := ks.map V.int)) (fun i H2 => Same HH H2 ∧ ∃ out, H2 D2 = some (.lst out) ∧ RpAll H2 out ((canon c'.f (ks.take i)).map fun p => itD [p.1, p.2]))
        ⟨Same.new hD2, [], upd_same, .nil⟩ (fun i H2 _ h => SqL.of (h.1 _ _ hE)) ?_ ?_⟩
      · rintro j x H2 H3 hj ⟨sm3, out, ho, hout⟩ ⟨rfl, hx⟩
        rw [List.length_map] at hj
        have hkj : ks[j]? = some ks[j] := List.getElem?_eq_getElem hj
        have ex : x = .int ks[j] := by
          rw [List.getElem?_map, hkj] at hx
          exact (Option.some.inj hx).symm
        subst ex
        have mem : ks[j] ∈ L.map (·.1) := by
          rw [← List.mem_mergeSort (le := leI), hks]
          exact List.getElem_mem hj
        obtain ⟨pq, hpq, epq⟩ := List.mem_map.mp mem
        have hv : valV (encK L) (ik ks[j]) = some (.int (c'.f ks[j])) := by
          rw [valK_enc, ← epq, find_mem rep.nd hpq, ← rep.val, look_mem rep.nd hpq]
          rfl
        have dg : DGet H3 D (.int ks[j]) (some (.int (c'.f ks[j]))) := by rw [← hv]; exact DGet.k (k := ik ks[j]) ((s3.trans sm3) _ _ hd)
        refine ⟨rfl, _, rfl, _, rfl, D, _, rfl, dg, rfl, _, rfl, ?_⟩
        have st : ks.take (j + 1) = ks.take j ++ [ks[j]] := by rw [List.take_add_one, hkj]; rfl
        by_cases hz : c'.f ks[j] = 0
        · refine iteND (by rw [hz]) ⟨sm3, out, ho, ?_⟩
          rw [st, canon_snoc, if_pos hz, List.append_nil]
          exact hout
        · refine iteNDT (fun e => hz (V.int.inj e)) ?_
          refine ⟨_, rfl, _, rfl, _, rfl, D, _, rfl, dg, by show 2 ≤ sizeLine; decide, fun p1 hp1 => ?_⟩
          have g1 := Same.new (o := .tup [V.int ks[j], V.int (c'.f ks[j])]) hp1
          have n1 : D2 ≠ p1 := ne_of_none ho hp1
          refine ⟨out, g1 _ _ ho, big ?_, Same.wr (sm3.trans g1) hD2, _, upd_same, ?_⟩
          · have : out.length = (canon c'.f (ks.take j)).length := by rw [hout.length, List.length_map]
            rw [this]
            have h1 : (canon c'.f (ks.take j)).length ≤ (ks.take j).length := by
              unfold canon
              refine Nat.le_trans (List.length_filter_le _ _) ?_
              rw [List.length_map]
              exact Nat.le_refl _
            have h2 : (ks.take j).length ≤ ks.length := by rw [List.length_take]; omega
            omega
          · rw [st, canon_snoc, if_neg hz, List.map_append]
            have tk : TK H3 (upd (upd H3 p1 (.tup [V.int ks[j], V.int (c'.f ks[j])])) D2 (.lst (out ++ [V.ref p1]))) := TK.trans (Same.tk g1) (TK.write (g1 _ _ ho) fun xs z => by cases z)
            refine RpAll.snoc (RpAll.keep tk hout) (Rp.its ?_)
            rw [upd_ne n1.symm, upd_same]
            rfl
      · rintro H2 ⟨sm3, out, ho, hout⟩
        rw [List.length_map, List.take_length] at hout
        have cn := rep.canon
        rw [hks] at cn
        refine ⟨D2, out, rfl, .inl ⟨SqL.of ho, fun l hl => ?_⟩⟩
        have g4 := Same.new (o := .tup out) hl
        refine ⟨_, rfl, _, rfl, _, rfl, _, rfl, by show 4 ≤ sizeLine; decide, fun l2 hl2 => ?_⟩
        have g5 := Same.new (o := .tup [V.ref l, V.int c'.x, V.int c'.q, V.int (i : Nat)]) hl2
        refine k _ _ i c' _ en cn ((((s1.trans sm).trans s3).trans sm3).trans (g4.trans g5)) (.tup upd_same (.cons ?_ (.cons (.int _) (.cons (.int _) (.cons (.int _) .nil)))))
        exact .tup (g5 _ _ upd_same) (RpAll.keep (Same.tk (g4.trans g5)) hout)
end
end TP
set_option Elab.async false
set_option linter.all false
set_option maxRecDepth 100000
set_option maxHeartbeats 4000000
namespace TP
open PySem PySem.Spec PyProof.Rows L2
section
variable {P : Program} {w : World} {K : PySem.W.Frag} {mg : Str → Option Value} {base : Heap} {CW CR CS CT CF : Addr} {f : Addr} {fd : FuncData}

/-! ### walker_table -/
def spTab : Sp := fun vs H Q _ => ∃ (v : V) (M : Mach) (S G : Nat), vs = [v] ∧ Rp H v (gridD M) ∧ Good M S G ∧ ∀ H' r, Same H H' → Rp H' r (gridD (tabOf M)) → Q r H'
theorem tabOf_take (M : Mach) (i : Nat) (r : List Rule) (h : M[i]? = some r) : tabOf (M.take (i + 1)) = tabOf (M.take i) ++ [r.map (ent false), r.map (ent true)] := by
  unfold tabOf
  rw [List.take_add_one, h, List.flatMap_append]
  rfl
theorem sc_walker_table : FnScope ["machine", "found", "row", "heading", "line", "rule", "goes"] ["machine"] (C8.fnScope (top 42)) := C8.fnScope_by (by decide +kernel)
theorem ok_walker_table (T : Txt K mg CW CR CS CT CF) (c_need_machine : Ca P w K mg base 3 "need_machine" spMachine) (F : C8.Def K mg "walker_table" (top 42) f fd) (b : Binds K fd ["machine"] []) : Ca P w K mg base 4 "walker_table" spTab := by
  refine C8.cal0 F b .nil sc_walker_table (fun vs H Q E h => ?_) (fun cdv A outer s H vs Q E hr h => ?_)
  · obtain ⟨_, _, _, _, rfl, _⟩ := h; rfl
  · obtain ⟨v, M, S, G, rfl, hv, ok, k⟩ := h
    refine ⟨_, (pss_cons (ps_expr (C8.pe_c c_need_machine hr (by decide) (by rfl) (pa_cons (pv 0) pa_nil)))
      (pss_cons (ps_set (i := 1) sc_walker_table.nd rfl (.inl rfl) (pe_lst pa_nil))
      (pss_cons (ps_for PassesOwn.never rfl (pi_tupK K (pv 0)) (pg_name (i := 2) sc_walker_table.nd rfl (.inl rfl))
        (pss_one (ps_for PassesOwn.never rfl (pi_tupK K (pe_tup (pa_cons (C8.pe_gc (by rfl) T.cRight) (pa_cons (C8.pe_gc (by rfl) T.cLeft) pa_nil)))) (pg_name (i := 3) sc_walker_table.nd rfl (.inl rfl))
        (pss_cons (ps_set (i := 4) sc_walker_table.nd rfl (.inl rfl) (pe_lst pa_nil))
      (pss_cons (ps_for PassesOwn.never rfl (pi_tupK K (pv 2)) (pg_name (i := 5) sc_walker_table.nd rfl (.inl rfl))
        (pss_one (ps_if (pt_cmpR op_isN (pv 5) pe_non (nomark _)) (pss_one (ps_expr (pe_bm PySem.F.plainAttrs_list PySem.F.slot_list_append PySem.F.type_list_append mt_append (pv 4) (pa_cons pe_non pa_nil)))) (pss_cons (ps_set (i := 6) sc_walker_table.nd rfl (.inl rfl) (pe_ifExp (pt_cmpR op_eq (pe_ix (ix_tupK K) (pv 5) pe_int (fun _ _ => rfl)) pe_int (nomark _)) (C8.pe_gc (by rfl) T.cRight) (C8.pe_gc (by rfl) T.cLeft)))
      (pss_one (ps_expr (pe_bm PySem.F.plainAttrs_list PySem.F.slot_list_append PySem.F.type_list_append mt_append (pv 4) (pa_cons (pe_tup (pa_cons (pe_ix (ix_tupK K) (pv 5) pe_int (fun _ _ => rfl)) (pa_cons (pe_op op_mod (pe_op op_sub (pv 6) (pv 3)) pe_int) (pa_cons (pe_op op_add (pe_op op_mul pe_int (pe_ix (ix_tupK K) (pv 5) pe_int (fun _ _ => rfl))) (pe_ifExp (pt_cmpR op_eq (pv 6) (C8.pe_gc (by rfl) T.cRight) (nomark _)) pe_int pe_int)) pa_nil)))) pa_nil))))))))
      (pss_one (ps_expr (pe_bm PySem.F.plainAttrs_list PySem.F.slot_list_append PySem.F.type_list_append mt_append (pv 1) (pa_cons (pe_callTy (tup_K K) (by rfl) T.tuple (by decide +kernel) (pa_cons (pv 4) pa_nil)) pa_nil)))))))))
      (pss_one (ps_ret (pe_callTy (tup_K K) (by rfl) T.tuple (by decide +kernel) (pa_cons (pv 1) pa_nil))))))), ?_⟩
    refine ⟨_, rfl, v, M, S, G, rfl, hv, ok, fun H1 s1 => ?_⟩
    obtain ⟨a, xs, rfl, ha, hl, hxs⟩ := gridD_inv (Rp.keep (Same.tk s1) hv)
    refine ⟨by show 0 ≤ sizeLine; decide, fun D hD => ?_⟩
    have gD := Same.new (o := .lst []) hD
    refine ⟨_, rfl, _, rfl, ⟨_, SqT.of (gD _ _ ha)⟩, for_tup (K := K) (a := a) (xs := xs) (fun i σ H' => Same H1 H' ∧ (∃ o3 o4 o5 o6 o7, σ = [some (.ref a), some (.ref D), o3, o4, o5, o6, o7]) ∧ ∃ out, H' D = some (.lst out) ∧ RpAll H' out ((tabOf (M.take i)).map rowD)) ⟨gD, ⟨none, none, none, none, none, rfl⟩, [], upd_same, .nil⟩ (fun i σ H' _ h => SqT.of (h.1 _ _ ha)) ?_ ?_⟩
    · rintro i x σ H' hi ⟨sm, ⟨o3, o4, o5, o6, o7, rfl⟩, out, ho, hout⟩
      obtain ⟨r, b, ys, hr1, rfl, hb, hbl, hys⟩ := rowD_at hxs hi
      have hiM : i < M.length := by
        rcases Nat.lt_or_ge i M.length with h | h
        · exact h
        · rw [List.getElem?_eq_none h] at hr1; cases hr1
      have s2 := ok.s2
      have oklen := ok.len
      have tlen : (tabOf (M.take i)).length = 2 * i := by rw [tabOf_length, List.length_take]; omega
      refine ⟨by show 2 ≤ sizeLine; decide, fun p0 np0 => ?_⟩
      have g0 := Same.new (o := .tup [V.int 1, V.int 3]) np0
      refine ⟨p0, rfl, ⟨_, SqT.of upd_same⟩, for_tup (K := K) (a := p0) (xs := [V.int 1, V.int 3]) (fun j σ H2 => Same H1 H2 ∧ H2 p0 = some (.tup [V.int 1, V.int 3]) ∧ (∃ o4 o5 o6 o7, σ = [some (.ref a), some (.ref D), some (.ref b), o4, o5, o6, o7]) ∧ ∃ out, H2 D = some (.lst out) ∧ RpAll H2 out ((tabOf (M.take i) ++ [r.map (ent false), r.map (ent true)].take j).map rowD)) ⟨sm.trans g0, upd_same, ⟨_, _, _, _, rfl⟩, out, g0 _ _ ho, by rw [List.take_zero, List.append_nil]; exact RpAll.keep (Same.tk g0) hout⟩ (fun j σ H' _ h => SqT.of h.2.1) ?_ ?_⟩
      · rintro j x σ H2 hj ⟨sm2, hp0, ⟨q4, q5, q6, q7, rfl⟩, out2, ho2, hout2⟩
        obtain ⟨bb, rfl, hbb, hj2⟩ : ∃ bb, x = .int (hdg bb) ∧ [r.map (ent false), r.map (ent true)].take (j + 1) = [r.map (ent false), r.map (ent true)].take j ++ [r.map (ent bb)] ∧ j < 2 := by
          match j, hj with
          | 0, hj => exact ⟨false, (Option.some.inj hj).symm, rfl, by omega⟩
          | 1, hj => exact ⟨true, (Option.some.inj hj).symm, rfl, by omega⟩
        refine ⟨Nat.zero_le _, fun L hL => ?_⟩
        have gL := Same.new (o := .lst []) hL
        have hb2 := sm2 _ _ hb
        refine ⟨_, rfl, _, rfl, ⟨_, SqT.of (gL _ _ hb2)⟩, for_tup (K := K) (a := b) (xs := ys) (fun l σ H3 => Same H2 H3 ∧ (∃ o6 o7, σ = [some (.ref a), some (.ref D), some (.ref b), some (.int (hdg bb)), some (.ref L), o6, o7]) ∧ ∃ out, H3 L = some (.lst out) ∧ RpAll H3 out ((r.take l).map fun o => trD (ent bb o))) ⟨gL, ⟨_, _, rfl⟩, [], upd_same, .nil⟩ (fun l σ H' _ h => SqT.of (h.1 _ _ hb2)) ?_ ?_⟩
        · rintro l x σ H3 hl' ⟨sm3, ⟨q6, q7, rfl⟩, out3, ho3, hout3⟩
          obtain ⟨o, ho1, hor⟩ := trD_at hys hl'
          have hox : Rp H3 x (trD o) := Rp.keep (Same.tk (sm2.trans sm3)) hor
          have hll : l < r.length := by
            rcases Nat.lt_or_ge l r.length with h | h
            · exact h
            · rw [List.getElem?_eq_none h] at ho1; cases ho1
          have hg := ok.row i r hr1
          have g2 := ok.g2
          have o3l : out3.length ≤ 100 := by
            have := hout3.length
            rw [List.length_map, List.length_take] at this
            omega
          have tk1 : r.take (l + 1) = r.take l ++ [o] := by rw [List.take_add_one, ho1]; rfl
          refine ⟨_, rfl, ?_⟩
          cases o with
          | none =>
            rw [Rp.of_none hox]
            refine ⟨rfl, _, rfl, iteT ?_⟩
            refine ⟨_, rfl, .inl ⟨rfl, _, SqL.of ho3⟩, L, out3, _, rfl, rfl, ho3, small1000' (by omega), ?_⟩
            refine ⟨Same.wr sm3 hL, ⟨_, _, rfl⟩, _, upd_same, ?_⟩
            rw [tk1, List.map_append]
            exact RpAll.snoc (RpAll.keep (TK.write ho3 fun xs z => by cases z) hout3) .non
          | some t =>
            obtain ⟨wr, m, q⟩ := t
            obtain ⟨gr1, gr2, gr3⟩ := ok.rule i l r wr m q hr1 ho1
            obtain ⟨e, rfl, he⟩ := Rp.of_its hox
            refine ⟨rfl, _, rfl, iteF ?_⟩
            have fin : ∀ p1, H3 p1 = none → Same H2 (upd (upd H3 p1 (.tup [V.int wr, V.int (if decide (m ≠ 1) = bb then 0 else 2), V.int (sd q (decide (m ≠ 1)))])) L (.lst (out3 ++ [V.ref p1]))) ∧ ∃ out, (upd (upd H3 p1 (.tup [V.int wr, V.int (if decide (m ≠ 1) = bb then 0 else 2), V.int (sd q (decide (m ≠ 1)))])) L (.lst (out3 ++ [V.ref p1]))) L = some (.lst out) ∧ RpAll (upd (upd H3 p1 (.tup [V.int wr, V.int (if decide (m ≠ 1) = bb then 0 else 2), V.int (sd q (decide (m ≠ 1)))])) L (.lst (out3 ++ [V.ref p1]))) out ((r.take (l + 1)).map fun o => trD (ent bb o)) := by
              intro p1 hp1
              have g1 := Same.new (o := .tup [V.int wr, V.int (if decide (m ≠ 1) = bb then 0 else 2), V.int (sd q (decide (m ≠ 1)))]) hp1
              refine ⟨Same.wr (sm3.trans g1) hL, _, upd_same, ?_⟩
              rw [tk1, List.map_append]
              refine RpAll.snoc (RpAll.keep (TK.trans (Same.tk g1) (TK.write (g1 _ _ ho3) fun xs z => by cases z)) hout3) (Rp.its ?_)
              rw [upd_ne (ne_of_none ho3 hp1).symm, upd_same]
              rfl
            have app : ∀ p1, H3 p1 = none → (upd H3 p1 (.tup [V.int wr, V.int (if decide (m ≠ 1) = bb then 0 else 2), V.int (sd q (decide (m ≠ 1)))])) L = some (.lst out3) := fun p1 hp1 => (Same.new hp1) _ _ ho3
            refine ⟨_, rfl, e, _, _, _, rfl, rfl, SqT.of he, rfl, ?_⟩
            rcases gr2 with rfl | rfl <;> cases bb
            · refine ⟨rfl, _, rfl, iteT ?_⟩
              refine ⟨_, rfl, .inl ⟨rfl, _, SqL.of ho3⟩, _, rfl, e, _, _, _, rfl, rfl, SqT.of he, rfl, _, rfl, _, rfl, _, _, rfl, rfl, _, _, rfl, rfl, by decide, _, rfl, e, _, _, _, rfl, rfl, SqT.of he, rfl, _, _, rfl, rfl, .inl ⟨by decide, by decide⟩, ?_⟩
              refine ⟨_, rfl, rfl, _, rfl, iteT ⟨_, _, rfl, rfl, by show 3 ≤ sizeLine; decide, fun p1 hp1 => ?_⟩⟩
              refine ⟨L, out3, _, rfl, rfl, app p1 hp1, small1000' (by omega), ?_⟩
              obtain ⟨z1, z2⟩ := fin p1 hp1
              exact ⟨z1, ⟨_, _, rfl⟩, z2⟩
            · refine ⟨rfl, _, rfl, iteT ?_⟩
              refine ⟨_, rfl, .inl ⟨rfl, _, SqL.of ho3⟩, _, rfl, e, _, _, _, rfl, rfl, SqT.of he, rfl, _, rfl, _, rfl, _, _, rfl, rfl, _, _, rfl, rfl, by decide, _, rfl, e, _, _, _, rfl, rfl, SqT.of he, rfl, _, _, rfl, rfl, .inl ⟨by decide, by decide⟩, ?_⟩
              refine ⟨_, rfl, rfl, _, rfl, iteT ⟨_, _, rfl, rfl, by show 3 ≤ sizeLine; decide, fun p1 hp1 => ?_⟩⟩
              refine ⟨L, out3, _, rfl, rfl, app p1 hp1, small1000' (by omega), ?_⟩
              obtain ⟨z1, z2⟩ := fin p1 hp1
              exact ⟨z1, ⟨_, _, rfl⟩, z2⟩
            · refine ⟨rfl, _, rfl, iteF ?_⟩
              refine ⟨_, rfl, .inl ⟨rfl, _, SqL.of ho3⟩, _, rfl, e, _, _, _, rfl, rfl, SqT.of he, rfl, _, rfl, _, rfl, _, _, rfl, rfl, _, _, rfl, rfl, by decide, _, rfl, e, _, _, _, rfl, rfl, SqT.of he, rfl, _, _, rfl, rfl, .inl ⟨by decide, by decide⟩, ?_⟩
              refine ⟨_, rfl, rfl, _, rfl, iteF ⟨_, _, rfl, rfl, by show 3 ≤ sizeLine; decide, fun p1 hp1 => ?_⟩⟩
              refine ⟨L, out3, _, rfl, rfl, app p1 hp1, small1000' (by omega), ?_⟩
              obtain ⟨z1, z2⟩ := fin p1 hp1
              exact ⟨z1, ⟨_, _, rfl⟩, z2⟩
            · refine ⟨rfl, _, rfl, iteF ?_⟩
              refine ⟨_, rfl, .inl ⟨rfl, _, SqL.of ho3⟩, _, rfl, e, _, _, _, rfl, rfl, SqT.of he, rfl, _, rfl, _, rfl, _, _, rfl, rfl, _, _, rfl, rfl, by decide, _, rfl, e, _, _, _, rfl, rfl, SqT.of he, rfl, _, _, rfl, rfl, .inl ⟨by decide, by decide⟩, ?_⟩
              refine ⟨_, rfl, rfl, _, rfl, iteF ⟨_, _, rfl, rfl, by show 3 ≤ sizeLine; decide, fun p1 hp1 => ?_⟩⟩
              refine ⟨L, out3, _, rfl, rfl, app p1 hp1, small1000' (by omega), ?_⟩
              obtain ⟨z1, z2⟩ := fin p1 hp1
              exact ⟨z1, ⟨_, _, rfl⟩, z2⟩
        · rintro σ H3 ⟨sm3, ⟨q6, q7, rfl⟩, out3, ho3, hout3⟩
          refine ⟨_, rfl, .inl ⟨rfl, _, SqL.of (sm3 _ _ ho2)⟩, _, rfl, L, out3, rfl, .inl ⟨SqL.of ho3, fun p1 hp1 => ?_⟩⟩
          have g1 := Same.new (o := .tup out3) hp1
          have o2l : out2.length ≤ 100 := by
            have := hout2.length
            rw [List.length_map, List.length_append, tlen, List.length_take] at this
            simp at this
            omega
          have nLD : H1 D = none := hD
          refine ⟨D, out2, _, rfl, rfl, g1 _ _ (sm3 _ _ ho2), small1000' (by omega), ?_⟩
          refine ⟨Same.wr ((sm2.trans sm3).trans g1) hD, ?_, ⟨_, _, _, _, rfl⟩, _, upd_same, ?_⟩
          · exact (TK.trans (Same.tk (sm3.trans g1)) (TK.write (g1 _ _ (sm3 _ _ ho2)) fun xs z => by cases z)) _ _ hp0
          · rw [hbb, ← List.append_assoc, List.map_append]
            have tk : TK H3 (upd (upd H3 p1 (.tup out3)) D (.lst (out2 ++ [V.ref p1]))) := TK.trans (Same.tk g1) (TK.write (g1 _ _ (sm3 _ _ ho2)) fun xs z => by cases z)
            refine RpAll.snoc (RpAll.keep (TK.trans (Same.tk sm3) tk) hout2) (.tup (xs := out3) (by rw [upd_ne (ne_of_none (sm3 _ _ ho2) hp1).symm]; exact upd_same) ?_)
            rw [hbl, List.take_length] at hout3
            rw [List.map_map]
            exact RpAll.keep tk hout3
      · rintro σ H2 ⟨sm2, hp0, ⟨q4, q5, q6, q7, rfl⟩, out2, ho2, hout2⟩
        refine ⟨sm2, ⟨_, _, _, _, _, rfl⟩, out2, ho2, ?_⟩
        rw [tabOf_take M i r hr1]
        exact hout2
    · rintro σ H' ⟨sm, ⟨o3, o4, o5, o6, o7, rfl⟩, out, ho, hout⟩
      rw [hl, List.take_length] at hout
      refine ⟨_, rfl, D, out, rfl, .inl ⟨SqL.of ho, fun l hl => ?_⟩⟩
      have g1 := Same.new (o := .tup out) hl
      exact k _ _ (s1.trans (sm.trans g1)) (.tup upd_same (RpAll.keep (Same.tk g1) hout))
end
end TP
set_option Elab.async false
set_option linter.all false
set_option maxRecDepth 100000
set_option maxHeartbeats 4000000
namespace TP
open PySem PySem.Spec PyProof.Rows L2
theorem Rp.of_two {H : Hp} {v : V} {d e : PyData} (h : Rp H v (.tuple [d, e])) : ∃ a x y, v = .ref a ∧ H a = some (.tup [x, y]) ∧ Rp H x d ∧ Rp H y e := by
  obtain ⟨a, xs, rfl, ha, hx⟩ := Rp.of_tup h
  cases hx with
  | cons h1 t1 => cases t1 with
    | cons h2 t2 => cases t2 with
      | nil => exact ⟨a, _, _, rfl, ha, h1, h2⟩
theorem Rp.of_three {H : Hp} {v : V} {d e g : PyData} (h : Rp H v (.tuple [d, e, g])) : ∃ a x y z, v = .ref a ∧ H a = some (.tup [x, y, z]) ∧ Rp H x d ∧ Rp H y e ∧ Rp H z g := by
  obtain ⟨a, xs, rfl, ha, hx⟩ := Rp.of_tup h
  cases hx with
  | cons h1 t1 => cases t1 with
    | cons h2 t2 => cases t2 with
      | cons h3 t3 => cases t3 with
        | nil => exact ⟨a, _, _, _, rfl, ha, h1, h2, h3⟩
/-! plain: the tape's squares in order -/
def tapeK (n : Nat) : List Int := (List.range n).map fun i : Nat => (i : Int)
theorem tapeK_succ (n : Nat) : tapeK (n + 1) = tapeK n ++ [(n : Int)] := by
  unfold tapeK
  rw [List.range_succ, List.map_append]
  rfl
theorem tapeK_asc (n : Nat) : (tapeK n).Pairwise (· < ·) := by
  unfold tapeK
  rw [List.pairwise_map]
  exact List.pairwise_lt_range.imp fun h => by omega
theorem tapeF_at (tape : List Int) {i : Nat} {z : Int} (h : tape[i]? = some z) : tapeF tape (i : Int) = z := by
  unfold tapeF
  rw [if_pos (Int.natCast_nonneg i), Int.toNat_natCast, h]
  rfl
theorem tapeF_nz {tape : List Int} {x : Int} (h : tapeF tape x ≠ 0) : 0 ≤ x ∧ x < tape.length := by
  unfold tapeF at h
  split at h
  · rename_i h0
    refine ⟨h0, ?_⟩
    cases e : tape[x.toNat]? with
    | none => rw [e] at h; exact absurd rfl h
    | some y =>
      have := (List.getElem?_eq_some_iff.mp e).1
      omega
  · exact absurd rfl h
theorem tape_canon (tape : List Int) : Canon (tapeF tape) (canon (tapeF tape) (tapeK tape.length)) := by
  have nd : (tapeK tape.length).Nodup := (tapeK_asc _).imp fun h => by omega
  have h := canon_ok (f := tapeF tape) nd fun x hx => by
    have := tapeF_nz hx
    exact List.mem_map.mpr ⟨x.toNat, List.mem_range.mpr (by omega), by show ((x.toNat : Nat) : Int) = x; omega⟩
  rw [sort_asc (tapeK_asc _)] at h
  exact h
theorem tape_few {tape : List Int} {Sq : List (Int × Int)} (c : Canon (tapeF tape) Sq) : Sq.length ≤ tape.length := by
  have := Canon.length_le (tape_rep tape) c
  rw [tapeL_length] at this
  exact this
theorem tape_floor {tape : List Int} {G : Nat} {Sq : List (Int × Int)} (ok : TapeOk tape G) (hG : 0 < G) (c : Canon (tapeF tape) Sq) : FloorOk Sq G := by
  have h : ∀ p ∈ Sq, tapeF tape p.1 = p.2 ∧ p.2 ≠ 0 := fun p hp => ⟨(c.mem p.1 p.2 (c.nz p hp)).mp hp, c.nz p hp⟩
  refine ⟨c.asc, fun p hp => ?_, fun p hp => ?_, by have := tape_few c; have := ok.few; omega⟩
  · obtain ⟨h1, h2⟩ := h p hp
    have := tapeF_in ok.in_ hG p.1
    omega
  · obtain ⟨h1, h2⟩ := h p hp
    have := tapeF_nz (h1 ▸ h2)
    have := ok.few
    unfold Far
    omega
theorem sd_half (q : Int) (b : Bool) : sd q b / 2 = q := by
  unfold sd
  cases b <;> simp <;> omega
section
variable {P : Program} {w : World} {K : PySem.W.Frag} {mg : Str → Option Value} {base : Heap} {CW CR CS CT CF : Addr} {f : Addr} {fd : FuncData}

/-! ### tape_stand -/
def spTStand : Sp := fun vs H Q _ => ∃ (v t : V) (M : Mach) (S G : Nat) (tape : List Int) (h q : Int), vs = [v, t, .int h, .int q] ∧ Tp H v t M S G tape h q ∧ (-(2 ^ 64) < q ∧ q < 2 ^ 64) ∧ ∀ H' r Sq, Same H H' → Canon (tapeF tape) Sq → Rp H' r (standD Sq (cfg0 tape h q)) → Q r H'
theorem sc_tape_stand : FnScope ["machine", "tape", "head", "state", "floor", "at", "sign"] ["machine", "tape", "head", "state"] (C8.fnScope (top 43)) := C8.fnScope_by (by decide +kernel)
theorem ok_tape_stand (T : Txt K mg CW CR CS CT CF) (c_need_tape : Ca P w K mg base 4 "need_tape" spTape) (F : C8.Def K mg "tape_stand" (top 43) f fd) (b : Binds K fd ["machine", "tape", "head", "state"] []) : Ca P w K mg base 5 "tape_stand" spTStand := by
  refine C8.cal0 F b .nil sc_tape_stand (fun vs H Q E h => ?_) (fun cdv A outer s H vs Q E hr h => ?_)
  · obtain ⟨_, _, _, _, _, _, _, _, rfl, _⟩ := h; rfl
  · obtain ⟨v, t, M, S, G, tape, h, q, rfl, tp, hq, k⟩ := h
    refine ⟨_, (pss_cons (ps_expr (C8.pe_c c_need_tape hr (by decide) (by rfl) (pa_cons (pv 0) (pa_cons (pv 1) (pa_cons (pv 2) (pa_cons (pv 3) pa_nil))))))
      (pss_cons (ps_set (i := 4) sc_tape_stand.nd rfl (.inl rfl) (pe_callTy (tup_K K) (by rfl) T.tuple (by decide +kernel) (pa_cons (pe_lc (own := [("at", 5), ("sign", 6)]) (by rfl) sc_tape_stand.nd (pi_enumT (by rfl) T.enum (pa_cons (pv 1) pa_nil)) (blkOk_by (own := [("at", 5), ("sign", 6)]) (N := ["machine", "tape", "head", "state", "floor", "at", "sign"]) (sc := C8.fnScope (top 43)) (by decide +kernel)) (fun _ _ _ _ _ => (pg_tupK K (n := 2) rfl (pgs_cons (pg_name (i := 5) sc_tape_stand.nd rfl (.inl rfl)) (pgs_cons (pg_name (i := 6) sc_tape_stand.nd rfl (.inl rfl)) pgs_nil)))) (fun _ _ _ _ _ => (pts_one (pt_cmpR op_ne (pv 6) pe_int (nomark _)))) (fun _ _ _ _ _ => (pe_tup (pa_cons (pv 5) (pa_cons pe_int (pa_cons (pv 6) pa_nil)))))) pa_nil)))
      (pss_one (ps_ret (pe_tup (pa_cons (pv 4) (pa_cons (pe_tup (pa_cons (pv 2) (pa_cons pe_int (pa_cons (C8.pe_gc (by rfl) T.cRight) (pa_cons (pe_op op_mul pe_int (pv 3)) pa_nil))))) pa_nil))))))), ?_⟩
    refine ⟨_, rfl, _, rfl, _, rfl, _, rfl, v, t, M, S, G, tape, h, q, rfl, tp.v, tp.good, tp.t, tp.ok, tp.far, tp.q, fun H1 s1 => ?_⟩
    obtain ⟨bt, rfl, hbt⟩ := Rp.of_its (Rp.keep (Same.tk s1) tp.t)
    have few := tp.ok.few
    refine ⟨_, rfl, bt, _, rfl, SqT.of hbt, fun D hD => lc_it (walk_enumT (K := K) (a := bt) (xs := tape.map V.int)) (fun i H2 => Same H1 H2 ∧ ∃ out, H2 D = some (.lst out) ∧ RpAll H2 out ((canon (tapeF tape) (tapeK i)).map fun p => itD [p.1, 0, p.2])) ⟨Same.new hD, [], upd_same, .nil⟩ (fun i H2 _ h => SqT.of (h.1 _ _ hbt)) ?_ ?_⟩
    · rintro i x H2 H3 hi ⟨sm, out, ho, hout⟩ ⟨p, x1, x2, rfl, hp, rfl, e1, e2⟩
      have e1 : V.int (i : Nat) = x1 := Option.some.inj e1
      subst e1
      rw [List.length_map] at hi
      replace e2 : (tape.map V.int)[i]? = some x2 := e2
      have e3 : tape[i]? = some tape[i] := List.getElem?_eq_getElem hi
      rw [List.getElem?_map, e3] at e2
      have e2 : V.int tape[i] = x2 := Option.some.inj e2
      subst e2
      have fz := tapeF_at tape e3
      have gp := Same.new (o := .tup [V.int (i : Nat), V.int tape[i]]) hp
      have smp := sm.trans gp
      refine ⟨p, _, rfl, SqT.of upd_same, rfl, _, _, rfl, _, _, rfl, rfl, rfl, _, rfl, rfl, _, rfl, ?_⟩
      by_cases hz : tape[i] = 0
      · refine iteND (by rw [hz]) ⟨smp, out, gp _ _ ho, ?_⟩
        rw [tapeK_succ, canon_snoc, fz, if_pos hz, List.append_nil]
        exact RpAll.keep (Same.tk gp) hout
      · refine iteNDT (fun e => hz (V.int.inj e)) ?_
        refine ⟨_, rfl, _, rfl, by show 3 ≤ sizeLine; decide, fun p1 hp1 => ?_⟩
        have g1 := gp.trans (Same.new (o := .tup [V.int (i : Nat), V.int 0, V.int tape[i]]) hp1)
        refine ⟨out, g1 _ _ ho, big ?_, Same.wr (sm.trans g1) hD, _, upd_same, ?_⟩
        · have : out.length = (canon (tapeF tape) (tapeK i)).length := by rw [hout.length, List.length_map]
          rw [this]
          have h1 : (canon (tapeF tape) (tapeK i)).length ≤ (tapeK i).length := by
            unfold canon
            refine Nat.le_trans (List.length_filter_le _ _) ?_
            rw [List.length_map]
            exact Nat.le_refl _
          have h2 : (tapeK i).length = i := by unfold tapeK; rw [List.length_map, List.length_range]
          omega
        · rw [tapeK_succ, canon_snoc, fz, if_neg hz, List.map_append]
          have n1 : D ≠ p1 := ne_of_none (gp _ _ ho) hp1
          refine RpAll.snoc (RpAll.keep (TK.trans (Same.tk g1) (TK.write (g1 _ _ ho) fun xs z => by cases z)) hout) (Rp.its ?_)
          rw [upd_ne n1.symm, upd_same]
          rfl
    · rintro H2 ⟨sm, out, ho, hout⟩
      rw [List.length_map] at hout
      refine ⟨D, out, rfl, .inl ⟨SqL.of ho, fun l hl => ?_⟩⟩
      have g4 := Same.new (o := .tup out) hl
      refine ⟨_, rfl, _, rfl, _, rfl, _, _, rfl, rfl, .inl ⟨by decide, by decide⟩, by show 4 ≤ sizeLine; decide, fun p2 hp2 => ⟨by show 2 ≤ sizeLine; decide, fun p3 hp3 => ?_⟩⟩
      have g5 := Same.new (o := .tup [V.int h, V.int 0, V.int 1, V.int (2 * q)]) hp2
      have g6 := Same.new (o := .tup [V.ref l, V.ref p2]) hp3
      refine k _ _ _ ((s1.trans sm).trans (g4.trans (g5.trans g6))) (tape_canon tape) (.tup upd_same (.cons (.tup ((g5.trans g6) _ _ upd_same) (RpAll.keep (Same.tk (g4.trans (g5.trans g6))) hout)) (.cons ?_ .nil)))
      have := Rp.its (is := [h, 0, 1, 2 * q]) (g6 _ _ upd_same)
      show Rp _ _ (itD [h, 0, hdg false, sd q false])
      unfold sd hdg
      simp
      exact this

/-! ### read_stand -/
def spRead : Sp := fun vs H Q _ => ∃ (fl wk : V) (Sq : List (Int × Int)) (c : Cfg), vs = [fl, wk] ∧ Rp H fl (floorD Sq) ∧ Rp H wk (walkerD c) ∧ Canon c.f Sq ∧ Sq.length ≤ 10000 ∧ ∀ H' r, Same H H' → Rp H' r (.tuple [rowsD Sq, .int c.x, .int c.q]) → Q r H'
theorem sc_read_stand : FnScope ["floor", "walker", "squares", "rows", "place"] ["floor", "walker"] (C8.fnScope (top 44)) := C8.fnScope_by (by decide +kernel)
theorem ok_read_stand (T : Txt K mg CW CR CS CT CF) (c_squares_of : Ca P w K mg base 1 "squares_of" spSquares) (F : C8.Def K mg "read_stand" (top 44) f fd) (b : Binds K fd ["floor", "walker"] []) : Ca P w K mg base 2 "read_stand" spRead := by
  refine C8.cal0 F b .nil sc_read_stand (fun vs H Q E h => ?_) (fun cdv A outer s H vs Q E hr h => ?_)
  · obtain ⟨_, _, _, _, rfl, _⟩ := h; rfl
  · obtain ⟨fl, wk, Sq, c, rfl, hf, hw, can, few, k⟩ := h
    refine ⟨_, (pss_cons (ps_set (i := 2) sc_read_stand.nd rfl (.inr rfl) (C8.pe_c c_squares_of hr (by decide) (by rfl) (pa_cons (pv 0) pa_nil)))
      (pss_cons (ps_set (i := 3) sc_read_stand.nd rfl (.inl rfl) (pe_callTy (tup_K K) (by rfl) T.tuple (by decide +kernel) (pa_cons (pe_lc (own := [("place", 4)]) (by rfl) sc_read_stand.nd (pi_listK K (pe_callB (cr_sortT (by rfl) (hu64 hr)) (by rfl) T.sorted (by decide +kernel) (pa_cons (pe_bm0 PySem.F.plainAttrs_dict PySem.F.slot_dict_keys PySem.F.type_dict_keys mt_keysV (pv 2)) pa_nil))) (blkOk_by (own := [("place", 4)]) (N := ["floor", "walker", "squares", "rows", "place"]) (sc := C8.fnScope (top 44)) (by decide +kernel)) (fun _ _ _ _ _ => (pg_name (i := 4) sc_read_stand.nd rfl (.inl rfl))) (fun _ _ _ _ _ => pts_nil) (fun _ _ _ _ _ => (pe_tup (pa_cons (pe_ix (ix_tupK K) (pv 4) pe_int (fun _ _ => rfl)) (pa_cons (pe_dget (hu1 hr) (pv 2) (pv 4) (fun _ _ => rfl)) pa_nil))))) pa_nil)))
      (pss_one (ps_ret (pe_tup (pa_cons (pv 3) (pa_cons (pe_ix (ix_tupK K) (pv 1) pe_int (fun _ _ => rfl)) (pa_cons (pe_op op_fdiv (pe_ix (ix_tupK K) (pv 1) pe_int (fun _ _ => rfl)) pe_int) pa_nil)))))))), ?_⟩
    refine ⟨_, rfl, fl, Sq, rfl, hf, can.asc, few, fun H1 d s1 nd hd => ?_⟩
    obtain ⟨a, rfl, ha⟩ := Rp.of_its (Rp.keep (Same.tk s1) hw)
    refine ⟨_, rfl, .inr (.inr (.inl ⟨rfl, .inr ⟨_, hd⟩⟩)), d, rfl, rfl, .inr ⟨_, hd⟩, fun p hp => ?_⟩
    have s2 : Same H1 (upd H1 p (keysO p d)) := Same.new hp
    refine ⟨p, d, _, Sq.map (·.1), rfl, upd_same, s2 _ _ hd, by unfold encS; rw [List.map_map, List.map_map]; rfl, fun D as hD pr => ?_⟩
    rw [sort_asc (by rw [List.pairwise_map]; exact can.asc)] at pr
    have al : (as.map V.ref).length = Sq.length := by rw [List.length_map, Paired.length pr, List.length_map]
    generalize hHH : upd (upd H1 p (keysO p d)) D (.lst (as.map V.ref)) = HH
    have s3 : Same (upd H1 p (keysO p d)) HH := by rw [← hHH]; exact Same.new hD
    have hE : HH D = some (.lst (as.map V.ref)) := by rw [← hHH]; exact upd_same
    refine ⟨D, rfl, ⟨_, SqL.of hE⟩, fun D2 hD2 => lc_it (walk_list (K := K) (a := D) (xs := as.map V.ref)) (fun i H2 => Same HH H2 ∧ ∃ out, H2 D2 = some (.lst out) ∧ RpAll H2 out ((Sq.take i).map fun p => itD [p.1, p.2]))
      ⟨Same.new hD2, [], upd_same, .nil⟩ (fun i H2 _ h => SqL.of (h.1 _ _ hE)) ?_ ?_⟩
    · rintro i x H2 H3 hi ⟨sm, out, ho, hout⟩ ⟨rfl, hx⟩
      have hik : i < Sq.length := by omega
      have hSi : Sq[i]? = some Sq[i] := List.getElem?_eq_getElem hik
      have hki : (Sq.map (·.1))[i]? = some Sq[i].1 := by rw [List.getElem?_map, hSi]; rfl
      obtain ⟨q, hq, hqt⟩ := par_get pr hki
      have ex : x = .ref q := by
        rw [List.getElem?_map, hq] at hx
        exact (Option.some.inj hx).symm
      subst ex
      have hqt2 : H3 q = some (.tup [.int Sq[i].1, .int 0]) := (s3.trans sm) _ _ hqt
      have hv : valV (encS Sq) (pk Sq[i].1) = some (.int Sq[i].2) := by
        rw [valV_enc, find_mem can.rep.nd (List.getElem_mem hik)]
        rfl
      have dg : DGet H3 d (.ref q) (some (.int Sq[i].2)) := by rw [← hv]; exact DGet.t (((s2.trans s3).trans sm) _ _ hd) hqt2
      refine ⟨rfl, _, rfl, _, _, _, _, rfl, rfl, SqT.of hqt2, rfl, _, rfl, _, rfl, d, _, rfl, dg, by show 2 ≤ sizeLine; decide, fun p1 hp1 => ?_⟩
      have g1 := Same.new (o := .tup [V.int Sq[i].1, V.int Sq[i].2]) hp1
      have n1 : D2 ≠ p1 := ne_of_none ho hp1
      refine ⟨out, g1 _ _ ho, big ?_, Same.wr (sm.trans g1) hD2, _, upd_same, ?_⟩
      · rw [hout.length, List.length_map, List.length_take]
        omega
      · rw [List.take_add_one, hSi, List.map_append]
        refine RpAll.snoc (RpAll.keep (TK.trans (Same.tk g1) (TK.write (g1 _ _ ho) fun xs z => by cases z)) hout) (Rp.its ?_)
        rw [upd_ne n1.symm, upd_same]
        rfl
    · rintro H2 ⟨sm, out, ho, hout⟩
      rw [al, List.take_length] at hout
      refine ⟨D2, out, rfl, .inl ⟨SqL.of ho, fun l hl => ?_⟩⟩
      have g4 := Same.new (o := .tup out) hl
      have sA := (s2.trans s3).trans (sm.trans g4)
      refine ⟨_, rfl, _, rfl, _, _, _, _, rfl, rfl, SqT.of (sA _ _ ha), rfl, _, rfl, _, _, _, _, rfl, rfl, SqT.of (sA _ _ ha), rfl, ?_⟩
      refine ⟨_, _, rfl, rfl, ⟨by decide, by decide⟩, by show 3 ≤ sizeLine; decide, fun l2 hl2 => ?_⟩
      have ehalf : (fun i j : Int => V.int (i / j)) (sd c.q c.b) 2 = V.int c.q := by show V.int (sd c.q c.b / 2) = _; rw [sd_half]
      rw [ehalf]
      have g5 := Same.new (o := .tup [V.ref l, V.int c.x, V.int c.q]) hl2
      refine k _ _ (s1.trans (sA.trans g5)) ?_
      exact .tup upd_same (.cons (.tup (g5 _ _ upd_same) (RpAll.keep (Same.tk (g4.trans g5)) hout)) (.cons (.int _) (.cons (.int _) .nil)))

/-! ### tape_by_walker -/
theorem sc_tape_by_walker : FnScope ["machine", "tape", "head", "state", "many", "floor", "walker", "walk"] ["machine", "tape", "head", "state", "many"] (C8.fnScope (top 45)) := C8.fnScope_by (by decide +kernel)
theorem ok_tape_by_walker (T : Txt K mg CW CR CS CT CF) (c_need_tape : Ca P w K mg base 4 "need_tape" spTape) (c_is_in : Ca P w K mg base 1 "is_in" spIsIn) (c_tape_stand : Ca P w K mg base 5 "tape_stand" spTStand) (c_walker_table : Ca P w K mg base 4 "walker_table" spTab)
    (k_Walk : Ma P w K mg base 2 "Walk" CW (spWalkInit CW)) (m_go : Me P w K mg base 4 CW "go" (spGo CW)) (m_stand : Me P w K mg base 2 CW "stand" (spStandM CW)) (c_read_stand : Ca P w K mg base 2 "read_stand" spRead)
    (F : C8.Def K mg "tape_by_walker" (top 45) f fd) (b : Binds K fd ["machine", "tape", "head", "state", "many"] []) : Ca P w K mg base 6 "tape_by_walker" (spRun 3000) := by
  refine C8.cal0 F b .nil sc_tape_by_walker (fun vs H Q E h => ?_) (fun cdv A outer s H vs Q E hr h => ?_)
  · obtain ⟨_, _, _, _, _, _, _, _, _, rfl, _⟩ := h; rfl
  · obtain ⟨v, t, M, S, G, tape, h, q, many, rfl, tp, hm, k⟩ := h
    have s1 := tp.good.s1
    have s2 := tp.good.s2
    have hq := tp.q
    refine ⟨_, (pss_cons (ps_expr (C8.pe_c c_need_tape hr (by decide) (by rfl) (pa_cons (pv 0) (pa_cons (pv 1) (pa_cons (pv 2) (pa_cons (pv 3) pa_nil))))))
      (pss_cons (ps_if (pt_not (pt_val (C8.pe_c c_is_in hr (by decide) (by rfl) (pa_cons (pv 4) (pa_cons pe_int (pa_cons (C8.pe_gc (by rfl) T.cSteps) pa_nil)))))) (pss_one ps_never) pss_nil)
      (pss_cons (ps_asg (C8.pe_c c_tape_stand hr (by decide) (by rfl) (pa_cons (pv 0) (pa_cons (pv 1) (pa_cons (pv 2) (pa_cons (pv 3) pa_nil))))) (pg_tupK K (n := 2) rfl (pgs_cons (pg_name (i := 5) sc_tape_by_walker.nd rfl (.inl rfl)) (pgs_cons (pg_name (i := 6) sc_tape_by_walker.nd rfl (.inl rfl)) pgs_nil))))
      (pss_cons (ps_set (i := 7) sc_tape_by_walker.nd rfl (.inl rfl) (C8.pe_mk k_Walk hr (by decide) (by rfl) (pa_cons (C8.pe_c c_walker_table hr (by decide) (by rfl) (pa_cons (pv 0) pa_nil)) (pa_cons (pv 5) (pa_cons (pv 6) pa_nil)))))
      (pss_cons (ps_expr (C8.pe_mt m_go hr (by decide) (pv 7) (pa_cons (pv 4) pa_nil)))
      (pss_one (ps_ret (pe_op (catT_K K) (C8.pe_c c_read_stand hr (by decide) (by rfl) (pa_cons (pe_ix (ix_tupK K) (C8.pe_mt0 m_stand hr (by decide) (pv 7)) pe_int (fun _ _ => rfl)) (pa_cons (pe_ix (ix_tupK K) (C8.pe_mt0 m_stand hr (by decide) (pv 7)) pe_int (fun _ _ => rfl)) pa_nil))) (pe_tup (pa_cons (pe_fldK K (pv 7)) pa_nil)))))))))), ?_⟩
    refine ⟨_, rfl, _, rfl, _, rfl, _, rfl, v, t, M, S, G, tape, h, q, rfl, tp.v, tp.good, tp.t, tp.ok, tp.far, tp.q, fun H1 s1 => ?_⟩
    refine ⟨_, rfl, _, _, _, rfl, _, rfl, iteND (by omega) ?_⟩
    refine ⟨_, rfl, _, rfl, _, rfl, _, rfl, v, t, M, S, G, tape, h, q, rfl, ⟨Rp.keep (Same.tk s1) tp.v, tp.good, Rp.keep (Same.tk s1) tp.t, tp.ok, tp.far, tp.q⟩, by omega, fun H2 r Sq s2 can hr2 => ?_⟩
    obtain ⟨sa, fl, wk, rfl, hsa, hf, hw⟩ := Rp.of_two hr2
    refine ⟨sa, _, rfl, SqT.of hsa, rfl, _, _, rfl, _, _, rfl, rfl, ?_⟩
    have few := tape_few can
    have few2 := tp.ok.few
    refine ⟨_, rfl, v, M, S, G, rfl, Rp.keep (Same.tk (s1.trans s2)) tp.v, tp.good, fun H3 rt s3 hrt => ⟨_, rfl, _, rfl, fun x dx nx ndx nex => ?_⟩⟩
    have s0 : Same H3 (upd (upd H3 dx (.own x)) x (.ins CW dx [])) := fun b o e => by
      rw [upd_ne (ne_of_none e nx), upd_ne (ne_of_none e ndx)]
      exact e
    have tk0 := Same.tk s0
    have tk3 := TK.trans (Same.tk s3) tk0
    refine ⟨x, dx, rt, fl, wk, M, S, G, Sq, cfg0 tape h q, rfl, upd_same, Rp.keep tk0 hrt, Rp.keep tk3 hf, Rp.keep tk3 hw, tp.good, cfg0_ok tp.good tp.ok tp.q, can, by omega, fun H4 d W1 nd k1 => ⟨rfl, ?_⟩⟩
    have s4 : Same H3 H4 := Same.made nx ndx k1
    have nd0 : H3 d = none := s0.free nd
    obtain ⟨dx1, t1, pl1, h1, _⟩ := W1.ob
    refine ⟨_, rfl, x, dx1, _, rfl, h1, rfl, _, rfl, x, d, M, S, G, cfg0 tape h q, 0, Sq.length, many, rfl, W1, Nat.zero_le _, by omega, fun H5 i c' en W2 b2 => ?_⟩
    rw [Nat.zero_add] at W2
    have hle := en.le
    have s5 : Same H3 H5 := fun b o e => b2 b o (s4 b o e) (ne_of_none e nx) (ne_of_none e nd0)
    obtain ⟨dx2, t2, pl2, h2, _⟩ := W2.ob
    refine ⟨_, rfl, x, dx2, _, rfl, h2, rfl, x, d, M, S, G, c', i, Sq.length + i, rfl, W2, by omega, fun H6 v1 S1 s6 can1 few1 r1 => ?_⟩
    obtain ⟨a1, fl1, wk1, rfl, ha1, hf1, hw1⟩ := Rp.of_two r1
    refine ⟨a1, _, _, _, rfl, rfl, SqT.of ha1, rfl, ?_⟩
    refine ⟨_, rfl, x, dx2, _, rfl, s6 _ _ h2, rfl, x, d, M, S, G, c', i, Sq.length + i, rfl, W2.keep s6, by omega, fun H7 v2 S2 s7 can2 few2' r2 => ?_⟩
    obtain ⟨a2, fl2, wk2, rfl, ha2, hf2, hw2⟩ := Rp.of_two r2
    refine ⟨a2, _, _, _, rfl, rfl, SqT.of ha2, rfl, ?_⟩
    refine ⟨_, wk2, S1, c', rfl, Rp.keep (Same.tk s7) hf1, hw2, can1, by omega, fun H8 r3 s8 hr3 => ?_⟩
    obtain ⟨a3, xs3, rfl, ha3, hx3⟩ := Rp.of_tup hr3
    refine ⟨_, rfl, x, CW, dx2, _, _, rfl, ((s6.trans s7).trans s8) _ _ h2, T.wC, T.wDone, rfl, by show 1 ≤ sizeLine; decide, fun p1 hp1 => ?_⟩
    have g1 := Same.new (o := .tup [V.int (i : Nat)]) hp1
    have l3 : xs3.length = 3 := hx3.length
    refine ⟨a3, p1, _, _, rfl, rfl, SqT.of (g1 _ _ ha3), SqT.of upd_same, (fun e => by rw [e] at l3; cases l3), by rw [l3]; show 3 + 1 ≤ sizeLine; decide, fun e => by simp at e, fun _ p2 hp2 => ?_⟩
    have g2 := g1.trans (Same.new (o := .tup (xs3 ++ [V.int (i : Nat)])) hp2)
    refine k _ _ i c' S1 en can1 ((((s1.trans s2).trans s3).trans s5).trans (((s6.trans s7).trans s8).trans g2)) (.tup upd_same ?_)
    exact RpAll.snoc (RpAll.keep (Same.tk g2) hx3) (.int _)
end
end TP
set_option Elab.async false
set_option linter.all false
set_option maxRecDepth 100000
set_option maxHeartbeats 4000000
namespace TP
open PySem PySem.Spec PyProof.Rows L2
def mapE (K0 : List Int) (f : Int → Int) : List (Int × Int) := K0.map fun x => (x, f x)
theorem mapE_keys (K0 : List Int) (f : Int → Int) : (mapE K0 f).map (·.1) = K0 := by
  unfold mapE
  rw [List.map_map]
  exact List.map_id _
theorem mapE_val {K0 : List Int} {f : Int → Int} (nd : K0.Nodup) {x : Int} (h : x ∈ K0) : valV (encS (mapE K0 f)) (pk x) = some (.int (f x)) := by
  have m : (x, f x) ∈ mapE K0 f := List.mem_map.mpr ⟨x, h, rfl⟩
  have nd' : ((mapE K0 f).map (·.1)).Nodup := by rw [mapE_keys]; exact nd
  rw [valV_enc, find_mem nd' m]
  rfl
theorem mapE_none {K0 : List Int} {f : Int → Int} {x : Int} (h : x ∉ K0) : valV (encS (mapE K0 f)) (pk x) = none := look_none (by rw [mapE_keys]; exact h)
theorem mapE_any {K0 : List Int} {f : Int → Int} {x : Int} : ((mapE K0 f).any fun p => decide (p.1 = x)) = true ↔ x ∈ K0 := by
  unfold mapE
  rw [List.any_map, List.any_eq_true]
  constructor
  · rintro ⟨y, hy, h⟩
    have : y = x := of_decide_eq_true h
    exact this ▸ hy
  · intro h
    exact ⟨x, h, decide_eq_true rfl⟩
theorem putL_in {K0 : List Int} {f : Int → Int} {x : Int} (h : x ∈ K0) (v : Int) : putL (mapE K0 f) x v = mapE K0 (setF f x v) := by
  unfold putL
  rw [if_pos (mapE_any.mpr h)]
  unfold mapE
  rw [List.map_map]
  refine List.map_congr_left fun y _ => ?_
  show (if y = x then (y, v) else (y, f y)) = (y, setF f x v y)
  unfold setF
  split <;> rfl
theorem putL_new {K0 : List Int} {f : Int → Int} {x : Int} (h : x ∉ K0) (v : Int) : putL (mapE K0 f) x v = mapE (K0 ++ [x]) (setF f x v) := by
  unfold putL
  rw [if_neg fun z => h (mapE_any.mp z)]
  unfold mapE
  rw [List.map_append]
  show _ ++ [(x, v)] = _ ++ [(x, setF f x v x)]
  rw [setF_same]
  congr 1
  refine List.map_congr_left fun y hy => ?_
  have ne : y ≠ x := fun e => h (by rw [← e]; exact hy)
  rw [setF_ne f v ne]
theorem setF_self (f : Int → Int) (x : Int) : setF f x (f x) = f := by
  funext z
  unfold setF
  split
  · rename_i h; rw [h]
  · rfl
theorem trod_succ {M : Mach} {c ci : Cfg} {i : Nat} (h : runC M c i = some ci) (x : Int) : Trod M c (i + 1) x ↔ Trod M c i x ∨ x = ci.x := by
  constructor
  · rintro ⟨j, cj, hj, hc, hx⟩
    by_cases e : j = i
    · subst e
      rw [h] at hc
      exact .inr (by rw [← hx, Option.some.inj hc])
    · exact .inl ⟨j, cj, by omega, hc, hx⟩
  · rintro (⟨j, cj, hj, hc, hx⟩ | rfl)
    · exact ⟨j, cj, by omega, hc, hx⟩
    · exact ⟨i, ci, Nat.lt_succ_self i, h, rfl⟩
/-- the trodden squares in the order of their first treading -/
structure Keys (M : Mach) (c : Cfg) (n : Nat) (K0 : List Int) : Prop where
  nd : K0.Nodup
  mem : ∀ x, x ∈ K0 ↔ Trod M c n x
  few : K0.length ≤ n
theorem Keys.old {M : Mach} {c ci : Cfg} {i : Nat} {K0 : List Int} (k : Keys M c i K0) (h : runC M c i = some ci) (m : ci.x ∈ K0) : Keys M c (i + 1) K0 :=
  ⟨k.nd, fun x => by
    rw [trod_succ h, k.mem]
    exact ⟨.inl, fun z => z.elim id fun e => e ▸ (k.mem _).mp m⟩, by have := k.few; omega⟩
theorem Keys.new {M : Mach} {c ci : Cfg} {i : Nat} {K0 : List Int} (k : Keys M c i K0) (h : runC M c i = some ci) (m : ci.x ∉ K0) : Keys M c (i + 1) (K0 ++ [ci.x]) :=
  ⟨List.nodup_append.mpr ⟨k.nd, by simp, fun a ha b hb => by
      simp at hb
      subst hb
      exact fun e => m (by rw [← e]; exact ha)⟩, fun x => by
    rw [trod_succ h, List.mem_append, k.mem]
    simp, by have := k.few; rw [List.length_append]; simp; omega⟩
/-- the walkers of the first steps -/
structure Ways (M : Mach) (c : Cfg) (n : Nat) (cs : List Cfg) : Prop where
  len : cs.length = n
  at_ : ∀ (j : Nat) (cj : Cfg), cs[j]? = some cj → runC M c j = some cj
theorem Ways.snoc {M : Mach} {c ci : Cfg} {i : Nat} {cs : List Cfg} (k : Ways M c i cs) (h : runC M c i = some ci) : Ways M c (i + 1) (cs ++ [ci]) :=
  ⟨by rw [List.length_append, k.len]; rfl, fun j cj e => by
    by_cases hj : j < i
    · rw [List.getElem?_append_left (by rw [k.len]; exact hj)] at e
      exact k.at_ j cj e
    · rw [List.getElem?_append_right (by rw [k.len]; omega), k.len] at e
      have : j - i = 0 := by
        rcases Nat.eq_zero_or_pos (j - i) with z | z
        · exact z
        · rw [List.getElem?_eq_none (by show 1 ≤ j - i; omega)] at e; cases e
      rw [this] at e
      have e : ci = cj := Option.some.inj e
      rw [← e, show j = i by omega]
      exact h⟩
theorem step_f {M : Mach} {c d : Cfg} (h : stepC M c = some d) : setF c.f c.x (d.f c.x) = d.f := by
  obtain ⟨w, m, q, hr, rfl⟩ := rl_of_step h
  funext z
  show setF c.f c.x (setF c.f c.x w c.x) z = setF c.f c.x w z
  rw [setF_same]
theorem back_iff (c d : Cfg) : PyData.eqv (itD [hdg d.b, sd d.q d.b]) (itD [hdg c.b, sd c.q c.b]) = decide (d.b = c.b ∧ d.q = c.q) := by
  rw [Bool.eq_iff_iff, eqv_iff (n := 1) (m := 1) pl_its pl_its, decide_eq_true_iff]
  constructor
  · intro h
    have h : [PyData.int (hdg d.b), PyData.int (sd d.q d.b)] = [PyData.int (hdg c.b), PyData.int (sd c.q c.b)] := PyData.tuple.inj h
    have h1 : hdg d.b = hdg c.b := PyData.int.inj (List.cons.inj h).1
    have h2 : sd d.q d.b = sd c.q c.b := PyData.int.inj (List.cons.inj (List.cons.inj h).2).1
    have hb : d.b = c.b := by
      unfold hdg at h1
      revert h1
      cases d.b <;> cases c.b <;> simp
    refine ⟨hb, ?_⟩
    rw [hb] at h2
    unfold sd at h2
    omega
  · rintro ⟨h1, h2⟩
    rw [h1, h2]
def rfs (dg : Addr) (n : Int) (df dl dw : Addr) (wh : Bool) (ae am : Addr) (bk : Bool) : List (Str × V) :=
  [("ground", .ref dg), ("period", .int n), ("first", .ref df), ("left", .ref dl), ("ways", .ref dw), ("is_whole", .bl wh), ("end", .ref ae), ("move", .ref am), ("is_back", .bl bk)]
def Fz (z : Bool) (H : Hp) (d : Addr) (u : HO) : Prop := match z with
  | false => H d = some u
  | true => ∃ o, H d = some (.frz o u)
theorem Fz.rd {z : Bool} {H : Hp} {d : Addr} {u : HO} (h : Fz z H d u) : Rd H d u := by
  cases z
  · exact .inl h
  · exact .inr h
theorem Fz.keep {z : Bool} {H H' : Hp} {d : Addr} {u : HO} (h : Fz z H d u) (s : Same H H') : Fz z H' d u := by
  cases z
  · exact s _ _ h
  · obtain ⟨o, h⟩ := h
    exact ⟨o, s _ _ h⟩
/-- a Round of n steps from c to cp stands at p -/
structure RoundAt (CR : Addr) (M : Mach) (S G : Nat) (H : Hp) (p : Addr) (c cp : Cfg) (n : Nat) (z : Bool) : Prop where
  good : Good M S G
  ok : CfgOk c S G
  run : runC M c n = some cp
  nn : 1 ≤ n ∧ n ≤ 600
  ob : ∃ dx dg df dl dw ae am Sq K0 ws cs, H p = some (.ins CR dx (rfs dg (n : Nat) df dl dw true ae am (decide (cp.b = c.b ∧ cp.q = c.q)))) ∧ H dg = some (.dT (encS Sq)) ∧ Canon c.f Sq ∧ Sq.length ≤ 3000 ∧
    Keys M c n K0 ∧ Fz z H df (.dT (encS (mapE K0 c.f))) ∧ H dl = some (.dT (encS (mapE K0 cp.f))) ∧ H dw = some (.lst ws) ∧ Ways M c n cs ∧ RpAll H ws (cs.map walkerD) ∧ H am = some (.tup [.int (cp.x - c.x), .int 0]) ∧ dg ≠ df ∧ dl ≠ df
def FR (H H' : Hp) (p : Addr) : Prop := ∀ b o, H b = some o → b ≠ p → H' b = some o
theorem FR.same {H H1 H2 : Hp} {p : Addr} (a : FR H H1 p) (s : Same H1 H2) : FR H H2 p := fun b o h hb => s _ _ (a b o h hb)
theorem FR.wr {H H1 : Hp} {p : Addr} (a : FR H H1 p) {o' : HO} : FR H (upd H1 p o') p := fun b o h hb => by rw [upd_ne hb]; exact a b o h hb
theorem FR.free {H H1 : Hp} {p x : Addr} {o : HO} (a : FR H H1 p) (hp : H1 p = some o) (h : H1 x = none) : H x = none ∧ p ≠ x := by
  have ne : p ≠ x := ne_of_none hp h
  refine ⟨?_, ne⟩
  cases e : H x with
  | none => rfl
  | some o => have := a x o e ne.symm; rw [h] at this; cases this
def rf6 (dg : Addr) (n : Int) (df dl dw : Addr) : List (Str × V) :=
  [("ground", .ref dg), ("period", .int n), ("first", .ref df), ("left", .ref dl), ("ways", .ref dw), ("is_whole", .bl true)]
/-- while a Round is made -/
structure RL (CW CR : Addr) (M : Mach) (S G : Nat) (H H' : Hp) (p wp wd dx dg df dl dw : Addr) (c ci cl : Cfg) (n i B : Nat) (Sq : List (Int × Int)) (K0 K1 : List Int) (ws : List V) (cs : List Cfg) : Prop where
  W : WalkAt CW M S G H' wp wd ci i B
  op : H' p = some (.ins CR dx (rf6 dg (n : Nat) df dl dw))
  og : H' dg = some (.dT (encS Sq))
  of : H' df = some (.dT (encS (mapE K0 c.f)))
  ol : H' dl = some (.dT (encS (mapE K1 cl.f)))
  ow : H' dw = some (.lst ws)
  re : RpAll H' ws (cs.map walkerD)
  fr : ∀ b o, H b = some o → b ≠ p → H' b = some o
structure RN (H : Hp) (p wp wd dg df dl dw : Addr) : Prop where
  pw : p ≠ wp
  fl : df ≠ dl
  fd : df ≠ wd
  ld : dl ≠ wd
  gf : dg ≠ df
  gl : dg ≠ dl
  gd : dg ≠ wd
  hw : H wp = none
  hd : H wd = none
  hf : H df = none
  hl : H dl = none
  hw2 : H dw = none
section
variable {CW CR : Addr} {M : Mach} {S G : Nat} {H H' : Hp} {p wp wd dx dg df dl dw : Addr} {c ci cl : Cfg} {n i B : Nat} {Sq : List (Int × Int)} {K0 K1 : List Int} {ws : List V} {cs : List Cfg}
theorem WalkAt.put (W : WalkAt CW M S G H p wd c n B) {X : Addr} {o o' : HO} (h : H X = some o) (ht : ∀ xs, o ≠ .tup xs) (h1 : X ≠ p) (h2 : X ≠ wd) : WalkAt CW M S G (upd H X o') p wd c n B := by
  obtain ⟨dx, t, pl, e1, e2, e3⟩ := W.ob
  obtain ⟨L, e4, e5, e6⟩ := W.dc
  have tk : TK H (upd H X o') := TK.write h ht
  exact ⟨W.good, W.ok, ⟨dx, t, pl, by rw [upd_ne h1.symm]; exact e1, tk _ _ e2, Rp.keep tk e3⟩, ⟨L, by rw [upd_ne h2.symm]; exact e4, e5, e6⟩⟩
theorem RL.same (R : RL CW CR M S G H H' p wp wd dx dg df dl dw c ci cl n i B Sq K0 K1 ws cs) {H2 : Hp} (s : Same H' H2) : RL CW CR M S G H H2 p wp wd dx dg df dl dw c ci cl n i B Sq K0 K1 ws cs :=
  ⟨R.W.keep s, s _ _ R.op, s _ _ R.og, s _ _ R.of, s _ _ R.ol, s _ _ R.ow, RpAll.keep (Same.tk s) R.re, fun b o h hb => s _ _ (R.fr b o h hb)⟩
theorem RL.ways (R : RL CW CR M S G H H' p wp wd dx dg df dl dw c ci cl n i B Sq K0 K1 ws cs) (N : RN H p wp wd dg df dl dw) {v : V} {e : Cfg} (hv : Rp H' v (walkerD e)) : RL CW CR M S G H (upd H' dw (.lst (ws ++ [v]))) p wp wd dx dg df dl dw c ci cl n i B Sq K0 K1 (ws ++ [v]) (cs ++ [e]) := by
  obtain ⟨dxw, t, pl, e1, _⟩ := R.W.ob
  obtain ⟨L, e4, _⟩ := R.W.dc
  have tk : TK H' (upd H' dw (.lst (ws ++ [v]))) := TK.write R.ow fun xs z => by cases z
  refine ⟨R.W.put R.ow (fun xs z => by cases z) (ne_of R.ow e1 fun z => by cases z) (ne_of R.ow e4 fun z => by cases z), ?_, ?_, ?_, ?_, upd_same, ?_, fun b o h hb => ?_⟩
  · rw [upd_ne (ne_of R.op R.ow fun z => by cases z)]; exact R.op
  · rw [upd_ne (ne_of R.og R.ow fun z => by cases z)]; exact R.og
  · rw [upd_ne (ne_of R.of R.ow fun z => by cases z)]; exact R.of
  · rw [upd_ne (ne_of R.ol R.ow fun z => by cases z)]; exact R.ol
  · rw [List.map_append]
    exact RpAll.snoc (RpAll.keep tk R.re) (Rp.keep tk hv)
  · rw [upd_ne (ne_of_none h N.hw2)]
    exact R.fr b o h hb
theorem RL.first (R : RL CW CR M S G H H' p wp wd dx dg df dl dw c ci cl n i B Sq K0 K1 ws cs) (N : RN H p wp wd dg df dl dw) {K2 : List Int} : RL CW CR M S G H (upd H' df (.dT (encS (mapE K2 c.f)))) p wp wd dx dg df dl dw c ci cl n i B Sq K2 K1 ws cs := by
  obtain ⟨dxw, t, pl, e1, _⟩ := R.W.ob
  have tk : TK H' (upd H' df (.dT (encS (mapE K2 c.f)))) := TK.write R.of fun xs z => by cases z
  refine ⟨R.W.put R.of (fun xs z => by cases z) (ne_of R.of e1 fun z => by cases z) N.fd, ?_, ?_, upd_same, ?_, ?_, RpAll.keep tk R.re, fun b o h hb => ?_⟩
  · rw [upd_ne (ne_of R.op R.of fun z => by cases z)]; exact R.op
  · rw [upd_ne N.gf]; exact R.og
  · rw [upd_ne N.fl.symm]; exact R.ol
  · rw [upd_ne (ne_of R.ow R.of fun z => by cases z)]; exact R.ow
  · rw [upd_ne (ne_of_none h N.hf)]
    exact R.fr b o h hb
theorem RL.left (R : RL CW CR M S G H H' p wp wd dx dg df dl dw c ci cl n i B Sq K0 K1 ws cs) (N : RN H p wp wd dg df dl dw) {K2 : List Int} {e : Cfg} : RL CW CR M S G H (upd H' dl (.dT (encS (mapE K2 e.f)))) p wp wd dx dg df dl dw c ci e n i B Sq K0 K2 ws cs := by
  obtain ⟨dxw, t, pl, e1, _⟩ := R.W.ob
  have tk : TK H' (upd H' dl (.dT (encS (mapE K2 e.f)))) := TK.write R.ol fun xs z => by cases z
  refine ⟨R.W.put R.ol (fun xs z => by cases z) (ne_of R.ol e1 fun z => by cases z) N.ld, ?_, ?_, ?_, upd_same, ?_, RpAll.keep tk R.re, fun b o h hb => ?_⟩
  · rw [upd_ne (ne_of R.op R.ol fun z => by cases z)]; exact R.op
  · rw [upd_ne N.gl]; exact R.og
  · rw [upd_ne N.fl]; exact R.of
  · rw [upd_ne (ne_of R.ow R.ol fun z => by cases z)]; exact R.ow
  · rw [upd_ne (ne_of_none h N.hl)]
    exact R.fr b o h hb
theorem RL.again (R : RL CW CR M S G H H' p wp wd dx dg df dl dw c ci cl n i B Sq K0 K1 ws cs) (N : RN H p wp wd dg df dl dw) : RL CW CR M S G H (upd H' p (.ins CR dx (rf6 dg (n : Nat) df dl dw))) p wp wd dx dg df dl dw c ci cl n i B Sq K0 K1 ws cs := by
  have e : upd H' p (.ins CR dx (rf6 dg (n : Nat) df dl dw)) = H' := by
    funext b
    by_cases hb : b = p
    · rw [hb, upd_same, R.op]
    · rw [upd_ne hb]
  rw [e]
  exact R
theorem RL.step (R : RL CW CR M S G H H' p wp wd dx dg df dl dw c ci cl n i B Sq K0 K1 ws cs) (N : RN H p wp wd dg df dl dw) {H2 : Hp} {c2 : Cfg} (W2 : WalkAt CW M S G H2 wp wd c2 (i + 1) (B + 1)) (b2 : But2 H' H2 wp wd) : RL CW CR M S G H H2 p wp wd dx dg df dl dw c c2 cl n (i + 1) (B + 1) Sq K0 K1 ws cs := by
  obtain ⟨dxw, t, pl, e1, _⟩ := R.W.ob
  obtain ⟨L, e4, _⟩ := R.W.dc
  refine ⟨W2, ?_, ?_, ?_, ?_, ?_, RpAll.keep (R.W.tk b2) R.re, fun b o h hb => ?_⟩
  · exact b2 _ _ R.op N.pw (ne_of R.op e4 fun z => by cases z)
  · exact b2 _ _ R.og (ne_of R.og e1 fun z => by cases z) N.gd
  · exact b2 _ _ R.of (ne_of R.of e1 fun z => by cases z) N.fd
  · exact b2 _ _ R.ol (ne_of R.ol e1 fun z => by cases z) N.ld
  · exact b2 _ _ R.ow (ne_of R.ow e1 fun z => by cases z) (ne_of R.ow e4 fun z => by cases z)
  · exact b2 _ _ (R.fr b o h hb) (ne_of_none h N.hw) (ne_of_none h N.hd)
end
section
variable {P : Program} {w : World} {K : PySem.W.Frag} {mg : Str → Option Value} {base : Heap} {CW CR CS CT CF : Addr} {f : Addr} {fd : FuncData}

/-! ### Round.__init__ -/
def spRoundInit (CR : Addr) : Sp := fun vs H Q _ => ∃ (p dx : Addr) (t fl wk : V) (M : Mach) (S G : Nat) (Sq : List (Int × Int)) (c cp : Cfg) (n : Nat), vs = [.ref p, t, fl, wk, .int n] ∧ H p = some (.ins CR dx []) ∧ St3 H t fl wk M S G Sq c ∧
  runC M c n = some cp ∧ (1 ≤ n ∧ n ≤ 600) ∧ Sq.length ≤ 3000 ∧ ∀ H', RoundAt CR M S G H' p c cp n false → (∀ b o, H b = some o → b ≠ p → H' b = some o) → Q .non H'
theorem sc_Round_init : FnScope ["self", "table", "floor", "walker", "period", "walk", "turn", "place"] ["self", "table", "floor", "walker", "period"] (C8.fnScope (meth 49 0)) := C8.fnScope_by (by decide +kernel)
theorem ok_Round (T : Txt K mg CW CR CS CT CF) (c_squares_of : Ca P w K mg base 1 "squares_of" spSquares) (k_Walk : Ma P w K mg base 2 "Walk" CW (spWalkInit CW)) (m_walker : Me P w K mg base 1 CW "walker" (spWalkerM CW)) (m_colour : Me P w K mg base 1 CW "colour" (spColour CW)) (m_step : Me P w K mg base 3 CW "step" (spStep CW))
    (Mk : Mk K CR f) (hm : mg "Round" = some (.ref CR)) (F : C8.Fun K "__init__" "Round.__init__" (meth 49 0) f fd) (b : Binds K fd ["self", "table", "floor", "walker", "period"] []) :
    Ma P w K mg base 4 "Round" CR (spRoundInit CR) := by
  refine C8.mak0 Mk hm F b .nil sc_Round_init (fun vs H Q E h => ?_) (fun cdv A outer s H vs Q E hr h => ?_)
  · obtain ⟨_, _, _, _, _, _, _, _, _, _, _, _, rfl, _⟩ := h; rfl
  · obtain ⟨p, dx, t, fl, wk, M, S, G, Sq, c, cp, n, rfl, hp, st, run, hn, few, k⟩ := h
    refine ⟨_, (pss_cons (ps_fld (pv 0) (C8.pe_c c_squares_of hr (by decide) (by rfl) (pa_cons (pv 2) pa_nil)) rfl)
      (pss_cons (ps_fld (pv 0) (pv 4) rfl)
      (pss_cons (ps_fld (pv 0) pe_dnewT rfl)
      (pss_cons (ps_fld (pv 0) pe_dnewT rfl)
      (pss_cons (ps_fld (pv 0) (pe_lst pa_nil) rfl)
      (pss_cons (ps_set (i := 5) sc_Round_init.nd rfl (.inl rfl) (C8.pe_mk k_Walk hr (by decide) (by rfl) (pa_cons (pv 1) (pa_cons (pv 2) (pa_cons (pv 3) pa_nil)))))
      (pss_cons (ps_fld (pv 0) pe_bl rfl)
      (pss_cons (ps_for PassesOwn.never rfl (pi_range1 (by rfl) T.range (pa_cons (pv 4) pa_nil)) (pg_name (i := 6) sc_Round_init.nd rfl (.inl rfl))
        (pss_cons (ps_set (i := 7) sc_Round_init.nd rfl (.inl rfl) (pe_fldK K (pv 5)))
      (pss_cons (ps_expr (pe_bm PySem.F.plainAttrs_list PySem.F.slot_list_append PySem.F.type_list_append mt_append (pe_fldK K (pv 0)) (pa_cons (C8.pe_mt0 m_walker hr (by decide) (pv 5)) pa_nil)))
      (C8.pss_cut (ps_if (pt_cmp (pc_dnotin (hu1 hr) (pv 7) (pe_fldK K (pv 0)))) (pss_one (ps_dput (hu1 hr) (pe_fldK K (pv 0)) (pv 7) (C8.pe_mt0 m_colour hr (by decide) (pv 5)) rfl)) pss_nil)
      (pss_cons (ps_fld (pv 0) (pe_and (pe_fldK K (pv 0)) (pe_one (C8.pe_mt0 m_step hr (by decide) (pv 5)))) rfl)
      (pss_one (ps_dput (hu1 hr) (pe_fldK K (pv 0)) (pv 7) (pe_dget2 (hu1 hr) (pe_fldK K (pv 5)) (pv 7) pe_int ⟨rfl, rfl, rfl, rfl⟩) rfl)))))))
      (pss_cons (ps_fld (pv 0) (C8.pe_mt0 m_walker hr (by decide) (pv 5)) rfl)
      (pss_cons (ps_fld (pv 0) (pe_tup (pa_cons (pe_op op_sub (pe_ix (ix_tupK K) (pe_fldK K (pv 0)) pe_int (fun _ _ => rfl)) (pe_ix (ix_tupK K) (pv 3) pe_int (fun _ _ => rfl))) (pa_cons (pe_op op_sub (pe_ix (ix_tupK K) (pe_fldK K (pv 0)) pe_int (fun _ _ => rfl)) (pe_ix (ix_tupK K) (pv 3) pe_int (fun _ _ => rfl))) pa_nil))) rfl)
      (pss_one (ps_fld (pv 0) (pe_cmpR (eqD_K K (hu64 hr)) (pe_slice (sl_tupK K) (pe_fldK K (pv 0)) (po_some pe_int) po_none) (pe_slice (sl_tupK K) (pv 3) (po_some pe_int) po_none) (nomark _)) rfl)))))))))))), ?_⟩
    refine ⟨_, rfl, fl, Sq, rfl, st.f, st.can.asc, by omega, fun H1 dg s1 ndg hdgr => ?_⟩
    refine ⟨_, rfl, p, CR, dx, _, rfl, s1 _ _ hp, T.rC, T.rGround, (by show 0 < 1000; decide), ?_⟩
    generalize hA : upd H1 p (.ins CR dx (putF "ground" (.ref dg) [])) = H2
    have hp2 : H2 p = some (.ins CR dx [("ground", .ref dg)]) := by rw [← hA]; exact upd_same
    have npg : dg ≠ p := (ne_of_none hp ndg).symm
    have hdg2 : H2 dg = some (.dT (encS Sq)) := by rw [← hA, upd_ne npg]; exact hdgr
    have fr2 : FR H H2 p := fun b o h hb => by rw [← hA, upd_ne hb]; exact s1 _ _ h
    refine ⟨_, rfl, _, rfl, p, CR, dx, _, rfl, hp2, T.rC, T.rPeriod, (by show 1 < 1000; decide), ?_⟩
    generalize hA : upd H2 p (.ins CR dx (putF "period" (.int (n : Nat)) [("ground", .ref dg)])) = H3
    have hp3 : H3 p = some (.ins CR dx [("ground", .ref dg), ("period", .int (n : Nat))]) := by rw [← hA]; exact upd_same
    have hdg3 : H3 dg = some (.dT (encS Sq)) := by rw [← hA, upd_ne npg]; exact hdg2
    have fr3 : FR H H3 p := by rw [← hA]; exact fr2.wr
    refine fun df ndf => ?_
    obtain ⟨nf0, npf⟩ := fr3.free hp3 ndf
    have sf := Same.new (o := .dT []) ndf
    refine ⟨_, rfl, p, CR, dx, _, rfl, sf _ _ hp3, T.rC, T.rFirst, (by show 2 < 1000; decide), ?_⟩
    generalize hA : upd (upd H3 df (.dT [])) p (.ins CR dx (putF "first" (.ref df) [("ground", .ref dg), ("period", .int (n : Nat))])) = H4
    have hp4 : H4 p = some (.ins CR dx [("ground", .ref dg), ("period", .int (n : Nat)), ("first", .ref df)]) := by rw [← hA]; exact upd_same
    have hdg4 : H4 dg = some (.dT (encS Sq)) := by rw [← hA, upd_ne npg]; exact sf _ _ hdg3
    have hdf4 : H4 df = some (.dT []) := by rw [← hA, upd_ne npf.symm]; exact upd_same
    have fr4 : FR H H4 p := by rw [← hA]; exact (fr3.same sf).wr
    refine fun dl ndl => ?_
    obtain ⟨nl0, npl⟩ := fr4.free hp4 ndl
    have sl := Same.new (o := .dT []) ndl
    refine ⟨_, rfl, p, CR, dx, _, rfl, sl _ _ hp4, T.rC, T.rLeft, (by show 3 < 1000; decide), ?_⟩
    generalize hA : upd (upd H4 dl (.dT [])) p (.ins CR dx (putF "left" (.ref dl) [("ground", .ref dg), ("period", .int (n : Nat)), ("first", .ref df)])) = H5
    have hp5 : H5 p = some (.ins CR dx [("ground", .ref dg), ("period", .int (n : Nat)), ("first", .ref df), ("left", .ref dl)]) := by rw [← hA]; exact upd_same
    have hdg5 : H5 dg = some (.dT (encS Sq)) := by rw [← hA, upd_ne npg]; exact sl _ _ hdg4
    have hdf5 : H5 df = some (.dT []) := by rw [← hA, upd_ne npf.symm]; exact sl _ _ hdf4
    have hdl5 : H5 dl = some (.dT []) := by rw [← hA, upd_ne npl.symm]; exact upd_same
    have fr5 : FR H H5 p := by rw [← hA]; exact (fr4.same sl).wr
    refine ⟨Nat.zero_le _, fun dw ndw => ?_⟩
    obtain ⟨nw0, npw⟩ := fr5.free hp5 ndw
    have sw := Same.new (o := .lst []) ndw
    refine ⟨_, rfl, p, CR, dx, _, rfl, sw _ _ hp5, T.rC, T.rWays, (by show 4 < 1000; decide), ?_⟩
    generalize hA : upd (upd H5 dw (.lst [])) p (.ins CR dx (putF "ways" (.ref dw) [("ground", .ref dg), ("period", .int (n : Nat)), ("first", .ref df), ("left", .ref dl)])) = H6
    have hp6 : H6 p = some (.ins CR dx [("ground", .ref dg), ("period", .int (n : Nat)), ("first", .ref df), ("left", .ref dl), ("ways", .ref dw)]) := by rw [← hA]; exact upd_same
    have hdg6 : H6 dg = some (.dT (encS Sq)) := by rw [← hA, upd_ne npg]; exact sw _ _ hdg5
    have hdf6 : H6 df = some (.dT []) := by rw [← hA, upd_ne npf.symm]; exact sw _ _ hdf5
    have hdl6 : H6 dl = some (.dT []) := by rw [← hA, upd_ne npl.symm]; exact sw _ _ hdl5
    have hdw6 : H6 dw = some (.lst []) := by rw [← hA, upd_ne npw.symm]; exact upd_same
    have fr6 : FR H H6 p := by rw [← hA]; exact (fr5.same sw).wr
    have tk6 : TK H H6 := fun b xs h => fr6 b _ h (ne_of h hp fun z => by cases z)
    have st6 := st.keep tk6
    refine ⟨_, rfl, _, rfl, _, rfl, fun x dx2 nx ndx nex => ?_⟩
    have s0 : Same H6 (upd (upd H6 dx2 (.own x)) x (.ins CW dx2 [])) := fun b o e => by
      rw [upd_ne (ne_of_none e nx), upd_ne (ne_of_none e ndx)]
      exact e
    have st7 := st6.keep (Same.tk s0)
    refine ⟨x, dx2, t, fl, wk, M, S, G, Sq, c, rfl, upd_same, st7.t, st7.f, st7.w, st.good, st.ok, st.can, few, fun H7 d W7 nd k1 => ⟨rfl, ?_⟩⟩
    have s7 : Same H6 H7 := Same.made nx ndx k1
    have nd0 : H6 d = none := s0.free nd
    obtain ⟨hx0, npx⟩ := fr6.free hp6 nx
    obtain ⟨hd0, npd⟩ := fr6.free hp6 nd0
    refine ⟨_, rfl, p, CR, dx, _, rfl, s7 _ _ hp6, T.rC, T.rWhole, (by show 5 < 1000; decide), ?_⟩
    generalize hA : upd H7 p (.ins CR dx (putF "is_whole" (.bl true) [("ground", .ref dg), ("period", .int (n : Nat)), ("first", .ref df), ("left", .ref dl), ("ways", .ref dw)])) = H8
    have N : RN H p x d dg df dl dw := ⟨npx, ne_of_none hdf4 ndl, ne_of_none hdf6 nd0, ne_of_none hdl6 nd0, ne_of_none hdg3 ndf, ne_of_none hdg4 ndl, ne_of_none hdg6 nd0, hx0, hd0, nf0, nl0, nw0⟩
    have R8 : RL CW CR M S G H H8 p x d dx dg df dl dw c c c n 0 Sq.length Sq [] [] [] [] := by
      rw [← hA]
      refine ⟨W7.put (s7 _ _ hp6) (fun xs z => by cases z) npx npd, upd_same, ?_, ?_, ?_, ?_, .nil, (fr6.same s7).wr⟩
      · rw [upd_ne npg]; exact s7 _ _ hdg6
      · rw [upd_ne npf.symm]; exact s7 _ _ hdf6
      · rw [upd_ne npl.symm]; exact s7 _ _ hdl6
      · rw [upd_ne npw.symm]; exact s7 _ _ hdw6
    refine ⟨_, rfl, n, rfl, by omega, by omega, for_range (fun i σ H' => (∃ o6 o7, σ = [some (.ref p), some t, some fl, some wk, some (.int (n : Nat)), some (.ref x), o6, o7]) ∧ ∃ ci K0 ws cs, runC M c i = some ci ∧ RL CW CR M S G H H' p x d dx dg df dl dw c ci ci n i (Sq.length + i) Sq K0 K0 ws cs ∧ Keys M c i K0 ∧ Ways M c i cs) ⟨⟨_, _, rfl⟩, c, [], [], [], rfl, R8, ⟨List.Pairwise.nil, fun x => ⟨fun z => (by cases z), fun ⟨j, cj, hj, _⟩ => absurd hj (Nat.not_lt_zero j)⟩, Nat.le_refl _⟩, ⟨rfl, fun j cj e => by cases e⟩⟩ ?_ ?_⟩
    · rintro i σ H9 hi ⟨⟨o6, o7, rfl⟩, ci, K0, ws, cs, hrun, R, ky, wy⟩
      have hin : i < n := by rw [Int.toNat_natCast] at hi; exact hi
      obtain ⟨dxw, tw, pl, e1, e2, e3⟩ := R.W.ob
      refine ⟨_, rfl, x, CW, dxw, _, _, rfl, e1, T.wC, T.wPlace, rfl, ?_⟩
      refine ⟨_, rfl, p, CR, dx, _, _, rfl, R.op, T.rC, T.rWays, rfl, .inl ⟨rfl, _, SqL.of R.ow⟩, ?_⟩
      refine ⟨_, rfl, x, dxw, _, rfl, e1, rfl, x, d, M, S, G, ci, i, Sq.length + i, rfl, R.W, fun H10 v10 s10 r10 => ?_⟩
      have R10 := R.same s10
      have wl : ws.length = i := by rw [R.re.length, List.length_map, wy.len]
      refine ⟨dw, ws, _, rfl, rfl, R10.ow, big (by omega), ?_⟩
      have R11 := R10.ways N r10
      have hpl11 : (upd H10 dw (.lst (ws ++ [v10]))) pl = some (.tup [.int ci.x, .int 0]) := (TK.write R10.ow fun xs z => by cases z) _ _ (s10 _ _ e2)
      generalize upd H10 dw (.lst (ws ++ [v10])) = H11 at R11 hpl11
      have wy' := wy.snoc hrun
      generalize hws : ws ++ [v10] = ws' at R11
      generalize hcs : cs ++ [ci] = cs' at R11 wy'
      refine ⟨fun σ' H' => (∃ o6, σ' = [some (.ref p), some t, some fl, some wk, some (.int (n : Nat)), some (.ref x), o6, some (.ref pl)]) ∧ H' pl = some (.tup [.int ci.x, .int 0]) ∧ ∃ K2, RL CW CR M S G H H' p x d dx dg df dl dw c ci ci n i (Sq.length + i) Sq K2 K0 ws' cs' ∧ Keys M c (i + 1) K2 ∧ (K2 = K0 ∧ ci.x ∈ K0 ∨ K2 = K0 ++ [ci.x] ∧ ci.x ∉ K0), ?_, ?_⟩
      · by_cases hin0 : ci.x ∈ K0
        · have dg0 : DGet H11 df (.ref pl) (some (.int (c.f ci.x))) := by rw [← mapE_val ky.nd hin0]; exact DGet.t R11.of hpl11
          refine ⟨_, rfl, _, rfl, p, CR, dx, _, _, rfl, R11.op, T.rC, T.rFirst, rfl, df, _, rfl, dg0, _, rfl, iteF ?_⟩
          exact ⟨⟨_, rfl⟩, hpl11, K0, R11, ky.old hrun hin0, .inl ⟨rfl, hin0⟩⟩
        · have dg0 : DGet H11 df (.ref pl) none := by rw [← mapE_none (f := c.f) hin0]; exact DGet.t R11.of hpl11
          refine ⟨_, rfl, _, rfl, p, CR, dx, _, _, rfl, R11.op, T.rC, T.rFirst, rfl, df, _, rfl, dg0, _, rfl, iteT ?_⟩
          obtain ⟨dxw2, tw2, pl2, e12, _⟩ := R11.W.ob
          refine ⟨_, rfl, x, dxw2, _, rfl, e12, rfl, x, d, M, S, G, ci, i, Sq.length + i, rfl, R11.W, ?_⟩
          refine ⟨_, rfl, p, CR, dx, _, _, rfl, R11.op, T.rC, T.rFirst, rfl, _, rfl, df, _, rfl, DPut.t (k := pk ci.x) R11.of hpl11 (big ?_), ?_⟩
          · unfold encS mapE
            rw [List.length_map, List.length_map]
            have := ky.few
            omega
          have cold : ci.f ci.x = c.f ci.x := off_keeps i hrun _ fun z => hin0 ((ky.mem _).mpr z)
          rw [enc_put, putL_new hin0, cold, setF_self]
          exact ⟨⟨_, rfl⟩, (TK.write R11.of fun xs z => by cases z) _ _ hpl11, K0 ++ [ci.x], R11.first N, ky.new hrun hin0, .inr ⟨rfl, hin0⟩⟩
      · rintro σ' H12 ⟨⟨o6, rfl⟩, hpl, K2, R12, ky2, hK2⟩
        refine ⟨_, rfl, p, CR, dx, _, _, rfl, R12.op, T.rC, T.rWhole, rfl, _, rfl, iteT ?_⟩
        obtain ⟨dxw2, tw2, pl2, e12, _⟩ := R12.W.ob
        refine ⟨_, rfl, x, dxw2, _, rfl, e12, rfl, x, d, M, S, G, ci, i, Sq.length + i, rfl, R12.W, by omega, fun hst => ?_, fun c2 H13 hst W13 b13 => ?_⟩
        · obtain ⟨e', he'⟩ := runC_pre run (i + 1) (by omega)
          rw [runC_succ hrun, hst] at he'
          cases he'
        · have R13 := R12.step N W13 b13
          have hpl13 := R12.W.tk b13 _ _ hpl
          refine ⟨_, rfl, p, CR, dx, _, rfl, R13.op, T.rC, T.rWhole, (by show 6 < 1000; decide), ?_⟩
          have R14 := R13.again N
          have hpl14 : (upd H13 p (.ins CR dx (rf6 dg (n : Nat) df dl dw))) pl = some (.tup [.int ci.x, .int 0]) := (TK.write R13.op fun xs z => by cases z) _ _ hpl13
          generalize hA : upd H13 p (.ins CR dx (putF "is_whole" (.bl true) (rf6 dg (n : Nat) df dl dw))) = H14
          rw [show rf6 dg (n : Nat) df dl dw = putF "is_whole" (.bl true) (rf6 dg (n : Nat) df dl dw) from rfl] at hpl14
          rw [hA] at hpl14
          replace R14 : RL CW CR M S G H H14 p x d dx dg df dl dw c c2 ci n (i + 1) (Sq.length + i + 1) Sq K2 K0 ws' cs' := by rw [← hA]; exact R14
          obtain ⟨dxw3, tw3, pl3, e13, _⟩ := R14.W.ob
          obtain ⟨L, hd14, rep14, _⟩ := R14.W.dc
          have lk : (valV (encS L) (pk ci.x)).getD (.int 0) = .int (c2.f ci.x) := by rw [val_look, rep14.val]
          refine ⟨_, rfl, x, CW, dxw3, _, _, rfl, e13, T.wC, T.wSquares, rfl, d, rfl, .inr ⟨_, .inl hd14⟩, _, rfl, _, DGet.t (k := pk ci.x) hd14 hpl14, ?_⟩
          rw [lk]
          refine ⟨_, rfl, p, CR, dx, _, _, rfl, R14.op, T.rC, T.rLeft, rfl, _, rfl, dl, _, rfl, DPut.t (k := pk ci.x) R14.ol hpl14 (big ?_), ?_⟩
          · unfold encS mapE
            rw [List.length_map, List.length_map]
            have := ky.few
            omega
          rw [enc_put]
          have sf := step_f hst
          have e : putL (mapE K0 ci.f) ci.x (c2.f ci.x) = mapE K2 c2.f := by
            rcases hK2 with ⟨rfl, h⟩ | ⟨rfl, h⟩
            · rw [putL_in h, sf]
            · rw [putL_new h, sf]
          rw [e]
          exact ⟨⟨_, _, rfl⟩, c2, K2, ws', cs', (runC_succ hrun).trans hst, R14.left N, ky2, wy'⟩
    · rintro σ H9 ⟨⟨o6, o7, rfl⟩, ci, K0, ws, cs, hrun, R, ky, wy⟩
      rw [Int.toNat_natCast] at hrun R ky wy
      have ec : ci = cp := Option.some.inj (hrun.symm.trans run)
      subst ec
      obtain ⟨dxw, tw, pl, e1, e2, e3⟩ := R.W.ob
      refine ⟨_, rfl, x, dxw, _, rfl, e1, rfl, x, d, M, S, G, ci, n, Sq.length + n, rfl, R.W, fun H10 v10 s10 r10 => ?_⟩
      have R10 := R.same s10
      obtain ⟨ae, rfl, hae⟩ := Rp.of_its r10
      refine ⟨_, rfl, p, CR, dx, _, rfl, R10.op, T.rC, T.rEnd, (by show 6 < 1000; decide), ?_⟩
      obtain ⟨aw, rfl, haw⟩ := Rp.of_its st.w
      have naw : aw ≠ p := ne_of haw hp fun z => by cases z
      have haw10 := R10.fr _ _ haw naw
      generalize hA : upd H10 p (.ins CR dx (putF "end" (.ref ae) (rf6 dg (n : Nat) df dl dw))) = H11
      have hp11 : H11 p = some (.ins CR dx (putF "end" (.ref ae) (rf6 dg (n : Nat) df dl dw))) := by rw [← hA]; exact upd_same
      have u11 : ∀ b o, H10 b = some o → b ≠ p → H11 b = some o := fun b o h hb => by rw [← hA, upd_ne hb]; exact h
      have nae : ae ≠ p := ne_of hae R10.op fun z => by cases z
      have hae11 := u11 _ _ hae nae
      have haw11 := u11 _ _ haw10 naw
      refine ⟨_, rfl, p, CR, dx, _, _, rfl, hp11, T.rC, T.rEnd, rfl, ae, _, _, _, rfl, rfl, SqT.of hae11, rfl, _, rfl, aw, _, _, _, rfl, rfl, SqT.of haw11, rfl, _, _, rfl, rfl, ?_⟩
      refine ⟨_, rfl, p, CR, dx, _, _, rfl, hp11, T.rC, T.rEnd, rfl, ae, _, _, _, rfl, rfl, SqT.of hae11, rfl, _, rfl, aw, _, _, _, rfl, rfl, SqT.of haw11, rfl, _, _, rfl, rfl, by show 2 ≤ sizeLine; decide, fun am nam => ?_⟩
      have sm := Same.new (o := .tup [V.int (ci.x - c.x), V.int 0]) nam
      refine ⟨_, rfl, p, CR, dx, _, rfl, sm _ _ hp11, T.rC, T.rMove, (by show 7 < 1000; decide), ?_⟩
      generalize hB : upd _ p (.ins CR dx (putF "move" (.ref am) (putF "end" (.ref ae) (rf6 dg (n : Nat) df dl dw)))) = H12
      have npm : am ≠ p := (ne_of_none hp11 nam).symm
      have hp12 : H12 p = some (.ins CR dx (putF "move" (.ref am) (putF "end" (.ref ae) (rf6 dg (n : Nat) df dl dw)))) := by rw [← hB]; exact upd_same
      have u12 : ∀ b o, H11 b = some o → b ≠ p → H12 b = some o := fun b o h hb => by rw [← hB, upd_ne hb]; exact sm _ _ h
      have ham12 : H12 am = some (.tup [V.int (ci.x - c.x), V.int 0]) := by rw [← hB, upd_ne npm]; exact upd_same
      have hae12 := u12 _ _ hae11 nae
      have haw12 := u12 _ _ haw11 naw
      refine ⟨_, rfl, p, CR, dx, _, _, rfl, hp12, T.rC, T.rEnd, rfl, _, rfl, ae, _, rfl, SqT.of hae12, n4b, fun q1 hq1 => ?_⟩
      have g1 := Same.new (o := .tup (cutV ([ci.x, 0, hdg ci.b, sd ci.q ci.b].map V.int) (some 2) none)) hq1
      refine ⟨_, rfl, _, rfl, aw, _, rfl, SqT.of (g1 _ _ haw12), n4b, fun q2 hq2 => ?_⟩
      have g2 := Same.new (o := .tup (cutV ([c.x, 0, hdg c.b, sd c.q c.b].map V.int) (some 2) none)) hq2
      refine ⟨itD [hdg ci.b, sd ci.q ci.b], itD [hdg c.b, sd c.q c.b], Rp.dp (Rp.its (g2 _ _ upd_same)), Rp.dp (Rp.its upd_same), pl_shaped (n := 1) pl_its (by decide), pl_shaped (n := 1) pl_its (by decide), ?_⟩
      rw [back_iff]
      refine ⟨_, rfl, p, CR, dx, _, rfl, (g1.trans g2) _ _ hp12, T.rC, T.rBack, (by show 8 < 1000; decide), ?_⟩
      have u13 : ∀ b o, H10 b = some o → b ≠ p → (upd (upd (upd H12 q1 (.tup (cutV ([ci.x, 0, hdg ci.b, sd ci.q ci.b].map V.int) (some 2) none))) q2 (.tup (cutV ([c.x, 0, hdg c.b, sd c.q c.b].map V.int) (some 2) none))) p (.ins CR dx (putF "is_back" (.bl (decide (ci.b = c.b ∧ ci.q = c.q))) (putF "move" (.ref am) (putF "end" (.ref ae) (rf6 dg (n : Nat) df dl dw)))))) b = some o := fun b o h hb => by
        rw [upd_ne hb]
        exact (g1.trans g2) _ _ (u12 _ _ (u11 _ _ h hb) hb)
      refine k _ ⟨st.good, st.ok, run, hn, ⟨dx, dg, df, dl, dw, ae, am, Sq, K0, ws, cs, upd_same, u13 _ _ R10.og (ne_of R10.og R10.op fun z => by cases z), st.can, few, ky, u13 _ _ R10.of (ne_of R10.of R10.op fun z => by cases z), u13 _ _ R10.ol (ne_of R10.ol R10.op fun z => by cases z), u13 _ _ R10.ow (ne_of R10.ow R10.op fun z => by cases z), wy, ?_, ?_, N.gf, N.fl.symm⟩⟩ fun b o h hb => u13 _ _ (R10.fr _ _ h hb) hb
      · exact RpAll.keep (fun b xs h => u13 _ _ h (ne_of h R10.op fun z => by cases z)) R10.re
      · rw [upd_ne npm]
        exact (g1.trans g2) _ _ ham12
end
end TP
set_option Elab.async false
set_option linter.all false
set_option maxRecDepth 100000
set_option maxHeartbeats 4000000
namespace TP
open PySem PySem.Spec PyProof.Rows L2
def optV : Option Nat → V
  | none => .non
  | some k => .int (k : Nat)
def TimesO (a m : Int) : Option Nat → Prop
  | some k => (k : Int) * m = a
  | none => ∀ k : Nat, (k : Int) * m ≠ a
theorem times_fdiv {a m : Int} (hm : m ≠ 0) {k : Int} (h : k * m = a) : a.fdiv m = k := by rw [← h]; exact Int.mul_fdiv_cancel k hm
theorem dget_t {H : Hp} {a b : Addr} {kvs : List (List Key × V)} {k : List Key} (e : Rd H a (.dT kvs)) (eb : H b = some (.tup (k.map kV))) : DGet H a (.ref b) (valV kvs k) := .inr ⟨kvs, k, b, e, rfl, eb, rfl⟩
theorem its_eq {xs ys : List Int} : PyData.eqv (itD xs) (itD ys) = decide (xs = ys) := by
  rw [Bool.eq_iff_iff, eqv_iff (n := 1) (m := 1) pl_its pl_its, decide_eq_true_iff]
  constructor
  · intro h
    have h : xs.map PyData.int = ys.map PyData.int := PyData.tuple.inj h
    exact List.map_inj_right (fun a b e => PyData.int.inj e) |>.mp h
  · intro h; rw [h]
theorem sh_its {is : List Int} : SeqAt.shaped (itD is) = true := pl_shaped (n := 1) pl_its (by decide)
theorem RoundAt.keep {CR : Addr} {M : Mach} {S G : Nat} {H H' : Hp} {p : Addr} {c cp : Cfg} {n : Nat} {z : Bool} (R : RoundAt CR M S G H p c cp n z) (s : Same H H') : RoundAt CR M S G H' p c cp n z := by
  obtain ⟨dx, dg, df, dl, dw, ae, am, Sq, K0, ws, cs, h1, h2, h3, h4, h5, h6, h7, h8, h9, h10, h11, h12⟩ := R.ob
  exact ⟨R.good, R.ok, R.run, R.nn, dx, dg, df, dl, dw, ae, am, Sq, K0, ws, cs, s _ _ h1, s _ _ h2, h3, h4, h5, h6.keep s, s _ _ h7, s _ _ h8, h9, RpAll.keep (Same.tk s) h10, s _ _ h11, h12⟩
theorem good_mv {M : Mach} {S G : Nat} (g : Good M S G) : ∀ q c w m q', rl M q c = some (w, m, q') → m = 1 ∨ m = -1 := fun q c w m q' h => (rl_mv g h).2.1
theorem RoundAt.mv {CR : Addr} {M : Mach} {S G : Nat} {H : Hp} {p : Addr} {c cp : Cfg} {n : Nat} {z : Bool} (R : RoundAt CR M S G H p c cp n z) : -600 ≤ cp.x - c.x ∧ cp.x - c.x ≤ 600 := by
  have := run_x (good_mv R.good) n R.run
  have := R.nn
  omega
theorem trod_x {M : Mach} {S G : Nat} (g : Good M S G) {c : Cfg} {n : Nat} {x : Int} (h : Trod M c n x) : c.x - n ≤ x ∧ x ≤ c.x + n := by
  obtain ⟨i, ci, hi, hr, rfl⟩ := h
  have := run_x (good_mv g) i hr
  omega
section
variable {P : Program} {w : World} {K : PySem.W.Frag} {mg : Str → Option Value} {base : Heap} {CW CR CS CT CF : Addr} {f : Addr} {fd : FuncData}

/-! ### times_to -/
def spTimes : Sp := fun vs H Q _ => ∃ (u v : Addr) (a m : Int), vs = [.ref u, .ref v] ∧ H u = some (.tup [.int a, .int 0]) ∧ H v = some (.tup [.int m, .int 0]) ∧ m ≠ 0 ∧ -600 ≤ m ∧ m ≤ 600 ∧ ∀ H' o, Same H H' → TimesO a m o → Q (optV o) H'
theorem sc_times_to : FnScope ["way", "move", "side", "many"] ["way", "move"] (C8.fnScope (top 48)) := C8.fnScope_by (by decide +kernel)
theorem ok_times_to (T : Txt K mg CW CR CS CT CF) (F : C8.Def K mg "times_to" (top 48) f fd) (b : Binds K fd ["way", "move"] []) : Ca P w K mg base 1 "times_to" spTimes := by
  refine C8.cal0 F b .nil sc_times_to (fun vs H Q E h => ?_) (fun cdv A outer s H vs Q E hr h => ?_)
  · obtain ⟨_, _, _, _, rfl, _⟩ := h; rfl
  · obtain ⟨u, v, a, m, rfl, hu, hv, hm, m1, m2, k⟩ := h
    refine ⟨_, (pss_cons (ps_set (i := 2) sc_times_to.nd rfl (.inl rfl) (pe_ifExp (pt_cmpR op_ne (pe_ix (ix_tupK K) (pv 1) pe_int (fun _ _ => rfl)) pe_int (nomark _)) pe_int pe_int))
      (pss_cons (ps_set (i := 3) sc_times_to.nd rfl (.inl rfl) (pe_op op_fdivN (pe_ix (ix_tupK K) (pv 0) (pv 2) (fun _ _ => rfl)) (pe_ix (ix_tupK K) (pv 1) (pv 2) (fun _ _ => rfl))))
      (pss_cons (ps_if (PW.pt (pw_or (pt_cmpR op_lt (pv 3) pe_int (nomark _)) (pw_or1 (pt_cmpR (neD_K K (hu64 hr)) (pe_tup (pa_cons (pe_op op_mul (pe_ix (ix_tupK K) (pv 1) pe_int (fun _ _ => rfl)) (pv 3)) (pa_cons (pe_op op_mul (pe_ix (ix_tupK K) (pv 1) pe_int (fun _ _ => rfl)) (pv 3)) pa_nil))) (pv 0) (nomark _))))) (pss_one (ps_ret pe_non)) pss_nil)
      (pss_one (ps_ret (pv 3)))))), ?_⟩
    refine ⟨_, rfl, v, _, _, _, rfl, rfl, SqT.of hv, rfl, rfl, _, rfl, iteNDT (fun z => hm (V.int.inj z)) ?_⟩
    refine ⟨_, rfl, _, rfl, u, _, _, _, rfl, rfl, SqT.of hu, rfl, _, rfl, _, rfl, v, _, _, _, rfl, rfl, SqT.of hv, rfl, _, _, rfl, rfl, ⟨hm, by omega⟩, ?_⟩
    refine ⟨_, rfl, _, _, rfl, rfl, _, rfl, ?_⟩
    have cm : CMul m (a.fdiv m) := .inl ⟨by omega, by omega⟩
    by_cases h0 : a.fdiv m < 0
    · refine iteD h0 (iteT ?_)
      refine k H none (Same.refl _) fun j hj => ?_
      rw [times_fdiv hm hj] at h0
      omega
    · refine iteDF h0 ?_
      refine ⟨_, rfl, v, _, _, _, rfl, rfl, SqT.of hv, rfl, _, rfl, _, _, rfl, rfl, cm, _, rfl, v, _, _, _, rfl, rfl, SqT.of hv, rfl, _, rfl, _, _, rfl, rfl, .inl ⟨by decide, by decide⟩, by show 2 ≤ sizeLine; decide, fun p1 hp1 => ?_⟩
      have g1 := Same.new (o := .tup [V.int (m * a.fdiv m), V.int (0 * a.fdiv m)]) hp1
      refine ⟨_, rfl, itD [m * a.fdiv m, 0 * a.fdiv m], itD [a, 0], Rp.dp (Rp.its upd_same), Rp.dp (Rp.its (g1 _ _ hu)), sh_its, sh_its, _, rfl, ?_⟩
      rw [its_eq]
      by_cases he : m * a.fdiv m = a
      · have e : decide ([m * a.fdiv m, 0 * a.fdiv m] = [a, 0]) = true := decide_eq_true (by rw [he, Int.zero_mul])
        rw [e]
        refine iteF ?_
        refine ⟨_, rfl, ?_⟩
        obtain ⟨kk, hkk⟩ := Int.eq_ofNat_of_zero_le (show 0 ≤ a.fdiv m by omega)
        have := k _ (some kk) g1 (by
          show (kk : Int) * m = a
          rw [← hkk, Int.mul_comm]
          exact he)
        have e2 : optV (some kk) = V.int (a.fdiv m) := by
          show V.int (kk : Int) = _
          rw [hkk]
        rw [e2] at this
        exact this
      · have e : decide ([m * a.fdiv m, 0 * a.fdiv m] = [a, 0]) = false := decide_eq_false fun z => he (List.cons.inj z).1
        rw [e]
        refine iteT ?_
        refine k _ none g1 fun j hj => he ?_
        rw [times_fdiv hm hj, Int.mul_comm]
        exact hj

/-! ### Round.spread -/
def spSpread (CR : Addr) : Sp := fun vs H Q _ => ∃ (p : Addr) (M : Mach) (S G : Nat) (c cp : Cfg) (n : Nat), vs = [.ref p] ∧ RoundAt CR M S G H p c cp n true ∧ cp.x - c.x ≠ 0 ∧ ∀ H' (s : Nat), Same H H' → s ≤ 2000 → (∀ x j, Trod M c n x → s ≤ j → ¬ Trod M c n (x + (j : Int) * (cp.x - c.x))) → Q (.int (s : Nat)) H'
theorem sc_Round_spread : FnScope ["self", "side", "rows", "place"] ["self"] (C8.fnScope (meth 49 1)) := C8.fnScope_by (by decide +kernel)
theorem ok_spread (T : Txt K mg CW CR CS CT CF) (me : Meth K CR "spread" f) (F : C8.Fun K "spread" "Round.spread" (meth 49 1) f fd) (b : Binds K fd ["self"] []) : Me P w K mg base 1 CR "spread" (spSpread CR) := by
  refine C8.met0 T.rC me F b sc_Round_spread (fun vs H Q E h => ?_) (fun cdv A outer s H vs Q E hr h => ?_)
  · obtain ⟨_, _, _, _, _, _, _, rfl, _⟩ := h; rfl
  · obtain ⟨p, M, S, G, c, cp, n, rfl, R, hm, k⟩ := h
    obtain ⟨dx, dg, df, dl, dw, ae, am, Sq, K0, ws, cs, hp, h2, h3, h4, ky, ⟨od, hf⟩, h7, h8, h9, h10, ham, hne⟩ := R.ob
    refine ⟨_, (pss_cons (ps_set (i := 1) sc_Round_spread.nd rfl (.inr rfl) (pe_ifExp (pt_cmpR op_ne (pe_ix (ix_tupK K) (pe_fldK K (pv 0)) pe_int (fun _ _ => rfl)) pe_int (nomark _)) pe_int pe_int))
      (pss_cons (ps_setLc (i := 2) (own := [("place", 3)]) (by rfl) sc_Round_spread.nd rfl rfl (by rfl) (pi_keysT (pe_fldK K (pv 0))) (blkOk_by (own := [("place", 3)]) (N := ["self", "side", "rows", "place"]) (sc := C8.fnScope (meth 49 1)) (by decide +kernel)) (fun _ _ _ _ _ => (pg_name (i := 3) sc_Round_spread.nd rfl (.inl rfl))) (fun _ _ _ _ _ => pts_nil) (fun _ _ _ _ _ => (pe_ix (ix_tupK K) (pv 3) (pv 1) (fun _ _ => rfl))))
      (pss_one (ps_ret (pe_op op_add (pe_op op_fdiv (pe_op op_sub (pe_callB (max_K K (by rfl)) (by rfl) T.max (by decide +kernel) (pa_cons (pv 2) pa_nil)) (pe_callB (min_K K (by rfl)) (by rfl) T.min (by decide +kernel) (pa_cons (pv 2) pa_nil))) (pe_callB call_abs (by rfl) T.abs (by decide +kernel) (pa_cons (pe_ix (ix_tupK K) (pe_fldK K (pv 0)) (pv 1) (fun _ _ => rfl)) pa_nil))) pe_int))))), ?_⟩
    refine ⟨_, rfl, p, CR, dx, _, _, rfl, hp, T.rC, T.rMove, rfl, am, _, _, _, rfl, rfl, SqT.of ham, rfl, rfl, _, rfl, iteNDT (fun z => hm (V.int.inj z)) ?_⟩
    refine ⟨_, rfl, p, CR, dx, _, _, rfl, hp, T.rC, T.rFirst, rfl, df, od, _, rfl, hf, fun D hD => lc_it walk_keysT (fun i H2 => Same H H2 ∧ H2 D = some (.lst ((K0.take i).map V.int))) ⟨Same.new hD, upd_same⟩ (fun i H2 _ h => h.1 _ _ hf) ?_ ?_⟩
    · rintro i x H2 H3 hi ⟨sm, hd⟩ ⟨rfl, kk, v, q, hk, rfl, hq⟩
      unfold encS mapE at hk hi
      rw [List.length_map, List.length_map] at hi
      rw [List.getElem?_map, List.getElem?_map, List.getElem?_eq_getElem hi] at hk
      have hk := Option.some.inj hk
      have hk1 : kk = pk K0[i] := (congrArg Prod.fst hk).symm
      subst hk1
      refine ⟨rfl, _, rfl, _, rfl, q, _, _, _, rfl, rfl, SqT.of hq, rfl, _, hd, big ?_, Same.wr sm hD, ?_⟩
      · have := ky.few
        have := R.nn
        rw [List.length_map, List.length_take]
        omega
      · rw [upd_same, List.take_add_one, List.getElem?_eq_getElem hi, List.map_append]
        rfl
    · rintro H2 ⟨sm, hd⟩
      have hl : (encS (mapE K0 c.f)).length = K0.length := by unfold encS mapE; rw [List.length_map, List.length_map]
      rw [hl, List.take_length] at hd
      have nn := R.nn
      have h0 : c.x ∈ K0 := (ky.mem _).mpr ⟨0, c, by omega, rfl, rfl⟩
      have pos : 0 < K0.length := List.length_pos_of_mem h0
      refine ⟨_, rfl, D, K0, rfl, SqL.of hd, pos, fun mx hmx hle => ⟨_, rfl, D, K0, rfl, SqL.of hd, pos, fun mn hmn hge => ?_⟩⟩
      have mv := R.mv
      have b1 := trod_x R.good ((ky.mem _).mp hmx)
      have b2 := trod_x R.good ((ky.mem _).mp hmn)
      generalize hA : (if cp.x - c.x < 0 then -(cp.x - c.x) else cp.x - c.x) = A
      have hA1 : 1 ≤ A ∧ A ≤ 600 := by rw [← hA]; split <;> omega
      have hAm : A = cp.x - c.x ∨ A = -(cp.x - c.x) := by rw [← hA]; split <;> simp
      have hmm := hle _ hmn
      refine ⟨_, _, rfl, rfl, _, rfl, p, CR, dx, _, _, rfl, sm _ _ hp, T.rC, T.rMove, rfl, _, rfl, am, _, _, _, rfl, rfl, SqT.of (sm _ _ ham), rfl, _, rfl, ?_⟩
      rw [hA]
      refine ⟨_, _, rfl, rfl, ⟨by omega, by omega⟩, _, _, rfl, rfl, ?_⟩
      have d1 : 0 ≤ (mx - mn) / A := Int.ediv_nonneg (by omega) (by omega)
      have d2 : (mx - mn) / A ≤ mx - mn := Int.ediv_le_self _ (by omega)
      have key : ∀ x j, Trod M c n x → (mx - mn) / A + 1 ≤ (j : Nat) → ¬ Trod M c n (x + (j : Int) * (cp.x - c.x)) := by
        intro x j hx hj hy
        have hx' := (ky.mem _).mpr hx
        have hy' := (ky.mem _).mpr hy
        have := hle _ hx'
        have := hle _ hy'
        have := hge _ hx'
        have := hge _ hy'
        have hjA : (j : Int) * A ≤ mx - mn := by
          rcases hAm with e | e
          · rw [e]; omega
          · rw [e, Int.mul_neg]; omega
        have := (Int.le_ediv_iff_mul_le (show 0 < A by omega)).mpr hjA
        omega
      obtain ⟨s, hs⟩ := Int.eq_ofNat_of_zero_le (show 0 ≤ (mx - mn) / A + 1 by omega)
      have := k H2 s sm (by omega) fun x j hx hj => key x j hx (by omega)
      rw [← hs] at this
      exact this

/-! ### Round.next_treading -/
def spNext (CR : Addr) : Sp := fun vs H Q _ => ∃ (p pl : Addr) (M : Mach) (S G : Nat) (c cp : Cfg) (n : Nat) (x : Int), vs = [.ref p, .ref pl, .int 1] ∧ RoundAt CR M S G H p c cp n true ∧ cp.x - c.x ≠ 0 ∧ H pl = some (.tup [.int x, .int 0]) ∧ Trod M c n x ∧
  ∀ H' o, Same H H' → Next (Trod M c n) (cp.x - c.x) x o → (∀ k, o = some k → k ≤ 2000) → Q (optV o) H'
theorem sc_Round_next_treading : FnScope ["self", "place", "sign", "many"] ["self", "place", "sign"] (C8.fnScope (meth 49 2)) := C8.fnScope_by (by decide +kernel)
theorem ok_next_treading (T : Txt K mg CW CR CS CT CF) (m_spread : Me P w K mg base 1 CR "spread" (spSpread CR)) (me : Meth K CR "next_treading" f) (F : C8.Fun K "next_treading" "Round.next_treading" (meth 49 2) f fd) (b : Binds K fd ["self", "place", "sign"] []) : Me P w K mg base 2 CR "next_treading" (spNext CR) := by
  refine C8.met0 T.rC me F b sc_Round_next_treading (fun vs H Q E h => ?_) (fun cdv A outer s H vs Q E hr h => ?_)
  · obtain ⟨_, _, _, _, _, _, _, _, _, rfl, _⟩ := h; rfl
  · obtain ⟨p, pl, M, S, G, c, cp, n, x, rfl, R, hm, hpl, hx, k⟩ := h
    obtain ⟨dx, dg, df, dl, dw, ae, am, Sq, K0, ws, cs, hp, h2, h3, h4, ky, hf, h7, h8, h9, h10, ham, hne⟩ := R.ob
    refine ⟨_, (pss_cons (ps_for PassesOwn.never rfl (pi_range2 (by rfl) T.range (pa_cons pe_int (pa_cons (pe_op op_add (C8.pe_mt0 m_spread hr (by decide) (pv 0)) pe_int) pa_nil))) (pg_name (i := 3) sc_Round_next_treading.nd rfl (.inl rfl))
        (pss_one (ps_if (pt_cmp (pc_din (hu1 hr) (pe_tup (pa_cons (pe_op op_add (pe_ix (ix_tupK K) (pv 1) pe_int (fun _ _ => rfl)) (pe_op op_mul (pe_op op_mul (pv 2) (pv 3)) (pe_ix (ix_tupK K) (pe_fldK K (pv 0)) pe_int (fun _ _ => rfl)))) (pa_cons (pe_op op_add (pe_ix (ix_tupK K) (pv 1) pe_int (fun _ _ => rfl)) (pe_op op_mul (pe_op op_mul (pv 2) (pv 3)) (pe_ix (ix_tupK K) (pe_fldK K (pv 0)) pe_int (fun _ _ => rfl)))) pa_nil))) (pe_fldK K (pv 0)))) (pss_one (ps_ret (pv 3))) pss_nil)))
      (pss_one (ps_ret pe_non))), ?_⟩
    refine ⟨_, rfl, p, dx, _, rfl, hp, rfl, p, M, S, G, c, cp, n, rfl, R, hm, fun H1 sp s1 hsp far => ?_⟩
    refine ⟨_, _, rfl, rfl, _, _, rfl, ⟨by decide, by decide, by omega, by omega⟩, for_range (fun i σ H' => Same H1 H' ∧ (∃ o3, σ = [some (.ref p), some (.ref pl), some (.int 1), o3]) ∧ ∀ j : Nat, 1 ≤ j → j ≤ i → ¬ Trod M c n (x + (j : Int) * (cp.x - c.x))) ⟨Same.refl _, ⟨_, rfl⟩, fun j h1 h2 => by omega⟩ ?_ ?_⟩
    · rintro i σ H2 hi ⟨sm, ⟨o3, rfl⟩, hno⟩
      have s2 := s1.trans sm
      have hpl2 := s2 _ _ hpl
      have hp2 := s2 _ _ hp
      have ham2 := s2 _ _ ham
      have hisp : i < sp := by omega
      refine ⟨_, rfl, pl, _, _, _, rfl, rfl, SqT.of hpl2, rfl, _, rfl, _, rfl, _, _, rfl, rfl, .inl ⟨by decide, by decide⟩, _, rfl, p, CR, dx, _, _, rfl, hp2, T.rC, T.rMove, rfl, am, _, _, _, rfl, rfl, SqT.of ham2, rfl, _, _, rfl, rfl, .inl ⟨by omega, by omega⟩, _, _, rfl, rfl, ?_⟩
      refine ⟨_, rfl, pl, _, _, _, rfl, rfl, SqT.of hpl2, rfl, _, rfl, _, rfl, _, _, rfl, rfl, .inl ⟨by decide, by decide⟩, _, rfl, p, CR, dx, _, _, rfl, hp2, T.rC, T.rMove, rfl, am, _, _, _, rfl, rfl, SqT.of ham2, rfl, _, _, rfl, rfl, .inl ⟨by omega, by omega⟩, _, _, rfl, rfl, by show 2 ≤ sizeLine; decide, fun q hq => ?_⟩
      have eX : x + 1 * (1 + (i : Int)) * (cp.x - c.x) = x + ((i + 1 : Nat) : Int) * (cp.x - c.x) := by rw [show (1 : Int) * (1 + (i : Int)) = ((i + 1 : Nat) : Int) by omega]
      have eY : (0 : Int) + 1 * (1 + (i : Int)) * 0 = 0 := by rw [Int.mul_zero]; rfl
      have hq2 : (upd H2 q (.tup [V.int (x + 1 * (1 + (i : Int)) * (cp.x - c.x)), V.int (0 + 1 * (1 + (i : Int)) * 0)])) q = some (.tup ((pk (x + ((i + 1 : Nat) : Int) * (cp.x - c.x))).map kV)) := by
        rw [upd_same, eX, eY]
        rfl
      have g1 := Same.new (o := .tup [V.int (x + 1 * (1 + (i : Int)) * (cp.x - c.x)), V.int (0 + 1 * (1 + (i : Int)) * 0)]) hq
      refine ⟨_, rfl, p, CR, dx, _, _, rfl, g1 _ _ hp2, T.rC, T.rFirst, rfl, df, _, rfl, dget_t (hf.keep (s2.trans g1)).rd hq2, _, rfl, ?_⟩
      by_cases hK : x + ((i + 1 : Nat) : Int) * (cp.x - c.x) ∈ K0
      · rw [mapE_val ky.nd hK]
        refine iteT ⟨_, rfl, ?_⟩
        have := k _ (some (i + 1)) (s2.trans g1) ⟨by omega, (ky.mem _).mp hK, fun j h1 h2 => hno j h1 (by omega)⟩ (fun k' e => by have := Option.some.inj e; omega)
        have e2 : optV (some (i + 1)) = V.int (1 + (i : Int)) := by
          show V.int ((i + 1 : Nat) : Int) = _
          rw [show ((i + 1 : Nat) : Int) = 1 + (i : Int) by omega]
        rw [e2] at this
        exact this
      · rw [mapE_none hK]
        refine iteF ⟨sm.trans g1, ⟨_, rfl⟩, fun j h1 h2 => ?_⟩
        by_cases e : j = i + 1
        · subst e
          exact fun hT => hK ((ky.mem _).mpr hT)
        · exact hno j h1 (by omega)
    · rintro σ H2 ⟨sm, ⟨o3, rfl⟩, hno⟩
      refine k H2 none (s1.trans sm) (fun j hj hT => ?_) (fun k e => by cases e)
      by_cases h : j ≤ sp
      · exact hno j hj (by omega) hT
      · exact far x j hx (by omega) hT
end
end TP
set_option Elab.async false
set_option linter.all false
set_option maxRecDepth 100000
set_option maxHeartbeats 4000000
namespace TP
open PySem PySem.Spec PyProof.Rows L2
theorem Same.lock {H : Hp} {d : Addr} {u : HO} {od : Obj} (h : H d = some u) {H' : Hp} (s : Same (upd H d (.frz od u)) H') : Same H (upd H' d u) := fun b o hb => by
  by_cases e : b = d
  · rw [e, upd_same]
    rw [e, h] at hb
    exact hb
  · rw [upd_ne e]
    exact s _ _ (by rw [upd_ne e]; exact hb)
/-- in range of a free way -/
def InR (o : Option Nat) (j : Nat) : Prop := ∀ k, o = some k → j < k
theorem free_iff {f : Int → Int} {m P : Int} {o : Option Nat} : Free f m P o ↔ ∀ j : Nat, InR o j → f (P + (j : Int) * m) = f P := by
  cases o with
  | none => exact ⟨fun h j _ => h j, fun h j => h j fun k e => by cases e⟩
  | some k => exact ⟨fun h j hj => h j (hj k rfl), fun h j hj => h j fun k' e => by rw [← Option.some.inj e]; exact hj⟩
theorem canon_at {f : Int → Int} {S : List (Int × Int)} (c : Canon f S) {p : Int × Int} (h : p ∈ S) : f p.1 = p.2 := (c.mem p.1 p.2 (c.nz p h)).mp h
theorem canon_bound {f : Int → Int} {S : List (Int × Int)} (c : Canon f S) : ∃ B : Nat, ∀ x, f x ≠ 0 → x ≤ B ∧ -(B : Int) ≤ x := by
  have : ∀ L : List (Int × Int), ∃ B : Nat, ∀ p ∈ L, p.1 ≤ B ∧ -(B : Int) ≤ p.1 := by
    intro L
    induction L with
    | nil => exact ⟨0, fun p hp => by cases hp⟩
    | cons a t ih =>
      obtain ⟨B, hB⟩ := ih
      refine ⟨B + a.1.natAbs, fun p hp => ?_⟩
      rcases List.mem_cons.mp hp with rfl | hp
      · omega
      · have := hB p hp
        omega
  obtain ⟨B, hB⟩ := this S
  exact ⟨B, fun x hx => hB (x, f x) ((c.mem x (f x) hx).mpr rfl)⟩
theorem off_blank {f : Int → Int} {S : List (Int × Int)} (c : Canon f S) (x m : Int) (hm : m ≠ 0) : ∃ j : Nat, f (x + (j : Int) * m) = 0 := by
  obtain ⟨B, hB⟩ := canon_bound c
  refine ⟨B + x.natAbs + 1, ?_⟩
  generalize hj : ((B + x.natAbs + 1 : Nat) : Int) = j
  by_cases h : f (x + j * m) = 0
  · exact h
  · have := hB _ h
    exfalso
    have hj0 : 0 ≤ j := by omega
    rcases Int.lt_or_gt_of_ne hm with h1 | h1
    · have : j * m ≤ j * (-1) := Int.mul_le_mul_of_nonneg_left (by omega) hj0
      omega
    · have : j * 1 ≤ j * m := Int.mul_le_mul_of_nonneg_left (by omega) hj0
      omega
section
variable {P : Program} {w : World} {K : PySem.W.Frag} {mg : Str → Option Value} {base : Heap} {CW CR CS CT CF : Addr} {f : Addr} {fd : FuncData}

/-! ### Round.is_free -/
def spFree (CR : Addr) : Sp := fun vs H Q _ => ∃ (p pl : Addr) (M : Mach) (S G : Nat) (c cp : Cfg) (n : Nat) (x : Int) (o : Option Nat), vs = [.ref p, .ref pl, optV o] ∧ RoundAt CR M S G H p c cp n true ∧ cp.x - c.x ≠ 0 ∧ H pl = some (.tup [.int x, .int 0]) ∧ Trod M c n x ∧ (∀ k, o = some k → k ≤ 2000) ∧
  ∀ H' b, Same H H' → (b = true ↔ Free c.f (cp.x - c.x) x o) → Q (.bl b) H'
theorem sc_Round_is_free : FnScope ["self", "place", "many", "due", "square", "turns", "moved", "turn", "one"] ["self", "place", "many"] (C8.fnScope (meth 49 3)) := C8.fnScope_by (by decide +kernel)
theorem ok_is_free (T : Txt K mg CW CR CS CT CF) (c_times_to : Ca P w K mg base 1 "times_to" spTimes) (me : Meth K CR "is_free" f) (F : C8.Fun K "is_free" "Round.is_free" (meth 49 3) f fd) (b : Binds K fd ["self", "place", "many"] []) : Me P w K mg base 2 CR "is_free" (spFree CR) := by
  refine C8.met0 T.rC me F b sc_Round_is_free (fun vs H Q E h => ?_) (fun cdv A outer s H vs Q E hr h => ?_)
  · obtain ⟨_, _, _, _, _, _, _, _, _, _, rfl, _⟩ := h; rfl
  · obtain ⟨p, pl, M, S, G, c, cp, n, x, o, rfl, R, hm, hpl, hx, ok, k⟩ := h
    obtain ⟨dx, dg, df, dl, dw, ae, am, Sq, K0, ws, cs, hp, hg, can, few, ky, hf, h7, h8, h9, h10, ham, hne⟩ := R.ob
    have mv := R.mv
    refine ⟨_, (pss_cons (ps_set (i := 3) sc_Round_is_free.nd rfl (.inr rfl) (pe_dget (hu1 hr) (pe_fldK K (pv 0)) (pv 1) (fun _ _ => rfl)))
      (pss_cons (ps_lock (ps_for PassesOwn.never rfl (pi_keysT (pe_fldK K (pv 0))) (pg_name (i := 4) sc_Round_is_free.nd rfl (.inl rfl))
        (pss_cons (ps_set (i := 5) sc_Round_is_free.nd rfl (.inl rfl) (C8.pe_c c_times_to hr (by decide) (by rfl) (pa_cons (pe_tup (pa_cons (pe_op op_sub (pe_ix (ix_tupK K) (pv 4) pe_int (fun _ _ => rfl)) (pe_ix (ix_tupK K) (pv 1) pe_int (fun _ _ => rfl))) (pa_cons (pe_op op_sub (pe_ix (ix_tupK K) (pv 4) pe_int (fun _ _ => rfl)) (pe_ix (ix_tupK K) (pv 1) pe_int (fun _ _ => rfl))) pa_nil))) (pa_cons (pe_fldK K (pv 0)) pa_nil))))
      (pss_one (ps_if (PW.pt (pw_and (pt_cmpR op_notN (pv 5) pe_non (nomark _)) (pw_and (PW.pt (pw_or (pt_cmpR op_isN (pv 2) pe_non (nomark _)) (pw_or1 (pt_cmpR op_lt (pv 5) (pv 2) (nomark _))))) (pw_and1 (pt_cmpR op_ne (pe_dget (hu1 hr) (pe_fldK K (pv 0)) (pv 4) (fun _ _ => rfl)) (pv 3) (nomark _)))))) (pss_one (ps_ret pe_bl)) pss_nil)))))
      (pss_cons (ps_if (pt_cmpR op_eq (pv 3) pe_int (nomark _)) (pss_one (ps_ret pe_bl)) pss_nil)
      (pss_cons (ps_if (pt_cmpR op_isN (pv 2) pe_non (nomark _)) (pss_one (ps_ret pe_bl)) pss_nil)
      (pss_cons (ps_setLc (i := 6) (own := [("turn", 7)]) (by rfl) sc_Round_is_free.nd rfl rfl (by rfl) (pi_range1 (by rfl) T.range (pa_cons (pv 2) pa_nil)) (blkOk_by (own := [("turn", 7)]) (N := ["self", "place", "many", "due", "square", "turns", "moved", "turn", "one"]) (sc := C8.fnScope (meth 49 3)) (by decide +kernel)) (fun _ _ _ _ _ => (pg_name (i := 7) sc_Round_is_free.nd rfl (.inl rfl))) (fun _ _ _ _ _ => pts_nil) (fun _ _ _ _ _ => (pe_tup (pa_cons (pe_op op_add (pe_ix (ix_tupK K) (pv 1) pe_int (fun _ _ => rfl)) (pe_op op_mul (pv 7) (pe_ix (ix_tupK K) (pe_fldK K (pv 0)) pe_int (fun _ _ => rfl)))) (pa_cons (pe_op op_add (pe_ix (ix_tupK K) (pv 1) pe_int (fun _ _ => rfl)) (pe_op op_mul (pv 7) (pe_ix (ix_tupK K) (pe_fldK K (pv 0)) pe_int (fun _ _ => rfl)))) pa_nil)))))
      (pss_one (ps_ret (pe_cmpR (eqD_K K (hu64 hr)) (pe_lc (own := [("one", 8)]) (by rfl) sc_Round_is_free.nd (pi_listK K (pv 6)) (blkOk_by (own := [("one", 8)]) (N := ["self", "place", "many", "due", "square", "turns", "moved", "turn", "one"]) (sc := C8.fnScope (meth 49 3)) (by decide +kernel)) (fun _ _ _ _ _ => (pg_name (i := 8) sc_Round_is_free.nd rfl (.inl rfl))) (fun _ _ _ _ _ => (pts_one (pt_cmpR op_ne (pe_dget2 (hu1 hr) (pe_fldK K (pv 0)) (pv 8) pe_int ⟨rfl, rfl, rfl, rfl⟩) (pv 3) (nomark _)))) (fun _ _ _ _ _ => (pv 8))) (pe_lst pa_nil) (nomark _))))))))), ?_⟩
    refine ⟨_, rfl, p, CR, dx, _, _, rfl, hp, T.rC, T.rFirst, rfl, _, rfl, df, _, rfl, (by rw [← mapE_val (f := c.f) ky.nd ((ky.mem _).mpr hx)]; exact dget_t hf.rd hpl), ?_⟩
    refine ⟨dg, _, hg, trivial, fun od => ?_⟩
    generalize hHL : upd H dg (.frz od (.dT (encS Sq))) = HL
    have hgL : HL dg = some (.frz od (.dT (encS Sq))) := by rw [← hHL]; exact upd_same
    have uL : ∀ b o, H b = some o → b ≠ dg → HL b = some o := fun b o h hb => by rw [← hHL, upd_ne hb]; exact h
    have hpL := uL _ _ hp (ne_of hp hg fun z => by cases z)
    have hplL := uL _ _ hpl (ne_of hpl hg fun z => by cases z)
    have hamL := uL _ _ ham (ne_of ham hg fun z => by cases z)
    have lk : ∀ {H' : Hp}, Same HL H' → Same H (upd H' dg (.dT (encS Sq))) := fun s => Same.lock hg (by rw [hHL]; exact s)
    refine ⟨_, rfl, p, CR, dx, _, _, rfl, hpL, T.rC, T.rGround, rfl, dg, od, _, rfl, hgL, for_it walk_keysT (fun i σ H' => Same HL H' ∧ (∃ o4 o5, σ = [some (.ref p), some (.ref pl), some (optV o), some (.int (c.f x)), o4, o5, none, none, none]) ∧ ∀ (i' : Nat) (q : Int × Int), i' < i → Sq[i']? = some q → ∀ j : Nat, (j : Int) * (cp.x - c.x) = q.1 - x → InR o j → q.2 = c.f x) ⟨Same.refl _, ⟨_, _, rfl⟩, fun i' q hi => by omega⟩ (fun i σ H' _ h => h.1 _ _ hgL) ?_ ?_⟩
    · rintro i y σ H2 H3 hi ⟨sm, ⟨o4, o5, rfl⟩, hall⟩ ⟨rfl, kk, v, q, hk, rfl, hq⟩
      unfold encS at hk hi
      rw [List.length_map] at hi
      rw [List.getElem?_map, List.getElem?_eq_getElem hi] at hk
      have hk := Option.some.inj hk
      have hk1 : kk = pk Sq[i].1 := (congrArg Prod.fst hk).symm
      subst hk1
      have sq2 := sm
      have hval : valV (encS Sq) (pk Sq[i].1) = some (.int Sq[i].2) := by
        rw [valV_enc, find_mem can.rep.nd (List.getElem_mem hi)]
        rfl
      refine ⟨_, rfl, q, _, _, _, rfl, rfl, SqT.of hq, rfl, _, rfl, pl, _, _, _, rfl, rfl, SqT.of (sm _ _ hplL), rfl, _, _, rfl, rfl, ?_⟩
      refine ⟨_, rfl, q, _, _, _, rfl, rfl, SqT.of hq, rfl, _, rfl, pl, _, _, _, rfl, rfl, SqT.of (sm _ _ hplL), rfl, _, _, rfl, rfl, by show 2 ≤ sizeLine; decide, fun p1 hp1 => ?_⟩
      have g1 := Same.new (o := .tup [V.int (Sq[i].1 - x), V.int 0]) hp1
      refine ⟨_, rfl, p, CR, dx, _, _, rfl, (sm.trans g1) _ _ hpL, T.rC, T.rMove, rfl, p1, am, Sq[i].1 - x, cp.x - c.x, rfl, upd_same, (sm.trans g1) _ _ hamL, hm, by omega, by omega, fun H4 o' s4 ho' => ?_⟩
      have s4' := g1.trans s4
      have s5 := sm.trans s4'
      refine ⟨_, rfl, rfl, _, rfl, ?_⟩
      have old : ∀ (i' : Nat) (q' : Int × Int), i' < i + 1 → Sq[i']? = some q' → (∀ j : Nat, (j : Int) * (cp.x - c.x) = Sq[i].1 - x → InR o j → Sq[i].2 = c.f x) → ∀ j : Nat, (j : Int) * (cp.x - c.x) = q'.1 - x → InR o j → q'.2 = c.f x := by
        intro i' q' h1 h2 h3
        by_cases e : i' = i
        · subst e
          rw [List.getElem?_eq_getElem hi] at h2
          rw [← Option.some.inj h2]
          exact h3
        · exact hall i' q' (by omega) h2
      cases o' with
      | none => exact iteF ⟨s5, ⟨_, _, rfl⟩, fun i' q' h1 h2 => old i' q' h1 h2 fun j hj _ => absurd hj (ho' j)⟩
      | some k1 =>
        have ho1 : (k1 : Int) * (cp.x - c.x) = Sq[i].1 - x := ho'
        have uniq : ∀ j : Nat, (j : Int) * (cp.x - c.x) = Sq[i].1 - x → j = k1 := fun j hj => by
          have := Int.eq_of_mul_eq_mul_right hm (hj.trans ho1.symm)
          omega
        refine iteT ⟨_, rfl, rfl, _, rfl, ?_⟩
        cases ho : o with
        | none =>
          rw [ho] at hall old
          refine iteT ?_
          refine ⟨_, rfl, p, CR, dx, _, _, rfl, s5 _ _ hpL, T.rC, T.rGround, rfl, _, rfl, dg, _, rfl, (by rw [← hval]; exact dget_t (.inr ⟨od, s5 _ _ hgL⟩) (s4' _ _ hq)), _, rfl, rfl, _, rfl, ?_⟩
          by_cases hv : Sq[i].2 = c.f x
          · exact iteND (by rw [hv]) ⟨s5, ⟨_, _, rfl⟩, fun i' q' h1 h2 => old i' q' h1 h2 fun j hj _ => hv⟩
          · refine iteNDT (fun z => hv (V.int.inj z)) ⟨s5 _ _ hgL, k _ false (lk s5) ⟨(fun z => by cases z), fun z => ?_⟩⟩
            have := free_iff.mp z k1 (by rw [ho]; intro k' e; cases e)
            rw [ho1, show x + (Sq[i].1 - x) = Sq[i].1 by omega, canon_at can (List.getElem_mem hi)] at this
            exact absurd this hv
        | some kk =>
          rw [ho] at hall old
          refine iteF ⟨_, rfl, _, rfl, _, _, rfl, rfl, _, rfl, ?_⟩
          by_cases hlt : k1 < kk
          · refine iteD (by omega) ?_
            refine ⟨_, rfl, p, CR, dx, _, _, rfl, s5 _ _ hpL, T.rC, T.rGround, rfl, _, rfl, dg, _, rfl, (by rw [← hval]; exact dget_t (.inr ⟨od, s5 _ _ hgL⟩) (s4' _ _ hq)), _, rfl, rfl, _, rfl, ?_⟩
            by_cases hv : Sq[i].2 = c.f x
            · exact iteND (by rw [hv]) ⟨s5, ⟨_, _, rfl⟩, fun i' q' h1 h2 => old i' q' h1 h2 fun j hj _ => hv⟩
            · refine iteNDT (fun z => hv (V.int.inj z)) ⟨s5 _ _ hgL, k _ false (lk s5) ⟨(fun z => by cases z), fun z => ?_⟩⟩
              have := free_iff.mp z k1 (by rw [ho]; intro k' e; rw [← Option.some.inj e]; exact hlt)
              rw [ho1, show x + (Sq[i].1 - x) = Sq[i].1 by omega, canon_at can (List.getElem_mem hi)] at this
              exact absurd this hv
          · exact iteDF (by omega) ⟨s5, ⟨_, _, rfl⟩, fun i' q' h1 h2 => old i' q' h1 h2 fun j hj hr => absurd (hr kk rfl) (by rw [uniq j hj]; exact hlt)⟩
    · rintro σ H2 ⟨sm, ⟨o4, o5, rfl⟩, hall⟩
      refine ⟨sm _ _ hgL, ?_⟩
      have s1 := lk sm
      have hall' : ∀ q ∈ Sq, ∀ j : Nat, (j : Int) * (cp.x - c.x) = q.1 - x → InR o j → q.2 = c.f x := by
        intro q hq
        obtain ⟨i', hi', e⟩ := List.getElem_of_mem hq
        exact hall i' q (by unfold encS; rw [List.length_map]; exact hi') (by rw [List.getElem?_eq_getElem hi', e])
      have hp3 := s1 _ _ hp
      have hpl3 := s1 _ _ hpl
      have ham3 := s1 _ _ ham
      have hg3 := s1 _ _ hg
      generalize upd H2 dg (.dT (encS Sq)) = H3 at s1 hp3 hpl3 ham3 hg3
      refine ⟨_, rfl, rfl, _, rfl, ?_⟩
      by_cases hd0 : c.f x = 0
      · refine iteD (by rw [hd0]) (k _ true s1 ⟨fun _ => free_iff.mpr fun j hj => ?_, fun _ => rfl⟩)
        by_cases hz : c.f (x + (j : Int) * (cp.x - c.x)) = 0
        · rw [hz, hd0]
        · have := (can.mem _ _ hz).mpr rfl
          exact hall' _ this j (by show _ = x + (j : Int) * (cp.x - c.x) - x; omega) hj
      · refine iteDF (fun z => hd0 (V.int.inj z)) ⟨_, rfl, rfl, _, rfl, ?_⟩
        cases o with
        | none =>
          refine iteT (k _ false s1 ⟨(fun z => by cases z), fun z => ?_⟩)
          obtain ⟨j, hj⟩ := off_blank can x (cp.x - c.x) hm
          have := z j
          rw [hj] at this
          exact absurd this.symm hd0
        | some kk =>
          have hkk := ok kk rfl
          refine iteF ?_
          refine ⟨_, rfl, (kk : Nat), rfl, by omega, by omega, fun D hD => lc_it walk_range (fun i H' => Same H3 H' ∧ ∃ as : List Addr, H' D = some (.lst (as.map V.ref)) ∧ as.length = i ∧ ∀ (j : Nat) (a : Addr), as[j]? = some a → H' a = some (.tup [.int (x + (j : Int) * (cp.x - c.x)), .int 0])) ⟨Same.new hD, [], upd_same, rfl, fun j a e => by cases e⟩ (fun i H' _ h => trivial) ?_ ?_⟩
          · rintro i y H4 H5 hi ⟨sm4, as, has, hal, hat⟩ ⟨rfl, rfl⟩
            rw [Int.toNat_natCast] at hi
            have hpl5 := sm4 _ _ hpl3
            have hp5 := sm4 _ _ hp3
            have ham5 := sm4 _ _ ham3
            refine ⟨rfl, _, rfl, pl, _, _, _, rfl, rfl, SqT.of hpl5, rfl, _, rfl, _, rfl, p, CR, dx, _, _, rfl, hp5, T.rC, T.rMove, rfl, am, _, _, _, rfl, rfl, SqT.of ham5, rfl, _, _, rfl, rfl, .inl ⟨by omega, by omega⟩, _, _, rfl, rfl, ?_⟩
            refine ⟨_, rfl, pl, _, _, _, rfl, rfl, SqT.of hpl5, rfl, _, rfl, _, rfl, p, CR, dx, _, _, rfl, hp5, T.rC, T.rMove, rfl, am, _, _, _, rfl, rfl, SqT.of ham5, rfl, _, _, rfl, rfl, .inl ⟨by omega, by omega⟩, _, _, rfl, rfl, by show 2 ≤ sizeLine; decide, fun q hq => ?_⟩
            have eX : x + (0 + (i : Int)) * (cp.x - c.x) = x + (i : Int) * (cp.x - c.x) := by rw [Int.zero_add]
            have eY : (0 : Int) + (0 + (i : Int)) * 0 = 0 := by rw [Int.mul_zero]; rfl
            have g1 := Same.new (o := .tup [V.int (x + (0 + (i : Int)) * (cp.x - c.x)), V.int (0 + (0 + (i : Int)) * 0)]) hq
            have nq : D ≠ q := ne_of_none has hq
            refine ⟨_, g1 _ _ has, big ?_, Same.wr (sm4.trans g1) hD, as ++ [q], by rw [upd_same, List.map_append]; rfl, by rw [List.length_append, hal]; rfl, fun j a e => ?_⟩
            · rw [List.length_map]
              omega
            · by_cases hj : j < i
              · rw [List.getElem?_append_left (by omega)] at e
                have := hat j a e
                rw [upd_ne (ne_of this has fun z => by cases z)]
                exact g1 _ _ this
              · rw [List.getElem?_append_right (by omega), hal] at e
                have hji : j = i := by
                  rcases Nat.eq_zero_or_pos (j - i) with z | z
                  · omega
                  · rw [List.getElem?_eq_none (by show 1 ≤ j - i; omega)] at e; cases e
                subst hji
                rw [Nat.sub_self] at e
                have e : q = a := Option.some.inj e
                subst e
                rw [upd_ne nq.symm, upd_same]
                show some (HO.tup [V.int (x + (0 + (j : Int)) * (cp.x - c.x)), V.int (0 + (0 + (j : Int)) * 0)]) = _
                rw [eX, eY]
          · rintro H4 ⟨sm4, as, has, hal, hat⟩
            rw [Int.toNat_natCast] at hal
            refine ⟨_, rfl, D, rfl, ⟨_, SqL.of has⟩, fun D2 hD2 => lc_it (walk_list (K := K) (a := D) (xs := as.map V.ref)) (fun i H' => Same H4 H' ∧ ∃ out ds, H' D2 = some (.lst out) ∧ RpAll H' out ds ∧ (∀ d ∈ ds, TP.pl 1 d = true) ∧ ds.length ≤ i ∧ (ds = [] ↔ ∀ j : Nat, j < i → c.f (x + (j : Int) * (cp.x - c.x)) = c.f x)) ⟨Same.new hD2, [], [], upd_same, .nil, (fun d hd => by cases hd), Nat.le_refl _, ⟨fun _ j hj => by omega, fun _ => rfl⟩⟩ (fun i H' _ h => SqL.of (h.1 _ _ has)) ?_ ?_⟩
            · rintro i y H5 H6 hi ⟨sm5, out, ds, ho, hout, hpls, hdl, hiff⟩ ⟨rfl, hy⟩
              rw [List.length_map] at hi
              rw [List.getElem?_map, List.getElem?_eq_getElem hi] at hy
              have hy := Option.some.inj hy
              subst hy
              have s6 := sm4.trans sm5
              have hat6 := sm5 _ _ (hat i as[i] (List.getElem?_eq_getElem hi))
              have lk2 : (valV (encS Sq) (pk (x + (i : Int) * (cp.x - c.x)))).getD (.int 0) = .int (c.f (x + (i : Int) * (cp.x - c.x))) := by rw [val_look, can.rep.val]
              refine ⟨rfl, _, rfl, p, CR, dx, _, _, rfl, s6 _ _ hp3, T.rC, T.rGround, rfl, dg, rfl, .inr ⟨_, .inl (s6 _ _ hg3)⟩, _, rfl, _, DGet.t (k := pk (x + (i : Int) * (cp.x - c.x))) (s6 _ _ hg3) hat6, ?_⟩
              rw [lk2]
              refine ⟨_, rfl, rfl, _, rfl, ?_⟩
              by_cases hv : c.f (x + (i : Int) * (cp.x - c.x)) = c.f x
              · refine iteND (by rw [hv]) ⟨sm5, out, ds, ho, hout, hpls, by omega, hiff.trans ⟨fun h j hj => ?_, fun h j hj => h j (by omega)⟩⟩
                by_cases e : j = i
                · rw [e]; exact hv
                · exact h j (by omega)
              · refine iteNDT (fun z => hv (V.int.inj z)) ⟨_, rfl, out, ho, big ?_, Same.wr sm5 hD2, _, ds ++ [itD [x + (i : Int) * (cp.x - c.x), 0]], upd_same, ?_, ?_, ?_, ?_⟩
                · rw [hout.length]; omega
                · have tk : TK H6 (upd H6 D2 (.lst (out ++ [V.ref as[i]]))) := TK.write ho fun xs z => by cases z
                  exact RpAll.snoc (RpAll.keep tk hout) (Rp.its (tk _ _ hat6))
                · intro d hd
                  rcases List.mem_append.mp hd with h | h
                  · exact hpls d h
                  · rw [List.mem_singleton.mp h]; exact pl_its
                · rw [List.length_append]; show ds.length + 1 ≤ i + 1; omega
                · refine ⟨fun z => by simp at z, fun h => absurd (h i (Nat.lt_succ_self i)) hv⟩
            · rintro H5 ⟨sm5, out, ds, ho, hout, hpls, hdl, hiff⟩
              rw [List.length_map, hal] at hiff
              refine ⟨Nat.zero_le _, fun p1 hp1 => ?_⟩
              have g1 := Same.new (o := .lst []) hp1
              have pld : TP.pl 2 (.list ds) = true := List.all_eq_true.mpr hpls
              refine ⟨.list ds, .list [], .lst (SqL.of (g1 _ _ ho)) (RpAll.dp (RpAll.keep (Same.tk g1) hout)), dp_nil upd_same, pl_shaped pld (by decide), shaped_nil, ?_⟩
              refine k _ _ (((s1.trans sm4).trans sm5).trans g1) ?_
              rw [eqv_iff (n := 2) (m := 1) pld rfl, free_iff]
              constructor
              · intro h j hj
                exact hiff.mp (PyData.list.inj h) j (hj kk rfl)
              · intro h
                rw [hiff.mpr fun j hj => h j fun k' e => by rw [← Option.some.inj e]; exact hj]
end
end TP
set_option Elab.async false
set_option linter.all false
set_option maxRecDepth 100000
set_option maxHeartbeats 4000000
namespace TP
open PySem PySem.Spec PyProof.Rows L2
section
variable {P : Program} {w : World} {K : PySem.W.Frag} {mg : Str → Option Value} {base : Heap} {CW CR CS CT CF : Addr} {f : Addr} {fd : FuncData}

/-! ### Round.goes_on -/
def spGoes (CR : Addr) : Sp := fun vs H Q _ => ∃ (p : Addr) (M : Mach) (S G : Nat) (c cp : Cfg) (n : Nat), vs = [.ref p] ∧ RoundAt CR M S G H p c cp n false ∧ ∀ H' b, Same H H' → (b = true ↔ Street M c n cp) → Q (.bl b) H'
theorem sc_Round_goes_on : FnScope ["self", "place", "many", "behind"] ["self"] (C8.fnScope (meth 49 4)) := C8.fnScope_by (by decide +kernel)
theorem ok_goes_on (T : Txt K mg CW CR CS CT CF) (m_next_treading : Me P w K mg base 2 CR "next_treading" (spNext CR)) (m_is_free : Me P w K mg base 2 CR "is_free" (spFree CR)) (me : Meth K CR "goes_on" f) (F : C8.Fun K "goes_on" "Round.goes_on" (meth 49 4) f fd) (b : Binds K fd ["self"] []) : Me P w K mg base 3 CR "goes_on" (spGoes CR) := by
  refine C8.met0 T.rC me F b sc_Round_goes_on (fun vs H Q E h => ?_) (fun cdv A outer s H vs Q E hr h => ?_)
  · obtain ⟨_, _, _, _, _, _, _, rfl, _⟩ := h; rfl
  · obtain ⟨p, M, S, G, c, cp, n, rfl, R, k⟩ := h
    obtain ⟨dx, dg, df, dl, dw, ae, am, Sq, K0, ws, cs, hp, hg, can, few, ky, hf, hl, h8, h9, h10, ham, hne⟩ := R.ob
    have hf : H df = some (.dT (encS (mapE K0 c.f))) := hf
    have mv := R.mv
    refine ⟨_, (pss_cons (ps_if (PW.pt (pw_or (pt_not (pt_val (pe_fldK K (pv 0)))) (pw_or (pt_not (pt_val (pe_fldK K (pv 0)))) (pw_or1 (pt_cmpR (eqD_K K (hu64 hr)) (pe_fldK K (pv 0)) (pe_tup (pa_cons pe_int (pa_cons pe_int pa_nil))) (nomark _)))))) (pss_one (ps_ret pe_bl)) pss_nil)
      (pss_cons (ps_lock (ps_for PassesOwn.never rfl (pi_keysT (pe_fldK K (pv 0))) (pg_name (i := 1) sc_Round_goes_on.nd rfl (.inl rfl))
        (pss_cons (ps_set (i := 2) sc_Round_goes_on.nd rfl (.inl rfl) (C8.pe_mt m_next_treading hr (by decide) (pv 0) (pa_cons (pv 1) (pa_cons pe_int pa_nil))))
      (pss_cons (ps_if (pt_not (pt_val (C8.pe_mt m_is_free hr (by decide) (pv 0) (pa_cons (pv 1) (pa_cons (pv 2) pa_nil))))) (pss_one (ps_ret pe_bl)) pss_nil)
      (pss_one (ps_if (pt_cmpR op_notN (pv 2) pe_non (nomark _)) (pss_cons (ps_set (i := 3) sc_Round_goes_on.nd rfl (.inl rfl) (pe_tup (pa_cons (pe_op op_add (pe_ix (ix_tupK K) (pv 1) pe_int (fun _ _ => rfl)) (pe_op op_mul (pv 2) (pe_ix (ix_tupK K) (pe_fldK K (pv 0)) pe_int (fun _ _ => rfl)))) (pa_cons (pe_op op_add (pe_ix (ix_tupK K) (pv 1) pe_int (fun _ _ => rfl)) (pe_op op_mul (pv 2) (pe_ix (ix_tupK K) (pe_fldK K (pv 0)) pe_int (fun _ _ => rfl)))) pa_nil))))
      (pss_one (ps_if (pt_cmpR op_ne (pe_dget (hu1 hr) (pe_fldK K (pv 0)) (pv 3) (fun _ _ => rfl)) (pe_dget (hu1 hr) (pe_fldK K (pv 0)) (pv 1) (fun _ _ => rfl)) (nomark _)) (pss_one (ps_ret pe_bl)) pss_nil))) pss_nil))))))
      (pss_one (ps_ret pe_bl)))), ?_⟩
    refine ⟨_, rfl, p, CR, dx, _, _, rfl, hp, T.rC, T.rWhole, rfl, _, rfl, ?_⟩
    refine iteF ⟨_, rfl, p, CR, dx, _, _, rfl, hp, T.rC, T.rBack, rfl, _, rfl, ?_⟩
    by_cases hb : cp.b = c.b ∧ cp.q = c.q
    case neg => exact iteNDT hb (iteT (k H false (Same.refl _) ⟨(fun z => by cases z), fun S => absurd ⟨S.b, S.q⟩ hb⟩))
    refine iteND hb ⟨_, rfl, p, CR, dx, _, _, rfl, hp, T.rC, T.rMove, rfl, by show 2 ≤ sizeLine; decide, fun p1 hp1 => ?_⟩
    have g1 := Same.new (o := .tup [V.int 0, V.int 0]) hp1
    refine ⟨itD [cp.x - c.x, 0], itD [0, 0], Rp.dp (Rp.its (g1 _ _ ham)), Rp.dp (Rp.its upd_same), sh_its, sh_its, _, rfl, ?_⟩
    rw [its_eq]
    by_cases hm : cp.x - c.x = 0
    · refine iteD (by rw [hm]) (k _ false g1 ⟨(fun z => by cases z), fun S => absurd hm S.m⟩)
    refine iteDF (fun z => hm (List.cons.inj z).1) ?_
    generalize upd H p1 (.tup [V.int 0, V.int 0]) = H1 at g1
    have R1 := R.keep g1
    refine ⟨df, _, g1 _ _ hf, trivial, fun od => ?_⟩
    generalize hHL : upd H1 df (.frz od (.dT (encS (mapE K0 c.f)))) = HL
    have hfL : HL df = some (.frz od (.dT (encS (mapE K0 c.f)))) := by rw [← hHL]; exact upd_same
    have uL : ∀ b o, H b = some o → b ≠ df → HL b = some o := fun b o h hb => by rw [← hHL, upd_ne hb]; exact g1 _ _ h
    have hpL := uL _ _ hp (ne_of hp hf fun z => by cases z)
    have hamL := uL _ _ ham (ne_of ham hf fun z => by cases z)
    have RL : RoundAt CR M S G HL p c cp n true := by
      exact ⟨R.good, R.ok, R.run, R.nn, dx, dg, df, dl, dw, ae, am, Sq, K0, ws, cs, hpL, uL _ _ hg hne.1, can, few, ky, ⟨od, hfL⟩, uL _ _ hl hne.2, uL _ _ h8 (ne_of h8 hf fun z => by cases z), h9, RpAll.keep (fun b xs h => uL _ _ h (ne_of h hf fun z => by cases z)) h10, hamL, hne⟩
    have lk : ∀ {H' : Hp}, Same HL H' → Same H (upd H' df (.dT (encS (mapE K0 c.f)))) := fun s => g1.trans (Same.lock (g1 _ _ hf) (by rw [hHL]; exact s))
    refine ⟨_, rfl, p, CR, dx, _, _, rfl, hpL, T.rC, T.rFirst, rfl, df, od, _, rfl, hfL, for_it walk_keysT (fun i σ H' => Same HL H' ∧ (∃ o1 o2 o3, σ = [some (.ref p), o1, o2, o3]) ∧ ∀ (i' : Nat) (x : Int), i' < i → K0[i']? = some x → OkAt c.f cp.f (Trod M c n) (cp.x - c.x) x) ⟨Same.refl _, ⟨_, _, _, rfl⟩, fun i' q hi => by omega⟩ (fun i σ H' _ h => h.1 _ _ hfL) ?_ ?_⟩
    · rintro i y σ H2 H3 hi ⟨sm, ⟨o1, o2, o3, rfl⟩, hall⟩ ⟨rfl, kk, v, q, hk, rfl, hq⟩
      unfold encS mapE at hk hi
      rw [List.length_map, List.length_map] at hi
      rw [List.getElem?_map, List.getElem?_map, List.getElem?_eq_getElem hi] at hk
      have hk := Option.some.inj hk
      have hk1 : kk = pk K0[i] := (congrArg Prod.fst hk).symm
      subst hk1
      have hK : K0[i] ∈ K0 := List.getElem_mem hi
      have hxi : K0[i]? = some K0[i] := List.getElem?_eq_getElem hi
      generalize K0[i] = x at hq hK hxi
      have hx := (ky.mem _).mp hK
      refine ⟨_, rfl, p, dx, _, rfl, sm _ _ hpL, rfl, _, rfl, p, q, M, S, G, c, cp, n, x, rfl, RL.keep sm, hm, hq, hx, fun H4 o s4 ho hok => ?_⟩
      have s5 := sm.trans s4
      refine ⟨_, rfl, p, dx, _, rfl, s5 _ _ hpL, rfl, _, rfl, _, rfl, p, q, M, S, G, c, cp, n, x, o, rfl, RL.keep s5, hm, s4 _ _ hq, hx, hok, fun H5 b s6 hb2 => ⟨_, rfl, ?_⟩⟩
      have s7 := s5.trans s6
      have step : OkAt c.f cp.f (Trod M c n) (cp.x - c.x) x → ∀ (i' : Nat) (x' : Int), i' < i + 1 → K0[i']? = some x' → OkAt c.f cp.f (Trod M c n) (cp.x - c.x) x' := fun h i' x' h1 h2 => by
        by_cases e : i' = i
        · rw [e, hxi] at h2
          rw [← Option.some.inj h2]
          exact h
        · exact hall i' x' (by omega) h2
      have no : ¬ OkAt c.f cp.f (Trod M c n) (cp.x - c.x) x → ∀ {H' : Hp}, Same HL H' → H' df = some (.frz od (.dT (encS (mapE K0 c.f)))) ∧ Q (.bl false) (upd H' df (.dT (encS (mapE K0 c.f)))) := fun h H' s => ⟨s _ _ hfL, k _ false (lk s) ⟨(fun z => by cases z), fun S => absurd (S.ok x hx) h⟩⟩
      have oki := okAt_iff (f := c.f) (left := cp.f) ho
      cases b with
      | false =>
        refine iteT (no (fun h => ?_) s7)
        have := hb2.mpr (oki.mp h).1
        cases this
      | true =>
        have fr := hb2.mp rfl
        refine iteF ⟨_, rfl, rfl, _, rfl, ?_⟩
        cases o with
        | none => exact iteF ⟨s7, ⟨_, _, _, rfl⟩, step (oki.mpr ⟨fr, fun k e => by cases e⟩)⟩
        | some kk =>
          have hkk := hok kk rfl
          refine iteT ?_
          have hpl7 := (s4.trans s6) _ _ hq
          have hp7 := s7 _ _ hpL
          have ham7 := s7 _ _ hamL
          refine ⟨_, rfl, q, _, _, _, rfl, rfl, SqT.of hpl7, rfl, _, rfl, _, rfl, p, CR, dx, _, _, rfl, hp7, T.rC, T.rMove, rfl, am, _, _, _, rfl, rfl, SqT.of ham7, rfl, _, _, rfl, rfl, .inl ⟨by omega, by omega⟩, _, _, rfl, rfl, ?_⟩
          refine ⟨_, rfl, q, _, _, _, rfl, rfl, SqT.of hpl7, rfl, _, rfl, _, rfl, p, CR, dx, _, _, rfl, hp7, T.rC, T.rMove, rfl, am, _, _, _, rfl, rfl, SqT.of ham7, rfl, _, _, rfl, rfl, .inl ⟨by omega, by omega⟩, _, _, rfl, rfl, by show 2 ≤ sizeLine; decide, fun q2 hq2 => ?_⟩
          have eY : (0 : Int) + (kk : Int) * 0 = 0 := by rw [Int.mul_zero]; rfl
          have hq3 : (upd H5 q2 (.tup [V.int (x + (kk : Int) * (cp.x - c.x)), V.int (0 + (kk : Int) * 0)])) q2 = some (.tup ((pk (x + (kk : Int) * (cp.x - c.x))).map kV)) := by
            rw [upd_same, eY]
            rfl
          have g2 := Same.new (o := .tup [V.int (x + (kk : Int) * (cp.x - c.x)), V.int (0 + (kk : Int) * 0)]) hq2
          have s8 := s7.trans g2
          have hT := ho.2.1
          refine ⟨_, rfl, p, CR, dx, _, _, rfl, s8 _ _ hpL, T.rC, T.rLeft, rfl, _, rfl, dl, _, rfl, (by rw [← mapE_val (f := cp.f) ky.nd ((ky.mem _).mpr hT)]; exact DGet.t (s8 _ _ (uL _ _ hl hne.2)) hq3), ?_⟩
          refine ⟨_, rfl, p, CR, dx, _, _, rfl, s8 _ _ hpL, T.rC, T.rFirst, rfl, _, rfl, df, _, rfl, (by rw [← mapE_val (f := c.f) ky.nd hK]; exact dget_t (.inr ⟨od, s8 _ _ hfL⟩) (g2 _ _ hpl7)), rfl, _, rfl, ?_⟩
          by_cases hv : cp.f (x + (kk : Int) * (cp.x - c.x)) = c.f x
          · exact iteND (by rw [hv]) ⟨s8, ⟨_, _, _, rfl⟩, step (oki.mpr ⟨fr, fun k e => by rw [← Option.some.inj e]; exact hv⟩)⟩
          · exact iteNDT (fun z => hv (V.int.inj z)) (no (fun h => hv ((oki.mp h).2 kk rfl)) s8)
    · rintro σ H2 ⟨sm, ⟨o1, o2, o3, rfl⟩, hall⟩
      refine ⟨sm _ _ hfL, k _ true (lk sm) ⟨fun _ => ⟨R.run, hb.2, hb.1, hm, fun x hx => ?_⟩, fun _ => rfl⟩⟩
      obtain ⟨i', hi', e⟩ := List.getElem_of_mem ((ky.mem _).mpr hx)
      exact hall i' x (by unfold encS mapE; rw [List.length_map, List.length_map]; exact hi') (by rw [List.getElem?_eq_getElem hi', e])
end
end TP
set_option Elab.async false
set_option linter.all false
set_option maxRecDepth 100000
set_option maxHeartbeats 4000000
namespace TP
open PySem PySem.Spec PyProof.Rows L2
/-- a Street of n steps from c to cp stands at p -/
structure StreetAt (CS CR : Addr) (M : Mach) (S G : Nat) (H : Hp) (p : Addr) (c cp : Cfg) (n : Nat) : Prop where
  ob : ∃ dx t rp, H p = some (.ins CS dx [("table", t), ("round", .ref rp)]) ∧ RoundAt CR M S G H rp c cp n false
theorem StreetAt.keep {CS CR : Addr} {M : Mach} {S G : Nat} {H H' : Hp} {p : Addr} {c cp : Cfg} {n : Nat} (R : StreetAt CS CR M S G H p c cp n) (s : Same H H') : StreetAt CS CR M S G H' p c cp n := by
  obtain ⟨dx, t, rp, h1, h2⟩ := R.ob
  exact ⟨dx, t, rp, s _ _ h1, h2.keep s⟩
theorem FR.made {H1 H2 : Hp} {p x dx : Addr} {C : Addr} (nx : H1 x = none) (ndx : H1 dx = none) (k : ∀ b o, (upd (upd H1 dx (.own x)) x (.ins C dx [])) b = some o → b ≠ x → H2 b = some o) : Same H1 H2 := Same.made nx ndx k
section
variable {P : Program} {w : World} {K : PySem.W.Frag} {mg : Str → Option Value} {base : Heap} {CW CR CS CT CF : Addr} {f : Addr} {fd : FuncData}

/-! ### Street -/
def spStreetInit (CS CR : Addr) : Sp := fun vs H Q _ => ∃ (p dx : Addr) (t fl wk : V) (M : Mach) (S G : Nat) (Sq : List (Int × Int)) (c cp : Cfg) (n : Nat), vs = [.ref p, t, fl, wk, .int n] ∧ H p = some (.ins CS dx []) ∧ St3 H t fl wk M S G Sq c ∧
  runC M c n = some cp ∧ (1 ≤ n ∧ n ≤ 600) ∧ Sq.length ≤ 3000 ∧ ∀ H', StreetAt CS CR M S G H' p c cp n → FR H H' p → Q .non H'
theorem sc_Street_init : FnScope ["self", "table", "floor", "walker", "period"] ["self", "table", "floor", "walker", "period"] (C8.fnScope (meth 50 0)) := C8.fnScope_by (by decide +kernel)
theorem ok_Street (T : Txt K mg CW CR CS CT CF) (k_Round : Ma P w K mg base 4 "Round" CR (spRoundInit CR))
    (Mk : Mk K CS f) (hm : mg "Street" = some (.ref CS)) (F : C8.Fun K "__init__" "Street.__init__" (meth 50 0) f fd) (b : Binds K fd ["self", "table", "floor", "walker", "period"] []) :
    Ma P w K mg base 6 "Street" CS (spStreetInit CS CR) := by
  refine C8.mak0 Mk hm F b .nil sc_Street_init (fun vs H Q E h => ?_) (fun cdv A outer s H vs Q E hr h => ?_)
  · obtain ⟨_, _, _, _, _, _, _, _, _, _, _, _, rfl, _⟩ := h; rfl
  · obtain ⟨p, dx, t, fl, wk, M, S, G, Sq, c, cp, n, rfl, hp, st, run, hn, few, k⟩ := h
    refine ⟨_, (pss_cons (ps_fld (pv 0) (pv 1) rfl)
      (pss_one (ps_fld (pv 0) (C8.pe_mk k_Round hr (by decide) (by rfl) (pa_cons (pv 1) (pa_cons (pv 2) (pa_cons (pv 3) (pa_cons (pv 4) pa_nil))))) rfl))), ?_⟩
    refine ⟨_, rfl, _, rfl, p, CS, dx, _, rfl, hp, T.sC, T.sTable, (by show 0 < 1000; decide), ?_⟩
    generalize hA : upd H p (.ins CS dx (putF "table" t [])) = H1
    have hp1 : H1 p = some (.ins CS dx [("table", t)]) := by rw [← hA]; exact upd_same
    have fr1 : FR H H1 p := fun b o h hb => by rw [← hA, upd_ne hb]; exact h
    have st1 := st.keep (H' := H1) fun b xs h => fr1 b _ h (ne_of h hp fun z => by cases z)
    refine ⟨_, rfl, _, rfl, _, rfl, _, rfl, fun x dx2 nx ndx nex => ?_⟩
    have s0 : Same H1 (upd (upd H1 dx2 (.own x)) x (.ins CR dx2 [])) := fun b o e => by
      rw [upd_ne (ne_of_none e nx), upd_ne (ne_of_none e ndx)]
      exact e
    have st2 := st1.keep (Same.tk s0)
    refine ⟨x, dx2, t, fl, wk, M, S, G, Sq, c, cp, n, rfl, upd_same, st2, run, hn, few, fun H2 R2 k2 => ⟨rfl, ?_⟩⟩
    have s2 : Same H1 H2 := Same.made nx ndx k2
    have npx : p ≠ x := ne_of_none hp1 nx
    refine ⟨_, rfl, p, CS, dx, _, rfl, s2 _ _ hp1, T.sC, T.sRound, (by show 1 < 1000; decide), ?_⟩
    refine k _ ⟨dx, t, x, upd_same, ?_⟩ fun b o h hb => by rw [upd_ne hb]; exact s2 _ _ (fr1 b o h hb)
    have hp2 := s2 _ _ hp1
    obtain ⟨dx3, dg, df, dl, dw, ae, am, Sq3, K0, ws, cs, e1, e2, e3, e4, e5, e6, e7, e8, e9, e10, e11, e12⟩ := R2.ob
    have u : ∀ b o, H2 b = some o → b ≠ p → (upd H2 p (.ins CS dx (putF "round" (.ref x) [("table", t)]))) b = some o := fun b o h hb => by rw [upd_ne hb]; exact h
    exact ⟨R2.good, R2.ok, R2.run, R2.nn, dx3, dg, df, dl, dw, ae, am, Sq3, K0, ws, cs, u _ _ e1 npx.symm, u _ _ e2 (ne_of e2 hp2 fun z => by cases z), e3, e4, e5, u _ _ e6 (ne_of (o := .dT (encS (mapE K0 c.f))) e6 hp2 fun z => by cases z), u _ _ e7 (ne_of e7 hp2 fun z => by cases z), u _ _ e8 (ne_of e8 hp2 fun z => by cases z), e9, RpAll.keep (fun b xs h => u _ _ h (ne_of h hp2 fun z => by cases z)) e10, u _ _ e11 (ne_of e11 hp2 fun z => by cases z), e12⟩
def spParted (CS CR : Addr) : Sp := fun vs H Q _ => ∃ (p : Addr) (M : Mach) (S G : Nat) (c cp : Cfg) (n s : Nat), vs = [.ref p, .int s] ∧ StreetAt CS CR M S G H p c cp n ∧ ∀ H' q, Same H H' → H' q = some (.tup [.int ((s / n : Nat) : Int), .int ((s % n : Nat) : Int)]) → Q (.ref q) H'
theorem sc_Street_parted : FnScope ["self", "steps"] ["self", "steps"] (C8.fnScope (meth 50 1)) := C8.fnScope_by (by decide +kernel)
theorem ok_parted (T : Txt K mg CW CR CS CT CF) (me : Meth K CS "parted" f) (F : C8.Fun K "parted" "Street.parted" (meth 50 1) f fd) (b : Binds K fd ["self", "steps"] []) : Me P w K mg base 1 CS "parted" (spParted CS CR) := by
  refine C8.met0 T.sC me F b sc_Street_parted (fun vs H Q E h => ?_) (fun cdv A outer s H vs Q E hr h => ?_)
  · obtain ⟨_, _, _, _, _, _, _, _, rfl, _⟩ := h; rfl
  · obtain ⟨p, M, S, G, c, cp, n, st, rfl, R, k⟩ := h
    obtain ⟨dx, t, rp, hp, R1⟩ := R.ob
    have nn := R1.nn
    obtain ⟨dx3, dg, df, dl, dw, ae, am, Sq3, K0, ws, cs, hrp, _⟩ := R1.ob
    refine ⟨_, (pss_one (ps_ret (pe_tup (pa_cons (pe_op op_fdiv (pv 1) (pe_fldK K (pe_fldK K (pv 0)))) (pa_cons (pe_op op_mod (pv 1) (pe_fldK K (pe_fldK K (pv 0)))) pa_nil))))), ?_⟩
    refine ⟨_, rfl, _, rfl, p, CS, dx, _, _, rfl, hp, T.sC, T.sRound, rfl, rp, CR, dx3, _, _, rfl, hrp, T.rC, T.rPeriod, rfl, _, _, rfl, rfl, ⟨by omega, by omega⟩, ?_⟩
    refine ⟨_, rfl, _, rfl, p, CS, dx, _, _, rfl, hp, T.sC, T.sRound, rfl, rp, CR, dx3, _, _, rfl, hrp, T.rC, T.rPeriod, rfl, _, _, rfl, rfl, (by show (0 : Int) < (n : Int); omega), by show 2 ≤ sizeLine; decide, fun q hq => ?_⟩
    exact k _ q (Same.new hq) upd_same
def spSWalker (CS CR : Addr) : Sp := fun vs H Q _ => ∃ (p : Addr) (M : Mach) (S G : Nat) (c cp : Cfg) (n s : Nat), vs = [.ref p, .int s] ∧ StreetAt CS CR M S G H p c cp n ∧ s ≤ 10000 ∧
  ∀ H' r ci, Same H H' → runC M c (s % n) = some ci → Rp H' r (itD [ci.x + ((s / n : Nat) : Int) * (cp.x - c.x), 0, hdg ci.b, sd ci.q ci.b]) → Q r H'
theorem sc_Street_walker_at : FnScope ["self", "steps", "many", "rest", "x", "y", "heading", "state"] ["self", "steps"] (C8.fnScope (meth 50 2)) := C8.fnScope_by (by decide +kernel)
theorem ok_swalker_at (T : Txt K mg CW CR CS CT CF) (m_parted : Me P w K mg base 1 CS "parted" (spParted CS CR)) (me : Meth K CS "walker_at" f) (F : C8.Fun K "walker_at" "Street.walker_at" (meth 50 2) f fd) (b : Binds K fd ["self", "steps"] []) : Me P w K mg base 2 CS "walker_at" (spSWalker CS CR) := by
  refine C8.met0 T.sC me F b sc_Street_walker_at (fun vs H Q E h => ?_) (fun cdv A outer s H vs Q E hr h => ?_)
  · obtain ⟨_, _, _, _, _, _, _, _, rfl, _⟩ := h; rfl
  · obtain ⟨p, M, S, G, c, cp, n, st, rfl, R, hs, k⟩ := h
    obtain ⟨dx, t, rp, hp, R1⟩ := R.ob
    have nn := R1.nn
    obtain ⟨dx3, dg, df, dl, dw, ae, am, Sq3, K0, ws, cs, hrp, e2, e3, e4, e5, e6, e7, hdw, wy, hws, ham, e12⟩ := R1.ob
    refine ⟨_, (pss_cons (ps_asg (C8.pe_mt m_parted hr (by decide) (pv 0) (pa_cons (pv 1) pa_nil)) (pg_tupK K (n := 2) rfl (pgs_cons (pg_name (i := 2) sc_Street_walker_at.nd rfl (.inl rfl)) (pgs_cons (pg_name (i := 3) sc_Street_walker_at.nd rfl (.inl rfl)) pgs_nil))))
      (pss_cons (ps_asg (pe_ix (ix_listK K) (pe_fldK K (pe_fldK K (pv 0))) (pv 3) (fun _ _ => rfl)) (pg_tupK K (n := 4) rfl (pgs_cons (pg_name (i := 4) sc_Street_walker_at.nd rfl (.inl rfl)) (pgs_cons (pg_name (i := 5) sc_Street_walker_at.nd rfl (.inl rfl)) (pgs_cons (pg_name (i := 6) sc_Street_walker_at.nd rfl (.inl rfl)) (pgs_cons (pg_name (i := 7) sc_Street_walker_at.nd rfl (.inl rfl)) pgs_nil))))))
      (pss_one (ps_ret (pe_tup (pa_cons (pe_op op_add (pv 4) (pe_op op_mul (pv 2) (pe_ix (ix_tupK K) (pe_fldK K (pe_fldK K (pv 0))) pe_int (fun _ _ => rfl)))) (pa_cons (pe_op op_add (pv 5) (pe_op op_mul (pv 2) (pe_ix (ix_tupK K) (pe_fldK K (pe_fldK K (pv 0))) pe_int (fun _ _ => rfl)))) (pa_cons (pv 6) (pa_cons (pv 7) pa_nil))))))))), ?_⟩
    refine ⟨_, rfl, p, dx, _, rfl, hp, rfl, _, rfl, p, M, S, G, c, cp, n, st, rfl, R, fun H1 q s1 hq => ?_⟩
    refine ⟨q, _, rfl, SqT.of hq, rfl, _, _, rfl, _, _, rfl, rfl, ?_⟩
    have hlt : st % n < n := Nat.mod_lt _ (by omega)
    have hdiv : st / n ≤ st := Nat.div_le_self _ _
    obtain ⟨ci, hci⟩ : ∃ ci, cs[st % n]? = some ci := ⟨cs[st % n]'(by rw [wy.len]; exact hlt), List.getElem?_eq_getElem _⟩
    obtain ⟨v, hv, hrv⟩ := hws.get (i := st % n) (d := walkerD ci) (by rw [List.getElem?_map, hci]; rfl)
    obtain ⟨a, rfl, ha⟩ := Rp.of_its hrv
    have hp1 := s1 _ _ hp
    have hrp1 := s1 _ _ hrp
    refine ⟨_, rfl, p, CS, dx, _, _, rfl, hp1, T.sC, T.sRound, rfl, rp, CR, dx3, _, _, rfl, hrp1, T.rC, T.rWays, rfl, _, rfl, dw, ws, _, _, rfl, rfl, SqL.of (s1 _ _ hdw), at_of (j := st % n) rfl hv, ?_⟩
    have hT := s1 _ _ ham
    have hc : (0 : Int) ≤ ((st / n : Nat) : Int) := Int.natCast_nonneg _
    refine ⟨a, _, rfl, SqT.of (s1 _ _ ha), rfl, _, _, rfl, _, _, rfl, _, _, rfl, _, _, rfl, rfl, ?_⟩
    refine ⟨_, rfl, _, rfl, _, rfl, p, CS, dx, _, _, rfl, hp1, T.sC, T.sRound, rfl, rp, CR, dx3, _, _, rfl, hrp1, T.rC, T.rMove, rfl, am, _, _, _, rfl, rfl, SqT.of hT, rfl, _, _, rfl, rfl, .inl ⟨by omega, by omega⟩, _, _, rfl, rfl, ?_⟩
    refine ⟨_, rfl, _, rfl, _, rfl, p, CS, dx, _, _, rfl, hp1, T.sC, T.sRound, rfl, rp, CR, dx3, _, _, rfl, hrp1, T.rC, T.rMove, rfl, am, _, _, _, rfl, rfl, SqT.of hT, rfl, _, _, rfl, rfl, .inl ⟨by omega, by omega⟩, _, _, rfl, rfl, ?_⟩
    refine ⟨_, rfl, _, rfl, by show 4 ≤ sizeLine; decide, fun q2 hq2 => ?_⟩
    have eY : (0 : Int) + ((st / n : Nat) : Int) * 0 = 0 := by rw [Int.mul_zero]; rfl
    refine k _ _ ci (s1.trans (Same.new hq2)) (wy.at_ _ _ hci) (Rp.its ?_)
    rw [upd_same]
    show some (HO.tup [V.int (ci.x + ((st / n : Nat) : Int) * (cp.x - c.x)), V.int (0 + ((st / n : Nat) : Int) * 0), V.int (hdg ci.b), V.int (sd ci.q ci.b)]) = _
    rw [eY]
    rfl
end
end TP
set_option Elab.async false
set_option linter.all false
set_option maxRecDepth 100000
set_option maxHeartbeats 4000000
namespace TP
open PySem PySem.Spec PyProof.Rows L2
inductive Paper
  | stops (n : Nat)
  | round (k p : Nat)
  | street (k p : Nat)
def paperD : Paper → PyData
  | .stops n => .tuple [.str "stops", .int n]
  | .round k p => .tuple [.str "round", .int k, .int p]
  | .street k p => .tuple [.str "street", .int k, .int p]
def Paper.begins : Paper → Nat
  | .stops n => n
  | .round k _ => k
  | .street k _ => k
theorem shapedS {x : Str} {is : List Int} (h : PyData.canLay0 (.str x) = true) : SeqAt.shaped (.tuple (.str x :: is.map PyData.int)) = true := by
  have h1 : PyData.canLayAll0 (is.map PyData.int) = true := lay_all fun d hd => by
    obtain ⟨i, _, rfl⟩ := List.mem_map.mp hd
    rfl
  have h2 : PyData.depthAll (.str x :: is.map PyData.int) ≤ 1 := dep_all fun d hd => by
    rcases List.mem_cons.mp hd with rfl | hd
    · exact Nat.zero_le _
    · obtain ⟨i, _, rfl⟩ := List.mem_map.mp hd
      exact Nat.zero_le _
  unfold SeqAt.shaped
  rw [Bool.and_eq_true_iff]
  refine ⟨?_, decide_eq_true ?_⟩
  · show (PyData.canLay0 (.str x) && PyData.canLayAll0 (is.map PyData.int)) = true
    rw [h, h1]
    rfl
  · show PyData.depthAll (.str x :: is.map PyData.int) + 1 ≤ 64
    omega
def PaperOk (M : Mach) (c : Cfg) : Paper → Prop
  | .stops n => n ≤ 600 ∧ ∃ d, runC M c n = some d ∧ stepC M d = none
  | .round k p => 1 ≤ p ∧ k + p ≤ 600 ∧ ∃ d, runC M c k = some d ∧ runC M c (k + p) = some d
  | .street k p => 1 ≤ p ∧ k + p ≤ 600 ∧ ∃ d e, runC M c k = some d ∧ runC M c (k + p) = some e ∧ Street M d p e
section
variable {P : Program} {w : World} {K : PySem.W.Frag} {mg : Str → Option Value} {base : Heap} {CW CR CS CT CF : Addr} {f : Addr} {fd : FuncData}

/-! ### is_paper_shape -/
def spShape : Sp := fun vs H Q _ => ∃ (v : V) (pp : Paper) (M : Mach) (c : Cfg), vs = [v] ∧ Rp H v (paperD pp) ∧ PaperOk M c pp ∧ ∀ H', Same H H' → Q (.bl true) H'
theorem sc_is_paper_shape : FnScope ["value"] ["value"] (C8.fnScope (top 52)) := C8.fnScope_by (by decide +kernel)
theorem ok_is_paper_shape (T : Txt K mg CW CR CS CT CF) (c_is_in : Ca P w K mg base 1 "is_in" spIsIn) (F : C8.Def K mg "is_paper_shape" (top 52) f fd) (b : Binds K fd ["value"] []) : Ca P w K mg base 2 "is_paper_shape" spShape := by
  refine C8.cal0 F b .nil sc_is_paper_shape (fun vs H Q E h => ?_) (fun cdv A outer s H vs Q E hr h => ?_)
  · obtain ⟨_, _, _, _, rfl, _⟩ := h; rfl
  · obtain ⟨v, pp, M, c, rfl, hv, ok, k⟩ := h
    refine ⟨_, (pss_cons (ps_if (PW.pt (pw_or (pt_not (pt_val (pe_callB call_isiB (by rfl) T.isi (by decide +kernel) (pa_cons (pv 0) (pa_cons (pe_bltn (by rfl) T.tuple boot_tuple (v := .ty "tuple") rfl) pa_nil))))) (pw_or (pt_cmpR (eqD_K K (hu64 hr)) (pv 0) (pe_tup pa_nil) (nomark _)) (pw_or1 (pt_not (pt_val (pe_callB call_isiB (by rfl) T.isi (by decide +kernel) (pa_cons (pe_ix (ix_tupK K) (pv 0) pe_int (fun _ _ => rfl)) (pa_cons (pe_bltn (by rfl) T.str boot_str (v := .ty "str") rfl) pa_nil))))))))) (pss_one (ps_ret pe_bl)) pss_nil)
      (pss_cons (ps_if (pt_cmpR op_eq (pe_ix (ix_tupK K) (pv 0) pe_int (fun _ _ => rfl)) pe_str (nomark _)) (pss_one (ps_ret (pe_and (pe_cmpR op_eq (pe_callB (len_K K) (by rfl) T.len (by decide +kernel) (pa_cons (pv 0) pa_nil)) pe_int (nomark _)) (pe_one (C8.pe_c c_is_in hr (by decide) (by rfl) (pa_cons (pe_ix (ix_tupK K) (pv 0) pe_int (fun _ _ => rfl)) (pa_cons pe_int (pa_cons (C8.pe_gc (by rfl) T.cSteps) pa_nil)))))))) pss_nil)
      (pss_cons (ps_if (PW.pt (pw_or (pt_cmpR (notin_K K) (pe_ix (ix_tupK K) (pv 0) pe_int (fun _ _ => rfl)) (pe_tup (pa_cons pe_str (pa_cons pe_str pa_nil))) (by rfl)) (pw_or1 (pt_cmpR op_ne (pe_callB (len_K K) (by rfl) T.len (by decide +kernel) (pa_cons (pv 0) pa_nil)) pe_int (nomark _))))) (pss_one (ps_ret pe_bl)) pss_nil)
      (pss_one (ps_ret (pe_and (C8.pe_c c_is_in hr (by decide) (by rfl) (pa_cons (pe_ix (ix_tupK K) (pv 0) pe_int (fun _ _ => rfl)) (pa_cons pe_int (pa_cons (C8.pe_gc (by rfl) T.cSteps) pa_nil)))) (pe_one (C8.pe_c c_is_in hr (by decide) (by rfl) (pa_cons (pe_ix (ix_tupK K) (pv 0) pe_int (fun _ _ => rfl)) (pa_cons pe_int (pa_cons (C8.pe_gc (by rfl) T.cRound) pa_nil))))))))))), ?_⟩
    cases pp with
    | stops n =>
      obtain ⟨a, x, y, rfl, ha, hx, hy⟩ := Rp.of_two hv
      have dv := Rp.dp (K := K) hv
      rw [Rp.of_str hx, Rp.of_int hy] at ha
      have okn := ok.1
      refine ⟨_, rfl, _, _, _, _, rfl, .tup ha, k_tt, _, rfl, iteF ?_⟩
      refine ⟨_, rfl, Nat.zero_le _, fun p1 hp1 => ?_⟩
      have g1 := Same.new (o := .tup []) hp1
      have ha1 := g1 _ _ ha
      refine ⟨paperD (.stops n), .tuple [], Rp.dp (Rp.keep (Same.tk g1) hv), Rp.dp (.tup upd_same .nil), shapedS (x := "stops") (is := [(n : Int)]) (by decide +kernel), by decide, _, rfl, iteF ?_⟩
      refine ⟨_, rfl, a, _, _, _, rfl, rfl, SqT.of ha1, rfl, _, _, _, _, rfl, .str _, k_ss, _, rfl, iteF ?_⟩
      refine ⟨_, rfl, a, _, _, _, rfl, rfl, SqT.of ha1, rfl, rfl, _, rfl, iteD rfl ?_⟩
      refine ⟨_, rfl, _, _, rfl, .inr (SqT.of ha1), rfl, _, rfl, iteD rfl ?_⟩
      refine ⟨_, rfl, a, _, _, _, rfl, rfl, SqT.of ha1, rfl, _, _, _, rfl, ?_⟩
      rw [decide_eq_true (show (0 : Int) ≤ n ∧ (n : Int) ≤ 100000 by omega)]
      exact k _ g1
    | round n m =>
      obtain ⟨a, x, y, z, rfl, ha, hx, hy, hz⟩ := Rp.of_three hv
      rw [Rp.of_str hx, Rp.of_int hy, Rp.of_int hz] at ha
      have ok1 := ok.1
      have ok2 := ok.2.1
      refine ⟨_, rfl, _, _, _, _, rfl, .tup ha, k_tt, _, rfl, iteF ?_⟩
      refine ⟨_, rfl, Nat.zero_le _, fun p1 hp1 => ?_⟩
      have g1 := Same.new (o := .tup []) hp1
      have ha1 := g1 _ _ ha
      refine ⟨paperD (.round n m), .tuple [], Rp.dp (Rp.keep (Same.tk g1) hv), Rp.dp (.tup upd_same .nil), shapedS (x := "round") (is := [(n : Int), (m : Int)]) (by decide +kernel), by decide, _, rfl, iteF ?_⟩
      refine ⟨_, rfl, a, _, _, _, rfl, rfl, SqT.of ha1, rfl, _, _, _, _, rfl, .str _, k_ss, _, rfl, iteF ?_⟩
      refine ⟨_, rfl, a, _, _, _, rfl, rfl, SqT.of ha1, rfl, rfl, _, rfl, iteDF (fun e => absurd (V.str.inj e) (by decide)) ?_⟩
      refine ⟨_, rfl, a, _, _, _, rfl, rfl, SqT.of ha1, rfl, by show 2 ≤ sizeLine; decide, fun p2 hp2 => ?_⟩
      have g2 := g1.trans (Same.new (o := .tup [V.str "round", V.str "street"]) hp2)
      have ha2 := g2 _ _ ha
      refine ⟨p2, _, rfl, .inr (SqT.of upd_same), rfl, rfl, _, rfl, ?_⟩
      rw [show (if true = true then !inV (V.str "round") [V.str "round", V.str "street"] else inV (V.str "round") [V.str "round", V.str "street"]) = false by decide +kernel]
      refine iteF ⟨_, rfl, _, _, rfl, .inr (SqT.of ha2), rfl, _, rfl, iteND rfl ?_⟩
      refine ⟨_, rfl, a, _, _, _, rfl, rfl, SqT.of ha2, rfl, _, _, _, rfl, ?_⟩
      rw [decide_eq_true (show (0 : Int) ≤ n ∧ (n : Int) ≤ 100000 by omega)]
      refine ⟨_, rfl, iteT ⟨_, rfl, a, _, _, _, rfl, rfl, SqT.of ha2, rfl, _, _, _, rfl, ?_⟩⟩
      rw [decide_eq_true (show (1 : Int) ≤ m ∧ (m : Int) ≤ 2000 by omega)]
      exact k _ g2
    | street n m =>
      obtain ⟨a, x, y, z, rfl, ha, hx, hy, hz⟩ := Rp.of_three hv
      rw [Rp.of_str hx, Rp.of_int hy, Rp.of_int hz] at ha
      have ok1 := ok.1
      have ok2 := ok.2.1
      refine ⟨_, rfl, _, _, _, _, rfl, .tup ha, k_tt, _, rfl, iteF ?_⟩
      refine ⟨_, rfl, Nat.zero_le _, fun p1 hp1 => ?_⟩
      have g1 := Same.new (o := .tup []) hp1
      have ha1 := g1 _ _ ha
      refine ⟨paperD (.street n m), .tuple [], Rp.dp (Rp.keep (Same.tk g1) hv), Rp.dp (.tup upd_same .nil), shapedS (x := "street") (is := [(n : Int), (m : Int)]) (by decide +kernel), by decide, _, rfl, iteF ?_⟩
      refine ⟨_, rfl, a, _, _, _, rfl, rfl, SqT.of ha1, rfl, _, _, _, _, rfl, .str _, k_ss, _, rfl, iteF ?_⟩
      refine ⟨_, rfl, a, _, _, _, rfl, rfl, SqT.of ha1, rfl, rfl, _, rfl, iteDF (fun e => absurd (V.str.inj e) (by decide)) ?_⟩
      refine ⟨_, rfl, a, _, _, _, rfl, rfl, SqT.of ha1, rfl, by show 2 ≤ sizeLine; decide, fun p2 hp2 => ?_⟩
      have g2 := g1.trans (Same.new (o := .tup [V.str "round", V.str "street"]) hp2)
      have ha2 := g2 _ _ ha
      refine ⟨p2, _, rfl, .inr (SqT.of upd_same), rfl, rfl, _, rfl, ?_⟩
      rw [show (if true = true then !inV (V.str "street") [V.str "round", V.str "street"] else inV (V.str "street") [V.str "round", V.str "street"]) = false by decide +kernel]
      refine iteF ⟨_, rfl, _, _, rfl, .inr (SqT.of ha2), rfl, _, rfl, iteND rfl ?_⟩
      refine ⟨_, rfl, a, _, _, _, rfl, rfl, SqT.of ha2, rfl, _, _, _, rfl, ?_⟩
      rw [decide_eq_true (show (0 : Int) ≤ n ∧ (n : Int) ≤ 100000 by omega)]
      refine ⟨_, rfl, iteT ⟨_, rfl, a, _, _, _, rfl, rfl, SqT.of ha2, rfl, _, _, _, rfl, ?_⟩⟩
      rw [decide_eq_true (show (1 : Int) ≤ m ∧ (m : Int) ≤ 2000 by omega)]
      exact k _ g2
end
end TP
set_option Elab.async false
set_option linter.all false
set_option maxRecDepth 100000
set_option maxHeartbeats 4000000
namespace TP
open PySem PySem.Spec PyProof.Rows L2
theorem stand_eqv {S S' : List (Int × Int)} {c c' : Cfg} (h : Canon c.f S) (h' : Canon c'.f S') : PyData.eqv (standD S c) (standD S' c') = true ↔ c = c' := by
  rw [eqv_iff (n := 3) (m := 3) pl_stand pl_stand]
  constructor
  · intro e
    have e := PyData.tuple.inj e
    have e1 := (List.cons.inj e).1
    have e2 := (List.cons.inj (List.cons.inj e).2).1
    have eS : S = S' := by
      have := PyData.tuple.inj e1
      refine (List.map_inj_right (fun a b e => ?_)).mp this
      have := PyData.tuple.inj e
      have h1 := PyData.int.inj (List.cons.inj this).1
      have h2 := PyData.int.inj (List.cons.inj (List.cons.inj (List.cons.inj this).2).2).1
      exact Prod.ext h1 h2
    have ec := PyData.tuple.inj e2
    have x1 := PyData.int.inj (List.cons.inj ec).1
    have ec2 := (List.cons.inj (List.cons.inj ec).2).2
    have x3 := PyData.int.inj (List.cons.inj ec2).1
    have x4 := PyData.int.inj (List.cons.inj (List.cons.inj ec2).2).1
    have hb : c.b = c'.b := by
      unfold hdg at x3
      revert x3
      cases c.b <;> cases c'.b <;> simp
    have hq : c.q = c'.q := by
      rw [hb] at x4
      unfold sd at x4
      omega
    have hf : c.f = c'.f := h.fn (eS ▸ h')
    cases c
    cases c'
    simp at hf x1 hq hb
    simp [hf, x1, hq, hb]
  · rintro rfl
    rw [h.uniq h']
theorem shaped_stand {S : List (Int × Int)} {c : Cfg} : SeqAt.shaped (standD S c) = true := pl_shaped pl_stand (by decide)
section
variable {P : Program} {w : World} {K : PySem.W.Frag} {mg : Str → Option Value} {base : Heap} {CW CR CS CT CF : Addr} {f : Addr} {fd : FuncData}

/-! ### holds -/
def spHolds : Sp := fun vs H Q _ => ∃ (t fl wk ppv : V) (M : Mach) (S G : Nat) (Sq : List (Int × Int)) (c : Cfg) (pp : Paper), vs = [t, fl, wk, ppv] ∧ St3 H t fl wk M S G Sq c ∧ Sq.length ≤ 1000 ∧ Rp H ppv (paperD pp) ∧ PaperOk M c pp ∧ ∀ H', Same H H' → Q (.bl true) H'
theorem sc_holds : FnScope ["table", "floor", "walker", "paper", "walk", "first"] ["table", "floor", "walker", "paper"] (C8.fnScope (top 54)) := C8.fnScope_by (by decide +kernel)
theorem ok_holds (T : Txt K mg CW CR CS CT CF) (c_behind : Ca P w K mg base 5 "behind" (spBehind CW)) (m_entry : Me P w K mg base 2 CW "entry" (spEntry CW)) (m_stand : Me P w K mg base 2 CW "stand" (spStandM CW)) (m_go : Me P w K mg base 4 CW "go" (spGo CW))
    (k_Round : Ma P w K mg base 4 "Round" CR (spRoundInit CR)) (m_goes_on : Me P w K mg base 3 CR "goes_on" (spGoes CR)) (F : C8.Def K mg "holds" (top 54) f fd) (b : Binds K fd ["table", "floor", "walker", "paper"] []) : Ca P w K mg base 6 "holds" spHolds := by
  refine C8.cal0 F b .nil sc_holds (fun vs H Q E h => ?_) (fun cdv A outer s H vs Q E hr h => ?_)
  · obtain ⟨_, _, _, _, _, _, _, _, _, _, rfl, _⟩ := h; rfl
  · obtain ⟨t, fl, wk, ppv, M, S, G, Sq, c, pp, rfl, st, few, hv, ok, k⟩ := h
    refine ⟨_, (pss_cons (ps_set (i := 4) sc_holds.nd rfl (.inl rfl) (C8.pe_c c_behind hr (by decide) (by rfl) (pa_cons (pv 0) (pa_cons (pv 1) (pa_cons (pv 2) (pa_cons (pe_ix (ix_tupK K) (pv 3) pe_int (fun _ _ => rfl)) pa_nil))))))
      (pss_cons (ps_if (pt_cmpR op_eq (pe_ix (ix_tupK K) (pv 3) pe_int (fun _ _ => rfl)) pe_str (nomark _)) (pss_one (ps_ret (pe_and (pe_cmpR op_eq (pe_fldK K (pv 4)) (pe_ix (ix_tupK K) (pv 3) pe_int (fun _ _ => rfl)) (nomark _)) (pe_one (pe_cmpR op_isN (C8.pe_mt0 m_entry hr (by decide) (pv 4)) pe_non (nomark _)))))) pss_nil)
      (pss_cons (ps_if (pt_cmpR op_lt (pe_fldK K (pv 4)) (pe_ix (ix_tupK K) (pv 3) pe_int (fun _ _ => rfl)) (nomark _)) (pss_one (ps_ret pe_bl)) pss_nil)
      (pss_cons (ps_set (i := 5) sc_holds.nd rfl (.inl rfl) (C8.pe_mt0 m_stand hr (by decide) (pv 4)))
      (pss_cons (ps_if (pt_cmpR op_eq (pe_ix (ix_tupK K) (pv 3) pe_int (fun _ _ => rfl)) pe_str (nomark _)) (pss_one (ps_ret (C8.pe_mt0 m_goes_on hr (by decide) (C8.pe_mk k_Round hr (by decide) (by rfl) (pa_cons (pv 0) (pa_cons (pe_ix (ix_tupK K) (pv 5) pe_int (fun _ _ => rfl)) (pa_cons (pe_ix (ix_tupK K) (pv 5) pe_int (fun _ _ => rfl)) (pa_cons (pe_ix (ix_tupK K) (pv 3) pe_int (fun _ _ => rfl)) pa_nil)))))))) pss_nil)
      (pss_cons (ps_expr (C8.pe_mt m_go hr (by decide) (pv 4) (pa_cons (pe_op op_add (pe_ix (ix_tupK K) (pv 3) pe_int (fun _ _ => rfl)) (pe_ix (ix_tupK K) (pv 3) pe_int (fun _ _ => rfl))) pa_nil)))
      (pss_one (ps_ret (pe_and (pe_cmpR op_eq (pe_fldK K (pv 4)) (pe_op op_add (pe_ix (ix_tupK K) (pv 3) pe_int (fun _ _ => rfl)) (pe_ix (ix_tupK K) (pv 3) pe_int (fun _ _ => rfl))) (nomark _)) (pe_one (pe_cmpR (eqD_K K (hu64 hr)) (C8.pe_mt0 m_stand hr (by decide) (pv 4)) (pv 5) (nomark _)))))))))))), ?_⟩
    cases pp with
    | stops n =>
      obtain ⟨a, x, y, rfl, ha, hx, hy⟩ := Rp.of_two hv
      rw [Rp.of_str hx, Rp.of_int hy] at ha
      obtain ⟨hn, d, hd, hs⟩ := ok
      refine ⟨_, rfl, _, rfl, _, rfl, _, rfl, a, _, _, _, rfl, rfl, SqT.of ha, rfl, ?_⟩
      refine ⟨t, fl, wk, M, S, G, Sq, c, n, rfl, st, by omega, by omega, fun H1 p dd i c' en W s1 hp0 hd0 => ?_⟩
      obtain ⟨rfl, rfl⟩ := en.uniq (Ends.exact hd)
      have ha1 := s1 _ _ ha
      obtain ⟨dx1, t1, pl1, h1, _⟩ := W.ob
      refine ⟨_, rfl, a, _, _, _, rfl, rfl, SqT.of ha1, rfl, rfl, _, rfl, iteD rfl ?_⟩
      refine ⟨_, rfl, p, CW, dx1, _, _, rfl, h1, T.wC, T.wDone, rfl, _, rfl, a, _, _, _, rfl, rfl, SqT.of ha1, rfl, rfl, _, rfl, iteD rfl ?_⟩
      refine ⟨_, rfl, p, dx1, _, rfl, h1, rfl, p, dd, M, S, G, c', i, Sq.length + i, rfl, W, fun v hv2 => ?_⟩
      rw [rl_of_stop hs] at hv2
      rw [Rp.of_none hv2]
      exact ⟨rfl, k _ s1⟩
    | round n m =>
      obtain ⟨a, x, y, z, rfl, ha, hx, hy, hz⟩ := Rp.of_three hv
      rw [Rp.of_str hx, Rp.of_int hy, Rp.of_int hz] at ha
      obtain ⟨hm, hn, d, hd, he⟩ := ok
      refine ⟨_, rfl, _, rfl, _, rfl, _, rfl, a, _, _, _, rfl, rfl, SqT.of ha, rfl, ?_⟩
      refine ⟨t, fl, wk, M, S, G, Sq, c, n, rfl, st, by omega, by omega, fun H1 p dd i c' en W s1 hp0 hd0 => ?_⟩
      obtain ⟨rfl, rfl⟩ := en.uniq (Ends.exact hd)
      have ha1 := s1 _ _ ha
      obtain ⟨dx1, t1, pl1, h1, _⟩ := W.ob
      refine ⟨_, rfl, a, _, _, _, rfl, rfl, SqT.of ha1, rfl, rfl, _, rfl, iteDF (fun e => absurd (V.str.inj e) (by decide)) ?_⟩
      refine ⟨_, rfl, p, CW, dx1, _, _, rfl, h1, T.wC, T.wDone, rfl, _, rfl, a, _, _, _, rfl, rfl, SqT.of ha1, rfl, _, _, rfl, rfl, _, rfl, iteDF (by omega) ?_⟩
      refine ⟨_, rfl, p, dx1, _, rfl, h1, rfl, p, dd, M, S, G, c', i, Sq.length + i, rfl, W, by omega, fun H2 v1 S1 s2 can1 few1 r1 => ?_⟩
      have ha2 := s2 _ _ ha1
      refine ⟨_, rfl, a, _, _, _, rfl, rfl, SqT.of ha2, rfl, rfl, _, rfl, iteDF (fun e => absurd (V.str.inj e) (by decide)) ?_⟩
      refine ⟨_, rfl, p, dx1, _, rfl, s2 _ _ h1, rfl, _, rfl, a, _, _, _, rfl, rfl, SqT.of ha2, rfl, _, rfl, a, _, _, _, rfl, rfl, SqT.of ha2, rfl, _, _, rfl, rfl, ?_⟩
      refine ⟨p, dd, M, S, G, c', i, Sq.length + i, i + m, rfl, W.keep s2, by omega, by omega, fun H3 j c2 en2 W3 b3 => ?_⟩
      have he' : runC M c' m = some c' := by rw [← runC_add M c i m hd]; exact he
      rw [show i + m - i = m by omega] at en2
      obtain ⟨rfl, rfl⟩ := en2.uniq (Ends.exact he')
      have s3 : Same H H3 := fun b o e => b3 b o ((s1.trans s2) b o e) (ne_of_none e hp0) (ne_of_none e hd0)
      have ha3 := s3 _ _ ha
      have r3 := Rp.keep ((W.keep s2).tk b3) r1
      obtain ⟨dx3, t3, pl3, h3, _⟩ := W3.ob
      refine ⟨_, rfl, p, CW, dx3, _, _, rfl, h3, T.wC, T.wDone, rfl, _, rfl, a, _, _, _, rfl, rfl, SqT.of ha3, rfl, _, rfl, a, _, _, _, rfl, rfl, SqT.of ha3, rfl, _, _, rfl, rfl, rfl, _, rfl, iteD rfl ?_⟩
      refine ⟨_, rfl, p, dx3, _, rfl, h3, rfl, p, dd, M, S, G, c2, i + j, Sq.length + i + j, rfl, W3, by omega, fun H4 v2 S2 s4 can2 few2 r2 => ?_⟩
      refine ⟨_, rfl, standD S2 c2, standD S1 c2, Rp.dp r2, Rp.dp (Rp.keep (Same.tk s4) r3), shaped_stand, shaped_stand, ?_⟩
      rw [(stand_eqv can2 can1).mpr rfl]
      exact k _ (s3.trans s4)
    | street n m =>
      obtain ⟨a, x, y, z, rfl, ha, hx, hy, hz⟩ := Rp.of_three hv
      rw [Rp.of_str hx, Rp.of_int hy, Rp.of_int hz] at ha
      obtain ⟨hm, hn, d, e, hd, he, hstr⟩ := ok
      refine ⟨_, rfl, _, rfl, _, rfl, _, rfl, a, _, _, _, rfl, rfl, SqT.of ha, rfl, ?_⟩
      refine ⟨t, fl, wk, M, S, G, Sq, c, n, rfl, st, by omega, by omega, fun H1 p dd i c' en W s1 hp0 hd0 => ?_⟩
      obtain ⟨rfl, rfl⟩ := en.uniq (Ends.exact hd)
      have ha1 := s1 _ _ ha
      obtain ⟨dx1, t1, pl1, h1, _⟩ := W.ob
      refine ⟨_, rfl, a, _, _, _, rfl, rfl, SqT.of ha1, rfl, rfl, _, rfl, iteDF (fun e => absurd (V.str.inj e) (by decide)) ?_⟩
      refine ⟨_, rfl, p, CW, dx1, _, _, rfl, h1, T.wC, T.wDone, rfl, _, rfl, a, _, _, _, rfl, rfl, SqT.of ha1, rfl, _, _, rfl, rfl, _, rfl, iteDF (by omega) ?_⟩
      refine ⟨_, rfl, p, dx1, _, rfl, h1, rfl, p, dd, M, S, G, c', i, Sq.length + i, rfl, W, by omega, fun H2 v1 S1 s2 can1 few1 r1 => ?_⟩
      have ha2 := s2 _ _ ha1
      obtain ⟨sa, fl1, wk1, rfl, hsa, hf1, hw1⟩ := Rp.of_two r1
      refine ⟨_, rfl, a, _, _, _, rfl, rfl, SqT.of ha2, rfl, rfl, _, rfl, iteD rfl ?_⟩
      have rm : runC M c' m = some e := by rw [← runC_add M c i m hd]; exact he
      have st2 : St3 H2 t fl1 wk1 M S G S1 c' := ⟨Rp.keep (Same.tk (s1.trans s2)) st.t, hf1, hw1, st.good, runC_ok st.good st.ok i hd, can1⟩
      refine ⟨_, rfl, _, rfl, sa, _, _, _, rfl, rfl, SqT.of hsa, rfl, _, rfl, sa, _, _, _, rfl, rfl, SqT.of hsa, rfl, _, rfl, a, _, _, _, rfl, rfl, SqT.of ha2, rfl, fun x dx nx ndx nex => ?_⟩
      have s0 : Same H2 (upd (upd H2 dx (.own x)) x (.ins CR dx [])) := fun b o e => by
        rw [upd_ne (ne_of_none e nx), upd_ne (ne_of_none e ndx)]
        exact e
      refine ⟨x, dx, t, fl1, wk1, M, S, G, S1, c', e, m, rfl, upd_same, st2.keep (Same.tk s0), rm, ⟨hm, by omega⟩, by omega, fun H3 R3 k3 => ⟨rfl, ?_⟩⟩
      have s3 : Same H2 H3 := Same.made nx ndx k3
      obtain ⟨dx3, dg, df, dl, dw, ae, am, Sq3, K0, ws, cs, hx3, _⟩ := R3.ob
      refine ⟨x, dx3, _, rfl, hx3, rfl, x, M, S, G, c', e, m, rfl, R3, fun H4 b s4 hb => ?_⟩
      rw [hb.mpr hstr]
      exact k _ (((s1.trans s2).trans s3).trans s4)
end
end TP
set_option Elab.async false
set_option linter.all false
set_option maxRecDepth 100000
set_option maxHeartbeats 4000000
namespace TP
open PySem PySem.Spec PyProof.Rows L2
def FarAt (CS CR : Addr) (M : Mach) (S G : Nat) (H : Hp) (c0 : Cfg) : Paper → V → Prop
  | .street k n, v => ∃ sp d e, v = .ref sp ∧ runC M c0 k = some d ∧ Street M d n e ∧ StreetAt CS CR M S G H sp d e n
  | _, v => v = .non
theorem FarAt.keep {CS CR : Addr} {M : Mach} {S G : Nat} {H H' : Hp} {c0 : Cfg} {pp : Paper} {v : V} (h : FarAt CS CR M S G H c0 pp v) (s : Same H H') : FarAt CS CR M S G H' c0 pp v := by
  cases pp with
  | stops n => exact h
  | round k n => exact h
  | street k n =>
    obtain ⟨sp, d, e, h1, h2, h3, h4⟩ := h
    exact ⟨sp, d, e, h1, h2, h3, h4.keep s⟩
structure TellerAt (CT CS CR : Addr) (M : Mach) (S G : Nat) (H : Hp) (p : Addr) (c0 : Cfg) (pp : Paper) : Prop where
  ok : PaperOk M c0 pp
  ob : ∃ dx t fl wk ppv far Sq, H p = some (.ins CT dx [("table", t), ("ground", fl), ("began", wk), ("paper", ppv), ("far", far)]) ∧ St3 H t fl wk M S G Sq c0 ∧ Rp H ppv (paperD pp) ∧ FarAt CS CR M S G H c0 pp far ∧ Sq.length ≤ 1000
theorem TellerAt.keep {CT CS CR : Addr} {M : Mach} {S G : Nat} {H H' : Hp} {p : Addr} {c0 : Cfg} {pp : Paper} (h : TellerAt CT CS CR M S G H p c0 pp) (s : Same H H') : TellerAt CT CS CR M S G H' p c0 pp := by
  obtain ⟨dx, t, fl, wk, ppv, far, Sq, h1, h2, h3, h4, h5⟩ := h.ob
  exact ⟨h.ok, dx, t, fl, wk, ppv, far, Sq, s _ _ h1, h2.keep (Same.tk s), Rp.keep (Same.tk s) h3, h4.keep s, h5⟩
theorem RoundAt.tkp {CR : Addr} {M : Mach} {S G : Nat} {H : Hp} {p q : Addr} {c cp : Cfg} {n : Nat} {z : Bool} (R : RoundAt CR M S G H p c cp n z) {C dx : Addr} {fs : List (Str × V)} {o' : HO} (hq : H q = some (.ins C dx fs)) (ne : p ≠ q) : RoundAt CR M S G (upd H q o') p c cp n z := by
  obtain ⟨dx3, dg, df, dl, dw, ae, am, Sq3, K0, ws, cs, e1, e2, e3, e4, e5, e6, e7, e8, e9, e10, e11, e12⟩ := R.ob
  have u : ∀ b o, H b = some o → b ≠ q → (upd H q o') b = some o := fun b o h hb => by rw [upd_ne hb]; exact h
  refine ⟨R.good, R.ok, R.run, R.nn, dx3, dg, df, dl, dw, ae, am, Sq3, K0, ws, cs, u _ _ e1 ne, u _ _ e2 (ne_of e2 hq fun z => by cases z), e3, e4, e5, ?_, u _ _ e7 (ne_of e7 hq fun z => by cases z), u _ _ e8 (ne_of e8 hq fun z => by cases z), e9, RpAll.keep (fun b xs h => u _ _ h (ne_of h hq fun z => by cases z)) e10, u _ _ e11 (ne_of e11 hq fun z => by cases z), e12⟩
  cases z with
  | false => exact u _ _ e6 (ne_of (o := .dT (encS (mapE K0 c.f))) e6 hq fun z => by cases z)
  | true =>
    obtain ⟨od, e6⟩ := e6
    exact ⟨od, u _ _ e6 (ne_of e6 hq fun z => by cases z)⟩
section
variable {P : Program} {w : World} {K : PySem.W.Frag} {mg : Str → Option Value} {base : Heap} {CW CR CS CT CF : Addr} {f : Addr} {fd : FuncData}

/-! ### Teller.__init__ -/
def spTellerInit (CT CS CR : Addr) : Sp := fun vs H Q _ => ∃ (p dx : Addr) (t fl wk ppv : V) (M : Mach) (S G : Nat) (Sq : List (Int × Int)) (c : Cfg) (pp : Paper), vs = [.ref p, t, fl, wk, ppv] ∧ H p = some (.ins CT dx []) ∧ St3 H t fl wk M S G Sq c ∧
  Sq.length ≤ 1000 ∧ Rp H ppv (paperD pp) ∧ PaperOk M c pp ∧ ∀ H', TellerAt CT CS CR M S G H' p c pp → FR H H' p → Q .non H'
theorem sc_Teller_init : FnScope ["self", "table", "floor", "walker", "paper", "stand"] ["self", "table", "floor", "walker", "paper"] (C8.fnScope (meth 55 0)) := C8.fnScope_by (by decide +kernel)
theorem ok_Teller (T : Txt K mg CW CR CS CT CF) (c_behind : Ca P w K mg base 5 "behind" (spBehind CW)) (m_stand : Me P w K mg base 2 CW "stand" (spStandM CW)) (k_Street : Ma P w K mg base 6 "Street" CS (spStreetInit CS CR))
    (Mk : Mk K CT f) (hm : mg "Teller" = some (.ref CT)) (F : C8.Fun K "__init__" "Teller.__init__" (meth 55 0) f fd) (b : Binds K fd ["self", "table", "floor", "walker", "paper"] []) :
    Ma P w K mg base 8 "Teller" CT (spTellerInit CT CS CR) := by
  refine C8.mak0 Mk hm F b .nil sc_Teller_init (fun vs H Q E h => ?_) (fun cdv A outer s H vs Q E hr h => ?_)
  · obtain ⟨_, _, _, _, _, _, _, _, _, _, _, _, rfl, _⟩ := h; rfl
  · obtain ⟨p, dx, t, fl, wk, ppv, M, S, G, Sq, c, pp, rfl, hp, st, few, hv, ok, k⟩ := h
    refine ⟨_, (pss_cons (ps_fld (pv 0) (pv 1) rfl)
      (pss_cons (ps_fld (pv 0) (pv 2) rfl)
      (pss_cons (ps_fld (pv 0) (pv 3) rfl)
      (pss_cons (ps_fld (pv 0) (pv 4) rfl)
      (pss_cons (ps_fld (pv 0) pe_non rfl)
      (pss_one (ps_if (pt_cmpR op_eq (pe_ix (ix_tupK K) (pv 4) pe_int (fun _ _ => rfl)) pe_str (nomark _)) (pss_cons (ps_set (i := 5) sc_Teller_init.nd rfl (.inl rfl) (C8.pe_mt0 m_stand hr (by decide) (C8.pe_c c_behind hr (by decide) (by rfl) (pa_cons (pv 1) (pa_cons (pv 2) (pa_cons (pv 3) (pa_cons (pe_ix (ix_tupK K) (pv 4) pe_int (fun _ _ => rfl)) pa_nil)))))))
      (pss_one (ps_fld (pv 0) (C8.pe_mk k_Street hr (by decide) (by rfl) (pa_cons (pv 1) (pa_cons (pe_ix (ix_tupK K) (pv 5) pe_int (fun _ _ => rfl)) (pa_cons (pe_ix (ix_tupK K) (pv 5) pe_int (fun _ _ => rfl)) (pa_cons (pe_ix (ix_tupK K) (pv 4) pe_int (fun _ _ => rfl)) pa_nil))))) rfl))) pss_nil))))))), ?_⟩
    refine ⟨_, rfl, _, rfl, p, CT, dx, _, rfl, hp, T.tC, T.tTable, (by show 0 < 1000; decide), ?_⟩
    refine ⟨_, rfl, _, rfl, p, CT, dx, _, rfl, upd_same, T.tC, T.tGround, (by show 1 < 1000; decide), ?_⟩
    refine ⟨_, rfl, _, rfl, p, CT, dx, _, rfl, upd_same, T.tC, T.tBegan, (by show 2 < 1000; decide), ?_⟩
    refine ⟨_, rfl, _, rfl, p, CT, dx, _, rfl, upd_same, T.tC, T.tPaper, (by show 3 < 1000; decide), ?_⟩
    refine ⟨_, rfl, p, CT, dx, _, rfl, upd_same, T.tC, T.tFar, (by show 4 < 1000; decide), ?_⟩
    generalize hA : upd _ p (.ins CT dx (putF "far" .non (putF "paper" ppv (putF "began" wk (putF "ground" fl (putF "table" t [])))))) = H1
    have hp1 : H1 p = some (.ins CT dx [("table", t), ("ground", fl), ("began", wk), ("paper", ppv), ("far", .non)]) := by rw [← hA]; exact upd_same
    have fr1 : FR H H1 p := fun b o h hb => by rw [← hA, upd_ne hb, upd_ne hb, upd_ne hb, upd_ne hb, upd_ne hb]; exact h
    have tk1 : TK H H1 := fun b xs h => fr1 b _ h (ne_of h hp fun z => by cases z)
    have st1 := st.keep tk1
    have hv1 := Rp.keep tk1 hv
    cases pp with
    | stops n =>
      obtain ⟨a, x, y, rfl, ha, hx, hy⟩ := Rp.of_two hv1
      rw [Rp.of_str hx, Rp.of_int hy] at ha
      refine ⟨_, rfl, a, _, _, _, rfl, rfl, SqT.of ha, rfl, rfl, _, rfl, iteDF (fun e => absurd (V.str.inj e) (by decide)) ?_⟩
      exact k H1 ⟨ok, dx, t, fl, wk, _, _, Sq, hp1, st1, hv1, rfl, few⟩ fr1
    | round n m =>
      obtain ⟨a, x, y, z, rfl, ha, hx, hy, hz⟩ := Rp.of_three hv1
      rw [Rp.of_str hx, Rp.of_int hy, Rp.of_int hz] at ha
      refine ⟨_, rfl, a, _, _, _, rfl, rfl, SqT.of ha, rfl, rfl, _, rfl, iteDF (fun e => absurd (V.str.inj e) (by decide)) ?_⟩
      exact k H1 ⟨ok, dx, t, fl, wk, _, _, Sq, hp1, st1, hv1, rfl, few⟩ fr1
    | street n m =>
      obtain ⟨a, x, y, z, rfl, ha, hx, hy, hz⟩ := Rp.of_three hv1
      rw [Rp.of_str hx, Rp.of_int hy, Rp.of_int hz] at ha
      have ok0 := ok
      obtain ⟨hm1, hn, d, e, hd, he, hstr⟩ := ok
      refine ⟨_, rfl, a, _, _, _, rfl, rfl, SqT.of ha, rfl, rfl, _, rfl, iteD rfl ?_⟩
      refine ⟨_, rfl, _, rfl, _, rfl, _, rfl, a, _, _, _, rfl, rfl, SqT.of ha, rfl, ?_⟩
      refine ⟨t, fl, wk, M, S, G, Sq, c, n, rfl, st1, by omega, by omega, fun H2 q dd i c' en W s1 hp0 hd0 => ?_⟩
      obtain ⟨rfl, rfl⟩ := en.uniq (Ends.exact hd)
      have ha1 := s1 _ _ ha
      obtain ⟨dx1, t1, pl1, h1, _⟩ := W.ob
      refine ⟨q, dx1, _, rfl, h1, rfl, q, dd, M, S, G, c', i, Sq.length + i, rfl, W, by omega, fun H3 v1 S1 s2 can1 few1 r1 => ?_⟩
      have ha2 := s2 _ _ ha1
      obtain ⟨sa, fl1, wk1, rfl, hsa, hf1, hw1⟩ := Rp.of_two r1
      have rm : runC M c' m = some e := by rw [← runC_add M c i m hd]; exact he
      have st2 : St3 H3 t fl1 wk1 M S G S1 c' := ⟨Rp.keep (Same.tk (s1.trans s2)) st1.t, hf1, hw1, st.good, runC_ok st.good st.ok i hd, can1⟩
      refine ⟨_, rfl, _, rfl, sa, _, _, _, rfl, rfl, SqT.of hsa, rfl, _, rfl, sa, _, _, _, rfl, rfl, SqT.of hsa, rfl, _, rfl, a, _, _, _, rfl, rfl, SqT.of ha2, rfl, fun x dx2 nx ndx nex => ?_⟩
      have s0 : Same H3 (upd (upd H3 dx2 (.own x)) x (.ins CS dx2 [])) := fun b o e => by
        rw [upd_ne (ne_of_none e nx), upd_ne (ne_of_none e ndx)]
        exact e
      refine ⟨x, dx2, t, fl1, wk1, M, S, G, S1, c', e, m, rfl, upd_same, st2.keep (Same.tk s0), rm, ⟨hm1, by omega⟩, by omega, fun H4 R4 k4 => ⟨rfl, ?_⟩⟩
      have s3 : Same H3 H4 := Same.made nx ndx k4
      have s4 := (s1.trans s2).trans s3
      have hp4 := s4 _ _ hp1
      have npx : p ≠ x := ne_of_none ((s1.trans s2) _ _ hp1) nx
      refine ⟨_, rfl, p, CT, dx, _, rfl, hp4, T.tC, T.tFar, (by show 5 < 1000; decide), ?_⟩
      obtain ⟨dx5, t5, rp, hx5, R5⟩ := R4.ob
      have nrp : rp ≠ p := by
        obtain ⟨dx3, dg, df, dl, dw, ae, am, Sq3, K0, ws, cs, e1, _⟩ := R5.ob
        exact ne_of e1 hp4 fun z => by
          have := congrArg List.length (HO.ins.inj z).2.2
          cases this
      have u : ∀ b o, H4 b = some o → b ≠ p → (upd H4 p (.ins CT dx (putF "far" (.ref x) [("table", t), ("ground", fl), ("began", wk), ("paper", .ref a), ("far", .non)]))) b = some o := fun b o h hb => by rw [upd_ne hb]; exact h
      have tk4 : TK H1 (upd H4 p (.ins CT dx (putF "far" (.ref x) [("table", t), ("ground", fl), ("began", wk), ("paper", .ref a), ("far", .non)]))) := TK.trans (Same.tk s4) fun b xs h => u _ _ h (ne_of h hp4 fun z => by cases z)
      refine k _ ⟨ok0, dx, t, fl, wk, .ref a, .ref x, Sq, upd_same, st1.keep tk4, Rp.keep tk4 hv1, ⟨x, c', e, rfl, hd, hstr, dx5, t5, rp, u _ _ hx5 npx.symm, R5.tkp hp4 nrp⟩, few⟩ fun b o h hb => u _ _ (s4 _ _ (fr1 b o h hb)) hb

/-! ### Teller.plain, is_far, walker_at -/
def spPlain (CT CS CR CW : Addr) : Sp := fun vs H Q _ => ∃ (p : Addr) (M : Mach) (S G : Nat) (c : Cfg) (pp : Paper) (s : Nat), vs = [.ref p, .int s] ∧ TellerAt CT CS CR M S G H p c pp ∧ s ≤ 1000 ∧
  ∀ H' q d k c' i B, Ends M c s k c' → WalkAt CW M S G H' q d c' i B → Same H H' → Q (.ref q) H'
theorem sc_Teller_plain : FnScope ["self", "step"] ["self", "step"] (C8.fnScope (meth 55 1)) := C8.fnScope_by (by decide +kernel)
theorem ok_plain (T : Txt K mg CW CR CS CT CF) (c_behind : Ca P w K mg base 5 "behind" (spBehind CW)) (me : Meth K CT "plain" f) (F : C8.Fun K "plain" "Teller.plain" (meth 55 1) f fd) (b : Binds K fd ["self", "step"] []) : Me P w K mg base 6 CT "plain" (spPlain CT CS CR CW) := by
  refine C8.met0 T.tC me F b sc_Teller_plain (fun vs H Q E h => ?_) (fun cdv A outer s H vs Q E hr h => ?_)
  · obtain ⟨_, _, _, _, _, _, _, rfl, _⟩ := h; rfl
  · obtain ⟨p, M, S, G, c, pp, sp, rfl, R, hs, k⟩ := h
    obtain ⟨dx, t, fl, wk, ppv, far, Sq, hp, st, hv, hf, few⟩ := R.ob
    have ok := R.ok
    refine ⟨_, (pss_cons (ps_if (pt_cmpR op_eq (pe_ix (ix_tupK K) (pe_fldK K (pv 0)) pe_int (fun _ _ => rfl)) pe_str (nomark _)) (pss_one (ps_ret (C8.pe_c c_behind hr (by decide) (by rfl) (pa_cons (pe_fldK K (pv 0)) (pa_cons (pe_fldK K (pv 0)) (pa_cons (pe_fldK K (pv 0)) (pa_cons (pe_callB (call_min2 rfl) (by rfl) T.min (by decide +kernel) (pa_cons (pv 1) (pa_cons (pe_ix (ix_tupK K) (pe_fldK K (pv 0)) pe_int (fun _ _ => rfl)) pa_nil))) pa_nil))))))) pss_nil)
      (pss_cons (ps_if (PW.pt (pw_and (pt_cmpR op_eq (pe_ix (ix_tupK K) (pe_fldK K (pv 0)) pe_int (fun _ _ => rfl)) pe_str (nomark _)) (pw_and1 (pt_cmpR op_gt (pv 1) (pe_ix (ix_tupK K) (pe_fldK K (pv 0)) pe_int (fun _ _ => rfl)) (nomark _))))) (pss_one (ps_set (i := 1) sc_Teller_plain.nd rfl (.inl rfl) (pe_op op_add (pe_ix (ix_tupK K) (pe_fldK K (pv 0)) pe_int (fun _ _ => rfl)) (pe_op op_mod (pe_op op_sub (pv 1) (pe_ix (ix_tupK K) (pe_fldK K (pv 0)) pe_int (fun _ _ => rfl))) (pe_ix (ix_tupK K) (pe_fldK K (pv 0)) pe_int (fun _ _ => rfl)))))) pss_nil)
      (pss_one (ps_ret (C8.pe_c c_behind hr (by decide) (by rfl) (pa_cons (pe_fldK K (pv 0)) (pa_cons (pe_fldK K (pv 0)) (pa_cons (pe_fldK K (pv 0)) (pa_cons (pv 1) pa_nil))))))))), ?_⟩
    cases pp with
    | stops n =>
      obtain ⟨a, x, y, rfl, ha, hx, hy⟩ := Rp.of_two hv
      rw [Rp.of_str hx, Rp.of_int hy] at ha
      obtain ⟨hn, d, hd, hst⟩ := ok
      refine ⟨_, rfl, p, CT, dx, _, _, rfl, hp, T.tC, T.tPaper, rfl, a, _, _, _, rfl, rfl, SqT.of ha, rfl, rfl, _, rfl, iteD rfl ?_⟩
      refine ⟨_, rfl, p, CT, dx, _, _, rfl, hp, T.tC, T.tTable, rfl, _, rfl, p, CT, dx, _, _, rfl, hp, T.tC, T.tGround, rfl, _, rfl, p, CT, dx, _, _, rfl, hp, T.tC, T.tBegan, rfl, _, rfl, _, rfl, p, CT, dx, _, _, rfl, hp, T.tC, T.tPaper, rfl, a, _, _, _, rfl, rfl, SqT.of ha, rfl, _, _, rfl, ?_⟩
      by_cases hlt : (n : Int) < sp
      · rw [if_pos hlt]
        refine ⟨t, fl, wk, M, S, G, Sq, c, n, rfl, st, by omega, by omega, fun H1 q dd i c' en W s1 _ _ => k H1 q dd i c' i _ ?_ W s1⟩
        obtain ⟨rfl, rfl⟩ := en.uniq (Ends.exact hd)
        exact ⟨by omega, hd, .inr hst⟩
      · rw [if_neg hlt]
        exact ⟨t, fl, wk, M, S, G, Sq, c, sp, rfl, st, by omega, by omega, fun H1 q dd i c' en W s1 _ _ => k H1 q dd i c' i _ en W s1⟩
    | round n m =>
      obtain ⟨a, x, y, z, rfl, ha, hx, hy, hz⟩ := Rp.of_three hv
      rw [Rp.of_str hx, Rp.of_int hy, Rp.of_int hz] at ha
      obtain ⟨hm, hn, d, hd, he⟩ := ok
      refine ⟨_, rfl, p, CT, dx, _, _, rfl, hp, T.tC, T.tPaper, rfl, a, _, _, _, rfl, rfl, SqT.of ha, rfl, rfl, _, rfl, iteDF (fun e => absurd (V.str.inj e) (by decide)) ?_⟩
      refine ⟨_, rfl, p, CT, dx, _, _, rfl, hp, T.tC, T.tPaper, rfl, a, _, _, _, rfl, rfl, SqT.of ha, rfl, rfl, _, rfl, iteD rfl ?_⟩
      refine ⟨_, rfl, _, rfl, p, CT, dx, _, _, rfl, hp, T.tC, T.tPaper, rfl, a, _, _, _, rfl, rfl, SqT.of ha, rfl, _, _, rfl, rfl, _, rfl, ?_⟩
      by_cases hlt : (n : Int) < sp
      · refine iteD hlt ?_
        have hm0 : (0 : Int) < m := by omega
        refine ⟨_, rfl, p, CT, dx, _, _, rfl, hp, T.tC, T.tPaper, rfl, a, _, _, _, rfl, rfl, SqT.of ha, rfl, _, rfl, _, rfl, p, CT, dx, _, _, rfl, hp, T.tC, T.tPaper, rfl, a, _, _, _, rfl, rfl, SqT.of ha, rfl, _, _, rfl, rfl, _, rfl, p, CT, dx, _, _, rfl, hp, T.tC, T.tPaper, rfl, a, _, _, _, rfl, rfl, SqT.of ha, rfl, _, _, rfl, rfl, hm0, _, _, rfl, rfl, ?_⟩
        have hmod : (n : Int) + ((sp : Int) - n) % m = ((n + (sp - n) % m : Nat) : Int) := by
          rw [Int.natCast_add, Int.natCast_emod, Int.natCast_sub (by omega)]
        have hlt2 : (sp - n) % m < m := Nat.mod_lt _ (by omega)
        refine ⟨_, rfl, p, CT, dx, _, _, rfl, hp, T.tC, T.tTable, rfl, _, rfl, p, CT, dx, _, _, rfl, hp, T.tC, T.tGround, rfl, _, rfl, p, CT, dx, _, _, rfl, hp, T.tC, T.tBegan, rfl, _, rfl, t, fl, wk, M, S, G, Sq, c, n + (sp - n) % m, by rw [← hmod]; rfl, st, by omega, by omega, fun H1 q dd i c' en W s1 _ _ => k H1 q dd sp c' i _ ?_ W s1⟩
        have he' : runC M d m = some d := by rw [← runC_add M c n m hd]; exact he
        have hrun : runC M c sp = runC M c (n + (sp - n) % m) := by
          have : runC M c (n + (sp - n)) = runC M d (sp - n) := runC_add M c n _ hd
          rw [show n + (sp - n) = sp by omega] at this
          rw [this, runC_add M c n _ hd, round_told he' rfl]
        obtain ⟨e2, h2⟩ := runC_pre he' ((sp - n) % m) (by omega)
        have h3 : runC M c (n + (sp - n) % m) = some e2 := by rw [runC_add M c n _ hd]; exact h2
        obtain ⟨rfl, rfl⟩ := en.uniq (Ends.exact h3)
        exact Ends.exact (hrun.trans h3)
      · refine iteDF hlt ?_
        exact ⟨_, rfl, p, CT, dx, _, _, rfl, hp, T.tC, T.tTable, rfl, _, rfl, p, CT, dx, _, _, rfl, hp, T.tC, T.tGround, rfl, _, rfl, p, CT, dx, _, _, rfl, hp, T.tC, T.tBegan, rfl, _, rfl, t, fl, wk, M, S, G, Sq, c, sp, rfl, st, by omega, by omega, fun H1 q dd i c' en W s1 _ _ => k H1 q dd i c' i _ en W s1⟩
    | street n m =>
      obtain ⟨a, x, y, z, rfl, ha, hx, hy, hz⟩ := Rp.of_three hv
      rw [Rp.of_str hx, Rp.of_int hy, Rp.of_int hz] at ha
      refine ⟨_, rfl, p, CT, dx, _, _, rfl, hp, T.tC, T.tPaper, rfl, a, _, _, _, rfl, rfl, SqT.of ha, rfl, rfl, _, rfl, iteDF (fun e => absurd (V.str.inj e) (by decide)) ?_⟩
      refine ⟨_, rfl, p, CT, dx, _, _, rfl, hp, T.tC, T.tPaper, rfl, a, _, _, _, rfl, rfl, SqT.of ha, rfl, rfl, _, rfl, iteDF (fun e => absurd (V.str.inj e) (by decide)) (iteF ?_)⟩
      exact ⟨_, rfl, p, CT, dx, _, _, rfl, hp, T.tC, T.tTable, rfl, _, rfl, p, CT, dx, _, _, rfl, hp, T.tC, T.tGround, rfl, _, rfl, p, CT, dx, _, _, rfl, hp, T.tC, T.tBegan, rfl, _, rfl, t, fl, wk, M, S, G, Sq, c, sp, rfl, st, by omega, by omega, fun H1 q dd i c' en W s1 _ _ => k H1 q dd i c' i _ en W s1⟩
end
end TP
set_option Elab.async false
set_option linter.all false
set_option maxRecDepth 100000
set_option maxHeartbeats 4000000
namespace TP
open PySem PySem.Spec PyProof.Rows L2
def farB : Paper → Nat → Bool
  | .street k _, s => decide (k ≤ s)
  | _, _ => false
section
variable {P : Program} {w : World} {K : PySem.W.Frag} {mg : Str → Option Value} {base : Heap} {CW CR CS CT CF : Addr} {f : Addr} {fd : FuncData}

def spIsFar (CT CS CR : Addr) : Sp := fun vs H Q _ => ∃ (p : Addr) (M : Mach) (S G : Nat) (c : Cfg) (pp : Paper) (s : Nat), vs = [.ref p, .int s] ∧ TellerAt CT CS CR M S G H p c pp ∧ Q (.bl (farB pp s)) H
theorem sc_Teller_is_far : FnScope ["self", "step"] ["self", "step"] (C8.fnScope (meth 55 2)) := C8.fnScope_by (by decide +kernel)
theorem ok_is_far (T : Txt K mg CW CR CS CT CF) (me : Meth K CT "is_far" f) (F : C8.Fun K "is_far" "Teller.is_far" (meth 55 2) f fd) (b : Binds K fd ["self", "step"] []) : Me P w K mg base 1 CT "is_far" (spIsFar CT CS CR) := by
  refine C8.met0 T.tC me F b sc_Teller_is_far (fun vs H Q E h => ?_) (fun cdv A outer s H vs Q E hr h => ?_)
  · obtain ⟨_, _, _, _, _, _, _, rfl, _⟩ := h; rfl
  · obtain ⟨p, M, S, G, c, pp, sp, rfl, R, k⟩ := h
    obtain ⟨dx, t, fl, wk, ppv, far, Sq, hp, st, hv, hf, few⟩ := R.ob
    refine ⟨_, (pss_one (ps_ret (pe_and (pe_cmpR op_notN (pe_fldK K (pv 0)) pe_non (nomark _)) (pe_one (pe_cmpR op_ge (pv 1) (pe_ix (ix_tupK K) (pe_fldK K (pv 0)) pe_int (fun _ _ => rfl)) (nomark _)))))), ?_⟩
    cases pp with
    | stops n =>
      have hf : far = .non := hf
      subst hf
      exact ⟨_, rfl, p, CT, dx, _, _, rfl, hp, T.tC, T.tFar, rfl, rfl, _, rfl, iteF k⟩
    | round n m =>
      have hf : far = .non := hf
      subst hf
      exact ⟨_, rfl, p, CT, dx, _, _, rfl, hp, T.tC, T.tFar, rfl, rfl, _, rfl, iteF k⟩
    | street n m =>
      obtain ⟨q, d, e, rfl, _⟩ := hf
      obtain ⟨a, x, y, z, rfl, ha, hx, hy, hz⟩ := Rp.of_three hv
      rw [Rp.of_str hx, Rp.of_int hy, Rp.of_int hz] at ha
      refine ⟨_, rfl, p, CT, dx, _, _, rfl, hp, T.tC, T.tFar, rfl, rfl, _, rfl, iteT ?_⟩
      refine ⟨_, rfl, _, rfl, p, CT, dx, _, _, rfl, hp, T.tC, T.tPaper, rfl, a, _, _, _, rfl, rfl, SqT.of ha, rfl, _, _, rfl, rfl, ?_⟩
      have e : decide ((n : Int) ≤ (sp : Int)) = farB (.street n m) sp := by
        show _ = decide (n ≤ sp)
        rw [decide_eq_decide]
        omega
      show Q (.bl (decide ((n : Int) ≤ (sp : Int)))) H
      rw [e]
      exact k
def spTWalker (CT CS CR : Addr) : Sp := fun vs H Q _ => ∃ (p : Addr) (M : Mach) (S G : Nat) (c : Cfg) (pp : Paper) (s : Nat), vs = [.ref p, .int s] ∧ TellerAt CT CS CR M S G H p c pp ∧ s ≤ 1000 ∧
  ∀ H' r k c', Ends M c s k c' → Same H H' → Rp H' r (walkerD c') → Q r H'
theorem sc_Teller_walker_at : FnScope ["self", "step"] ["self", "step"] (C8.fnScope (meth 55 3)) := C8.fnScope_by (by decide +kernel)
theorem ok_twalker (T : Txt K mg CW CR CS CT CF) (m_is_far : Me P w K mg base 1 CT "is_far" (spIsFar CT CS CR)) (m_plain : Me P w K mg base 6 CT "plain" (spPlain CT CS CR CW)) (m_walker : Me P w K mg base 1 CW "walker" (spWalkerM CW)) (m_swalker : Me P w K mg base 2 CS "walker_at" (spSWalker CS CR))
    (me : Meth K CT "walker_at" f) (F : C8.Fun K "walker_at" "Teller.walker_at" (meth 55 3) f fd) (b : Binds K fd ["self", "step"] []) : Me P w K mg base 7 CT "walker_at" (spTWalker CT CS CR) := by
  refine C8.met0 T.tC me F b sc_Teller_walker_at (fun vs H Q E h => ?_) (fun cdv A outer s H vs Q E hr h => ?_)
  · obtain ⟨_, _, _, _, _, _, _, rfl, _⟩ := h; rfl
  · obtain ⟨p, M, S, G, c, pp, sp, rfl, R, hs, k⟩ := h
    obtain ⟨dx, t, fl, wk, ppv, far, Sq, hp, st, hv, hf, few⟩ := R.ob
    refine ⟨_, (pss_one (ps_ret (pe_ifExp (pt_val (C8.pe_mt m_is_far hr (by decide) (pv 0) (pa_cons (pv 1) pa_nil))) (C8.pe_mt m_swalker hr (by decide) (pe_fldK K (pv 0)) (pa_cons (pe_op op_sub (pv 1) (pe_ix (ix_tupK K) (pe_fldK K (pv 0)) pe_int (fun _ _ => rfl))) pa_nil)) (C8.pe_mt0 m_walker hr (by decide) (C8.pe_mt m_plain hr (by decide) (pv 0) (pa_cons (pv 1) pa_nil)))))), ?_⟩
    refine ⟨_, rfl, p, dx, _, rfl, hp, rfl, _, rfl, p, M, S, G, c, pp, sp, rfl, R, _, rfl, ?_⟩
    cases hfar : farB pp sp with
    | false =>
      refine iteF ?_
      refine ⟨_, rfl, p, dx, _, rfl, hp, rfl, _, rfl, p, M, S, G, c, pp, sp, rfl, R, hs, fun H1 q d kk c' i B en W s1 => ?_⟩
      obtain ⟨dx1, t1, pl1, h1, _⟩ := W.ob
      refine ⟨q, dx1, _, rfl, h1, rfl, q, d, M, S, G, c', i, B, rfl, W, fun H2 v2 s2 r2 => ?_⟩
      exact k H2 v2 kk c' en (s1.trans s2) r2
    | true =>
      refine iteT ?_
      cases pp with
      | stops n => cases hfar
      | round n m => cases hfar
      | street n m =>
        have hle : n ≤ sp := of_decide_eq_true hfar
        obtain ⟨q, d, e, rfl, hd, hstr, SA⟩ := hf
        obtain ⟨dx5, t5, rp, hq5, R5⟩ := SA.ob
        obtain ⟨a, x, y, z, rfl, ha, hx, hy, hz⟩ := Rp.of_three hv
        rw [Rp.of_str hx, Rp.of_int hy, Rp.of_int hz] at ha
        have nn := R5.nn
        refine ⟨_, rfl, p, CT, dx, _, _, rfl, hp, T.tC, T.tFar, rfl, q, dx5, _, rfl, hq5, rfl, _, rfl, _, rfl, p, CT, dx, _, _, rfl, hp, T.tC, T.tPaper, rfl, a, _, _, _, rfl, rfl, SqT.of ha, rfl, _, _, rfl, rfl, ?_⟩
        have hsub : (sp : Int) - (n : Int) = ((sp - n : Nat) : Int) := by omega
        refine ⟨q, M, S, G, d, e, m, sp - n, by rw [← hsub]; rfl, SA, by omega, fun H1 r ci s1 hci hr => ?_⟩
        obtain ⟨d', h1, h2, h3, h4⟩ := hstr.told ((sp - n) / m) ((sp - n) % m) (Nat.le_of_lt (Nat.mod_lt _ (by omega))) hci
        have hrun : runC M c sp = some d' := by
          rw [← Nat.mul_comm m, Nat.div_add_mod] at h1
          have := runC_add M c n (sp - n) hd
          rw [show n + (sp - n) = sp by omega] at this
          rw [this]
          exact h1
        refine k H1 r sp d' (Ends.exact hrun) s1 ?_
        unfold walkerD
        rw [h2, h3, h4]
        exact hr
/-! ### need_teller, walker_at -/
def spNeedT (CT CS CR : Addr) : Sp := fun vs H Q _ => ∃ (t fl wk ppv : V) (M : Mach) (S G : Nat) (Sq : List (Int × Int)) (c : Cfg) (pp : Paper) (s : Nat), vs = [t, fl, wk, ppv, .int s] ∧ St3 H t fl wk M S G Sq c ∧ FloorOk Sq G ∧ Far c.x ∧ Sq.length ≤ 1000 ∧ Rp H ppv (paperD pp) ∧ PaperOk M c pp ∧ s ≤ 1000 ∧
  ∀ H' q, TellerAt CT CS CR M S G H' q c pp → Same H H' → Q (.ref q) H'
theorem sc_need_teller : FnScope ["table", "floor", "walker", "paper", "step"] ["table", "floor", "walker", "paper", "step"] (C8.fnScope (top 56)) := C8.fnScope_by (by decide +kernel)
theorem ok_need_teller (T : Txt K mg CW CR CS CT CF) (c_need_stand : Ca P w K mg base 5 "need_stand" spStand) (c_is_in : Ca P w K mg base 1 "is_in" spIsIn) (c_is_paper_shape : Ca P w K mg base 2 "is_paper_shape" spShape) (c_holds : Ca P w K mg base 6 "holds" spHolds) (k_Teller : Ma P w K mg base 8 "Teller" CT (spTellerInit CT CS CR))
    (F : C8.Def K mg "need_teller" (top 56) f fd) (b : Binds K fd ["table", "floor", "walker", "paper", "step"] []) : Ca P w K mg base 10 "need_teller" (spNeedT CT CS CR) := by
  refine C8.cal0 F b .nil sc_need_teller (fun vs H Q E h => ?_) (fun cdv A outer s H vs Q E hr h => ?_)
  · obtain ⟨_, _, _, _, _, _, _, _, _, _, _, rfl, _⟩ := h; rfl
  · obtain ⟨t, fl, wk, ppv, M, S, G, Sq, c, pp, sp, rfl, a, fok, fx, few, hv, ok, hs, k⟩ := h
    refine ⟨_, (pss_cons (ps_expr (C8.pe_c c_need_stand hr (by decide) (by rfl) (pa_cons (pv 0) (pa_cons (pv 1) (pa_cons (pv 2) pa_nil)))))
      (pss_cons (ps_if (PW.pt (pw_or (pt_not (pt_val (C8.pe_c c_is_paper_shape hr (by decide) (by rfl) (pa_cons (pv 3) pa_nil)))) (pw_or1 (pt_not (pt_val (C8.pe_c c_holds hr (by decide) (by rfl) (pa_cons (pv 0) (pa_cons (pv 1) (pa_cons (pv 2) (pa_cons (pv 3) pa_nil)))))))))) (pss_one ps_never) pss_nil)
      (pss_cons (ps_if (pt_not (pt_val (C8.pe_c c_is_in hr (by decide) (by rfl) (pa_cons (pv 4) (pa_cons pe_int (pa_cons (C8.pe_gc (by rfl) T.cFar) pa_nil)))))) (pss_one ps_never) pss_nil)
      (pss_one (ps_ret (C8.pe_mk k_Teller hr (by decide) (by rfl) (pa_cons (pv 0) (pa_cons (pv 1) (pa_cons (pv 2) (pa_cons (pv 3) pa_nil)))))))))), ?_⟩
    refine ⟨_, rfl, _, rfl, _, rfl, t, fl, wk, _, 2 * S, G, Sq, c.x, 0, hdg c.b, sd c.q c.b, rfl, a.t, a.good.tok, a.f, fok, a.w, wk_ok (M := M) a.ok fx, fun H1 s1 => ?_⟩
    refine ⟨_, rfl, ppv, pp, M, c, rfl, Rp.keep (Same.tk s1) hv, ok, fun H2 s2 => ⟨_, rfl, iteF ?_⟩⟩
    have s12 := s1.trans s2
    refine ⟨_, rfl, _, rfl, _, rfl, _, rfl, t, fl, wk, ppv, M, S, G, Sq, c, pp, rfl, a.keep (Same.tk s12), few, Rp.keep (Same.tk s12) hv, ok, fun H3 s3 => ⟨_, rfl, iteF ?_⟩⟩
    have s13 := s12.trans s3
    refine ⟨_, rfl, _, _, _, rfl, _, rfl, iteND (by omega) ?_⟩
    refine ⟨_, rfl, _, rfl, _, rfl, _, rfl, fun x dx nx ndx nex => ?_⟩
    have s0 : Same H3 (upd (upd H3 dx (.own x)) x (.ins CT dx [])) := fun b o e => by
      rw [upd_ne (ne_of_none e nx), upd_ne (ne_of_none e ndx)]
      exact e
    have s14 := s13.trans s0
    refine ⟨x, dx, t, fl, wk, ppv, M, S, G, Sq, c, pp, rfl, upd_same, a.keep (Same.tk s14), few, Rp.keep (Same.tk s14) hv, ok, fun H4 R4 k4 => ⟨rfl, ?_⟩⟩
    exact k H4 x R4 (s13.trans (Same.made nx ndx k4))
def spWalkerAt : Sp := fun vs H Q _ => ∃ (t fl wk ppv : V) (M : Mach) (S G : Nat) (Sq : List (Int × Int)) (c : Cfg) (pp : Paper) (s : Nat), vs = [t, fl, wk, ppv, .int s] ∧ St3 H t fl wk M S G Sq c ∧ FloorOk Sq G ∧ Far c.x ∧ Sq.length ≤ 1000 ∧ Rp H ppv (paperD pp) ∧ PaperOk M c pp ∧ s ≤ 1000 ∧
  ∀ H' r k c', Ends M c s k c' → Same H H' → Rp H' r (walkerD c') → Q r H'
theorem sc_walker_at : FnScope ["table", "floor", "walker", "paper", "step"] ["table", "floor", "walker", "paper", "step"] (C8.fnScope (top 57)) := C8.fnScope_by (by decide +kernel)
theorem ok_walker_at (T : Txt K mg CW CR CS CT CF) (c_need_teller : Ca P w K mg base 10 "need_teller" (spNeedT CT CS CR)) (m_twalker : Me P w K mg base 7 CT "walker_at" (spTWalker CT CS CR))
    (F : C8.Def K mg "walker_at" (top 57) f fd) (b : Binds K fd ["table", "floor", "walker", "paper", "step"] []) : Ca P w K mg base 11 "walker_at" spWalkerAt := by
  refine C8.cal0 F b .nil sc_walker_at (fun vs H Q E h => ?_) (fun cdv A outer s H vs Q E hr h => ?_)
  · obtain ⟨_, _, _, _, _, _, _, _, _, _, _, rfl, _⟩ := h; rfl
  · obtain ⟨t, fl, wk, ppv, M, S, G, Sq, c, pp, sp, rfl, a, fok, fx, few, hv, ok, hs, k⟩ := h
    refine ⟨_, (pss_one (ps_ret (C8.pe_mt m_twalker hr (by decide) (C8.pe_c c_need_teller hr (by decide) (by rfl) (pa_cons (pv 0) (pa_cons (pv 1) (pa_cons (pv 2) (pa_cons (pv 3) (pa_cons (pv 4) pa_nil)))))) (pa_cons (pv 4) pa_nil)))), ?_⟩
    refine ⟨_, rfl, _, rfl, _, rfl, _, rfl, _, rfl, t, fl, wk, ppv, M, S, G, Sq, c, pp, sp, rfl, a, fok, fx, few, hv, ok, hs, fun H1 q R1 s1 => ?_⟩
    obtain ⟨dx, t1, fl1, wk1, ppv1, far1, Sq1, h1, _⟩ := R1.ob
    refine ⟨q, dx, _, rfl, h1, rfl, _, rfl, q, M, S, G, c, pp, sp, rfl, R1, hs, fun H2 r kk c' en s2 hr2 => ?_⟩
    exact k H2 r kk c' en (s1.trans s2) hr2
end
end TP
set_option Elab.async false
set_option linter.all false
set_option maxRecDepth 100000
set_option maxHeartbeats 4000000
namespace TP
open PySem PySem.Spec PyProof.Rows L2
def ff (t fl wk : V) (wp rd : Addr) (kv : V) (ka : Int) : List (Str × V) := [("table", t), ("ground", fl), ("began", wk), ("walk", .ref wp), ("read", .ref rd), ("kept", kv), ("kept_at", .int ka)]
/-- a Finder stands at p, n steps walked; all since H0 -/
structure FinderAt (CF CW : Addr) (M : Mach) (S G : Nat) (H0 H : Hp) (p : Addr) (c0 : Cfg) (n : Nat) : Prop where
  same : Same H0 H
  few : n ≤ 600
  ob : ∃ (dx : Addr) (t fl wk : V) (wp wd rd : Addr) (kv : V) (ka : Nat) (Sq : List (Int × Int)) (ci : Cfg) (Sk : List (Int × Int)) (ck : Cfg) (rs : List V) (ts : List (List Int)), H p = some (.ins CF dx (ff t fl wk wp rd kv (ka : Nat))) ∧ St3 H t fl wk M S G Sq c0 ∧ Sq.length ≤ 400 ∧ WalkAt CW M S G H wp wd ci n (Sq.length + n) ∧ runC M c0 n = some ci ∧
    Rp H kv (standD Sk ck) ∧ Canon ck.f Sk ∧ runC M c0 ka = some ck ∧ ka ≤ n ∧ H rd = some (.lst rs) ∧ RpAll H rs (ts.map itD) ∧ ts.length = n ∧ H0 p = none ∧ H0 wp = none ∧ H0 wd = none ∧ H0 rd = none
theorem FinderAt.keep {CF CW : Addr} {M : Mach} {S G : Nat} {H0 H H' : Hp} {p : Addr} {c0 : Cfg} {n : Nat} (F : FinderAt CF CW M S G H0 H p c0 n) (s : Same H H') : FinderAt CF CW M S G H0 H' p c0 n := by
  obtain ⟨dx, t, fl, wk, wp, wd, rd, kv, ka, Sq, ci, Sk, ck, rs, ts, h1, h2, h3, h4, h5, h6, h7, h8, h9, h10, h11, h12, h13⟩ := F.ob
  exact ⟨F.same.trans s, F.few, dx, t, fl, wk, wp, wd, rd, kv, ka, Sq, ci, Sk, ck, rs, ts, s _ _ h1, h2.keep (Same.tk s), h3, h4.keep s, h5, Rp.keep (Same.tk s) h6, h7, h8, h9, s _ _ h10, RpAll.keep (Same.tk s) h11, h12, h13⟩
section
variable {P : Program} {w : World} {K : PySem.W.Frag} {mg : Str → Option Value} {base : Heap} {CW CR CS CT CF : Addr} {f : Addr} {fd : FuncData}

/-! ### Finder.__init__ -/
def spFinderInit (CF CW : Addr) : Sp := fun vs H Q _ => ∃ (p dx : Addr) (t fl wk : V) (M : Mach) (S G : Nat) (Sq : List (Int × Int)) (c : Cfg) (H0 : Hp), vs = [.ref p, t, fl, wk] ∧ H p = some (.ins CF dx []) ∧ St3 H t fl wk M S G Sq c ∧ Sq.length ≤ 400 ∧ H0 p = none ∧ Same H0 H ∧
  ∀ H', FinderAt CF CW M S G H0 H' p c 0 → Q .non H'
theorem sc_Finder_init : FnScope ["self", "table", "floor", "walker"] ["self", "table", "floor", "walker"] (C8.fnScope (meth 61 0)) := C8.fnScope_by (by decide +kernel)
theorem ok_Finder (T : Txt K mg CW CR CS CT CF) (k_Walk : Ma P w K mg base 2 "Walk" CW (spWalkInit CW)) (m_stand : Me P w K mg base 2 CW "stand" (spStandM CW))
    (Mk : Mk K CF f) (hm : mg "Finder" = some (.ref CF)) (F : C8.Fun K "__init__" "Finder.__init__" (meth 61 0) f fd) (b : Binds K fd ["self", "table", "floor", "walker"] []) :
    Ma P w K mg base 4 "Finder" CF (spFinderInit CF CW) := by
  refine C8.mak0 Mk hm F b .nil sc_Finder_init (fun vs H Q E h => ?_) (fun cdv A outer s H vs Q E hr h => ?_)
  · obtain ⟨_, _, _, _, _, _, _, _, _, _, _, rfl, _⟩ := h; rfl
  · obtain ⟨p, dx, t, fl, wk, M, S, G, Sq, c, H0, rfl, hp, st, few, hp0, s0, k⟩ := h
    refine ⟨_, (pss_cons (ps_fld (pv 0) (pv 1) rfl)
      (pss_cons (ps_fld (pv 0) (pv 2) rfl)
      (pss_cons (ps_fld (pv 0) (pv 3) rfl)
      (pss_cons (ps_fld (pv 0) (C8.pe_mk k_Walk hr (by decide) (by rfl) (pa_cons (pv 1) (pa_cons (pv 2) (pa_cons (pv 3) pa_nil)))) rfl)
      (pss_cons (ps_fld (pv 0) (pe_lst pa_nil) rfl)
      (pss_cons (ps_fld (pv 0) (C8.pe_mt0 m_stand hr (by decide) (pe_fldK K (pv 0))) rfl)
      (pss_one (ps_fld (pv 0) pe_int rfl)))))))), ?_⟩
    refine ⟨_, rfl, _, rfl, p, CF, dx, _, rfl, hp, T.fC, T.fTable, (by show 0 < 1000; decide), ?_⟩
    refine ⟨_, rfl, _, rfl, p, CF, dx, _, rfl, upd_same, T.fC, T.fGround, (by show 1 < 1000; decide), ?_⟩
    refine ⟨_, rfl, _, rfl, p, CF, dx, _, rfl, upd_same, T.fC, T.fBegan, (by show 2 < 1000; decide), ?_⟩
    generalize hA : upd _ p (.ins CF dx (putF "began" wk (putF "ground" fl (putF "table" t [])))) = H1
    have hp1 : H1 p = some (.ins CF dx [("table", t), ("ground", fl), ("began", wk)]) := by rw [← hA]; exact upd_same
    have fr1 : FR H H1 p := fun b o h hb => by rw [← hA, upd_ne hb, upd_ne hb, upd_ne hb]; exact h
    have tk1 : TK H H1 := fun b xs h => fr1 b _ h (ne_of h hp fun z => by cases z)
    have st1 := st.keep tk1
    refine ⟨_, rfl, _, rfl, _, rfl, fun x dx2 nx ndx nex => ?_⟩
    have sA : Same H1 (upd (upd H1 dx2 (.own x)) x (.ins CW dx2 [])) := fun b o e => by
      rw [upd_ne (ne_of_none e nx), upd_ne (ne_of_none e ndx)]
      exact e
    have st2 := st1.keep (Same.tk sA)
    refine ⟨x, dx2, t, fl, wk, M, S, G, Sq, c, rfl, upd_same, st2.t, st2.f, st2.w, st.good, st.ok, st.can, by omega, fun H2 d W2 nd k2 => ⟨rfl, ?_⟩⟩
    have s2 : Same H1 H2 := Same.made nx ndx k2
    have nd0 : H1 d = none := sA.free nd
    have hp2 := s2 _ _ hp1
    have npx : p ≠ x := ne_of_none hp1 nx
    have npd : p ≠ d := ne_of_none hp1 nd0
    refine ⟨_, rfl, p, CF, dx, _, rfl, hp2, T.fC, T.fWalk, (by show 3 < 1000; decide), ?_⟩
    generalize hA : upd H2 p (.ins CF dx (putF "walk" (.ref x) [("table", t), ("ground", fl), ("began", wk)])) = H3
    have hp3 : H3 p = some (.ins CF dx [("table", t), ("ground", fl), ("began", wk), ("walk", .ref x)]) := by rw [← hA]; exact upd_same
    have W3 : WalkAt CW M S G H3 x d c 0 Sq.length := by rw [← hA]; exact W2.put hp2 (fun xs z => by cases z) npx npd
    have sB : Same H0 H1 := fun b o h => fr1 b o (s0 b o h) (ne_of_none h hp0)
    have sC : Same H0 H3 := fun b o h => by rw [← hA, upd_ne (ne_of_none h hp0)]; exact s2 _ _ (sB _ _ h)
    have tk3 : TK H1 H3 := fun b xs h => by rw [← hA, upd_ne (ne_of h hp1 fun z => by cases z)]; exact s2 _ _ h
    refine ⟨Nat.zero_le _, fun rd nrd => ?_⟩
    have npr : p ≠ rd := ne_of_none hp3 nrd
    have g4 := Same.new (o := .lst []) nrd
    have hp4 := g4 _ _ hp3
    have W4 := W3.keep g4
    refine ⟨_, rfl, p, CF, dx, _, rfl, hp4, T.fC, T.fRead, (by show 4 < 1000; decide), ?_⟩
    generalize hB : upd (upd H3 rd (.lst [])) p (.ins CF dx (putF "read" (.ref rd) [("table", t), ("ground", fl), ("began", wk), ("walk", .ref x)])) = H5
    have hp5 : H5 p = some (.ins CF dx [("table", t), ("ground", fl), ("began", wk), ("walk", .ref x), ("read", .ref rd)]) := by rw [← hB]; exact upd_same
    have W5 : WalkAt CW M S G H5 x d c 0 Sq.length := by rw [← hB]; exact W4.put hp4 (fun xs z => by cases z) npx npd
    have sD : Same H0 H5 := fun b o h => by rw [← hB, upd_ne (ne_of_none h hp0)]; exact g4 _ _ (sC _ _ h)
    have tk5 : TK H1 H5 := fun b xs h => by rw [← hB, upd_ne (ne_of h hp1 fun z => by cases z)]; exact g4 _ _ (tk3 _ _ h)
    have hr5 : H5 rd = some (.lst []) := by rw [← hB, upd_ne npr.symm]; exact upd_same
    obtain ⟨dx1, t1, pl1, h1, _⟩ := W5.ob
    refine ⟨_, rfl, p, CF, dx, _, _, rfl, hp5, T.fC, T.fWalk, rfl, x, dx1, _, rfl, h1, rfl, x, d, M, S, G, c, 0, Sq.length, rfl, W5, by omega, fun H6 v6 S6 s6 can6 few6 r6 => ?_⟩
    have hp6 := s6 _ _ hp5
    refine ⟨_, rfl, p, CF, dx, _, rfl, hp6, T.fC, T.fKept, (by show 5 < 1000; decide), ?_⟩
    generalize hC : upd H6 p (.ins CF dx (putF "kept" v6 [("table", t), ("ground", fl), ("began", wk), ("walk", .ref x), ("read", .ref rd)])) = H7
    have hp7 : H7 p = some (.ins CF dx [("table", t), ("ground", fl), ("began", wk), ("walk", .ref x), ("read", .ref rd), ("kept", v6)]) := by rw [← hC]; exact upd_same
    refine ⟨_, rfl, p, CF, dx, _, rfl, hp7, T.fC, T.fKeptAt, (by show 6 < 1000; decide), ?_⟩
    have W7 : WalkAt CW M S G H7 x d c 0 Sq.length := by rw [← hC]; exact (W5.keep s6).put hp6 (fun xs z => by cases z) npx npd
    have u7 : ∀ b o, H6 b = some o → b ≠ p → H7 b = some o := fun b o h hb => by rw [← hC, upd_ne hb]; exact h
    have tkp : TK H6 (upd H7 p (.ins CF dx (putF "kept_at" (.int 0) [("table", t), ("ground", fl), ("began", wk), ("walk", .ref x), ("read", .ref rd), ("kept", v6)]))) := fun b xs h => by
      have : b ≠ p := ne_of h hp6 fun z => by cases z
      rw [upd_ne this]
      exact u7 _ _ h this
    refine k _ ⟨fun b o h => ?_, by omega, dx, t, fl, wk, x, d, rd, v6, 0, Sq, c, S6, c, [], [], upd_same, st1.keep (TK.trans tk5 (TK.trans (Same.tk s6) tkp)), few, W7.put hp7 (fun xs z => by cases z) npx npd, rfl, Rp.keep tkp r6, can6, rfl, Nat.le_refl _, ?_, .nil, rfl, hp0, sB.free nx, sB.free nd0, sC.free nrd⟩
    · have := ne_of_none h hp0
      rw [upd_ne this]
      exact u7 _ _ (s6 _ _ (sD _ _ h)) this
    · rw [upd_ne npr.symm]
      exact u7 _ _ (s6 _ _ hr5) npr.symm
end
end TP
set_option Elab.async false
set_option linter.all false
set_option maxRecDepth 100000
set_option maxHeartbeats 4000000
namespace TP
open PySem PySem.Spec PyProof.Rows L2
theorem St3.upd {H : Hp} {t fl wk : V} {M : Mach} {S G : Nat} {Sq : List (Int × Int)} {c : Cfg} (a : St3 H t fl wk M S G Sq c) {H' : Hp} (k : TK H H') : St3 H' t fl wk M S G Sq c := a.keep k
section
variable {P : Program} {w : World} {K : PySem.W.Frag} {mg : Str → Option Value} {base : Heap} {CW CR CS CT CF : Addr} {f : Addr} {fd : FuncData}

/-! ### Finder.go_on -/
def spGoOn (CF CW : Addr) : Sp := fun vs H Q _ => ∃ (p : Addr) (M : Mach) (S G : Nat) (H0 : Hp) (c : Cfg) (n many : Nat), vs = [.ref p, .int many] ∧ FinderAt CF CW M S G H0 H p c n ∧ n ≤ many ∧ many ≤ 600 ∧
  (∀ H', FinderAt CF CW M S G H0 H' p c many → Q .non H') ∧ ∀ H' r pp, Same H0 H' → Rp H' r (paperD pp) → PaperOk M c pp → Q r H'
theorem sc_Finder_go_on : FnScope ["self", "many", "period"] ["self", "many"] (C8.fnScope (meth 61 1)) := C8.fnScope_by (by decide +kernel)
theorem ok_go_on (T : Txt K mg CW CR CS CT CF) (m_entry : Me P w K mg base 2 CW "entry" (spEntry CW)) (m_colour : Me P w K mg base 1 CW "colour" (spColour CW)) (m_go : Me P w K mg base 4 CW "go" (spGo CW)) (m_walker : Me P w K mg base 1 CW "walker" (spWalkerM CW)) (m_stand : Me P w K mg base 2 CW "stand" (spStandM CW))
    (me : Meth K CF "go_on" f) (F : C8.Fun K "go_on" "Finder.go_on" (meth 61 1) f fd) (b : Binds K fd ["self", "many"] []) : Me P w K mg base 5 CF "go_on" (spGoOn CF CW) := by
  refine C8.met0 T.fC me F b sc_Finder_go_on (fun vs H Q E h => ?_) (fun cdv A outer s H vs Q E hr h => ?_)
  · obtain ⟨_, _, _, _, _, _, _, _, rfl, _⟩ := h; rfl
  · obtain ⟨p, M, S, G, H0, c, n, many, rfl, R, hn, hm, kN, kP⟩ := h
    refine ⟨_, (C8.pss_cut (ps_while PassesOwn.never (pt_cmpR op_lt (pe_fldK K (pe_fldK K (pv 0))) (pv 1) (nomark _)) (pss_cons (ps_if (pt_cmpR op_isN (C8.pe_mt0 m_entry hr (by decide) (pe_fldK K (pv 0))) pe_non (nomark _)) (pss_one (ps_ret (pe_tup (pa_cons pe_str (pa_cons (pe_fldK K (pe_fldK K (pv 0))) pa_nil))))) pss_nil)
      (pss_cons (ps_expr (pe_bm PySem.F.plainAttrs_list PySem.F.slot_list_append PySem.F.type_list_append mt_append (pe_fldK K (pv 0)) (pa_cons (pe_tup (pa_cons (pe_fldK K (pe_fldK K (pv 0))) (pa_cons (pe_fldK K (pe_fldK K (pv 0))) (pa_cons (C8.pe_mt0 m_colour hr (by decide) (pe_fldK K (pv 0))) pa_nil)))) pa_nil)))
      (pss_cons (ps_expr (C8.pe_mt m_go hr (by decide) (pe_fldK K (pv 0)) (pa_cons (pe_op op_add (pe_fldK K (pe_fldK K (pv 0))) pe_int) pa_nil)))
      (pss_one (ps_if (PW.pt (pw_and (pt_cmpR (eqD_K K (hu64 hr)) (C8.pe_mt0 m_walker hr (by decide) (pe_fldK K (pv 0))) (pe_ix (ix_tupK K) (pe_fldK K (pv 0)) pe_int (fun _ _ => rfl)) (nomark _)) (pw_and1 (pt_cmpR (eqD_K K (hu64 hr)) (C8.pe_mt0 m_stand hr (by decide) (pe_fldK K (pv 0))) (pe_fldK K (pv 0)) (nomark _))))) (pss_cons (ps_set (i := 2) sc_Finder_go_on.nd rfl (.inl rfl) (pe_op op_sub (pe_fldK K (pe_fldK K (pv 0))) (pe_fldK K (pv 0))))
      (pss_one (ps_ret (pe_ifExp (pt_cmpR op_le (pv 2) (C8.pe_gc (by rfl) T.cRound) (nomark _)) (pe_tup (pa_cons pe_str (pa_cons (pe_fldK K (pv 0)) (pa_cons (pv 2) pa_nil)))) pe_non)))) pss_nil))))))
      (pss_one (ps_ret (pe_ifExp (pt_cmpR op_isN (C8.pe_mt0 m_entry hr (by decide) (pe_fldK K (pv 0))) pe_non (nomark _)) (pe_tup (pa_cons pe_str (pa_cons (pe_fldK K (pe_fldK K (pv 0))) pa_nil))) pe_non)))), ?_⟩
    refine ⟨fun σ H' => (∃ o2, σ = [some (.ref p), some (.int (many : Nat)), o2]) ∧ FinderAt CF CW M S G H0 H' p c many, ?_, ?_⟩
    · refine ⟨fun m σ H' => (∃ o2, σ = [some (.ref p), some (.int (many : Nat)), o2]) ∧ ∃ i, i ≤ many ∧ m = many - i ∧ FinderAt CF CW M S G H0 H' p c i, ⟨_, ⟨_, rfl⟩, n, hn, rfl, R⟩, ?_⟩
      rintro m σ H1 ⟨⟨o2, rfl⟩, i, hi, rfl, R1⟩
      have same := R1.same
      obtain ⟨dx, t, fl, wk, wp, wd, rd, kv, ka, Sq, ci, Sk, ck, rs, ts, hp, st, few, W, run, hkv, can, hk, hka, hrd, hrs, hts, fp, fw, fwd, frd⟩ := R1.ob
      obtain ⟨dx1, t1, pl1, h1, hpl, ht1⟩ := W.ob
      refine ⟨_, rfl, p, CF, dx, _, _, rfl, hp, T.fC, T.fWalk, rfl, wp, CW, dx1, _, _, rfl, h1, T.wC, T.wDone, rfl, _, rfl, _, _, rfl, rfl, _, rfl, ?_⟩
      by_cases hlt : i < many
      case neg =>
        have e : i = many := by omega
        subst e
        exact iteDF (by omega) ⟨⟨_, rfl⟩, R1⟩
      refine iteD (by omega) ?_
      refine ⟨fun σ' H' => (∃ o2, σ' = [some (.ref p), some (.int (many : Nat)), o2]) ∧ FinderAt CF CW M S G H0 H' p c (i + 1), fun σ' H' ⟨h1, h2⟩ => ⟨many - (i + 1), by omega, h1, i + 1, by omega, rfl, h2⟩, ?_⟩
      refine ⟨_, rfl, p, CF, dx, _, _, rfl, hp, T.fC, T.fWalk, rfl, wp, dx1, _, rfl, h1, rfl, wp, wd, M, S, G, ci, i, Sq.length + i, rfl, W, fun v hv => ?_⟩
      cases hst : stepC M ci with
      | none =>
        rw [rl_of_stop hst] at hv
        rw [Rp.of_none hv]
        refine ⟨rfl, _, rfl, iteT ?_⟩
        refine ⟨_, rfl, p, CF, dx, _, _, rfl, hp, T.fC, T.fWalk, rfl, wp, CW, dx1, _, _, rfl, h1, T.wC, T.wDone, rfl, by show 2 ≤ sizeLine; decide, fun q hq => ?_⟩
        have g := Same.new (o := .tup [V.str "stops", V.int (i : Nat)]) hq
        exact kP _ _ (.stops i) (same.trans g) (.tup upd_same (.cons (.str _) (.cons (.int _) .nil))) ⟨by omega, ci, run, hst⟩
      | some c2 =>
        obtain ⟨wr, mv, q', hrl, hc2⟩ := rl_of_step hst
        rw [hrl] at hv
        obtain ⟨e, rfl, he⟩ := Rp.of_its hv
        refine ⟨rfl, _, rfl, iteF ?_⟩
        refine ⟨_, rfl, p, CF, dx, _, _, rfl, hp, T.fC, T.fRead, rfl, .inl ⟨rfl, _, SqL.of hrd⟩, ?_⟩
        refine ⟨_, rfl, p, CF, dx, _, _, rfl, hp, T.fC, T.fWalk, rfl, wp, CW, dx1, _, _, rfl, h1, T.wC, T.wHeading, rfl, _, rfl, p, CF, dx, _, _, rfl, hp, T.fC, T.fWalk, rfl, wp, CW, dx1, _, _, rfl, h1, T.wC, T.wState, rfl, ?_⟩
        refine ⟨_, rfl, p, CF, dx, _, _, rfl, hp, T.fC, T.fWalk, rfl, wp, dx1, _, rfl, h1, rfl, wp, wd, M, S, G, ci, i, Sq.length + i, rfl, W, by show 3 ≤ sizeLine; decide, fun q hq => ?_⟩
        have g2 := Same.new (o := .tup [V.int (hdg ci.b), V.int (sd ci.q ci.b), V.int (ci.f ci.x)]) hq
        have hrl2 := hrs.length
        rw [List.length_map] at hrl2
        refine ⟨rd, rs, _, rfl, rfl, g2 _ _ hrd, big (by omega), ?_⟩
        obtain ⟨ak, kf, kw, rfl, hak, hkf, hkw⟩ := Rp.of_two hkv
        have hrd2 := g2 _ _ hrd
        generalize hA : upd (upd H1 q (.tup [V.int (hdg ci.b), V.int (sd ci.q ci.b), V.int (ci.f ci.x)])) rd (.lst (rs ++ [V.ref q])) = H3
        have tkA : TK (upd H1 q (.tup [V.int (hdg ci.b), V.int (sd ci.q ci.b), V.int (ci.f ci.x)])) H3 := by rw [← hA]; exact TK.write hrd2 fun xs z => by cases z
        have tk3 : TK H1 H3 := TK.trans (Same.tk g2) tkA
        have hp3 : H3 p = some (.ins CF dx (ff t fl wk wp rd (.ref ak) (ka : Nat))) := by rw [← hA, upd_ne (ne_of hp hrd fun z => by cases z)]; exact g2 _ _ hp
        obtain ⟨Lw, hwd, _⟩ := W.dc
        have W3 : WalkAt CW M S G H3 wp wd ci i (Sq.length + i) := by
          rw [← hA]
          exact (W.keep g2).put hrd2 (fun xs z => by cases z) (ne_of hrd h1 fun z => by cases z) (ne_of hrd hwd fun z => by cases z)
        have same3 : Same H0 H3 := fun b o h => by rw [← hA, upd_ne (ne_of_none h frd)]; exact g2 _ _ (same _ _ h)
        have hrd3 : H3 rd = some (.lst (rs ++ [V.ref q])) := by rw [← hA]; exact upd_same
        have hrs3 : RpAll H3 (rs ++ [V.ref q]) ((ts ++ [[hdg ci.b, sd ci.q ci.b, ci.f ci.x]]).map itD) := by
          rw [List.map_append]
          exact RpAll.snoc (RpAll.keep tk3 hrs) (Rp.its (tkA _ _ upd_same))
        have npw : p ≠ wp := ne_of hp h1 fun z => by
          have := congrArg List.length (HO.ins.inj z).2.2
          cases this
        have npd : p ≠ wd := ne_of hp hwd fun z => by cases z
        obtain ⟨dx3, t3, pl3, h3, hpl3, ht3⟩ := W3.ob
        refine ⟨_, rfl, p, CF, dx, _, _, rfl, hp3, T.fC, T.fWalk, rfl, wp, dx3, _, rfl, h3, rfl, _, rfl, p, CF, dx, _, _, rfl, hp3, T.fC, T.fWalk, rfl, wp, CW, dx3, _, _, rfl, h3, T.wC, T.wDone, rfl, _, _, rfl, rfl, wp, wd, M, S, G, ci, i, Sq.length + i, i + 1, rfl, W3, by omega, by omega, fun H4 kk c' en W4 b4 => ?_⟩
        have r1 : runC M ci 1 = some c2 := (runC_succ (n := 0) rfl).trans hst
        rw [show i + 1 - i = 1 by omega] at en
        obtain ⟨rfl, rfl⟩ := en.uniq (Ends.exact r1)
        have tk4 := W3.tk b4
        have tk14 : TK H1 H4 := TK.trans tk3 tk4
        have run4 : runC M c (i + 1) = some c' := (runC_succ run).trans hst
        have R4 : FinderAt CF CW M S G H0 H4 p c (i + 1) := by
          refine ⟨fun b o h => b4 _ _ (same3 _ _ h) (ne_of_none h fw) (ne_of_none h fwd), by omega, dx, t, fl, wk, wp, wd, rd, .ref ak, ka, Sq, c', Sk, ck, rs ++ [V.ref q], ts ++ [[hdg ci.b, sd ci.q ci.b, ci.f ci.x]], b4 _ _ hp3 npw npd, st.keep tk14, few, W4, run4, Rp.keep tk14 hkv, can, hk, by omega, b4 _ _ hrd3 (ne_of hrd h1 fun z => by cases z) (ne_of hrd hwd fun z => by cases z), RpAll.keep tk4 hrs3, by rw [List.length_append, hts]; rfl, fp, fw, fwd, frd⟩
        have hp4 := b4 _ _ hp3 npw npd
        obtain ⟨dx4, t4, pl4, h4, hpl4, ht4⟩ := W4.ob
        refine ⟨_, rfl, p, CF, dx, _, _, rfl, hp4, T.fC, T.fWalk, rfl, wp, dx4, _, rfl, h4, rfl, wp, wd, M, S, G, c', i + 1, Sq.length + i + 1, rfl, W4, fun H5 v5 s5 r5 => ?_⟩
        refine ⟨_, rfl, p, CF, dx, _, _, rfl, s5 _ _ hp4, T.fC, T.fKept, rfl, ak, _, _, _, rfl, rfl, SqT.of (s5 _ _ (tk14 _ _ hak)), rfl, walkerD c', walkerD ck, Rp.dp r5, Rp.dp (Rp.keep (TK.trans tk14 (Same.tk s5)) hkw), sh_its, sh_its, _, rfl, ?_⟩
        cases hE : PyData.eqv (walkerD c') (walkerD ck) with
        | false => exact iteF ⟨⟨_, rfl⟩, R4.keep s5⟩
        | true =>
          refine iteT ?_
          refine ⟨_, rfl, p, CF, dx, _, _, rfl, s5 _ _ hp4, T.fC, T.fWalk, rfl, wp, dx4, _, rfl, s5 _ _ h4, rfl, wp, wd, M, S, G, c', i + 1, Sq.length + i + 1, rfl, W4.keep s5, by omega, fun H6 v6 S6 s6 can6 few6 r6 => ?_⟩
          have s46 := s5.trans s6
          have hp6 := s46 _ _ hp4
          refine ⟨_, rfl, p, CF, dx, _, _, rfl, hp6, T.fC, T.fKept, rfl, standD S6 c', standD Sk ck, Rp.dp r6, Rp.dp (Rp.keep (TK.trans tk14 (Same.tk s46)) hkv), shaped_stand, shaped_stand, _, rfl, ?_⟩
          cases hE2 : PyData.eqv (standD S6 c') (standD Sk ck) with
          | false => exact iteF ⟨⟨_, rfl⟩, R4.keep s46⟩
          | true =>
            have ec := (stand_eqv can6 can).mp hE2
            refine iteT ?_
            refine ⟨_, rfl, p, CF, dx, _, _, rfl, hp6, T.fC, T.fWalk, rfl, wp, CW, dx4, _, _, rfl, s46 _ _ h4, T.wC, T.wDone, rfl, _, rfl, p, CF, dx, _, _, rfl, hp6, T.fC, T.fKeptAt, rfl, _, _, rfl, rfl, ?_⟩
            refine ⟨_, rfl, _, _, rfl, rfl, _, rfl, iteD (by omega) ?_⟩
            refine ⟨_, rfl, p, CF, dx, _, _, rfl, hp6, T.fC, T.fKeptAt, rfl, _, rfl, by show 3 ≤ sizeLine; decide, fun q2 hq2 => ?_⟩
            have hsub : ((i + 1 : Nat) : Int) - (ka : Int) = ((i + 1 - ka : Nat) : Int) := by omega
            have g7 := Same.new (o := .tup [V.str "round", V.int (ka : Nat), V.int (((i + 1 : Nat) : Int) - (ka : Int))]) hq2
            refine kP _ _ (.round ka (i + 1 - ka)) (R4.same.trans (s46.trans g7)) (.tup upd_same (.cons (.str _) (.cons (.int _) (.cons ?_ .nil)))) ⟨by omega, by omega, c', by rw [ec]; exact hk, by rw [show ka + (i + 1 - ka) = i + 1 by omega]; exact run4⟩
            rw [← hsub]
            exact .int _
    · rintro σ H1 ⟨⟨o2, rfl⟩, R1⟩
      have same := R1.same
      obtain ⟨dx, t, fl, wk, wp, wd, rd, kv, ka, Sq, ci, Sk, ck, rs, ts, hp, st, few, W, run, hkv, can, hk, hka, hrd, hrs, hts, fp, fw, fwd, frd⟩ := R1.ob
      obtain ⟨dx1, t1, pl1, h1, hpl, ht1⟩ := W.ob
      refine ⟨_, rfl, p, CF, dx, _, _, rfl, hp, T.fC, T.fWalk, rfl, wp, dx1, _, rfl, h1, rfl, wp, wd, M, S, G, ci, many, Sq.length + many, rfl, W, fun v hv => ?_⟩
      cases hst : stepC M ci with
      | none =>
        rw [rl_of_stop hst] at hv
        rw [Rp.of_none hv]
        refine ⟨rfl, _, rfl, iteT ?_⟩
        refine ⟨_, rfl, p, CF, dx, _, _, rfl, hp, T.fC, T.fWalk, rfl, wp, CW, dx1, _, _, rfl, h1, T.wC, T.wDone, rfl, by show 2 ≤ sizeLine; decide, fun q hq => ?_⟩
        have g := Same.new (o := .tup [V.str "stops", V.int (many : Nat)]) hq
        exact kP _ _ (.stops many) (same.trans g) (.tup upd_same (.cons (.str _) (.cons (.int _) .nil))) ⟨hm, ci, run, hst⟩
      | some c2 =>
        obtain ⟨wr, mv, q', hrl, hc2⟩ := rl_of_step hst
        rw [hrl] at hv
        obtain ⟨e, rfl, he⟩ := Rp.of_its hv
        exact ⟨rfl, _, rfl, iteF (kN H1 R1)⟩
end
end TP
set_option Elab.async false
set_option linter.all false
set_option maxRecDepth 100000
set_option maxHeartbeats 4000000
namespace TP
open PySem PySem.Spec PyProof.Rows L2
theorem RpAll.take {H : Hp} : ∀ {xs : List V} {ds : List PyData} (n : Nat), RpAll H xs ds → RpAll H (xs.take n) (ds.take n)
  | _, _, 0, _ => .nil
  | _, _, _ + 1, .nil => .nil
  | _, _, n + 1, .cons h t => .cons h (RpAll.take n t)
theorem RpAll.drop {H : Hp} : ∀ {xs : List V} {ds : List PyData} (n : Nat), RpAll H xs ds → RpAll H (xs.drop n) (ds.drop n)
  | _, _, 0, h => h
  | _, _, _ + 1, .nil => .nil
  | _, _, n + 1, .cons _ t => RpAll.drop n t
theorem RpAll.cut {H : Hp} {xs : List V} {ts : List (List Int)} (h : RpAll H xs (ts.map itD)) (lo hi : Option Int) : ∃ us : List (List Int), RpAll H (cutV xs lo hi) (us.map itD) := by
  refine ⟨(ts.drop (HT.sIx xs.length 0 lo)).take (HT.sIx xs.length xs.length hi - HT.sIx xs.length 0 lo), ?_⟩
  rw [List.map_take, List.map_drop]
  exact RpAll.take _ (RpAll.drop _ h)
theorem sh_list {us : List (List Int)} : SeqAt.shaped (.list (us.map itD)) = true := pl_shaped (n := 2) (List.all_eq_true.mpr fun d hd => by
  obtain ⟨u, _, rfl⟩ := List.mem_map.mp hd
  exact pl_its) (by decide)
section
variable {P : Program} {w : World} {K : PySem.W.Frag} {mg : Str → Option Value} {base : Heap} {CW CR CS CT CF : Addr} {f : Addr} {fd : FuncData}

/-! ### Finder.keep -/
def spKeep (CF CW : Addr) : Sp := fun vs H Q _ => ∃ (p : Addr) (M : Mach) (S G : Nat) (H0 : Hp) (c : Cfg) (n : Nat), vs = [.ref p] ∧ FinderAt CF CW M S G H0 H p c n ∧ ∀ H', FinderAt CF CW M S G H0 H' p c n → Q .non H'
theorem sc_Finder_keep : FnScope ["self"] ["self"] (C8.fnScope (meth 61 2)) := C8.fnScope_by (by decide +kernel)
theorem ok_keep (T : Txt K mg CW CR CS CT CF) (m_stand : Me P w K mg base 2 CW "stand" (spStandM CW))
    (me : Meth K CF "keep" f) (F : C8.Fun K "keep" "Finder.keep" (meth 61 2) f fd) (b : Binds K fd ["self"] []) : Me P w K mg base 3 CF "keep" (spKeep CF CW) := by
  refine C8.met0 T.fC me F b sc_Finder_keep (fun vs H Q E h => ?_) (fun cdv A outer s H vs Q E hr h => ?_)
  · obtain ⟨_, _, _, _, _, _, _, rfl, _⟩ := h; rfl
  · obtain ⟨p, M, S, G, H0, c, n, rfl, R, k⟩ := h
    have same := R.same
    have hn := R.few
    obtain ⟨dx, t, fl, wk, wp, wd, rd, kv, ka, Sq, ci, Sk, ck, rs, ts, hp, st, few, W, run, hkv, can, hk, hka, hrd, hrs, hts, fp, fw, fwd, frd⟩ := R.ob
    obtain ⟨dx1, t1, pl1, h1, hpl, ht1⟩ := W.ob
    obtain ⟨Lw, hwd, _⟩ := W.dc
    refine ⟨_, (pss_one (ps_asg (pe_tup (pa_cons (C8.pe_mt0 m_stand hr (by decide) (pe_fldK K (pv 0))) (pa_cons (pe_fldK K (pe_fldK K (pv 0))) pa_nil))) (pg_tupK K (n := 2) rfl (pgs_cons (pg_fld (pv 0)) (pgs_cons (pg_fld (pv 0)) pgs_nil))))), ?_⟩
    refine ⟨_, rfl, p, CF, dx, _, _, rfl, hp, T.fC, T.fWalk, rfl, wp, dx1, _, rfl, h1, rfl, wp, wd, M, S, G, ci, n, Sq.length + n, rfl, W, by omega, fun H1 v1 S1 s1 can1 few1 r1 => ?_⟩
    refine ⟨_, rfl, p, CF, dx, _, _, rfl, s1 _ _ hp, T.fC, T.fWalk, rfl, wp, CW, dx1, _, _, rfl, s1 _ _ h1, T.wC, T.wDone, rfl, by show 2 ≤ sizeLine; decide, fun q hq => ?_⟩
    have g2 := s1.trans (Same.new (o := .tup [v1, V.int (n : Nat)]) hq)
    have hp2 := g2 _ _ hp
    refine ⟨q, _, rfl, SqT.of upd_same, rfl, _, _, rfl, _, rfl, p, CF, dx, _, rfl, hp2, T.fC, T.fKept, (by show 7 < 1000; decide), _, _, rfl, _, rfl, p, CF, dx, _, rfl, upd_same, T.fC, T.fKeptAt, (by show 7 < 1000; decide), rfl, ?_⟩
    have r2 := Rp.keep (Same.tk (Same.new (o := .tup [v1, V.int (n : Nat)]) hq)) r1
    generalize upd H1 q (.tup [v1, V.int (n : Nat)]) = H2 at g2 hp2 r2
    generalize hA : upd (upd H2 p (.ins CF dx (putF "kept" v1 (ff t fl wk wp rd kv (ka : Nat))))) p (.ins CF dx (putF "kept_at" (.int (n : Nat)) (putF "kept" v1 (ff t fl wk wp rd kv (ka : Nat))))) = H3
    have hp3 : H3 p = some (.ins CF dx (ff t fl wk wp rd v1 (n : Nat))) := by rw [← hA]; exact upd_same
    have u : ∀ b o, H2 b = some o → b ≠ p → H3 b = some o := fun b o h hb => by rw [← hA, upd_ne hb, upd_ne hb]; exact h
    have tk3 : TK H2 H3 := fun b xs h => u _ _ h (ne_of h hp2 fun z => by cases z)
    have tk : TK H H3 := TK.trans (Same.tk g2) tk3
    have npw : p ≠ wp := ne_of hp h1 fun z => by
      have := congrArg List.length (HO.ins.inj z).2.2
      cases this
    have npd : p ≠ wd := ne_of hp hwd fun z => by cases z
    have W3 : WalkAt CW M S G H3 wp wd ci n (Sq.length + n) := by
      rw [← hA]
      exact ((W.keep g2).put hp2 (fun xs z => by cases z) npw npd).put upd_same (fun xs z => by cases z) npw npd
    exact k H3 ⟨fun b o h => u _ _ (g2 _ _ (same _ _ h)) (ne_of_none h fp), hn, dx, t, fl, wk, wp, wd, rd, v1, n, Sq, ci, S1, ci, rs, ts, hp3, st.keep tk, few, W3, run, Rp.keep tk3 r2, can1, run, Nat.le_refl _, u _ _ (g2 _ _ hrd) (ne_of hrd hp fun z => by cases z), RpAll.keep tk hrs, hts, fp, fw, fwd, frd⟩

/-! ### Finder.is_street -/
def spIsStreet (CF CW : Addr) : Sp := fun vs H Q _ => ∃ (p : Addr) (M : Mach) (S G : Nat) (H0 : Hp) (c : Cfg) (n : Nat) (v : V) (i m : Nat), vs = [.ref p, v] ∧ FinderAt CF CW M S G H0 H p c n ∧ Rp H v (paperD (.street i m)) ∧ 1 ≤ m ∧ i + m ≤ n ∧ ∀ H' b, Same H H' → (b = true → PaperOk M c (.street i m)) → Q (.bl b) H'
theorem sc_Finder_is_street : FnScope ["self", "paper", "walk", "stand"] ["self", "paper"] (C8.fnScope (meth 61 4)) := C8.fnScope_by (by decide +kernel)
theorem ok_is_street (T : Txt K mg CW CR CS CT CF) (k_Walk : Ma P w K mg base 2 "Walk" CW (spWalkInit CW)) (m_go : Me P w K mg base 4 CW "go" (spGo CW)) (m_stand : Me P w K mg base 2 CW "stand" (spStandM CW)) (k_Round : Ma P w K mg base 4 "Round" CR (spRoundInit CR)) (m_goes_on : Me P w K mg base 3 CR "goes_on" (spGoes CR))
    (me : Meth K CF "is_street" f) (F : C8.Fun K "is_street" "Finder.is_street" (meth 61 4) f fd) (b : Binds K fd ["self", "paper"] []) : Me P w K mg base 6 CF "is_street" (spIsStreet CF CW) := by
  refine C8.met0 T.fC me F b sc_Finder_is_street (fun vs H Q E h => ?_) (fun cdv A outer s H vs Q E hr h => ?_)
  · obtain ⟨_, _, _, _, _, _, _, _, _, _, rfl, _⟩ := h; rfl
  · obtain ⟨p, M, S, G, H0, c, n, v, i, m, rfl, R, hv, hm, him, k⟩ := h
    have hn := R.few
    obtain ⟨dx, t, fl, wk, wp, wd, rd, kv, ka, Sq, ci, Sk, ck, rs, ts, hp, st, few, W, run, hkv, can, hk, hka, hrd, hrs, hts, fp, fw, fwd, frd⟩ := R.ob
    obtain ⟨d, hd⟩ := runC_pre run i (by omega)
    obtain ⟨e, he⟩ := runC_pre run (i + m) (by omega)
    have rm : runC M d m = some e := by rw [← runC_add M c i m hd]; exact he
    obtain ⟨a, x, y, z, rfl, ha, hx, hy, hz⟩ := Rp.of_three hv
    rw [Rp.of_str hx, Rp.of_int hy, Rp.of_int hz] at ha
    refine ⟨_, (pss_cons (ps_set (i := 2) sc_Finder_is_street.nd rfl (.inl rfl) (C8.pe_mk k_Walk hr (by decide) (by rfl) (pa_cons (pe_fldK K (pv 0)) (pa_cons (pe_fldK K (pv 0)) (pa_cons (pe_fldK K (pv 0)) pa_nil)))))
      (pss_cons (ps_expr (C8.pe_mt m_go hr (by decide) (pv 2) (pa_cons (pe_ix (ix_tupK K) (pv 1) pe_int (fun _ _ => rfl)) pa_nil)))
      (pss_cons (ps_set (i := 3) sc_Finder_is_street.nd rfl (.inl rfl) (C8.pe_mt0 m_stand hr (by decide) (pv 2)))
      (pss_one (ps_ret (C8.pe_mt0 m_goes_on hr (by decide) (C8.pe_mk k_Round hr (by decide) (by rfl) (pa_cons (pe_fldK K (pv 0)) (pa_cons (pe_ix (ix_tupK K) (pv 3) pe_int (fun _ _ => rfl)) (pa_cons (pe_ix (ix_tupK K) (pv 3) pe_int (fun _ _ => rfl)) (pa_cons (pe_ix (ix_tupK K) (pv 1) pe_int (fun _ _ => rfl)) pa_nil))))))))))), ?_⟩
    refine ⟨_, rfl, p, CF, dx, _, _, rfl, hp, T.fC, T.fTable, rfl, _, rfl, p, CF, dx, _, _, rfl, hp, T.fC, T.fGround, rfl, _, rfl, p, CF, dx, _, _, rfl, hp, T.fC, T.fBegan, rfl, fun x dx2 nx ndx nex => ?_⟩
    have s0 : Same H (upd (upd H dx2 (.own x)) x (.ins CW dx2 [])) := fun b o e => by
      rw [upd_ne (ne_of_none e nx), upd_ne (ne_of_none e ndx)]
      exact e
    have st0 := st.keep (Same.tk s0)
    refine ⟨x, dx2, t, fl, wk, M, S, G, Sq, c, rfl, upd_same, st0.t, st0.f, st0.w, st.good, st.ok, st.can, by omega, fun H1 dd W1 nd k1 => ⟨rfl, ?_⟩⟩
    have s1 : Same H H1 := Same.made nx ndx k1
    have nd0 : H dd = none := s0.free nd
    obtain ⟨dx1, t1, pl1, h1, _⟩ := W1.ob
    refine ⟨_, rfl, x, dx1, _, rfl, h1, rfl, _, rfl, a, _, _, _, rfl, rfl, SqT.of (s1 _ _ ha), rfl, x, dd, M, S, G, c, 0, Sq.length, i, rfl, W1, Nat.zero_le _, by omega, fun H2 j c' en W2 b2 => ?_⟩
    rw [Nat.zero_add] at W2
    rw [Nat.sub_zero] at en
    obtain ⟨rfl, rfl⟩ := en.uniq (Ends.exact hd)
    have s2 : Same H H2 := fun b o e => b2 b o (s1 b o e) (ne_of_none e nx) (ne_of_none e nd0)
    obtain ⟨dx3, t3, pl3, h3, _⟩ := W2.ob
    refine ⟨_, rfl, x, dx3, _, rfl, h3, rfl, x, dd, M, S, G, c', j, Sq.length + j, rfl, W2, by omega, fun H3 v1 S1 s3 can1 few1 r1 => ?_⟩
    obtain ⟨sa, fl1, wk1, rfl, hsa, hf1, hw1⟩ := Rp.of_two r1
    have s23 := s2.trans s3
    have st3 : St3 H3 t fl1 wk1 M S G S1 c' := ⟨Rp.keep (Same.tk s23) st.t, hf1, hw1, st.good, runC_ok st.good st.ok j hd, can1⟩
    refine ⟨_, rfl, p, CF, dx, _, _, rfl, s23 _ _ hp, T.fC, T.fTable, rfl, _, rfl, sa, _, _, _, rfl, rfl, SqT.of hsa, rfl, _, rfl, sa, _, _, _, rfl, rfl, SqT.of hsa, rfl, _, rfl, a, _, _, _, rfl, rfl, SqT.of (s23 _ _ ha), rfl, fun x2 dx4 nx2 ndx2 nex2 => ?_⟩
    have s4 : Same H3 (upd (upd H3 dx4 (.own x2)) x2 (.ins CR dx4 [])) := fun b o e => by
      rw [upd_ne (ne_of_none e nx2), upd_ne (ne_of_none e ndx2)]
      exact e
    refine ⟨x2, dx4, t, fl1, wk1, M, S, G, S1, c', e, m, rfl, upd_same, st3.keep (Same.tk s4), rm, ⟨hm, by omega⟩, by omega, fun H4 R4 k4 => ⟨rfl, ?_⟩⟩
    have s5 : Same H3 H4 := Same.made nx2 ndx2 k4
    obtain ⟨dx5, dg, df, dl, dw, ae, am, Sq3, K0, ws, cs, hx5, _⟩ := R4.ob
    refine ⟨x2, dx5, _, rfl, hx5, rfl, x2, M, S, G, c', e, m, rfl, R4, fun H5 b s6 hb => ?_⟩
    exact k _ b ((s23.trans s5).trans s6) fun e1 => ⟨hm, by omega, c', e, hd, he, hb.mp e1⟩

/-! ### Finder.street -/
def spStreet (CF CW : Addr) : Sp := fun vs H Q _ => ∃ (p : Addr) (M : Mach) (S G : Nat) (H0 : Hp) (c : Cfg) (n most : Nat), vs = [.ref p, .int most] ∧ FinderAt CF CW M S G H0 H p c n ∧ most ≤ 2000 ∧
  (∀ H', Same H H' → Q .non H') ∧ ∀ H' r pp, Same H H' → Rp H' r (paperD pp) → PaperOk M c pp → Q r H'
theorem sc_Finder_street : FnScope ["self", "most", "last", "period", "paper"] ["self", "most"] (C8.fnScope (meth 61 3)) := C8.fnScope_by (by decide +kernel)
theorem ok_street (T : Txt K mg CW CR CS CT CF) (m_is_street : Me P w K mg base 6 CF "is_street" (spIsStreet CF CW))
    (me : Meth K CF "street" f) (F : C8.Fun K "street" "Finder.street" (meth 61 3) f fd) (b : Binds K fd ["self", "most"] []) : Me P w K mg base 7 CF "street" (spStreet CF CW) := by
  refine C8.met0 T.fC me F b sc_Finder_street (fun vs H Q E h => ?_) (fun cdv A outer s H vs Q E hr h => ?_)
  · obtain ⟨_, _, _, _, _, _, _, _, rfl, _⟩ := h; rfl
  · obtain ⟨p, M, S, G, H0, c, n, most, rfl, R, hmost, kN, kP⟩ := h
    have hn := R.few
    obtain ⟨dx, t, fl, wk, wp, wd, rd, kv, ka, Sq, ci, Sk, ck, rs, ts, hp, st, few, W, run, hkv, can, hk, hka, hrd, hrs, hts, fp, fw, fwd, frd⟩ := R.ob
    have hrl := hrs.length
    rw [List.length_map, hts] at hrl
    refine ⟨_, (pss_cons (ps_set (i := 2) sc_Finder_street.nd rfl (.inl rfl) (pe_callB (len_K K) (by rfl) T.len (by decide +kernel) (pa_cons (pe_fldK K (pv 0)) pa_nil)))
      (pss_cons (ps_for PassesOwn.never rfl (pi_range2 (by rfl) T.range (pa_cons pe_int (pa_cons (pe_op op_add (pe_callB (call_min2 rfl) (by rfl) T.min (by decide +kernel) (pa_cons (pv 1) (pa_cons (pe_op op_fdiv (pv 2) pe_int) pa_nil))) pe_int) pa_nil))) (pg_name (i := 3) sc_Finder_street.nd rfl (.inl rfl))
        (pss_one (ps_if (pt_cmpR (eqD_K K (hu64 hr)) (pe_slice (sl_listK K) (pe_fldK K (pv 0)) (po_some (pe_op op_sub (pv 2) (pv 3))) po_none) (pe_slice (sl_listK K) (pe_fldK K (pv 0)) (po_some (pe_op op_sub (pv 2) (pe_op op_mul pe_int (pv 3)))) (po_some (pe_op op_sub (pv 2) (pv 3)))) (nomark _)) (pss_cons (ps_set (i := 4) sc_Finder_street.nd rfl (.inl rfl) (pe_tup (pa_cons pe_str (pa_cons (pe_op op_sub (pv 2) (pv 3)) (pa_cons (pv 3) pa_nil)))))
      (pss_one (ps_if (pt_val (C8.pe_mt m_is_street hr (by decide) (pv 0) (pa_cons (pv 4) pa_nil))) (pss_one (ps_ret (pv 4))) pss_nil))) pss_nil)))
      (pss_one (ps_ret pe_non)))), ?_⟩
    refine ⟨_, rfl, p, CF, dx, _, _, rfl, hp, T.fC, T.fRead, rfl, _, _, rfl, .inl (SqL.of hrd), ?_⟩
    rw [hrl]
    refine ⟨_, rfl, _, rfl, _, _, rfl, rfl, ⟨by decide, by decide⟩, _, _, rfl, _, _, rfl, rfl, _, _, rfl, ?_⟩
    generalize hU : (if (n : Int) / 2 < (most : Int) then (n : Int) / 2 else (most : Int)) = U
    have hU2 : 0 ≤ U ∧ U ≤ (n : Int) / 2 := by rw [← hU]; split <;> omega
    refine ⟨⟨by decide, by decide, by omega, by omega⟩, for_range (fun i σ H' => Same H H' ∧ ∃ o3 o4, σ = [some (.ref p), some (.int (most : Nat)), some (.int (n : Nat)), o3, o4]) ⟨Same.refl _, _, _, rfl⟩ ?_ ?_⟩
    · rintro i σ H1 hi ⟨sm, o3, o4, rfl⟩
      have hiU : (1 + (i : Int)) ≤ (n : Int) / 2 := by omega
      refine ⟨_, rfl, p, CF, dx, _, _, rfl, sm _ _ hp, T.fC, T.fRead, rfl, _, rfl, _, rfl, _, _, rfl, rfl, _, rfl, rd, rs, rfl, SqL.of (sm _ _ hrd), fun p1 hp1 => ?_⟩
      have g1 := Same.new (o := .lst (cutV rs (some ((n : Int) - (1 + (i : Int)))) none)) hp1
      have s1 := sm.trans g1
      refine ⟨_, rfl, p, CF, dx, _, _, rfl, s1 _ _ hp, T.fC, T.fRead, rfl, _, rfl, _, rfl, _, _, rfl, rfl, .inl ⟨by decide, by decide⟩, _, _, rfl, rfl, _, rfl, _, rfl, _, rfl, _, _, rfl, rfl, _, rfl, rd, rs, rfl, SqL.of (s1 _ _ hrd), fun p2 hp2 => ?_⟩
      have g2 := Same.new (o := .lst (cutV rs (some ((n : Int) - 2 * (1 + (i : Int)))) (some ((n : Int) - (1 + (i : Int)))))) hp2
      have s2 := s1.trans g2
      obtain ⟨us1, hus1⟩ := hrs.cut (some ((n : Int) - (1 + (i : Int)))) none
      obtain ⟨us2, hus2⟩ := hrs.cut (some ((n : Int) - 2 * (1 + (i : Int)))) (some ((n : Int) - (1 + (i : Int))))
      refine ⟨.list (us1.map itD), .list (us2.map itD), .lst (SqL.of (g2 _ _ upd_same)) (RpAll.dp (RpAll.keep (Same.tk s2) hus1)), .lst (SqL.of upd_same) (RpAll.dp (RpAll.keep (Same.tk s2) hus2)), sh_list, sh_list, _, rfl, ?_⟩
      cases hE : PyData.eqv (.list (us1.map itD)) (.list (us2.map itD)) with
      | false => exact iteF ⟨s2, _, _, rfl⟩
      | true =>
        refine iteT ?_
        refine ⟨_, rfl, _, rfl, _, _, rfl, rfl, _, rfl, by show 3 ≤ sizeLine; decide, fun q hq => ?_⟩
        have hsub : (n : Int) - (1 + (i : Int)) = ((n - (i + 1) : Nat) : Int) := by omega
        have hadd : (1 + (i : Int)) = ((i + 1 : Nat) : Int) := by omega
        have g3 := Same.new (o := .tup [V.str "street", V.int ((n : Int) - (1 + (i : Int))), V.int (1 + (i : Int))]) hq
        have s3 := s2.trans g3
        have hpap : Rp (upd (upd (upd H1 p1 (.lst (cutV rs (some ((n : Int) - (1 + (i : Int)))) none))) p2 (.lst (cutV rs (some ((n : Int) - 2 * (1 + (i : Int)))) (some ((n : Int) - (1 + (i : Int))))))) q (.tup [V.str "street", V.int ((n : Int) - (1 + (i : Int))), V.int (1 + (i : Int))])) (.ref q) (paperD (.street (n - (i + 1)) (i + 1))) := by
          refine .tup upd_same (.cons (.str _) (.cons ?_ (.cons ?_ .nil)))
          · rw [hsub]; exact .int _
          · rw [hadd]; exact .int _
        refine ⟨_, rfl, p, dx, _, rfl, s3 _ _ hp, rfl, _, rfl, p, M, S, G, H0, c, n, .ref q, n - (i + 1), i + 1, rfl, R.keep s3, hpap, by omega, by omega, fun H2 b s4 hb => ⟨_, rfl, ?_⟩⟩
        cases b with
        | false => exact iteF ⟨s3.trans s4, _, _, rfl⟩
        | true => exact iteT ⟨_, rfl, kP _ _ _ (s3.trans s4) (Rp.keep (Same.tk s4) hpap) (hb rfl)⟩
    · rintro σ H1 ⟨sm, o3, o4, rfl⟩
      exact kN H1 sm
end
end TP
set_option Elab.async false
set_option linter.all false
set_option maxRecDepth 100000
set_option maxHeartbeats 4000000
namespace TP
open PySem PySem.Spec PyProof.Rows L2
theorem paper_ref {H : Hp} {v : V} {pp : Paper} (h : Rp H v (paperD pp)) : ∃ a, v = .ref a := by
  cases pp <;> (obtain ⟨a, _, rfl, _⟩ := Rp.of_tup h; exact ⟨a, rfl⟩)
section
variable {P : Program} {w : World} {K : PySem.W.Frag} {mg : Str → Option Value} {base : Heap} {CW CR CS CT CF : Addr} {f : Addr} {fd : FuncData}

/-! ### find_in, find_paper -/
def spFind : Sp := fun vs H Q _ => ∃ (t fl wk : V) (M : Mach) (S G : Nat) (Sq : List (Int × Int)) (c : Cfg) (steps most : Nat), vs = [t, fl, wk, .int steps, .int most] ∧ St3 H t fl wk M S G Sq c ∧ FloorOk Sq G ∧ Far c.x ∧ Sq.length ≤ 400 ∧ (1 ≤ steps ∧ steps ≤ 600) ∧ (1 ≤ most ∧ most ≤ 2000) ∧
  (∀ H', Same H H' → Q .non H') ∧ ∀ H' r pp, Same H H' → Rp H' r (paperD pp) → PaperOk M c pp → Q r H'
theorem sc_find_in : FnScope ["table", "floor", "walker", "steps", "most", "finder", "look", "turn", "found"] ["table", "floor", "walker", "steps", "most"] (C8.fnScope (top 62)) := C8.fnScope_by (by decide +kernel)
theorem ok_find_in (T : Txt K mg CW CR CS CT CF) (k_Finder : Ma P w K mg base 4 "Finder" CF (spFinderInit CF CW)) (m_go_on : Me P w K mg base 5 CF "go_on" (spGoOn CF CW)) (m_street : Me P w K mg base 7 CF "street" (spStreet CF CW)) (m_keep : Me P w K mg base 3 CF "keep" (spKeep CF CW))
    (F : C8.Def K mg "find_in" (top 62) f fd) (b : Binds K fd ["table", "floor", "walker", "steps", "most"] []) : Ca P w K mg base 8 "find_in" spFind := by
  refine C8.cal0 F b .nil sc_find_in (fun vs H Q E h => ?_) (fun cdv A outer s H vs Q E hr h => ?_)
  · obtain ⟨_, _, _, _, _, _, _, _, _, _, rfl, _⟩ := h; rfl
  · obtain ⟨t, fl, wk, M, S, G, Sq, c, steps, most, rfl, st, fok, fx, few, hst, hmo, kN, kP⟩ := h
    refine ⟨_, (pss_cons (ps_par (i := 5) (j := 6) (by rfl) sc_find_in.nd rfl rfl (by decide) rfl rfl (pa_cons (C8.pe_mk k_Finder hr (by decide) (by rfl) (pa_cons (pv 0) (pa_cons (pv 1) (pa_cons (pv 2) pa_nil)))) (pa_cons (C8.pe_gc (by rfl) T.cFirst) pa_nil)) (by rfl))
      (pss_cons (ps_for PassesOwn.never rfl (pi_range1 (by rfl) T.range (pa_cons (C8.pe_gc (by rfl) T.cLooked) pa_nil)) (pg_name (i := 7) sc_find_in.nd rfl (.inl rfl))
        (C8.pss_cut (ps_set (i := 8) sc_find_in.nd rfl (.inl rfl) (C8.pe_mt m_go_on hr (by decide) (pv 5) (pa_cons (pe_callB (call_min2 rfl) (by rfl) T.min (by decide +kernel) (pa_cons (pv 6) (pa_cons (pv 3) pa_nil))) pa_nil)))
      (C8.pss_cut (ps_if (pt_cmpR op_isN (pv 8) pe_non (nomark _)) (pss_one (ps_set (i := 8) sc_find_in.nd rfl (.inl rfl) (C8.pe_mt m_street hr (by decide) (pv 5) (pa_cons (pv 4) pa_nil)))) pss_nil)
      (pss_cons (ps_if (PW.pt (pw_or (pt_cmpR op_notN (pv 8) pe_non (nomark _)) (pw_or1 (pt_cmpR op_ge (pv 6) (pv 3) (nomark _))))) (pss_one (ps_ret (pv 8))) pss_nil)
      (pss_cons (ps_expr (C8.pe_mt0 m_keep hr (by decide) (pv 5)))
      (pss_one (ps_aug (i := 6) sc_find_in.nd rfl (.inl rfl) pe_int ip_mul)))))))
      (pss_one (ps_ret pe_non)))), ?_⟩
    refine ⟨_, rfl, _, rfl, _, rfl, fun x dx nx ndx nex => ?_⟩
    have s0 : Same H (upd (upd H dx (.own x)) x (.ins CF dx [])) := fun b o e => by
      rw [upd_ne (ne_of_none e nx), upd_ne (ne_of_none e ndx)]
      exact e
    refine ⟨x, dx, t, fl, wk, M, S, G, Sq, c, H, rfl, upd_same, st.keep (Same.tk s0), few, nx, s0, fun H1 R1 => ⟨rfl, ?_⟩⟩
    refine ⟨_, _, rfl, ?_⟩
    refine ⟨30000, rfl, by decide, by decide, for_range (fun i σ H' => ∃ (L n : Nat) (o7 o8 : Option V), σ = [some t, some fl, some wk, some (.int (steps : Nat)), some (.int (most : Nat)), some (.ref x), some (.int (L : Nat)), o7, o8] ∧ FinderAt CF CW M S G H H' x c n ∧ n ≤ L ∧ n ≤ steps ∧ L ≤ 1200) ⟨16, 0, none, none, rfl, R1, Nat.zero_le _, Nat.zero_le _, by decide⟩ ?_ ?_⟩
    · rintro i σ H2 hi ⟨L, n, o7, o8, rfl, R2, hnL, hns, hL⟩
      obtain ⟨dx2, _, _, _, _, _, _, _, _, _, _, _, _, _, _, hx2, _⟩ := R2.ob
      have hmin : (if (steps : Int) < (L : Int) then (steps : Int) else (L : Int)) = ((if steps < L then steps else L : Nat) : Int) := by split <;> split <;> omega
      generalize hmm : (if steps < L then steps else L) = mm at hmin
      have hmm2 : n ≤ mm ∧ mm ≤ steps ∧ mm ≤ L ∧ (steps ≤ L ∨ mm = L) := by rw [← hmm]; split <;> omega
      refine ⟨fun σ' H' => ∃ (fv : V) (o7 : Option V), σ' = [some t, some fl, some wk, some (.int (steps : Nat)), some (.int (most : Nat)), some (.ref x), some (.int (L : Nat)), o7, some fv] ∧ Same H H' ∧ (fv = .non ∧ FinderAt CF CW M S G H H' x c mm ∨ ∃ pp, Rp H' fv (paperD pp) ∧ PaperOk M c pp), ?_, ?_⟩
      · refine ⟨_, rfl, x, dx2, _, rfl, hx2, rfl, _, rfl, _, rfl, _, _, rfl, ?_⟩
        rw [hmin]
        exact ⟨x, M, S, G, H, c, n, mm, rfl, R2, hmm2.1, by omega, fun H3 R3 => ⟨_, _, rfl, R3.same, .inl ⟨rfl, R3⟩⟩, fun H3 r pp s3 hr3 ok3 => ⟨_, _, rfl, s3, .inr ⟨pp, hr3, ok3⟩⟩⟩
      rintro σ' H3 ⟨fv, o7, rfl, s3, hfv⟩
      refine ⟨fun σ' H' => ∃ (fv : V) (o7 : Option V), σ' = [some t, some fl, some wk, some (.int (steps : Nat)), some (.int (most : Nat)), some (.ref x), some (.int (L : Nat)), o7, some fv] ∧ Same H H' ∧ (fv = .non ∧ FinderAt CF CW M S G H H' x c mm ∨ ∃ pp, Rp H' fv (paperD pp) ∧ PaperOk M c pp), ?_, ?_⟩
      · rcases hfv with ⟨rfl, R3⟩ | ⟨pp, hr3, ok3⟩
        · refine ⟨_, rfl, rfl, _, rfl, iteT ?_⟩
          obtain ⟨dx3, _, _, _, _, _, _, _, _, _, _, _, _, _, _, hx3, _⟩ := R3.ob
          refine ⟨_, rfl, x, dx3, _, rfl, hx3, rfl, _, rfl, x, M, S, G, H, c, mm, most, rfl, R3, hmo.2, fun H4 s4 => ?_, fun H4 r pp s4 hr4 ok4 => ?_⟩
          · exact ⟨_, _, rfl, R3.same.trans s4, .inl ⟨rfl, R3.keep s4⟩⟩
          · exact ⟨_, _, rfl, R3.same.trans s4, .inr ⟨pp, hr4, ok4⟩⟩
        · obtain ⟨a, rfl⟩ := paper_ref hr3
          exact ⟨_, rfl, rfl, _, rfl, iteF ⟨_, _, rfl, s3, .inr ⟨pp, hr3, ok3⟩⟩⟩
      rintro σ' H4 ⟨fv, o7, rfl, s4, hfv⟩
      rcases hfv with ⟨rfl, R4⟩ | ⟨pp, hr4, ok4⟩
      · refine ⟨_, rfl, rfl, _, rfl, iteF ⟨_, rfl, _, rfl, _, _, rfl, rfl, _, rfl, ?_⟩⟩
        by_cases hle : steps ≤ L
        · exact iteD (by omega) ⟨_, rfl, kN H4 s4⟩
        · refine iteDF (by omega) ?_
          obtain ⟨dx4, _, _, _, _, _, _, _, _, _, _, _, _, _, _, hx4, _⟩ := R4.ob
          refine ⟨_, rfl, x, dx4, _, rfl, hx4, rfl, x, M, S, G, H, c, mm, rfl, R4, fun H5 R5 => ?_⟩
          have hm2 : (L : Int) * 2 = ((L * 2 : Nat) : Int) := by omega
          refine ⟨_, rfl, _, _, rfl, rfl, .inl ⟨by omega, by omega⟩, L * 2, mm, o7, some .non, ?_, R5, by omega, by omega, by omega⟩
          rw [← hm2]
          rfl
      · obtain ⟨a, rfl⟩ := paper_ref hr4
        exact ⟨_, rfl, rfl, _, rfl, iteT (iteT ⟨_, rfl, kP H4 _ pp s4 hr4 ok4⟩)⟩
    · rintro σ H2 ⟨L, n, o7, o8, rfl, R2, hnL, hns, hL⟩
      exact kN H2 R2.same
theorem sc_find_paper : FnScope ["table", "floor", "walker", "steps", "most"] ["table", "floor", "walker", "steps", "most"] (C8.fnScope (top 63)) := C8.fnScope_by (by decide +kernel)
theorem ok_find_paper (T : Txt K mg CW CR CS CT CF) (c_need_stand : Ca P w K mg base 5 "need_stand" spStand) (c_is_in : Ca P w K mg base 1 "is_in" spIsIn) (c_find_in : Ca P w K mg base 8 "find_in" spFind)
    (F : C8.Def K mg "find_paper" (top 63) f fd) (b : Binds K fd ["table", "floor", "walker", "steps", "most"] []) : Ca P w K mg base 9 "find_paper" spFind := by
  refine C8.cal0 F b .nil sc_find_paper (fun vs H Q E h => ?_) (fun cdv A outer s H vs Q E hr h => ?_)
  · obtain ⟨_, _, _, _, _, _, _, _, _, _, rfl, _⟩ := h; rfl
  · obtain ⟨t, fl, wk, M, S, G, Sq, c, steps, most, rfl, a, fok, fx, few, hst, hmo, kN, kP⟩ := h
    refine ⟨_, (pss_cons (ps_expr (C8.pe_c c_need_stand hr (by decide) (by rfl) (pa_cons (pv 0) (pa_cons (pv 1) (pa_cons (pv 2) pa_nil)))))
      (pss_cons (ps_if (PW.pt (pw_or (pt_not (pt_val (C8.pe_c c_is_in hr (by decide) (by rfl) (pa_cons (pv 3) (pa_cons pe_int (pa_cons (C8.pe_gc (by rfl) T.cLooked) pa_nil)))))) (pw_or1 (pt_not (pt_val (C8.pe_c c_is_in hr (by decide) (by rfl) (pa_cons (pv 4) (pa_cons pe_int (pa_cons (C8.pe_gc (by rfl) T.cRound) pa_nil))))))))) (pss_one ps_never) pss_nil)
      (pss_one (ps_ret (C8.pe_c c_find_in hr (by decide) (by rfl) (pa_cons (pv 0) (pa_cons (pv 1) (pa_cons (pv 2) (pa_cons (pv 3) (pa_cons (pv 4) pa_nil)))))))))), ?_⟩
    refine ⟨_, rfl, _, rfl, _, rfl, t, fl, wk, _, 2 * S, G, Sq, c.x, 0, hdg c.b, sd c.q c.b, rfl, a.t, a.good.tok, a.f, fok, a.w, wk_ok (M := M) a.ok fx, fun H1 s1 => ?_⟩
    refine ⟨_, rfl, _, _, _, rfl, _, rfl, iteND (by omega) ⟨_, rfl, _, _, _, rfl, _, rfl, iteND (by omega) ?_⟩⟩
    refine ⟨_, rfl, _, rfl, _, rfl, _, rfl, _, rfl, t, fl, wk, M, S, G, Sq, c, steps, most, rfl, a.keep (Same.tk s1), fok, fx, few, hst, hmo, fun H2 s2 => kN H2 (s1.trans s2), fun H2 r pp s2 hr2 ok2 => kP H2 r pp (s1.trans s2) hr2 ok2⟩
end
end TP
set_option Elab.async false
set_option linter.all false
set_option maxRecDepth 100000
set_option maxHeartbeats 4000000
namespace TP
open PySem PySem.Spec PyProof.Rows L2
theorem FR.trans {H H1 H2 : Hp} {p : Addr} (a : FR H H1 p) (b : FR H1 H2 p) : FR H H2 p := fun c o h hc => b c o (a c o h hc) hc
theorem FR.of {H H' : Hp} (s : Same H H') (p : Addr) : FR H H' p := fun b o h _ => s b o h
theorem sq_keep {K : PySem.W.Frag} {H H' : Hp} {p sc q : Addr} {ns : List Int} {zs : List V} (h : SqL K H sc (ns.map V.int)) (hp : H p = some (.lst (.ref q :: zs))) (f : FR H H' p) : SqL K H' sc (ns.map V.int) := by
  rcases h with (h | ⟨o, h⟩) | h
  · refine .inl (.inl (f _ _ h fun e => ?_))
    rw [e, hp] at h
    have := HO.lst.inj (Option.some.inj h)
    cases ns with
    | nil => cases this
    | cons a t => cases this
  · refine .inl (.inr ⟨o, f _ _ h fun e => ?_⟩)
    rw [e, hp] at h
    cases h
  · exact .inr h
/-- the row that the law takes from, at p -/
def RowAt (K : PySem.W.Frag) (H : Hp) (p sc : Addr) (ns : List Int) : Prop := ∃ (i : Nat) (r rest : Int), H p = some (.lst [.ref sc, .int (i : Nat), .int r, .int rest]) ∧ SqL K H sc (ns.map V.int)
theorem RowAt.keep {K : PySem.W.Frag} {H H' : Hp} {p sc : Addr} {ns : List Int} (r : RowAt K H p sc ns) (s : Same H H') : RowAt K H' p sc ns := by
  obtain ⟨i, a, b, h1, h2⟩ := r
  exact ⟨i, a, b, s _ _ h1, s.seq h2⟩
section
variable {P : Program} {w : World} {K : PySem.W.Frag} {mg : Str → Option Value} {base : Heap} {CW CR CS CT CF : Addr} {f : Addr} {fd : FuncData}

/-! ### _law_taken, _law_pick, _law_signed -/
def spTaken (K : PySem.W.Frag) : Sp := fun vs H Q _ => ∃ (p sc : Addr) (ns : List Int) (many : Nat), vs = [.ref p, .int many] ∧ RowAt K H p sc ns ∧ 1 ≤ many ∧ many ≤ 100000 ∧ ∀ H' (v : Nat), v < many → RowAt K H' p sc ns → FR H H' p → Q (.int (v : Nat)) H'
theorem sc__law_taken : FnScope ["_law_row", "_law_many", "_law_found", "_law_cell"] ["_law_row", "_law_many"] (C8.fnScope (top 65)) := C8.fnScope_by (by decide +kernel)
theorem ok_taken (T : Txt K mg CW CR CS CT CF) (F : C8.Def K mg "_law_taken" (top 65) f fd) (b : Binds K fd ["_law_row", "_law_many"] []) : Ca P w K mg base 1 "_law_taken" (spTaken K) := by
  refine C8.cal0 F b .nil sc__law_taken (fun vs H Q E h => ?_) (fun cdv A outer s H vs Q E hr h => ?_)
  · obtain ⟨_, _, _, _, rfl, _⟩ := h; rfl
  · obtain ⟨p, sc, ns, many, rfl, ⟨i, r, rest, hp, hsc⟩, hm1, hm2, k⟩ := h
    refine ⟨_, (pss_cons (ps_if (pt_cmpR op_gt (pe_ix (ix_listK K) (pv 0) pe_int (fun _ _ => rfl)) pe_int (nomark _)) (pss_cons (ps_set (i := 2) sc__law_taken.nd rfl (.inl rfl) (pe_op op_mod (pe_callTy call_int1 (by rfl) T.int (by decide +kernel) (pa_cons (pe_ix (ix_listK K) (pv 0) pe_int (fun _ _ => rfl)) pa_nil)) (pv 1)))
      (pss_cons (ps_asg (pe_op op_fdiv (pe_ix (ix_listK K) (pv 0) pe_int (fun _ _ => rfl)) (pv 1)) (pg_sub (pv 0) pe_int set_list))
      (pss_one (ps_ret (pv 2))))) pss_nil)
      (pss_cons (ps_asg (pe_op op_add (pe_ix (ix_listK K) (pv 0) pe_int (fun _ _ => rfl)) pe_int) (pg_sub (pv 0) pe_int set_list))
      (pss_cons (ps_if (pt_cmpR op_gt (pe_ix (ix_listK K) (pv 0) pe_int (fun _ _ => rfl)) (pe_callB (len_K K) (by rfl) T.len (by decide +kernel) (pa_cons (pe_ix (ix_listK K) (pv 0) pe_int (fun _ _ => rfl)) pa_nil)) (nomark _)) (pss_cons (ps_asg (pe_op op_mod (pe_callTy call_int1 (by rfl) T.int (by decide +kernel) (pa_cons (pe_op op_add (pe_op op_mul (pe_ix (ix_listK K) (pv 0) pe_int (fun _ _ => rfl)) pe_int) pe_int) pa_nil)) pe_int) (pg_sub (pv 0) pe_int set_list))
      (pss_one (ps_ret (pe_op op_mod (pe_callTy call_int1 (by rfl) T.int (by decide +kernel) (pa_cons (pe_op op_fdiv (pe_ix (ix_listK K) (pv 0) pe_int (fun _ _ => rfl)) pe_int) pa_nil)) (pv 1))))) pss_nil)
      (pss_cons (ps_set (i := 3) sc__law_taken.nd rfl (.inl rfl) (pe_ix (ix_listK K) (pe_ix (ix_listK K) (pv 0) pe_int (fun _ _ => rfl)) (pe_op op_sub (pe_ix (ix_listK K) (pv 0) pe_int (fun _ _ => rfl)) pe_int) (fun _ _ => rfl)))
      (pss_cons (ps_asg (pe_op op_mod (pe_callTy call_int1 (by rfl) T.int (by decide +kernel) (pa_cons (pe_op op_add (pe_op op_add (pe_op op_mul (pe_ix (ix_listK K) (pv 0) pe_int (fun _ _ => rfl)) pe_int) (pv 3)) pe_int) pa_nil)) pe_int) (pg_sub (pv 0) pe_int set_list))
      (pss_cons (ps_if (pt_cmpR op_ge (pv 3) (pe_op op_pow pe_int pe_int) (nomark _)) (pss_one (ps_asg (pe_op op_fdiv (pv 3) (pv 1)) (pg_sub (pv 0) pe_int set_list))) pss_nil)
      (pss_one (ps_ret (pe_op op_mod (pe_callTy call_int1 (by rfl) T.int (by decide +kernel) (pa_cons (pv 3) pa_nil)) (pv 1)))))))))), ?_⟩
    have hm0 : (0 : Int) < (many : Int) := by omega
    have hdv : ∀ x : Int, CDiv x (many : Int) := fun x => ⟨by omega, by omega⟩
    have out : ∀ (x : Int) (H' : Hp), RowAt K H' p sc ns → FR H H' p → Q (.int (x % (many : Int))) H' := fun x H' h1 h2 => by
      have g1 : 0 ≤ x % (many : Int) := Int.emod_nonneg _ (by omega)
      have g2 : x % (many : Int) < many := Int.emod_lt_of_pos _ (by omega)
      have := k H' (x % (many : Int)).toNat (by omega) h1 h2
      rw [Int.toNat_of_nonneg g1] at this
      exact this
    have row : ∀ (a : Nat) (b c : Int) {H' : Hp}, FR H H' p → RowAt K (upd H' p (.lst [.ref sc, .int (a : Nat), .int b, .int c])) p sc ns := fun a b c H' fr => ⟨a, b, c, upd_same, sq_keep hsc hp fr.wr⟩
    refine ⟨_, rfl, p, _, 3, _, rfl, rfl, SqL.of hp, rfl, _, _, rfl, rfl, _, rfl, ?_⟩
    by_cases hrest : 0 < rest
    · refine iteD (by omega) ?_
      refine ⟨_, rfl, p, _, _, _, rfl, rfl, SqL.of hp, rfl, .inl ⟨_, rfl, _, rfl, _, _, rfl, rfl, hm0, ?_⟩⟩
      refine ⟨_, rfl, p, _, _, _, rfl, rfl, SqL.of hp, rfl, _, rfl, _, _, rfl, rfl, hdv _, _, rfl, p, _, _, 3, rfl, rfl, hp, rfl, _, rfl, ?_⟩
      exact out _ _ (row i r (rest / many) (fun b o h _ => h)) (FR.wr (fun b o h _ => h))
    · refine iteDF (by omega) ?_
      refine ⟨_, rfl, p, _, _, _, rfl, rfl, SqL.of hp, rfl, _, _, rfl, rfl, _, rfl, p, _, _, 1, rfl, rfl, hp, rfl, ?_⟩
      generalize hA : upd H p _ = H1
      have hp1 : H1 p = some (.lst [.ref sc, .int ((i + 1 : Nat) : Int), .int r, .int rest]) := by rw [← hA]; exact upd_same
      have fr1 : FR H H1 p := by rw [← hA]; exact FR.wr (fun b o h _ => h)
      have hsc1 := sq_keep hsc hp fr1
      refine ⟨_, rfl, p, _, _, _, rfl, rfl, SqL.of hp1, rfl, _, rfl, p, _, _, _, rfl, rfl, SqL.of hp1, rfl, _, _, rfl, .inl hsc1, _, _, rfl, rfl, _, rfl, ?_⟩
      rw [List.length_map]
      by_cases hlen : (ns.length : Int) < ((i + 1 : Nat) : Int)
      · refine iteD hlen ?_
        refine ⟨_, rfl, p, _, _, _, rfl, rfl, SqL.of hp1, rfl, _, _, rfl, rfl, .inr ⟨by decide, by decide⟩, _, _, rfl, rfl, .inl ⟨_, rfl, _, _, rfl, rfl, (by show (0 : Int) < 2147483647; decide), _, rfl, p, _, _, 2, rfl, rfl, hp1, rfl, ?_⟩⟩
        refine ⟨_, rfl, p, _, _, _, rfl, rfl, SqL.of upd_same, rfl, _, _, rfl, rfl, ⟨by decide, by decide⟩, .inl ⟨_, rfl, _, rfl, _, _, rfl, rfl, hm0, ?_⟩⟩
        exact out _ _ (row (i + 1) _ rest fr1) fr1.wr
      · refine iteDF hlen ?_
        have hin : i < ns.length := by omega
        have hcell : (ns.map V.int)[i]? = some (.int ns[i]) := by rw [List.getElem?_map, List.getElem?_eq_getElem hin]; rfl
        generalize ns[i] = cell at hcell
        refine ⟨_, rfl, p, _, _, _, rfl, rfl, SqL.of hp1, rfl, _, rfl, p, _, _, _, rfl, rfl, SqL.of hp1, rfl, _, _, rfl, rfl, sc, _, _, _, rfl, rfl, hsc1, at_of (j := i) (by omega) hcell, ?_⟩
        refine ⟨_, rfl, p, _, _, _, rfl, rfl, SqL.of hp1, rfl, _, _, rfl, rfl, .inr ⟨by decide, by decide⟩, _, rfl, _, _, rfl, rfl, _, _, rfl, rfl, .inl ⟨_, rfl, _, _, rfl, rfl, (by show (0 : Int) < 2147483647; decide), _, rfl, p, _, _, 2, rfl, rfl, hp1, rfl, ?_⟩⟩
        have row2 := row (i + 1) ((r * 48271 + cell + 11) % 2147483647) rest fr1
        have fr2 : FR H (upd H1 p (.lst [.ref sc, .int ((i + 1 : Nat) : Int), .int ((r * 48271 + cell + 11) % 2147483647), .int rest])) p := fr1.wr
        generalize hB : upd H1 p _ = H2
        have hp2 : H2 p = some (.lst [.ref sc, .int ((i + 1 : Nat) : Int), .int ((r * 48271 + cell + 11) % 2147483647), .int rest]) := by rw [← hB]; exact upd_same
        have row2' : RowAt K H2 p sc ns := by rw [← hB]; exact row2
        have fr2' : FR H H2 p := by rw [← hB]; exact fr2
        refine ⟨_, rfl, _, _, rfl, rfl, ⟨by decide, by decide, by decide⟩, _, _, rfl, rfl, _, rfl, ?_⟩
        by_cases hc : (10 : Int) ^ (18 : Int).toNat ≤ cell
        · refine iteD hc ?_
          refine ⟨_, rfl, _, rfl, _, _, rfl, rfl, hdv _, _, rfl, p, _, _, 3, rfl, rfl, hp2, rfl, ?_⟩
          refine ⟨_, rfl, .inl ⟨_, rfl, _, rfl, _, _, rfl, rfl, hm0, ?_⟩⟩
          exact out _ _ (row (i + 1) _ _ fr2') fr2'.wr
        · refine iteDF hc ?_
          refine ⟨_, rfl, .inl ⟨_, rfl, _, rfl, _, _, rfl, rfl, hm0, ?_⟩⟩
          exact out _ _ row2' fr2'
end
end TP
set_option Elab.async false
set_option linter.all false
set_option maxRecDepth 100000
set_option maxHeartbeats 4000000
namespace TP
open PySem PySem.Spec PyProof.Rows L2
/-- no text; at most n deep, at most 2000 wide -/
def plw : Nat → PyData → Bool
  | _, .none => true
  | _, .int _ => true
  | n + 1, .list ds => decide (ds.length ≤ 2000) && ds.all (plw n)
  | n + 1, .tuple ds => decide (ds.length ≤ 2000) && ds.all (plw n)
  | _, _ => false
theorem plw_all {n : Nat} {ds : List PyData} (h : (decide (ds.length ≤ 2000) && ds.all (plw n)) = true) : ds.length ≤ 2000 ∧ ∀ d ∈ ds, plw n d = true := by
  rw [Bool.and_eq_true_iff] at h
  exact ⟨of_decide_eq_true h.1, fun d hd => List.all_eq_true.mp h.2 d hd⟩
theorem plw_tup {n : Nat} {ds : List PyData} (h1 : ds.length ≤ 2000) (h2 : ∀ d ∈ ds, plw n d = true) : plw (n + 1) (.tuple ds) = true := by
  show (decide (ds.length ≤ 2000) && ds.all (plw n)) = true
  rw [Bool.and_eq_true_iff]
  exact ⟨decide_eq_true h1, List.all_eq_true.mpr h2⟩
/-! values with lists -/
mutual
inductive Lp (H : Hp) : V → PyData → Prop
  | non : Lp H .non .none
  | int (i : Int) : Lp H (.int i) (.int i)
  | tup {a : Addr} {xs : List V} {ds : List PyData} : H a = some (.tup xs) → LpAll H xs ds → Lp H (.ref a) (.tuple ds)
  | lst {a : Addr} {xs : List V} {ds : List PyData} : H a = some (.lst xs) → LpAll H xs ds → Lp H (.ref a) (.list ds)
inductive LpAll (H : Hp) : List V → List PyData → Prop
  | nil : LpAll H [] []
  | cons {v : V} {vs : List V} {d : PyData} {ds : List PyData} : Lp H v d → LpAll H vs ds → LpAll H (v :: vs) (d :: ds)
end
mutual
theorem Lp.keep {H H' : Hp} (k : Same H H') : ∀ {v : V} {d : PyData}, Lp H v d → Lp H' v d
  | _, _, .non => .non
  | _, _, .int i => .int i
  | _, _, .tup h a => .tup (k _ _ h) (LpAll.keep k a)
  | _, _, .lst h a => .lst (k _ _ h) (LpAll.keep k a)
theorem LpAll.keep {H H' : Hp} (k : Same H H') : ∀ {vs : List V} {ds : List PyData}, LpAll H vs ds → LpAll H' vs ds
  | _, _, .nil => .nil
  | _, _, .cons h t => .cons (Lp.keep k h) (LpAll.keep k t)
end
mutual
theorem Rp.lp {H : Hp} : ∀ {n : Nat} {v : V} {d : PyData}, Rp H v d → plw n d = true → Lp H v d
  | _, _, _, .non, _ => .non
  | _, _, _, .int i, _ => .int i
  | 0, _, _, .str x, h => by cases h
  | n + 1, _, _, .str x, h => by cases h
  | 0, _, _, .tup h a, hp => by cases hp
  | n + 1, _, _, .tup h a, hp => .tup h (RpAll.lp a (plw_all hp).2)
theorem RpAll.lp {H : Hp} : ∀ {n : Nat} {vs : List V} {ds : List PyData}, RpAll H vs ds → (∀ d ∈ ds, plw n d = true) → LpAll H vs ds
  | _, _, _, .nil, _ => .nil
  | n, _, _, .cons h t, hp => .cons (Rp.lp (n := n) h (hp _ (List.mem_cons_self ..))) (RpAll.lp t fun d hd => hp d (List.mem_cons_of_mem _ hd))
end
theorem LpAll.length {H : Hp} : ∀ {vs : List V} {ds : List PyData}, LpAll H vs ds → vs.length = ds.length
  | _, _, .nil => rfl
  | _, _, .cons _ t => congrArg (· + 1) (LpAll.length t)
theorem LpAll.at {H : Hp} : ∀ {vs : List V} {ds : List PyData} {i : Nat}, LpAll H vs ds → i < ds.length → ∃ v d, vs[i]? = some v ∧ ds[i]? = some d ∧ d ∈ ds ∧ Lp H v d
  | _, _, i, .nil, h => absurd h (Nat.not_lt_zero i)
  | _, _, 0, .cons h t, _ => ⟨_, _, rfl, rfl, List.mem_cons_self .., h⟩
  | _, _, i + 1, .cons h t, hi => by
    obtain ⟨v, d, h1, h2, h3, h4⟩ := LpAll.at (i := i) t (Nat.lt_of_succ_lt_succ hi)
    exact ⟨v, d, h1, h2, List.mem_cons_of_mem _ h3, h4⟩
theorem k_lt : kitB "list" "list" = some true := by decide +kernel
theorem k_tl : kitB "tuple" "list" = some false := by decide +kernel
theorem k_lT : kitB "list" "tuple" = some false := by decide +kernel
theorem k_iT : kitB "int" "tuple" = some false := by decide +kernel
theorem k_il : kitB "int" "list" = some false := by decide +kernel
theorem k_is' : kitB "int" "str" = some false := by decide +kernel
theorem k_nT : kitB "NoneType" "tuple" = some false := by decide +kernel
theorem k_nl : kitB "NoneType" "list" = some false := by decide +kernel
theorem k_ns : kitB "NoneType" "str" = some false := by decide +kernel
theorem any_tl {K : PySem.W.Frag} {t : String} {b1 b2 : Bool} (h1 : kitB t "tuple" = some b1) (h2 : kitB t "list" = some b2) : PySem.W.kitAny K (.type t) [.type "tuple", .type "list"] = some (b1 || b2) :=
  kitAny_cons (kit_ty h1) (fun e => kitAny_cons (kit_ty h2) (fun e2 => by rw [e, e2]; exact kitAny_nil) fun e2 => by rw [e2]; cases b1 <;> rfl) fun e => by rw [e]; rfl
section
variable {P : Program} {w : World} {K : PySem.W.Frag} {mg : Str → Option Value} {base : Heap} {CW CR CS CT CF : Addr} {f : Addr} {fd : FuncData}

def spPick (K : PySem.W.Frag) : Sp := fun vs H Q _ => ∃ (p l sc : Addr) (ns : List Int) (a b : Int), vs = [.ref p, .ref l] ∧ RowAt K H p sc ns ∧ H l = some (.lst [.int a, .int b]) ∧ ∀ H' (v : Int), (v = a ∨ v = b) → RowAt K H' p sc ns → FR H H' p → Q (.int v) H'
theorem sc__law_pick : FnScope ["_law_row", "_law_things"] ["_law_row", "_law_things"] (C8.fnScope (top 66)) := C8.fnScope_by (by decide +kernel)
theorem ok_pick (T : Txt K mg CW CR CS CT CF) (c__law_taken : Ca P w K mg base 1 "_law_taken" (spTaken K)) (F : C8.Def K mg "_law_pick" (top 66) f fd) (b : Binds K fd ["_law_row", "_law_things"] []) : Ca P w K mg base 2 "_law_pick" (spPick K) := by
  refine C8.cal0 F b .nil sc__law_pick (fun vs H Q E h => ?_) (fun cdv A outer s H vs Q E hr h => ?_)
  · obtain ⟨_, _, _, _, _, _, rfl, _⟩ := h; rfl
  · obtain ⟨p, l, sc, ns, x, y, rfl, R, hl, k⟩ := h
    refine ⟨_, (pss_one (ps_ret (pe_ix (ix_listK K) (pv 1) (C8.pe_c c__law_taken hr (by decide) (by rfl) (pa_cons (pv 0) (pa_cons (pe_callB (len_K K) (by rfl) T.len (by decide +kernel) (pa_cons (pv 1) pa_nil)) pa_nil))) (fun _ _ => rfl)))), ?_⟩
    refine ⟨_, rfl, _, rfl, _, rfl, _, _, rfl, .inl (SqL.of hl), p, sc, ns, 2, rfl, R, by decide, by decide, fun H1 v hv R1 f1 => ?_⟩
    have npl : l ≠ p := by
      obtain ⟨i, a1, a2, h1, h2⟩ := R
      intro e
      rw [e, h1] at hl
      cases hl
    have hl1 := f1 _ _ hl npl
    match v, hv with
    | 0, _ => exact ⟨l, _, _, _, rfl, rfl, SqL.of hl1, rfl, k _ _ (.inl rfl) R1 f1⟩
    | 1, _ => exact ⟨l, _, _, _, rfl, rfl, SqL.of hl1, rfl, k _ _ (.inr rfl) R1 f1⟩
def spSigned (K : PySem.W.Frag) : Sp := fun vs H Q _ => ∃ (p sc : Addr) (ns : List Int) (m : Nat), vs = [.ref p, .int m] ∧ RowAt K H p sc ns ∧ m ≤ 1000 ∧ ∀ H' (v : Int), -(m : Int) ≤ v → v ≤ m → RowAt K H' p sc ns → FR H H' p → Q (.int v) H'
theorem sc__law_signed : FnScope ["_law_row", "_law_most"] ["_law_row", "_law_most"] (C8.fnScope (top 67)) := C8.fnScope_by (by decide +kernel)
theorem ok_signed (T : Txt K mg CW CR CS CT CF) (c__law_taken : Ca P w K mg base 1 "_law_taken" (spTaken K)) (F : C8.Def K mg "_law_signed" (top 67) f fd) (b : Binds K fd ["_law_row", "_law_most"] []) : Ca P w K mg base 2 "_law_signed" (spSigned K) := by
  refine C8.cal0 F b .nil sc__law_signed (fun vs H Q E h => ?_) (fun cdv A outer s H vs Q E hr h => ?_)
  · obtain ⟨_, _, _, _, rfl, _⟩ := h; rfl
  · obtain ⟨p, sc, ns, m, rfl, R, hm, k⟩ := h
    refine ⟨_, (pss_one (ps_ret (pe_op op_sub (C8.pe_c c__law_taken hr (by decide) (by rfl) (pa_cons (pv 0) (pa_cons (pe_op op_add (pe_op op_mul pe_int (pv 1)) pe_int) pa_nil))) (pv 1)))), ?_⟩
    have e : 2 * (m : Int) + 1 = ((2 * m + 1 : Nat) : Int) := by omega
    refine ⟨_, rfl, _, rfl, _, _, rfl, rfl, .inl ⟨by decide, by decide⟩, _, _, rfl, rfl, p, sc, ns, 2 * m + 1, by rw [← e]; rfl, R, by omega, by omega, fun H1 v hv R1 f1 => ?_⟩
    refine ⟨_, rfl, _, _, rfl, rfl, k _ _ (by omega) (by omega) R1 f1⟩

/-! ### _law_alike -/
def spAlike : Nat → Sp
  | 0 => fun _ _ _ _ => False
  | n + 1 => fun vs H Q _ => ∃ (v u : V) (d : PyData), vs = [v, u] ∧ Lp H v d ∧ Lp H u d ∧ plw n d = true ∧ ∀ H', Same H H' → Q (.bl true) H'
theorem sc__law_alike : FnScope ["_law_found", "_law_due", "_law_k"] ["_law_found", "_law_due"] (C8.fnScope (top 68)) := C8.fnScope_by (by decide +kernel)
theorem ix_seqK {X : Cx} (K : PySem.W.Frag) (hK : X.K = K := by rfl) : IxR X (rIx K) := by subst hK; exact ix_seq
theorem alike_step (n : Nat) (T : Txt K mg CW CR CS CT CF) (c__law_alike : Ca P w K mg base n "_law_alike" (spAlike n)) (F : C8.Def K mg "_law_alike" (top 68) f fd) (b : Binds K fd ["_law_found", "_law_due"] []) : Ca P w K mg base (n + 1) "_law_alike" (spAlike (n + 1)) := by
  refine C8.cal0 F b .nil sc__law_alike (fun vs H Q E h => ?_) (fun cdv A outer s H vs Q E hr h => ?_)
  · obtain ⟨_, _, _, rfl, _⟩ := h; rfl
  · obtain ⟨v, u, d, rfl, hv, hu, hpl, k⟩ := h
    refine ⟨_, (pss_cons (ps_if (pt_val (pe_callB (isiT_K K) (by rfl) T.isi (by decide +kernel) (pa_cons (pv 1) (pa_cons (pe_tup (pa_cons (pe_bltn (by rfl) T.tuple boot_tuple (v := .ty "tuple") rfl) (pa_cons (pe_bltn (by rfl) T.list boot_list (v := .ty "list") rfl) pa_nil))) pa_nil)))) (pss_cons (ps_if (PW.pt (pw_or (pt_not (pt_val (pe_callB (isiT_K K) (by rfl) T.isi (by decide +kernel) (pa_cons (pv 0) (pa_cons (pe_tup (pa_cons (pe_bltn (by rfl) T.tuple boot_tuple (v := .ty "tuple") rfl) (pa_cons (pe_bltn (by rfl) T.list boot_list (v := .ty "list") rfl) pa_nil))) pa_nil))))) (pw_or1 (pt_cmpR op_ne (pe_callB call_isiB (by rfl) T.isi (by decide +kernel) (pa_cons (pv 0) (pa_cons (pe_bltn (by rfl) T.list boot_list (v := .ty "list") rfl) pa_nil))) (pe_callB call_isiB (by rfl) T.isi (by decide +kernel) (pa_cons (pv 1) (pa_cons (pe_bltn (by rfl) T.list boot_list (v := .ty "list") rfl) pa_nil))) (nomark _))))) (pss_one (ps_ret pe_bl)) pss_nil)
      (pss_cons (ps_if (pt_cmpR op_ne (pe_callB (len_K K) (by rfl) T.len (by decide +kernel) (pa_cons (pv 0) pa_nil)) (pe_callB (len_K K) (by rfl) T.len (by decide +kernel) (pa_cons (pv 1) pa_nil)) (nomark _)) (pss_one (ps_ret pe_bl)) pss_nil)
      (pss_one (ps_ret (pe_cmpR (eqD_K K (hu64 hr)) (pe_lc (own := [("_law_k", 2)]) (by rfl) sc__law_alike.nd (pi_range1 (by rfl) T.range (pa_cons (pe_callB (len_K K) (by rfl) T.len (by decide +kernel) (pa_cons (pv 1) pa_nil)) pa_nil)) (blkOk_by (own := [("_law_k", 2)]) (N := ["_law_found", "_law_due", "_law_k"]) (sc := C8.fnScope (top 68)) (by decide +kernel)) (fun _ _ _ _ _ => (pg_name (i := 2) sc__law_alike.nd rfl (.inl rfl))) (fun _ _ _ _ _ => (pts_one (pt_not (pt_val (C8.pe_c c__law_alike hr (Nat.le_refl _) (by rfl) (pa_cons (pe_ix (ix_seqK K) (pv 0) (pv 2) (fun _ _ => rfl)) (pa_cons (pe_ix (ix_seqK K) (pv 1) (pv 2) (fun _ _ => rfl)) pa_nil))))))) (fun _ _ _ _ _ => (pv 2))) (pe_lst pa_nil) (nomark _)))))) pss_nil)
      (pss_cons (ps_if (PW.pt (pw_or (pt_cmpR op_isN (pv 1) pe_non (nomark _)) (pw_or1 (pt_val (pe_callB call_isiB (by rfl) T.isi (by decide +kernel) (pa_cons (pv 1) (pa_cons (pe_bltn (by rfl) T.str boot_str (v := .ty "str") rfl) pa_nil))))))) (pss_one (ps_ret (pe_and (pe_cmpR op_eq (pv 0) (pv 1) (nomark _)) (pe_one (pe_cmpR op_eq (pe_callB call_isiB (by rfl) T.isi (by decide +kernel) (pa_cons (pv 0) (pa_cons (pe_bltn (by rfl) T.str boot_str (v := .ty "str") rfl) pa_nil))) (pe_callB call_isiB (by rfl) T.isi (by decide +kernel) (pa_cons (pv 1) (pa_cons (pe_bltn (by rfl) T.str boot_str (v := .ty "str") rfl) pa_nil))) (nomark _)))))) pss_nil)
      (pss_one (ps_ret (pe_and (pe_callB call_isiB (by rfl) T.isi (by decide +kernel) (pa_cons (pv 0) (pa_cons (pe_bltn (by rfl) T.int boot_int (v := .ty "int") rfl) pa_nil))) (pe_and (pe_cmpR op_eq (pe_callB call_isiB (by rfl) T.isi (by decide +kernel) (pa_cons (pv 0) (pa_cons (pe_bltn (by rfl) T.bool boot_bool (v := .ty "bool") rfl) pa_nil))) (pe_callB call_isiB (by rfl) T.isi (by decide +kernel) (pa_cons (pv 1) (pa_cons (pe_bltn (by rfl) T.bool boot_bool (v := .ty "bool") rfl) pa_nil))) (nomark _)) (pe_one (pe_cmpR op_eq (pv 0) (pv 1) (nomark _))))))))), ?_⟩
    cases hv with
    | non =>
      cases hu
      refine ⟨_, rfl, by show 2 ≤ sizeLine; decide, fun p1 hp1 => ?_⟩
      have g1 := Same.new (o := .tup [V.ty "tuple", V.ty "list"]) hp1
      refine ⟨_, p1, _, _, _, _, rfl, upd_same, .cons (.ty _) (.cons (.ty _) .nil), Kd.x .non, any_tl k_nT k_nl, _, rfl, iteF ?_⟩
      refine ⟨_, rfl, rfl, _, rfl, iteT (iteT ?_)⟩
      refine ⟨_, rfl, _, rfl, rfl, _, rfl, ?_⟩
      refine iteD rfl ?_
      refine ⟨_, rfl, _, _, _, _, rfl, .non, k_ns, _, rfl, _, _, _, _, rfl, .non, k_ns, rfl, ?_⟩
      exact k _ g1
    | int i =>
      cases hu
      refine ⟨_, rfl, by show 2 ≤ sizeLine; decide, fun p1 hp1 => ?_⟩
      have g1 := Same.new (o := .tup [V.ty "tuple", V.ty "list"]) hp1
      refine ⟨_, p1, _, _, _, _, rfl, upd_same, .cons (.ty _) (.cons (.ty _) .nil), Kd.x (.int _), any_tl k_iT k_il, _, rfl, iteF ?_⟩
      refine ⟨_, rfl, rfl, _, rfl, iteF ⟨_, rfl, _, _, _, _, rfl, .int _, k_is', _, rfl, iteF ?_⟩⟩
      refine ⟨_, rfl, _, _, _, _, rfl, .int _, k_ii, _, rfl, iteT ?_⟩
      refine ⟨_, rfl, _, _, _, _, rfl, .int _, k_ib, _, rfl, _, _, _, _, rfl, .int _, k_ib, rfl, _, rfl, iteD rfl ?_⟩
      refine ⟨_, rfl, _, rfl, rfl, ?_⟩
      rw [decide_eq_true (rfl : V.int i = V.int i)]
      exact k _ g1
    | tup h a =>
      rename_i av xs ds
      cases hu with
      | tup h' a' =>
        rename_i au ys
        cases n with
        | zero => cases hpl
        | succ n =>
        obtain ⟨hw, hds⟩ := plw_all hpl
        have lx := a.length
        have ly := a'.length
        refine ⟨_, rfl, by show 2 ≤ sizeLine; decide, fun p1 hp1 => ?_⟩
        have g1 := Same.new (o := .tup [V.ty "tuple", V.ty "list"]) hp1
        refine ⟨_, p1, _, _, _, _, rfl, upd_same, .cons (.ty _) (.cons (.ty _) .nil), Kd.x (.tup (g1 _ _ h')), any_tl k_tt k_tl, _, rfl, iteT ?_⟩
        refine ⟨_, rfl, by show 2 ≤ sizeLine; decide, fun p2 hp2 => ?_⟩
        have g2 := g1.trans (Same.new (o := .tup [V.ty "tuple", V.ty "list"]) hp2)
        refine ⟨_, p2, _, _, _, _, rfl, upd_same, .cons (.ty _) (.cons (.ty _) .nil), Kd.x (.tup (g2 _ _ h)), any_tl k_tt k_tl, _, rfl, iteF ?_⟩
        refine ⟨_, rfl, _, _, _, _, rfl, .tup (g2 _ _ h), k_tl, _, rfl, _, _, _, _, rfl, .tup (g2 _ _ h'), k_tl, rfl, _, rfl, iteND rfl ?_⟩
        refine ⟨_, rfl, _, _, rfl, .inr (SqT.of (g2 _ _ h)), _, rfl, _, _, rfl, .inr (SqT.of (g2 _ _ h')), rfl, _, rfl, iteND (by rw [lx, ly]) ?_⟩
        generalize upd (upd H p1 (.tup [V.ty "tuple", V.ty "list"])) p2 (.tup [V.ty "tuple", V.ty "list"]) = H2 at g2
        refine ⟨_, rfl, _, _, rfl, .inr (SqT.of (g2 _ _ h')), ys.length, rfl, by omega, by omega, fun D hD => lc_it walk_range (fun i H3 => Same H2 H3 ∧ H3 D = some (.lst [])) ⟨Same.new hD, upd_same⟩ (fun i H3 _ _ => trivial) ?_ ?_⟩
        · rintro i y H3 H4 hi ⟨sm, hd⟩ ⟨rfl, rfl⟩
          rw [Int.toNat_natCast, ly] at hi
          obtain ⟨v1, d1, e1, e2, e3, e4⟩ := a.at hi
          obtain ⟨u1, d2, e5, e6, e7, e8⟩ := a'.at hi
          rw [e2] at e6
          cases e6
          have s3 := g2.trans sm
          refine ⟨rfl, _, rfl, _, rfl, .inr (.inl ⟨av, xs, _, v1, rfl, rfl, SqT.of (s3 _ _ h), at_of (j := i) (by omega) e1, _, rfl, _, rfl, .inr (.inl ⟨au, ys, _, u1, rfl, rfl, SqT.of (s3 _ _ h'), at_of (j := i) (by omega) e5, ?_⟩)⟩)⟩
          exact ⟨v1, u1, d1, rfl, e4.keep s3, e8.keep s3, hds _ e3, fun H5 s5 => ⟨_, rfl, iteF ⟨sm.trans s5, s5 _ _ hd⟩⟩⟩
        · rintro H3 ⟨sm, hd⟩
          refine ⟨Nat.zero_le _, fun p3 hp3 => ⟨.list [], .list [], dp_nil (by rw [upd_ne (ne_of_none hd hp3)]; exact hd), dp_nil upd_same, shaped_nil, shaped_nil, ?_⟩⟩
          exact k _ ((g2.trans sm).trans (Same.new hp3))
    | lst h a =>
      rename_i av xs ds
      cases hu with
      | lst h' a' =>
        rename_i au ys
        cases n with
        | zero => cases hpl
        | succ n =>
        obtain ⟨hw, hds⟩ := plw_all hpl
        have lx := a.length
        have ly := a'.length
        refine ⟨_, rfl, by show 2 ≤ sizeLine; decide, fun p1 hp1 => ?_⟩
        have g1 := Same.new (o := .tup [V.ty "tuple", V.ty "list"]) hp1
        refine ⟨_, p1, _, _, _, _, rfl, upd_same, .cons (.ty _) (.cons (.ty _) .nil), Kd.x (.lst (g1 _ _ h')), any_tl k_lT k_lt, _, rfl, iteT ?_⟩
        refine ⟨_, rfl, by show 2 ≤ sizeLine; decide, fun p2 hp2 => ?_⟩
        have g2 := g1.trans (Same.new (o := .tup [V.ty "tuple", V.ty "list"]) hp2)
        refine ⟨_, p2, _, _, _, _, rfl, upd_same, .cons (.ty _) (.cons (.ty _) .nil), Kd.x (.lst (g2 _ _ h)), any_tl k_lT k_lt, _, rfl, iteF ?_⟩
        refine ⟨_, rfl, _, _, _, _, rfl, .lst (g2 _ _ h), k_lt, _, rfl, _, _, _, _, rfl, .lst (g2 _ _ h'), k_lt, rfl, _, rfl, iteND rfl ?_⟩
        refine ⟨_, rfl, _, _, rfl, .inl (SqL.of (g2 _ _ h)), _, rfl, _, _, rfl, .inl (SqL.of (g2 _ _ h')), rfl, _, rfl, iteND (by rw [lx, ly]) ?_⟩
        generalize upd (upd H p1 (.tup [V.ty "tuple", V.ty "list"])) p2 (.tup [V.ty "tuple", V.ty "list"]) = H2 at g2
        refine ⟨_, rfl, _, _, rfl, .inl (SqL.of (g2 _ _ h')), ys.length, rfl, by omega, by omega, fun D hD => lc_it walk_range (fun i H3 => Same H2 H3 ∧ H3 D = some (.lst [])) ⟨Same.new hD, upd_same⟩ (fun i H3 _ _ => trivial) ?_ ?_⟩
        · rintro i y H3 H4 hi ⟨sm, hd⟩ ⟨rfl, rfl⟩
          rw [Int.toNat_natCast, ly] at hi
          obtain ⟨v1, d1, e1, e2, e3, e4⟩ := a.at hi
          obtain ⟨u1, d2, e5, e6, e7, e8⟩ := a'.at hi
          rw [e2] at e6
          cases e6
          have s3 := g2.trans sm
          refine ⟨rfl, _, rfl, _, rfl, .inl (⟨av, xs, _, v1, rfl, rfl, SqL.of (s3 _ _ h), at_of (j := i) (by omega) e1, _, rfl, _, rfl, .inl (⟨au, ys, _, u1, rfl, rfl, SqL.of (s3 _ _ h'), at_of (j := i) (by omega) e5, ?_⟩)⟩)⟩
          exact ⟨v1, u1, d1, rfl, e4.keep s3, e8.keep s3, hds _ e3, fun H5 s5 => ⟨_, rfl, iteF ⟨sm.trans s5, s5 _ _ hd⟩⟩⟩
        · rintro H3 ⟨sm, hd⟩
          refine ⟨Nat.zero_le _, fun p3 hp3 => ⟨.list [], .list [], dp_nil (by rw [upd_ne (ne_of_none hd hp3)]; exact hd), dp_nil upd_same, shaped_nil, shaped_nil, ?_⟩⟩
          exact k _ ((g2.trans sm).trans (Same.new hp3))
theorem ok_alike (T : Txt K mg CW CR CS CT CF) (F : C8.Def K mg "_law_alike" (top 68) f fd) (b : Binds K fd ["_law_found", "_law_due"] []) : ∀ n : Nat, Ca P w K mg base n "_law_alike" (spAlike n)
  | 0 => ⟨f, fd, ["_law_found", "_law_due"], [], ⟨fun _ _ _ _ h => h.elim, fun _ _ _ _ _ _ _ _ _ _ _ _ _ h => h.elim⟩, F.mgf, F.kp, b, .nil⟩
  | n + 1 => alike_step n T (ok_alike T F b n) F b
end
end TP
set_option Elab.async false
set_option linter.all false
set_option maxRecDepth 100000
set_option maxHeartbeats 8000000
namespace TP
open PySem PySem.Spec PyProof.Rows L2
theorem RowAt.tk {K : PySem.W.Frag} {H H' : Hp} {p sc : Addr} {ns : List Int} (r : RowAt K H p sc ns) (f : FR H H' p) : TK H H' := by
  obtain ⟨i, a, b, h1, h2⟩ := r
  exact fun q xs h => f _ _ h (ne_of h h1 fun z => by cases z)
def RuleOk (S G : Nat) (o : Rule) : Prop := ∀ w m q, o = some (w, m, q) → (0 ≤ w ∧ w < G) ∧ (m = 1 ∨ m = -1) ∧ (0 ≤ q ∧ q < S)
def MachOk (M : Mach) (S G : Nat) : Prop := ∀ r ∈ M, r.length = G ∧ ∀ o ∈ r, RuleOk S G o
theorem MachOk.good {M : Mach} {S G : Nat} (h : MachOk M S G) (hl : M.length = S) (s1 : 1 ≤ S) (s2 : S ≤ 2) (g1 : 2 ≤ G) (g2 : G ≤ 3) : Good M S G :=
  ⟨hl, fun i r e => (h r (List.mem_of_getElem? e)).1, fun i j r w m q e1 e2 => (h r (List.mem_of_getElem? e1)).2 _ (List.mem_of_getElem? e2) w m q rfl, s1, s2, g1, g2⟩
/-- what stands while the law runs: the first heap H0, the row at p -/
structure Lw (K : PySem.W.Frag) (H0 H : Hp) (p sc : Addr) (ns : List Int) : Prop where
  same : Same H0 H
  sq : SqL K H0 sc (ns.map V.int)
  row : RowAt K H p sc ns
  new : H0 p = none
theorem Lw.keep {K : PySem.W.Frag} {H0 H H' : Hp} {p sc : Addr} {ns : List Int} (w : Lw K H0 H p sc ns) (s : Same H H') : Lw K H0 H' p sc ns := ⟨w.same.trans s, w.sq, w.row.keep s, w.new⟩
theorem Lw.took {K : PySem.W.Frag} {H0 H H' : Hp} {p sc : Addr} {ns : List Int} (w : Lw K H0 H p sc ns) (r : RowAt K H' p sc ns) (f : FR H H' p) : Lw K H0 H' p sc ns := ⟨fun b o h => f _ _ (w.same _ _ h) (ne_of_none h w.new), w.sq, r, w.new⟩
theorem Lw.put {K : PySem.W.Frag} {H0 H : Hp} {p q sc : Addr} {ns : List Int} {o' : HO} (w : Lw K H0 H p sc ns) (hq : H0 q = none) (ne : q ≠ p) : Lw K H0 (upd H q o') p sc ns := by
  have s : Same H0 (upd H q o') := Same.wr w.same hq
  refine ⟨s, w.sq, ?_, w.new⟩
  obtain ⟨i, a, b, h1, h2⟩ := w.row
  exact ⟨i, a, b, by rw [upd_ne ne.symm]; exact h1, s.seq w.sq⟩
theorem plw_its {is : List Int} (h : is.length ≤ 2000) : plw 1 (itD is) = true := plw_tup (by rw [List.length_map]; exact h) fun d hd => by
  obtain ⟨i, _, rfl⟩ := List.mem_map.mp hd
  rfl
theorem plw_up : ∀ {n : Nat} {d : PyData}, plw n d = true → plw (n + 1) d = true
  | _, .none, _ => rfl
  | _, .int _, _ => rfl
  | n + 1, .list ds, h => by
    obtain ⟨h1, h2⟩ := plw_all h
    show (decide (ds.length ≤ 2000) && ds.all (plw (n + 1))) = true
    rw [Bool.and_eq_true_iff]
    exact ⟨decide_eq_true h1, List.all_eq_true.mpr fun d hd => plw_up (h2 d hd)⟩
  | n + 1, .tuple ds, h => by
    obtain ⟨h1, h2⟩ := plw_all h
    exact plw_tup h1 fun d hd => plw_up (h2 d hd)
  | 0, .list _, h => by cases h
  | 0, .tuple _, h => by cases h
  | 0, .bool _, h => by cases h
  | n + 1, .bool _, h => by cases h
  | 0, .str _, h => by cases h
  | n + 1, .str _, h => by cases h
  | 0, .dict _, h => by cases h
  | n + 1, .dict _, h => by cases h
theorem plw_tr (o : Rule) : plw 1 (trD o) = true := by
  cases o with
  | none => rfl
  | some t => exact plw_its (is := [t.1, t.2.1, t.2.2]) (by show 3 ≤ 2000; decide)
theorem plw_tab {M : Mach} {S G : Nat} (g : Good M S G) : plw 3 (gridD (tabOf M)) = true := by
  have s2 := g.s2
  have g2 := g.g2
  have t := g.tab
  refine plw_tup (by rw [List.length_map, t.len]; omega) fun d hd => ?_
  obtain ⟨r, hr, rfl⟩ := List.mem_map.mp hd
  obtain ⟨i, hi, e⟩ := List.getElem_of_mem hr
  have := t.row i r (by rw [List.getElem?_eq_getElem hi, e])
  refine plw_tup (by rw [List.length_map]; omega) fun d hd => ?_
  obtain ⟨o, _, rfl⟩ := List.mem_map.mp hd
  exact plw_tr o
theorem plw_rows {S : List (Int × Int)} (h : S.length ≤ 2000) : plw 2 (rowsD S) = true := plw_tup (by rw [List.length_map]; exact h) fun d hd => by
  obtain ⟨p, _, rfl⟩ := List.mem_map.mp hd
  exact plw_its (by show 2 ≤ 2000; decide)
theorem plw_floor {S : List (Int × Int)} (h : S.length ≤ 2000) : plw 2 (floorD S) = true := plw_tup (by rw [List.length_map]; exact h) fun d hd => by
  obtain ⟨p, _, rfl⟩ := List.mem_map.mp hd
  exact plw_its (by show 3 ≤ 2000; decide)
theorem plw_run {S : List (Int × Int)} {c : Cfg} {k : Nat} (h : S.length ≤ 2000) : plw 3 (runD S c k) = true := plw_tup (by show 4 ≤ 2000; decide) fun d hd => by
  rcases List.mem_cons.mp hd with rfl | hd
  · exact plw_rows h
  · rcases List.mem_cons.mp hd with rfl | hd
    · rfl
    · rcases List.mem_cons.mp hd with rfl | hd
      · rfl
      · rw [List.mem_singleton.mp hd]; rfl
theorem plw_stand {S : List (Int × Int)} {c : Cfg} (h : S.length ≤ 2000) : plw 3 (standD S c) = true := plw_tup (by show 2 ≤ 2000; decide) fun d hd => by
  rcases List.mem_cons.mp hd with rfl | hd
  · exact plw_floor h
  · rw [List.mem_singleton.mp hd]
    have := plw_its (is := [c.x, 0, hdg c.b, sd c.q c.b]) (by show 4 ≤ 2000; decide)
    exact plw_up this
theorem Rp.of_run {H : Hp} {v : V} {S : List (Int × Int)} {c : Cfg} {k : Nat} (h : Rp H v (runD S c k)) : ∃ a u, v = .ref a ∧ H a = some (.tup [u, .int c.x, .int c.q, .int (k : Nat)]) := by
  obtain ⟨a, xs, rfl, ha, hx⟩ := Rp.of_tup h
  cases hx with
  | cons h1 t1 => cases t1 with
    | cons h2 t2 => cases t2 with
      | cons h3 t3 => cases t3 with
        | cons h4 t4 => cases t4 with
          | nil =>
            rw [Rp.of_int h2, Rp.of_int h3, Rp.of_int h4] at ha
            exact ⟨a, _, rfl, ha⟩
theorem Tp.keep {H H' : Hp} {v t : V} {M : Mach} {S G : Nat} {tape : List Int} {h q : Int} (p : Tp H v t M S G tape h q) (k : TK H H') : Tp H' v t M S G tape h q := ⟨Rp.keep k p.v, p.good, Rp.keep k p.t, p.ok, p.far, p.q⟩
theorem par_keep {H H' : Hp} (k : TK H H') : ∀ {as : List Addr} {L : List (Int × Int)}, Paired (fun (p : Addr) (kv : Int × Int) => H p = some (.tup [.int kv.1, .int kv.2])) as L → Paired (fun (p : Addr) (kv : Int × Int) => H' p = some (.tup [.int kv.1, .int kv.2])) as L
  | _, _, .nil => .nil
  | _, _, .cons h t => .cons (k _ _ h) (par_keep k t)
theorem par_sq {K : PySem.W.Frag} {H : Hp} : ∀ {as : List Addr} {L : List (Int × Int)}, Paired (fun (p : Addr) (kv : Int × Int) => H p = some (.tup [.int kv.1, .int kv.2])) as L → Paired (fun (p : Addr) (kv : Key × V) => SqT K H p [kV kv.1, kv.2]) as (encK L)
  | _, _, .nil => .nil
  | _, _, .cons h t => .cons (SqT.of h) (par_sq t)
theorem merge_tape (tape : List Int) : ∀ n : Nat, mergeK [] (encK (tapeL tape n)) = encK (tapeL tape n)
  | 0 => rfl
  | n + 1 => by
    have ih : (encK (tapeL tape n)).foldl (fun acc kv => putK acc kv.1 kv.2) [] = encK (tapeL tape n) := merge_tape tape n
    have e : encK (tapeL tape (n + 1)) = encK (tapeL tape n) ++ [(ik (n : Nat), V.int ((tape[n]?).getD 0))] := by
      rw [tapeL_succ]
      exact List.map_append
    rw [e]
    unfold mergeK
    rw [List.foldl_append, ih]
    exact putK_new _ (lookK_none fun hm => by have := (tapeL_keys tape n _).mp hm; omega)
section
variable {P : Program} {w : World} {K : PySem.W.Frag} {mg : Str → Option Value} {base : Heap} {CW CR CS CT CF : Addr} {f : Addr} {fd : FuncData}

def spLaw (K : PySem.W.Frag) : Sp := fun vs H Q _ => ∃ (a : Addr) (ns : List Int), vs = [.ref a] ∧ SqL K H a (ns.map V.int) ∧ ∀ H', Q (.bl true) H'
theorem sc_law : FnScope ["_law_script", "_law_row", "_law_states", "_law_signs", "_law_machine", "_law_due", "_law_state", "_law_line", "_law_sign", "_law_rule", "_law_tape", "_law_head", "_law_many", "_law_heading", "_law_found", "_law_goes", "_law_cells", "_law_at", "_law_now", "_law_done", "_law_turn", "_law_told", "_law_floor", "_law_walker", "_law_after", "_law_paper", "_law_step", "_law_here", "_law_run", "_law_square", "_law_k"] ["_law_script"] (C8.fnScope (top 69)) := C8.fnScope_by (by decide +kernel)
theorem dictP_K {X : Cx} (K : PySem.W.Frag) (hc : X.calm = true) (hK : X.K = K := by rfl) : CallR X (.type "dict") (fun xs H Q => ∃ (a : Addr) (ps : List Addr) (kvs : List (Key × V)), xs = [.ref a] ∧ SqL K H a (ps.map V.ref) ∧ Paired (fun p kv => SqT K H p [kV kv.1, kv.2]) ps kvs ∧ ∀ p, H p = none → Q (.ref p) (upd H p (.dK (mergeK [] kvs)))) := by subst hK; exact call_dictP hc
theorem ok_law (T : Txt K mg CW CR CS CT CF) (c__law_taken : Ca P w K mg base 1 "_law_taken" (spTaken K)) (c__law_pick : Ca P w K mg base 2 "_law_pick" (spPick K)) (c__law_signed : Ca P w K mg base 2 "_law_signed" (spSigned K)) (c_alike4 : Ca P w K mg base 4 "_law_alike" (spAlike 4)) (c_alike5 : Ca P w K mg base 5 "_law_alike" (spAlike 5))
    (c_walker_table : Ca P w K mg base 4 "walker_table" spTab) (c_tape_run : Ca P w K mg base 5 "tape_run" (spRun 10000)) (c_tape_by_walker : Ca P w K mg base 6 "tape_by_walker" (spRun 3000)) (c_tape_stand : Ca P w K mg base 5 "tape_stand" spTStand) (c_walk : Ca P w K mg base 6 "walk" spWalkF) (c_find_paper : Ca P w K mg base 9 "find_paper" spFind) (c_walker_at : Ca P w K mg base 11 "walker_at" spWalkerAt)
    (F : C8.Fun K "law" "law" (top 69) f fd) : FnOk P w K mg base CX0 12 f fd ["_law_script"] (spLaw K) := by
  refine C8.fn0 F sc_law (fun vs H Q E h => ?_) (fun cdv A outer s H vs Q E hr h => ?_)
  · obtain ⟨_, _, rfl, _⟩ := h; rfl
  · obtain ⟨a, ns, rfl, hsc, k⟩ := h
    refine ⟨_, (pss_cons (ps_set (i := 1) sc_law.nd rfl (.inr rfl) (pe_lst (pa_cons (pv 0) (pa_cons pe_int (pa_cons pe_int (pa_cons pe_int pa_nil))))))
      (pss_cons (ps_asg (pe_tup (pa_cons (pe_op op_add pe_int (C8.pe_c c__law_taken hr (by decide) (by rfl) (pa_cons (pv 1) (pa_cons pe_int pa_nil)))) (pa_cons (pe_op op_add pe_int (C8.pe_c c__law_taken hr (by decide) (by rfl) (pa_cons (pv 1) (pa_cons pe_int pa_nil)))) (pa_cons (pe_lst pa_nil) (pa_cons (pe_lst pa_nil) pa_nil))))) (pg_tupK K (n := 4) rfl (pgs_cons (pg_name (i := 2) sc_law.nd rfl (.inl rfl)) (pgs_cons (pg_name (i := 3) sc_law.nd rfl (.inr rfl)) (pgs_cons (pg_name (i := 4) sc_law.nd rfl (.inl rfl)) (pgs_cons (pg_name (i := 5) sc_law.nd rfl (.inl rfl)) pgs_nil))))))
      (C8.pss_cut (ps_for PassesOwn.never rfl (pi_range1 (by rfl) T.range (pa_cons (pv 2) pa_nil)) (pg_name (i := 6) sc_law.nd rfl (.inl rfl))
        (pss_cons (ps_set (i := 7) sc_law.nd rfl (.inl rfl) (pe_lst pa_nil))
      (pss_cons (ps_for PassesOwn.never rfl (pi_range1 (by rfl) T.range (pa_cons (pv 3) pa_nil)) (pg_name (i := 8) sc_law.nd rfl (.inl rfl))
        (pss_cons (ps_set (i := 9) sc_law.nd rfl (.inl rfl) (pe_tup (pa_cons (C8.pe_c c__law_taken hr (by decide) (by rfl) (pa_cons (pv 1) (pa_cons (pv 3) pa_nil))) (pa_cons (C8.pe_c c__law_pick hr (by decide) (by rfl) (pa_cons (pv 1) (pa_cons (pe_lst (pa_cons (pe_op op_sub pe_int pe_int) (pa_cons pe_int pa_nil))) pa_nil))) (pa_cons (C8.pe_c c__law_taken hr (by decide) (by rfl) (pa_cons (pv 1) (pa_cons (pv 2) pa_nil))) pa_nil)))))
      (pss_one (ps_expr (pe_bm PySem.F.plainAttrs_list PySem.F.slot_list_append PySem.F.type_list_append mt_append (pv 7) (pa_cons (pe_ifExp (pt_cmpR op_eq (C8.pe_c c__law_taken hr (by decide) (by rfl) (pa_cons (pv 1) (pa_cons pe_int pa_nil))) pe_int (nomark _)) pe_non (pv 9)) pa_nil))))))
      (pss_one (ps_expr (pe_bm PySem.F.plainAttrs_list PySem.F.slot_list_append PySem.F.type_list_append mt_append (pv 4) (pa_cons (pe_callTy (tup_K K) (by rfl) T.tuple (by decide +kernel) (pa_cons (pv 7) pa_nil)) pa_nil)))))))
      (pss_cons (ps_asg (pe_tup (pa_cons (pe_callTy (tup_K K) (by rfl) T.tuple (by decide +kernel) (pa_cons (pv 4) pa_nil)) (pa_cons (pe_callTy (tup_K K) (by rfl) T.tuple (by decide +kernel) (pa_cons (pe_lc (own := [("_law_k", 30)]) (by rfl) sc_law.nd (pi_range1 (by rfl) T.range (pa_cons (C8.pe_c c__law_taken hr (by decide) (by rfl) (pa_cons (pv 1) (pa_cons pe_int pa_nil))) pa_nil)) (blkOk_by (own := [("_law_k", 30)]) (N := ["_law_script", "_law_row", "_law_states", "_law_signs", "_law_machine", "_law_due", "_law_state", "_law_line", "_law_sign", "_law_rule", "_law_tape", "_law_head", "_law_many", "_law_heading", "_law_found", "_law_goes", "_law_cells", "_law_at", "_law_now", "_law_done", "_law_turn", "_law_told", "_law_floor", "_law_walker", "_law_after", "_law_paper", "_law_step", "_law_here", "_law_run", "_law_square", "_law_k"]) (sc := C8.fnScope (top 69)) (by decide +kernel)) (fun _ _ _ _ _ => (pg_name (i := 30) sc_law.nd rfl (.inl rfl))) (fun _ _ _ _ _ => pts_nil) (fun _ _ _ _ _ => (C8.pe_c c__law_taken hr (by decide) (by rfl) (pa_cons (pv 1) (pa_cons (pv 3) pa_nil))))) pa_nil)) pa_nil))) (pg_tupK K (n := 2) rfl (pgs_cons (pg_name (i := 4) sc_law.nd rfl (.inl rfl)) (pgs_cons (pg_name (i := 10) sc_law.nd rfl (.inr rfl)) pgs_nil))))
      (pss_cons (ps_par3 (i := 11) (j := 6) (l := 12) (by rfl) sc_law.nd rfl rfl rfl (by decide) (by decide) (by decide) rfl rfl rfl (pa_cons (C8.pe_c c__law_signed hr (by decide) (by rfl) (pa_cons (pv 1) (pa_cons pe_int pa_nil))) (pa_cons (C8.pe_c c__law_taken hr (by decide) (by rfl) (pa_cons (pv 1) (pa_cons (pv 2) pa_nil))) (pa_cons (C8.pe_c c__law_taken hr (by decide) (by rfl) (pa_cons (pv 1) (pa_cons pe_int pa_nil))) pa_nil))) (by rfl))
      (C8.pss_cut (ps_for PassesOwn.never rfl (pi_tupK K (pv 4)) (pg_name (i := 7) sc_law.nd rfl (.inl rfl))
        (pss_one (ps_for PassesOwn.never rfl (pi_listK K (pe_lst (pa_cons pe_int (pa_cons pe_int pa_nil)))) (pg_name (i := 13) sc_law.nd rfl (.inl rfl))
        (pss_cons (ps_set (i := 14) sc_law.nd rfl (.inl rfl) (pe_lst pa_nil))
      (pss_cons (ps_for PassesOwn.never rfl (pi_tupK K (pv 7)) (pg_name (i := 9) sc_law.nd rfl (.inl rfl))
        (pss_cons (ps_set (i := 15) sc_law.nd rfl (.inl rfl) (pe_ifExp (PW.pt (pw_and (pt_cmpR op_notN (pv 9) pe_non (nomark _)) (pw_and1 (pt_cmpR op_eq (pe_ix (ix_tupK K) (pv 9) pe_int (fun _ _ => rfl)) pe_int (nomark _))))) pe_int pe_int))
      (pss_one (ps_expr (pe_bm PySem.F.plainAttrs_list PySem.F.slot_list_append PySem.F.type_list_append mt_append (pv 14) (pa_cons (pe_ifExp (pt_cmpR op_isN (pv 9) pe_non (nomark _)) pe_non (pe_tup (pa_cons (pe_ix (ix_tupK K) (pv 9) pe_int (fun _ _ => rfl)) (pa_cons (pe_ifExp (pt_cmpR op_eq (pv 15) (pv 13) (nomark _)) pe_int pe_int) (pa_cons (pe_op op_add (pe_op op_mul pe_int (pe_ix (ix_tupK K) (pv 9) pe_int (fun _ _ => rfl))) (pe_callTy call_int1 (by rfl) T.int (by decide +kernel) (pa_cons (pe_cmpR op_eq (pv 15) pe_int (nomark _)) pa_nil))) pa_nil))))) pa_nil))))))
      (pss_one (ps_expr (pe_bm PySem.F.plainAttrs_list PySem.F.slot_list_append PySem.F.type_list_append mt_append (pv 5) (pa_cons (pe_callTy (tup_K K) (by rfl) T.tuple (by decide +kernel) (pa_cons (pv 14) pa_nil)) pa_nil)))))))))
      (pss_cons (ps_if (pt_not (pt_val (C8.pe_c c_alike4 hr (by decide) (by rfl) (pa_cons (C8.pe_c c_walker_table hr (by decide) (by rfl) (pa_cons (pv 4) pa_nil)) (pa_cons (pe_callTy (tup_K K) (by rfl) T.tuple (by decide +kernel) (pa_cons (pv 5) pa_nil)) pa_nil))))) (pss_one (ps_ret pe_bl)) pss_nil)
      (pss_cons (ps_asg (pe_tup (pa_cons (pe_callTy (dictP_K K (by rfl)) (by rfl) T.dict (by decide +kernel) (pa_cons (pe_lc (own := [("_law_k", 30)]) (by rfl) sc_law.nd (pi_range1 (by rfl) T.range (pa_cons (pe_callB (len_K K) (by rfl) T.len (by decide +kernel) (pa_cons (pv 10) pa_nil)) pa_nil)) (blkOk_by (own := [("_law_k", 30)]) (N := ["_law_script", "_law_row", "_law_states", "_law_signs", "_law_machine", "_law_due", "_law_state", "_law_line", "_law_sign", "_law_rule", "_law_tape", "_law_head", "_law_many", "_law_heading", "_law_found", "_law_goes", "_law_cells", "_law_at", "_law_now", "_law_done", "_law_turn", "_law_told", "_law_floor", "_law_walker", "_law_after", "_law_paper", "_law_step", "_law_here", "_law_run", "_law_square", "_law_k"]) (sc := C8.fnScope (top 69)) (by decide +kernel)) (fun _ _ _ _ _ => (pg_name (i := 30) sc_law.nd rfl (.inl rfl))) (fun _ _ _ _ _ => pts_nil) (fun _ _ _ _ _ => (pe_tup (pa_cons (pv 30) (pa_cons (pe_ix (ix_tupK K) (pv 10) (pv 30) (fun _ _ => rfl)) pa_nil))))) pa_nil)) (pa_cons (pv 11) (pa_cons (pv 6) (pa_cons pe_int pa_nil))))) (pg_tupK K (n := 4) rfl (pgs_cons (pg_name (i := 16) sc_law.nd rfl (.inr rfl)) (pgs_cons (pg_name (i := 17) sc_law.nd rfl (.inl rfl)) (pgs_cons (pg_name (i := 18) sc_law.nd rfl (.inl rfl)) (pgs_cons (pg_name (i := 19) sc_law.nd rfl (.inl rfl)) pgs_nil))))))
      (C8.pss_cut (ps_for PassesOwn.never rfl (pi_range1 (by rfl) T.range (pa_cons (pv 12) pa_nil)) (pg_name (i := 20) sc_law.nd rfl (.inl rfl))
        (pss_cons (ps_set (i := 9) sc_law.nd rfl (.inl rfl) (pe_ix (ix_tupK K) (pe_ix (ix_tupK K) (pv 4) (pv 18) (fun _ _ => rfl)) (pe_dget2 (hu1 hr) (pv 16) (pv 17) pe_int ⟨rfl, rfl, rfl, rfl⟩) (fun _ _ => rfl)))
      (pss_one (ps_if (PW.pt (pw_and (pt_cmpR op_notN (pv 9) pe_non (nomark _)) (pw_and1 (pt_cmpR op_eq (pv 19) (pv 20) (nomark _))))) (pss_cons (ps_dput (hu1 hr) (pv 16) (pv 17) (pe_ix (ix_tupK K) (pv 9) pe_int (fun _ _ => rfl)) rfl)
      (pss_one (ps_par3 (i := 17) (j := 18) (l := 19) (by rfl) sc_law.nd rfl rfl rfl (by decide) (by decide) (by decide) rfl rfl rfl (pa_cons (pe_op op_add (pv 17) (pe_ix (ix_tupK K) (pv 9) pe_int (fun _ _ => rfl))) (pa_cons (pe_ix (ix_tupK K) (pv 9) pe_int (fun _ _ => rfl)) (pa_cons (pe_op op_add (pv 19) pe_int) pa_nil))) (by rfl)))) pss_nil))))
      (pss_cons (ps_set (i := 21) sc_law.nd rfl (.inl rfl) (pe_tup (pa_cons (pe_callTy (tup_K K) (by rfl) T.tuple (by decide +kernel) (pa_cons (pe_lc (own := [("_law_k", 30)]) (by rfl) sc_law.nd (pi_listK K (pe_callB (cr_sortK (by rfl) (hu64 hr)) (by rfl) T.sorted (by decide +kernel) (pa_cons (pe_bm0 PySem.F.plainAttrs_dict PySem.F.slot_dict_keys PySem.F.type_dict_keys mt_keysV (pv 16)) pa_nil))) (blkOk_by (own := [("_law_k", 30)]) (N := ["_law_script", "_law_row", "_law_states", "_law_signs", "_law_machine", "_law_due", "_law_state", "_law_line", "_law_sign", "_law_rule", "_law_tape", "_law_head", "_law_many", "_law_heading", "_law_found", "_law_goes", "_law_cells", "_law_at", "_law_now", "_law_done", "_law_turn", "_law_told", "_law_floor", "_law_walker", "_law_after", "_law_paper", "_law_step", "_law_here", "_law_run", "_law_square", "_law_k"]) (sc := C8.fnScope (top 69)) (by decide +kernel)) (fun _ _ _ _ _ => (pg_name (i := 30) sc_law.nd rfl (.inl rfl))) (fun _ _ _ _ _ => (pts_one (pt_cmpR op_ne (pe_dget (hu1 hr) (pv 16) (pv 30) (fun _ _ => rfl)) pe_int (nomark _)))) (fun _ _ _ _ _ => (pe_tup (pa_cons (pv 30) (pa_cons (pe_dget (hu1 hr) (pv 16) (pv 30) (fun _ _ => rfl)) pa_nil))))) pa_nil)) (pa_cons (pv 17) (pa_cons (pv 18) (pa_cons (pv 19) pa_nil))))))
      (pss_cons (ps_if (pt_not (pt_val (C8.pe_c c_alike5 hr (by decide) (by rfl) (pa_cons (pe_lst (pa_cons (C8.pe_c c_tape_run hr (by decide) (by rfl) (pa_cons (pv 4) (pa_cons (pv 10) (pa_cons (pv 11) (pa_cons (pv 6) (pa_cons (pv 12) pa_nil)))))) (pa_cons (C8.pe_c c_tape_by_walker hr (by decide) (by rfl) (pa_cons (pv 4) (pa_cons (pv 10) (pa_cons (pv 11) (pa_cons (pv 6) (pa_cons (pv 12) pa_nil)))))) pa_nil))) (pa_cons (pe_lst (pa_cons (pv 21) (pa_cons (pv 21) pa_nil))) pa_nil))))) (pss_one (ps_ret pe_bl)) pss_nil)
      (pss_cons (ps_asg (C8.pe_c c_tape_stand hr (by decide) (by rfl) (pa_cons (pv 4) (pa_cons (pv 10) (pa_cons (pv 11) (pa_cons (pv 6) pa_nil))))) (pg_tupK K (n := 2) rfl (pgs_cons (pg_name (i := 22) sc_law.nd rfl (.inl rfl)) (pgs_cons (pg_name (i := 23) sc_law.nd rfl (.inl rfl)) pgs_nil))))
      (pss_cons (ps_if (pt_not (pt_val (C8.pe_c c_alike4 hr (by decide) (by rfl) (pa_cons (pe_tup (pa_cons (pv 22) (pa_cons (pv 23) pa_nil))) (pa_cons (pe_tup (pa_cons (pe_callTy (tup_K K) (by rfl) T.tuple (by decide +kernel) (pa_cons (pe_lc (own := [("_law_k", 30)]) (by rfl) sc_law.nd (pi_range1 (by rfl) T.range (pa_cons (pe_callB (len_K K) (by rfl) T.len (by decide +kernel) (pa_cons (pv 10) pa_nil)) pa_nil)) (blkOk_by (own := [("_law_k", 30)]) (N := ["_law_script", "_law_row", "_law_states", "_law_signs", "_law_machine", "_law_due", "_law_state", "_law_line", "_law_sign", "_law_rule", "_law_tape", "_law_head", "_law_many", "_law_heading", "_law_found", "_law_goes", "_law_cells", "_law_at", "_law_now", "_law_done", "_law_turn", "_law_told", "_law_floor", "_law_walker", "_law_after", "_law_paper", "_law_step", "_law_here", "_law_run", "_law_square", "_law_k"]) (sc := C8.fnScope (top 69)) (by decide +kernel)) (fun _ _ _ _ _ => (pg_name (i := 30) sc_law.nd rfl (.inl rfl))) (fun _ _ _ _ _ => (pts_one (pt_cmpR op_gt (pe_ix (ix_tupK K) (pv 10) (pv 30) (fun _ _ => rfl)) pe_int (nomark _)))) (fun _ _ _ _ _ => (pe_tup (pa_cons (pv 30) (pa_cons pe_int (pa_cons (pe_ix (ix_tupK K) (pv 10) (pv 30) (fun _ _ => rfl)) pa_nil)))))) pa_nil)) (pa_cons (pe_tup (pa_cons (pv 11) (pa_cons pe_int (pa_cons pe_int (pa_cons (pe_op op_mul pe_int (pv 6)) pa_nil))))) pa_nil))) pa_nil))))) (pss_one (ps_ret pe_bl)) pss_nil)
      (pss_cons (ps_set (i := 24) sc_law.nd rfl (.inl rfl) (C8.pe_c c_walk hr (by decide) (by rfl) (pa_cons (pe_callTy (tup_K K) (by rfl) T.tuple (by decide +kernel) (pa_cons (pv 5) pa_nil)) (pa_cons (pv 22) (pa_cons (pv 23) (pa_cons (pv 12) pa_nil))))))
      (pss_cons (ps_if (PW.pt (pw_or (pt_cmpR (neD_K K (hu64 hr)) (pe_slice (sl_tupK K) (pe_ix (ix_tupK K) (pv 24) pe_int (fun _ _ => rfl)) po_none (po_some pe_int)) (pe_tup (pa_cons (pv 17) (pa_cons pe_int pa_nil))) (nomark _)) (pw_or1 (pt_cmpR op_ne (pe_op op_fdiv (pe_ix (ix_tupK K) (pe_ix (ix_tupK K) (pv 24) pe_int (fun _ _ => rfl)) pe_int (fun _ _ => rfl)) pe_int) (pv 18) (nomark _))))) (pss_one (ps_ret pe_bl)) pss_nil)
      (pss_cons (ps_if (pt_cmpR (neD_K K (hu64 hr)) (pe_lc (own := [("_law_square", 29)]) (by rfl) sc_law.nd (pi_tupK K (pe_ix (ix_tupK K) (pv 24) pe_int (fun _ _ => rfl))) (blkOk_by (own := [("_law_square", 29)]) (N := ["_law_script", "_law_row", "_law_states", "_law_signs", "_law_machine", "_law_due", "_law_state", "_law_line", "_law_sign", "_law_rule", "_law_tape", "_law_head", "_law_many", "_law_heading", "_law_found", "_law_goes", "_law_cells", "_law_at", "_law_now", "_law_done", "_law_turn", "_law_told", "_law_floor", "_law_walker", "_law_after", "_law_paper", "_law_step", "_law_here", "_law_run", "_law_square", "_law_k"]) (sc := C8.fnScope (top 69)) (by decide +kernel)) (fun _ _ _ _ _ => (pg_name (i := 29) sc_law.nd rfl (.inl rfl))) (fun _ _ _ _ _ => (pts_one (pt_cmpR op_ne (pe_ix (ix_tupK K) (pv 29) pe_int (fun _ _ => rfl)) pe_int (nomark _)))) (fun _ _ _ _ _ => (pv 29))) (pe_lst pa_nil) (nomark _)) (pss_one (ps_ret pe_bl)) pss_nil)
      (pss_cons (ps_set (i := 25) sc_law.nd rfl (.inl rfl) (C8.pe_c c_find_paper hr (by decide) (by rfl) (pa_cons (pe_callTy (tup_K K) (by rfl) T.tuple (by decide +kernel) (pa_cons (pv 5) pa_nil)) (pa_cons (pv 22) (pa_cons (pv 23) (pa_cons pe_int (pa_cons pe_int pa_nil)))))))
      (pss_cons (ps_if (pt_cmpR op_isN (pv 25) pe_non (nomark _)) (pss_one (ps_ret pe_bl)) pss_nil)
      (pss_cons (ps_set (i := 26) sc_law.nd rfl (.inl rfl) (C8.pe_c c__law_taken hr (by decide) (by rfl) (pa_cons (pv 1) (pa_cons pe_int pa_nil))))
      (pss_cons (ps_par (i := 27) (j := 28) (by rfl) sc_law.nd rfl rfl (by decide) rfl rfl (pa_cons (C8.pe_c c_walker_at hr (by decide) (by rfl) (pa_cons (pe_callTy (tup_K K) (by rfl) T.tuple (by decide +kernel) (pa_cons (pv 5) pa_nil)) (pa_cons (pv 22) (pa_cons (pv 23) (pa_cons (pv 25) (pa_cons (pv 26) pa_nil)))))) (pa_cons (C8.pe_c c_tape_run hr (by decide) (by rfl) (pa_cons (pv 4) (pa_cons (pv 10) (pa_cons (pv 11) (pa_cons (pv 6) (pa_cons (pv 26) pa_nil)))))) pa_nil)) (by rfl))
      (pss_one (ps_ret (pe_cmpR (eqD_K K (hu64 hr)) (pe_tup (pa_cons (pe_ix (ix_tupK K) (pv 27) pe_int (fun _ _ => rfl)) (pa_cons (pe_op op_fdiv (pe_ix (ix_tupK K) (pv 27) pe_int (fun _ _ => rfl)) pe_int) pa_nil))) (pe_slice (sl_tupK K) (pv 28) (po_some pe_int) (po_some pe_int)) (nomark _)))))))))))))))))))))))), ?_⟩
    refine ⟨_, rfl, by show 4 ≤ sizeLine; decide, fun row nrow => ?_⟩
    have g0 := Same.new (o := .lst [V.ref a, V.int 0, V.int 11127, V.int 0]) nrow
    have w0 : Lw K H (upd H row (.lst [V.ref a, V.int 0, V.int 11127, V.int 0])) row a ns := ⟨g0, hsc, ⟨0, 11127, 0, upd_same, g0.seq hsc⟩, nrow⟩
    refine ⟨_, rfl, row, a, ns, 2, rfl, w0.row, by decide, by decide, fun H1 v1 hv1 R1 f1 => ?_⟩
    have w1 := w0.took R1 f1
    refine ⟨_, _, rfl, rfl, _, rfl, row, a, ns, 2, rfl, R1, by decide, by decide, fun H2 v2 hv2 R2 f2 => ?_⟩
    have w2 := w1.took R2 f2
    refine ⟨_, _, rfl, rfl, Nat.zero_le _, fun mL nmL => ⟨Nat.zero_le _, fun dL ndL => ⟨by show 4 ≤ sizeLine; decide, fun q hq => ⟨q, _, rfl, SqT.of upd_same, rfl, _, _, rfl, _, _, rfl, _, _, rfl, _, _, rfl, rfl, ?_⟩⟩⟩⟩
    have hrow2 : ∃ xs, H2 row = some (.lst xs) := by obtain ⟨i, b, c, h1, _⟩ := R2; exact ⟨_, h1⟩
    obtain ⟨rx, hrow2⟩ := hrow2
    have nmr : mL ≠ row := (ne_of_none hrow2 nmL).symm
    have gm := Same.new (o := .lst []) nmL
    have ndr : dL ≠ row := (ne_of_none (gm _ _ hrow2) ndL).symm
    have nmd : mL ≠ dL := ne_of_none upd_same ndL
    have gd := gm.trans (Same.new (o := .lst []) ndL)
    have nm0 : H mL = none := w2.same.free nmL
    have nd0 : H dL = none := (w2.same.trans gm).free ndL
    have eS : (1 : Int) + (v1 : Int) = ((1 + v1 : Nat) : Int) := by omega
    have eG : (2 : Int) + (v2 : Int) = ((2 + v2 : Nat) : Int) := by omega
    have hS : 1 ≤ 1 + v1 ∧ 1 + v1 ≤ 2 := by omega
    have hG : 2 ≤ 2 + v2 ∧ 2 + v2 ≤ 3 := by omega
    have gq := Same.new (o := .tup [V.int ((1 : Int) + (v1 : Int)), V.int ((2 : Int) + (v2 : Int)), V.ref mL, V.ref dL]) hq
    have w3 := w2.keep (gd.trans gq)
    have hm3 := gq _ _ ((Same.new (o := .lst []) ndL) mL _ upd_same)
    have hd3 := gq dL _ upd_same
    rw [eS, eG] at w3 hm3 hd3
    show C8.tCut _ _ _ [some (.ref a), some (.ref row), some (.int ((1 : Int) + (v1 : Int))), some (.int ((2 : Int) + (v2 : Int))), some (.ref mL), some (.ref dL), none, none, none, none, none, none, none, none, none, none, none, none, none, none, none, none, none, none, none, none, none, none, none, none, none] (upd _ q (.tup [V.int ((1 : Int) + (v1 : Int)), V.int ((2 : Int) + (v2 : Int)), V.ref mL, V.ref dL]))
    rw [eS, eG]
    generalize 1 + v1 = S at *
    generalize 2 + v2 = G at *
    generalize upd (upd (upd H2 mL (.lst [])) dL (.lst [])) q (.tup [V.int (S : Nat), V.int (G : Nat), V.ref mL, V.ref dL]) = H3 at *
    refine ⟨fun σ H' => (∃ (o6 o7 o8 o9 o10 o11 o12 o13 o14 o15 o16 o17 o18 o19 o20 o21 o22 o23 o24 o25 o26 o27 o28 o29 o30 : Option V),  σ = [some (.ref a), some (.ref row), some (.int ((S : Nat) : Int)), some (.int ((G : Nat) : Int)), some (.ref mL), some (.ref dL), o6, o7, o8, o9, o10, o11, o12, o13, o14, o15, o16, o17, o18, o19, o20, o21, o22, o23, o24, o25, o26, o27, o28, o29, o30]) ∧ Lw K H H' row a ns ∧ ∃ (ms : List V) (M : Mach), H' mL = some (.lst ms) ∧ RpAll H' ms (M.map rowD) ∧ M.length = S ∧ MachOk M S G ∧ H' dL = some (.lst []), ?_, ?_⟩
    · refine ⟨_, rfl, (S : Nat), rfl, by omega, by omega, for_range (fun i σ H' => (∃ (o6 o7 o8 o9 o10 o11 o12 o13 o14 o15 o16 o17 o18 o19 o20 o21 o22 o23 o24 o25 o26 o27 o28 o29 o30 : Option V),  σ = [some (.ref a), some (.ref row), some (.int ((S : Nat) : Int)), some (.int ((G : Nat) : Int)), some (.ref mL), some (.ref dL), o6, o7, o8, o9, o10, o11, o12, o13, o14, o15, o16, o17, o18, o19, o20, o21, o22, o23, o24, o25, o26, o27, o28, o29, o30]) ∧ Lw K H H' row a ns ∧ ∃ (ms : List V) (M : Mach), H' mL = some (.lst ms) ∧ RpAll H' ms (M.map rowD) ∧ M.length = i ∧ MachOk M S G ∧ H' dL = some (.lst [])) ⟨⟨_, _, _, _, _, _, _, _, _, _, _, _, _, _, _, _, _, _, _, _, _, _, _, _, _, rfl⟩, w3, [], [], hm3, .nil, rfl, fun r hr => (by cases hr), hd3⟩ ?_ ?_⟩
      · rintro i σ H4 hi ⟨⟨o6, o7, o8, o9, o10, o11, o12, o13, o14, o15, o16, o17, o18, o19, o20, o21, o22, o23, o24, o25, o26, o27, o28, o29, o30, rfl⟩, w4, ms, M, hm4, hms, hMl, hMo, hd4⟩
        rw [Int.toNat_natCast] at hi
        refine ⟨Nat.zero_le _, fun L nL => ?_⟩
        have gL := Same.new (o := .lst []) nL
        have nL0 : H L = none := w4.same.free nL
        have nLm : mL ≠ L := ne_of_none hm4 nL
        have nLd : dL ≠ L := ne_of_none hd4 nL
        obtain ⟨x1, x2, x3, hrow4, _⟩ := w4.row
        have nLr : row ≠ L := ne_of_none hrow4 nL
        refine ⟨_, rfl, (G : Nat), rfl, by omega, by omega, for_range (fun j σ H' => (∃ (o6 o8 o9 o10 o11 o12 o13 o14 o15 o16 o17 o18 o19 o20 o21 o22 o23 o24 o25 o26 o27 o28 o29 o30 : Option V),  σ = [some (.ref a), some (.ref row), some (.int ((S : Nat) : Int)), some (.int ((G : Nat) : Int)), some (.ref mL), some (.ref dL), o6, some (.ref L), o8, o9, o10, o11, o12, o13, o14, o15, o16, o17, o18, o19, o20, o21, o22, o23, o24, o25, o26, o27, o28, o29, o30]) ∧ Lw K H H' row a ns ∧ H' mL = some (.lst ms) ∧ RpAll H' ms (M.map rowD) ∧ H' dL = some (.lst []) ∧ ∃ (ls : List V) (r : List Rule), H' L = some (.lst ls) ∧ RpAll H' ls (r.map trD) ∧ r.length = j ∧ ∀ o ∈ r, RuleOk S G o) ⟨⟨_, _, _, _, _, _, _, _, _, _, _, _, _, _, _, _, _, _, _, _, _, _, _, _, rfl⟩, w4.keep gL, gL _ _ hm4, RpAll.keep (Same.tk gL) hms, gL _ _ hd4, [], [], upd_same, .nil, rfl, fun o ho => (by cases ho)⟩ ?_ ?_⟩
        · rintro j σ H5 hj ⟨⟨o6, o8, o9, o10, o11, o12, o13, o14, o15, o16, o17, o18, o19, o20, o21, o22, o23, o24, o25, o26, o27, o28, o29, o30, rfl⟩, w5, hm5, hms5, hd5, ls, r, hL5, hls, hrl, hro⟩
          rw [Int.toNat_natCast] at hj
          refine ⟨_, rfl, _, rfl, row, a, ns, G, rfl, w5.row, by omega, by omega, fun H6 va hva R6 f6 => ?_⟩
          refine ⟨_, rfl, _, _, rfl, rfl, by show 2 ≤ sizeLine; decide, fun l nl => ?_⟩
          have gl := Same.new (o := .lst [V.int (0 - 1), V.int 1]) nl
          refine ⟨row, l, a, ns, 0 - 1, 1, rfl, R6.keep gl, upd_same, fun H7 vb hvb R7 f7 => ?_⟩
          refine ⟨_, rfl, _, rfl, row, a, ns, S, rfl, R7, by omega, by omega, fun H8 vc hvc R8 f8 => ?_⟩
          refine ⟨by show 3 ≤ sizeLine; decide, fun q hq => ?_⟩
          have gq := Same.new (o := .tup [V.int (va : Nat), V.int vb, V.int (vc : Nat)]) hq
          have w8 := ((w5.took R6 f6).keep gl).took R7 f7 |>.took R8 f8 |>.keep gq
          have frq : FR H5 (upd H8 q (.tup [V.int (va : Nat), V.int vb, V.int (vc : Nat)])) row := (((f6.trans (FR.of gl row)).trans f7).trans f8).trans (FR.of gq row)
          have hLq := frq _ _ hL5 nLr.symm
          refine ⟨_, rfl, .inl ⟨rfl, _, SqL.of hLq⟩, ?_⟩
          refine ⟨_, rfl, row, a, ns, 6, rfl, w8.row, by decide, by decide, fun H9 vd hvd R9 f9 => ⟨rfl, _, rfl, ?_⟩⟩
          have w9 := w8.took R9 f9
          have fr9 := frq.trans f9
          have tk9 := w5.row.tk fr9
          have hL9 := fr9 _ _ hL5 nLr.symm
          have lsl : ls.length ≤ 100 := by have := hls.length; rw [List.length_map] at this; omega
          have fin : ∀ (v : V) (o : Rule), Rp H9 v (trD o) → RuleOk S G o → (∃ (p6 p8 p9 p10 p11 p12 p13 p14 p15 p16 p17 p18 p19 p20 p21 p22 p23 p24 p25 p26 p27 p28 p29 p30 : Option V),  [some (.ref a), some (.ref row), some (.int ((S : Nat) : Int)), some (.int ((G : Nat) : Int)), some (.ref mL), some (.ref dL), o6, some (.ref L), some (V.int (0 + (j : Int))), some (V.ref q), o10, o11, o12, o13, o14, o15, o16, o17, o18, o19, o20, o21, o22, o23, o24, o25, o26, o27, o28, o29, o30] = [some (.ref a), some (.ref row), some (.int ((S : Nat) : Int)), some (.int ((G : Nat) : Int)), some (.ref mL), some (.ref dL), p6, some (.ref L), p8, p9, p10, p11, p12, p13, p14, p15, p16, p17, p18, p19, p20, p21, p22, p23, p24, p25, p26, p27, p28, p29, p30]) ∧ Lw K H (upd H9 L (.lst (ls ++ [v]))) row a ns ∧ (upd H9 L (.lst (ls ++ [v]))) mL = some (.lst ms) ∧ RpAll (upd H9 L (.lst (ls ++ [v]))) ms (M.map rowD) ∧ (upd H9 L (.lst (ls ++ [v]))) dL = some (.lst []) ∧ ∃ (ls' : List V) (r : List Rule), (upd H9 L (.lst (ls ++ [v]))) L = some (.lst ls') ∧ RpAll (upd H9 L (.lst (ls ++ [v]))) ls' (r.map trD) ∧ r.length = j + 1 ∧ ∀ o ∈ r, RuleOk S G o := by
            intro v o hv ho
            have tkL : TK H9 (upd H9 L (.lst (ls ++ [v]))) := TK.write hL9 fun xs z => by cases z
            refine ⟨⟨_, _, _, _, _, _, _, _, _, _, _, _, _, _, _, _, _, _, _, _, _, _, _, _, rfl⟩, w9.put nL0 nLr.symm, ?_, RpAll.keep (TK.trans tk9 tkL) hms5, ?_, _, r ++ [o], upd_same, ?_, by rw [List.length_append, hrl]; rfl, fun o' ho' => ?_⟩
            · rw [upd_ne nLm]; exact fr9 _ _ hm5 nmr
            · rw [upd_ne nLd]; exact fr9 _ _ hd5 ndr
            · rw [List.map_append]
              exact RpAll.snoc (RpAll.keep (TK.trans tk9 tkL) hls) (Rp.keep tkL hv)
            · rcases List.mem_append.mp ho' with h | h
              · exact hro _ h
              · rw [List.mem_singleton.mp h]; exact ho
          by_cases hz : (vd : Int) = 0
          · refine iteD (by rw [hz]) ⟨L, ls, _, rfl, rfl, hL9, small1000' (by omega), ?_⟩
            exact fin .non none .non fun w m q e => (by cases e)
          · refine iteDF (fun e => hz (V.int.inj e)) ⟨_, rfl, L, ls, _, rfl, rfl, hL9, small1000' (by omega), ?_⟩
            refine fin (.ref q) (some ((va : Int), vb, (vc : Int))) (Rp.its (is := [(va : Int), vb, (vc : Int)]) (f9 _ _ upd_same fun e => ?_)) fun w m q e => ?_
            · have := w8.row
              obtain ⟨y1, y2, y3, hy, _⟩ := this
              rw [← e, upd_same] at hy
              cases hy
            · cases e
              exact ⟨⟨by omega, by omega⟩, by omega, ⟨by omega, by omega⟩⟩
        · rintro σ H5 ⟨⟨o6, o8, o9, o10, o11, o12, o13, o14, o15, o16, o17, o18, o19, o20, o21, o22, o23, o24, o25, o26, o27, o28, o29, o30, rfl⟩, w5, hm5, hms5, hd5, ls, r, hL5, hls, hrl, hro⟩
          rw [Int.toNat_natCast] at hrl
          refine ⟨_, rfl, .inl ⟨rfl, _, SqL.of hm5⟩, _, rfl, L, ls, rfl, .inl ⟨SqL.of hL5, fun t ht => ?_⟩⟩
          have gt := Same.new (o := .tup ls) ht
          have msl : ms.length ≤ 100 := by have := hms5.length; rw [List.length_map] at this; omega
          have tkm : TK (upd H5 t (.tup ls)) (upd (upd H5 t (.tup ls)) mL (.lst (ms ++ [V.ref t]))) := TK.write (gt _ _ hm5) fun xs z => by cases z
          refine ⟨mL, ms, _, rfl, rfl, gt _ _ hm5, small1000' (by omega), ⟨_, _, _, _, _, _, _, _, _, _, _, _, _, _, _, _, _, _, _, _, _, _, _, _, _, rfl⟩, (w5.keep gt).put nm0 nmr, _, M ++ [r], upd_same, ?_, by rw [List.length_append, hMl]; rfl, fun r' hr' => ?_, ?_⟩
          · rw [List.map_append]
            exact RpAll.snoc (RpAll.keep (TK.trans (Same.tk gt) tkm) hms5) (.tup (tkm _ _ upd_same) (RpAll.keep (TK.trans (Same.tk gt) tkm) hls))
          · rcases List.mem_append.mp hr' with h | h
            · exact hMo _ h
            · rw [List.mem_singleton.mp h]; exact ⟨hrl, hro⟩
          · rw [upd_ne nmd.symm]; exact gt _ _ hd5
      · rintro σ H4 ⟨⟨o6, o7, o8, o9, o10, o11, o12, o13, o14, o15, o16, o17, o18, o19, o20, o21, o22, o23, o24, o25, o26, o27, o28, o29, o30, rfl⟩, w4, ms, M, hm4, hms, hMl, hMo, hd4⟩
        rw [Int.toNat_natCast] at hMl
        exact ⟨⟨_, _, _, _, _, _, _, _, _, _, _, _, _, _, _, _, _, _, _, _, _, _, _, _, _, rfl⟩, w4, ms, M, hm4, hms, hMl, hMo, hd4⟩
    rintro σ H4 ⟨⟨o6, o7, o8, o9, o10, o11, o12, o13, o14, o15, o16, o17, o18, o19, o20, o21, o22, o23, o24, o25, o26, o27, o28, o29, o30, rfl⟩, w4, ms, M, hm4, hms, hMl, hMo, hd4⟩
    have good := hMo.good hMl hS.1 hS.2 hG.1 hG.2
    have s1 := good.s1
    have s2 := good.s2
    have g1 := good.g1
    have g2 := good.g2
    refine ⟨_, rfl, mL, ms, rfl, .inl ⟨SqL.of hm4, fun mT nmT => ?_⟩⟩
    have gT := Same.new (o := .tup ms) nmT
    have w5 := w4.keep gT
    have hmT : Rp (upd H4 mT (.tup ms)) (.ref mT) (gridD M) := .tup upd_same (RpAll.keep (Same.tk gT) hms)
    have hd5 := gT _ _ hd4
    generalize upd H4 mT (.tup ms) = H5 at *
    refine ⟨_, rfl, row, a, ns, 6, rfl, w5.row, by decide, by decide, fun H6 vn hvn R6 f6 => ?_⟩
    have w6 := w5.took R6 f6
    have hmT6 := Rp.keep (w5.row.tk f6) hmT
    have hd6 := f6 _ _ hd5 ndr
    refine ⟨(vn : Nat), rfl, by omega, by omega, fun D hD => lc_it walk_range (fun i H' => Lw K H H' row a ns ∧ FR H6 H' row ∧ ∃ ts : List Int, H' D = some (.lst (ts.map V.int)) ∧ ts.length = i ∧ ∀ x ∈ ts, 0 ≤ x ∧ x < (G : Int)) ⟨w6.keep (Same.new hD), FR.of (Same.new hD) row, [], upd_same, rfl, fun x hx => (by cases hx)⟩ (fun i H' _ _ => trivial) ?_ ?_⟩
    · rintro i y H7 H8 hi ⟨w7, f7, ts, hD7, htl, hts⟩ ⟨rfl, rfl⟩
      rw [Int.toNat_natCast] at hi
      refine ⟨rfl, _, rfl, _, rfl, row, a, ns, G, rfl, w7.row, by omega, by omega, fun H9 vx hvx R9 f9 => ?_⟩
      have nDr : D ≠ row := by
        obtain ⟨y1, y2, y3, hy, _⟩ := w6.row
        exact (ne_of_none hy hD).symm
      have w9 := w7.took R9 f9
      have hD9 := f9 _ _ hD7 nDr
      refine ⟨_, hD9, small1000' (by rw [List.length_map]; omega), w9.put (w6.same.free hD) nDr, fun b o hb hbr => ?_, ts ++ [(vx : Int)], ?_, by rw [List.length_append, htl]; rfl, fun x hx => ?_⟩
      · rw [upd_ne (ne_of_none hb hD)]
        exact (f7.trans f9) _ _ hb hbr
      · rw [upd_same, List.map_append]
        rfl
      · rcases List.mem_append.mp hx with h | h
        · exact hts _ h
        · rw [List.mem_singleton.mp h]; omega
    rintro H7 ⟨w7, f7, tape, hD7, htl, hts⟩
    rw [Int.toNat_natCast] at htl
    refine ⟨D, _, rfl, .inl ⟨SqL.of hD7, fun tT ntT => ⟨by show 2 ≤ sizeLine; decide, fun pq npq => ⟨pq, _, rfl, SqT.of upd_same, rfl, _, _, rfl, _, _, rfl, rfl, ?_⟩⟩⟩⟩
    have gt := Same.new (o := .tup (tape.map V.int)) ntT
    have gp := Same.new (o := .tup [V.ref mT, V.ref tT]) npq
    have w8 := w7.keep (gt.trans gp)
    have tk8 : TK H6 (upd (upd H7 tT (.tup (tape.map V.int))) pq (.tup [V.ref mT, V.ref tT])) := TK.trans (w6.row.tk f7) (Same.tk (gt.trans gp))
    have hmT8 := Rp.keep tk8 hmT6
    have htT8 : Rp (upd (upd H7 tT (.tup (tape.map V.int))) pq (.tup [V.ref mT, V.ref tT])) (.ref tT) (itD tape) := Rp.its (gp _ _ upd_same)
    have hd8 := (gt.trans gp) _ _ (f7 _ _ hd6 ndr)
    generalize upd (upd H7 tT (.tup (tape.map V.int))) pq (.tup [V.ref mT, V.ref tT]) = H8 at *
    have tok : TapeOk tape G := ⟨by omega, hts⟩
    refine ⟨_, rfl, row, a, ns, 4, rfl, w8.row, by decide, fun H9 h hh1 hh2 R9 f9 => ?_⟩
    have w9 := w8.took R9 f9
    refine ⟨_, rfl, _, rfl, row, a, ns, S, rfl, R9, by omega, by omega, fun H10 q hq R10 f10 => ?_⟩
    have w10 := w9.took R10 f10
    refine ⟨_, rfl, row, a, ns, 80, rfl, R10, by decide, by decide, fun H11 many hmany R11 f11 => ?_⟩
    have w11 := w10.took R11 f11
    have fr11 := (f9.trans f10).trans f11
    have tk11 := w8.row.tk fr11
    have tp : Tp H11 (.ref mT) (.ref tT) M S G tape h q := ⟨Rp.keep tk11 hmT8, good, Rp.keep tk11 htT8, tok, by unfold Far; omega, by omega⟩
    have hd11 := fr11 _ _ hd8 ndr
    refine ⟨_, _, _, rfl, ?_⟩
    obtain ⟨xa, xs, exa, hxa, hxl, hxs⟩ := gridD_inv tp.v
    have exa : mT = xa := V.ref.inj exa
    subst exa
    refine ⟨fun σ H' => (∃ (o2 o3 o7 o8 o9 o13 o14 o15 o16 o17 o18 o19 o20 o21 o22 o23 o24 o25 o26 o27 o28 o29 o30 : Option V),  σ = [some (.ref a), some (.ref row), o2, o3, some (.ref mT), some (.ref dL), some (.int ((q : Nat) : Int)), o7, o8, o9, some (.ref tT), some (.int h), some (.int ((many : Nat) : Int)), o13, o14, o15, o16, o17, o18, o19, o20, o21, o22, o23, o24, o25, o26, o27, o28, o29, o30]) ∧ Lw K H H' row a ns ∧ TK H11 H' ∧ ∃ ds, H' dL = some (.lst ds) ∧ RpAll H' ds ((tabOf M).map rowD), ?_, ?_⟩
    · refine ⟨_, rfl, _, rfl, ⟨_, SqT.of hxa⟩, for_tup (K := K) (a := mT) (xs := xs) (fun i σ H' => (∃ (o2 o3 o7 o8 o9 o13 o14 o15 o16 o17 o18 o19 o20 o21 o22 o23 o24 o25 o26 o27 o28 o29 o30 : Option V),  σ = [some (.ref a), some (.ref row), o2, o3, some (.ref mT), some (.ref dL), some (.int ((q : Nat) : Int)), o7, o8, o9, some (.ref tT), some (.int h), some (.int ((many : Nat) : Int)), o13, o14, o15, o16, o17, o18, o19, o20, o21, o22, o23, o24, o25, o26, o27, o28, o29, o30]) ∧ Lw K H H' row a ns ∧ TK H11 H' ∧ ∃ ds, H' dL = some (.lst ds) ∧ RpAll H' ds ((tabOf (M.take i)).map rowD)) ⟨⟨_, _, _, _, _, _, _, _, _, _, _, _, _, _, _, _, _, _, _, _, _, _, _, rfl⟩, w11, TK.refl _, [], hd11, .nil⟩ (fun i σ H' _ h => SqT.of (h.2.2.1 _ _ hxa)) ?_ ?_⟩
      · rintro i x σ H12 hi ⟨⟨o2, o3, o7, o8, o9, o13, o14, o15, o16, o17, o18, o19, o20, o21, o22, o23, o24, o25, o26, o27, o28, o29, o30, rfl⟩, w12, tk12, ds, hd12, hds⟩
        obtain ⟨r, bL, ys, hr1, rfl, hb, hbl, hys⟩ := rowD_at hxs hi
        have hiM : i < M.length := by
          rcases Nat.lt_or_ge i M.length with h | h
          · exact h
          · rw [List.getElem?_eq_none h] at hr1; cases hr1
        have tlen : (tabOf (M.take i)).length = 2 * i := by rw [tabOf_length, List.length_take]; omega
        refine ⟨by show 2 ≤ sizeLine; decide, fun p0 np0 => ?_⟩
        have g0 := Same.new (o := .lst [V.int 1, V.int 3]) np0
        have np0d : dL ≠ p0 := ne_of_none hd12 np0
        refine ⟨p0, rfl, ⟨_, SqL.of upd_same⟩, for_list (K := K) (a := p0) (xs := [V.int 1, V.int 3]) (fun j σ H2 => (∃ (o2 o3 o8 o9 o13 o14 o15 o16 o17 o18 o19 o20 o21 o22 o23 o24 o25 o26 o27 o28 o29 o30 : Option V),  σ = [some (.ref a), some (.ref row), o2, o3, some (.ref mT), some (.ref dL), some (.int ((q : Nat) : Int)), some (.ref bL), o8, o9, some (.ref tT), some (.int h), some (.int ((many : Nat) : Int)), o13, o14, o15, o16, o17, o18, o19, o20, o21, o22, o23, o24, o25, o26, o27, o28, o29, o30]) ∧ Lw K H H2 row a ns ∧ TK H11 H2 ∧ H2 p0 = some (.lst [V.int 1, V.int 3]) ∧ ∃ out, H2 dL = some (.lst out) ∧ RpAll H2 out ((tabOf (M.take i) ++ [r.map (ent false), r.map (ent true)].take j).map rowD)) ⟨⟨_, _, _, _, _, _, _, _, _, _, _, _, _, _, _, _, _, _, _, _, _, _, rfl⟩, w12.keep g0, TK.trans tk12 (Same.tk g0), upd_same, ds, g0 _ _ hd12, by rw [List.take_zero, List.append_nil]; exact RpAll.keep (Same.tk g0) hds⟩ (fun j σ H' _ h => SqL.of h.2.2.2.1) ?_ ?_⟩
        · rintro j x σ H2 hj ⟨⟨o2, o3, o8, o9, o13, o14, o15, o16, o17, o18, o19, o20, o21, o22, o23, o24, o25, o26, o27, o28, o29, o30, rfl⟩, w2', tk2, hp0, out2, ho2, hout2⟩
          obtain ⟨bb, rfl, hbb, hj2⟩ : ∃ bb, x = .int (hdg bb) ∧ [r.map (ent false), r.map (ent true)].take (j + 1) = [r.map (ent false), r.map (ent true)].take j ++ [r.map (ent bb)] ∧ j < 2 := by
            match j, hj with
            | 0, hj => exact ⟨false, (Option.some.inj hj).symm, rfl, by omega⟩
            | 1, hj => exact ⟨true, (Option.some.inj hj).symm, rfl, by omega⟩
          refine ⟨Nat.zero_le _, fun L hL => ?_⟩
          have gL := Same.new (o := .lst []) hL
          have hb2 := tk2 _ _ hb
          have nL0 : H L = none := w2'.same.free hL
          have nLr : L ≠ row := by
            obtain ⟨y1, y2, y3, hy, _⟩ := w2'.row
            exact (ne_of_none hy hL).symm
          refine ⟨_, rfl, _, rfl, ⟨_, SqT.of (gL _ _ hb2)⟩, for_tup (K := K) (a := bL) (xs := ys) (fun l σ H3 => (∃ (o2 o3 o8 o9 o15 o16 o17 o18 o19 o20 o21 o22 o23 o24 o25 o26 o27 o28 o29 o30 : Option V),  σ = [some (.ref a), some (.ref row), o2, o3, some (.ref mT), some (.ref dL), some (.int ((q : Nat) : Int)), some (.ref bL), o8, o9, some (.ref tT), some (.int h), some (.int ((many : Nat) : Int)), some (.int (hdg bb)), some (.ref L), o15, o16, o17, o18, o19, o20, o21, o22, o23, o24, o25, o26, o27, o28, o29, o30]) ∧ Same H2 H3 ∧ ∃ out, H3 L = some (.lst out) ∧ RpAll H3 out ((r.take l).map fun o => trD (ent bb o))) ⟨⟨_, _, _, _, _, _, _, _, _, _, _, _, _, _, _, _, _, _, _, _, rfl⟩, gL, [], upd_same, .nil⟩ (fun l σ H' _ h => SqT.of (h.2.1 _ _ hb2)) ?_ ?_⟩
          · rintro l x σ H3 hl' ⟨⟨o2, o3, o8, o9, o15, o16, o17, o18, o19, o20, o21, o22, o23, o24, o25, o26, o27, o28, o29, o30, rfl⟩, sm3, out3, ho3, hout3⟩
            obtain ⟨o, ho1, hor⟩ := trD_at hys hl'
            have hox : Rp H3 x (trD o) := Rp.keep (TK.trans tk2 (Same.tk sm3)) hor
            have hll : l < r.length := by
              rcases Nat.lt_or_ge l r.length with h | h
              · exact h
              · rw [List.getElem?_eq_none h] at ho1; cases ho1
            have hg := good.row i r hr1
            have o3l : out3.length ≤ 100 := by
              have := hout3.length
              rw [List.length_map, List.length_take] at this
              omega
            have tk1 : r.take (l + 1) = r.take l ++ [o] := by rw [List.take_add_one, ho1]; rfl
            cases o with
            | none =>
              rw [Rp.of_none hox]
              refine ⟨_, rfl, rfl, _, rfl, iteF (iteF ?_)⟩
              refine ⟨_, rfl, .inl ⟨rfl, _, SqL.of ho3⟩, _, rfl, rfl, _, rfl, iteT ?_⟩
              refine ⟨L, out3, _, rfl, rfl, ho3, small1000' (by omega), ⟨_, _, _, _, _, _, _, _, _, _, _, _, _, _, _, _, _, _, _, _, rfl⟩, Same.wr sm3 hL, _, upd_same, ?_⟩
              rw [tk1, List.map_append]
              exact RpAll.snoc (RpAll.keep (TK.write ho3 fun xs z => by cases z) hout3) .non
            | some t =>
              obtain ⟨wr, m, q⟩ := t
              obtain ⟨gr1, gr2, gr3⟩ := good.rule i l r wr m q hr1 ho1
              obtain ⟨e, rfl, he⟩ := Rp.of_its hox
              have fin : ∀ p1, H3 p1 = none → Same H2 (upd (upd H3 p1 (.tup [V.int wr, V.int (if decide (m ≠ 1) = bb then 0 else 2), V.int (sd q (decide (m ≠ 1)))])) L (.lst (out3 ++ [V.ref p1]))) ∧ ∃ out, (upd (upd H3 p1 (.tup [V.int wr, V.int (if decide (m ≠ 1) = bb then 0 else 2), V.int (sd q (decide (m ≠ 1)))])) L (.lst (out3 ++ [V.ref p1]))) L = some (.lst out) ∧ RpAll (upd (upd H3 p1 (.tup [V.int wr, V.int (if decide (m ≠ 1) = bb then 0 else 2), V.int (sd q (decide (m ≠ 1)))])) L (.lst (out3 ++ [V.ref p1]))) out ((r.take (l + 1)).map fun o => trD (ent bb o)) := by
                intro p1 hp1
                have g1 := Same.new (o := (.tup [V.int wr, V.int (if decide (m ≠ 1) = bb then 0 else 2), V.int (sd q (decide (m ≠ 1)))])) hp1
                refine ⟨Same.wr (sm3.trans g1) hL, _, upd_same, ?_⟩
                rw [tk1, List.map_append]
                refine RpAll.snoc (RpAll.keep (TK.trans (Same.tk g1) (TK.write (g1 _ _ ho3) fun xs z => by cases z)) hout3) (Rp.its ?_)
                rw [upd_ne (ne_of_none ho3 hp1).symm, upd_same]
                rfl
              have app : ∀ p1, H3 p1 = none → (upd H3 p1 (.tup [V.int wr, V.int (if decide (m ≠ 1) = bb then 0 else 2), V.int (sd q (decide (m ≠ 1)))])) L = some (.lst out3) := fun p1 hp1 => (Same.new hp1) _ _ ho3
              refine ⟨_, rfl, rfl, _, rfl, iteT ⟨_, rfl, e, _, _, _, rfl, rfl, SqT.of he, rfl, ?_⟩⟩
              rcases gr2 with rfl | rfl <;> cases bb
              · refine ⟨rfl, _, rfl, iteD rfl ?_⟩
                refine ⟨_, rfl, .inl ⟨rfl, _, SqL.of ho3⟩, _, rfl, rfl, _, rfl, iteF ?_⟩
                refine ⟨_, rfl, e, _, _, _, rfl, rfl, SqT.of he, rfl, _, rfl, _, rfl, rfl, _, rfl, iteD rfl ?_⟩
                refine ⟨_, rfl, e, _, _, _, rfl, rfl, SqT.of he, rfl, _, _, rfl, rfl, .inl ⟨by decide, by decide⟩, _, rfl, rfl, .inr ⟨_, rfl, _, _, rfl, rfl, by show 3 ≤ sizeLine; decide, fun p1 hp1 => ?_⟩⟩
                refine ⟨L, out3, _, rfl, rfl, app p1 hp1, small1000' (by omega), ?_⟩
                obtain ⟨z1, z2⟩ := fin p1 hp1
                exact ⟨⟨_, _, _, _, _, _, _, _, _, _, _, _, _, _, _, _, _, _, _, _, rfl⟩, z1, z2⟩
              · refine ⟨rfl, _, rfl, iteD rfl ?_⟩
                refine ⟨_, rfl, .inl ⟨rfl, _, SqL.of ho3⟩, _, rfl, rfl, _, rfl, iteF ?_⟩
                refine ⟨_, rfl, e, _, _, _, rfl, rfl, SqT.of he, rfl, _, rfl, _, rfl, rfl, _, rfl, iteDF (by decide) ?_⟩
                refine ⟨_, rfl, e, _, _, _, rfl, rfl, SqT.of he, rfl, _, _, rfl, rfl, .inl ⟨by decide, by decide⟩, _, rfl, rfl, .inr ⟨_, rfl, _, _, rfl, rfl, by show 3 ≤ sizeLine; decide, fun p1 hp1 => ?_⟩⟩
                refine ⟨L, out3, _, rfl, rfl, app p1 hp1, small1000' (by omega), ?_⟩
                obtain ⟨z1, z2⟩ := fin p1 hp1
                exact ⟨⟨_, _, _, _, _, _, _, _, _, _, _, _, _, _, _, _, _, _, _, _, rfl⟩, z1, z2⟩
              · refine ⟨rfl, _, rfl, iteDF (by decide) ?_⟩
                refine ⟨_, rfl, .inl ⟨rfl, _, SqL.of ho3⟩, _, rfl, rfl, _, rfl, iteF ?_⟩
                refine ⟨_, rfl, e, _, _, _, rfl, rfl, SqT.of he, rfl, _, rfl, _, rfl, rfl, _, rfl, iteDF (by decide) ?_⟩
                refine ⟨_, rfl, e, _, _, _, rfl, rfl, SqT.of he, rfl, _, _, rfl, rfl, .inl ⟨by decide, by decide⟩, _, rfl, rfl, .inr ⟨_, rfl, _, _, rfl, rfl, by show 3 ≤ sizeLine; decide, fun p1 hp1 => ?_⟩⟩
                refine ⟨L, out3, _, rfl, rfl, app p1 hp1, small1000' (by omega), ?_⟩
                obtain ⟨z1, z2⟩ := fin p1 hp1
                exact ⟨⟨_, _, _, _, _, _, _, _, _, _, _, _, _, _, _, _, _, _, _, _, rfl⟩, z1, z2⟩
              · refine ⟨rfl, _, rfl, iteDF (by decide) ?_⟩
                refine ⟨_, rfl, .inl ⟨rfl, _, SqL.of ho3⟩, _, rfl, rfl, _, rfl, iteF ?_⟩
                refine ⟨_, rfl, e, _, _, _, rfl, rfl, SqT.of he, rfl, _, rfl, _, rfl, rfl, _, rfl, iteD rfl ?_⟩
                refine ⟨_, rfl, e, _, _, _, rfl, rfl, SqT.of he, rfl, _, _, rfl, rfl, .inl ⟨by decide, by decide⟩, _, rfl, rfl, .inr ⟨_, rfl, _, _, rfl, rfl, by show 3 ≤ sizeLine; decide, fun p1 hp1 => ?_⟩⟩
                refine ⟨L, out3, _, rfl, rfl, app p1 hp1, small1000' (by omega), ?_⟩
                obtain ⟨z1, z2⟩ := fin p1 hp1
                exact ⟨⟨_, _, _, _, _, _, _, _, _, _, _, _, _, _, _, _, _, _, _, _, rfl⟩, z1, z2⟩
          · rintro σ H3 ⟨⟨o2, o3, o8, o9, o15, o16, o17, o18, o19, o20, o21, o22, o23, o24, o25, o26, o27, o28, o29, o30, rfl⟩, sm3, out3, ho3, hout3⟩
            refine ⟨_, rfl, .inl ⟨rfl, _, SqL.of (sm3 _ _ ho2)⟩, _, rfl, L, out3, rfl, .inl ⟨SqL.of ho3, fun p1 hp1 => ?_⟩⟩
            have g1' := Same.new (o := .tup out3) hp1
            have o2l : out2.length ≤ 100 := by
              have := hout2.length
              rw [List.length_map, List.length_append, tlen, List.length_take] at this
              simp at this
              omega
            have hdd := g1' _ _ (sm3 _ _ ho2)
            have tkw : TK (upd H3 p1 (.tup out3)) (upd (upd H3 p1 (.tup out3)) dL (.lst (out2 ++ [V.ref p1]))) := TK.write hdd fun xs z => by cases z
            have tk : TK H3 (upd (upd H3 p1 (.tup out3)) dL (.lst (out2 ++ [V.ref p1]))) := TK.trans (Same.tk g1') tkw
            refine ⟨dL, out2, _, rfl, rfl, hdd, small1000' (by omega), ⟨_, _, _, _, _, _, _, _, _, _, _, _, _, _, _, _, _, _, _, _, _, _, rfl⟩, (w2'.keep (sm3.trans g1')).put nd0 ndr, TK.trans tk2 (TK.trans (Same.tk sm3) tk), ?_, _, upd_same, ?_⟩
            · rw [upd_ne np0d.symm]
              exact (sm3.trans g1') _ _ hp0
            · rw [hbb, ← List.append_assoc, List.map_append]
              refine RpAll.snoc (RpAll.keep (TK.trans (Same.tk sm3) tk) hout2) (.tup (xs := out3) (tkw _ _ upd_same) ?_)
              rw [hbl, List.take_length] at hout3
              rw [List.map_map]
              exact RpAll.keep tk hout3
        · rintro σ H2 ⟨⟨o2, o3, o8, o9, o13, o14, o15, o16, o17, o18, o19, o20, o21, o22, o23, o24, o25, o26, o27, o28, o29, o30, rfl⟩, w2', tk2, hp0, out2, ho2, hout2⟩
          refine ⟨⟨_, _, _, _, _, _, _, _, _, _, _, _, _, _, _, _, _, _, _, _, _, _, _, rfl⟩, w2', tk2, out2, ho2, ?_⟩
          rw [tabOf_take M i r hr1]
          exact hout2
      · rintro σ H12 ⟨⟨o2, o3, o7, o8, o9, o13, o14, o15, o16, o17, o18, o19, o20, o21, o22, o23, o24, o25, o26, o27, o28, o29, o30, rfl⟩, w12, tk12, ds, hd12, hds⟩
        rw [hxl, List.take_length] at hds
        exact ⟨⟨_, _, _, _, _, _, _, _, _, _, _, _, _, _, _, _, _, _, _, _, _, _, _, rfl⟩, w12, tk12, ds, hd12, hds⟩
    rintro σ H12 ⟨⟨o2, o3, o7, o8, o9, o13, o14, o15, o16, o17, o18, o19, o20, o21, o22, o23, o24, o25, o26, o27, o28, o29, o30, rfl⟩, w12, tk12, ds, hd12, hds⟩
    -- the table
    refine ⟨_, rfl, .ref mT, M, S, G, rfl, Rp.keep tk12 tp.v, good, fun H13 r1 s13 hr1 => ⟨_, rfl, dL, ds, rfl, .inl ⟨SqL.of (s13 _ _ hd12), fun tD ntD => ?_⟩⟩⟩
    have gD := Same.new (o := .tup ds) ntD
    have s1213 := s13.trans gD
    have hDue : Rp (upd H13 tD (.tup ds)) (.ref tD) (gridD (tabOf M)) := .tup upd_same (RpAll.keep (Same.tk s1213) hds)
    have pg := plw_tab good
    refine ⟨r1, .ref tD, gridD (tabOf M), rfl, Rp.lp (Rp.keep (Same.tk gD) hr1) pg, Rp.lp hDue pg, pg, fun H14 s14 => ⟨_, rfl, iteF ?_⟩⟩
    have s15 := s1213.trans s14
    have w15 := w12.keep s15
    have hd15 := s15 _ _ hd12
    have hds15 := RpAll.keep (Same.tk s15) hds
    have tp15 : Tp H14 (.ref mT) (.ref tT) M S G tape h q := tp.keep (TK.trans tk12 (Same.tk s15))
    clear hr1 hDue s1213 gD ntD s13 w12 tk12 hd12 hds s14 s15
    obtain ⟨bt, ebt, hbt⟩ := Rp.of_its tp15.t
    have ebt : tT = bt := V.ref.inj ebt
    subst ebt
    have few := tok.few
    -- the cells
    refine ⟨_, rfl, _, _, rfl, .inr (SqT.of hbt), ((tape.map V.int).length : Nat), rfl, by rw [List.length_map]; omega, by rw [List.length_map]; omega, fun D hD => lc_it walk_range (fun i H' => Same H14 H' ∧ ∃ as : List Addr, H' D = some (.lst (as.map V.ref)) ∧ Paired (fun (p : Addr) (kv : Int × Int) => H' p = some (.tup [.int kv.1, .int kv.2])) as (tapeL tape i)) ⟨Same.new hD, [], upd_same, .nil⟩ (fun i H' _ _ => trivial) ?_ ?_⟩
    · rintro i y H15 H16 hi ⟨sm, as, has, hpr⟩ ⟨rfl, rfl⟩
      rw [Int.toNat_natCast, List.length_map] at hi
      have e3 : tape[i]? = some tape[i] := List.getElem?_eq_getElem hi
      have e4 : (tape.map V.int)[i]? = some (.int tape[i]) := by rw [List.getElem?_map, e3]; rfl
      refine ⟨rfl, _, rfl, _, rfl, _, rfl, tT, _, _, _, rfl, rfl, SqT.of (sm _ _ hbt), at_of (j := i) (by omega) e4, by show 2 ≤ sizeLine; decide, fun p1 hp1 => ?_⟩
      have g1 := Same.new (o := .tup [V.int (0 + (i : Nat)), V.int tape[i]]) hp1
      have tkD : TK (upd H16 p1 (.tup [V.int (0 + (i : Nat)), V.int tape[i]])) (upd (upd H16 p1 (.tup [V.int (0 + (i : Nat)), V.int tape[i]])) D (.lst (as.map V.ref ++ [V.ref p1]))) := TK.write (g1 _ _ has) fun xs z => by cases z
      have pl := Paired.length hpr
      rw [tapeL_length] at pl
      refine ⟨_, g1 _ _ has, big (by rw [List.length_map]; omega), Same.wr (sm.trans g1) hD, as ++ [p1], by rw [upd_same, List.map_append]; rfl, ?_⟩
      rw [tapeL_succ, e3]
      refine Paired.snoc (par_keep (TK.trans (Same.tk g1) tkD) hpr) (tkD _ _ ?_)
      rw [upd_same]
      show some (HO.tup [V.int (0 + (i : Nat)), V.int tape[i]]) = _
      rw [Int.zero_add]
      rfl
    rintro H15 ⟨sm15, as, has, hpr⟩
    rw [Int.toNat_natCast, List.length_map] at hpr
    refine ⟨D, as, encK (tapeL tape tape.length), rfl, SqL.of has, par_sq hpr, fun cC ncC => ?_⟩
    rw [merge_tape]
    have gC := Same.new (o := .dK (encK (tapeL tape tape.length))) ncC
    refine ⟨_, rfl, _, rfl, by show 4 ≤ sizeLine; decide, fun p4 np4 => ⟨p4, _, rfl, SqT.of upd_same, rfl, _, _, rfl, _, _, rfl, _, _, rfl, _, _, rfl, rfl, ?_⟩⟩
    have g4 := Same.new (o := .tup [V.ref cC, V.int h, V.int (q : Nat), V.int 0]) np4
    have hc16 := g4 _ _ (upd_same (H := H15) (a := cC) (o := .dK (encK (tapeL tape tape.length))))
    have s16 := gC.trans g4
    have sH16 : Same H14 (upd (upd H15 cC (.dK (encK (tapeL tape tape.length)))) p4 (.tup [V.ref cC, V.int h, V.int (q : Nat), V.int 0])) := sm15.trans s16
    have nC14 : H14 cC = none := sm15.free ncC
    generalize upd (upd H15 cC (.dK (encK (tapeL tape tape.length)))) p4 (.tup [V.ref cC, V.int h, V.int (q : Nat), V.int 0]) = H16 at *
    obtain ⟨xa, xs, exa, hxa, hxl, hxs⟩ := gridD_inv tp15.v
    have exa : mT = xa := V.ref.inj exa
    subst exa
    refine ⟨fun σ H' => ∃ (i : Nat) (c' : Cfg) (Lc : List (Int × Int)), (∃ (o2 o3 o7 o8 o9 o13 o14 o15 o20 o21 o22 o23 o24 o25 o26 o27 o28 o29 o30 : Option V),  σ = [some (.ref a), some (.ref row), o2, o3, some (.ref mT), some (.ref dL), some (.int ((q : Nat) : Int)), o7, o8, o9, some (.ref tT), some (.int h), some (.int ((many : Nat) : Int)), o13, o14, o15, some (.ref cC), some (.int (Cfg.x c')), some (.int c'.q), some (.int ((i : Nat) : Int)), o20, o21, o22, o23, o24, o25, o26, o27, o28, o29, o30]) ∧ Ends M (cfg0 tape h q) many i c' ∧ Same H14 H' ∧ H' cC = some (.dK (encK Lc)) ∧ SqRep Lc c'.f ∧ Lc.length ≤ 500, ?_, ?_⟩
    · refine ⟨_, rfl, (many : Nat), rfl, by omega, by omega, for_range (fun t σ H' => ∃ (i : Nat) (c' : Cfg) (Lc : List (Int × Int)), (∃ (o2 o3 o7 o8 o9 o13 o14 o15 o20 o21 o22 o23 o24 o25 o26 o27 o28 o29 o30 : Option V),  σ = [some (.ref a), some (.ref row), o2, o3, some (.ref mT), some (.ref dL), some (.int ((q : Nat) : Int)), o7, o8, o9, some (.ref tT), some (.int h), some (.int ((many : Nat) : Int)), o13, o14, o15, some (.ref cC), some (.int (Cfg.x c')), some (.int c'.q), some (.int ((i : Nat) : Int)), o20, o21, o22, o23, o24, o25, o26, o27, o28, o29, o30]) ∧ Ends M (cfg0 tape h q) t i c' ∧ Same H14 H' ∧ H' cC = some (.dK (encK Lc)) ∧ SqRep Lc c'.f ∧ Lc.length ≤ 400 + t) ⟨0, cfg0 tape h q, _, ⟨_, _, _, _, _, _, _, _, _, _, _, _, _, _, _, _, _, _, _, rfl⟩, ⟨Nat.le_refl _, rfl, .inl rfl⟩, sH16, hc16, tape_rep tape, by rw [tapeL_length]; omega⟩ ?_ ?_⟩
      · rintro t σ H17 ht ⟨i, c', Lc, ⟨o2, o3, o7, o8, o9, o13, o14, o15, o20, o21, o22, o23, o24, o25, o26, o27, o28, o29, o30, rfl⟩, en, sm, hd, rep, hL⟩
        rw [Int.toNat_natCast] at ht
        have hi := en.run
        have ok' := runC_ok good (cfg0_ok good tok tp.q) i hi
        obtain ⟨b, ys, v, e1, e2, e3, e4⟩ := mach_entry good ok' (RpAll.keep (Same.tk sm) hxs)
        have lk : (valV (encK Lc) (ik c'.x)).getD (.int 0) = .int (c'.f c'.x) := by rw [valK_look, rep.val]
        refine ⟨_, rfl, _, rfl, mT, xs, _, _, rfl, rfl, SqT.of (sm _ _ hxa), at_of (j := c'.q.toNat) (by have := ok'.st.1; omega) e1, _, rfl, cC, rfl, .inl ⟨_, .inl hd⟩, _, rfl, _, DGet.k (k := ik c'.x) hd, b, ys, _, v, rfl, lk, SqT.of e2, at_of (j := (c'.f c'.x).toNat) (by have := (ok'.col c'.x).1; omega) e3, ?_⟩
        cases hrl : rl M c'.q (c'.f c'.x) with
        | none =>
          rw [hrl] at e4
          rw [Rp.of_none e4]
          have hst := stepC_none hrl
          exact ⟨_, rfl, rfl, _, rfl, iteF (iteF ⟨i, c', Lc, ⟨_, _, _, _, _, _, _, _, _, _, _, _, _, _, _, _, _, _, _, rfl⟩, ⟨by have := en.le; omega, hi, .inr hst⟩, sm, hd, rep, by omega⟩)⟩
        | some r =>
          obtain ⟨wr, m, q'⟩ := r
          have hst := stepC_some hrl
          rw [hrl] at e4
          obtain ⟨e, rfl, he⟩ := Rp.of_its e4
          have hit : i = t := by
            rcases en.fin with z | z
            · exact z
            · rw [hst] at z; cases z
          subst hit
          refine ⟨_, rfl, rfl, _, rfl, iteT ⟨_, rfl, _, rfl, rfl, _, rfl, iteD (by rw [Int.zero_add]) ?_⟩⟩
          refine ⟨_, rfl, e, _, _, _, rfl, rfl, SqT.of he, rfl, _, rfl, _, rfl, cC, _, rfl, DPut.k (k := ik c'.x) hd (big ?_), ?_⟩
          · unfold encK
            rw [List.length_map]
            omega
          rw [encK_put]
          have tkC : TK H17 (upd H17 cC (.dK (encK (putL Lc c'.x wr)))) := TK.write hd fun xs z => by cases z
          have he2 := tkC _ _ he
          refine ⟨_, rfl, _, rfl, e, _, _, _, rfl, rfl, SqT.of he2, rfl, _, _, rfl, rfl, _, rfl, e, _, _, _, rfl, rfl, SqT.of he2, rfl, _, rfl, _, _, rfl, rfl, _, _, _, rfl, ?_⟩
          have := putL_length Lc c'.x wr
          exact ⟨i + 1, _, putL Lc c'.x wr, ⟨_, _, _, _, _, _, _, _, _, _, _, _, _, _, _, _, _, _, _, rfl⟩, ⟨Nat.le_refl _, (runC_succ hi).trans hst, .inl rfl⟩, Same.wr sm nC14, upd_same, rep.put _ _, by omega⟩
      · rintro σ H17 ⟨i, c', Lc, ⟨o2, o3, o7, o8, o9, o13, o14, o15, o20, o21, o22, o23, o24, o25, o26, o27, o28, o29, o30, rfl⟩, en, sm, hd, rep, hL⟩
        rw [Int.toNat_natCast] at en hL
        exact ⟨i, c', Lc, ⟨_, _, _, _, _, _, _, _, _, _, _, _, _, _, _, _, _, _, _, rfl⟩, en, sm, hd, rep, by omega⟩
    rintro σ H17 ⟨i, c', Lc, ⟨o2, o3, o7, o8, o9, o13, o14, o15, o20, o21, o22, o23, o24, o25, o26, o27, o28, o29, o30, rfl⟩, en, sm, hd, rep, hL⟩
    -- told
    have hle := en.le
    refine ⟨_, rfl, .inr (.inr (.inl ⟨rfl, .inl ⟨_, hd⟩⟩)), cC, rfl, rfl, .inl ⟨_, hd⟩, fun p hp => ?_⟩
    have s2' : Same H17 (upd H17 p (keysO p cC)) := Same.new hp
    refine ⟨p, cC, _, Lc.map (·.1), rfl, upd_same, s2' _ _ hd, by unfold encK; rw [List.map_map, List.map_map]; rfl, fun E1 hE1 => ?_⟩
    generalize hks : (Lc.map (·.1)).mergeSort leI = ks
    have kl : ks.length = Lc.length := by rw [← hks, List.length_mergeSort, List.length_map]
    generalize hHH : upd (upd H17 p (keysO p cC)) E1 (.lst (ks.map V.int)) = HH
    have s3' : Same H17 HH := by rw [← hHH]; exact s2'.trans (Same.new hE1)
    have hE : HH E1 = some (.lst (ks.map V.int)) := by rw [← hHH]; exact upd_same
    refine ⟨E1, rfl, ⟨_, SqL.of hE⟩, fun D2 hD2 => lc_it (walk_list (K := K) (a := E1) (xs := ks.map V.int)) (fun i H2 => Same HH H2 ∧ ∃ out, H2 D2 = some (.lst out) ∧ RpAll H2 out ((canon c'.f (ks.take i)).map fun p => itD [p.1, p.2]))
      ⟨Same.new hD2, [], upd_same, .nil⟩ (fun i H2 _ h => SqL.of (h.1 _ _ hE)) ?_ ?_⟩
    · rintro j x H2 H3 hj ⟨sm3, out, ho, hout⟩ ⟨rfl, hx⟩
      rw [List.length_map] at hj
      have hkj : ks[j]? = some ks[j] := List.getElem?_eq_getElem hj
      have ex : x = .int ks[j] := by
        rw [List.getElem?_map, hkj] at hx
        exact (Option.some.inj hx).symm
      subst ex
      have mem : ks[j] ∈ Lc.map (·.1) := by
        rw [← List.mem_mergeSort (le := leI), hks]
        exact List.getElem_mem hj
      obtain ⟨pq, hpq, epq⟩ := List.mem_map.mp mem
      have hv : valV (encK Lc) (ik ks[j]) = some (.int (c'.f ks[j])) := by
        rw [valK_enc, ← epq, find_mem rep.nd hpq, ← rep.val, look_mem rep.nd hpq]
        rfl
      have dg : DGet H3 cC (.int ks[j]) (some (.int (c'.f ks[j]))) := by rw [← hv]; exact DGet.k (k := ik ks[j]) ((s3'.trans sm3) _ _ hd)
      refine ⟨rfl, _, rfl, _, rfl, cC, _, rfl, dg, rfl, _, rfl, ?_⟩
      have st : ks.take (j + 1) = ks.take j ++ [ks[j]] := by rw [List.take_add_one, hkj]; rfl
      by_cases hz : c'.f ks[j] = 0
      · refine iteND (by rw [hz]) ⟨sm3, out, ho, ?_⟩
        rw [st, canon_snoc, if_pos hz, List.append_nil]
        exact hout
      · refine iteNDT (fun e => hz (V.int.inj e)) ?_
        refine ⟨_, rfl, _, rfl, _, rfl, cC, _, rfl, dg, by show 2 ≤ sizeLine; decide, fun p1 hp1 => ?_⟩
        have g1 := Same.new (o := .tup [V.int ks[j], V.int (c'.f ks[j])]) hp1
        have n1 : D2 ≠ p1 := ne_of_none ho hp1
        refine ⟨out, g1 _ _ ho, big ?_, Same.wr (sm3.trans g1) hD2, _, upd_same, ?_⟩
        · have : out.length = (canon c'.f (ks.take j)).length := by rw [hout.length, List.length_map]
          rw [this]
          have h1 : (canon c'.f (ks.take j)).length ≤ (ks.take j).length := by
            unfold canon
            refine Nat.le_trans (List.length_filter_le _ _) ?_
            rw [List.length_map]
            exact Nat.le_refl _
          have h2 : (ks.take j).length ≤ ks.length := by rw [List.length_take]; omega
          omega
        · rw [st, canon_snoc, if_neg hz, List.map_append]
          have tk : TK H3 (upd (upd H3 p1 (.tup [V.int ks[j], V.int (c'.f ks[j])])) D2 (.lst (out ++ [V.ref p1]))) := TK.trans (Same.tk g1) (TK.write (g1 _ _ ho) fun xs z => by cases z)
          refine RpAll.snoc (RpAll.keep tk hout) (Rp.its ?_)
          rw [upd_ne n1.symm, upd_same]
          rfl
    rintro H18 ⟨sm3, out, ho, hout⟩
    rw [List.length_map, List.take_length] at hout
    have cn := rep.canon
    rw [hks] at cn
    have cnl := Canon.length_le rep cn
    generalize canon c'.f ks = S' at cn cnl hout
    refine ⟨D2, out, rfl, .inl ⟨SqL.of ho, fun l hl => ?_⟩⟩
    have g4 := Same.new (o := .tup out) hl
    refine ⟨_, rfl, _, rfl, _, rfl, by show 4 ≤ sizeLine; decide, fun told htold => ?_⟩
    have g5 := Same.new (o := .tup [V.ref l, V.int c'.x, V.int c'.q, V.int (i : Nat)]) htold
    have hTold : Rp (upd (upd H18 l (.tup out)) told (.tup [V.ref l, V.int c'.x, V.int c'.q, V.int (i : Nat)])) (.ref told) (runD S' c' i) := by
      refine .tup upd_same (.cons ?_ (.cons (.int _) (.cons (.int _) (.cons (.int _) .nil))))
      exact .tup (g5 _ _ upd_same) (RpAll.keep (Same.tk (g4.trans g5)) hout)
    have s19 := sm.trans (s3'.trans (sm3.trans (g4.trans g5)))
    generalize upd (upd H18 l (.tup out)) told (.tup [V.ref l, V.int c'.x, V.int c'.q, V.int (i : Nat)]) = H19 at *
    have tp19 := tp15.keep (Same.tk s19)
    have w19 := w15.keep s19
    have hd19 := s19 _ _ hd15
    have hds19 := RpAll.keep (Same.tk s19) hds15
    clear hout ho sm3 hE s3' hHH s2' g4 g5 s19
    -- the two runs
    refine ⟨_, rfl, _, rfl, _, rfl, _, rfl, _, rfl, .ref mT, .ref tT, M, S, G, tape, h, q, many, rfl, tp19, by omega, fun H20 ra ka ca Sa ena cana sa hra => ?_⟩
    obtain ⟨rfl, rfl⟩ := ena.uniq en
    have eSa := cana.uniq cn
    subst eSa
    refine ⟨_, rfl, _, rfl, _, rfl, _, rfl, _, rfl, .ref mT, .ref tT, M, S, G, tape, h, q, many, rfl, tp19.keep (Same.tk sa), by omega, fun H21 rb kb cb Sb enb canb sb hrb => ?_⟩
    obtain ⟨rfl, rfl⟩ := enb.uniq ena
    have eSb := canb.uniq cana
    subst eSb
    refine ⟨by show 2 ≤ sizeLine; decide, fun l1 nl1 => ⟨_, rfl, _, rfl, by show 2 ≤ sizeLine; decide, fun l2 nl2 => ?_⟩⟩
    have g1' := Same.new (o := .lst [ra, rb]) nl1
    have g2' := Same.new (o := .lst [V.ref told, V.ref told]) nl2
    have pR : plw 3 (runD Sb cb kb) = true := plw_run (by omega)
    have lA : Lp (upd (upd H21 l1 (.lst [ra, rb])) l2 (.lst [V.ref told, V.ref told])) (.ref l1) (.list [runD Sb cb kb, runD Sb cb kb]) := .lst (g2' _ _ upd_same) (.cons (Rp.lp (Rp.keep (Same.tk (sb.trans (g1'.trans g2'))) hra) pR) (.cons (Rp.lp (Rp.keep (Same.tk (g1'.trans g2')) hrb) pR) .nil))
    have tT2 := Rp.lp (Rp.keep (Same.tk (sa.trans (sb.trans (g1'.trans g2')))) hTold) pR
    have lB : Lp (upd (upd H21 l1 (.lst [ra, rb])) l2 (.lst [V.ref told, V.ref told])) (.ref l2) (.list [runD Sb cb kb, runD Sb cb kb]) := .lst upd_same (.cons tT2 (.cons tT2 .nil))
    refine ⟨.ref l1, .ref l2, _, rfl, lA, lB, ?_, fun H22 s22 => ⟨_, rfl, iteF ?_⟩⟩
    · show (decide (2 ≤ 2000) && [runD Sb cb kb, runD Sb cb kb].all (plw 3)) = true
      simp [pR]
    have s23 := (sa.trans sb).trans ((g1'.trans g2').trans s22)
    have tp22 := tp19.keep (Same.tk s23)
    have w22 := w19.keep s23
    have hd22 := s23 _ _ hd19
    have hds22 := RpAll.keep (Same.tk s23) hds19
    clear lA lB tT2 hra hrb hTold
    -- the stand
    refine ⟨_, rfl, _, rfl, _, rfl, _, rfl, .ref mT, .ref tT, M, S, G, tape, h, q, rfl, tp22, ⟨by omega, by omega⟩, fun H23 rs Sq s23' canq hrs => ?_⟩
    obtain ⟨ast, fl, wk, rfl, hast, hf, hw⟩ := Rp.of_two hrs
    have eSq := canq.uniq (tape_canon tape)
    refine ⟨ast, _, rfl, SqT.of hast, rfl, _, _, rfl, _, _, rfl, rfl, ?_⟩
    have fok := tape_floor tok (by omega) canq
    have fewq := tape_few canq
    have tp23 := tp22.keep (Same.tk s23')
    have w23 := w22.keep s23'
    have hd23 := s23' _ _ hd22
    have hds23 := RpAll.keep (Same.tk s23') hds22
    obtain ⟨bt2, ebt2, hbt2⟩ := Rp.of_its tp23.t
    have ebt2 : tT = bt2 := V.ref.inj ebt2
    subst ebt2
    refine ⟨_, rfl, _, rfl, by show 2 ≤ sizeLine; decide, fun t1 nt1 => ?_⟩
    have gt1 := Same.new (o := .tup [fl, wk]) nt1
    have hfw : Rp (upd H23 t1 (.tup [fl, wk])) (.ref t1) (standD Sq (cfg0 tape h q)) := .tup upd_same (.cons (Rp.keep (Same.tk gt1) hf) (.cons (Rp.keep (Same.tk gt1) hw) .nil))
    have hbt3 := gt1 _ _ hbt2
    generalize hH24 : upd H23 t1 (.tup [fl, wk]) = H24 at hfw gt1 hbt3
    refine ⟨_, rfl, _, _, rfl, .inr (SqT.of hbt3), ((tape.map V.int).length : Nat), rfl, by rw [List.length_map]; omega, by rw [List.length_map]; omega, fun D hD => lc_it walk_range (fun i H' => Same H24 H' ∧ ∃ out, H' D = some (.lst out) ∧ RpAll H' out ((canon (tapeF tape) (tapeK i)).map fun p => itD [p.1, 0, p.2])) ⟨Same.new hD, [], upd_same, .nil⟩ (fun i H' _ _ => trivial) ?_ ?_⟩
    · rintro i y H25 H26 hi ⟨sm, out, ho, hout⟩ ⟨rfl, rfl⟩
      rw [Int.toNat_natCast, List.length_map] at hi
      have e3 : tape[i]? = some tape[i] := List.getElem?_eq_getElem hi
      have e4 : (tape.map V.int)[i]? = some (.int tape[i]) := by rw [List.getElem?_map, e3]; rfl
      have fz := tapeF_at tape e3
      have ht0 := tok.in_ _ (List.getElem_mem hi)
      have hb := sm _ _ hbt3
      refine ⟨rfl, _, rfl, _, rfl, tT, _, _, _, rfl, rfl, SqT.of hb, at_of (j := i) (by omega) e4, _, _, rfl, rfl, _, rfl, ?_⟩
      by_cases hz : tape[i] = 0
      · refine iteDF (by omega) ⟨sm, out, ho, ?_⟩
        rw [tapeK_succ, canon_snoc, fz, if_pos hz, List.append_nil]
        exact hout
      · refine iteD (by omega) ?_
        refine ⟨_, rfl, _, rfl, _, rfl, tT, _, _, _, rfl, rfl, SqT.of hb, at_of (j := i) (by omega) e4, by show 3 ≤ sizeLine; decide, fun p1 hp1 => ?_⟩
        have g1 := Same.new (o := .tup [V.int (0 + (i : Nat)), V.int 0, V.int tape[i]]) hp1
        refine ⟨out, g1 _ _ ho, big ?_, Same.wr (sm.trans g1) hD, _, upd_same, ?_⟩
        · have : out.length = (canon (tapeF tape) (tapeK i)).length := by rw [hout.length, List.length_map]
          rw [this]
          have h1 : (canon (tapeF tape) (tapeK i)).length ≤ (tapeK i).length := by
            unfold canon
            refine Nat.le_trans (List.length_filter_le _ _) ?_
            rw [List.length_map]
            exact Nat.le_refl _
          have h2 : (tapeK i).length = i := by unfold tapeK; rw [List.length_map, List.length_range]
          omega
        · rw [tapeK_succ, canon_snoc, fz, if_neg hz, List.map_append]
          have n1 : D ≠ p1 := ne_of_none ho hp1
          refine RpAll.snoc (RpAll.keep (TK.trans (Same.tk g1) (TK.write (g1 _ _ ho) fun xs z => by cases z)) hout) (Rp.its ?_)
          rw [upd_ne n1.symm, upd_same]
          show some (HO.tup [V.int (0 + (i : Nat)), V.int 0, V.int tape[i]]) = _
          rw [Int.zero_add]
          rfl
    rintro H25 ⟨sm25, out, ho, hout⟩
    rw [Int.toNat_natCast, List.length_map, ← eSq] at hout
    refine ⟨D, out, rfl, .inl ⟨SqL.of ho, fun l hl => ?_⟩⟩
    have g4 := Same.new (o := .tup out) hl
    refine ⟨_, rfl, _, rfl, _, _, rfl, rfl, .inl ⟨by decide, by decide⟩, by show 4 ≤ sizeLine; decide, fun p2 hp2 => ⟨by show 2 ≤ sizeLine; decide, fun p3 hp3 => ?_⟩⟩
    have g5 := Same.new (o := .tup [V.int h, V.int 0, V.int 1, V.int (2 * (q : Nat))]) hp2
    have g6 := Same.new (o := .tup [V.ref l, V.ref p2]) hp3
    have gAll := g4.trans (g5.trans g6)
    have hst2 : Rp (upd (upd (upd H25 l (.tup out)) p2 (.tup [V.int h, V.int 0, V.int 1, V.int (2 * (q : Nat))])) p3 (.tup [V.ref l, V.ref p2])) (.ref p3) (standD Sq (cfg0 tape h q)) := by
      refine .tup upd_same (.cons (.tup ((g5.trans g6) _ _ upd_same) (RpAll.keep (Same.tk gAll) hout)) (.cons ?_ .nil))
      have := Rp.its (is := [h, 0, 1, 2 * (q : Int)]) (g6 _ _ upd_same)
      show Rp _ _ (itD [h, 0, hdg false, sd q false])
      unfold sd hdg
      simp
      exact this
    have pS : plw 3 (standD Sq (cfg0 tape h q)) = true := plw_stand (by omega)
    refine ⟨.ref t1, .ref p3, standD Sq (cfg0 tape h q), rfl, Rp.lp (Rp.keep (Same.tk (sm25.trans gAll)) hfw) pS, Rp.lp hst2 pS, pS, fun H26 s26 => ⟨_, rfl, iteF ?_⟩⟩
    have s27 := gt1.trans ((sm25.trans gAll).trans s26)
    have tp26 := tp23.keep (Same.tk s27)
    have w26 := w23.keep s27
    have hd26 := s27 _ _ hd23
    have hds26 := RpAll.keep (Same.tk s27) hds23
    have hf26 := Rp.keep (Same.tk s27) hf
    have hw26 := Rp.keep (Same.tk s27) hw
    clear hst2 hout ho hfw hf hw hrs g4 g5 g6 gAll s27 s26 sm25
    have cok := cfg0_ok (h := h) good tok tp26.q
    -- walk
    refine ⟨_, rfl, dL, ds, rfl, .inl ⟨SqL.of hd26, fun tD ntD => ?_⟩⟩
    have gD := Same.new (o := .tup ds) ntD
    have st27 : St3 (upd H26 tD (.tup ds)) (.ref tD) fl wk M S G Sq (cfg0 tape h q) := ⟨.tup upd_same (RpAll.keep (Same.tk gD) hds26), Rp.keep (Same.tk gD) hf26, Rp.keep (Same.tk gD) hw26, good, cok, canq⟩
    refine ⟨_, rfl, _, rfl, _, rfl, .ref tD, fl, wk, M, S, G, Sq, cfg0 tape h q, many, rfl, st27, fok, tp26.far, by omega, by omega, fun H28 va kv cv Sv env canv sv hva => ?_⟩
    obtain ⟨rfl, rfl⟩ := env.uniq enb
    obtain ⟨af, fl2, wk2, kk2, rfl, haf, hfl2, hwk2, hkk2⟩ := Rp.of_three hva
    obtain ⟨aw, rfl, haw⟩ := Rp.of_its hwk2
    refine ⟨_, rfl, af, _, _, _, rfl, rfl, SqT.of haf, rfl, _, rfl, aw, _, rfl, SqT.of haw, n42, fun p1 hp1 => ?_⟩
    have g1 := Same.new (o := .tup (cutV ([cv.x, 0, hdg cv.b, sd cv.q cv.b].map V.int) none (some 2))) hp1
    refine ⟨_, rfl, by show 2 ≤ sizeLine; decide, fun p2 hp2 => ?_⟩
    have g2' := Same.new (o := .tup [V.int cv.x, V.int 0]) hp2
    refine ⟨itD [cv.x, 0], itD [cv.x, 0], Rp.dp (Rp.its (g2' _ _ upd_same)), Rp.dp (Rp.its upd_same), sh_its, sh_its, _, rfl, ?_⟩
    rw [its_eq, decide_eq_true (rfl : [cv.x, 0] = [cv.x, 0])]
    refine iteF ?_
    have g12 := g1.trans g2'
    refine ⟨_, rfl, af, _, _, _, rfl, rfl, SqT.of (g12 _ _ haf), rfl, aw, _, _, _, rfl, rfl, SqT.of (g12 _ _ haw), rfl, _, _, rfl, rfl, ⟨by decide, by decide⟩, _, rfl, rfl, _, rfl, iteND (by show V.int (sd cv.q cv.b / 2) = _; rw [sd_half]) ?_⟩
    -- the squares stay on the row
    obtain ⟨afl, xfl, rfl, hafl, hxfl⟩ := Rp.of_tup hfl2
    refine ⟨_, rfl, af, _, _, _, rfl, rfl, SqT.of (g12 _ _ haf), rfl, afl, rfl, ⟨_, SqT.of (g12 _ _ hafl)⟩, fun D hD => lc_it (walk_tup (K := K) (a := afl) (xs := xfl)) (fun i H2 => Same H28 H2 ∧ H2 D = some (.lst [])) ⟨g12.trans (Same.new hD), upd_same⟩ (fun i H2 _ h => SqT.of (h.1 _ _ hafl)) ?_ ?_⟩
    · rintro j y H29 H30 hj ⟨sm, hD29⟩ ⟨rfl, hy⟩
      obtain ⟨pq, bq, hpq, rfl, hbq⟩ := floorD_at hxfl hy
      exact ⟨rfl, _, rfl, bq, _, _, _, rfl, rfl, SqT.of (sm _ _ hbq), rfl, rfl, _, rfl, iteND rfl ⟨sm, hD29⟩⟩
    rintro H29 ⟨sm29, hD29⟩
    refine ⟨Nat.zero_le _, fun p3 hp3 => ⟨.list [], .list [], dp_nil (by rw [upd_ne (ne_of_none hD29 hp3)]; exact hD29), dp_nil upd_same, shaped_nil, shaped_nil, _, rfl, iteF ?_⟩⟩
    have s30 := gD.trans (sv.trans (sm29.trans (Same.new (o := .lst []) hp3)))
    generalize upd H29 p3 (.lst []) = H30 at *
    have tp30 := tp26.keep (Same.tk s30)
    have w30 := w26.keep s30
    have hd30 := s30 _ _ hd26
    have hds30 := RpAll.keep (Same.tk s30) hds26
    have hf30 := Rp.keep (Same.tk s30) hf26
    have hw30 := Rp.keep (Same.tk s30) hw26
    clear g12 g1 g2' sm29 hD29
    -- the paper
    refine ⟨_, rfl, dL, ds, rfl, .inl ⟨SqL.of hd30, fun tE ntE => ?_⟩⟩
    have gE := Same.new (o := .tup ds) ntE
    have st31 : St3 (upd H30 tE (.tup ds)) (.ref tE) fl wk M S G Sq (cfg0 tape h q) := ⟨.tup upd_same (RpAll.keep (Same.tk gE) hds30), Rp.keep (Same.tk gE) hf30, Rp.keep (Same.tk gE) hw30, good, cok, canq⟩
    refine ⟨_, rfl, _, rfl, .ref tE, fl, wk, M, S, G, Sq, cfg0 tape h q, 600, 20, rfl, st31, fok, tp30.far, by omega, ⟨by decide, by decide⟩, ⟨by decide, by decide⟩, fun H31 s31 => ⟨_, rfl, rfl, _, rfl, iteT (k _)⟩, fun H31 rp pp s31 hrp okp => ?_⟩
    obtain ⟨ap, rfl⟩ := paper_ref hrp
    refine ⟨_, rfl, rfl, _, rfl, iteF ?_⟩
    have s32 := gE.trans s31
    have w31 := w30.keep s32
    have hd31 := s32 _ _ hd30
    refine ⟨_, rfl, row, a, ns, 500, rfl, w31.row, by decide, by decide, fun H32 step hstep R32 f32 => ?_⟩
    have tk32 : TK H30 H32 := TK.trans (Same.tk s32) (w31.row.tk f32)
    have hd32 := f32 _ _ hd31 ndr
    have hrp32 := Rp.keep (w31.row.tk f32) hrp
    refine ⟨_, rfl, dL, ds, rfl, .inl ⟨SqL.of hd32, fun tF ntF => ?_⟩⟩
    have gF := Same.new (o := .tup ds) ntF
    have tk33 := TK.trans tk32 (Same.tk gF)
    have st33 : St3 (upd H32 tF (.tup ds)) (.ref tF) fl wk M S G Sq (cfg0 tape h q) := ⟨.tup upd_same (RpAll.keep tk33 hds30), Rp.keep tk33 hf30, Rp.keep tk33 hw30, good, cok, canq⟩
    refine ⟨_, rfl, _, rfl, _, rfl, _, rfl, .ref tF, fl, wk, .ref ap, M, S, G, Sq, cfg0 tape h q, pp, step, rfl, st33, fok, tp30.far, by omega, Rp.keep (Same.tk gF) hrp32, okp, by omega, fun H34 rh kh ch enh s34 hrh => ?_⟩
    refine ⟨_, rfl, _, rfl, _, rfl, _, rfl, _, rfl, .ref mT, .ref tT, M, S, G, tape, h, q, step, rfl, tp30.keep (TK.trans tk33 (Same.tk s34)), by omega, fun H35 rr kr cr Sr enr canr s35 hrr => ?_⟩
    obtain ⟨rfl, rfl⟩ := enr.uniq enh
    refine ⟨_, _, rfl, ?_⟩
    obtain ⟨ah, rfl, hah⟩ := Rp.of_its (Rp.keep (Same.tk s35) hrh)
    obtain ⟨ar, vr, rfl, har⟩ := Rp.of_run hrr
    refine ⟨_, rfl, ah, _, _, _, rfl, rfl, SqT.of hah, rfl, _, rfl, ah, _, _, _, rfl, rfl, SqT.of hah, rfl, _, _, rfl, rfl, ⟨by decide, by decide⟩, by show 2 ≤ sizeLine; decide, fun p5 hp5 => ?_⟩
    have ehalf : (fun i j : Int => V.int (i / j)) (sd cr.q cr.b) 2 = V.int cr.q := by show V.int (sd cr.q cr.b / 2) = _; rw [sd_half]
    rw [ehalf]
    have g7 := Same.new (o := .tup [V.int cr.x, V.int cr.q]) hp5
    refine ⟨_, rfl, _, rfl, _, rfl, ar, _, rfl, SqT.of (g7 _ _ har), n413, fun p6 hp6 => ?_⟩
    have g8 := Same.new (o := .tup (cutV [vr, V.int cr.x, V.int cr.q, V.int (kr : Nat)] (some 1) (some 3))) hp6
    refine ⟨itD [cr.x, cr.q], itD [cr.x, cr.q], Rp.dp (Rp.its (g8 _ _ upd_same)), Rp.dp (Rp.its upd_same), sh_its, sh_its, ?_⟩
    rw [its_eq, decide_eq_true (rfl : [cr.x, cr.q] = [cr.x, cr.q])]
    exact k _
end
end TP
set_option Elab.async false
set_option linter.all false
set_option maxRecDepth 100000
set_option maxHeartbeats 8000000
namespace TP
open PySem PySem.Spec PyProof.Rows L2
theorem all_mk {l : PySem.W.OpenLaw} {w : World} {K : PySem.W.Frag} {h : Heap} {mg : Str → Option Value} {fa : Addr} (X : K.In h) (G : h.Ns mainGlobals mg) (hfa : mg "law" = some (.ref fa))
    {fa0 : Addr}
    {oda0 ana0 : Option Addr} {sla0 : Array (Option Value)} {oca0 kVa0 dca0 pma0 cda0 cta0 : Value}
    {fa1 : Addr}
    {oda1 ana1 : Option Addr} {sla1 : Array (Option Value)} {oca1 kVa1 dca1 pma1 cda1 cta1 : Value}
    {fa2 : Addr}
    {oda2 ana2 : Option Addr} {sla2 : Array (Option Value)} {oca2 kVa2 dca2 pma2 cda2 cta2 : Value}
    {fa3 : Addr}
    {oda3 ana3 : Option Addr} {sla3 : Array (Option Value)} {oca3 kVa3 dca3 pma3 cda3 cta3 : Value}
    {fa4 : Addr}
    {oda4 ana4 : Option Addr} {sla4 : Array (Option Value)} {oca4 kVa4 dca4 pma4 cda4 cta4 : Value}
    {fa5 : Addr}
    {oda5 ana5 : Option Addr} {sla5 : Array (Option Value)} {oca5 kVa5 dca5 pma5 cda5 cta5 : Value}
    {fa6 : Addr}
    {TD : Addr} {oTD : Option Addr} {tTD : _} {nTD : Nat} {sTD : Array (Option Value)}
    {oda6 ana6 : Option Addr} {sla6 : Array (Option Value)} {oca6 kVa6 dca6 pma6 cda6 cta6 : Value}
    {fa7 : Addr}
    {oda7 ana7 : Option Addr} {sla7 : Array (Option Value)} {oca7 kVa7 dca7 pma7 cda7 cta7 : Value}
    {fa8 : Addr}
    {oda8 ana8 : Option Addr} {sla8 : Array (Option Value)} {oca8 kVa8 dca8 pma8 cda8 cta8 : Value}
    {fa9 : Addr}
    {oda9 ana9 : Option Addr} {sla9 : Array (Option Value)} {oca9 kVa9 dca9 pma9 cda9 cta9 : Value}
    {fa10 : Addr}
    {oda10 ana10 : Option Addr} {sla10 : Array (Option Value)} {oca10 kVa10 dca10 pma10 cda10 cta10 : Value}
    {fa11 : Addr}
    {oda11 ana11 : Option Addr} {sla11 : Array (Option Value)} {oca11 kVa11 dca11 pma11 cda11 cta11 : Value}
    {fa12 : Addr}
    {oda12 ana12 : Option Addr} {sla12 : Array (Option Value)} {oca12 kVa12 dca12 pma12 cda12 cta12 : Value}
    {fa13 : Addr}
    {oda13 ana13 : Option Addr} {sla13 : Array (Option Value)} {oca13 kVa13 dca13 pma13 cda13 cta13 : Value}
    {fa14 : Addr}
    {oda14 ana14 : Option Addr} {sla14 : Array (Option Value)} {oca14 kVa14 dca14 pma14 cda14 cta14 : Value}
    {fa15 : Addr}
    {oda15 ana15 : Option Addr} {sla15 : Array (Option Value)} {oca15 kVa15 dca15 pma15 cda15 cta15 : Value}
    {fa16 : Addr}
    {oda16 ana16 : Option Addr} {sla16 : Array (Option Value)} {oca16 kVa16 dca16 pma16 cda16 cta16 : Value}
    {fa17 : Addr}
    {oda17 ana17 : Option Addr} {sla17 : Array (Option Value)} {oca17 kVa17 dca17 pma17 cda17 cta17 : Value}
    {fa18 : Addr}
    {oda18 ana18 : Option Addr} {sla18 : Array (Option Value)} {oca18 kVa18 dca18 pma18 cda18 cta18 : Value}
    {fa19 : Addr}
    {oda19 ana19 : Option Addr} {sla19 : Array (Option Value)} {oca19 kVa19 dca19 pma19 cda19 cta19 : Value}
    {fa20 : Addr}
    {oda20 ana20 : Option Addr} {sla20 : Array (Option Value)} {oca20 kVa20 dca20 pma20 cda20 cta20 : Value}
    {fa21 : Addr}
    {oda21 ana21 : Option Addr} {sla21 : Array (Option Value)} {oca21 kVa21 dca21 pma21 cda21 cta21 : Value}
    {fa22 : Addr}
    {oda22 ana22 : Option Addr} {sla22 : Array (Option Value)} {oca22 kVa22 dca22 pma22 cda22 cta22 : Value}
    {fa23 : Addr}
    {oda23 ana23 : Option Addr} {sla23 : Array (Option Value)} {oca23 kVa23 dca23 pma23 cda23 cta23 : Value}
    {fa24 : Addr}
    {oda24 ana24 : Option Addr} {sla24 : Array (Option Value)} {oca24 kVa24 dca24 pma24 cda24 cta24 : Value}
    {fa25 : Addr}
    {oda25 ana25 : Option Addr} {sla25 : Array (Option Value)} {oca25 kVa25 dca25 pma25 cda25 cta25 : Value}
    {fa26 : Addr}
    {oda26 ana26 : Option Addr} {sla26 : Array (Option Value)} {oca26 kVa26 dca26 pma26 cda26 cta26 : Value}
    {fa27 : Addr}
    {oda27 ana27 : Option Addr} {sla27 : Array (Option Value)} {oca27 kVa27 dca27 pma27 cda27 cta27 : Value}
    {fa28 : Addr}
    {oda28 ana28 : Option Addr} {sla28 : Array (Option Value)} {oca28 kVa28 dca28 pma28 cda28 cta28 : Value}
    {fa29 : Addr}
    {oda29 ana29 : Option Addr} {sla29 : Array (Option Value)} {oca29 kVa29 dca29 pma29 cda29 cta29 : Value}
    {fa30 : Addr}
    {oda30 ana30 : Option Addr} {sla30 : Array (Option Value)} {oca30 kVa30 dca30 pma30 cda30 cta30 : Value}
    {fa31 : Addr}
    {oda31 ana31 : Option Addr} {sla31 : Array (Option Value)} {oca31 kVa31 dca31 pma31 cda31 cta31 : Value}
    {fa32 : Addr}
    {oda32 ana32 : Option Addr} {sla32 : Array (Option Value)} {oca32 kVa32 dca32 pma32 cda32 cta32 : Value}
    {CW : Addr}
    {fCW0 : Addr}
    {odCW0 anCW0 : Option Addr} {slCW0 : Array (Option Value)} {ocCW0 kVCW0 dcCW0 pmCW0 cdCW0 ctCW0 : Value}
    {fCW1 : Addr}
    {odCW1 anCW1 : Option Addr} {slCW1 : Array (Option Value)} {ocCW1 kVCW1 dcCW1 pmCW1 cdCW1 ctCW1 : Value}
    {fCW2 : Addr}
    {odCW2 anCW2 : Option Addr} {slCW2 : Array (Option Value)} {ocCW2 kVCW2 dcCW2 pmCW2 cdCW2 ctCW2 : Value}
    {fCW3 : Addr}
    {odCW3 anCW3 : Option Addr} {slCW3 : Array (Option Value)} {ocCW3 kVCW3 dcCW3 pmCW3 cdCW3 ctCW3 : Value}
    {fCW4 : Addr}
    {odCW4 anCW4 : Option Addr} {slCW4 : Array (Option Value)} {ocCW4 kVCW4 dcCW4 pmCW4 cdCW4 ctCW4 : Value}
    {fCW5 : Addr}
    {odCW5 anCW5 : Option Addr} {slCW5 : Array (Option Value)} {ocCW5 kVCW5 dcCW5 pmCW5 cdCW5 ctCW5 : Value}
    {fCW6 : Addr}
    {odCW6 anCW6 : Option Addr} {slCW6 : Array (Option Value)} {ocCW6 kVCW6 dcCW6 pmCW6 cdCW6 ctCW6 : Value}
    {CR : Addr}
    {fCR0 : Addr}
    {odCR0 anCR0 : Option Addr} {slCR0 : Array (Option Value)} {ocCR0 kVCR0 dcCR0 pmCR0 cdCR0 ctCR0 : Value}
    {fCR1 : Addr}
    {odCR1 anCR1 : Option Addr} {slCR1 : Array (Option Value)} {ocCR1 kVCR1 dcCR1 pmCR1 cdCR1 ctCR1 : Value}
    {fCR2 : Addr}
    {odCR2 anCR2 : Option Addr} {slCR2 : Array (Option Value)} {ocCR2 kVCR2 dcCR2 pmCR2 cdCR2 ctCR2 : Value}
    {fCR3 : Addr}
    {odCR3 anCR3 : Option Addr} {slCR3 : Array (Option Value)} {ocCR3 kVCR3 dcCR3 pmCR3 cdCR3 ctCR3 : Value}
    {fCR4 : Addr}
    {odCR4 anCR4 : Option Addr} {slCR4 : Array (Option Value)} {ocCR4 kVCR4 dcCR4 pmCR4 cdCR4 ctCR4 : Value}
    {CS : Addr}
    {fCS0 : Addr}
    {odCS0 anCS0 : Option Addr} {slCS0 : Array (Option Value)} {ocCS0 kVCS0 dcCS0 pmCS0 cdCS0 ctCS0 : Value}
    {fCS1 : Addr}
    {odCS1 anCS1 : Option Addr} {slCS1 : Array (Option Value)} {ocCS1 kVCS1 dcCS1 pmCS1 cdCS1 ctCS1 : Value}
    {fCS2 : Addr}
    {odCS2 anCS2 : Option Addr} {slCS2 : Array (Option Value)} {ocCS2 kVCS2 dcCS2 pmCS2 cdCS2 ctCS2 : Value}
    {CT : Addr}
    {fCT0 : Addr}
    {odCT0 anCT0 : Option Addr} {slCT0 : Array (Option Value)} {ocCT0 kVCT0 dcCT0 pmCT0 cdCT0 ctCT0 : Value}
    {fCT1 : Addr}
    {odCT1 anCT1 : Option Addr} {slCT1 : Array (Option Value)} {ocCT1 kVCT1 dcCT1 pmCT1 cdCT1 ctCT1 : Value}
    {fCT2 : Addr}
    {odCT2 anCT2 : Option Addr} {slCT2 : Array (Option Value)} {ocCT2 kVCT2 dcCT2 pmCT2 cdCT2 ctCT2 : Value}
    {fCT3 : Addr}
    {odCT3 anCT3 : Option Addr} {slCT3 : Array (Option Value)} {ocCT3 kVCT3 dcCT3 pmCT3 cdCT3 ctCT3 : Value}
    {CF : Addr}
    {fCF0 : Addr}
    {odCF0 anCF0 : Option Addr} {slCF0 : Array (Option Value)} {ocCF0 kVCF0 dcCF0 pmCF0 cdCF0 ctCF0 : Value}
    {fCF1 : Addr}
    {odCF1 anCF1 : Option Addr} {slCF1 : Array (Option Value)} {ocCF1 kVCF1 dcCF1 pmCF1 cdCF1 ctCF1 : Value}
    {fCF2 : Addr}
    {odCF2 anCF2 : Option Addr} {slCF2 : Array (Option Value)} {ocCF2 kVCF2 dcCF2 pmCF2 cdCF2 ctCF2 : Value}
    {fCF3 : Addr}
    {odCF3 anCF3 : Option Addr} {slCF3 : Array (Option Value)} {ocCF3 kVCF3 dcCF3 pmCF3 cdCF3 ctCF3 : Value}
    {fCF4 : Addr}
    {odCF4 anCF4 : Option Addr} {slCF4 : Array (Option Value)} {ocCF4 kVCF4 dcCF4 pmCF4 cdCF4 ctCF4 : Value}
    {tcStT : _}
    {tcCol : _}
    {tcFar : _}
    {tcSq : _}
    {tcSteps : _}
    {tcStM : _}
    {tcTape : _}
    {tcRight : _}
    {tcLeft : _}
    {tcRound : _}
    {tcLooked : _}
    {tcFirst : _}
    {aH h0 h1 h2 h3 : Addr} {oH oh1 oh3 : Option Addr} {nH nh1 nh3 : Nat} {sH sh1 sh3 : Array (Option Value)} {th1a th1b th3a th3b : _}
    (ga0 : PySem.W.nsIn K mainGlobals "is_in" = some (some (.ref fa0)))
    (la0 : K.lookup fa0 = some ⟨oca0, oda0, .func (PySem.W.fnOf "is_in" "is_in" (C8.fnArgs (top 14)) (C8.fnBody (top 14)) (C8.fnScope (top 14)) .none kVa0 dca0 pma0 ana0 cda0 cta0), sla0⟩)
    (ca0 : PySem.W.codeIn K cda0 "is_in" = true)
    (ka0 : PySem.W.keepIn K (.ref fa0) = true)
    (ga1 : PySem.W.nsIn K mainGlobals "is_entry" = some (some (.ref fa1)))
    (la1 : K.lookup fa1 = some ⟨oca1, oda1, .func (PySem.W.fnOf "is_entry" "is_entry" (C8.fnArgs (top 15)) (C8.fnBody (top 15)) (C8.fnScope (top 15)) .none kVa1 dca1 pma1 ana1 cda1 cta1), sla1⟩)
    (ca1 : PySem.W.codeIn K cda1 "is_entry" = true)
    (ka1 : PySem.W.keepIn K (.ref fa1) = true)
    (ga2 : PySem.W.nsIn K mainGlobals "is_table" = some (some (.ref fa2)))
    (la2 : K.lookup fa2 = some ⟨oca2, oda2, .func (PySem.W.fnOf "is_table" "is_table" (C8.fnArgs (top 16)) (C8.fnBody (top 16)) (C8.fnScope (top 16)) .none kVa2 dca2 pma2 ana2 cda2 cta2), sla2⟩)
    (ca2 : PySem.W.codeIn K cda2 "is_table" = true)
    (ka2 : PySem.W.keepIn K (.ref fa2) = true)
    (ga3 : PySem.W.nsIn K mainGlobals "need_table" = some (some (.ref fa3)))
    (la3 : K.lookup fa3 = some ⟨oca3, oda3, .func (PySem.W.fnOf "need_table" "need_table" (C8.fnArgs (top 17)) (C8.fnBody (top 17)) (C8.fnScope (top 17)) .none kVa3 dca3 pma3 ana3 cda3 cta3), sla3⟩)
    (ca3 : PySem.W.codeIn K cda3 "need_table" = true)
    (ka3 : PySem.W.keepIn K (.ref fa3) = true)
    (ga4 : PySem.W.nsIn K mainGlobals "is_place" = some (some (.ref fa4)))
    (la4 : K.lookup fa4 = some ⟨oca4, oda4, .func (PySem.W.fnOf "is_place" "is_place" (C8.fnArgs (top 22)) (C8.fnBody (top 22)) (C8.fnScope (top 22)) .none kVa4 dca4 pma4 ana4 cda4 cta4), sla4⟩)
    (ca4 : PySem.W.codeIn K cda4 "is_place" = true)
    (ka4 : PySem.W.keepIn K (.ref fa4) = true)
    (ga5 : PySem.W.nsIn K mainGlobals "is_square" = some (some (.ref fa5)))
    (la5 : K.lookup fa5 = some ⟨oca5, oda5, .func (PySem.W.fnOf "is_square" "is_square" (C8.fnArgs (top 23)) (C8.fnBody (top 23)) (C8.fnScope (top 23)) .none kVa5 dca5 pma5 ana5 cda5 cta5), sla5⟩)
    (ca5 : PySem.W.codeIn K cda5 "is_square" = true)
    (ka5 : PySem.W.keepIn K (.ref fa5) = true)
    (ga6 : PySem.W.nsIn K mainGlobals "need_floor" = some (some (.ref fa6)))
    (la6 : K.lookup fa6 = some ⟨oca6, oda6, .func (PySem.W.fnOf "need_floor" "need_floor" (C8.fnArgs (top 24)) (C8.fnBody (top 24)) (C8.fnScope (top 24)) (.ref TD) kVa6 dca6 pma6 ana6 cda6 cta6), sla6⟩)
    (ca6 : PySem.W.codeIn K cda6 "need_floor" = true)
    (ka6 : PySem.W.keepIn K (.ref fa6) = true)
    (dTD : K.lookup TD = some ⟨.type "tuple", oTD, .seq (Array.mk [.int 6 tTD]) nTD, sTD⟩)
    (ga7 : PySem.W.nsIn K mainGlobals "squares_of" = some (some (.ref fa7)))
    (la7 : K.lookup fa7 = some ⟨oca7, oda7, .func (PySem.W.fnOf "squares_of" "squares_of" (C8.fnArgs (top 25)) (C8.fnBody (top 25)) (C8.fnScope (top 25)) .none kVa7 dca7 pma7 ana7 cda7 cta7), sla7⟩)
    (ca7 : PySem.W.codeIn K cda7 "squares_of" = true)
    (ka7 : PySem.W.keepIn K (.ref fa7) = true)
    (ga8 : PySem.W.nsIn K mainGlobals "floor_of" = some (some (.ref fa8)))
    (la8 : K.lookup fa8 = some ⟨oca8, oda8, .func (PySem.W.fnOf "floor_of" "floor_of" (C8.fnArgs (top 26)) (C8.fnBody (top 26)) (C8.fnScope (top 26)) .none kVa8 dca8 pma8 ana8 cda8 cta8), sla8⟩)
    (ca8 : PySem.W.codeIn K cda8 "floor_of" = true)
    (ka8 : PySem.W.keepIn K (.ref fa8) = true)
    (ga9 : PySem.W.nsIn K mainGlobals "is_walker" = some (some (.ref fa9)))
    (la9 : K.lookup fa9 = some ⟨oca9, oda9, .func (PySem.W.fnOf "is_walker" "is_walker" (C8.fnArgs (top 29)) (C8.fnBody (top 29)) (C8.fnScope (top 29)) .none kVa9 dca9 pma9 ana9 cda9 cta9), sla9⟩)
    (ca9 : PySem.W.codeIn K cda9 "is_walker" = true)
    (ka9 : PySem.W.keepIn K (.ref fa9) = true)
    (ga10 : PySem.W.nsIn K mainGlobals "need_stand" = some (some (.ref fa10)))
    (la10 : K.lookup fa10 = some ⟨oca10, oda10, .func (PySem.W.fnOf "need_stand" "need_stand" (C8.fnArgs (top 30)) (C8.fnBody (top 30)) (C8.fnScope (top 30)) .none kVa10 dca10 pma10 ana10 cda10 cta10), sla10⟩)
    (ca10 : PySem.W.codeIn K cda10 "need_stand" = true)
    (ka10 : PySem.W.keepIn K (.ref fa10) = true)
    (ga11 : PySem.W.nsIn K mainGlobals "behind" = some (some (.ref fa11)))
    (la11 : K.lookup fa11 = some ⟨oca11, oda11, .func (PySem.W.fnOf "behind" "behind" (C8.fnArgs (top 53)) (C8.fnBody (top 53)) (C8.fnScope (top 53)) .none kVa11 dca11 pma11 ana11 cda11 cta11), sla11⟩)
    (ca11 : PySem.W.codeIn K cda11 "behind" = true)
    (ka11 : PySem.W.keepIn K (.ref fa11) = true)
    (ga12 : PySem.W.nsIn K mainGlobals "walk" = some (some (.ref fa12)))
    (la12 : K.lookup fa12 = some ⟨oca12, oda12, .func (PySem.W.fnOf "walk" "walk" (C8.fnArgs (top 32)) (C8.fnBody (top 32)) (C8.fnScope (top 32)) .none kVa12 dca12 pma12 ana12 cda12 cta12), sla12⟩)
    (ca12 : PySem.W.codeIn K cda12 "walk" = true)
    (ka12 : PySem.W.keepIn K (.ref fa12) = true)
    (ga13 : PySem.W.nsIn K mainGlobals "is_rule" = some (some (.ref fa13)))
    (la13 : K.lookup fa13 = some ⟨oca13, oda13, .func (PySem.W.fnOf "is_rule" "is_rule" (C8.fnArgs (top 38)) (C8.fnBody (top 38)) (C8.fnScope (top 38)) .none kVa13 dca13 pma13 ana13 cda13 cta13), sla13⟩)
    (ca13 : PySem.W.codeIn K cda13 "is_rule" = true)
    (ka13 : PySem.W.keepIn K (.ref fa13) = true)
    (ga14 : PySem.W.nsIn K mainGlobals "need_machine" = some (some (.ref fa14)))
    (la14 : K.lookup fa14 = some ⟨oca14, oda14, .func (PySem.W.fnOf "need_machine" "need_machine" (C8.fnArgs (top 39)) (C8.fnBody (top 39)) (C8.fnScope (top 39)) .none kVa14 dca14 pma14 ana14 cda14 cta14), sla14⟩)
    (ca14 : PySem.W.codeIn K cda14 "need_machine" = true)
    (ka14 : PySem.W.keepIn K (.ref fa14) = true)
    (ga15 : PySem.W.nsIn K mainGlobals "need_tape" = some (some (.ref fa15)))
    (la15 : K.lookup fa15 = some ⟨oca15, oda15, .func (PySem.W.fnOf "need_tape" "need_tape" (C8.fnArgs (top 40)) (C8.fnBody (top 40)) (C8.fnScope (top 40)) .none kVa15 dca15 pma15 ana15 cda15 cta15), sla15⟩)
    (ca15 : PySem.W.codeIn K cda15 "need_tape" = true)
    (ka15 : PySem.W.keepIn K (.ref fa15) = true)
    (ga16 : PySem.W.nsIn K mainGlobals "tape_run" = some (some (.ref fa16)))
    (la16 : K.lookup fa16 = some ⟨oca16, oda16, .func (PySem.W.fnOf "tape_run" "tape_run" (C8.fnArgs (top 41)) (C8.fnBody (top 41)) (C8.fnScope (top 41)) .none kVa16 dca16 pma16 ana16 cda16 cta16), sla16⟩)
    (ca16 : PySem.W.codeIn K cda16 "tape_run" = true)
    (ka16 : PySem.W.keepIn K (.ref fa16) = true)
    (ga17 : PySem.W.nsIn K mainGlobals "walker_table" = some (some (.ref fa17)))
    (la17 : K.lookup fa17 = some ⟨oca17, oda17, .func (PySem.W.fnOf "walker_table" "walker_table" (C8.fnArgs (top 42)) (C8.fnBody (top 42)) (C8.fnScope (top 42)) .none kVa17 dca17 pma17 ana17 cda17 cta17), sla17⟩)
    (ca17 : PySem.W.codeIn K cda17 "walker_table" = true)
    (ka17 : PySem.W.keepIn K (.ref fa17) = true)
    (ga18 : PySem.W.nsIn K mainGlobals "tape_stand" = some (some (.ref fa18)))
    (la18 : K.lookup fa18 = some ⟨oca18, oda18, .func (PySem.W.fnOf "tape_stand" "tape_stand" (C8.fnArgs (top 43)) (C8.fnBody (top 43)) (C8.fnScope (top 43)) .none kVa18 dca18 pma18 ana18 cda18 cta18), sla18⟩)
    (ca18 : PySem.W.codeIn K cda18 "tape_stand" = true)
    (ka18 : PySem.W.keepIn K (.ref fa18) = true)
    (ga19 : PySem.W.nsIn K mainGlobals "read_stand" = some (some (.ref fa19)))
    (la19 : K.lookup fa19 = some ⟨oca19, oda19, .func (PySem.W.fnOf "read_stand" "read_stand" (C8.fnArgs (top 44)) (C8.fnBody (top 44)) (C8.fnScope (top 44)) .none kVa19 dca19 pma19 ana19 cda19 cta19), sla19⟩)
    (ca19 : PySem.W.codeIn K cda19 "read_stand" = true)
    (ka19 : PySem.W.keepIn K (.ref fa19) = true)
    (ga20 : PySem.W.nsIn K mainGlobals "tape_by_walker" = some (some (.ref fa20)))
    (la20 : K.lookup fa20 = some ⟨oca20, oda20, .func (PySem.W.fnOf "tape_by_walker" "tape_by_walker" (C8.fnArgs (top 45)) (C8.fnBody (top 45)) (C8.fnScope (top 45)) .none kVa20 dca20 pma20 ana20 cda20 cta20), sla20⟩)
    (ca20 : PySem.W.codeIn K cda20 "tape_by_walker" = true)
    (ka20 : PySem.W.keepIn K (.ref fa20) = true)
    (ga21 : PySem.W.nsIn K mainGlobals "times_to" = some (some (.ref fa21)))
    (la21 : K.lookup fa21 = some ⟨oca21, oda21, .func (PySem.W.fnOf "times_to" "times_to" (C8.fnArgs (top 48)) (C8.fnBody (top 48)) (C8.fnScope (top 48)) .none kVa21 dca21 pma21 ana21 cda21 cta21), sla21⟩)
    (ca21 : PySem.W.codeIn K cda21 "times_to" = true)
    (ka21 : PySem.W.keepIn K (.ref fa21) = true)
    (ga22 : PySem.W.nsIn K mainGlobals "is_paper_shape" = some (some (.ref fa22)))
    (la22 : K.lookup fa22 = some ⟨oca22, oda22, .func (PySem.W.fnOf "is_paper_shape" "is_paper_shape" (C8.fnArgs (top 52)) (C8.fnBody (top 52)) (C8.fnScope (top 52)) .none kVa22 dca22 pma22 ana22 cda22 cta22), sla22⟩)
    (ca22 : PySem.W.codeIn K cda22 "is_paper_shape" = true)
    (ka22 : PySem.W.keepIn K (.ref fa22) = true)
    (ga23 : PySem.W.nsIn K mainGlobals "holds" = some (some (.ref fa23)))
    (la23 : K.lookup fa23 = some ⟨oca23, oda23, .func (PySem.W.fnOf "holds" "holds" (C8.fnArgs (top 54)) (C8.fnBody (top 54)) (C8.fnScope (top 54)) .none kVa23 dca23 pma23 ana23 cda23 cta23), sla23⟩)
    (ca23 : PySem.W.codeIn K cda23 "holds" = true)
    (ka23 : PySem.W.keepIn K (.ref fa23) = true)
    (ga24 : PySem.W.nsIn K mainGlobals "need_teller" = some (some (.ref fa24)))
    (la24 : K.lookup fa24 = some ⟨oca24, oda24, .func (PySem.W.fnOf "need_teller" "need_teller" (C8.fnArgs (top 56)) (C8.fnBody (top 56)) (C8.fnScope (top 56)) .none kVa24 dca24 pma24 ana24 cda24 cta24), sla24⟩)
    (ca24 : PySem.W.codeIn K cda24 "need_teller" = true)
    (ka24 : PySem.W.keepIn K (.ref fa24) = true)
    (ga25 : PySem.W.nsIn K mainGlobals "walker_at" = some (some (.ref fa25)))
    (la25 : K.lookup fa25 = some ⟨oca25, oda25, .func (PySem.W.fnOf "walker_at" "walker_at" (C8.fnArgs (top 57)) (C8.fnBody (top 57)) (C8.fnScope (top 57)) .none kVa25 dca25 pma25 ana25 cda25 cta25), sla25⟩)
    (ca25 : PySem.W.codeIn K cda25 "walker_at" = true)
    (ka25 : PySem.W.keepIn K (.ref fa25) = true)
    (ga26 : PySem.W.nsIn K mainGlobals "find_in" = some (some (.ref fa26)))
    (la26 : K.lookup fa26 = some ⟨oca26, oda26, .func (PySem.W.fnOf "find_in" "find_in" (C8.fnArgs (top 62)) (C8.fnBody (top 62)) (C8.fnScope (top 62)) .none kVa26 dca26 pma26 ana26 cda26 cta26), sla26⟩)
    (ca26 : PySem.W.codeIn K cda26 "find_in" = true)
    (ka26 : PySem.W.keepIn K (.ref fa26) = true)
    (ga27 : PySem.W.nsIn K mainGlobals "find_paper" = some (some (.ref fa27)))
    (la27 : K.lookup fa27 = some ⟨oca27, oda27, .func (PySem.W.fnOf "find_paper" "find_paper" (C8.fnArgs (top 63)) (C8.fnBody (top 63)) (C8.fnScope (top 63)) .none kVa27 dca27 pma27 ana27 cda27 cta27), sla27⟩)
    (ca27 : PySem.W.codeIn K cda27 "find_paper" = true)
    (ka27 : PySem.W.keepIn K (.ref fa27) = true)
    (ga28 : PySem.W.nsIn K mainGlobals "_law_taken" = some (some (.ref fa28)))
    (la28 : K.lookup fa28 = some ⟨oca28, oda28, .func (PySem.W.fnOf "_law_taken" "_law_taken" (C8.fnArgs (top 65)) (C8.fnBody (top 65)) (C8.fnScope (top 65)) .none kVa28 dca28 pma28 ana28 cda28 cta28), sla28⟩)
    (ca28 : PySem.W.codeIn K cda28 "_law_taken" = true)
    (ka28 : PySem.W.keepIn K (.ref fa28) = true)
    (ga29 : PySem.W.nsIn K mainGlobals "_law_pick" = some (some (.ref fa29)))
    (la29 : K.lookup fa29 = some ⟨oca29, oda29, .func (PySem.W.fnOf "_law_pick" "_law_pick" (C8.fnArgs (top 66)) (C8.fnBody (top 66)) (C8.fnScope (top 66)) .none kVa29 dca29 pma29 ana29 cda29 cta29), sla29⟩)
    (ca29 : PySem.W.codeIn K cda29 "_law_pick" = true)
    (ka29 : PySem.W.keepIn K (.ref fa29) = true)
    (ga30 : PySem.W.nsIn K mainGlobals "_law_signed" = some (some (.ref fa30)))
    (la30 : K.lookup fa30 = some ⟨oca30, oda30, .func (PySem.W.fnOf "_law_signed" "_law_signed" (C8.fnArgs (top 67)) (C8.fnBody (top 67)) (C8.fnScope (top 67)) .none kVa30 dca30 pma30 ana30 cda30 cta30), sla30⟩)
    (ca30 : PySem.W.codeIn K cda30 "_law_signed" = true)
    (ka30 : PySem.W.keepIn K (.ref fa30) = true)
    (ga31 : PySem.W.nsIn K mainGlobals "_law_alike" = some (some (.ref fa31)))
    (la31 : K.lookup fa31 = some ⟨oca31, oda31, .func (PySem.W.fnOf "_law_alike" "_law_alike" (C8.fnArgs (top 68)) (C8.fnBody (top 68)) (C8.fnScope (top 68)) .none kVa31 dca31 pma31 ana31 cda31 cta31), sla31⟩)
    (ca31 : PySem.W.codeIn K cda31 "_law_alike" = true)
    (ka31 : PySem.W.keepIn K (.ref fa31) = true)
    (ga32 : PySem.W.nsIn K mainGlobals "law" = some (some (.ref fa32)))
    (la32 : K.lookup fa32 = some ⟨oca32, oda32, .func (PySem.W.fnOf "law" "law" (C8.fnArgs (top 69)) (C8.fnBody (top 69)) (C8.fnScope (top 69)) .none kVa32 dca32 pma32 ana32 cda32 cta32), sla32⟩)
    (ca32 : PySem.W.codeIn K cda32 "law" = true)
    (ka32 : PySem.W.keepIn K (.ref fa32) = true)
    (gCW : PySem.W.nsIn K mainGlobals "Walk" = some (some (.ref CW)))
    (pgCW : PySem.W.plainGet K CW Str.empty = true)
    (hdCW : PySem.W.hasDictIn K CW = true)
    (poCW : PySem.W.plainOver K CW = true)
    (saCW : PySem.W.findIn K (.ref CW) "__setattr__" = some (some (.builtin "object.__setattr__")))
    (mkCW : PySem.W.makesIn K CW = true)
    (kcCW : PySem.W.keepIn K (.ref CW) = true)
    (mCW0 : PySem.W.findIn K (.ref CW) "__init__" = some (some (.ref fCW0)))
    (iCW0 : PySem.W.isFn K (.ref fCW0) = true)
    (lCW0 : K.lookup fCW0 = some ⟨ocCW0, odCW0, .func (PySem.W.fnOf "__init__" "Walk.__init__" (C8.fnArgs (meth 31 0)) (C8.fnBody (meth 31 0)) (C8.fnScope (meth 31 0)) .none kVCW0 dcCW0 pmCW0 anCW0 cdCW0 ctCW0), slCW0⟩)
    (cCW0 : PySem.W.codeIn K cdCW0 "Walk.__init__" = true)
    (kCW0 : PySem.W.keepIn K (.ref fCW0) = true)
    (mCW1 : PySem.W.findIn K (.ref CW) "colour" = some (some (.ref fCW1)))
    (iCW1 : PySem.W.isFn K (.ref fCW1) = true)
    (lCW1 : K.lookup fCW1 = some ⟨ocCW1, odCW1, .func (PySem.W.fnOf "colour" "Walk.colour" (C8.fnArgs (meth 31 1)) (C8.fnBody (meth 31 1)) (C8.fnScope (meth 31 1)) .none kVCW1 dcCW1 pmCW1 anCW1 cdCW1 ctCW1), slCW1⟩)
    (cCW1 : PySem.W.codeIn K cdCW1 "Walk.colour" = true)
    (kCW1 : PySem.W.keepIn K (.ref fCW1) = true)
    (mCW2 : PySem.W.findIn K (.ref CW) "entry" = some (some (.ref fCW2)))
    (iCW2 : PySem.W.isFn K (.ref fCW2) = true)
    (lCW2 : K.lookup fCW2 = some ⟨ocCW2, odCW2, .func (PySem.W.fnOf "entry" "Walk.entry" (C8.fnArgs (meth 31 2)) (C8.fnBody (meth 31 2)) (C8.fnScope (meth 31 2)) .none kVCW2 dcCW2 pmCW2 anCW2 cdCW2 ctCW2), slCW2⟩)
    (cCW2 : PySem.W.codeIn K cdCW2 "Walk.entry" = true)
    (kCW2 : PySem.W.keepIn K (.ref fCW2) = true)
    (mCW3 : PySem.W.findIn K (.ref CW) "walker" = some (some (.ref fCW3)))
    (iCW3 : PySem.W.isFn K (.ref fCW3) = true)
    (lCW3 : K.lookup fCW3 = some ⟨ocCW3, odCW3, .func (PySem.W.fnOf "walker" "Walk.walker" (C8.fnArgs (meth 31 3)) (C8.fnBody (meth 31 3)) (C8.fnScope (meth 31 3)) .none kVCW3 dcCW3 pmCW3 anCW3 cdCW3 ctCW3), slCW3⟩)
    (cCW3 : PySem.W.codeIn K cdCW3 "Walk.walker" = true)
    (kCW3 : PySem.W.keepIn K (.ref fCW3) = true)
    (mCW4 : PySem.W.findIn K (.ref CW) "step" = some (some (.ref fCW4)))
    (iCW4 : PySem.W.isFn K (.ref fCW4) = true)
    (lCW4 : K.lookup fCW4 = some ⟨ocCW4, odCW4, .func (PySem.W.fnOf "step" "Walk.step" (C8.fnArgs (meth 31 4)) (C8.fnBody (meth 31 4)) (C8.fnScope (meth 31 4)) .none kVCW4 dcCW4 pmCW4 anCW4 cdCW4 ctCW4), slCW4⟩)
    (cCW4 : PySem.W.codeIn K cdCW4 "Walk.step" = true)
    (kCW4 : PySem.W.keepIn K (.ref fCW4) = true)
    (mCW5 : PySem.W.findIn K (.ref CW) "go" = some (some (.ref fCW5)))
    (iCW5 : PySem.W.isFn K (.ref fCW5) = true)
    (lCW5 : K.lookup fCW5 = some ⟨ocCW5, odCW5, .func (PySem.W.fnOf "go" "Walk.go" (C8.fnArgs (meth 31 5)) (C8.fnBody (meth 31 5)) (C8.fnScope (meth 31 5)) .none kVCW5 dcCW5 pmCW5 anCW5 cdCW5 ctCW5), slCW5⟩)
    (cCW5 : PySem.W.codeIn K cdCW5 "Walk.go" = true)
    (kCW5 : PySem.W.keepIn K (.ref fCW5) = true)
    (mCW6 : PySem.W.findIn K (.ref CW) "stand" = some (some (.ref fCW6)))
    (iCW6 : PySem.W.isFn K (.ref fCW6) = true)
    (lCW6 : K.lookup fCW6 = some ⟨ocCW6, odCW6, .func (PySem.W.fnOf "stand" "Walk.stand" (C8.fnArgs (meth 31 6)) (C8.fnBody (meth 31 6)) (C8.fnScope (meth 31 6)) .none kVCW6 dcCW6 pmCW6 anCW6 cdCW6 ctCW6), slCW6⟩)
    (cCW6 : PySem.W.codeIn K cdCW6 "Walk.stand" = true)
    (kCW6 : PySem.W.keepIn K (.ref fCW6) = true)
    (gCR : PySem.W.nsIn K mainGlobals "Round" = some (some (.ref CR)))
    (pgCR : PySem.W.plainGet K CR Str.empty = true)
    (hdCR : PySem.W.hasDictIn K CR = true)
    (poCR : PySem.W.plainOver K CR = true)
    (saCR : PySem.W.findIn K (.ref CR) "__setattr__" = some (some (.builtin "object.__setattr__")))
    (mkCR : PySem.W.makesIn K CR = true)
    (kcCR : PySem.W.keepIn K (.ref CR) = true)
    (mCR0 : PySem.W.findIn K (.ref CR) "__init__" = some (some (.ref fCR0)))
    (iCR0 : PySem.W.isFn K (.ref fCR0) = true)
    (lCR0 : K.lookup fCR0 = some ⟨ocCR0, odCR0, .func (PySem.W.fnOf "__init__" "Round.__init__" (C8.fnArgs (meth 49 0)) (C8.fnBody (meth 49 0)) (C8.fnScope (meth 49 0)) .none kVCR0 dcCR0 pmCR0 anCR0 cdCR0 ctCR0), slCR0⟩)
    (cCR0 : PySem.W.codeIn K cdCR0 "Round.__init__" = true)
    (kCR0 : PySem.W.keepIn K (.ref fCR0) = true)
    (mCR1 : PySem.W.findIn K (.ref CR) "spread" = some (some (.ref fCR1)))
    (iCR1 : PySem.W.isFn K (.ref fCR1) = true)
    (lCR1 : K.lookup fCR1 = some ⟨ocCR1, odCR1, .func (PySem.W.fnOf "spread" "Round.spread" (C8.fnArgs (meth 49 1)) (C8.fnBody (meth 49 1)) (C8.fnScope (meth 49 1)) .none kVCR1 dcCR1 pmCR1 anCR1 cdCR1 ctCR1), slCR1⟩)
    (cCR1 : PySem.W.codeIn K cdCR1 "Round.spread" = true)
    (kCR1 : PySem.W.keepIn K (.ref fCR1) = true)
    (mCR2 : PySem.W.findIn K (.ref CR) "next_treading" = some (some (.ref fCR2)))
    (iCR2 : PySem.W.isFn K (.ref fCR2) = true)
    (lCR2 : K.lookup fCR2 = some ⟨ocCR2, odCR2, .func (PySem.W.fnOf "next_treading" "Round.next_treading" (C8.fnArgs (meth 49 2)) (C8.fnBody (meth 49 2)) (C8.fnScope (meth 49 2)) .none kVCR2 dcCR2 pmCR2 anCR2 cdCR2 ctCR2), slCR2⟩)
    (cCR2 : PySem.W.codeIn K cdCR2 "Round.next_treading" = true)
    (kCR2 : PySem.W.keepIn K (.ref fCR2) = true)
    (mCR3 : PySem.W.findIn K (.ref CR) "is_free" = some (some (.ref fCR3)))
    (iCR3 : PySem.W.isFn K (.ref fCR3) = true)
    (lCR3 : K.lookup fCR3 = some ⟨ocCR3, odCR3, .func (PySem.W.fnOf "is_free" "Round.is_free" (C8.fnArgs (meth 49 3)) (C8.fnBody (meth 49 3)) (C8.fnScope (meth 49 3)) .none kVCR3 dcCR3 pmCR3 anCR3 cdCR3 ctCR3), slCR3⟩)
    (cCR3 : PySem.W.codeIn K cdCR3 "Round.is_free" = true)
    (kCR3 : PySem.W.keepIn K (.ref fCR3) = true)
    (mCR4 : PySem.W.findIn K (.ref CR) "goes_on" = some (some (.ref fCR4)))
    (iCR4 : PySem.W.isFn K (.ref fCR4) = true)
    (lCR4 : K.lookup fCR4 = some ⟨ocCR4, odCR4, .func (PySem.W.fnOf "goes_on" "Round.goes_on" (C8.fnArgs (meth 49 4)) (C8.fnBody (meth 49 4)) (C8.fnScope (meth 49 4)) .none kVCR4 dcCR4 pmCR4 anCR4 cdCR4 ctCR4), slCR4⟩)
    (cCR4 : PySem.W.codeIn K cdCR4 "Round.goes_on" = true)
    (kCR4 : PySem.W.keepIn K (.ref fCR4) = true)
    (gCS : PySem.W.nsIn K mainGlobals "Street" = some (some (.ref CS)))
    (pgCS : PySem.W.plainGet K CS Str.empty = true)
    (hdCS : PySem.W.hasDictIn K CS = true)
    (poCS : PySem.W.plainOver K CS = true)
    (saCS : PySem.W.findIn K (.ref CS) "__setattr__" = some (some (.builtin "object.__setattr__")))
    (mkCS : PySem.W.makesIn K CS = true)
    (kcCS : PySem.W.keepIn K (.ref CS) = true)
    (mCS0 : PySem.W.findIn K (.ref CS) "__init__" = some (some (.ref fCS0)))
    (iCS0 : PySem.W.isFn K (.ref fCS0) = true)
    (lCS0 : K.lookup fCS0 = some ⟨ocCS0, odCS0, .func (PySem.W.fnOf "__init__" "Street.__init__" (C8.fnArgs (meth 50 0)) (C8.fnBody (meth 50 0)) (C8.fnScope (meth 50 0)) .none kVCS0 dcCS0 pmCS0 anCS0 cdCS0 ctCS0), slCS0⟩)
    (cCS0 : PySem.W.codeIn K cdCS0 "Street.__init__" = true)
    (kCS0 : PySem.W.keepIn K (.ref fCS0) = true)
    (mCS1 : PySem.W.findIn K (.ref CS) "parted" = some (some (.ref fCS1)))
    (iCS1 : PySem.W.isFn K (.ref fCS1) = true)
    (lCS1 : K.lookup fCS1 = some ⟨ocCS1, odCS1, .func (PySem.W.fnOf "parted" "Street.parted" (C8.fnArgs (meth 50 1)) (C8.fnBody (meth 50 1)) (C8.fnScope (meth 50 1)) .none kVCS1 dcCS1 pmCS1 anCS1 cdCS1 ctCS1), slCS1⟩)
    (cCS1 : PySem.W.codeIn K cdCS1 "Street.parted" = true)
    (kCS1 : PySem.W.keepIn K (.ref fCS1) = true)
    (mCS2 : PySem.W.findIn K (.ref CS) "walker_at" = some (some (.ref fCS2)))
    (iCS2 : PySem.W.isFn K (.ref fCS2) = true)
    (lCS2 : K.lookup fCS2 = some ⟨ocCS2, odCS2, .func (PySem.W.fnOf "walker_at" "Street.walker_at" (C8.fnArgs (meth 50 2)) (C8.fnBody (meth 50 2)) (C8.fnScope (meth 50 2)) .none kVCS2 dcCS2 pmCS2 anCS2 cdCS2 ctCS2), slCS2⟩)
    (cCS2 : PySem.W.codeIn K cdCS2 "Street.walker_at" = true)
    (kCS2 : PySem.W.keepIn K (.ref fCS2) = true)
    (gCT : PySem.W.nsIn K mainGlobals "Teller" = some (some (.ref CT)))
    (pgCT : PySem.W.plainGet K CT Str.empty = true)
    (hdCT : PySem.W.hasDictIn K CT = true)
    (poCT : PySem.W.plainOver K CT = true)
    (saCT : PySem.W.findIn K (.ref CT) "__setattr__" = some (some (.builtin "object.__setattr__")))
    (mkCT : PySem.W.makesIn K CT = true)
    (kcCT : PySem.W.keepIn K (.ref CT) = true)
    (mCT0 : PySem.W.findIn K (.ref CT) "__init__" = some (some (.ref fCT0)))
    (iCT0 : PySem.W.isFn K (.ref fCT0) = true)
    (lCT0 : K.lookup fCT0 = some ⟨ocCT0, odCT0, .func (PySem.W.fnOf "__init__" "Teller.__init__" (C8.fnArgs (meth 55 0)) (C8.fnBody (meth 55 0)) (C8.fnScope (meth 55 0)) .none kVCT0 dcCT0 pmCT0 anCT0 cdCT0 ctCT0), slCT0⟩)
    (cCT0 : PySem.W.codeIn K cdCT0 "Teller.__init__" = true)
    (kCT0 : PySem.W.keepIn K (.ref fCT0) = true)
    (mCT1 : PySem.W.findIn K (.ref CT) "plain" = some (some (.ref fCT1)))
    (iCT1 : PySem.W.isFn K (.ref fCT1) = true)
    (lCT1 : K.lookup fCT1 = some ⟨ocCT1, odCT1, .func (PySem.W.fnOf "plain" "Teller.plain" (C8.fnArgs (meth 55 1)) (C8.fnBody (meth 55 1)) (C8.fnScope (meth 55 1)) .none kVCT1 dcCT1 pmCT1 anCT1 cdCT1 ctCT1), slCT1⟩)
    (cCT1 : PySem.W.codeIn K cdCT1 "Teller.plain" = true)
    (kCT1 : PySem.W.keepIn K (.ref fCT1) = true)
    (mCT2 : PySem.W.findIn K (.ref CT) "is_far" = some (some (.ref fCT2)))
    (iCT2 : PySem.W.isFn K (.ref fCT2) = true)
    (lCT2 : K.lookup fCT2 = some ⟨ocCT2, odCT2, .func (PySem.W.fnOf "is_far" "Teller.is_far" (C8.fnArgs (meth 55 2)) (C8.fnBody (meth 55 2)) (C8.fnScope (meth 55 2)) .none kVCT2 dcCT2 pmCT2 anCT2 cdCT2 ctCT2), slCT2⟩)
    (cCT2 : PySem.W.codeIn K cdCT2 "Teller.is_far" = true)
    (kCT2 : PySem.W.keepIn K (.ref fCT2) = true)
    (mCT3 : PySem.W.findIn K (.ref CT) "walker_at" = some (some (.ref fCT3)))
    (iCT3 : PySem.W.isFn K (.ref fCT3) = true)
    (lCT3 : K.lookup fCT3 = some ⟨ocCT3, odCT3, .func (PySem.W.fnOf "walker_at" "Teller.walker_at" (C8.fnArgs (meth 55 3)) (C8.fnBody (meth 55 3)) (C8.fnScope (meth 55 3)) .none kVCT3 dcCT3 pmCT3 anCT3 cdCT3 ctCT3), slCT3⟩)
    (cCT3 : PySem.W.codeIn K cdCT3 "Teller.walker_at" = true)
    (kCT3 : PySem.W.keepIn K (.ref fCT3) = true)
    (gCF : PySem.W.nsIn K mainGlobals "Finder" = some (some (.ref CF)))
    (pgCF : PySem.W.plainGet K CF Str.empty = true)
    (hdCF : PySem.W.hasDictIn K CF = true)
    (poCF : PySem.W.plainOver K CF = true)
    (saCF : PySem.W.findIn K (.ref CF) "__setattr__" = some (some (.builtin "object.__setattr__")))
    (mkCF : PySem.W.makesIn K CF = true)
    (kcCF : PySem.W.keepIn K (.ref CF) = true)
    (mCF0 : PySem.W.findIn K (.ref CF) "__init__" = some (some (.ref fCF0)))
    (iCF0 : PySem.W.isFn K (.ref fCF0) = true)
    (lCF0 : K.lookup fCF0 = some ⟨ocCF0, odCF0, .func (PySem.W.fnOf "__init__" "Finder.__init__" (C8.fnArgs (meth 61 0)) (C8.fnBody (meth 61 0)) (C8.fnScope (meth 61 0)) .none kVCF0 dcCF0 pmCF0 anCF0 cdCF0 ctCF0), slCF0⟩)
    (cCF0 : PySem.W.codeIn K cdCF0 "Finder.__init__" = true)
    (kCF0 : PySem.W.keepIn K (.ref fCF0) = true)
    (mCF1 : PySem.W.findIn K (.ref CF) "go_on" = some (some (.ref fCF1)))
    (iCF1 : PySem.W.isFn K (.ref fCF1) = true)
    (lCF1 : K.lookup fCF1 = some ⟨ocCF1, odCF1, .func (PySem.W.fnOf "go_on" "Finder.go_on" (C8.fnArgs (meth 61 1)) (C8.fnBody (meth 61 1)) (C8.fnScope (meth 61 1)) .none kVCF1 dcCF1 pmCF1 anCF1 cdCF1 ctCF1), slCF1⟩)
    (cCF1 : PySem.W.codeIn K cdCF1 "Finder.go_on" = true)
    (kCF1 : PySem.W.keepIn K (.ref fCF1) = true)
    (mCF2 : PySem.W.findIn K (.ref CF) "keep" = some (some (.ref fCF2)))
    (iCF2 : PySem.W.isFn K (.ref fCF2) = true)
    (lCF2 : K.lookup fCF2 = some ⟨ocCF2, odCF2, .func (PySem.W.fnOf "keep" "Finder.keep" (C8.fnArgs (meth 61 2)) (C8.fnBody (meth 61 2)) (C8.fnScope (meth 61 2)) .none kVCF2 dcCF2 pmCF2 anCF2 cdCF2 ctCF2), slCF2⟩)
    (cCF2 : PySem.W.codeIn K cdCF2 "Finder.keep" = true)
    (kCF2 : PySem.W.keepIn K (.ref fCF2) = true)
    (mCF3 : PySem.W.findIn K (.ref CF) "street" = some (some (.ref fCF3)))
    (iCF3 : PySem.W.isFn K (.ref fCF3) = true)
    (lCF3 : K.lookup fCF3 = some ⟨ocCF3, odCF3, .func (PySem.W.fnOf "street" "Finder.street" (C8.fnArgs (meth 61 3)) (C8.fnBody (meth 61 3)) (C8.fnScope (meth 61 3)) .none kVCF3 dcCF3 pmCF3 anCF3 cdCF3 ctCF3), slCF3⟩)
    (cCF3 : PySem.W.codeIn K cdCF3 "Finder.street" = true)
    (kCF3 : PySem.W.keepIn K (.ref fCF3) = true)
    (mCF4 : PySem.W.findIn K (.ref CF) "is_street" = some (some (.ref fCF4)))
    (iCF4 : PySem.W.isFn K (.ref fCF4) = true)
    (lCF4 : K.lookup fCF4 = some ⟨ocCF4, odCF4, .func (PySem.W.fnOf "is_street" "Finder.is_street" (C8.fnArgs (meth 61 4)) (C8.fnBody (meth 61 4)) (C8.fnScope (meth 61 4)) .none kVCF4 dcCF4 pmCF4 anCF4 cdCF4 ctCF4), slCF4⟩)
    (cCF4 : PySem.W.codeIn K cdCF4 "Finder.is_street" = true)
    (kCF4 : PySem.W.keepIn K (.ref fCF4) = true)
    (nCW_table : PySem.W.findIn K (.ref CW) "table" = some none)
    (nCW_squares : PySem.W.findIn K (.ref CW) "squares" = some none)
    (nCW_place : PySem.W.findIn K (.ref CW) "place" = some none)
    (nCW_heading : PySem.W.findIn K (.ref CW) "heading" = some none)
    (nCW_state : PySem.W.findIn K (.ref CW) "state" = some none)
    (nCW_done : PySem.W.findIn K (.ref CW) "done" = some none)
    (nCR_ground : PySem.W.findIn K (.ref CR) "ground" = some none)
    (nCR_period : PySem.W.findIn K (.ref CR) "period" = some none)
    (nCR_first : PySem.W.findIn K (.ref CR) "first" = some none)
    (nCR_left : PySem.W.findIn K (.ref CR) "left" = some none)
    (nCR_ways : PySem.W.findIn K (.ref CR) "ways" = some none)
    (nCR_is_whole : PySem.W.findIn K (.ref CR) "is_whole" = some none)
    (nCR_end : PySem.W.findIn K (.ref CR) "end" = some none)
    (nCR_move : PySem.W.findIn K (.ref CR) "move" = some none)
    (nCR_is_back : PySem.W.findIn K (.ref CR) "is_back" = some none)
    (nCS_table : PySem.W.findIn K (.ref CS) "table" = some none)
    (nCS_round : PySem.W.findIn K (.ref CS) "round" = some none)
    (nCT_table : PySem.W.findIn K (.ref CT) "table" = some none)
    (nCT_ground : PySem.W.findIn K (.ref CT) "ground" = some none)
    (nCT_began : PySem.W.findIn K (.ref CT) "began" = some none)
    (nCT_paper : PySem.W.findIn K (.ref CT) "paper" = some none)
    (nCT_far : PySem.W.findIn K (.ref CT) "far" = some none)
    (nCF_table : PySem.W.findIn K (.ref CF) "table" = some none)
    (nCF_ground : PySem.W.findIn K (.ref CF) "ground" = some none)
    (nCF_began : PySem.W.findIn K (.ref CF) "began" = some none)
    (nCF_walk : PySem.W.findIn K (.ref CF) "walk" = some none)
    (nCF_read : PySem.W.findIn K (.ref CF) "read" = some none)
    (nCF_kept : PySem.W.findIn K (.ref CF) "kept" = some none)
    (nCF_kept_at : PySem.W.findIn K (.ref CF) "kept_at" = some none)
    (z_len : PySem.W.nsIn K mainGlobals "len" = some none)
    (z_isinstance : PySem.W.nsIn K mainGlobals "isinstance" = some none)
    (z_tuple : PySem.W.nsIn K mainGlobals "tuple" = some none)
    (z_int : PySem.W.nsIn K mainGlobals "int" = some none)
    (z_bool : PySem.W.nsIn K mainGlobals "bool" = some none)
    (z_str : PySem.W.nsIn K mainGlobals "str" = some none)
    (z_list : PySem.W.nsIn K mainGlobals "list" = some none)
    (z_dict : PySem.W.nsIn K mainGlobals "dict" = some none)
    (z_sorted : PySem.W.nsIn K mainGlobals "sorted" = some none)
    (z_enumerate : PySem.W.nsIn K mainGlobals "enumerate" = some none)
    (z_range : PySem.W.nsIn K mainGlobals "range" = some none)
    (z_max : PySem.W.nsIn K mainGlobals "max" = some none)
    (z_min : PySem.W.nsIn K mainGlobals "min" = some none)
    (z_abs : PySem.W.nsIn K mainGlobals "abs" = some none)
    (qcStT : PySem.W.nsIn K mainGlobals "MOST_STATES_tables" = some (some (.int 10 tcStT)))
    (qcCol : PySem.W.nsIn K mainGlobals "MOST_COLOURS" = some (some (.int 6 tcCol)))
    (qcFar : PySem.W.nsIn K mainGlobals "FAR" = some (some (.int 1000000000000000000000000000000000000000000000000000000000000 tcFar)))
    (qcSq : PySem.W.nsIn K mainGlobals "MOST_SQUARES" = some (some (.int 4000 tcSq)))
    (qcSteps : PySem.W.nsIn K mainGlobals "MOST_STEPS" = some (some (.int 100000 tcSteps)))
    (qcStM : PySem.W.nsIn K mainGlobals "MOST_STATES_tapes" = some (some (.int 5 tcStM)))
    (qcTape : PySem.W.nsIn K mainGlobals "MOST_TAPE" = some (some (.int 400 tcTape)))
    (qcRight : PySem.W.nsIn K mainGlobals "RIGHT" = some (some (.int 1 tcRight)))
    (qcLeft : PySem.W.nsIn K mainGlobals "LEFT" = some (some (.int 3 tcLeft)))
    (qcRound : PySem.W.nsIn K mainGlobals "MOST_ROUND" = some (some (.int 2000 tcRound)))
    (qcLooked : PySem.W.nsIn K mainGlobals "MOST_LOOKED" = some (some (.int 30000 tcLooked)))
    (qcFirst : PySem.W.nsIn K mainGlobals "FIRST_LOOK" = some (some (.int 16 tcFirst)))
    (gH : PySem.W.nsIn K mainGlobals "HEADINGS" = some (some (.ref aH)))
    (lH : K.lookup aH = some ⟨.type "tuple", oH, .seq (Array.mk [.ref h0, .ref h1, .ref h2, .ref h3]) nH, sH⟩)
    (lh1 : K.lookup h1 = some ⟨.type "tuple", oh1, .seq (Array.mk [.int 1 th1a, .int 0 th1b]) nh1, sh1⟩)
    (lh3 : K.lookup h3 = some ⟨.type "tuple", oh3, .seq (Array.mk [.int (-1) th3a, .int 0 th3b]) nh3, sh3⟩) :
    ∃ fd : FuncData, (∀ (s : Shared) (v : Value), BindsTo s fd ⟨[v], []⟩ [("_law_script", v)]) ∧ ∀ base : Heap, K.In base → base.Ns mainGlobals mg → FnOk l.prog w K mg base CX0 12 fa fd ["_law_script"] (spLaw K) := by
  have e := hfa.symm.trans (PySem.W.mg_of X G ga32)
  cases e
  have T : Txt K mg CW CR CS CT CF := {
    len := PySem.W.mg_none_of X G z_len,
    isi := PySem.W.mg_none_of X G z_isinstance,
    tuple := PySem.W.mg_none_of X G z_tuple,
    int := PySem.W.mg_none_of X G z_int,
    bool := PySem.W.mg_none_of X G z_bool,
    str := PySem.W.mg_none_of X G z_str,
    list := PySem.W.mg_none_of X G z_list,
    dict := PySem.W.mg_none_of X G z_dict,
    sorted := PySem.W.mg_none_of X G z_sorted,
    enum := PySem.W.mg_none_of X G z_enumerate,
    range := PySem.W.mg_none_of X G z_range,
    max := PySem.W.mg_none_of X G z_max,
    min := PySem.W.mg_none_of X G z_min,
    abs := PySem.W.mg_none_of X G z_abs,
    cStT := ⟨_, PySem.W.mg_of X G qcStT, _, rfl⟩,
    cCol := ⟨_, PySem.W.mg_of X G qcCol, _, rfl⟩,
    cFar := ⟨_, PySem.W.mg_of X G qcFar, _, by rw [show (10 : Int) ^ 60 = 1000000000000000000000000000000000000000000000000000000000000 by decide]⟩,
    cSq := ⟨_, PySem.W.mg_of X G qcSq, _, rfl⟩,
    cSteps := ⟨_, PySem.W.mg_of X G qcSteps, _, rfl⟩,
    cStM := ⟨_, PySem.W.mg_of X G qcStM, _, rfl⟩,
    cTape := ⟨_, PySem.W.mg_of X G qcTape, _, rfl⟩,
    cRight := ⟨_, PySem.W.mg_of X G qcRight, _, rfl⟩,
    cLeft := ⟨_, PySem.W.mg_of X G qcLeft, _, rfl⟩,
    cRound := ⟨_, PySem.W.mg_of X G qcRound, _, rfl⟩,
    cLooked := ⟨_, PySem.W.mg_of X G qcLooked, _, rfl⟩,
    cFirst := ⟨_, PySem.W.mg_of X G qcFirst, _, rfl⟩,
    cHead := ⟨aH, h0, h1, h2, h3, ⟨_, PySem.W.mg_of X G gH, rfl⟩, fun H => ⟨.inr ⟨_, _, _, lH, rfl, rfl, by show 4 ≤ sizeLine; decide, .cons rfl (.cons rfl (.cons rfl (.cons rfl .nil)))⟩, .inr ⟨_, _, _, lh1, rfl, rfl, by show 2 ≤ sizeLine; decide, .cons ⟨_, rfl⟩ (.cons ⟨_, rfl⟩ .nil)⟩, .inr ⟨_, _, _, lh3, rfl, rfl, by show 2 ≤ sizeLine; decide, .cons ⟨_, rfl⟩ (.cons ⟨_, rfl⟩ .nil)⟩⟩⟩,
    wC := ⟨pgCW, hdCW, poCW, saCW⟩,
    wTable := nCW_table,
    wSquares := nCW_squares,
    wPlace := nCW_place,
    wHeading := nCW_heading,
    wState := nCW_state,
    wDone := nCW_done,
    rC := ⟨pgCR, hdCR, poCR, saCR⟩,
    rGround := nCR_ground,
    rPeriod := nCR_period,
    rFirst := nCR_first,
    rLeft := nCR_left,
    rWays := nCR_ways,
    rWhole := nCR_is_whole,
    rEnd := nCR_end,
    rMove := nCR_move,
    rBack := nCR_is_back,
    sC := ⟨pgCS, hdCS, poCS, saCS⟩,
    sTable := nCS_table,
    sRound := nCS_round,
    tC := ⟨pgCT, hdCT, poCT, saCT⟩,
    tTable := nCT_table,
    tGround := nCT_ground,
    tBegan := nCT_began,
    tPaper := nCT_paper,
    tFar := nCT_far,
    fC := ⟨pgCF, hdCF, poCF, saCF⟩,
    fTable := nCF_table,
    fGround := nCF_ground,
    fBegan := nCF_began,
    fWalk := nCF_walk,
    fRead := nCF_read,
    fKept := nCF_kept,
    fKeptAt := nCF_kept_at }
  have Fa0 : C8.Def K mg "is_in" (top 14) fa0 _ := ⟨⟨_, _, _, _, _, _, _, _, _, _, rfl, la0, ca0⟩, PySem.W.mg_of X G ga0, ka0⟩
  have ba0 := Fa0.fn.binds (ps := ["value", "least", "most"]) rfl fun _ _ _ _ _ _ us hl => match us, hl with | [_, _, _], _ => rfl
  have Fa1 : C8.Def K mg "is_entry" (top 15) fa1 _ := ⟨⟨_, _, _, _, _, _, _, _, _, _, rfl, la1, ca1⟩, PySem.W.mg_of X G ga1, ka1⟩
  have ba1 := Fa1.fn.binds (ps := ["entry", "states", "colours"]) rfl fun _ _ _ _ _ _ us hl => match us, hl with | [_, _, _], _ => rfl
  have Fa2 : C8.Def K mg "is_table" (top 16) fa2 _ := ⟨⟨_, _, _, _, _, _, _, _, _, _, rfl, la2, ca2⟩, PySem.W.mg_of X G ga2, ka2⟩
  have ba2 := Fa2.fn.binds (ps := ["table"]) rfl fun _ _ _ _ _ _ us hl => match us, hl with | [_], _ => rfl
  have Fa3 : C8.Def K mg "need_table" (top 17) fa3 _ := ⟨⟨_, _, _, _, _, _, _, _, _, _, rfl, la3, ca3⟩, PySem.W.mg_of X G ga3, ka3⟩
  have ba3 := Fa3.fn.binds (ps := ["table"]) rfl fun _ _ _ _ _ _ us hl => match us, hl with | [_], _ => rfl
  have Fa4 : C8.Def K mg "is_place" (top 22) fa4 _ := ⟨⟨_, _, _, _, _, _, _, _, _, _, rfl, la4, ca4⟩, PySem.W.mg_of X G ga4, ka4⟩
  have ba4 := Fa4.fn.binds (ps := ["value"]) rfl fun _ _ _ _ _ _ us hl => match us, hl with | [_], _ => rfl
  have Fa5 : C8.Def K mg "is_square" (top 23) fa5 _ := ⟨⟨_, _, _, _, _, _, _, _, _, _, rfl, la5, ca5⟩, PySem.W.mg_of X G ga5, ka5⟩
  have ba5 := Fa5.fn.binds (ps := ["value", "colours"]) rfl fun _ _ _ _ _ _ us hl => match us, hl with | [_, _], _ => rfl
  have Fa6 : C8.Def K mg "need_floor" (top 24) fa6 _ := ⟨⟨_, _, _, _, _, _, _, _, _, _, rfl, la6, ca6⟩, PySem.W.mg_of X G ga6, ka6⟩
  have ba6 : Binds K (PySem.W.fnOf "need_floor" "need_floor" (C8.fnArgs (top 24)) (C8.fnBody (top 24)) (C8.fnScope (top 24)) (.ref TD) kVa6 dca6 pma6 ana6 cda6 cta6) ["floor", "colours"] [] := by
    have FD : L2.FunD K "need_floor" "need_floor" (C8.fnArgs (top 24)) (C8.fnBody (top 24)) (C8.fnScope (top 24)) [.int 6] [] fa6 (PySem.W.fnOf "need_floor" "need_floor" (C8.fnArgs (top 24)) (C8.fnBody (top 24)) (C8.fnScope (top 24)) (.ref TD) kVa6 dca6 pma6 ana6 cda6 cta6) := ⟨⟨_, _, _, _, _, _, _, _, _, _, rfl, la6, ca6, .inr ⟨by simp, TD, _, [_], nTD, rfl, dTD, rfl, .cons ⟨_, rfl⟩ .nil⟩, .inl rfl⟩, ka6⟩
    obtain ⟨ds, hv, hb⟩ := FD.binds1 (ps := ["floor", "colours"]) 2 1 (by simp) rfl fun T kV doc pm an cdv ct us its h1 h2 => match us, h1, its, h2 with | [_, _], _, [_], _ => ⟨_, rfl, rfl⟩
    cases hv
    exact hb
  have Fa7 : C8.Def K mg "squares_of" (top 25) fa7 _ := ⟨⟨_, _, _, _, _, _, _, _, _, _, rfl, la7, ca7⟩, PySem.W.mg_of X G ga7, ka7⟩
  have ba7 := Fa7.fn.binds (ps := ["floor"]) rfl fun _ _ _ _ _ _ us hl => match us, hl with | [_], _ => rfl
  have Fa8 : C8.Def K mg "floor_of" (top 26) fa8 _ := ⟨⟨_, _, _, _, _, _, _, _, _, _, rfl, la8, ca8⟩, PySem.W.mg_of X G ga8, ka8⟩
  have ba8 := Fa8.fn.binds (ps := ["squares"]) rfl fun _ _ _ _ _ _ us hl => match us, hl with | [_], _ => rfl
  have Fa9 : C8.Def K mg "is_walker" (top 29) fa9 _ := ⟨⟨_, _, _, _, _, _, _, _, _, _, rfl, la9, ca9⟩, PySem.W.mg_of X G ga9, ka9⟩
  have ba9 := Fa9.fn.binds (ps := ["table", "value"]) rfl fun _ _ _ _ _ _ us hl => match us, hl with | [_, _], _ => rfl
  have Fa10 : C8.Def K mg "need_stand" (top 30) fa10 _ := ⟨⟨_, _, _, _, _, _, _, _, _, _, rfl, la10, ca10⟩, PySem.W.mg_of X G ga10, ka10⟩
  have ba10 := Fa10.fn.binds (ps := ["table", "floor", "walker"]) rfl fun _ _ _ _ _ _ us hl => match us, hl with | [_, _, _], _ => rfl
  have Fa11 : C8.Def K mg "behind" (top 53) fa11 _ := ⟨⟨_, _, _, _, _, _, _, _, _, _, rfl, la11, ca11⟩, PySem.W.mg_of X G ga11, ka11⟩
  have ba11 := Fa11.fn.binds (ps := ["table", "floor", "walker", "many"]) rfl fun _ _ _ _ _ _ us hl => match us, hl with | [_, _, _, _], _ => rfl
  have Fa12 : C8.Def K mg "walk" (top 32) fa12 _ := ⟨⟨_, _, _, _, _, _, _, _, _, _, rfl, la12, ca12⟩, PySem.W.mg_of X G ga12, ka12⟩
  have ba12 := Fa12.fn.binds (ps := ["table", "floor", "walker", "many"]) rfl fun _ _ _ _ _ _ us hl => match us, hl with | [_, _, _, _], _ => rfl
  have Fa13 : C8.Def K mg "is_rule" (top 38) fa13 _ := ⟨⟨_, _, _, _, _, _, _, _, _, _, rfl, la13, ca13⟩, PySem.W.mg_of X G ga13, ka13⟩
  have ba13 := Fa13.fn.binds (ps := ["rule", "states", "signs"]) rfl fun _ _ _ _ _ _ us hl => match us, hl with | [_, _, _], _ => rfl
  have Fa14 : C8.Def K mg "need_machine" (top 39) fa14 _ := ⟨⟨_, _, _, _, _, _, _, _, _, _, rfl, la14, ca14⟩, PySem.W.mg_of X G ga14, ka14⟩
  have ba14 := Fa14.fn.binds (ps := ["machine"]) rfl fun _ _ _ _ _ _ us hl => match us, hl with | [_], _ => rfl
  have Fa15 : C8.Def K mg "need_tape" (top 40) fa15 _ := ⟨⟨_, _, _, _, _, _, _, _, _, _, rfl, la15, ca15⟩, PySem.W.mg_of X G ga15, ka15⟩
  have ba15 := Fa15.fn.binds (ps := ["machine", "tape", "head", "state"]) rfl fun _ _ _ _ _ _ us hl => match us, hl with | [_, _, _, _], _ => rfl
  have Fa16 : C8.Def K mg "tape_run" (top 41) fa16 _ := ⟨⟨_, _, _, _, _, _, _, _, _, _, rfl, la16, ca16⟩, PySem.W.mg_of X G ga16, ka16⟩
  have ba16 := Fa16.fn.binds (ps := ["machine", "tape", "head", "state", "many"]) rfl fun _ _ _ _ _ _ us hl => match us, hl with | [_, _, _, _, _], _ => rfl
  have Fa17 : C8.Def K mg "walker_table" (top 42) fa17 _ := ⟨⟨_, _, _, _, _, _, _, _, _, _, rfl, la17, ca17⟩, PySem.W.mg_of X G ga17, ka17⟩
  have ba17 := Fa17.fn.binds (ps := ["machine"]) rfl fun _ _ _ _ _ _ us hl => match us, hl with | [_], _ => rfl
  have Fa18 : C8.Def K mg "tape_stand" (top 43) fa18 _ := ⟨⟨_, _, _, _, _, _, _, _, _, _, rfl, la18, ca18⟩, PySem.W.mg_of X G ga18, ka18⟩
  have ba18 := Fa18.fn.binds (ps := ["machine", "tape", "head", "state"]) rfl fun _ _ _ _ _ _ us hl => match us, hl with | [_, _, _, _], _ => rfl
  have Fa19 : C8.Def K mg "read_stand" (top 44) fa19 _ := ⟨⟨_, _, _, _, _, _, _, _, _, _, rfl, la19, ca19⟩, PySem.W.mg_of X G ga19, ka19⟩
  have ba19 := Fa19.fn.binds (ps := ["floor", "walker"]) rfl fun _ _ _ _ _ _ us hl => match us, hl with | [_, _], _ => rfl
  have Fa20 : C8.Def K mg "tape_by_walker" (top 45) fa20 _ := ⟨⟨_, _, _, _, _, _, _, _, _, _, rfl, la20, ca20⟩, PySem.W.mg_of X G ga20, ka20⟩
  have ba20 := Fa20.fn.binds (ps := ["machine", "tape", "head", "state", "many"]) rfl fun _ _ _ _ _ _ us hl => match us, hl with | [_, _, _, _, _], _ => rfl
  have Fa21 : C8.Def K mg "times_to" (top 48) fa21 _ := ⟨⟨_, _, _, _, _, _, _, _, _, _, rfl, la21, ca21⟩, PySem.W.mg_of X G ga21, ka21⟩
  have ba21 := Fa21.fn.binds (ps := ["way", "move"]) rfl fun _ _ _ _ _ _ us hl => match us, hl with | [_, _], _ => rfl
  have Fa22 : C8.Def K mg "is_paper_shape" (top 52) fa22 _ := ⟨⟨_, _, _, _, _, _, _, _, _, _, rfl, la22, ca22⟩, PySem.W.mg_of X G ga22, ka22⟩
  have ba22 := Fa22.fn.binds (ps := ["value"]) rfl fun _ _ _ _ _ _ us hl => match us, hl with | [_], _ => rfl
  have Fa23 : C8.Def K mg "holds" (top 54) fa23 _ := ⟨⟨_, _, _, _, _, _, _, _, _, _, rfl, la23, ca23⟩, PySem.W.mg_of X G ga23, ka23⟩
  have ba23 := Fa23.fn.binds (ps := ["table", "floor", "walker", "paper"]) rfl fun _ _ _ _ _ _ us hl => match us, hl with | [_, _, _, _], _ => rfl
  have Fa24 : C8.Def K mg "need_teller" (top 56) fa24 _ := ⟨⟨_, _, _, _, _, _, _, _, _, _, rfl, la24, ca24⟩, PySem.W.mg_of X G ga24, ka24⟩
  have ba24 := Fa24.fn.binds (ps := ["table", "floor", "walker", "paper", "step"]) rfl fun _ _ _ _ _ _ us hl => match us, hl with | [_, _, _, _, _], _ => rfl
  have Fa25 : C8.Def K mg "walker_at" (top 57) fa25 _ := ⟨⟨_, _, _, _, _, _, _, _, _, _, rfl, la25, ca25⟩, PySem.W.mg_of X G ga25, ka25⟩
  have ba25 := Fa25.fn.binds (ps := ["table", "floor", "walker", "paper", "step"]) rfl fun _ _ _ _ _ _ us hl => match us, hl with | [_, _, _, _, _], _ => rfl
  have Fa26 : C8.Def K mg "find_in" (top 62) fa26 _ := ⟨⟨_, _, _, _, _, _, _, _, _, _, rfl, la26, ca26⟩, PySem.W.mg_of X G ga26, ka26⟩
  have ba26 := Fa26.fn.binds (ps := ["table", "floor", "walker", "steps", "most"]) rfl fun _ _ _ _ _ _ us hl => match us, hl with | [_, _, _, _, _], _ => rfl
  have Fa27 : C8.Def K mg "find_paper" (top 63) fa27 _ := ⟨⟨_, _, _, _, _, _, _, _, _, _, rfl, la27, ca27⟩, PySem.W.mg_of X G ga27, ka27⟩
  have ba27 := Fa27.fn.binds (ps := ["table", "floor", "walker", "steps", "most"]) rfl fun _ _ _ _ _ _ us hl => match us, hl with | [_, _, _, _, _], _ => rfl
  have Fa28 : C8.Def K mg "_law_taken" (top 65) fa28 _ := ⟨⟨_, _, _, _, _, _, _, _, _, _, rfl, la28, ca28⟩, PySem.W.mg_of X G ga28, ka28⟩
  have ba28 := Fa28.fn.binds (ps := ["_law_row", "_law_many"]) rfl fun _ _ _ _ _ _ us hl => match us, hl with | [_, _], _ => rfl
  have Fa29 : C8.Def K mg "_law_pick" (top 66) fa29 _ := ⟨⟨_, _, _, _, _, _, _, _, _, _, rfl, la29, ca29⟩, PySem.W.mg_of X G ga29, ka29⟩
  have ba29 := Fa29.fn.binds (ps := ["_law_row", "_law_things"]) rfl fun _ _ _ _ _ _ us hl => match us, hl with | [_, _], _ => rfl
  have Fa30 : C8.Def K mg "_law_signed" (top 67) fa30 _ := ⟨⟨_, _, _, _, _, _, _, _, _, _, rfl, la30, ca30⟩, PySem.W.mg_of X G ga30, ka30⟩
  have ba30 := Fa30.fn.binds (ps := ["_law_row", "_law_most"]) rfl fun _ _ _ _ _ _ us hl => match us, hl with | [_, _], _ => rfl
  have Fa31 : C8.Def K mg "_law_alike" (top 68) fa31 _ := ⟨⟨_, _, _, _, _, _, _, _, _, _, rfl, la31, ca31⟩, PySem.W.mg_of X G ga31, ka31⟩
  have ba31 := Fa31.fn.binds (ps := ["_law_found", "_law_due"]) rfl fun _ _ _ _ _ _ us hl => match us, hl with | [_, _], _ => rfl
  have FCW0 : C8.Fun K "__init__" "Walk.__init__" (meth 31 0) fCW0 _ := ⟨_, _, _, _, _, _, _, _, _, _, rfl, lCW0, cCW0⟩
  have bCW0 := FCW0.binds (ps := ["self", "table", "floor", "walker"]) rfl fun _ _ _ _ _ _ us hl => match us, hl with | [_, _, _, _], _ => rfl
  have FCW1 : C8.Fun K "colour" "Walk.colour" (meth 31 1) fCW1 _ := ⟨_, _, _, _, _, _, _, _, _, _, rfl, lCW1, cCW1⟩
  have bCW1 := FCW1.binds (ps := ["self"]) rfl fun _ _ _ _ _ _ us hl => match us, hl with | [_], _ => rfl
  have FCW2 : C8.Fun K "entry" "Walk.entry" (meth 31 2) fCW2 _ := ⟨_, _, _, _, _, _, _, _, _, _, rfl, lCW2, cCW2⟩
  have bCW2 := FCW2.binds (ps := ["self"]) rfl fun _ _ _ _ _ _ us hl => match us, hl with | [_], _ => rfl
  have FCW3 : C8.Fun K "walker" "Walk.walker" (meth 31 3) fCW3 _ := ⟨_, _, _, _, _, _, _, _, _, _, rfl, lCW3, cCW3⟩
  have bCW3 := FCW3.binds (ps := ["self"]) rfl fun _ _ _ _ _ _ us hl => match us, hl with | [_], _ => rfl
  have FCW4 : C8.Fun K "step" "Walk.step" (meth 31 4) fCW4 _ := ⟨_, _, _, _, _, _, _, _, _, _, rfl, lCW4, cCW4⟩
  have bCW4 := FCW4.binds (ps := ["self"]) rfl fun _ _ _ _ _ _ us hl => match us, hl with | [_], _ => rfl
  have FCW5 : C8.Fun K "go" "Walk.go" (meth 31 5) fCW5 _ := ⟨_, _, _, _, _, _, _, _, _, _, rfl, lCW5, cCW5⟩
  have bCW5 := FCW5.binds (ps := ["self", "many"]) rfl fun _ _ _ _ _ _ us hl => match us, hl with | [_, _], _ => rfl
  have FCW6 : C8.Fun K "stand" "Walk.stand" (meth 31 6) fCW6 _ := ⟨_, _, _, _, _, _, _, _, _, _, rfl, lCW6, cCW6⟩
  have bCW6 := FCW6.binds (ps := ["self"]) rfl fun _ _ _ _ _ _ us hl => match us, hl with | [_], _ => rfl
  have FCR0 : C8.Fun K "__init__" "Round.__init__" (meth 49 0) fCR0 _ := ⟨_, _, _, _, _, _, _, _, _, _, rfl, lCR0, cCR0⟩
  have bCR0 := FCR0.binds (ps := ["self", "table", "floor", "walker", "period"]) rfl fun _ _ _ _ _ _ us hl => match us, hl with | [_, _, _, _, _], _ => rfl
  have FCR1 : C8.Fun K "spread" "Round.spread" (meth 49 1) fCR1 _ := ⟨_, _, _, _, _, _, _, _, _, _, rfl, lCR1, cCR1⟩
  have bCR1 := FCR1.binds (ps := ["self"]) rfl fun _ _ _ _ _ _ us hl => match us, hl with | [_], _ => rfl
  have FCR2 : C8.Fun K "next_treading" "Round.next_treading" (meth 49 2) fCR2 _ := ⟨_, _, _, _, _, _, _, _, _, _, rfl, lCR2, cCR2⟩
  have bCR2 := FCR2.binds (ps := ["self", "place", "sign"]) rfl fun _ _ _ _ _ _ us hl => match us, hl with | [_, _, _], _ => rfl
  have FCR3 : C8.Fun K "is_free" "Round.is_free" (meth 49 3) fCR3 _ := ⟨_, _, _, _, _, _, _, _, _, _, rfl, lCR3, cCR3⟩
  have bCR3 := FCR3.binds (ps := ["self", "place", "many"]) rfl fun _ _ _ _ _ _ us hl => match us, hl with | [_, _, _], _ => rfl
  have FCR4 : C8.Fun K "goes_on" "Round.goes_on" (meth 49 4) fCR4 _ := ⟨_, _, _, _, _, _, _, _, _, _, rfl, lCR4, cCR4⟩
  have bCR4 := FCR4.binds (ps := ["self"]) rfl fun _ _ _ _ _ _ us hl => match us, hl with | [_], _ => rfl
  have FCS0 : C8.Fun K "__init__" "Street.__init__" (meth 50 0) fCS0 _ := ⟨_, _, _, _, _, _, _, _, _, _, rfl, lCS0, cCS0⟩
  have bCS0 := FCS0.binds (ps := ["self", "table", "floor", "walker", "period"]) rfl fun _ _ _ _ _ _ us hl => match us, hl with | [_, _, _, _, _], _ => rfl
  have FCS1 : C8.Fun K "parted" "Street.parted" (meth 50 1) fCS1 _ := ⟨_, _, _, _, _, _, _, _, _, _, rfl, lCS1, cCS1⟩
  have bCS1 := FCS1.binds (ps := ["self", "steps"]) rfl fun _ _ _ _ _ _ us hl => match us, hl with | [_, _], _ => rfl
  have FCS2 : C8.Fun K "walker_at" "Street.walker_at" (meth 50 2) fCS2 _ := ⟨_, _, _, _, _, _, _, _, _, _, rfl, lCS2, cCS2⟩
  have bCS2 := FCS2.binds (ps := ["self", "steps"]) rfl fun _ _ _ _ _ _ us hl => match us, hl with | [_, _], _ => rfl
  have FCT0 : C8.Fun K "__init__" "Teller.__init__" (meth 55 0) fCT0 _ := ⟨_, _, _, _, _, _, _, _, _, _, rfl, lCT0, cCT0⟩
  have bCT0 := FCT0.binds (ps := ["self", "table", "floor", "walker", "paper"]) rfl fun _ _ _ _ _ _ us hl => match us, hl with | [_, _, _, _, _], _ => rfl
  have FCT1 : C8.Fun K "plain" "Teller.plain" (meth 55 1) fCT1 _ := ⟨_, _, _, _, _, _, _, _, _, _, rfl, lCT1, cCT1⟩
  have bCT1 := FCT1.binds (ps := ["self", "step"]) rfl fun _ _ _ _ _ _ us hl => match us, hl with | [_, _], _ => rfl
  have FCT2 : C8.Fun K "is_far" "Teller.is_far" (meth 55 2) fCT2 _ := ⟨_, _, _, _, _, _, _, _, _, _, rfl, lCT2, cCT2⟩
  have bCT2 := FCT2.binds (ps := ["self", "step"]) rfl fun _ _ _ _ _ _ us hl => match us, hl with | [_, _], _ => rfl
  have FCT3 : C8.Fun K "walker_at" "Teller.walker_at" (meth 55 3) fCT3 _ := ⟨_, _, _, _, _, _, _, _, _, _, rfl, lCT3, cCT3⟩
  have bCT3 := FCT3.binds (ps := ["self", "step"]) rfl fun _ _ _ _ _ _ us hl => match us, hl with | [_, _], _ => rfl
  have FCF0 : C8.Fun K "__init__" "Finder.__init__" (meth 61 0) fCF0 _ := ⟨_, _, _, _, _, _, _, _, _, _, rfl, lCF0, cCF0⟩
  have bCF0 := FCF0.binds (ps := ["self", "table", "floor", "walker"]) rfl fun _ _ _ _ _ _ us hl => match us, hl with | [_, _, _, _], _ => rfl
  have FCF1 : C8.Fun K "go_on" "Finder.go_on" (meth 61 1) fCF1 _ := ⟨_, _, _, _, _, _, _, _, _, _, rfl, lCF1, cCF1⟩
  have bCF1 := FCF1.binds (ps := ["self", "many"]) rfl fun _ _ _ _ _ _ us hl => match us, hl with | [_, _], _ => rfl
  have FCF2 : C8.Fun K "keep" "Finder.keep" (meth 61 2) fCF2 _ := ⟨_, _, _, _, _, _, _, _, _, _, rfl, lCF2, cCF2⟩
  have bCF2 := FCF2.binds (ps := ["self"]) rfl fun _ _ _ _ _ _ us hl => match us, hl with | [_], _ => rfl
  have FCF3 : C8.Fun K "street" "Finder.street" (meth 61 3) fCF3 _ := ⟨_, _, _, _, _, _, _, _, _, _, rfl, lCF3, cCF3⟩
  have bCF3 := FCF3.binds (ps := ["self", "most"]) rfl fun _ _ _ _ _ _ us hl => match us, hl with | [_, _], _ => rfl
  have FCF4 : C8.Fun K "is_street" "Finder.is_street" (meth 61 4) fCF4 _ := ⟨_, _, _, _, _, _, _, _, _, _, rfl, lCF4, cCF4⟩
  have bCF4 := FCF4.binds (ps := ["self", "paper"]) rfl fun _ _ _ _ _ _ us hl => match us, hl with | [_, _], _ => rfl
  have Fa32 : C8.Fun K "law" "law" (top 69) fa _ := ⟨_, _, _, _, _, _, _, _, _, _, rfl, la32, ca32⟩
  refine ⟨PySem.W.fnOf "law" "law" (C8.fnArgs (top 69)) (C8.fnBody (top 69)) (C8.fnScope (top 69)) .none kVa32 dca32 pma32 ana32 cda32 cta32, fun s v => .of_eq rfl, fun base _ _ => ?_⟩
  have c_is_in := ok_is_in (P := l.prog) (w := w) (base := base) T Fa0 ba0
  have c_is_entry := ok_is_entry (P := l.prog) (w := w) (base := base) T c_is_in Fa1 ba1
  have c_is_table := ok_is_table (P := l.prog) (w := w) (base := base) T c_is_entry Fa2 ba2
  have c_need_table := ok_need_table (P := l.prog) (w := w) (base := base) T c_is_table Fa3 ba3
  have c_is_place := ok_is_place (P := l.prog) (w := w) (base := base) T c_is_in Fa4 ba4
  have c_is_square := ok_is_square (P := l.prog) (w := w) (base := base) T c_is_in c_is_place Fa5 ba5
  have c_need_floor := ok_need_floor (P := l.prog) (w := w) (base := base) T c_is_square Fa6 ba6
  have c_is_walker := ok_is_walker (P := l.prog) (w := w) (base := base) T c_is_in c_is_place Fa9 ba9
  have c_need_stand := ok_need_stand (P := l.prog) (w := w) (base := base) T c_need_table c_need_floor c_is_walker Fa10 ba10
  have c_is_rule := ok_is_rule (P := l.prog) (w := w) (base := base) T c_is_in Fa13 ba13
  have c_need_machine := ok_need_machine (P := l.prog) (w := w) (base := base) T c_is_rule Fa14 ba14
  have c_need_tape := ok_need_tape (P := l.prog) (w := w) (base := base) T c_is_in c_is_place c_need_machine Fa15 ba15
  have c_squares_of := ok_squares_of (P := l.prog) (w := w) (base := base) T Fa7 ba7
  have c_floor_of := ok_floor_of (P := l.prog) (w := w) (base := base) T Fa8 ba8
  have k_Walk := ok_Walk (P := l.prog) (w := w) (base := base) T c_squares_of ⟨mkCW, mCW0, iCW0, kcCW⟩ (PySem.W.mg_of X G gCW) FCW0 bCW0
  have m_colour := ok_Walk_colour (P := l.prog) (w := w) (base := base) T ⟨mCW1, iCW1, kCW1⟩ FCW1 bCW1
  have m_entry := ok_Walk_entry (P := l.prog) (w := w) (base := base) T m_colour ⟨mCW2, iCW2, kCW2⟩ FCW2 bCW2
  have m_walker := ok_Walk_walker (P := l.prog) (w := w) (base := base) T ⟨mCW3, iCW3, kCW3⟩ FCW3 bCW3
  have m_step := ok_Walk_step (P := l.prog) (w := w) (base := base) T m_entry ⟨mCW4, iCW4, kCW4⟩ FCW4 bCW4
  have m_go := ok_Walk_go (P := l.prog) (w := w) (base := base) T m_step ⟨mCW5, iCW5, kCW5⟩ FCW5 bCW5
  have m_stand := ok_Walk_stand (P := l.prog) (w := w) (base := base) T c_floor_of m_walker ⟨mCW6, iCW6, kCW6⟩ FCW6 bCW6
  have c_behind := ok_behind (P := l.prog) (w := w) (base := base) T k_Walk m_go Fa11 ba11
  have c_walk := ok_walk (P := l.prog) (w := w) (base := base) T c_need_stand c_is_in k_Walk m_go m_stand Fa12 ba12
  have c_tape_run := ok_tape_run (P := l.prog) (w := w) (base := base) T c_need_tape c_is_in Fa16 ba16
  have c_walker_table := ok_walker_table (P := l.prog) (w := w) (base := base) T c_need_machine Fa17 ba17
  have c_tape_stand := ok_tape_stand (P := l.prog) (w := w) (base := base) T c_need_tape Fa18 ba18
  have c_read_stand := ok_read_stand (P := l.prog) (w := w) (base := base) T c_squares_of Fa19 ba19
  have c_tape_by_walker := ok_tape_by_walker (P := l.prog) (w := w) (base := base) T c_need_tape c_is_in c_tape_stand c_walker_table k_Walk m_go m_stand c_read_stand Fa20 ba20
  have k_Round := ok_Round (P := l.prog) (w := w) (base := base) T c_squares_of k_Walk m_walker m_colour m_step ⟨mkCR, mCR0, iCR0, kcCR⟩ (PySem.W.mg_of X G gCR) FCR0 bCR0
  have c_times_to := ok_times_to (P := l.prog) (w := w) (base := base) T Fa21 ba21
  have m_spread := ok_spread (P := l.prog) (w := w) (base := base) T ⟨mCR1, iCR1, kCR1⟩ FCR1 bCR1
  have m_next_treading := ok_next_treading (P := l.prog) (w := w) (base := base) T m_spread ⟨mCR2, iCR2, kCR2⟩ FCR2 bCR2
  have m_is_free := ok_is_free (P := l.prog) (w := w) (base := base) T c_times_to ⟨mCR3, iCR3, kCR3⟩ FCR3 bCR3
  have m_goes_on := ok_goes_on (P := l.prog) (w := w) (base := base) T m_next_treading m_is_free ⟨mCR4, iCR4, kCR4⟩ FCR4 bCR4
  have k_Street := ok_Street (P := l.prog) (w := w) (base := base) T k_Round ⟨mkCS, mCS0, iCS0, kcCS⟩ (PySem.W.mg_of X G gCS) FCS0 bCS0
  have m_parted := ok_parted (P := l.prog) (w := w) (base := base) T ⟨mCS1, iCS1, kCS1⟩ FCS1 bCS1
  have m_swalker := ok_swalker_at (P := l.prog) (w := w) (base := base) T m_parted ⟨mCS2, iCS2, kCS2⟩ FCS2 bCS2
  have c_is_paper_shape := ok_is_paper_shape (P := l.prog) (w := w) (base := base) T c_is_in Fa22 ba22
  have c_holds := ok_holds (P := l.prog) (w := w) (base := base) T c_behind m_entry m_stand m_go k_Round m_goes_on Fa23 ba23
  have k_Teller := ok_Teller (P := l.prog) (w := w) (base := base) T c_behind m_stand k_Street ⟨mkCT, mCT0, iCT0, kcCT⟩ (PySem.W.mg_of X G gCT) FCT0 bCT0
  have m_plain := ok_plain (P := l.prog) (w := w) (base := base) T c_behind ⟨mCT1, iCT1, kCT1⟩ FCT1 bCT1
  have m_is_far := ok_is_far (P := l.prog) (w := w) (base := base) T ⟨mCT2, iCT2, kCT2⟩ FCT2 bCT2
  have m_twalker := ok_twalker (P := l.prog) (w := w) (base := base) T m_is_far m_plain m_walker m_swalker ⟨mCT3, iCT3, kCT3⟩ FCT3 bCT3
  have c_need_teller := ok_need_teller (P := l.prog) (w := w) (base := base) T c_need_stand c_is_in c_is_paper_shape c_holds k_Teller Fa24 ba24
  have c_walker_at := ok_walker_at (P := l.prog) (w := w) (base := base) T c_need_teller m_twalker Fa25 ba25
  have k_Finder := ok_Finder (P := l.prog) (w := w) (base := base) T k_Walk m_stand ⟨mkCF, mCF0, iCF0, kcCF⟩ (PySem.W.mg_of X G gCF) FCF0 bCF0
  have m_go_on := ok_go_on (P := l.prog) (w := w) (base := base) T m_entry m_colour m_go m_walker m_stand ⟨mCF1, iCF1, kCF1⟩ FCF1 bCF1
  have m_keep := ok_keep (P := l.prog) (w := w) (base := base) T m_stand ⟨mCF2, iCF2, kCF2⟩ FCF2 bCF2
  have m_is_street := ok_is_street (P := l.prog) (w := w) (base := base) T k_Walk m_go m_stand k_Round m_goes_on ⟨mCF4, iCF4, kCF4⟩ FCF4 bCF4
  have m_street := ok_street (P := l.prog) (w := w) (base := base) T m_is_street ⟨mCF3, iCF3, kCF3⟩ FCF3 bCF3
  have c_find_in := ok_find_in (P := l.prog) (w := w) (base := base) T k_Finder m_go_on m_street m_keep Fa26 ba26
  have c_find_paper := ok_find_paper (P := l.prog) (w := w) (base := base) T c_need_stand c_is_in c_find_in Fa27 ba27
  have c__law_taken := ok_taken (P := l.prog) (w := w) (base := base) T Fa28 ba28
  have c__law_pick := ok_pick (P := l.prog) (w := w) (base := base) T c__law_taken Fa29 ba29
  have c__law_signed := ok_signed (P := l.prog) (w := w) (base := base) T c__law_taken Fa30 ba30
  have c__law_alike := ok_alike (P := l.prog) (w := w) (base := base) T Fa31 ba31
  exact ok_law (P := l.prog) (w := w) (base := base) T c__law_taken c__law_pick c__law_signed (c__law_alike 4) (c__law_alike 5) c_walker_table c_tape_run c_tape_by_walker c_tape_stand c_walk c_find_paper c_walker_at Fa32
theorem walk_law {l : PySem.W.OpenLaw} {q : Program} {loose : List Str} {XP : (Str → Option Value) → Heap → Prop} {YP : World → Heap → Prop} {d : DefRec} {K : Params → PySem.W.Frag} (hn : l.most = some 63) (hdf : d.params.defaults = [])
    (hY : ∀ (w : World) (h : Heap), YP w h → (K w.params).In h)
    (F : ∀ (w : World) (mg : Str → Option Value) (fa : Addr) (h : Heap), (K w.params).In h → h.Ns mainGlobals mg → mg d.name = some (.ref fa) →
      ∃ fd : FuncData, (∀ (s : Shared) (u : Value), BindsTo s fd ⟨[u], []⟩ [("_law_script", u)]) ∧ ∀ base : Heap, (K w.params).In base → base.Ns mainGlobals mg → FnOk l.prog w (K w.params) mg base CX0 12 fa fd ["_law_script"] (spLaw (K w.params))) :
    PySem.W.WalkO q loose XP YP l.row.toRowW d [] (fun f vs => PySem.call f vs) :=
  L2.walk_of (n := 63) (k := 12) (x := "_law_script") (CX := fun _ => CX0) (sp := fun w => spLaw (K w.params)) hn (by decide) hdf ⟨rfl, by decide, by decide⟩ hY F (fun _ _ a ns hl _ hS => ⟨a, ns, rfl, hS, fun _ => rfl⟩) fun _ _ _ _ _ z => z
end TP
open PySem PySem.W PyProof.Rows
set_option maxRecDepth 100000 in
set_option maxHeartbeats 0 in
theorem PySem.Challenge.cw_streetpapers_k27_whole_tapes_holds : PySem.Challenge.rw_streetpapers_k27_whole_tapes.Holds := by
  w_on; o_law; k_head; (case hw => w_witness2)
  k_fill
  refine TP.walk_law (l := PySem.Challenge.rw_streetpapers_k27_whole_tapes) rfl rfl (fun w h Y => PySem.W.kIn_of Y) ?F
  case F =>
    intro w mg fa h KX G hmg
    refine' TP.all_mk KX G hmg ?ga0 ?la0 ?ca0 ?ka0 ?ga1 ?la1 ?ca1 ?ka1 ?ga2 ?la2 ?ca2 ?ka2 ?ga3 ?la3 ?ca3 ?ka3 ?ga4 ?la4 ?ca4 ?ka4 ?ga5 ?la5 ?ca5 ?ka5 ?ga6 ?la6 ?ca6 ?ka6 ?dTD ?ga7 ?la7 ?ca7 ?ka7 ?ga8 ?la8 ?ca8 ?ka8 ?ga9 ?la9 ?ca9 ?ka9 ?ga10 ?la10 ?ca10 ?ka10 ?ga11 ?la11 ?ca11 ?ka11 ?ga12 ?la12 ?ca12 ?ka12 ?ga13 ?la13 ?ca13 ?ka13 ?ga14 ?la14 ?ca14 ?ka14 ?ga15 ?la15 ?ca15 ?ka15 ?ga16 ?la16 ?ca16 ?ka16 ?ga17 ?la17 ?ca17 ?ka17 ?ga18 ?la18 ?ca18 ?ka18 ?ga19 ?la19 ?ca19 ?ka19 ?ga20 ?la20 ?ca20 ?ka20 ?ga21 ?la21 ?ca21 ?ka21 ?ga22 ?la22 ?ca22 ?ka22 ?ga23 ?la23 ?ca23 ?ka23 ?ga24 ?la24 ?ca24 ?ka24 ?ga25 ?la25 ?ca25 ?ka25 ?ga26 ?la26 ?ca26 ?ka26 ?ga27 ?la27 ?ca27 ?ka27 ?ga28 ?la28 ?ca28 ?ka28 ?ga29 ?la29 ?ca29 ?ka29 ?ga30 ?la30 ?ca30 ?ka30 ?ga31 ?la31 ?ca31 ?ka31 ?ga32 ?la32 ?ca32 ?ka32 ?gCW ?pgCW ?hdCW ?poCW ?saCW ?mkCW ?kcCW ?mCW0 ?iCW0 ?lCW0 ?cCW0 ?kCW0 ?mCW1 ?iCW1 ?lCW1 ?cCW1 ?kCW1 ?mCW2 ?iCW2 ?lCW2 ?cCW2 ?kCW2 ?mCW3 ?iCW3 ?lCW3 ?cCW3 ?kCW3 ?mCW4 ?iCW4 ?lCW4 ?cCW4 ?kCW4 ?mCW5 ?iCW5 ?lCW5 ?cCW5 ?kCW5 ?mCW6 ?iCW6 ?lCW6 ?cCW6 ?kCW6 ?gCR ?pgCR ?hdCR ?poCR ?saCR ?mkCR ?kcCR ?mCR0 ?iCR0 ?lCR0 ?cCR0 ?kCR0 ?mCR1 ?iCR1 ?lCR1 ?cCR1 ?kCR1 ?mCR2 ?iCR2 ?lCR2 ?cCR2 ?kCR2 ?mCR3 ?iCR3 ?lCR3 ?cCR3 ?kCR3 ?mCR4 ?iCR4 ?lCR4 ?cCR4 ?kCR4 ?gCS ?pgCS ?hdCS ?poCS ?saCS ?mkCS ?kcCS ?mCS0 ?iCS0 ?lCS0 ?cCS0 ?kCS0 ?mCS1 ?iCS1 ?lCS1 ?cCS1 ?kCS1 ?mCS2 ?iCS2 ?lCS2 ?cCS2 ?kCS2 ?gCT ?pgCT ?hdCT ?poCT ?saCT ?mkCT ?kcCT ?mCT0 ?iCT0 ?lCT0 ?cCT0 ?kCT0 ?mCT1 ?iCT1 ?lCT1 ?cCT1 ?kCT1 ?mCT2 ?iCT2 ?lCT2 ?cCT2 ?kCT2 ?mCT3 ?iCT3 ?lCT3 ?cCT3 ?kCT3 ?gCF ?pgCF ?hdCF ?poCF ?saCF ?mkCF ?kcCF ?mCF0 ?iCF0 ?lCF0 ?cCF0 ?kCF0 ?mCF1 ?iCF1 ?lCF1 ?cCF1 ?kCF1 ?mCF2 ?iCF2 ?lCF2 ?cCF2 ?kCF2 ?mCF3 ?iCF3 ?lCF3 ?cCF3 ?kCF3 ?mCF4 ?iCF4 ?lCF4 ?cCF4 ?kCF4 ?nCW_table ?nCW_squares ?nCW_place ?nCW_heading ?nCW_state ?nCW_done ?nCR_ground ?nCR_period ?nCR_first ?nCR_left ?nCR_ways ?nCR_is_whole ?nCR_end ?nCR_move ?nCR_is_back ?nCS_table ?nCS_round ?nCT_table ?nCT_ground ?nCT_began ?nCT_paper ?nCT_far ?nCF_table ?nCF_ground ?nCF_began ?nCF_walk ?nCF_read ?nCF_kept ?nCF_kept_at ?z_len ?z_isinstance ?z_tuple ?z_int ?z_bool ?z_str ?z_list ?z_dict ?z_sorted ?z_enumerate ?z_range ?z_max ?z_min ?z_abs ?qcStT ?qcCol ?qcFar ?qcSq ?qcSteps ?qcStM ?qcTape ?qcRight ?qcLeft ?qcRound ?qcLooked ?qcFirst ?gH ?lH ?lh1 ?lh3
    (case ga0 => k_is)
    (case la0 => k_is)
    (case ca0 => k_is)
    (case ka0 => k_is)
    (case ga1 => k_is)
    (case la1 => k_is)
    (case ca1 => k_is)
    (case ka1 => k_is)
    (case ga2 => k_is)
    (case la2 => k_is)
    (case ca2 => k_is)
    (case ka2 => k_is)
    (case ga3 => k_is)
    (case la3 => k_is)
    (case ca3 => k_is)
    (case ka3 => k_is)
    (case ga4 => k_is)
    (case la4 => k_is)
    (case ca4 => k_is)
    (case ka4 => k_is)
    (case ga5 => k_is)
    (case la5 => k_is)
    (case ca5 => k_is)
    (case ka5 => k_is)
    (case ga6 => k_is)
    (case la6 => k_is)
    (case ca6 => k_is)
    (case ka6 => k_is)
    (case dTD => k_is)
    (case ga7 => k_is)
    (case la7 => k_is)
    (case ca7 => k_is)
    (case ka7 => k_is)
    (case ga8 => k_is)
    (case la8 => k_is)
    (case ca8 => k_is)
    (case ka8 => k_is)
    (case ga9 => k_is)
    (case la9 => k_is)
    (case ca9 => k_is)
    (case ka9 => k_is)
    (case ga10 => k_is)
    (case la10 => k_is)
    (case ca10 => k_is)
    (case ka10 => k_is)
    (case ga11 => k_is)
    (case la11 => k_is)
    (case ca11 => k_is)
    (case ka11 => k_is)
    (case ga12 => k_is)
    (case la12 => k_is)
    (case ca12 => k_is)
    (case ka12 => k_is)
    (case ga13 => k_is)
    (case la13 => k_is)
    (case ca13 => k_is)
    (case ka13 => k_is)
    (case ga14 => k_is)
    (case la14 => k_is)
    (case ca14 => k_is)
    (case ka14 => k_is)
    (case ga15 => k_is)
    (case la15 => k_is)
    (case ca15 => k_is)
    (case ka15 => k_is)
    (case ga16 => k_is)
    (case la16 => k_is)
    (case ca16 => k_is)
    (case ka16 => k_is)
    (case ga17 => k_is)
    (case la17 => k_is)
    (case ca17 => k_is)
    (case ka17 => k_is)
    (case ga18 => k_is)
    (case la18 => k_is)
    (case ca18 => k_is)
    (case ka18 => k_is)
    (case ga19 => k_is)
    (case la19 => k_is)
    (case ca19 => k_is)
    (case ka19 => k_is)
    (case ga20 => k_is)
    (case la20 => k_is)
    (case ca20 => k_is)
    (case ka20 => k_is)
    (case ga21 => k_is)
    (case la21 => k_is)
    (case ca21 => k_is)
    (case ka21 => k_is)
    (case ga22 => k_is)
    (case la22 => k_is)
    (case ca22 => k_is)
    (case ka22 => k_is)
    (case ga23 => k_is)
    (case la23 => k_is)
    (case ca23 => k_is)
    (case ka23 => k_is)
    (case ga24 => k_is)
    (case la24 => k_is)
    (case ca24 => k_is)
    (case ka24 => k_is)
    (case ga25 => k_is)
    (case la25 => k_is)
    (case ca25 => k_is)
    (case ka25 => k_is)
    (case ga26 => k_is)
    (case la26 => k_is)
    (case ca26 => k_is)
    (case ka26 => k_is)
    (case ga27 => k_is)
    (case la27 => k_is)
    (case ca27 => k_is)
    (case ka27 => k_is)
    (case ga28 => k_is)
    (case la28 => k_is)
    (case ca28 => k_is)
    (case ka28 => k_is)
    (case ga29 => k_is)
    (case la29 => k_is)
    (case ca29 => k_is)
    (case ka29 => k_is)
    (case ga30 => k_is)
    (case la30 => k_is)
    (case ca30 => k_is)
    (case ka30 => k_is)
    (case ga31 => k_is)
    (case la31 => k_is)
    (case ca31 => k_is)
    (case ka31 => k_is)
    (case ga32 => k_is)
    (case la32 => k_is)
    (case ca32 => k_is)
    (case ka32 => k_is)
    (case gCW => k_is)
    (case pgCW => k_is)
    (case hdCW => k_is)
    (case poCW => k_is)
    (case saCW => k_is)
    (case mkCW => k_is)
    (case kcCW => k_is)
    (case mCW0 => k_is)
    (case iCW0 => k_is)
    (case lCW0 => k_is)
    (case cCW0 => k_is)
    (case kCW0 => k_is)
    (case mCW1 => k_is)
    (case iCW1 => k_is)
    (case lCW1 => k_is)
    (case cCW1 => k_is)
    (case kCW1 => k_is)
    (case mCW2 => k_is)
    (case iCW2 => k_is)
    (case lCW2 => k_is)
    (case cCW2 => k_is)
    (case kCW2 => k_is)
    (case mCW3 => k_is)
    (case iCW3 => k_is)
    (case lCW3 => k_is)
    (case cCW3 => k_is)
    (case kCW3 => k_is)
    (case mCW4 => k_is)
    (case iCW4 => k_is)
    (case lCW4 => k_is)
    (case cCW4 => k_is)
    (case kCW4 => k_is)
    (case mCW5 => k_is)
    (case iCW5 => k_is)
    (case lCW5 => k_is)
    (case cCW5 => k_is)
    (case kCW5 => k_is)
    (case mCW6 => k_is)
    (case iCW6 => k_is)
    (case lCW6 => k_is)
    (case cCW6 => k_is)
    (case kCW6 => k_is)
    (case gCR => k_is)
    (case pgCR => k_is)
    (case hdCR => k_is)
    (case poCR => k_is)
    (case saCR => k_is)
    (case mkCR => k_is)
    (case kcCR => k_is)
    (case mCR0 => k_is)
    (case iCR0 => k_is)
    (case lCR0 => k_is)
    (case cCR0 => k_is)
    (case kCR0 => k_is)
    (case mCR1 => k_is)
    (case iCR1 => k_is)
    (case lCR1 => k_is)
    (case cCR1 => k_is)
    (case kCR1 => k_is)
    (case mCR2 => k_is)
    (case iCR2 => k_is)
    (case lCR2 => k_is)
    (case cCR2 => k_is)
    (case kCR2 => k_is)
    (case mCR3 => k_is)
    (case iCR3 => k_is)
    (case lCR3 => k_is)
    (case cCR3 => k_is)
    (case kCR3 => k_is)
    (case mCR4 => k_is)
    (case iCR4 => k_is)
    (case lCR4 => k_is)
    (case cCR4 => k_is)
    (case kCR4 => k_is)
    (case gCS => k_is)
    (case pgCS => k_is)
    (case hdCS => k_is)
    (case poCS => k_is)
    (case saCS => k_is)
    (case mkCS => k_is)
    (case kcCS => k_is)
    (case mCS0 => k_is)
    (case iCS0 => k_is)
    (case lCS0 => k_is)
    (case cCS0 => k_is)
    (case kCS0 => k_is)
    (case mCS1 => k_is)
    (case iCS1 => k_is)
    (case lCS1 => k_is)
    (case cCS1 => k_is)
    (case kCS1 => k_is)
    (case mCS2 => k_is)
    (case iCS2 => k_is)
    (case lCS2 => k_is)
    (case cCS2 => k_is)
    (case kCS2 => k_is)
    (case gCT => k_is)
    (case pgCT => k_is)
    (case hdCT => k_is)
    (case poCT => k_is)
    (case saCT => k_is)
    (case mkCT => k_is)
    (case kcCT => k_is)
    (case mCT0 => k_is)
    (case iCT0 => k_is)
    (case lCT0 => k_is)
    (case cCT0 => k_is)
    (case kCT0 => k_is)
    (case mCT1 => k_is)
    (case iCT1 => k_is)
    (case lCT1 => k_is)
    (case cCT1 => k_is)
    (case kCT1 => k_is)
    (case mCT2 => k_is)
    (case iCT2 => k_is)
    (case lCT2 => k_is)
    (case cCT2 => k_is)
    (case kCT2 => k_is)
    (case mCT3 => k_is)
    (case iCT3 => k_is)
    (case lCT3 => k_is)
    (case cCT3 => k_is)
    (case kCT3 => k_is)
    (case gCF => k_is)
    (case pgCF => k_is)
    (case hdCF => k_is)
    (case poCF => k_is)
    (case saCF => k_is)
    (case mkCF => k_is)
    (case kcCF => k_is)
    (case mCF0 => k_is)
    (case iCF0 => k_is)
    (case lCF0 => k_is)
    (case cCF0 => k_is)
    (case kCF0 => k_is)
    (case mCF1 => k_is)
    (case iCF1 => k_is)
    (case lCF1 => k_is)
    (case cCF1 => k_is)
    (case kCF1 => k_is)
    (case mCF2 => k_is)
    (case iCF2 => k_is)
    (case lCF2 => k_is)
    (case cCF2 => k_is)
    (case kCF2 => k_is)
    (case mCF3 => k_is)
    (case iCF3 => k_is)
    (case lCF3 => k_is)
    (case cCF3 => k_is)
    (case kCF3 => k_is)
    (case mCF4 => k_is)
    (case iCF4 => k_is)
    (case lCF4 => k_is)
    (case cCF4 => k_is)
    (case kCF4 => k_is)
    (case nCW_table => k_is)
    (case nCW_squares => k_is)
    (case nCW_place => k_is)
    (case nCW_heading => k_is)
    (case nCW_state => k_is)
    (case nCW_done => k_is)
    (case nCR_ground => k_is)
    (case nCR_period => k_is)
    (case nCR_first => k_is)
    (case nCR_left => k_is)
    (case nCR_ways => k_is)
    (case nCR_is_whole => k_is)
    (case nCR_end => k_is)
    (case nCR_move => k_is)
    (case nCR_is_back => k_is)
    (case nCS_table => k_is)
    (case nCS_round => k_is)
    (case nCT_table => k_is)
    (case nCT_ground => k_is)
    (case nCT_began => k_is)
    (case nCT_paper => k_is)
    (case nCT_far => k_is)
    (case nCF_table => k_is)
    (case nCF_ground => k_is)
    (case nCF_began => k_is)
    (case nCF_walk => k_is)
    (case nCF_read => k_is)
    (case nCF_kept => k_is)
    (case nCF_kept_at => k_is)
    (case z_len => k_is)
    (case z_isinstance => k_is)
    (case z_tuple => k_is)
    (case z_int => k_is)
    (case z_bool => k_is)
    (case z_str => k_is)
    (case z_list => k_is)
    (case z_dict => k_is)
    (case z_sorted => k_is)
    (case z_enumerate => k_is)
    (case z_range => k_is)
    (case z_max => k_is)
    (case z_min => k_is)
    (case z_abs => k_is)
    (case qcStT => k_is)
    (case qcCol => k_is)
    (case qcFar => k_is)
    (case qcSq => k_is)
    (case qcSteps => k_is)
    (case qcStM => k_is)
    (case qcTape => k_is)
    (case qcRight => k_is)
    (case qcLeft => k_is)
    (case qcRound => k_is)
    (case qcLooked => k_is)
    (case qcFirst => k_is)
    (case gH => k_is)
    (case lH => k_is)
    (case lh1 => k_is)
    (case lh3 => k_is)
