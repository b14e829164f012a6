import PyProof.Rows.All
import Wide.All
import OpenK.AllK
import Wide.FinOn
import HandS.ForMost
import HandS.Defaults
import HandS.IsInst
import HandS.Deep
import HandS.TupLe
import HandS.TupAny
import HandS.DictTup
import HandS.SetKeys
import HandS.More
import HandS.Style
import HandS.Flow
import HandS.TupSets
import KE.KDictKeyed
import KE.KDictWalk
import KE.KDictDisplayH
import KE.KeyNested
import HandS.Head0
import HandS.Head1
import HandS.Head2
import HandS.HeadEnd
import HandS.HeadHook1
import HandS.HeadHook2
import PySem.Challenge.RW_falsedays_k32_whole_forging
import HandS.Ends
import HandS.WordsExc
set_option Elab.async false
set_option linter.all false
set_option maxRecDepth 100000
set_option maxHeartbeats 0
/-! The rules of our own: setdefault and items() of dicts with tuple keys, a dict whose keys hold a bool, >= of tuples. -/
namespace Fx
open PySem PySem.Spec PyProof.Rows L2

/-! ### d.setdefault(k, x), tuple keys -/
section
variable {X : Cx}
def rSetdT : V → List V → Hp → VK → Prop := fun x xs H Q => ∃ (a : Addr) (kvs : List (List L2.Key × V)) (k : List L2.Key) (b : Addr) (d : V), x = .ref a ∧ xs = [.ref b, d] ∧ H a = some (.dT kvs) ∧ H b = some (.tup (k.map kV)) ∧ kvs.length < sizeLine ∧
  (∀ v, valV kvs k = some v → Q v H) ∧ (valV kvs k = none → Q d (upd H a (.dT (putK kvs k d))))
theorem mt_setdT (hu : X.A.units + 1 < cLine) : MtR X "dict.setdefault" rSetdT := by
  intro pins s σ H x xs v us Q I rx rxs h
  obtain ⟨a, kvs, k, b, d, rfl, rfl, ha, hb, hl, q1, q2⟩ := h
  cases rx
  obtain ⟨u1, u2, rfl, r1, r2⟩ := vals2 rxs
  cases r1
  obtain ⟨z, hd, xs', rel, dd⟩ := dt_of I.hok ha
  have hz : xs'.length ≤ sizeLine := by rw [← Paired.length rel]; exact z
  refine call_setdefault_heap (knd := tupleKind (mixKind X.prog X.w)) (hsz := hz) (tupleKind_room_in1 hu) (key_of I.hok hb) hd dd (fun p hp => ?_) fun hn h' dd' hs => ?_
  · have r := rel.val k
    rw [hp] at r
    obtain ⟨v0, ev, rv⟩ : ∃ v0, valV kvs k = some v0 ∧ RelV v0 p.2 := by
      cases ev : valV kvs k with
      | none =>
        rw [ev] at r
        exact (show False from r).elim
      | some v0 =>
        rw [ev] at r
        exact ⟨v0, rfl, r⟩
    exact ⟨v0, H, I.tok _, rv, q1 v0 ev⟩
  · have r := rel.val k
    rw [hn] at r
    have e : valV kvs k = none := by
      cases ev : valV kvs k with
      | none => rfl
      | some v0 =>
        rw [ev] at r
        exact (show False from r).elim
    obtain ⟨o, es, ep, hq, h2, h3, h4, _, h5⟩ := dd'
    have hl2 : (putK kvs k d).length ≤ sizeLine := by have := length_putK kvs k d; omega
    have I2 : Inv X pins σ (upd H a (.dT (putK kvs k d))) { s with heap := h', toks := s.toks + (tupleKind (mixKind X.prog X.w)).draws k } :=
      d_write I (by rw [ha]; exact True.intro) hs ⟨o, hq⟩ ⟨hl2, hd, _, (rel.put k hb r2).keeps (fun c ys ec => (by rw [upd_ne (ne_of ec ha (fun z => nomatch z))]; exact ec)), o, es, ep, hq, h2, h3, h4, h5⟩
    exact ⟨d, _, I2, r2, q2 e⟩
end

/-! ### for k, v in d.items(), tuple keys, the dict locked -/
section
variable {X : Cx} {pins : List (Addr × Obj)} {σ : L2.St} {H : Hp} {s : Shared} {d : Addr} {o : Obj}
theorem frzT2 {kvs : List (List L2.Key × V)} (I : Inv X pins σ H s) (h : H d = some (.frz o (.dT kvs))) :
    (d == sysModules) = false ∧ s.heap.get? d = some o ∧ o.ExactDict ∧ ∃ (es : Array DictEntry) (ep : Nat), o.data = .dict es ep ∧ es.size = kvs.length ∧
      ∀ (i : Nat) (k : List L2.Key) (v : V), kvs[i]? = some (k, v) → ∃ (en : DictEntry) (q : Addr), es[i]? = some en ∧ en.key = .ref q ∧ H q = some (.tup (k.map kV)) ∧ RelV v en.val := by
  obtain ⟨hd, z, hs, xs, pr, o', es, ep, ho, hx, hdt, he, _⟩ := I.hok d _ h
  rw [hd] at ho
  cases ho
  refine ⟨hs, hd, hx, es, ep, hdt, ?_, fun i k v e => ?_⟩
  · have l1 : es.toList.length = xs.length := by rw [he, List.length_map]
    have l2 : kvs.length = xs.length := Paired.length pr
    rw [Array.length_toList] at l1
    omega
  · obtain ⟨b, hb, e1, e2, e3⟩ := paired_get pr e
    have q := entry_at he i
    rw [hb] at q
    exact ⟨_, b.2.1, q, rfl, e2, e3⟩
end
def Itit (d : Addr) (o : Obj) (kvs : List (List L2.Key × V)) : It :=
  ⟨fun i H => H d = some (.frz o (.dT kvs)) ∧ i < kvs.length, fun i H x H' => ∃ (T : Addr) (k : List L2.Key) (v : V) (q : Addr), kvs[i]? = some (k, v) ∧ x = .ref T ∧ H T = none ∧ H q = some (.tup (k.map kV)) ∧ H' = upd H T (.tup [.ref q, v]), fun i H => H d = some (.frz o (.dT kvs)) ∧ kvs.length ≤ i⟩
section
variable {P : Program} {w : World} {K : PySem.W.Frag} {tg : Expr} {d : Addr} {o : Obj} {es : Array DictEntry} {ep : Nat}
theorem turn_itemsT {kvs : List (List L2.Key × V)} {elts : List Expr} {kk : Nat} {tpos : Pos} (it : Addr) (hod : o.data = .dict es ep) :
    Turn P w K (.Tuple elts kk tpos) (Itit d o kvs) [it] it (fun i h => ∃ ok ov, IsItemIter h it d i kvs.length ep ok ov) where
  mem := by simp
  obj := fun i h st b hb => by
    have e : b = it := by simpa using hb
    subst e
    obtain ⟨ok, ov, e⟩ := st
    exact ⟨_, e, fun v z => nomatch z⟩
  keep := fun i h h' st k => let ⟨ok, ov, e⟩ := st; ⟨ok, ov, k it (by simp) _ e⟩
  item := by
    intro X hP hw hK hc i pins s σ H E I hf st hg
    subst hP hw hK
    obtain ⟨hd, hi⟩ := hg
    obtain ⟨hs, hgd, hx, es', ep', hdt, hsz, ent⟩ := frzT2 I hd
    obtain ⟨rfl, rfl⟩ := dict_ep hod hdt
    obtain ⟨⟨k, v⟩, hkv⟩ : ∃ p, kvs[i]? = some p := ⟨kvs[i], List.getElem?_eq_getElem hi⟩
    obtain ⟨en, q, hen, hkey, hq, rv⟩ := ent i k v hkv
    obtain ⟨ok, ov, he⟩ := st
    rw [← hsz] at he
    have hlt : it < s.heap.objs.size := Heap.lt_size he
    have hi' : i < es'.size := by rw [hsz]; exact hi
    have een : es'[i] = en := by
      have z := Array.getElem?_eq_getElem hi'
      rw [hen] at z
      exact (Option.some.inj z).symm
    refine wpAny_pyNext_items_item_raw he ⟨o, hgd, hx, hdt⟩ hi' fun h' ho hT hz hk => ?_
    rw [een, hkey] at ho hT
    refine ⟨_, rfl, wpAny_letOwnedTupleGo_items (s := { s with heap := h' }) ho fun h'' he' sb => ?_⟩
    have hT2 : h''.get? s.heap.objs.size = some { cls := .type "tuple", data := .seq #[.ref q, en.val] } := (sb.2 _ (Nat.ne_of_gt hlt)).trans hT
    have new : ObjOk X.prog X.w (upd H s.heap.objs.size (.tup [.ref q, v])) h'' s.heap.objs.size (.tup [.ref q, v]) :=
      ⟨by show 2 ≤ sizeLine; decide, [.ref q, en.val], .cons rfl (.cons rv .nil), ⟨_, hT2, rfl, _, rfl⟩⟩
    have I1 : Inv X pins σ (upd H s.heap.objs.size (.tup [.ref q, v])) { s with heap := h'' } :=
      I.turnedNew (t' := s.toks) (ch := [it]) (fun b ob hb e => (sb.2 b (by simpa using hb)).trans (hk b ob (by simpa using hb) e)) hf (Nat.le_refl _) new
    refine ⟨.ref s.heap.objs.size, _, I1, rfl, ⟨_, k, v, q, hkv, rfl, I.hok.fresh (Nat.le_refl _), hq, rfl⟩, ⟨.ref q, en.val, ?_⟩, fun b hb => ?_⟩
    · rw [← hsz]; exact he'
    · have e : b = it := by simpa using hb
      rw [e, upd_ne (Nat.ne_of_lt hlt)]
      exact (hf it (by simp)).1
  done := by
    intro X hP hw hK hc i pins s σ H E I hf st hg
    subst hP hw hK
    obtain ⟨hd, hi⟩ := hg
    obtain ⟨f0, f1, f2, f3, f4, f5⟩ := hf it (by simp)
    obtain ⟨hs, hgd, hx, es', ep', hdt, hsz, ent⟩ := frzT2 I hd
    obtain ⟨rfl, rfl⟩ := dict_ep hod hdt
    obtain ⟨ok, ov, he⟩ := st
    rw [← hsz] at he
    exact wpAny_pyNext_items_end_raw (I.ok.hd hc) he ⟨o, hgd, hx, hdt⟩ (by rw [hsz]; exact hi) fun h' eb => ⟨rfl, I.turned (t' := s.toks) (fun b ob hb e => eb b ob hb e) f0 f1 f3 f4 f5⟩
  self := fun A i s Q E st h => let ⟨_, _, e⟩ := st; PySem.W.kcp_self e h
end
def iItemsT (td : TE) : TI := fun σ H R => td σ H fun x H1 => ∃ d o kvs, x = .ref d ∧ H1 d = some (.frz o (.dT kvs)) ∧ R (Itit d o kvs) H1
section
variable {X : Cx} {tg e : Expr} {td : TE} {apos cpos : Pos}
theorem pi_itemsT {elts : List Expr} {kk : Nat} {tpos : Pos} (he : PE X e td) (hbase : attributeBase e "items" X.env (eval e X.env) = eval e X.env := by rfl) (hline : (apos.endLine == cpos.line) = true := by rfl) :
    PI X (.Tuple elts kk tpos) (.Call (.Attribute e "items" apos) [] [] cpos) (iItemsT td) := by
  refine ⟨fun pins s σ H R I h => ?_⟩
  refine wpAny_Call_method (T := "dict") (id := "dict.items") hbase rfl hline F.plainAttrs_dict F.slot_dict_items F.type_dict_items (thn (he.run pins s σ H _ I h) fun u s1 ⟨x, H1, I1, rx, d, o, kvs, ex, hd, q⟩ => ?_)
  subst ex
  obtain rfl : u = Value.ref d := rx
  obtain ⟨hs, hgd, hx, es, ep, hdt, hsz, ent⟩ := frzT2 I1 hd
  have hm : s1.heap.DictRaw d es ep := ⟨o, hgd, hx, hdt⟩
  refine ⟨hm.typeIs, (fun a z => by cases z; exact ⟨o, hgd, hx.2.1⟩), ?_⟩
  have I2 : Inv X pins σ H1 { s1 with heap := s1.heap.push { cls := .type "dict_items", data := .fields #[.ref d] } } := I1.kept (t' := s1.toks) fun b ob q => Heap.get?_push_of_some _ q
  have fin : wpAny (model X.prog X.w) X.A (pyIter (.ref s1.heap.objs.size)) (PIE X pins σ (.Tuple elts kk tpos) R) X.xe { s1 with heap := s1.heap.push { cls := .type "dict_items", data := .fields #[.ref d] } } := by
    refine wpAny_pyIter_items_raw (d := d) ⟨_, Heap.get?_push_size _ rfl, rfl, rfl⟩ (hm.at fun o' e' => Heap.get?_push_of_some _ e') (pi_one (tk := s1.toks) I2 _ (turn_itemsT _ hdt) ⟨.none, .none, ?_⟩ q)
    rw [← hsz]
    exact Heap.get?_push_size _ rfl
  show wpAny _ _ (callWith cpos (.builtin "dict.items") [.ref d] [] []) _ X.xe s1
  exact method_meetsIn F.slot_dict_items F.entry_dict_items rfl (PySem.evalArgs_none ⟨rfl, hm.typeIs, F.args_dict_items_1 _, _, meets_dict_items_raw d hs, ⟨⟨es, ep, hm⟩, fin⟩⟩)
end

/-! ### >= of tuples of ints -/
def rGeT (K : PySem.W.Frag) : R2 := fun x y H Q => ∃ (a b : Addr) (ns ms : List Int), x = .ref a ∧ y = .ref b ∧ SqT K H a (ns.map V.int) ∧ SqT K H b (ms.map V.int) ∧
  Q (.bl (Ob.lexAt (fun j => decide (ns.getD j 0 = ms.getD j 0)) (fun j => decide (ms.getD j 0 ≤ ns.getD j 0)) (decide (ns.length ≥ ms.length)) 0 (min ns.length ms.length))) H
theorem op_geT {X : Cx} (hu : X.A.units < cLine) : OpR X (compareOp .GtE) (rGeT X.K) := by
  intro pins s σ H x y v u Q I rx ry h
  obtain ⟨a, b, ns, ms, rfl, rfl, ha, hb, q⟩ := h
  cases rx
  cases ry
  obtain ⟨its, r1, p1, _⟩ := I.tuple ha
  obtain ⟨its2, r2, p2, _⟩ := I.tuple hb
  have i1 : IntsAre its ns := Vals.ints r1
  have i2 : IntsAre its2 ms := Vals.ints r2
  have e1 : its.toArray.size = ns.length := by rw [List.size_toArray]; exact i1.length
  have e2 : its2.toArray.size = ms.length := by rw [List.size_toArray]; exact i2.length
  have at1 : ∀ j (h1 : j < its.toArray.size), ∃ t, its.toArray[j] = .int (ns.getD j 0) t := fun j h1 => PyProof.Rows.IntsAre.int_at i1 _ _ (by simp at h1; simp [h1])
  have at2 : ∀ j (h1 : j < its2.toArray.size), ∃ t, its2.toArray[j] = .int (ms.getD j 0) t := fun j h1 => PyProof.Rows.IntsAre.int_at i2 _ _ (by simp at h1; simp [h1])
  have R := Ob.RcOp.tuples_ge (A := X.A) (s := s) (e := fun j => decide (ns.getD j 0 = ms.getD j 0)) (r := fun j => decide (ms.getD j 0 ≤ ns.getD j 0)) p1 p2 hu (fun j h1 h2 => by
    obtain ⟨t, et⟩ := at1 j h1
    obtain ⟨t', et'⟩ := at2 j h2
    rw [et, et']
    have z : (ns.getD j 0 == ms.getD j 0) = decide (ns.getD j 0 = ms.getD j 0) := by
      by_cases q : ns.getD j 0 = ms.getD j 0
      · rw [decide_eq_true q]; exact beq_iff_eq.mpr q
      · rw [decide_eq_false q]; exact beq_eq_false_iff_ne.mpr q
    rw [← z]
    exact SeqAt.EqAt.int_int _ _ _ _) (fun j h1 h2 _ => by
    obtain ⟨t, et⟩ := at1 j h1
    obtain ⟨t', et'⟩ := at2 j h2
    rw [et, et']
    exact Ob.RcOp.ge_int _ _ _ _)
  rw [e1, e2] at R
  have z : wpAny (model X.prog X.w) X.A (compareOp .GtE (.ref a) (.ref b)) (EP X pins σ Q) X.xe s := R X.prog X.w X.xe (EP X pins σ Q) ⟨.bl _, H, I, rfl, q⟩
  exact z

/-! ### a dict whose keys are tuples of a bool and two ints -/
abbrev Stt := Bool × Int × Int
def nk (s : Stt) : NestedKey := .tup [.num (if s.1 = true then 1 else 0), .num s.2.1, .num s.2.2]
theorem nk_inj {s t : Stt} (e : nk s = nk t) : s = t := by
  obtain ⟨a, b, c⟩ := s
  obtain ⟨a', b', c'⟩ := t
  simp only [nk, NestedKey.tup.injEq, List.cons.injEq, NestedKey.num.injEq] at e
  obtain ⟨e1, e2, e3, _⟩ := e
  subst e2 e3
  cases a <;> cases a' <;> simp_all
def vT (s : Stt) : List V := [.bl s.1, .int s.2.1, .int s.2.2]
def ov : Option Addr → Value
  | none => .none
  | some a => .ref a
def ovV : Option Addr → V
  | none => .non
  | some a => .ref a
theorem ov_rel (a : Option Addr) : RelV (ovV a) (ov a) := by cases a <;> rfl
abbrev Ent := Stt × Addr × Option Addr
def hx (es : List Ent) : List (NestedKey × Addr × Value) := es.map fun e => (nk e.1, e.2.1, ov e.2.2)
def ElO (P : Program) (w : World) (d : Addr) (es : List Ent) : HO := .ext fun h => es.length ≤ sizeLine ∧ (d == sysModules) = false ∧
  ∃ o es' ep, h.get? d = some o ∧ o.ExactDict ∧ o.data = .dict es' ep ∧ es'.toList = (hx es).map (entryOfKey (nestedKind P w)) ∧ ((hx es).map (·.1)).Nodup
structure ElAt (P : Program) (w : World) (H : Hp) (d : Addr) (es : List Ent) : Prop where
  at_ : H d = some (ElO P w d es)
  ks : ∀ e ∈ es, H e.2.1 = some (.tup (vT e.1))
def lookE (es : List Ent) (s : Stt) : Option (Addr × Option Addr) := (es.find? fun e => decide (e.1 = s)).map (·.2)
theorem nk_dec (s t : Stt) : decide (nk s = nk t) = decide (s = t) := by
  by_cases e : s = t
  · rw [e, decide_eq_true rfl, decide_eq_true rfl]
  · rw [decide_eq_false e, decide_eq_false fun z => e (nk_inj z)]
theorem atKey_hx (es : List Ent) (s : Stt) : atKey (hx es) (nk s) = (lookE es s).map fun e => (e.1, ov e.2) := by
  induction es with
  | nil => rfl
  | cons x r ih =>
    by_cases e : x.1 = s
    · simp [hx, atKey, lookE, e]
    · have e2 : ¬ nk x.1 = nk s := fun z => e (nk_inj z)
      have h1 : atKey (hx (x :: r)) (nk s) = atKey (hx r) (nk s) := by simp [hx, atKey, e2]
      have h2 : lookE (x :: r) s = lookE r s := by simp [lookE, e]
      rw [h1, h2]
      exact ih
theorem stored_hx {es : List Ent} {s : Stt} {b : Addr} {v : Option Addr} (h : lookE es s = none) : storedH (hx es) (nk s) b (ov v) = hx (es ++ [(s, b, v)]) := by
  unfold storedH
  rw [if_neg (by rw [atKey_hx, h]; simp)]
  simp [hx]
section
variable {X : Cx} {pins : List (Addr × Obj)} {σ : L2.St} {H : Hp} {s : Shared} {d b : Addr} {es : List Ent} {t : Stt}
theorem el_key (I : Inv X pins σ H s) (e : H b = some (.tup (vT t))) : (nestedKind X.prog X.w).is s.heap (nk t) b := by
  obtain ⟨_, its, r, o, h1, h2, n, h3⟩ := (show ObjOk X.prog X.w H s.heap b (.tup (vT t)) from I.hok b _ e)
  refine ⟨.tup h1 h2 h3 ?_, by simp [nk, NestedKey.depth, NestedKey.depthAll]⟩
  obtain ⟨sw, i, j⟩ := t
  have r' : Vals [.bl sw, .int i, .int j] its := r
  cases r' with
  | cons r1 r' => cases r' with
    | cons r2 r' => cases r' with
      | cons r3 r' =>
        cases r'
        cases (show _ = Value.bool sw from r1)
        obtain ⟨t2, rfl⟩ := (show ∃ t, _ = Value.int i t from r2)
        obtain ⟨t3, rfl⟩ := (show ∃ t, _ = Value.int j t from r3)
        exact .cons (.bool rfl) (.cons (.int _ _) (.cons (.int _ _) .nil))
theorem el_dict (I : Inv X pins σ H s) (e : ElAt X.prog X.w H d es) : es.length ≤ sizeLine ∧ (d == sysModules) = false ∧ s.heap.DictOfH (nestedKind X.prog X.w) d (hx es) := by
  obtain ⟨⟨z, hd, o, es', ep, h1, h2, h3, h4, h5⟩, _, _⟩ := (show ObjOk X.prog X.w H s.heap d (ElO X.prog X.w d es) from I.hok d _ e.at_)
  refine ⟨z, hd, o, es', ep, h1, h2, h3, h4, fun x hx' => ?_, h5⟩
  obtain ⟨y, hy, rfl⟩ := List.mem_map.mp hx'
  exact el_key I (e.ks y hy)
theorem el_ok {P : Program} {w : World} {H' : Hp} {h : Heap} (z : es.length ≤ sizeLine) (hd : (d == sysModules) = false) (dd : h.DictOfH (nestedKind P w) d (hx es)) : ObjOk P w H' h d (ElO P w d es) := by
  obtain ⟨o, es', ep, h1, h2, h3, h4, _, h5⟩ := dd
  exact ⟨⟨z, hd, o, es', ep, h1, h2, h3, h4, h5⟩, ⟨o, h1⟩, fun ha hb q k => let ⟨q1, q2, q3, q4, q5, q6, q7⟩ := q; ⟨q1, q2, q3, q4, q5, k _ q6, q7⟩⟩
end
section
variable {X : Cx}
theorem nroom {A : Around} (hu : A.units + 9 < cLine) {P : Program} {w : World} : (nestedKind P w).room A.in1 := by
  show A.units + 1 + 8 < cLine
  omega
/-- t not in d -/
def rNotInE (P : Program) (w : World) : R2 := fun x y H Q => ∃ (d : Addr) (es : List Ent) (t : Stt) (b : Addr), x = .ref b ∧ y = .ref d ∧ ElAt P w H d es ∧ H b = some (.tup (vT t)) ∧ Q (.bl (!(lookE es t).isSome)) H
theorem op_notInE (hu : X.A.units + 9 < cLine) : OpR X (compareOp .NotIn) (rNotInE X.prog X.w) := by
  intro pins s σ H x y v u Q I rx ry h
  obtain ⟨d, es, t, b, rfl, rfl, e, eb, q⟩ := h
  cases rx
  cases ry
  obtain ⟨z, hd, dd⟩ := el_dict I e
  have hk := valueAt_pairsH (hx es) (nk t)
  refine notIn_keyed (knd := nestedKind X.prog X.w) (kvs := pairsH (hx es)) (nroom hu) (el_key I eb) hd ⟨_, dd, rfl⟩ ?_
  rw [hk, atKey_hx, Option.isSome_map, Option.isSome_map]
  exact ⟨.bl _, H, I.tok _, rfl, q⟩
/-- d[t] = v, a new key -/
def rSetE (P : Program) (w : World) : TSet := fun o i v H Q => ∃ (d : Addr) (es : List Ent) (t : Stt) (b a : Addr), o = .ref d ∧ i = .ref b ∧ v = .ref a ∧ ElAt P w H d es ∧ H b = some (.tup (vT t)) ∧ lookE es t = none ∧ es.length < sizeLine ∧
  Q (upd H d (ElO P w d (es ++ [(t, b, some a)])))
theorem set_el (hu : X.A.units + 9 < cLine) : PSet X (rSetE X.prog X.w) := by
  intro pins s σ H o i v ov' iv u Q I ro ri rv h
  obtain ⟨d, es, t, b, a, rfl, rfl, rfl, e, eb, hn, hl, q⟩ := h
  cases ro
  cases ri
  cases rv
  obtain ⟨z, hd, dd⟩ := el_dict I e
  refine wpAny_setItem_heap (knd := nestedKind X.prog X.w) (hsz := by simpa [hx] using z) (nroom hu) (el_key I eb) dd fun h' dd' hs => ⟨_, ?_, q⟩
  have dd2 : h'.DictOfH (nestedKind X.prog X.w) d (hx (es ++ [(t, b, some a)])) := by
    rw [← stored_hx (v := some a) hn]
    exact dd'
  obtain ⟨oq, _, _, hq, _⟩ := id dd'
  exact d_write I (by rw [e.at_]; exact True.intro) hs ⟨oq, hq⟩ (el_ok (by rw [List.length_append, List.length_singleton]; omega) hd dd2)
variable {o i e k v : Expr} {td ty tk tv : TE} {pos : Pos}
/-- d[t], there -/
def tElGet (P : Program) (w : World) (td ty : TE) : TE := fun σ H Q => td σ H fun x H1 => ty σ H1 fun y H2 => ∃ (d : Addr) (es : List Ent) (t : Stt) (b : Addr) (r : Addr × Option Addr), x = .ref d ∧ y = .ref b ∧ ElAt P w H2 d es ∧ H2 b = some (.tup (vT t)) ∧ lookE es t = some r ∧ Q (ovV r.2) H2
theorem pe_elget (hu : X.A.units + 9 < cLine) (ho : PE X o td) (hi : PE X i ty) (hs : NoSl i) : PE X (.Subscript o i pos) (tElGet X.prog X.w td ty) := by
  refine ⟨fun pins s σ H Q I h => ?_⟩
  refine subD_of PySem.F.slot_dict_getitem.lookup hs (thn (ho.run pins s σ H _ I h) fun u s1 ⟨x, H1, I1, rx, q1⟩ => thn (hi.run pins s1 σ H1 _ I1 q1) fun iv s2 ⟨y, H2, I2, ry, d, es, t, b, r, ex, ey, g, eb, hr, q2⟩ => ?_)
  subst ex ey
  obtain rfl : u = Value.ref d := rx
  obtain rfl : iv = Value.ref b := ry
  obtain ⟨z, hd, dd⟩ := el_dict I2 g
  refine ⟨dd.typeIs, wpAny_getItem_heap (knd := nestedKind X.prog X.w) (p := (r.1, ov r.2)) (nroom hu) (el_key I2 eb) dd (by rw [atKey_hx, hr]; rfl) ⟨ovV r.2, H2, I2.tok _, ov_rel _, q2⟩⟩
/-- {t: None} -/
def tDispE (P : Program) (w : World) (tk tv : TE) : TE := fun σ H Q => ∀ p, H p = none → tk σ (upd H p (ElO P w p [])) fun x H1 => tv σ H1 fun y H2 => ∃ (t : Stt) (b : Addr), x = .ref b ∧ y = .non ∧ H2 p = some (ElO P w p []) ∧ H2 b = some (.tup (vT t)) ∧
  Q (.ref p) (upd H2 p (ElO P w p [(t, b, none)]))
theorem pe_dispE (hu : X.A.units + 9 < cLine) (hk : PE X k tk) (hv : PE X v tv) : PE X (.Dict [some k] [v] pos) (tDispE X.prog X.w tk tv) := by
  refine ⟨fun pins s σ H Q I q => ?_⟩
  have hn := I.hok.fresh (Nat.le_refl s.heap.objs.size)
  have d0 : (s.heap.push { cls := .type "dict", data := .dict #[] }).DictOfH (nestedKind X.prog X.w) s.heap.objs.size (hx []) :=
    ⟨_, #[], 0, Heap.get?_push_size _ rfl, ⟨rfl, rfl, rfl⟩, rfl, rfl, (fun _ z => nomatch z), List.nodup_nil⟩
  have hs : (s.heap.objs.size == sysModules) = false := beq_eq_false_iff_ne.mpr (Ne.symm (Nat.ne_of_lt I.big))
  have I1 := I.laid (a := s.heap.objs.size) (o := ElO X.prog X.w s.heap.objs.size []) (h' := s.heap.push { cls := .type "dict", data := .dict #[] }) (t' := s.toks) (fun _ _ q => Heap.get?_push_of_some _ q) (Nat.le_refl _) (el_ok (Nat.zero_le _) hs d0)
  rw [arm_eval_Dict, show (evalEachOpt [some k] X.env).zip ((evalEach [v] X.env).map fun v => do let x ← v; standAt pos; pure x) = (pairTrees [some k] [v] X.env pos).map fun p => (some p.1, p.2) from rfl, dictDisplay_pairs (pairTrees [some k] [v] X.env pos) (by simp [pairTrees]) (by simp [pairTrees])]
  refine wpAny_bind (wpAny_standAt (wpAny_bind (wpAny_subDictH (knd := nestedKind X.prog X.w) (Q := fun d s' => wpAny (model X.prog X.w) X.A (pure (Value.ref d)) (EP X pins σ Q) X.xe s') (by show X.A.units + 8 < cLine; omega) (by simp [pairTrees]) ?_)))
  refine pairTrees_cons_walk (thn (hk.run pins _ σ _ _ I1 (q _ hn)) fun u s1 ⟨x, H1, I2, rx, q1⟩ => thn (hv.run pins s1 σ H1 _ I2 q1) fun w2 s2 ⟨y, H2, I3, ry, t, b, ex, ey, hp, eb, q2⟩ => pairTrees_nil_walk ?_)
  subst ex ey
  obtain rfl : u = Value.ref b := rx
  obtain rfl : w2 = Value.none := ry
  obtain ⟨z, hd, dd⟩ := el_dict I3 (es := []) ⟨hp, fun _ z => nomatch z⟩
  refine ⟨[(nk t, b, Value.none)], ⟨rfl, rfl, el_key I3 eb, trivial⟩, dd, fun h' tk' dd' hs' => wpAny_pure ⟨.ref s.heap.objs.size, _, ?_, rfl, q2⟩⟩
  have dd2 : h'.DictOfH (nestedKind X.prog X.w) s.heap.objs.size (hx [(t, b, none)]) := dd'
  obtain ⟨oq, _, _, hq, _⟩ := id dd'
  exact d_write I3 (by rw [hp]; exact True.intro) hs' ⟨oq, hq⟩ (el_ok (by show 1 ≤ sizeLine; decide) hd dd2)
end
end Fx

/-! The text by places, and what the top leaves, by names. -/
namespace Fx
open PySem PySem.Spec PyProof.Rows L2
def top (i : Nat) : Stmt := PySem.Challenge.pw_falsedays_k32_whole_forging.main.body.getD i (.Pass ⟨0, 0, 0, 0⟩)
abbrev s_is_integer : Stmt := top 4
abbrev s_is_within : Stmt := top 5
abbrev s_is_pair : Stmt := top 6
abbrev s_is_triple : Stmt := top 7
abbrev s_are_ascending : Stmt := top 8
abbrev s_are_sizes : Stmt := top 12
abbrev s_is_move : Stmt := top 13
abbrev s_are_moves : Stmt := top 14
abbrev s_are_closings : Stmt := top 15
abbrev s_Office_init : Stmt := inClass (top 16) 0
abbrev s_Office_keep : Stmt := inClass (top 16) 1
abbrev s_is_mark : Stmt := top 17
abbrev s_is_note : Stmt := top 18
abbrev s_is_step : Stmt := top 19
abbrev s_are_steps : Stmt := top 20
abbrev s_is_day : Stmt := top 21
abbrev s_board_of : Stmt := top 22
abbrev s_goals_of : Stmt := top 23
abbrev s_standings_behind : Stmt := top 24
abbrev s_shuts_with : Stmt := top 25
abbrev s_day_true : Stmt := top 26
abbrev s_is_true : Stmt := top 27
abbrev s_Trail_init : Stmt := inClass (top 29) 0
abbrev s_Trail_has_more : Stmt := inClass (top 29) 1
abbrev s_Trail_take : Stmt := inClass (top 29) 2
abbrev s_Trail_meet : Stmt := inClass (top 29) 3
abbrev s_Trail_ways : Stmt := inClass (top 29) 4
abbrev s_last_of_both : Stmt := top 30
abbrev s_twin_steps : Stmt := top 31
abbrev s_is_swap : Stmt := top 32
abbrev s_told_pair : Stmt := top 33
abbrev s_forging : Stmt := top 34
abbrev s_is_place : Stmt := top 35
abbrev s_is_forging : Stmt := top 36
abbrev s__law_hand : Stmt := top 38
abbrev s__law_draw : Stmt := top 39
abbrev s__law_row : Stmt := top 40
abbrev s__law_parts : Stmt := top 41
abbrev s__law_made : Stmt := top 42
abbrev s__law_steps_of : Stmt := top 43
abbrev s__law_behind : Stmt := top 44
abbrev s__law_is_true : Stmt := top 45
abbrev s__law_board : Stmt := top 46
abbrev s__law_shuts : Stmt := top 47
abbrev s__law_of_board : Stmt := top 48
abbrev s__law_boards : Stmt := top 49
abbrev s__law_apart : Stmt := top 50
abbrev s__law_can_forge : Stmt := top 51
abbrev s__law_is_forged : Stmt := top 52
abbrev s__law_on_boards : Stmt := top 53
abbrev s_law : Stmt := top 54
/-- a def of the module, a method -/
structure FnT (K : PySem.W.Frag) (mg : Str → Option Value) (x : Str) (st : Stmt) : Prop where
  ex : ∃ (f : Addr) (fd : FuncData), FunD K x x (defArgs st) (defBody st) (defScope st) [] [] f fd ∧ mg x = some (.ref f)
structure MtT (K : PySem.W.Frag) (C : Addr) (m qual : Str) (st : Stmt) : Prop where
  ex : ∃ (f : Addr) (fd : FuncData), FunD K m qual (defArgs st) (defBody st) (defScope st) [] [] f fd ∧ Meth K C m f
structure InT (K : PySem.W.Frag) (C : Addr) (qual : Str) (st : Stmt) : Prop where
  ex : ∃ (f : Addr) (fd : FuncData), FunD K "__init__" qual (defArgs st) (defBody st) (defScope st) [] [] f fd ∧ Mk K C f
/-- what the defs ask of the top -/
structure Tx (K : PySem.W.Frag) (mg : Str → Option Value) : Prop where
  is_integer : FnT K mg "is_integer" s_is_integer
  is_within : FnT K mg "is_within" s_is_within
  is_pair : FnT K mg "is_pair" s_is_pair
  is_triple : FnT K mg "is_triple" s_is_triple
  are_ascending : FnT K mg "are_ascending" s_are_ascending
  are_sizes : FnT K mg "are_sizes" s_are_sizes
  is_move : FnT K mg "is_move" s_is_move
  are_moves : FnT K mg "are_moves" s_are_moves
  are_closings : FnT K mg "are_closings" s_are_closings
  Office_init : InT K (He.ga K "Office") "Office.__init__" s_Office_init
  Office_keep : MtT K (He.ga K "Office") "keep" "Office.keep" s_Office_keep
  is_mark : FnT K mg "is_mark" s_is_mark
  is_note : FnT K mg "is_note" s_is_note
  is_step : FnT K mg "is_step" s_is_step
  are_steps : FnT K mg "are_steps" s_are_steps
  is_day : FnT K mg "is_day" s_is_day
  board_of : FnT K mg "board_of" s_board_of
  goals_of : FnT K mg "goals_of" s_goals_of
  standings_behind : FnT K mg "standings_behind" s_standings_behind
  shuts_with : FnT K mg "shuts_with" s_shuts_with
  day_true : FnT K mg "day_true" s_day_true
  is_true : FnT K mg "is_true" s_is_true
  Trail_init : InT K (He.ga K "Trail") "Trail.__init__" s_Trail_init
  Trail_has_more : MtT K (He.ga K "Trail") "has_more" "Trail.has_more" s_Trail_has_more
  Trail_take : MtT K (He.ga K "Trail") "take" "Trail.take" s_Trail_take
  Trail_meet : MtT K (He.ga K "Trail") "meet" "Trail.meet" s_Trail_meet
  Trail_ways : MtT K (He.ga K "Trail") "ways" "Trail.ways" s_Trail_ways
  last_of_both : FnT K mg "last_of_both" s_last_of_both
  twin_steps : FnT K mg "twin_steps" s_twin_steps
  is_swap : FnT K mg "is_swap" s_is_swap
  told_pair : FnT K mg "told_pair" s_told_pair
  forging : FnT K mg "forging" s_forging
  is_place : FnT K mg "is_place" s_is_place
  is_forging : FnT K mg "is_forging" s_is_forging
  _law_hand : FnT K mg "_law_hand" s__law_hand
  _law_draw : FnT K mg "_law_draw" s__law_draw
  _law_row : FnT K mg "_law_row" s__law_row
  _law_parts : FnT K mg "_law_parts" s__law_parts
  _law_made : FnT K mg "_law_made" s__law_made
  _law_steps_of : FnT K mg "_law_steps_of" s__law_steps_of
  _law_behind : FnT K mg "_law_behind" s__law_behind
  _law_is_true : FnT K mg "_law_is_true" s__law_is_true
  _law_board : FnT K mg "_law_board" s__law_board
  _law_shuts : FnT K mg "_law_shuts" s__law_shuts
  _law_of_board : FnT K mg "_law_of_board" s__law_of_board
  _law_boards : FnT K mg "_law_boards" s__law_boards
  _law_apart : FnT K mg "_law_apart" s__law_apart
  _law_can_forge : FnT K mg "_law_can_forge" s__law_can_forge
  _law_is_forged : FnT K mg "_law_is_forged" s__law_is_forged
  _law_on_boards : FnT K mg "_law_on_boards" s__law_on_boards
  law : FnT K mg "law" s_law
  cl_Office : Cls K (He.ga K "Office")
  mg_Office : mg "Office" = some (.ref (He.ga K "Office"))
  cl_Trail : Cls K (He.ga K "Trail")
  mg_Trail : mg "Trail" = some (.ref (He.ga K "Trail"))
  no_Office_sizes : NoAttr K (He.ga K "Office") "sizes"
  no_Office_moves : NoAttr K (He.ga K "Office") "moves"
  no_Office_closings : NoAttr K (He.ga K "Office") "closings"
  no_Office_kept_goals : NoAttr K (He.ga K "Office") "kept_goals"
  no_Trail_elders : NoAttr K (He.ga K "Trail") "elders"
  no_Trail_waiting : NoAttr K (He.ga K "Trail") "waiting"
  no_Trail_turn : NoAttr K (He.ga K "Trail") "turn"
  f_isinstance : mg "isinstance" = none
  f_len : mg "len" = none
  f_range : mg "range" = none
  f_all : mg "all" = none
  f_any : mg "any" = none
  f_sorted : mg "sorted" = none
  f_tuple : mg "tuple" = none
  f_list : mg "list" = none
  f_abs : mg "abs" = none
  f_min : mg "min" = none
  f_int : mg "int" = none
  f_bool : mg "bool" = none
  i_MOST_SIZE : ∃ t, mg "MOST_SIZE" = some (.int 4 t)
  i_MOST_STANDINGS : ∃ t, mg "MOST_STANDINGS" = some (.int 20 t)
/-- the data of the head -/
def d_is_integer : He.DefD := ⟨("is_integer", none), "is_integer", "is_integer", defArgs s_is_integer, defBody s_is_integer, defScope s_is_integer, [], []⟩
def d_is_within : He.DefD := ⟨("is_within", none), "is_within", "is_within", defArgs s_is_within, defBody s_is_within, defScope s_is_within, [], []⟩
def d_is_pair : He.DefD := ⟨("is_pair", none), "is_pair", "is_pair", defArgs s_is_pair, defBody s_is_pair, defScope s_is_pair, [], []⟩
def d_is_triple : He.DefD := ⟨("is_triple", none), "is_triple", "is_triple", defArgs s_is_triple, defBody s_is_triple, defScope s_is_triple, [], []⟩
def d_are_ascending : He.DefD := ⟨("are_ascending", none), "are_ascending", "are_ascending", defArgs s_are_ascending, defBody s_are_ascending, defScope s_are_ascending, [], []⟩
def d_are_sizes : He.DefD := ⟨("are_sizes", none), "are_sizes", "are_sizes", defArgs s_are_sizes, defBody s_are_sizes, defScope s_are_sizes, [], []⟩
def d_is_move : He.DefD := ⟨("is_move", none), "is_move", "is_move", defArgs s_is_move, defBody s_is_move, defScope s_is_move, [], []⟩
def d_are_moves : He.DefD := ⟨("are_moves", none), "are_moves", "are_moves", defArgs s_are_moves, defBody s_are_moves, defScope s_are_moves, [], []⟩
def d_are_closings : He.DefD := ⟨("are_closings", none), "are_closings", "are_closings", defArgs s_are_closings, defBody s_are_closings, defScope s_are_closings, [], []⟩
def d_Office_init : He.DefD := ⟨("Office", some "__init__"), "__init__", "Office.__init__", defArgs s_Office_init, defBody s_Office_init, defScope s_Office_init, [], []⟩
def d_Office_keep : He.DefD := ⟨("Office", some "keep"), "keep", "Office.keep", defArgs s_Office_keep, defBody s_Office_keep, defScope s_Office_keep, [], []⟩
def d_is_mark : He.DefD := ⟨("is_mark", none), "is_mark", "is_mark", defArgs s_is_mark, defBody s_is_mark, defScope s_is_mark, [], []⟩
def d_is_note : He.DefD := ⟨("is_note", none), "is_note", "is_note", defArgs s_is_note, defBody s_is_note, defScope s_is_note, [], []⟩
def d_is_step : He.DefD := ⟨("is_step", none), "is_step", "is_step", defArgs s_is_step, defBody s_is_step, defScope s_is_step, [], []⟩
def d_are_steps : He.DefD := ⟨("are_steps", none), "are_steps", "are_steps", defArgs s_are_steps, defBody s_are_steps, defScope s_are_steps, [], []⟩
def d_is_day : He.DefD := ⟨("is_day", none), "is_day", "is_day", defArgs s_is_day, defBody s_is_day, defScope s_is_day, [], []⟩
def d_board_of : He.DefD := ⟨("board_of", none), "board_of", "board_of", defArgs s_board_of, defBody s_board_of, defScope s_board_of, [], []⟩
def d_goals_of : He.DefD := ⟨("goals_of", none), "goals_of", "goals_of", defArgs s_goals_of, defBody s_goals_of, defScope s_goals_of, [], []⟩
def d_standings_behind : He.DefD := ⟨("standings_behind", none), "standings_behind", "standings_behind", defArgs s_standings_behind, defBody s_standings_behind, defScope s_standings_behind, [], []⟩
def d_shuts_with : He.DefD := ⟨("shuts_with", none), "shuts_with", "shuts_with", defArgs s_shuts_with, defBody s_shuts_with, defScope s_shuts_with, [], []⟩
def d_day_true : He.DefD := ⟨("day_true", none), "day_true", "day_true", defArgs s_day_true, defBody s_day_true, defScope s_day_true, [], []⟩
def d_is_true : He.DefD := ⟨("is_true", none), "is_true", "is_true", defArgs s_is_true, defBody s_is_true, defScope s_is_true, [], []⟩
def d_Trail_init : He.DefD := ⟨("Trail", some "__init__"), "__init__", "Trail.__init__", defArgs s_Trail_init, defBody s_Trail_init, defScope s_Trail_init, [], []⟩
def d_Trail_has_more : He.DefD := ⟨("Trail", some "has_more"), "has_more", "Trail.has_more", defArgs s_Trail_has_more, defBody s_Trail_has_more, defScope s_Trail_has_more, [], []⟩
def d_Trail_take : He.DefD := ⟨("Trail", some "take"), "take", "Trail.take", defArgs s_Trail_take, defBody s_Trail_take, defScope s_Trail_take, [], []⟩
def d_Trail_meet : He.DefD := ⟨("Trail", some "meet"), "meet", "Trail.meet", defArgs s_Trail_meet, defBody s_Trail_meet, defScope s_Trail_meet, [], []⟩
def d_Trail_ways : He.DefD := ⟨("Trail", some "ways"), "ways", "Trail.ways", defArgs s_Trail_ways, defBody s_Trail_ways, defScope s_Trail_ways, [], []⟩
def d_last_of_both : He.DefD := ⟨("last_of_both", none), "last_of_both", "last_of_both", defArgs s_last_of_both, defBody s_last_of_both, defScope s_last_of_both, [], []⟩
def d_twin_steps : He.DefD := ⟨("twin_steps", none), "twin_steps", "twin_steps", defArgs s_twin_steps, defBody s_twin_steps, defScope s_twin_steps, [], []⟩
def d_is_swap : He.DefD := ⟨("is_swap", none), "is_swap", "is_swap", defArgs s_is_swap, defBody s_is_swap, defScope s_is_swap, [], []⟩
def d_told_pair : He.DefD := ⟨("told_pair", none), "told_pair", "told_pair", defArgs s_told_pair, defBody s_told_pair, defScope s_told_pair, [], []⟩
def d_forging : He.DefD := ⟨("forging", none), "forging", "forging", defArgs s_forging, defBody s_forging, defScope s_forging, [], []⟩
def d_is_place : He.DefD := ⟨("is_place", none), "is_place", "is_place", defArgs s_is_place, defBody s_is_place, defScope s_is_place, [], []⟩
def d_is_forging : He.DefD := ⟨("is_forging", none), "is_forging", "is_forging", defArgs s_is_forging, defBody s_is_forging, defScope s_is_forging, [], []⟩
def d__law_hand : He.DefD := ⟨("_law_hand", none), "_law_hand", "_law_hand", defArgs s__law_hand, defBody s__law_hand, defScope s__law_hand, [], []⟩
def d__law_draw : He.DefD := ⟨("_law_draw", none), "_law_draw", "_law_draw", defArgs s__law_draw, defBody s__law_draw, defScope s__law_draw, [], []⟩
def d__law_row : He.DefD := ⟨("_law_row", none), "_law_row", "_law_row", defArgs s__law_row, defBody s__law_row, defScope s__law_row, [], []⟩
def d__law_parts : He.DefD := ⟨("_law_parts", none), "_law_parts", "_law_parts", defArgs s__law_parts, defBody s__law_parts, defScope s__law_parts, [], []⟩
def d__law_made : He.DefD := ⟨("_law_made", none), "_law_made", "_law_made", defArgs s__law_made, defBody s__law_made, defScope s__law_made, [], []⟩
def d__law_steps_of : He.DefD := ⟨("_law_steps_of", none), "_law_steps_of", "_law_steps_of", defArgs s__law_steps_of, defBody s__law_steps_of, defScope s__law_steps_of, [], []⟩
def d__law_behind : He.DefD := ⟨("_law_behind", none), "_law_behind", "_law_behind", defArgs s__law_behind, defBody s__law_behind, defScope s__law_behind, [], []⟩
def d__law_is_true : He.DefD := ⟨("_law_is_true", none), "_law_is_true", "_law_is_true", defArgs s__law_is_true, defBody s__law_is_true, defScope s__law_is_true, [], []⟩
def d__law_board : He.DefD := ⟨("_law_board", none), "_law_board", "_law_board", defArgs s__law_board, defBody s__law_board, defScope s__law_board, [], []⟩
def d__law_shuts : He.DefD := ⟨("_law_shuts", none), "_law_shuts", "_law_shuts", defArgs s__law_shuts, defBody s__law_shuts, defScope s__law_shuts, [], []⟩
def d__law_of_board : He.DefD := ⟨("_law_of_board", none), "_law_of_board", "_law_of_board", defArgs s__law_of_board, defBody s__law_of_board, defScope s__law_of_board, [], []⟩
def d__law_boards : He.DefD := ⟨("_law_boards", none), "_law_boards", "_law_boards", defArgs s__law_boards, defBody s__law_boards, defScope s__law_boards, [], []⟩
def d__law_apart : He.DefD := ⟨("_law_apart", none), "_law_apart", "_law_apart", defArgs s__law_apart, defBody s__law_apart, defScope s__law_apart, [], []⟩
def d__law_can_forge : He.DefD := ⟨("_law_can_forge", none), "_law_can_forge", "_law_can_forge", defArgs s__law_can_forge, defBody s__law_can_forge, defScope s__law_can_forge, [], []⟩
def d__law_is_forged : He.DefD := ⟨("_law_is_forged", none), "_law_is_forged", "_law_is_forged", defArgs s__law_is_forged, defBody s__law_is_forged, defScope s__law_is_forged, [], []⟩
def d__law_on_boards : He.DefD := ⟨("_law_on_boards", none), "_law_on_boards", "_law_on_boards", defArgs s__law_on_boards, defBody s__law_on_boards, defScope s__law_on_boards, [], []⟩
def d_law : He.DefD := ⟨("law", none), "law", "law", defArgs s_law, defBody s_law, defScope s_law, [], []⟩
def fn : List He.DefD := [d_is_integer, d_is_within, d_is_pair, d_is_triple, d_are_ascending, d_are_sizes, d_is_move, d_are_moves, d_are_closings, d_Office_init, d_Office_keep, d_is_mark, d_is_note, d_is_step, d_are_steps, d_is_day, d_board_of, d_goals_of, d_standings_behind, d_shuts_with, d_day_true, d_is_true, d_Trail_init, d_Trail_has_more, d_Trail_take, d_Trail_meet, d_Trail_ways, d_last_of_both, d_twin_steps, d_is_swap, d_told_pair, d_forging, d_is_place, d_is_forging, d__law_hand, d__law_draw, d__law_row, d__law_parts, d__law_made, d__law_steps_of, d__law_behind, d__law_is_true, d__law_board, d__law_shuts, d__law_of_board, d__law_boards, d__law_apart, d__law_can_forge, d__law_is_forged, d__law_on_boards, d_law]
def fa : List He.Fa := [.glo "is_integer", .glo "is_within", .glo "is_pair", .glo "is_triple", .glo "are_ascending", .glo "are_sizes", .glo "is_move", .glo "are_moves", .glo "are_closings", .glo "is_mark", .glo "is_note", .glo "is_step", .glo "are_steps", .glo "is_day", .glo "board_of", .glo "goals_of", .glo "standings_behind", .glo "shuts_with", .glo "day_true", .glo "is_true", .glo "last_of_both", .glo "twin_steps", .glo "is_swap", .glo "told_pair", .glo "forging", .glo "is_place", .glo "is_forging", .glo "_law_hand", .glo "_law_draw", .glo "_law_row", .glo "_law_parts", .glo "_law_made", .glo "_law_steps_of", .glo "_law_behind", .glo "_law_is_true", .glo "_law_board", .glo "_law_shuts", .glo "_law_of_board", .glo "_law_boards", .glo "_law_apart", .glo "_law_can_forge", .glo "_law_is_forged", .glo "_law_on_boards", .glo "law", .glo "Office", .cls "Office", .mkr "Office", .glo "Trail", .cls "Trail", .mkr "Trail", .noat "Office" "sizes", .noat "Office" "moves", .noat "Office" "closings", .noat "Office" "kept_goals", .noat "Trail" "elders", .noat "Trail" "waiting", .noat "Trail" "turn", .meth "Office" "keep", .meth "Trail" "has_more", .meth "Trail" "take", .meth "Trail" "meet", .meth "Trail" "ways", .free "isinstance", .free "len", .free "range", .free "all", .free "any", .free "sorted", .free "tuple", .free "list", .free "abs", .free "min", .free "int", .free "bool", .int "MOST_SIZE" 4, .int "MOST_STANDINGS" 20]
theorem tx_mk {K : PySem.W.Frag} {h : Heap} {mg : Str → Option Value} (X : K.In h) (G : h.Ns mainGlobals mg) (c : He.SaysD fa fn K) : Tx K mg where
  is_integer := ⟨_, (c.def_ 0 (d := d_is_integer) rfl).choose, (c.def_ 0 (d := d_is_integer) rfl).choose_spec, He.glo_ok X G (c.fact 0 (f := .glo "is_integer") rfl)⟩
  is_within := ⟨_, (c.def_ 1 (d := d_is_within) rfl).choose, (c.def_ 1 (d := d_is_within) rfl).choose_spec, He.glo_ok X G (c.fact 1 (f := .glo "is_within") rfl)⟩
  is_pair := ⟨_, (c.def_ 2 (d := d_is_pair) rfl).choose, (c.def_ 2 (d := d_is_pair) rfl).choose_spec, He.glo_ok X G (c.fact 2 (f := .glo "is_pair") rfl)⟩
  is_triple := ⟨_, (c.def_ 3 (d := d_is_triple) rfl).choose, (c.def_ 3 (d := d_is_triple) rfl).choose_spec, He.glo_ok X G (c.fact 3 (f := .glo "is_triple") rfl)⟩
  are_ascending := ⟨_, (c.def_ 4 (d := d_are_ascending) rfl).choose, (c.def_ 4 (d := d_are_ascending) rfl).choose_spec, He.glo_ok X G (c.fact 4 (f := .glo "are_ascending") rfl)⟩
  are_sizes := ⟨_, (c.def_ 5 (d := d_are_sizes) rfl).choose, (c.def_ 5 (d := d_are_sizes) rfl).choose_spec, He.glo_ok X G (c.fact 5 (f := .glo "are_sizes") rfl)⟩
  is_move := ⟨_, (c.def_ 6 (d := d_is_move) rfl).choose, (c.def_ 6 (d := d_is_move) rfl).choose_spec, He.glo_ok X G (c.fact 6 (f := .glo "is_move") rfl)⟩
  are_moves := ⟨_, (c.def_ 7 (d := d_are_moves) rfl).choose, (c.def_ 7 (d := d_are_moves) rfl).choose_spec, He.glo_ok X G (c.fact 7 (f := .glo "are_moves") rfl)⟩
  are_closings := ⟨_, (c.def_ 8 (d := d_are_closings) rfl).choose, (c.def_ 8 (d := d_are_closings) rfl).choose_spec, He.glo_ok X G (c.fact 8 (f := .glo "are_closings") rfl)⟩
  Office_init := ⟨_, (c.def_ 9 (d := d_Office_init) rfl).choose, (c.def_ 9 (d := d_Office_init) rfl).choose_spec, He.mkr_ok (c.fact 46 (f := .mkr "Office") rfl)⟩
  Office_keep := ⟨_, (c.def_ 10 (d := d_Office_keep) rfl).choose, (c.def_ 10 (d := d_Office_keep) rfl).choose_spec, He.meth_ok (c.fact 57 (f := .meth "Office" "keep") rfl)⟩
  is_mark := ⟨_, (c.def_ 11 (d := d_is_mark) rfl).choose, (c.def_ 11 (d := d_is_mark) rfl).choose_spec, He.glo_ok X G (c.fact 9 (f := .glo "is_mark") rfl)⟩
  is_note := ⟨_, (c.def_ 12 (d := d_is_note) rfl).choose, (c.def_ 12 (d := d_is_note) rfl).choose_spec, He.glo_ok X G (c.fact 10 (f := .glo "is_note") rfl)⟩
  is_step := ⟨_, (c.def_ 13 (d := d_is_step) rfl).choose, (c.def_ 13 (d := d_is_step) rfl).choose_spec, He.glo_ok X G (c.fact 11 (f := .glo "is_step") rfl)⟩
  are_steps := ⟨_, (c.def_ 14 (d := d_are_steps) rfl).choose, (c.def_ 14 (d := d_are_steps) rfl).choose_spec, He.glo_ok X G (c.fact 12 (f := .glo "are_steps") rfl)⟩
  is_day := ⟨_, (c.def_ 15 (d := d_is_day) rfl).choose, (c.def_ 15 (d := d_is_day) rfl).choose_spec, He.glo_ok X G (c.fact 13 (f := .glo "is_day") rfl)⟩
  board_of := ⟨_, (c.def_ 16 (d := d_board_of) rfl).choose, (c.def_ 16 (d := d_board_of) rfl).choose_spec, He.glo_ok X G (c.fact 14 (f := .glo "board_of") rfl)⟩
  goals_of := ⟨_, (c.def_ 17 (d := d_goals_of) rfl).choose, (c.def_ 17 (d := d_goals_of) rfl).choose_spec, He.glo_ok X G (c.fact 15 (f := .glo "goals_of") rfl)⟩
  standings_behind := ⟨_, (c.def_ 18 (d := d_standings_behind) rfl).choose, (c.def_ 18 (d := d_standings_behind) rfl).choose_spec, He.glo_ok X G (c.fact 16 (f := .glo "standings_behind") rfl)⟩
  shuts_with := ⟨_, (c.def_ 19 (d := d_shuts_with) rfl).choose, (c.def_ 19 (d := d_shuts_with) rfl).choose_spec, He.glo_ok X G (c.fact 17 (f := .glo "shuts_with") rfl)⟩
  day_true := ⟨_, (c.def_ 20 (d := d_day_true) rfl).choose, (c.def_ 20 (d := d_day_true) rfl).choose_spec, He.glo_ok X G (c.fact 18 (f := .glo "day_true") rfl)⟩
  is_true := ⟨_, (c.def_ 21 (d := d_is_true) rfl).choose, (c.def_ 21 (d := d_is_true) rfl).choose_spec, He.glo_ok X G (c.fact 19 (f := .glo "is_true") rfl)⟩
  Trail_init := ⟨_, (c.def_ 22 (d := d_Trail_init) rfl).choose, (c.def_ 22 (d := d_Trail_init) rfl).choose_spec, He.mkr_ok (c.fact 49 (f := .mkr "Trail") rfl)⟩
  Trail_has_more := ⟨_, (c.def_ 23 (d := d_Trail_has_more) rfl).choose, (c.def_ 23 (d := d_Trail_has_more) rfl).choose_spec, He.meth_ok (c.fact 58 (f := .meth "Trail" "has_more") rfl)⟩
  Trail_take := ⟨_, (c.def_ 24 (d := d_Trail_take) rfl).choose, (c.def_ 24 (d := d_Trail_take) rfl).choose_spec, He.meth_ok (c.fact 59 (f := .meth "Trail" "take") rfl)⟩
  Trail_meet := ⟨_, (c.def_ 25 (d := d_Trail_meet) rfl).choose, (c.def_ 25 (d := d_Trail_meet) rfl).choose_spec, He.meth_ok (c.fact 60 (f := .meth "Trail" "meet") rfl)⟩
  Trail_ways := ⟨_, (c.def_ 26 (d := d_Trail_ways) rfl).choose, (c.def_ 26 (d := d_Trail_ways) rfl).choose_spec, He.meth_ok (c.fact 61 (f := .meth "Trail" "ways") rfl)⟩
  last_of_both := ⟨_, (c.def_ 27 (d := d_last_of_both) rfl).choose, (c.def_ 27 (d := d_last_of_both) rfl).choose_spec, He.glo_ok X G (c.fact 20 (f := .glo "last_of_both") rfl)⟩
  twin_steps := ⟨_, (c.def_ 28 (d := d_twin_steps) rfl).choose, (c.def_ 28 (d := d_twin_steps) rfl).choose_spec, He.glo_ok X G (c.fact 21 (f := .glo "twin_steps") rfl)⟩
  is_swap := ⟨_, (c.def_ 29 (d := d_is_swap) rfl).choose, (c.def_ 29 (d := d_is_swap) rfl).choose_spec, He.glo_ok X G (c.fact 22 (f := .glo "is_swap") rfl)⟩
  told_pair := ⟨_, (c.def_ 30 (d := d_told_pair) rfl).choose, (c.def_ 30 (d := d_told_pair) rfl).choose_spec, He.glo_ok X G (c.fact 23 (f := .glo "told_pair") rfl)⟩
  forging := ⟨_, (c.def_ 31 (d := d_forging) rfl).choose, (c.def_ 31 (d := d_forging) rfl).choose_spec, He.glo_ok X G (c.fact 24 (f := .glo "forging") rfl)⟩
  is_place := ⟨_, (c.def_ 32 (d := d_is_place) rfl).choose, (c.def_ 32 (d := d_is_place) rfl).choose_spec, He.glo_ok X G (c.fact 25 (f := .glo "is_place") rfl)⟩
  is_forging := ⟨_, (c.def_ 33 (d := d_is_forging) rfl).choose, (c.def_ 33 (d := d_is_forging) rfl).choose_spec, He.glo_ok X G (c.fact 26 (f := .glo "is_forging") rfl)⟩
  _law_hand := ⟨_, (c.def_ 34 (d := d__law_hand) rfl).choose, (c.def_ 34 (d := d__law_hand) rfl).choose_spec, He.glo_ok X G (c.fact 27 (f := .glo "_law_hand") rfl)⟩
  _law_draw := ⟨_, (c.def_ 35 (d := d__law_draw) rfl).choose, (c.def_ 35 (d := d__law_draw) rfl).choose_spec, He.glo_ok X G (c.fact 28 (f := .glo "_law_draw") rfl)⟩
  _law_row := ⟨_, (c.def_ 36 (d := d__law_row) rfl).choose, (c.def_ 36 (d := d__law_row) rfl).choose_spec, He.glo_ok X G (c.fact 29 (f := .glo "_law_row") rfl)⟩
  _law_parts := ⟨_, (c.def_ 37 (d := d__law_parts) rfl).choose, (c.def_ 37 (d := d__law_parts) rfl).choose_spec, He.glo_ok X G (c.fact 30 (f := .glo "_law_parts") rfl)⟩
  _law_made := ⟨_, (c.def_ 38 (d := d__law_made) rfl).choose, (c.def_ 38 (d := d__law_made) rfl).choose_spec, He.glo_ok X G (c.fact 31 (f := .glo "_law_made") rfl)⟩
  _law_steps_of := ⟨_, (c.def_ 39 (d := d__law_steps_of) rfl).choose, (c.def_ 39 (d := d__law_steps_of) rfl).choose_spec, He.glo_ok X G (c.fact 32 (f := .glo "_law_steps_of") rfl)⟩
  _law_behind := ⟨_, (c.def_ 40 (d := d__law_behind) rfl).choose, (c.def_ 40 (d := d__law_behind) rfl).choose_spec, He.glo_ok X G (c.fact 33 (f := .glo "_law_behind") rfl)⟩
  _law_is_true := ⟨_, (c.def_ 41 (d := d__law_is_true) rfl).choose, (c.def_ 41 (d := d__law_is_true) rfl).choose_spec, He.glo_ok X G (c.fact 34 (f := .glo "_law_is_true") rfl)⟩
  _law_board := ⟨_, (c.def_ 42 (d := d__law_board) rfl).choose, (c.def_ 42 (d := d__law_board) rfl).choose_spec, He.glo_ok X G (c.fact 35 (f := .glo "_law_board") rfl)⟩
  _law_shuts := ⟨_, (c.def_ 43 (d := d__law_shuts) rfl).choose, (c.def_ 43 (d := d__law_shuts) rfl).choose_spec, He.glo_ok X G (c.fact 36 (f := .glo "_law_shuts") rfl)⟩
  _law_of_board := ⟨_, (c.def_ 44 (d := d__law_of_board) rfl).choose, (c.def_ 44 (d := d__law_of_board) rfl).choose_spec, He.glo_ok X G (c.fact 37 (f := .glo "_law_of_board") rfl)⟩
  _law_boards := ⟨_, (c.def_ 45 (d := d__law_boards) rfl).choose, (c.def_ 45 (d := d__law_boards) rfl).choose_spec, He.glo_ok X G (c.fact 38 (f := .glo "_law_boards") rfl)⟩
  _law_apart := ⟨_, (c.def_ 46 (d := d__law_apart) rfl).choose, (c.def_ 46 (d := d__law_apart) rfl).choose_spec, He.glo_ok X G (c.fact 39 (f := .glo "_law_apart") rfl)⟩
  _law_can_forge := ⟨_, (c.def_ 47 (d := d__law_can_forge) rfl).choose, (c.def_ 47 (d := d__law_can_forge) rfl).choose_spec, He.glo_ok X G (c.fact 40 (f := .glo "_law_can_forge") rfl)⟩
  _law_is_forged := ⟨_, (c.def_ 48 (d := d__law_is_forged) rfl).choose, (c.def_ 48 (d := d__law_is_forged) rfl).choose_spec, He.glo_ok X G (c.fact 41 (f := .glo "_law_is_forged") rfl)⟩
  _law_on_boards := ⟨_, (c.def_ 49 (d := d__law_on_boards) rfl).choose, (c.def_ 49 (d := d__law_on_boards) rfl).choose_spec, He.glo_ok X G (c.fact 42 (f := .glo "_law_on_boards") rfl)⟩
  law := ⟨_, (c.def_ 50 (d := d_law) rfl).choose, (c.def_ 50 (d := d_law) rfl).choose_spec, He.glo_ok X G (c.fact 43 (f := .glo "law") rfl)⟩
  cl_Office := He.cls_ok (c.fact 45 (f := .cls "Office") rfl)
  mg_Office := He.glo_ok X G (c.fact 44 (f := .glo "Office") rfl)
  cl_Trail := He.cls_ok (c.fact 48 (f := .cls "Trail") rfl)
  mg_Trail := He.glo_ok X G (c.fact 47 (f := .glo "Trail") rfl)
  no_Office_sizes := He.noat_ok (c.fact 50 (f := .noat "Office" "sizes") rfl)
  no_Office_moves := He.noat_ok (c.fact 51 (f := .noat "Office" "moves") rfl)
  no_Office_closings := He.noat_ok (c.fact 52 (f := .noat "Office" "closings") rfl)
  no_Office_kept_goals := He.noat_ok (c.fact 53 (f := .noat "Office" "kept_goals") rfl)
  no_Trail_elders := He.noat_ok (c.fact 54 (f := .noat "Trail" "elders") rfl)
  no_Trail_waiting := He.noat_ok (c.fact 55 (f := .noat "Trail" "waiting") rfl)
  no_Trail_turn := He.noat_ok (c.fact 56 (f := .noat "Trail" "turn") rfl)
  f_isinstance := He.free_ok X G (c.fact 62 (f := .free "isinstance") rfl)
  f_len := He.free_ok X G (c.fact 63 (f := .free "len") rfl)
  f_range := He.free_ok X G (c.fact 64 (f := .free "range") rfl)
  f_all := He.free_ok X G (c.fact 65 (f := .free "all") rfl)
  f_any := He.free_ok X G (c.fact 66 (f := .free "any") rfl)
  f_sorted := He.free_ok X G (c.fact 67 (f := .free "sorted") rfl)
  f_tuple := He.free_ok X G (c.fact 68 (f := .free "tuple") rfl)
  f_list := He.free_ok X G (c.fact 69 (f := .free "list") rfl)
  f_abs := He.free_ok X G (c.fact 70 (f := .free "abs") rfl)
  f_min := He.free_ok X G (c.fact 71 (f := .free "min") rfl)
  f_int := He.free_ok X G (c.fact 72 (f := .free "int") rfl)
  f_bool := He.free_ok X G (c.fact 73 (f := .free "bool") rfl)
  i_MOST_SIZE := He.int_ok X G (c.fact 74 (f := .int "MOST_SIZE" 4) rfl)
  i_MOST_STANDINGS := He.int_ok X G (c.fact 75 (f := .int "MOST_STANDINGS" 20) rfl)
/-! ### a def, a method, a class that may be called -/
section
variable {P : Program} {w : World} {K : PySem.W.Frag} {mg : Str → Option Value} {base : Heap}
structure Cal (P : Program) (w : World) (K : PySem.W.Frag) (mg : Str → Option Value) (base : Heap) (k : Nat) (x : Str) (sp : Sp) : Prop where
  ex : ∃ (f : Addr) (fd : FuncData) (ps : List Str), FnOk P w K mg base CX0 k f fd ps sp ∧ mg x = some (.ref f) ∧ PySem.W.keepIn K (.ref f) = true ∧ Binds K fd ps []
structure Met (P : Program) (w : World) (K : PySem.W.Frag) (mg : Str → Option Value) (base : Heap) (k : Nat) (C : Addr) (m : Str) (sp : Sp) : Prop where
  ex : ∃ (f : Addr) (fd : FuncData) (ps : List Str), Cls K C ∧ Meth K C m f ∧ FnOk P w K mg base CX0 k f fd ps sp ∧ Binds K fd ps []
structure Mak (P : Program) (w : World) (K : PySem.W.Frag) (mg : Str → Option Value) (base : Heap) (k : Nat) (x : Str) (C : Addr) (sp : Sp) : Prop where
  ex : ∃ (f : Addr) (fd : FuncData) (ps : List Str), Mk K C f ∧ FnOk P w K mg base CX0 k f fd ps sp ∧ mg x = some (.ref C) ∧ Binds K fd ps []
theorem fn_mk {x qual : Str} {st : Stmt} {f : Addr} {fd : FuncData} {N ps : List Str} {k : Nat} {sp : Sp} (F : FunD K x qual (defArgs st) (defBody st) (defScope st) [] [] f fd) (S : FnScope N ps (defScope st)) (len : ∀ vs H Q E, sp vs H Q E → vs.length = ps.length)
    (hbody : ∀ (cdv : Value) (A : Around) (outer : List Env) (s : Shared) (H : Hp) (vs : List V) (Q : VK) (E : XK), Room k (A.deeper (envOfC qual (defScope st) s.heap.objs.size f cdv)) → sp vs H Q E →
      ∃ t, PSs (cxOf CX0 P w K mg base N qual (defScope st) f cdv A outer s H E).nox (defBody st) t ∧ t { nx := fun _ H' => Q .non H', rt := Q } (start N vs) H) : FnOk P w K mg base CX0 (k + 1) f fd ps sp :=
  F.ok S len fun cdv A outer s H vs Q E hr h => let ⟨t, a, b⟩ := hbody cdv A outer s H vs Q E hr h; ⟨t, PSs.nox a, b⟩
theorem cal_mk {x : Str} {st : Stmt} {N ps : List Str} {k : Nat} {sp : Sp} (F : FnT K mg x st)
    (b : ∀ (kV doc pm : Value) (an : Option Addr) (cdv ct : Value) (us : List Value), us.length = ps.length → bindArgs (PySem.W.fnOf x x (defArgs st) (defBody st) (defScope st) .none kV doc pm an cdv ct) ⟨us, []⟩ = pure (ps.zip us))
    (S : FnScope N ps (defScope st)) (len : ∀ vs H Q E, sp vs H Q E → vs.length = ps.length)
    (hbody : ∀ (f : Addr) (cdv : Value) (A : Around) (outer : List Env) (s : Shared) (H : Hp) (vs : List V) (Q : VK) (E : XK), Room k (A.deeper (envOfC x (defScope st) s.heap.objs.size f cdv)) → sp vs H Q E →
      ∃ t, PSs (cxOf CX0 P w K mg base N x (defScope st) f cdv A outer s H E).nox (defBody st) t ∧ t { nx := fun _ H' => Q .non H', rt := Q } (start N vs) H) : Cal P w K mg base (k + 1) x sp := by
  obtain ⟨f, fd, F, g⟩ := F.ex
  exact ⟨f, fd, ps, fn_mk F S len (hbody f), g, F.kp, F.bindsN b⟩
theorem met_mk {m qual : Str} {st : Stmt} {C : Addr} {N ps : List Str} {k : Nat} {sp : Sp} (c : Cls K C) (F : MtT K C m qual st)
    (b : ∀ (kV doc pm : Value) (an : Option Addr) (cdv ct : Value) (us : List Value), us.length = ps.length → bindArgs (PySem.W.fnOf m qual (defArgs st) (defBody st) (defScope st) .none kV doc pm an cdv ct) ⟨us, []⟩ = pure (ps.zip us))
    (S : FnScope N ps (defScope st)) (len : ∀ vs H Q E, sp vs H Q E → vs.length = ps.length)
    (hbody : ∀ (f : Addr) (cdv : Value) (A : Around) (outer : List Env) (s : Shared) (H : Hp) (vs : List V) (Q : VK) (E : XK), Room k (A.deeper (envOfC qual (defScope st) s.heap.objs.size f cdv)) → sp vs H Q E →
      ∃ t, PSs (cxOf CX0 P w K mg base N qual (defScope st) f cdv A outer s H E).nox (defBody st) t ∧ t { nx := fun _ H' => Q .non H', rt := Q } (start N vs) H) : Met P w K mg base (k + 1) C m sp := by
  obtain ⟨f, fd, F, g⟩ := F.ex
  exact ⟨f, fd, ps, c, g, fn_mk F S len (hbody f), F.bindsN b⟩
theorem mak_mk {x qual : Str} {st : Stmt} {C : Addr} {N ps : List Str} {k : Nat} {sp : Sp} (hm : mg x = some (.ref C)) (F : InT K C qual st)
    (b : ∀ (kV doc pm : Value) (an : Option Addr) (cdv ct : Value) (us : List Value), us.length = ps.length → bindArgs (PySem.W.fnOf "__init__" qual (defArgs st) (defBody st) (defScope st) .none kV doc pm an cdv ct) ⟨us, []⟩ = pure (ps.zip us))
    (S : FnScope N ps (defScope st)) (len : ∀ vs H Q E, sp vs H Q E → vs.length = ps.length)
    (hbody : ∀ (f : Addr) (cdv : Value) (A : Around) (outer : List Env) (s : Shared) (H : Hp) (vs : List V) (Q : VK) (E : XK), Room k (A.deeper (envOfC qual (defScope st) s.heap.objs.size f cdv)) → sp vs H Q E →
      ∃ t, PSs (cxOf CX0 P w K mg base N qual (defScope st) f cdv A outer s H E).nox (defBody st) t ∧ t { nx := fun _ H' => Q .non H', rt := Q } (start N vs) H) : Mak P w K mg base (k + 1) x C sp := by
  obtain ⟨f, fd, F, g⟩ := F.ex
  exact ⟨f, fd, ps, g, fn_mk F S len (hbody f), hm, F.bindsN b⟩
end
section
variable {X : Cx} {k j : Nat} {C : Addr} {x m : Str} {sp : Sp} {p pos apos : Pos} {e o : Expr} {es : List Expr} {ta : TE} {t : TA}
theorem pe_c (c : Cal X.prog X.w X.K X.mg X.base k x sp) (hr : Room j X.A) (hk : k ≤ j) (hg : Gl X x) (ha : PA X (e :: es) t)
    (hdb : (x == ("__debug__" : Str)) = false := by decide) (he : starEach (e :: es) X.env = (false, eval e X.env) :: starEach es X.env := by rfl) (hpl : (backTo pos (starEach es X.env)).any (·.1) = false := by rfl) :
    PE X (.Call (.Name x p) (e :: es) [] pos) (tCall sp [] E0 t) := by
  obtain ⟨f, fd, ps, F, hm, kp, b⟩ := c.ex
  exact pe_call F (hr.mono hk) hg hm kp b .nil pass0 ha hdb he hpl
theorem pe_mk (c : Mak X.prog X.w X.K X.mg X.base k x C sp) (hr : Room j X.A) (hk : k + 1 ≤ j) (hg : Gl X x) (ha : PA X (e :: es) t)
    (hdb : (x == ("__debug__" : Str)) = false := by decide) (he : starEach (e :: es) X.env = (false, eval e X.env) :: starEach es X.env := by rfl) (hpl : (backTo pos (starEach es X.env)).any (·.1) = false := by rfl) :
    PE X (.Call (.Name x p) (e :: es) [] pos) (tMake C sp [] E0 t) := by
  obtain ⟨f, fd, ps, M, F, hm, b⟩ := c.ex
  exact pe_make M F (hr.mono hk) hg hm b .nil pass0 ha hdb he hpl
theorem pe_mt {pl : Sem Bool} (c : Met X.prog X.w X.K X.mg X.base k C m sp) (hr : Room j X.A) (hk : k ≤ j) (he : PE X o ta) (ha : PA X (e :: es) t)
    (hst : starEach (e :: es) X.env = (false, eval e X.env) :: starEach es X.env := by rfl) (hpl : (backTo pos (starEach es X.env)).any (·.1) = false := by rfl)
    (ht : eval (.Call (.Attribute o m apos) (e :: es) [] pos) X.env = (do
      let ov ← eval o X.env
      standAt apos.atName
      let (f, first) ← holding [ov] (getMethod ov m pl)
      callWith pos f first (backTo pos (starEach (e :: es) X.env)) (backToKw pos (keywordEach [] X.env))) := by rfl) :
    PE X (.Call (.Attribute o m apos) (e :: es) [] pos) (tMeth C m sp [] E0 ta t) := by
  obtain ⟨f, fd, ps, hc, hm, F, b⟩ := c.ex
  exact pe_meth (pl := pl) he hc hm F (hr.mono hk) b .nil pass0 ha hst hpl ht
theorem pe_mt0 {pl : Sem Bool} (c : Met X.prog X.w X.K X.mg X.base k C m sp) (hr : Room j X.A) (hk : k ≤ j) (he : PE X o ta)
    (ht : eval (.Call (.Attribute o m apos) [] [] pos) X.env = (do
      let ov ← eval o X.env
      standAt apos.atName
      let (f, first) ← holding [ov] (getMethod ov m pl)
      callWith pos f first (backTo pos (starEach [] X.env)) (backToKw pos (keywordEach [] X.env))) := by rfl) :
    PE X (.Call (.Attribute o m apos) [] [] pos) (tMeth C m sp [] E0 ta tNil) := by
  obtain ⟨f, fd, ps, hc, hm, F, b⟩ := c.ex
  exact pe_meth0 (pl := pl) he hc hm F (hr.mono hk) b .nil pass0 ht
end
end Fx

/-! Data: trees of tuples of ints, bools, None. -/
namespace Fx
open PySem PySem.Spec PyProof.Rows L2
inductive T where
  | i (k : Int) | b (x : Bool) | non | t (xs : List T)
mutual
inductive Tv (H : Hp) : V → T → Prop
  | i (n : Int) : Tv H (.int n) (.i n)
  | b (x : Bool) : Tv H (.bl x) (.b x)
  | non : Tv H .non .non
  | t {a : Addr} {xs : List V} {ts : List T} : H a = some (.tup xs) → TvA H xs ts → Tv H (.ref a) (.t ts)
inductive TvA (H : Hp) : List V → List T → Prop
  | nil : TvA H [] []
  | cons {v : V} {t : T} {vs : List V} {ts : List T} : Tv H v t → TvA H vs ts → TvA H (v :: vs) (t :: ts)
end
/-- tuples stay -/
def KT (H H' : Hp) : Prop := ∀ b xs, H b = some (.tup xs) → H' b = some (.tup xs)
theorem KT.refl (H : Hp) : KT H H := fun _ _ h => h
theorem KT.trans {H H1 H2 : Hp} (a : KT H H1) (b : KT H1 H2) : KT H H2 := fun c o h => b c o (a c o h)
theorem _root_.L2.Same.kt {H H' : Hp} (s : Same H H') : KT H H' := fun b xs h => s b _ h
theorem kt_new {H : Hp} {p : Addr} {o : HO} (h : H p = none) : KT H (upd H p o) := fun b xs e => by rw [upd_ne (ne_of_none e h)]; exact e
theorem kt_upd {H : Hp} {p : Addr} {o u : HO} (h : H p = some u) (hu : ∀ xs, u ≠ .tup xs) : KT H (upd H p o) := fun b xs e => by rw [upd_ne (ne_of e h (fun z => hu xs z.symm))]; exact e
mutual
theorem Tv.kt {H H' : Hp} (k : KT H H') : ∀ {v : V} {t : T}, Tv H v t → Tv H' v t
  | _, _, .i n => .i n
  | _, _, .b x => .b x
  | _, _, .non => .non
  | _, _, .t h a => .t (k _ _ h) (TvA.kt k a)
theorem TvA.kt {H H' : Hp} (k : KT H H') : ∀ {vs : List V} {ts : List T}, TvA H vs ts → TvA H' vs ts
  | _, _, .nil => .nil
  | _, _, .cons h a => .cons (Tv.kt k h) (TvA.kt k a)
end
theorem TvA.length {H : Hp} : ∀ {vs : List V} {ts : List T}, TvA H vs ts → vs.length = ts.length
  | _, _, .nil => rfl
  | _, _, .cons _ a => by rw [List.length_cons, List.length_cons, TvA.length a]
theorem TvA.append {H : Hp} : ∀ {vs ws : List V} {ts us : List T}, TvA H vs ts → TvA H ws us → TvA H (vs ++ ws) (ts ++ us)
  | _, _, _, _, .nil, b => b
  | _, _, _, _, .cons h a, b => .cons h (TvA.append a b)
theorem TvA.snoc {H : Hp} {vs : List V} {ts : List T} {v : V} {t : T} (a : TvA H vs ts) (b : Tv H v t) : TvA H (vs ++ [v]) (ts ++ [t]) := a.append (.cons b .nil)
theorem TvA.reverse {H : Hp} : ∀ {vs : List V} {ts : List T}, TvA H vs ts → TvA H vs.reverse ts.reverse
  | _, _, .nil => .nil
  | _, _, .cons h a => by rw [List.reverse_cons, List.reverse_cons]; exact (TvA.reverse a).snoc h
theorem TvA.get {H : Hp} : ∀ {vs : List V} {ts : List T} {i : Nat} {t : T}, TvA H vs ts → ts[i]? = some t → ∃ v, vs[i]? = some v ∧ Tv H v t
  | _, _, i, t, .nil, e => by simp at e
  | _, _, 0, t, .cons h a, e => by
    simp only [List.getElem?_cons_zero, Option.some.injEq] at e
    subst e
    exact ⟨_, rfl, h⟩
  | _, _, i + 1, t, .cons h a, e => by
    simp only [List.getElem?_cons_succ] at e
    obtain ⟨v, h1, h2⟩ := TvA.get a e
    exact ⟨v, by simpa using h1, h2⟩
theorem TvA.at {H : Hp} : ∀ {vs : List V} {ts : List T} {i : Nat} {v : V}, TvA H vs ts → vs[i]? = some v → ∃ t, ts[i]? = some t ∧ Tv H v t
  | _, _, i, t, .nil, e => by simp at e
  | _, _, 0, t, .cons h a, e => by
    simp only [List.getElem?_cons_zero, Option.some.injEq] at e
    subst e
    exact ⟨_, rfl, h⟩
  | _, _, i + 1, t, .cons h a, e => by
    simp only [List.getElem?_cons_succ] at e
    obtain ⟨v, h1, h2⟩ := TvA.at a e
    exact ⟨v, by simpa using h1, h2⟩
theorem TvA.mem {H : Hp} : ∀ {vs : List V} {ts : List T} {v : V}, TvA H vs ts → v ∈ vs → ∃ t, t ∈ ts ∧ Tv H v t
  | _, _, v, .nil, e => by simp at e
  | _, _, v, .cons (v := w) (t := t) h a, e => by
    rcases List.mem_cons.mp e with rfl | e
    · exact ⟨t, List.mem_cons_self, h⟩
    · obtain ⟨t', h1, h2⟩ := TvA.mem a e
      exact ⟨t', List.mem_cons_of_mem _ h1, h2⟩
theorem TvA.take {H : Hp} : ∀ {vs : List V} {ts : List T} (n : Nat), TvA H vs ts → TvA H (vs.take n) (ts.take n)
  | _, _, 0, _ => by simpa using TvA.nil
  | _, _, _ + 1, .nil => .nil
  | _, _, n + 1, .cons h a => .cons h (TvA.take n a)
theorem TvA.drop {H : Hp} : ∀ {vs : List V} {ts : List T} (n : Nat), TvA H vs ts → TvA H (vs.drop n) (ts.drop n)
  | _, _, 0, r => r
  | _, _, _ + 1, .nil => .nil
  | _, _, n + 1, .cons h a => TvA.drop n a
theorem Tv.int {H : Hp} {v : V} {n : Int} (h : Tv H v (.i n)) : v = .int n := by cases h; rfl
theorem Tv.bl {H : Hp} {v : V} {x : Bool} (h : Tv H v (.b x)) : v = .bl x := by cases h; rfl
theorem Tv.tup {H : Hp} {v : V} {ts : List T} (h : Tv H v (.t ts)) : ∃ a xs, v = .ref a ∧ H a = some (.tup xs) ∧ TvA H xs ts := by
  cases h with
  | t h a => exact ⟨_, _, rfl, h, a⟩
theorem TvA.ints {H : Hp} : ∀ {l : List Int} {vs : List V}, TvA H vs (l.map T.i) → vs = l.map V.int
  | [], _, h => by cases h; rfl
  | n :: l, _, h => by
    rw [List.map_cons] at h
    cases h with
    | cons a b => rw [a.int, TvA.ints b]; rfl
theorem TvA.of_ints {H : Hp} : ∀ l : List Int, TvA H (l.map V.int) (l.map T.i)
  | [] => .nil
  | n :: l => .cons (.i n) (TvA.of_ints l)
/-! ### the kit's data -/
mutual
def T.py : T → PyData
  | .i k => .int k
  | .b x => .bool x
  | .non => .none
  | .t xs => .tuple (T.pys xs)
def T.pys : List T → List PyData
  | [] => []
  | x :: xs => T.py x :: T.pys xs
end
theorem pys_map : ∀ xs : List T, T.pys xs = xs.map T.py
  | [] => rfl
  | x :: xs => by rw [T.pys, pys_map xs]; rfl
mutual
theorem Tv.dp {K : PySem.W.Frag} {H : Hp} : ∀ {v : V} {t : T}, Tv H v t → Dp K H v t.py
  | _, _, .i n => .int n
  | _, _, .b x => .bl x
  | _, _, .non => .non
  | _, _, .t h a => .tup (SqT.of h) (TvA.dp a)
theorem TvA.dp {K : PySem.W.Frag} {H : Hp} : ∀ {vs : List V} {ts : List T}, TvA H vs ts → DpAll K H vs (T.pys ts)
  | _, _, .nil => .nil
  | _, _, .cons h a => .cons (Tv.dp h) (TvA.dp a)
end
mutual
def T.ints : T → Bool
  | .i _ => true
  | .t xs => T.intsA xs
  | _ => false
def T.intsA : List T → Bool
  | [] => true
  | x :: xs => T.ints x && T.intsA xs
end
mutual
theorem eqv_py : ∀ a b : T, a.ints = true → b.ints = true → (PyData.eqv a.py b.py = true ↔ a = b)
  | .i m, .i n, _, _ => by simp [T.py, PyData.eqv]
  | .i m, .t ys, _, _ => by simp [T.py, PyData.eqv]
  | .t xs, .i n, _, _ => by simp [T.py, PyData.eqv]
  | .t xs, .t ys, ha, hb => by
    have h := eqv_pys xs ys (by simpa [T.ints] using ha) (by simpa [T.ints] using hb)
    simp only [T.py, PyData.eqv, T.t.injEq]
    exact h
  | .b _, _, h, _ => by simp [T.ints] at h
  | .non, _, h, _ => by simp [T.ints] at h
  | .i _, .b _, _, h => by simp [T.ints] at h
  | .i _, .non, _, h => by simp [T.ints] at h
  | .t _, .b _, _, h => by simp [T.ints] at h
  | .t _, .non, _, h => by simp [T.ints] at h
theorem eqv_pys : ∀ a b : List T, T.intsA a = true → T.intsA b = true → (PyData.eqvAll (T.pys a) (T.pys b) = true ↔ a = b)
  | [], [], _, _ => by simp [T.pys, PyData.eqvAll]
  | [], _ :: _, _, _ => by simp [T.pys, PyData.eqvAll]
  | _ :: _, [], _, _ => by simp [T.pys, PyData.eqvAll]
  | x :: xs, y :: ys, ha, hb => by
    simp only [T.intsA, Bool.and_eq_true] at ha hb
    have h1 := eqv_py x y ha.1 hb.1
    have h2 := eqv_pys xs ys ha.2 hb.2
    simp only [T.pys, PyData.eqvAll, Bool.and_eq_true, h1, h2, List.cons.injEq]
end
mutual
def T.dep : T → Nat
  | .t xs => T.depA xs + 1
  | _ => 0
def T.depA : List T → Nat
  | [] => 0
  | x :: xs => max (T.dep x) (T.depA xs)
end
mutual
theorem dep_py : ∀ a : T, a.py.depth = a.dep
  | .i _ => by simp [T.py, T.dep, PyData.depth]
  | .b _ => by simp [T.py, T.dep, PyData.depth]
  | .non => by simp [T.py, T.dep, PyData.depth]
  | .t xs => by simp only [T.py, T.dep, PyData.depth, dep_pys xs]
theorem dep_pys : ∀ a : List T, PyData.depthAll (T.pys a) = T.depA a
  | [] => by simp [T.pys, T.depA, PyData.depthAll]
  | x :: xs => by simp only [T.pys, T.depA, PyData.depthAll, dep_py x, dep_pys xs]
end
mutual
theorem lay_py : ∀ a : T, a.py.canLay0 = true
  | .i _ => by simp [T.py, PyData.canLay0]
  | .b _ => by simp [T.py, PyData.canLay0]
  | .non => by simp [T.py, PyData.canLay0]
  | .t xs => by simp only [T.py, PyData.canLay0, lay_pys xs]
theorem lay_pys : ∀ a : List T, PyData.canLayAll0 (T.pys a) = true
  | [] => by simp [T.pys, PyData.canLayAll0]
  | x :: xs => by simp [T.pys, PyData.canLayAll0, lay_py x, lay_pys xs]
end
theorem shp {a : T} (h : a.dep ≤ 60) : SeqAt.shaped a.py = true := by
  show (a.py.canLay0 && decide (a.py.depth ≤ 64)) = true
  rw [lay_py, dep_py, Bool.true_and]
  exact decide_eq_true (by omega)
theorem depA_le {n : Nat} : ∀ {xs : List T}, (∀ x ∈ xs, x.dep ≤ n) → T.depA xs ≤ n
  | [], _ => by simp [T.depA]
  | x :: xs, h => by
    simp only [T.depA]
    exact Nat.max_le.mpr ⟨h x List.mem_cons_self, depA_le fun y hy => h y (List.mem_cons_of_mem _ hy)⟩
theorem intsA_of : ∀ {xs : List T}, (∀ x ∈ xs, x.ints = true) → T.intsA xs = true
  | [], _ => rfl
  | x :: xs, h => by
    simp only [T.intsA, Bool.and_eq_true]
    exact ⟨h x List.mem_cons_self, intsA_of fun y hy => h y (List.mem_cons_of_mem _ hy)⟩
theorem shpL {ts : List T} (h : ∀ x ∈ ts, x.dep ≤ 50) : SeqAt.shaped (.list (T.pys ts)) = true := by
  show (PyData.canLay0 (.list (T.pys ts)) && decide (PyData.depth (.list (T.pys ts)) ≤ 64)) = true
  have h1 : PyData.depth (.list (T.pys ts)) = T.depA ts + 1 := by simp only [PyData.depth, dep_pys]
  have h2 := depA_le h
  rw [h1, Bool.and_eq_true]
  exact ⟨by simp only [PyData.canLay0]; exact lay_pys ts, decide_eq_true (by omega)⟩
/-- a list of such data -/
def LT (H : Hp) (l : Addr) (ts : List T) : Prop := ∃ xs, H l = some (.lst xs) ∧ TvA H xs ts
theorem LT.dp {K : PySem.W.Frag} {H : Hp} {l : Addr} {ts : List T} (h : LT H l ts) : Dp K H (.ref l) (.list (T.pys ts)) := by
  obtain ⟨xs, h1, h2⟩ := h
  exact .lst (SqL.of h1) h2.dp
theorem LT.kp {H H' : Hp} {l : Addr} {ts : List T} (h : LT H l ts) (k : KT H H') (e : ∀ o, H l = some o → H' l = some o) : LT H' l ts := by
  obtain ⟨xs, h1, h2⟩ := h
  exact ⟨xs, e _ h1, h2.kt k⟩
theorem LT.same {H H' : Hp} {l : Addr} {ts : List T} (h : LT H l ts) (s : Same H H') : LT H' l ts := h.kp s.kt fun o e => s l o e
/-! ### the shapes -/
abbrev Stp := Int × Int × Int
abbrev Mv := Int × Int × Int × Int
def stT (s : Stp) : T := .t [.i s.1, .i s.2.1, .i s.2.2]
def mvT (m : Mv) : T := .t [.i m.1, .i m.2.1, .i m.2.2.1, .i m.2.2.2]
def isT (l : List Int) : T := .t (l.map T.i)
theorem stT_inj {s t : Stp} (h : stT s = stT t) : s = t := by
  obtain ⟨a, b, c⟩ := s
  obtain ⟨a', b', c'⟩ := t
  simp only [stT, T.t.injEq, List.cons.injEq, T.i.injEq] at h
  obtain ⟨h1, h2, h3, _⟩ := h
  rw [h1, h2, h3]
theorem mvT_inj {s t : Mv} (h : mvT s = mvT t) : s = t := by
  obtain ⟨a, b, c, d⟩ := s
  obtain ⟨a', b', c', d'⟩ := t
  simp only [mvT, T.t.injEq, List.cons.injEq, T.i.injEq] at h
  obtain ⟨h1, h2, h3, h4, _⟩ := h
  rw [h1, h2, h3, h4]
theorem map_i_inj : ∀ {l m : List Int}, l.map T.i = m.map T.i → l = m
  | [], [], _ => rfl
  | [], _ :: _, h => by simp at h
  | _ :: _, [], h => by simp at h
  | x :: l, y :: m, h => by
    simp only [List.map_cons, List.cons.injEq, T.i.injEq] at h
    rw [h.1, map_i_inj h.2]
theorem isT_inj {l m : List Int} (h : isT l = isT m) : l = m := map_i_inj (T.t.inj h)
theorem intsA_map : ∀ l : List Int, T.intsA (l.map T.i) = true
  | [] => rfl
  | x :: l => by rw [List.map_cons, T.intsA, intsA_map l]; rfl
theorem depA_map : ∀ l : List Int, T.depA (l.map T.i) = 0
  | [] => rfl
  | x :: l => by rw [List.map_cons, T.depA, depA_map l]; rfl
@[simp] theorem isT_ints (l : List Int) : (isT l).ints = true := by simp only [isT, T.ints]; exact intsA_map l
@[simp] theorem isT_dep (l : List Int) : (isT l).dep = 1 := by simp only [isT, T.dep, depA_map]
@[simp] theorem stT_ints (s : Stp) : (stT s).ints = true := rfl
@[simp] theorem stT_dep (s : Stp) : (stT s).dep = 1 := by simp [stT, T.dep, T.depA]
@[simp] theorem mvT_ints (s : Mv) : (mvT s).ints = true := rfl
@[simp] theorem mvT_dep (s : Mv) : (mvT s).dep = 1 := by simp [mvT, T.dep, T.depA]
theorem Tv.stp {H : Hp} {v : V} {s : Stp} (h : Tv H v (stT s)) : ∃ a, v = .ref a ∧ H a = some (.tup [.int s.1, .int s.2.1, .int s.2.2]) := by
  obtain ⟨a, xs, e, h1, h2⟩ := h.tup
  refine ⟨a, e, ?_⟩
  rw [TvA.ints (l := [s.1, s.2.1, s.2.2]) h2] at h1
  exact h1
theorem Tv.mv {H : Hp} {v : V} {s : Mv} (h : Tv H v (mvT s)) : ∃ a, v = .ref a ∧ H a = some (.tup [.int s.1, .int s.2.1, .int s.2.2.1, .int s.2.2.2]) := by
  obtain ⟨a, xs, e, h1, h2⟩ := h.tup
  refine ⟨a, e, ?_⟩
  rw [TvA.ints (l := [s.1, s.2.1, s.2.2.1, s.2.2.2]) h2] at h1
  exact h1
theorem Tv.is {H : Hp} {v : V} {l : List Int} (h : Tv H v (isT l)) : ∃ a, v = .ref a ∧ H a = some (.tup (l.map V.int)) := by
  obtain ⟨a, xs, e, h1, h2⟩ := h.tup
  rw [h2.ints] at h1
  exact ⟨a, e, h1⟩
theorem tv_st {H : Hp} {a : Addr} {s : Stp} (h : H a = some (.tup [.int s.1, .int s.2.1, .int s.2.2])) : Tv H (.ref a) (stT s) := .t h (.cons (.i _) (.cons (.i _) (.cons (.i _) .nil)))
theorem tv_mv {H : Hp} {a : Addr} {s : Mv} (h : H a = some (.tup [.int s.1, .int s.2.1, .int s.2.2.1, .int s.2.2.2])) : Tv H (.ref a) (mvT s) := .t h (.cons (.i _) (.cons (.i _) (.cons (.i _) (.cons (.i _) .nil))))
theorem tv_is {H : Hp} {a : Addr} {l : List Int} (h : H a = some (.tup (l.map V.int))) : Tv H (.ref a) (isT l) := .t h (TvA.of_ints l)
/-! ### readings in short -/
theorem same_new {H : Hp} {p : Addr} {o : HO} (h : H p = none) : Same H (upd H p o) := fun b u e => by rw [upd_ne (ne_of_none e h)]; exact e
/-- a new object, the heap behind it a letter -/
theorem nw {H : Hp} {o : HO} {G : Addr → Hp → Prop} (k : ∀ p H', Same H H' → H' p = some o → H p = none → G p H') : ∀ p, H p = none → G p (upd H p o) := fun p np => k p _ (same_new np) upd_same np
theorem mkt {H : Hp} {xs : List V} {Q : VK} (hl : xs.length ≤ 1000000) (k : ∀ p H', Same H H' → H' p = some (.tup xs) → H p = none → Q (.ref p) H') : xs.length ≤ sizeLine ∧ ∀ p, H p = none → Q (.ref p) (upd H p (.tup xs)) :=
  ⟨Nat.le_trans hl (by decide), nw k⟩
theorem mkl {H : Hp} {xs : List V} {Q : VK} (hl : xs.length ≤ 1000000) (k : ∀ p H', Same H H' → H' p = some (.lst xs) → H p = none → Q (.ref p) H') : xs.length ≤ sizeLine ∧ ∀ p, H p = none → Q (.ref p) (upd H p (.lst xs)) :=
  ⟨Nat.le_trans hl (by decide), nw k⟩
/-- a list of this frame's own is changed: what stood at the entry stands -/
theorem same_upd {H0 H : Hp} {l : Addr} {o : HO} (s : Same H0 H) (n : H0 l = none) : Same H0 (upd H l o) := fun b u e => by rw [upd_ne (ne_of_none e n)]; exact s b u e
end Fx

/-! Rules whose readings give the heap behind as a letter. -/
namespace Fx
open PySem PySem.Spec PyProof.Rows L2
def Off (a : Addr) (H H' : Hp) : Prop := ∀ b, b ≠ a → H' b = H b
theorem fw {H : Hp} {a : Addr} {o : HO} {G : Hp → Prop} (k : ∀ H', Off a H H' → H' a = some o → G H') : G (upd H a o) := k _ (fun b h => upd_ne h) upd_same
theorem Off.kt {a : Addr} {H H' : Hp} (o : Off a H H') {u : HO} (h : H a = some u) (hu : ∀ xs, u ≠ .tup xs) : KT H H' := fun b xs e => by rw [o b (ne_of e h fun z => hu xs z.symm)]; exact e
theorem off_upd {a : Addr} {H : Hp} {o : HO} : Off a H (upd H a o) := fun b h => upd_ne h
theorem _root_.L2.PE.w {X : Cx} {e : Expr} {t t' : TE} (h : PE X e t) (k : ∀ σ H Q, t' σ H Q → t σ H Q) : PE X e t' := ⟨fun pins s σ H Q I q => h.run pins s σ H Q I (k σ H Q q)⟩
/-- closed under what follows -/
def clA (t : TA) : TA := fun σ H Q => ∃ S : List V → Hp → Prop, t σ H S ∧ ∀ xs H', S xs H' → Q xs H'
def clE (t : TE) : TE := fun σ H Q => ∃ S : VK, t σ H S ∧ ∀ x H', S x H' → Q x H'
theorem _root_.L2.PA.cl {X : Cx} {es : List Expr} {t : TA} (h : PA X es t) : PA X es (clA t) := ⟨fun pos pins s σ H Q I ⟨S, q, k⟩ => thn (h.run pos pins s σ H S I q) fun us s' ⟨vs, H', I', r, z⟩ => ⟨vs, H', I', r, k _ _ z⟩⟩
theorem _root_.L2.PE.cl {X : Cx} {e : Expr} {t : TE} (h : PE X e t) : PE X e (clE t) := ⟨fun pins s σ H Q I ⟨S, q, k⟩ => thn (h.run pins s σ H S I q) fun us s' ⟨vs, H', I', r, z⟩ => ⟨vs, H', I', r, k _ _ z⟩⟩
section
variable {X : Cx} {K : PySem.W.Frag}
/-- what is new stands at p, all else stands -/
def New (H : Hp) (o : HO) (Q : VK) : Prop := ∀ p H', Same H H' → H' p = some o → H p = none → Q (.ref p) H'
theorem New.get {H : Hp} {o : HO} {Q : VK} (n : New H o Q) {p : Addr} (np : H p = none) : Q (.ref p) (upd H p o) := n p _ (same_new np) upd_same np
def tTupS (t : TA) : TE := fun σ H Q => t σ H fun xs H1 => xs.length ≤ 1000000 ∧ New H1 (.tup xs) Q
def tLstS (t : TA) : TE := fun σ H Q => t σ H fun xs H1 => xs.length ≤ 1000000 ∧ New H1 (.lst xs) Q
theorem mil {n : Nat} (h : n ≤ 1000000) : n ≤ sizeLine := Nat.le_trans h (by decide)
theorem mil' {n : Nat} (h : n ≤ 1000000) : n < sizeLine := Nat.lt_of_le_of_lt h (by decide)
theorem pe_tupS {es : List Expr} {pos : Pos} {t : TA} {x1} (h : PA X es t) : PE X (.Tuple es x1 pos) (tTupS t) := (pe_tup h.cl).w fun σ H Q q => ⟨_, q, fun xs H1 z => ⟨mil z.1, fun p np => z.2.get np⟩⟩
theorem pe_lstS {es : List Expr} {pos : Pos} {t : TA} (h : PA X es t) : PE X (.List es pos) (tLstS t) := (pe_lst h.cl).w fun σ H Q q => ⟨_, q, fun xs H1 z => ⟨mil z.1, fun p np => z.2.get np⟩⟩
theorem pe_dnewKS {pos : Pos} : PE X (.Dict [] [] pos) (fun _ H Q => New H (.dK []) Q) := pe_dnewK.w fun σ H Q q p np => q.get np
theorem pe_dnewTS {pos : Pos} : PE X (.Dict [] [] pos) (fun _ H Q => New H (.dT []) Q) := pe_dnewT.w fun σ H Q q p np => q.get np
/-- an object changed, the heap behind a letter -/
def Chg (H : Hp) (l : Addr) (o : HO) (R : Hp → Prop) : Prop := ∀ H', Off l H H' → H' l = some o → R H'
theorem Chg.get {H : Hp} {l : Addr} {o : HO} {R : Hp → Prop} (c : Chg H l o R) : R (upd H l o) := c _ off_upd upd_same
theorem MtR.w {id : String} {r r' : V → List V → Hp → VK → Prop} (h : MtR X id r) (k : ∀ x xs H Q, r' x xs H Q → r x xs H Q) : MtR X id r' := fun pins s σ H x xs v us Q I rx rxs q => h pins s σ H x xs v us Q I rx rxs (k _ _ _ _ q)
theorem CallR.w {f : Value} {r r' : List V → Hp → VK → Prop} (h : CallR X f r) (k : ∀ xs H Q, r' xs H Q → r xs H Q) : CallR X f r' := fun pins s σ H xs us Q I rx q => h pins s σ H xs us Q I rx (k _ _ _ q)
theorem OpR.w {f : Value → Value → Sem Value} {r r' : R2} (h : OpR X f r) (k : ∀ x y H Q, r' x y H Q → r x y H Q) : OpR X f r' := fun pins s σ H x y v u Q I rx ry q => h pins s σ H x y v u Q I rx ry (k _ _ _ _ q)
theorem SlR.w {r r' : V → Option Int → Option Int → Hp → VK → Prop} (h : SlR X r) (k : ∀ x lo hi H Q, r' x lo hi H Q → r x lo hi H Q) : SlR X r' := fun pins s σ H x v vl vu lo hi sl Q I rx hs pl pu q => h pins s σ H x v vl vu lo hi sl Q I rx hs pl pu (k _ _ _ _ _ q)
theorem mt_appendS : MtR X "list.append" (fun x vs H Q => ∃ l xs y, x = .ref l ∧ vs = [y] ∧ H l = some (.lst xs) ∧ xs.length ≤ 1000000 ∧ Chg H l (.lst (xs ++ [y])) fun H' => Q .non H') :=
  MtR.w mt_append fun x vs H Q ⟨l, xs, y, e1, e2, e3, e4, c⟩ => ⟨l, xs, y, e1, e2, e3, mil' e4, c.get⟩
theorem mt_extendS : MtR X "list.extend" (fun x vs H Q => ∃ l b xs zs, x = .ref l ∧ vs = [.ref b] ∧ H l = some (.lst xs) ∧ H b = some (.lst zs) ∧ xs.length + zs.length ≤ 1000000 ∧ Chg H l (.lst (xs ++ zs)) fun H' => Q .non H') :=
  MtR.w mt_extend fun x vs H Q ⟨l, b, xs, zs, e1, e2, e3, e3', e4, c⟩ => ⟨l, b, xs, zs, e1, e2, e3, e3', mil e4, c.get⟩
theorem mt_setdTS (hu : X.A.units + 1 < cLine) : MtR X "dict.setdefault" (fun x xs H Q => ∃ (a : Addr) (kvs : List (List L2.Key × V)) (k : List L2.Key) (b : Addr) (d : V), x = .ref a ∧ xs = [.ref b, d] ∧ H a = some (.dT kvs) ∧ H b = some (.tup (k.map kV)) ∧ kvs.length ≤ 1000000 ∧
    (∀ v, valV kvs k = some v → Q v H) ∧ (valV kvs k = none → Chg H a (.dT (kvs ++ [(k, d)])) fun H' => Q d H')) :=
  MtR.w (mt_setdT hu) fun x xs H Q ⟨a, kvs, k, b, d, e1, e2, e3, e4, e5, c1, c2⟩ => ⟨a, kvs, k, b, d, e1, e2, e3, e4, mil' e5, c1, fun hn => by rw [putK_new _ hn]; exact (c2 hn).get⟩
theorem call_tuple_ofS (h : X.K = K := by rfl) : CallR X (.type "tuple") (fun xs H Q => ∃ p ys, xs = [.ref p] ∧ H p = some (.lst ys) ∧ New H (.tup ys) Q) :=
  CallR.w call_tuple_of fun xs H Q ⟨p, ys, e1, e2, n⟩ => ⟨p, ys, e1, .inl ⟨SqL.of e2, fun l hl => n.get hl⟩⟩
theorem call_list_ofS : CallR X (.type "list") (fun xs H Q => ∃ p ys, xs = [.ref p] ∧ H p = some (.tup ys) ∧ New H (.lst ys) Q) :=
  CallR.w call_list_of fun xs H Q ⟨p, ys, e1, e2, n⟩ => ⟨p, ys, e1, .inr (SqT.of e2), fun l hl => n.get hl⟩
theorem call_sortedDIS (hc : X.calm = true) : CallR X (.builtin "sorted") (fun xs H Q => ∃ (a : Addr) (kvs : List (L2.Key × V)) (ks : List Int), xs = [.ref a] ∧ H a = some (.dK kvs) ∧ kvs.map (·.1) = ks.map Sum.inl ∧ ks.length < 64 ∧
    ∀ ys : List Int, ys.Perm ks → ys.Pairwise (· ≤ ·) → New H (.lst (ys.map V.int)) Q) :=
  CallR.w (call_sortedDI hc) fun xs H Q ⟨a, kvs, ks, e1, e2, e3, e4, n⟩ => ⟨a, kvs, ks, e1, .inl e2, e3, e4, fun ys p h1 h2 np => (n ys h1 h2).get np⟩
theorem cr_sortedS2 : CallR X (.builtin "sorted") (fun xs H Q => ∃ (a : Addr) (ks : List Int), xs = [.ref a] ∧ H a = some (.lst (ks.map V.int)) ∧ ks.length < 64 ∧
    ∀ ys : List Int, ys.Perm ks → ys.Pairwise (· ≤ ·) → New H (.lst (ys.map V.int)) Q) :=
  CallR.w cr_sorted fun xs H Q ⟨a, ks, e1, e2, e4, n⟩ => ⟨a, ks, e1, SqL.of e2, e4, fun ys p h1 h2 np => (n ys h1 h2).get np⟩
theorem cr_sortTS : CallR X (.builtin "sorted") (fun vs H Q => ∃ (a : Addr) (xs : List V), vs = [V.ref a] ∧ H a = some (.lst xs) ∧ xs.length < 64 ∧ (∀ x ∈ xs, ∃ t ns, x = .ref t ∧ H t = some (.tup (ns.map V.int)) ∧ ns.length = 4 ∧ TS.Bd 8 ns) ∧
    ∀ ys : List V, ys.Perm xs → ys.Pairwise (fun x y => ∀ t u n m, x = .ref t → H t = some (.tup (n.map V.int)) → y = .ref u → H u = some (.tup (m.map V.int)) → TS.code 8 n ≤ TS.code 8 m) → New H (.lst ys) Q) :=
  CallR.w (cr_sortT (d := 4) (B := 8) (by decide)) fun vs H Q ⟨a, xs, e1, e2, e3, e4, n⟩ => ⟨a, xs, e1, SqL.of e2, e3, (fun x hx => let ⟨t, ns, h1, h2, h3, h4⟩ := e4 x hx; ⟨ns, ⟨t, h1, SqT.of h2⟩, h3, h4⟩), fun ys p h1 h2 np =>
    (n ys h1 (h2.imp fun {x y} q t u nn mm h1 h2 h3 h4 => q nn mm ⟨t, h1, SqT.of h2⟩ ⟨u, h3, SqT.of h4⟩)).get np⟩
theorem sl_tupS (h : X.K = K := by rfl) : SlR X (fun x lo hi H Q => ∃ a xs, x = .ref a ∧ H a = some (.tup xs) ∧ ¬ (HT.sIx xs.length 0 lo = 0 ∧ HT.sIx xs.length xs.length hi = xs.length) ∧ New H (.tup (cutV xs lo hi)) Q) :=
  SlR.w sl_tup fun x lo hi H Q ⟨a, xs, e1, e2, e3, n⟩ => ⟨a, xs, e1, SqT.of e2, e3, fun p np => n.get np⟩
theorem sl_listS (h : X.K = K := by rfl) : SlR X (fun x lo hi H Q => ∃ a xs, x = .ref a ∧ SqL K H a xs ∧ New H (.lst (cutV xs lo hi)) Q) :=
  SlR.w sl_list fun x lo hi H Q ⟨a, xs, e1, e2, n⟩ => ⟨a, xs, e1, (by rw [h]; exact e2), fun p np => n.get np⟩
theorem op_catS : OpR X (binaryOp .Add) (fun x y H Q => ∃ l b xs zs, x = .ref l ∧ y = .ref b ∧ H l = some (.lst xs) ∧ H b = some (.lst zs) ∧ xs.length + zs.length ≤ 1000000 ∧ New H (.lst (xs ++ zs)) Q) :=
  OpR.w op_cat fun x y H Q ⟨l, b, xs, zs, e1, e2, e3, e4, e5, n⟩ => ⟨l, b, xs, zs, e1, e2, e3, e4, mil e5, fun p np => n.get np⟩
/-- t + (..): whichever tuple comes out holds both -/
theorem op_catAS : OpR X (binaryOp .Add) (fun x y H Q => ∃ l b xs z zs, x = .ref l ∧ y = .ref b ∧ H l = some (.tup xs) ∧ H b = some (.tup (z :: zs)) ∧ xs.length + (z :: zs).length ≤ 1000000 ∧
    ∀ p H', Same H H' → H' p = some (.tup (xs ++ z :: zs)) → Q (.ref p) H') :=
  OpR.w op_catA fun x y H Q ⟨l, b, xs, z, zs, e1, e2, e3, e4, e5, n⟩ => ⟨l, b, xs, z :: zs, e1, e2, SqT.of e3, SqT.of e4, mil e5, (fun e => n b H (Same.refl _) (by rw [e]; exact e4)), (fun _ e => nomatch e), fun _ _ p np => n p _ (same_new np) upd_same⟩
theorem pe_revLS {e : Expr} {te : TE} {k : Nat} {p1 p2 p3 pos : Pos} (he : PE X e te) : PE X (.Subscript e (.Slice none none (some (.UnaryOp .USub (.Constant (.int 1) k p1) p2)) p3) pos) (fun σ H Q => te σ H fun x H1 => ∃ a xs, x = .ref a ∧ H1 a = some (.lst xs) ∧ New H1 (.lst xs.reverse) Q) :=
  (pe_revL he.cl).w fun σ H Q q => ⟨_, q, fun x H1 ⟨a, xs, e1, e2, n⟩ => ⟨a, xs, e1, SqL.of e2, fun p np => n.get np⟩⟩
theorem pe_mkS {k j : Nat} {C : Addr} {x : Str} {sp : Sp} {p pos : Pos} {e : Expr} {es : List Expr} {t : TA} (c : Mak X.prog X.w X.K X.mg X.base k x C sp) (hr : Room j X.A) (hk : k + 1 ≤ j) (hg : Gl X x) (ha : PA X (e :: es) t)
    (hdb : (x == ("__debug__" : Str)) = false := by decide) (he : starEach (e :: es) X.env = (false, eval e X.env) :: starEach es X.env := by rfl) (hpl : (backTo pos (starEach es X.env)).any (·.1) = false := by rfl) :
    PE X (.Call (.Name x p) (e :: es) [] pos) (fun σ H Q => t σ H fun vs H1 => ∀ y dx H2, Same H1 H2 → H1 y = none → H2 y = some (.ins C dx []) → sp (.ref y :: vs) H2 (fun v H3 => v = .non ∧ Q (.ref y) H3) E0) :=
  (pe_mk c hr hk hg ha.cl hdb he hpl).w fun σ H Q q => ⟨_, q, fun vs H1 z y dx ny ndx ne => by
    rw [List.append_nil]
    exact z y dx _ (fun b o e => by rw [upd_ne (ne_of_none e ny), upd_ne (ne_of_none e ndx)]; exact e) ny upd_same⟩
/-- d.setdefault(k, v), int keys -/
theorem pe_dsetdS {o e f : Expr} {td ty tx : TE} {apos cpos : Pos} (ho : PE X o td) (he : PE X e ty) (hf : PE X f tx) (m : M2 X o "setdefault" apos e f cpos) : PE X (.Call (.Attribute o "setdefault" apos) [e, f] [] cpos)
    (fun σ H Q => td σ H fun x H1 => (∃ a kvs, x = .ref a ∧ H1 a = some (.dK kvs)) ∧ ty σ H1 fun y H2 => tx σ H2 fun z H3 => ∃ (a : Addr) (kvs : List (L2.Key × V)) (k : L2.Key), x = .ref a ∧ H3 a = some (.dK kvs) ∧ y = kV k ∧ kvs.length ≤ 1000000 ∧
      (∀ v, valV kvs k = some v → Q v H3) ∧ (valV kvs k = none → Chg H3 a (.dK (kvs ++ [(k, z)])) fun H' => Q z H')) :=
  (pe_dsetd ho.cl he.cl hf.cl m).w fun σ H Q q => ⟨_, q, fun x H1 ⟨⟨a, kvs0, ea, e0⟩, z⟩ => ⟨a, ea, .inl ⟨kvs0, .inl e0⟩, ⟨_, z, fun y H2 z => ⟨_, z, fun v H3 ⟨a', kvs, k, e1, e2, e3, e4, c1, c2⟩ => by
    rw [ea] at e1
    injection e1 with e1
    subst e1
    exact ⟨kvs, k, e2, e3, mil' e4, c1, fun hn => by rw [putK_new _ hn]; exact (c2 hn).get⟩⟩⟩⟩⟩
end
end Fx

/-! checks -/
namespace Fx
open PySem PySem.Spec PyProof.Rows L2
theorem _root_.L2.Room.u9 {k : Nat} {A : Around} (r : Room k A) : A.units + 9 < cLine := by have := r.units; omega
theorem _root_.L2.Room.u65 {k : Nat} {A : Around} (r : Room k A) : A.units + 65 < cLine := by have := r.un; omega
section
variable {X : Cx}
theorem call_isiTup : CallR X (.builtin "isinstance") (fun xs H Q => ∃ (a : Addr) (ys : List V), xs = [.ref a, .ty "tuple"] ∧ H a = some (.tup ys) ∧ Q (.bl true) H) := fun pins s σ H xs us Q I rx h =>
  let ⟨_, _, e, ha, q⟩ := h; call_isi pins s σ H xs us Q I rx ⟨_, _, _, _, true, e, .ty _, .base (.tup ha), kit_ty (by decide +kernel), q⟩
theorem call_isiInt : CallR X (.builtin "isinstance") (fun xs H Q => ∃ (n : Int), xs = [.int n, .ty "int"] ∧ Q (.bl true) H) := fun pins s σ H xs us Q I rx h =>
  let ⟨_, e, q⟩ := h; call_isi pins s σ H xs us Q I rx ⟨_, _, _, _, true, e, .ty _, .base (.int _), kit_ty (by decide +kernel), q⟩
theorem call_isiBool : CallR X (.builtin "isinstance") (fun xs H Q => ∃ (n : Int), xs = [.int n, .ty "bool"] ∧ Q (.bl false) H) := fun pins s σ H xs us Q I rx h =>
  let ⟨_, e, q⟩ := h; call_isi pins s σ H xs us Q I rx ⟨_, _, _, _, false, e, .ty _, .base (.int _), kit_ty (by decide +kernel), q⟩
end
/-! ### rules within a comprehension: K told -/
section
variable {X : Cx} {K : PySem.W.Frag}
theorem ix_tupK (h : X.K = K := by rfl) : IxR X (rIxT K) := h ▸ ix_tup
theorem ix_listK (h : X.K = K := by rfl) : IxR X (rIxL K) := h ▸ ix_list
theorem call_len_seqK (h : X.K = K := by rfl) : CallR X (.builtin "len") (fun xs H Q => ∃ p ys, xs = [.ref p] ∧ (SqL K H p ys ∨ SqT K H p ys) ∧ Q (.int ys.length) H) := h ▸ call_len_seq
theorem op_in_seqK (h : X.K = K := by rfl) : OpR X (compareOp .In) (rIn K false) := h ▸ op_in_seq
theorem op_catAK (h : X.K = K := by rfl) : OpR X (binaryOp .Add) (rCatA K) := h ▸ op_catA
theorem op_notInDK (hu : X.A.units + 65 < cLine) (h : X.K = K := by rfl) : OpR X (compareOp .NotIn) (rNotInD K) := h ▸ op_notInD hu
theorem pi_listK {tg l : Expr} {tl : TE} (hl : PE X l tl) (h : X.K = K := by rfl) : PI X tg l (iList K tl) := h ▸ pi_list hl
theorem pg_tupK {es : List Expr} {k : Nat} {pos : Pos} {t : TGs} {n : Nat} (hc : X.calm = true) (hl : PGs X es t) (hn : (assignEach es X.env).length = n := by rfl) (hst : (assignEach es X.env).findIdx? (·.1) = none := by rfl) (h : X.K = K := by rfl) : PG X (.Tuple es k pos) (gTup K n t) := h ▸ pg_tup hc hl hn hst
theorem pe_fldK {e : Expr} {f : Str} {pos : Pos} {ta : TE} (he : PE X e ta) (hb : attributeBase e f X.env (eval e X.env) = eval e X.env) (h : X.K = K := by rfl) : PE X (.Attribute e f pos) (tFld K ta f) := h ▸ pe_fld he hb
end
/-! ### comprehensions that give data -/
section
variable {K : PySem.W.Frag} {a : Addr} {xs : List V} {g : TG} {tt : TT} {te : TE} {vs : List Nat} {σ : L2.St} {H1 : Hp} {D : Addr} {Qd : Hp → Prop}
/-- one turn of a comprehension: whatever is wanted of an item kept, of one left out -/
def Turn1 (g : TG) (tt : TT) (te : TE) (vs : List Nat) (σ : L2.St) (J : Nat → List T → Prop) (i : Nat) (x : V) (H : Hp) (ts : List T) : Prop :=
  ∀ (R : V → Hp → Prop) (R' : Hp → Prop), (∀ y t H4, Same H H4 → Tv H4 y t → J (i + 1) (ts ++ [t]) → R y H4) → (∀ H4, Same H H4 → J (i + 1) ts → R' H4) →
    g x (wipe σ vs) H fun σ2 H2 => wipe σ2 vs = wipe σ vs ∧ tt σ2 H2 fun b H3 => if b = true then te σ2 H3 R else R' H3
def Pv1 (H1 : Hp) (D : Addr) (J : Nat → List T → Prop) (i : Nat) (H : Hp) : Prop := ∃ ts, Same H1 H ∧ LT H D ts ∧ ts.length ≤ i ∧ J i ts
theorem turn1 {J : Nat → List T → Prop} {i : Nat} {x : V} {H : Hp} (n1 : H1 D = none) (hi : i < 100000) (h : Pv1 H1 D J i H) (hs : ∀ ts, Same H1 H → ts.length ≤ i → J i ts → Turn1 g tt te vs σ J i x H ts) :
    g x (wipe σ vs) H fun σ2 H2 => wipe σ2 vs = wipe σ vs ∧ tt σ2 H2 fun b H3 =>
      if b = true then te σ2 H3 fun y H4 => ∃ acc, H4 D = some (.lst acc) ∧ acc.length < sizeLine ∧ Pv1 H1 D J (i + 1) (upd H4 D (.lst (acc ++ [y]))) else Pv1 H1 D J (i + 1) H3 := by
  obtain ⟨ts, s1, ⟨acc, hD, hT⟩, hl, hj⟩ := h
  refine hs ts s1 hl hj _ _ (fun y t H4 s4 ty j1 => ?_) (fun H4 s4 j1 => ?_)
  · have e := hT.length
    refine ⟨acc, s4 _ _ hD, Nat.lt_trans (show acc.length < 100000 by omega) (by decide), ts ++ [t], same_upd (s1.trans s4) n1, ⟨acc ++ [y], upd_same, ?_⟩, by rw [List.length_append, List.length_singleton]; omega, j1⟩
    have k4 : KT H4 (upd H4 D (.lst (acc ++ [y]))) := kt_upd (s4 _ _ hD) (fun xs z => nomatch z)
    exact (hT.kt (s4.kt.trans k4)).snoc (ty.kt k4)
  · exact ⟨ts, s1.trans s4, ⟨acc, s4 _ _ hD, hT.kt s4.kt⟩, by omega, j1⟩
theorem lcT (J : Nat → List T → Prop) (n1 : H1 D = none) (ha : H1 a = some (.tup xs)) (hz : xs.length ≤ 100000) (j0 : J 0 [])
    (hs : ∀ i x H ts, xs[i]? = some x → Same H1 H → ts.length ≤ i → J i ts → Turn1 g tt te vs σ J i x H ts) (hd : ∀ H ts, Same H1 H → LT H D ts → ts.length ≤ xs.length → J xs.length ts → Qd H) :
    ∃ W : Nat → Nat → Hp → Prop, (∃ m, W 0 m (upd H1 D (.lst []))) ∧ ∀ i m H, W i m H →
      ((Itt K a).stop i H ∧ Qd H) ∨ ((Itt K a).go i H ∧ ∃ Nx : Hp → Prop, (∀ H', Nx H' → ∃ m', m' < m ∧ W (i + 1) m' H') ∧ ∀ x H', (Itt K a).yld i H x H' → g x (wipe σ vs) H' fun σ2 H2 => wipe σ2 vs = wipe σ vs ∧ tt σ2 H2 fun b H3 =>
        if b = true then te σ2 H3 fun y H4 => ∃ acc, H4 D = some (.lst acc) ∧ acc.length < sizeLine ∧ Nx (upd H4 D (.lst (acc ++ [y]))) else Nx H3) :=
  lc_tup (K := K) (xs := xs) (Pv1 H1 D J) ⟨[], same_new n1, ⟨[], upd_same, .nil⟩, Nat.le_refl _, j0⟩ (fun i H _ ⟨_, s, _⟩ => SqT.of (s _ _ ha))
    (fun i x H hi h => turn1 n1 (by have := (List.getElem?_eq_some_iff.mp hi).1; omega) h fun ts s1 hl hj => hs i x H ts hi s1 hl hj)
    fun H ⟨ts, s1, l, hl, hj⟩ => hd H ts s1 l hl hj
theorem lcL (J : Nat → List T → Prop) (n1 : H1 D = none) (ha : H1 a = some (.lst xs)) (hz : xs.length ≤ 100000) (j0 : J 0 [])
    (hs : ∀ i x H ts, xs[i]? = some x → Same H1 H → ts.length ≤ i → J i ts → Turn1 g tt te vs σ J i x H ts) (hd : ∀ H ts, Same H1 H → LT H D ts → ts.length ≤ xs.length → J xs.length ts → Qd H) :
    ∃ W : Nat → Nat → Hp → Prop, (∃ m, W 0 m (upd H1 D (.lst []))) ∧ ∀ i m H, W i m H →
      ((Itl K a).stop i H ∧ Qd H) ∨ ((Itl K a).go i H ∧ ∃ Nx : Hp → Prop, (∀ H', Nx H' → ∃ m', m' < m ∧ W (i + 1) m' H') ∧ ∀ x H', (Itl K a).yld i H x H' → g x (wipe σ vs) H' fun σ2 H2 => wipe σ2 vs = wipe σ vs ∧ tt σ2 H2 fun b H3 =>
        if b = true then te σ2 H3 fun y H4 => ∃ acc, H4 D = some (.lst acc) ∧ acc.length < sizeLine ∧ Nx (upd H4 D (.lst (acc ++ [y]))) else Nx H3) :=
  lc_list (K := K) (xs := xs) (Pv1 H1 D J) ⟨[], same_new n1, ⟨[], upd_same, .nil⟩, Nat.le_refl _, j0⟩ (fun i H _ ⟨_, s, _⟩ => SqL.of (s _ _ ha))
    (fun i x H hi h => turn1 n1 (by have := (List.getElem?_eq_some_iff.mp hi).1; omega) h fun ts s1 hl hj => hs i x H ts hi s1 hl hj)
    fun H ⟨ts, s1, l, hl, hj⟩ => hd H ts s1 l hl hj
theorem lcR {lo : Int} {n : Nat} (J : Nat → List T → Prop) (n1 : H1 D = none) (hz : n ≤ 100000) (j0 : J 0 [])
    (hs : ∀ i H ts, i < n → Same H1 H → ts.length ≤ i → J i ts → Turn1 g tt te vs σ J i (.int (lo + i)) H ts) (hd : ∀ H ts, Same H1 H → LT H D ts → ts.length ≤ n → J n ts → Qd H) :
    ∃ W : Nat → Nat → Hp → Prop, (∃ m, W 0 m (upd H1 D (.lst []))) ∧ ∀ i m H, W i m H →
      ((Itr lo n).stop i H ∧ Qd H) ∨ ((Itr lo n).go i H ∧ ∃ Nx : Hp → Prop, (∀ H', Nx H' → ∃ m', m' < m ∧ W (i + 1) m' H') ∧ ∀ x H', (Itr lo n).yld i H x H' → g x (wipe σ vs) H' fun σ2 H2 => wipe σ2 vs = wipe σ vs ∧ tt σ2 H2 fun b H3 =>
        if b = true then te σ2 H3 fun y H4 => ∃ acc, H4 D = some (.lst acc) ∧ acc.length < sizeLine ∧ Nx (upd H4 D (.lst (acc ++ [y]))) else Nx H3) :=
  lc_range (Pv1 H1 D J) ⟨[], same_new n1, ⟨[], upd_same, .nil⟩, Nat.le_refl _, j0⟩
    (fun i H hi h => turn1 n1 (by omega) h fun ts s1 hl hj => hs i H ts hi s1 hl hj)
    fun H ⟨ts, s1, l, hl, hj⟩ => hd H ts s1 l hl hj
/-- a list of bools -/
theorem LT.bools {H : Hp} {l : Addr} {ts : List T} (h : LT H l ts) {bs : List Bool} (e : ts = bs.map T.b) : H l = some (.lst (bs.map V.bl)) := by
  obtain ⟨xs, h1, h2⟩ := h
  subst e
  rw [h1]
  congr 2
  clear h1
  induction bs generalizing xs with
  | nil => cases h2; rfl
  | cons b bs ih =>
    rw [List.map_cons] at h2
    cases h2 with
    | cons p q => rw [p.bl, ih _ q]; rfl
theorem trues {ts : List T} (h : ∀ t ∈ ts, t = .b true) : ∃ bs : List Bool, ts = bs.map T.b ∧ bs.all id = true := by
  induction ts with
  | nil => exact ⟨[], rfl, rfl⟩
  | cons t ts ih =>
    obtain ⟨bs, e, f⟩ := ih fun x hx => h x (List.mem_cons_of_mem _ hx)
    exact ⟨true :: bs, by rw [h t List.mem_cons_self, e]; rfl, by simpa using f⟩
/-- all(..) of a list of Trues -/
theorem all_true {H : Hp} {l : Addr} {ts : List T} {Q : VK} (h : LT H l ts) (ht : ∀ t ∈ ts, t = .b true) (q : Q (.bl true) H) : rAll K [.ref l] H Q := by
  obtain ⟨bs, e, f⟩ := trues ht
  refine ⟨l, bs, rfl, SqL.of (h.bools e), ?_⟩
  rw [f]
  exact q
end
section
variable {P : Program} {w : World} {K : PySem.W.Frag} {mg : Str → Option Value} {base : Heap}
def sp_is_integer (K : PySem.W.Frag) : Sp := fun vs H Q _ => ∃ n : Int, vs = [.int n] ∧ Q (.bl true) H
theorem sc_is_integer : FnScope ["thing"] ["thing"] (defScope s_is_integer) := ⟨rfl, rfl, rfl, by decide +kernel, rfl, by decide +kernel, by decide +kernel⟩
theorem c_is_integer (T : Tx K mg) : Cal P w K mg base 1 "is_integer" (sp_is_integer K) := by
  refine cal_mk T.is_integer (fun _ _ _ _ _ _ us hl => match us, hl with | [_], _ => rfl) sc_is_integer (fun vs H Q E h => by (obtain ⟨n, rfl, k⟩ := h; rfl)) (fun f cdv A outer s H vs Q E hr h => ?_)
  obtain ⟨n, rfl, k⟩ := h
  refine ⟨_, (pss_one (ps_ret (pe_and (pe_callB call_isiInt rfl T.f_isinstance (by decide +kernel) (pa_cons (pv 0) (pa_cons (pe_bltn (v := .ty "int") rfl T.f_int (by decide +kernel) rfl) pa_nil))) (pe_one (pe_not (pe_callB call_isiBool rfl T.f_isinstance (by decide +kernel) (pa_cons (pv 0) (pa_cons (pe_bltn (v := .ty "bool") rfl T.f_bool (by decide +kernel) rfl) pa_nil)))))))), ?_⟩
  exact ⟨_, rfl, n, rfl, true, rfl, iteT ⟨_, rfl, n, rfl, false, rfl, k⟩⟩
def sp_is_within (K : PySem.W.Frag) : Sp := fun vs H Q _ => ∃ n lo hi : Int, vs = [.int n, .int lo, .int hi] ∧ Q (.bl (decide (lo ≤ n ∧ n ≤ hi))) H
theorem sc_is_within : FnScope ["thing", "least", "most"] ["thing", "least", "most"] (defScope s_is_within) := ⟨rfl, rfl, rfl, by decide +kernel, rfl, by decide +kernel, by decide +kernel⟩
theorem c_is_within (T : Tx K mg) : Cal P w K mg base 2 "is_within" (sp_is_within K) := by
  refine cal_mk T.is_within (fun _ _ _ _ _ _ us hl => match us, hl with | [_, _, _], _ => rfl) sc_is_within (fun vs H Q E h => by (obtain ⟨n, lo, hi, rfl, k⟩ := h; rfl)) (fun f cdv A outer s H vs Q E hr h => ?_)
  obtain ⟨n, lo, hi, rfl, k⟩ := h
  refine ⟨_, (pss_one (ps_ret (pe_and (pe_c (c_is_integer T) hr (by decide) rfl (pa_cons (pv 0) pa_nil)) (pe_one (pe_chain op_le op_le (pv 1) (pv 0) (pv 2)))))), ?_⟩
  refine ⟨_, rfl, n, rfl, true, rfl, iteT ?_⟩
  refine ⟨_, rfl, _, rfl, _, _, rfl, rfl, _, rfl, ?_⟩
  by_cases h1 : lo ≤ n
  · rw [decide_eq_true h1]
    refine iteT ⟨_, rfl, _, _, rfl, rfl, ?_⟩
    simpa [h1] using k
  · rw [decide_eq_false h1]
    refine iteF ?_
    simpa [h1] using k
def sp_is_pair (K : PySem.W.Frag) : Sp := fun vs H Q _ => ∃ (a : Addr) (xs : List V), vs = [.ref a] ∧ H a = some (.tup xs) ∧ xs.length = 2 ∧ Q (.bl true) H
theorem sc_is_pair : FnScope ["thing"] ["thing"] (defScope s_is_pair) := ⟨rfl, rfl, rfl, by decide +kernel, rfl, by decide +kernel, by decide +kernel⟩
theorem c_is_pair (T : Tx K mg) : Cal P w K mg base 1 "is_pair" (sp_is_pair K) := by
  refine cal_mk T.is_pair (fun _ _ _ _ _ _ us hl => match us, hl with | [_], _ => rfl) sc_is_pair (fun vs H Q E h => by (obtain ⟨a, xs, rfl, ha, hl, k⟩ := h; rfl)) (fun f cdv A outer s H vs Q E hr h => ?_)
  obtain ⟨a, xs, rfl, ha, hl, k⟩ := h
  refine ⟨_, (pss_one (ps_ret (pe_and (pe_callB call_isiTup rfl T.f_isinstance (by decide +kernel) (pa_cons (pv 0) (pa_cons (pe_bltn (v := .ty "tuple") rfl T.f_tuple (by decide +kernel) rfl) pa_nil))) (pe_one (pe_cmpR op_eq (pe_callB call_len_seq rfl T.f_len PySem.boot_len (pa_cons (pv 0) pa_nil)) pe_int (nomark _)))))), ?_⟩
  refine ⟨_, rfl, a, xs, rfl, ha, true, rfl, iteT ?_⟩
  refine ⟨_, rfl, _, _, rfl, .inr (SqT.of ha), rfl, ?_⟩
  simpa [hl] using k
def sp_is_triple (K : PySem.W.Frag) : Sp := fun vs H Q _ => ∃ (a : Addr) (xs : List V), vs = [.ref a] ∧ H a = some (.tup xs) ∧ xs.length = 3 ∧ Q (.bl true) H
theorem sc_is_triple : FnScope ["thing"] ["thing"] (defScope s_is_triple) := ⟨rfl, rfl, rfl, by decide +kernel, rfl, by decide +kernel, by decide +kernel⟩
theorem c_is_triple (T : Tx K mg) : Cal P w K mg base 1 "is_triple" (sp_is_triple K) := by
  refine cal_mk T.is_triple (fun _ _ _ _ _ _ us hl => match us, hl with | [_], _ => rfl) sc_is_triple (fun vs H Q E h => by (obtain ⟨a, xs, rfl, ha, hl, k⟩ := h; rfl)) (fun f cdv A outer s H vs Q E hr h => ?_)
  obtain ⟨a, xs, rfl, ha, hl, k⟩ := h
  refine ⟨_, (pss_one (ps_ret (pe_and (pe_callB call_isiTup rfl T.f_isinstance (by decide +kernel) (pa_cons (pv 0) (pa_cons (pe_bltn (v := .ty "tuple") rfl T.f_tuple (by decide +kernel) rfl) pa_nil))) (pe_one (pe_cmpR op_eq (pe_callB call_len_seq rfl T.f_len PySem.boot_len (pa_cons (pv 0) pa_nil)) pe_int (nomark _)))))), ?_⟩
  refine ⟨_, rfl, a, xs, rfl, ha, true, rfl, iteT ?_⟩
  refine ⟨_, rfl, _, _, rfl, .inr (SqT.of ha), rfl, ?_⟩
  simpa [hl] using k
/-- the size triple -/
def sp_are_sizes (K : PySem.W.Frag) : Sp := fun vs H Q _ => ∃ (v : V) (s : Stp), vs = [v] ∧ Tv H v (stT s) ∧ (1 ≤ s.1 ∧ s.1 ≤ 4) ∧ (1 ≤ s.2.1 ∧ s.2.1 ≤ 4) ∧ (1 ≤ s.2.2 ∧ s.2.2 ≤ 4) ∧ ∀ H', Same H H' → Q (.bl true) H'
theorem sc_are_sizes : FnScope ["thing", "size"] ["thing"] (defScope s_are_sizes) := ⟨rfl, rfl, rfl, by decide +kernel, rfl, by decide +kernel, by decide +kernel⟩
theorem c_are_sizes (T : Tx K mg) : Cal P w K mg base 3 "are_sizes" (sp_are_sizes K) := by
  obtain ⟨tMOST_SIZE, hMOST_SIZE⟩ := T.i_MOST_SIZE
  refine cal_mk T.are_sizes (fun _ _ _ _ _ _ us hl => match us, hl with | [_], _ => rfl) sc_are_sizes (fun vs H Q E h => by (obtain ⟨v, s, rfl, hv, h1, h2, h3, k⟩ := h; rfl)) (fun f cdv A outer s H vs Q E hr h => ?_)
  obtain ⟨v, s, rfl, hv, h1, h2, h3, k⟩ := h
  refine ⟨_, (pss_one (ps_ret (pe_and (pe_c (c_is_triple T) hr (by decide) rfl (pa_cons (pv 0) pa_nil)) (pe_one (pe_callB (cr_all rfl) rfl T.f_all (by decide +kernel) (pa_cons (pe_lc (own := [("size", 1)]) rfl sc_are_sizes.nd (pi_tup (pv 0)) (blkOk_by (own := [("size", 1)]) (N := ["thing", "size"]) (sc := defScope s_are_sizes) (by decide +kernel)) (fun _ _ _ _ _ => (pg_name (i := 1) sc_are_sizes.nd rfl (Or.inl rfl))) (fun _ _ _ _ _ => pts_nil) (fun _ _ _ _ _ => (pe_c (c_is_within T) hr (by decide) rfl (pa_cons (pv 1) (pa_cons pe_int (pa_cons (pe_glob (v := .int 4) rfl hMOST_SIZE ⟨_, rfl⟩) pa_nil)))))) pa_nil)))))), ?_⟩
  obtain ⟨a, rfl, ha⟩ := hv.stp
  refine ⟨_, rfl, a, _, rfl, ha, rfl, true, rfl, iteT ?_⟩
  refine ⟨_, rfl, a, rfl, ⟨_, SqT.of ha⟩, fun D hD => ?_⟩
  refine lcT (K := K) (fun _ ts => ∀ t ∈ ts, t = .b true) hD ha (by show 3 ≤ _; decide) (fun _ z => nomatch z) (fun i x H' ts hi s1 hl hj R R' c1 c2 => ?_) fun H' ts s1 l hl hj => ?_
  · obtain ⟨n, rfl, hn⟩ : ∃ n : Int, x = .int n ∧ 1 ≤ n ∧ n ≤ 4 := by
      match i, hi with
      | 0, hi => exact ⟨_, (Option.some.inj hi).symm, h1⟩
      | 1, hi => exact ⟨_, (Option.some.inj hi).symm, h2⟩
      | 2, hi => exact ⟨_, (Option.some.inj hi).symm, h3⟩
      | i + 3, hi => simp at hi
    refine ⟨rfl, _, rfl, n, 1, 4, rfl, ?_⟩
    rw [decide_eq_true hn]
    exact c1 _ _ _ (Same.refl _) (.b true) fun t ht => (List.mem_append.mp ht).elim (hj t) fun z => by simpa using z
  · exact all_true l hj (k H' s1)
end
end Fx

/-! checks of the parts -/
namespace Fx
open PySem PySem.Spec PyProof.Rows L2
/-! ### right parts -/
def mvL (m : Mv) : List Int := [m.1, m.2.1, m.2.2.1, m.2.2.2]
def mvC (m : Mv) : Int := TS.code 8 (mvL m)
theorem mvC_eq (m : Mv) : mvC m = m.1 * 512 + m.2.1 * 64 + m.2.2.1 * 8 + m.2.2.2 := by
  simp only [mvC, mvL, TS.code, List.length_cons, List.length_nil]
  omega
def MvOk (s : Stp) (n : Int) (m : Mv) : Prop := (0 ≤ m.1 ∧ m.1 < s.1) ∧ (0 ≤ m.2.1 ∧ m.2.1 < s.2.1) ∧ (0 ≤ m.2.2.1 ∧ m.2.2.1 < s.2.2) ∧ (0 ≤ m.2.2.2 ∧ m.2.2.2 < n)
structure RowOk (s : Stp) (n : Int) (r : List Mv) : Prop where
  ok : ∀ m ∈ r, MvOk s n m
  asc : r.Pairwise fun m m' => mvC m < mvC m'
  len : r.length ≤ 9
structure CloOk (s : Stp) (c : List Int) : Prop where
  ok : ∀ m ∈ c, 0 ≤ m ∧ m < s.2.2
  asc : c.Pairwise fun m m' => m < m'
  len : c.length ≤ 60
structure Parts where
  sz : Stp
  rows : List (List Mv)
  clo : List (List Int)
structure POk (p : Parts) : Prop where
  s1 : 1 ≤ p.sz.1 ∧ p.sz.1 ≤ 3
  s2 : 1 ≤ p.sz.2.1 ∧ p.sz.2.1 ≤ 3
  s3 : 1 ≤ p.sz.2.2 ∧ p.sz.2.2 ≤ 3
  n : 1 ≤ p.rows.length ∧ p.rows.length ≤ 5
  rows : ∀ r ∈ p.rows, RowOk p.sz p.rows.length r
  cn : p.clo.length = p.rows.length
  clo : ∀ c ∈ p.clo, CloOk p.sz c
def rowT (r : List Mv) : T := .t (r.map mvT)
def rowsT (p : Parts) : T := .t (p.rows.map rowT)
def cloT (p : Parts) : T := .t (p.clo.map isT)
def partsT (p : Parts) : T := .t [stT p.sz, rowsT p, cloT p]
theorem ge_mv {m m' : Mv} {s s' : Stp} {n n' : Int} (h1 : MvOk s n m) (h2 : MvOk s' n' m') (b : s.1 ≤ 8 ∧ s.2.1 ≤ 8 ∧ s.2.2 ≤ 8 ∧ n ≤ 8) (b' : s'.1 ≤ 8 ∧ s'.2.1 ≤ 8 ∧ s'.2.2 ≤ 8 ∧ n' ≤ 8) (h : mvC m < mvC m') :
    Ob.lexAt (fun j => decide ((mvL m).getD j 0 = (mvL m').getD j 0)) (fun j => decide ((mvL m').getD j 0 ≤ (mvL m).getD j 0)) (decide ((mvL m).length ≥ (mvL m').length)) 0 (min (mvL m).length (mvL m').length) = false := by
  obtain ⟨a, b1, c, d⟩ := m
  obtain ⟨a', b1', c', d'⟩ := m'
  rw [mvC_eq, mvC_eq] at h
  unfold MvOk at h1 h2
  simp only at h h1 h2
  show Ob.lexAt _ _ _ 0 4 = false
  simp only [Ob.lexAt_succ, Ob.lexAt_zero, mvL, decide_eq_true_eq, List.getD_cons_zero, List.getD_cons_succ, List.getD_eq_getElem?_getD]
  simp
  split
  · split
    · split
      · omega
      · omega
    · omega
  · omega
section
variable {P : Program} {w : World} {K : PySem.W.Frag} {mg : Str → Option Value} {base : Heap}
def AscI (xs : List V) : Prop := ∃ ns : List Int, xs = ns.map V.int ∧ ns.Pairwise (· < ·)
def AscM (H : Hp) (xs : List V) : Prop := ∃ (ms : List Mv) (s : Stp) (n : Int), TvA H xs (ms.map mvT) ∧ (∀ m ∈ ms, MvOk s n m) ∧ (s.1 ≤ 8 ∧ s.2.1 ≤ 8 ∧ s.2.2 ≤ 8 ∧ n ≤ 8) ∧ ms.Pairwise fun m m' => mvC m < mvC m'
theorem asc_at {α : Type} {R : α → α → Prop} {l : List α} (h : l.Pairwise R) {i : Nat} {x y : α} (e1 : l[i]? = some x) (e2 : l[i + 1]? = some y) : R x y := by
  obtain ⟨h1, rfl⟩ := List.getElem?_eq_some_iff.mp e1
  obtain ⟨h2, rfl⟩ := List.getElem?_eq_some_iff.mp e2
  exact (List.pairwise_iff_getElem.mp h) i (i + 1) h1 h2 (by omega)
def sp_are_ascending (K : PySem.W.Frag) : Sp := fun vs H Q _ => ∃ (a : Addr) (xs : List V), vs = [.ref a] ∧ H a = some (.tup xs) ∧ xs.length ≤ 1000 ∧ (AscI xs ∨ AscM H xs) ∧ Q (.bl true) H
theorem sc_are_ascending : FnScope ["things", "at"] ["things"] (defScope s_are_ascending) := ⟨rfl, rfl, rfl, by decide +kernel, rfl, by decide +kernel, by decide +kernel⟩
theorem c_are_ascending (T : Tx K mg) : Cal P w K mg base 1 "are_ascending" (sp_are_ascending K) := by
  refine cal_mk T.are_ascending (fun _ _ _ _ _ _ us hl => match us, hl with | [_], _ => rfl) sc_are_ascending (fun vs H Q E h => by (obtain ⟨a, xs, rfl, ha, hl, hA, k⟩ := h; rfl)) (fun f cdv A outer s H vs Q E hr h => ?_)
  obtain ⟨a, xs, rfl, ha, hl, hA, k⟩ := h
  refine ⟨_, (pss_cons (ps_for PassesOwn.never rfl (pi_range2 rfl T.f_range (pa_cons pe_int (pa_cons (pe_callB call_len_seq rfl T.f_len PySem.boot_len (pa_cons (pv 0) pa_nil)) pa_nil))) (pg_name (i := 1) sc_are_ascending.nd rfl (Or.inl rfl))
      (pss_one (ps_if (pt_cmpR (OpR.or op_ge (op_geT hr.units0)) (pe_ix ix_tup (pv 0) (pe_op op_sub (pv 1) pe_int) (fun _ _ => rfl)) (pe_ix ix_tup (pv 0) (pv 1) (fun _ _ => rfl)) (nomark _))
        (pss_one (ps_ret pe_bl))
        pss_nil)))
    (pss_one (ps_ret pe_bl))), ?_⟩
  refine ⟨_, rfl, _, _, rfl, .inr (SqT.of ha), 1, xs.length, rfl, ⟨by decide, by decide, by omega, by omega⟩, ?_⟩
  refine for_range (lo := 1) (n := ((xs.length : Int) - 1).toNat) (fun i σ H' => H' = H ∧ ∃ v, σ = [some (.ref a), v]) ⟨rfl, none, rfl⟩ ?_ ?_
  · rintro i σ H' hi ⟨rfl, v, rfl⟩
    have hi2 : i + 1 < xs.length := by omega
    obtain ⟨x, hx⟩ : ∃ x, xs[i]? = some x := ⟨_, List.getElem?_eq_getElem (by omega)⟩
    obtain ⟨y, hy⟩ : ∃ y, xs[i + 1]? = some y := ⟨_, List.getElem?_eq_getElem (by omega)⟩
    refine ⟨_, rfl, _, rfl, _, _, rfl, rfl, a, xs, _, x, rfl, rfl, SqT.of ha, at_of (j := i) (by omega) hx, ?_⟩
    refine ⟨_, rfl, _, rfl, a, xs, _, y, rfl, rfl, SqT.of ha, at_of (j := i + 1) (by omega) hy, ?_⟩
    rcases hA with ⟨ns, rfl, hp⟩ | ⟨ms, s, n, hT, hok, hb, hp⟩
    · rw [List.getElem?_map] at hx hy
      obtain ⟨m, hm, rfl⟩ := Option.map_eq_some_iff.mp hx
      obtain ⟨m', hm', rfl⟩ := Option.map_eq_some_iff.mp hy
      have hlt := asc_at hp hm hm'
      refine .inl ⟨m, m', rfl, rfl, _, rfl, ?_⟩
      rw [decide_eq_false (by omega)]
      exact iteF ⟨rfl, _, rfl⟩
    · obtain ⟨t, ht, tx⟩ := hT.at hx
      obtain ⟨t', ht', ty⟩ := hT.at hy
      rw [List.getElem?_map] at ht ht'
      obtain ⟨m, hm, rfl⟩ := Option.map_eq_some_iff.mp ht
      obtain ⟨m', hm', rfl⟩ := Option.map_eq_some_iff.mp ht'
      have hlt := asc_at hp hm hm'
      obtain ⟨p, rfl, hp1⟩ := tx.mv
      obtain ⟨q, rfl, hq1⟩ := ty.mv
      refine .inr ⟨p, q, mvL m, mvL m', rfl, rfl, SqT.of hp1, SqT.of hq1, _, rfl, ?_⟩
      rw [ge_mv (hok _ (List.mem_of_getElem? hm)) (hok _ (List.mem_of_getElem? hm')) hb hb hlt]
      exact iteF ⟨rfl, _, rfl⟩
  · rintro σ H' ⟨rfl, v, rfl⟩
    exact k
def sp_is_move (K : PySem.W.Frag) : Sp := fun vs H Q _ => ∃ (v v2 : V) (s : Stp) (n : Int) (m : Mv), vs = [v, .int n, v2] ∧ Tv H v (stT s) ∧ Tv H v2 (mvT m) ∧ MvOk s n m ∧ Q (.bl true) H
theorem sc_is_move : FnScope ["sizes", "many", "thing", "slips", "answers", "marks"] ["sizes", "many", "thing"] (defScope s_is_move) := ⟨rfl, rfl, rfl, by decide +kernel, rfl, by decide +kernel, by decide +kernel⟩
theorem c_is_move (T : Tx K mg) : Cal P w K mg base 3 "is_move" (sp_is_move K) := by
  refine cal_mk T.is_move (fun _ _ _ _ _ _ us hl => match us, hl with | [_, _, _], _ => rfl) sc_is_move (fun vs H Q E h => by (obtain ⟨v, v2, s, n, m, rfl, hv, hv2, hm, k⟩ := h; rfl)) (fun f cdv A outer s H vs Q E hr h => ?_)
  obtain ⟨v, v2, s, n, m, rfl, hv, hv2, hm, k⟩ := h
  refine ⟨_, (pss_cons (ps_if (PW.pt (pw_or (pt_not (pt_val (pe_callB call_isiTup rfl T.f_isinstance (by decide +kernel) (pa_cons (pv 2) (pa_cons (pe_bltn (v := .ty "tuple") rfl T.f_tuple (by decide +kernel) rfl) pa_nil))))) (pw_or1 (pt_cmpR op_ne (pe_callB call_len_seq rfl T.f_len PySem.boot_len (pa_cons (pv 2) pa_nil)) pe_int (nomark _)))))
      (pss_one (ps_ret pe_bl))
      pss_nil)
    (pss_cons (ps_asg (pv 0) (pg_tup rfl (pgs_cons (pg_name (i := 3) sc_is_move.nd rfl (Or.inl rfl)) (pgs_cons (pg_name (i := 4) sc_is_move.nd rfl (Or.inl rfl)) (pgs_cons (pg_name (i := 5) sc_is_move.nd rfl (Or.inl rfl)) pgs_nil)))))
    (pss_cons (ps_if (PW.pt (pw_or (pt_not (pt_val (pe_c (c_is_within T) hr (by decide) rfl (pa_cons (pe_ix ix_tup (pv 2) pe_int (fun _ _ => rfl)) (pa_cons pe_int (pa_cons (pe_op op_sub (pv 3) pe_int) pa_nil)))))) (pw_or1 (pt_not (pt_val (pe_c (c_is_within T) hr (by decide) rfl (pa_cons (pe_ix ix_tup (pv 2) pe_int (fun _ _ => rfl)) (pa_cons pe_int (pa_cons (pe_op op_sub (pv 4) pe_int) pa_nil)))))))))
      (pss_one (ps_ret pe_bl))
      pss_nil)
    (pss_one (ps_ret (pe_and (pe_c (c_is_within T) hr (by decide) rfl (pa_cons (pe_ix ix_tup (pv 2) pe_int (fun _ _ => rfl)) (pa_cons pe_int (pa_cons (pe_op op_sub (pv 5) pe_int) pa_nil)))) (pe_one (pe_c (c_is_within T) hr (by decide) rfl (pa_cons (pe_ix ix_tup (pv 2) pe_int (fun _ _ => rfl)) (pa_cons pe_int (pa_cons (pe_op op_sub (pv 1) pe_int) pa_nil))))))))))), ?_⟩
  obtain ⟨a, rfl, ha⟩ := hv.stp
  obtain ⟨b, rfl, hb⟩ := hv2.mv
  refine ⟨_, rfl, b, _, rfl, hb, true, rfl, _, rfl, _, _, rfl, .inr (SqT.of hb), rfl, _, rfl, iteNS rfl ?_⟩
  refine ⟨_, rfl, a, _, rfl, SqT.of ha, rfl, _, _, rfl, _, _, rfl, _, _, rfl, rfl, ?_⟩
  refine ⟨_, rfl, b, _, 0, _, rfl, rfl, SqT.of hb, rfl, _, rfl, _, _, rfl, rfl, _, _, _, rfl, _, rfl, iteNS (by have := hm.1; omega) ?_⟩
  refine ⟨_, rfl, b, _, 1, _, rfl, rfl, SqT.of hb, rfl, _, rfl, _, _, rfl, rfl, _, _, _, rfl, _, rfl, iteNS (by have := hm.2.1; omega) ?_⟩
  refine ⟨_, rfl, b, _, 2, _, rfl, rfl, SqT.of hb, rfl, _, rfl, _, _, rfl, rfl, _, _, _, rfl, _, rfl, ?_⟩
  rw [decide_eq_true (by have := hm.2.2.1; omega)]
  refine ⟨_, rfl, b, _, 3, _, rfl, rfl, SqT.of hb, rfl, _, rfl, _, _, rfl, rfl, _, _, _, rfl, ?_⟩
  rw [decide_eq_true (by have := hm.2.2.2; omega)]
  exact k
/-- all rows are right -/
def sp_are_moves (K : PySem.W.Frag) : Sp := fun vs H Q _ => ∃ (v v2 : V) (s : Stp) (rows : List (List Mv)), vs = [v, v2] ∧ Tv H v (stT s) ∧ Tv H v2 (.t (rows.map rowT)) ∧ (1 ≤ rows.length ∧ rows.length ≤ 5) ∧ (s.1 ≤ 8 ∧ s.2.1 ≤ 8 ∧ s.2.2 ≤ 8) ∧
  (∀ r ∈ rows, RowOk s rows.length r) ∧ ∀ H', Same H H' → Q (.bl true) H'
theorem sc_are_moves : FnScope ["sizes", "thing", "row", "move"] ["sizes", "thing"] (defScope s_are_moves) := ⟨rfl, rfl, rfl, by decide +kernel, rfl, by decide +kernel, by decide +kernel⟩
theorem c_are_moves (T : Tx K mg) : Cal P w K mg base 4 "are_moves" (sp_are_moves K) := by
  obtain ⟨tMOST_STANDINGS, hMOST_STANDINGS⟩ := T.i_MOST_STANDINGS
  refine cal_mk T.are_moves (fun _ _ _ _ _ _ us hl => match us, hl with | [_, _], _ => rfl) sc_are_moves (fun vs H Q E h => by (obtain ⟨v, v2, s, rows, rfl, hv, hv2, hn, hs, hr0, k⟩ := h; rfl)) (fun f cdv A outer s H vs Q E hr h => ?_)
  obtain ⟨v, v2, s, rows, rfl, hv, hv2, hn, hs, hr0, k⟩ := h
  refine ⟨_, (pss_cons (ps_if (PW.pt (pw_or (pt_not (pt_val (pe_callB call_isiTup rfl T.f_isinstance (by decide +kernel) (pa_cons (pv 1) (pa_cons (pe_bltn (v := .ty "tuple") rfl T.f_tuple (by decide +kernel) rfl) pa_nil))))) (pw_or1 (pt_not (pt_chain op_le op_le pe_int (pe_callB call_len_seq rfl T.f_len PySem.boot_len (pa_cons (pv 1) pa_nil)) (pe_glob (v := .int 20) rfl hMOST_STANDINGS ⟨_, rfl⟩))))))
      (pss_one (ps_ret pe_bl))
      pss_nil)
    (pss_cons (ps_for PassesOwn.never rfl (pi_tup (pv 1)) (pg_name (i := 2) sc_are_moves.nd rfl (Or.inl rfl))
      (pss_cons (ps_if (PW.pt (pw_or (pt_not (pt_val (pe_callB call_isiTup rfl T.f_isinstance (by decide +kernel) (pa_cons (pv 2) (pa_cons (pe_bltn (v := .ty "tuple") rfl T.f_tuple (by decide +kernel) rfl) pa_nil))))) (pw_or1 (pt_not (pt_val (pe_callB (cr_all rfl) rfl T.f_all (by decide +kernel) (pa_cons (pe_lc (own := [("move", 3)]) rfl sc_are_moves.nd (pi_tup (pv 2)) (blkOk_by (own := [("move", 3)]) (N := ["sizes", "thing", "row", "move"]) (sc := defScope s_are_moves) (by decide +kernel)) (fun _ _ _ _ _ => (pg_name (i := 3) sc_are_moves.nd rfl (Or.inl rfl))) (fun _ _ _ _ _ => pts_nil) (fun _ _ _ _ _ => (pe_c (c_is_move T) hr (by decide) rfl (pa_cons (pv 0) (pa_cons (pe_callB (call_len_seqK (K := K)) rfl T.f_len PySem.boot_len (pa_cons (pv 1) pa_nil)) (pa_cons (pv 3) pa_nil)))))) pa_nil)))))))
        (pss_one (ps_ret pe_bl))
        pss_nil)
      (pss_one (ps_if (pt_not (pt_val (pe_c (c_are_ascending T) hr (by decide) rfl (pa_cons (pv 2) pa_nil))))
        (pss_one (ps_ret pe_bl))
        pss_nil))))
    (pss_one (ps_ret pe_bl)))), ?_⟩
  obtain ⟨a, rfl, ha⟩ := hv.stp
  obtain ⟨b, xs, rfl, hb, hx⟩ := hv2.tup
  have hxl : xs.length = rows.length := by rw [hx.length, List.length_map]
  refine ⟨_, rfl, b, _, rfl, hb, true, rfl, _, rfl, _, _, rfl, .inr (SqT.of hb), _, _, rfl, rfl, _, rfl, ?_⟩
  rw [decide_eq_true (by omega)]
  refine ⟨_, _, rfl, rfl, _, rfl, ?_⟩
  rw [decide_eq_true (by omega)]
  refine ⟨_, rfl, b, rfl, ⟨_, SqT.of hb⟩, for_tup (K := K) (xs := xs) (fun i σ H' => Same H H' ∧ ∃ v v', σ = [some (.ref a), some (.ref b), v, v']) ⟨Same.refl _, none, none, rfl⟩ (fun i σ H' _ h => SqT.of (h.1 _ _ hb)) ?_ ?_⟩
  · rintro i x σ H' hi ⟨S, v, v', rfl⟩
    obtain ⟨t, ht, tx⟩ := hx.at hi
    rw [List.getElem?_map] at ht
    obtain ⟨r, hrr, rfl⟩ := Option.map_eq_some_iff.mp ht
    have R0 := hr0 r (List.mem_of_getElem? hrr)
    obtain ⟨c, ys, rfl, hc, hy⟩ := (tx.kt S.kt).tup
    have hyl : ys.length = r.length := by rw [hy.length, List.length_map]
    refine ⟨_, rfl, c, _, rfl, hc, true, rfl, _, rfl, c, rfl, ⟨_, SqT.of hc⟩, fun D hD => ?_⟩
    refine lcT (K := K) (fun _ ts => ∀ t ∈ ts, t = .b true) hD hc (by have := R0.len; omega) (fun _ z => nomatch z) (fun j x H2 ts hj s1 hl hJ Rk Rk' c1 c2 => ?_) fun H2 ts s1 l hl hJ => ?_
    · obtain ⟨t, ht2, tx2⟩ := hy.at hj
      rw [List.getElem?_map] at ht2
      obtain ⟨m, hm, rfl⟩ := Option.map_eq_some_iff.mp ht2
      refine ⟨rfl, _, rfl, _, rfl, _, _, rfl, .inr (SqT.of ((S.trans s1) _ _ hb)), _, rfl, _, _, s, _, m, rfl, hv.kt (S.trans s1).kt, tx2.kt s1.kt, ?_, ?_⟩
      · rw [hxl]
        exact R0.ok m (List.mem_of_getElem? hm)
      · exact c1 _ _ _ (Same.refl _) (.b true) fun t ht => (List.mem_append.mp ht).elim (hJ t) fun z => by simpa using z
    · obtain ⟨bs, eb, fb⟩ := trues hJ
      refine ⟨D, bs, rfl, SqL.of (l.bools eb), ?_⟩
      rw [fb]
      refine ⟨true, rfl, ?_⟩
      refine ⟨_, rfl, c, ys, rfl, s1 _ _ hc, by have := R0.len; omega, .inr ⟨r, s, rows.length, hy.kt s1.kt, R0.ok, ⟨hs.1, hs.2.1, hs.2.2, by omega⟩, R0.asc⟩, true, rfl, ?_⟩
      exact ⟨S.trans s1, _, _, rfl⟩
  · rintro σ H' ⟨S, v, v', rfl⟩
    exact k H' S
def sp_are_closings (K : PySem.W.Frag) : Sp := fun vs H Q _ => ∃ (v v2 : V) (s : Stp) (clo : List (List Int)), vs = [v, .int clo.length, v2] ∧ Tv H v (stT s) ∧ Tv H v2 (.t (clo.map isT)) ∧
  (∀ c ∈ clo, CloOk s c) ∧ ∀ H', Same H H' → Q (.bl true) H'
theorem sc_are_closings : FnScope ["sizes", "many", "thing", "row", "mark"] ["sizes", "many", "thing"] (defScope s_are_closings) := ⟨rfl, rfl, rfl, by decide +kernel, rfl, by decide +kernel, by decide +kernel⟩
theorem c_are_closings (T : Tx K mg) : Cal P w K mg base 3 "are_closings" (sp_are_closings K) := by
  refine cal_mk T.are_closings (fun _ _ _ _ _ _ us hl => match us, hl with | [_, _, _], _ => rfl) sc_are_closings (fun vs H Q E h => by (obtain ⟨v, v2, s, clo, rfl, hv, hv2, hr0, k⟩ := h; rfl)) (fun f cdv A outer s H vs Q E hr h => ?_)
  obtain ⟨v, v2, s, clo, rfl, hv, hv2, hr0, k⟩ := h
  refine ⟨_, (pss_cons (ps_if (PW.pt (pw_or (pt_not (pt_val (pe_callB call_isiTup rfl T.f_isinstance (by decide +kernel) (pa_cons (pv 2) (pa_cons (pe_bltn (v := .ty "tuple") rfl T.f_tuple (by decide +kernel) rfl) pa_nil))))) (pw_or1 (pt_cmpR op_ne (pe_callB call_len_seq rfl T.f_len PySem.boot_len (pa_cons (pv 2) pa_nil)) (pv 1) (nomark _)))))
      (pss_one (ps_ret pe_bl))
      pss_nil)
    (pss_cons (ps_for PassesOwn.never rfl (pi_tup (pv 2)) (pg_name (i := 3) sc_are_closings.nd rfl (Or.inl rfl))
      (pss_cons (ps_if (PW.pt (pw_or (pt_not (pt_val (pe_callB call_isiTup rfl T.f_isinstance (by decide +kernel) (pa_cons (pv 3) (pa_cons (pe_bltn (v := .ty "tuple") rfl T.f_tuple (by decide +kernel) rfl) pa_nil))))) (pw_or1 (pt_not (pt_val (pe_callB (cr_all rfl) rfl T.f_all (by decide +kernel) (pa_cons (pe_lc (own := [("mark", 4)]) rfl sc_are_closings.nd (pi_tup (pv 3)) (blkOk_by (own := [("mark", 4)]) (N := ["sizes", "many", "thing", "row", "mark"]) (sc := defScope s_are_closings) (by decide +kernel)) (fun _ _ _ _ _ => (pg_name (i := 4) sc_are_closings.nd rfl (Or.inl rfl))) (fun _ _ _ _ _ => pts_nil) (fun _ _ _ _ _ => (pe_c (c_is_within T) hr (by decide) rfl (pa_cons (pv 4) (pa_cons pe_int (pa_cons (pe_op op_sub (pe_ix (ix_tupK (K := K)) (pv 0) pe_int (fun _ _ => rfl)) pe_int) pa_nil)))))) pa_nil)))))))
        (pss_one (ps_ret pe_bl))
        pss_nil)
      (pss_one (ps_if (pt_not (pt_val (pe_c (c_are_ascending T) hr (by decide) rfl (pa_cons (pv 3) pa_nil))))
        (pss_one (ps_ret pe_bl))
        pss_nil))))
    (pss_one (ps_ret pe_bl)))), ?_⟩
  obtain ⟨a, rfl, ha⟩ := hv.stp
  obtain ⟨b, xs, rfl, hb, hx⟩ := hv2.tup
  have hxl : xs.length = clo.length := by rw [hx.length, List.length_map]
  refine ⟨_, rfl, b, _, rfl, hb, true, rfl, _, rfl, _, _, rfl, .inr (SqT.of hb), _, rfl, rfl, _, rfl, iteNS (by rw [hxl]) ?_⟩
  refine ⟨_, rfl, b, rfl, ⟨_, SqT.of hb⟩, for_tup (K := K) (xs := xs) (fun i σ H' => Same H H' ∧ ∃ v v', σ = [some (.ref a), some (.int clo.length), some (.ref b), v, v']) ⟨Same.refl _, none, none, rfl⟩ (fun i σ H' _ h => SqT.of (h.1 _ _ hb)) ?_ ?_⟩
  · rintro i x σ H' hi ⟨S, v, v', rfl⟩
    obtain ⟨t, ht, tx⟩ := hx.at hi
    rw [List.getElem?_map] at ht
    obtain ⟨r, hrr, rfl⟩ := Option.map_eq_some_iff.mp ht
    have R0 := hr0 r (List.mem_of_getElem? hrr)
    obtain ⟨c, rfl, hc⟩ := (tx.kt S.kt).is
    refine ⟨_, rfl, c, _, rfl, hc, true, rfl, _, rfl, c, rfl, ⟨_, SqT.of hc⟩, fun D hD => ?_⟩
    refine lcT (K := K) (fun _ ts => ∀ t ∈ ts, t = .b true) hD hc (by rw [List.length_map]; have := R0.len; omega) (fun _ z => nomatch z) (fun j x H2 ts hj s1 hl hJ Rk Rk' c1 c2 => ?_) fun H2 ts s1 l hl hJ => ?_
    · rw [List.getElem?_map] at hj
      obtain ⟨m, hm, rfl⟩ := Option.map_eq_some_iff.mp hj
      have hm2 := R0.ok m (List.mem_of_getElem? hm)
      refine ⟨rfl, _, rfl, _, rfl, a, _, 2, _, rfl, rfl, SqT.of ((S.trans s1) _ _ ha), rfl, _, _, rfl, rfl, m, 0, _, rfl, ?_⟩
      rw [decide_eq_true (by omega)]
      exact c1 _ _ _ (Same.refl _) (.b true) fun t ht => (List.mem_append.mp ht).elim (hJ t) fun z => by simpa using z
    · obtain ⟨bs, eb, fb⟩ := trues hJ
      refine ⟨D, bs, rfl, SqL.of (l.bools eb), ?_⟩
      rw [fb]
      refine ⟨true, rfl, ?_⟩
      refine ⟨_, rfl, c, _, rfl, s1 _ _ hc, by rw [List.length_map]; have := R0.len; omega, .inl ⟨r, rfl, R0.asc⟩, true, rfl, ?_⟩
      exact ⟨S.trans s1, _, _, rfl⟩
  · rintro σ H' ⟨S, v, v', rfl⟩
    exact k H' S
end
end Fx

/-! the Office -/
namespace Fx
open PySem PySem.Spec PyProof.Rows L2
theorem valV_mem {κ : Type} [DecidableEq κ] {kvs : List (κ × V)} {k : κ} {v : V} (h : valV kvs k = some v) : (k, v) ∈ kvs := by
  unfold valV at h
  obtain ⟨p, h1, h2⟩ := Option.map_eq_some_iff.mp h
  have h3 := List.mem_of_find?_eq_some h1
  have h4 := List.find?_some h1
  have h5 : p.1 = k := of_decide_eq_true h4
  obtain ⟨p1, p2⟩ := p
  simp only at h5 h2
  subst h5 h2
  exact h3
theorem valV_none {κ : Type} [DecidableEq κ] {kvs : List (κ × V)} {k : κ} (h : valV kvs k = none) : ∀ v, (k, v) ∉ kvs := fun v hm => by
  unfold valV at h
  have h1 := Option.map_eq_none_iff.mp h
  have h2 := List.find?_eq_none.mp h1 _ hm
  simp at h2
/-! ### where each step leads, as a dict -/
def keyS (s : Stp) : List L2.Key := [.inl s.1, .inl s.2.1, .inl s.2.2]
theorem keyS_inj {s t : Stp} (h : keyS s = keyS t) : s = t := by
  obtain ⟨a, b, c⟩ := s
  obtain ⟨a', b', c'⟩ := t
  simp only [keyS, List.cons.injEq, Sum.inl.injEq, and_true] at h
  obtain ⟨h1, h2, h3⟩ := h
  rw [h1, h2, h3]
def mvOf (s : Stp) (g : Int) : Mv := (s.1, s.2.1, s.2.2, g)
def stOf (m : Mv) : Stp := (m.1, m.2.1, m.2.2.1)
structure GoI (Hb H : Hp) (kvs : List (List L2.Key × V)) (r : List Mv) : Prop where
  len : kvs.length ≤ r.length
  nk : (kvs.map (·.1)).Nodup
  nv : (kvs.map (·.2)).Nodup
  at_ : ∀ k v, (k, v) ∈ kvs → ∃ (s : Stp) (l : Addr) (gs : List Int), k = keyS s ∧ v = .ref l ∧ Hb l = none ∧ H l = some (.lst (gs.map V.int)) ∧ gs.length ≤ r.length ∧ ∀ g, g ∈ gs ↔ mvOf s g ∈ r
  all : ∀ m ∈ r, ∃ v, (keyS (stOf m), v) ∈ kvs
theorem gi_nil {Hb H : Hp} : GoI Hb H [] [] := ⟨Nat.le_refl _, List.nodup_nil, List.nodup_nil, (fun _ _ z => nomatch z), (fun _ z => nomatch z)⟩
theorem GoI.keep {Hb H H' : Hp} {kvs : List (List L2.Key × V)} {r : List Mv} (g : GoI Hb H kvs r) (s : Same H H') : GoI Hb H' kvs r :=
  ⟨g.len, g.nk, g.nv, fun k v h => let ⟨a, l, gs, e1, e2, e3, e4, e5, e6⟩ := g.at_ k v h; ⟨a, l, gs, e1, e2, e3, s _ _ e4, e5, e6⟩, g.all⟩
theorem mv_split (m : Mv) (s : Stp) (g : Int) : mvOf s g = m ↔ s = stOf m ∧ g = m.2.2.2 := by
  obtain ⟨a, b, c, d⟩ := m
  obtain ⟨a', b', c'⟩ := s
  simp [mvOf, stOf, and_assoc]
/-- the key is there: its list grows -/
theorem gi_old {Hb H H' : Hp} {kvs : List (List L2.Key × V)} {r : List Mv} {m : Mv} {l : Addr} {gs : List Int} (g : GoI Hb H kvs r) (hm : (keyS (stOf m), V.ref l) ∈ kvs) (hl : H l = some (.lst (gs.map V.int)))
    (o : Off l H H') (h' : H' l = some (.lst (gs.map V.int ++ [.int m.2.2.2]))) : GoI Hb H' kvs (r ++ [m]) := by
  refine ⟨by rw [List.length_append]; have := g.len; omega, g.nk, g.nv, fun k v h => ?_, fun m' hm' => ?_⟩
  · obtain ⟨s, l', gs', e1, e2, e3, e4, e5, e6⟩ := g.at_ k v h
    by_cases el : l' = l
    · subst el
      subst e2
      have ek : k = keyS (stOf m) := by
        have h1 := List.getElem_of_mem h
        obtain ⟨i, hi, ei⟩ := List.getElem_of_mem h
        obtain ⟨j, hj, ej⟩ := List.getElem_of_mem hm
        have hij : i = j := by
          have hn := g.nv
          have z1 : (kvs.map (·.2))[i]'(by simpa using hi) = V.ref l' := by simp [ei]
          have z2 : (kvs.map (·.2))[j]'(by simpa using hj) = V.ref l' := by simp [ej]
          exact (List.getElem_inj hn).mp (z1.trans z2.symm)
        subst hij
        rw [ei] at ej
        exact congrArg Prod.fst ej
      have es : s = stOf m := keyS_inj (e1.symm.trans ek)
      rw [hl] at e4
      have eg : gs' = gs := by
        have z : gs.map V.int = gs'.map V.int := by
          injection e4 with z
          injection z
        exact (List.map_inj_right (fun a b q => by injection q)).mp z.symm
      subst eg
      refine ⟨s, l', gs' ++ [m.2.2.2], e1, rfl, e3, by rw [h', List.map_append]; rfl, by rw [List.length_append, List.length_append]; simpa using e5, fun x => ?_⟩
      rw [List.mem_append, List.mem_append, e6 x, List.mem_singleton, List.mem_singleton, mv_split]
      constructor
      · rintro (z | z)
        · exact .inl z
        · exact .inr ⟨es, z⟩
      · rintro (z | z)
        · exact .inl z
        · exact .inr z.2
    · refine ⟨s, l', gs', e1, e2, e3, by rw [o l' el]; exact e4, by rw [List.length_append]; omega, fun x => ?_⟩
      rw [List.mem_append, List.mem_singleton, e6 x, mv_split]
      refine ⟨.inl, fun z => z.elim id fun z => ?_⟩
      exfalso
      have h2 : (keyS (stOf m), v) ∈ kvs := by rw [← z.1, ← e1]; exact h
      obtain ⟨i, hi, ei⟩ := List.getElem_of_mem h2
      obtain ⟨j, hj, ej⟩ := List.getElem_of_mem hm
      have hij : i = j := by
        have hn := g.nk
        have z1 : (kvs.map (·.1))[i]'(by simpa using hi) = keyS (stOf m) := by simp [ei]
        have z2 : (kvs.map (·.1))[j]'(by simpa using hj) = keyS (stOf m) := by simp [ej]
        exact (List.getElem_inj hn).mp (z1.trans z2.symm)
      subst hij
      rw [ei] at ej
      have ev : v = V.ref l := congrArg Prod.snd ej
      rw [e2] at ev
      injection ev with ev
      exact el ev
  · rcases List.mem_append.mp hm' with z | z
    · exact g.all m' z
    · rw [List.mem_singleton.mp z]
      exact ⟨_, hm⟩
/-- a new key with a new list -/
theorem gi_new {Hb H H' : Hp} {kvs : List (List L2.Key × V)} {r : List Mv} {m : Mv} {l : Addr} (g : GoI Hb H kvs r) (hn : ∀ v, (keyS (stOf m), v) ∉ kvs) (hl : Hb l = none) (hf : ∀ k, (k, V.ref l) ∉ kvs)
    (o : ∀ k v a, (k, v) ∈ kvs → v = V.ref a → H' a = H a) (h' : H' l = some (.lst [.int m.2.2.2])) : GoI Hb H' (kvs ++ [(keyS (stOf m), .ref l)]) (r ++ [m]) := by
  have nd : ∀ {α : Type} {xs : List α} {x : α}, xs.Nodup → x ∉ xs → (xs ++ [x]).Nodup := fun {α xs x} h1 h2 => by
    rw [List.nodup_append]
    refine ⟨h1, by simp, fun a ha b hb e => ?_⟩
    rw [List.mem_singleton.mp hb] at e
    exact h2 (e ▸ ha)
  refine ⟨by rw [List.length_append, List.length_append]; have := g.len; simpa using this, ?_, ?_, fun k v h => ?_, fun m' hm' => ?_⟩
  · rw [List.map_append]
    refine nd g.nk fun z => ?_
    obtain ⟨p, hp, ep⟩ := List.mem_map.mp z
    exact hn p.2 (by rw [show (keyS (stOf m), p.2) = p from Prod.ext ep.symm rfl]; exact hp)
  · rw [List.map_append]
    refine nd g.nv fun z => ?_
    obtain ⟨p, hp, ep⟩ := List.mem_map.mp z
    exact hf p.1 (by rw [show (p.1, V.ref l) = p from Prod.ext rfl ep.symm]; exact hp)
  · rcases List.mem_append.mp h with h | h
    · obtain ⟨s, l', gs', e1, e2, e3, e4, e5, e6⟩ := g.at_ k v h
      refine ⟨s, l', gs', e1, e2, e3, by rw [o k v l' h e2]; exact e4, by rw [List.length_append]; omega, fun x => ?_⟩
      rw [List.mem_append, List.mem_singleton, e6 x, mv_split]
      refine ⟨.inl, fun z => z.elim id fun z => ?_⟩
      exfalso
      exact hn v (by rw [← z.1, ← e1]; exact h)
    · have e := List.mem_singleton.mp h
      injection e with ek ev
      refine ⟨stOf m, l, [m.2.2.2], ek, ev, hl, h', by rw [List.length_append]; simp, fun x => ?_⟩
      rw [List.mem_append, List.mem_singleton, List.mem_singleton, mv_split]
      constructor
      · intro z; exact .inr ⟨rfl, z⟩
      · rintro (z | z)
        · exfalso
          obtain ⟨v', hv'⟩ := g.all _ z
          exact hn v' (by simpa [mvOf, stOf] using hv')
        · exact z.2
  · rcases List.mem_append.mp hm' with z | z
    · obtain ⟨v, hv⟩ := g.all m' z
      exact ⟨v, List.mem_append_left _ hv⟩
    · rw [List.mem_singleton.mp z]
      exact ⟨_, List.mem_append_right _ (List.mem_singleton.mpr rfl)⟩
/-- .. whose lists stand nowhere in Hb -/
def GoB (Hb H : Hp) (d : Addr) (r : List Mv) : Prop := ∃ kvs, H d = some (.dT kvs) ∧ GoI Hb H kvs r
theorem GoB.off {Hb H H' : Hp} {d L : Addr} {r : List Mv} {o : HO} {xs : List V} (g : GoB Hb H d r) (f : Off L H H') (hb : Hb L = some o) (hL : H L = some (.lst xs)) : GoB Hb H' d r := by
  obtain ⟨kv, g1, g2⟩ := g
  refine ⟨kv, by rw [f d (ne_of g1 hL fun z => nomatch z)]; exact g1, g2.len, g2.nk, g2.nv, fun kk vv hk => ?_, g2.all⟩
  obtain ⟨sx, l, gs, e1, e2, e3, e4, e5, e6⟩ := g2.at_ kk vv hk
  exact ⟨sx, l, gs, e1, e2, e3, by rw [f l (ne_of_none hb e3).symm]; exact e4, e5, e6⟩
theorem GoB.same {Hb H H' : Hp} {d : Addr} {r : List Mv} (g : GoB Hb H d r) (s : Same H H') : GoB Hb H' d r := let ⟨kvs, h1, h2⟩ := g; ⟨kvs, s _ _ h1, h2.keep s⟩
theorem GoI.base {Hb Hc H : Hp} {kvs : List (List L2.Key × V)} {r : List Mv} (g : GoI Hb H kvs r) (h : ∀ l, Hb l = none → Hc l = none) : GoI Hc H kvs r :=
  ⟨g.len, g.nk, g.nv, fun k v hk => let ⟨a, l, gs, e1, e2, e3, e4, e5, e6⟩ := g.at_ k v hk; ⟨a, l, gs, e1, e2, h l e3, e4, e5, e6⟩, g.all⟩
/-- the dict of a standing -/
def GoAt (H : Hp) (d : Addr) (r : List Mv) : Prop := ∃ kvs, H d = some (.dT kvs) ∧ GoI (fun _ => none) H kvs r
theorem GoI.any {Hb H : Hp} {kvs : List (List L2.Key × V)} {r : List Mv} (g : GoI Hb H kvs r) : GoI (fun _ => none) H kvs r :=
  ⟨g.len, g.nk, g.nv, fun k v h => let ⟨a, l, gs, e1, e2, e3, e4, e5, e6⟩ := g.at_ k v h; ⟨a, l, gs, e1, e2, rfl, e4, e5, e6⟩, g.all⟩
theorem GoAt.same {H H' : Hp} {d : Addr} {r : List Mv} (g : GoAt H d r) (s : Same H H') : GoAt H' d r := let ⟨kvs, h1, h2⟩ := g; ⟨kvs, s _ _ h1, h2.keep s⟩
/-! ### the Office -/
theorem n1 : ¬ (("sizes" : Str) = "moves") := by decide +kernel
theorem n2 : ¬ (("sizes" : Str) = "closings") := by decide +kernel
theorem n3 : ¬ (("moves" : Str) = "closings") := by decide +kernel
theorem n4 : ¬ (("sizes" : Str) = "kept_goals") := by decide +kernel
theorem n5 : ¬ (("moves" : Str) = "kept_goals") := by decide +kernel
theorem n6 : ¬ (("closings" : Str) = "kept_goals") := by decide +kernel
def offF (v1 v2 v3 : V) (L : Addr) : List (Str × V) := [("sizes", v1), ("moves", v2), ("closings", v3), ("kept_goals", .ref L)]
theorem pf1 (v1 : V) : putF "sizes" v1 [] = ([("sizes", v1)] : List (Str × V)) := rfl
theorem pf2 (v1 v2 : V) : putF "moves" v2 [("sizes", v1)] = ([("sizes", v1), ("moves", v2)] : List (Str × V)) := by simp only [putF, if_neg n1]
theorem pf3 (v1 v2 v3 : V) : putF "closings" v3 [("sizes", v1), ("moves", v2)] = ([("sizes", v1), ("moves", v2), ("closings", v3)] : List (Str × V)) := by simp only [putF, if_neg n2, if_neg n3]
theorem pf4 (v1 v2 v3 : V) (L : Addr) : putF "kept_goals" (.ref L) [("sizes", v1), ("moves", v2), ("closings", v3)] = offF v1 v2 v3 L := by simp only [putF, if_neg n4, if_neg n5, if_neg n6, offF]
theorem lk {f g : Str} {v : V} {r : List (Str × V)} : ((g, v) :: r).lookup f = if g = f then some v else r.lookup f := by
  rw [List.lookup_cons]
  by_cases h : g = f
  · subst h
    rw [if_pos rfl, beq_self_eq_true]
  · rw [if_neg h, beq_eq_false_iff_ne.mpr fun z => h z.symm]
theorem of1 {v1 v2 v3 : V} {L : Addr} : (offF v1 v2 v3 L).lookup ("sizes" : Str) = some v1 := by simp only [offF, lk, if_true]
theorem of2 {v1 v2 v3 : V} {L : Addr} : (offF v1 v2 v3 L).lookup ("moves" : Str) = some v2 := by simp only [offF, lk, if_neg n1, if_true]
theorem of3 {v1 v2 v3 : V} {L : Addr} : (offF v1 v2 v3 L).lookup ("closings" : Str) = some v3 := by simp only [offF, lk, if_neg n2, if_neg n3, if_true]
theorem of4 {v1 v2 v3 : V} {L : Addr} : (offF v1 v2 v3 L).lookup ("kept_goals" : Str) = some (.ref L) := by simp only [offF, lk, if_neg n4, if_neg n5, if_neg n6, if_true]
structure OffA (K : PySem.W.Frag) (H : Hp) (a dx L : Addr) (v1 v2 v3 : V) (ds : List Addr) (p : Parts) : Prop where
  at_ : H a = some (.ins (He.ga K "Office") dx (offF v1 v2 v3 L))
  sz : Tv H v1 (stT p.sz)
  mv : Tv H v2 (rowsT p)
  cl : Tv H v3 (cloT p)
  kl : H L = some (.lst (ds.map V.ref))
  dl : ds.length = p.rows.length
  go : ∀ (i : Nat) (d : Addr) (r : List Mv), ds[i]? = some d → p.rows[i]? = some r → GoAt H d r
theorem OffA.same {K : PySem.W.Frag} {H H' : Hp} {a dx L : Addr} {v1 v2 v3 : V} {ds : List Addr} {p : Parts} (o : OffA K H a dx L v1 v2 v3 ds p) (s : Same H H') : OffA K H' a dx L v1 v2 v3 ds p :=
  ⟨s _ _ o.at_, o.sz.kt s.kt, o.mv.kt s.kt, o.cl.kt s.kt, s _ _ o.kl, o.dl, fun i d r h1 h2 => (o.go i d r h1 h2).same s⟩
def OffAt (K : PySem.W.Frag) (H : Hp) (v : V) (p : Parts) : Prop := ∃ a dx L v1 v2 v3 ds, v = .ref a ∧ OffA K H a dx L v1 v2 v3 ds p
theorem OffAt.same {K : PySem.W.Frag} {H H' : Hp} {v : V} {p : Parts} (o : OffAt K H v p) (s : Same H H') : OffAt K H' v p := let ⟨a, dx, L, v1, v2, v3, ds, e, o⟩ := o; ⟨a, dx, L, v1, v2, v3, ds, e, o.same s⟩
section
variable {P : Program} {w : World} {K : PySem.W.Frag} {mg : Str → Option Value} {base : Heap}
/-- all but a stands -/
def But (a : Addr) (H H' : Hp) : Prop := ∀ b o, H b = some o → b ≠ a → H' b = some o
theorem But.of_off {a : Addr} {H H' : Hp} (o : Off a H H') : But a H H' := fun b u h n => by rw [o b n]; exact h
def sp_Office_keep (K : PySem.W.Frag) : Sp := fun vs H Q _ => ∃ (a dx : Addr) (v1 v2 v3 : V) (p : Parts), vs = [.ref a, v1, v2, v3] ∧ H a = some (.ins (He.ga K "Office") dx []) ∧ Tv H v1 (stT p.sz) ∧ Tv H v2 (rowsT p) ∧ Tv H v3 (cloT p) ∧ p.rows.length ≤ 100 ∧ (∀ r ∈ p.rows, r.length ≤ 60) ∧
  ∀ H', But a H H' → OffAt K H' (.ref a) p → Q .non H'
theorem sc_Office_keep : FnScope ["self", "sizes", "moves", "closings", "row", "goals", "slip", "answer", "mark", "goal"] ["self", "sizes", "moves", "closings"] (defScope s_Office_keep) := ⟨rfl, rfl, rfl, by decide +kernel, rfl, by decide +kernel, by decide +kernel⟩
theorem c_Office_keep (T : Tx K mg) : Met P w K mg base 1 (He.ga K "Office") "keep" (sp_Office_keep K) := by
  refine met_mk T.cl_Office T.Office_keep (fun _ _ _ _ _ _ us hl => match us, hl with | [_, _, _, _], _ => rfl) sc_Office_keep (fun vs H Q E h => by (obtain ⟨a, dx, v1, v2, v3, p, rfl, ha, h1, h2, h3, hn, hrow, k⟩ := h; rfl)) (fun f cdv A outer s H vs Q E hr h => ?_)
  obtain ⟨a, dx, v1, v2, v3, p, rfl, ha, h1, h2, h3, hn, hrow, k⟩ := h
  refine ⟨_, (pss_cons (ps_fld (pv 0) (pv 1) rfl)
    (pss_cons (ps_fld (pv 0) (pv 2) rfl)
    (pss_cons (ps_fld (pv 0) (pv 3) rfl)
    (pss_cons (ps_fld (pv 0) (pe_lstS pa_nil) rfl)
    (pss_one (ps_for PassesOwn.never rfl (pi_tup (pv 2)) (pg_name (i := 4) sc_Office_keep.nd rfl (Or.inl rfl))
      (pss_cons (ps_set (i := 5) sc_Office_keep.nd rfl (Or.inl rfl) pe_dnewTS)
      (pss_cons (ps_for PassesOwn.never rfl (pi_tup (pv 4)) (pg_tup rfl (pgs_cons (pg_name (i := 6) sc_Office_keep.nd rfl (Or.inl rfl)) (pgs_cons (pg_name (i := 7) sc_Office_keep.nd rfl (Or.inl rfl)) (pgs_cons (pg_name (i := 8) sc_Office_keep.nd rfl (Or.inl rfl)) (pgs_cons (pg_name (i := 9) sc_Office_keep.nd rfl (Or.inl rfl)) pgs_nil)))))
        (pss_one (ps_expr (pe_bm PySem.F.plainAttrs_list PySem.F.slot_list_append PySem.F.type_list_append mt_appendS (pe_bm PySem.F.plainAttrs_dict PySem.F.slot_dict_setdefault PySem.F.type_dict_setdefault (mt_setdTS (hu_of hr)) (pv 5) (pa_cons (pe_tupS (pa_cons (pv 6) (pa_cons (pv 7) (pa_cons (pv 8) pa_nil)))) (pa_cons (pe_lstS pa_nil) pa_nil))) (pa_cons (pv 9) pa_nil)))))
      (pss_one (ps_expr (pe_bm PySem.F.plainAttrs_list PySem.F.slot_list_append PySem.F.type_list_append mt_appendS (pe_fld (pv 0) rfl) (pa_cons (pv 5) pa_nil)))))))))))), ?_⟩
  obtain ⟨b, xs, rfl, hb0, hx0⟩ := h2.tup
  have hxl : xs.length = p.rows.length := by rw [hx0.length, List.length_map]
  refine ⟨_, rfl, _, rfl, a, _, dx, _, rfl, ha, T.cl_Office, T.no_Office_sizes, by decide, fw fun H1 o1 a1 => ?_⟩
  rw [pf1] at a1
  refine ⟨_, rfl, _, rfl, a, _, dx, _, rfl, a1, T.cl_Office, T.no_Office_moves, by show 1 < 1000; decide, fw fun H2 o2 a2 => ?_⟩
  rw [pf2] at a2
  refine ⟨_, rfl, _, rfl, a, _, dx, _, rfl, a2, T.cl_Office, T.no_Office_closings, by show 2 < 1000; decide, fw fun H3 o3 a3 => ?_⟩
  rw [pf3] at a3
  refine ⟨by exact Nat.zero_le _, fun L H4 s4 l4 n4 => ?_⟩
  have nLa : a ≠ L := ne_of_none a3 n4
  refine ⟨_, rfl, a, _, dx, _, rfl, s4 _ _ a3, T.cl_Office, T.no_Office_kept_goals, by show 3 < 1000; decide, fw fun H5 o5 a5 => ?_⟩
  rw [pf4] at a5
  have kt5 : KT H H5 := ((((o1.kt ha fun _ z => nomatch z).trans (o2.kt a1 fun _ z => nomatch z)).trans (o3.kt a2 fun _ z => nomatch z)).trans s4.kt).trans (o5.kt (s4 _ _ a3) fun _ z => nomatch z)
  have bt5 : But a H H5 := fun c o e n => by
    rw [o5 c n]
    refine s4 c o ?_
    rw [o3 c n, o2 c n, o1 c n]
    exact e
  have l5 : H5 L = some (.lst []) := by rw [o5 L nLa.symm]; exact l4
  have hb := kt5 _ _ hb0
  have fL : ∀ c o, H c = some o → c ≠ a → c ≠ L := fun c o e n z => by
    have h3 : H3 c = some o := by rw [o3 c n, o2 c n, o1 c n]; exact e
    rw [z, n4] at h3
    cases h3
  clear o1 o2 o3 o5 s4 a1 a2 a3 l4 n4
  refine ⟨_, rfl, b, rfl, ⟨_, SqT.of hb⟩, for_tup (K := K) (xs := xs) (fun i σ H' => ∃ (ds : List Addr) (w1 w2 w3 w4 w5 w6 : Option V), σ = [some (.ref a), some v1, some (.ref b), some v3, w1, w2, w3, w4, w5, w6] ∧ ds.length = i ∧ H' L = some (.lst (ds.map V.ref)) ∧ But L H5 H' ∧
      ∀ (j : Nat) (d : Addr) (r : List Mv), ds[j]? = some d → p.rows[j]? = some r → GoB H5 H' d r)
    ⟨[], none, none, none, none, none, none, rfl, rfl, l5, (fun _ _ e _ => e), fun j d r e => by simp at e⟩ (fun i σ H' _ ⟨ds, _, _, _, _, _, _, _, _, _, bt, _⟩ => SqT.of (bt _ _ hb (ne_of hb l5 fun z => nomatch z))) ?_ ?_⟩
  · rintro i x σ H' hi ⟨ds, w1, w2, w3, w4, w5, w6, rfl, hds, hL, bt, hgo⟩
    have kt' : KT H5 H' := fun c ys e => bt c _ e (ne_of e l5 fun z => nomatch z)
    obtain ⟨t, ht, tx⟩ := hx0.at hi
    rw [List.getElem?_map] at ht
    obtain ⟨r, hrr, rfl⟩ := Option.map_eq_some_iff.mp ht
    have hrl := hrow r (List.mem_of_getElem? hrr)
    obtain ⟨c, ys, rfl, hc, hy⟩ := ((tx.kt kt5).kt kt').tup
    have hyl : ys.length = r.length := by rw [hy.length, List.length_map]
    -- goals = {}
    refine fun d Hd sd hd0 nd => ?_
    refine ⟨_, rfl, c, rfl, ⟨_, SqT.of (sd _ _ hc)⟩, for_tup (K := K) (xs := ys) (fun j σ H2 => ∃ (kvs : List (List L2.Key × V)) (w3 w4 w5 w6 : Option V), σ = [some (.ref a), some v1, some (.ref b), some v3, some (.ref c), some (.ref d), w3, w4, w5, w6] ∧ Same H' H2 ∧ H2 d = some (.dT kvs) ∧ GoI H' H2 kvs (r.take j))
      ⟨[], w3, w4, w5, w6, rfl, sd, hd0, by simpa using gi_nil⟩ (fun j σ H2 _ ⟨_, _, _, _, _, _, s2, _⟩ => SqT.of (s2 _ _ hc)) ?_ ?_⟩
    · rintro j x σ H2 hj ⟨kvs, w3, w4, w5, w6, rfl, s2, hd, gi⟩
      obtain ⟨t, ht2, tx2⟩ := hy.at hj
      rw [List.getElem?_map] at ht2
      obtain ⟨m, hm, rfl⟩ := Option.map_eq_some_iff.mp ht2
      obtain ⟨q, rfl, hq⟩ := (tx2.kt s2.kt).mv
      have etk : r.take (j + 1) = r.take j ++ [m] := by rw [List.take_succ, hm]; rfl
      have hjr : j < r.length := (List.getElem?_eq_some_iff.mp hm).1
      refine ⟨q, _, rfl, SqT.of hq, rfl, _, _, rfl, _, _, rfl, _, _, rfl, _, _, rfl, rfl, ?_⟩
      refine ⟨_, rfl, .inr (.inr (.inl ⟨rfl, .inr ⟨_, hd⟩⟩)), _, rfl, _, rfl, _, rfl, by show 3 ≤ _; decide, fun tp H3 s3 t3 _ => ⟨by exact Nat.zero_le _, fun l0 H4 s4 l4 n4 => ?_⟩⟩
      have gi4 := gi.keep (s3.trans s4)
      have hlen : kvs.length ≤ 60 := by have := gi.len; rw [List.length_take] at this; omega
      have hd4 : H4 d = some (.dT kvs) := s4 _ _ (s3 _ _ hd)
      refine ⟨d, kvs, keyS (stOf m), tp, .ref l0, rfl, rfl, hd4, s4 _ _ t3, by omega, fun v hv => ?_, fun hv => ?_⟩
      · have hmem := valV_mem hv
        obtain ⟨sx, l, gs, e1, rfl, e3, e4, e5, e6⟩ := gi4.at_ _ _ hmem
        refine ⟨.inl ⟨rfl, _, SqL.of e4⟩, _, rfl, l, _, _, rfl, rfl, e4, by rw [List.length_map]; rw [List.length_take] at e5; omega, fun H6 o6 h6 => ?_⟩
        refine ⟨kvs, _, _, _, _, rfl, fun z o e => ?_, ?_, ?_⟩
        · rw [o6 z (ne_of_none e e3)]
          exact s4 _ _ (s3 _ _ (s2 _ _ e))
        · rw [o6 d (ne_of hd4 e4 fun z => nomatch z)]
          exact hd4
        · rw [etk]
          exact gi_old gi4 hmem e4 o6 h6
      · have hnew := valV_none hv
        have hl0 : H' l0 = none := s2.free (s3.free n4)
        have hdl : d ≠ l0 := ne_of_none (s3 _ _ hd) n4
        have hfr : ∀ kk, (kk, V.ref l0) ∉ kvs := fun kk hk => by
          obtain ⟨_, l, _, _, e2, _, e4, _⟩ := gi.at_ _ _ hk
          injection e2 with e2
          rw [← e2] at e4
          have := s3 _ _ e4
          rw [n4] at this
          cases this
        refine fun H5' o5 h5 => ?_
        have l5' : H5' l0 = some (.lst []) := by rw [o5 l0 hdl.symm]; exact l4
        refine ⟨.inl ⟨rfl, _, SqL.of l5'⟩, _, rfl, l0, _, _, rfl, rfl, l5', by exact Nat.zero_le _, fun H6 o6 h6 => ?_⟩
        refine ⟨kvs ++ [(keyS (stOf m), .ref l0)], _, _, _, _, rfl, fun z o e => ?_, ?_, ?_⟩
        · rw [o6 z (ne_of_none e hl0), o5 z (ne_of_none e nd)]
          exact s4 _ _ (s3 _ _ (s2 _ _ e))
        · rw [o6 d hdl]
          exact h5
        · rw [etk]
          refine gi_new gi4 hnew hl0 hfr (fun kk v l hk e => ?_) h6
          subst e
          obtain ⟨_, l', _, _, e2, _, e4, _⟩ := gi4.at_ _ _ hk
          injection e2 with e2
          subst e2
          rw [o6 l (fun z => hfr kk (z ▸ hk)), o5 l (ne_of e4 hd4 fun z => nomatch z)]
    · rintro σ H2 ⟨kvs, w3, w4, w5, w6, rfl, s2, hd, gi⟩
      rw [hyl, List.take_length] at gi
      have hL2 := s2 _ _ hL
      have ha2 := s2 _ _ (bt _ _ a5 nLa)
      refine ⟨_, rfl, a, _, dx, _, _, rfl, ha2, T.cl_Office, T.no_Office_kept_goals, of4, .inl ⟨rfl, _, SqL.of hL2⟩, _, rfl, L, _, _, rfl, rfl, hL2, ?_, fun H6 o6 h6 => ?_⟩
      · rw [List.length_map, hds]
        have hii := (List.getElem?_eq_some_iff.mp hi).1
        omega
      · refine ⟨ds ++ [d], _, _, _, _, _, _, rfl, by rw [List.length_append, hds]; rfl, by rw [h6, List.map_append]; rfl, fun z o e n => ?_, fun jj d' r' e1 e2 => ?_⟩
        · rw [o6 z n]
          exact s2 _ _ (bt _ _ e n)
        · by_cases hjj : jj < ds.length
          · rw [List.getElem?_append_left hjj] at e1
            exact ((hgo jj d' r' e1 e2).same s2).off o6 l5 hL2
          · rw [List.getElem?_append_right (by omega)] at e1
            have ej : jj = ds.length := by
              have := (List.getElem?_eq_some_iff.mp e1).1
              simp at this
              omega
            rw [ej, Nat.sub_self] at e1
            cases (Option.some.inj e1)
            rw [ej, hds, hrr] at e2
            cases (Option.some.inj e2)
            refine GoB.off ⟨kvs, hd, gi.base fun l hl => ?_⟩ o6 l5 hL2
            cases q : H5 l with
            | none => rfl
            | some u =>
              exfalso
              by_cases e : l = L
              · rw [e, hL] at hl
                cases hl
              · rw [bt l u q e] at hl
                cases hl
  · rintro σ H' ⟨ds, w1, w2, w3, w4, w5, w6, rfl, hds, hL, bt, hgo⟩
    have kt' : KT H5 H' := fun c ys e => bt c _ e (ne_of e l5 fun z => nomatch z)
    refine k H' (fun c o e n => bt _ _ (bt5 c o e n) (fL c o e n)) ⟨a, dx, L, v1, .ref b, v3, ds, rfl, bt _ _ a5 nLa, (h1.kt kt5).kt kt', (h2.kt kt5).kt kt', (h3.kt kt5).kt kt', hL, by omega, fun j d r e1 e2 => let ⟨kvs, g1, g2⟩ := hgo j d r e1 e2; ⟨kvs, g1, g2.any⟩⟩
end
end Fx

/-! The plain law: walks, pairs of walks, paths. -/
namespace Fx
def rowAt (p : Parts) (a : Int) : List Mv := p.rows.getD a.toNat []
def cloAt (p : Parts) (a : Int) : List Int := p.clo.getD a.toNat []
def Val (p : Parts) (a : Int) : Prop := 0 ≤ a ∧ a < p.rows.length
def Mov (p : Parts) (a : Int) (s : Stp) (g : Int) : Prop := mvOf s g ∈ rowAt p a
theorem rowAt_get {p : Parts} {a : Int} (h : Val p a) : p.rows[a.toNat]? = some (rowAt p a) := by
  have h2 : a.toNat < p.rows.length := by have := h.1; have := h.2; omega
  rw [rowAt, List.getD_eq_getElem?_getD, List.getElem?_eq_getElem h2]
  rfl
theorem cloAt_get {p : Parts} (ok : POk p) {a : Int} (h : Val p a) : p.clo[a.toNat]? = some (cloAt p a) := by
  have h2 : a.toNat < p.clo.length := by have := h.1; have := h.2; have := ok.cn; omega
  rw [cloAt, List.getD_eq_getElem?_getD, List.getElem?_eq_getElem h2]
  rfl
theorem row_ok {p : Parts} (ok : POk p) {a : Int} (h : Val p a) : RowOk p.sz p.rows.length (rowAt p a) := ok.rows _ (List.mem_of_getElem? (rowAt_get h))
theorem clo_ok {p : Parts} (ok : POk p) {a : Int} (h : Val p a) : CloOk p.sz (cloAt p a) := ok.clo _ (List.mem_of_getElem? (cloAt_get ok h))
def StOk (p : Parts) (s : Stp) : Prop := (0 ≤ s.1 ∧ s.1 < p.sz.1) ∧ (0 ≤ s.2.1 ∧ s.2.1 < p.sz.2.1) ∧ (0 ≤ s.2.2 ∧ s.2.2 < p.sz.2.2)
theorem Mov.ok {p : Parts} (ok : POk p) {a g : Int} {s : Stp} (h : Val p a) (m : Mov p a s g) : StOk p s ∧ Val p g := by
  obtain ⟨h1, h2, h3, h4⟩ := (row_ok ok h).ok _ m
  exact ⟨⟨h1, h2, h3⟩, h4⟩
inductive Walk (p : Parts) : List Stp → Int → Prop
  | nil : Walk p [] 0
  | snoc {ss : List Stp} {a g : Int} {s : Stp} : Walk p ss a → Mov p a s g → Walk p (ss ++ [s]) g
theorem val0 {p : Parts} (ok : POk p) : Val p 0 := ⟨Int.le_refl _, by have := ok.n; omega⟩
theorem Walk.ok {p : Parts} (ok : POk p) {ss : List Stp} {a : Int} (w : Walk p ss a) : Val p a ∧ ∀ s ∈ ss, StOk p s := by
  induction w with
  | nil => exact ⟨val0 ok, fun _ z => nomatch z⟩
  | snoc w m ih =>
    obtain ⟨h1, h2⟩ := m.ok ok ih.1
    refine ⟨h2, fun x hx => ?_⟩
    rcases List.mem_append.mp hx with z | z
    · exact ih.2 x z
    · rw [List.mem_singleton.mp z]; exact h1
theorem walk_nil {p : Parts} {a : Int} : Walk p [] a ↔ a = 0 := by
  constructor
  · intro w
    generalize e : ([] : List Stp) = l at w
    cases w with
    | nil => rfl
    | snoc _ _ => exact absurd e (by simp)
  · rintro rfl
    exact .nil
theorem walk_snoc {p : Parts} {ss : List Stp} {s : Stp} {g : Int} : Walk p (ss ++ [s]) g ↔ ∃ a, Walk p ss a ∧ Mov p a s g := by
  constructor
  · intro w
    generalize e : ss ++ [s] = l at w
    cases w with
    | nil => exact absurd e (by simp)
    | @snoc ss' a _ s' w m =>
      obtain ⟨e1, e2⟩ := List.append_inj' e rfl
      injection e2 with e2
      subst e1 e2
      exact ⟨a, w, m⟩
  · rintro ⟨a, w, m⟩
    exact .snoc w m
def TrueDay (p : Parts) (ss : List Stp) (last : Int) : Prop := ∃ a, Walk p ss a ∧ last ∈ cloAt p a
def marks (ss : List Stp) : List Int := ss.map fun s => s.2.2
def Swap (s t : Stp) : Prop := s.2 = t.2 ∧ s.1 ≠ t.1
instance (s t : Stp) : Decidable (Swap s t) := by unfold Swap; infer_instance
def Edge (p : Parts) (s s' : Stt) (st tw : Stp) : Prop :=
  Mov p s.2.1 st s'.2.1 ∧ Mov p s.2.2 tw s'.2.2 ∧ st.2.2 = tw.2.2 ∧ (s'.1 = s.1 ∨ (s.1 = false ∧ s'.1 = true ∧ Swap st tw))
inductive Reach (p : Parts) : Stt → Prop
  | init : Reach p (false, 0, 0)
  | step {s s' : Stt} {st tw : Stp} : Reach p s → Edge p s s' st tw → Reach p s'
def Final (p : Parts) (s : Stt) : Prop := s.1 = true ∧ ∃ last, last ∈ cloAt p s.2.1 ∧ last ∈ cloAt p s.2.2
def CanForge (p : Parts) : Prop := ∃ s, Reach p s ∧ Final p s
def ValS (p : Parts) (s : Stt) : Prop := Val p s.2.1 ∧ Val p s.2.2
theorem Edge.ok {p : Parts} (ok : POk p) {s s' : Stt} {st tw : Stp} (h : ValS p s) (e : Edge p s s' st tw) : ValS p s' := ⟨(e.1.ok ok h.1).2, (e.2.1.ok ok h.2).2⟩
theorem Reach.ok {p : Parts} (ok : POk p) {s : Stt} (r : Reach p s) : ValS p s := by
  induction r with
  | init => exact ⟨val0 ok, val0 ok⟩
  | step _ e ih => exact e.ok ok ih
/-- two walks by like marks -/
theorem reach_two {p : Parts} : ∀ {ss : List Stp} {a : Int}, Walk p ss a → ∀ {ts : List Stp} {b : Int}, Walk p ts b → marks ss = marks ts →
    Reach p (false, a, b) ∧ ((∃ (i : Nat) (s t : Stp), ss[i]? = some s ∧ ts[i]? = some t ∧ Swap s t) → Reach p (true, a, b)) := by
  intro ss a w
  induction w with
  | nil =>
    intro ts b w2 hm
    have e : ts = [] := by
      cases ts with
      | nil => rfl
      | cons x r => simp [marks] at hm
    subst e
    rw [walk_nil] at w2
    subst w2
    exact ⟨.init, fun ⟨i, s, t, h, _⟩ => by simp at h⟩
  | @snoc ss a g s w m ih =>
    intro ts b w2 hm
    obtain ⟨ts', t, rfl⟩ : ∃ ts' t, ts = ts' ++ [t] := by
      rcases List.eq_nil_or_concat ts with z | ⟨l, x, z⟩
      · subst z
        simp [marks] at hm
      · exact ⟨l, x, by simpa using z⟩
    obtain ⟨b', w2', m2⟩ := walk_snoc.mp w2
    have hm2 : marks ss = marks ts' ∧ s.2.2 = t.2.2 := by
      simp only [marks, List.map_append, List.map_cons, List.map_nil] at hm
      obtain ⟨e1, e2⟩ := List.append_inj' hm rfl
      injection e2 with e2
      exact ⟨e1, e2⟩
    obtain ⟨r1, r2⟩ := ih w2' hm2.1
    refine ⟨.step r1 ⟨m, m2, hm2.2, .inl rfl⟩, fun ⟨i, s', t', h1, h2, h3⟩ => ?_⟩
    have hl : ss.length = ts'.length := by
      have := congrArg List.length hm2.1
      simpa [marks] using this
    by_cases hi : i < ss.length
    · rw [List.getElem?_append_left hi] at h1
      rw [List.getElem?_append_left (by omega)] at h2
      exact .step (r2 ⟨i, s', t', h1, h2, h3⟩) ⟨m, m2, hm2.2, .inl rfl⟩
    · have e : i = ss.length := by
        have := (List.getElem?_eq_some_iff.mp h1).1
        simp at this
        omega
      subst e
      rw [List.getElem?_append_right (Nat.le_refl _), Nat.sub_self] at h1
      rw [List.getElem?_append_right (by omega), hl, Nat.sub_self] at h2
      have e1 : s = s' := by simpa using h1
      have e2 : t = t' := by simpa using h2
      subst e1 e2
      exact .step r1 ⟨m, m2, hm2.2, .inr ⟨rfl, rfl, h3⟩⟩
/-- two true days of one board, one answer and unlike slips at a place -/
theorem forge_days {p : Parts} {ss ts : List Stp} {last : Int} (h1 : TrueDay p ss last) (h2 : TrueDay p ts last) (hm : marks ss = marks ts) {i : Nat} {s t : Stp} (e1 : ss[i]? = some s) (e2 : ts[i]? = some t) (ha : s.2.1 = t.2.1) (hs : s.1 ≠ t.1) : CanForge p := by
  obtain ⟨a, w1, c1⟩ := h1
  obtain ⟨b, w2, c2⟩ := h2
  have hmi : s.2.2 = t.2.2 := by
    have z1 : (marks ss)[i]? = some s.2.2 := by rw [marks, List.getElem?_map, e1]; rfl
    have z2 : (marks ts)[i]? = some t.2.2 := by rw [marks, List.getElem?_map, e2]; rfl
    rw [hm, z2] at z1
    exact (Option.some.inj z1).symm
  exact ⟨_, (reach_two w1 w2 hm).2 ⟨i, s, t, e1, e2, Prod.ext ha hmi, hs⟩, rfl, last, c1, c2⟩
/-! ### paths -/
abbrev Hop := Stt × Stp × Stp
inductive Path (p : Parts) : List Hop → Stt → Prop
  | nil : Path p [] (false, 0, 0)
  | snoc {l : List Hop} {s s' : Stt} {st tw : Stp} : Path p l s → Edge p s s' st tw → Path p (l ++ [(s, st, tw)]) s'
def plF (acc : Nat × Nat) (e : Hop) : Nat × Nat := (if e.1.1 = false then acc.2 else acc.1, acc.2 + 1)
def plO (l : List Hop) : Nat := (l.foldl plF (0, 0)).1
theorem pl_len' : ∀ (l : List Hop) (acc : Nat × Nat), (l.foldl plF acc).2 = acc.2 + l.length
  | [], _ => rfl
  | e :: l, acc => by
    rw [List.foldl_cons, pl_len' l, List.length_cons]
    show acc.2 + 1 + l.length = _
    omega
theorem pl_len (l : List Hop) : (l.foldl plF (0, 0)).2 = l.length := by rw [pl_len']; exact Nat.zero_add _
theorem plO_snoc (l : List Hop) (e : Hop) : plO (l ++ [e]) = if e.1.1 = false then l.length else plO l := by
  unfold plO
  rw [List.foldl_append]
  simp only [List.foldl_cons, List.foldl_nil, plF, pl_len]
theorem Path.reach {p : Parts} {l : List Hop} {s : Stt} (h : Path p l s) : Reach p s := by
  induction h with
  | nil => exact .init
  | snoc _ e ih => exact .step ih e
theorem Path.walks {p : Parts} {l : List Hop} {s : Stt} (h : Path p l s) :
    Walk p (l.map fun e => e.2.1) s.2.1 ∧ Walk p (l.map fun e => e.2.2) s.2.2 ∧ marks (l.map fun e => e.2.1) = marks (l.map fun e => e.2.2) ∧
    (s.1 = true → plO l < l.length ∧ ∃ e, l[plO l]? = some e ∧ Swap e.2.1 e.2.2) := by
  induction h with
  | nil => exact ⟨.nil, .nil, rfl, fun z => nomatch z⟩
  | @snoc l s s' st tw h e ih =>
    obtain ⟨h1, h2, h3, h4⟩ := ih
    refine ⟨?_, ?_, ?_, fun hs => ?_⟩
    · rw [List.map_append]; exact .snoc h1 e.1
    · rw [List.map_append]; exact .snoc h2 e.2.1
    · rw [List.map_append, List.map_append, marks, marks, List.map_append, List.map_append]
      have h3' : List.map (fun s : Stp => s.2.2) (l.map fun e => e.2.1) = List.map (fun s : Stp => s.2.2) (l.map fun e => e.2.2) := h3
      rw [h3']
      congr 1
      simp only [List.map_cons, List.map_nil]
      rw [e.2.2.1]
    · rw [plO_snoc]
      by_cases hf : s.1 = false
      · rw [if_pos hf]
        refine ⟨by rw [List.length_append]; simp, _, by rw [List.getElem?_append_right (Nat.le_refl _), Nat.sub_self]; rfl, ?_⟩
        rcases e.2.2.2 with z | z
        · rw [hs, hf] at z; cases z
        · exact z.2.2
      · rw [if_neg hf]
        have ht : s.1 = true := by cases q : s.1 with
          | true => rfl
          | false => exact absurd q hf
        obtain ⟨q1, e', q2, q3⟩ := h4 ht
        exact ⟨by rw [List.length_append]; omega, e', by rw [List.getElem?_append_left q1]; exact q2, q3⟩
/-! ### counting -/
theorem filter_ne_len {a : Int} : ∀ {l : List Int}, l.Nodup → l.length ≤ (l.filter fun x => decide (x ≠ a)).length + 1
  | [], _ => by simp
  | x :: l, h => by
    rw [List.nodup_cons] at h
    by_cases e : x = a
    · subst e
      have hf : (x :: l).filter (fun y => decide (y ≠ x)) = l := by
        rw [List.filter_cons_of_neg (by simp)]
        refine List.filter_eq_self.mpr fun y hy => ?_
        refine decide_eq_true fun z => ?_
        rw [z] at hy
        exact h.1 hy
      rw [hf]
      simp
    · rw [List.filter_cons_of_pos (by simpa using e), List.length_cons, List.length_cons]
      have := filter_ne_len (a := a) h.2
      omega
theorem nodup_le : ∀ {n : Nat} {l : List Int}, l.Nodup → (∀ x ∈ l, 0 ≤ x ∧ x < n) → l.length ≤ n
  | 0, [], _, _ => by simp
  | 0, x :: l, _, h => by have := h x List.mem_cons_self; omega
  | n + 1, l, hn, h => by
    have h1 := filter_ne_len (a := (n : Int)) hn
    have h2 := nodup_le (n := n) (l := l.filter fun x => decide (x ≠ (n : Int))) (hn.filter _) fun x hx => by
      obtain ⟨hx1, hx2⟩ := List.mem_filter.mp hx
      have := h x hx1
      have := of_decide_eq_true hx2
      omega
    omega
end Fx

/-! the Office made; days, and which are true -/
namespace Fx
open PySem PySem.Spec PyProof.Rows L2
def dayT (ss : List Stp) (last : Int) : T := .t [.t (ss.map stT), .i last]
def boardT (ms : List Int) (last : Int) : T := .t [isT ms, .i last]
theorem Tv.day {H : Hp} {v : V} {ss : List Stp} {last : Int} (h : Tv H v (dayT ss last)) : ∃ a b xs, v = .ref a ∧ H a = some (.tup [.ref b, .int last]) ∧ H b = some (.tup xs) ∧ TvA H xs (ss.map stT) ∧ xs.length = ss.length := by
  obtain ⟨a, ys, e, h1, h2⟩ := h.tup
  cases h2 with
  | cons p q => cases q with
    | cons q r =>
      cases r
      obtain ⟨b, xs, rfl, h3, h4⟩ := p.tup
      have := q.int
      subst this
      exact ⟨a, b, xs, e, h1, h3, h4, by rw [h4.length, List.length_map]⟩
theorem Tv.parts {H : Hp} {v : V} {p : Parts} (h : Tv H v (partsT p)) : ∃ a v1 v2 v3, v = .ref a ∧ H a = some (.tup [v1, v2, v3]) ∧ Tv H v1 (stT p.sz) ∧ Tv H v2 (rowsT p) ∧ Tv H v3 (cloT p) := by
  obtain ⟨a, ys, e, h1, h2⟩ := h.tup
  cases h2 with
  | cons p q => cases q with
    | cons q r => cases r with
      | cons r s =>
        cases s
        exact ⟨a, _, _, _, e, h1, p, q, r⟩
def ksD (ks : List Int) : List (L2.Key × V) := ks.map fun g => (Sum.inl g, .bl true)
theorem ksD_put (ks : List Int) (g : Int) : putK (ksD ks) (Sum.inl g) (.bl true) = ksD (if g ∈ ks then ks else ks ++ [g]) := by
  by_cases h : g ∈ ks
  · rw [if_pos h]
    unfold putK
    rw [if_pos (by simp only [ksD, List.any_map, List.any_eq_true]; exact ⟨g, h, by simp⟩)]
    simp only [ksD, List.map_map]
    refine List.map_congr_left fun x hx => ?_
    simp
  · rw [if_neg h]
    unfold putK
    rw [if_neg (by simp only [ksD, List.any_map, List.any_eq_true]; rintro ⟨x, hx, e⟩; simp at e; exact h (e ▸ hx))]
    simp [ksD]
theorem valV_of {κ : Type} [DecidableEq κ] {k : κ} {v : V} : ∀ {kvs : List (κ × V)}, (kvs.map (·.1)).Nodup → (k, v) ∈ kvs → valV kvs k = some v
  | [], _, h => nomatch h
  | p :: kvs, hn, h => by
    rw [List.map_cons, List.nodup_cons] at hn
    rcases List.mem_cons.mp h with e | h
    · rw [valV_pos (p := p) (by rw [← e])]
      rw [← e]
    · rw [valV_neg (p := p) (fun z => hn.1 (List.mem_map.mpr ⟨(k, v), h, z.symm⟩))]
      exact valV_of hn.2 h
/-- what the dict of a standing has for a step -/
theorem go_get {H : Hp} {d : Addr} {r : List Mv} (g : GoAt H d r) (s : Stp) : ∃ kvs, H d = some (.dT kvs) ∧
    ((valV kvs (keyS s) = none ∧ ∀ x, mvOf s x ∉ r) ∨ ∃ (l : Addr) (gs : List Int), valV kvs (keyS s) = some (.ref l) ∧ H l = some (.lst (gs.map V.int)) ∧ gs.length ≤ r.length ∧ ∀ x, x ∈ gs ↔ mvOf s x ∈ r) := by
  obtain ⟨kvs, h1, gi⟩ := g
  refine ⟨kvs, h1, ?_⟩
  cases e : valV kvs (keyS s) with
  | none =>
    refine .inl ⟨rfl, fun x hx => ?_⟩
    obtain ⟨v, hv⟩ := gi.all _ hx
    exact valV_none e v hv
  | some v =>
    obtain ⟨s', l, gs, e1, e2, _, e4, e5, e6⟩ := gi.at_ _ _ (valV_mem e)
    have := keyS_inj e1
    subst this
    exact .inr ⟨l, gs, by rw [e2], e4, e5, e6⟩
theorem nw13 (a b c : V) : ¬ (HT.sIx [a, b, c].length 0 (some 1) = 0 ∧ HT.sIx [a, b, c].length [a, b, c].length none = [a, b, c].length) := by show ¬ (HT.sIx 3 0 (some 1) = 0 ∧ HT.sIx 3 3 none = 3); decide
theorem nw02 (a b c : V) : ¬ (HT.sIx [a, b, c].length 0 none = 0 ∧ HT.sIx [a, b, c].length [a, b, c].length (some 2) = [a, b, c].length) := by show ¬ (HT.sIx 3 0 none = 0 ∧ HT.sIx 3 3 (some 2) = 3); decide
theorem cut13 (a b c : V) : cutV [a, b, c] (some 1) none = [b, c] := rfl
theorem cut02 (a b c : V) : cutV [a, b, c] none (some 2) = [a, b] := rfl
section
variable {P : Program} {w : World} {K : PySem.W.Frag} {mg : Str → Option Value} {base : Heap}
def sp_Office_init (K : PySem.W.Frag) : Sp := fun vs H Q _ => ∃ (a dx : Addr) (v1 v2 v3 : V) (p : Parts), vs = [.ref a, v1, v2, v3] ∧ H a = some (.ins (He.ga K "Office") dx []) ∧ Tv H v1 (stT p.sz) ∧ Tv H v2 (rowsT p) ∧ Tv H v3 (cloT p) ∧ POk p ∧
  ∀ H', But a H H' → OffAt K H' (.ref a) p → Q .non H'
theorem sc_Office_init : FnScope ["self", "sizes", "moves", "closings"] ["self", "sizes", "moves", "closings"] (defScope s_Office_init) := ⟨rfl, rfl, rfl, by decide +kernel, rfl, by decide +kernel, by decide +kernel⟩
theorem k_Office (T : Tx K mg) : Mak P w K mg base 5 "Office" (He.ga K "Office") (sp_Office_init K) := by
  refine mak_mk T.mg_Office T.Office_init (fun _ _ _ _ _ _ us hl => match us, hl with | [_, _, _, _], _ => rfl) sc_Office_init (fun vs H Q E h => by (obtain ⟨a, dx, v1, v2, v3, p, rfl, ha, h1, h2, h3, ok, k⟩ := h; rfl)) (fun f cdv A outer s H vs Q E hr h => ?_)
  obtain ⟨a, dx, v1, v2, v3, p, rfl, ha, h1, h2, h3, ok, k⟩ := h
  refine ⟨_, (pss_cons (ps_if (pt_not (pt_val (pe_c (c_are_sizes T) hr (by decide) rfl (pa_cons (pv 1) pa_nil))))
      (pss_one ps_never)
      pss_nil)
    (pss_cons (ps_if (pt_not (pt_val (pe_c (c_are_moves T) hr (by decide) rfl (pa_cons (pv 1) (pa_cons (pv 2) pa_nil)))))
      (pss_one ps_never)
      pss_nil)
    (pss_cons (ps_if (pt_not (pt_val (pe_c (c_are_closings T) hr (by decide) rfl (pa_cons (pv 1) (pa_cons (pe_callB call_len_seq rfl T.f_len PySem.boot_len (pa_cons (pv 2) pa_nil)) (pa_cons (pv 3) pa_nil))))))
      (pss_one ps_never)
      pss_nil)
    (pss_one (ps_expr (pe_mt (c_Office_keep T) hr (by decide) (pv 0) (pa_cons (pv 1) (pa_cons (pv 2) (pa_cons (pv 3) pa_nil))))))))), ?_⟩
  have hn := ok.n
  refine ⟨_, rfl, v1, p.sz, rfl, h1, ⟨ok.s1.1, by have := ok.s1.2; omega⟩, ⟨ok.s2.1, by have := ok.s2.2; omega⟩, ⟨ok.s3.1, by have := ok.s3.2; omega⟩, fun H1 s1 => ⟨true, rfl, ?_⟩⟩
  refine ⟨_, rfl, _, rfl, v1, v2, p.sz, p.rows, rfl, h1.kt s1.kt, h2.kt s1.kt, hn, ⟨by have := ok.s1.2; omega, by have := ok.s2.2; omega, by have := ok.s3.2; omega⟩, ok.rows, fun H2 s2 => ⟨true, rfl, ?_⟩⟩
  obtain ⟨b, xs, rfl, hb, hx⟩ := h2.tup
  have hxl : xs.length = p.rows.length := by rw [hx.length, List.length_map]
  have s12 := s1.trans s2
  refine ⟨_, rfl, _, rfl, _, _, rfl, .inr (SqT.of (s12 _ _ hb)), _, rfl, v1, v3, p.sz, p.clo, by rw [hxl, ok.cn]; rfl, h1.kt s12.kt, h3.kt s12.kt, ok.clo, fun H3 s3 => ⟨true, rfl, ?_⟩⟩
  have s13 := s12.trans s3
  refine ⟨_, rfl, a, dx, _, rfl, s13 _ _ ha, rfl, _, rfl, _, rfl, _, rfl, a, dx, v1, .ref b, v3, p, rfl, s13 _ _ ha, h1.kt s13.kt, h2.kt s13.kt, h3.kt s13.kt, by omega, (fun r hr => by have := (ok.rows r hr).len; omega), fun H4 b4 o4 => ?_⟩
  exact k H4 (fun c o e n => b4 c o (s13 c o e) n) o4
def sp__law_made (K : PySem.W.Frag) : Sp := fun vs H Q _ => ∃ (v : V) (p : Parts), vs = [v] ∧ Tv H v (partsT p) ∧ POk p ∧ ∀ v' H', Same H H' → OffAt K H' v' p → Q v' H'
theorem sc__law_made : FnScope ["_law_parts_here"] ["_law_parts_here"] (defScope s__law_made) := ⟨rfl, rfl, rfl, by decide +kernel, rfl, by decide +kernel, by decide +kernel⟩
theorem c__law_made (T : Tx K mg) : Cal P w K mg base 7 "_law_made" (sp__law_made K) := by
  refine cal_mk T._law_made (fun _ _ _ _ _ _ us hl => match us, hl with | [_], _ => rfl) sc__law_made (fun vs H Q E h => by (obtain ⟨v, p, rfl, hv, ok, k⟩ := h; rfl)) (fun f cdv A outer s H vs Q E hr h => ?_)
  obtain ⟨v, p, rfl, hv, ok, k⟩ := h
  refine ⟨_, (pss_one (ps_ret (pe_mkS (k_Office T) hr (by decide) rfl (pa_cons (pe_ix ix_tup (pv 0) pe_int (fun _ _ => rfl)) (pa_cons (pe_ix ix_tup (pv 0) pe_int (fun _ _ => rfl)) (pa_cons (pe_ix ix_tup (pv 0) pe_int (fun _ _ => rfl)) pa_nil)))))), ?_⟩
  obtain ⟨a, v1, v2, v3, rfl, ha, h1, h2, h3⟩ := hv.parts
  refine ⟨_, rfl, a, _, 0, _, rfl, rfl, SqT.of ha, rfl, _, rfl, a, _, 1, _, rfl, rfl, SqT.of ha, rfl, _, rfl, a, _, 2, _, rfl, rfl, SqT.of ha, rfl, fun y dx H2 s2 ny hy => ?_⟩
  refine ⟨y, dx, v1, v2, v3, p, rfl, hy, h1.kt s2.kt, h2.kt s2.kt, h3.kt s2.kt, ok, fun H3 b3 o3 => ⟨rfl, ?_⟩⟩
  exact k _ H3 (fun c o e => b3 c o (s2 c o e) (ne_of_none e ny)) o3
/-! ### checks of days -/
def sp_is_mark (K : PySem.W.Frag) : Sp := fun vs H Q _ => ∃ (vo : V) (p : Parts) (n : Int), vs = [vo, .int n] ∧ OffAt K H vo p ∧ (0 ≤ n ∧ n < p.sz.2.2) ∧ Q (.bl true) H
theorem sc_is_mark : FnScope ["office", "thing"] ["office", "thing"] (defScope s_is_mark) := ⟨rfl, rfl, rfl, by decide +kernel, rfl, by decide +kernel, by decide +kernel⟩
theorem c_is_mark (T : Tx K mg) : Cal P w K mg base 3 "is_mark" (sp_is_mark K) := by
  refine cal_mk T.is_mark (fun _ _ _ _ _ _ us hl => match us, hl with | [_, _], _ => rfl) sc_is_mark (fun vs H Q E h => by (obtain ⟨vo, p, n, rfl, ho, hn, k⟩ := h; rfl)) (fun f cdv A outer s H vs Q E hr h => ?_)
  obtain ⟨vo, p, n, rfl, ho, hn, k⟩ := h
  refine ⟨_, (pss_one (ps_ret (pe_c (c_is_within T) hr (by decide) rfl (pa_cons (pv 1) (pa_cons pe_int (pa_cons (pe_op op_sub (pe_ix ix_tup (pe_fld (pv 0) rfl) pe_int (fun _ _ => rfl)) pe_int) pa_nil)))))), ?_⟩
  obtain ⟨a, dx, L, v1, v2, v3, ds, rfl, o⟩ := ho
  obtain ⟨sa, rfl, hs⟩ := o.sz.stp
  refine ⟨_, rfl, _, rfl, a, _, dx, _, _, rfl, o.at_, T.cl_Office, T.no_Office_sizes, of1, sa, _, 2, _, rfl, rfl, SqT.of hs, rfl, _, _, rfl, rfl, n, 0, _, rfl, ?_⟩
  rw [decide_eq_true (by omega)]
  exact k
def sp_is_note (K : PySem.W.Frag) : Sp := fun vs H Q _ => ∃ (vo : V) (p : Parts) (q : Addr) (x y : Int), vs = [vo, .ref q] ∧ OffAt K H vo p ∧ H q = some (.tup [.int x, .int y]) ∧ (0 ≤ x ∧ x < p.sz.1) ∧ (0 ≤ y ∧ y < p.sz.2.1) ∧ Q (.bl true) H
theorem sc_is_note : FnScope ["office", "thing"] ["office", "thing"] (defScope s_is_note) := ⟨rfl, rfl, rfl, by decide +kernel, rfl, by decide +kernel, by decide +kernel⟩
theorem c_is_note (T : Tx K mg) : Cal P w K mg base 3 "is_note" (sp_is_note K) := by
  refine cal_mk T.is_note (fun _ _ _ _ _ _ us hl => match us, hl with | [_, _], _ => rfl) sc_is_note (fun vs H Q E h => by (obtain ⟨vo, p, q, x, y, rfl, ho, hq, hx, hy, k⟩ := h; rfl)) (fun f cdv A outer s H vs Q E hr h => ?_)
  obtain ⟨vo, p, q, x, y, rfl, ho, hq, hx, hy, k⟩ := h
  refine ⟨_, (pss_cons (ps_if (PW.pt (pw_or (pt_not (pt_val (pe_c (c_is_pair T) hr (by decide) rfl (pa_cons (pv 1) pa_nil)))) (pw_or1 (pt_not (pt_val (pe_c (c_is_within T) hr (by decide) rfl (pa_cons (pe_ix ix_tup (pv 1) pe_int (fun _ _ => rfl)) (pa_cons pe_int (pa_cons (pe_op op_sub (pe_ix ix_tup (pe_fld (pv 0) rfl) pe_int (fun _ _ => rfl)) pe_int) pa_nil)))))))))
      (pss_one (ps_ret pe_bl))
      pss_nil)
    (pss_one (ps_ret (pe_c (c_is_within T) hr (by decide) rfl (pa_cons (pe_ix ix_tup (pv 1) pe_int (fun _ _ => rfl)) (pa_cons pe_int (pa_cons (pe_op op_sub (pe_ix ix_tup (pe_fld (pv 0) rfl) pe_int (fun _ _ => rfl)) pe_int) pa_nil))))))), ?_⟩
  obtain ⟨a, dx, L, v1, v2, v3, ds, rfl, o⟩ := ho
  obtain ⟨sa, rfl, hs⟩ := o.sz.stp
  refine ⟨_, rfl, q, _, rfl, hq, rfl, true, rfl, ?_⟩
  refine ⟨_, rfl, q, _, 0, _, rfl, rfl, SqT.of hq, rfl, _, rfl, a, _, dx, _, _, rfl, o.at_, T.cl_Office, T.no_Office_sizes, of1, sa, _, 0, _, rfl, rfl, SqT.of hs, rfl, _, _, rfl, rfl, x, 0, _, rfl, _, rfl, iteNS (by omega) ?_⟩
  refine ⟨_, rfl, q, _, 1, _, rfl, rfl, SqT.of hq, rfl, _, rfl, a, _, dx, _, _, rfl, o.at_, T.cl_Office, T.no_Office_sizes, of1, sa, _, 1, _, rfl, rfl, SqT.of hs, rfl, _, _, rfl, rfl, y, 0, _, rfl, ?_⟩
  rw [decide_eq_true (by omega)]
  exact k
def sp_is_step (K : PySem.W.Frag) : Sp := fun vs H Q _ => ∃ (vo vt : V) (p : Parts) (s : Stp), vs = [vo, vt] ∧ OffAt K H vo p ∧ Tv H vt (stT s) ∧ StOk p s ∧ ∀ H', Same H H' → Q (.bl true) H'
theorem sc_is_step : FnScope ["office", "thing"] ["office", "thing"] (defScope s_is_step) := ⟨rfl, rfl, rfl, by decide +kernel, rfl, by decide +kernel, by decide +kernel⟩
theorem c_is_step (T : Tx K mg) : Cal P w K mg base 4 "is_step" (sp_is_step K) := by
  refine cal_mk T.is_step (fun _ _ _ _ _ _ us hl => match us, hl with | [_, _], _ => rfl) sc_is_step (fun vs H Q E h => by (obtain ⟨vo, vt, p, s, rfl, ho, ht, hs, k⟩ := h; rfl)) (fun f cdv A outer s H vs Q E hr h => ?_)
  obtain ⟨vo, vt, p, s, rfl, ho, ht, hs, k⟩ := h
  refine ⟨_, (pss_one (ps_ret (pe_and (pe_c (c_is_triple T) hr (by decide) rfl (pa_cons (pv 1) pa_nil)) (pe_and (pe_c (c_is_note T) hr (by decide) rfl (pa_cons (pv 0) (pa_cons (pe_slice (sl_tupS (K := K)) (pv 1) po_none (po_some pe_int)) pa_nil))) (pe_one (pe_c (c_is_mark T) hr (by decide) rfl (pa_cons (pv 0) (pa_cons (pe_ix ix_tup (pv 1) pe_int (fun _ _ => rfl)) pa_nil)))))))), ?_⟩
  obtain ⟨b, rfl, hb⟩ := ht.stp
  refine ⟨_, rfl, b, _, rfl, hb, rfl, true, rfl, iteT ?_⟩
  refine ⟨_, rfl, _, rfl, _, rfl, b, _, rfl, hb, nw02 _ _ _, fun q H1 s1 hq _ => ?_⟩
  rw [cut02] at hq
  refine ⟨vo, p, q, _, _, rfl, ho.same s1, hq, hs.1, hs.2.1, true, rfl, iteT ?_⟩
  exact ⟨_, rfl, _, rfl, b, _, 2, _, rfl, rfl, SqT.of (s1 _ _ hb), rfl, vo, p, _, rfl, ho.same s1, hs.2.2, k H1 s1⟩
def sp_are_steps (K : PySem.W.Frag) : Sp := fun vs H Q _ => ∃ (vo : V) (p : Parts) (b : Addr) (xs : List V) (ss : List Stp), vs = [vo, .ref b] ∧ OffAt K H vo p ∧ H b = some (.tup xs) ∧ TvA H xs (ss.map stT) ∧ xs.length ≤ 1000 ∧ (∀ s ∈ ss, StOk p s) ∧ ∀ H', Same H H' → Q (.bl true) H'
theorem sc_are_steps : FnScope ["office", "thing", "step"] ["office", "thing"] (defScope s_are_steps) := ⟨rfl, rfl, rfl, by decide +kernel, rfl, by decide +kernel, by decide +kernel⟩
theorem c_are_steps (T : Tx K mg) : Cal P w K mg base 5 "are_steps" (sp_are_steps K) := by
  refine cal_mk T.are_steps (fun _ _ _ _ _ _ us hl => match us, hl with | [_, _], _ => rfl) sc_are_steps (fun vs H Q E h => by (obtain ⟨vo, p, b, xs, ss, rfl, ho, hb, hx, hl, hs, k⟩ := h; rfl)) (fun f cdv A outer s H vs Q E hr h => ?_)
  obtain ⟨vo, p, b, xs, ss, rfl, ho, hb, hx, hl, hs, k⟩ := h
  refine ⟨_, (pss_one (ps_ret (pe_and (pe_callB call_isiTup rfl T.f_isinstance (by decide +kernel) (pa_cons (pv 1) (pa_cons (pe_bltn (v := .ty "tuple") rfl T.f_tuple (by decide +kernel) rfl) pa_nil))) (pe_one (pe_callB (cr_all rfl) rfl T.f_all (by decide +kernel) (pa_cons (pe_lc (own := [("step", 2)]) rfl sc_are_steps.nd (pi_tup (pv 1)) (blkOk_by (own := [("step", 2)]) (N := ["office", "thing", "step"]) (sc := defScope s_are_steps) (by decide +kernel)) (fun _ _ _ _ _ => (pg_name (i := 2) sc_are_steps.nd rfl (Or.inl rfl))) (fun _ _ _ _ _ => pts_nil) (fun _ _ _ _ _ => (pe_c (c_is_step T) hr (by decide) rfl (pa_cons (pv 0) (pa_cons (pv 2) pa_nil))))) pa_nil)))))), ?_⟩
  refine ⟨_, rfl, b, _, rfl, hb, true, rfl, iteT ?_⟩
  refine ⟨_, rfl, b, rfl, ⟨_, SqT.of hb⟩, fun D hD => ?_⟩
  refine lcT (K := K) (fun _ ts => ∀ t ∈ ts, t = .b true) hD hb (by omega) (fun _ z => nomatch z) (fun i x H2 ts hi s1 _ hJ R R' c1 c2 => ?_) fun H2 ts s1 l _ hJ => ?_
  · obtain ⟨t, ht, tx⟩ := hx.at hi
    rw [List.getElem?_map] at ht
    obtain ⟨s, hs1, rfl⟩ := Option.map_eq_some_iff.mp ht
    exact ⟨rfl, _, rfl, _, rfl, vo, x, p, s, rfl, ho.same s1, tx.kt s1.kt, hs s (List.mem_of_getElem? hs1), fun H3 s3 => c1 _ _ _ s3 (.b true) fun t ht => (List.mem_append.mp ht).elim (hJ t) fun z => by simpa using z⟩
  · obtain ⟨bs, eb, fb⟩ := trues hJ
    refine ⟨D, bs, rfl, SqL.of (l.bools eb), ?_⟩
    rw [fb]
    exact k H2 s1
def sp_is_day (K : PySem.W.Frag) : Sp := fun vs H Q _ => ∃ (vo vt : V) (p : Parts) (ss : List Stp) (last : Int), vs = [vo, vt] ∧ OffAt K H vo p ∧ Tv H vt (dayT ss last) ∧ ss.length ≤ 1000 ∧ (∀ s ∈ ss, StOk p s) ∧ (0 ≤ last ∧ last < p.sz.2.2) ∧ ∀ H', Same H H' → Q (.bl true) H'
theorem sc_is_day : FnScope ["office", "thing"] ["office", "thing"] (defScope s_is_day) := ⟨rfl, rfl, rfl, by decide +kernel, rfl, by decide +kernel, by decide +kernel⟩
theorem c_is_day (T : Tx K mg) : Cal P w K mg base 6 "is_day" (sp_is_day K) := by
  refine cal_mk T.is_day (fun _ _ _ _ _ _ us hl => match us, hl with | [_, _], _ => rfl) sc_is_day (fun vs H Q E h => by (obtain ⟨vo, vt, p, ss, last, rfl, ho, ht, hl, hs, hla, k⟩ := h; rfl)) (fun f cdv A outer s H vs Q E hr h => ?_)
  obtain ⟨vo, vt, p, ss, last, rfl, ho, ht, hl, hs, hla, k⟩ := h
  refine ⟨_, (pss_one (ps_ret (pe_and (pe_c (c_is_pair T) hr (by decide) rfl (pa_cons (pv 1) pa_nil)) (pe_and (pe_c (c_are_steps T) hr (by decide) rfl (pa_cons (pv 0) (pa_cons (pe_ix ix_tup (pv 1) pe_int (fun _ _ => rfl)) pa_nil))) (pe_one (pe_c (c_is_mark T) hr (by decide) rfl (pa_cons (pv 0) (pa_cons (pe_ix ix_tup (pv 1) pe_int (fun _ _ => rfl)) pa_nil)))))))), ?_⟩
  obtain ⟨a, b, xs, rfl, ha, hb, hx, hxl⟩ := ht.day
  refine ⟨_, rfl, a, _, rfl, ha, rfl, true, rfl, iteT ?_⟩
  refine ⟨_, rfl, _, rfl, a, _, 0, _, rfl, rfl, SqT.of ha, rfl, vo, p, b, xs, ss, rfl, ho, hb, hx, by omega, hs, fun H1 s1 => ⟨true, rfl, iteT ?_⟩⟩
  exact ⟨_, rfl, _, rfl, a, _, 1, _, rfl, rfl, SqT.of (s1 _ _ ha), rfl, vo, p, last, rfl, ho.same s1, hla, k H1 s1⟩
def sp_board_of (K : PySem.W.Frag) : Sp := fun vs H Q _ => ∃ (vt : V) (ss : List Stp) (last : Int), vs = [vt] ∧ Tv H vt (dayT ss last) ∧ ss.length ≤ 1000 ∧ ∀ v' H', Same H H' → Tv H' v' (boardT (marks ss) last) → Q v' H'
theorem sc_board_of : FnScope ["day", "step"] ["day"] (defScope s_board_of) := ⟨rfl, rfl, rfl, by decide +kernel, rfl, by decide +kernel, by decide +kernel⟩
theorem c_board_of (T : Tx K mg) : Cal P w K mg base 1 "board_of" (sp_board_of K) := by
  refine cal_mk T.board_of (fun _ _ _ _ _ _ us hl => match us, hl with | [_], _ => rfl) sc_board_of (fun vs H Q E h => by (obtain ⟨vt, ss, last, rfl, ht, hl, k⟩ := h; rfl)) (fun f cdv A outer s H vs Q E hr h => ?_)
  obtain ⟨vt, ss, last, rfl, ht, hl, k⟩ := h
  refine ⟨_, (pss_one (ps_ret (pe_tupS (pa_cons (pe_callTy (call_tuple_ofS (K := K)) rfl T.f_tuple (by decide +kernel) (pa_cons (pe_lc (own := [("step", 1)]) rfl sc_board_of.nd (pi_tup (pe_ix ix_tup (pv 0) pe_int (fun _ _ => rfl))) (blkOk_by (own := [("step", 1)]) (N := ["day", "step"]) (sc := defScope s_board_of) (by decide +kernel)) (fun _ _ _ _ _ => (pg_name (i := 1) sc_board_of.nd rfl (Or.inl rfl))) (fun _ _ _ _ _ => pts_nil) (fun _ _ _ _ _ => (pe_ix (ix_tupK (K := K)) (pv 1) pe_int (fun _ _ => rfl)))) pa_nil)) (pa_cons (pe_ix ix_tup (pv 0) pe_int (fun _ _ => rfl)) pa_nil))))), ?_⟩
  obtain ⟨a, b, xs, rfl, ha, hb, hx, hxl⟩ := ht.day
  refine ⟨_, rfl, a, _, 0, _, rfl, rfl, SqT.of ha, rfl, b, rfl, ⟨_, SqT.of hb⟩, fun D hD => ?_⟩
  refine lcT (K := K) (fun i ts => ts = (marks (ss.take i)).map Fx.T.i) hD hb (by omega) (by simp [marks]) (fun i x H2 ts hi s1 _ hJ R R' c1 c2 => ?_) fun H2 ts s1 l _ hJ => ?_
  · obtain ⟨t, ht, tx⟩ := hx.at hi
    rw [List.getElem?_map] at ht
    obtain ⟨s, hs1, rfl⟩ := Option.map_eq_some_iff.mp ht
    obtain ⟨q, rfl, hq⟩ := (tx.kt s1.kt).stp
    refine ⟨rfl, _, rfl, q, _, 2, _, rfl, rfl, SqT.of hq, rfl, c1 _ _ _ (Same.refl _) (.i _) ?_⟩
    show _ = (marks (ss.take (i + 1))).map Fx.T.i
    rw [hJ, List.take_succ, hs1, marks, marks, List.map_append, List.map_append]
    rfl
  · rw [hxl, List.take_length] at hJ
    obtain ⟨ys, hy1, hy2⟩ := l
    rw [hJ] at hy2
    have e := hy2.ints
    subst e
    refine ⟨D, _, rfl, hy1, fun q H3 s3 hq _ => ?_⟩
    refine ⟨_, rfl, a, _, 1, _, rfl, rfl, SqT.of (s3 _ _ (s1 _ _ ha)), rfl, by show 2 ≤ _; decide, fun r H4 s4 hr _ => ?_⟩
    exact k _ H4 ((s1.trans s3).trans s4) (.t hr (.cons (tv_is (s4 _ _ hq)) (.cons (.i _) .nil)))
def sp_is_place (K : PySem.W.Frag) : Sp := fun vs H Q _ => ∃ (vt : V) (ss : List Stp) (last n : Int), vs = [vt, .int n] ∧ Tv H vt (dayT ss last) ∧ (0 ≤ n ∧ n < ss.length) ∧ Q (.bl true) H
theorem sc_is_place : FnScope ["day", "thing"] ["day", "thing"] (defScope s_is_place) := ⟨rfl, rfl, rfl, by decide +kernel, rfl, by decide +kernel, by decide +kernel⟩
theorem c_is_place (T : Tx K mg) : Cal P w K mg base 3 "is_place" (sp_is_place K) := by
  refine cal_mk T.is_place (fun _ _ _ _ _ _ us hl => match us, hl with | [_, _], _ => rfl) sc_is_place (fun vs H Q E h => by (obtain ⟨vt, ss, last, n, rfl, ht, hn, k⟩ := h; rfl)) (fun f cdv A outer s H vs Q E hr h => ?_)
  obtain ⟨vt, ss, last, n, rfl, ht, hn, k⟩ := h
  refine ⟨_, (pss_one (ps_ret (pe_c (c_is_within T) hr (by decide) rfl (pa_cons (pv 1) (pa_cons pe_int (pa_cons (pe_op op_sub (pe_callB call_len_seq rfl T.f_len PySem.boot_len (pa_cons (pe_ix ix_tup (pv 0) pe_int (fun _ _ => rfl)) pa_nil)) pe_int) pa_nil)))))), ?_⟩
  obtain ⟨a, b, xs, rfl, ha, hb, hx, hxl⟩ := ht.day
  refine ⟨_, rfl, _, rfl, a, _, 0, _, rfl, rfl, SqT.of ha, rfl, b, _, rfl, .inr (SqT.of hb), _, _, rfl, rfl, n, 0, _, rfl, ?_⟩
  rw [decide_eq_true (by omega)]
  exact k
def sp_is_swap (K : PySem.W.Frag) : Sp := fun vs H Q _ => ∃ (v1 v2 : V) (s t : Stp), vs = [v1, v2] ∧ Tv H v1 (stT s) ∧ Tv H v2 (stT t) ∧ ∀ H', Same H H' → Q (.bl (decide (Swap s t))) H'
theorem sc_is_swap : FnScope ["step", "twin"] ["step", "twin"] (defScope s_is_swap) := ⟨rfl, rfl, rfl, by decide +kernel, rfl, by decide +kernel, by decide +kernel⟩
theorem c_is_swap (T : Tx K mg) : Cal P w K mg base 1 "is_swap" (sp_is_swap K) := by
  refine cal_mk T.is_swap (fun _ _ _ _ _ _ us hl => match us, hl with | [_, _], _ => rfl) sc_is_swap (fun vs H Q E h => by (obtain ⟨v1, v2, s, t, rfl, h1, h2, k⟩ := h; rfl)) (fun f cdv A outer s H vs Q E hr h => ?_)
  obtain ⟨v1, v2, s, t, rfl, h1, h2, k⟩ := h
  refine ⟨_, (pss_one (ps_ret (pe_and (pe_cmpR (op_eqD hr.units) (pe_slice (sl_tupS (K := K)) (pv 0) (po_some pe_int) po_none) (pe_slice (sl_tupS (K := K)) (pv 1) (po_some pe_int) po_none) (nomark _)) (pe_one (pe_cmpR op_ne (pe_ix ix_tup (pv 0) pe_int (fun _ _ => rfl)) (pe_ix ix_tup (pv 1) pe_int (fun _ _ => rfl)) (nomark _)))))), ?_⟩
  obtain ⟨a, rfl, ha⟩ := h1.stp
  obtain ⟨b, rfl, hb⟩ := h2.stp
  refine ⟨_, rfl, _, rfl, a, _, rfl, ha, nw13 _ _ _, fun q H1 s1 hq _ => ?_⟩
  rw [cut13] at hq
  refine ⟨_, rfl, _, rfl, b, _, rfl, s1 _ _ hb, nw13 _ _ _, fun r H2 s2 hr _ => ?_⟩
  rw [cut13] at hr
  have t1 : Tv H2 (.ref q) (isT [s.2.1, s.2.2]) := tv_is (s2 _ _ hq)
  have t2 : Tv H2 (.ref r) (isT [t.2.1, t.2.2]) := tv_is hr
  refine ⟨_, _, t1.dp, t2.dp, shp (by simp), shp (by simp), ?_⟩
  have e := eqv_py (isT [s.2.1, s.2.2]) (isT [t.2.1, t.2.2]) (by simp) (by simp)
  have s12 := s1.trans s2
  cases hq2 : PyData.eqv (isT [s.2.1, s.2.2]).py (isT [t.2.1, t.2.2]).py with
  | true =>
    have e2 := isT_inj (e.mp hq2)
    simp only [List.cons.injEq, and_true] at e2
    refine ⟨true, rfl, iteT ?_⟩
    refine ⟨_, rfl, a, _, 0, _, rfl, rfl, SqT.of (s12 _ _ ha), rfl, _, rfl, b, _, 0, _, rfl, rfl, SqT.of (s12 _ _ hb), rfl, rfl, ?_⟩
    have e3 : (!decide (V.int s.1 = V.int t.1)) = decide (Swap s t) := by
      have e4 : s.2 = t.2 := Prod.ext e2.1 e2.2
      simp [Swap, e4]
    rw [e3]
    exact k H2 s12
  | false =>
    refine ⟨false, rfl, iteF ?_⟩
    have e3 : decide (Swap s t) = false := decide_eq_false fun z => by
      have e4 : isT [s.2.1, s.2.2] = isT [t.2.1, t.2.2] := by rw [z.1]
      rw [e.mpr e4] at hq2
      cases hq2
    have := k H2 s12
    rw [e3] at this
    exact this
end
end Fx

/-! standings behind steps; which days are true -/
namespace Fx
open PySem PySem.Spec PyProof.Rows L2
structure Sts (p : Parts) (l : List Int) : Prop where
  v : ∀ a ∈ l, Val p a
  n : l.Nodup
theorem Sts.len {p : Parts} (ok : POk p) {l : List Int} (s : Sts p l) : l.length ≤ 5 := Nat.le_trans (nodup_le (n := p.rows.length) s.n fun x hx => s.v x hx) ok.n.2
theorem nd_add {l : List Int} {g : Int} (h : l.Nodup) : (if g ∈ l then l else l ++ [g]).Nodup := by
  by_cases e : g ∈ l
  · rw [if_pos e]; exact h
  · rw [if_neg e, List.nodup_append]
    exact ⟨h, by simp, fun a ha b hb z => by rw [List.mem_singleton.mp hb] at z; exact e (z ▸ ha)⟩
theorem mem_add {l : List Int} {g x : Int} : x ∈ (if g ∈ l then l else l ++ [g]) ↔ x ∈ l ∨ x = g := by
  by_cases e : g ∈ l
  · rw [if_pos e]
    exact ⟨.inl, fun z => z.elim id fun z => z ▸ e⟩
  · rw [if_neg e, List.mem_append, List.mem_singleton]
section
variable {P : Program} {w : World} {K : PySem.W.Frag} {mg : Str → Option Value} {base : Heap}
def sp_goals_of (K : PySem.W.Frag) : Sp := fun vs H Q _ => ∃ (vo vl vt : V) (p : Parts) (l : List Int) (s : Stp), vs = [vo, vl, vt] ∧ OffAt K H vo p ∧ POk p ∧ Tv H vl (isT l) ∧ Sts p l ∧ Tv H vt (stT s) ∧
  ∀ v' H' ys, Same H H' → Tv H' v' (isT ys) → Sts p ys → (∀ g, g ∈ ys ↔ ∃ a ∈ l, Mov p a s g) → Q v' H'
theorem sc_goals_of : FnScope ["office", "standings", "step", "found", "standing", "goal"] ["office", "standings", "step"] (defScope s_goals_of) := ⟨rfl, rfl, rfl, by decide +kernel, rfl, by decide +kernel, by decide +kernel⟩
theorem c_goals_of (T : Tx K mg) : Cal P w K mg base 1 "goals_of" (sp_goals_of K) := by
  refine cal_mk T.goals_of (fun _ _ _ _ _ _ us hl => match us, hl with | [_, _, _], _ => rfl) sc_goals_of (fun vs H Q E h => by (obtain ⟨vo, vl, vt, p, l, s, rfl, ho, ok, hl, hsl, ht, k⟩ := h; rfl)) (fun f cdv A outer s H vs Q E hr h => ?_)
  obtain ⟨vo, vl, vt, p, l, s, rfl, ho, ok, hl, hsl, ht, k⟩ := h
  refine ⟨_, (pss_cons (ps_set (i := 3) sc_goals_of.nd rfl (Or.inl rfl) pe_dnewKS)
    (pss_cons (ps_for PassesOwn.never rfl (pi_tup (pv 1)) (pg_name (i := 4) sc_goals_of.nd rfl (Or.inl rfl))
      (pss_one (ps_for PassesOwn.never rfl (pi_list (pe_dget2 (hu_of hr) (pe_ix ix_list (pe_fld (pv 0) rfl) (pv 4) (fun _ _ => rfl)) (pv 2) (pe_lstS pa_nil) ⟨rfl, rfl, rfl, rfl⟩)) (pg_name (i := 5) sc_goals_of.nd rfl (Or.inl rfl))
        (pss_one (ps_dput (hu_of hr) (pv 3) (pv 5) pe_bl rfl)))))
    (pss_one (ps_ret (pe_callTy (call_tuple_ofS (K := K)) rfl T.f_tuple (by decide +kernel) (pa_cons (pe_callB (call_sortedDIS rfl) rfl T.f_sorted (by decide +kernel) (pa_cons (pv 3) pa_nil)) pa_nil)))))), ?_⟩
  obtain ⟨a, dx, L, v1, v2, v3, ds, rfl, o⟩ := ho
  obtain ⟨sl, rfl, hS⟩ := hl.is
  obtain ⟨st, rfl, hst⟩ := ht.stp
  refine fun F HF sF hF nF => ?_
  refine ⟨_, rfl, sl, rfl, ⟨_, SqT.of (sF _ _ hS)⟩, for_tup (K := K) (xs := l.map V.int) (fun i σ H' => ∃ (ks : List Int) (w4 w5 : Option V), σ = [some (.ref a), some (.ref sl), some (.ref st), some (.ref F), w4, w5] ∧ Same H H' ∧ H' F = some (.dK (ksD ks)) ∧ ks.Nodup ∧ ∀ g, g ∈ ks ↔ ∃ b ∈ l.take i, Mov p b s g)
    ⟨[], none, none, rfl, sF, hF, List.nodup_nil, by simp⟩ (fun i σ H' _ ⟨_, _, _, _, s1, _⟩ => SqT.of (s1 _ _ hS)) ?_ ?_⟩
  · rintro i x σ H' hi ⟨ks, w4, w5, rfl, s1, hF1, hn, hm⟩
    rw [List.getElem?_map] at hi
    obtain ⟨b, hb, rfl⟩ := Option.map_eq_some_iff.mp hi
    have hbv := hsl.v b (List.mem_of_getElem? hb)
    have hbn : b.toNat < ds.length := by rw [o.dl]; have := hbv.1; have := hbv.2; omega
    have hd : ds[b.toNat]? = some (ds[b.toNat]) := List.getElem?_eq_getElem hbn
    have hgo := (o.same s1).go _ _ _ hd (rowAt_get hbv)
    obtain ⟨kvs, hkv, hg⟩ := go_get hgo s
    have o1 := o.same s1
    refine ⟨_, rfl, a, _, dx, _, _, rfl, o1.at_, T.cl_Office, T.no_Office_kept_goals, of4, _, rfl, L, _, b, .ref ds[b.toNat], rfl, rfl, SqL.of o1.kl, at_of (j := b.toNat) (by have := hbv.1; omega) (by rw [List.getElem?_map, hd]; rfl), ?_⟩
    refine ⟨_, rfl, .inr ⟨kvs, .inl hkv⟩, _, rfl, by exact Nat.zero_le _, fun l0 H2 s2 hl0 n0 => ?_⟩
    refine ⟨_, DGet.t (s2 _ _ hkv) (k := keyS s) ((s1.trans s2) _ _ hst), ?_⟩
    obtain ⟨lg, gs, e1, hlg, hgl, hgs⟩ : ∃ (lg : Addr) (gs : List Int), (valV kvs (keyS s)).getD (.ref l0) = .ref lg ∧ H2 lg = some (.lst (gs.map V.int)) ∧ gs.length ≤ 100 ∧ ∀ x, x ∈ gs ↔ Mov p b s x := by
      rcases hg with ⟨e, hno⟩ | ⟨lg, gs, e, h1, h2, h3⟩
      · exact ⟨l0, [], by rw [e]; rfl, hl0, Nat.zero_le _, fun x => ⟨(fun z => nomatch z), fun z => absurd z (hno x)⟩⟩
      · exact ⟨lg, gs, by rw [e]; rfl, s2 _ _ h1, by have := (row_ok ok hbv).len; omega, h3⟩
    rw [e1]
    have hF2 := s2 _ _ hF1
    refine ⟨lg, rfl, ⟨_, SqL.of hlg⟩, for_list (K := K) (xs := gs.map V.int) (fun j σ H' => ∃ (ks' : List Int) (w5 : Option V), σ = [some (.ref a), some (.ref sl), some (.ref st), some (.ref F), some (.int b), w5] ∧ (∀ c o, H2 c = some o → c ≠ F → H' c = some o) ∧ H' F = some (.dK (ksD ks')) ∧ ks'.Nodup ∧ ks'.length ≤ ks.length + j ∧ ∀ g, g ∈ ks' ↔ g ∈ ks ∨ g ∈ gs.take j)
      ⟨ks, w5, rfl, (fun _ _ e _ => e), hF2, hn, Nat.le_refl _, by simp⟩ (fun j σ H' _ ⟨_, _, _, b1, _⟩ => SqL.of (b1 _ _ hlg (ne_of hlg hF2 fun z => nomatch z))) ?_ ?_⟩
    · rintro j x σ H3 hj ⟨ks', w5, rfl, b3, hF3, hn3, hl3, hm3⟩
      rw [List.getElem?_map] at hj
      obtain ⟨g, hg2, rfl⟩ := Option.map_eq_some_iff.mp hj
      have hks : ks.length ≤ 5 := Nat.le_trans (nodup_le (n := p.rows.length) hn fun x hx => by
        obtain ⟨c, hc, hmv⟩ := (hm x).mp hx
        exact (hmv.ok ok (hsl.v c (List.mem_of_mem_take hc))).2) ok.n.2
      have hjl := (List.getElem?_eq_some_iff.mp hg2).1
      refine ⟨_, rfl, _, rfl, F, _, rfl, DPut.k (k := .inl g) hF3 (mil' (by rw [ksD, List.length_map]; omega)), ?_⟩
      rw [ksD_put]
      refine ⟨if g ∈ ks' then ks' else ks' ++ [g], _, rfl, (fun c o e n => by rw [upd_ne n]; exact b3 c o e n), upd_same, nd_add hn3, ?_, fun x => ?_⟩
      · split
        · omega
        · rw [List.length_append, List.length_singleton]; omega
      · rw [mem_add, hm3 x, List.take_succ, hg2, List.mem_append]
        simp only [Option.toList, List.mem_singleton, or_assoc]
    · rintro σ H3 ⟨ks', w5, rfl, b3, hF3, hn3, hl3, hm3⟩
      rw [List.length_map, List.take_length] at hm3
      refine ⟨ks', _, _, rfl, fun c o e => b3 c o (s2 _ _ (s1 _ _ e)) (ne_of_none e nF), hF3, hn3, fun g => ?_⟩
      rw [hm3 g, hm g, List.take_succ, hb, hgs g]
      constructor
      · rintro (⟨c, hc, h⟩ | h)
        · exact ⟨c, List.mem_append_left _ hc, h⟩
        · exact ⟨b, List.mem_append_right _ (by simp), h⟩
      · rintro ⟨c, hc, h⟩
        rcases List.mem_append.mp hc with z | z
        · exact .inl ⟨c, z, h⟩
        · have : c = b := by simpa using z
          exact .inr (this ▸ h)
  · rintro σ H' ⟨ks, w4, w5, rfl, s1, hF1, hn, hm⟩
    rw [List.length_map, List.take_length] at hm
    have hv : Sts p ks := ⟨fun x hx => let ⟨c, hc, h⟩ := (hm x).mp hx; (h.ok ok (hsl.v c hc)).2, hn⟩
    refine ⟨_, rfl, F, ksD ks, ks, rfl, hF1, by simp [ksD], by have := hv.len ok; omega, fun ys hp hasc lp H2 s2 hlp _ => ?_⟩
    refine ⟨lp, _, rfl, hlp, fun tp H3 s3 htp _ => ?_⟩
    exact k _ H3 ys ((s1.trans s2).trans s3) (tv_is htp) ⟨fun x hx => hv.v x (hp.mem_iff.mp hx), hp.nodup_iff.mpr hn⟩ fun g => by rw [hp.mem_iff, hm g]
def sp_standings_behind (K : PySem.W.Frag) : Sp := fun vs H Q _ => ∃ (vo : V) (p : Parts) (b : Addr) (xs : List V) (ss : List Stp), vs = [vo, .ref b] ∧ OffAt K H vo p ∧ POk p ∧ H b = some (.tup xs) ∧ TvA H xs (ss.map stT) ∧
  ∀ v' H' ys, Same H H' → Tv H' v' (isT ys) → Sts p ys → (∀ g, g ∈ ys ↔ Walk p ss g) → Q v' H'
theorem sc_standings_behind : FnScope ["office", "steps", "standings", "step"] ["office", "steps"] (defScope s_standings_behind) := ⟨rfl, rfl, rfl, by decide +kernel, rfl, by decide +kernel, by decide +kernel⟩
theorem c_standings_behind (T : Tx K mg) : Cal P w K mg base 2 "standings_behind" (sp_standings_behind K) := by
  refine cal_mk T.standings_behind (fun _ _ _ _ _ _ us hl => match us, hl with | [_, _], _ => rfl) sc_standings_behind (fun vs H Q E h => by (obtain ⟨vo, p, b, xs, ss, rfl, ho, ok, hb, hx, k⟩ := h; rfl)) (fun f cdv A outer s H vs Q E hr h => ?_)
  obtain ⟨vo, p, b, xs, ss, rfl, ho, ok, hb, hx, k⟩ := h
  refine ⟨_, (pss_cons (ps_set (i := 2) sc_standings_behind.nd rfl (Or.inl rfl) (pe_tupS (pa_cons pe_int pa_nil)))
    (pss_cons (ps_for PassesOwn.never rfl (pi_tup (pv 1)) (pg_name (i := 3) sc_standings_behind.nd rfl (Or.inl rfl))
      (pss_one (ps_set (i := 2) sc_standings_behind.nd rfl (Or.inl rfl) (pe_c (c_goals_of T) hr (by decide) rfl (pa_cons (pv 0) (pa_cons (pv 2) (pa_cons (pv 3) pa_nil)))))))
    (pss_one (ps_ret (pv 2))))), ?_⟩
  have hxl : xs.length = ss.length := by rw [hx.length, List.length_map]
  refine ⟨by show 1 ≤ _; decide, fun z H1 s1 hz _ => ?_⟩
  refine ⟨_, rfl, b, rfl, ⟨_, SqT.of (s1 _ _ hb)⟩, for_tup (K := K) (xs := xs) (fun i σ H' => ∃ (v : V) (l : List Int) (w3 : Option V), σ = [some vo, some (.ref b), some v, w3] ∧ Same H H' ∧ Tv H' v (isT l) ∧ Sts p l ∧ ∀ g, g ∈ l ↔ Walk p (ss.take i) g)
    ⟨.ref z, [0], none, rfl, s1, tv_is hz, ⟨fun x hx => by rw [List.mem_singleton.mp hx]; exact val0 ok, by simp⟩, fun g => by rw [List.take_zero, walk_nil, List.mem_singleton]⟩ (fun i σ H' _ ⟨_, _, _, _, s2, _⟩ => SqT.of (s2 _ _ hb)) ?_ ?_⟩
  · rintro i x σ H' hi ⟨v, l, w3, rfl, s2, hv, hl, hm⟩
    obtain ⟨t, ht, tx⟩ := hx.at hi
    rw [List.getElem?_map] at ht
    obtain ⟨s, hs1, rfl⟩ := Option.map_eq_some_iff.mp ht
    refine ⟨_, rfl, _, rfl, _, rfl, vo, v, x, p, l, s, rfl, ho.same s2, ok, hv, hl, tx.kt s2.kt, fun v' H2 ys s3 hv' hys hm' => ?_⟩
    refine ⟨v', ys, _, rfl, s2.trans s3, hv', hys, fun g => ?_⟩
    rw [hm' g, List.take_succ, hs1]
    show _ ↔ Walk p (ss.take i ++ [s]) g
    rw [walk_snoc]
    exact ⟨fun ⟨a, h1, h2⟩ => ⟨a, (hm a).mp h1, h2⟩, fun ⟨a, h1, h2⟩ => ⟨a, (hm a).mpr h1, h2⟩⟩
  · rintro σ H' ⟨v, l, w3, rfl, s2, hv, hl, hm⟩
    rw [hxl, List.take_length] at hm
    exact ⟨_, rfl, k v H' l s2 hv hl hm⟩
def sp_shuts_with (K : PySem.W.Frag) : Sp := fun vs H Q _ => ∃ (vo vl : V) (p : Parts) (l : List Int) (last : Int), vs = [vo, vl, .int last] ∧ OffAt K H vo p ∧ POk p ∧ Tv H vl (isT l) ∧ Sts p l ∧
  ∀ (r : Bool) H', Same H H' → (r = true ↔ ∃ a ∈ l, last ∈ cloAt p a) → Q (.bl r) H'
theorem sc_shuts_with : FnScope ["office", "standings", "last", "standing"] ["office", "standings", "last"] (defScope s_shuts_with) := ⟨rfl, rfl, rfl, by decide +kernel, rfl, by decide +kernel, by decide +kernel⟩
theorem c_shuts_with (T : Tx K mg) : Cal P w K mg base 1 "shuts_with" (sp_shuts_with K) := by
  refine cal_mk T.shuts_with (fun _ _ _ _ _ _ us hl => match us, hl with | [_, _, _], _ => rfl) sc_shuts_with (fun vs H Q E h => by (obtain ⟨vo, vl, p, l, last, rfl, ho, ok, hl, hsl, k⟩ := h; rfl)) (fun f cdv A outer s H vs Q E hr h => ?_)
  obtain ⟨vo, vl, p, l, last, rfl, ho, ok, hl, hsl, k⟩ := h
  refine ⟨_, (pss_one (ps_ret (pe_callB (cr_any rfl) rfl T.f_any (by decide +kernel) (pa_cons (pe_lc (own := [("standing", 3)]) rfl sc_shuts_with.nd (pi_tup (pv 1)) (blkOk_by (own := [("standing", 3)]) (N := ["office", "standings", "last", "standing"]) (sc := defScope s_shuts_with) (by decide +kernel)) (fun _ _ _ _ _ => (pg_name (i := 3) sc_shuts_with.nd rfl (Or.inl rfl))) (fun _ _ _ _ _ => pts_nil) (fun _ _ _ _ _ => (pe_cmpR (op_in_seqK (K := K)) (pv 2) (pe_ix (ix_tupK (K := K)) (pe_fldK (K := K) (pv 0) rfl) (pv 3) (fun _ _ => rfl)) rfl))) pa_nil)))), ?_⟩
  obtain ⟨a, dx, L, v1, v2, v3, ds, rfl, o⟩ := ho
  obtain ⟨sl, rfl, hS⟩ := hl.is
  obtain ⟨ca, cs, rfl, hca, hcs⟩ := o.cl.tup
  refine ⟨_, rfl, sl, rfl, ⟨_, SqT.of hS⟩, fun D hD => ?_⟩
  refine lcT (K := K) (fun i ts => ∃ bs : List Bool, ts = bs.map Fx.T.b ∧ (bs.any id = true ↔ ∃ b ∈ l.take i, last ∈ cloAt p b)) hD hS (by rw [List.length_map]; have := hsl.len ok; omega) ⟨[], rfl, by simp⟩ (fun i x H2 ts hi s1 _ hJ R R' c1 c2 => ?_) fun H2 ts s1 lt _ hJ => ?_
  · rw [List.getElem?_map] at hi
    obtain ⟨b, hb, rfl⟩ := Option.map_eq_some_iff.mp hi
    have hbv := hsl.v b (List.mem_of_getElem? hb)
    obtain ⟨c, hc1, hc2⟩ := hcs.get (i := b.toNat) (t := isT (cloAt p b)) (by rw [List.getElem?_map, cloAt_get ok hbv]; rfl)
    obtain ⟨q, rfl, hq⟩ := (hc2.kt s1.kt).is
    obtain ⟨bs, rfl, hbs⟩ := hJ
    refine ⟨rfl, _, rfl, _, rfl, a, _, dx, _, _, rfl, s1 _ _ o.at_, T.cl_Office, T.no_Office_closings, of3, _, rfl, ca, _, b, _, rfl, rfl, SqT.of (s1 _ _ hca), at_of (j := b.toNat) (by have := hbv.1; omega) hc1, ?_⟩
    refine ⟨q, _, rfl, .inr (SqT.of hq), rfl, by simp [flatV], ?_⟩
    refine c1 _ _ _ (Same.refl _) (.b _) ⟨bs ++ [inV (.int last) ((cloAt p b).map V.int)], by rw [List.map_append]; rfl, ?_⟩
    rw [List.any_append, Bool.or_eq_true, hbs, List.take_succ, hb]
    have e : inV (.int last) ((cloAt p b).map V.int) = true ↔ last ∈ cloAt p b := by
      simp [inV, eqV]
    simp only [List.any_cons, List.any_nil, Bool.or_false, id, e]
    constructor
    · rintro (⟨c, hc, h⟩ | h)
      · exact ⟨c, List.mem_append_left _ hc, h⟩
      · exact ⟨b, List.mem_append_right _ (by simp), h⟩
    · rintro ⟨c, hc, h⟩
      rcases List.mem_append.mp hc with z | z
      · exact .inl ⟨c, z, h⟩
      · have : c = b := by simpa using z
        exact .inr (this ▸ h)
  · rw [List.length_map, List.take_length] at hJ
    obtain ⟨bs, eb, hbs⟩ := hJ
    exact ⟨D, bs, rfl, SqL.of (lt.bools eb), k _ H2 s1 hbs⟩
def sp_day_true (K : PySem.W.Frag) : Sp := fun vs H Q _ => ∃ (vo vt : V) (p : Parts) (ss : List Stp) (last : Int), vs = [vo, vt] ∧ OffAt K H vo p ∧ POk p ∧ Tv H vt (dayT ss last) ∧ ∀ (r : Bool) H', Same H H' → (r = true ↔ TrueDay p ss last) → Q (.bl r) H'
theorem sc_day_true : FnScope ["office", "day"] ["office", "day"] (defScope s_day_true) := ⟨rfl, rfl, rfl, by decide +kernel, rfl, by decide +kernel, by decide +kernel⟩
theorem c_day_true (T : Tx K mg) : Cal P w K mg base 3 "day_true" (sp_day_true K) := by
  refine cal_mk T.day_true (fun _ _ _ _ _ _ us hl => match us, hl with | [_, _], _ => rfl) sc_day_true (fun vs H Q E h => by (obtain ⟨vo, vt, p, ss, last, rfl, ho, ok, ht, k⟩ := h; rfl)) (fun f cdv A outer s H vs Q E hr h => ?_)
  obtain ⟨vo, vt, p, ss, last, rfl, ho, ok, ht, k⟩ := h
  refine ⟨_, (pss_one (ps_ret (pe_c (c_shuts_with T) hr (by decide) rfl (pa_cons (pv 0) (pa_cons (pe_c (c_standings_behind T) hr (by decide) rfl (pa_cons (pv 0) (pa_cons (pe_ix ix_tup (pv 1) pe_int (fun _ _ => rfl)) pa_nil))) (pa_cons (pe_ix ix_tup (pv 1) pe_int (fun _ _ => rfl)) pa_nil)))))), ?_⟩
  obtain ⟨a, b, xs, rfl, ha, hb, hx, hxl⟩ := ht.day
  refine ⟨_, rfl, _, rfl, _, rfl, a, _, 0, _, rfl, rfl, SqT.of ha, rfl, vo, p, b, xs, ss, rfl, ho, ok, hb, hx, fun v' H1 ys s1 hv hys hm => ?_⟩
  refine ⟨_, rfl, a, _, 1, _, rfl, rfl, SqT.of (s1 _ _ ha), rfl, vo, v', p, ys, last, rfl, ho.same s1, ok, hv, hys, fun r H2 s2 hr => ?_⟩
  refine k r H2 (s1.trans s2) ?_
  rw [hr]
  exact ⟨fun ⟨c, h1, h2⟩ => ⟨c, (hm c).mp h1, h2⟩, fun ⟨c, h1, h2⟩ => ⟨c, (hm c).mpr h1, h2⟩⟩
/-- a true day is said to be true -/
def sp_is_true (K : PySem.W.Frag) : Sp := fun vs H Q _ => ∃ (vo vt : V) (p : Parts) (ss : List Stp) (last : Int), vs = [vo, vt] ∧ OffAt K H vo p ∧ POk p ∧ Tv H vt (dayT ss last) ∧ ss.length ≤ 1000 ∧ TrueDay p ss last ∧ ∀ H', Same H H' → Q (.bl true) H'
theorem sc_is_true : FnScope ["office", "thing"] ["office", "thing"] (defScope s_is_true) := ⟨rfl, rfl, rfl, by decide +kernel, rfl, by decide +kernel, by decide +kernel⟩
theorem c_is_true (T : Tx K mg) : Cal P w K mg base 7 "is_true" (sp_is_true K) := by
  refine cal_mk T.is_true (fun _ _ _ _ _ _ us hl => match us, hl with | [_, _], _ => rfl) sc_is_true (fun vs H Q E h => by (obtain ⟨vo, vt, p, ss, last, rfl, ho, ok, ht, hl, htd, k⟩ := h; rfl)) (fun f cdv A outer s H vs Q E hr h => ?_)
  obtain ⟨vo, vt, p, ss, last, rfl, ho, ok, ht, hl, htd, k⟩ := h
  refine ⟨_, (pss_one (ps_ret (pe_and (pe_c (c_is_day T) hr (by decide) rfl (pa_cons (pv 0) (pa_cons (pv 1) pa_nil))) (pe_one (pe_c (c_day_true T) hr (by decide) rfl (pa_cons (pv 0) (pa_cons (pv 1) pa_nil))))))), ?_⟩
  obtain ⟨c, hw, hc⟩ := id htd
  obtain ⟨hcv, hss⟩ := hw.ok ok
  refine ⟨_, rfl, _, rfl, vo, vt, p, ss, last, rfl, ho, ht, hl, hss, (clo_ok ok hcv).ok _ hc, fun H1 s1 => ⟨true, rfl, iteT ?_⟩⟩
  refine ⟨_, rfl, _, rfl, vo, vt, p, ss, last, rfl, ho.same s1, ok, ht.kt s1.kt, fun r H2 s2 hr => ?_⟩
  rw [hr.mpr htd]
  exact k H2 (s1.trans s2)
end
end Fx

/-! is_forging, last_of_both, twin_steps -/
namespace Fx
open PySem PySem.Spec PyProof.Rows L2
def toldT (ss ts : List Stp) (last n : Int) : T := .t [dayT ss last, dayT ts last, .i n]
theorem Tv.told {H : Hp} {v : V} {ss ts : List Stp} {last n : Int} (h : Tv H v (toldT ss ts last n)) : ∃ a v1 v2, v = .ref a ∧ H a = some (.tup [v1, v2, .int n]) ∧ Tv H v1 (dayT ss last) ∧ Tv H v2 (dayT ts last) := by
  obtain ⟨a, ys, e, h1, h2⟩ := h.tup
  cases h2 with
  | cons p q => cases q with
    | cons q r => cases r with
      | cons r s =>
        cases s
        have := r.int
        subst this
        exact ⟨a, _, _, e, h1, p, q⟩
@[simp] theorem boardT_ints (m : List Int) (l : Int) : (boardT m l).ints = true := by simp [boardT, T.ints, T.intsA]
@[simp] theorem boardT_dep (m : List Int) (l : Int) : (boardT m l).dep ≤ 60 := by simp [boardT, T.dep, T.depA]
theorem boardT_inj {m m' : List Int} {l l' : Int} (h : boardT m l = boardT m' l') : m = m' ∧ l = l' := by
  simp only [boardT, T.t.injEq, List.cons.injEq, T.i.injEq, and_true] at h
  exact ⟨isT_inj h.1, h.2⟩
/-- the loop of a comprehension over a list, whatever its turn -/
theorem itl_loop {K : PySem.W.Frag} {a : Addr} {xs : List V} {Hs : Hp} {Qd : Hp → Prop} {B : V → Hp → (Hp → Prop) → Prop} (Pv : Nat → Hp → Prop) (h0 : Pv 0 Hs) (hl : ∀ i H, i ≤ xs.length → Pv i H → SqL K H a xs)
    (hs : ∀ i x H, xs[i]? = some x → Pv i H → B x H (Pv (i + 1))) (hd : ∀ H, Pv xs.length H → Qd H) :
    ∃ W : Nat → Nat → Hp → Prop, (∃ m, W 0 m Hs) ∧ ∀ i m H, W i m H →
      ((Itl K a).stop i H ∧ Qd H) ∨ ((Itl K a).go i H ∧ ∃ Nx : Hp → Prop, (∀ H', Nx H' → ∃ m', m' < m ∧ W (i + 1) m' H') ∧ ∀ x H', (Itl K a).yld i H x H' → B x H' Nx) := by
  refine ⟨fun i m H => m = xs.length - i ∧ i ≤ xs.length ∧ Pv i H, ⟨xs.length, by simp, Nat.zero_le _, h0⟩, ?_⟩
  rintro i m H ⟨rfl, hi, p⟩
  have q := hl i H hi p
  by_cases hlt : i < xs.length
  · refine .inr ⟨⟨xs, xs[i], q, by simp [hlt]⟩, Pv (i + 1), fun H' p' => ⟨xs.length - (i + 1), by omega, rfl, hlt, p'⟩, fun x H' y => ?_⟩
    obtain ⟨e, y⟩ := y
    subst e
    exact hs i x _ (y xs q) p
  · have e : i = xs.length := by omega
    subst e
    exact .inl ⟨⟨xs, q, Nat.le_refl _⟩, hd H p⟩
theorem for_itemsT {d : Addr} {o : Obj} {kvs : List (List L2.Key × V)} {g : TG} {tb : TS} {D : Ends} {σ : L2.St} {H : Hp} (Pv : Nat → L2.St → Hp → Prop) (h0 : Pv 0 σ H) (hl : ∀ i σ H, Pv i σ H → H d = some (.frz o (.dT kvs)))
    (hs : ∀ i k v T q σ H H2, kvs[i]? = some (k, v) → Pv i σ H → H q = some (.tup (k.map kV)) → Same H H2 → H2 T = some (.tup [.ref q, v]) → g (.ref T) σ H2 fun σ2 H2 => tb { D with nx := Pv (i + 1), ct := Pv (i + 1), bk := D.nx } σ2 H2) (hd : ∀ σ H, Pv kvs.length σ H → D.nx σ H) :
    ∃ W : Nat → Nat → L2.St → Hp → Prop, (∃ m, W 0 m σ H) ∧ ∀ i m σ H, W i m σ H →
      ((Itit d o kvs).stop i H ∧ D.nx σ H) ∨ ((Itit d o kvs).go i H ∧ ∃ N : L2.St → Hp → Prop, (∀ σ' H', N σ' H' → ∃ m', m' < m ∧ W (i + 1) m' σ' H') ∧ ∀ x H', (Itit d o kvs).yld i H x H' → g x σ H' fun σ2 H2 => tb { D with nx := N, ct := N, bk := D.nx } σ2 H2) := by
  refine ⟨fun i m σ H => m = kvs.length - i ∧ i ≤ kvs.length ∧ Pv i σ H, ⟨kvs.length, by simp, Nat.zero_le _, h0⟩, ?_⟩
  rintro i m σ H ⟨rfl, hi, p⟩
  have q := hl i σ H p
  by_cases hlt : i < kvs.length
  · refine .inr ⟨⟨q, hlt⟩, Pv (i + 1), fun σ' H' p' => ⟨kvs.length - (i + 1), by omega, rfl, hlt, p'⟩, fun x H' y => ?_⟩
    obtain ⟨T, k, v, qa, e1, rfl, nT, hq, rfl⟩ := y
    exact hs i k v T qa σ H _ e1 p hq (same_new nT) upd_same
  · have e : i = kvs.length := by omega
    subst e
    exact .inl ⟨⟨q, Nat.le_refl _⟩, hd σ H p⟩
def twT (s t : Stp) (g e : Int) : T := .t [stT s, stT t, .i g, .i e]
section
variable {P : Program} {w : World} {K : PySem.W.Frag} {mg : Str → Option Value} {base : Heap}
def sp_is_forging (K : PySem.W.Frag) : Sp := fun vs H Q _ => ∃ (vo vt : V) (p : Parts) (ss ts : List Stp) (last n : Int) (s t : Stp), vs = [vo, vt] ∧ OffAt K H vo p ∧ POk p ∧ Tv H vt (toldT ss ts last n) ∧ ss.length ≤ 1000 ∧ TrueDay p ss last ∧ TrueDay p ts last ∧ marks ss = marks ts ∧
  0 ≤ n ∧ ss[n.toNat]? = some s ∧ ts[n.toNat]? = some t ∧ ∀ H', Same H H' → Q (.bl (decide (Swap s t))) H'
theorem sc_is_forging : FnScope ["office", "thing", "one", "other", "place"] ["office", "thing"] (defScope s_is_forging) := ⟨rfl, rfl, rfl, by decide +kernel, rfl, by decide +kernel, by decide +kernel⟩
theorem c_is_forging (T : Tx K mg) : Cal P w K mg base 8 "is_forging" (sp_is_forging K) := by
  refine cal_mk T.is_forging (fun _ _ _ _ _ _ us hl => match us, hl with | [_, _], _ => rfl) sc_is_forging (fun vs H Q E h => by (obtain ⟨vo, vt, p, ss, ts, last, n, s, t, rfl, ho, ok, ht, hl, hd1, hd2, hm, hn, e1, e2, k⟩ := h; rfl)) (fun f cdv A outer s H vs Q E hr h => ?_)
  obtain ⟨vo, vt, p, ss, ts, last, n, s, t, rfl, ho, ok, ht, hl, hd1, hd2, hm, hn, e1, e2, k⟩ := h
  refine ⟨_, (pss_cons (ps_if (PW.pt (pw_or (pt_not (pt_val (pe_c (c_is_triple T) hr (by decide) rfl (pa_cons (pv 1) pa_nil)))) (pw_or (pt_not (pt_val (pe_c (c_is_true T) hr (by decide) rfl (pa_cons (pv 0) (pa_cons (pe_ix ix_tup (pv 1) pe_int (fun _ _ => rfl)) pa_nil))))) (pw_or1 (pt_not (pt_val (pe_c (c_is_true T) hr (by decide) rfl (pa_cons (pv 0) (pa_cons (pe_ix ix_tup (pv 1) pe_int (fun _ _ => rfl)) pa_nil)))))))))
      (pss_one (ps_ret pe_bl))
      pss_nil)
    (pss_cons (ps_asg (pv 1) (pg_tup rfl (pgs_cons (pg_name (i := 2) sc_is_forging.nd rfl (Or.inl rfl)) (pgs_cons (pg_name (i := 3) sc_is_forging.nd rfl (Or.inl rfl)) (pgs_cons (pg_name (i := 4) sc_is_forging.nd rfl (Or.inl rfl)) pgs_nil)))))
    (pss_cons (ps_if (PW.pt (pw_or (pt_cmpR (op_neD hr.units) (pe_c (c_board_of T) hr (by decide) rfl (pa_cons (pv 2) pa_nil)) (pe_c (c_board_of T) hr (by decide) rfl (pa_cons (pv 3) pa_nil)) (nomark _)) (pw_or1 (pt_not (pt_val (pe_c (c_is_place T) hr (by decide) rfl (pa_cons (pv 2) (pa_cons (pv 4) pa_nil))))))))
      (pss_one (ps_ret pe_bl))
      pss_nil)
    (pss_one (ps_ret (pe_c (c_is_swap T) hr (by decide) rfl (pa_cons (pe_ix ix_tup (pe_ix ix_tup (pv 2) pe_int (fun _ _ => rfl)) (pv 4) (fun _ _ => rfl)) (pa_cons (pe_ix ix_tup (pe_ix ix_tup (pv 3) pe_int (fun _ _ => rfl)) (pv 4) (fun _ _ => rfl)) pa_nil)))))))), ?_⟩
  obtain ⟨a, v1, v2, rfl, ha, h1, h2⟩ := ht.told
  have hlt : ss.length = ts.length := by simpa [marks] using congrArg List.length hm
  have hnl := (List.getElem?_eq_some_iff.mp e1).1
  refine ⟨_, rfl, a, _, rfl, ha, rfl, true, rfl, ?_⟩
  refine ⟨_, rfl, _, rfl, a, _, 0, _, rfl, rfl, SqT.of ha, rfl, vo, v1, p, ss, last, rfl, ho, ok, h1, hl, hd1, fun H1 s1 => ⟨true, rfl, ?_⟩⟩
  refine ⟨_, rfl, _, rfl, a, _, 1, _, rfl, rfl, SqT.of (s1 _ _ ha), rfl, vo, v2, p, ts, last, rfl, ho.same s1, ok, h2.kt s1.kt, by omega, hd2, fun H2 s2 => ⟨true, rfl, ?_⟩⟩
  have s12 := s1.trans s2
  refine ⟨_, rfl, a, _, rfl, SqT.of (s12 _ _ ha), rfl, _, _, rfl, _, _, rfl, _, _, rfl, rfl, ?_⟩
  refine ⟨_, rfl, v1, ss, last, rfl, h1.kt s12.kt, hl, fun w1 H3 s3 hw1 => ?_⟩
  have s13 := s12.trans s3
  refine ⟨_, rfl, v2, ts, last, rfl, h2.kt s13.kt, by omega, fun w2 H4 s4 hw2 => ?_⟩
  have s14 := s13.trans s4
  refine ⟨_, _, (hw1.kt s4.kt).dp, hw2.dp, shp (by simp), shp (by simp), ?_⟩
  have eqb : PyData.eqv (boardT (marks ss) last).py (boardT (marks ts) last).py = true := (eqv_py _ _ (by simp) (by simp)).mpr (by rw [hm])
  rw [eqb]
  refine ⟨false, rfl, ?_⟩
  refine ⟨_, rfl, _, rfl, v1, ss, last, n, rfl, h1.kt s14.kt, ⟨hn, by omega⟩, true, rfl, ?_⟩
  obtain ⟨a1, b1, xs1, rfl, ha1, hb1, hx1, _⟩ := (h1.kt s14.kt).day
  obtain ⟨a2, b2, xs2, rfl, ha2, hb2, hx2, _⟩ := (h2.kt s14.kt).day
  obtain ⟨u1, hu1, tu1⟩ := hx1.get (i := n.toNat) (t := stT s) (by rw [List.getElem?_map, e1]; rfl)
  obtain ⟨u2, hu2, tu2⟩ := hx2.get (i := n.toNat) (t := stT t) (by rw [List.getElem?_map, e2]; rfl)
  refine ⟨_, rfl, a1, _, 0, _, rfl, rfl, SqT.of ha1, rfl, _, rfl, b1, _, n, u1, rfl, rfl, SqT.of hb1, at_of (j := n.toNat) (by omega) hu1, ?_⟩
  refine ⟨_, rfl, a2, _, 0, _, rfl, rfl, SqT.of ha2, rfl, _, rfl, b2, _, n, u2, rfl, rfl, SqT.of hb2, at_of (j := n.toNat) (by omega) hu2, ?_⟩
  exact ⟨u1, u2, s, t, rfl, tu1, tu2, fun H5 s5 => k H5 (s14.trans s5)⟩
def sp_last_of_both (K : PySem.W.Frag) : Sp := fun vs H Q _ => ∃ (vo : V) (p : Parts) (a b : Int), vs = [vo, .int a, .int b] ∧ OffAt K H vo p ∧ POk p ∧ Val p a ∧ Val p b ∧
  (∀ last, last ∈ cloAt p a → last ∈ cloAt p b → Q (.int last) H) ∧ ((∀ x, x ∈ cloAt p a → x ∉ cloAt p b) → Q .non H)
theorem sc_last_of_both : FnScope ["office", "one", "other", "last"] ["office", "one", "other"] (defScope s_last_of_both) := ⟨rfl, rfl, rfl, by decide +kernel, rfl, by decide +kernel, by decide +kernel⟩
theorem c_last_of_both (T : Tx K mg) : Cal P w K mg base 1 "last_of_both" (sp_last_of_both K) := by
  refine cal_mk T.last_of_both (fun _ _ _ _ _ _ us hl => match us, hl with | [_, _, _], _ => rfl) sc_last_of_both (fun vs H Q E h => by (obtain ⟨vo, p, x, y, rfl, ho, ok, hx, hy, k1, k2⟩ := h; rfl)) (fun f cdv A outer s H vs Q E hr h => ?_)
  obtain ⟨vo, p, x, y, rfl, ho, ok, hx, hy, k1, k2⟩ := h
  refine ⟨_, (pss_cons (ps_for PassesOwn.never rfl (pi_tup (pe_ix ix_tup (pe_fld (pv 0) rfl) (pv 1) (fun _ _ => rfl))) (pg_name (i := 3) sc_last_of_both.nd rfl (Or.inl rfl))
      (pss_one (ps_if (pt_cmpR op_in_seq (pv 3) (pe_ix ix_tup (pe_fld (pv 0) rfl) (pv 2) (fun _ _ => rfl)) rfl)
        (pss_one (ps_ret (pv 3)))
        pss_nil)))
    (pss_one (ps_ret pe_non))), ?_⟩
  obtain ⟨a, dx, L, v1, v2, v3, ds, rfl, o⟩ := ho
  obtain ⟨ca, cs, rfl, hca, hcs⟩ := o.cl.tup
  obtain ⟨c1, hc1, tc1⟩ := hcs.get (i := x.toNat) (t := isT (cloAt p x)) (by rw [List.getElem?_map, cloAt_get ok hx]; rfl)
  obtain ⟨c2, hc2, tc2⟩ := hcs.get (i := y.toNat) (t := isT (cloAt p y)) (by rw [List.getElem?_map, cloAt_get ok hy]; rfl)
  obtain ⟨q1, rfl, hq1⟩ := tc1.is
  obtain ⟨q2, rfl, hq2⟩ := tc2.is
  refine ⟨_, rfl, a, _, dx, _, _, rfl, o.at_, T.cl_Office, T.no_Office_closings, of3, _, rfl, ca, _, x, _, rfl, rfl, SqT.of hca, at_of (j := x.toNat) (by have := hx.1; omega) hc1, q1, rfl, ⟨_, SqT.of hq1⟩, ?_⟩
  refine for_tup (K := K) (xs := (cloAt p x).map V.int) (fun i σ H' => H' = H ∧ (∃ w3, σ = [some (.ref a), some (.int x), some (.int y), w3]) ∧ ∀ z ∈ (cloAt p x).take i, z ∉ cloAt p y) ⟨rfl, ⟨none, rfl⟩, by simp⟩ (fun i σ H' _ h => by rw [h.1]; exact SqT.of hq1) ?_ ?_
  · rintro i z σ H' hi ⟨rfl, ⟨w3, rfl⟩, hno⟩
    rw [List.getElem?_map] at hi
    obtain ⟨m, hm, rfl⟩ := Option.map_eq_some_iff.mp hi
    refine ⟨_, rfl, _, rfl, a, _, dx, _, _, rfl, o.at_, T.cl_Office, T.no_Office_closings, of3, _, rfl, ca, _, y, _, rfl, rfl, SqT.of hca, at_of (j := y.toNat) (by have := hy.1; omega) hc2, ?_⟩
    refine ⟨q2, _, rfl, .inr (SqT.of hq2), rfl, by simp [flatV], ?_⟩
    have e : inV (.int m) ((cloAt p y).map V.int) = decide (m ∈ cloAt p y) := by
      rw [Bool.eq_iff_iff, decide_eq_true_eq]
      simp [inV, eqV]
    refine ⟨decide (m ∈ cloAt p y), by rw [← e]; rfl, ?_⟩
    by_cases hmy : m ∈ cloAt p y
    · rw [decide_eq_true hmy]
      exact ⟨_, rfl, k1 m (List.mem_of_getElem? hm) hmy⟩
    · rw [decide_eq_false hmy]
      refine ⟨rfl, ⟨_, rfl⟩, fun z hz => ?_⟩
      rw [List.take_succ, hm] at hz
      rcases List.mem_append.mp hz with h | h
      · exact hno z h
      · have : z = m := by simpa using h
        rw [this]; exact hmy
  · rintro σ H' ⟨rfl, ⟨w3, rfl⟩, hno⟩
    rw [List.length_map, List.take_length] at hno
    exact k2 hno
end
end Fx

/-! twin_steps -/
namespace Fx
open PySem PySem.Spec PyProof.Rows L2
def TwS (p : Parts) (x y : Int) (t : T) : Prop := ∃ s u g e, t = twT s u g e ∧ Mov p x s g ∧ Mov p y u e ∧ s.2.2 = u.2.2
def twsOf (s u : Stp) (gs es : List Int) : List T := gs.flatMap fun g => es.map fun e => twT s u g e
theorem twsOf_len (s u : Stp) (gs es : List Int) : (twsOf s u gs es).length = gs.length * es.length := by
  induction gs with
  | nil => simp [twsOf]
  | cons g gs ih =>
    have e : twsOf s u (g :: gs) es = (es.map fun e => twT s u g e) ++ twsOf s u gs es := by simp [twsOf]
    rw [e, List.length_append, ih, List.length_map, List.length_cons, Nat.succ_mul]
    omega
theorem mem_twsOf {s u : Stp} {gs es : List Int} {t : T} : t ∈ twsOf s u gs es ↔ ∃ g ∈ gs, ∃ e ∈ es, twT s u g e = t := by
  simp [twsOf]
section
variable {P : Program} {w : World} {K : PySem.W.Frag} {mg : Str → Option Value} {base : Heap}
def sp_twin_steps (K : PySem.W.Frag) : Sp := fun vs H Q _ => ∃ (vo : V) (p : Parts) (x y : Int), vs = [vo, .int x, .int y] ∧ OffAt K H vo p ∧ POk p ∧ Val p x ∧ Val p y ∧
  ∀ l H' ts, Same H H' → H l = none → LT H' l ts → ts.length ≤ 10000 → (∀ t ∈ ts, TwS p x y t) → (∀ s u g e, Mov p x s g → Mov p y u e → s.2.2 = u.2.2 → twT s u g e ∈ ts) → Q (.ref l) H'
theorem sc_twin_steps : FnScope ["office", "one", "other", "found", "step", "goals", "twin", "ends", "goal", "end"] ["office", "one", "other"] (defScope s_twin_steps) := ⟨rfl, rfl, rfl, by decide +kernel, rfl, by decide +kernel, by decide +kernel⟩
theorem c_twin_steps (T : Tx K mg) : Cal P w K mg base 1 "twin_steps" (sp_twin_steps K) := by
  refine cal_mk T.twin_steps (fun _ _ _ _ _ _ us hl => match us, hl with | [_, _, _], _ => rfl) sc_twin_steps (fun vs H Q E h => by (obtain ⟨vo, p, x, y, rfl, ho, ok, hx, hy, k⟩ := h; rfl)) (fun f cdv A outer s H vs Q E hr h => ?_)
  obtain ⟨vo, p, x, y, rfl, ho, ok, hx, hy, k⟩ := h
  refine ⟨_, (pss_cons (ps_set (i := 3) sc_twin_steps.nd rfl (Or.inl rfl) (pe_lstS pa_nil))
    (pss_cons (ps_lock (ps_lock (ps_for PassesOwn.never rfl (pi_itemsT (pe_ix ix_list (pe_fld (pv 0) rfl) (pv 1) (fun _ _ => rfl))) (pg_tup rfl (pgs_cons (pg_name (i := 4) sc_twin_steps.nd rfl (Or.inr rfl)) (pgs_cons (pg_name (i := 5) sc_twin_steps.nd rfl (Or.inl rfl)) pgs_nil)))
      (pss_one (ps_for PassesOwn.never rfl (pi_itemsT (pe_ix ix_list (pe_fld (pv 0) rfl) (pv 2) (fun _ _ => rfl))) (pg_tup rfl (pgs_cons (pg_name (i := 6) sc_twin_steps.nd rfl (Or.inr rfl)) (pgs_cons (pg_name (i := 7) sc_twin_steps.nd rfl (Or.inr rfl)) pgs_nil)))
        (pss_one (ps_if (pt_cmpR op_eq (pe_ix ix_tup (pv 4) pe_int (fun _ _ => rfl)) (pe_ix ix_tup (pv 6) pe_int (fun _ _ => rfl)) (nomark _))
          (pss_one (ps_expr (pe_bm PySem.F.plainAttrs_list PySem.F.slot_list_extend PySem.F.type_list_extend mt_extendS (pv 3) (pa_cons (pe_lc2 (own := [("goal", 8), ("end", 9)]) (vs1 := [9]) rfl sc_twin_steps.nd (pi_list (pv 5)) (blkOk_by (own := [("goal", 8), ("end", 9)]) (N := ["office", "one", "other", "found", "step", "goals", "twin", "ends", "goal", "end"]) (sc := defScope s_twin_steps) (by decide +kernel)) (by decide) (fun _ _ _ _ _ => (pg_name (i := 8) sc_twin_steps.nd rfl (Or.inl rfl))) (fun _ _ _ _ _ => pts_nil) (fun _ _ _ _ _ => (pi_listK (K := K) (pv 7))) (fun _ _ _ _ _ => (pg_name (i := 9) sc_twin_steps.nd rfl (Or.inl rfl))) (fun _ _ _ _ _ => pts_nil) (fun _ _ _ _ _ => (pe_tupS (pa_cons (pv 4) (pa_cons (pv 6) (pa_cons (pv 8) (pa_cons (pv 9) pa_nil))))))) pa_nil))))
          pss_nil)))))))
    (pss_one (ps_ret (pv 3))))), ?_⟩
  obtain ⟨a, dx, L, v1, v2, v3, ds, rfl, o0⟩ := ho
  refine ⟨by exact Nat.zero_le _, fun F H1 s1 hF nF => ?_⟩
  have o := o0.same s1
  have hxn : x.toNat < ds.length := by rw [o.dl]; have := hx.1; have := hx.2; omega
  have hyn : y.toNat < ds.length := by rw [o.dl]; have := hy.1; have := hy.2; omega
  obtain ⟨d1, hd1⟩ : ∃ d, ds[x.toNat]? = some d := ⟨_, List.getElem?_eq_getElem hxn⟩
  obtain ⟨d2, hd2⟩ : ∃ d, ds[y.toNat]? = some d := ⟨_, List.getElem?_eq_getElem hyn⟩
  obtain ⟨kvs1, h1', g1⟩ := o0.go _ _ _ hd1 (rowAt_get hx)
  obtain ⟨kvs2, h2', g2⟩ := o0.go _ _ _ hd2 (rowAt_get hy)
  have h1 := s1 _ _ h1'
  have h2 := s1 _ _ h2'
  have r1 := (row_ok ok hx).len
  have r2 := (row_ok ok hy).len
  obtain ⟨e, u2, he, mu, ne, hnt, hcov⟩ : ∃ (e : Addr) (u2 : HO), H1 e = some u2 ∧ Mut (some u2) ∧ e ≠ d1 ∧ (∀ xs, u2 ≠ .tup xs) ∧ ((d2 = d1 ∧ e = L ∧ u2 = .lst (ds.map V.ref)) ∨ (e = d2 ∧ u2 = .dT kvs2)) := by
    by_cases hd : d2 = d1
    · exact ⟨L, _, o.kl, trivial, ne_of o.kl h1 (fun z => nomatch z), (fun _ z => nomatch z), .inl ⟨hd, rfl, rfl⟩⟩
    · exact ⟨d2, _, h2, trivial, hd, (fun _ z => nomatch z), .inr ⟨rfl, rfl⟩⟩
  have he0 : e ≠ F := by
    rcases hcov with ⟨_, z, _⟩ | ⟨z, _⟩
    · rw [z]; exact ne_of_none o0.kl nF
    · rw [z]
      obtain ⟨_, q, _⟩ := o0.go _ _ _ hd2 (rowAt_get hy)
      exact ne_of_none q nF
  refine ⟨d1, .dT kvs1, h1, trivial, fun od1 => ⟨e, u2, by rw [upd_ne ne]; exact he, mu, fun od2 => ?_⟩⟩
  generalize eHl : upd (upd H1 d1 (.frz od1 (.dT kvs1))) e (.frz od2 u2) = Hl
  have f1 : Hl d1 = some (.frz od1 (.dT kvs1)) := by rw [← eHl, upd_ne ne.symm, upd_same]
  have fe : Hl e = some (.frz od2 u2) := by rw [← eHl, upd_same]
  have off : ∀ c, c ≠ d1 → c ≠ e → Hl c = H1 c := fun c n1 n2 => by rw [← eHl, upd_ne n2, upd_ne n1]
  have dF : d1 ≠ F := by
    obtain ⟨_, q, _⟩ := o0.go _ _ _ hd1 (rowAt_get hx)
    exact ne_of_none q nF
  obtain ⟨o2, f2⟩ : ∃ o2, Hl d2 = some (.frz o2 (.dT kvs2)) := by
    rcases hcov with ⟨z, _, _⟩ | ⟨z, z2⟩
    · subst z
      rw [h1] at h2
      cases h2
      exact ⟨_, f1⟩
    · subst z z2
      exact ⟨_, fe⟩
  have eoff : ∀ c u, H1 c = some u → (∀ kv, u ≠ .dT kv) → (∀ xs, u = .lst xs → xs ≠ ds.map V.ref) → Hl c = some u := fun c u hc n1 n2 => by
    rw [off c (ne_of hc h1 (n1 _)) ?_]
    · exact hc
    · rcases hcov with ⟨_, z, z2⟩ | ⟨z, z2⟩
      · rw [z]
        intro q
        rw [q, o.kl] at hc
        exact n2 _ (Option.some.inj hc).symm rfl
      · rw [z]
        exact ne_of hc h2 (n1 _)
  have hdsne : ds ≠ [] := fun z => by rw [z] at hxn; simp at hxn
  have hA := eoff _ _ o.at_ (fun _ z => nomatch z) (fun _ z => nomatch z)
  have hLq : SqL K Hl L (ds.map V.ref) := by
    rcases hcov with ⟨_, z, z2⟩ | ⟨z, z2⟩
    · subst z z2
      exact .inl (.inr ⟨_, fe⟩)
    · refine SqL.of ?_
      rw [off L (ne_of o.kl h1 fun z => nomatch z) (by rw [z]; exact ne_of o.kl h2 fun z => nomatch z)]
      exact o.kl
  have hFl : Hl F = some (.lst []) := by rw [off F dF.symm he0.symm]; exact hF
  have ktl : KT H1 Hl := fun c xs hc => eoff c _ hc (fun _ z => nomatch z) (fun _ z => nomatch z)
  have hgl : ∀ (l : Addr) (gs : List Int), H1 l = some (.lst (gs.map V.int)) → Hl l = some (.lst (gs.map V.int)) := fun l gs hl => eoff l _ hl (fun _ z => nomatch z) fun xs z q => by
    injection z with z
    rw [← z] at q
    cases ds with
    | nil => exact hdsne rfl
    | cons d ds =>
      cases gs with
      | nil => simp at q
      | cons g gs => simp at q
  have bL : ∀ H', But F Hl H' → SqL K H' L (ds.map V.ref) := fun H' b => by
    have nLF : L ≠ F := ne_of_none o0.kl nF
    rcases hLq with (q | ⟨oo, q⟩) | q
    · exact .inl (.inl (b _ _ q nLF))
    · exact .inl (.inr ⟨oo, b _ _ q nLF⟩)
    · exact .inr q
  have naF : a ≠ F := ne_of_none o0.at_ nF
  have d2F : d2 ≠ F := by
    obtain ⟨_, q, _⟩ := o0.go _ _ _ hd2 (rowAt_get hy)
    exact ne_of_none q nF
  refine ⟨_, rfl, a, _, dx, _, _, rfl, hA, T.cl_Office, T.no_Office_kept_goals, of4, _, rfl, L, _, x, .ref d1, rfl, rfl, hLq, at_of (j := x.toNat) (by have := hx.1; omega) (by rw [List.getElem?_map, hd1]; rfl), d1, od1, kvs1, rfl, f1, ?_⟩
  refine for_itemsT (fun i σ H' => ∃ (ts : List Fx.T) (w4 w5 w6 w7 w8 w9 : Option V), σ = [some (.ref a), some (.int x), some (.int y), some (.ref F), w4, w5, w6, w7, w8, w9] ∧ But F Hl H' ∧ LT H' F ts ∧ ts.length ≤ i * 729 ∧ (∀ t ∈ ts, TwS p x y t) ∧
      ∀ i' s v, i' < i → kvs1[i']? = some (keyS s, v) → ∀ u g e, Mov p x s g → Mov p y u e → s.2.2 = u.2.2 → twT s u g e ∈ ts)
    ⟨[], none, none, none, none, none, none, rfl, (fun _ _ q _ => q), ⟨[], hFl, .nil⟩, Nat.le_refl _, (fun _ z => nomatch z), fun i' s v z => absurd z (Nat.not_lt_zero _)⟩ (fun i σ H' ⟨_, _, _, _, _, _, _, _, b, _⟩ => b _ _ f1 dF) ?_ ?_
  · rintro i kk v T1 q σ H' H2 hi ⟨ts, w4, w5, w6, w7, w8, w9, rfl, b, lt, hlen, hsnd, hcmp⟩ hq s2 hT1
    have hi9 : i < 9 := by have := (List.getElem?_eq_some_iff.mp hi).1; have := g1.len; omega
    obtain ⟨s, l1, gs1, rfl, rfl, _, hl1, hgs1, hm1⟩ := g1.at_ _ _ (List.mem_of_getElem? hi)
    have n1F := ne_of_none hl1 nF
    have b2 : But F Hl H2 := fun c u hc n => s2 _ _ (b c u hc n)
    refine ⟨T1, _, rfl, SqT.of hT1, rfl, _, _, rfl, _, _, rfl, rfl, ?_⟩
    refine ⟨_, rfl, a, _, dx, _, _, rfl, b2 _ _ hA naF, T.cl_Office, T.no_Office_kept_goals, of4, _, rfl, L, _, y, .ref d2, rfl, rfl, bL _ b2, at_of (j := y.toNat) (by have := hy.1; omega) (by rw [List.getElem?_map, hd2]; rfl), d2, o2, kvs2, rfl, b2 _ _ f2 d2F, ?_⟩
    refine for_itemsT (fun j σ H' => ∃ (ts : List Fx.T) (w6 w7 w8 w9 : Option V), σ = [some (.ref a), some (.int x), some (.int y), some (.ref F), some (.ref q), some (.ref l1), w6, w7, w8, w9] ∧ But F Hl H' ∧ H' q = some (.tup ((keyS s).map kV)) ∧ LT H' F ts ∧ ts.length ≤ i * 729 + j * 81 ∧ (∀ t ∈ ts, TwS p x y t) ∧
        (∀ i' s v, i' < i → kvs1[i']? = some (keyS s, v) → ∀ u g e, Mov p x s g → Mov p y u e → s.2.2 = u.2.2 → twT s u g e ∈ ts) ∧
        ∀ j' u v, j' < j → kvs2[j']? = some (keyS u, v) → ∀ g e, Mov p x s g → Mov p y u e → s.2.2 = u.2.2 → twT s u g e ∈ ts)
      ⟨ts, w6, w7, w8, w9, rfl, b2, s2 _ _ hq, lt.same s2, by omega, hsnd, hcmp, fun j' s v z => absurd z (Nat.not_lt_zero _)⟩ (fun j σ H' ⟨_, _, _, _, _, _, b, _⟩ => b _ _ f2 d2F) ?_ ?_
    · rintro j kk v T2 q2 σ H3 H4 hj ⟨ts, w6, w7, w8, w9, rfl, b3, hq3, lt3, hlen3, hsnd3, hcmp3, hc3⟩ hq2 s4 hT2
      have hj9 : j < 9 := by have := (List.getElem?_eq_some_iff.mp hj).1; have := g2.len; omega
      obtain ⟨u, l2, gs2, rfl, rfl, _, hl2, hgs2, hm2⟩ := g2.at_ _ _ (List.mem_of_getElem? hj)
      have n2F := ne_of_none hl2 nF
      have b4 : But F Hl H4 := fun c uu hc n => s4 _ _ (b3 c uu hc n)
      have hq4 := s4 _ _ hq3
      have hq24 := s4 _ _ hq2
      refine ⟨T2, _, rfl, SqT.of hT2, rfl, _, _, rfl, _, _, rfl, rfl, ?_⟩
      refine ⟨_, rfl, q, _, 2, _, rfl, rfl, SqT.of hq4, rfl, _, rfl, q2, _, 2, _, rfl, rfl, SqT.of hq24, rfl, rfl, _, rfl, ?_⟩
      have fin : ∀ (ts' : List Fx.T) (H' : Hp) (w8 w9 : Option V), But F Hl H' → H' q = some (.tup ((keyS s).map kV)) → LT H' F ts' → ts'.length ≤ ts.length + 81 → (∀ t ∈ ts, t ∈ ts') → (∀ t ∈ ts', TwS p x y t) → (∀ g e, Mov p x s g → Mov p y u e → s.2.2 = u.2.2 → twT s u g e ∈ ts') →
          ∃ (ts : List Fx.T) (w6 w7 w8' w9' : Option V), [some (.ref a), some (.int x), some (.int y), some (.ref F), some (.ref q), some (.ref l1), some (.ref q2), some (.ref l2), w8, w9] = [some (.ref a), some (.int x), some (.int y), some (.ref F), some (.ref q), some (.ref l1), w6, w7, w8', w9'] ∧ But F Hl H' ∧ H' q = some (.tup ((keyS s).map kV)) ∧ LT H' F ts ∧ ts.length ≤ i * 729 + (j + 1) * 81 ∧ (∀ t ∈ ts, TwS p x y t) ∧
            (∀ i' s v, i' < i → kvs1[i']? = some (keyS s, v) → ∀ u g e, Mov p x s g → Mov p y u e → s.2.2 = u.2.2 → twT s u g e ∈ ts) ∧
            ∀ j' u v, j' < j + 1 → kvs2[j']? = some (keyS u, v) → ∀ g e, Mov p x s g → Mov p y u e → s.2.2 = u.2.2 → twT s u g e ∈ ts := fun ts' H' w8 w9 q1 q2 q3 q4 q5 q6 q7 =>
        ⟨ts', _, _, _, _, rfl, q1, q2, q3, by omega, q6, fun i' s v z1 z2 uu g e z3 z4 z5 => q5 _ (hcmp3 i' s v z1 z2 uu g e z3 z4 z5), fun j' uu v z1 z2 g e z3 z4 z5 => by
          by_cases hjj : j' = j
          · subst hjj
            rw [hj] at z2
            have ek := congrArg Prod.fst (Option.some.inj z2)
            have := keyS_inj ek
            subst this
            exact q7 g e z3 z4 z5
          · exact q5 _ (hc3 j' uu v (by omega) z2 g e z3 z4 z5)⟩
      refine ite2 (fun hyes => ?_) (fun hno => ?_)
      · have hmk : s.2.2 = u.2.2 := by
          have z := of_decide_eq_true hyes
          injection z
        obtain ⟨acc0, hF4, tF4⟩ := lt3.same s4
        have hl14 := b4 _ _ (hgl _ _ (s1 _ _ hl1)) n1F
        have hl24 := b4 _ _ (hgl _ _ (s1 _ _ hl2)) n2F
        have hg1 : gs1.length ≤ 9 := by omega
        have hg2 : gs2.length ≤ 9 := by omega
        have hacc0 : acc0.length ≤ 9 * 729 + 9 * 81 := by rw [tF4.length]; omega
        refine ⟨_, rfl, .inl ⟨rfl, _, SqL.of hF4⟩, _, rfl, l1, rfl, ⟨_, SqL.of hl14⟩, fun D nD => ?_⟩
        refine itl_loop (K := K) (xs := gs1.map V.int) (fun i' H' => Same H4 H' ∧ LT H' D (twsOf s u (gs1.take i') gs2)) ⟨same_new nD, [], upd_same, by simpa [twsOf] using TvA.nil⟩ (fun i' H' _ h => SqL.of (h.1 _ _ hl14)) ?_ ?_
        · rintro i' z H5 hi' ⟨s5, l5⟩
          rw [List.getElem?_map] at hi'
          obtain ⟨g, hg, rfl⟩ := Option.map_eq_some_iff.mp hi'
          have hig := (List.getElem?_eq_some_iff.mp hg).1
          have htl : (twsOf s u (gs1.take i') gs2).length ≤ 81 := by
            rw [twsOf_len, List.length_take]
            exact Nat.le_trans (Nat.mul_le_mul (show min i' gs1.length ≤ 9 by omega) hg2) (by decide)
          refine ⟨rfl, _, rfl, l2, rfl, ⟨_, SqL.of (s5 _ _ hl24)⟩, ?_⟩
          refine itl_loop (K := K) (xs := gs2.map V.int) (fun j' H' => Same H4 H' ∧ LT H' D (twsOf s u (gs1.take i') gs2 ++ (gs2.take j').map fun e => twT s u g e)) ⟨s5, by simpa using l5⟩ (fun j' H' _ h => SqL.of (h.1 _ _ hl24)) ?_ ?_
          · rintro j' z H6 hj' ⟨s6, acc, hacc, tacc⟩
            rw [List.getElem?_map] at hj'
            obtain ⟨e', he', rfl⟩ := Option.map_eq_some_iff.mp hj'
            refine ⟨rfl, _, rfl, _, rfl, _, rfl, _, rfl, by show 4 ≤ _; decide, fun tp H7 s7 htp _ => ?_⟩
            have hD7 := s7 _ _ hacc
            have k7 : ∀ o, KT H7 (upd H7 D o) := fun o => kt_upd hD7 (fun _ z => nomatch z)
            refine ⟨acc, hD7, mil' ?_, same_upd (s6.trans s7) nD, acc ++ [.ref tp], upd_same, ?_⟩
            · rw [tacc.length, List.length_append, List.length_map, List.length_take]
              omega
            · rw [List.take_succ, he', List.map_append, ← List.append_assoc]
              refine ((tacc.kt s7.kt).kt (k7 _)).snoc (Tv.kt (k7 _) (.t htp ?_))
              exact .cons (tv_st (s7 _ _ (s6 _ _ hq4))) (.cons (tv_st (s7 _ _ (s6 _ _ hq24))) (.cons (.i _) (.cons (.i _) .nil)))
          · rintro H6 ⟨s6, l6⟩
            rw [List.length_map, List.take_length] at l6
            refine ⟨s6, ?_⟩
            have ee : twsOf s u (gs1.take (i' + 1)) gs2 = twsOf s u (gs1.take i') gs2 ++ gs2.map fun e => twT s u g e := by
              rw [List.take_succ, hg]
              simp [twsOf]
            rw [ee]
            exact l6
        · rintro H5 ⟨s5, acc, hacc, tacc⟩
          rw [List.length_map, List.take_length] at tacc
          have hal : acc.length ≤ 81 := by
            rw [tacc.length, twsOf_len]
            exact Nat.le_trans (Nat.mul_le_mul hg1 hg2) (by decide)
          have hF5 := s5 _ _ hF4
          refine ⟨F, D, acc0, acc, rfl, rfl, hF5, hacc, by omega, fun H6 o6 h6 => ?_⟩
          have k6 : KT H5 H6 := o6.kt hF5 (fun _ z => nomatch z)
          refine fin (ts ++ twsOf s u gs1 gs2) H6 _ _ (fun c uu hc n => by rw [o6 c n]; exact s5 _ _ (b4 c uu hc n)) (k6 _ _ (s5 _ _ hq4)) ⟨_, h6, ((tF4.kt s5.kt).append tacc).kt k6⟩ ?_ (fun t ht => List.mem_append_left _ ht) (fun t ht => ?_) fun g e z1 z2 _ => List.mem_append_right _ (mem_twsOf.mpr ⟨g, (hm1 g).mpr z1, e, (hm2 e).mpr z2, rfl⟩)
          · rw [List.length_append, ← tacc.length]
            omega
          · rcases List.mem_append.mp ht with z | z
            · exact hsnd3 t z
            · obtain ⟨g, z1, e, z2, rfl⟩ := mem_twsOf.mp z
              exact ⟨s, u, g, e, rfl, (hm1 g).mp z1, (hm2 e).mp z2, hmk⟩
      · exact fin ts H4 _ _ b4 hq4 (lt3.same s4) (by omega) (fun _ z => z) hsnd3 fun g e _ _ z => absurd (decide_eq_true (show V.int s.2.2 = V.int u.2.2 by rw [z])) hno
    · rintro σ H3 ⟨ts, w6, w7, w8, w9, rfl, b3, hq3, lt3, hlen3, hsnd3, hcmp3, hc3⟩
      have hk9 := g2.len
      refine ⟨ts, _, _, _, _, _, _, rfl, b3, lt3, by omega, hsnd3, fun i' s' v z1 z2 u g e z3 z4 z5 => ?_⟩
      by_cases hii : i' = i
      · subst hii
        rw [hi] at z2
        have ek := congrArg Prod.fst (Option.some.inj z2)
        have := keyS_inj ek
        subst this
        obtain ⟨v', hv'⟩ := g2.all _ z4
        obtain ⟨j', hj1, hj2⟩ := List.getElem_of_mem hv'
        exact hc3 j' u v' hj1 (by rw [List.getElem?_eq_getElem hj1, hj2]; rfl) g e z3 z4 z5
      · exact hcmp3 i' s' v (by omega) z2 u g e z3 z4 z5
  · rintro σ H3 ⟨ts, w4, w5, w6, w7, w8, w9, rfl, b3, lt3, hlen3, hsnd3, hcmp3⟩
    have hk9 := g1.len
    refine ⟨b3 _ _ fe he0, ?_⟩
    refine ⟨by rw [upd_ne ne.symm]; exact b3 _ _ f1 dF, ?_⟩
    refine ⟨_, rfl, ?_⟩
    have sfin : ∀ c uu, H1 c = some uu → c ≠ F → upd (upd H3 e u2) d1 (.dT kvs1) c = some uu := fun c uu hc n => by
      by_cases c1 : c = d1
      · rw [c1, upd_same, ← h1, ← hc, c1]
      · rw [upd_ne c1]
        by_cases c2 : c = e
        · rw [c2, upd_same, ← he, ← hc, c2]
        · rw [upd_ne c2]
          exact b3 c uu (by rw [off c c1 c2]; exact hc) n
    obtain ⟨acc, ha1, ha2⟩ := lt3
    have kt3 : KT H3 (upd (upd H3 e u2) d1 (.dT kvs1)) := fun c xs hc => by
      rw [upd_ne (ne_of hc (b3 _ _ f1 dF) fun z => nomatch z), upd_ne (ne_of hc (b3 _ _ fe he0) fun z => nomatch z)]
      exact hc
    refine k F _ ts (fun c uu hc => sfin c uu (s1 _ _ hc) (ne_of_none hc nF)) nF ⟨acc, by rw [upd_ne dF.symm, upd_ne he0.symm]; exact ha1, ha2.kt kt3⟩ (by omega) hsnd3 fun s u g e z1 z2 z3 => ?_
    obtain ⟨v', hv'⟩ := g1.all _ z1
    obtain ⟨i', hi1, hi2⟩ := List.getElem_of_mem hv'
    exact hcmp3 i' s v' hi1 (by rw [List.getElem?_eq_getElem hi1, hi2]; rfl) u g e z1 z2 z3
end
end Fx

/-! the Trail -/
namespace Fx
open PySem PySem.Spec PyProof.Rows L2
def sttT (s : Stt) : T := .t [.b s.1, .i s.2.1, .i s.2.2]
def hopT (h : Hop) : T := .t [sttT h.1, .t [stT h.2.1, stT h.2.2]]
theorem Tv.stt {H : Hp} {v : V} {s : Stt} (h : Tv H v (sttT s)) : ∃ a, v = .ref a ∧ H a = some (.tup (vT s)) := by
  obtain ⟨a, ys, e, h1, h2⟩ := h.tup
  cases h2 with
  | cons p q => cases q with
    | cons q r => cases r with
      | cons r s =>
        cases s
        have := p.bl
        have := q.int
        have := r.int
        subst_vars
        exact ⟨a, rfl, h1⟩
theorem tv_stt {H : Hp} {a : Addr} {s : Stt} (h : H a = some (.tup (vT s))) : Tv H (.ref a) (sttT s) := .t h (.cons (.b _) (.cons (.i _) (.cons (.i _) .nil)))
theorem Tv.hop {H : Hp} {v : V} {h : Hop} (t : Tv H v (hopT h)) : ∃ a v1 b v2 v3, v = .ref a ∧ H a = some (.tup [v1, .ref b]) ∧ Tv H v1 (sttT h.1) ∧ H b = some (.tup [v2, v3]) ∧ Tv H v2 (stT h.2.1) ∧ Tv H v3 (stT h.2.2) := by
  obtain ⟨a, ys, e, h1, h2⟩ := t.tup
  cases h2 with
  | cons p q => cases q with
    | cons q r =>
      cases r
      obtain ⟨b, zs, rfl, h3, h4⟩ := q.tup
      cases h4 with
      | cons p2 q2 => cases q2 with
        | cons q2 r2 =>
          cases r2
          exact ⟨a, _, b, _, _, e, h1, p, h3, p2, q2⟩
abbrev LEnt := Stt × Option Hop
/-- what is kept of how each thing was come to -/
inductive EnA (H : Hp) : List Ent → List LEnt → Prop
  | nil : EnA H [] []
  | zer {s : Stt} {b : Addr} {es : List Ent} {L : List LEnt} : EnA H es L → EnA H ((s, b, none) :: es) ((s, none) :: L)
  | own {s : Stt} {b a : Addr} {h : Hop} {es : List Ent} {L : List LEnt} : Tv H (.ref a) (hopT h) → EnA H es L → EnA H ((s, b, some a) :: es) ((s, some h) :: L)
theorem EnA.kt {H H' : Hp} (k : KT H H') : ∀ {es : List Ent} {L : List LEnt}, EnA H es L → EnA H' es L
  | _, _, .nil => .nil
  | _, _, .zer e => .zer (EnA.kt k e)
  | _, _, .own t e => .own (t.kt k) (EnA.kt k e)
theorem EnA.keys {H : Hp} : ∀ {es : List Ent} {L : List LEnt}, EnA H es L → es.map (·.1) = L.map (·.1)
  | _, _, .nil => rfl
  | _, _, .zer e => by rw [List.map_cons, List.map_cons, EnA.keys e]
  | _, _, .own t e => by rw [List.map_cons, List.map_cons, EnA.keys e]
theorem EnA.length {H : Hp} {es : List Ent} {L : List LEnt} (e : EnA H es L) : es.length = L.length := by simpa using congrArg List.length e.keys
theorem EnA.snoc {H : Hp} {s : Stt} {b a : Addr} {h : Hop} (t : Tv H (.ref a) (hopT h)) : ∀ {es : List Ent} {L : List LEnt}, EnA H es L → EnA H (es ++ [(s, b, some a)]) (L ++ [(s, some h)])
  | _, _, .nil => .own t .nil
  | _, _, .zer e => .zer (EnA.snoc t e)
  | _, _, .own t' e => .own t' (EnA.snoc t e)
/-- what stands at a key -/
def OptA (H : Hp) : Option Addr → Option Hop → Prop
  | none, none => True
  | some a, some h => Tv H (.ref a) (hopT h)
  | _, _ => False
theorem EnA.look {H : Hp} {s : Stt} {h : Option Hop} : ∀ {es : List Ent} {L : List LEnt}, EnA H es L → (L.map (·.1)).Nodup → (s, h) ∈ L → ∃ r, lookE es s = some r ∧ OptA H r.2 h
  | _, _, .nil, _, hm => nomatch hm
  | _, _, .zer (s := s') (b := b) (es := es) (L := L) e, hn, hm => by
    rw [List.map_cons, List.nodup_cons] at hn
    rcases List.mem_cons.mp hm with z | z
    · injection z with z1 z2
      subst z1 z2
      exact ⟨(b, none), by simp [lookE], trivial⟩
    · obtain ⟨r, h1, h2⟩ := EnA.look e hn.2 z
      have ne : ¬ s' = s := fun q => hn.1 (List.mem_map.mpr ⟨_, z, q.symm⟩)
      refine ⟨r, ?_, h2⟩
      simp only [lookE, List.find?_cons, decide_eq_false ne]
      exact h1
  | _, _, .own (s := s') (b := b) (a := a) (es := es) (L := L) t e, hn, hm => by
    rw [List.map_cons, List.nodup_cons] at hn
    rcases List.mem_cons.mp hm with z | z
    · injection z with z1 z2
      subst z1 z2
      exact ⟨(b, some a), by simp [lookE], t⟩
    · obtain ⟨r, h1, h2⟩ := EnA.look e hn.2 z
      have ne : ¬ s' = s := fun q => hn.1 (List.mem_map.mpr ⟨_, z, q.symm⟩)
      refine ⟨r, ?_, h2⟩
      simp only [lookE, List.find?_cons, decide_eq_false ne]
      exact h1
theorem lookE_iff {es : List Ent} {s : Stt} : (lookE es s).isSome = decide (s ∈ es.map (·.1)) := by
  rw [Bool.eq_iff_iff, decide_eq_true_eq]
  unfold lookE
  rw [Option.isSome_map, List.find?_isSome]
  simp only [decide_eq_true_eq, List.mem_map]
/-- the search, as far as it has come -/
structure BInv (p : Parts) (L : List LEnt) (n : Nat) : Prop where
  b0 : L[0]? = some ((false, 0, 0), none)
  nd : (L.map (·.1)).Nodup
  ch : ∀ (i : Nat) (s : Stt) (h : Hop), L[i]? = some (s, some h) → ∃ (j : Nat) (h' : Option Hop), j < i ∧ L[j]? = some (h.1, h') ∧ Edge p h.1 s h.2.1 h.2.2
  zr : ∀ (i : Nat) (s : Stt), L[i]? = some (s, none) → i = 0
  cl : ∀ (i : Nat) (s : Stt) (h : Option Hop), i < n → L[i]? = some (s, h) → ¬ Final p s ∧ ∀ s' st tw, Edge p s s' st tw → s' ∈ L.map (·.1)
  le : n ≤ L.length
/-! ### the object -/
theorem m1 : ¬ (("elders" : Str) = "waiting") := by decide +kernel
theorem m2 : ¬ (("elders" : Str) = "turn") := by decide +kernel
theorem m3 : ¬ (("waiting" : Str) = "turn") := by decide +kernel
def trF (e wl : Addr) (turn : Int) : List (Str × V) := [("elders", .ref e), ("waiting", .ref wl), ("turn", .int turn)]
theorem tf1 {e wl : Addr} {n : Int} : (trF e wl n).lookup ("elders" : Str) = some (.ref e) := by simp only [trF, lk, if_true]
theorem tf2 {e wl : Addr} {n : Int} : (trF e wl n).lookup ("waiting" : Str) = some (.ref wl) := by simp only [trF, lk, if_neg m1, if_true]
theorem tf3 {e wl : Addr} {n : Int} : (trF e wl n).lookup ("turn" : Str) = some (.int n) := by simp only [trF, lk, if_neg m2, if_neg m3, if_true]
theorem tp1 (e : Addr) : putF "elders" (.ref e) [] = ([("elders", .ref e)] : List (Str × V)) := rfl
theorem tp2 (e wl : Addr) : putF "waiting" (.ref wl) [("elders", .ref e)] = ([("elders", .ref e), ("waiting", .ref wl)] : List (Str × V)) := by simp only [putF, if_neg m1]
theorem tp3 (e wl : Addr) (n : Int) : putF "turn" (.int n) [("elders", .ref e), ("waiting", .ref wl)] = trF e wl n := by simp only [putF, if_neg m2, if_neg m3, trF]
theorem tp4 (e wl : Addr) (n m : Int) : putF "turn" (.int n) (trF e wl m) = trF e wl n := by simp only [trF, putF, if_neg m2, if_neg m3, if_true]
structure TrA (P : Program) (w : World) (K : PySem.W.Frag) (H : Hp) (a dx e wl : Addr) (es : List Ent) (turn : Nat) : Prop where
  at_ : H a = some (.ins (He.ga K "Trail") dx (trF e wl turn))
  el : ElAt P w H e es
  wt : H wl = some (.lst (es.map fun x => .ref x.2.1))
theorem TrA.same {P : Program} {w : World} {K : PySem.W.Frag} {H H' : Hp} {a dx e wl : Addr} {es : List Ent} {n : Nat} (t : TrA P w K H a dx e wl es n) (s : Same H H') : TrA P w K H' a dx e wl es n :=
  ⟨s _ _ t.at_, ⟨s _ _ t.el.at_, fun x hx => s _ _ (t.el.ks x hx)⟩, s _ _ t.wt⟩
def meetL (L : List LEnt) (s : Stt) (h : Hop) : List LEnt := if s ∈ L.map (·.1) then L else L ++ [(s, some h)]
section
variable {P : Program} {w : World} {K : PySem.W.Frag} {mg : Str → Option Value} {base : Heap}
def sp_Trail_init (P : Program) (w : World) (K : PySem.W.Frag) : Sp := fun vs H Q _ => ∃ (a dx : Addr) (vb : V), vs = [.ref a, vb] ∧ H a = some (.ins (He.ga K "Trail") dx []) ∧ Tv H vb (sttT (false, 0, 0)) ∧
  ∀ H' e wl es, But a H H' → H e = none → H wl = none → e ≠ a → wl ≠ a → TrA P w K H' a dx e wl es 0 → EnA H' es [((false, 0, 0), none)] → Q .non H'
theorem sc_Trail_init : FnScope ["self", "begin"] ["self", "begin"] (defScope s_Trail_init) := ⟨rfl, rfl, rfl, by decide +kernel, rfl, by decide +kernel, by decide +kernel⟩
theorem k_Trail (T : Tx K mg) : Mak P w K mg base 1 "Trail" (He.ga K "Trail") (sp_Trail_init P w K) := by
  refine mak_mk T.mg_Trail T.Trail_init (fun _ _ _ _ _ _ us hl => match us, hl with | [_, _], _ => rfl) sc_Trail_init (fun vs H Q E h => by (obtain ⟨a, dx, vb, rfl, ha, hb, k⟩ := h; rfl)) (fun f cdv A outer s H vs Q E hr h => ?_)
  obtain ⟨a, dx, vb, rfl, ha, hb, k⟩ := h
  refine ⟨_, (pss_cons (ps_fld (pv 0) (pe_dispE hr.u9 (pv 1) pe_non) rfl)
    (pss_cons (ps_fld (pv 0) (pe_lstS (pa_cons (pv 1) pa_nil)) rfl)
    (pss_one (ps_fld (pv 0) pe_int rfl)))), ?_⟩
  obtain ⟨b, rfl, hb1⟩ := hb.stt
  refine fun e ne => ⟨_, rfl, (false, 0, 0), b, rfl, rfl, upd_same, same_new ne _ _ hb1, ?_⟩
  rw [upd_upd]
  generalize e1 : upd H e (ElO _ _ e _) = H1
  have s1 : Same H H1 := by rw [← e1]; exact same_new ne
  have h1 : H1 e = some (ElO P w e [((false, 0, 0), b, none)]) := by rw [← e1]; exact upd_same
  have nea : a ≠ e := ne_of_none ha ne
  refine ⟨_, rfl, a, _, dx, _, rfl, s1 _ _ ha, T.cl_Trail, T.no_Trail_elders, by decide, fw fun H2 o2 a2 => ?_⟩
  rw [tp1] at a2
  have k12 : KT H1 H2 := o2.kt (s1 _ _ ha) fun _ z => nomatch z
  refine ⟨_, rfl, by show 1 ≤ _; decide, fun wl H3 s3 h3 n3 => ?_⟩
  have nwa : a ≠ wl := ne_of_none a2 n3
  refine ⟨_, rfl, a, _, dx, _, rfl, s3 _ _ a2, T.cl_Trail, T.no_Trail_waiting, by show 1 < 1000; decide, fw fun H4 o4 a4 => ?_⟩
  rw [tp2] at a4
  refine ⟨_, rfl, a, _, dx, _, rfl, a4, T.cl_Trail, T.no_Trail_turn, by show 2 < 1000; decide, fw fun H5 o5 a5 => ?_⟩
  rw [tp3] at a5
  have e2 : H2 e = some (ElO P w e [((false, 0, 0), b, none)]) := by rw [o2 e nea.symm]; exact h1
  have bt : ∀ c o, H2 c = some o → c ≠ a → H5 c = some o := fun c o q n => by rw [o5 c n, o4 c n]; exact s3 _ _ q
  have hb2 := k12 _ _ (s1 _ _ hb1)
  refine k H5 e wl [((false, 0, 0), b, none)] (fun c o q n => bt c o (by rw [o2 c n]; exact s1 _ _ q) n) ne ?_ nea.symm nwa.symm ⟨a5, ⟨bt _ _ e2 nea.symm, fun x hx => ?_⟩, ?_⟩ (.zer .nil)
  · have := o2 wl nwa.symm
    rw [n3] at this
    exact s1.free this.symm
  · rw [List.mem_singleton.mp hx]
    exact bt _ _ hb2 (ne_of hb2 a2 fun z => nomatch z)
  · rw [o5 wl nwa.symm, o4 wl nwa.symm]
    exact h3
def sp_Trail_has_more (K : PySem.W.Frag) : Sp := fun vs H Q _ => ∃ (a dx e wl : Addr) (xs : List V) (n : Nat), vs = [.ref a] ∧ H a = some (.ins (He.ga K "Trail") dx (trF e wl n)) ∧ H wl = some (.lst xs) ∧ Q (.bl (decide (n < xs.length))) H
theorem sc_Trail_has_more : FnScope ["self"] ["self"] (defScope s_Trail_has_more) := ⟨rfl, rfl, rfl, by decide +kernel, rfl, by decide +kernel, by decide +kernel⟩
theorem c_Trail_has_more (T : Tx K mg) : Met P w K mg base 1 (He.ga K "Trail") "has_more" (sp_Trail_has_more K) := by
  refine met_mk T.cl_Trail T.Trail_has_more (fun _ _ _ _ _ _ us hl => match us, hl with | [_], _ => rfl) sc_Trail_has_more (fun vs H Q E h => by (obtain ⟨a, dx, e, wl, xs, n, rfl, ha, hw, k⟩ := h; rfl)) (fun f cdv A outer s H vs Q E hr h => ?_)
  obtain ⟨a, dx, e, wl, xs, n, rfl, ha, hw, k⟩ := h
  refine ⟨_, (pss_one (ps_ret (pe_cmpR op_lt (pe_fld (pv 0) rfl) (pe_callB call_len_seq rfl T.f_len PySem.boot_len (pa_cons (pe_fld (pv 0) rfl) pa_nil)) (nomark _)))), ?_⟩
  refine ⟨_, rfl, a, _, dx, _, _, rfl, ha, T.cl_Trail, T.no_Trail_turn, tf3, _, rfl, a, _, dx, _, _, rfl, ha, T.cl_Trail, T.no_Trail_waiting, tf2, wl, _, rfl, .inl (SqL.of hw), _, _, rfl, rfl, ?_⟩
  have e : decide ((n : Int) < (xs.length : Int)) = decide (n < xs.length) := by simp
  show Q (.bl (decide ((n : Int) < (xs.length : Int)))) H
  rw [e]
  exact k
def sp_Trail_take (K : PySem.W.Frag) : Sp := fun vs H Q _ => ∃ (a dx e wl : Addr) (xs : List V) (n : Nat) (v : V), vs = [.ref a] ∧ H a = some (.ins (He.ga K "Trail") dx (trF e wl n)) ∧ H wl = some (.lst xs) ∧ xs[n]? = some v ∧
  ∀ H', Off a H H' → H' a = some (.ins (He.ga K "Trail") dx (trF e wl ((n + 1 : Nat) : Int))) → Q v H'
theorem sc_Trail_take : FnScope ["self", "found"] ["self"] (defScope s_Trail_take) := ⟨rfl, rfl, rfl, by decide +kernel, rfl, by decide +kernel, by decide +kernel⟩
theorem c_Trail_take (T : Tx K mg) : Met P w K mg base 1 (He.ga K "Trail") "take" (sp_Trail_take K) := by
  refine met_mk T.cl_Trail T.Trail_take (fun _ _ _ _ _ _ us hl => match us, hl with | [_], _ => rfl) sc_Trail_take (fun vs H Q E h => by (obtain ⟨a, dx, e, wl, xs, n, v, rfl, ha, hw, hv, k⟩ := h; rfl)) (fun f cdv A outer s H vs Q E hr h => ?_)
  obtain ⟨a, dx, e, wl, xs, n, v, rfl, ha, hw, hv, k⟩ := h
  refine ⟨_, (pss_cons (ps_set (i := 1) sc_Trail_take.nd rfl (Or.inl rfl) (pe_ix ix_list (pe_fld (pv 0) rfl) (pe_fld (pv 0) rfl) (fun _ _ => rfl)))
    (pss_cons (ps_fldaug (pv 0) pe_int in_add)
    (pss_one (ps_ret (pv 1))))), ?_⟩
  refine ⟨_, rfl, a, _, dx, _, _, rfl, ha, T.cl_Trail, T.no_Trail_waiting, tf2, _, rfl, a, _, dx, _, _, rfl, ha, T.cl_Trail, T.no_Trail_turn, tf3, wl, _, _, v, rfl, rfl, SqL.of hw, atI_nat hv, ?_⟩
  refine ⟨_, rfl, a, _, dx, _, _, rfl, ha, T.cl_Trail, T.no_Trail_turn, tf3, _, _, rfl, rfl, dx, _, ha, by show 3 < 1000; decide, fw fun H' o' h' => ?_⟩
  rw [tp4] at h'
  exact ⟨_, rfl, k H' o' h'⟩
def sp_Trail_meet (P : Program) (w : World) (K : PySem.W.Frag) : Sp := fun vs H Q _ => ∃ (a dx e wl : Addr) (es : List Ent) (n : Nat) (L : List LEnt) (vt ve vw : V) (s : Stt) (h : Hop), vs = [.ref a, vt, ve, vw] ∧ TrA P w K H a dx e wl es n ∧ EnA H es L ∧ L.length ≤ 1000 ∧
  Tv H vt (sttT s) ∧ Tv H ve (sttT h.1) ∧ Tv H vw (.t [stT h.2.1, stT h.2.2]) ∧
  ∀ H' es', (∀ c o, H c = some o → c ≠ e → c ≠ wl → H' c = some o) → TrA P w K H' a dx e wl es' n → EnA H' es' (meetL L s h) → Q .non H'
theorem sc_Trail_meet : FnScope ["self", "thing", "elder", "way"] ["self", "thing", "elder", "way"] (defScope s_Trail_meet) := ⟨rfl, rfl, rfl, by decide +kernel, rfl, by decide +kernel, by decide +kernel⟩
theorem c_Trail_meet (T : Tx K mg) : Met P w K mg base 1 (He.ga K "Trail") "meet" (sp_Trail_meet P w K) := by
  refine met_mk T.cl_Trail T.Trail_meet (fun _ _ _ _ _ _ us hl => match us, hl with | [_, _, _, _], _ => rfl) sc_Trail_meet (fun vs H Q E h => by (obtain ⟨a, dx, e, wl, es, n, L, vt, ve, vw, s, h, rfl, t, en, hl, ht, he, hw, k⟩ := h; rfl)) (fun f cdv A outer s H vs Q E hr h => ?_)
  obtain ⟨a, dx, e, wl, es, n, L, vt, ve, vw, s, h, rfl, t, en, hl, ht, he, hw, k⟩ := h
  refine ⟨_, (pss_one (ps_if (pt_cmpR (op_notInE hr.u9) (pv 1) (pe_fld (pv 0) rfl) rfl)
      (pss_cons (ps_asg (pe_tupS (pa_cons (pv 2) (pa_cons (pv 3) pa_nil))) (pg_sub (pe_fld (pv 0) rfl) (pv 1) (set_el hr.u9)))
      (pss_one (ps_expr (pe_bm PySem.F.plainAttrs_list PySem.F.slot_list_append PySem.F.type_list_append mt_appendS (pe_fld (pv 0) rfl) (pa_cons (pv 1) pa_nil)))))
      pss_nil)), ?_⟩
  obtain ⟨b, rfl, hb⟩ := ht.stt
  have nwe : e ≠ wl := ne_of t.el.at_ t.wt (fun z => nomatch z)
  have nae : a ≠ e := ne_of t.at_ t.el.at_ (fun z => nomatch z)
  have naw : a ≠ wl := ne_of t.at_ t.wt (fun z => nomatch z)
  refine ⟨_, rfl, _, rfl, a, _, dx, _, _, rfl, t.at_, T.cl_Trail, T.no_Trail_elders, tf1, e, es, s, b, rfl, rfl, t.el, hb, _, rfl, ?_⟩
  rw [lookE_iff, en.keys]
  by_cases hs : s ∈ L.map (·.1)
  · rw [decide_eq_true hs]
    have em : meetL L s h = L := if_pos hs
    exact k H es (fun _ _ q _ _ => q) t (by rw [em]; exact en)
  · rw [decide_eq_false hs]
    have em : meetL L s h = L ++ [(s, some h)] := if_neg hs
    have hno : lookE es s = none := by
      cases q : lookE es s with
      | none => rfl
      | some r =>
        have z := lookE_iff (es := es) (s := s)
        rw [q, en.keys, decide_eq_false hs] at z
        cases z
    have hel : es.length ≤ 1000 := by rw [en.length]; exact hl
    refine ⟨_, rfl, _, rfl, by show 2 ≤ _; decide, fun tp H1 s1 htp _ => ?_⟩
    have t1 := t.same s1
    refine ⟨_, rfl, a, _, dx, _, _, rfl, t1.at_, T.cl_Trail, T.no_Trail_elders, tf1, _, rfl, e, es, s, b, tp, rfl, rfl, rfl, t1.el, s1 _ _ hb, hno, mil' (by omega), fw fun H2 o2 h2 => ?_⟩
    have k12 : KT H1 H2 := o2.kt t1.el.at_ (fun _ z => nomatch z)
    have a2 : H2 a = _ := (o2 a nae).trans t1.at_
    have w2 : H2 wl = _ := (o2 wl nwe.symm).trans t1.wt
    refine ⟨_, rfl, a, _, dx, _, _, rfl, a2, T.cl_Trail, T.no_Trail_waiting, tf2, .inl ⟨rfl, _, SqL.of w2⟩, _, rfl, wl, _, _, rfl, rfl, w2, by rw [List.length_map]; omega, fun H3 o3 h3 => ?_⟩
    have k23 : KT H2 H3 := o3.kt w2 (fun _ z => nomatch z)
    have k13 := k12.trans k23
    refine k H3 (es ++ [(s, b, some tp)]) (fun c o q n1 n2 => by rw [o3 c n2, o2 c n1]; exact s1 _ _ q) ⟨by rw [o3 a naw]; exact a2, ⟨by rw [o3 e nwe]; exact h2, fun x hx => ?_⟩, by rw [h3, List.map_append]; rfl⟩ ?_
    · rcases List.mem_append.mp hx with z | z
      · exact k13 _ _ (t1.el.ks x z)
      · rw [List.mem_singleton.mp z]
        exact k13 _ _ (s1 _ _ hb)
    · rw [em]
      exact ((en.kt s1.kt).kt k13).snoc (Tv.kt k13 (.t htp (.cons (he.kt s1.kt) (.cons (hw.kt s1.kt) .nil))))
end
end Fx

/-! the search's plain law; ways, told_pair -/
namespace Fx
open PySem PySem.Spec PyProof.Rows L2
theorem meetL_pre {L : List LEnt} {s : Stt} {h : Hop} {i : Nat} {x : LEnt} (e : L[i]? = some x) : (meetL L s h)[i]? = some x := by
  unfold meetL
  split
  · exact e
  · rw [List.getElem?_append_left (List.getElem?_eq_some_iff.mp e).1]; exact e
theorem meetL_mem {L : List LEnt} {s : Stt} {h : Hop} : s ∈ (meetL L s h).map (·.1) := by
  unfold meetL
  split
  · assumption
  · rw [List.map_append]; exact List.mem_append_right _ (by simp)
theorem meetL_sub {L : List LEnt} {s x : Stt} {h : Hop} (m : x ∈ L.map (·.1)) : x ∈ (meetL L s h).map (·.1) := by
  unfold meetL
  split
  · exact m
  · rw [List.map_append]; exact List.mem_append_left _ m
theorem binv_init (p : Parts) : BInv p [((false, 0, 0), none)] 0 :=
  ⟨rfl, by simp, fun i s h e => by
    cases i with
    | zero => simp at e
    | succ i => simp at e, fun i s e => by
    cases i with
    | zero => rfl
    | succ i => simp at e, fun i s h z => absurd z (Nat.not_lt_zero _), Nat.zero_le _⟩
theorem BInv.path {p : Parts} {L : List LEnt} {n : Nat} (b : BInv p L n) : ∀ (i : Nat) (s : Stt) (h : Option Hop), L[i]? = some (s, h) → ∃ l, Path p l s := by
  intro i
  induction i using Nat.strongRecOn with
  | _ i ih =>
    intro s h e
    cases h with
    | none =>
      have := b.zr i s e
      subst this
      rw [b.b0] at e
      injection e with e
      injection e with e _
      subst e
      exact ⟨[], .nil⟩
    | some h =>
      obtain ⟨j, h', hj, ej, ed⟩ := b.ch i s h e
      obtain ⟨l, hl⟩ := ih j hj _ _ ej
      exact ⟨_, .snoc hl ed⟩
theorem BInv.reach {p : Parts} {L : List LEnt} {n : Nat} (b : BInv p L n) {i : Nat} {s : Stt} {h : Option Hop} (e : L[i]? = some (s, h)) : Reach p s := let ⟨_, hl⟩ := b.path i s h e; hl.reach
def codS (s : Stt) : Int := (if s.1 = true then 25 else 0) + s.2.1 * 5 + s.2.2
theorem BInv.len {p : Parts} (ok : POk p) {L : List LEnt} {n : Nat} (b : BInv p L n) : L.length ≤ 50 := by
  have hv : ∀ x ∈ L.map (·.1), ValS p x := fun x hx => by
    obtain ⟨y, hy, rfl⟩ := List.mem_map.mp hx
    obtain ⟨i, hi, ei⟩ := List.getElem_of_mem hy
    exact (b.reach (i := i) (s := y.1) (h := y.2) (by rw [List.getElem?_eq_getElem hi, ei])).ok ok
  have hn := ok.n
  have h1 : ((L.map (·.1)).map codS).Nodup := by
    rw [List.nodup_iff_pairwise_ne, List.pairwise_map]
    refine (List.nodup_iff_pairwise_ne.mp b.nd).imp_of_mem fun {x y} hx hy ne e => ne ?_
    obtain ⟨⟨a1, a2⟩, a3, a4⟩ := hv x hx
    obtain ⟨⟨b1, b2⟩, b3, b4⟩ := hv y hy
    obtain ⟨sx, ax, bx⟩ := x
    obtain ⟨sy, ay, «by»⟩ := y
    simp only [codS] at e
    simp only at a1 a2 a3 a4 b1 b2 b3 b4
    cases sx <;> cases sy <;> simp at e ⊢ <;> omega
  have h2 := nodup_le (n := 50) h1 fun x hx => by
    obtain ⟨y, hy, rfl⟩ := List.mem_map.mp hx
    obtain ⟨⟨a1, a2⟩, a3, a4⟩ := hv y hy
    simp only [codS]
    split <;> omega
  simpa using h2
theorem binv_meet {p : Parts} {L : List LEnt} {n : Nat} (b : BInv p L n) {s : Stt} {h : Hop} {j : Nat} {h' : Option Hop} (ej : L[j]? = some (h.1, h')) (ed : Edge p h.1 s h.2.1 h.2.2) : BInv p (meetL L s h) n := by
  by_cases hs : s ∈ L.map (·.1)
  · rw [meetL, if_pos hs]; exact b
  · have em : meetL L s h = L ++ [(s, some h)] := if_neg hs
    have hjl := (List.getElem?_eq_some_iff.mp ej).1
    have old : ∀ {i : Nat} {x : LEnt}, (L ++ [(s, some h)])[i]? = some x → L[i]? = some x ∨ (i = L.length ∧ x = (s, some h)) := fun {i x} e => by
      by_cases hi : i < L.length
      · rw [List.getElem?_append_left hi] at e; exact .inl e
      · have e2 : i = L.length := by
          have := (List.getElem?_eq_some_iff.mp e).1
          simp at this
          omega
        subst e2
        rw [List.getElem?_append_right (Nat.le_refl _), Nat.sub_self] at e
        exact .inr ⟨rfl, by simpa using e.symm⟩
    refine ⟨meetL_pre b.b0, ?_, fun i s' h1 e => ?_, fun i s' e => ?_, fun i s' h1 hi e => ?_, ?_⟩
    · rw [em, List.map_append, List.nodup_append]
      exact ⟨b.nd, by simp, fun a ha c hc z => by
        rw [List.mem_singleton.mp hc] at z
        have z' : a = s := z
        exact hs (z' ▸ ha)⟩
    · rw [em] at e
      rcases old e with e' | ⟨rfl, e'⟩
      · obtain ⟨j', h'', q1, q2, q3⟩ := b.ch i s' h1 e'
        exact ⟨j', h'', q1, meetL_pre q2, q3⟩
      · obtain ⟨rfl, e2⟩ := Prod.mk.inj e'
        obtain rfl := Option.some.inj e2
        exact ⟨j, h', hjl, meetL_pre ej, ed⟩
    · rw [em] at e
      rcases old e with e' | ⟨_, e'⟩
      · exact b.zr i s' e'
      · exact nomatch (Prod.mk.inj e').2
    · rw [em] at e
      rcases old e with e' | ⟨e', _⟩
      · obtain ⟨q1, q2⟩ := b.cl i s' h1 hi e'
        exact ⟨q1, fun x st tw hx => meetL_sub (q2 x st tw hx)⟩
      · have := b.le; omega
    · rw [em, List.length_append]; have := b.le; omega
theorem binv_next {p : Parts} {L : List LEnt} {n : Nat} (b : BInv p L n) {s : Stt} {h : Option Hop} (e : L[n]? = some (s, h)) (hf : ¬ Final p s) (hc : ∀ s' st tw, Edge p s s' st tw → s' ∈ L.map (·.1)) : BInv p L (n + 1) :=
  ⟨b.b0, b.nd, b.ch, b.zr, fun i s' h' hi e' => by
    by_cases q : i = n
    · subst q
      rw [e] at e'
      injection e' with e'
      injection e' with e1 _
      subst e1
      exact ⟨hf, hc⟩
    · exact b.cl i s' h' (by omega) e', (List.getElem?_eq_some_iff.mp e).1⟩
/-- the search has ended without a find -/
theorem binv_end {p : Parts} {L : List LEnt} {n : Nat} (b : BInv p L n) (hn : ¬ n < L.length) : ¬ CanForge p := by
  have all : ∀ s, Reach p s → s ∈ L.map (·.1) := fun s r => by
    induction r with
    | init => exact List.mem_map.mpr ⟨_, List.mem_of_getElem? b.b0, rfl⟩
    | @step s s' st tw r e ih =>
      obtain ⟨y, hy, rfl⟩ := List.mem_map.mp ih
      obtain ⟨i, hi, ei⟩ := List.getElem_of_mem hy
      exact (b.cl i y.1 y.2 (by omega) (by rw [List.getElem?_eq_getElem hi, ei])).2 s' st tw e
  rintro ⟨s, r, hf⟩
  obtain ⟨y, hy, rfl⟩ := List.mem_map.mp (all s r)
  obtain ⟨i, hi, ei⟩ := List.getElem_of_mem hy
  exact (b.cl i y.1 y.2 (by omega) (by rw [List.getElem?_eq_getElem hi, ei])).1 hf
theorem tno {e wl : Addr} {n : Int} {m : Str} (h1 : ¬ (("elders" : Str) = m)) (h2 : ¬ (("waiting" : Str) = m)) (h3 : ¬ (("turn" : Str) = m)) : (trF e wl n).lookup m = none := by simp only [trF, lk, if_neg h1, if_neg h2, if_neg h3]; rfl
section
variable {P : Program} {w : World} {K : PySem.W.Frag} {mg : Str → Option Value} {base : Heap}
def sp_Trail_ways (P : Program) (w : World) (K : PySem.W.Frag) : Sp := fun vs H Q _ => ∃ (a dx e wl : Addr) (es : List Ent) (n : Nat) (L : List LEnt) (p : Parts) (nb : Nat) (vt : V) (s : Stt) (h : Option Hop) (i : Nat), vs = [.ref a, vt] ∧ TrA P w K H a dx e wl es n ∧ EnA H es L ∧ BInv p L nb ∧ L.length ≤ 50 ∧
  Tv H vt (sttT s) ∧ L[i]? = some (s, h) ∧ ∀ l H' hops, Same H H' → H l = none → LT H' l (hops.map hopT) → hops.length ≤ 50 → Path p hops s → Q (.ref l) H'
theorem sc_Trail_ways : FnScope ["self", "thing", "found"] ["self", "thing"] (defScope s_Trail_ways) := ⟨rfl, rfl, rfl, by decide +kernel, rfl, by decide +kernel, by decide +kernel⟩
theorem c_Trail_ways (T : Tx K mg) : Met P w K mg base 1 (He.ga K "Trail") "ways" (sp_Trail_ways P w K) := by
  refine met_mk T.cl_Trail T.Trail_ways (fun _ _ _ _ _ _ us hl => match us, hl with | [_, _], _ => rfl) sc_Trail_ways (fun vs H Q E h => by (obtain ⟨a, dx, e, wl, es, n, L, p, nb, vt, s, h, i, rfl, t, en, bi, hL, ht, hi, k⟩ := h; rfl)) (fun f cdv A outer s H vs Q E hr h => ?_)
  obtain ⟨a, dx, e, wl, es, n, L, p, nb, vt, s, h, i, rfl, t, en, bi, hL, ht, hi, k⟩ := h
  refine ⟨_, (pss_cons (ps_set (i := 2) sc_Trail_ways.nd rfl (Or.inl rfl) (pe_lstS pa_nil))
    (pss_cons (ps_while PassesOwn.never (pt_cmpR op_notN (pe_elget hr.u9 (pe_fld (pv 0) rfl) (pv 1) (fun _ _ => rfl)) pe_non (nomark _))
      (pss_cons (ps_expr (pe_bm PySem.F.plainAttrs_list PySem.F.slot_list_append PySem.F.type_list_append mt_appendS (pv 2) (pa_cons (pe_elget hr.u9 (pe_fld (pv 0) rfl) (pv 1) (fun _ _ => rfl)) pa_nil)))
      (pss_one (ps_set (i := 1) sc_Trail_ways.nd rfl (Or.inl rfl) (pe_ix ix_tup (pe_elget hr.u9 (pe_fld (pv 0) rfl) (pv 1) (fun _ _ => rfl)) pe_int (fun _ _ => rfl))))))
    (pss_one (ps_ret (pe_revLS (pv 2)))))), ?_⟩
  obtain ⟨b, rfl, hb⟩ := ht.stt
  have hil := (List.getElem?_eq_some_iff.mp hi).1
  refine ⟨by exact Nat.zero_le _, fun F H1 s1 hF nF => ?_⟩
  obtain ⟨W, hW⟩ : ∃ W : Nat → L2.St → Hp → Prop, W = fun m σ H' => ∃ (s' : Stt) (h' : Option Hop) (c : Addr) (f : List Hop), σ = [some (.ref a), some (.ref c), some (.ref F)] ∧ Same H H' ∧ H' c = some (.tup (vT s')) ∧ L[m]? = some (s', h') ∧ LT H' F (f.map hopT) ∧ f.length + m ≤ i ∧
    ∀ l, Path p l s' → Path p (l ++ f.reverse) s := ⟨_, rfl⟩
  refine ⟨W, ⟨i, by rw [hW]; exact ⟨s, h, b, [], rfl, s1, s1 _ _ hb, hi, ⟨[], hF, .nil⟩, by simp, fun l hl => by simpa using hl⟩⟩, fun m σ H2 hw => ?_⟩
  rw [hW] at hw
  obtain ⟨s', h', c, f, rfl, s2, hc, hm, ⟨acc, hacc, tacc⟩, hfl, hpa⟩ := hw
  have t2 := t.same s2
  have en2 := en.kt s2.kt
  obtain ⟨r, hr1, hr2⟩ := en2.look bi.nd (List.mem_of_getElem? hm)
  refine ⟨_, rfl, a, _, dx, _, _, rfl, t2.at_, T.cl_Trail, T.no_Trail_elders, tf1, _, rfl, e, es, s', c, r, rfl, rfl, t2.el, hc, hr1, rfl, _, rfl, ?_⟩
  cases h' with
  | none =>
    obtain ⟨r1, r2⟩ := r
    cases r2 with
    | some z => exact (show False from hr2).elim
    | none =>
      have e0 := bi.zr m s' hm
      subst e0
      rw [bi.b0] at hm
      injection hm with hm
      injection hm with hm _
      subst hm
      refine ⟨_, rfl, F, _, rfl, hacc, fun l H3 s3 hl nl => ?_⟩
      refine k l H3 f.reverse (s2.trans s3) (s2.free nl) ⟨_, hl, ?_⟩ (by rw [List.length_reverse]; omega) (by simpa using hpa [] .nil)
      rw [List.map_reverse]
      exact (tacc.kt s3.kt).reverse
  | some hop =>
    obtain ⟨r1, r2⟩ := r
    cases r2 with
    | none => exact (show False from hr2).elim
    | some va =>
      obtain ⟨j, hj', hjm, hj, hed⟩ := bi.ch m s' hop hm
      have tv : Tv H2 (.ref va) (hopT hop) := hr2
      refine ⟨fun σ' H' => ∃ m', m' < m ∧ W m' σ' H', fun σ' H' z => z, ?_⟩
      refine ⟨_, rfl, .inl ⟨rfl, _, SqL.of hacc⟩, _, rfl, a, _, dx, _, _, rfl, t2.at_, T.cl_Trail, T.no_Trail_elders, tf1, _, rfl, e, es, s', c, (r1, some va), rfl, rfl, t2.el, hc, hr1, F, acc, _, rfl, rfl, hacc, ?_, fun H3 o3 h3 => ?_⟩
      · rw [tacc.length, List.length_map]; omega
      · have nF0 : H F = none := nF
        have s3 : Same H H3 := fun z o q => by rw [o3 z (ne_of_none q nF0)]; exact s2 _ _ q
        have k3 : KT H2 H3 := o3.kt hacc (fun _ z => nomatch z)
        have t3 := t.same s3
        obtain ⟨va', v1, bb, v2, v3, e1, hva, tv1, _, _, _⟩ := (tv.kt k3).hop
        injection e1 with e1
        subst e1
        obtain ⟨c', rfl, hc'⟩ := tv1.stt
        refine ⟨_, rfl, a, _, dx, _, _, rfl, t3.at_, T.cl_Trail, T.no_Trail_elders, tf1, _, rfl, e, es, s', c, (r1, some va), rfl, rfl, t3.el, k3 _ _ hc, hr1, va, _, 0, _, rfl, rfl, SqT.of hva, rfl, ?_⟩
        refine ⟨j, hjm, ?_⟩
        rw [hW]
        refine ⟨hop.1, hj', c', f ++ [hop], rfl, s3, hc', hj, ⟨_, h3, ?_⟩, by rw [List.length_append, List.length_singleton]; omega, fun l hl => ?_⟩
        · rw [List.map_append]
          exact (tacc.kt k3).snoc (tv.kt k3)
        · have z := hpa _ (.snoc hl hed)
          rw [List.reverse_append]
          simpa [List.append_assoc] using z
/-- the days that lead to a thing, and the place -/
def sp_told_pair (P : Program) (w : World) (K : PySem.W.Frag) : Sp := fun vs H Q _ => ∃ (a dx e wl : Addr) (es : List Ent) (n : Nat) (L : List LEnt) (p : Parts) (nb : Nat) (vt : V) (last : Int) (s : Stt) (h : Option Hop) (i : Nat), vs = [.ref a, vt, .int last] ∧ TrA P w K H a dx e wl es n ∧ EnA H es L ∧ BInv p L nb ∧ L.length ≤ 50 ∧
  Tv H vt (sttT s) ∧ L[i]? = some (s, h) ∧ ∀ v H' hops, Same H H' → hops.length ≤ 50 → Path p hops s → Tv H' v (toldT (hops.map fun x => x.2.1) (hops.map fun x => x.2.2) last (plO hops : Nat)) → Q v H'
theorem sc_told_pair : FnScope ["trail", "thing", "last", "one", "other", "place", "elder", "step", "twin"] ["trail", "thing", "last"] (defScope s_told_pair) := ⟨rfl, rfl, rfl, by decide +kernel, rfl, by decide +kernel, by decide +kernel⟩
theorem c_told_pair (T : Tx K mg) : Cal P w K mg base 2 "told_pair" (sp_told_pair P w K) := by
  refine cal_mk T.told_pair (fun _ _ _ _ _ _ us hl => match us, hl with | [_, _, _], _ => rfl) sc_told_pair (fun vs H Q E h => by (obtain ⟨a, dx, e, wl, es, n, L, p, nb, vt, last, s, h, i, rfl, t, en, bi, hL, ht, hi, k⟩ := h; rfl)) (fun f cdv A outer s H vs Q E hr h => ?_)
  obtain ⟨a, dx, e, wl, es, n, L, p, nb, vt, last, s, h, i, rfl, t, en, bi, hL, ht, hi, k⟩ := h
  refine ⟨_, (pss_cons (ps_set (i := 3) sc_told_pair.nd rfl (Or.inl rfl) (pe_lstS pa_nil))
    (pss_cons (ps_set (i := 4) sc_told_pair.nd rfl (Or.inl rfl) (pe_lstS pa_nil))
    (pss_cons (ps_set (i := 5) sc_told_pair.nd rfl (Or.inl rfl) pe_int)
    (pss_cons (ps_for PassesOwn.never rfl (pi_list (pe_mt (c_Trail_ways T) hr (by decide) (pv 0) (pa_cons (pv 1) pa_nil))) (pg_tup rfl (pgs_cons (pg_name (i := 6) sc_told_pair.nd rfl (Or.inl rfl)) (pgs_cons (pg_tup rfl (pgs_cons (pg_name (i := 7) sc_told_pair.nd rfl (Or.inl rfl)) (pgs_cons (pg_name (i := 8) sc_told_pair.nd rfl (Or.inl rfl)) pgs_nil))) pgs_nil)))
      (pss_cons (ps_if (pt_not (pt_val (pe_ix ix_tup (pv 6) pe_int (fun _ _ => rfl))))
        (pss_one (ps_set (i := 5) sc_told_pair.nd rfl (Or.inl rfl) (pe_callB call_len_seq rfl T.f_len PySem.boot_len (pa_cons (pv 3) pa_nil))))
        pss_nil)
      (pss_cons (ps_expr (pe_bm PySem.F.plainAttrs_list PySem.F.slot_list_append PySem.F.type_list_append mt_appendS (pv 3) (pa_cons (pv 7) pa_nil)))
      (pss_one (ps_expr (pe_bm PySem.F.plainAttrs_list PySem.F.slot_list_append PySem.F.type_list_append mt_appendS (pv 4) (pa_cons (pv 8) pa_nil)))))))
    (pss_one (ps_ret (pe_tupS (pa_cons (pe_tupS (pa_cons (pe_callTy (call_tuple_ofS (K := K)) rfl T.f_tuple (by decide +kernel) (pa_cons (pv 3) pa_nil)) (pa_cons (pv 2) pa_nil))) (pa_cons (pe_tupS (pa_cons (pe_callTy (call_tuple_ofS (K := K)) rfl T.f_tuple (by decide +kernel) (pa_cons (pv 4) pa_nil)) (pa_cons (pv 2) pa_nil))) (pa_cons (pv 5) pa_nil)))))))))), ?_⟩
  refine ⟨by exact Nat.zero_le _, fun O H1 s1 hO nO => ?_⟩
  refine ⟨by exact Nat.zero_le _, fun R H2 s2 hR nR => ?_⟩
  have s12 := s1.trans s2
  have hO2 := s2 _ _ hO
  have nOR : O ≠ R := ne_of_none hO nR
  refine ⟨_, rfl, a, dx, _, rfl, s12 _ _ t.at_, tno (by decide +kernel) (by decide +kernel) (by decide +kernel), _, rfl, a, dx, e, wl, es, n, L, p, nb, vt, s, h, i, rfl, t.same s12, en.kt s12.kt, bi, hL, ht.kt s12.kt, hi, fun l H3 hops s3 nl ⟨xs, hl, hx⟩ hhl hp => ?_⟩
  have hxl : xs.length = hops.length := by rw [hx.length, List.length_map]
  have nlO : l ≠ O := (ne_of_none hO2 nl).symm
  have nlR : l ≠ R := (ne_of_none hR nl).symm
  refine ⟨l, rfl, ⟨_, SqL.of hl⟩, for_list (K := K) (xs := xs) (fun j σ H' => ∃ (vt : V) (w6 w7 w8 : Option V), σ = [some (.ref a), some vt, some (.int last), some (.ref O), some (.ref R), some (.int (plO (hops.take j) : Nat)), w6, w7, w8] ∧ (∀ c o, H3 c = some o → c ≠ O → c ≠ R → H' c = some o) ∧
      LT H' O ((hops.take j).map fun x => stT x.2.1) ∧ LT H' R ((hops.take j).map fun x => stT x.2.2))
    ⟨vt, none, none, none, rfl, (fun _ _ q _ _ => q), ⟨[], s3 _ _ hO2, .nil⟩, ⟨[], s3 _ _ hR, .nil⟩⟩ (fun j σ H' _ ⟨_, _, _, _, _, b, _⟩ => SqL.of (b _ _ hl nlO nlR)) ?_ ?_⟩
  · rintro j x σ H4 hj ⟨vt, w6, w7, w8, rfl, b4, ⟨ao, hao, tao⟩, ⟨ar, har, tar⟩⟩
    obtain ⟨tt, htt, tx⟩ := hx.at hj
    rw [List.getElem?_map] at htt
    obtain ⟨hop, hh, rfl⟩ := Option.map_eq_some_iff.mp htt
    have hjl := (List.getElem?_eq_some_iff.mp hh).1
    have k4 : KT H3 H4 := fun c ys q => b4 c _ q (ne_of q (s3 _ _ hO2) fun z => nomatch z) (ne_of q (s3 _ _ hR) fun z => nomatch z)
    obtain ⟨va, v1, vb, v2, v3, rfl, hva, tv1, hvb, tv2, tv3⟩ := (tx.kt k4).hop
    obtain ⟨c, rfl, hc⟩ := tv1.stt
    have hol : ao.length = j := by rw [tao.length, List.length_map, List.length_take]; omega
    have hrl : ar.length = j := by rw [tar.length, List.length_map, List.length_take]; omega
    refine ⟨va, _, rfl, SqT.of hva, rfl, _, _, rfl, _, _, rfl, vb, _, rfl, SqT.of hvb, rfl, _, _, rfl, _, _, rfl, rfl, rfl, ?_⟩
    have tk : hops.take (j + 1) = hops.take j ++ [hop] := by rw [List.take_succ, hh]; rfl
    refine ⟨_, rfl, c, _, 0, _, rfl, rfl, SqT.of hc, rfl, hop.1.1, rfl, ?_⟩
    cases hb : hop.1.1 with
    | false =>
      refine ⟨_, rfl, O, _, rfl, .inl (SqL.of hao), ?_⟩
      refine ⟨_, rfl, .inl ⟨rfl, _, SqL.of hao⟩, _, rfl, O, ao, _, rfl, rfl, hao, by omega, fun H5 o5 h5 => ?_⟩
      have hr5 : H5 R = some (.lst ar) := by rw [o5 R nOR.symm]; exact har
      have k5 : KT H4 H5 := o5.kt hao (fun _ z => nomatch z)
      refine ⟨_, rfl, .inl ⟨rfl, _, SqL.of hr5⟩, _, rfl, R, ar, _, rfl, rfl, hr5, by omega, fun H6 o6 h6 => ?_⟩
      have k6 : KT H5 H6 := o6.kt hr5 (fun _ z => nomatch z)
      have k46 := k5.trans k6
      refine ⟨vt, some (.ref c), some v2, some v3, by rw [tk, plO_snoc, if_pos hb, List.length_take, Nat.min_eq_left (Nat.le_of_lt hjl), hol]; rfl, fun z o q n1 n2 => by rw [o6 z n2, o5 z n1]; exact b4 z o q n1 n2, ⟨_, by rw [o6 O nOR]; exact h5, ?_⟩, ⟨_, h6, ?_⟩⟩
      · rw [tk, List.map_append]
        exact (tao.kt k46).snoc (tv2.kt k46)
      · rw [tk, List.map_append]
        exact (tar.kt k46).snoc (tv3.kt k46)
    | true =>
      refine ⟨_, rfl, .inl ⟨rfl, _, SqL.of hao⟩, _, rfl, O, ao, _, rfl, rfl, hao, by omega, fun H5 o5 h5 => ?_⟩
      have hr5 : H5 R = some (.lst ar) := by rw [o5 R nOR.symm]; exact har
      have k5 : KT H4 H5 := o5.kt hao (fun _ z => nomatch z)
      refine ⟨_, rfl, .inl ⟨rfl, _, SqL.of hr5⟩, _, rfl, R, ar, _, rfl, rfl, hr5, by omega, fun H6 o6 h6 => ?_⟩
      have k6 : KT H5 H6 := o6.kt hr5 (fun _ z => nomatch z)
      have k46 := k5.trans k6
      refine ⟨vt, some (.ref c), some v2, some v3, by rw [tk, plO_snoc, if_neg (by rw [hb]; decide)]; rfl, fun z o q n1 n2 => by rw [o6 z n2, o5 z n1]; exact b4 z o q n1 n2, ⟨_, by rw [o6 O nOR]; exact h5, ?_⟩, ⟨_, h6, ?_⟩⟩
      · rw [tk, List.map_append]
        exact (tao.kt k46).snoc (tv2.kt k46)
      · rw [tk, List.map_append]
        exact (tar.kt k46).snoc (tv3.kt k46)
  · rintro σ H4 ⟨vt, w6, w7, w8, rfl, b4, ⟨ao, hao, tao⟩, ⟨ar, har, tar⟩⟩
    rw [hxl, List.take_length] at *
    have s4 : Same H H4 := fun z o q => b4 z o (s3 _ _ (s12 _ _ q)) (ne_of_none q nO) (ne_of_none (s1 _ _ q) nR)
    have nO4 : H O = none := nO
    refine ⟨_, rfl, O, _, rfl, hao, fun q1 H5 s5 h5 n5 => ?_⟩
    refine ⟨_, rfl, by show 2 ≤ _; decide, fun q2 H6 s6 h6 n6 => ?_⟩
    refine ⟨_, rfl, R, _, rfl, s6 _ _ (s5 _ _ har), fun q3 H7 s7 h7 n7 => ?_⟩
    refine ⟨_, rfl, by show 2 ≤ _; decide, fun q4 H8 s8 h8 n8 => ?_⟩
    refine ⟨_, rfl, by show 3 ≤ _; decide, fun q5 H9 s9 h9 n9 => ?_⟩
    have s69 : Same H6 H9 := s7.trans (s8.trans s9)
    refine k _ H9 hops (s4.trans (s5.trans (s6.trans s69))) hhl hp ?_
    refine .t h9 (.cons (.t (s69 _ _ h6) (.cons (.t (s69 _ _ (s6 _ _ h5)) ?_) (.cons (.i _) .nil))) (.cons (.t (s9 _ _ h8) (.cons (.t (s9 _ _ (s8 _ _ h7)) ?_) (.cons (.i _) .nil))) (.cons (.i _) .nil)))
    · rw [List.map_map]
      exact tao.kt (s5.trans (s6.trans s69)).kt
    · rw [List.map_map]
      exact tar.kt (s5.trans (s6.trans s69)).kt
end
end Fx

/-! forging: the search -/
namespace Fx
open PySem PySem.Spec PyProof.Rows L2
theorem Tv.tw {H : Hp} {v : V} {s u : Stp} {g e : Int} (t : Tv H v (twT s u g e)) : ∃ a v1 v2, v = .ref a ∧ H a = some (.tup [v1, v2, .int g, .int e]) ∧ Tv H v1 (stT s) ∧ Tv H v2 (stT u) := by
  obtain ⟨a, ys, e, h1, h2⟩ := t.tup
  cases h2 with
  | cons p q => cases q with
    | cons q r => cases r with
      | cons r s => cases s with
        | cons s z =>
          cases z
          have := r.int
          have := s.int
          subst_vars
          exact ⟨a, _, _, rfl, h1, p, q⟩
theorem twT_inj {s u s' u' : Stp} {g d g' d' : Int} (z : twT s u g d = twT s' u' g' d') : s' = s ∧ u' = u ∧ g' = g ∧ d' = d := by
  simp only [twT, stT, T.t.injEq, List.cons.injEq, T.i.injEq, and_true] at z
  obtain ⟨⟨a1, a2, a3⟩, ⟨b1, b2, b3⟩, c1, c2⟩ := z
  exact ⟨(Prod.ext a1 (Prod.ext a2 a3)).symm, (Prod.ext b1 (Prod.ext b2 b3)).symm, c1.symm, c2.symm⟩
theorem TrA.off {P : Program} {w : World} {K : PySem.W.Frag} {H H' : Hp} {y dx e wl : Addr} {es : List Ent} {n m : Nat} (t : TrA P w K H y dx e wl es n) (o : Off y H H') (h : H' y = some (.ins (He.ga K "Trail") dx (trF e wl m))) : TrA P w K H' y dx e wl es m := by
  have k := o.kt t.at_ fun _ z => nomatch z
  refine ⟨h, ⟨?_, fun x hx => k _ _ (t.el.ks x hx)⟩, ?_⟩
  · rw [o e (ne_of t.el.at_ t.at_ fun z => nomatch z)]; exact t.el.at_
  · rw [o wl (ne_of t.wt t.at_ fun z => nomatch z)]; exact t.wt
/-- where the search stands -/
def FI (P : Program) (w : World) (K : PySem.W.Frag) (H' : Hp) (p : Parts) (y dx e wl : Addr) (L : List LEnt) (n nb : Nat) : Prop := ∃ es, TrA P w K H' y dx e wl es n ∧ EnA H' es L ∧ BInv p L nb
def Exc (H H' : Hp) (e wl : Addr) : Prop := ∀ c o, H c = some o → c ≠ e → c ≠ wl → H' c = some o
section
variable {P : Program} {w : World} {K : PySem.W.Frag} {mg : Str → Option Value} {base : Heap}
def sp_forging (K : PySem.W.Frag) : Sp := fun vs H Q _ => ∃ (vo : V) (p : Parts), vs = [vo] ∧ OffAt K H vo p ∧ POk p ∧ (¬ CanForge p → ∀ H', Same H H' → Q .non H') ∧
  ∀ v H' hops s last, Same H H' → Path p hops s → s.1 = true → last ∈ cloAt p s.2.1 → last ∈ cloAt p s.2.2 → hops.length ≤ 50 → Tv H' v (toldT (hops.map fun x => x.2.1) (hops.map fun x => x.2.2) last (plO hops : Nat)) → Q v H'
theorem sc_forging : FnScope ["office", "trail", "here", "swapped", "one", "other", "last", "step", "twin", "goal", "end"] ["office"] (defScope s_forging) := ⟨rfl, rfl, rfl, by decide +kernel, rfl, by decide +kernel, by decide +kernel⟩
theorem c_forging (T : Tx K mg) : Cal P w K mg base 3 "forging" (sp_forging K) := by
  refine cal_mk T.forging (fun _ _ _ _ _ _ us hl => match us, hl with | [_], _ => rfl) sc_forging (fun vs H Q E h => by (obtain ⟨vo, p, rfl, ho, ok, k1, k2⟩ := h; rfl)) (fun f cdv A outer s H vs Q E hr h => ?_)
  obtain ⟨vo, p, rfl, ho, ok, k1, k2⟩ := h
  refine ⟨_, (pss_cons (ps_set (i := 1) sc_forging.nd rfl (Or.inl rfl) (pe_mkS (k_Trail T) hr (by decide) rfl (pa_cons (pe_tupS (pa_cons pe_bl (pa_cons pe_int (pa_cons pe_int pa_nil)))) pa_nil)))
    (pss_cons (ps_while PassesOwn.never (pt_val (pe_mt0 (c_Trail_has_more T) hr (by decide) (pv 1)))
      (pss_cons (ps_set (i := 2) sc_forging.nd rfl (Or.inl rfl) (pe_mt0 (c_Trail_take T) hr (by decide) (pv 1)))
      (pss_cons (ps_asg (pv 2) (pg_tup rfl (pgs_cons (pg_name (i := 3) sc_forging.nd rfl (Or.inl rfl)) (pgs_cons (pg_name (i := 4) sc_forging.nd rfl (Or.inl rfl)) (pgs_cons (pg_name (i := 5) sc_forging.nd rfl (Or.inl rfl)) pgs_nil)))))
      (pss_cons (ps_set (i := 6) sc_forging.nd rfl (Or.inl rfl) (pe_c (c_last_of_both T) hr (by decide) rfl (pa_cons (pv 0) (pa_cons (pv 4) (pa_cons (pv 5) pa_nil)))))
      (pss_cons (ps_if (PW.pt (pw_and (pt_val (pv 3)) (pw_and1 (pt_cmpR op_notN (pv 6) pe_non (nomark _)))))
        (pss_one (ps_ret (pe_c (c_told_pair T) hr (by decide) rfl (pa_cons (pv 1) (pa_cons (pv 2) (pa_cons (pv 6) pa_nil))))))
        pss_nil)
      (pss_one (ps_for PassesOwn.never rfl (pi_list (pe_c (c_twin_steps T) hr (by decide) rfl (pa_cons (pv 0) (pa_cons (pv 4) (pa_cons (pv 5) pa_nil))))) (pg_tup rfl (pgs_cons (pg_name (i := 7) sc_forging.nd rfl (Or.inl rfl)) (pgs_cons (pg_name (i := 8) sc_forging.nd rfl (Or.inl rfl)) (pgs_cons (pg_name (i := 9) sc_forging.nd rfl (Or.inl rfl)) (pgs_cons (pg_name (i := 10) sc_forging.nd rfl (Or.inl rfl)) pgs_nil)))))
        (pss_cons (ps_expr (pe_mt (c_Trail_meet T) hr (by decide) (pv 1) (pa_cons (pe_tupS (pa_cons (pv 3) (pa_cons (pv 9) (pa_cons (pv 10) pa_nil)))) (pa_cons (pv 2) (pa_cons (pe_tupS (pa_cons (pv 7) (pa_cons (pv 8) pa_nil))) pa_nil)))))
        (pss_one (ps_if (PW.pt (pw_and (pt_not (pt_val (pv 3))) (pw_and1 (pt_val (pe_c (c_is_swap T) hr (by decide) rfl (pa_cons (pv 7) (pa_cons (pv 8) pa_nil)))))))
          (pss_one (ps_expr (pe_mt (c_Trail_meet T) hr (by decide) (pv 1) (pa_cons (pe_tupS (pa_cons pe_bl (pa_cons (pv 9) (pa_cons (pv 10) pa_nil)))) (pa_cons (pv 2) (pa_cons (pe_tupS (pa_cons (pv 7) (pa_cons (pv 8) pa_nil))) pa_nil))))))
          pss_nil))))))))))
    (pss_one (ps_ret pe_non)))), ?_⟩
  refine ⟨by show 3 ≤ _; decide, fun tp H1 s1 htp _ y dx H2 s2 ny hy => ?_⟩
  have ny0 : H y = none := s1.free ny
  refine ⟨y, dx, .ref tp, rfl, hy, tv_stt (s := (false, 0, 0)) (s2 _ _ htp), fun H3 e wl es b3 ne nw nea nwa t3 en3 => ⟨rfl, ?_⟩⟩
  have ne0 : H e = none := s1.free (s2.free ne)
  have nw0 : H wl = none := s1.free (s2.free nw)
  have s13 : Same H H3 := fun c o q => b3 c o (s2 _ _ (s1 _ _ q)) (ne_of_none q ny0)
  obtain ⟨W, hW⟩ : ∃ W : Nat → L2.St → Hp → Prop, W = fun m σ H' => ∃ (L : List LEnt) (n : Nat) (w2 w3 w4 w5 w6 w7 w8 w9 w10 : Option V), σ = [some vo, some (.ref y), w2, w3, w4, w5, w6, w7, w8, w9, w10] ∧ Same H H' ∧ FI P w K H' p y dx e wl L n n ∧ m = 50 - n := ⟨_, rfl⟩
  refine ⟨W, ⟨50, by rw [hW]; exact ⟨_, 0, none, none, none, none, none, none, none, none, none, rfl, s13, ⟨_, t3, en3, binv_init p⟩, rfl⟩⟩, fun m σ H4 hw => ?_⟩
  rw [hW] at hw
  obtain ⟨L, n, w2, w3, w4, w5, w6, w7, w8, w9, w10, rfl, s4, ⟨es4, t4, en4, bi⟩, rfl⟩ := hw
  have hL := bi.len ok
  refine ⟨_, rfl, y, dx, _, rfl, t4.at_, tno (by decide +kernel) (by decide +kernel) (by decide +kernel), y, dx, e, wl, _, n, rfl, t4.at_, t4.wt, _, rfl, ?_⟩
  rw [List.length_map, en4.length]
  by_cases hn : n < L.length
  case neg =>
    rw [decide_eq_false hn]
    exact k1 (binv_end bi hn) H4 s4
  rw [decide_eq_true hn]
  refine ⟨fun σ' H' => ∃ m', m' < 50 - n ∧ W m' σ' H', fun σ' H' z => z, ?_⟩
  obtain ⟨⟨⟨sb, sx, sy⟩, h⟩, hLn⟩ : ∃ x, L[n]? = some x := ⟨_, List.getElem?_eq_getElem hn⟩
  have hne : n < es4.length := by rw [en4.length]; exact hn
  obtain ⟨⟨s', b, oa⟩, hen⟩ : ∃ x, es4[n]? = some x := ⟨_, List.getElem?_eq_getElem hne⟩
  have es' : s' = (sb, sx, sy) := by
    have z := congrArg (fun l => l[n]?) en4.keys
    simp only [List.getElem?_map, hen, hLn] at z
    exact Option.some.inj z
  subst es'
  have hb4 : H4 b = some (.tup (vT (sb, sx, sy))) := t4.el.ks _ (List.mem_of_getElem? hen)
  refine ⟨_, rfl, y, dx, _, rfl, t4.at_, tno (by decide +kernel) (by decide +kernel) (by decide +kernel), y, dx, e, wl, _, n, .ref b, rfl, t4.at_, t4.wt, by rw [List.getElem?_map, hen]; rfl, fun H5 o5 h5 => ?_⟩
  have t5 := t4.off o5 h5
  have k45 := o5.kt t4.at_ fun _ z => nomatch z
  have s5 : Same H H5 := fun c o q => by rw [o5 c (ne_of_none q ny0)]; exact s4 _ _ q
  have en5 := en4.kt k45
  have hb5 := k45 _ _ hb4
  have hv : ValS p (sb, sx, sy) := (bi.reach hLn).ok ok
  have ho5 := ho.same s5
  refine ⟨_, rfl, b, _, rfl, SqT.of hb5, rfl, _, _, rfl, _, _, rfl, _, _, rfl, rfl, ?_⟩
  refine ⟨_, rfl, _, rfl, _, rfl, vo, p, sx, sy, rfl, ho5, ok, hv.1, hv.2, fun last c1 c2 => ?_, fun hno => ?_⟩
  · cases sb with
    | true =>
      refine ⟨_, rfl, _, rfl, _, rfl, rfl, _, rfl, _, rfl, _, rfl, _, rfl, y, dx, e, wl, es4, n + 1, L, p, n, .ref b, last, (true, sx, sy), h, n, rfl, t5, en5, bi, hL, tv_stt hb5, hLn, fun v H6 hops s6 hl hp tv => ?_⟩
      exact k2 v H6 hops _ last (s5.trans s6) hp rfl c1 c2 hl tv
    | false =>
      refine ⟨_, rfl, _, rfl, ?_⟩
      have hnf : ¬ Final p (false, sx, sy) := fun z => nomatch z.1
      refine ⟨_, rfl, _, rfl, _, rfl, vo, p, sx, sy, rfl, ho5, ok, hv.1, hv.2, fun l H6 ts s6 nl ⟨xs, hl, hx⟩ htl hts hcov => ?_⟩
      have s56 := s5.trans s6
      have hle : l ≠ e := (ne_of_none t5.el.at_ nl).symm
      have hlw : l ≠ wl := (ne_of_none t5.wt nl).symm
      have hxl := hx.length
      refine ⟨l, rfl, ⟨_, SqL.of hl⟩, for_list (K := K) (xs := xs) (fun j σ H' => ∃ (L' : List LEnt) (w6 w7 w8 w9 w10 : Option V), σ = [some vo, some (.ref y), some (.ref b), some (.bl false), some (.int sx), some (.int sy), w6, w7, w8, w9, w10] ∧ Exc H6 H' e wl ∧ FI P w K H' p y dx e wl L' (n + 1) n ∧ L'[n]? = some ((false, sx, sy), h) ∧
          ∀ j' s u g d, j' < j → ts[j']? = some (twT s u g d) → (false, g, d) ∈ L'.map (·.1) ∧ (false = false → Swap s u → (true, g, d) ∈ L'.map (·.1)))
        ⟨L, some (.int last), w7, w8, w9, w10, rfl, (fun _ _ q _ _ => q), ⟨es4, t5.same s6, en5.kt s6.kt, bi⟩, hLn, fun _ _ _ _ _ z => absurd z (Nat.not_lt_zero _)⟩ (fun j σ H' _ ⟨_, _, _, _, _, _, _, b, _⟩ => SqL.of (b _ _ hl hle hlw)) ?_ ?_⟩
      · rintro j x σ H7 hj ⟨L1, w6, w7, w8, w9, w10, rfl, b7, ⟨es7, t7, en7, bi7⟩, hL7, cov⟩
        obtain ⟨tt, htt, tx⟩ := hx.at hj
        obtain ⟨s, u, g, d, rfl, m1, m2, m3⟩ := hts _ (List.mem_of_getElem? htt)
        have k67 : KT H6 H7 := fun c ys q => b7 c _ q (ne_of q (s6 _ _ t5.el.at_) fun z => nomatch z) (ne_of q (s6 _ _ t5.wt) fun z => nomatch z)
        obtain ⟨va, v1, v2, rfl, hva, tv1, tv2⟩ := (tx.kt k67).tw
        have hl1 := bi7.len ok
        have kb : Tv H7 (.ref b) (sttT (false, sx, sy)) := tv_stt (k67 _ _ (s6 _ _ hb5))
        refine ⟨va, _, rfl, SqT.of hva, rfl, _, _, rfl, _, _, rfl, _, _, rfl, _, _, rfl, rfl, ?_⟩
        refine ⟨_, rfl, y, dx, _, rfl, t7.at_, tno (by decide +kernel) (by decide +kernel) (by decide +kernel), _, rfl, _, rfl, _, rfl, by show 3 ≤ _; decide, fun q1 H8 s8 h8 n8 => ?_⟩
        refine ⟨_, rfl, _, rfl, _, rfl, by show 2 ≤ _; decide, fun q2 H9 s9 h9 n9 => ?_⟩
        have s79 := s8.trans s9
        refine ⟨y, dx, e, wl, es7, n + 1, L1, .ref q1, .ref b, .ref q2, (false, g, d), ((false, sx, sy), s, u), rfl, t7.same s79, en7.kt s79.kt, by omega, tv_stt (s9 _ _ h8), kb.kt s79.kt, .t h9 (.cons (tv1.kt s79.kt) (.cons (tv2.kt s79.kt) .nil)), fun H10 es10 b10 t10 en10 => ?_⟩
        have ed : Edge p (false, sx, sy) (false, g, d) s u := ⟨m1, m2, m3, .inl rfl⟩
        have bi10 := binv_meet bi7 (s := (false, g, d)) (h := ((false, sx, sy), s, u)) hL7 ed
        have s7e : Exc H7 H10 e wl := fun c o q n1 n2 => b10 c o (s79 _ _ q) n1 n2
        have b610 : Exc H6 H10 e wl := fun c o q n1 n2 => s7e c o (b7 c o q n1 n2) n1 n2
        have k710 : KT H7 H10 := fun c ys q => s7e c _ q (ne_of q t7.el.at_ fun z => nomatch z) (ne_of q t7.wt fun z => nomatch z)
        have cov10 : ∀ j' s' u' g' d', j' < j → ts[j']? = some (twT s' u' g' d') → (false, g', d') ∈ (meetL L1 (false, g, d) ((false, sx, sy), s, u)).map (·.1) ∧ (false = false → Swap s' u' → (true, g', d') ∈ (meetL L1 (false, g, d) ((false, sx, sy), s, u)).map (·.1)) := fun j' s' u' g' d' z1 z2 => ⟨meetL_sub (cov j' s' u' g' d' z1 z2).1, fun z3 z4 => meetL_sub ((cov j' s' u' g' d' z1 z2).2 z3 z4)⟩
        have inj : ∀ s' u' g' d', ts[j]? = some (twT s' u' g' d') → s' = s ∧ u' = u ∧ g' = g ∧ d' = d := fun s' u' g' d' z => by
          rw [htt] at z
          exact twT_inj (Option.some.inj z)
        refine ⟨_, rfl, _, rfl, ?_⟩
        refine ⟨_, rfl, _, rfl, v1, v2, s, u, rfl, tv1.kt k710, tv2.kt k710, fun H11 s11 => ⟨_, rfl, ?_⟩⟩
        have t11 := t10.same s11
        by_cases hsw : Swap s u
        · rw [decide_eq_true hsw]
          refine ⟨_, rfl, y, dx, _, rfl, t11.at_, tno (by decide +kernel) (by decide +kernel) (by decide +kernel), _, rfl, _, rfl, by show 3 ≤ _; decide, fun q3 H12 s12 h12 n12 => ?_⟩
          refine ⟨_, rfl, _, rfl, _, rfl, by show 2 ≤ _; decide, fun q4 H13 s13' h13 n13 => ?_⟩
          have s1113 := s12.trans s13'
          have k713 : KT H7 H13 := k710.trans (s11.trans s1113).kt
          refine ⟨y, dx, e, wl, es10, n + 1, _, .ref q3, .ref b, .ref q4, (true, g, d), ((false, sx, sy), s, u), rfl, t11.same s1113, (en10.kt s11.kt).kt s1113.kt, by have := bi10.len ok; omega, tv_stt (s13' _ _ h12), kb.kt k713, .t h13 (.cons (tv1.kt k713) (.cons (tv2.kt k713) .nil)), fun H14 es14 b14 t14 en14 => ?_⟩
          have ed2 : Edge p (false, sx, sy) (true, g, d) s u := ⟨m1, m2, m3, .inr ⟨rfl, rfl, hsw⟩⟩
          have bi14 := binv_meet bi10 (s := (true, g, d)) (h := ((false, sx, sy), s, u)) (meetL_pre hL7) ed2
          refine ⟨_, _, _, _, _, _, rfl, fun c o q n1 n2 => b14 c o ((s11.trans s1113) c o (b610 c o q n1 n2)) n1 n2, ⟨es14, t14, en14, bi14⟩, meetL_pre (meetL_pre hL7), fun j' s' u' g' d' z1 z2 => ?_⟩
          by_cases hjj : j' = j
          · subst hjj
            obtain ⟨rfl, rfl, rfl, rfl⟩ := inj s' u' g' d' z2
            exact ⟨meetL_sub meetL_mem, fun _ _ => meetL_mem⟩
          · obtain ⟨y1, y2⟩ := cov10 j' s' u' g' d' (by omega) z2
            exact ⟨meetL_sub y1, fun y3 y4 => meetL_sub (y2 y3 y4)⟩
        · rw [decide_eq_false hsw]
          refine ⟨_, _, _, _, _, _, rfl, fun c o q n1 n2 => s11 c o (b610 c o q n1 n2), ⟨es10, t11, en10.kt s11.kt, bi10⟩, meetL_pre hL7, fun j' s' u' g' d' z1 z2 => ?_⟩
          by_cases hjj : j' = j
          · subst hjj
            obtain ⟨rfl, rfl, rfl, rfl⟩ := inj s' u' g' d' z2
            exact ⟨meetL_mem, fun _ z => absurd z hsw⟩
          · exact cov10 j' s' u' g' d' (by omega) z2
      · rintro σ H7 ⟨L1, w6, w7, w8, w9, w10, rfl, b7, ⟨es7, t7, en7, bi7⟩, hL7, cov⟩
        refine ⟨50 - (n + 1), by omega, ?_⟩
        rw [hW]
        refine ⟨L1, n + 1, _, _, _, _, _, _, _, _, _, rfl, fun c o q => b7 c o (s56 c o q) (ne_of_none q ne0) (ne_of_none q nw0), ⟨es7, t7, en7, binv_next bi7 hL7 hnf ?_⟩, rfl⟩
        rintro ⟨sb', gx, dy⟩ st tw ⟨e1, e2, e3, e4⟩
        obtain ⟨j', hj'⟩ := List.getElem?_of_mem (hcov st tw gx dy e1 e2 e3)
        have hjl : j' < xs.length := by rw [hxl]; exact (List.getElem?_eq_some_iff.mp hj').1
        obtain ⟨q1, q2⟩ := cov j' st tw gx dy hjl hj'
        rcases e4 with z | ⟨z1, z2, z3⟩
        · have z : sb' = false := z
          rw [z]; exact q1
        · have z2 : sb' = true := z2
          rw [z2]; exact q2 z1 z3
  · cases sb with
    | true =>
      refine ⟨_, rfl, _, rfl, _, rfl, rfl, _, rfl, ?_⟩
      have hnf : ¬ Final p (true, sx, sy) := fun z => let ⟨x, z1, z2⟩ := z.2; hno x z1 z2
      refine ⟨_, rfl, _, rfl, _, rfl, vo, p, sx, sy, rfl, ho5, ok, hv.1, hv.2, fun l H6 ts s6 nl ⟨xs, hl, hx⟩ htl hts hcov => ?_⟩
      have s56 := s5.trans s6
      have hle : l ≠ e := (ne_of_none t5.el.at_ nl).symm
      have hlw : l ≠ wl := (ne_of_none t5.wt nl).symm
      have hxl := hx.length
      refine ⟨l, rfl, ⟨_, SqL.of hl⟩, for_list (K := K) (xs := xs) (fun j σ H' => ∃ (L' : List LEnt) (w6 w7 w8 w9 w10 : Option V), σ = [some vo, some (.ref y), some (.ref b), some (.bl true), some (.int sx), some (.int sy), w6, w7, w8, w9, w10] ∧ Exc H6 H' e wl ∧ FI P w K H' p y dx e wl L' (n + 1) n ∧ L'[n]? = some ((true, sx, sy), h) ∧
          ∀ j' s u g d, j' < j → ts[j']? = some (twT s u g d) → (true, g, d) ∈ L'.map (·.1) ∧ (true = false → Swap s u → (true, g, d) ∈ L'.map (·.1)))
        ⟨L, some .non, w7, w8, w9, w10, rfl, (fun _ _ q _ _ => q), ⟨es4, t5.same s6, en5.kt s6.kt, bi⟩, hLn, fun _ _ _ _ _ z => absurd z (Nat.not_lt_zero _)⟩ (fun j σ H' _ ⟨_, _, _, _, _, _, _, b, _⟩ => SqL.of (b _ _ hl hle hlw)) ?_ ?_⟩
      · rintro j x σ H7 hj ⟨L1, w6, w7, w8, w9, w10, rfl, b7, ⟨es7, t7, en7, bi7⟩, hL7, cov⟩
        obtain ⟨tt, htt, tx⟩ := hx.at hj
        obtain ⟨s, u, g, d, rfl, m1, m2, m3⟩ := hts _ (List.mem_of_getElem? htt)
        have k67 : KT H6 H7 := fun c ys q => b7 c _ q (ne_of q (s6 _ _ t5.el.at_) fun z => nomatch z) (ne_of q (s6 _ _ t5.wt) fun z => nomatch z)
        obtain ⟨va, v1, v2, rfl, hva, tv1, tv2⟩ := (tx.kt k67).tw
        have hl1 := bi7.len ok
        have kb : Tv H7 (.ref b) (sttT (true, sx, sy)) := tv_stt (k67 _ _ (s6 _ _ hb5))
        refine ⟨va, _, rfl, SqT.of hva, rfl, _, _, rfl, _, _, rfl, _, _, rfl, _, _, rfl, rfl, ?_⟩
        refine ⟨_, rfl, y, dx, _, rfl, t7.at_, tno (by decide +kernel) (by decide +kernel) (by decide +kernel), _, rfl, _, rfl, _, rfl, by show 3 ≤ _; decide, fun q1 H8 s8 h8 n8 => ?_⟩
        refine ⟨_, rfl, _, rfl, _, rfl, by show 2 ≤ _; decide, fun q2 H9 s9 h9 n9 => ?_⟩
        have s79 := s8.trans s9
        refine ⟨y, dx, e, wl, es7, n + 1, L1, .ref q1, .ref b, .ref q2, (true, g, d), ((true, sx, sy), s, u), rfl, t7.same s79, en7.kt s79.kt, by omega, tv_stt (s9 _ _ h8), kb.kt s79.kt, .t h9 (.cons (tv1.kt s79.kt) (.cons (tv2.kt s79.kt) .nil)), fun H10 es10 b10 t10 en10 => ?_⟩
        have ed : Edge p (true, sx, sy) (true, g, d) s u := ⟨m1, m2, m3, .inl rfl⟩
        have bi10 := binv_meet bi7 (s := (true, g, d)) (h := ((true, sx, sy), s, u)) hL7 ed
        have s7e : Exc H7 H10 e wl := fun c o q n1 n2 => b10 c o (s79 _ _ q) n1 n2
        have b610 : Exc H6 H10 e wl := fun c o q n1 n2 => s7e c o (b7 c o q n1 n2) n1 n2
        have k710 : KT H7 H10 := fun c ys q => s7e c _ q (ne_of q t7.el.at_ fun z => nomatch z) (ne_of q t7.wt fun z => nomatch z)
        have cov10 : ∀ j' s' u' g' d', j' < j → ts[j']? = some (twT s' u' g' d') → (true, g', d') ∈ (meetL L1 (true, g, d) ((true, sx, sy), s, u)).map (·.1) ∧ (true = false → Swap s' u' → (true, g', d') ∈ (meetL L1 (true, g, d) ((true, sx, sy), s, u)).map (·.1)) := fun j' s' u' g' d' z1 z2 => ⟨meetL_sub (cov j' s' u' g' d' z1 z2).1, fun z3 z4 => meetL_sub ((cov j' s' u' g' d' z1 z2).2 z3 z4)⟩
        have inj : ∀ s' u' g' d', ts[j]? = some (twT s' u' g' d') → s' = s ∧ u' = u ∧ g' = g ∧ d' = d := fun s' u' g' d' z => by
          rw [htt] at z
          exact twT_inj (Option.some.inj z)
        refine ⟨_, rfl, _, rfl, ?_⟩
        refine ⟨_, _, _, _, _, _, rfl, b610, ⟨es10, t10, en10, bi10⟩, meetL_pre hL7, fun j' s' u' g' d' z1 z2 => ?_⟩
        by_cases hjj : j' = j
        · subst hjj
          obtain ⟨rfl, rfl, rfl, rfl⟩ := inj s' u' g' d' z2
          exact ⟨meetL_mem, fun z => nomatch z⟩
        · exact cov10 j' s' u' g' d' (by omega) z2
      · rintro σ H7 ⟨L1, w6, w7, w8, w9, w10, rfl, b7, ⟨es7, t7, en7, bi7⟩, hL7, cov⟩
        refine ⟨50 - (n + 1), by omega, ?_⟩
        rw [hW]
        refine ⟨L1, n + 1, _, _, _, _, _, _, _, _, _, rfl, fun c o q => b7 c o (s56 c o q) (ne_of_none q ne0) (ne_of_none q nw0), ⟨es7, t7, en7, binv_next bi7 hL7 hnf ?_⟩, rfl⟩
        rintro ⟨sb', gx, dy⟩ st tw ⟨e1, e2, e3, e4⟩
        obtain ⟨j', hj'⟩ := List.getElem?_of_mem (hcov st tw gx dy e1 e2 e3)
        have hjl : j' < xs.length := by rw [hxl]; exact (List.getElem?_eq_some_iff.mp hj').1
        obtain ⟨q1, q2⟩ := cov j' st tw gx dy hjl hj'
        rcases e4 with z | ⟨z1, z2, z3⟩
        · have z : sb' = true := z
          rw [z]; exact q1
        · have z2 : sb' = true := z2
          rw [z2]; exact q2 z1 z3
    | false =>
      refine ⟨_, rfl, _, rfl, ?_⟩
      have hnf : ¬ Final p (false, sx, sy) := fun z => nomatch z.1
      refine ⟨_, rfl, _, rfl, _, rfl, vo, p, sx, sy, rfl, ho5, ok, hv.1, hv.2, fun l H6 ts s6 nl ⟨xs, hl, hx⟩ htl hts hcov => ?_⟩
      have s56 := s5.trans s6
      have hle : l ≠ e := (ne_of_none t5.el.at_ nl).symm
      have hlw : l ≠ wl := (ne_of_none t5.wt nl).symm
      have hxl := hx.length
      refine ⟨l, rfl, ⟨_, SqL.of hl⟩, for_list (K := K) (xs := xs) (fun j σ H' => ∃ (L' : List LEnt) (w6 w7 w8 w9 w10 : Option V), σ = [some vo, some (.ref y), some (.ref b), some (.bl false), some (.int sx), some (.int sy), w6, w7, w8, w9, w10] ∧ Exc H6 H' e wl ∧ FI P w K H' p y dx e wl L' (n + 1) n ∧ L'[n]? = some ((false, sx, sy), h) ∧
          ∀ j' s u g d, j' < j → ts[j']? = some (twT s u g d) → (false, g, d) ∈ L'.map (·.1) ∧ (false = false → Swap s u → (true, g, d) ∈ L'.map (·.1)))
        ⟨L, some .non, w7, w8, w9, w10, rfl, (fun _ _ q _ _ => q), ⟨es4, t5.same s6, en5.kt s6.kt, bi⟩, hLn, fun _ _ _ _ _ z => absurd z (Nat.not_lt_zero _)⟩ (fun j σ H' _ ⟨_, _, _, _, _, _, _, b, _⟩ => SqL.of (b _ _ hl hle hlw)) ?_ ?_⟩
      · rintro j x σ H7 hj ⟨L1, w6, w7, w8, w9, w10, rfl, b7, ⟨es7, t7, en7, bi7⟩, hL7, cov⟩
        obtain ⟨tt, htt, tx⟩ := hx.at hj
        obtain ⟨s, u, g, d, rfl, m1, m2, m3⟩ := hts _ (List.mem_of_getElem? htt)
        have k67 : KT H6 H7 := fun c ys q => b7 c _ q (ne_of q (s6 _ _ t5.el.at_) fun z => nomatch z) (ne_of q (s6 _ _ t5.wt) fun z => nomatch z)
        obtain ⟨va, v1, v2, rfl, hva, tv1, tv2⟩ := (tx.kt k67).tw
        have hl1 := bi7.len ok
        have kb : Tv H7 (.ref b) (sttT (false, sx, sy)) := tv_stt (k67 _ _ (s6 _ _ hb5))
        refine ⟨va, _, rfl, SqT.of hva, rfl, _, _, rfl, _, _, rfl, _, _, rfl, _, _, rfl, rfl, ?_⟩
        refine ⟨_, rfl, y, dx, _, rfl, t7.at_, tno (by decide +kernel) (by decide +kernel) (by decide +kernel), _, rfl, _, rfl, _, rfl, by show 3 ≤ _; decide, fun q1 H8 s8 h8 n8 => ?_⟩
        refine ⟨_, rfl, _, rfl, _, rfl, by show 2 ≤ _; decide, fun q2 H9 s9 h9 n9 => ?_⟩
        have s79 := s8.trans s9
        refine ⟨y, dx, e, wl, es7, n + 1, L1, .ref q1, .ref b, .ref q2, (false, g, d), ((false, sx, sy), s, u), rfl, t7.same s79, en7.kt s79.kt, by omega, tv_stt (s9 _ _ h8), kb.kt s79.kt, .t h9 (.cons (tv1.kt s79.kt) (.cons (tv2.kt s79.kt) .nil)), fun H10 es10 b10 t10 en10 => ?_⟩
        have ed : Edge p (false, sx, sy) (false, g, d) s u := ⟨m1, m2, m3, .inl rfl⟩
        have bi10 := binv_meet bi7 (s := (false, g, d)) (h := ((false, sx, sy), s, u)) hL7 ed
        have s7e : Exc H7 H10 e wl := fun c o q n1 n2 => b10 c o (s79 _ _ q) n1 n2
        have b610 : Exc H6 H10 e wl := fun c o q n1 n2 => s7e c o (b7 c o q n1 n2) n1 n2
        have k710 : KT H7 H10 := fun c ys q => s7e c _ q (ne_of q t7.el.at_ fun z => nomatch z) (ne_of q t7.wt fun z => nomatch z)
        have cov10 : ∀ j' s' u' g' d', j' < j → ts[j']? = some (twT s' u' g' d') → (false, g', d') ∈ (meetL L1 (false, g, d) ((false, sx, sy), s, u)).map (·.1) ∧ (false = false → Swap s' u' → (true, g', d') ∈ (meetL L1 (false, g, d) ((false, sx, sy), s, u)).map (·.1)) := fun j' s' u' g' d' z1 z2 => ⟨meetL_sub (cov j' s' u' g' d' z1 z2).1, fun z3 z4 => meetL_sub ((cov j' s' u' g' d' z1 z2).2 z3 z4)⟩
        have inj : ∀ s' u' g' d', ts[j]? = some (twT s' u' g' d') → s' = s ∧ u' = u ∧ g' = g ∧ d' = d := fun s' u' g' d' z => by
          rw [htt] at z
          exact twT_inj (Option.some.inj z)
        refine ⟨_, rfl, _, rfl, ?_⟩
        refine ⟨_, rfl, _, rfl, v1, v2, s, u, rfl, tv1.kt k710, tv2.kt k710, fun H11 s11 => ⟨_, rfl, ?_⟩⟩
        have t11 := t10.same s11
        by_cases hsw : Swap s u
        · rw [decide_eq_true hsw]
          refine ⟨_, rfl, y, dx, _, rfl, t11.at_, tno (by decide +kernel) (by decide +kernel) (by decide +kernel), _, rfl, _, rfl, by show 3 ≤ _; decide, fun q3 H12 s12 h12 n12 => ?_⟩
          refine ⟨_, rfl, _, rfl, _, rfl, by show 2 ≤ _; decide, fun q4 H13 s13' h13 n13 => ?_⟩
          have s1113 := s12.trans s13'
          have k713 : KT H7 H13 := k710.trans (s11.trans s1113).kt
          refine ⟨y, dx, e, wl, es10, n + 1, _, .ref q3, .ref b, .ref q4, (true, g, d), ((false, sx, sy), s, u), rfl, t11.same s1113, (en10.kt s11.kt).kt s1113.kt, by have := bi10.len ok; omega, tv_stt (s13' _ _ h12), kb.kt k713, .t h13 (.cons (tv1.kt k713) (.cons (tv2.kt k713) .nil)), fun H14 es14 b14 t14 en14 => ?_⟩
          have ed2 : Edge p (false, sx, sy) (true, g, d) s u := ⟨m1, m2, m3, .inr ⟨rfl, rfl, hsw⟩⟩
          have bi14 := binv_meet bi10 (s := (true, g, d)) (h := ((false, sx, sy), s, u)) (meetL_pre hL7) ed2
          refine ⟨_, _, _, _, _, _, rfl, fun c o q n1 n2 => b14 c o ((s11.trans s1113) c o (b610 c o q n1 n2)) n1 n2, ⟨es14, t14, en14, bi14⟩, meetL_pre (meetL_pre hL7), fun j' s' u' g' d' z1 z2 => ?_⟩
          by_cases hjj : j' = j
          · subst hjj
            obtain ⟨rfl, rfl, rfl, rfl⟩ := inj s' u' g' d' z2
            exact ⟨meetL_sub meetL_mem, fun _ _ => meetL_mem⟩
          · obtain ⟨y1, y2⟩ := cov10 j' s' u' g' d' (by omega) z2
            exact ⟨meetL_sub y1, fun y3 y4 => meetL_sub (y2 y3 y4)⟩
        · rw [decide_eq_false hsw]
          refine ⟨_, _, _, _, _, _, rfl, fun c o q n1 n2 => s11 c o (b610 c o q n1 n2), ⟨es10, t11, en10.kt s11.kt, bi10⟩, meetL_pre hL7, fun j' s' u' g' d' z1 z2 => ?_⟩
          by_cases hjj : j' = j
          · subst hjj
            obtain ⟨rfl, rfl, rfl, rfl⟩ := inj s' u' g' d' z2
            exact ⟨meetL_mem, fun _ z => absurd z hsw⟩
          · exact cov10 j' s' u' g' d' (by omega) z2
      · rintro σ H7 ⟨L1, w6, w7, w8, w9, w10, rfl, b7, ⟨es7, t7, en7, bi7⟩, hL7, cov⟩
        refine ⟨50 - (n + 1), by omega, ?_⟩
        rw [hW]
        refine ⟨L1, n + 1, _, _, _, _, _, _, _, _, _, rfl, fun c o q => b7 c o (s56 c o q) (ne_of_none q ne0) (ne_of_none q nw0), ⟨es7, t7, en7, binv_next bi7 hL7 hnf ?_⟩, rfl⟩
        rintro ⟨sb', gx, dy⟩ st tw ⟨e1, e2, e3, e4⟩
        obtain ⟨j', hj'⟩ := List.getElem?_of_mem (hcov st tw gx dy e1 e2 e3)
        have hjl : j' < xs.length := by rw [hxl]; exact (List.getElem?_eq_some_iff.mp hj').1
        obtain ⟨q1, q2⟩ := cov j' st tw gx dy hjl hj'
        rcases e4 with z | ⟨z1, z2, z3⟩
        · have z : sb' = false := z
          rw [z]; exact q1
        · have z2 : sb' = true := z2
          rw [z2]; exact q2 z1 z3
end
end Fx

/-! the law's hand -/
namespace Fx
open PySem PySem.Spec PyProof.Rows L2
def hL (c : Addr) (i r s n : Int) : List V := [.ref c, .int i, .int r, .int s, .int n]
/-- a hand of cells -/
def HA (H : Hp) (a c : Addr) : Prop := ∃ (cs : List Int) (i r s n : Int), H a = some (.lst (hL c i r s n)) ∧ H c = some (.lst (cs.map V.int)) ∧ 0 ≤ i
theorem HA.ne {H : Hp} {a c : Addr} {cs : List Int} {i r s n : Int} (h1 : H a = some (.lst (hL c i r s n))) (h2 : H c = some (.lst (cs.map V.int))) : c ≠ a := ne_of h2 h1 fun z => by
  injection z with z
  cases cs with
  | nil => exact nomatch z
  | cons x cs =>
    injection z with z _
    exact nomatch z
theorem But.refl (a : Addr) (H : Hp) : But a H H := fun _ _ q _ => q
theorem But.trans {a : Addr} {H H1 H2 : Hp} (x : But a H H1) (y : But a H1 H2) : But a H H2 := fun b o q n => y b o (x b o q n) n
theorem But.kt {a c : Addr} {H H' : Hp} (x : But a H H') (h : HA H a c) : KT H H' := fun b xs q => x b _ q (let ⟨_, _, _, _, _, h, _⟩ := h; ne_of q h fun z => nomatch z)
theorem _root_.L2.Same.but {H H' : Hp} (s : Same H H') (a : Addr) : But a H H' := fun b o q _ => s b o q
theorem HA.same {H H' : Hp} {a c : Addr} (h : HA H a c) (s : Same H H') : HA H' a c := let ⟨cs, i, r, s', n, h1, h2, h3⟩ := h; ⟨cs, i, r, s', n, s _ _ h1, s _ _ h2, h3⟩
theorem HA.live {H : Hp} {a b c : Addr} (h : HA H a c) (n : H b = none) : b ≠ a := let ⟨_, _, _, _, _, h1, _⟩ := h; (ne_of_none h1 n).symm
theorem HA.live2 {H : Hp} {a b c : Addr} (h : HA H a c) (n : H b = none) : b ≠ c := let ⟨_, _, _, _, _, _, h1, _⟩ := h; (ne_of_none h1 n).symm
theorem HA.off {H H' : Hp} {a b c : Addr} (h : HA H a c) (o : Off b H H') (n1 : b ≠ a) (n2 : b ≠ c) : HA H' a c := let ⟨cs, i, r, s', n, h1, h2, h3⟩ := h; ⟨cs, i, r, s', n, by rw [o a n1.symm]; exact h1, by rw [o c n2.symm]; exact h2, h3⟩
theorem dec0 (r : Int) : decide (V.int r = V.int 0) = decide (r = 0) := by simp
section
variable {P : Program} {w : World} {K : PySem.W.Frag} {mg : Str → Option Value} {base : Heap}
def sp__law_hand (K : PySem.W.Frag) : Sp := fun vs H Q _ => ∃ (a : Addr) (ns : List Int), vs = [.ref a] ∧ SqL K H a (ns.map V.int) ∧ ns.length ≤ 63 ∧ ∀ h c H', Same H H' → HA H' h c → Q (.ref h) H'
theorem sc__law_hand : FnScope ["_law_script", "_law_cells", "_law_cell"] ["_law_script"] (defScope s__law_hand) := ⟨rfl, rfl, rfl, by decide +kernel, rfl, by decide +kernel, by decide +kernel⟩
theorem c__law_hand (T : Tx K mg) : Cal P w K mg base 1 "_law_hand" (sp__law_hand K) := by
  refine cal_mk T._law_hand (fun _ _ _ _ _ _ us hl => match us, hl with | [_], _ => rfl) sc__law_hand (fun vs H Q E h => by (obtain ⟨a, ns, rfl, ha, hn, k⟩ := h; rfl)) (fun f cdv A outer s H vs Q E hr h => ?_)
  obtain ⟨a, ns, rfl, ha, hn, k⟩ := h
  refine ⟨_, (pss_cons (ps_setLc (i := 1) (own := [("_law_cell", 2)]) rfl sc__law_hand.nd rfl rfl (sw_true rfl rfl rfl (by decide +kernel)) (pi_list (pe_slice (sl_listS (K := K)) (pv 0) po_none (po_some pe_int))) (blkOk_by (own := [("_law_cell", 2)]) (N := ["_law_script", "_law_cells", "_law_cell"]) (sc := defScope s__law_hand) (by decide +kernel)) (fun _ _ _ _ _ => (pg_name (i := 2) sc__law_hand.nd rfl (Or.inl rfl))) (fun _ _ _ _ _ => pts_nil) (fun _ _ _ _ _ => (pe_callB call_abs rfl T.f_abs (by decide +kernel) (pa_cons (pe_callTy call_int1 rfl T.f_int (by decide +kernel) (pa_cons (pv 2) pa_nil)) pa_nil))))
    (pss_one (ps_ret (pe_lstS (pa_cons (pv 1) (pa_cons pe_int (pa_cons pe_int (pa_cons (pe_op op_add pe_int (pe_callB call_len_seq rfl T.f_len PySem.boot_len (pa_cons (pv 1) pa_nil))) (pa_cons pe_int pa_nil))))))))), ?_⟩
  refine ⟨_, rfl, _, rfl, a, _, rfl, ha, fun q H1 s1 hq nq => ?_⟩
  refine ⟨q, rfl, ⟨_, SqL.of hq⟩, fun D hD => ?_⟩
  have hcut : ∀ x ∈ cutV (ns.map V.int) none (some 63), ∃ n, x = .int n := fun x hx => by
    unfold cutV at hx
    obtain ⟨n, _, rfl⟩ := List.mem_map.mp (List.mem_of_mem_drop (List.mem_of_mem_take hx))
    exact ⟨n, rfl⟩
  have hlen := cutV_length (ns.map V.int) none (some 63)
  rw [List.length_map] at hlen
  refine lcL (K := K) (fun _ ts => ∃ cs : List Int, ts = cs.map Fx.T.i) hD hq (by omega) ⟨[], rfl⟩ (fun i x H' ts hi s2 hl ⟨cs, hcs⟩ R R' c1 c2 => ?_) fun H' ts s2 l hl ⟨cs, hcs⟩ => ?_
  · obtain ⟨n, rfl⟩ := hcut x (List.mem_of_getElem? hi)
    refine ⟨rfl, _, rfl, .inl ⟨_, rfl, _, rfl, c1 _ _ _ (Same.refl _) (.i _) ⟨cs ++ [_], by rw [hcs, List.map_append]; rfl⟩⟩⟩
  · obtain ⟨xs, h1, h2⟩ := l
    rw [hcs] at h2
    rw [h2.ints] at h1
    refine ⟨_, rfl, _, rfl, _, _, rfl, .inl (SqL.of h1), _, _, rfl, rfl, by show 5 ≤ _; decide, fun h H2 s3 hh _ => ?_⟩
    exact k h D H2 (s1.trans (s2.trans s3)) ⟨cs, 0, 0, _, 0, hh, s3 _ _ h1, Int.le_refl _⟩
def sp__law_draw (K : PySem.W.Frag) : Sp := fun vs H Q _ => ∃ (a c : Addr) (m : Int), vs = [.ref a, .int m] ∧ HA H a c ∧ (1 ≤ m ∧ m ≤ 1000) ∧ ∀ k H', But a H H' → HA H' a c → 0 ≤ k → k < m → Q (.int k) H'
theorem sc__law_draw : FnScope ["_law_hand_here", "_law_many", "_law_cell", "_law_digit", "_law_number"] ["_law_hand_here", "_law_many"] (defScope s__law_draw) := ⟨rfl, rfl, rfl, by decide +kernel, rfl, by decide +kernel, by decide +kernel⟩
theorem c__law_draw (T : Tx K mg) : Cal P w K mg base 1 "_law_draw" (sp__law_draw K) := by
  refine cal_mk T._law_draw (fun _ _ _ _ _ _ us hl => match us, hl with | [_, _], _ => rfl) sc__law_draw (fun vs H Q E h => by (obtain ⟨a, c, m, rfl, ⟨cs, i, r, s', n, ha, hc, hi⟩, hm, k⟩ := h; rfl)) (fun f cdv A outer s H vs Q E hr h => ?_)
  obtain ⟨a, c, m, rfl, ⟨cs, i, r, s', n, ha, hc, hi⟩, hm, k⟩ := h
  refine ⟨_, (pss_cons (ps_if (PW.pt (pw_and (pt_cmpR op_eq (pe_ix ix_list (pv 0) pe_int (fun _ _ => rfl)) pe_int (nomark _)) (pw_and1 (pt_cmpR op_lt (pe_ix ix_list (pv 0) pe_int (fun _ _ => rfl)) (pe_callB call_len_seq rfl T.f_len PySem.boot_len (pa_cons (pe_ix ix_list (pv 0) pe_int (fun _ _ => rfl)) pa_nil)) (nomark _)))))
      (pss_cons (ps_set (i := 2) sc__law_draw.nd rfl (Or.inl rfl) (pe_ix ix_list (pe_ix ix_list (pv 0) pe_int (fun _ _ => rfl)) (pe_ix ix_list (pv 0) pe_int (fun _ _ => rfl)) (fun _ _ => rfl)))
      (pss_cons (ps_asg (pe_op op_add (pe_ix ix_list (pv 0) pe_int (fun _ _ => rfl)) pe_int) (pg_sub (pv 0) pe_int set_list))
      (pss_cons (ps_asg (pe_op op_mod (pe_callTy call_int1 rfl T.f_int (by decide +kernel) (pa_cons (pe_op op_add (pe_op op_add (pe_op op_mul (pe_ix ix_list (pv 0) pe_int (fun _ _ => rfl)) pe_int) (pv 2)) pe_int) pa_nil)) pe_int) (pg_sub (pv 0) pe_int set_list))
      (pss_one (ps_if (pt_cmpR op_ge (pv 2) (pe_op op_pow pe_int pe_int) (nomark _))
        (pss_one (ps_asg (pv 2) (pg_sub (pv 0) pe_int set_list)))
        pss_nil)))))
      pss_nil)
    (pss_cons (ps_if (pt_cmpR op_gt (pe_ix ix_list (pv 0) pe_int (fun _ _ => rfl)) pe_int (nomark _))
      (pss_cons (ps_set (i := 3) sc__law_draw.nd rfl (Or.inl rfl) (pe_op op_mod (pe_callTy call_int1 rfl T.f_int (by decide +kernel) (pa_cons (pe_ix ix_list (pv 0) pe_int (fun _ _ => rfl)) pa_nil)) (pv 1)))
      (pss_cons (ps_asg (pe_op op_fdiv (pe_ix ix_list (pv 0) pe_int (fun _ _ => rfl)) (pv 1)) (pg_sub (pv 0) pe_int set_list))
      (pss_one (ps_ret (pv 3)))))
      pss_nil)
    (pss_cons (ps_asg (pe_op op_add (pe_ix ix_list (pv 0) pe_int (fun _ _ => rfl)) pe_int) (pg_sub (pv 0) pe_int set_list))
    (pss_cons (ps_set (i := 4) sc__law_draw.nd rfl (Or.inl rfl) (pe_op op_mod (pe_callTy call_int1 rfl T.f_int (by decide +kernel) (pa_cons (pe_op op_mul (pe_callTy call_int1 rfl T.f_int (by decide +kernel) (pa_cons (pe_op op_add (pe_ix ix_list (pv 0) pe_int (fun _ _ => rfl)) (pe_op op_mul pe_int (pe_ix ix_list (pv 0) pe_int (fun _ _ => rfl)))) pa_nil)) pe_int) pa_nil)) pe_int))
    (pss_cons (ps_set (i := 4) sc__law_draw.nd rfl (Or.inl rfl) (pe_op op_mod (pe_callTy call_int1 rfl T.f_int (by decide +kernel) (pa_cons (pe_op op_mul (pv 4) (pe_op op_add (pe_op op_fdiv (pv 4) pe_int) pe_int)) pa_nil)) pe_int))
    (pss_cons (ps_set (i := 4) sc__law_draw.nd rfl (Or.inl rfl) (pe_op op_mod (pe_callTy call_int1 rfl T.f_int (by decide +kernel) (pa_cons (pe_op op_mul (pv 4) (pe_op op_add (pe_op op_fdiv (pv 4) pe_int) pe_int)) pa_nil)) pe_int))
    (pss_one (ps_ret (pe_op op_mod (pe_callTy call_int1 rfl T.f_int (by decide +kernel) (pa_cons (pe_op op_fdiv (pv 4) pe_int) pa_nil)) (pv 1)))))))))), ?_⟩
  have nca := HA.ne ha hc
  refine ⟨_, rfl, a, _, 2, _, rfl, rfl, SqL.of ha, rfl, rfl, _, rfl, ?_⟩
  rw [dec0]
  by_cases hr0 : r = 0
  case neg =>
    rw [decide_eq_false hr0]
    have o5 : But a H H := But.refl a H
    refine ⟨_, rfl, a, _, 2, _, rfl, rfl, SqL.of ha, rfl, _, _, rfl, rfl, _, rfl, ?_⟩
    by_cases hq : (0 : Int) < r
    · rw [decide_eq_true hq]
      refine ⟨_, rfl, a, _, 2, _, rfl, rfl, SqL.of ha, rfl, .inl ⟨_, rfl, _, rfl, _, _, rfl, rfl, by show 0 < m; omega, ?_⟩⟩
      refine ⟨_, rfl, a, _, 2, _, rfl, rfl, SqL.of ha, rfl, _, rfl, _, _, rfl, rfl, ⟨by omega, by omega⟩, _, rfl, a, _, 2, 2, rfl, rfl, ha, rfl, fw fun H6 o6 a6 => ?_⟩
      exact ⟨_, rfl, k _ H6 (fun b o q z => by rw [o6 b z]; exact o5 b o q z) ⟨cs, _, _, _, _, a6, (o6 c nca).trans hc, hi⟩ (Int.emod_nonneg _ (by omega)) (Int.emod_lt_of_pos _ (by omega))⟩
    · rw [decide_eq_false hq]
      refine ⟨_, rfl, a, _, 4, _, rfl, rfl, SqL.of ha, rfl, _, _, rfl, rfl, _, rfl, a, _, 4, 4, rfl, rfl, ha, rfl, fw fun H6 o6 a6 => ?_⟩
      refine ⟨_, rfl, a, _, 3, _, rfl, rfl, SqL.of a6, rfl, _, rfl, a, _, 4, _, rfl, rfl, SqL.of a6, rfl, _, _, rfl, rfl, .inl (by decide), _, _, rfl, rfl, .inl ⟨_, rfl, _, _, rfl, rfl, .inr (by decide), .inl ⟨_, rfl, _, _, rfl, rfl, (by show (0:Int) < _; decide), ?_⟩⟩⟩
      have hb : ∀ x : Int, 0 ≤ x % 2147483647 ∧ x % 2147483647 < 2147483647 := fun x => ⟨Int.emod_nonneg _ (by decide), Int.emod_lt_of_pos _ (by decide)⟩
      have hbc : ∀ x y : Int, CMul (x % 2147483647) y := fun x y => .inl (by have := hb x; omega)
      refine ⟨_, rfl, _, rfl, _, _, rfl, rfl, ⟨by decide, by decide⟩, _, _, rfl, rfl, _, _, rfl, rfl, hbc _ _, .inl ⟨_, rfl, _, _, rfl, rfl, (by show (0:Int) < _; decide), ?_⟩⟩
      refine ⟨_, rfl, _, rfl, _, _, rfl, rfl, ⟨by decide, by decide⟩, _, _, rfl, rfl, _, _, rfl, rfl, hbc _ _, .inl ⟨_, rfl, _, _, rfl, rfl, (by show (0:Int) < _; decide), ?_⟩⟩
      refine ⟨_, rfl, _, _, rfl, rfl, ⟨by decide, by decide⟩, .inl ⟨_, rfl, _, rfl, _, _, rfl, rfl, by show 0 < m; omega, ?_⟩⟩
      exact k _ H6 (fun b o q z => by rw [o6 b z]; exact o5 b o q z) ⟨cs, _, _, _, _, a6, (o6 c nca).trans hc, hi⟩ (Int.emod_nonneg _ (by omega)) (Int.emod_lt_of_pos _ (by omega))
  rw [decide_eq_true hr0]
  refine ⟨_, rfl, a, _, 1, _, rfl, rfl, SqL.of ha, rfl, _, rfl, a, _, 0, _, rfl, rfl, SqL.of ha, rfl, _, _, rfl, .inl (SqL.of hc), _, _, rfl, rfl, _, rfl, ?_⟩
  rw [List.length_map]
  by_cases hil : i < (cs.length : Int)
  case neg =>
    rw [decide_eq_false hil]
    have o5 : But a H H := But.refl a H
    refine ⟨_, rfl, a, _, 2, _, rfl, rfl, SqL.of ha, rfl, _, _, rfl, rfl, _, rfl, ?_⟩
    by_cases hq : (0 : Int) < r
    · rw [decide_eq_true hq]
      refine ⟨_, rfl, a, _, 2, _, rfl, rfl, SqL.of ha, rfl, .inl ⟨_, rfl, _, rfl, _, _, rfl, rfl, by show 0 < m; omega, ?_⟩⟩
      refine ⟨_, rfl, a, _, 2, _, rfl, rfl, SqL.of ha, rfl, _, rfl, _, _, rfl, rfl, ⟨by omega, by omega⟩, _, rfl, a, _, 2, 2, rfl, rfl, ha, rfl, fw fun H6 o6 a6 => ?_⟩
      exact ⟨_, rfl, k _ H6 (fun b o q z => by rw [o6 b z]; exact o5 b o q z) ⟨cs, _, _, _, _, a6, (o6 c nca).trans hc, hi⟩ (Int.emod_nonneg _ (by omega)) (Int.emod_lt_of_pos _ (by omega))⟩
    · rw [decide_eq_false hq]
      refine ⟨_, rfl, a, _, 4, _, rfl, rfl, SqL.of ha, rfl, _, _, rfl, rfl, _, rfl, a, _, 4, 4, rfl, rfl, ha, rfl, fw fun H6 o6 a6 => ?_⟩
      refine ⟨_, rfl, a, _, 3, _, rfl, rfl, SqL.of a6, rfl, _, rfl, a, _, 4, _, rfl, rfl, SqL.of a6, rfl, _, _, rfl, rfl, .inl (by decide), _, _, rfl, rfl, .inl ⟨_, rfl, _, _, rfl, rfl, .inr (by decide), .inl ⟨_, rfl, _, _, rfl, rfl, (by show (0:Int) < _; decide), ?_⟩⟩⟩
      have hb : ∀ x : Int, 0 ≤ x % 2147483647 ∧ x % 2147483647 < 2147483647 := fun x => ⟨Int.emod_nonneg _ (by decide), Int.emod_lt_of_pos _ (by decide)⟩
      have hbc : ∀ x y : Int, CMul (x % 2147483647) y := fun x y => .inl (by have := hb x; omega)
      refine ⟨_, rfl, _, rfl, _, _, rfl, rfl, ⟨by decide, by decide⟩, _, _, rfl, rfl, _, _, rfl, rfl, hbc _ _, .inl ⟨_, rfl, _, _, rfl, rfl, (by show (0:Int) < _; decide), ?_⟩⟩
      refine ⟨_, rfl, _, rfl, _, _, rfl, rfl, ⟨by decide, by decide⟩, _, _, rfl, rfl, _, _, rfl, rfl, hbc _ _, .inl ⟨_, rfl, _, _, rfl, rfl, (by show (0:Int) < _; decide), ?_⟩⟩
      refine ⟨_, rfl, _, _, rfl, rfl, ⟨by decide, by decide⟩, .inl ⟨_, rfl, _, rfl, _, _, rfl, rfl, by show 0 < m; omega, ?_⟩⟩
      exact k _ H6 (fun b o q z => by rw [o6 b z]; exact o5 b o q z) ⟨cs, _, _, _, _, a6, (o6 c nca).trans hc, hi⟩ (Int.emod_nonneg _ (by omega)) (Int.emod_lt_of_pos _ (by omega))
  rw [decide_eq_true hil]
  obtain ⟨cell, hcell⟩ : ∃ x, cs[i.toNat]? = some x := ⟨_, List.getElem?_eq_getElem (by omega)⟩
  refine ⟨_, rfl, a, _, 0, _, rfl, rfl, SqL.of ha, rfl, _, rfl, a, _, 1, _, rfl, rfl, SqL.of ha, rfl, c, _, i, .int cell, rfl, rfl, SqL.of hc, at_of (j := i.toNat) (by omega) (by rw [List.getElem?_map, hcell]; rfl), ?_⟩
  refine ⟨_, rfl, a, _, 1, _, rfl, rfl, SqL.of ha, rfl, _, _, rfl, rfl, _, rfl, a, _, 1, 1, rfl, rfl, ha, rfl, fw fun H1 o1 a1 => ?_⟩
  refine ⟨_, rfl, a, _, 3, _, rfl, rfl, SqL.of a1, rfl, _, _, rfl, rfl, .inr (by decide), _, rfl, _, _, rfl, rfl, _, _, rfl, rfl, .inl ⟨_, rfl, _, _, rfl, rfl, (by show (0:Int) < _; decide), _, rfl, a, _, 3, 3, rfl, rfl, a1, rfl, fw fun H2 o2 a2 => ?_⟩⟩
  have c1 : H1 c = _ := (o1 c nca).trans hc
  have c2 : H2 c = _ := (o2 c nca).trans c1
  have b2 : But a H H2 := fun b o q z => by rw [o2 b z, o1 b z]; exact q
  refine ⟨_, rfl, _, _, rfl, rfl, ⟨by decide, by decide, by decide⟩, _, _, rfl, rfl, _, rfl, ?_⟩
  have hi1 : 0 ≤ i + 1 := by omega
  by_cases hce : (10 : Int) ^ (18 : Int).toNat ≤ cell
  case neg =>
    rw [decide_eq_false hce]
    have o5 := b2
    refine ⟨_, rfl, a, _, 2, _, rfl, rfl, SqL.of a2, rfl, _, _, rfl, rfl, _, rfl, ?_⟩
    by_cases hq : (0 : Int) < r
    · rw [decide_eq_true hq]
      refine ⟨_, rfl, a, _, 2, _, rfl, rfl, SqL.of a2, rfl, .inl ⟨_, rfl, _, rfl, _, _, rfl, rfl, by show 0 < m; omega, ?_⟩⟩
      refine ⟨_, rfl, a, _, 2, _, rfl, rfl, SqL.of a2, rfl, _, rfl, _, _, rfl, rfl, ⟨by omega, by omega⟩, _, rfl, a, _, 2, 2, rfl, rfl, a2, rfl, fw fun H6 o6 a6 => ?_⟩
      exact ⟨_, rfl, k _ H6 (fun b o q z => by rw [o6 b z]; exact o5 b o q z) ⟨cs, _, _, _, _, a6, (o6 c nca).trans c2, hi1⟩ (Int.emod_nonneg _ (by omega)) (Int.emod_lt_of_pos _ (by omega))⟩
    · rw [decide_eq_false hq]
      refine ⟨_, rfl, a, _, 4, _, rfl, rfl, SqL.of a2, rfl, _, _, rfl, rfl, _, rfl, a, _, 4, 4, rfl, rfl, a2, rfl, fw fun H6 o6 a6 => ?_⟩
      refine ⟨_, rfl, a, _, 3, _, rfl, rfl, SqL.of a6, rfl, _, rfl, a, _, 4, _, rfl, rfl, SqL.of a6, rfl, _, _, rfl, rfl, .inl (by decide), _, _, rfl, rfl, .inl ⟨_, rfl, _, _, rfl, rfl, .inr (by decide), .inl ⟨_, rfl, _, _, rfl, rfl, (by show (0:Int) < _; decide), ?_⟩⟩⟩
      have hb : ∀ x : Int, 0 ≤ x % 2147483647 ∧ x % 2147483647 < 2147483647 := fun x => ⟨Int.emod_nonneg _ (by decide), Int.emod_lt_of_pos _ (by decide)⟩
      have hbc : ∀ x y : Int, CMul (x % 2147483647) y := fun x y => .inl (by have := hb x; omega)
      refine ⟨_, rfl, _, rfl, _, _, rfl, rfl, ⟨by decide, by decide⟩, _, _, rfl, rfl, _, _, rfl, rfl, hbc _ _, .inl ⟨_, rfl, _, _, rfl, rfl, (by show (0:Int) < _; decide), ?_⟩⟩
      refine ⟨_, rfl, _, rfl, _, _, rfl, rfl, ⟨by decide, by decide⟩, _, _, rfl, rfl, _, _, rfl, rfl, hbc _ _, .inl ⟨_, rfl, _, _, rfl, rfl, (by show (0:Int) < _; decide), ?_⟩⟩
      refine ⟨_, rfl, _, _, rfl, rfl, ⟨by decide, by decide⟩, .inl ⟨_, rfl, _, rfl, _, _, rfl, rfl, by show 0 < m; omega, ?_⟩⟩
      exact k _ H6 (fun b o q z => by rw [o6 b z]; exact o5 b o q z) ⟨cs, _, _, _, _, a6, (o6 c nca).trans c2, hi1⟩ (Int.emod_nonneg _ (by omega)) (Int.emod_lt_of_pos _ (by omega))
  rw [decide_eq_true hce]
  refine ⟨_, rfl, _, rfl, a, _, 2, 2, rfl, rfl, a2, rfl, fw fun H3 o3 a3 => ?_⟩
  have c3 : H3 c = _ := (o3 c nca).trans c2
  have o5 : But a H H3 := fun b o q z => by rw [o3 b z]; exact b2 b o q z
  refine ⟨_, rfl, a, _, 2, _, rfl, rfl, SqL.of a3, rfl, _, _, rfl, rfl, _, rfl, ?_⟩
  by_cases hq : (0 : Int) < cell
  · rw [decide_eq_true hq]
    refine ⟨_, rfl, a, _, 2, _, rfl, rfl, SqL.of a3, rfl, .inl ⟨_, rfl, _, rfl, _, _, rfl, rfl, by show 0 < m; omega, ?_⟩⟩
    refine ⟨_, rfl, a, _, 2, _, rfl, rfl, SqL.of a3, rfl, _, rfl, _, _, rfl, rfl, ⟨by omega, by omega⟩, _, rfl, a, _, 2, 2, rfl, rfl, a3, rfl, fw fun H6 o6 a6 => ?_⟩
    exact ⟨_, rfl, k _ H6 (fun b o q z => by rw [o6 b z]; exact o5 b o q z) ⟨cs, _, _, _, _, a6, (o6 c nca).trans c3, hi1⟩ (Int.emod_nonneg _ (by omega)) (Int.emod_lt_of_pos _ (by omega))⟩
  · rw [decide_eq_false hq]
    refine ⟨_, rfl, a, _, 4, _, rfl, rfl, SqL.of a3, rfl, _, _, rfl, rfl, _, rfl, a, _, 4, 4, rfl, rfl, a3, rfl, fw fun H6 o6 a6 => ?_⟩
    refine ⟨_, rfl, a, _, 3, _, rfl, rfl, SqL.of a6, rfl, _, rfl, a, _, 4, _, rfl, rfl, SqL.of a6, rfl, _, _, rfl, rfl, .inl (by decide), _, _, rfl, rfl, .inl ⟨_, rfl, _, _, rfl, rfl, .inr (by decide), .inl ⟨_, rfl, _, _, rfl, rfl, (by show (0:Int) < _; decide), ?_⟩⟩⟩
    have hb : ∀ x : Int, 0 ≤ x % 2147483647 ∧ x % 2147483647 < 2147483647 := fun x => ⟨Int.emod_nonneg _ (by decide), Int.emod_lt_of_pos _ (by decide)⟩
    have hbc : ∀ x y : Int, CMul (x % 2147483647) y := fun x y => .inl (by have := hb x; omega)
    refine ⟨_, rfl, _, rfl, _, _, rfl, rfl, ⟨by decide, by decide⟩, _, _, rfl, rfl, _, _, rfl, rfl, hbc _ _, .inl ⟨_, rfl, _, _, rfl, rfl, (by show (0:Int) < _; decide), ?_⟩⟩
    refine ⟨_, rfl, _, rfl, _, _, rfl, rfl, ⟨by decide, by decide⟩, _, _, rfl, rfl, _, _, rfl, rfl, hbc _ _, .inl ⟨_, rfl, _, _, rfl, rfl, (by show (0:Int) < _; decide), ?_⟩⟩
    refine ⟨_, rfl, _, _, rfl, rfl, ⟨by decide, by decide⟩, .inl ⟨_, rfl, _, rfl, _, _, rfl, rfl, by show 0 < m; omega, ?_⟩⟩
    exact k _ H6 (fun b o q z => by rw [o6 b z]; exact o5 b o q z) ⟨cs, _, _, _, _, a6, (o6 c nca).trans c3, hi1⟩ (Int.emod_nonneg _ (by omega)) (Int.emod_lt_of_pos _ (by omega))
end
end Fx

/-! the law draws rows -/
namespace Fx
open PySem PySem.Spec PyProof.Rows L2
theorem TvA.perm {α : Type} {f : α → T} {H : Hp} {xs ys : List V} (p : ys.Perm xs) : ∀ {ms : List α}, TvA H xs (ms.map f) → ∃ ms' : List α, ms'.Perm ms ∧ TvA H ys (ms'.map f) := by
  induction p with
  | nil => exact fun {ms} h => ⟨ms, .refl _, h⟩
  | @cons x l1 l2 p ih =>
    intro ms h
    cases ms with
    | nil => cases h
    | cons m ms =>
      rw [List.map_cons] at h
      cases h with
      | cons a b =>
        obtain ⟨ms', p', t'⟩ := ih b
        exact ⟨m :: ms', p'.cons m, .cons a t'⟩
  | swap x y l =>
    intro ms h
    match ms, h with
    | m1 :: m2 :: ms, .cons a (.cons b c) => exact ⟨m2 :: m1 :: ms, .swap _ _ _, .cons b (.cons a c)⟩
  | trans p1 p2 ih1 ih2 =>
    intro ms h
    obtain ⟨m2, q2, t2⟩ := ih2 h
    obtain ⟨m1, q1, t1⟩ := ih1 t2
    exact ⟨m1, q1.trans q2, t1⟩
theorem TvA.pw {α : Type} {f : α → T} {H : Hp} {R : V → V → Prop} {S : α → α → Prop} (hs : ∀ x y m n, Tv H x (f m) → Tv H y (f n) → R x y → S m n) : ∀ {xs : List V} {ms : List α}, TvA H xs (ms.map f) → xs.Pairwise R → ms.Pairwise S
  | _, [], _, _ => .nil
  | _ :: xs, m :: ms, .cons a b, h => by
    rw [List.pairwise_cons] at h
    refine .cons (fun n hn => ?_) (TvA.pw hs b h.2)
    obtain ⟨i, hi, rfl⟩ := List.getElem_of_mem hn
    obtain ⟨v, hv, tv⟩ := b.get (i := i) (t := f ms[i]) (by rw [List.getElem?_map, List.getElem?_eq_getElem hi]; rfl)
    exact hs _ _ _ _ a tv (h.1 v (List.mem_of_getElem? hv))
/-- small enough -/
def Bd8 (s : Stp) (n : Int) : Prop := s.1 ≤ 8 ∧ s.2.1 ≤ 8 ∧ s.2.2 ≤ 8 ∧ n ≤ 8
theorem mvC_inj {s : Stp} {n : Int} (b : Bd8 s n) {m m' : Mv} (h : MvOk s n m) (h' : MvOk s n m') (e : mvC m = mvC m') : m = m' := by
  obtain ⟨x, y, z, u⟩ := m
  obtain ⟨x', y', z', u'⟩ := m'
  rw [mvC_eq, mvC_eq] at e
  unfold MvOk at h h'
  unfold Bd8 at b
  simp only at e h h' b
  have e1 : x = x' := by omega
  have e2 : y = y' := by omega
  have e3 : z = z' := by omega
  have e4 : u = u' := by omega
  rw [e1, e2, e3, e4]
theorem sort_dom {H : Hp} {s : Stp} {n : Int} {ms : List Mv} {xs : List V} (b : Bd8 s n) (ok : ∀ m ∈ ms, MvOk s n m) (h : TvA H xs (ms.map mvT)) : ∀ x ∈ xs, ∃ t ns, x = .ref t ∧ H t = some (.tup (ns.map V.int)) ∧ ns.length = 4 ∧ TS.Bd 8 ns := fun x hx => by
  obtain ⟨t, ht, tx⟩ := h.mem hx
  obtain ⟨m, hm, rfl⟩ := List.mem_map.mp ht
  obtain ⟨c, rfl, hc⟩ := tx.mv
  refine ⟨c, mvL m, rfl, hc, rfl, fun z hz => ?_⟩
  have o := ok m hm
  unfold MvOk at o
  unfold Bd8 at b
  simp only [mvL, List.mem_cons, List.not_mem_nil, or_false] at hz
  rcases hz with rfl | rfl | rfl | rfl <;> omega
theorem sort_get {H : Hp} {s : Stp} {n : Int} {ms : List Mv} {xs ys : List V} (b : Bd8 s n) (ok : ∀ m ∈ ms, MvOk s n m) (nd : ms.Nodup) (h : TvA H xs (ms.map mvT)) (hp : ys.Perm xs)
    (hs : ys.Pairwise (fun x y => ∀ t u n m, x = .ref t → H t = some (.tup (n.map V.int)) → y = .ref u → H u = some (.tup (m.map V.int)) → TS.code 8 n ≤ TS.code 8 m)) :
    ∃ ms' : List Mv, ms'.Perm ms ∧ TvA H ys (ms'.map mvT) ∧ ms'.Pairwise fun m m' => mvC m < mvC m' := by
  obtain ⟨ms', p', t'⟩ := TvA.perm hp h
  refine ⟨ms', p', t', ?_⟩
  have h1 : ms'.Pairwise fun m m' => mvC m ≤ mvC m' := TvA.pw (fun x y m n' tx ty r => by
    obtain ⟨c, rfl, hc⟩ := tx.mv
    obtain ⟨d, rfl, hd⟩ := ty.mv
    exact r c d (mvL m) (mvL n') rfl hc rfl hd) t' hs
  have h2 : ms'.Nodup := p'.nodup_iff.mpr nd
  refine (h1.and (List.nodup_iff_pairwise_ne.mp h2)).imp_of_mem fun {x y} hx hy ⟨z1, z2⟩ => ?_
  have : mvC x ≠ mvC y := fun e => z2 (mvC_inj b (ok x (p'.mem_iff.mp hx)) (ok y (p'.mem_iff.mp hy)) e)
  omega
theorem any_eq {α : Type} {f : α → T} (hi : ∀ a, (f a).ints = true) (inj : ∀ a b, f a = f b → a = b) (ms : List α) (m : α) [Decidable (m ∈ ms)] : ((T.pys (ms.map f)).any fun z => PyData.eqv z (f m).py) = decide (m ∈ ms) := by
  rw [pys_map, List.map_map, List.any_map, Bool.eq_iff_iff, decide_eq_true_eq, List.any_eq_true]
  constructor
  · rintro ⟨x, hx, e⟩
    have := inj _ _ ((eqv_py (f x) (f m) (hi _) (hi _)).mp e)
    rw [← this]; exact hx
  · exact fun h => ⟨m, h, (eqv_py (f m) (f m) (hi _) (hi _)).mpr rfl⟩
theorem any_mv (ms : List Mv) (m : Mv) : ((T.pys (ms.map mvT)).any fun z => PyData.eqv z (mvT m).py) = decide (m ∈ ms) := any_eq mvT_ints (fun _ _ => mvT_inj) ms m
theorem shp_mv (ms : List Mv) : SeqAt.shaped (.list (T.pys (ms.map mvT))) = true := shpL fun x hx => by
  obtain ⟨m, _, rfl⟩ := List.mem_map.mp hx
  simp
/-! ### comprehensions that draw -/
section
variable {K : PySem.W.Frag} {g : TG} {tt : TT} {te : TE} {vs : List Nat} {σ : L2.St} {H1 : Hp} {D a c : Addr} {Qd : Hp → Prop}
def Turn2 (a c : Addr) (g : TG) (tt : TT) (te : TE) (vs : List Nat) (σ : L2.St) (J : Nat → List T → Prop) (i : Nat) (x : V) (H : Hp) (ts : List T) : Prop :=
  ∀ (R : V → Hp → Prop) (R' : Hp → Prop), (∀ y t H4, But a H H4 → HA H4 a c → Tv H4 y t → J (i + 1) (ts ++ [t]) → R y H4) → (∀ H4, But a H H4 → HA H4 a c → J (i + 1) ts → R' H4) →
    g x (wipe σ vs) H fun σ2 H2 => wipe σ2 vs = wipe σ vs ∧ tt σ2 H2 fun b H3 => if b = true then te σ2 H3 R else R' H3
def Pv2 (H1 : Hp) (a c D : Addr) (J : Nat → List T → Prop) (i : Nat) (H : Hp) : Prop := ∃ ts, But a H1 H ∧ HA H a c ∧ LT H D ts ∧ ts.length ≤ i ∧ J i ts
theorem lcRB {lo : Int} {n : Nat} (J : Nat → List T → Prop) (n1 : H1 D = none) (ha : HA H1 a c) (hz : n ≤ 100000) (j0 : J 0 [])
    (hs : ∀ i H ts, i < n → But a H1 H → HA H a c → ts.length ≤ i → J i ts → Turn2 a c g tt te vs σ J i (.int (lo + i)) H ts) (hd : ∀ H ts, But a H1 H → HA H a c → LT H D ts → ts.length ≤ n → J n ts → Qd H) :
    ∃ W : Nat → Nat → Hp → Prop, (∃ m, W 0 m (upd H1 D (.lst []))) ∧ ∀ i m H, W i m H →
      ((Itr lo n).stop i H ∧ Qd H) ∨ ((Itr lo n).go i H ∧ ∃ Nx : Hp → Prop, (∀ H', Nx H' → ∃ m', m' < m ∧ W (i + 1) m' H') ∧ ∀ x H', (Itr lo n).yld i H x H' → g x (wipe σ vs) H' fun σ2 H2 => wipe σ2 vs = wipe σ vs ∧ tt σ2 H2 fun b H3 =>
        if b = true then te σ2 H3 fun y H4 => ∃ acc, H4 D = some (.lst acc) ∧ acc.length < sizeLine ∧ Nx (upd H4 D (.lst (acc ++ [y]))) else Nx H3) := by
  have nDa := ha.live n1
  have nDc := ha.live2 n1
  have live : ∀ {H}, But a H1 H → ∀ b o, H1 b = some o → b ≠ a → upd H D (.lst []) b = some o := fun z b o q n => by rw [upd_ne (ne_of_none q n1)]; exact z b o q n
  refine lc_range (Pv2 H1 a c D J) ⟨[], live (But.refl a H1), ha.off off_upd nDa nDc, ⟨[], upd_same, .nil⟩, Nat.le_refl _, j0⟩ (fun i H hi h => ?_)
    fun H ⟨ts, s1, h1, l, hl, hj⟩ => hd H ts s1 h1 l hl hj
  obtain ⟨ts, s1, h1, ⟨acc, hD, hT⟩, hl, hj⟩ := h
  refine hs i H ts hi s1 h1 hl hj _ _ (fun y t H4 s4 h4 ty j1 => ?_) (fun H4 s4 h4 j1 => ?_)
  · have e := hT.length
    have hD4 := s4 _ _ hD nDa
    have k4 : KT H4 (upd H4 D (.lst (acc ++ [y]))) := kt_upd hD4 (fun xs z => nomatch z)
    exact ⟨acc, hD4, Nat.lt_trans (show acc.length < 100000 by omega) (by decide), ts ++ [t], fun b o q n => by rw [upd_ne (ne_of_none q n1)]; exact (s1.trans s4) b o q n, h4.off off_upd nDa nDc,
      ⟨acc ++ [y], upd_same, (hT.kt ((s4.kt h1).trans k4)).snoc (ty.kt k4)⟩, by rw [List.length_append, List.length_singleton]; omega, j1⟩
  · exact ⟨ts, s1.trans s4, h4, ⟨acc, s4 _ _ hD nDa, hT.kt (s4.kt h1)⟩, by omega, j1⟩
end
section
variable {P : Program} {w : World} {K : PySem.W.Frag} {mg : Str → Option Value} {base : Heap}
def SzOk (s : Stp) : Prop := (1 ≤ s.1 ∧ s.1 ≤ 3) ∧ (1 ≤ s.2.1 ∧ s.2.1 ≤ 3) ∧ (1 ≤ s.2.2 ∧ s.2.2 ≤ 3)
def sp__law_row (K : PySem.W.Frag) : Sp := fun vs H Q _ => ∃ (a c : Addr) (v : V) (s : Stp) (m g : Int), vs = [.ref a, v, .int m, .int g] ∧ HA H a c ∧ Tv H v (stT s) ∧ SzOk s ∧ (0 ≤ m ∧ m ≤ 6) ∧ (1 ≤ g ∧ g ≤ 5) ∧
  ∀ q H' ms, But a H H' → HA H' a c → Tv H' (.ref q) (rowT ms) → ms.Nodup → (∀ x ∈ ms, MvOk s g x) → (ms.length : Int) ≤ m → Q (.ref q) H'
theorem sc__law_row : FnScope ["_law_hand_here", "_law_sizes", "_law_many", "_law_goals", "_law_row_here", "_law_turn", "_law_move"] ["_law_hand_here", "_law_sizes", "_law_many", "_law_goals"] (defScope s__law_row) := ⟨rfl, rfl, rfl, by decide +kernel, rfl, by decide +kernel, by decide +kernel⟩
theorem c__law_row (T : Tx K mg) : Cal P w K mg base 2 "_law_row" (sp__law_row K) := by
  refine cal_mk T._law_row (fun _ _ _ _ _ _ us hl => match us, hl with | [_, _, _, _], _ => rfl) sc__law_row (fun vs H Q E h => by (obtain ⟨a, c, v, s, m, g, rfl, ha, hv, hs, hm, hg, k⟩ := h; rfl)) (fun f cdv A outer s H vs Q E hr h => ?_)
  obtain ⟨a, c, v, s, m, g, rfl, ha, hv, hs, hm, hg, k⟩ := h
  refine ⟨_, (pss_cons (ps_set (i := 4) sc__law_row.nd rfl (Or.inl rfl) (pe_lstS pa_nil))
    (pss_cons (ps_for PassesOwn.never rfl (pi_range1 rfl T.f_range (pa_cons (pv 2) pa_nil)) (pg_name (i := 5) sc__law_row.nd rfl (Or.inl rfl))
      (pss_cons (ps_set (i := 6) sc__law_row.nd rfl (Or.inl rfl) (pe_tupS (pa_cons (pe_c (c__law_draw T) hr (by decide) rfl (pa_cons (pv 0) (pa_cons (pe_ix ix_tup (pv 1) pe_int (fun _ _ => rfl)) pa_nil))) (pa_cons (pe_c (c__law_draw T) hr (by decide) rfl (pa_cons (pv 0) (pa_cons (pe_ix ix_tup (pv 1) pe_int (fun _ _ => rfl)) pa_nil))) (pa_cons (pe_c (c__law_draw T) hr (by decide) rfl (pa_cons (pv 0) (pa_cons (pe_ix ix_tup (pv 1) pe_int (fun _ _ => rfl)) pa_nil))) (pa_cons (pe_c (c__law_draw T) hr (by decide) rfl (pa_cons (pv 0) (pa_cons (pv 3) pa_nil))) pa_nil))))))
      (pss_one (ps_if (pt_cmpR (op_notInD hr.u65) (pv 6) (pv 4) rfl)
        (pss_one (ps_expr (pe_bm PySem.F.plainAttrs_list PySem.F.slot_list_append PySem.F.type_list_append mt_appendS (pv 4) (pa_cons (pv 6) pa_nil))))
        pss_nil))))
    (pss_one (ps_ret (pe_callTy (call_tuple_ofS (K := K)) rfl T.f_tuple (by decide +kernel) (pa_cons (pe_callB cr_sortTS rfl T.f_sorted (by decide +kernel) (pa_cons (pv 4) pa_nil)) pa_nil)))))), ?_⟩
  obtain ⟨z, rfl, hz⟩ := hv.stp
  have zna : z ≠ a := let ⟨_, _, _, _, _, h, _⟩ := ha; ne_of hz h fun z => nomatch z
  obtain ⟨z1, z2, z3⟩ := id hs
  have bd : Bd8 s g := ⟨by omega, by omega, by omega, by omega⟩
  refine ⟨by exact Nat.zero_le _, fun L H1 s1 hL nL => ?_⟩
  have nLa := ha.live nL
  have nLc := ha.live2 nL
  have h1 := ha.same s1
  refine ⟨_, rfl, m, rfl, by omega, by omega, for_range (lo := 0) (n := m.toNat) (fun i σ H' => ∃ (w5 w6 : Option V) (ms : List Mv), σ = [some (.ref a), some (.ref z), some (.int m), some (.int g), some (.ref L), w5, w6] ∧ But a H H' ∧ HA H' a c ∧ LT H' L (ms.map mvT) ∧ ms.Nodup ∧ (∀ x ∈ ms, MvOk s g x) ∧ ms.length ≤ i)
    ⟨none, none, [], rfl, s1.but a, h1, ⟨[], hL, .nil⟩, List.nodup_nil, (fun _ z => nomatch z), Nat.le_refl _⟩ ?_ ?_⟩
  · rintro i σ H2 hi ⟨w5, w6, ms, rfl, b2, h2, l2, nd, ok, hl⟩
    refine ⟨_, rfl, _, rfl, z, _, 0, _, rfl, rfl, SqT.of (b2 _ _ hz zna), rfl, a, c, _, rfl, h2, ⟨by omega, by omega⟩, fun k1 H3 b3 h3 l3 u3 => ?_⟩
    have b23 := b2.trans b3
    refine ⟨_, rfl, _, rfl, z, _, 1, _, rfl, rfl, SqT.of (b23 _ _ hz zna), rfl, a, c, _, rfl, h3, ⟨by omega, by omega⟩, fun k2 H4 b4 h4 l4 u4 => ?_⟩
    have b24 := b23.trans b4
    refine ⟨_, rfl, _, rfl, z, _, 2, _, rfl, rfl, SqT.of (b24 _ _ hz zna), rfl, a, c, _, rfl, h4, ⟨by omega, by omega⟩, fun k3 H5 b5 h5 l5 u5 => ?_⟩
    have b25 := b24.trans b5
    refine ⟨_, rfl, _, rfl, a, c, _, rfl, h5, ⟨by omega, by omega⟩, fun k4 H6 b6 h6 l6 u6 => ?_⟩
    have b26 := b25.trans b6
    refine ⟨by show 4 ≤ _; decide, fun q H7 s7 hq nq => ?_⟩
    have tq : Tv H7 (.ref q) (mvT (k1, k2, k3, k4)) := .t hq (.cons (.i _) (.cons (.i _) (.cons (.i _) (.cons (.i _) .nil))))
    have b27 := b26.trans (s7.but a)
    have h7 := h6.same s7
    have bb : But a H2 H7 := b3.trans (b4.trans (b5.trans (b6.trans (s7.but a))))
    have l7 : LT H7 L (ms.map mvT) := l2.kp (bb.kt h2) fun o e => bb _ _ e nLa
    have okq : MvOk s g (k1, k2, k3, k4) := ⟨⟨l3, u3⟩, ⟨l4, u4⟩, ⟨l5, u5⟩, ⟨l6, u6⟩⟩
    refine ⟨_, rfl, _, rfl, _, _, tq.dp, l7.dp, shp (by simp), shp_mv ms, _, rfl, ?_⟩
    rw [any_mv]
    by_cases hin : (k1, k2, k3, k4) ∈ ms
    · rw [decide_eq_true hin]
      exact ⟨_, _, ms, rfl, b27, h7, l7, nd, ok, by omega⟩
    · rw [decide_eq_false hin]
      obtain ⟨acc, hacc, tacc⟩ := l7
      have ha' := tacc.length
      rw [List.length_map] at ha'
      refine ⟨_, rfl, .inl ⟨rfl, _, SqL.of hacc⟩, _, rfl, L, acc, _, rfl, rfl, hacc, by omega, fun H8 o8 h8 => ?_⟩
      have k8 : KT H7 H8 := o8.kt hacc fun _ z => nomatch z
      refine ⟨_, _, ms ++ [(k1, k2, k3, k4)], rfl, fun b o q z => by rw [o8 b (ne_of_none q nL)]; exact b27 b o q z, h7.off o8 nLa nLc, ⟨_, h8, by rw [List.map_append]; exact (tacc.kt k8).snoc (tq.kt k8)⟩, ?_, fun x hx => ?_, by rw [List.length_append, List.length_singleton]; omega⟩
      · rw [List.nodup_append]
        exact ⟨nd, by simp, fun x hx y hy e => hin (by rw [List.mem_singleton.mp hy] at e; rw [← e]; exact hx)⟩
      · rcases List.mem_append.mp hx with q | q
        · exact ok x q
        · rw [List.mem_singleton.mp q]; exact okq
  · rintro σ H2 ⟨w5, w6, ms, rfl, b2, h2, ⟨acc, hacc, tacc⟩, nd, ok, hl⟩
    have ha' := tacc.length
    rw [List.length_map] at ha'
    refine ⟨_, rfl, L, acc, rfl, hacc, by omega, sort_dom bd ok tacc, fun ys hp hs' q H3 s3 hq nq => ?_⟩
    obtain ⟨ms', p', t', asc⟩ := sort_get bd ok nd tacc hp hs'
    refine ⟨q, ys, rfl, hq, fun r H4 s4 hr nr => ?_⟩
    exact k r H4 ms' (b2.trans ((s3.trans s4).but a)) (h2.same (s3.trans s4)) (.t hr (t'.kt (s3.trans s4).kt)) (p'.nodup_iff.mpr nd) (fun x hx => ok x (p'.mem_iff.mp hx)) (by rw [p'.length_eq]; omega)
end
end Fx

/-! the law draws parts -/
namespace Fx
open PySem PySem.Spec PyProof.Rows L2
theorem len3 {ts : List T} {G : Int → Prop} (h : ts.length = 3) (h2 : ∀ t ∈ ts, ∃ k, t = T.i k ∧ G k) : ∃ x y z, ts = [T.i x, T.i y, T.i z] ∧ G x ∧ G y ∧ G z := by
  match ts, h with
  | [a, b, c], _ =>
    obtain ⟨x, rfl, hx⟩ := h2 a (by simp)
    obtain ⟨y, rfl, hy⟩ := h2 b (by simp)
    obtain ⟨z, rfl, hz⟩ := h2 c (by simp)
    exact ⟨x, y, z, rfl, hx, hy, hz⟩
section
variable {P : Program} {w : World} {K : PySem.W.Frag} {mg : Str → Option Value} {base : Heap}
def sp__law_parts (K : PySem.W.Frag) : Sp := fun vs H Q _ => ∃ (a c : Addr), vs = [.ref a, .int 5, .int 3, .int 6] ∧ HA H a c ∧ ∀ v H' p, But a H H' → HA H' a c → Tv H' v (partsT p) → POk p → Q v H'
theorem sc__law_parts : FnScope ["_law_hand_here", "_law_most", "_law_size", "_law_moves", "_law_sizes", "_law_many", "_law_served", "_law_rows", "_law_closings", "_law_standing", "_law_row_here", "_law_slip", "_law_turn", "_law_mark", "_law_move"] ["_law_hand_here", "_law_most", "_law_size", "_law_moves"] (defScope s__law_parts) := ⟨rfl, rfl, rfl, by decide +kernel, rfl, by decide +kernel, by decide +kernel⟩
theorem c__law_parts (T : Tx K mg) : Cal P w K mg base 3 "_law_parts" (sp__law_parts K) := by
  refine cal_mk T._law_parts (fun _ _ _ _ _ _ us hl => match us, hl with | [_, _, _, _], _ => rfl) sc__law_parts (fun vs H Q E h => by (obtain ⟨a, c, rfl, ha, k⟩ := h; rfl)) (fun f cdv A outer s H vs Q E hr h => ?_)
  obtain ⟨a, c, rfl, ha, k⟩ := h
  refine ⟨_, (pss_cons (ps_set (i := 4) sc__law_parts.nd rfl (Or.inl rfl) (pe_callTy (call_tuple_ofS (K := K)) rfl T.f_tuple (by decide +kernel) (pa_cons (pe_lc (own := [("_law_turn", 12)]) rfl sc__law_parts.nd (pi_range1 rfl T.f_range (pa_cons pe_int pa_nil)) (blkOk_by (own := [("_law_turn", 12)]) (N := ["_law_hand_here", "_law_most", "_law_size", "_law_moves", "_law_sizes", "_law_many", "_law_served", "_law_rows", "_law_closings", "_law_standing", "_law_row_here", "_law_slip", "_law_turn", "_law_mark", "_law_move"]) (sc := defScope s__law_parts) (by decide +kernel)) (fun _ _ _ _ _ => (pg_name (i := 12) sc__law_parts.nd rfl (Or.inl rfl))) (fun _ _ _ _ _ => pts_nil) (fun _ _ _ _ _ => (pe_op op_add pe_int (pe_c (c__law_draw T) hr (by decide) rfl (pa_cons (pv 0) (pa_cons (pv 2) pa_nil)))))) pa_nil)))
    (pss_cons (ps_set (i := 5) sc__law_parts.nd rfl (Or.inl rfl) (pe_op op_add pe_int (pe_c (c__law_draw T) hr (by decide) rfl (pa_cons (pv 0) (pa_cons (pv 1) pa_nil)))))
    (pss_cons (ps_set (i := 6) sc__law_parts.nd rfl (Or.inl rfl) (pe_cmpR op_gt (pe_c (c__law_draw T) hr (by decide) rfl (pa_cons (pv 0) (pa_cons pe_int pa_nil))) pe_int (nomark _)))
    (pss_cons (ps_set (i := 7) sc__law_parts.nd rfl (Or.inl rfl) (pe_lstS pa_nil))
    (pss_cons (ps_set (i := 8) sc__law_parts.nd rfl (Or.inl rfl) (pe_lstS pa_nil))
    (pss_cons (ps_for PassesOwn.never rfl (pi_range1 rfl T.f_range (pa_cons (pv 5) pa_nil)) (pg_name (i := 9) sc__law_parts.nd rfl (Or.inl rfl))
      (pss_cons (ps_set (i := 10) sc__law_parts.nd rfl (Or.inl rfl) (pe_callTy call_list_ofS rfl T.f_list (by decide +kernel) (pa_cons (pe_c (c__law_row T) hr (by decide) rfl (pa_cons (pv 0) (pa_cons (pv 4) (pa_cons (pe_c (c__law_draw T) hr (by decide) rfl (pa_cons (pv 0) (pa_cons (pe_op op_add (pv 3) pe_int) pa_nil))) (pa_cons (pv 5) pa_nil))))) pa_nil)))
      (pss_cons (ps_for PassesOwn.never rfl (pi_range1 rfl T.f_range (pa_cons (pe_ix ix_tup (pv 4) pe_int (fun _ _ => rfl)) pa_nil)) (pg_name (i := 11) sc__law_parts.nd rfl (Or.inr rfl))
        (pss_one (ps_if (PW.pt (pw_and (pt_val (pv 6)) (pw_and1 (pt_cmpR op_eq (pe_callB call_len_seq rfl T.f_len PySem.boot_len (pa_cons (pe_lc (own := [("_law_move", 14)]) rfl sc__law_parts.nd (pi_list (pv 10)) (blkOk_by (own := [("_law_move", 14)]) (N := ["_law_hand_here", "_law_most", "_law_size", "_law_moves", "_law_sizes", "_law_many", "_law_served", "_law_rows", "_law_closings", "_law_standing", "_law_row_here", "_law_slip", "_law_turn", "_law_mark", "_law_move"]) (sc := defScope s__law_parts) (by decide +kernel)) (fun _ _ _ _ _ => (pg_name (i := 14) sc__law_parts.nd rfl (Or.inl rfl))) (fun _ _ _ _ _ => pts_one (pt_cmpR op_eq (pe_ix (ix_tupK (K := K)) (pv 14) pe_int (fun _ _ => rfl)) (pv 11) (nomark _))) (fun _ _ _ _ _ => (pv 14))) pa_nil)) pe_int (nomark _)))))
          (pss_one (ps_expr (pe_bm PySem.F.plainAttrs_list PySem.F.slot_list_append PySem.F.type_list_append mt_appendS (pv 10) (pa_cons (pe_tupS (pa_cons (pv 11) (pa_cons (pe_c (c__law_draw T) hr (by decide) rfl (pa_cons (pv 0) (pa_cons (pe_ix ix_tup (pv 4) pe_int (fun _ _ => rfl)) pa_nil))) (pa_cons (pe_c (c__law_draw T) hr (by decide) rfl (pa_cons (pv 0) (pa_cons (pe_ix ix_tup (pv 4) pe_int (fun _ _ => rfl)) pa_nil))) (pa_cons (pe_c (c__law_draw T) hr (by decide) rfl (pa_cons (pv 0) (pa_cons (pv 5) pa_nil))) pa_nil))))) pa_nil))))
          pss_nil)))
      (pss_cons (ps_expr (pe_bm PySem.F.plainAttrs_list PySem.F.slot_list_append PySem.F.type_list_append mt_appendS (pv 7) (pa_cons (pe_callTy (call_tuple_ofS (K := K)) rfl T.f_tuple (by decide +kernel) (pa_cons (pe_callB cr_sortTS rfl T.f_sorted (by decide +kernel) (pa_cons (pv 10) pa_nil)) pa_nil)) pa_nil)))
      (pss_one (ps_expr (pe_bm PySem.F.plainAttrs_list PySem.F.slot_list_append PySem.F.type_list_append mt_appendS (pv 8) (pa_cons (pe_callTy (call_tuple_ofS (K := K)) rfl T.f_tuple (by decide +kernel) (pa_cons (pe_lc (own := [("_law_mark", 13)]) rfl sc__law_parts.nd (pi_range1 rfl T.f_range (pa_cons (pe_ix ix_tup (pv 4) pe_int (fun _ _ => rfl)) pa_nil)) (blkOk_by (own := [("_law_mark", 13)]) (N := ["_law_hand_here", "_law_most", "_law_size", "_law_moves", "_law_sizes", "_law_many", "_law_served", "_law_rows", "_law_closings", "_law_standing", "_law_row_here", "_law_slip", "_law_turn", "_law_mark", "_law_move"]) (sc := defScope s__law_parts) (by decide +kernel)) (fun _ _ _ _ _ => (pg_name (i := 13) sc__law_parts.nd rfl (Or.inl rfl))) (fun _ _ _ _ _ => pts_one (pt_cmpR op_gt (pe_c (c__law_draw T) hr (by decide) rfl (pa_cons (pv 0) (pa_cons pe_int pa_nil))) pe_int (nomark _))) (fun _ _ _ _ _ => (pv 13))) pa_nil)) pa_nil))))))))
    (pss_one (ps_ret (pe_tupS (pa_cons (pv 4) (pa_cons (pe_callTy (call_tuple_ofS (K := K)) rfl T.f_tuple (by decide +kernel) (pa_cons (pv 7) pa_nil)) (pa_cons (pe_callTy (call_tuple_ofS (K := K)) rfl T.f_tuple (by decide +kernel) (pa_cons (pv 8) pa_nil)) pa_nil)))))))))))), ?_⟩
  refine ⟨3, rfl, by decide, by decide, fun D hD => ?_⟩
  refine lcRB (lo := 0) (n := 3) (fun i ts => ts.length = i ∧ ∀ t ∈ ts, ∃ k, t = Fx.T.i k ∧ 1 ≤ k ∧ k ≤ 3) hD ha (by decide) ⟨rfl, fun _ z => nomatch z⟩ (fun i H1 ts hi b1 h1 hl ⟨j1, j2⟩ R R' c1 c2 => ?_) (fun H1 ts b1 h1 lD hl ⟨j1, j2⟩ => ?_)
  · refine ⟨rfl, _, rfl, _, rfl, a, c, 3, rfl, h1, ⟨by decide, by decide⟩, fun k1 H2 b2 h2 lo2 hi2 => ?_⟩
    refine ⟨_, _, rfl, rfl, c1 _ _ _ b2 h2 (.i _) ⟨by rw [List.length_append, List.length_singleton, j1], fun t ht => ?_⟩⟩
    rcases List.mem_append.mp ht with q | q
    · exact j2 t q
    · exact ⟨_, List.mem_singleton.mp q, by omega, by omega⟩
  obtain ⟨s1, s2, s3, rfl, g1, g2, g3⟩ := len3 j1 j2
  obtain ⟨xs, hxs, tD⟩ := lD
  refine ⟨D, xs, rfl, hxs, fun z H2 e2 hz nz => ?_⟩
  have tz : Tv H2 (.ref z) (stT (s1, s2, s3)) := .t hz (tD.kt e2.kt)
  obtain ⟨_, ez, hz⟩ := tz.stp
  obtain rfl := V.ref.inj ez
  have so : SzOk (s1, s2, s3) := ⟨g1, g2, g3⟩
  have b2 : But a H H2 := b1.trans (e2.but a)
  have h2 := h1.same e2
  have zna : z ≠ a := let ⟨_, _, _, _, _, h, _⟩ := h2; ne_of hz h fun z => nomatch z
  refine ⟨_, rfl, _, rfl, a, c, 5, rfl, h2, ⟨by decide, by decide⟩, fun k0 H3 b3 h3 lo3 hi3 => ?_⟩
  refine ⟨_, _, rfl, rfl, ?_⟩
  refine ⟨_, rfl, a, c, 3, rfl, h3, ⟨by decide, by decide⟩, fun k1 H4 b4 h4 lo4 hi4 => ?_⟩
  refine ⟨_, _, rfl, rfl, ?_⟩
  obtain ⟨n, hn⟩ : ∃ n, n = 1 + k0 := ⟨_, rfl⟩
  have hn1 : 1 ≤ n ∧ n ≤ 5 := by omega
  obtain ⟨srv, hsrv⟩ : ∃ srv, srv = decide (0 < k1) := ⟨_, rfl⟩
  have bd : Bd8 (s1, s2, s3) n := ⟨by simp only; omega, by simp only; omega, by simp only; omega, by omega⟩
  refine ⟨by exact Nat.zero_le _, fun R H5 e5 hR nR => ?_⟩
  refine ⟨by exact Nat.zero_le _, fun C H6 e6 hC nC => ?_⟩
  have h5 := h4.same e5
  have h6 := h5.same e6
  have nRa := h4.live nR
  have nRc := h4.live2 nR
  have nCa := h5.live nC
  have nCc := h5.live2 nC
  have nRC : R ≠ C := ne_of_none hR nC
  have b24 := b3.trans b4
  have b26 : But a H2 H6 := b24.trans ((e5.trans e6).but a)
  have hz6 := b26 _ _ hz zna
  have b06 : But a H H6 := b2.trans b26
  have nR2 : ∀ b o, H b = some o → b ≠ a → b ≠ R := fun b o q z => ne_of_none (b24 _ _ (b2 b o q z) z) nR
  have nC2 : ∀ b o, H b = some o → b ≠ a → b ≠ C := fun b o q z => ne_of_none (e5 _ _ (b24 _ _ (b2 b o q z) z)) nC
  have zR : z ≠ R := ne_of_none (b24 _ _ hz zna) nR
  have zC : z ≠ C := ne_of_none (e5 _ _ (b24 _ _ hz zna)) nC
  refine ⟨_, rfl, n, by rw [hn], by omega, by omega, for_range (lo := 0) (n := n.toNat) (fun i σ H' => ∃ (w9 w10 w11 w12 w13 w14 : Option V) (rows : List (List Mv)) (clo : List (List Int)),
      σ = [some (.ref a), some (.int 5), some (.int 3), some (.int 6), some (.ref z), some (.int n), some (.bl srv), some (.ref R), some (.ref C), w9, w10, w11, w12, w13, w14] ∧ But a H H' ∧ HA H' a c ∧ H' z = some (.tup [.int s1, .int s2, .int s3]) ∧
      LT H' R (rows.map rowT) ∧ LT H' C (clo.map isT) ∧ rows.length = i ∧ clo.length = i ∧ (∀ r ∈ rows, RowOk (s1, s2, s3) n r) ∧ (∀ r ∈ clo, CloOk (s1, s2, s3) r))
    ⟨none, none, none, none, none, none, [], [], by rw [hn, hsrv]; rfl, b06, h6, hz6, ⟨[], e6 _ _ hR, .nil⟩, ⟨[], hC, .nil⟩, rfl, rfl, (fun _ z => nomatch z), (fun _ z => nomatch z)⟩ ?_ ?_⟩
  · rintro i σ H7 hi ⟨w9, w10, w11, w12, w13, w14, rows, clo, rfl, b7, h7, hz7, lR7, lC7, er, ec, okr, okc⟩
    obtain ⟨aR, hR7, tR7⟩ := lR7
    obtain ⟨aC, hC7, tC7⟩ := lC7
    refine ⟨_, rfl, _, rfl, _, rfl, _, rfl, _, _, rfl, rfl, a, c, _, rfl, h7, ⟨by decide, by decide⟩, fun k2 H8 b8 h8 lo8 hi8 => ?_⟩
    have tz8 : Tv H8 (.ref z) (stT (s1, s2, s3)) := .t (b8 _ _ hz7 zna) (.cons (.i _) (.cons (.i _) (.cons (.i _) .nil)))
    refine ⟨_, rfl, a, c, _, (s1, s2, s3), k2, n, rfl, h8, tz8, so, ⟨by omega, by omega⟩, hn1, fun q H9 ms b9 h9 tq nd ok hml => ?_⟩
    obtain ⟨_, ys, eq, hq, ty⟩ := tq.tup
    obtain rfl := V.ref.inj eq
    refine ⟨q, ys, rfl, hq, fun L H10 e10 hL nL => ?_⟩
    have h10 := h9.same e10
    have b710 : But a H7 H10 := b8.trans (b9.trans (e10.but a))
    have b79 : But a H7 H9 := b8.trans b9
    have nLa := h9.live nL
    have nLc := h9.live2 nL
    have hz10 := b710 _ _ hz7 zna
    have LR : L ≠ R := (ne_of_none (b79 _ _ hR7 nRa) nL).symm
    have LC : L ≠ C := (ne_of_none (b79 _ _ hC7 nCa) nL).symm
    have zL : z ≠ L := ne_of_none (b79 _ _ hz7 zna) nL
    have bnL : ∀ b o, H7 b = some o → b ≠ a → b ≠ L := fun b o q z => ne_of_none (b79 b o q z) nL
    refine ⟨_, rfl, z, _, 0, _, rfl, rfl, SqT.of hz10, rfl, s1, rfl, by omega, by omega, for_range (lo := 0) (n := s1.toNat) (fun j σ H' => ∃ (w11 w12 w13 w14 : Option V) (ms : List Mv),
      σ = [some (.ref a), some (.int 5), some (.int 3), some (.int 6), some (.ref z), some (.int n), some (.bl srv), some (.ref R), some (.ref C), some (.int (0 + (i : Int))), some (.ref L), w11, w12, w13, w14] ∧ But a H7 H' ∧ HA H' a c ∧
      LT H' L (ms.map mvT) ∧ ms.Nodup ∧ (∀ x ∈ ms, MvOk (s1, s2, s3) n x) ∧ ms.length ≤ 6 + j)
      ⟨_, _, _, _, ms, rfl, b710, h10, ⟨ys, hL, ty.kt e10.kt⟩, nd, ok, by omega⟩ ?_ ?_⟩
    · rintro j σ H11 hj ⟨w11, w12, w13, w14, ms, rfl, b11, h11, lL, nd, ok, hml⟩
      obtain ⟨acc, hacc, tacc⟩ := lL
      have hal := tacc.length
      rw [List.length_map] at hal
      refine ⟨_, rfl, _, rfl, ?_⟩
      cases srv with
      | false => exact ⟨_, _, _, _, ms, rfl, b11, h11, ⟨acc, hacc, tacc⟩, nd, ok, by omega⟩
      | true =>
        refine ⟨_, rfl, L, rfl, ⟨_, SqL.of hacc⟩, fun D2 hD2 => ?_⟩
        refine lcL (K := K) (fun i' ts => ts.length = 0 → ∀ m ∈ ms.take i', m.1 ≠ 0 + (j : Int)) hD2 hacc (by omega) (fun _ _ z => by simp at z) (fun i' x H12 ts hx e12 hl j1 R1 R2 c1 c2 => ?_) (fun H12 ts e12 lD2 hl j1 => ?_)
        · obtain ⟨tt, htt, tx⟩ := tacc.at hx
          rw [List.getElem?_map] at htt
          obtain ⟨m, hm, rfl⟩ := Option.map_eq_some_iff.mp htt
          obtain ⟨p, rfl, hp⟩ := (tx.kt e12.kt).mv
          refine ⟨rfl, _, rfl, p, _, 0, _, rfl, rfl, SqT.of hp, rfl, _, rfl, rfl, _, rfl, ?_⟩
          have e : decide (V.int m.1 = V.int (0 + (j : Int))) = decide (m.1 = 0 + (j : Int)) := by simp
          rw [e]
          by_cases hme : m.1 = 0 + (j : Int)
          · rw [decide_eq_true hme]
            exact ⟨_, rfl, c1 _ _ _ (Same.refl _) (tx.kt e12.kt) fun z => by rw [List.length_append] at z; simp at z⟩
          · rw [decide_eq_false hme]
            refine c2 _ (Same.refl _) fun z y hy => ?_
            rw [List.take_succ, hm] at hy
            rcases List.mem_append.mp hy with u | u
            · exact j1 z y u
            · have : y = m := by simpa using u
              rw [this]; exact hme
        · obtain ⟨xs2, hx2, tx2⟩ := lD2
          have hl2 := tx2.length
          refine ⟨_, _, rfl, .inl (SqL.of hx2), rfl, _, rfl, ?_⟩
          have b12 := b11.trans (e12.but a)
          have h12 := h11.same e12
          have e : decide (V.int (xs2.length : Int) = V.int 0) = decide (xs2.length = 0) := by simp
          rw [e]
          by_cases h0 : xs2.length = 0
          · rw [decide_eq_true h0]
            have hno : ∀ m ∈ ms, m.1 ≠ 0 + (j : Int) := fun m hm => j1 (by omega) m (by rw [hal, List.take_length]; exact hm)
            have hz12 := b12 _ _ hz7 zna
            refine ⟨_, rfl, .inl ⟨rfl, _, SqL.of (e12 _ _ hacc)⟩, ?_⟩
            refine ⟨_, rfl, _, rfl, _, rfl, z, _, 1, _, rfl, rfl, SqT.of hz12, rfl, a, c, _, rfl, h12, ⟨by omega, by omega⟩, fun k3 H13 b13 h13 lo13 hi13 => ?_⟩
            have b713 := b12.trans b13
            refine ⟨_, rfl, _, rfl, z, _, 2, _, rfl, rfl, SqT.of (b713 _ _ hz7 zna), rfl, a, c, _, rfl, h13, ⟨by omega, by omega⟩, fun k4 H14 b14 h14 lo14 hi14 => ?_⟩
            refine ⟨_, rfl, _, rfl, a, c, n, rfl, h14, ⟨by omega, by omega⟩, fun k5 H15 b15 h15 lo15 hi15 => ?_⟩
            refine ⟨by show 4 ≤ _; decide, fun q2 H16 e16 hq2 nq2 => ?_⟩
            have b1116 : But a H11 H16 := (e12.but a).trans (b13.trans (b14.trans (b15.trans (e16.but a))))
            have h16 := h15.same e16
            have hacc16 := b1116 _ _ hacc nLa
            have k1116 := b1116.kt h11
            refine ⟨L, acc, _, rfl, rfl, hacc16, by omega, fun H17 o17 h17 => ?_⟩
            have k17 : KT H16 H17 := o17.kt hacc16 fun _ z => nomatch z
            have tq2 : Tv H16 (.ref q2) (mvT (0 + (j : Int), k3, k4, k5)) := .t hq2 (.cons (.i _) (.cons (.i _) (.cons (.i _) (.cons (.i _) .nil))))
            refine ⟨_, _, _, _, ms ++ [(0 + (j : Int), k3, k4, k5)], rfl, fun b o q z => by rw [o17 b (bnL b o q z)]; exact b1116 b o (b11 b o q z) z, h16.off o17 nLa nLc, ⟨_, h17, by rw [List.map_append]; exact (tacc.kt (k1116.trans k17)).snoc (tq2.kt k17)⟩, ?_, fun x hx => ?_, by rw [List.length_append, List.length_singleton]; omega⟩
            · rw [List.nodup_append]
              exact ⟨nd, by simp, fun x hx y hy e => hno x hx (by rw [e, List.mem_singleton.mp hy])⟩
            · rcases List.mem_append.mp hx with u | u
              · exact ok x u
              · rw [List.mem_singleton.mp u]
                exact ⟨⟨by simp only; omega, by simp only; omega⟩, ⟨lo13, hi13⟩, ⟨lo14, hi14⟩, ⟨lo15, hi15⟩⟩
          · rw [decide_eq_false h0]
            exact ⟨_, _, _, _, ms, rfl, b12, h12, ⟨acc, e12 _ _ hacc, tacc.kt e12.kt⟩, nd, ok, by omega⟩
    · rintro σ H11 ⟨w11, w12, w13, w14, ms, rfl, b11, h11, ⟨acc, hacc, tacc⟩, nd, ok, hml⟩
      have hal := tacc.length
      rw [List.length_map] at hal
      have hR11 := b11 _ _ hR7 nRa
      refine ⟨_, rfl, .inl ⟨rfl, _, SqL.of hR11⟩, _, rfl, L, acc, rfl, hacc, by omega, sort_dom bd ok tacc, fun ys hp hs' q1 H12 e12 hq1 nq1 => ?_⟩
      obtain ⟨ms', p', t', asc⟩ := sort_get bd ok nd tacc hp hs'
      refine ⟨q1, ys, rfl, hq1, fun r H13 e13 hr nr => ?_⟩
      have e1113 := e12.trans e13
      have hR13 := e1113 _ _ hR11
      have b713 := b11.trans (e1113.but a)
      have k713 := b713.kt h7
      refine ⟨R, aR, _, rfl, rfl, hR13, by have := tR7.length; rw [List.length_map] at this; omega, fun H14 o14 h14 => ?_⟩
      have k14 : KT H13 H14 := o14.kt hR13 fun _ z => nomatch z
      have h14a := (h11.same e1113).off o14 nRa nRc
      have trw : Tv H14 (.ref r) (rowT ms') := (Tv.t hr (t'.kt e1113.kt)).kt k14
      have hC14 : H14 C = _ := (o14 C nRC.symm).trans (b713 _ _ hC7 nCa)
      have hz14 : H14 z = _ := (o14 z zR).trans (b713 _ _ hz7 zna)
      have tR14 := tR7.kt (k713.trans k14)
      have tC14 := tC7.kt (k713.trans k14)
      have bt14 : ∀ b o, H b = some o → b ≠ a → H14 b = some o := fun b o q z => by rw [o14 b (nR2 b o q z)]; exact b713 b o (b7 b o q z) z
      refine ⟨_, rfl, .inl ⟨rfl, _, SqL.of hC14⟩, _, rfl, z, _, 2, _, rfl, rfl, SqT.of hz14, rfl, s3, rfl, by omega, by omega, fun D3 hD3 => ?_⟩
      have nD3R := ne_of_none h14 hD3
      have nD3C := ne_of_none hC14 hD3
      refine lcRB (lo := 0) (n := s3.toNat) (fun i' ts => ∃ l : List Int, ts = l.map Fx.T.i ∧ l.Pairwise (· < ·) ∧ (∀ x ∈ l, 0 ≤ x ∧ x < i') ∧ l.length ≤ i') hD3 h14a (by omega) ⟨[], rfl, .nil, (fun _ z => nomatch z), Nat.le_refl _⟩ (fun i' H15 ts hi' b15 h15 hl ⟨l, el, al, bl, ll⟩ R1 R2 c1 c2 => ?_) (fun H15 ts b15 h15 lD hl ⟨l, el, al, bl, ll⟩ => ?_)
      · refine ⟨rfl, _, rfl, a, c, 3, rfl, h15, ⟨by decide, by decide⟩, fun k6 H16 b16 h16 lo16 hi16 => ?_⟩
        refine ⟨_, _, rfl, rfl, _, rfl, ?_⟩
        by_cases h06 : 0 < k6
        · rw [decide_eq_true h06]
          refine ⟨_, rfl, c1 _ _ _ b16 h16 (.i _) ⟨l ++ [0 + (i' : Int)], by rw [List.map_append, el]; rfl, ?_, fun x hx => ?_, by rw [List.length_append, List.length_singleton]; omega⟩⟩
          · rw [List.pairwise_append]
            exact ⟨al, by simp, fun x hx y hy => by rw [List.mem_singleton.mp hy]; have := bl x hx; omega⟩
          · rcases List.mem_append.mp hx with u | u
            · have := bl x u; omega
            · rw [List.mem_singleton.mp u]; omega
        · rw [decide_eq_false h06]
          exact c2 _ b16 h16 ⟨l, el, al, fun x hx => by have := bl x hx; omega, by omega⟩
      · obtain ⟨xs3, hx3, tx3⟩ := lD
        refine ⟨D3, xs3, rfl, hx3, fun r2 H16 e16 hr2 nr2 => ?_⟩
        rw [el] at tx3
        have b1416 : But a H14 H16 := b15.trans (e16.but a)
        have h16 := h15.same e16
        have hC16 := b1416 _ _ hC14 nCa
        have k1416 := b1416.kt h14a
        refine ⟨C, aC, _, rfl, rfl, hC16, by have := tC7.length; rw [List.length_map] at this; omega, fun H17 o17 h17 => ?_⟩
        have k17 : KT H16 H17 := o17.kt hC16 fun _ z => nomatch z
        have hR17 : H17 R = _ := (o17 R nRC).trans (b1416 _ _ h14 nRa)
        have hz17 : H17 z = _ := (o17 z zC).trans (b1416 _ _ hz14 zna)
        have k1417 := k1416.trans k17
        refine ⟨_, _, _, _, _, _, rows ++ [ms'], clo ++ [l], rfl, fun b o q z => by rw [o17 b (nC2 b o q z)]; exact b1416 b o (bt14 b o q z) z, h16.off o17 nCa nCc, hz17, ⟨_, hR17, ?_⟩, ⟨_, h17, ?_⟩, by rw [List.length_append, er]; rfl, by rw [List.length_append, ec]; rfl, fun r' hr' => ?_, fun r' hr' => ?_⟩
        · rw [List.map_append]
          exact (tR14.kt k1417).snoc (trw.kt k1417)
        · rw [List.map_append]
          exact (tC14.kt k1417).snoc ((Tv.t hr2 (tx3.kt e16.kt)).kt k17)
        · rcases List.mem_append.mp hr' with u | u
          · exact okr r' u
          · rw [List.mem_singleton.mp u]
            exact ⟨fun m hm => ok m (p'.mem_iff.mp hm), asc, by rw [p'.length_eq]; omega⟩
        · rcases List.mem_append.mp hr' with u | u
          · exact okc r' u
          · rw [List.mem_singleton.mp u]
            exact ⟨fun m hm => by have := bl m hm; simp only; omega, al, by omega⟩
  · rintro σ H7 ⟨w9, w10, w11, w12, w13, w14, rows, clo, rfl, b7, h7, hz7, ⟨aR, hR7, tR7⟩, ⟨aC, hC7, tC7⟩, er, ec, okr, okc⟩
    refine ⟨_, rfl, _, rfl, R, aR, rfl, hR7, fun r1 H8 e8 hr1 nr1 => ?_⟩
    refine ⟨_, rfl, C, aC, rfl, e8 _ _ hC7, fun r2 H9 e9 hr2 nr2 => ?_⟩
    refine ⟨by show 3 ≤ _; decide, fun r3 H10 e10 hr3 nr3 => ?_⟩
    have e710 := e8.trans (e9.trans e10)
    refine k _ H10 ⟨(s1, s2, s3), rows, clo⟩ (b7.trans (e710.but a)) (h7.same e710) (.t hr3 (.cons (.t (e710 _ _ hz7) (.cons (.i _) (.cons (.i _) (.cons (.i _) .nil)))) (.cons (.t ((e9.trans e10) _ _ hr1) (tR7.kt e710.kt)) (.cons (.t (e10 _ _ hr2) (tC7.kt e710.kt)) .nil)))) ⟨g1, g2, g3, ⟨by simp only; omega, by simp only; omega⟩, fun r hr => ?_, by simp only; omega, okc⟩
    have e : ((rows.length : Nat) : Int) = n := by omega
    show RowOk (s1, s2, s3) (rows.length : Int) r
    rw [e]
    exact okr r hr
end
end Fx

/-! the law: apart, steps, standings behind, shuts, boards of days -/
namespace Fx
open PySem PySem.Spec PyProof.Rows L2
theorem inV_ints (m : Int) (l : List Int) : inV (.int m) (l.map V.int) = decide (m ∈ l) := by
  rw [Bool.eq_iff_iff, decide_eq_true_eq]
  simp [inV, eqV]
theorem nw43 (a b c d : V) : ¬ (HT.sIx [a, b, c, d].length 0 none = 0 ∧ HT.sIx [a, b, c, d].length [a, b, c, d].length (some 3) = [a, b, c, d].length) := by show ¬ (HT.sIx 4 0 none = 0 ∧ HT.sIx 4 4 (some 3) = 4); decide
theorem cut43 (a b c d : V) : cutV [a, b, c, d] none (some 3) = [a, b, c] := rfl
theorem eqv_st (s t : Stp) : PyData.eqv (stT s).py (stT t).py = decide (s = t) := by
  rw [Bool.eq_iff_iff, decide_eq_true_eq, eqv_py _ _ (stT_ints s) (stT_ints t)]
  exact ⟨stT_inj, fun h => by rw [h]⟩
theorem mv_cut (m : Mv) : m = mvOf (m.1, m.2.1, m.2.2.1) m.2.2.2 := rfl
section
variable {P : Program} {w : World} {K : PySem.W.Frag} {mg : Str → Option Value} {base : Heap}
def sp__law_apart (K : PySem.W.Frag) : Sp := fun vs H Q _ => ∃ (vh vp : V) (p : Parts), vs = [vh, vp] ∧ Tv H vp (partsT p) ∧ POk p ∧ ∀ v H' p', Same H H' → Tv H' v (partsT p') → POk p' → Q v H'
theorem sc__law_apart : FnScope ["_law_hand_here", "_law_parts_here", "_law_rows", "_law_row_here", "_law_found", "_law_slip", "_law_answer", "_law_mark", "_law_goal", "_law_move"] ["_law_hand_here", "_law_parts_here"] (defScope s__law_apart) := ⟨rfl, rfl, rfl, by decide +kernel, rfl, by decide +kernel, by decide +kernel⟩
theorem c__law_apart (T : Tx K mg) : Cal P w K mg base 1 "_law_apart" (sp__law_apart K) := by
  refine cal_mk T._law_apart (fun _ _ _ _ _ _ us hl => match us, hl with | [_, _], _ => rfl) sc__law_apart (fun vs H Q E h => by (obtain ⟨vh, vp, p, rfl, hp, ok, k⟩ := h; rfl)) (fun f cdv A outer s H vs Q E hr h => ?_)
  obtain ⟨vh, vp, p, rfl, hp, ok, k⟩ := h
  refine ⟨_, (pss_cons (ps_set (i := 2) sc__law_apart.nd rfl (Or.inl rfl) (pe_lstS pa_nil))
    (pss_cons (ps_for PassesOwn.never rfl (pi_tup (pe_ix ix_tup (pv 1) pe_int (fun _ _ => rfl))) (pg_name (i := 3) sc__law_apart.nd rfl (Or.inl rfl))
      (pss_cons (ps_set (i := 4) sc__law_apart.nd rfl (Or.inl rfl) (pe_lstS pa_nil))
      (pss_cons (ps_for PassesOwn.never rfl (pi_tup (pv 3)) (pg_tup rfl (pgs_cons (pg_name (i := 5) sc__law_apart.nd rfl (Or.inl rfl)) (pgs_cons (pg_name (i := 6) sc__law_apart.nd rfl (Or.inl rfl)) (pgs_cons (pg_name (i := 7) sc__law_apart.nd rfl (Or.inl rfl)) (pgs_cons (pg_name (i := 8) sc__law_apart.nd rfl (Or.inl rfl)) pgs_nil)))))
        (pss_cons (ps_set (i := 9) sc__law_apart.nd rfl (Or.inl rfl) (pe_tupS (pa_cons (pv 5) (pa_cons (pe_callB (call_min2 rfl) rfl T.f_min (by decide +kernel) (pa_cons (pv 5) (pa_cons (pe_op op_sub (pe_ix ix_tup (pe_ix ix_tup (pv 1) pe_int (fun _ _ => rfl)) pe_int (fun _ _ => rfl)) pe_int) pa_nil))) (pa_cons (pv 7) (pa_cons (pv 8) pa_nil))))))
        (pss_one (ps_if (pt_cmpR (op_notInD hr.u65) (pv 9) (pv 4) rfl)
          (pss_one (ps_expr (pe_bm PySem.F.plainAttrs_list PySem.F.slot_list_append PySem.F.type_list_append mt_appendS (pv 4) (pa_cons (pv 9) pa_nil))))
          pss_nil))))
      (pss_one (ps_expr (pe_bm PySem.F.plainAttrs_list PySem.F.slot_list_append PySem.F.type_list_append mt_appendS (pv 2) (pa_cons (pe_callTy (call_tuple_ofS (K := K)) rfl T.f_tuple (by decide +kernel) (pa_cons (pe_callB cr_sortTS rfl T.f_sorted (by decide +kernel) (pa_cons (pv 4) pa_nil)) pa_nil)) pa_nil)))))))
    (pss_one (ps_ret (pe_tupS (pa_cons (pe_ix ix_tup (pv 1) pe_int (fun _ _ => rfl)) (pa_cons (pe_callTy (call_tuple_ofS (K := K)) rfl T.f_tuple (by decide +kernel) (pa_cons (pv 2) pa_nil)) (pa_cons (pe_ix ix_tup (pv 1) pe_int (fun _ _ => rfl)) pa_nil)))))))), ?_⟩
  obtain ⟨a, v1, v2, v3, rfl, ha, h1, h2, h3⟩ := hp.parts
  obtain ⟨z, rfl, hz⟩ := h1.stp
  obtain ⟨b, xs, rfl, hb, hx⟩ := h2.tup
  have hxl : xs.length = p.rows.length := by rw [hx.length, List.length_map]
  have g1 := ok.s1
  have g2 := ok.s2
  have g3 := ok.s3
  have gn := ok.n
  have bd : Bd8 p.sz p.rows.length := ⟨by omega, by omega, by omega, by omega⟩
  refine ⟨by exact Nat.zero_le _, fun R H1 s1 hR nR => ?_⟩
  refine ⟨_, rfl, a, _, 1, _, rfl, rfl, SqT.of (s1 _ _ ha), rfl, b, rfl, ⟨_, SqT.of (s1 _ _ hb)⟩, for_tup (K := K) (xs := xs) (fun i σ H' => ∃ (w3 w4 w5 w6 w7 w8 w9 : Option V) (rows : List (List Mv)), σ = [some vh, some (.ref a), some (.ref R), w3, w4, w5, w6, w7, w8, w9] ∧ Same H H' ∧ LT H' R (rows.map rowT) ∧ rows.length = i ∧ ∀ r ∈ rows, RowOk p.sz p.rows.length r)
    ⟨none, none, none, none, none, none, none, [], rfl, s1, ⟨[], hR, .nil⟩, rfl, fun _ z => nomatch z⟩ (fun i σ H' _ ⟨_, _, _, _, _, _, _, _, _, s2, _⟩ => SqT.of (s2 _ _ hb)) ?_ ?_⟩
  · rintro i x σ H2 hi ⟨w3, w4, w5, w6, w7, w8, w9, rows, rfl, s2, ⟨aR, hR2, tR2⟩, er, okr⟩
    obtain ⟨t, ht, tx⟩ := hx.at hi
    rw [List.getElem?_map] at ht
    obtain ⟨r, hrr, rfl⟩ := Option.map_eq_some_iff.mp ht
    have R0 := ok.rows r (List.mem_of_getElem? hrr)
    have hil := (List.getElem?_eq_some_iff.mp hrr).1
    obtain ⟨c, ys, rfl, hc, hy⟩ := tx.tup
    have hyl : ys.length = r.length := by rw [hy.length, List.length_map]
    refine ⟨by exact Nat.zero_le _, fun L H3 s3 hL nL => ?_⟩
    have s23 := s2.trans s3
    have nLR : R ≠ L := ne_of_none hR2 nL
    have live : ∀ b o, H b = some o → b ≠ L := fun b o q => ne_of_none (s2 _ _ q) nL
    refine ⟨_, rfl, c, rfl, ⟨_, SqT.of (s23 _ _ hc)⟩, for_tup (K := K) (xs := ys) (fun j σ H' => ∃ (w5 w6 w7 w8 w9 : Option V) (ms : List Mv), σ = [some vh, some (.ref a), some (.ref R), some (.ref c), some (.ref L), w5, w6, w7, w8, w9] ∧ Same H2 H' ∧ LT H' L (ms.map mvT) ∧ ms.Nodup ∧ (∀ m ∈ ms, MvOk p.sz p.rows.length m) ∧ ms.length ≤ j)
      ⟨_, _, _, _, _, [], rfl, s3, ⟨[], hL, .nil⟩, List.nodup_nil, (fun _ z => nomatch z), Nat.le_refl _⟩ (fun j σ H' _ ⟨_, _, _, _, _, _, _, s4, _⟩ => SqT.of ((s2.trans s4) _ _ hc)) ?_ ?_⟩
    · rintro j x σ H4 hj ⟨w5, w6, w7, w8, w9, ms, rfl, s4, lL, nd, okm, hml⟩
      have s24 := s2.trans s4
      obtain ⟨t, ht2, tx2⟩ := hy.at hj
      rw [List.getElem?_map] at ht2
      obtain ⟨m, hm, rfl⟩ := Option.map_eq_some_iff.mp ht2
      have hjl := (List.getElem?_eq_some_iff.mp hm).1
      have hrl := R0.len
      have om := R0.ok m (List.mem_of_getElem? hm)
      obtain ⟨q, rfl, hq⟩ := (tx2.kt s24.kt).mv
      refine ⟨q, _, rfl, SqT.of hq, rfl, _, _, rfl, _, _, rfl, _, _, rfl, _, _, rfl, rfl, ?_⟩
      refine ⟨_, rfl, _, rfl, _, rfl, a, _, 0, _, rfl, rfl, SqT.of (s24 _ _ ha), rfl, z, _, 1, _, rfl, rfl, SqT.of (s24 _ _ hz), rfl, _, _, rfl, rfl, _, _, rfl, ?_⟩
      generalize hmn : (if p.sz.2.1 - 1 < m.1 then p.sz.2.1 - 1 else m.1) = mn
      have hmn2 : 0 ≤ mn ∧ mn < p.sz.2.1 := by
        have := om.1
        rw [← hmn]
        split <;> omega
      refine ⟨_, rfl, _, rfl, by show 4 ≤ _; decide, fun q2 H5 s5 hq2 nq2 => ?_⟩
      have tq : Tv H5 (.ref q2) (mvT (m.1, mn, m.2.2.1, m.2.2.2)) := .t hq2 (.cons (.i _) (.cons (.i _) (.cons (.i _) (.cons (.i _) .nil))))
      have l5 := lL.same s5
      refine ⟨_, rfl, _, rfl, _, _, tq.dp, l5.dp, shp (by simp), shp_mv ms, _, rfl, ?_⟩
      rw [any_mv]
      by_cases hin : (m.1, mn, m.2.2.1, m.2.2.2) ∈ ms
      · rw [decide_eq_true hin]
        exact ⟨_, _, _, _, _, ms, rfl, s4.trans s5, l5, nd, okm, by omega⟩
      · rw [decide_eq_false hin]
        obtain ⟨acc, hacc, tacc⟩ := l5
        have ha' := tacc.length
        rw [List.length_map] at ha'
        refine ⟨_, rfl, .inl ⟨rfl, _, SqL.of hacc⟩, _, rfl, L, acc, _, rfl, rfl, hacc, by omega, fun H6 o6 h6 => ?_⟩
        have k6 : KT H5 H6 := o6.kt hacc fun _ z => nomatch z
        refine ⟨_, _, _, _, _, ms ++ [(m.1, mn, m.2.2.1, m.2.2.2)], rfl, fun b o q => by rw [o6 b (ne_of_none q nL)]; exact (s4.trans s5) b o q, ⟨_, h6, by rw [List.map_append]; exact (tacc.kt k6).snoc (tq.kt k6)⟩, ?_, fun x hx => ?_, by rw [List.length_append, List.length_singleton]; omega⟩
        · rw [List.nodup_append]
          exact ⟨nd, by simp, fun x hx y hy e => hin (by rw [List.mem_singleton.mp hy] at e; rw [← e]; exact hx)⟩
        · rcases List.mem_append.mp hx with u | u
          · exact okm x u
          · rw [List.mem_singleton.mp u]
            exact ⟨om.1, hmn2, om.2.2⟩
    · rintro σ H4 ⟨w5, w6, w7, w8, w9, ms, rfl, s4, ⟨acc, hacc, tacc⟩, nd, okm, hml⟩
      have hrl := R0.len
      have ha' := tacc.length
      rw [List.length_map] at ha'
      have hR4 := s4 _ _ hR2
      refine ⟨_, rfl, .inl ⟨rfl, _, SqL.of hR4⟩, _, rfl, L, acc, rfl, hacc, by omega, sort_dom bd okm tacc, fun ys' hp hs' q H5 s5 hq nq => ?_⟩
      obtain ⟨ms', p', t', asc⟩ := sort_get bd okm nd tacc hp hs'
      refine ⟨q, ys', rfl, hq, fun r2 H6 s6 hr2 nr => ?_⟩
      have s46 := s5.trans s6
      have hR6 := s46 _ _ hR4
      have hRl := tR2.length
      rw [List.length_map] at hRl
      refine ⟨R, aR, _, rfl, rfl, hR6, by omega, fun H7 o7 h7 => ?_⟩
      have k7 : KT H6 H7 := o7.kt hR6 fun _ z => nomatch z
      have nR0 : H R = none := nR
      refine ⟨_, _, _, _, _, _, _, rows ++ [ms'], rfl, fun b o q => by rw [o7 b (ne_of_none q nR0)]; exact s46 b o (s4 b o (s2 b o q)), ⟨_, h7, ?_⟩, by rw [List.length_append, er]; rfl, fun r' hr' => ?_⟩
      · rw [List.map_append]
        exact (tR2.kt ((s4.trans s46).kt.trans k7)).snoc ((Tv.t hr2 (t'.kt s46.kt)).kt k7)
      · rcases List.mem_append.mp hr' with u | u
        · exact okr r' u
        · rw [List.mem_singleton.mp u]
          exact ⟨fun m hm => okm m (p'.mem_iff.mp hm), asc, by rw [p'.length_eq]; omega⟩
  · rintro σ H2 ⟨w3, w4, w5, w6, w7, w8, w9, rows, rfl, s2, ⟨aR, hR2, tR2⟩, er, okr⟩
    have e : rows.length = p.rows.length := by rw [er, hxl]
    refine ⟨_, rfl, a, _, 0, _, rfl, rfl, SqT.of (s2 _ _ ha), rfl, _, rfl, R, aR, rfl, hR2, fun r1 H3 s3 hr1 nr1 => ?_⟩
    refine ⟨_, rfl, a, _, 2, _, rfl, rfl, SqT.of ((s2.trans s3) _ _ ha), rfl, by show 3 ≤ _; decide, fun r3 H4 s4 hr3 nr3 => ?_⟩
    have s14 := s2.trans (s3.trans s4)
    exact k _ H4 ⟨p.sz, rows, p.clo⟩ s14 (.t hr3 (.cons (h1.kt s14.kt) (.cons (.t (s4 _ _ hr1) (tR2.kt (s3.trans s4).kt)) (.cons (h3.kt s14.kt) .nil)))) ⟨g1, g2, g3, by rw [e]; exact gn, by rw [e]; exact okr, by rw [e]; exact ok.cn, ok.clo⟩
def sp__law_board (K : PySem.W.Frag) : Sp := fun vs H Q _ => ∃ (vt : V) (ss : List Stp) (last : Int), vs = [vt] ∧ Tv H vt (dayT ss last) ∧ ss.length ≤ 1000 ∧ ∀ v' H', Same H H' → Tv H' v' (boardT (marks ss) last) → Q v' H'
theorem sc__law_board : FnScope ["_law_day", "_law_step"] ["_law_day"] (defScope s__law_board) := ⟨rfl, rfl, rfl, by decide +kernel, rfl, by decide +kernel, by decide +kernel⟩
theorem c__law_board (T : Tx K mg) : Cal P w K mg base 1 "_law_board" (sp__law_board K) := by
  refine cal_mk T._law_board (fun _ _ _ _ _ _ us hl => match us, hl with | [_], _ => rfl) sc__law_board (fun vs H Q E h => by (obtain ⟨vt, ss, last, rfl, ht, hl, k⟩ := h; rfl)) (fun f cdv A outer s H vs Q E hr h => ?_)
  obtain ⟨vt, ss, last, rfl, ht, hl, k⟩ := h
  refine ⟨_, (pss_one (ps_ret (pe_tupS (pa_cons (pe_callTy (call_tuple_ofS (K := K)) rfl T.f_tuple (by decide +kernel) (pa_cons (pe_lc (own := [("_law_step", 1)]) rfl sc__law_board.nd (pi_tup (pe_ix ix_tup (pv 0) pe_int (fun _ _ => rfl))) (blkOk_by (own := [("_law_step", 1)]) (N := ["_law_day", "_law_step"]) (sc := defScope s__law_board) (by decide +kernel)) (fun _ _ _ _ _ => (pg_name (i := 1) sc__law_board.nd rfl (Or.inl rfl))) (fun _ _ _ _ _ => pts_nil) (fun _ _ _ _ _ => (pe_ix (ix_tupK (K := K)) (pv 1) pe_int (fun _ _ => rfl)))) pa_nil)) (pa_cons (pe_ix ix_tup (pv 0) pe_int (fun _ _ => rfl)) pa_nil))))), ?_⟩
  obtain ⟨a, b, xs, rfl, ha, hb, hx, hxl⟩ := ht.day
  refine ⟨_, rfl, a, _, 0, _, rfl, rfl, SqT.of ha, rfl, b, rfl, ⟨_, SqT.of hb⟩, fun D hD => ?_⟩
  refine lcT (K := K) (fun i ts => ts = (marks (ss.take i)).map Fx.T.i) hD hb (by omega) (by simp [marks]) (fun i x H2 ts hi s1 _ hJ R R' c1 c2 => ?_) fun H2 ts s1 l _ hJ => ?_
  · obtain ⟨t, ht, tx⟩ := hx.at hi
    rw [List.getElem?_map] at ht
    obtain ⟨s, hs1, rfl⟩ := Option.map_eq_some_iff.mp ht
    obtain ⟨q, rfl, hq⟩ := (tx.kt s1.kt).stp
    refine ⟨rfl, _, rfl, q, _, 2, _, rfl, rfl, SqT.of hq, rfl, c1 _ _ _ (Same.refl _) (.i _) ?_⟩
    show _ = (marks (ss.take (i + 1))).map Fx.T.i
    rw [hJ, List.take_succ, hs1, marks, marks, List.map_append, List.map_append]
    rfl
  · rw [hxl, List.take_length] at hJ
    obtain ⟨ys, hy1, hy2⟩ := l
    rw [hJ] at hy2
    have e := hy2.ints
    subst e
    refine ⟨D, _, rfl, hy1, fun q H3 s3 hq _ => ?_⟩
    refine ⟨_, rfl, a, _, 1, _, rfl, rfl, SqT.of (s3 _ _ (s1 _ _ ha)), rfl, by show 2 ≤ _; decide, fun r H4 s4 hr _ => ?_⟩
    exact k _ H4 ((s1.trans s3).trans s4) (.t hr (.cons (tv_is (s4 _ _ hq)) (.cons (.i _) .nil)))
def sp__law_behind (K : PySem.W.Frag) : Sp := fun vs H Q _ => ∃ (vp vl vt : V) (p : Parts) (l : List Int) (s : Stp), vs = [vp, vl, vt] ∧ Tv H vp (partsT p) ∧ POk p ∧ Tv H vl (isT l) ∧ Sts p l ∧ Tv H vt (stT s) ∧
  ∀ v' H' ys, Same H H' → Tv H' v' (isT ys) → Sts p ys → (∀ g, g ∈ ys ↔ ∃ a ∈ l, Mov p a s g) → Q v' H'
theorem sc__law_behind : FnScope ["_law_parts_here", "_law_standings", "_law_step", "_law_found", "_law_standing", "_law_move"] ["_law_parts_here", "_law_standings", "_law_step"] (defScope s__law_behind) := ⟨rfl, rfl, rfl, by decide +kernel, rfl, by decide +kernel, by decide +kernel⟩
theorem c__law_behind (T : Tx K mg) : Cal P w K mg base 1 "_law_behind" (sp__law_behind K) := by
  refine cal_mk T._law_behind (fun _ _ _ _ _ _ us hl => match us, hl with | [_, _, _], _ => rfl) sc__law_behind (fun vs H Q E h => by (obtain ⟨vp, vl, vt, p, l, s, rfl, hp, ok, hl, hsl, ht, k⟩ := h; rfl)) (fun f cdv A outer s H vs Q E hr h => ?_)
  obtain ⟨vp, vl, vt, p, l, s, rfl, hp, ok, hl, hsl, ht, k⟩ := h
  refine ⟨_, (pss_cons (ps_set (i := 3) sc__law_behind.nd rfl (Or.inl rfl) (pe_lstS pa_nil))
    (pss_cons (ps_for PassesOwn.never rfl (pi_tup (pv 1)) (pg_name (i := 4) sc__law_behind.nd rfl (Or.inl rfl))
      (pss_one (ps_for PassesOwn.never rfl (pi_tup (pe_ix ix_tup (pe_ix ix_tup (pv 0) pe_int (fun _ _ => rfl)) (pv 4) (fun _ _ => rfl))) (pg_name (i := 5) sc__law_behind.nd rfl (Or.inl rfl))
        (pss_one (ps_if (PW.pt (pw_and (pt_cmpR (op_eqD hr.units) (pe_slice (sl_tupS (K := K)) (pv 5) po_none (po_some pe_int)) (pv 2) (nomark _)) (pw_and1 (pt_cmpR op_notIn_seq (pe_ix ix_tup (pv 5) pe_int (fun _ _ => rfl)) (pv 3) rfl))))
          (pss_one (ps_expr (pe_bm PySem.F.plainAttrs_list PySem.F.slot_list_append PySem.F.type_list_append mt_appendS (pv 3) (pa_cons (pe_ix ix_tup (pv 5) pe_int (fun _ _ => rfl)) pa_nil))))
          pss_nil)))))
    (pss_one (ps_ret (pe_callTy (call_tuple_ofS (K := K)) rfl T.f_tuple (by decide +kernel) (pa_cons (pe_callB cr_sortedS2 rfl T.f_sorted (by decide +kernel) (pa_cons (pv 3) pa_nil)) pa_nil)))))), ?_⟩
  obtain ⟨a, v1, v2, v3, rfl, ha, h1, h2, h3⟩ := hp.parts
  obtain ⟨b, xs, rfl, hb, hx⟩ := h2.tup
  obtain ⟨sl, rfl, hS⟩ := hl.is
  refine ⟨by exact Nat.zero_le _, fun L H1 s1 hL nL => ?_⟩
  refine ⟨_, rfl, sl, rfl, ⟨_, SqT.of (s1 _ _ hS)⟩, for_tup (K := K) (xs := l.map V.int) (fun i σ H' => ∃ (w4 w5 : Option V) (ys : List Int), σ = [some (.ref a), some (.ref sl), some vt, some (.ref L), w4, w5] ∧ Same H H' ∧ H' L = some (.lst (ys.map V.int)) ∧ Sts p ys ∧ ∀ g, g ∈ ys ↔ ∃ c ∈ l.take i, Mov p c s g)
    ⟨none, none, [], rfl, s1, hL, ⟨(fun _ z => nomatch z), List.nodup_nil⟩, by simp⟩ (fun i σ H' _ ⟨_, _, _, _, s2, _⟩ => SqT.of (s2 _ _ hS)) ?_ ?_⟩
  · rintro i x σ H2 hi ⟨w4, w5, ys, rfl, s2, hL2, hsy, hm⟩
    rw [List.getElem?_map] at hi
    obtain ⟨c, hc, rfl⟩ := Option.map_eq_some_iff.mp hi
    have hcv := hsl.v c (List.mem_of_getElem? hc)
    obtain ⟨rv, hrv, trv⟩ := hx.get (i := c.toNat) (t := rowT (rowAt p c)) (by rw [List.getElem?_map, rowAt_get hcv]; rfl)
    obtain ⟨r, zs, rfl, hrr, hzs⟩ := trv.tup
    have hzl : zs.length = (rowAt p c).length := by rw [hzs.length, List.length_map]
    have hrlen := (row_ok ok hcv).len
    refine ⟨_, rfl, a, _, 1, _, rfl, rfl, SqT.of (s2 _ _ ha), rfl, _, rfl, b, _, c, _, rfl, rfl, SqT.of (s2 _ _ hb), at_of (j := c.toNat) (by have := hcv.1; omega) hrv, r, rfl, ⟨_, SqT.of (s2 _ _ hrr)⟩, ?_⟩
    refine for_tup (K := K) (xs := zs) (fun j σ H' => ∃ (w5 : Option V) (ys' : List Int), σ = [some (.ref a), some (.ref sl), some vt, some (.ref L), some (.int c), w5] ∧ Same H H' ∧ H' L = some (.lst (ys'.map V.int)) ∧ Sts p ys' ∧ ∀ g, g ∈ ys' ↔ g ∈ ys ∨ ∃ m ∈ (rowAt p c).take j, m = mvOf s g)
      ⟨w5, ys, rfl, s2, hL2, hsy, by simp⟩ (fun j σ H' _ ⟨_, _, _, s3, _⟩ => SqT.of (s3 _ _ hrr)) ?_ ?_
    · rintro j x σ H3 hj ⟨w5, ys', rfl, s3, hL3, hsy', hm'⟩
      obtain ⟨t, ht2, tx2⟩ := hzs.at hj
      rw [List.getElem?_map] at ht2
      obtain ⟨m, hmm, rfl⟩ := Option.map_eq_some_iff.mp ht2
      have hmem := List.mem_of_getElem? hmm
      obtain ⟨q, rfl, hq⟩ := (tx2.kt s3.kt).mv
      have tk : ∀ g, (∃ x ∈ (rowAt p c).take (j + 1), x = mvOf s g) ↔ (∃ x ∈ (rowAt p c).take j, x = mvOf s g) ∨ m = mvOf s g := fun g => by
        rw [List.take_succ, hmm]
        constructor
        · rintro ⟨x, hx, e⟩
          rcases List.mem_append.mp hx with u | u
          · exact .inl ⟨x, u, e⟩
          · have : x = m := by simpa using u
            exact .inr (this ▸ e)
        · rintro (⟨x, hx, e⟩ | e)
          · exact ⟨x, List.mem_append_left _ hx, e⟩
          · exact ⟨m, List.mem_append_right _ (by simp), e⟩
      refine ⟨_, rfl, _, rfl, q, _, rfl, hq, nw43 _ _ _ _, fun q2 H4 s4 hq2 _ => ?_⟩
      rw [cut43] at hq2
      have t1 : Tv H4 (.ref q2) (stT (m.1, m.2.1, m.2.2.1)) := .t hq2 (.cons (.i _) (.cons (.i _) (.cons (.i _) .nil)))
      have t2 := ht.kt (s3.trans s4).kt
      refine ⟨_, rfl, _, _, t1.dp, t2.dp, shp (by simp), shp (by simp), _, rfl, ?_⟩
      rw [eqv_st]
      by_cases he : (m.1, m.2.1, m.2.2.1) = s
      · rw [decide_eq_true he]
        have em : ∀ g, m = mvOf s g ↔ g = m.2.2.2 := fun g => by
          rw [← he]
          constructor
          · intro z; rw [z]; rfl
          · intro z; rw [z]; rfl
        have hmv : Mov p c s m.2.2.2 := by
          show mvOf s m.2.2.2 ∈ _
          rw [← (em _).mpr rfl]; exact hmem
        have hL4 := s4 _ _ hL3
        refine ⟨_, rfl, q, _, 3, _, rfl, rfl, SqT.of (s4 _ _ hq), rfl, _, rfl, L, _, rfl, .inl (SqL.of hL4), rfl, by simp [flatV], ?_⟩
        have e : inV (.int m.2.2.2) (ys'.map V.int) = decide (m.2.2.2 ∈ ys') := inV_ints _ _
        refine ⟨!decide (m.2.2.2 ∈ ys'), by rw [← e]; rfl, ?_⟩
        by_cases hin : m.2.2.2 ∈ ys'
        · rw [decide_eq_true hin]
          refine ⟨_, ys', rfl, s3.trans s4, hL4, hsy', fun g => ?_⟩
          rw [tk g, hm' g, em g]
          constructor
          · rintro (h | h)
            · exact .inl h
            · exact .inr (.inl h)
          · rintro (h | h | h)
            · exact .inl h
            · exact .inr h
            · rw [h]; exact (hm' _).mp hin
        · rw [decide_eq_false hin]
          have hyl := hsy'.len ok
          refine ⟨_, rfl, .inl ⟨rfl, _, SqL.of hL4⟩, _, rfl, q, _, 3, _, rfl, rfl, SqT.of (s4 _ _ hq), rfl, L, _, _, rfl, rfl, hL4, by rw [List.length_map]; omega, fun H5 o5 h5 => ?_⟩
          refine ⟨_, ys' ++ [m.2.2.2], rfl, fun b o q => by rw [o5 b (ne_of_none q nL)]; exact (s3.trans s4) b o q, by rw [h5, List.map_append]; rfl, ⟨fun x hx => ?_, ?_⟩, fun g => ?_⟩
          · rcases List.mem_append.mp hx with u | u
            · exact hsy'.v x u
            · rw [List.mem_singleton.mp u]; exact (hmv.ok ok hcv).2
          · rw [List.nodup_append]
            exact ⟨hsy'.n, by simp, fun x hx y hy e => hin (by rw [List.mem_singleton.mp hy] at e; rw [← e]; exact hx)⟩
          · rw [tk g, List.mem_append, hm' g, em g, List.mem_singleton]
            constructor
            · rintro ((h | h) | h)
              · exact .inl h
              · exact .inr (.inl h)
              · exact .inr (.inr h)
            · rintro (h | h | h)
              · exact .inl (.inl h)
              · exact .inl (.inr h)
              · exact .inr h
      · rw [decide_eq_false he]
        refine ⟨_, ys', rfl, s3.trans s4, s4 _ _ hL3, hsy', fun g => ?_⟩
        rw [tk g, hm' g]
        have : ¬ m = mvOf s g := fun z => he (by rw [z]; rfl)
        simp [this]
    · rintro σ H3 ⟨w5, ys', rfl, s3, hL3, hsy', hm'⟩
      refine ⟨_, _, ys', rfl, s3, hL3, hsy', fun g => ?_⟩
      rw [hm' g, hm g, hzl, List.take_length, List.take_succ, hc]
      constructor
      · rintro (⟨x, h, e⟩ | ⟨m, h, e⟩)
        · exact ⟨x, List.mem_append_left _ h, e⟩
        · exact ⟨c, List.mem_append_right _ (by simp), by show mvOf s g ∈ _; rw [← e]; exact h⟩
      · rintro ⟨x, h, e⟩
        rcases List.mem_append.mp h with u | u
        · exact .inl ⟨x, u, e⟩
        · have : x = c := by simpa using u
          subst this
          exact .inr ⟨_, e, rfl⟩
  · rintro σ H2 ⟨w4, w5, ys, rfl, s2, hL2, hsy, hm⟩
    rw [List.length_map, List.take_length] at hm
    have hyl := hsy.len ok
    refine ⟨_, rfl, L, ys, rfl, hL2, by omega, fun ys2 hp2 ha2 q H3 s3 hq _ => ?_⟩
    refine ⟨q, _, rfl, hq, fun r H4 s4 hr4 _ => ?_⟩
    exact k _ H4 ys2 (s2.trans (s3.trans s4)) (tv_is hr4) ⟨fun x hx => hsy.v x (hp2.mem_iff.mp hx), hp2.nodup_iff.mpr hsy.n⟩ fun g => by rw [hp2.mem_iff, hm g]
end
end Fx

/-! the law: shuts, true days, steps, boards -/
namespace Fx
open PySem PySem.Spec PyProof.Rows L2
theorem But.ktl {G : Addr} {H H' : Hp} {xs : List V} (b : But G H H') (h : H G = some (.lst xs)) : KT H H' := fun c ys q => b c _ q (ne_of q h fun z => nomatch z)
def bdT (b : List Int × Int) : T := boardT b.1 b.2
theorem Tv.bd {H : Hp} {v : V} {ms : List Int} {last : Int} (h : Tv H v (boardT ms last)) : ∃ a b, v = .ref a ∧ H a = some (.tup [.ref b, .int last]) ∧ H b = some (.tup (ms.map V.int)) := by
  obtain ⟨a, ys, e, h1, h2⟩ := h.tup
  cases h2 with
  | cons p q => cases q with
    | cons q r =>
      cases r
      have := q.int
      subst this
      obtain ⟨b, rfl, hb⟩ := p.is
      exact ⟨a, b, e, h1, hb⟩
section
variable {P : Program} {w : World} {K : PySem.W.Frag} {mg : Str → Option Value} {base : Heap}
def sp__law_shuts (K : PySem.W.Frag) : Sp := fun vs H Q _ => ∃ (vp vl : V) (p : Parts) (l : List Int) (last : Int), vs = [vp, vl, .int last] ∧ Tv H vp (partsT p) ∧ POk p ∧ Tv H vl (isT l) ∧ Sts p l ∧
  ∀ (r : Bool) H', Same H H' → (r = true ↔ ∃ a ∈ l, last ∈ cloAt p a) → Q (.bl r) H'
theorem sc__law_shuts : FnScope ["_law_parts_here", "_law_standings", "_law_last", "_law_standing"] ["_law_parts_here", "_law_standings", "_law_last"] (defScope s__law_shuts) := ⟨rfl, rfl, rfl, by decide +kernel, rfl, by decide +kernel, by decide +kernel⟩
theorem c__law_shuts (T : Tx K mg) : Cal P w K mg base 1 "_law_shuts" (sp__law_shuts K) := by
  refine cal_mk T._law_shuts (fun _ _ _ _ _ _ us hl => match us, hl with | [_, _, _], _ => rfl) sc__law_shuts (fun vs H Q E h => by (obtain ⟨vp, vl, p, l, last, rfl, hp, ok, hl, hsl, k⟩ := h; rfl)) (fun f cdv A outer s H vs Q E hr h => ?_)
  obtain ⟨vp, vl, p, l, last, rfl, hp, ok, hl, hsl, k⟩ := h
  refine ⟨_, (pss_one (ps_ret (pe_cmpR op_gt (pe_callB call_len_seq rfl T.f_len PySem.boot_len (pa_cons (pe_lc (own := [("_law_standing", 3)]) rfl sc__law_shuts.nd (pi_tup (pv 1)) (blkOk_by (own := [("_law_standing", 3)]) (N := ["_law_parts_here", "_law_standings", "_law_last", "_law_standing"]) (sc := defScope s__law_shuts) (by decide +kernel)) (fun _ _ _ _ _ => (pg_name (i := 3) sc__law_shuts.nd rfl (Or.inl rfl))) (fun _ _ _ _ _ => pts_one (pt_cmpR (op_in_seqK (K := K)) (pv 2) (pe_ix (ix_tupK (K := K)) (pe_ix (ix_tupK (K := K)) (pv 0) pe_int (fun _ _ => rfl)) (pv 3) (fun _ _ => rfl)) rfl)) (fun _ _ _ _ _ => (pv 3))) pa_nil)) pe_int (nomark _)))), ?_⟩
  obtain ⟨a, v1, v2, v3, rfl, ha, h1, h2, h3⟩ := hp.parts
  obtain ⟨sl, rfl, hS⟩ := hl.is
  obtain ⟨ca, cs, rfl, hca, hcs⟩ := h3.tup
  refine ⟨_, rfl, sl, rfl, ⟨_, SqT.of hS⟩, fun D hD => ?_⟩
  refine lcT (K := K) (fun i ts => 0 < ts.length ↔ ∃ b ∈ l.take i, last ∈ cloAt p b) hD hS (by rw [List.length_map]; have := hsl.len ok; omega) (by simp) (fun i x H2 ts hi s1 _ hJ R R' c1 c2 => ?_) fun H2 ts s1 lt _ hJ => ?_
  · rw [List.getElem?_map] at hi
    obtain ⟨b, hb, rfl⟩ := Option.map_eq_some_iff.mp hi
    have hbv := hsl.v b (List.mem_of_getElem? hb)
    obtain ⟨c, hc1, hc2⟩ := hcs.get (i := b.toNat) (t := isT (cloAt p b)) (by rw [List.getElem?_map, cloAt_get ok hbv]; rfl)
    obtain ⟨q, rfl, hq⟩ := (hc2.kt s1.kt).is
    refine ⟨rfl, _, rfl, _, rfl, a, _, 2, _, rfl, rfl, SqT.of (s1 _ _ ha), rfl, _, rfl, ca, _, b, _, rfl, rfl, SqT.of (s1 _ _ hca), at_of (j := b.toNat) (by have := hbv.1; omega) hc1, ?_⟩
    refine ⟨q, _, rfl, .inr (SqT.of hq), rfl, by simp [flatV], ?_⟩
    have e : inV (.int last) ((cloAt p b).map V.int) = decide (last ∈ cloAt p b) := inV_ints _ _
    refine ⟨decide (last ∈ cloAt p b), by rw [← e]; rfl, ?_⟩
    by_cases hin : last ∈ cloAt p b
    · rw [decide_eq_true hin]
      refine ⟨_, rfl, c1 _ _ _ (Same.refl _) (.i _) ⟨fun _ => ?_, fun _ => by rw [List.length_append, List.length_singleton]; omega⟩⟩
      rw [List.take_succ, hb]
      exact ⟨b, List.mem_append_right _ (by simp), hin⟩
    · rw [decide_eq_false hin]
      refine c2 _ (Same.refl _) ?_
      show 0 < ts.length ↔ ∃ b ∈ l.take (i + 1), last ∈ cloAt p b
      rw [hJ, List.take_succ, hb]
      constructor
      · rintro ⟨c, hc, h⟩
        exact ⟨c, List.mem_append_left _ hc, h⟩
      · rintro ⟨c, hc, h⟩
        rcases List.mem_append.mp hc with z | z
        · exact ⟨c, z, h⟩
        · have : c = b := by simpa using z
          exact absurd (this ▸ h) hin
  · rw [List.length_map, List.take_length] at hJ
    obtain ⟨xs, hx1, hx2⟩ := lt
    refine ⟨_, _, rfl, .inl (SqL.of hx1), _, _, rfl, rfl, k _ H2 s1 ?_⟩
    rw [decide_eq_true_eq, ← hJ, hx2.length]
    omega
def sp__law_is_true (K : PySem.W.Frag) : Sp := fun vs H Q _ => ∃ (vp vt : V) (p : Parts) (ss : List Stp) (last : Int), vs = [vp, vt] ∧ Tv H vp (partsT p) ∧ POk p ∧ Tv H vt (dayT ss last) ∧
  ∀ (r : Bool) H', Same H H' → (r = true ↔ TrueDay p ss last) → Q (.bl r) H'
theorem sc__law_is_true : FnScope ["_law_parts_here", "_law_day", "_law_standings", "_law_step", "_law_standing"] ["_law_parts_here", "_law_day"] (defScope s__law_is_true) := ⟨rfl, rfl, rfl, by decide +kernel, rfl, by decide +kernel, by decide +kernel⟩
theorem c__law_is_true (T : Tx K mg) : Cal P w K mg base 2 "_law_is_true" (sp__law_is_true K) := by
  refine cal_mk T._law_is_true (fun _ _ _ _ _ _ us hl => match us, hl with | [_, _], _ => rfl) sc__law_is_true (fun vs H Q E h => by (obtain ⟨vp, vt, p, ss, last, rfl, hp, ok, ht, k⟩ := h; rfl)) (fun f cdv A outer s H vs Q E hr h => ?_)
  obtain ⟨vp, vt, p, ss, last, rfl, hp, ok, ht, k⟩ := h
  refine ⟨_, (pss_cons (ps_set (i := 2) sc__law_is_true.nd rfl (Or.inl rfl) (pe_tupS (pa_cons pe_int pa_nil)))
    (pss_cons (ps_for PassesOwn.never rfl (pi_tup (pe_ix ix_tup (pv 1) pe_int (fun _ _ => rfl))) (pg_name (i := 3) sc__law_is_true.nd rfl (Or.inl rfl))
      (pss_one (ps_set (i := 2) sc__law_is_true.nd rfl (Or.inl rfl) (pe_c (c__law_behind T) hr (by decide) rfl (pa_cons (pv 0) (pa_cons (pv 2) (pa_cons (pv 3) pa_nil)))))))
    (pss_one (ps_ret (pe_cmpR op_gt (pe_callB call_len_seq rfl T.f_len PySem.boot_len (pa_cons (pe_lc (own := [("_law_standing", 4)]) rfl sc__law_is_true.nd (pi_tup (pv 2)) (blkOk_by (own := [("_law_standing", 4)]) (N := ["_law_parts_here", "_law_day", "_law_standings", "_law_step", "_law_standing"]) (sc := defScope s__law_is_true) (by decide +kernel)) (fun _ _ _ _ _ => (pg_name (i := 4) sc__law_is_true.nd rfl (Or.inl rfl))) (fun _ _ _ _ _ => pts_one (pt_cmpR (op_in_seqK (K := K)) (pe_ix (ix_tupK (K := K)) (pv 1) pe_int (fun _ _ => rfl)) (pe_ix (ix_tupK (K := K)) (pe_ix (ix_tupK (K := K)) (pv 0) pe_int (fun _ _ => rfl)) (pv 4) (fun _ _ => rfl)) rfl)) (fun _ _ _ _ _ => (pv 4))) pa_nil)) pe_int (nomark _)))))), ?_⟩
  obtain ⟨d, b, xs, rfl, hd, hb, hx, hxl⟩ := ht.day
  obtain ⟨a, v1, v2, v3, rfl, ha, h1, h2, h3⟩ := hp.parts
  refine ⟨by show 1 ≤ _; decide, fun z H1 s1 hz _ => ?_⟩
  refine ⟨_, rfl, d, _, 0, _, rfl, rfl, SqT.of (s1 _ _ hd), rfl, b, rfl, ⟨_, SqT.of (s1 _ _ hb)⟩, for_tup (K := K) (xs := xs) (fun i σ H' => ∃ (v : V) (l : List Int) (w3 : Option V), σ = [some (.ref a), some (.ref d), some v, w3, none] ∧ Same H H' ∧ Tv H' v (isT l) ∧ Sts p l ∧ ∀ g, g ∈ l ↔ Walk p (ss.take i) g)
    ⟨.ref z, [0], none, rfl, s1, tv_is hz, ⟨fun x hx => by rw [List.mem_singleton.mp hx]; exact val0 ok, by simp⟩, fun g => by rw [List.take_zero, walk_nil, List.mem_singleton]⟩ (fun i σ H' _ ⟨_, _, _, _, s2, _⟩ => SqT.of (s2 _ _ hb)) ?_ ?_⟩
  · rintro i x σ H' hi ⟨v, l, w3, rfl, s2, hv, hl, hm⟩
    obtain ⟨t, ht, tx⟩ := hx.at hi
    rw [List.getElem?_map] at ht
    obtain ⟨s, hs1, rfl⟩ := Option.map_eq_some_iff.mp ht
    refine ⟨_, rfl, _, rfl, _, rfl, _, v, x, p, l, s, rfl, hp.kt s2.kt, ok, hv, hl, tx.kt s2.kt, fun v' H2 ys s3 hv' hys hm' => ?_⟩
    refine ⟨v', ys, _, rfl, s2.trans s3, hv', hys, fun g => ?_⟩
    rw [hm' g, List.take_succ, hs1]
    show _ ↔ Walk p (ss.take i ++ [s]) g
    rw [walk_snoc]
    exact ⟨fun ⟨a, h1, h2⟩ => ⟨a, (hm a).mp h1, h2⟩, fun ⟨a, h1, h2⟩ => ⟨a, (hm a).mpr h1, h2⟩⟩
  · rintro σ H' ⟨v, l, w3, rfl, s2, hv, hl, hm⟩
    rw [hxl, List.take_length] at hm
    obtain ⟨sl, rfl, hS⟩ := hv.is
    obtain ⟨ca, cs, rfl, hca, hcs⟩ := h3.tup
    refine ⟨_, rfl, sl, rfl, ⟨_, SqT.of hS⟩, fun D hD => ?_⟩
    refine lcT (K := K) (fun i ts => 0 < ts.length ↔ ∃ b ∈ l.take i, last ∈ cloAt p b) hD hS (by rw [List.length_map]; have := hl.len ok; omega) (by simp) (fun i x H2 ts hi s1 _ hJ R R' c1 c2 => ?_) fun H2 ts s1 lt _ hJ => ?_
    · have s02 := s2.trans s1
      rw [List.getElem?_map] at hi
      obtain ⟨b, hb, rfl⟩ := Option.map_eq_some_iff.mp hi
      have hbv := hl.v b (List.mem_of_getElem? hb)
      obtain ⟨c, hc1, hc2⟩ := hcs.get (i := b.toNat) (t := isT (cloAt p b)) (by rw [List.getElem?_map, cloAt_get ok hbv]; rfl)
      obtain ⟨q, rfl, hq⟩ := (hc2.kt s02.kt).is
      refine ⟨rfl, _, rfl, d, _, 1, _, rfl, rfl, SqT.of (s02 _ _ hd), rfl, _, rfl, a, _, 2, _, rfl, rfl, SqT.of (s02 _ _ ha), rfl, _, rfl, ca, _, b, _, rfl, rfl, SqT.of (s02 _ _ hca), at_of (j := b.toNat) (by have := hbv.1; omega) hc1, ?_⟩
      refine ⟨q, _, rfl, .inr (SqT.of hq), rfl, by simp [flatV], ?_⟩
      have e : inV (.int last) ((cloAt p b).map V.int) = decide (last ∈ cloAt p b) := inV_ints _ _
      refine ⟨decide (last ∈ cloAt p b), by rw [← e]; rfl, ?_⟩
      by_cases hin : last ∈ cloAt p b
      · rw [decide_eq_true hin]
        refine ⟨_, rfl, c1 _ _ _ (Same.refl _) (.i _) ⟨fun _ => ?_, fun _ => by rw [List.length_append, List.length_singleton]; omega⟩⟩
        rw [List.take_succ, hb]
        exact ⟨b, List.mem_append_right _ (by simp), hin⟩
      · rw [decide_eq_false hin]
        refine c2 _ (Same.refl _) ?_
        show 0 < ts.length ↔ ∃ b ∈ l.take (i + 1), last ∈ cloAt p b
        rw [hJ, List.take_succ, hb]
        constructor
        · rintro ⟨c, hc, h⟩
          exact ⟨c, List.mem_append_left _ hc, h⟩
        · rintro ⟨c, hc, h⟩
          rcases List.mem_append.mp hc with z | z
          · exact ⟨c, z, h⟩
          · have : c = b := by simpa using z
            exact absurd (this ▸ h) hin
    · rw [List.length_map, List.take_length] at hJ
      obtain ⟨xs', hx1, hx2⟩ := lt
      refine ⟨_, _, rfl, .inl (SqL.of hx1), _, _, rfl, rfl, k _ H2 (s2.trans s1) ?_⟩
      rw [decide_eq_true_eq]
      have e1 : (0 : Int) < (xs'.length : Int) ↔ 0 < ts.length := by rw [hx2.length]; omega
      rw [e1, hJ]
      exact ⟨fun ⟨c, h1, h2⟩ => ⟨c, (hm c).mp h1, h2⟩, fun ⟨c, h1, h2⟩ => ⟨c, (hm c).mpr h1, h2⟩⟩
def sp__law_steps_of (K : PySem.W.Frag) : Sp := fun vs H Q _ => ∃ (vp : V) (p : Parts), vs = [vp] ∧ Tv H vp (partsT p) ∧ POk p ∧ ∀ l H' (ss : List Stp), Same H H' → LT H' l (ss.map stT) → (∀ s ∈ ss, StOk p s) → ss.length ≤ 27 → Q (.ref l) H'
theorem sc__law_steps_of : FnScope ["_law_parts_here", "_law_slips", "_law_answers", "_law_marks", "_law_found", "_law_slip", "_law_answer", "_law_mark"] ["_law_parts_here"] (defScope s__law_steps_of) := ⟨rfl, rfl, rfl, by decide +kernel, rfl, by decide +kernel, by decide +kernel⟩
theorem c__law_steps_of (T : Tx K mg) : Cal P w K mg base 1 "_law_steps_of" (sp__law_steps_of K) := by
  refine cal_mk T._law_steps_of (fun _ _ _ _ _ _ us hl => match us, hl with | [_], _ => rfl) sc__law_steps_of (fun vs H Q E h => by (obtain ⟨vp, p, rfl, hp, ok, k⟩ := h; rfl)) (fun f cdv A outer s H vs Q E hr h => ?_)
  obtain ⟨vp, p, rfl, hp, ok, k⟩ := h
  refine ⟨_, (pss_cons (ps_asg (pe_ix ix_tup (pv 0) pe_int (fun _ _ => rfl)) (pg_tup rfl (pgs_cons (pg_name (i := 1) sc__law_steps_of.nd rfl (Or.inl rfl)) (pgs_cons (pg_name (i := 2) sc__law_steps_of.nd rfl (Or.inl rfl)) (pgs_cons (pg_name (i := 3) sc__law_steps_of.nd rfl (Or.inl rfl)) pgs_nil)))))
    (pss_cons (ps_set (i := 4) sc__law_steps_of.nd rfl (Or.inl rfl) (pe_lstS pa_nil))
    (pss_cons (ps_for PassesOwn.never rfl (pi_range1 rfl T.f_range (pa_cons (pv 1) pa_nil)) (pg_name (i := 5) sc__law_steps_of.nd rfl (Or.inr rfl))
      (pss_one (ps_for PassesOwn.never rfl (pi_range1 rfl T.f_range (pa_cons (pv 2) pa_nil)) (pg_name (i := 6) sc__law_steps_of.nd rfl (Or.inr rfl))
        (pss_one (ps_set (i := 4) sc__law_steps_of.nd rfl (Or.inl rfl) (pe_op op_catS (pv 4) (pe_lc (own := [("_law_mark", 7)]) rfl sc__law_steps_of.nd (pi_range1 rfl T.f_range (pa_cons (pv 3) pa_nil)) (blkOk_by (own := [("_law_mark", 7)]) (N := ["_law_parts_here", "_law_slips", "_law_answers", "_law_marks", "_law_found", "_law_slip", "_law_answer", "_law_mark"]) (sc := defScope s__law_steps_of) (by decide +kernel)) (fun _ _ _ _ _ => (pg_name (i := 7) sc__law_steps_of.nd rfl (Or.inl rfl))) (fun _ _ _ _ _ => pts_nil) (fun _ _ _ _ _ => (pe_tupS (pa_cons (pv 5) (pa_cons (pv 6) (pa_cons (pv 7) pa_nil))))))))))))
    (pss_one (ps_ret (pv 4)))))), ?_⟩
  obtain ⟨a, v1, v2, v3, rfl, ha, h1, h2, h3⟩ := hp.parts
  obtain ⟨z, rfl, hz⟩ := h1.stp
  have g1 := ok.s1
  have g2 := ok.s2
  have g3 := ok.s3
  refine ⟨_, rfl, a, _, 0, _, rfl, rfl, SqT.of ha, rfl, z, _, rfl, SqT.of hz, rfl, _, _, rfl, _, _, rfl, _, _, rfl, rfl, ?_⟩
  refine ⟨by exact Nat.zero_le _, fun F H1 s1 hF nF => ?_⟩
  refine ⟨_, rfl, p.sz.1, rfl, by omega, by omega, for_range (lo := 0) (n := p.sz.1.toNat) (fun i σ H' => ∃ (F : Addr) (w5 w6 w7 : Option V) (ss : List Stp), σ = [some (.ref a), some (.int p.sz.1), some (.int p.sz.2.1), some (.int p.sz.2.2), some (.ref F), w5, w6, w7] ∧ Same H H' ∧ LT H' F (ss.map stT) ∧ (∀ s ∈ ss, StOk p s) ∧ ss.length ≤ 9 * i)
    ⟨F, none, none, none, [], rfl, s1, ⟨[], hF, .nil⟩, (fun _ z => nomatch z), Nat.le_refl _⟩ ?_ ?_⟩
  · rintro i σ H2 hi ⟨F, w5, w6, w7, ss, rfl, s2, lF, hok, hlen⟩
    refine ⟨_, rfl, p.sz.2.1, rfl, by omega, by omega, for_range (lo := 0) (n := p.sz.2.1.toNat) (fun j σ H' => ∃ (F : Addr) (w6 w7 : Option V) (ss : List Stp), σ = [some (.ref a), some (.int p.sz.1), some (.int p.sz.2.1), some (.int p.sz.2.2), some (.ref F), some (.int (0 + (i : Int))), w6, w7] ∧ Same H H' ∧ LT H' F (ss.map stT) ∧ (∀ s ∈ ss, StOk p s) ∧ ss.length ≤ 9 * i + 3 * j)
      ⟨F, _, _, ss, rfl, s2, lF, hok, hlen⟩ ?_ ?_⟩
    · rintro j σ H3 hj ⟨F, w6, w7, ss, rfl, s3, ⟨acc, hacc, tacc⟩, hok, hlen⟩
      refine ⟨_, rfl, _, rfl, p.sz.2.2, rfl, by omega, by omega, fun D hD => ?_⟩
      refine lcR (lo := 0) (n := p.sz.2.2.toNat) (fun i' ts => ∃ l : List Stp, ts = l.map stT ∧ (∀ s ∈ l, StOk p s) ∧ l.length ≤ i') hD (by omega) ⟨[], rfl, (fun _ z => nomatch z), Nat.le_refl _⟩ (fun i' H4 ts hi' s4 hl ⟨l, el, okl, ll⟩ R R' c1 c2 => ?_) (fun H4 ts s4 lD hl ⟨l, el, okl, ll⟩ => ?_)
      · refine ⟨rfl, _, rfl, _, rfl, _, rfl, by show 3 ≤ _; decide, fun q H5 s5 hq nq => ?_⟩
        refine c1 _ _ _ s5 (.t hq (.cons (.i _) (.cons (.i _) (.cons (.i _) .nil)))) ⟨l ++ [(0 + (i : Int), 0 + (j : Int), 0 + (i' : Int))], by rw [List.map_append, el]; rfl, fun s hs => ?_, by rw [List.length_append, List.length_singleton]; omega⟩
        rcases List.mem_append.mp hs with u | u
        · exact okl s u
        · rw [List.mem_singleton.mp u]
          exact ⟨⟨by simp only; omega, by simp only; omega⟩, ⟨by simp only; omega, by simp only; omega⟩, ⟨by simp only; omega, by simp only; omega⟩⟩
      · obtain ⟨zs, hz2, tz2⟩ := lD
        rw [el] at tz2
        have l1 := tacc.length
        have l2 := tz2.length
        rw [List.length_map] at l1 l2
        refine ⟨F, D, acc, zs, rfl, rfl, s4 _ _ hacc, hz2, by omega, fun q H5 s5 hq nq => ?_⟩
        refine ⟨q, _, _, ss ++ l, rfl, s3.trans (s4.trans s5), ⟨_, hq, ?_⟩, fun s hs => ?_, by rw [List.length_append]; omega⟩
        · rw [List.map_append]
          exact (tacc.kt (s4.trans s5).kt).append (tz2.kt s5.kt)
        · rcases List.mem_append.mp hs with u | u
          · exact hok s u
          · exact okl s u
    · rintro σ H3 ⟨F, w6, w7, ss, rfl, s3, lF, hok, hlen⟩
      exact ⟨F, _, _, _, ss, rfl, s3, lF, hok, by omega⟩
  · rintro σ H2 ⟨F, w5, w6, w7, ss, rfl, s2, lF, hok, hlen⟩
    exact ⟨_, rfl, k F H2 ss s2 lF hok (by omega)⟩
def sp__law_boards (K : PySem.W.Frag) : Sp := fun vs H Q _ => ∃ (vp : V) (p : Parts) (m : Int), vs = [vp, .int m] ∧ Tv H vp (partsT p) ∧ POk p ∧ (1 ≤ m ∧ m ≤ 2) ∧ ∀ l H' (bs : List (List Int × Int)), Same H H' → LT H' l (bs.map bdT) → (∀ b ∈ bs, b.1.length = m.toNat) → bs.length ≤ 27 → Q (.ref l) H'
theorem sc__law_boards : FnScope ["_law_parts_here", "_law_many", "_law_rows", "_law_turn", "_law_longer", "_law_row_here", "_law_found", "_law_last", "_law_mark"] ["_law_parts_here", "_law_many"] (defScope s__law_boards) := ⟨rfl, rfl, rfl, by decide +kernel, rfl, by decide +kernel, by decide +kernel⟩
theorem c__law_boards (T : Tx K mg) : Cal P w K mg base 1 "_law_boards" (sp__law_boards K) := by
  refine cal_mk T._law_boards (fun _ _ _ _ _ _ us hl => match us, hl with | [_, _], _ => rfl) sc__law_boards (fun vs H Q E h => by (obtain ⟨vp, p, m, rfl, hp, ok, hm, k⟩ := h; rfl)) (fun f cdv A outer s H vs Q E hr h => ?_)
  obtain ⟨vp, p, m, rfl, hp, ok, hm, k⟩ := h
  refine ⟨_, (pss_cons (ps_set (i := 2) sc__law_boards.nd rfl (Or.inl rfl) (pe_lstS (pa_cons (pe_tupS pa_nil) pa_nil)))
    (pss_cons (ps_for PassesOwn.never rfl (pi_range1 rfl T.f_range (pa_cons (pv 1) pa_nil)) (pg_name (i := 3) sc__law_boards.nd rfl (Or.inl rfl))
      (pss_cons (ps_set (i := 4) sc__law_boards.nd rfl (Or.inl rfl) (pe_lstS pa_nil))
      (pss_cons (ps_for PassesOwn.never rfl (pi_list (pv 2)) (pg_name (i := 5) sc__law_boards.nd rfl (Or.inr rfl))
        (pss_one (ps_set (i := 4) sc__law_boards.nd rfl (Or.inl rfl) (pe_op op_catS (pv 4) (pe_lc (own := [("_law_mark", 8)]) rfl sc__law_boards.nd (pi_range1 rfl T.f_range (pa_cons (pe_ix ix_tup (pe_ix ix_tup (pv 0) pe_int (fun _ _ => rfl)) pe_int (fun _ _ => rfl)) pa_nil)) (blkOk_by (own := [("_law_mark", 8)]) (N := ["_law_parts_here", "_law_many", "_law_rows", "_law_turn", "_law_longer", "_law_row_here", "_law_found", "_law_last", "_law_mark"]) (sc := defScope s__law_boards) (by decide +kernel)) (fun _ _ _ _ _ => (pg_name (i := 8) sc__law_boards.nd rfl (Or.inl rfl))) (fun _ _ _ _ _ => pts_nil) (fun _ _ _ _ _ => (pe_op op_catAS (pv 5) (pe_tupS (pa_cons (pv 8) pa_nil)))))))))
      (pss_one (ps_set (i := 2) sc__law_boards.nd rfl (Or.inl rfl) (pv 4))))))
    (pss_cons (ps_set (i := 6) sc__law_boards.nd rfl (Or.inl rfl) (pe_lstS pa_nil))
    (pss_cons (ps_for PassesOwn.never rfl (pi_list (pv 2)) (pg_name (i := 5) sc__law_boards.nd rfl (Or.inr rfl))
      (pss_one (ps_set (i := 6) sc__law_boards.nd rfl (Or.inl rfl) (pe_op op_catS (pv 6) (pe_lc (own := [("_law_last", 7)]) rfl sc__law_boards.nd (pi_range1 rfl T.f_range (pa_cons (pe_ix ix_tup (pe_ix ix_tup (pv 0) pe_int (fun _ _ => rfl)) pe_int (fun _ _ => rfl)) pa_nil)) (blkOk_by (own := [("_law_last", 7)]) (N := ["_law_parts_here", "_law_many", "_law_rows", "_law_turn", "_law_longer", "_law_row_here", "_law_found", "_law_last", "_law_mark"]) (sc := defScope s__law_boards) (by decide +kernel)) (fun _ _ _ _ _ => (pg_name (i := 7) sc__law_boards.nd rfl (Or.inl rfl))) (fun _ _ _ _ _ => pts_nil) (fun _ _ _ _ _ => (pe_tupS (pa_cons (pv 5) (pa_cons (pv 7) pa_nil)))))))))
    (pss_one (ps_ret (pv 6))))))), ?_⟩
  obtain ⟨a, v1, v2, v3, rfl, ha, h1, h2, h3⟩ := hp.parts
  obtain ⟨z, rfl, hz⟩ := h1.stp
  have g3 := ok.s3
  refine ⟨by exact Nat.zero_le _, fun e0 H1 s1 he0 _ => ?_⟩
  refine ⟨by show 1 ≤ _; decide, fun R0 H2 s2 hR0 _ => ?_⟩
  refine ⟨_, rfl, m, rfl, by omega, by omega, for_range (lo := 0) (n := m.toNat) (fun i σ H' => ∃ (R : Addr) (w3 w4 w5 w6 w7 w8 : Option V) (rows : List (List Int)), σ = [some (.ref a), some (.int m), some (.ref R), w3, w4, w5, w6, w7, w8] ∧ Same H H' ∧ LT H' R (rows.map isT) ∧ (∀ r ∈ rows, r.length = i) ∧ rows.length ≤ 3 ^ i)
    ⟨R0, none, none, none, none, none, none, [[]], rfl, s1.trans s2, ⟨_, hR0, .cons (tv_is (l := []) (s2 _ _ he0)) .nil⟩, by simp, by simp⟩ ?_ ?_⟩
  · rintro i σ H3 hi ⟨R, w3, w4, w5, w6, w7, w8, rows, rfl, s3, ⟨xs, hR, tR⟩, hrl, hrn⟩
    have hxl := tR.length
    rw [List.length_map] at hxl
    refine ⟨by exact Nat.zero_le _, fun G H4 s4 hG _ => ?_⟩
    refine ⟨_, rfl, R, rfl, ⟨_, SqL.of (s4 _ _ hR)⟩, for_list (K := K) (xs := xs) (fun j σ H' => ∃ (G : Addr) (w5 w6 w7 w8 : Option V) (acc : List (List Int)), σ = [some (.ref a), some (.int m), some (.ref R), some (.int (0 + (i : Int))), some (.ref G), w5, w6, w7, w8] ∧ Same H3 H' ∧ LT H' G (acc.map isT) ∧ (∀ r ∈ acc, r.length = i + 1) ∧ acc.length ≤ 3 * j)
      ⟨G, _, _, _, _, [], rfl, s4, ⟨[], hG, .nil⟩, (fun _ z => nomatch z), Nat.le_refl _⟩ (fun j σ H' _ ⟨_, _, _, _, _, _, _, s5, _⟩ => SqL.of (s5 _ _ hR)) ?_ ?_⟩
    · rintro j x σ H5 hj ⟨G, w5, w6, w7, w8, acc, rfl, s5, ⟨ga, hga, tga⟩, hal, han⟩
      obtain ⟨t, ht, tx⟩ := tR.at hj
      rw [List.getElem?_map] at ht
      obtain ⟨r, hrr, rfl⟩ := Option.map_eq_some_iff.mp ht
      have hjl := (List.getElem?_eq_some_iff.mp hrr).1
      have hre := hrl r (List.mem_of_getElem? hrr)
      have s05 := s3.trans s5
      have hbnd : rows.length ≤ 9 := by
        have : 3 ^ i ≤ 3 ^ 2 := Nat.pow_le_pow_right (by decide) (by omega)
        omega
      refine ⟨_, rfl, _, rfl, a, _, 0, _, rfl, rfl, SqT.of (s05 _ _ ha), rfl, z, _, 2, _, rfl, rfl, SqT.of (s05 _ _ hz), rfl, p.sz.2.2, rfl, by omega, by omega, fun D hD => ?_⟩
      refine lcR (lo := 0) (n := p.sz.2.2.toNat) (fun i' ts => ∃ l : List (List Int), ts = l.map isT ∧ (∀ s ∈ l, s.length = i + 1) ∧ l.length ≤ i') hD (by omega) ⟨[], rfl, (fun _ z => nomatch z), Nat.le_refl _⟩ (fun i' H6 ts hi' s6 hl ⟨l, el, okl, ll⟩ R1 R2 c1 c2 => ?_) (fun H6 ts s6 lD hl ⟨l, el, okl, ll⟩ => ?_)
      · obtain ⟨q, rfl, hq⟩ := (tx.kt (s5.trans s6).kt).is
        refine ⟨rfl, _, rfl, _, rfl, by show 1 ≤ _; decide, fun u H7 s7 hu nu => ?_⟩
        refine ⟨q, u, _, _, _, rfl, rfl, s7 _ _ hq, hu, by rw [List.length_map, hre]; show i + 1 ≤ _; omega, fun y H8 s8 hy => ?_⟩
        refine c1 _ _ _ (s7.trans s8) (tv_is (l := r ++ [0 + (i' : Int)]) (by rw [List.map_append]; exact hy)) ⟨l ++ [r ++ [0 + (i' : Int)]], by rw [List.map_append, el]; rfl, fun s hs => ?_, by rw [List.length_append, List.length_singleton]; omega⟩
        rcases List.mem_append.mp hs with u | u
        · exact okl s u
        · rw [List.mem_singleton.mp u, List.length_append, hre]; rfl
      · obtain ⟨zs, hz2, tz2⟩ := lD
        rw [el] at tz2
        have l1 := tga.length
        have l2 := tz2.length
        rw [List.length_map] at l1 l2
        refine ⟨G, D, ga, zs, rfl, rfl, s6 _ _ hga, hz2, by omega, fun q H7 s7 hq nq => ?_⟩
        refine ⟨q, _, _, _, _, acc ++ l, rfl, s5.trans (s6.trans s7), ⟨_, hq, ?_⟩, fun s hs => ?_, by rw [List.length_append]; omega⟩
        · rw [List.map_append]
          exact (tga.kt (s6.trans s7).kt).append (tz2.kt s7.kt)
        · rcases List.mem_append.mp hs with u | u
          · exact hal s u
          · exact okl s u
    · rintro σ H5 ⟨G, w5, w6, w7, w8, acc, rfl, s5, lG, hal, han⟩
      exact ⟨_, rfl, G, _, _, _, _, _, _, acc, rfl, s3.trans s5, lG, hal, by rw [Nat.pow_succ]; omega⟩
  · rintro σ H3 ⟨R, w3, w4, w5, w6, w7, w8, rows, rfl, s3, ⟨xs, hR, tR⟩, hrl, hrn⟩
    have hxl := tR.length
    rw [List.length_map] at hxl
    have hbnd : rows.length ≤ 9 := by
      have : 3 ^ m.toNat ≤ 3 ^ 2 := Nat.pow_le_pow_right (by decide) (by omega)
      omega
    refine ⟨by exact Nat.zero_le _, fun G H4 s4 hG _ => ?_⟩
    refine ⟨_, rfl, R, rfl, ⟨_, SqL.of (s4 _ _ hR)⟩, for_list (K := K) (xs := xs) (fun j σ H' => ∃ (G : Addr) (w3 w4 w5 w7 w8 : Option V) (acc : List (List Int × Int)), σ = [some (.ref a), some (.int m), some (.ref R), w3, w4, w5, some (.ref G), w7, w8] ∧ Same H3 H' ∧ LT H' G (acc.map bdT) ∧ (∀ b ∈ acc, b.1.length = m.toNat) ∧ acc.length ≤ 3 * j)
      ⟨G, _, _, _, _, _, [], rfl, s4, ⟨[], hG, .nil⟩, (fun _ z => nomatch z), Nat.le_refl _⟩ (fun j σ H' _ ⟨_, _, _, _, _, _, _, _, s5, _⟩ => SqL.of (s5 _ _ hR)) ?_ ?_⟩
    · rintro j x σ H5 hj ⟨G, w3, w4, w5, w7, w8, acc, rfl, s5, ⟨ga, hga, tga⟩, hal, han⟩
      obtain ⟨t, ht, tx⟩ := tR.at hj
      rw [List.getElem?_map] at ht
      obtain ⟨r, hrr, rfl⟩ := Option.map_eq_some_iff.mp ht
      have hjl := (List.getElem?_eq_some_iff.mp hrr).1
      have hre := hrl r (List.mem_of_getElem? hrr)
      have s05 := s3.trans s5
      refine ⟨_, rfl, _, rfl, a, _, 0, _, rfl, rfl, SqT.of (s05 _ _ ha), rfl, z, _, 2, _, rfl, rfl, SqT.of (s05 _ _ hz), rfl, p.sz.2.2, rfl, by omega, by omega, fun D hD => ?_⟩
      refine lcR (lo := 0) (n := p.sz.2.2.toNat) (fun i' ts => ∃ l : List (List Int × Int), ts = l.map bdT ∧ (∀ s ∈ l, s.1.length = m.toNat) ∧ l.length ≤ i') hD (by omega) ⟨[], rfl, (fun _ z => nomatch z), Nat.le_refl _⟩ (fun i' H6 ts hi' s6 hl ⟨l, el, okl, ll⟩ R1 R2 c1 c2 => ?_) (fun H6 ts s6 lD hl ⟨l, el, okl, ll⟩ => ?_)
      · refine ⟨rfl, _, rfl, _, rfl, by show 2 ≤ _; decide, fun u H7 s7 hu nu => ?_⟩
        refine c1 _ _ _ s7 (.t hu (.cons (tx.kt (s5.trans (s6.trans s7)).kt) (.cons (.i _) .nil))) ⟨l ++ [(r, 0 + (i' : Int))], by rw [List.map_append, el]; rfl, fun s hs => ?_, by rw [List.length_append, List.length_singleton]; omega⟩
        rcases List.mem_append.mp hs with u | u
        · exact okl s u
        · rw [List.mem_singleton.mp u]; exact hre
      · obtain ⟨zs, hz2, tz2⟩ := lD
        rw [el] at tz2
        have l1 := tga.length
        have l2 := tz2.length
        rw [List.length_map] at l1 l2
        refine ⟨G, D, ga, zs, rfl, rfl, s6 _ _ hga, hz2, by omega, fun q H7 s7 hq nq => ?_⟩
        refine ⟨q, _, _, _, _, _, acc ++ l, rfl, s5.trans (s6.trans s7), ⟨_, hq, ?_⟩, fun s hs => ?_, by rw [List.length_append]; omega⟩
        · rw [List.map_append]
          exact (tga.kt (s6.trans s7).kt).append (tz2.kt s7.kt)
        · rcases List.mem_append.mp hs with u | u
          · exact hal s u
          · exact okl s u
    · rintro σ H5 ⟨G, w3, w4, w5, w7, w8, acc, rfl, s5, lG, hal, han⟩
      exact ⟨_, rfl, k G H5 acc (s3.trans s5) lG hal (by omega)⟩
end
end Fx

/-! the law: the days of a board; forging on boards -/
namespace Fx
open PySem PySem.Spec PyProof.Rows L2
def rwT (r : List Stp × List Int) : T := .t [.t (r.1.map stT), isT r.2]
theorem Tv.rw {H : Hp} {v : V} {r : List Stp × List Int} (h : Tv H v (rwT r)) : ∃ a b v2 xs, v = .ref a ∧ H a = some (.tup [.ref b, v2]) ∧ H b = some (.tup xs) ∧ TvA H xs (r.1.map stT) ∧ Tv H v2 (isT r.2) := by
  obtain ⟨a, ys, e, h1, h2⟩ := h.tup
  cases h2 with
  | cons p q => cases q with
    | cons q r =>
      cases r
      obtain ⟨b, xs, rfl, h3, h4⟩ := p.tup
      exact ⟨a, b, _, xs, e, h1, h3, h4, q⟩
structure RwOk (p : Parts) (ms : List Int) (r : List Stp × List Int) : Prop where
  st : Sts p r.2
  mr : marks r.1 = ms
  wk : ∀ g ∈ r.2, Walk p r.1 g
theorem RwOk.len {p : Parts} {ms : List Int} {r : List Stp × List Int} (o : RwOk p ms r) : r.1.length = ms.length := by
  have := congrArg List.length o.mr
  simpa [marks] using this
section
variable {P : Program} {w : World} {K : PySem.W.Frag} {mg : Str → Option Value} {base : Heap}
def sp__law_of_board (K : PySem.W.Frag) : Sp := fun vs H Q _ => ∃ (vp vb : V) (p : Parts) (ms : List Int) (last : Int), vs = [vp, vb] ∧ Tv H vp (partsT p) ∧ POk p ∧ Tv H vb (boardT ms last) ∧ ms.length ≤ 2 ∧
  ∀ l H' (ds : List (List Stp)), Same H H' → LT H' l (ds.map fun ss => dayT ss last) → (∀ ss ∈ ds, marks ss = ms ∧ TrueDay p ss last) → ds.length ≤ 1000 → Q (.ref l) H'
theorem sc__law_of_board : FnScope ["_law_parts_here", "_law_the_board", "_law_rows", "_law_mark", "_law_longer", "_law_steps", "_law_standings", "_law_step", "_law_goals", "_law_one"] ["_law_parts_here", "_law_the_board"] (defScope s__law_of_board) := ⟨rfl, rfl, rfl, by decide +kernel, rfl, by decide +kernel, by decide +kernel⟩
theorem c__law_of_board (T : Tx K mg) : Cal P w K mg base 2 "_law_of_board" (sp__law_of_board K) := by
  refine cal_mk T._law_of_board (fun _ _ _ _ _ _ us hl => match us, hl with | [_, _], _ => rfl) sc__law_of_board (fun vs H Q E h => by (obtain ⟨vp, vb, p, ms, last, rfl, hp, ok, hb, hml, k⟩ := h; rfl)) (fun f cdv A outer s H vs Q E hr h => ?_)
  obtain ⟨vp, vb, p, ms, last, rfl, hp, ok, hb, hml, k⟩ := h
  refine ⟨_, (pss_cons (ps_set (i := 2) sc__law_of_board.nd rfl (Or.inl rfl) (pe_lstS (pa_cons (pe_tupS (pa_cons (pe_tupS pa_nil) (pa_cons (pe_tupS (pa_cons pe_int pa_nil)) pa_nil))) pa_nil)))
    (pss_cons (ps_for PassesOwn.never rfl (pi_tup (pe_ix ix_tup (pv 1) pe_int (fun _ _ => rfl))) (pg_name (i := 3) sc__law_of_board.nd rfl (Or.inr rfl))
      (pss_cons (ps_set (i := 4) sc__law_of_board.nd rfl (Or.inl rfl) (pe_lstS pa_nil))
      (pss_cons (ps_for PassesOwn.never rfl (pi_list (pv 2)) (pg_tup rfl (pgs_cons (pg_name (i := 5) sc__law_of_board.nd rfl (Or.inl rfl)) (pgs_cons (pg_name (i := 6) sc__law_of_board.nd rfl (Or.inl rfl)) pgs_nil)))
        (pss_one (ps_for PassesOwn.never rfl (pi_list (pe_lc (own := [("_law_one", 9)]) rfl sc__law_of_board.nd (pi_list (pe_c (c__law_steps_of T) hr (by decide) rfl (pa_cons (pv 0) pa_nil))) (blkOk_by (own := [("_law_one", 9)]) (N := ["_law_parts_here", "_law_the_board", "_law_rows", "_law_mark", "_law_longer", "_law_steps", "_law_standings", "_law_step", "_law_goals", "_law_one"]) (sc := defScope s__law_of_board) (by decide +kernel)) (fun _ _ _ _ _ => (pg_name (i := 9) sc__law_of_board.nd rfl (Or.inl rfl))) (fun _ _ _ _ _ => pts_one (pt_cmpR op_eq (pe_ix (ix_tupK (K := K)) (pv 9) pe_int (fun _ _ => rfl)) (pv 3) (nomark _))) (fun _ _ _ _ _ => (pv 9)))) (pg_name (i := 7) sc__law_of_board.nd rfl (Or.inl rfl))
          (pss_cons (ps_set (i := 8) sc__law_of_board.nd rfl (Or.inl rfl) (pe_c (c__law_behind T) hr (by decide) rfl (pa_cons (pv 0) (pa_cons (pv 6) (pa_cons (pv 7) pa_nil)))))
          (pss_one (ps_if (pt_cmpR op_gt (pe_callB call_len_seq rfl T.f_len PySem.boot_len (pa_cons (pv 8) pa_nil)) pe_int (nomark _))
            (pss_one (ps_expr (pe_bm PySem.F.plainAttrs_list PySem.F.slot_list_append PySem.F.type_list_append mt_appendS (pv 4) (pa_cons (pe_tupS (pa_cons (pe_op op_catAS (pv 5) (pe_tupS (pa_cons (pv 7) pa_nil))) (pa_cons (pv 8) pa_nil))) pa_nil))))
            pss_nil))))))
      (pss_one (ps_set (i := 2) sc__law_of_board.nd rfl (Or.inl rfl) (pv 4))))))
    (pss_one (ps_ret (pe_lc (own := [("_law_steps", 5), ("_law_standings", 6)]) rfl sc__law_of_board.nd (pi_list (pv 2)) (blkOk_by (own := [("_law_steps", 5), ("_law_standings", 6)]) (N := ["_law_parts_here", "_law_the_board", "_law_rows", "_law_mark", "_law_longer", "_law_steps", "_law_standings", "_law_step", "_law_goals", "_law_one"]) (sc := defScope s__law_of_board) (by decide +kernel)) (fun _ _ _ _ _ => (pg_tupK (K := K) (n := 2) rfl (pgs_cons (pg_name (i := 5) sc__law_of_board.nd rfl (Or.inl rfl)) (pgs_cons (pg_name (i := 6) sc__law_of_board.nd rfl (Or.inl rfl)) pgs_nil)))) (fun _ _ _ _ _ => pts_one (pt_val (pe_c (c__law_shuts T) hr (by decide) rfl (pa_cons (pv 0) (pa_cons (pv 6) (pa_cons (pe_ix (ix_tupK (K := K)) (pv 1) pe_int (fun _ _ => rfl)) pa_nil)))))) (fun _ _ _ _ _ => (pe_tupS (pa_cons (pv 5) (pa_cons (pe_ix (ix_tupK (K := K)) (pv 1) pe_int (fun _ _ => rfl)) pa_nil))))))))), ?_⟩
  obtain ⟨b, mb, rfl, hb0, hmb⟩ := hb.bd
  refine ⟨by exact Nat.zero_le _, fun t1 H1 s1 ht1 _ => ?_⟩
  refine ⟨by show 1 ≤ _; decide, fun t2 H2 s2 ht2 _ => ?_⟩
  refine ⟨by show 2 ≤ _; decide, fun t3 H3 s3 ht3 _ => ?_⟩
  refine ⟨by show 1 ≤ _; decide, fun R0 H4 s4 hR0 _ => ?_⟩
  have s14 := s1.trans (s2.trans (s3.trans s4))
  have t0 : Tv H4 (.ref t3) (rwT ([], [0])) := .t (s4 _ _ ht3) (.cons (.t ((s2.trans (s3.trans s4)) _ _ ht1) .nil) (.cons (tv_is (l := [0]) ((s3.trans s4) _ _ ht2)) .nil))
  refine ⟨_, rfl, b, _, 0, _, rfl, rfl, SqT.of (s14 _ _ hb0), rfl, mb, rfl, ⟨_, SqT.of (s14 _ _ hmb)⟩, for_tup (K := K) (xs := ms.map V.int) (fun i σ H' => ∃ (R : Addr) (w3 w4 w5 w6 w7 w8 w9 : Option V) (rows : List (List Stp × List Int)), σ = [some vp, some (.ref b), some (.ref R), w3, w4, w5, w6, w7, w8, w9] ∧ Same H H' ∧ LT H' R (rows.map rwT) ∧ (∀ r ∈ rows, RwOk p (ms.take i) r) ∧ rows.length ≤ 27 ^ i)
    ⟨R0, none, none, none, none, none, none, none, [([], [0])], rfl, s14, ⟨_, hR0, .cons t0 .nil⟩, fun r hr => ?_, by simp⟩ (fun i σ H' _ ⟨_, _, _, _, _, _, _, _, _, _, s5, _⟩ => SqT.of (s5 _ _ hmb)) ?_ ?_⟩
  · rw [List.mem_singleton.mp hr]
    refine ⟨⟨fun x hx => ?_, by simp⟩, rfl, fun g hg => ?_⟩
    · rw [List.mem_singleton.mp hx]; exact val0 ok
    · rw [List.mem_singleton.mp hg]; exact .nil
  · rintro i x σ H5 hi ⟨R, w3, w4, w5, w6, w7, w8, w9, rows, rfl, s5, ⟨xs, hR, tR⟩, okr, hrn⟩
    rw [List.getElem?_map] at hi
    obtain ⟨mk, hmk, rfl⟩ := Option.map_eq_some_iff.mp hi
    have hil := (List.getElem?_eq_some_iff.mp hmk).1
    have hxl := tR.length
    rw [List.length_map] at hxl
    have tk : ms.take (i + 1) = ms.take i ++ [mk] := by rw [List.take_succ, hmk]; rfl
    have hrb : rows.length ≤ 27 := by
      have : 27 ^ i ≤ 27 ^ 1 := Nat.pow_le_pow_right (by decide) (by omega)
      omega
    refine ⟨by exact Nat.zero_le _, fun G H6 s6 hG nG => ?_⟩
    have s56 := s5.trans s6
    have nGR : R ≠ G := ne_of_none hR nG
    refine ⟨_, rfl, R, rfl, ⟨_, SqL.of (s6 _ _ hR)⟩, for_list (K := K) (xs := xs) (fun j σ H' => ∃ (w5 w6 w7 w8 w9 : Option V) (acc : List (List Stp × List Int)), σ = [some vp, some (.ref b), some (.ref R), some (.int mk), some (.ref G), w5, w6, w7, w8, w9] ∧ Same H5 H' ∧ LT H' G (acc.map rwT) ∧ (∀ r ∈ acc, RwOk p (ms.take (i + 1)) r) ∧ acc.length ≤ 27 * j)
      ⟨_, _, _, _, _, [], rfl, s6, ⟨[], hG, .nil⟩, (fun _ z => nomatch z), Nat.le_refl _⟩ (fun j σ H' _ ⟨_, _, _, _, _, _, _, s7, _⟩ => SqL.of (s7 _ _ hR)) ?_ ?_⟩
    · rintro j x σ H7 hj ⟨w5, w6, w7, w8, w9, acc, rfl, s7, lG, oka, han⟩
      obtain ⟨t, ht, tx⟩ := tR.at hj
      rw [List.getElem?_map] at ht
      obtain ⟨r, hrr, rfl⟩ := Option.map_eq_some_iff.mp ht
      have hjl := (List.getElem?_eq_some_iff.mp hrr).1
      have ro := okr r (List.mem_of_getElem? hrr)
      have s07 := s5.trans s7
      obtain ⟨ra, rb, rv, rx, rfl, hra, hrb2, trx, trv⟩ := (tx.kt s7.kt).rw
      have hrxl := trx.length
      rw [List.length_map] at hrxl
      have hr1 := ro.len
      rw [List.length_take] at hr1
      refine ⟨ra, _, rfl, SqT.of hra, rfl, _, _, rfl, _, _, rfl, rfl, ?_⟩
      refine ⟨_, rfl, vp, p, rfl, hp.kt s07.kt, ok, fun l H8 ss s8 ⟨sx, hl, tl⟩ okss hssl => ?_⟩
      have hsxl := tl.length
      rw [List.length_map] at hsxl
      refine ⟨l, rfl, ⟨_, SqL.of hl⟩, fun D hD => ?_⟩
      refine lcL (K := K) (fun i' ts => ∃ q : List Stp, ts = q.map stT ∧ (∀ s ∈ q, StOk p s ∧ s.2.2 = mk)) hD hl (by omega) ⟨[], rfl, (fun _ z => nomatch z)⟩ (fun i' x H9 ts hx s9 hl' ⟨q, eq, okq⟩ R1 R2 c1 c2 => ?_) (fun H9 ts s9 lD hl' ⟨q, eq, okq⟩ => ?_)
      · obtain ⟨t, ht2, tx2⟩ := tl.at hx
        rw [List.getElem?_map] at ht2
        obtain ⟨s, hs, rfl⟩ := Option.map_eq_some_iff.mp ht2
        obtain ⟨sa, rfl, hsa⟩ := (tx2.kt s9.kt).stp
        refine ⟨rfl, _, rfl, sa, _, 2, _, rfl, rfl, SqT.of hsa, rfl, _, rfl, rfl, _, rfl, ?_⟩
        have e : decide (V.int s.2.2 = V.int mk) = decide (s.2.2 = mk) := by simp
        rw [e]
        by_cases he : s.2.2 = mk
        · rw [decide_eq_true he]
          refine ⟨_, rfl, c1 _ _ _ (Same.refl _) (tx2.kt s9.kt) ⟨q ++ [s], by rw [List.map_append, eq]; rfl, fun y hy => ?_⟩⟩
          rcases List.mem_append.mp hy with u | u
          · exact okq y u
          · rw [List.mem_singleton.mp u]; exact ⟨okss s (List.mem_of_getElem? hs), he⟩
        · rw [decide_eq_false he]
          exact c2 _ (Same.refl _) ⟨q, eq, okq⟩
      · obtain ⟨dx, hDx, tD⟩ := lD
        have hdl := tD.length
        rw [eq] at tD
        rw [eq, List.length_map] at hl' hdl
        have s79 := s8.trans s9
        obtain ⟨ga, hga, tga⟩ := lG
        have hga9 := s79 _ _ hga
        have nDG : D ≠ G := (ne_of_none (s8 _ _ hga) hD).symm
        refine ⟨D, rfl, ⟨_, SqL.of hDx⟩, for_list (K := K) (xs := dx) (fun j' σ H' => ∃ (w7 w8 : Option V) (acc : List (List Stp × List Int)), σ = [some vp, some (.ref b), some (.ref R), some (.int mk), some (.ref G), some (.ref rb), some rv, w7, w8, w9] ∧ But G H9 H' ∧ LT H' G (acc.map rwT) ∧ (∀ r ∈ acc, RwOk p (ms.take (i + 1)) r) ∧ acc.length ≤ 27 * j + j')
          ⟨_, _, acc, rfl, But.refl _ _, ⟨ga, hga9, tga.kt s79.kt⟩, oka, han⟩ (fun j' σ H' _ ⟨_, _, _, _, b', _⟩ => SqL.of (b' _ _ hDx nDG)) ?_ ?_⟩
        · rintro j' x σ H10 hj' ⟨w7, w8, acc, rfl, b10, ⟨ga', hga', tga'⟩, oka, han⟩
          have k910 := b10.ktl hga9
          have hj'l := (List.getElem?_eq_some_iff.mp hj').1
          obtain ⟨t, ht2, tx2⟩ := tD.at hj'
          rw [List.getElem?_map] at ht2
          obtain ⟨s, hs, rfl⟩ := Option.map_eq_some_iff.mp ht2
          obtain ⟨os, es⟩ := okq s (List.mem_of_getElem? hs)
          have k010 : KT H H10 := (s07.trans s79).kt.trans k910
          have k710 : KT H7 H10 := s79.kt.trans k910
          refine ⟨_, rfl, _, rfl, _, rfl, vp, rv, x, p, r.2, s, rfl, hp.kt k010, ok, trv.kt k710, ro.st, tx2.kt k910, fun v' H11 ys s11 tv' hys hm => ?_⟩
          obtain ⟨yv, rfl, hyv⟩ := tv'.is
          refine ⟨_, rfl, yv, _, rfl, .inr (SqT.of hyv), _, _, rfl, rfl, _, rfl, ?_⟩
          have hga11 := s11 _ _ hga'
          have b911 : But G H9 H11 := b10.trans (s11.but G)
          rw [List.length_map]
          by_cases hpos : (0 : Int) < (ys.length : Int)
          · rw [decide_eq_true hpos]
            refine ⟨_, rfl, .inl ⟨rfl, _, SqL.of hga11⟩, ?_⟩
            refine ⟨_, rfl, _, rfl, by show 1 ≤ _; decide, fun u1 H12 s12 hu1 _ => ?_⟩
            have k712 : KT H7 H12 := k710.trans (s11.trans s12).kt
            refine ⟨rb, u1, rx, x, [], rfl, rfl, k712 _ _ hrb2, hu1, by show rx.length + 1 ≤ _; omega, fun u2 H13 s13 hu2 => ?_⟩
            refine ⟨_, rfl, by show 2 ≤ _; decide, fun u3 H14 s14' hu3 _ => ?_⟩
            have s1114 := s12.trans (s13.trans s14')
            have hga14 := s1114 _ _ hga11
            have gl := tga'.length
            rw [List.length_map] at gl
            have k714 : KT H7 H14 := k710.trans (s11.trans s1114).kt
            refine ⟨G, ga', _, rfl, rfl, hga14, by omega, fun H15 o15 h15 => ?_⟩
            have k15 : KT H14 H15 := o15.kt hga14 fun _ z => nomatch z
            have tnew : Tv H14 (.ref u3) (rwT (r.1 ++ [s], ys)) := by
              refine .t hu3 (.cons (.t (s14' _ _ hu2) ?_) (.cons (tv_is (s1114 _ _ hyv)) .nil))
              rw [List.map_append]
              exact (trx.kt k714).snoc (tx2.kt (k910.trans (s11.trans s1114).kt))
            refine ⟨_, _, acc ++ [(r.1 ++ [s], ys)], rfl, fun c o q z => by rw [o15 c z]; exact s1114 c o (b911 c o q z), ⟨_, h15, ?_⟩, fun r' hr' => ?_, by rw [List.length_append, List.length_singleton]; omega⟩
            · rw [List.map_append]
              exact (tga'.kt ((s11.trans s1114).kt.trans k15)).snoc (tnew.kt k15)
            · rcases List.mem_append.mp hr' with u | u
              · exact oka r' u
              · rw [List.mem_singleton.mp u]
                refine ⟨hys, ?_, fun g hg => ?_⟩
                · show marks (r.1 ++ [s]) = _
                  rw [tk, marks, List.map_append, ← ro.mr, ← es]
                  rfl
                · obtain ⟨a', ha', hmv⟩ := (hm g).mp hg
                  exact .snoc (ro.wk a' ha') hmv
          · rw [decide_eq_false hpos]
            exact ⟨_, _, acc, rfl, b911, ⟨ga', hga11, tga'.kt s11.kt⟩, oka, by omega⟩
        · rintro σ H10 ⟨w7, w8, acc, rfl, b10, lG', oka, han⟩
          refine ⟨_, _, _, _, _, acc, rfl, fun c o q => b10 c o (s79 c o (s7 c o q)) (ne_of_none q nG), lG', oka, by omega⟩
    · rintro σ H7 ⟨w5, w6, w7, w8, w9, acc, rfl, s7, lG, oka, han⟩
      exact ⟨_, rfl, G, _, _, _, _, _, _, _, acc, rfl, s5.trans s7, lG, oka, by rw [Nat.pow_succ]; omega⟩
  · rintro σ H5 ⟨R, w3, w4, w5, w6, w7, w8, w9, rows, rfl, s5, ⟨xs, hR, tR⟩, okr, hrn⟩
    rw [List.length_map] at okr hrn
    rw [List.take_length] at okr
    have hxl := tR.length
    rw [List.length_map] at hxl
    have hrb : rows.length ≤ 729 := by
      have : 27 ^ ms.length ≤ 27 ^ 2 := Nat.pow_le_pow_right (by decide) (by omega)
      omega
    refine ⟨_, rfl, R, rfl, ⟨_, SqL.of hR⟩, fun D hD => ?_⟩
    refine lcL (K := K) (fun i' ts => ∃ ds : List (List Stp), ts = ds.map (fun ss => dayT ss last) ∧ (∀ ss ∈ ds, marks ss = ms ∧ TrueDay p ss last)) hD hR (by omega) ⟨[], rfl, (fun _ z => nomatch z)⟩ (fun i' x H6 ts hx s6 hl' ⟨ds, eq, okd⟩ R1 R2 c1 c2 => ?_) (fun H6 ts s6 lD hl' ⟨ds, eq, okd⟩ => ?_)
    · obtain ⟨t, ht, tx⟩ := tR.at hx
      rw [List.getElem?_map] at ht
      obtain ⟨r, hrr, rfl⟩ := Option.map_eq_some_iff.mp ht
      have ro := okr r (List.mem_of_getElem? hrr)
      have s06 := s5.trans s6
      obtain ⟨ra, rb, rv, rx, rfl, hra, hrb2, trx, trv⟩ := (tx.kt s6.kt).rw
      refine ⟨ra, _, rfl, SqT.of hra, rfl, _, _, rfl, _, _, rfl, rfl, rfl, ?_⟩
      refine ⟨_, rfl, _, rfl, _, rfl, b, _, 1, _, rfl, rfl, SqT.of (s06 _ _ hb0), rfl, vp, rv, p, r.2, last, rfl, hp.kt s06.kt, ok, trv, ro.st, fun rr H7 s7 hrr2 => ⟨_, rfl, ?_⟩⟩
      cases rr with
      | false => exact c2 _ s7 ⟨ds, eq, okd⟩
      | true =>
        obtain ⟨a', ha', hcl⟩ := hrr2.mp rfl
        refine ⟨_, rfl, _, rfl, b, _, 1, _, rfl, rfl, SqT.of ((s06.trans s7) _ _ hb0), rfl, by show 2 ≤ _; decide, fun u H8 s8 hu _ => ?_⟩
        refine c1 _ _ _ (s7.trans s8) (.t hu (.cons (.t ((s7.trans s8) _ _ hrb2) (trx.kt (s7.trans s8).kt)) (.cons (.i _) .nil))) ⟨ds ++ [r.1], by rw [List.map_append, eq]; rfl, fun ss hss => ?_⟩
        rcases List.mem_append.mp hss with z | z
        · exact okd ss z
        · rw [List.mem_singleton.mp z]
          exact ⟨ro.mr, a', ro.wk a' ha', hcl⟩
    · rw [eq] at lD
      rw [eq, List.length_map] at hl'
      exact k D H6 ds (s5.trans s6) lD okd (by omega)
def sp__law_on_boards (K : PySem.W.Frag) : Sp := fun vs H Q _ => ∃ (vp : V) (p : Parts) (m : Int), vs = [vp, .int m] ∧ Tv H vp (partsT p) ∧ POk p ∧ (1 ≤ m ∧ m ≤ 2) ∧ ∀ (r : Bool) H', Same H H' → (r = true → CanForge p) → Q (.bl r) H'
theorem sc__law_on_boards : FnScope ["_law_parts_here", "_law_many", "_law_the_board", "_law_every", "_law_place", "_law_slips", "_law_day", "_law_slip", "_law_answer", "_law_mark"] ["_law_parts_here", "_law_many"] (defScope s__law_on_boards) := ⟨rfl, rfl, rfl, by decide +kernel, rfl, by decide +kernel, by decide +kernel⟩
theorem c__law_on_boards (T : Tx K mg) : Cal P w K mg base 3 "_law_on_boards" (sp__law_on_boards K) := by
  refine cal_mk T._law_on_boards (fun _ _ _ _ _ _ us hl => match us, hl with | [_, _], _ => rfl) sc__law_on_boards (fun vs H Q E h => by (obtain ⟨vp, p, m, rfl, hp, ok, hm, k⟩ := h; rfl)) (fun f cdv A outer s H vs Q E hr h => ?_)
  obtain ⟨vp, p, m, rfl, hp, ok, hm, k⟩ := h
  refine ⟨_, (pss_cons (ps_for PassesOwn.never rfl (pi_list (pe_c (c__law_boards T) hr (by decide) rfl (pa_cons (pv 0) (pa_cons (pv 1) pa_nil)))) (pg_name (i := 2) sc__law_on_boards.nd rfl (Or.inl rfl))
      (pss_cons (ps_set (i := 3) sc__law_on_boards.nd rfl (Or.inl rfl) (pe_c (c__law_of_board T) hr (by decide) rfl (pa_cons (pv 0) (pa_cons (pv 2) pa_nil))))
      (pss_one (ps_for PassesOwn.never rfl (pi_range1 rfl T.f_range (pa_cons (pv 1) pa_nil)) (pg_name (i := 4) sc__law_on_boards.nd rfl (Or.inl rfl))
        (pss_cons (ps_set (i := 5) sc__law_on_boards.nd rfl (Or.inl rfl) pe_dnewKS)
        (pss_one (ps_for PassesOwn.never rfl (pi_list (pv 3)) (pg_name (i := 6) sc__law_on_boards.nd rfl (Or.inl rfl))
          (pss_cons (ps_asg (pe_ix ix_tup (pe_ix ix_tup (pv 6) pe_int (fun _ _ => rfl)) (pv 4) (fun _ _ => rfl)) (pg_tup rfl (pgs_cons (pg_name (i := 7) sc__law_on_boards.nd rfl (Or.inl rfl)) (pgs_cons (pg_name (i := 8) sc__law_on_boards.nd rfl (Or.inl rfl)) (pgs_cons (pg_name (i := 9) sc__law_on_boards.nd rfl (Or.inl rfl)) pgs_nil)))))
          (pss_one (ps_if (pt_cmpR op_ne (pe_dsetdS (pv 5) (pv 8) (pv 7) ⟨rfl, rfl, rfl, rfl⟩) (pv 7) (nomark _))
            (pss_one (ps_ret pe_bl))
            pss_nil))))))))))
    (pss_one (ps_ret pe_bl))), ?_⟩
  refine ⟨_, rfl, _, rfl, vp, p, m, rfl, hp, ok, hm, fun l H1 bs s1 ⟨xs, hl, tl⟩ okb hbl => ?_⟩
  refine ⟨l, rfl, ⟨_, SqL.of hl⟩, for_list (K := K) (xs := xs) (fun i σ H' => ∃ (w2 w3 w4 w5 w6 w7 w8 w9 : Option V), σ = [some vp, some (.int m), w2, w3, w4, w5, w6, w7, w8, w9] ∧ Same H1 H')
    ⟨none, none, none, none, none, none, none, none, rfl, Same.refl _⟩ (fun i σ H' _ ⟨_, _, _, _, _, _, _, _, _, s2⟩ => SqL.of (s2 _ _ hl)) ?_ ?_⟩
  · rintro i x σ H2 hi ⟨w2, w3, w4, w5, w6, w7, w8, w9, rfl, s2⟩
    obtain ⟨t, ht, tx⟩ := tl.at hi
    rw [List.getElem?_map] at ht
    obtain ⟨⟨ms, last⟩, hbb, rfl⟩ := Option.map_eq_some_iff.mp ht
    have hml : ms.length = m.toNat := okb _ (List.mem_of_getElem? hbb)
    have s02 := s1.trans s2
    refine ⟨_, rfl, _, rfl, vp, x, p, ms, last, rfl, hp.kt s02.kt, ok, tx.kt s2.kt, by omega, fun e H3 ds s3 ⟨ys, he, te⟩ okd hdl => ?_⟩
    refine ⟨_, rfl, m, rfl, by omega, by omega, for_range (lo := 0) (n := m.toNat) (fun j σ H' => ∃ (w4 w5 w6 w7 w8 w9 : Option V), σ = [some vp, some (.int m), some x, some (.ref e), w4, w5, w6, w7, w8, w9] ∧ Same H3 H')
      ⟨_, _, _, _, _, _, rfl, Same.refl _⟩ ?_ ?_⟩
    · rintro j σ H4 hj ⟨w4, w5, w6, w7, w8, w9, rfl, s4⟩
      refine fun d H5 s5 hd nd => ?_
      have s35 := s4.trans s5
      have he5 := s35 _ _ he
      refine ⟨_, rfl, e, rfl, ⟨_, SqL.of he5⟩, for_list (K := K) (xs := ys) (fun i' σ H' => ∃ (w6 w7 w8 w9 : Option V) (kvs : List (L2.Key × V)), σ = [some vp, some (.int m), some x, some (.ref e), some (.int (0 + (j : Int))), some (.ref d), w6, w7, w8, w9] ∧ But d H5 H' ∧ H' d = some (.dK kvs) ∧ kvs.length ≤ i' ∧
          ∀ kv ∈ kvs, ∃ (ss : List Stp) (s : Stp), ss ∈ ds ∧ ss[j]? = some s ∧ kv = (Sum.inl s.2.1, V.int s.1))
        ⟨_, _, _, _, [], rfl, But.refl _ _, hd, Nat.le_refl _, fun _ z => nomatch z⟩ (fun i' σ H' _ ⟨_, _, _, _, _, _, b', _⟩ => SqL.of (b' _ _ he5 (ne_of he5 hd fun z => nomatch z))) ?_ ?_⟩
      · rintro i' y σ H6 hi' ⟨w6, w7, w8, w9, kvs, rfl, b6, hd6, hkl, hkv⟩
        have k56 : KT H5 H6 := fun c ys q => b6 c _ q (ne_of q hd fun z => nomatch z)
        obtain ⟨t, ht2, ty⟩ := te.at hi'
        rw [List.getElem?_map] at ht2
        obtain ⟨ss, hss, rfl⟩ := Option.map_eq_some_iff.mp ht2
        have hil := (List.getElem?_eq_some_iff.mp hss).1
        obtain ⟨emk, etd⟩ := okd ss (List.mem_of_getElem? hss)
        have hsl : ss.length = m.toNat := by
          have := congrArg List.length emk
          rw [marks, List.length_map, hml] at this
          exact this
        obtain ⟨da, db, dx, rfl, hda, hdb, tdx, hdxl⟩ := (ty.kt (s35.kt.trans k56)).day
        obtain ⟨s, hs⟩ : ∃ s, ss[j]? = some s := ⟨_, List.getElem?_eq_getElem (by omega)⟩
        obtain ⟨sv, hsv, tsv⟩ := tdx.get (i := j) (t := stT s) (by rw [List.getElem?_map, hs]; rfl)
        obtain ⟨sa, rfl, hsa⟩ := tsv.stp
        refine ⟨_, rfl, da, _, 0, _, rfl, rfl, SqT.of hda, rfl, _, rfl, db, _, _, _, rfl, rfl, SqT.of hdb, at_of (j := j) (by omega) hsv, sa, _, rfl, SqT.of hsa, rfl, _, _, rfl, _, _, rfl, _, _, rfl, rfl, ?_⟩
        refine ⟨_, rfl, ⟨d, kvs, rfl, hd6⟩, _, rfl, _, rfl, d, kvs, Sum.inl s.2.1, rfl, hd6, rfl, by omega, fun v hv => ?_, fun hv => ?_⟩
        · obtain ⟨ss', s', hss', hs', ekv⟩ := hkv _ (valV_mem hv)
          obtain ⟨ek, ev⟩ := Prod.mk.inj ekv
          have ek := Sum.inl.inj ek
          subst ev
          refine ⟨_, rfl, rfl, _, rfl, ?_⟩
          have e : (!decide (V.int s'.1 = V.int s.1)) = decide (s'.1 ≠ s.1) := by simp
          rw [e]
          by_cases hne : s'.1 ≠ s.1
          · rw [decide_eq_true hne]
            obtain ⟨emk', etd'⟩ := okd ss' hss'
            refine k true H6 (fun c o q => b6 c o (s35 c o (s3 c o (s02 c o q))) (ne_of_none ((s3.trans s4) c o (s02 c o q)) nd)) fun _ => ?_
            exact forge_days etd' etd (by rw [emk', emk]) hs' hs ek.symm hne
          · rw [decide_eq_false hne]
            exact ⟨_, _, _, _, kvs, rfl, b6, hd6, by omega, hkv⟩
        · refine fun H7 o7 h7 => ?_
          refine ⟨_, rfl, rfl, _, rfl, ?_⟩
          have e : (!decide (V.int s.1 = V.int s.1)) = false := by simp
          rw [e]
          refine ⟨_, _, _, _, kvs ++ [(Sum.inl s.2.1, .int s.1)], rfl, fun c o q z => by rw [o7 c z]; exact b6 c o q z, h7, by rw [List.length_append, List.length_singleton]; omega, fun kv hkv2 => ?_⟩
          rcases List.mem_append.mp hkv2 with z | z
          · exact hkv kv z
          · exact ⟨ss, s, List.mem_of_getElem? hss, hs, List.mem_singleton.mp z⟩
      · rintro σ H6 ⟨w6, w7, w8, w9, kvs, rfl, b6, hd6, hkl, hkv⟩
        exact ⟨_, _, _, _, _, _, rfl, fun c o q => b6 c o (s35 c o q) (ne_of_none (s4 c o q) nd)⟩
    · rintro σ H4 ⟨w4, w5, w6, w7, w8, w9, rfl, s4⟩
      exact ⟨_, _, _, _, _, _, _, _, rfl, s2.trans (s3.trans s4)⟩
  · rintro σ H2 ⟨w2, w3, w4, w5, w6, w7, w8, w9, rfl, s2⟩
    exact k false H2 (s1.trans s2) fun z => nomatch z
end
end Fx

/-! the law's own search; a forging told -/
namespace Fx
open PySem PySem.Spec PyProof.Rows L2
def cd (s : Stt) : Stp := (s.2.1, s.2.2, if s.1 = true then 1 else 0)
def cfT (s : Stt) : T := stT (cd s)
theorem cfT_inj {s t : Stt} (h : cfT s = cfT t) : s = t := by
  obtain ⟨a, b, c⟩ := s
  obtain ⟨a', b', c'⟩ := t
  have h := stT_inj h
  simp only [cd, Prod.mk.injEq] at h
  obtain ⟨h1, h2, h3⟩ := h
  subst h1 h2
  cases a <;> cases a' <;> simp at h3 ⊢
@[simp] theorem cfT_ints (s : Stt) : (cfT s).ints = true := rfl
@[simp] theorem cfT_dep (s : Stt) : (cfT s).dep = 1 := stT_dep _
theorem any_cf (L : List Stt) (s : Stt) : ((T.pys (L.map cfT)).any fun z => PyData.eqv z (cfT s).py) = decide (s ∈ L) := any_eq cfT_ints (fun _ _ => cfT_inj) L s
theorem shp_cf (L : List Stt) : SeqAt.shaped (.list (T.pys (L.map cfT))) = true := shpL fun x hx => by
  obtain ⟨m, _, rfl⟩ := List.mem_map.mp hx
  simp
/-- the law's search, as far as it has come -/
structure CI (p : Parts) (L : List Stt) (n : Nat) : Prop where
  b0 : L[0]? = some (false, 0, 0)
  rc : ∀ s ∈ L, Reach p s
  ct : ∀ k : Int, (L.filter fun x => decide (codS x = k)).length ≤ 2
  cl : ∀ (i : Nat) (s : Stt), i < n → L[i]? = some s → ¬ Final p s ∧ ∀ s' st tw, Edge p s s' st tw → s' ∈ L
  le : n ≤ L.length
theorem split_len {α : Type} (f : α → Bool) : ∀ l : List α, l.length = (l.filter f).length + (l.filter fun x => !f x).length
  | [] => rfl
  | x :: l => by
    have := split_len f l
    cases h : f x <;> simp [List.filter_cons, h] <;> omega
theorem two_le {α : Type} (c : α → Int) : ∀ {N : Nat} {l : List α}, (∀ x ∈ l, 0 ≤ c x ∧ c x < N) → (∀ k : Int, (l.filter fun x => decide (c x = k)).length ≤ 2) → l.length ≤ 2 * N
  | 0, [], _, _ => by simp
  | 0, x :: l, h, _ => by have := h x List.mem_cons_self; omega
  | N + 1, l, h, h2 => by
    have h3 := split_len (fun x => decide (c x = (N : Int))) l
    have h4 := h2 N
    have h5 := two_le c (N := N) (l := l.filter fun x => !decide (c x = (N : Int))) (fun x hx => by
      obtain ⟨hx1, hx2⟩ := List.mem_filter.mp hx
      have := h x hx1
      simp at hx2
      omega) fun k => Nat.le_trans (List.Sublist.length_le (List.Sublist.filter _ (List.filter_sublist))) (h2 k)
    omega
theorem cod_rng {p : Parts} (ok : POk p) {s : Stt} (h : ValS p s) : 0 ≤ codS s ∧ codS s < 50 := by
  have hn := ok.n
  obtain ⟨⟨a1, a2⟩, a3, a4⟩ := h
  simp only [codS]
  split <;> omega
theorem cod_inj {p : Parts} (ok : POk p) {s t : Stt} (h : ValS p s) (h' : ValS p t) (e : codS s = codS t) : s = t := by
  have hn := ok.n
  obtain ⟨⟨a1, a2⟩, a3, a4⟩ := h
  obtain ⟨⟨b1, b2⟩, b3, b4⟩ := h'
  obtain ⟨sx, ax, bx⟩ := s
  obtain ⟨sy, ay, «by»⟩ := t
  simp only [codS] at e
  simp only at a1 a2 a3 a4 b1 b2 b3 b4
  cases sx <;> cases sy <;> simp at e ⊢ <;> omega
theorem CI.len {p : Parts} (ok : POk p) {L : List Stt} {n : Nat} (b : CI p L n) : L.length ≤ 100 := two_le codS (N := 50) (fun x hx => cod_rng ok ((b.rc x hx).ok ok)) b.ct
theorem ci_init (p : Parts) : CI p [(false, 0, 0)] 0 := ⟨rfl, fun s hs => by rw [List.mem_singleton.mp hs]; exact .init, fun k => Nat.le_trans (List.length_filter_le _ _) (by decide), fun i s h => absurd h (Nat.not_lt_zero _), Nat.zero_le _⟩
def addL (L lt : List Stt) : List Stt := L ++ lt.filter fun x => decide (x ∉ L)
theorem addL_pre {L lt : List Stt} {i : Nat} {x : Stt} (e : L[i]? = some x) : (addL L lt)[i]? = some x := by
  rw [addL, List.getElem?_append_left (List.getElem?_eq_some_iff.mp e).1]; exact e
theorem addL_sub {L lt : List Stt} {x : Stt} (h : x ∈ L) : x ∈ addL L lt := List.mem_append_left _ h
theorem addL_mem {L lt : List Stt} {x : Stt} (h : x ∈ lt) : x ∈ addL L lt := by
  by_cases e : x ∈ L
  · exact addL_sub e
  · exact List.mem_append_right _ (List.mem_filter.mpr ⟨h, decide_eq_true e⟩)
theorem ci_add {p : Parts} (ok : POk p) {L lt : List Stt} {n : Nat} (b : CI p L n) (h1 : ∀ x ∈ lt, Reach p x) (h2 : lt.length ≤ 2) : CI p (addL L lt) n := by
  refine ⟨addL_pre b.b0, fun s hs => ?_, fun k => ?_, fun i s hi e => ?_, ?_⟩
  · rcases List.mem_append.mp hs with z | z
    · exact b.rc s z
    · exact h1 s (List.mem_filter.mp z).1
  · rw [addL, List.filter_append, List.length_append]
    by_cases hk : ∃ y ∈ L, codS y = k
    · obtain ⟨y, hy, ey⟩ := hk
      have e0 : (List.filter (fun x => decide (codS x = k)) (lt.filter fun x => decide (x ∉ L))) = [] := by
        rw [List.filter_eq_nil_iff]
        intro x hx hc
        obtain ⟨hx1, hx2⟩ := List.mem_filter.mp hx
        have hx2 := of_decide_eq_true hx2
        have hc := of_decide_eq_true hc
        exact hx2 (cod_inj ok ((h1 x hx1).ok ok) ((b.rc y hy).ok ok) (hc.trans ey.symm) ▸ hy)
      rw [e0]
      exact b.ct k
    · have e0 : (List.filter (fun x => decide (codS x = k)) L) = [] := by
        rw [List.filter_eq_nil_iff]
        exact fun x hx hc => hk ⟨x, hx, of_decide_eq_true hc⟩
      rw [e0]
      have := List.length_filter_le (fun x => decide (codS x = k)) (lt.filter fun x => decide (x ∉ L))
      have := List.length_filter_le (fun x => decide (x ∉ L)) lt
      simp only [List.length_nil]
      omega
  · have hl := b.le
    have e' : L[i]? = some s := by
      rw [addL, List.getElem?_append_left (by omega)] at e
      exact e
    obtain ⟨q1, q2⟩ := b.cl i s hi e'
    exact ⟨q1, fun s' st tw he => addL_sub (q2 s' st tw he)⟩
  · have := b.le
    rw [addL, List.length_append]
    omega
theorem ci_next {p : Parts} {L : List Stt} {n : Nat} (b : CI p L n) {s : Stt} (e : L[n]? = some s) (hf : ¬ Final p s) (hc : ∀ s' st tw, Edge p s s' st tw → s' ∈ L) : CI p L (n + 1) :=
  ⟨b.b0, b.rc, b.ct, fun i s' hi e' => by
    by_cases q : i = n
    · subst q
      rw [e] at e'
      obtain rfl := Option.some.inj e'
      exact ⟨hf, hc⟩
    · exact b.cl i s' (by omega) e', (List.getElem?_eq_some_iff.mp e).1⟩
theorem ci_end {p : Parts} {L : List Stt} {n : Nat} (b : CI p L n) (hn : ¬ n < L.length) : ¬ CanForge p := by
  have all : ∀ s, Reach p s → s ∈ L := fun s r => by
    induction r with
    | init => exact List.mem_of_getElem? b.b0
    | @step s s' st tw r e ih =>
      obtain ⟨i, hi, ei⟩ := List.getElem_of_mem ih
      exact (b.cl i s (by omega) (by rw [List.getElem?_eq_getElem hi, ei])).2 s' st tw e
  rintro ⟨s, r, hf⟩
  obtain ⟨i, hi, ei⟩ := List.getElem_of_mem (all s r)
  exact (b.cl i s (by omega) (by rw [List.getElem?_eq_getElem hi, ei])).1 hf
def CovM (sb : Bool) (m t : Mv) (L : List Stt) : Prop := (sb, m.2.2.2, t.2.2.2) ∈ L ∧ (m.2.1 = t.2.1 → m.1 ≠ t.1 → (true, m.2.2.2, t.2.2.2) ∈ L)
theorem CovM.add {sb : Bool} {m t : Mv} {L lt : List Stt} (h : CovM sb m t L) : CovM sb m t (addL L lt) := ⟨addL_sub h.1, fun a b => addL_sub (h.2 a b)⟩
theorem tv_cf {H : Hp} {q : Addr} {sb : Bool} {g e c : Int} (h : H q = some (.tup [.int g, .int e, .int c])) (hc : c = if sb = true then 1 else 0) : Tv H (.ref q) (cfT (sb, g, e)) := by
  subst hc
  exact .t h (.cons (.i _) (.cons (.i _) (.cons (.i _) .nil)))
section
variable {P : Program} {w : World} {K : PySem.W.Frag} {mg : Str → Option Value} {base : Heap}
def sp__law_can_forge (K : PySem.W.Frag) : Sp := fun vs H Q _ => ∃ (vp : V) (p : Parts), vs = [vp] ∧ Tv H vp (partsT p) ∧ POk p ∧ ∀ (r : Bool) H', Same H H' → (r = true ↔ CanForge p) → Q (.bl r) H'
theorem sc__law_can_forge : FnScope ["_law_parts_here", "_law_met", "_law_at", "_law_one", "_law_other", "_law_past", "_law_move", "_law_twin", "_law_later", "_law_row_here", "_law_last", "_law_thing"] ["_law_parts_here"] (defScope s__law_can_forge) := ⟨rfl, rfl, rfl, by decide +kernel, rfl, by decide +kernel, by decide +kernel⟩
theorem c__law_can_forge (T : Tx K mg) : Cal P w K mg base 1 "_law_can_forge" (sp__law_can_forge K) := by
  refine cal_mk T._law_can_forge (fun _ _ _ _ _ _ us hl => match us, hl with | [_], _ => rfl) sc__law_can_forge (fun vs H Q E h => by (obtain ⟨vp, p, rfl, hp, ok, k⟩ := h; rfl)) (fun f cdv A outer s H vs Q E hr h => ?_)
  obtain ⟨vp, p, rfl, hp, ok, k⟩ := h
  refine ⟨_, (pss_cons (ps_set (i := 1) sc__law_can_forge.nd rfl (Or.inr rfl) (pe_lstS (pa_cons (pe_tupS (pa_cons pe_int (pa_cons pe_int (pa_cons pe_int pa_nil)))) pa_nil)))
    (pss_cons (ps_set (i := 2) sc__law_can_forge.nd rfl (Or.inl rfl) pe_int)
    (pss_cons (ps_while PassesOwn.never (pt_cmpR op_lt (pv 2) (pe_callB call_len_seq rfl T.f_len PySem.boot_len (pa_cons (pv 1) pa_nil)) (nomark _))
      (pss_cons (ps_asg (pe_ix ix_list (pv 1) (pv 2) (fun _ _ => rfl)) (pg_tup rfl (pgs_cons (pg_name (i := 3) sc__law_can_forge.nd rfl (Or.inl rfl)) (pgs_cons (pg_name (i := 4) sc__law_can_forge.nd rfl (Or.inr rfl)) (pgs_cons (pg_name (i := 5) sc__law_can_forge.nd rfl (Or.inl rfl)) pgs_nil)))))
      (pss_cons (ps_set (i := 2) sc__law_can_forge.nd rfl (Or.inl rfl) (pe_op op_add (pv 2) pe_int))
      (pss_cons (ps_if (PW.pt (pw_and (pt_cmpR op_eq (pv 5) pe_int (nomark _)) (pw_and1 (pt_val (pe_callB (cr_any rfl) rfl T.f_any (by decide +kernel) (pa_cons (pe_lc (own := [("_law_last", 10)]) rfl sc__law_can_forge.nd (pi_tup (pe_ix ix_tup (pe_ix ix_tup (pv 0) pe_int (fun _ _ => rfl)) (pv 3) (fun _ _ => rfl))) (blkOk_by (own := [("_law_last", 10)]) (N := ["_law_parts_here", "_law_met", "_law_at", "_law_one", "_law_other", "_law_past", "_law_move", "_law_twin", "_law_later", "_law_row_here", "_law_last", "_law_thing"]) (sc := defScope s__law_can_forge) (by decide +kernel)) (fun _ _ _ _ _ => (pg_name (i := 10) sc__law_can_forge.nd rfl (Or.inl rfl))) (fun _ _ _ _ _ => pts_nil) (fun _ _ _ _ _ => (pe_cmpR (op_in_seqK (K := K)) (pv 10) (pe_ix (ix_tupK (K := K)) (pe_ix (ix_tupK (K := K)) (pv 0) pe_int (fun _ _ => rfl)) (pv 4) (fun _ _ => rfl)) rfl))) pa_nil))))))
        (pss_one (ps_ret pe_bl))
        pss_nil)
      (pss_one (ps_for PassesOwn.never rfl (pi_tup (pe_ix ix_tup (pe_ix ix_tup (pv 0) pe_int (fun _ _ => rfl)) (pv 3) (fun _ _ => rfl))) (pg_name (i := 6) sc__law_can_forge.nd rfl (Or.inr rfl))
        (pss_one (ps_for PassesOwn.never rfl (pi_list (pe_lc (own := [("_law_row_here", 9)]) rfl sc__law_can_forge.nd (pi_tup (pe_ix ix_tup (pe_ix ix_tup (pv 0) pe_int (fun _ _ => rfl)) (pv 4) (fun _ _ => rfl))) (blkOk_by (own := [("_law_row_here", 9)]) (N := ["_law_parts_here", "_law_met", "_law_at", "_law_one", "_law_other", "_law_past", "_law_move", "_law_twin", "_law_later", "_law_row_here", "_law_last", "_law_thing"]) (sc := defScope s__law_can_forge) (by decide +kernel)) (fun _ _ _ _ _ => (pg_name (i := 9) sc__law_can_forge.nd rfl (Or.inl rfl))) (fun _ _ _ _ _ => pts_one (pt_cmpR op_eq (pe_ix (ix_tupK (K := K)) (pv 9) pe_int (fun _ _ => rfl)) (pe_ix (ix_tupK (K := K)) (pv 6) pe_int (fun _ _ => rfl)) (nomark _))) (fun _ _ _ _ _ => (pv 9)))) (pg_name (i := 7) sc__law_can_forge.nd rfl (Or.inl rfl))
          (pss_cons (ps_set (i := 8) sc__law_can_forge.nd rfl (Or.inl rfl) (pe_lstS (pa_cons (pe_tupS (pa_cons (pe_ix ix_tup (pv 6) pe_int (fun _ _ => rfl)) (pa_cons (pe_ix ix_tup (pv 7) pe_int (fun _ _ => rfl)) (pa_cons (pv 5) pa_nil)))) pa_nil)))
          (pss_cons (ps_if (PW.pt (pw_and (pt_cmpR op_eq (pe_ix ix_tup (pv 6) pe_int (fun _ _ => rfl)) (pe_ix ix_tup (pv 7) pe_int (fun _ _ => rfl)) (nomark _)) (pw_and1 (pt_cmpR op_ne (pe_ix ix_tup (pv 6) pe_int (fun _ _ => rfl)) (pe_ix ix_tup (pv 7) pe_int (fun _ _ => rfl)) (nomark _)))))
            (pss_one (ps_expr (pe_bm PySem.F.plainAttrs_list PySem.F.slot_list_append PySem.F.type_list_append mt_appendS (pv 8) (pa_cons (pe_tupS (pa_cons (pe_ix ix_tup (pv 6) pe_int (fun _ _ => rfl)) (pa_cons (pe_ix ix_tup (pv 7) pe_int (fun _ _ => rfl)) (pa_cons pe_int pa_nil)))) pa_nil))))
            pss_nil)
          (pss_one (ps_expr (pe_bm PySem.F.plainAttrs_list PySem.F.slot_list_extend PySem.F.type_list_extend mt_extendS (pv 1) (pa_cons (pe_lc (own := [("_law_thing", 11)]) rfl sc__law_can_forge.nd (pi_list (pv 8)) (blkOk_by (own := [("_law_thing", 11)]) (N := ["_law_parts_here", "_law_met", "_law_at", "_law_one", "_law_other", "_law_past", "_law_move", "_law_twin", "_law_later", "_law_row_here", "_law_last", "_law_thing"]) (sc := defScope s__law_can_forge) (by decide +kernel)) (fun _ _ _ _ _ => (pg_name (i := 11) sc__law_can_forge.nd rfl (Or.inl rfl))) (fun _ _ _ _ _ => pts_one (pt_cmpR (op_notInDK (K := K) hr.u65) (pv 11) (pv 1) rfl)) (fun _ _ _ _ _ => (pv 11))) pa_nil))))))))))))))
    (pss_one (ps_ret pe_bl))))), ?_⟩
  obtain ⟨a, v1, v2, v3, rfl, ha, h1, h2, h3⟩ := hp.parts
  obtain ⟨b, rws, rfl, hb, hrws⟩ := h2.tup
  obtain ⟨ca, cs, rfl, hca, hcs⟩ := h3.tup
  refine ⟨by show 3 ≤ _; decide, fun t0 H1 s1 ht0 _ => ?_⟩
  refine ⟨by show 1 ≤ _; decide, fun M H2 s2 hM nM => ?_⟩
  have s12 := s1.trans s2
  have nM0 : H M = none := s1.free nM
  have t00 : Tv H2 (.ref t0) (cfT (false, 0, 0)) := tv_cf (s2 _ _ ht0) rfl
  obtain ⟨W, hW⟩ : ∃ W : Nat → L2.St → Hp → Prop, W = fun m σ H' => ∃ (L : List Stt) (n : Nat) (w3 w4 w5 w6 w7 w8 w9 w10 w11 : Option V), σ = [some (.ref a), some (.ref M), some (.int (n : Int)), w3, w4, w5, w6, w7, w8, w9, w10, w11] ∧ Same H H' ∧ LT H' M (L.map cfT) ∧ CI p L n ∧ m = 100 - n := ⟨_, rfl⟩
  refine ⟨W, ⟨100, by rw [hW]; exact ⟨[(false, 0, 0)], 0, none, none, none, none, none, none, none, none, none, rfl, s12, ⟨_, hM, .cons t00 .nil⟩, ci_init p, rfl⟩⟩, fun m σ H4 hw => ?_⟩
  rw [hW] at hw
  obtain ⟨L, n, w3, w4, w5, w6, w7, w8, w9, w10, w11, rfl, s4, ⟨mx, hMx, tM⟩, ci, rfl⟩ := hw
  have hL := ci.len ok
  have hml := tM.length
  rw [List.length_map] at hml
  refine ⟨_, rfl, _, rfl, _, _, rfl, .inl (SqL.of hMx), _, _, rfl, rfl, _, rfl, ?_⟩
  rw [hml]
  by_cases hn : n < L.length
  case neg =>
    rw [decide_eq_false (by omega)]
    exact k false H4 s4 ⟨(fun z => nomatch z), fun z => absurd z (ci_end ci hn)⟩
  rw [decide_eq_true (by omega)]
  refine ⟨fun σ' H' => ∃ m', m' < 100 - n ∧ W m' σ' H', fun σ' H' z => z, ?_⟩
  obtain ⟨⟨sb, sx, sy⟩, hLn⟩ : ∃ x, L[n]? = some x := ⟨_, List.getElem?_eq_getElem hn⟩
  have rs := ci.rc _ (List.mem_of_getElem? hLn)
  obtain ⟨hv1, hv2⟩ := rs.ok ok
  have hvx : Val p sx := hv1
  have hvy : Val p sy := hv2
  obtain ⟨xv, hxv, txv⟩ := tM.get (i := n) (t := cfT (sb, sx, sy)) (by rw [List.getElem?_map, hLn]; rfl)
  obtain ⟨q, rfl, hq⟩ := txv.stp
  refine ⟨_, rfl, _, rfl, M, _, _, _, rfl, rfl, SqL.of hMx, atI_nat hxv, q, _, rfl, SqT.of hq, rfl, _, _, rfl, _, _, rfl, _, _, rfl, rfl, ?_⟩
  refine ⟨_, rfl, _, _, rfl, rfl, ?_⟩
  obtain ⟨c1, hc1, tc1⟩ := hcs.get (i := sx.toNat) (t := isT (cloAt p sx)) (by rw [List.getElem?_map, cloAt_get ok hvx]; rfl)
  obtain ⟨c2, hc2, tc2⟩ := hcs.get (i := sy.toNat) (t := isT (cloAt p sy)) (by rw [List.getElem?_map, cloAt_get ok hvy]; rfl)
  obtain ⟨q1, rfl, hq1⟩ := tc1.is
  obtain ⟨q2, rfl, hq2⟩ := tc2.is
  have hcl := (clo_ok ok hvx).len
  obtain ⟨rv1, hrr1, trv1⟩ := hrws.get (i := sx.toNat) (t := rowT (rowAt p sx)) (by rw [List.getElem?_map, rowAt_get hvx]; rfl)
  obtain ⟨rr1, zz1, rfl, hzz1, tzz1⟩ := trv1.tup
  have hzl1 : zz1.length = (rowAt p sx).length := by rw [tzz1.length, List.length_map]
  obtain ⟨rv2, hrr2, trv2⟩ := hrws.get (i := sy.toNat) (t := rowT (rowAt p sy)) (by rw [List.getElem?_map, rowAt_get hvy]; rfl)
  obtain ⟨rr2, zz2, rfl, hzz2, tzz2⟩ := trv2.tup
  have hzl2 : zz2.length = (rowAt p sy).length := by rw [tzz2.length, List.length_map]
  have hrl2 := (row_ok ok hvy).len
  refine ⟨_, rfl, rfl, _, rfl, ?_⟩
  cases sb with
  | false =>
    have hnf : ¬ Final p (false, sx, sy) := fun z => nomatch z.1
    refine ⟨_, rfl, a, _, 1, _, rfl, rfl, SqT.of (s4 _ _ ha), rfl, _, rfl, b, _, sx, .ref rr1, rfl, rfl, SqT.of (s4 _ _ hb), at_of (j := sx.toNat) (by have := hvx.1; omega) hrr1, rr1, rfl, ⟨_, SqT.of (s4 _ _ hzz1)⟩, ?_⟩
    refine for_tup (K := K) (xs := zz1) (fun j σ H' => ∃ (w6 w7 w8 w9 w10 w11 : Option V) (L' : List Stt), σ = [some (.ref a), some (.ref M), some (.int ((n : Int) + 1)), some (.int sx), some (.int sy), some (.int (if false = true then 1 else 0)), w6, w7, w8, w9, w10, w11] ∧ But M H4 H' ∧ LT H' M (L'.map cfT) ∧ CI p L' n ∧ L'[n]? = some (false, sx, sy) ∧
        ∀ m ∈ (rowAt p sx).take j, ∀ t ∈ rowAt p sy, m.2.2.1 = t.2.2.1 → CovM false m t L')
      ⟨_, _, _, _, _, _, L, rfl, But.refl _ _, ⟨mx, hMx, tM⟩, ci, hLn, by simp⟩ (fun j σ H' _ ⟨_, _, _, _, _, _, _, _, b', _⟩ => SqT.of (b' _ _ (s4 _ _ hzz1) (ne_of (s4 _ _ hzz1) hMx fun z => nomatch z))) ?_ ?_
    · rintro j x σ H6 hj ⟨w6, w7, w8, w9, w10, w11, L1, rfl, b6, ⟨mx1, hM1, tM1⟩, ci1, hL1, cov⟩
      have k46 := b6.ktl hMx
      have bb6 : ∀ c o, H c = some o → H6 c = some o := fun c o q => b6 c o (s4 c o q) (ne_of_none q nM0)
      obtain ⟨t, ht, tx⟩ := tzz1.at hj
      rw [List.getElem?_map] at ht
      obtain ⟨m, hm, rfl⟩ := Option.map_eq_some_iff.mp ht
      obtain ⟨ma, rfl, hma⟩ := (tx.kt ((Same.kt s4).trans k46)).mv
      refine ⟨_, rfl, a, _, 1, _, rfl, rfl, SqT.of (bb6 _ _ ha), rfl, _, rfl, b, _, sy, .ref rr2, rfl, rfl, SqT.of (bb6 _ _ hb), at_of (j := sy.toNat) (by have := hvy.1; omega) hrr2, rr2, rfl, ⟨_, SqT.of (bb6 _ _ hzz2)⟩, fun D hD => ?_⟩
      refine lcT (K := K) (fun i ts => ∃ q : List Mv, ts = q.map mvT ∧ (∀ t ∈ q, t ∈ rowAt p sy ∧ t.2.2.1 = m.2.2.1) ∧ ∀ t ∈ (rowAt p sy).take i, t.2.2.1 = m.2.2.1 → t ∈ q) hD (bb6 _ _ hzz2) (by omega) ⟨[], rfl, (fun _ z => nomatch z), by simp⟩ (fun i x H7 ts hi s7 _ ⟨ql, eq, q1, q2⟩ R R' c1 c2 => ?_) fun H7 ts s7 lD _ ⟨ql, eq, q1, q2⟩ => ?_
      · obtain ⟨t, ht2, tx2⟩ := tzz2.at hi
        rw [List.getElem?_map] at ht2
        obtain ⟨u, hu, rfl⟩ := Option.map_eq_some_iff.mp ht2
        obtain ⟨ua, rfl, hua⟩ := (tx2.kt ((Same.kt s4).trans (k46.trans s7.kt))).mv
        refine ⟨rfl, _, rfl, ua, _, 2, _, rfl, rfl, SqT.of hua, rfl, _, rfl, ma, _, 2, _, rfl, rfl, SqT.of (s7 _ _ hma), rfl, rfl, _, rfl, ?_⟩
        have e : decide (V.int u.2.2.1 = V.int m.2.2.1) = decide (u.2.2.1 = m.2.2.1) := by simp
        rw [e]
        have tk : ∀ t, t ∈ (rowAt p sy).take (i + 1) → t ∈ (rowAt p sy).take i ∨ t = u := fun t ht => by
          rw [List.take_succ, hu] at ht
          rcases List.mem_append.mp ht with z | z
          · exact .inl z
          · exact .inr (by simpa using z)
        by_cases he : u.2.2.1 = m.2.2.1
        · rw [decide_eq_true he]
          refine ⟨_, rfl, c1 _ _ _ (Same.refl _) (tx2.kt ((Same.kt s4).trans (k46.trans s7.kt))) ⟨ql ++ [u], by rw [List.map_append, eq]; rfl, fun y hy => ?_, fun y hy hye => ?_⟩⟩
          · rcases List.mem_append.mp hy with z | z
            · exact q1 y z
            · rw [List.mem_singleton.mp z]; exact ⟨List.mem_of_getElem? hu, he⟩
          · rcases tk y hy with z | z
            · exact List.mem_append_left _ (q2 y z hye)
            · rw [z]; exact List.mem_append_right _ (by simp)
        · rw [decide_eq_false he]
          refine c2 _ (Same.refl _) ⟨ql, eq, q1, fun y hy hye => ?_⟩
          rcases tk y hy with z | z
          · exact q2 y z hye
          · exact absurd (z ▸ hye) he
      · rw [hzl2, List.take_length] at q2
        obtain ⟨dx, hDx, tD⟩ := lD
        rw [eq] at tD
        have hM7 := s7 _ _ hM1
        have nDM : D ≠ M := (ne_of_none hM1 hD).symm
        refine ⟨D, rfl, ⟨_, SqL.of hDx⟩, for_list (K := K) (xs := dx) (fun j' σ H' => ∃ (w7 w8 w9 w10 w11 : Option V) (L' : List Stt), σ = [some (.ref a), some (.ref M), some (.int ((n : Int) + 1)), some (.int sx), some (.int sy), some (.int (if false = true then 1 else 0)), some (.ref ma), w7, w8, w9, w10, w11] ∧ But M H7 H' ∧ LT H' M (L'.map cfT) ∧ CI p L' n ∧ L'[n]? = some (false, sx, sy) ∧
          (∀ m ∈ (rowAt p sx).take j, ∀ t ∈ rowAt p sy, m.2.2.1 = t.2.2.1 → CovM false m t L') ∧ ∀ t ∈ ql.take j', CovM false m t L')
          ⟨_, _, _, _, _, L1, rfl, But.refl _ _, ⟨mx1, hM7, tM1.kt s7.kt⟩, ci1, hL1, cov, by simp⟩ (fun j' σ H' _ ⟨_, _, _, _, _, _, _, b', _⟩ => SqL.of (b' _ _ hDx nDM)) ?_ ?_⟩
        · rintro j' x σ H8 hj' ⟨w7, w8, w9, w10, w11, Lb, rfl, b8, ⟨mx2, hM8, tM8⟩, ci2, hL2, cov2, cov3⟩
          have k78 := b8.ktl hM7
          obtain ⟨t, ht2, tx2⟩ := tD.at hj'
          rw [List.getElem?_map] at ht2
          obtain ⟨u, hu, rfl⟩ := Option.map_eq_some_iff.mp ht2
          obtain ⟨hur, hum⟩ := q1 u (List.mem_of_getElem? hu)
          obtain ⟨ua, rfl, hua⟩ := (tx2.kt k78).mv
          have hma8 := k78 _ _ (s7 _ _ hma)
          have hl2 := tM8.length
          rw [List.length_map] at hl2
          have hL2l := ci2.len ok
          have ed1 : Edge p (false, sx, sy) (false, m.2.2.2, u.2.2.2) (m.1, m.2.1, m.2.2.1) (u.1, u.2.1, u.2.2.1) := ⟨List.mem_of_getElem? hm, hur, hum.symm, .inl rfl⟩
          have re1 := Reach.step rs ed1
          refine ⟨_, rfl, ma, _, 3, _, rfl, rfl, SqT.of hma8, rfl, _, rfl, ua, _, 3, _, rfl, rfl, SqT.of hua, rfl, _, rfl, by show 3 ≤ _; decide, fun p1 H9 s9 hp1 _ => ?_⟩
          refine ⟨by show 1 ≤ _; decide, fun Z H10 s10 hZ nZ => ?_⟩
          have s810 := s9.trans s10
          have tp1 : Tv H10 (.ref p1) (cfT (false, m.2.2.2, u.2.2.2)) := tv_cf (s10 _ _ hp1) rfl
          refine ⟨_, rfl, ma, _, 1, _, rfl, rfl, SqT.of (s810 _ _ hma8), rfl, _, rfl, ua, _, 1, _, rfl, rfl, SqT.of (s810 _ _ hua), rfl, rfl, _, rfl, ?_⟩
          have ee1 : decide (V.int m.2.1 = V.int u.2.1) = decide (m.2.1 = u.2.1) := by simp
          rw [ee1]
          have tkq : ∀ t, t ∈ ql.take (j' + 1) → t ∈ ql.take j' ∨ t = u := fun t ht => by
            rw [List.take_succ, hu] at ht
            rcases List.mem_append.mp ht with z | z
            · exact .inl z
            · exact .inr (by simpa using z)
          have nMZ : Z ≠ M := (ne_of_none (s9 _ _ hM8) nZ).symm
          by_cases he1 : m.2.1 = u.2.1
          case neg =>
            rw [decide_eq_false he1]
            have cvu : CovM false m u (addL Lb [(false, m.2.2.2, u.2.2.2)]) := ⟨addL_mem (by simp), fun z => absurd z he1⟩
            refine ⟨_, rfl, .inl ⟨rfl, _, SqL.of (s810 _ _ hM8)⟩, _, rfl, Z, rfl, ⟨_, SqL.of hZ⟩, fun D2 hD2 => ?_⟩
            have tZ : TvA H10 _ (([(false, m.2.2.2, u.2.2.2)] : List Stt).map cfT) := (.cons tp1 .nil)
            refine lcL (K := K) (fun i ts => ts = ((([(false, m.2.2.2, u.2.2.2)] : List Stt).take i).filter fun x => decide (x ∉ Lb)).map cfT) hD2 hZ (by show _ ≤ 100000; simp) (by simp) (fun i x H20 ts hx s20 hl' hJ R1 R2 c1 c2 => ?_) (fun H20 ts s20 lD hl' hJ => ?_)
            · obtain ⟨t, ht3, tx3⟩ := tZ.at hx
              rw [List.getElem?_map] at ht3
              obtain ⟨y, hy, rfl⟩ := Option.map_eq_some_iff.mp ht3
              have tx4 := tx3.kt s20.kt
              have kx : KT H8 H20 := KT.trans (fun c xs q => s810 c _ q) s20.kt
              have lM20 : LT H20 M (Lb.map cfT) := ⟨_, s20 _ _ (s810 _ _ hM8), tM8.kt kx⟩
              refine ⟨rfl, _, rfl, _, rfl, _, _, tx4.dp, lM20.dp, shp (by simp), shp_cf Lb, _, rfl, ?_⟩
              rw [any_cf]
              have tkz : ([(false, m.2.2.2, u.2.2.2)] : List Stt).take (i + 1) = ([(false, m.2.2.2, u.2.2.2)] : List Stt).take i ++ [y] := by rw [List.take_succ, hy]; rfl
              by_cases hin : y ∈ Lb
              · rw [decide_eq_true hin]
                refine c2 _ (Same.refl _) ?_
                show ts = ((([(false, m.2.2.2, u.2.2.2)] : List Stt).take (i + 1)).filter fun x => decide (x ∉ Lb)).map cfT
                rw [tkz, List.filter_append, hJ]
                simp [hin]
              · rw [decide_eq_false hin]
                refine ⟨_, rfl, c1 _ _ _ (Same.refl _) tx4 ?_⟩
                show ts ++ [cfT y] = ((([(false, m.2.2.2, u.2.2.2)] : List Stt).take (i + 1)).filter fun x => decide (x ∉ Lb)).map cfT
                rw [tkz, List.filter_append, hJ, List.map_append]
                simp [hin]
            · obtain ⟨dz, hDz, tDz⟩ := lD
              have hdl := tDz.length
              have hZl := tZ.length
              have kx : KT H8 H20 := KT.trans (fun c xs q => s810 c _ q) s20.kt
              have hM20 := s20 _ _ (s810 _ _ hM8)
              refine ⟨M, D2, mx2, dz, rfl, rfl, hM20, hDz, by rw [hdl]; simp at hl'; omega, fun H21 o21 h21 => ?_⟩
              have k21 : KT H20 H21 := o21.kt hM20 fun _ z => nomatch z
              have hJ2 : ts = (([(false, m.2.2.2, u.2.2.2)] : List Stt).filter fun x => decide (x ∉ Lb)).map cfT := hJ
              rw [hJ2] at tDz
              refine ⟨_, _, _, _, _, addL Lb ([(false, m.2.2.2, u.2.2.2)] : List Stt), rfl, fun c o q z => by rw [o21 c z]; exact s20 c o (s810 c o (b8 c o q z)), ⟨_, h21, ?_⟩, ci_add ok ci2 (fun x hx => by rw [List.mem_singleton.mp hx]; exact re1) (by simp), addL_pre hL2, fun m' hm' t htr hmt => (cov2 m' hm' t htr hmt).add, fun t ht => ?_⟩
              · rw [addL, List.map_append]
                exact (tM8.kt (kx.trans k21)).append (tDz.kt k21)
              · rcases tkq t ht with z | z
                · exact (cov3 t z).add
                · rw [z]; exact cvu
          rw [decide_eq_true he1]
          refine ⟨_, rfl, ma, _, 0, _, rfl, rfl, SqT.of (s810 _ _ hma8), rfl, _, rfl, ua, _, 0, _, rfl, rfl, SqT.of (s810 _ _ hua), rfl, rfl, _, rfl, ?_⟩
          have ee2 : (!decide (V.int m.1 = V.int u.1)) = decide (m.1 ≠ u.1) := by simp
          rw [ee2]
          by_cases he2 : m.1 ≠ u.1
          case neg =>
            rw [decide_eq_false he2]
            have cvu : CovM false m u (addL Lb [(false, m.2.2.2, u.2.2.2)]) := ⟨addL_mem (by simp), fun _ z => absurd z he2⟩
            refine ⟨_, rfl, .inl ⟨rfl, _, SqL.of (s810 _ _ hM8)⟩, _, rfl, Z, rfl, ⟨_, SqL.of hZ⟩, fun D2 hD2 => ?_⟩
            have tZ : TvA H10 _ (([(false, m.2.2.2, u.2.2.2)] : List Stt).map cfT) := (.cons tp1 .nil)
            refine lcL (K := K) (fun i ts => ts = ((([(false, m.2.2.2, u.2.2.2)] : List Stt).take i).filter fun x => decide (x ∉ Lb)).map cfT) hD2 hZ (by show _ ≤ 100000; simp) (by simp) (fun i x H20 ts hx s20 hl' hJ R1 R2 c1 c2 => ?_) (fun H20 ts s20 lD hl' hJ => ?_)
            · obtain ⟨t, ht3, tx3⟩ := tZ.at hx
              rw [List.getElem?_map] at ht3
              obtain ⟨y, hy, rfl⟩ := Option.map_eq_some_iff.mp ht3
              have tx4 := tx3.kt s20.kt
              have kx : KT H8 H20 := KT.trans (fun c xs q => s810 c _ q) s20.kt
              have lM20 : LT H20 M (Lb.map cfT) := ⟨_, s20 _ _ (s810 _ _ hM8), tM8.kt kx⟩
              refine ⟨rfl, _, rfl, _, rfl, _, _, tx4.dp, lM20.dp, shp (by simp), shp_cf Lb, _, rfl, ?_⟩
              rw [any_cf]
              have tkz : ([(false, m.2.2.2, u.2.2.2)] : List Stt).take (i + 1) = ([(false, m.2.2.2, u.2.2.2)] : List Stt).take i ++ [y] := by rw [List.take_succ, hy]; rfl
              by_cases hin : y ∈ Lb
              · rw [decide_eq_true hin]
                refine c2 _ (Same.refl _) ?_
                show ts = ((([(false, m.2.2.2, u.2.2.2)] : List Stt).take (i + 1)).filter fun x => decide (x ∉ Lb)).map cfT
                rw [tkz, List.filter_append, hJ]
                simp [hin]
              · rw [decide_eq_false hin]
                refine ⟨_, rfl, c1 _ _ _ (Same.refl _) tx4 ?_⟩
                show ts ++ [cfT y] = ((([(false, m.2.2.2, u.2.2.2)] : List Stt).take (i + 1)).filter fun x => decide (x ∉ Lb)).map cfT
                rw [tkz, List.filter_append, hJ, List.map_append]
                simp [hin]
            · obtain ⟨dz, hDz, tDz⟩ := lD
              have hdl := tDz.length
              have hZl := tZ.length
              have kx : KT H8 H20 := KT.trans (fun c xs q => s810 c _ q) s20.kt
              have hM20 := s20 _ _ (s810 _ _ hM8)
              refine ⟨M, D2, mx2, dz, rfl, rfl, hM20, hDz, by rw [hdl]; simp at hl'; omega, fun H21 o21 h21 => ?_⟩
              have k21 : KT H20 H21 := o21.kt hM20 fun _ z => nomatch z
              have hJ2 : ts = (([(false, m.2.2.2, u.2.2.2)] : List Stt).filter fun x => decide (x ∉ Lb)).map cfT := hJ
              rw [hJ2] at tDz
              refine ⟨_, _, _, _, _, addL Lb ([(false, m.2.2.2, u.2.2.2)] : List Stt), rfl, fun c o q z => by rw [o21 c z]; exact s20 c o (s810 c o (b8 c o q z)), ⟨_, h21, ?_⟩, ci_add ok ci2 (fun x hx => by rw [List.mem_singleton.mp hx]; exact re1) (by simp), addL_pre hL2, fun m' hm' t htr hmt => (cov2 m' hm' t htr hmt).add, fun t ht => ?_⟩
              · rw [addL, List.map_append]
                exact (tM8.kt (kx.trans k21)).append (tDz.kt k21)
              · rcases tkq t ht with z | z
                · exact (cov3 t z).add
                · rw [z]; exact cvu
          rw [decide_eq_true he2]
          have ed2 : Edge p (false, sx, sy) (true, m.2.2.2, u.2.2.2) (m.1, m.2.1, m.2.2.1) (u.1, u.2.1, u.2.2.1) := ⟨List.mem_of_getElem? hm, hur, hum.symm, .inr ⟨rfl, rfl, Prod.ext he1 hum.symm, he2⟩⟩
          have re2 := Reach.step rs ed2
          refine ⟨_, rfl, .inl ⟨rfl, _, SqL.of hZ⟩, ?_⟩
          refine ⟨_, rfl, ma, _, 3, _, rfl, rfl, SqT.of (s810 _ _ hma8), rfl, _, rfl, ua, _, 3, _, rfl, rfl, SqT.of (s810 _ _ hua), rfl, by show 3 ≤ _; decide, fun p2 H11 s11 hp2 _ => ?_⟩
          refine ⟨Z, _, _, rfl, rfl, s11 _ _ hZ, by show 1 ≤ _; decide, fun H12 o12 h12 => ?_⟩
          have k12 : KT H11 H12 := o12.kt (s11 _ _ hZ) fun _ z => nomatch z
          have b812 : ∀ c o, H8 c = some o → H12 c = some o := fun c o q => by rw [o12 c (ne_of_none (s9 c o q) nZ)]; exact s11 c o (s810 c o q)
          have cvu : CovM false m u (addL Lb [(false, m.2.2.2, u.2.2.2), (true, m.2.2.2, u.2.2.2)]) := ⟨addL_mem (by simp), fun _ _ => addL_mem (by simp)⟩
          refine ⟨_, rfl, .inl ⟨rfl, _, SqL.of (b812 _ _ hM8)⟩, _, rfl, Z, rfl, ⟨_, SqL.of h12⟩, fun D2 hD2 => ?_⟩
          have tZ : TvA H12 _ (([(false, m.2.2.2, u.2.2.2), (true, m.2.2.2, u.2.2.2)] : List Stt).map cfT) := (.cons (tp1.kt (s11.kt.trans k12)) (.cons (tv_cf (k12 _ _ hp2) rfl) .nil))
          refine lcL (K := K) (fun i ts => ts = ((([(false, m.2.2.2, u.2.2.2), (true, m.2.2.2, u.2.2.2)] : List Stt).take i).filter fun x => decide (x ∉ Lb)).map cfT) hD2 h12 (by show _ ≤ 100000; simp) (by simp) (fun i x H20 ts hx s20 hl' hJ R1 R2 c1 c2 => ?_) (fun H20 ts s20 lD hl' hJ => ?_)
          · obtain ⟨t, ht3, tx3⟩ := tZ.at hx
            rw [List.getElem?_map] at ht3
            obtain ⟨y, hy, rfl⟩ := Option.map_eq_some_iff.mp ht3
            have tx4 := tx3.kt s20.kt
            have kx : KT H8 H20 := KT.trans (fun c xs q => b812 c _ q) s20.kt
            have lM20 : LT H20 M (Lb.map cfT) := ⟨_, s20 _ _ (b812 _ _ hM8), tM8.kt kx⟩
            refine ⟨rfl, _, rfl, _, rfl, _, _, tx4.dp, lM20.dp, shp (by simp), shp_cf Lb, _, rfl, ?_⟩
            rw [any_cf]
            have tkz : ([(false, m.2.2.2, u.2.2.2), (true, m.2.2.2, u.2.2.2)] : List Stt).take (i + 1) = ([(false, m.2.2.2, u.2.2.2), (true, m.2.2.2, u.2.2.2)] : List Stt).take i ++ [y] := by rw [List.take_succ, hy]; rfl
            by_cases hin : y ∈ Lb
            · rw [decide_eq_true hin]
              refine c2 _ (Same.refl _) ?_
              show ts = ((([(false, m.2.2.2, u.2.2.2), (true, m.2.2.2, u.2.2.2)] : List Stt).take (i + 1)).filter fun x => decide (x ∉ Lb)).map cfT
              rw [tkz, List.filter_append, hJ]
              simp [hin]
            · rw [decide_eq_false hin]
              refine ⟨_, rfl, c1 _ _ _ (Same.refl _) tx4 ?_⟩
              show ts ++ [cfT y] = ((([(false, m.2.2.2, u.2.2.2), (true, m.2.2.2, u.2.2.2)] : List Stt).take (i + 1)).filter fun x => decide (x ∉ Lb)).map cfT
              rw [tkz, List.filter_append, hJ, List.map_append]
              simp [hin]
          · obtain ⟨dz, hDz, tDz⟩ := lD
            have hdl := tDz.length
            have hZl := tZ.length
            have kx : KT H8 H20 := KT.trans (fun c xs q => b812 c _ q) s20.kt
            have hM20 := s20 _ _ (b812 _ _ hM8)
            refine ⟨M, D2, mx2, dz, rfl, rfl, hM20, hDz, by rw [hdl]; simp at hl'; omega, fun H21 o21 h21 => ?_⟩
            have k21 : KT H20 H21 := o21.kt hM20 fun _ z => nomatch z
            have hJ2 : ts = (([(false, m.2.2.2, u.2.2.2), (true, m.2.2.2, u.2.2.2)] : List Stt).filter fun x => decide (x ∉ Lb)).map cfT := hJ
            rw [hJ2] at tDz
            refine ⟨_, _, _, _, _, addL Lb ([(false, m.2.2.2, u.2.2.2), (true, m.2.2.2, u.2.2.2)] : List Stt), rfl, fun c o q z => by rw [o21 c z]; exact s20 c o (b812 c o (b8 c o q z)), ⟨_, h21, ?_⟩, ci_add ok ci2 (fun x hx => by rcases List.mem_cons.mp hx with z | z; (· rw [z]; exact re1); (· rw [List.mem_singleton.mp z]; exact re2)) (by simp), addL_pre hL2, fun m' hm' t htr hmt => (cov2 m' hm' t htr hmt).add, fun t ht => ?_⟩
            · rw [addL, List.map_append]
              exact (tM8.kt (kx.trans k21)).append (tDz.kt k21)
            · rcases tkq t ht with z | z
              · exact (cov3 t z).add
              · rw [z]; exact cvu
        · rintro σ H8 ⟨w7, w8, w9, w10, w11, Lb, rfl, b8, lM8, ci2, hL2, cov2, cov3⟩
          have hdl := tD.length
          rw [List.length_map] at hdl
          refine ⟨_, _, _, _, _, _, Lb, rfl, fun c o q z => b8 c o (s7 c o (b6 c o q z)) z, lM8, ci2, hL2, fun m' hm' t htr hmt => ?_⟩
          rw [List.take_succ, hm] at hm'
          rcases List.mem_append.mp hm' with z | z
          · exact cov2 m' z t htr hmt
          · have z : m' = m := by simpa using z
            subst z
            exact cov3 t (by rw [hdl, List.take_length]; exact q2 t htr hmt.symm)
    · rintro σ H6 ⟨w6, w7, w8, w9, w10, w11, L1, rfl, b6, lM1, ci1, hL1, cov⟩
      rw [hzl1, List.take_length] at cov
      refine ⟨100 - (n + 1), by omega, ?_⟩
      rw [hW]
      refine ⟨L1, n + 1, _, _, _, _, _, _, _, _, _, rfl, fun c o q => b6 c o (s4 c o q) (ne_of_none q nM0), lM1, ci_next ci1 hL1 hnf ?_, rfl⟩
      rintro ⟨sb', gx, dy⟩ st tw ⟨e1, e2, e3, e4⟩
      obtain ⟨y1, y2⟩ := cov _ e1 _ e2 e3
      rcases e4 with z | ⟨z1, z2, z3⟩
      · have z : sb' = false := z
        rw [z]; exact y1
      · have z2 : sb' = true := z2
        rw [z2]
        exact y2 (by show st.2.1 = tw.2.1; exact congrArg Prod.fst z3.1) z3.2
  | true =>
    refine ⟨_, rfl, a, _, 2, _, rfl, rfl, SqT.of (s4 _ _ ha), rfl, _, rfl, ca, _, sx, _, rfl, rfl, SqT.of (s4 _ _ hca), at_of (j := sx.toNat) (by have := hvx.1; omega) hc1, q1, rfl, ⟨_, SqT.of (s4 _ _ hq1)⟩, fun D hD => ?_⟩
    refine lcT (K := K) (fun i ts => ∃ bs : List Bool, ts = bs.map Fx.T.b ∧ (bs.any id = true ↔ ∃ x ∈ (cloAt p sx).take i, x ∈ cloAt p sy)) hD (s4 _ _ hq1) (by rw [List.length_map]; omega) ⟨[], rfl, by simp⟩ (fun i x H5 ts hi s5 _ hJ R R' c1 c2 => ?_) fun H5 ts s5 lt _ hJ => ?_
    · have s45 := s4.trans s5
      rw [List.getElem?_map] at hi
      obtain ⟨l, hl, rfl⟩ := Option.map_eq_some_iff.mp hi
      obtain ⟨bs, rfl, hbs⟩ := hJ
      refine ⟨rfl, _, rfl, _, rfl, a, _, 2, _, rfl, rfl, SqT.of (s45 _ _ ha), rfl, _, rfl, ca, _, sy, _, rfl, rfl, SqT.of (s45 _ _ hca), at_of (j := sy.toNat) (by have := hvy.1; omega) hc2, ?_⟩
      refine ⟨q2, _, rfl, .inr (SqT.of (s45 _ _ hq2)), rfl, by simp [flatV], ?_⟩
      refine c1 _ _ _ (Same.refl _) (.b _) ⟨bs ++ [inV (.int l) ((cloAt p sy).map V.int)], by rw [List.map_append]; rfl, ?_⟩
      rw [List.any_append, Bool.or_eq_true, hbs, List.take_succ, hl, inV_ints]
      simp only [List.any_cons, List.any_nil, Bool.or_false, id, decide_eq_true_eq]
      constructor
      · rintro (⟨c, hc, h⟩ | h)
        · exact ⟨c, List.mem_append_left _ hc, h⟩
        · exact ⟨l, List.mem_append_right _ (by simp), h⟩
      · rintro ⟨c, hc, h⟩
        rcases List.mem_append.mp hc with z | z
        · exact .inl ⟨c, z, h⟩
        · have : c = l := by simpa using z
          exact .inr (this ▸ h)
    · rw [List.length_map, List.take_length] at hJ
      obtain ⟨bs, eb, hbs⟩ := hJ
      have s05 := s4.trans s5
      refine ⟨D, bs, rfl, SqL.of (lt.bools eb), _, rfl, ?_⟩
      cases hany : bs.any id with
      | true =>
        obtain ⟨l, hl1, hl2⟩ := hbs.mp hany
        exact k true H5 s05 ⟨fun _ => ⟨_, rs, rfl, l, hl1, hl2⟩, fun _ => rfl⟩
      | false =>
        have hnf : ¬ Final p (true, sx, sy) := fun z => by
          obtain ⟨_, l, hl1, hl2⟩ := z
          have := hbs.mpr ⟨l, hl1, hl2⟩
          rw [hany] at this
          cases this
        have hMx := s5 _ _ hMx
        have tM := tM.kt s5.kt
        refine ⟨_, rfl, a, _, 1, _, rfl, rfl, SqT.of (s05 _ _ ha), rfl, _, rfl, b, _, sx, .ref rr1, rfl, rfl, SqT.of (s05 _ _ hb), at_of (j := sx.toNat) (by have := hvx.1; omega) hrr1, rr1, rfl, ⟨_, SqT.of (s05 _ _ hzz1)⟩, ?_⟩
        refine for_tup (K := K) (xs := zz1) (fun j σ H' => ∃ (w6 w7 w8 w9 w10 w11 : Option V) (L' : List Stt), σ = [some (.ref a), some (.ref M), some (.int ((n : Int) + 1)), some (.int sx), some (.int sy), some (.int (if true = true then 1 else 0)), w6, w7, w8, w9, w10, w11] ∧ But M H5 H' ∧ LT H' M (L'.map cfT) ∧ CI p L' n ∧ L'[n]? = some (true, sx, sy) ∧
            ∀ m ∈ (rowAt p sx).take j, ∀ t ∈ rowAt p sy, m.2.2.1 = t.2.2.1 → CovM true m t L')
          ⟨_, _, _, _, _, _, L, rfl, But.refl _ _, ⟨mx, hMx, tM⟩, ci, hLn, by simp⟩ (fun j σ H' _ ⟨_, _, _, _, _, _, _, _, b', _⟩ => SqT.of (b' _ _ (s05 _ _ hzz1) (ne_of (s05 _ _ hzz1) hMx fun z => nomatch z))) ?_ ?_
        · rintro j x σ H6 hj ⟨w6, w7, w8, w9, w10, w11, L1, rfl, b6, ⟨mx1, hM1, tM1⟩, ci1, hL1, cov⟩
          have k46 := b6.ktl hMx
          have bb6 : ∀ c o, H c = some o → H6 c = some o := fun c o q => b6 c o (s05 c o q) (ne_of_none q nM0)
          obtain ⟨t, ht, tx⟩ := tzz1.at hj
          rw [List.getElem?_map] at ht
          obtain ⟨m, hm, rfl⟩ := Option.map_eq_some_iff.mp ht
          obtain ⟨ma, rfl, hma⟩ := (tx.kt ((Same.kt s05).trans k46)).mv
          refine ⟨_, rfl, a, _, 1, _, rfl, rfl, SqT.of (bb6 _ _ ha), rfl, _, rfl, b, _, sy, .ref rr2, rfl, rfl, SqT.of (bb6 _ _ hb), at_of (j := sy.toNat) (by have := hvy.1; omega) hrr2, rr2, rfl, ⟨_, SqT.of (bb6 _ _ hzz2)⟩, fun D hD => ?_⟩
          refine lcT (K := K) (fun i ts => ∃ q : List Mv, ts = q.map mvT ∧ (∀ t ∈ q, t ∈ rowAt p sy ∧ t.2.2.1 = m.2.2.1) ∧ ∀ t ∈ (rowAt p sy).take i, t.2.2.1 = m.2.2.1 → t ∈ q) hD (bb6 _ _ hzz2) (by omega) ⟨[], rfl, (fun _ z => nomatch z), by simp⟩ (fun i x H7 ts hi s7 _ ⟨ql, eq, q1, q2⟩ R R' c1 c2 => ?_) fun H7 ts s7 lD _ ⟨ql, eq, q1, q2⟩ => ?_
          · obtain ⟨t, ht2, tx2⟩ := tzz2.at hi
            rw [List.getElem?_map] at ht2
            obtain ⟨u, hu, rfl⟩ := Option.map_eq_some_iff.mp ht2
            obtain ⟨ua, rfl, hua⟩ := (tx2.kt ((Same.kt s05).trans (k46.trans s7.kt))).mv
            refine ⟨rfl, _, rfl, ua, _, 2, _, rfl, rfl, SqT.of hua, rfl, _, rfl, ma, _, 2, _, rfl, rfl, SqT.of (s7 _ _ hma), rfl, rfl, _, rfl, ?_⟩
            have e : decide (V.int u.2.2.1 = V.int m.2.2.1) = decide (u.2.2.1 = m.2.2.1) := by simp
            rw [e]
            have tk : ∀ t, t ∈ (rowAt p sy).take (i + 1) → t ∈ (rowAt p sy).take i ∨ t = u := fun t ht => by
              rw [List.take_succ, hu] at ht
              rcases List.mem_append.mp ht with z | z
              · exact .inl z
              · exact .inr (by simpa using z)
            by_cases he : u.2.2.1 = m.2.2.1
            · rw [decide_eq_true he]
              refine ⟨_, rfl, c1 _ _ _ (Same.refl _) (tx2.kt ((Same.kt s05).trans (k46.trans s7.kt))) ⟨ql ++ [u], by rw [List.map_append, eq]; rfl, fun y hy => ?_, fun y hy hye => ?_⟩⟩
              · rcases List.mem_append.mp hy with z | z
                · exact q1 y z
                · rw [List.mem_singleton.mp z]; exact ⟨List.mem_of_getElem? hu, he⟩
              · rcases tk y hy with z | z
                · exact List.mem_append_left _ (q2 y z hye)
                · rw [z]; exact List.mem_append_right _ (by simp)
            · rw [decide_eq_false he]
              refine c2 _ (Same.refl _) ⟨ql, eq, q1, fun y hy hye => ?_⟩
              rcases tk y hy with z | z
              · exact q2 y z hye
              · exact absurd (z ▸ hye) he
          · rw [hzl2, List.take_length] at q2
            obtain ⟨dx, hDx, tD⟩ := lD
            rw [eq] at tD
            have hM7 := s7 _ _ hM1
            have nDM : D ≠ M := (ne_of_none hM1 hD).symm
            refine ⟨D, rfl, ⟨_, SqL.of hDx⟩, for_list (K := K) (xs := dx) (fun j' σ H' => ∃ (w7 w8 w9 w10 w11 : Option V) (L' : List Stt), σ = [some (.ref a), some (.ref M), some (.int ((n : Int) + 1)), some (.int sx), some (.int sy), some (.int (if true = true then 1 else 0)), some (.ref ma), w7, w8, w9, w10, w11] ∧ But M H7 H' ∧ LT H' M (L'.map cfT) ∧ CI p L' n ∧ L'[n]? = some (true, sx, sy) ∧
              (∀ m ∈ (rowAt p sx).take j, ∀ t ∈ rowAt p sy, m.2.2.1 = t.2.2.1 → CovM true m t L') ∧ ∀ t ∈ ql.take j', CovM true m t L')
              ⟨_, _, _, _, _, L1, rfl, But.refl _ _, ⟨mx1, hM7, tM1.kt s7.kt⟩, ci1, hL1, cov, by simp⟩ (fun j' σ H' _ ⟨_, _, _, _, _, _, _, b', _⟩ => SqL.of (b' _ _ hDx nDM)) ?_ ?_⟩
            · rintro j' x σ H8 hj' ⟨w7, w8, w9, w10, w11, Lb, rfl, b8, ⟨mx2, hM8, tM8⟩, ci2, hL2, cov2, cov3⟩
              have k78 := b8.ktl hM7
              obtain ⟨t, ht2, tx2⟩ := tD.at hj'
              rw [List.getElem?_map] at ht2
              obtain ⟨u, hu, rfl⟩ := Option.map_eq_some_iff.mp ht2
              obtain ⟨hur, hum⟩ := q1 u (List.mem_of_getElem? hu)
              obtain ⟨ua, rfl, hua⟩ := (tx2.kt k78).mv
              have hma8 := k78 _ _ (s7 _ _ hma)
              have hl2 := tM8.length
              rw [List.length_map] at hl2
              have hL2l := ci2.len ok
              have ed1 : Edge p (true, sx, sy) (true, m.2.2.2, u.2.2.2) (m.1, m.2.1, m.2.2.1) (u.1, u.2.1, u.2.2.1) := ⟨List.mem_of_getElem? hm, hur, hum.symm, .inl rfl⟩
              have re1 := Reach.step rs ed1
              refine ⟨_, rfl, ma, _, 3, _, rfl, rfl, SqT.of hma8, rfl, _, rfl, ua, _, 3, _, rfl, rfl, SqT.of hua, rfl, _, rfl, by show 3 ≤ _; decide, fun p1 H9 s9 hp1 _ => ?_⟩
              refine ⟨by show 1 ≤ _; decide, fun Z H10 s10 hZ nZ => ?_⟩
              have s810 := s9.trans s10
              have tp1 : Tv H10 (.ref p1) (cfT (true, m.2.2.2, u.2.2.2)) := tv_cf (s10 _ _ hp1) rfl
              refine ⟨_, rfl, ma, _, 1, _, rfl, rfl, SqT.of (s810 _ _ hma8), rfl, _, rfl, ua, _, 1, _, rfl, rfl, SqT.of (s810 _ _ hua), rfl, rfl, _, rfl, ?_⟩
              have ee1 : decide (V.int m.2.1 = V.int u.2.1) = decide (m.2.1 = u.2.1) := by simp
              rw [ee1]
              have tkq : ∀ t, t ∈ ql.take (j' + 1) → t ∈ ql.take j' ∨ t = u := fun t ht => by
                rw [List.take_succ, hu] at ht
                rcases List.mem_append.mp ht with z | z
                · exact .inl z
                · exact .inr (by simpa using z)
              have nMZ : Z ≠ M := (ne_of_none (s9 _ _ hM8) nZ).symm
              by_cases he1 : m.2.1 = u.2.1
              case neg =>
                rw [decide_eq_false he1]
                have cvu : CovM true m u (addL Lb [(true, m.2.2.2, u.2.2.2)]) := ⟨addL_mem (by simp), fun z => absurd z he1⟩
                refine ⟨_, rfl, .inl ⟨rfl, _, SqL.of (s810 _ _ hM8)⟩, _, rfl, Z, rfl, ⟨_, SqL.of hZ⟩, fun D2 hD2 => ?_⟩
                have tZ : TvA H10 _ (([(true, m.2.2.2, u.2.2.2)] : List Stt).map cfT) := (.cons tp1 .nil)
                refine lcL (K := K) (fun i ts => ts = ((([(true, m.2.2.2, u.2.2.2)] : List Stt).take i).filter fun x => decide (x ∉ Lb)).map cfT) hD2 hZ (by show _ ≤ 100000; simp) (by simp) (fun i x H20 ts hx s20 hl' hJ R1 R2 c1 c2 => ?_) (fun H20 ts s20 lD hl' hJ => ?_)
                · obtain ⟨t, ht3, tx3⟩ := tZ.at hx
                  rw [List.getElem?_map] at ht3
                  obtain ⟨y, hy, rfl⟩ := Option.map_eq_some_iff.mp ht3
                  have tx4 := tx3.kt s20.kt
                  have kx : KT H8 H20 := KT.trans (fun c xs q => s810 c _ q) s20.kt
                  have lM20 : LT H20 M (Lb.map cfT) := ⟨_, s20 _ _ (s810 _ _ hM8), tM8.kt kx⟩
                  refine ⟨rfl, _, rfl, _, rfl, _, _, tx4.dp, lM20.dp, shp (by simp), shp_cf Lb, _, rfl, ?_⟩
                  rw [any_cf]
                  have tkz : ([(true, m.2.2.2, u.2.2.2)] : List Stt).take (i + 1) = ([(true, m.2.2.2, u.2.2.2)] : List Stt).take i ++ [y] := by rw [List.take_succ, hy]; rfl
                  by_cases hin : y ∈ Lb
                  · rw [decide_eq_true hin]
                    refine c2 _ (Same.refl _) ?_
                    show ts = ((([(true, m.2.2.2, u.2.2.2)] : List Stt).take (i + 1)).filter fun x => decide (x ∉ Lb)).map cfT
                    rw [tkz, List.filter_append, hJ]
                    simp [hin]
                  · rw [decide_eq_false hin]
                    refine ⟨_, rfl, c1 _ _ _ (Same.refl _) tx4 ?_⟩
                    show ts ++ [cfT y] = ((([(true, m.2.2.2, u.2.2.2)] : List Stt).take (i + 1)).filter fun x => decide (x ∉ Lb)).map cfT
                    rw [tkz, List.filter_append, hJ, List.map_append]
                    simp [hin]
                · obtain ⟨dz, hDz, tDz⟩ := lD
                  have hdl := tDz.length
                  have hZl := tZ.length
                  have kx : KT H8 H20 := KT.trans (fun c xs q => s810 c _ q) s20.kt
                  have hM20 := s20 _ _ (s810 _ _ hM8)
                  refine ⟨M, D2, mx2, dz, rfl, rfl, hM20, hDz, by rw [hdl]; simp at hl'; omega, fun H21 o21 h21 => ?_⟩
                  have k21 : KT H20 H21 := o21.kt hM20 fun _ z => nomatch z
                  have hJ2 : ts = (([(true, m.2.2.2, u.2.2.2)] : List Stt).filter fun x => decide (x ∉ Lb)).map cfT := hJ
                  rw [hJ2] at tDz
                  refine ⟨_, _, _, _, _, addL Lb ([(true, m.2.2.2, u.2.2.2)] : List Stt), rfl, fun c o q z => by rw [o21 c z]; exact s20 c o (s810 c o (b8 c o q z)), ⟨_, h21, ?_⟩, ci_add ok ci2 (fun x hx => by rw [List.mem_singleton.mp hx]; exact re1) (by simp), addL_pre hL2, fun m' hm' t htr hmt => (cov2 m' hm' t htr hmt).add, fun t ht => ?_⟩
                  · rw [addL, List.map_append]
                    exact (tM8.kt (kx.trans k21)).append (tDz.kt k21)
                  · rcases tkq t ht with z | z
                    · exact (cov3 t z).add
                    · rw [z]; exact cvu
              rw [decide_eq_true he1]
              refine ⟨_, rfl, ma, _, 0, _, rfl, rfl, SqT.of (s810 _ _ hma8), rfl, _, rfl, ua, _, 0, _, rfl, rfl, SqT.of (s810 _ _ hua), rfl, rfl, _, rfl, ?_⟩
              have ee2 : (!decide (V.int m.1 = V.int u.1)) = decide (m.1 ≠ u.1) := by simp
              rw [ee2]
              by_cases he2 : m.1 ≠ u.1
              case neg =>
                rw [decide_eq_false he2]
                have cvu : CovM true m u (addL Lb [(true, m.2.2.2, u.2.2.2)]) := ⟨addL_mem (by simp), fun _ z => absurd z he2⟩
                refine ⟨_, rfl, .inl ⟨rfl, _, SqL.of (s810 _ _ hM8)⟩, _, rfl, Z, rfl, ⟨_, SqL.of hZ⟩, fun D2 hD2 => ?_⟩
                have tZ : TvA H10 _ (([(true, m.2.2.2, u.2.2.2)] : List Stt).map cfT) := (.cons tp1 .nil)
                refine lcL (K := K) (fun i ts => ts = ((([(true, m.2.2.2, u.2.2.2)] : List Stt).take i).filter fun x => decide (x ∉ Lb)).map cfT) hD2 hZ (by show _ ≤ 100000; simp) (by simp) (fun i x H20 ts hx s20 hl' hJ R1 R2 c1 c2 => ?_) (fun H20 ts s20 lD hl' hJ => ?_)
                · obtain ⟨t, ht3, tx3⟩ := tZ.at hx
                  rw [List.getElem?_map] at ht3
                  obtain ⟨y, hy, rfl⟩ := Option.map_eq_some_iff.mp ht3
                  have tx4 := tx3.kt s20.kt
                  have kx : KT H8 H20 := KT.trans (fun c xs q => s810 c _ q) s20.kt
                  have lM20 : LT H20 M (Lb.map cfT) := ⟨_, s20 _ _ (s810 _ _ hM8), tM8.kt kx⟩
                  refine ⟨rfl, _, rfl, _, rfl, _, _, tx4.dp, lM20.dp, shp (by simp), shp_cf Lb, _, rfl, ?_⟩
                  rw [any_cf]
                  have tkz : ([(true, m.2.2.2, u.2.2.2)] : List Stt).take (i + 1) = ([(true, m.2.2.2, u.2.2.2)] : List Stt).take i ++ [y] := by rw [List.take_succ, hy]; rfl
                  by_cases hin : y ∈ Lb
                  · rw [decide_eq_true hin]
                    refine c2 _ (Same.refl _) ?_
                    show ts = ((([(true, m.2.2.2, u.2.2.2)] : List Stt).take (i + 1)).filter fun x => decide (x ∉ Lb)).map cfT
                    rw [tkz, List.filter_append, hJ]
                    simp [hin]
                  · rw [decide_eq_false hin]
                    refine ⟨_, rfl, c1 _ _ _ (Same.refl _) tx4 ?_⟩
                    show ts ++ [cfT y] = ((([(true, m.2.2.2, u.2.2.2)] : List Stt).take (i + 1)).filter fun x => decide (x ∉ Lb)).map cfT
                    rw [tkz, List.filter_append, hJ, List.map_append]
                    simp [hin]
                · obtain ⟨dz, hDz, tDz⟩ := lD
                  have hdl := tDz.length
                  have hZl := tZ.length
                  have kx : KT H8 H20 := KT.trans (fun c xs q => s810 c _ q) s20.kt
                  have hM20 := s20 _ _ (s810 _ _ hM8)
                  refine ⟨M, D2, mx2, dz, rfl, rfl, hM20, hDz, by rw [hdl]; simp at hl'; omega, fun H21 o21 h21 => ?_⟩
                  have k21 : KT H20 H21 := o21.kt hM20 fun _ z => nomatch z
                  have hJ2 : ts = (([(true, m.2.2.2, u.2.2.2)] : List Stt).filter fun x => decide (x ∉ Lb)).map cfT := hJ
                  rw [hJ2] at tDz
                  refine ⟨_, _, _, _, _, addL Lb ([(true, m.2.2.2, u.2.2.2)] : List Stt), rfl, fun c o q z => by rw [o21 c z]; exact s20 c o (s810 c o (b8 c o q z)), ⟨_, h21, ?_⟩, ci_add ok ci2 (fun x hx => by rw [List.mem_singleton.mp hx]; exact re1) (by simp), addL_pre hL2, fun m' hm' t htr hmt => (cov2 m' hm' t htr hmt).add, fun t ht => ?_⟩
                  · rw [addL, List.map_append]
                    exact (tM8.kt (kx.trans k21)).append (tDz.kt k21)
                  · rcases tkq t ht with z | z
                    · exact (cov3 t z).add
                    · rw [z]; exact cvu
              rw [decide_eq_true he2]
              have ed2 : Edge p (true, sx, sy) (true, m.2.2.2, u.2.2.2) (m.1, m.2.1, m.2.2.1) (u.1, u.2.1, u.2.2.1) := ⟨List.mem_of_getElem? hm, hur, hum.symm, .inl rfl⟩
              have re2 := Reach.step rs ed2
              refine ⟨_, rfl, .inl ⟨rfl, _, SqL.of hZ⟩, ?_⟩
              refine ⟨_, rfl, ma, _, 3, _, rfl, rfl, SqT.of (s810 _ _ hma8), rfl, _, rfl, ua, _, 3, _, rfl, rfl, SqT.of (s810 _ _ hua), rfl, by show 3 ≤ _; decide, fun p2 H11 s11 hp2 _ => ?_⟩
              refine ⟨Z, _, _, rfl, rfl, s11 _ _ hZ, by show 1 ≤ _; decide, fun H12 o12 h12 => ?_⟩
              have k12 : KT H11 H12 := o12.kt (s11 _ _ hZ) fun _ z => nomatch z
              have b812 : ∀ c o, H8 c = some o → H12 c = some o := fun c o q => by rw [o12 c (ne_of_none (s9 c o q) nZ)]; exact s11 c o (s810 c o q)
              have cvu : CovM true m u (addL Lb [(true, m.2.2.2, u.2.2.2), (true, m.2.2.2, u.2.2.2)]) := ⟨addL_mem (by simp), fun _ _ => addL_mem (by simp)⟩
              refine ⟨_, rfl, .inl ⟨rfl, _, SqL.of (b812 _ _ hM8)⟩, _, rfl, Z, rfl, ⟨_, SqL.of h12⟩, fun D2 hD2 => ?_⟩
              have tZ : TvA H12 _ (([(true, m.2.2.2, u.2.2.2), (true, m.2.2.2, u.2.2.2)] : List Stt).map cfT) := (.cons (tp1.kt (s11.kt.trans k12)) (.cons (tv_cf (k12 _ _ hp2) rfl) .nil))
              refine lcL (K := K) (fun i ts => ts = ((([(true, m.2.2.2, u.2.2.2), (true, m.2.2.2, u.2.2.2)] : List Stt).take i).filter fun x => decide (x ∉ Lb)).map cfT) hD2 h12 (by show _ ≤ 100000; simp) (by simp) (fun i x H20 ts hx s20 hl' hJ R1 R2 c1 c2 => ?_) (fun H20 ts s20 lD hl' hJ => ?_)
              · obtain ⟨t, ht3, tx3⟩ := tZ.at hx
                rw [List.getElem?_map] at ht3
                obtain ⟨y, hy, rfl⟩ := Option.map_eq_some_iff.mp ht3
                have tx4 := tx3.kt s20.kt
                have kx : KT H8 H20 := KT.trans (fun c xs q => b812 c _ q) s20.kt
                have lM20 : LT H20 M (Lb.map cfT) := ⟨_, s20 _ _ (b812 _ _ hM8), tM8.kt kx⟩
                refine ⟨rfl, _, rfl, _, rfl, _, _, tx4.dp, lM20.dp, shp (by simp), shp_cf Lb, _, rfl, ?_⟩
                rw [any_cf]
                have tkz : ([(true, m.2.2.2, u.2.2.2), (true, m.2.2.2, u.2.2.2)] : List Stt).take (i + 1) = ([(true, m.2.2.2, u.2.2.2), (true, m.2.2.2, u.2.2.2)] : List Stt).take i ++ [y] := by rw [List.take_succ, hy]; rfl
                by_cases hin : y ∈ Lb
                · rw [decide_eq_true hin]
                  refine c2 _ (Same.refl _) ?_
                  show ts = ((([(true, m.2.2.2, u.2.2.2), (true, m.2.2.2, u.2.2.2)] : List Stt).take (i + 1)).filter fun x => decide (x ∉ Lb)).map cfT
                  rw [tkz, List.filter_append, hJ]
                  simp [hin]
                · rw [decide_eq_false hin]
                  refine ⟨_, rfl, c1 _ _ _ (Same.refl _) tx4 ?_⟩
                  show ts ++ [cfT y] = ((([(true, m.2.2.2, u.2.2.2), (true, m.2.2.2, u.2.2.2)] : List Stt).take (i + 1)).filter fun x => decide (x ∉ Lb)).map cfT
                  rw [tkz, List.filter_append, hJ, List.map_append]
                  simp [hin]
              · obtain ⟨dz, hDz, tDz⟩ := lD
                have hdl := tDz.length
                have hZl := tZ.length
                have kx : KT H8 H20 := KT.trans (fun c xs q => b812 c _ q) s20.kt
                have hM20 := s20 _ _ (b812 _ _ hM8)
                refine ⟨M, D2, mx2, dz, rfl, rfl, hM20, hDz, by rw [hdl]; simp at hl'; omega, fun H21 o21 h21 => ?_⟩
                have k21 : KT H20 H21 := o21.kt hM20 fun _ z => nomatch z
                have hJ2 : ts = (([(true, m.2.2.2, u.2.2.2), (true, m.2.2.2, u.2.2.2)] : List Stt).filter fun x => decide (x ∉ Lb)).map cfT := hJ
                rw [hJ2] at tDz
                refine ⟨_, _, _, _, _, addL Lb ([(true, m.2.2.2, u.2.2.2), (true, m.2.2.2, u.2.2.2)] : List Stt), rfl, fun c o q z => by rw [o21 c z]; exact s20 c o (b812 c o (b8 c o q z)), ⟨_, h21, ?_⟩, ci_add ok ci2 (fun x hx => by rcases List.mem_cons.mp hx with z | z; (· rw [z]; exact re1); (· rw [List.mem_singleton.mp z]; exact re2)) (by simp), addL_pre hL2, fun m' hm' t htr hmt => (cov2 m' hm' t htr hmt).add, fun t ht => ?_⟩
                · rw [addL, List.map_append]
                  exact (tM8.kt (kx.trans k21)).append (tDz.kt k21)
                · rcases tkq t ht with z | z
                  · exact (cov3 t z).add
                  · rw [z]; exact cvu
            · rintro σ H8 ⟨w7, w8, w9, w10, w11, Lb, rfl, b8, lM8, ci2, hL2, cov2, cov3⟩
              have hdl := tD.length
              rw [List.length_map] at hdl
              refine ⟨_, _, _, _, _, _, Lb, rfl, fun c o q z => b8 c o (s7 c o (b6 c o q z)) z, lM8, ci2, hL2, fun m' hm' t htr hmt => ?_⟩
              rw [List.take_succ, hm] at hm'
              rcases List.mem_append.mp hm' with z | z
              · exact cov2 m' z t htr hmt
              · have z : m' = m := by simpa using z
                subst z
                exact cov3 t (by rw [hdl, List.take_length]; exact q2 t htr hmt.symm)
        · rintro σ H6 ⟨w6, w7, w8, w9, w10, w11, L1, rfl, b6, lM1, ci1, hL1, cov⟩
          rw [hzl1, List.take_length] at cov
          refine ⟨100 - (n + 1), by omega, ?_⟩
          rw [hW]
          refine ⟨L1, n + 1, _, _, _, _, _, _, _, _, _, rfl, fun c o q => b6 c o (s05 c o q) (ne_of_none q nM0), lM1, ci_next ci1 hL1 hnf ?_, rfl⟩
          rintro ⟨sb', gx, dy⟩ st tw ⟨e1, e2, e3, e4⟩
          obtain ⟨y1, y2⟩ := cov _ e1 _ e2 e3
          rcases e4 with z | ⟨z1, z2, z3⟩
          · have z : sb' = true := z
            rw [z]; exact y1
          · have z2 : sb' = true := z2
            rw [z2]
            exact y2 (by show st.2.1 = tw.2.1; exact congrArg Prod.fst z3.1) z3.2
end
end Fx

/-! a forging told is one -/
namespace Fx
open PySem PySem.Spec PyProof.Rows L2
section
variable {P : Program} {w : World} {K : PySem.W.Frag} {mg : Str → Option Value} {base : Heap}
def sp__law_is_forged (K : PySem.W.Frag) : Sp := fun vs H Q _ => ∃ (vp vt : V) (p : Parts) (ss ts : List Stp) (last n : Int) (s t : Stp), vs = [vp, vt] ∧ Tv H vp (partsT p) ∧ POk p ∧ Tv H vt (toldT ss ts last n) ∧ ss.length ≤ 1000 ∧ TrueDay p ss last ∧ TrueDay p ts last ∧ marks ss = marks ts ∧
  0 ≤ n ∧ ss[n.toNat]? = some s ∧ ts[n.toNat]? = some t ∧ Swap s t ∧ ∀ H', Same H H' → Q (.bl true) H'
theorem sc__law_is_forged : FnScope ["_law_parts_here", "_law_thing", "_law_one", "_law_other", "_law_place"] ["_law_parts_here", "_law_thing"] (defScope s__law_is_forged) := ⟨rfl, rfl, rfl, by decide +kernel, rfl, by decide +kernel, by decide +kernel⟩
theorem c__law_is_forged (T : Tx K mg) : Cal P w K mg base 3 "_law_is_forged" (sp__law_is_forged K) := by
  refine cal_mk T._law_is_forged (fun _ _ _ _ _ _ us hl => match us, hl with | [_, _], _ => rfl) sc__law_is_forged (fun vs H Q E h => by (obtain ⟨vp, vt, p, ss, ts, last, n, s, t, rfl, hp, ok, ht, hl, hd1, hd2, hm, hn, e1, e2, hsw, k⟩ := h; rfl)) (fun f cdv A outer s H vs Q E hr h => ?_)
  obtain ⟨vp, vt, p, ss, ts, last, n, s, t, rfl, hp, ok, ht, hl, hd1, hd2, hm, hn, e1, e2, hsw, k⟩ := h
  refine ⟨_, (pss_cons (ps_asg (pv 1) (pg_tup rfl (pgs_cons (pg_name (i := 2) sc__law_is_forged.nd rfl (Or.inl rfl)) (pgs_cons (pg_name (i := 3) sc__law_is_forged.nd rfl (Or.inl rfl)) (pgs_cons (pg_name (i := 4) sc__law_is_forged.nd rfl (Or.inl rfl)) pgs_nil)))))
    (pss_cons (ps_if (PW.pt (pw_or (pt_cmpR (op_neD hr.units) (pe_c (c__law_board T) hr (by decide) rfl (pa_cons (pv 2) pa_nil)) (pe_c (c__law_board T) hr (by decide) rfl (pa_cons (pv 3) pa_nil)) (nomark _)) (pw_or (pt_not (pt_val (pe_c (c__law_is_true T) hr (by decide) rfl (pa_cons (pv 0) (pa_cons (pv 2) pa_nil))))) (pw_or1 (pt_not (pt_val (pe_c (c__law_is_true T) hr (by decide) rfl (pa_cons (pv 0) (pa_cons (pv 3) pa_nil)))))))))
      (pss_one (ps_ret pe_bl))
      pss_nil)
    (pss_cons (ps_if (PW.pt (pw_or (pt_not (pt_val (pe_callB call_isiInt rfl T.f_isinstance (by decide +kernel) (pa_cons (pv 4) (pa_cons (pe_bltn (v := .ty "int") rfl T.f_int (by decide +kernel) rfl) pa_nil))))) (pw_or (pt_val (pe_callB call_isiBool rfl T.f_isinstance (by decide +kernel) (pa_cons (pv 4) (pa_cons (pe_bltn (v := .ty "bool") rfl T.f_bool (by decide +kernel) rfl) pa_nil)))) (pw_or1 (pt_not (pt_chain op_le op_lt pe_int (pv 4) (pe_callB call_len_seq rfl T.f_len PySem.boot_len (pa_cons (pe_ix ix_tup (pv 2) pe_int (fun _ _ => rfl)) pa_nil))))))))
      (pss_one (ps_ret pe_bl))
      pss_nil)
    (pss_one (ps_ret (pe_and (pe_cmpR op_eq (pe_ix ix_tup (pe_ix ix_tup (pe_ix ix_tup (pv 2) pe_int (fun _ _ => rfl)) (pv 4) (fun _ _ => rfl)) pe_int (fun _ _ => rfl)) (pe_ix ix_tup (pe_ix ix_tup (pe_ix ix_tup (pv 3) pe_int (fun _ _ => rfl)) (pv 4) (fun _ _ => rfl)) pe_int (fun _ _ => rfl)) (nomark _)) (pe_one (pe_cmpR op_ne (pe_ix ix_tup (pe_ix ix_tup (pe_ix ix_tup (pv 2) pe_int (fun _ _ => rfl)) (pv 4) (fun _ _ => rfl)) pe_int (fun _ _ => rfl)) (pe_ix ix_tup (pe_ix ix_tup (pe_ix ix_tup (pv 3) pe_int (fun _ _ => rfl)) (pv 4) (fun _ _ => rfl)) pe_int (fun _ _ => rfl)) (nomark _))))))))), ?_⟩
  obtain ⟨a, v1, v2, rfl, ha, h1, h2⟩ := ht.told
  have hlt : ss.length = ts.length := by simpa [marks] using congrArg List.length hm
  have hnl := (List.getElem?_eq_some_iff.mp e1).1
  refine ⟨_, rfl, a, _, rfl, SqT.of ha, rfl, _, _, rfl, _, _, rfl, _, _, rfl, rfl, ?_⟩
  refine ⟨_, rfl, v1, ss, last, rfl, h1, hl, fun w1 H3 s3 hw1 => ?_⟩
  refine ⟨_, rfl, v2, ts, last, rfl, h2.kt s3.kt, by omega, fun w2 H4 s4 hw2 => ?_⟩
  have s34 := s3.trans s4
  refine ⟨_, _, (hw1.kt s4.kt).dp, hw2.dp, shp (by simp), shp (by simp), ?_⟩
  have eqb : PyData.eqv (boardT (marks ss) last).py (boardT (marks ts) last).py = true := (eqv_py _ _ (by simp) (by simp)).mpr (by rw [hm])
  rw [eqb]
  refine ⟨_, rfl, ?_⟩
  refine ⟨_, rfl, _, rfl, vp, v1, p, ss, last, rfl, hp.kt s34.kt, ok, h1.kt s34.kt, fun r1 H5 s5 hr1 => ?_⟩
  rw [hr1.mpr hd1]
  have s35 := s34.trans s5
  refine ⟨_, rfl, ?_⟩
  refine ⟨_, rfl, _, rfl, vp, v2, p, ts, last, rfl, hp.kt s35.kt, ok, h2.kt s35.kt, fun r2 H6 s6 hr2 => ?_⟩
  rw [hr2.mpr hd2]
  have s36 := s35.trans s6
  refine ⟨_, rfl, ?_⟩
  obtain ⟨a1, b1, xs1, rfl, ha1, hb1, hx1, hxl1⟩ := (h1.kt s36.kt).day
  obtain ⟨a2, b2, xs2, rfl, ha2, hb2, hx2, _⟩ := (h2.kt s36.kt).day
  refine ⟨_, rfl, n, rfl, _, rfl, ?_⟩
  refine ⟨_, rfl, n, rfl, _, rfl, ?_⟩
  refine ⟨_, rfl, _, _, rfl, rfl, decide (0 ≤ n), rfl, ?_⟩
  rw [decide_eq_true hn]
  refine ⟨_, rfl, a1, _, 0, _, rfl, rfl, SqT.of ha1, rfl, b1, _, rfl, .inr (SqT.of hb1), _, _, rfl, rfl, decide (n < (xs1.length : Int)), rfl, ?_⟩
  rw [decide_eq_true (by omega)]
  obtain ⟨u1, hu1, tu1⟩ := hx1.get (i := n.toNat) (t := stT s) (by rw [List.getElem?_map, e1]; rfl)
  obtain ⟨u2, hu2, tu2⟩ := hx2.get (i := n.toNat) (t := stT t) (by rw [List.getElem?_map, e2]; rfl)
  obtain ⟨c1, rfl, hc1⟩ := tu1.stp
  obtain ⟨c2, rfl, hc2⟩ := tu2.stp
  refine ⟨_, rfl, a1, _, 0, _, rfl, rfl, SqT.of ha1, rfl, _, rfl, b1, _, n, _, rfl, rfl, SqT.of hb1, at_of (j := n.toNat) (by omega) hu1, c1, _, 1, _, rfl, rfl, SqT.of hc1, rfl, ?_⟩
  refine ⟨_, rfl, a2, _, 0, _, rfl, rfl, SqT.of ha2, rfl, _, rfl, b2, _, n, _, rfl, rfl, SqT.of hb2, at_of (j := n.toNat) (by omega) hu2, c2, _, 1, _, rfl, rfl, SqT.of hc2, rfl, rfl, _, rfl, ?_⟩
  have ee1 : decide (V.int s.2.1 = V.int t.2.1) = true := by rw [hsw.1]; simp
  rw [ee1]
  refine ⟨_, rfl, a1, _, 0, _, rfl, rfl, SqT.of ha1, rfl, _, rfl, b1, _, n, _, rfl, rfl, SqT.of hb1, at_of (j := n.toNat) (by omega) hu1, c1, _, 0, _, rfl, rfl, SqT.of hc1, rfl, ?_⟩
  refine ⟨_, rfl, a2, _, 0, _, rfl, rfl, SqT.of ha2, rfl, _, rfl, b2, _, n, _, rfl, rfl, SqT.of hb2, at_of (j := n.toNat) (by omega) hu2, c2, _, 0, _, rfl, rfl, SqT.of hc2, rfl, rfl, ?_⟩
  have ee2 : (!decide (V.int s.1 = V.int t.1)) = true := by
    have := hsw.2
    simp [this]
  rw [ee2]
  exact k H6 s36
end
end Fx

/-! the law holds -/
namespace Fx
open PySem PySem.Spec PyProof.Rows L2
section
variable {P : Program} {w : World} {K : PySem.W.Frag} {mg : Str → Option Value} {base : Heap}
def sp_law (K : PySem.W.Frag) : Sp := fun vs H Q _ => ∃ (a : Addr) (ns : List Int), vs = [.ref a] ∧ SqL K H a (ns.map V.int) ∧ ns.length ≤ 63 ∧ ∀ H', Q (.bl true) H'
theorem sc_law : FnScope ["_law_script", "_law_hand_here", "_law_turn", "_law_parts_here", "_law_office", "_law_told", "_law_many"] ["_law_script"] (defScope s_law) := ⟨rfl, rfl, rfl, by decide +kernel, rfl, by decide +kernel, by decide +kernel⟩
theorem ok_law (T : Tx K mg) {fl : Addr} {fdl : FuncData} (F : FunD K "law" "law" (defArgs s_law) (defBody s_law) (defScope s_law) [] [] fl fdl) : FnOk P w K mg base CX0 9 fl fdl ["_law_script"] (sp_law K) := by
  refine fn_mk F sc_law (fun vs H Q E h => by (obtain ⟨a, ns, rfl, ha, hn, k⟩ := h; rfl)) (fun cdv A outer s H vs Q E hr h => ?_)
  obtain ⟨a, ns, rfl, ha, hn, k⟩ := h
  refine ⟨_, (pss_cons (ps_set (i := 1) sc_law.nd rfl (Or.inl rfl) (pe_c (c__law_hand T) hr (by decide) rfl (pa_cons (pv 0) pa_nil)))
    (pss_cons (ps_for PassesOwn.never rfl (pi_range1 rfl T.f_range (pa_cons pe_int pa_nil)) (pg_name (i := 2) sc_law.nd rfl (Or.inl rfl))
      (pss_cons (ps_set (i := 3) sc_law.nd rfl (Or.inr rfl) (pe_c (c__law_parts T) hr (by decide) rfl (pa_cons (pv 1) (pa_cons pe_int (pa_cons pe_int (pa_cons pe_int pa_nil))))))
      (pss_cons (ps_if (pt_cmpR op_eq (pe_c (c__law_draw T) hr (by decide) rfl (pa_cons (pv 1) (pa_cons pe_int pa_nil))) pe_int (nomark _))
        (pss_one (ps_set (i := 3) sc_law.nd rfl (Or.inr rfl) (pe_c (c__law_apart T) hr (by decide) rfl (pa_cons (pv 1) (pa_cons (pv 3) pa_nil)))))
        pss_nil)
      (pss_cons (ps_set (i := 4) sc_law.nd rfl (Or.inl rfl) (pe_c (c__law_made T) hr (by decide) rfl (pa_cons (pv 3) pa_nil)))
      (pss_cons (ps_set (i := 5) sc_law.nd rfl (Or.inl rfl) (pe_c (c_forging T) hr (by decide) rfl (pa_cons (pv 4) pa_nil)))
      (pss_cons (ps_if (pt_cmpR op_ne (pe_cmpR op_notN (pv 5) pe_non (nomark _)) (pe_c (c__law_can_forge T) hr (by decide) rfl (pa_cons (pv 3) pa_nil)) (nomark _))
        (pss_one (ps_ret pe_bl))
        pss_nil)
      (pss_one (ps_if (pt_cmpR op_isN (pv 5) pe_non (nomark _))
        (pss_one (ps_if (pt_val (pe_callB (cr_any rfl) rfl T.f_any (by decide +kernel) (pa_cons (pe_lc (own := [("_law_many", 6)]) rfl sc_law.nd (pi_range2 rfl T.f_range (pa_cons pe_int (pa_cons pe_int pa_nil))) (blkOk_by (own := [("_law_many", 6)]) (N := ["_law_script", "_law_hand_here", "_law_turn", "_law_parts_here", "_law_office", "_law_told", "_law_many"]) (sc := defScope s_law) (by decide +kernel)) (fun _ _ _ _ _ => (pg_name (i := 6) sc_law.nd rfl (Or.inl rfl))) (fun _ _ _ _ _ => pts_nil) (fun _ _ _ _ _ => (pe_c (c__law_on_boards T) hr (by decide) rfl (pa_cons (pv 3) (pa_cons (pv 6) pa_nil))))) pa_nil)))
          (pss_one (ps_ret pe_bl))
          pss_nil))
        (pss_cons (ps_if (PW.pt (pw_or (pt_not (pt_val (pe_callB call_isiTup rfl T.f_isinstance (by decide +kernel) (pa_cons (pv 5) (pa_cons (pe_bltn (v := .ty "tuple") rfl T.f_tuple (by decide +kernel) rfl) pa_nil))))) (pw_or (pt_cmpR op_ne (pe_callB call_len_seq rfl T.f_len PySem.boot_len (pa_cons (pv 5) pa_nil)) pe_int (nomark _)) (pw_or1 (pt_not (pt_val (pe_c (c__law_is_forged T) hr (by decide) rfl (pa_cons (pv 3) (pa_cons (pv 5) pa_nil)))))))))
          (pss_one (ps_ret pe_bl))
          pss_nil)
        (pss_cons (ps_if (PW.pt (pw_or (pt_cmpR op_notBl (pe_c (c_is_forging T) hr (by decide) rfl (pa_cons (pv 4) (pa_cons (pv 5) pa_nil))) pe_bl (nomark _)) (pw_or1 (pt_cmpR op_notBl (pe_c (c_is_forging T) hr (by decide) rfl (pa_cons (pv 4) (pa_cons (pe_tupS (pa_cons (pe_ix ix_tup (pv 5) pe_int (fun _ _ => rfl)) (pa_cons (pe_ix ix_tup (pv 5) pe_int (fun _ _ => rfl)) (pa_cons (pe_ix ix_tup (pv 5) pe_int (fun _ _ => rfl)) pa_nil)))) pa_nil))) pe_bl (nomark _)))))
          (pss_one (ps_ret pe_bl))
          pss_nil)
        (pss_one (ps_if (pt_cmpR op_notBl (pe_c (c_is_forging T) hr (by decide) rfl (pa_cons (pv 4) (pa_cons (pe_tupS (pa_cons (pe_ix ix_tup (pv 5) pe_int (fun _ _ => rfl)) (pa_cons (pe_ix ix_tup (pv 5) pe_int (fun _ _ => rfl)) (pa_cons (pe_ix ix_tup (pv 5) pe_int (fun _ _ => rfl)) pa_nil)))) pa_nil))) pe_bl (nomark _))
          (pss_one (ps_ret pe_bl))
          pss_nil))))))))))))
    (pss_one (ps_ret pe_bl)))), ?_⟩
  refine ⟨_, rfl, a, ns, rfl, ha, hn, fun h c H1 s1 h1 => ?_⟩
  refine ⟨4, rfl, by decide, by decide, for_range (lo := 0) (n := 4) (fun i σ H' => ∃ (w2 w3 w4 w5 w6 : Option V), σ = [some (.ref a), some (.ref h), w2, w3, w4, w5, w6] ∧ HA H' h c) ⟨none, none, none, none, none, rfl, h1⟩ ?_ ?_⟩
  · rintro i σ H2 hi ⟨w2, w3, w4, w5, w6, rfl, h2⟩
    refine ⟨_, rfl, h, c, rfl, h2, fun v H3 p b3 h3 tp ok => ?_⟩
    refine ⟨_, rfl, h, c, 2, rfl, h3, ⟨by decide, by decide⟩, fun k1 H4 b4 h4 lo4 hi4 => ?_⟩
    have tp := tp.kt (b4.kt h3)
    refine ⟨rfl, _, rfl, ?_⟩
    rw [dec0]
    by_cases hk : k1 = 0
    · rw [decide_eq_true hk]
      refine ⟨_, rfl, _, rfl, _, v, p, rfl, tp, ok, fun v H5 p s5 tp ok => ?_⟩
      have h4 := h4.same s5
      refine ⟨_, rfl, v, p, rfl, tp, ok, fun vo H6 s6 off => ?_⟩
      refine ⟨_, rfl, vo, p, rfl, off, ok, fun hno H7 s7 => ?_, fun vt H7 hops s last s7 hpa hs c1 c2 hl tv => ?_⟩
      · have s67 := s6.trans s7
        have tp7 := tp.kt s67.kt
        refine ⟨_, rfl, rfl, _, rfl, v, p, rfl, tp7, ok, fun r H8 s8 hr => ⟨rfl, _, rfl, ?_⟩⟩
        cases r with
        | true => exact absurd (hr.mp rfl) hno
        | false =>
          have e1 : (!decide (V.bl (!decide (V.non = V.non)) = V.bl false)) = false := by simp
          rw [e1]
          refine ⟨_, rfl, rfl, _, rfl, ?_⟩
          have e2 : decide (V.non = V.non) = true := by simp
          rw [e2]
          have tp8 := tp7.kt s8.kt
          refine ⟨1, 3, rfl, ⟨by decide, by decide, by decide, by decide⟩, fun D hD => ?_⟩
          refine lcR (lo := 1) (n := ((3 : Int) - 1).toNat) (fun i ts => ∃ bs : List Bool, ts = bs.map Fx.T.b ∧ bs.any id = false) hD (by decide) ⟨[], rfl, rfl⟩ (fun i H9 ts hi9 s9 _ ⟨bs, eb, eb2⟩ R R' c1 c2 => ?_) (fun H9 ts s9 lD _ ⟨bs, eb, eb2⟩ => ?_)
          · have hi9 : i < 2 := hi9
            refine ⟨rfl, _, rfl, _, rfl, v, p, _, rfl, tp8.kt s9.kt, ok, ⟨by omega, by omega⟩, fun r H10 s10 hr2 => ?_⟩
            cases r with
            | true => exact absurd (hr2 rfl) hno
            | false => exact c1 _ _ _ s10 (.b _) ⟨bs ++ [false], by rw [List.map_append, eb]; rfl, by rw [List.any_append, eb2]; rfl⟩
          · refine ⟨D, bs, rfl, SqL.of (lD.bools eb), _, rfl, ?_⟩
            rw [eb2]
            exact ⟨_, _, _, _, _, rfl, h4.same (s67.trans (s8.trans s9))⟩
      · have s67 := s6.trans s7
        have tp7 := tp.kt s67.kt
        have hcf : CanForge p := ⟨s, hpa.reach, hs, last, c1, c2⟩
        obtain ⟨w1, wk2, hmk, hpl⟩ := hpa.walks
        obtain ⟨hpl1, e, hpe, hsw⟩ := hpl hs
        have td1 : TrueDay p (hops.map fun x => x.2.1) last := ⟨_, w1, c1⟩
        have td2 : TrueDay p (hops.map fun x => x.2.2) last := ⟨_, wk2, c2⟩
        have g1 : (hops.map fun x => x.2.1)[((plO hops : Nat) : Int).toNat]? = some e.2.1 := by rw [Int.toNat_natCast, List.getElem?_map, hpe]; rfl
        have g2 : (hops.map fun x => x.2.2)[((plO hops : Nat) : Int).toNat]? = some e.2.2 := by rw [Int.toNat_natCast, List.getElem?_map, hpe]; rfl
        have l1 : (hops.map fun x => x.2.1).length ≤ 1000 := by rw [List.length_map]; omega
        have l2 : (hops.map fun x => x.2.2).length ≤ 1000 := by rw [List.length_map]; omega
        obtain ⟨ta, d1, d2, rfl, hta, td, te⟩ := tv.told
        refine ⟨_, rfl, rfl, _, rfl, v, p, rfl, tp7, ok, fun r H8 s8 hr => ⟨rfl, _, rfl, ?_⟩⟩
        rw [hr.mpr hcf]
        have e1 : (!decide (V.bl (!decide (V.ref ta = V.non)) = V.bl true)) = false := by simp
        rw [e1]
        refine ⟨_, rfl, rfl, _, rfl, ?_⟩
        have e2 : decide (V.ref ta = V.non) = false := by simp
        rw [e2]
        have tp8 := tp7.kt s8.kt
        have tv8 := tv.kt s8.kt
        refine ⟨_, rfl, ta, _, rfl, s8 _ _ hta, _, rfl, ?_⟩
        refine ⟨_, rfl, ta, _, rfl, .inr (SqT.of (s8 _ _ hta)), rfl, _, rfl, ?_⟩
        have e3 : (!decide (V.int (([d1, d2, V.int ((plO hops : Nat) : Int)] : List V).length : Int) = V.int 3)) = false := by simp
        rw [e3]
        refine ⟨_, rfl, _, rfl, v, .ref ta, p, _, _, last, _, _, _, rfl, tp8, ok, tv8, l1, td1, td2, hmk, Int.natCast_nonneg _, g1, g2, hsw, fun H9 s9 => ⟨_, rfl, ?_⟩⟩
        have s79 := s8.trans s9
        have off9 := off.same (s7.trans s79)
        refine ⟨_, rfl, _, rfl, vo, .ref ta, p, _, _, last, _, _, _, rfl, off9, ok, tv.kt s79.kt, l1, td1, td2, hmk, Int.natCast_nonneg _, g1, g2, fun H10 s10 => ?_⟩
        rw [decide_eq_true hsw]
        have s710 := s79.trans s10
        refine ⟨_, _, rfl, rfl, _, rfl, ?_⟩
        refine ⟨_, rfl, _, rfl, ta, _, 1, _, rfl, rfl, SqT.of (s710 _ _ hta), rfl, _, rfl, ta, _, 0, _, rfl, rfl, SqT.of (s710 _ _ hta), rfl, _, rfl, ta, _, 2, _, rfl, rfl, SqT.of (s710 _ _ hta), rfl, by show 3 ≤ _; decide, fun q1 H11 s11 hq1 _ => ?_⟩
        have s711 := s710.trans s11
        have tq1 : Tv H11 (.ref q1) (toldT (hops.map fun x => x.2.2) (hops.map fun x => x.2.1) last (plO hops : Nat)) := .t hq1 (.cons (te.kt s711.kt) (.cons (td.kt s711.kt) (.cons (.i _) .nil)))
        have hsw2 : Swap e.2.2 e.2.1 := ⟨hsw.1.symm, fun z => hsw.2 z.symm⟩
        refine ⟨vo, .ref q1, p, _, _, last, _, _, _, rfl, off.same (s7.trans s711), ok, tq1, l2, td2, td1, hmk.symm, Int.natCast_nonneg _, g2, g1, fun H12 s12 => ?_⟩
        rw [decide_eq_true hsw2]
        have s712 := s711.trans s12
        refine ⟨_, _, rfl, rfl, _, rfl, ?_⟩
        refine ⟨_, rfl, _, rfl, ta, _, 0, _, rfl, rfl, SqT.of (s712 _ _ hta), rfl, _, rfl, ta, _, 0, _, rfl, rfl, SqT.of (s712 _ _ hta), rfl, _, rfl, ta, _, 2, _, rfl, rfl, SqT.of (s712 _ _ hta), rfl, by show 3 ≤ _; decide, fun q2 H13 s13 hq2 _ => ?_⟩
        have s713 := s712.trans s13
        have tq2 : Tv H13 (.ref q2) (toldT (hops.map fun x => x.2.1) (hops.map fun x => x.2.1) last (plO hops : Nat)) := .t hq2 (.cons (td.kt s713.kt) (.cons (td.kt s713.kt) (.cons (.i _) .nil)))
        refine ⟨vo, .ref q2, p, _, _, last, _, _, _, rfl, off.same (s7.trans s713), ok, tq2, l1, td1, td1, rfl, Int.natCast_nonneg _, g1, g1, fun H14 s14 => ?_⟩
        have hns : ¬ Swap e.2.1 e.2.1 := fun z => z.2 rfl
        rw [decide_eq_false hns]
        refine ⟨_, _, rfl, rfl, _, rfl, ?_⟩
        exact ⟨_, _, _, _, _, rfl, h4.same (s67.trans ((s8.trans (s9.trans (s10.trans (s11.trans (s12.trans (s13.trans s14))))))))⟩
    · rw [decide_eq_false hk]
      refine ⟨_, rfl, v, p, rfl, tp, ok, fun vo H6 s6 off => ?_⟩
      refine ⟨_, rfl, vo, p, rfl, off, ok, fun hno H7 s7 => ?_, fun vt H7 hops s last s7 hpa hs c1 c2 hl tv => ?_⟩
      · have s67 := s6.trans s7
        have tp7 := tp.kt s67.kt
        refine ⟨_, rfl, rfl, _, rfl, v, p, rfl, tp7, ok, fun r H8 s8 hr => ⟨rfl, _, rfl, ?_⟩⟩
        cases r with
        | true => exact absurd (hr.mp rfl) hno
        | false =>
          have e1 : (!decide (V.bl (!decide (V.non = V.non)) = V.bl false)) = false := by simp
          rw [e1]
          refine ⟨_, rfl, rfl, _, rfl, ?_⟩
          have e2 : decide (V.non = V.non) = true := by simp
          rw [e2]
          have tp8 := tp7.kt s8.kt
          refine ⟨1, 3, rfl, ⟨by decide, by decide, by decide, by decide⟩, fun D hD => ?_⟩
          refine lcR (lo := 1) (n := ((3 : Int) - 1).toNat) (fun i ts => ∃ bs : List Bool, ts = bs.map Fx.T.b ∧ bs.any id = false) hD (by decide) ⟨[], rfl, rfl⟩ (fun i H9 ts hi9 s9 _ ⟨bs, eb, eb2⟩ R R' c1 c2 => ?_) (fun H9 ts s9 lD _ ⟨bs, eb, eb2⟩ => ?_)
          · have hi9 : i < 2 := hi9
            refine ⟨rfl, _, rfl, _, rfl, v, p, _, rfl, tp8.kt s9.kt, ok, ⟨by omega, by omega⟩, fun r H10 s10 hr2 => ?_⟩
            cases r with
            | true => exact absurd (hr2 rfl) hno
            | false => exact c1 _ _ _ s10 (.b _) ⟨bs ++ [false], by rw [List.map_append, eb]; rfl, by rw [List.any_append, eb2]; rfl⟩
          · refine ⟨D, bs, rfl, SqL.of (lD.bools eb), _, rfl, ?_⟩
            rw [eb2]
            exact ⟨_, _, _, _, _, rfl, h4.same (s67.trans (s8.trans s9))⟩
      · have s67 := s6.trans s7
        have tp7 := tp.kt s67.kt
        have hcf : CanForge p := ⟨s, hpa.reach, hs, last, c1, c2⟩
        obtain ⟨w1, wk2, hmk, hpl⟩ := hpa.walks
        obtain ⟨hpl1, e, hpe, hsw⟩ := hpl hs
        have td1 : TrueDay p (hops.map fun x => x.2.1) last := ⟨_, w1, c1⟩
        have td2 : TrueDay p (hops.map fun x => x.2.2) last := ⟨_, wk2, c2⟩
        have g1 : (hops.map fun x => x.2.1)[((plO hops : Nat) : Int).toNat]? = some e.2.1 := by rw [Int.toNat_natCast, List.getElem?_map, hpe]; rfl
        have g2 : (hops.map fun x => x.2.2)[((plO hops : Nat) : Int).toNat]? = some e.2.2 := by rw [Int.toNat_natCast, List.getElem?_map, hpe]; rfl
        have l1 : (hops.map fun x => x.2.1).length ≤ 1000 := by rw [List.length_map]; omega
        have l2 : (hops.map fun x => x.2.2).length ≤ 1000 := by rw [List.length_map]; omega
        obtain ⟨ta, d1, d2, rfl, hta, td, te⟩ := tv.told
        refine ⟨_, rfl, rfl, _, rfl, v, p, rfl, tp7, ok, fun r H8 s8 hr => ⟨rfl, _, rfl, ?_⟩⟩
        rw [hr.mpr hcf]
        have e1 : (!decide (V.bl (!decide (V.ref ta = V.non)) = V.bl true)) = false := by simp
        rw [e1]
        refine ⟨_, rfl, rfl, _, rfl, ?_⟩
        have e2 : decide (V.ref ta = V.non) = false := by simp
        rw [e2]
        have tp8 := tp7.kt s8.kt
        have tv8 := tv.kt s8.kt
        refine ⟨_, rfl, ta, _, rfl, s8 _ _ hta, _, rfl, ?_⟩
        refine ⟨_, rfl, ta, _, rfl, .inr (SqT.of (s8 _ _ hta)), rfl, _, rfl, ?_⟩
        have e3 : (!decide (V.int (([d1, d2, V.int ((plO hops : Nat) : Int)] : List V).length : Int) = V.int 3)) = false := by simp
        rw [e3]
        refine ⟨_, rfl, _, rfl, v, .ref ta, p, _, _, last, _, _, _, rfl, tp8, ok, tv8, l1, td1, td2, hmk, Int.natCast_nonneg _, g1, g2, hsw, fun H9 s9 => ⟨_, rfl, ?_⟩⟩
        have s79 := s8.trans s9
        have off9 := off.same (s7.trans s79)
        refine ⟨_, rfl, _, rfl, vo, .ref ta, p, _, _, last, _, _, _, rfl, off9, ok, tv.kt s79.kt, l1, td1, td2, hmk, Int.natCast_nonneg _, g1, g2, fun H10 s10 => ?_⟩
        rw [decide_eq_true hsw]
        have s710 := s79.trans s10
        refine ⟨_, _, rfl, rfl, _, rfl, ?_⟩
        refine ⟨_, rfl, _, rfl, ta, _, 1, _, rfl, rfl, SqT.of (s710 _ _ hta), rfl, _, rfl, ta, _, 0, _, rfl, rfl, SqT.of (s710 _ _ hta), rfl, _, rfl, ta, _, 2, _, rfl, rfl, SqT.of (s710 _ _ hta), rfl, by show 3 ≤ _; decide, fun q1 H11 s11 hq1 _ => ?_⟩
        have s711 := s710.trans s11
        have tq1 : Tv H11 (.ref q1) (toldT (hops.map fun x => x.2.2) (hops.map fun x => x.2.1) last (plO hops : Nat)) := .t hq1 (.cons (te.kt s711.kt) (.cons (td.kt s711.kt) (.cons (.i _) .nil)))
        have hsw2 : Swap e.2.2 e.2.1 := ⟨hsw.1.symm, fun z => hsw.2 z.symm⟩
        refine ⟨vo, .ref q1, p, _, _, last, _, _, _, rfl, off.same (s7.trans s711), ok, tq1, l2, td2, td1, hmk.symm, Int.natCast_nonneg _, g2, g1, fun H12 s12 => ?_⟩
        rw [decide_eq_true hsw2]
        have s712 := s711.trans s12
        refine ⟨_, _, rfl, rfl, _, rfl, ?_⟩
        refine ⟨_, rfl, _, rfl, ta, _, 0, _, rfl, rfl, SqT.of (s712 _ _ hta), rfl, _, rfl, ta, _, 0, _, rfl, rfl, SqT.of (s712 _ _ hta), rfl, _, rfl, ta, _, 2, _, rfl, rfl, SqT.of (s712 _ _ hta), rfl, by show 3 ≤ _; decide, fun q2 H13 s13 hq2 _ => ?_⟩
        have s713 := s712.trans s13
        have tq2 : Tv H13 (.ref q2) (toldT (hops.map fun x => x.2.1) (hops.map fun x => x.2.1) last (plO hops : Nat)) := .t hq2 (.cons (td.kt s713.kt) (.cons (td.kt s713.kt) (.cons (.i _) .nil)))
        refine ⟨vo, .ref q2, p, _, _, last, _, _, _, rfl, off.same (s7.trans s713), ok, tq2, l1, td1, td1, rfl, Int.natCast_nonneg _, g1, g1, fun H14 s14 => ?_⟩
        have hns : ¬ Swap e.2.1 e.2.1 := fun z => z.2 rfl
        rw [decide_eq_false hns]
        refine ⟨_, _, rfl, rfl, _, rfl, ?_⟩
        exact ⟨_, _, _, _, _, rfl, h4.same (s67.trans ((s8.trans (s9.trans (s10.trans (s11.trans (s12.trans (s13.trans s14))))))))⟩
  · rintro σ H2 ⟨w2, w3, w4, w5, w6, rfl, h2⟩
    exact k H2
end
end Fx

namespace Fx
open PySem PySem.Spec PyProof.Rows L2
def looseA : List Str := ["__name__", "FalseError", "BadOffice", "is_integer", "is_within", "is_pair", "is_triple", "are_ascending", "MOST_SIZE", "MOST_STANDINGS", "are_sizes", "is_move", "are_moves", "are_closings", "Office", "is_mark", "is_note", "is_step", "are_steps", "is_day", "board_of", "goals_of", "standings_behind", "shuts_with", "day_true"]
def looseB : List Str := ["is_true", "Trail", "last_of_both", "twin_steps", "is_swap", "told_pair", "forging", "is_place", "is_forging", "_law_hand", "_law_draw", "_law_row", "_law_parts", "_law_made", "_law_steps_of", "_law_behind", "_law_is_true", "_law_board", "_law_shuts", "_law_of_board", "_law_boards", "_law_apart", "_law_can_forge", "_law_is_forged", "_law_on_boards"]
def looseN : List Str := looseA ++ looseB
abbrev R : PySem.W.OpenRow := PySem.W.OpenLaw.row PySem.Challenge.rw_falsedays_k32_whole_forging
abbrev hk : PySem.W.Hook := He.hookD 5 fa fn
def ob (s : PySem.W.SharedT) : He.AlD := He.obsDG 5 fa fn (HandSHeadRun.getT s)
theorem ob_eq (s : PySem.W.SharedT) : ob s = hk.obs s.abs := He.obsDG_eq (HandSHeadRun.getT_eq s)
theorem run (w : World) : HandSHeadRun.RunEq R (PySem.W.view R.prog [54]) hk ob 4000 looseN w := by
  intro os
  kernel_rfl
end Fx

namespace Fx
open PySem PySem.Spec PyProof.Rows L2
theorem facts {P : Program} {w : World} {K : PySem.W.Frag} {h : Heap} {mg : Str → Option Value} {f : Addr} (X : K.In h) (G : h.Ns mainGlobals mg) (hfa : mg ("law" : Str) = some (.ref f)) (c : He.SaysD fa fn K) :
    ∃ fd : FuncData, (∀ (s : Shared) (v : Value), BindsTo s fd ⟨[v], []⟩ [("_law_script", v)]) ∧ ∀ base : Heap, K.In base → base.Ns mainGlobals mg → FnOk P w K mg base CX0 9 f fd ["_law_script"] (sp_law K) := by
  have T := tx_mk X G c
  obtain ⟨f', fd, F, e⟩ := T.law.ex
  have e := hfa.symm.trans e
  cases e
  have b := FunD.bindsA (ps := ["_law_script"]) F fun _ _ _ _ _ _ us hl => match us, hl with | [_], _ => rfl
  exact ⟨fd, fun s v => b s [v] rfl, fun base _ _ => ok_law T F⟩
end Fx
open PySem PySem.W PySem.Calls PyProof.Rows
theorem PySem.Challenge.cw_falsedays_k32_whole_forging_holds : PySem.Challenge.rw_falsedays_k32_whole_forging.Holds := by
  w_on; o_law
  refine HandSHeadRun.head_any (r := OpenLaw.row PySem.Challenge.rw_falsedays_k32_whole_forging) (q := view (OpenLaw.row PySem.Challenge.rw_falsedays_k32_whole_forging).prog [54]) (H := Fx.hk) (ob := Fx.ob) (M := 4000) (loose := Fx.looseN) (d := HandSHeadRun.topDef (OpenLaw.row PySem.Challenge.rw_falsedays_k32_whole_forging).prog 54) (kwd := []) Fx.ob_eq
    (by kernel_rfl) (fun s => by kernel_rfl) Fx.run (by kernel_rfl) (by kernel_rfl) (by kernel_rfl) (by rfl) (by first | assumption | decide +kernel) (by decide +kernel) ⟨rfl, rfl, rfl, rfl, rfl, by decide +kernel⟩ ?hw ?hc
  case hw => w_witness2
  case hc =>
    refine L2.walk_ofE (l := PySem.Challenge.rw_falsedays_k32_whole_forging) (n := 63) (k := 9) (x := "_law_script") (CX := L2.CX0) rfl (by decide) (by kernel_rfl) ⟨rfl, by decide, by decide⟩ ?F (fun _ _ _ _ z => z)
    intro w mg fa h Y G hmg0
    obtain ⟨K, KX, c⟩ := Y
    have hmg : mg ("law" : PySem.Str) = some (.ref fa) := by
      have e : (HandSHeadRun.topDef (OpenLaw.row PySem.Challenge.rw_falsedays_k32_whole_forging).prog 54).name = ("law" : PySem.Str) := by kernel_rfl
      rw [← e]
      exact hmg0
    obtain ⟨fd, hb, hF⟩ := Fx.facts (P := (PySem.Challenge.rw_falsedays_k32_whole_forging).prog) (w := w) KX G hmg c
    exact ⟨K, fd, Fx.sp_law K, KX, hb, fun H a ns hl _ hS => ⟨a, ns, rfl, hS, hl, fun _ => rfl⟩, hF⟩
