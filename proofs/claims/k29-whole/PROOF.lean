import PyProof.Rows.All
import Wide.All
import OpenK.AllK
import Wide.FinOn
import KE.KStateDown
import KE.KDictOf
import KE.KDictCopyH
import KE.KDictKeyed
import HandS.ForMost
import HandS.Codes
import HandS.Conv
import HandS.Property
import HandS.IsInst
import HandS.SetKeys
import HandS.SortInts
import HandS.SortRule
import HandS.TupLe
import HandS.DictComp
import HandS.Zip
import HandS.SetFor
import HandS.DictTup
import HandS.Defaults
import HandS.Exc
import HandS.Head0
import HandS.Head1
import HandS.Head2
import HandS.HeadEnd
import HandS.HeadHook1
import HandS.HeadHook2
import HandS.HeadNt
import PySem.Challenge.RW_storelands_k29_whole_keeps_by_own_runs
set_option Elab.async false
set_option linter.all false
set_option maxRecDepth 100000
set_option maxHeartbeats 4000000
/-! Rules that the layer lacks: dict(d), d.items() over tuple keys, len(set(t)), >= of tuples, repr of a list of bools. -/
namespace SL
open PySem PySem.Spec PyProof.Rows L2

/-! ### dict(d) -/
def rDictK : List V → Hp → VK → Prop := fun xs H Q => ∃ p kvs, xs = [.ref p] ∧ H p = some (.dK kvs) ∧ ∀ q, H q = none → Q (.ref q) (upd H q (.dK kvs))
theorem call_dictK {X : Cx} : CallR X (.type "dict") rDictK := by
  intro pins s σ H xs us Q I r h
  obtain ⟨p, kvs, rfl, hp, q⟩ := h
  obtain ⟨u, rfl, rx⟩ := r.one
  cases rx
  obtain ⟨z, lo, vs, rk, hd⟩ := dk_of I.hok hp
  have hl : kvs.length = vs.length := Paired.length rk
  have big := I.big
  refine kt_call_dict lo hd (by omega) fun h' hn sb => ?_
  have kp : ∀ b o, s.heap.get? b = some o → h'.get? b = some o := fun b o e => by
    rw [sb.2 b (Nat.ne_of_lt (Heap.lt_size e))]
    exact Heap.get?_push_of_some _ e
  have new : ObjOk X.prog X.w (upd H s.heap.objs.size (.dK kvs)) h' s.heap.objs.size (.dK kvs) :=
    ⟨z, beq_eq_false_iff_ne.mpr (Nat.ne_of_gt big), vs, rk, hn⟩
  exact ⟨.ref s.heap.objs.size, _, I.laid (t' := s.toks) kp (Nat.le_refl _) new, rfl, q _ (I.hok.fresh (Nat.le_refl _))⟩

section
variable {prog : Program} {w : World} {κ : Type} [DecidableEq κ] {knd : HeapKind prog w κ} {A : Around} {E : Value → Shared → Prop} {s : Shared}
/-- dict(o), o a dict whose keys are objects -/
theorem dict_ofH {o : Addr} {more : List (κ × Addr × Value)} {Q : Value → Shared → Prop} (hu : knd.room A.in1.in1) (hoS : (o == sysModules) = false) (ho : s.heap.DictOfH knd o more)
    (hsz : more.length ≤ sizeLine) (hty : ∀ x ∈ more, s.TypeIs (.ref x.2.1) "tuple") (hap : (more.map fun x => knd.hash x.1).Nodup)
    (his : ∀ h' : Heap, (∀ b u, s.heap.get? b = some u → h'.get? b = some u) → ∀ x ∈ more, knd.is h' x.1 x.2.1)
    (k : ∀ h', h'.DictOfH knd s.heap.objs.size more → Heap.SameBut s.heap.objs.size (s.heap.push { cls := .type "dict", data := .dict #[] }) h' → Q (.ref s.heap.objs.size) { s with heap := h' }) :
    wpAny (model prog w) A (call (.type "dict") [.ref o]) Q E s := by
  have hne : s.heap.objs.size ≠ o := by
    obtain ⟨_, _, _, hg, _⟩ := ho
    exact fun e => absurd (Heap.lt_size hg) (by rw [e]; exact Nat.lt_irrefl _)
  have hn : (more.map (·.1)).Nodup := let ⟨_, _, _, _, _, _, _, _, hn⟩ := ho; hn
  have kp : ∀ b u, s.heap.get? b = some u → (s.heap.push { cls := .type "dict", data := .dict #[] }).get? b = some u := fun b u e => Heap.get?_push_of_some _ e
  have ho' : (s.heap.push { cls := .type "dict", data := .dict #[] }).DictOfH knd o more := by
    obtain ⟨od, es, ep, h1, h2, h3, h4, _, h6⟩ := id ho
    exact ⟨od, es, ep, kp _ _ h1, h2, h3, h4, his _ kp, h6⟩
  have hnew : (s.heap.push { cls := .type "dict", data := .dict #[] }).DictOfH knd s.heap.objs.size [] := Heap.DictOfH.new s.heap
  refine callType_codes (Q₁ := fun obj s₁ => obj = .ref s.heap.objs.size ∧ s₁ = { s with heap := s.heap.push { cls := .type "dict", data := .dict #[] } }) F.kt_called_dict (F.kt_typeCall_dict_1 _) F.entry_dict_init
    (kt_code_dict_new _ ⟨rfl, rfl⟩) ?_
  rintro obj s₁ ⟨rfl, rfl⟩
  refine ⟨hnew.typeIs, F.args_dict_init_2 _ _, ?_⟩
  unfold Builtin.«dict.__init__»
  refine wpAny_bind ?_
  unfold Builtin.Dict.selfAndRest
  refine wpAny_bind (wpAny_notOrdered_dict hnew.typeIs ?_)
  show wpAny _ _ (pure (s.heap.objs.size, [Value.ref o])) _ _ _
  refine wpAny_pure ?_
  refine updateFrom_dictH (A := A.in1) (s := { s with heap := s.heap.push { cls := .type "dict", data := .dict #[] } }) .none hu hne hoS hnew ho' (.inr ⟨fun x hx => ?_, hap⟩) (by simpa using hsz) fun h' h1 _ h3 => ?_
  · obtain ⟨od, e1, e2⟩ := hty x hx
    exact ⟨od, kp _ _ e1, e2⟩
  · rw [storedAllH_nil_of_nodup more hn] at h1
    exact ⟨rfl, k h' h1 h3⟩
end
/-- the hash of a pair of ints as a key -/
def hash2 (i j : Int) : Int := reduceHash (Builtin.Tuple.tupleHashOf [hashInt i, hashInt j])
def rDictT (P : Program) (w : World) : List V → Hp → VK → Prop := fun xs H Q => ∃ p kvs, xs = [.ref p] ∧ H p = some (.dT kvs) ∧ (kvs.map fun x => (tupleKind (mixKind P w)).hash x.1).Nodup ∧ ∀ q, H q = none → Q (.ref q) (upd H q (.dT kvs))
theorem kt_keys {H : Hp} {kvs : List (List Key × V)} {xs : List (List Key × Addr × Value)} (r : KT H kvs xs) : kvs.map (·.1) = xs.map (·.1) := by
  induction r with
  | nil => rfl
  | cons h t ih => rw [List.map_cons, List.map_cons, ih, h.1]
theorem kt_tup {P : Program} {w : World} {H : Hp} {s : Shared} (ok : HOk P w H s.heap) {kvs : List (List Key × V)} {xs : List (List Key × Addr × Value)} (r : KT H kvs xs) : ∀ x ∈ xs, s.TypeIs (.ref x.2.1) "tuple" := by
  induction r with
  | nil => intro x hx; cases hx
  | @cons p q ps qs h t ih =>
    intro x hx
    rcases List.mem_cons.mp hx with e | hx
    · subst e
      obtain ⟨_, its, _, o, h1, h2, _⟩ := (show ObjOk P w H s.heap x.2.1 (.tup (p.1.map kV)) from ok _ _ h.2.1)
      exact ⟨o, h1, h2⟩
    · exact ih x hx
theorem call_dictT {X : Cx} (hu : X.A.units + 64 < cLine) : CallR X (.type "dict") (rDictT X.prog X.w) := by
  intro pins s σ H xs us Q I r h
  obtain ⟨p, kvs, rfl, hp, hn, q⟩ := h
  obtain ⟨u, rfl, rx⟩ := r.one
  cases rx
  obtain ⟨z, lo, vs, rk, hd⟩ := dt_of I.hok hp
  have hl : kvs.length = vs.length := Paired.length rk
  have big := I.big
  have hk := kt_keys rk
  have hn' : (vs.map fun x => (tupleKind (mixKind X.prog X.w)).hash x.1).Nodup := by
    have e : (vs.map fun x => (tupleKind (mixKind X.prog X.w)).hash x.1) = (vs.map (·.1)).map (tupleKind (mixKind X.prog X.w)).hash := by rw [List.map_map] <;> rfl
    have e' : (kvs.map fun x => (tupleKind (mixKind X.prog X.w)).hash x.1) = (kvs.map (·.1)).map (tupleKind (mixKind X.prog X.w)).hash := by rw [List.map_map] <;> rfl
    rw [e, ← hk, ← e']
    exact hn
  refine dict_ofH (knd := tupleKind (mixKind X.prog X.w)) (by show X.A.in1.in1.units < cLine; show X.A.units + 1 + 1 < cLine; omega) lo hd (by omega) (kt_tup I.hok rk) hn' (fun h' kp x hx => ?_) fun h' hnew sb => ?_
  · obtain ⟨_, _, _, _, _, _, _, his, _⟩ := hd
    exact tupleKind_stays.stays (fun b o _ _ e _ => kp b o e) (his x hx)
  · have kp : ∀ b o, s.heap.get? b = some o → h'.get? b = some o := fun b o e => by
      rw [sb.2 b (Nat.ne_of_lt (Heap.lt_size e))]
      exact Heap.get?_push_of_some _ e
    have rk' : KT (upd H s.heap.objs.size (.dT kvs)) kvs vs := rk.keeps fun b ys e => by
      rw [upd_ne (ne_of_none e (I.hok.fresh (Nat.le_refl _)))]
      exact e
    obtain ⟨o, es, ep, h1, h2, h3, h4, _, h6⟩ := hnew
    have new : ObjOk X.prog X.w (upd H s.heap.objs.size (.dT kvs)) h' s.heap.objs.size (.dT kvs) :=
      ⟨z, beq_eq_false_iff_ne.mpr (Nat.ne_of_gt big), vs, rk', o, es, ep, h1, h2, h3, h4, h6⟩
    exact ⟨.ref s.heap.objs.size, _, I.laid (t' := s.toks) kp (Nat.le_refl _) new, rfl, q _ (I.hok.fresh (Nat.le_refl _))⟩

/-! ### >= of tuples of ints -/
def rGeT (K : PySem.W.Frag) : R2 := fun x y H Q => ∃ (a b : Addr) (ns ms : List Int), x = .ref a ∧ y = .ref b ∧ SqT K H a (ns.map V.int) ∧ SqT K H b (ms.map V.int) ∧
  Q (.bl (Ob.lexAt (fun j => decide (ns.getD j 0 = ms.getD j 0)) (fun j => decide (ms.getD j 0 ≤ ns.getD j 0)) (decide (ns.length ≥ ms.length)) 0 (min ns.length ms.length))) H
theorem op_geT {X : Cx} (hu : X.A.units < cLine) : OpR X (compareOp .GtE) (rGeT X.K) := by
  intro pins s σ H x y v u Q I rx ry h
  obtain ⟨a, b, ns, ms, rfl, rfl, ha, hb, q⟩ := h
  cases rx
  cases ry
  obtain ⟨xs, r1, t1, _⟩ := I.tuple ha
  obtain ⟨ys, r2, t2, _⟩ := I.tuple hb
  have i1 : IntsAre xs ns := Vals.ints r1
  have i2 : IntsAre ys ms := Vals.ints r2
  have e1 : xs.toArray.size = ns.length := by rw [List.size_toArray]; exact i1.length
  have e2 : ys.toArray.size = ms.length := by rw [List.size_toArray]; exact i2.length
  have a1 : ∀ j (h1 : j < xs.toArray.size), ∃ t, xs.toArray[j] = .int (ns.getD j 0) t := fun j h1 => PyProof.Rows.IntsAre.int_at i1 _ _ (by simp at h1; simp [h1])
  have a2 : ∀ j (h1 : j < ys.toArray.size), ∃ t, ys.toArray[j] = .int (ms.getD j 0) t := fun j h1 => PyProof.Rows.IntsAre.int_at i2 _ _ (by simp at h1; simp [h1])
  have Rr := Ob.RcOp.tuples_ge (A := X.A) (s := s) (e := fun j => decide (ns.getD j 0 = ms.getD j 0)) (r := fun j => decide (ms.getD j 0 ≤ ns.getD j 0)) t1 t2 hu
    (fun j h1 h2 => by
      obtain ⟨t, et⟩ := a1 j h1
      obtain ⟨t', et'⟩ := a2 j h2
      rw [et, et', ← Bool.beq_eq_decide_eq]
      exact SeqAt.EqAt.int_int _ _ _ _)
    (fun j h1 h2 _ => by
      obtain ⟨t, et⟩ := a1 j h1
      obtain ⟨t', et'⟩ := a2 j h2
      rw [et, et']
      exact Ob.RcOp.ge_int _ _ _ _)
  rw [e1, e2] at Rr
  exact Rr X.prog X.w X.xe (EP X pins σ Q) ⟨.bl _, H, I, rfl, q⟩

/-! ### len(set(t)), t a tuple of unlike ints -/
def tLenSetT (K : PySem.W.Frag) (ta : TE) : TE := fun σ H Q => ta σ H fun x H1 => ∃ (l : Addr) (ns : List Int), x = .ref l ∧ SqT K H1 l (ns.map V.int) ∧ ns.Nodup ∧ ns.length ≤ 1000 ∧ Q (.int (ns.length : Nat)) H1
theorem pe_lenSetT {X : Cx} {a : Expr} {ta : TE} {p p2 q pos : Pos} (hg : Gl X "len") (hm : X.mg "len" = none) (hg2 : Gl X "set") (hm2 : X.mg "set" = none) (ha : PE X a ta) (hc : X.calm = true := by rfl)
    (na : starEach [a] X.env = (false, eval a X.env) :: starEach [] X.env := by rfl) : PE X (.Call (.Name "len" p) [.Call (.Name "set" p2) [a] [] q] [] pos) (tLenSetT X.K ta) := by
  refine ⟨fun pins s σ H Q I h => ?_⟩
  refine Call_ (ld_blt I hg hm boot_len (PyProof.Rows.callWith_builtin1 (PyProof.Rows.args_cons ?_ rfl) rfl rfl))
  refine Call_ (ld_blt I hg2 hm2 boot_set ?_)
  refine PyProof.Rows.callWith_type1 (PyProof.Rows.args_cons (thn (ha.run pins s σ H _ I h) fun v s1 ⟨x, H1, I1, r1, q1⟩ => PyProof.Rows.args_nil ?_) na) na rfl
  obtain ⟨l, ns, rfl, hq, hnd, hl, q1⟩ := q1
  cases r1
  obtain ⟨its, r, pt, hz⟩ := I1.tuple hq
  have hi : IntsAre its.toArray.toList ns := by simpa using RZ.intsAre_vals r
  refine call_set_tupI ns (I1.ok.hd hc) (show s1.heap.IsTuple l its.toArray from pt) hi (by unfold scanBound; omega) fun h' tk c R1 hcn k => ?_
  obtain ⟨o, es, ep, t, ho, hex, hdt, g, nd, hm3, hb, hf, hn, hr, hl2⟩ := R1
  refine PyProof.Rows.args_nil ?_
  have I2 : Inv X pins σ H1 { s1 with heap := h', toks := tk } := I1.kept fun b o e => k b o e
  have hlen : es.size = ns.length := by
    have p1 : (es.toList.map keyOf).Perm ns := (List.perm_ext_iff_of_nodup nd hnd).mpr fun j => by
      rw [← hm3 j, decide_eq_true_eq]
    have := p1.length_eq
    rw [List.length_map, Array.length_toList] at this
    exact this
  exact call_len_set ho hex hdt hf (by rw [hlen]; omega) ⟨.int ns.length, H1, I2.tok _, ⟨_, by rw [hlen]⟩, q1⟩
end SL
/-! d.items() of a dict with tuple keys; repr of a list of bools. -/
namespace SL
open PySem PySem.Spec PyProof.Rows L2

/-- the entries of a locked dict with tuple keys -/
theorem frz_entries {X : Cx} {pins : List (Addr × Obj)} {σ : L2.St} {H : Hp} {s : Shared} {d : Addr} {o : Obj} {kvs : List (List Key × V)} (I : Inv X pins σ H s) (h : H d = some (.frz o (.dT kvs))) :
    (d == sysModules) = false ∧ s.heap.get? d = some o ∧ o.ExactDict ∧ ∃ (es : Array DictEntry) (ep : Nat), o.data = .dict es ep ∧ es.size = kvs.length ∧
      ∀ (i : Nat) (k : List Key) (v : V), kvs[i]? = some (k, v) → ∃ (en : DictEntry) (q : Addr), es[i]? = some en ∧ en.key = .ref q ∧ H q = some (.tup (k.map kV)) ∧ RelV v en.val := by
  obtain ⟨hd, z, hs, xs, pr, ob, es, ep, ho, hx, hdt, he, _⟩ := I.hok d _ h
  have eo : o = ob := Option.some.inj (hd.symm.trans ho)
  subst eo
  have l1 : es.size = xs.length := size_of_entries he
  have l2 : kvs.length = xs.length := Paired.length pr
  refine ⟨hs, hd, hx, es, ep, hdt, by omega, fun i k v e => ?_⟩
  obtain ⟨b, hb, e1, e2, e3⟩ := paired_get pr e
  have q := entry_at he i
  rw [hb] at q
  exact ⟨_, b.2.1, q, rfl, e2, e3⟩
/-- the pairs (key tuple, value), each a new tuple -/
def ItiT (d : Addr) (o : Obj) (kvs : List (List Key × V)) : It :=
  ⟨fun i H => H d = some (.frz o (.dT kvs)) ∧ i < kvs.length, fun i H x H' => ∃ T k v q, kvs[i]? = some (k, v) ∧ x = .ref T ∧ H T = none ∧ H q = some (.tup (k.map kV)) ∧ H' = upd H T (.tup [.ref q, v]), fun i H => H d = some (.frz o (.dT kvs)) ∧ kvs.length ≤ i⟩
theorem turn_itemsT {P : Program} {w : World} {K : PySem.W.Frag} {d : Addr} {o : Obj} {es : Array DictEntry} {ep : Nat} {kvs : List (List Key × V)} {elts : List Expr} {kk : Nat} {tpos : Pos} (it : Addr) (hod : o.data = .dict es ep) :
    Turn P w K (.Tuple elts kk tpos) (ItiT d o kvs) [it] it (fun i h => ∃ ok ov, IsItemIter h it d i kvs.length ep ok ov) where
  mem := by simp
  obj := fun i h st b hb => by
    have e : b = it := by simpa using hb
    rw [e]
    obtain ⟨ok, ov, e⟩ := st
    exact ⟨_, e, fun v z => nomatch z⟩
  keep := fun i h h' st k => let ⟨ok, ov, e⟩ := st; ⟨ok, ov, k it (by simp) _ e⟩
  item := by
    intro X hP hw hK hc i pins s σ H E I hf st hg
    subst hP hw hK
    obtain ⟨hd, hi⟩ := hg
    obtain ⟨hs, hgd, hx, es', ep', hdt, hsz, ent⟩ := frz_entries I hd
    obtain ⟨rfl, rfl⟩ := dict_ep hod hdt
    obtain ⟨⟨k, v⟩, hkv⟩ : ∃ p, kvs[i]? = some p := ⟨kvs[i], List.getElem?_eq_getElem hi⟩
    obtain ⟨en, q, hen, hkey, hq, hv⟩ := ent i k v hkv
    obtain ⟨ok, ov, he⟩ := st
    rw [← hsz] at he
    have hlt : it < s.heap.objs.size := Heap.lt_size he
    have hie : i < es'.size := by omega
    have een : es'[i] = en := Option.some.inj ((Array.getElem?_eq_getElem hie).symm.trans hen)
    refine wpAny_pyNext_items_item_raw he ⟨o, hgd, hx, hdt⟩ hie fun h' ho hT hz hk => ?_
    rw [een, hkey] at ho hT
    refine ⟨_, rfl, wpAny_letOwnedTupleGo_items (s := { s with heap := h' }) ho fun h'' he' sb => ?_⟩
    have hT2 : h''.get? s.heap.objs.size = some { cls := .type "tuple", data := .seq #[.ref q, en.val] } := (sb.2 _ (Nat.ne_of_gt hlt)).trans hT
    have new : ObjOk X.prog X.w (upd H s.heap.objs.size (.tup [.ref q, v])) h'' s.heap.objs.size (.tup [.ref q, v]) :=
      ⟨by show 2 ≤ sizeLine; decide, [.ref q, en.val], .cons rfl (.cons hv .nil), ⟨_, hT2, rfl, _, rfl⟩⟩
    have I1 : Inv X pins σ (upd H s.heap.objs.size (.tup [.ref q, v])) { s with heap := h'' } :=
      I.turnedNew (t' := s.toks) (ch := [it]) (fun b ob hb e => (sb.2 b (by simpa using hb)).trans (hk b ob (by simpa using hb) e)) hf (Nat.le_refl _) new
    refine ⟨.ref s.heap.objs.size, _, I1, rfl, ⟨_, k, v, q, hkv, rfl, I.hok.fresh (Nat.le_refl _), hq, rfl⟩, ⟨.ref q, en.val, ?_⟩, fun b hb => ?_⟩
    · rw [← hsz]; exact he'
    · have e : b = it := by simpa using hb
      rw [e, upd_ne (Nat.ne_of_lt hlt)]
      exact (hf it (by simp)).1
  done := by
    intro X hP hw hK hc i pins s σ H E I hf st hg
    subst hP hw hK
    obtain ⟨hd, hi⟩ := hg
    obtain ⟨f0, f1, f2, f3, f4, f5⟩ := hf it (by simp)
    obtain ⟨hs, hgd, hx, es', ep', hdt, hsz, ent⟩ := frz_entries I hd
    obtain ⟨rfl, rfl⟩ := dict_ep hod hdt
    obtain ⟨ok, ov, he⟩ := st
    rw [← hsz] at he
    exact wpAny_pyNext_items_end_raw (I.ok.hd hc) he ⟨o, hgd, hx, hdt⟩ (by omega) fun h' eb => ⟨rfl, I.turned (t' := s.toks) (fun b ob hb e => eb b ob hb e) f0 f1 f3 f4 f5⟩
  self := fun A i s Q E st h => let ⟨_, _, e⟩ := st; PySem.W.kcp_self e h
def iItemsT (td : TE) : TI := fun σ H R => td σ H fun x H1 => ∃ d o kvs, x = .ref d ∧ H1 d = some (.frz o (.dT kvs)) ∧ R (ItiT d o kvs) H1
theorem pi_itemsT {X : Cx} {e : Expr} {td : TE} {apos cpos : Pos} {elts : List Expr} {kk : Nat} {tpos : Pos} (he : PE X e td) (hbase : attributeBase e "items" X.env (eval e X.env) = eval e X.env := by rfl) (hline : (apos.endLine == cpos.line) = true := by rfl) :
    PI X (.Tuple elts kk tpos) (.Call (.Attribute e "items" apos) [] [] cpos) (iItemsT td) := by
  refine ⟨fun pins s σ H R I h => ?_⟩
  refine wpAny_Call_method (T := "dict") (id := "dict.items") hbase rfl hline F.plainAttrs_dict F.slot_dict_items F.type_dict_items (thn (he.run pins s σ H _ I h) fun u s1 ⟨x, H1, I1, rx, d, o, kvs, ex, hd, q⟩ => ?_)
  subst ex
  obtain rfl : u = Value.ref d := rx
  obtain ⟨hs, hgd, hx, es, ep, hdt, hsz, ent⟩ := frz_entries I1 hd
  have hm : s1.heap.DictRaw d es ep := ⟨o, hgd, hx, hdt⟩
  refine ⟨hm.typeIs, ?_, ?_⟩
  · have no : o.dict = none := hx.2.1
    exact fun a e => by
      cases e
      exact ⟨o, hgd, no⟩
  have I2 : Inv X pins σ H1 { s1 with heap := s1.heap.push { cls := .type "dict_items", data := .fields #[.ref d] } } := I1.kept (t' := s1.toks) fun b ob q => Heap.get?_push_of_some _ q
  have fin : wpAny (model X.prog X.w) X.A (pyIter (.ref s1.heap.objs.size)) (PIE X pins σ (.Tuple elts kk tpos) R) X.xe { s1 with heap := s1.heap.push { cls := .type "dict_items", data := .fields #[.ref d] } } := by
    refine wpAny_pyIter_items_raw (d := d) ⟨_, Heap.get?_push_size _ rfl, rfl, rfl⟩ (hm.at fun ob e => Heap.get?_push_of_some _ e) (pi_one (tk := s1.toks) I2 _ (turn_itemsT _ hdt) ⟨.none, .none, ?_⟩ q)
    rw [← hsz]
    exact Heap.get?_push_size _ rfl
  show wpAny _ _ (callWith cpos (.builtin "dict.items") [.ref d] [] []) _ X.xe s1
  exact method_meetsIn F.slot_dict_items F.entry_dict_items rfl (PySem.evalArgs_none ⟨rfl, hm.typeIs, F.args_dict_items_1 _, _, meets_dict_items_raw d hs, ⟨⟨es, ep, hm⟩, fin⟩⟩)

/-! ### repr of a list of bools, where nothing is being shown -/
def reprBs (bs : List Bool) : Str := (PyData.list (bs.map PyData.bool)).shown
def rReprB (K : PySem.W.Frag) : List V → Hp → VK → Prop := fun xs H Q => ∃ (a : Addr) (bs : List Bool), xs = [.ref a] ∧ H a = some (.lst (bs.map V.bl)) ∧ (reprBs bs).length ≤ sizeLine ∧ Q (.str (reprBs bs)) H
theorem reads_bools {h : Heap} : ∀ {bs : List Bool} {us : List Value}, Vals (bs.map V.bl) us → ReadsAll h us (bs.map PyData.bool) []
  | [], _, .nil => .nil
  | b :: bs, _, .cons r t => by
    cases r
    exact .cons (as := []) (bs := []) (.bool b) (reads_bools t)
theorem call_reprB {X : Cx} (hg : X.A.guards = some []) (hu : X.A.units + 64 < cLine) : CallR X (.builtin "repr") (rReprB X.K) := by
  intro pins s σ H xs us Q I r h
  obtain ⟨a, bs, rfl, ha, hz, q⟩ := h
  obtain ⟨u, rfl, rx⟩ := r.one
  cases rx
  obtain ⟨_, its, n, rv, e⟩ := (show ObjOk X.prog X.w H s.heap a (.lst (bs.map V.bl)) from I.hok a _ ha)
  have rd : Reads s.heap (.ref a) (.list (bs.map PyData.bool)) [a] := .list (as := []) e rfl rfl (reads_bools rv)
  have sh : ∀ l : List Bool, PyData.showableAll (l.map PyData.bool) = true := by
    intro l
    induction l with
    | nil => rfl
    | cons b l ih => simp [PyData.showableAll, PyData.showable, ih]
  have dp : ∀ l : List Bool, PyData.depthAll (l.map PyData.bool) ≤ 1 := by
    intro l
    induction l with
    | nil => simp [PyData.depthAll]
    | cons b l ih => simp [PyData.depthAll, PyData.depth]; omega
  have hd : (PyData.list (bs.map PyData.bool)).depth ≤ 3 := by
    have := dp bs
    simp only [PyData.depth]
    omega
  have nd : ∀ l : List Bool, PyData.hasDictAll (l.map PyData.bool) = false := by
    intro l
    induction l with
    | nil => rfl
    | cons b l ih => simp [PyData.hasDictAll, PyData.hasDict, ih]
  refine repr_of_reads' rd (by simpa [PyData.showable] using sh bs) (fun z => by rw [show (PyData.list (bs.map PyData.bool)).hasDict = PyData.hasDictAll (bs.map PyData.bool) by simp [PyData.hasDict], nd bs] at z; cases z) hg (by omega) (fun _ _ e => e) (fun h' u tk kp => ?_) hz
  exact ⟨.str (reprBs bs), H, I.kept (t' := tk) kp, ⟨u, rfl⟩, q⟩
end SL
/-! Heaps that grow; comprehensions by what each turn hands out. -/
namespace SL
open PySem PySem.Spec PyProof.Rows L2

/-- a natural number as a value; one that may be missing -/
abbrev vn (n : Nat) : V := .int (n : Int)
def vo : Option Nat → V
  | none => .non
  | some n => vn n
theorem vn_inj {a b : Nat} : (vn a = vn b) ↔ a = b := by
  constructor
  · intro h
    have := V.int.inj h
    omega
  · intro h
    rw [h]
theorem vo_inj : ∀ {a b : Option Nat}, vo a = vo b ↔ a = b
  | none, none => by simp [vo]
  | none, some b => by simp [vo]
  | some a, none => by simp [vo]
  | some a, some b => by
    show vn a = vn b ↔ _
    rw [vn_inj]
    simp
theorem vo_flat (a : Option Nat) : flatV (vo a) = true := by cases a <;> rfl

theorem _root_.L2.Same.new {H : Hp} {p : Addr} {o : HO} (h : H p = none) : Same H (upd H p o) := fun a u e => by
  rw [upd_ne (ne_of_none e h)]
  exact e
/-- what the base does not know may change -/
theorem _root_.L2.Same.mut {B H : Hp} {p : Addr} {o : HO} (e : Same B H) (h : B p = none) : Same B (upd H p o) := fun a u ha => by
  rw [upd_ne (ne_of_none ha h)]
  exact e a u ha
theorem _root_.L2.Same.at {H H' : Hp} (e : Same H H') {a : Addr} {o : HO} (h : H a = some o) : H' a = some o := e a o h
theorem _root_.L2.Same.fr {H H' : Hp} (e : Same H H') {l : Addr} (h : H' l = Option.none) : H l = Option.none := L2.Same.free e h

/-- all but what stands in ls is as it was -/
def But (ls : Addr → Prop) (H H' : Hp) : Prop := ∀ b o, ¬ ls b → H b = some o → H' b = some o
theorem But.refl (ls : Addr → Prop) (H : Hp) : But ls H H := fun _ _ _ h => h
theorem But.trans {ls : Addr → Prop} {H H1 H2 : Hp} (a : But ls H H1) (b : But ls H1 H2) : But ls H H2 := fun c o n h => b c o n (a c o n h)
theorem But.same {ls : Addr → Prop} {B H H' : Hp} (b : But ls H H') (e : Same B H) (n : ∀ a, ls a → B a = none) : Same B H' := fun a o h => b a o (fun z => by rw [n a z] at h; cases h) (e a o h)
theorem But.of_same {ls : Addr → Prop} {H H' : Hp} (e : Same H H') : But ls H H' := fun a o _ h => e a o h
theorem But.new {ls : Addr → Prop} {H : Hp} {p : Addr} {o : HO} (h : H p = none) : But ls H (upd H p o) := But.of_same (L2.Same.new h)
theorem But.put {ls : Addr → Prop} {H : Hp} {p : Addr} {o : HO} (h : ls p) : But ls H (upd H p o) := fun a u n e => by
  rw [upd_ne (fun z => n (by rw [z]; exact h))]
  exact e
theorem But.mono {ls ms : Addr → Prop} {H H' : Hp} (b : But ls H H') (h : ∀ a, ls a → ms a) : But ms H H' := fun a o n e => b a o (fun z => n (h a z)) e
/-- a heap without one object -/
def del (H : Hp) (l : Addr) : Hp := fun a => if a = l then none else H a
theorem del_same (H : Hp) (l : Addr) : Same (del H l) H := fun a o h => by
  unfold del at h
  split at h
  · cases h
  · exact h
theorem del_none (H : Hp) (l : Addr) : del H l l = none := by unfold del; rw [if_pos rfl]
theorem del_at {H : Hp} {l a : Addr} {o : HO} (h : H a = some o) (n : a ≠ l) : del H l a = some o := by unfold del; rw [if_neg n]; exact h
theorem del_free {H : Hp} {l a : Addr} (h : H a = none) : del H l a = none := by
  unfold del
  split
  · rfl
  · exact h
/-- the base's sameness, given back -/
theorem But.of_del {H H' : Hp} {l : Addr} (e : Same (del H l) H') : But (fun a => a = l) H H' := fun a o n h => e a o (del_at h n)

/-! ### comprehensions: one name, no test -/
section
variable {K : PySem.W.Frag} {j : Nat} {te : TE} {σ : L2.St} {B H1 : Hp} {D a : Addr} {xs : List V} {Qd : Hp → Prop}
theorem lc_turn {R : Nat → V → Hp → Prop} (hD : B D = none) (mono : ∀ i y H H', (∀ b o, b ≠ D → H b = some o → H' b = some o) → R i y H → R i y H') {i n : Nat} {H : Hp} {acc : List V}
    (hs : Same B H) (hacc : H D = some (.lst acc)) (hl : acc.length = i) (hi : i < n) (hn : n ≤ 100000) (hR : ∀ k y, acc[k]? = some y → R k y H)
    (turn : ∀ N : V → Hp → Prop, (∀ y H', Same H H' → R i y H' → N y H') → te σ H N) :
    te σ H fun y H4 => ∃ acc, H4 D = some (.lst acc) ∧ acc.length < sizeLine ∧
      (Same B (upd H4 D (.lst (acc ++ [y]))) ∧ ∃ ac2, upd H4 D (.lst (acc ++ [y])) D = some (.lst ac2) ∧ ac2.length = i + 1 ∧ ∀ k y2, ac2[k]? = some y2 → R k y2 (upd H4 D (.lst (acc ++ [y])))) := by
  refine turn _ fun y H4 s4 r4 => ?_
  have h4 : H4 D = some (.lst acc) := s4 _ _ hacc
  have up : ∀ b o, b ≠ D → H4 b = some o → upd H4 D (.lst (acc ++ [y])) b = some o := fun b o hb e => by rw [upd_ne hb]; exact e
  have up0 : ∀ b o, b ≠ D → H b = some o → upd H4 D (.lst (acc ++ [y])) b = some o := fun b o hb e => up b o hb (s4 b o e)
  refine ⟨acc, h4, Nat.lt_of_lt_of_le (show acc.length < 100000 by omega) (by decide), (hs.trans s4).mut hD, acc ++ [y], upd_same, by rw [List.length_append, hl]; rfl, fun k y2 e => ?_⟩
  by_cases hk : k < acc.length
  · rw [List.getElem?_append_left hk] at e
    exact mono k y2 H _ up0 (hR k y2 e)
  · have hk2 : k = i := by
      have := (List.getElem?_eq_some_iff.mp e).1
      rw [List.length_append] at this
      simp at this
      omega
    subst hk2
    rw [List.getElem?_append_right (by omega), hl, Nat.sub_self] at e
    cases e
    exact mono _ _ H4 _ up r4
theorem lcT (R : Nat → V → Hp → Prop) (hB : Same B H1) (hD : H1 D = none) (ha : SqT K B a xs) (hn : xs.length ≤ 100000) (mono : ∀ i y H H', (∀ b o, b ≠ D → H b = some o → H' b = some o) → R i y H → R i y H')
    (hw : ∀ x : V, wipe ((wipe σ [j]).set j (some x)) [j] = wipe σ [j])
    (turn : ∀ i x H, xs[i]? = some x → Same B H → H D ≠ none → ∀ N : V → Hp → Prop, (∀ y H', Same H H' → R i y H' → N y H') → te ((wipe σ [j]).set j (some x)) H N)
    (hd : ∀ H ys, Same B H → H D = some (.lst ys) → ys.length = xs.length → (∀ i y, ys[i]? = some y → R i y H) → Qd H) :
    ∃ W : Nat → Nat → Hp → Prop, (∃ m, W 0 m (upd H1 D (.lst []))) ∧ ∀ i m H, W i m H →
      ((Itt K a).stop i H ∧ Qd H) ∨ ((Itt K a).go i H ∧ ∃ Nx : Hp → Prop, (∀ H', Nx H' → ∃ m', m' < m ∧ W (i + 1) m' H') ∧ ∀ x H', (Itt K a).yld i H x H' → gName j x (wipe σ [j]) H' fun σ2 H2 => wipe σ2 [j] = wipe σ [j] ∧ tYes σ2 H2 fun b H3 =>
        if b = true then te σ2 H3 fun y H4 => ∃ acc, H4 D = some (.lst acc) ∧ acc.length < sizeLine ∧ Nx (upd H4 D (.lst (acc ++ [y]))) else Nx H3) := by
  have hBD : B D = none := hB.fr hD
  refine lc_tup (xs := xs) (fun i H => Same B H ∧ ∃ ys, H D = some (.lst ys) ∧ ys.length = i ∧ ∀ k y, ys[k]? = some y → R k y H) ⟨hB.mut hBD, [], upd_same, rfl, fun k y e => by simp at e⟩
    (fun i H _ p => ?_) (fun i x H hx p => ?_) fun H p => ?_
  · rcases ha with h | h
    · rcases h with h | ⟨o, h⟩
      · exact Or.inl (Or.inl (p.1 _ _ h))
      · exact Or.inl (Or.inr ⟨o, p.1 _ _ h⟩)
    · exact Or.inr h
  · obtain ⟨hs, ys, hy, hl, hR⟩ := p
    refine ⟨hw x, ?_⟩
    exact lc_turn hBD mono hs hy hl (List.getElem?_eq_some_iff.mp hx).1 hn hR (turn i x H hx hs (by rw [hy]; simp))
  · obtain ⟨hs, ys, hy, hl, hR⟩ := p
    exact hd H ys hs hy hl hR
theorem lcL (R : Nat → V → Hp → Prop) (hB : Same B H1) (hD : H1 D = none) (ha : SqL K B a xs) (hn : xs.length ≤ 100000) (mono : ∀ i y H H', (∀ b o, b ≠ D → H b = some o → H' b = some o) → R i y H → R i y H')
    (hw : ∀ x : V, wipe ((wipe σ [j]).set j (some x)) [j] = wipe σ [j])
    (turn : ∀ i x H, xs[i]? = some x → Same B H → H D ≠ none → ∀ N : V → Hp → Prop, (∀ y H', Same H H' → R i y H' → N y H') → te ((wipe σ [j]).set j (some x)) H N)
    (hd : ∀ H ys, Same B H → H D = some (.lst ys) → ys.length = xs.length → (∀ i y, ys[i]? = some y → R i y H) → Qd H) :
    ∃ W : Nat → Nat → Hp → Prop, (∃ m, W 0 m (upd H1 D (.lst []))) ∧ ∀ i m H, W i m H →
      ((Itl K a).stop i H ∧ Qd H) ∨ ((Itl K a).go i H ∧ ∃ Nx : Hp → Prop, (∀ H', Nx H' → ∃ m', m' < m ∧ W (i + 1) m' H') ∧ ∀ x H', (Itl K a).yld i H x H' → gName j x (wipe σ [j]) H' fun σ2 H2 => wipe σ2 [j] = wipe σ [j] ∧ tYes σ2 H2 fun b H3 =>
        if b = true then te σ2 H3 fun y H4 => ∃ acc, H4 D = some (.lst acc) ∧ acc.length < sizeLine ∧ Nx (upd H4 D (.lst (acc ++ [y]))) else Nx H3) := by
  have hBD : B D = none := hB.fr hD
  refine lc_list (xs := xs) (fun i H => Same B H ∧ ∃ ys, H D = some (.lst ys) ∧ ys.length = i ∧ ∀ k y, ys[k]? = some y → R k y H) ⟨hB.mut hBD, [], upd_same, rfl, fun k y e => by simp at e⟩
    (fun i H _ p => L2.Same.seq p.1 ha) (fun i x H hx p => ?_) fun H p => ?_
  · obtain ⟨hs, ys, hy, hl, hR⟩ := p
    refine ⟨hw x, ?_⟩
    exact lc_turn hBD mono hs hy hl (List.getElem?_eq_some_iff.mp hx).1 hn hR (turn i x H hx hs (by rw [hy]; simp))
  · obtain ⟨hs, ys, hy, hl, hR⟩ := p
    exact hd H ys hs hy hl hR
theorem lcR {lo : Int} {n : Nat} (R : Nat → V → Hp → Prop) (hB : Same B H1) (hD : H1 D = none) (hn : n ≤ 100000) (mono : ∀ i y H H', (∀ b o, b ≠ D → H b = some o → H' b = some o) → R i y H → R i y H')
    (hw : ∀ x : V, wipe ((wipe σ [j]).set j (some x)) [j] = wipe σ [j])
    (turn : ∀ i H, i < n → Same B H → H D ≠ none → ∀ N : V → Hp → Prop, (∀ y H', Same H H' → R i y H' → N y H') → te ((wipe σ [j]).set j (some (.int (lo + i)))) H N)
    (hd : ∀ H ys, Same B H → H D = some (.lst ys) → ys.length = n → (∀ i y, ys[i]? = some y → R i y H) → Qd H) :
    ∃ W : Nat → Nat → Hp → Prop, (∃ m, W 0 m (upd H1 D (.lst []))) ∧ ∀ i m H, W i m H →
      ((Itr lo n).stop i H ∧ Qd H) ∨ ((Itr lo n).go i H ∧ ∃ Nx : Hp → Prop, (∀ H', Nx H' → ∃ m', m' < m ∧ W (i + 1) m' H') ∧ ∀ x H', (Itr lo n).yld i H x H' → gName j x (wipe σ [j]) H' fun σ2 H2 => wipe σ2 [j] = wipe σ [j] ∧ tYes σ2 H2 fun b H3 =>
        if b = true then te σ2 H3 fun y H4 => ∃ acc, H4 D = some (.lst acc) ∧ acc.length < sizeLine ∧ Nx (upd H4 D (.lst (acc ++ [y]))) else Nx H3) := by
  have hBD : B D = none := hB.fr hD
  refine lc_range (fun i H => Same B H ∧ ∃ ys, H D = some (.lst ys) ∧ ys.length = i ∧ ∀ k y, ys[k]? = some y → R k y H) ⟨hB.mut hBD, [], upd_same, rfl, fun k y e => by simp at e⟩
    (fun i H hi p => ?_) fun H p => ?_
  · obtain ⟨hs, ys, hy, hl, hR⟩ := p
    refine ⟨hw _, ?_⟩
    exact lc_turn hBD mono hs hy hl hi hn hR (turn i H hi hs (by rw [hy]; simp))
  · obtain ⟨hs, ys, hy, hl, hR⟩ := p
    exact hd H ys hs hy hl hR
end
/-- a list's items told by place -/
theorem list_of_at {ys : List V} {n : Nat} {f : Nat → V} (hl : ys.length = n) (h : ∀ i y, ys[i]? = some y → y = f i) : ys = (List.range n).map f := by
  apply List.ext_getElem?
  intro i
  rw [List.getElem?_map]
  by_cases hi : i < n
  · rw [List.getElem?_range hi]
    have hy : ys[i]? = some ys[i] := List.getElem?_eq_getElem (by omega)
    rw [hy, h i _ hy]
    rfl
  · rw [List.getElem?_eq_none (by omega), List.getElem?_eq_none (by simp; omega)]
    rfl
theorem scal_ii {a b : Int} : (scal (.int a) (.int b) = true) = True := by simp [scal]
theorem scal_ni {b : Int} : (scal .non (.int b) = true) = True := by simp [scal]
theorem scal_in {a : Int} : (scal (.int a) .non = true) = True := by simp [scal]
theorem scal_nn : (scal .non .non = true) = True := by simp [scal]
theorem scal_bb {a b : Bool} : (scal (.bl a) (.bl b) = true) = True := by simp [scal]
theorem scal_ss {a b : Str} : (scal (.str a) (.str b) = true) = True := by simp [scal]
theorem scal_oo {a b : Option Nat} : (scal (vo a) (vo b) = true) = True := by cases a <;> cases b <;> simp [scal, vo]
/-! ### readings in short -/
section
variable {K : PySem.W.Frag} {H : Hp} {Q : VK}
theorem q_isi {x : V} {t n : String} {b : Bool} (ty : TyX K H x (.type t)) (hb : kitB t n = some b) (q : Q (.bl b) H) : rIsi K [x, .ty n] H Q := ⟨x, .ty n, .type t, .type n, b, rfl, .ty n, ty, kit_ty hb, q⟩
theorem q_ixT {p : Addr} {xs : List V} {i : Nat} {v : V} (h : H p = some (.tup xs)) (e : xs[i]? = some v) (q : Q v H) : rIxT K (.ref p) (vn i) H Q := ⟨p, xs, _, v, rfl, rfl, Or.inl (Or.inl h), atI_nat e, q⟩
theorem q_ixL {p : Addr} {xs : List V} {i : Nat} {v : V} (h : H p = some (.lst xs)) (e : xs[i]? = some v) (q : Q v H) : rIxL K (.ref p) (vn i) H Q := ⟨p, xs, _, v, rfl, rfl, Or.inl (Or.inl h), atI_nat e, q⟩
end
theorem bools_of {ys : List V} {b : Bool} (h : ∀ (i : Nat) (y : V), ys[i]? = some y → y = .bl b) : ys = (List.replicate ys.length b).map V.bl := by
  rw [List.map_replicate]
  exact List.eq_replicate_of_mem fun y hy => by
    obtain ⟨i, hi⟩ := List.mem_iff_getElem?.mp hy
    exact h i y hi
theorem q_all {K : PySem.W.Frag} {H : Hp} {Q : VK} {D : Addr} {ys : List V} (h : H D = some (.lst ys)) (hb : ∀ (i : Nat) (y : V), ys[i]? = some y → y = .bl true) (q : Q (.bl true) H) : rAll K [.ref D] H Q := by
  refine ⟨D, List.replicate ys.length true, rfl, Or.inl (Or.inl ?_), ?_⟩
  · rw [← bools_of hb]
    exact h
  · rw [show (List.replicate ys.length true).all id = true by simp]
    exact q
theorem q_any {K : PySem.W.Frag} {H : Hp} {Q : VK} {D : Addr} {ys : List V} (h : H D = some (.lst ys)) (hb : ∀ (i : Nat) (y : V), ys[i]? = some y → y = .bl false) (q : Q (.bl false) H) : rAny K [.ref D] H Q := by
  refine ⟨D, List.replicate ys.length false, rfl, Or.inl (Or.inl ?_), ?_⟩
  · rw [← bools_of hb]
    exact h
  · rw [show (List.replicate ys.length false).any id = false by simp]
    exact q
section
variable {K : PySem.W.Frag} {H : Hp}
theorem q_fld {a C dx : Addr} {fs : List (Str × V)} {f : Str} {v : V} {N : V → Prop} (h : H a = some (.ins C dx fs)) (c : Cls K C) (n : NoAttr K C f) (l : fs.lookup f = some v) (q : N v) :
    ∃ C' dx' fs', H a = some (.ins C' dx' fs') ∧ Cls K C' ∧ NoAttr K C' f ∧ ∃ v', fs'.lookup f = some v' ∧ N v' := ⟨_, _, _, h, c, n, _, l, q⟩
theorem q_sfld {a C dx : Addr} {fs fs' : List (Str × V)} {f : Str} {y : V} {N : Hp → Prop} (h : H a = some (.ins C dx fs)) (c : Cls K C) (n : NoAttr K C f) (l : fs.length < 1000) (e : putF f y fs = fs') (q : N (upd H a (.ins C dx fs'))) :
    ∃ C' dx' fs2, H a = some (.ins C' dx' fs2) ∧ Cls K C' ∧ NoAttr K C' f ∧ fs2.length < 1000 ∧ N (upd H a (.ins C' dx' (putF f y fs2))) := ⟨_, _, _, h, c, n, l, by rw [e]; exact q⟩
theorem q_get {a : Addr} {kvs : List (Key × V)} {k : Key} {v : V} (h : H a = some (.dK kvs)) (e : valV kvs k = some v) : DGet H a (kV k) (some v) := by
  have z := DGet.k (k := k) h
  rw [e] at z
  exact z
theorem q_none {a : Addr} {kvs : List (Key × V)} {k : Key} (h : H a = some (.dK kvs)) (e : valV kvs k = none) : DGet H a (kV k) none := by
  have z := DGet.k (k := k) h
  rw [e] at z
  exact z
theorem q_put {a : Addr} {kvs kvs' : List (Key × V)} {k : Key} {v : V} {N : Hp → Prop} (h : H a = some (.dK kvs)) (hl : kvs.length < 100000) (e : putK kvs k v = kvs') (q : N (upd H a (.dK kvs'))) : ∃ H4, DPut H a (kV k) v H4 ∧ N H4 :=
  ⟨_, DPut.k h (Nat.lt_of_lt_of_le hl (by decide)), by rw [e]; exact q⟩
end
/-- small enough -/
theorem szl {n : Nat} (h : n ≤ 100000) : n ≤ sizeLine := Nat.le_trans h (by decide)
theorem szt {n : Nat} (h : n < 100000) : n < sizeLine := Nat.lt_of_lt_of_le h (by decide)
end SL
/-! The mathematics: ways of a hand, what keeps means, trees. No program here. -/
namespace SL
/-! ### neighbours, reaching -/
def nbr (ps : List (Nat × Nat)) (a b : Nat) : Prop := (a, b) ∈ ps ∨ (b, a) ∈ ps
theorem nbr_symm {ps : List (Nat × Nat)} {a b : Nat} (h : nbr ps a b) : nbr ps b a := h.symm
inductive Rch (adj : Nat → Nat → Prop) (S : Nat → Prop) (a : Nat) : Nat → Prop where
  | refl : S a → Rch adj S a a
  | step {b c : Nat} : Rch adj S a b → adj b c → S c → Rch adj S a c
theorem Rch.mono {adj : Nat → Nat → Prop} {S S' : Nat → Prop} {a b : Nat} (h : Rch adj S a b) (k : ∀ x, S x → S' x) : Rch adj S' a b := by
  induction h with
  | refl h => exact .refl (k _ h)
  | step _ h1 h2 ih => exact .step ih h1 (k _ h2)
theorem Rch.in_ {adj : Nat → Nat → Prop} {S : Nat → Prop} {a b : Nat} (h : Rch adj S a b) : S b := by
  cases h with
  | refl h => exact h
  | step _ _ h => exact h
theorem Rch.first {adj : Nat → Nat → Prop} {S : Nat → Prop} {a b : Nat} (h : Rch adj S a b) : S a := by
  induction h with
  | refl h => exact h
  | step _ _ _ ih => exact ih
theorem Rch.trans {adj : Nat → Nat → Prop} {S : Nat → Prop} {a b c : Nat} (h : Rch adj S a b) (k : Rch adj S b c) : Rch adj S a c := by
  induction k with
  | refl _ => exact h
  | step _ h1 h2 ih => exact .step ih h1 h2
theorem Rch.symm {adj : Nat → Nat → Prop} {S : Nat → Prop} (sy : ∀ a b, adj a b → adj b a) {a b : Nat} (h : Rch adj S a b) : Rch adj S b a := by
  induction h with
  | refl h => exact .refl h
  | step h0 h1 h2 ih => exact Rch.trans (.step (.refl h2) (sy _ _ h1) h0.in_) ih
/-- a set that is closed and holds the start holds all that is reached -/
theorem Rch.closed {adj : Nat → Nat → Prop} {S C : Nat → Prop} {a b : Nat} (h : Rch adj S a b) (h0 : C a) (k : ∀ x y, C x → adj x y → S y → C y) : C b := by
  induction h with
  | refl _ => exact h0
  | step _ h1 h2 ih => exact k _ _ ih h1 h2

/-! ### a world: web, book, reading, homes, moves -/
abbrev Mvs := List ((Nat × Int) × Option Nat)
def mvL (m : Mvs) (k : Nat × Int) : Option (Option Nat) := (m.find? fun e => decide (e.1 = k)).map (·.2)
def mvP (m : Mvs) (k : Nat × Int) (t : Option Nat) : Mvs :=
  if (m.any fun e => decide (e.1 = k)) = true then m.map fun e => if e.1 = k then (e.1, t) else e else m ++ [(k, t)]
structure Wd where
  size : Nat
  pushes : List (Nat × Nat)
  many : Nat
  ties : List (Nat × Nat)
  reading : List (Option Nat)
  homes : List Nat
  moves : Mvs
def Wd.rd (W : Wd) (s : Nat) : Option Nat := (W.reading[s]?).join
def Wd.mv (W : Wd) (s : Nat) (o : Int) : Option (Option Nat) := mvL W.moves (s, o)

theorem mvL_P_same (m : Mvs) (k : Nat × Int) (t : Option Nat) : mvL (mvP m k t) k = some t := by
  unfold mvP mvL
  by_cases h : (m.any fun e => decide (e.1 = k)) = true
  · rw [if_pos h]
    induction m with
    | nil => simp at h
    | cons e r ih =>
      by_cases he : e.1 = k
      · rw [List.map_cons, if_pos he, List.find?_cons_of_pos (by simp [he])]
        rfl
      · rw [List.map_cons, if_neg he, List.find?_cons_of_neg (by simp [he])]
        refine ih ?_
        rw [List.any_cons] at h
        simpa [he] using h
  · rw [if_neg h, List.find?_append]
    have : m.find? (fun e => decide (e.1 = k)) = none := by
      rw [List.find?_eq_none]
      intro x hx hd
      exact h (List.any_eq_true.mpr ⟨x, hx, hd⟩)
    rw [this]
    simp
theorem mvL_P_other (m : Mvs) {k j : Nat × Int} (t : Option Nat) (hj : j ≠ k) : mvL (mvP m k t) j = mvL m j := by
  unfold mvP mvL
  by_cases h : (m.any fun e => decide (e.1 = k)) = true
  · rw [if_pos h]
    clear h
    induction m with
    | nil => rfl
    | cons e r ih =>
      rw [List.map_cons]
      by_cases he : e.1 = k
      · rw [if_pos he]
        have e1 : ¬ e.1 = j := fun z => hj (z.symm.trans he)
        rw [List.find?_cons_of_neg (by simpa using e1), List.find?_cons_of_neg (by simpa using e1)]
        exact ih
      · rw [if_neg he]
        by_cases h2 : e.1 = j
        · rw [List.find?_cons_of_pos (by simpa using h2), List.find?_cons_of_pos (by simpa using h2)]
        · rw [List.find?_cons_of_neg (by simpa using h2), List.find?_cons_of_neg (by simpa using h2)]
          exact ih
  · rw [if_neg h, List.find?_append]
    cases m.find? (fun e => decide (e.1 = j)) with
    | some e => rfl
    | none =>
      simp
      exact fun z => hj z.symm
theorem mvP_keys (m : Mvs) (k : Nat × Int) (t : Option Nat) : (mvP m k t).map (·.1) = if (m.any fun e => decide (e.1 = k)) = true then m.map (·.1) else m.map (·.1) ++ [k] := by
  unfold mvP
  split
  · rw [List.map_map]
    refine List.map_congr_left fun e _ => ?_
    simp only [Function.comp]
    split <;> rfl
  · rw [List.map_append]
    rfl
theorem mvP_nodup {m : Mvs} (k : Nat × Int) (t : Option Nat) (h : (m.map (·.1)).Nodup) : ((mvP m k t).map (·.1)).Nodup := by
  rw [mvP_keys]
  split
  · exact h
  · rename_i hn
    refine List.nodup_append.mpr ⟨h, by simp, fun a ha b hb => ?_⟩
    have hb' : b = k := by simpa using hb
    subst hb'
    rintro rfl
    obtain ⟨e, he, e2⟩ := List.mem_map.mp ha
    exact hn (List.any_eq_true.mpr ⟨e, he, by simpa using e2⟩)
theorem mvP_mem {m : Mvs} {k : Nat × Int} {t : Option Nat} {e : (Nat × Int) × Option Nat} (h : e ∈ mvP m k t) : e = (k, t) ∨ (e ∈ m ∧ e.1 ≠ k) := by
  unfold mvP at h
  split at h
  · obtain ⟨x, hx, e2⟩ := List.mem_map.mp h
    by_cases hk : x.1 = k
    · rw [if_pos hk] at e2
      exact .inl (by rw [← e2, hk])
    · rw [if_neg hk] at e2
      exact .inr (by rw [← e2]; exact ⟨hx, hk⟩)
  · rename_i hn
    rcases List.mem_append.mp h with h | h
    · refine .inr ⟨h, fun z => hn (List.any_eq_true.mpr ⟨e, h, by simpa using z⟩)⟩
    · exact .inl (by simpa using h)
theorem mvL_mem {m : Mvs} {k : Nat × Int} {t : Option Nat} (h : mvL m k = some t) : (k, t) ∈ m := by
  unfold mvL at h
  cases e : m.find? (fun e => decide (e.1 = k)) with
  | none => rw [e] at h; cases h
  | some x =>
    rw [e] at h
    have hx := List.mem_of_find?_eq_some e
    have h2 : x.1 = k := by simpa using List.find?_some e
    have h3 : x.2 = t := by simpa using h
    rw [← h2, ← h3]
    exact hx
theorem mvL_some {m : Mvs} {k : Nat × Int} (h : k ∈ m.map (·.1)) : ∃ t, mvL m k = some t := by
  obtain ⟨e, he, hk⟩ := List.mem_map.mp h
  unfold mvL
  cases q : m.find? (fun e => decide (e.1 = k)) with
  | some x => exact ⟨x.2, rfl⟩
  | none =>
    rw [List.find?_eq_none] at q
    exact absurd (by simpa using hk) (q e he)

/-- a world of the right kind -/
structure Wd.Ok (W : Wd) : Prop where
  size1 : 1 ≤ W.size
  size12 : W.size ≤ 12
  push : ∀ p ∈ W.pushes, p.1 < p.2 ∧ p.2 < W.size
  pushA : W.pushes.Pairwise fun p q => p.1 < q.1 ∨ (p.1 = q.1 ∧ p.2 < q.2)
  many1 : 1 ≤ W.many
  many8 : W.many ≤ 8
  tie : ∀ p ∈ W.ties, p.1 < p.2 ∧ p.2 < W.many
  tieA : W.ties.Pairwise fun p q => p.1 < q.1 ∨ (p.1 = q.1 ∧ p.2 < q.2)
  conn : ∀ k, k < W.many → Rch (nbr W.ties) (fun x => x < W.many) 0 k
  rdL : W.reading.length = W.size
  rdC : ∀ (s c : Nat), W.rd s = some c → c < W.many
  hmL : W.homes.length = W.many
  hmN : W.homes.Nodup
  hmS : ∀ h ∈ W.homes, h < W.size
  hmR : ∀ (c h : Nat), W.homes[c]? = some h → W.rd h = some c
  mvN : (W.moves.map (·.1)).Nodup
  mvK : ∀ e ∈ W.moves, e.1.1 < W.size ∧ -1 ≤ e.1.2 ∧ e.1.2 < W.many ∧ ∀ t, e.2 = some t → nbr W.pushes e.1.1 t ∧ t < W.size

/-! ### ways -/
/-- a way with the order o, read within cs, to where the hand rests -/
def IsPath (W : Wd) (o : Int) (cs : List Nat) : List Nat → Prop
  | [] => False
  | [a] => (∃ c, W.rd a = some c ∧ c ∈ cs) ∧ W.mv a o = some none
  | a :: b :: r => (∃ c, W.rd a = some c ∧ c ∈ cs) ∧ W.mv a o = some (some b) ∧ IsPath W o cs (b :: r)
theorem IsPath.head_rd {W : Wd} {o : Int} {cs : List Nat} : ∀ {p : List Nat} {a : Nat}, IsPath W o cs p → p.head? = some a → ∃ c, W.rd a = some c ∧ c ∈ cs
  | [], _, h, _ => h.elim
  | [_], _, h, e => by simp at e; subst e; exact h.1
  | _ :: _ :: _, _, h, e => by simp at e; subst e; exact h.1
theorem IsPath.head_mv {W : Wd} {o : Int} {cs : List Nat} : ∀ {p : List Nat} {a : Nat}, IsPath W o cs p → p.head? = some a → ∃ t, W.mv a o = some t
  | [], _, h, _ => h.elim
  | [_], _, h, e => by simp at e; subst e; exact ⟨_, h.2⟩
  | _ :: _ :: _, _, h, e => by simp at e; subst e; exact ⟨_, h.2.1⟩
theorem IsPath.uniq {W : Wd} {o : Int} {cs ds : List Nat} : ∀ {p q : List Nat}, IsPath W o cs p → IsPath W o ds q → p.head? = q.head? → p = q
  | [], _, h, _, _ => h.elim
  | _ :: _, [], _, h, _ => h.elim
  | [a], [b], _, _, e => by simp at e; rw [e]
  | [a], b :: c :: r, h, k, e => by
    simp at e
    subst e
    have k1 := k.2.1
    rw [h.2] at k1
    exact absurd k1 (by simp)
  | a :: b :: r, [c], h, k, e => by
    simp at e
    subst e
    have h1 := h.2.1
    rw [k.2] at h1
    exact absurd h1 (by simp)
  | a :: b :: r, c :: d :: t, h, k, e => by
    simp at e
    subst e
    have h1 := h.2.1
    rw [k.2.1] at h1
    have e2 : d = b := by simpa using h1
    subst e2
    rw [IsPath.uniq h.2.2 k.2.2 rfl]
theorem IsPath.drop {W : Wd} {o : Int} {cs : List Nat} : ∀ {p : List Nat} (i : Nat), IsPath W o cs p → i < p.length → IsPath W o cs (p.drop i)
  | _, 0, h, _ => h
  | [], _ + 1, h, _ => h.elim
  | [_], i + 1, _, hi => by simp at hi
  | _ :: b :: r, i + 1, h, hi => IsPath.drop (p := b :: r) i h.2.2 (by simpa using hi)
theorem IsPath.nodup {W : Wd} {o : Int} {cs : List Nat} {p : List Nat} (h : IsPath W o cs p) : p.Nodup := by
  refine List.pairwise_iff_getElem.mpr fun i j hi hj hij e0 => ?_
  have e : p[i]? = p[j]? := by rw [List.getElem?_eq_getElem hi, List.getElem?_eq_getElem hj, e0]
  have h1 := h.drop i (by omega)
  have h2 := h.drop j hj
  have e1 : (p.drop i).head? = (p.drop j).head? := by
    rw [List.head?_drop, List.head?_drop, e]
  have e2 := congrArg List.length (h1.uniq h2 e1)
  rw [List.length_drop, List.length_drop] at e2
  omega
theorem IsPath.rd_of {W : Wd} {o : Int} {cs : List Nat} {p : List Nat} (h : IsPath W o cs p) {s : Nat} (hs : s ∈ p) : ∃ c, W.rd s = some c ∧ c ∈ cs := by
  obtain ⟨i, hi⟩ := List.mem_iff_getElem?.mp hs
  have hl := (List.getElem?_eq_some_iff.mp hi).1
  exact (h.drop i hl).head_rd (by rw [List.head?_drop, hi])
/-- the way so far, found, leads from s to here -/
structure Seg (W : Wd) (o : Int) (cs : List Nat) (s : Nat) (found : List Nat) (here : Nat) : Prop where
  fwd : ∀ q, IsPath W o cs q → q.head? = some here → IsPath W o cs (found ++ q) ∧ (found ++ q).head? = some s
  bwd : ∀ p, IsPath W o cs p → p.head? = some s → ∃ q, p = found ++ q ∧ IsPath W o cs q ∧ q.head? = some here
theorem Seg.nil (W : Wd) (o : Int) (cs : List Nat) (s : Nat) : Seg W o cs s [] s := ⟨fun q h e => ⟨h, e⟩, fun p h e => ⟨p, rfl, h, e⟩⟩
theorem Seg.snoc {W : Wd} {o : Int} {cs : List Nat} {s here there : Nat} {found : List Nat} (h : Seg W o cs s found here) (hr : ∃ c, W.rd here = some c ∧ c ∈ cs) (hm : W.mv here o = some (some there)) : Seg W o cs s (found ++ [here]) there where
  fwd := fun q hq e => by
    have h1 : IsPath W o cs (here :: q) := by
      cases q with
      | nil => exact hq.elim
      | cons b r =>
        simp at e
        subst e
        exact ⟨hr, hm, hq⟩
    rw [List.append_assoc]
    exact h.fwd (here :: q) h1 rfl
  bwd := fun p hp e => by
    obtain ⟨q, e1, h1, h2⟩ := h.bwd p hp e
    cases q with
    | nil => exact h1.elim
    | cons a r =>
      simp at h2
      subst h2
      cases r with
      | nil =>
        rw [h1.2] at hm
        simp at hm
      | cons b r =>
        have e2 : b = there := by
          have := h1.2.1
          rw [hm] at this
          simpa using this.symm
        subst e2
        exact ⟨b :: r, by rw [e1]; simp, h1.2.2, rfl⟩
theorem Seg.last {W : Wd} {o : Int} {cs : List Nat} {s here : Nat} {found : List Nat} (h : Seg W o cs s found here) (hr : ∃ c, W.rd here = some c ∧ c ∈ cs) (hm : W.mv here o = some none) : IsPath W o cs (found ++ [here]) ∧ (found ++ [here]).head? = some s :=
  h.fwd [here] ⟨hr, hm⟩ rfl
/-- no way from s: what may be seen at here -/
theorem Seg.stop {W : Wd} {o : Int} {cs : List Nat} {s here : Nat} {found : List Nat} (h : Seg W o cs s found here) (b : (¬ ∃ c, W.rd here = some c ∧ c ∈ cs) ∨ here ∈ found ∨ W.mv here o = none) (p : List Nat) (hp : IsPath W o cs p) : p.head? ≠ some s := fun e => by
  obtain ⟨q, e1, h1, h2⟩ := h.bwd p hp e
  rcases b with b | b | b
  · exact b (h1.head_rd h2)
  · have nd := hp.nodup
    rw [e1] at nd
    have := (List.nodup_append.mp nd).2.2 here b here
    refine this ?_ rfl
    cases q with
    | nil => exact h1.elim
    | cons a r =>
      simp at h2
      subst h2
      exact List.mem_cons_self
  · obtain ⟨t, ht⟩ := h1.head_mv h2
    rw [b] at ht
    cases ht
/-- the way home goes right -/
def HomeOk (W : Wd) (s : Nat) : Prop := ∃ p c, W.rd s = some c ∧ IsPath W (-1) [c] p ∧ p.head? = some s ∧ p.getLast? = W.homes[c]?
/-- a change goes right, cuts and all -/
def ChangeOk (W : Wd) (v w : Nat) : Prop := ∃ p h, IsPath W (w : Int) [v, w] p ∧ W.homes[v]? = some h ∧ p.head? = some h ∧ p.getLast? = W.homes[w]? ∧ ∀ s ∈ p, HomeOk W s
def Due (W : Wd) : Prop := ∀ v w, nbr W.ties v w → ChangeOk W v w
/-- a way home, and each one on it -/
theorem home_drop {W : Wd} {p : List Nat} {c s : Nat} (hp : IsPath W (-1) [c] p) (hl : p.getLast? = W.homes[c]?) {i : Nat} (hi : p[i]? = some s) :
    IsPath W (-1) [c] (p.drop i) ∧ (p.drop i).head? = some s ∧ (p.drop i).getLast? = W.homes[c]? ∧ W.rd s = some c := by
  have hlt := (List.getElem?_eq_some_iff.mp hi).1
  refine ⟨hp.drop i hlt, by rw [List.head?_drop, hi], ?_, ?_⟩
  · rw [List.getLast?_drop, if_neg (by omega), hl]
  · obtain ⟨c', h1, h2⟩ := hp.rd_of (List.mem_of_getElem? hi)
    have : c' = c := by simpa using h2
    rw [h1, this]
theorem HomeOk.next {W : Wd} {s t c : Nat} (hr : W.rd s = some c) (hm : W.mv s (-1) = some (some t)) (ht : W.rd t = some c) : HomeOk W s ↔ HomeOk W t := by
  constructor
  · rintro ⟨p, c', h1, h2, h3, h4⟩
    have ec : c' = c := by rw [hr] at h1; simpa using h1.symm
    subst ec
    cases p with
    | nil => exact h2.elim
    | cons a r =>
      simp at h3
      subst h3
      cases r with
      | nil => rw [h2.2] at hm; simp at hm
      | cons b r =>
        have eb : b = t := by
          have := h2.2.1
          rw [hm] at this
          simpa using this.symm
        subst eb
        exact ⟨b :: r, c', ht, h2.2.2, rfl, by rw [← h4]; simp⟩
  · rintro ⟨p, c', h1, h2, h3, h4⟩
    have ec : c' = c := by rw [ht] at h1; simpa using h1.symm
    subst ec
    cases p with
    | nil => exact h2.elim
    | cons a r =>
      simp at h3
      subst h3
      exact ⟨s :: a :: r, c', hr, ⟨⟨c', hr, by simp⟩, hm, h2⟩, rfl, by rw [← h4]; simp⟩
theorem HomeOk.here {W : Wd} {s c : Nat} (hr : W.rd s = some c) (hm : W.mv s (-1) = some none) : HomeOk W s ↔ W.homes[c]? = some s := by
  constructor
  · rintro ⟨p, c', h1, h2, h3, h4⟩
    have ec : c' = c := by rw [hr] at h1; simpa using h1.symm
    subst ec
    have e := h2.uniq (q := [s]) (ds := [c']) ⟨⟨c', hr, by simp⟩, hm⟩ (by rw [h3]; rfl)
    subst e
    rw [← h4]
    rfl
  · intro h
    exact ⟨[s], c, hr, ⟨⟨c, hr, by simp⟩, hm⟩, rfl, by rw [h]; rfl⟩
end SL
namespace SL
theorem nodup_le {α : Type} [DecidableEq α] : ∀ {l F : List α}, l.Nodup → (∀ x ∈ l, x ∈ F) → l.length ≤ F.length
  | [], _, _, _ => Nat.zero_le _
  | a :: r, F, nd, h => by
    obtain ⟨h1, h2⟩ := List.nodup_cons.mp nd
    have ha : a ∈ F := h a List.mem_cons_self
    have q := nodup_le (l := r) (F := F.erase a) h2 fun x hx => by
      have hne : x ≠ a := fun e => h1 (e ▸ hx)
      exact (List.mem_erase_of_ne hne).mpr (h x (List.mem_cons_of_mem _ hx))
    rw [List.length_erase_of_mem ha] at q
    have := List.length_pos_of_mem ha
    rw [List.length_cons]
    omega
theorem nodup_lt {l : List Nat} {n : Nat} (nd : l.Nodup) (h : ∀ x ∈ l, x < n) : l.length ≤ n := by
  have := nodup_le (F := List.range n) nd fun x hx => List.mem_range.mpr (h x hx)
  rw [List.length_range] at this
  exact this
theorem range_le {F : List Nat} {n : Nat} (h : ∀ k, k < n → k ∈ F) : n ≤ F.length := by
  have := nodup_le (l := List.range n) (F := F) List.nodup_range fun x hx => h x (List.mem_range.mp hx)
  rw [List.length_range] at this
  exact this
/-- the search under way: F what is found, D what waits -/
structure Srch (ts : List (Nat × Nat)) (n : Nat) (F D : List Nat) (x : Option (Nat × List Nat)) : Prop where
  nd : F.Nodup
  lt : ∀ k ∈ F, k < n
  z : 0 ∈ F
  sub : ∀ k ∈ D, k ∈ F
  xin : ∀ p, x = some p → p.1 ∈ F ∧ ∀ y ∈ p.2, y ∈ F
  cl : ∀ k ∈ F, k ∉ D → (∀ p, x = some p → k ≠ p.1) → ∀ y, nbr ts k y → y < n → y ∈ F
theorem Srch.start {ts : List (Nat × Nat)} {n : Nat} (h : 0 < n) : Srch ts n [0] [0] none :=
  ⟨by simp, by simp [h], by simp, by simp, (fun _ e => by cases e), fun k hk hn => absurd hk hn⟩
theorem Srch.pop {ts : List (Nat × Nat)} {n : Nat} {F D : List Nat} {x : Nat} (h : Srch ts n F (D ++ [x]) none) : Srch ts n F D (some (x, [])) :=
  ⟨h.nd, h.lt, h.z, fun k hk => h.sub k (List.mem_append_left _ hk), (fun p e => by
    cases e
    exact ⟨h.sub x (by simp), by simp⟩), fun k hk hD hx y => h.cl k hk (fun hm => by
    rcases List.mem_append.mp hm with z | z
    · exact hD z
    · exact hx _ rfl (List.mem_singleton.mp z)) (fun _ e => by cases e) y⟩
theorem Srch.old {ts : List (Nat × Nat)} {n : Nat} {F D l : List Nat} {x y : Nat} (h : Srch ts n F D (some (x, l))) (hy : y ∈ F) : Srch ts n F D (some (x, l ++ [y])) :=
  ⟨h.nd, h.lt, h.z, h.sub, (fun p e => by
    cases e
    refine ⟨(h.xin _ rfl).1, fun z hz => ?_⟩
    rcases List.mem_append.mp hz with hz | hz
    · exact (h.xin _ rfl).2 z hz
    · rw [List.mem_singleton.mp hz]
      exact hy), fun k hk hD hx => h.cl k hk hD fun p e => by
    cases e
    exact hx (x, l ++ [y]) rfl⟩
theorem Srch.new {ts : List (Nat × Nat)} {n : Nat} {F D l : List Nat} {x y : Nat} (h : Srch ts n F D (some (x, l))) (hy : y ∉ F) (hn : y < n) : Srch ts n (F ++ [y]) (D ++ [y]) (some (x, l ++ [y])) where
  nd := List.nodup_append.mpr ⟨h.nd, by simp, fun a ha b hb e => hy (by rw [← List.mem_singleton.mp hb, ← e]; exact ha)⟩
  lt := fun k hk => by
    rcases List.mem_append.mp hk with hk | hk
    · exact h.lt k hk
    · rw [List.mem_singleton.mp hk]
      exact hn
  z := List.mem_append_left _ h.z
  sub := fun k hk => by
    rcases List.mem_append.mp hk with hk | hk
    · exact List.mem_append_left _ (h.sub k hk)
    · exact List.mem_append_right _ hk
  xin := fun p e => by
    cases e
    refine ⟨List.mem_append_left _ (h.xin _ rfl).1, fun z hz => ?_⟩
    rcases List.mem_append.mp hz with hz | hz
    · exact List.mem_append_left _ ((h.xin _ rfl).2 z hz)
    · exact List.mem_append_right _ hz
  cl := fun k hk hD hx z hz hzn => by
    rcases List.mem_append.mp hk with hk | hk
    · exact List.mem_append_left _ (h.cl k hk (fun q => hD (List.mem_append_left _ q)) (fun p e => by cases e; exact hx (x, l ++ [y]) rfl) z hz hzn)
    · exact absurd (List.mem_append_right _ hk) hD
theorem Srch.done {ts : List (Nat × Nat)} {n : Nat} {F D l : List Nat} {x : Nat} (h : Srch ts n F D (some (x, l))) (hl : ∀ y, nbr ts x y → y ∈ l) : Srch ts n F D none :=
  ⟨h.nd, h.lt, h.z, h.sub, (fun _ e => by cases e), fun k hk hD _ y hy hn => by
    by_cases e : k = x
    · subst e
      exact (h.xin _ rfl).2 y (hl y hy)
    · exact h.cl k hk hD (fun p e2 => by cases e2; exact e) y hy hn⟩
theorem Srch.all {ts : List (Nat × Nat)} {n : Nat} {F : List Nat} (h : Srch ts n F [] none) (c : ∀ k, k < n → Rch (nbr ts) (fun x => x < n) 0 k) : n ≤ F.length :=
  range_le fun k hk => (c k hk).closed h.z fun x y hx hxy hy => h.cl x hx (by simp) (fun _ e => by cases e) y hxy hy
end SL
namespace SL
def allP (n : Nat) : List (Nat × Nat) := (List.range n).flatMap fun j => (List.range j).map fun i => (i, j)
theorem mem_allP {n : Nat} {p : Nat × Nat} (h1 : p.1 < p.2) (h2 : p.2 < n) : p ∈ allP n :=
  List.mem_flatMap.mpr ⟨p.2, List.mem_range.mpr h2, List.mem_map.mpr ⟨p.1, List.mem_range.mpr h1, rfl⟩⟩
theorem asc_nodup {ps : List (Nat × Nat)} (h : ps.Pairwise fun p q => p.1 < q.1 ∨ (p.1 = q.1 ∧ p.2 < q.2)) : ps.Nodup := h.imp fun {a b} hab e => by
  subst e
  omega
theorem asc_len {ps : List (Nat × Nat)} {n m k : Nat} (h : ps.Pairwise fun p q => p.1 < q.1 ∨ (p.1 = q.1 ∧ p.2 < q.2)) (ok : ∀ p ∈ ps, p.1 < p.2 ∧ p.2 < n) (hn : n ≤ m) (hk : (allP m).length = k) : ps.length ≤ k := by
  rw [← hk]
  exact nodup_le (asc_nodup h) fun p hp => mem_allP (ok p hp).1 (by have := (ok p hp).2; omega)
theorem Wd.Ok.push66 {W : Wd} (h : W.Ok) : W.pushes.length ≤ 66 := asc_len h.pushA h.push h.size12 (by decide)
theorem Wd.Ok.tie28 {W : Wd} (h : W.Ok) : W.ties.length ≤ 28 := asc_len h.tieA h.tie h.many8 (by decide)
theorem mvs_len {m : Mvs} (nd : (m.map (·.1)).Nodup) (h : ∀ e ∈ m, e.1.1 < 12 ∧ -1 ≤ e.1.2 ∧ e.1.2 < 8) : m.length ≤ 108 := by
  have e : m.length = ((m.map (·.1)).map fun k => k.1 * 9 + (k.2 + 1).toNat).length := by simp
  rw [e]
  have hk : ∀ k ∈ m.map (·.1), k.1 < 12 ∧ -1 ≤ k.2 ∧ k.2 < 8 := fun k hk => by
    obtain ⟨e, he, rfl⟩ := List.mem_map.mp hk
    exact h e he
  have nd2 : ((m.map (·.1)).map fun k => k.1 * 9 + (k.2 + 1).toNat).Nodup := by
    refine List.pairwise_map.mpr (nd.imp_of_mem fun {a b} ha hb hab e => hab ?_)
    obtain ⟨a1, a2⟩ := a
    obtain ⟨b1, b2⟩ := b
    have h1 := hk _ ha
    have h2 := hk _ hb
    simp only at h1 h2 e
    have e1 : a1 = b1 := by omega
    have e2 : a2 = b2 := by omega
    rw [e1, e2]
  refine nodup_lt (n := 108) nd2 fun x hx => ?_
  obtain ⟨k, h1, rfl⟩ := List.mem_map.mp hx
  have := hk _ h1
  omega
theorem Wd.Ok.mv108 {W : Wd} (h : W.Ok) : W.moves.length ≤ 108 := mvs_len h.mvN fun e he => by
  have := h.mvK e he
  have := h.size12
  have := h.many8
  omega
theorem Wd.Ok.rd_mem {W : Wd} (h : W.Ok) {c : Nat} (hc : some c ∈ W.reading) : c < W.many := by
  obtain ⟨i, hi⟩ := List.mem_iff_getElem?.mp hc
  refine h.rdC i c ?_
  unfold Wd.rd
  rw [hi]
  rfl
theorem Wd.rd_get {W : Wd} (h : W.Ok) {s : Nat} (hs : s < W.size) : W.reading[s]? = some (W.rd s) := by
  unfold Wd.rd
  rw [List.getElem?_eq_getElem (by rw [h.rdL]; exact hs)]
  rfl
end SL
/-! A def as it stands behind the top; promises of defs that want to know that nothing is being shown (guards). -/
namespace SL
open PySem PySem.Spec PyProof.Rows L2

abbrev Frg := PySem.W.Frag
def DefOf (K : Frg) (mg : Str → Option Value) (x : Str) (st : Stmt) : Prop := ∃ f fd, mg x = some (.ref f) ∧ FunD K x x (defArgs st) (defBody st) (defScope st) [] [] f fd
structure InitOf (K : Frg) (mg : Str → Option Value) (x q : Str) (C : Addr) (st : Stmt) : Prop where
  gl : mg x = some (.ref C)
  cl : Cls K C
  ex : ∃ fI fd, Mk K C fI ∧ FunD K "__init__" q (defArgs st) (defBody st) (defScope st) [] [] fI fd
structure PropT (K : Frg) (C : Addr) (f q : Str) (st : Stmt) : Prop where
  cl : Cls K C
  ex : ∃ p g fd, PropOf K C f p g ∧ FunD K f q (defArgs st) (defBody st) (defScope st) [] [] g fd

section
variable {P : Program} {w : World} {K : Frg} {mg : Str → Option Value} {base : Heap} {x q : Str} {st : Stmt} {N ps : List Str} {k : Nat} {sp : Sp}
theorem mkCal (D : DefOf K mg x st) (S : FnScope N ps (defScope st))
    (hb : ∀ (kV doc pm : Value) (an : Option Addr) (cdv ct : Value) (us : List Value), us.length = ps.length → bindArgs (PySem.W.fnOf x x (defArgs st) (defBody st) (defScope st) .none kV doc pm an cdv ct) ⟨us, []⟩ = pure (ps.zip us))
    (len : ∀ vs H Q E, sp vs H Q E → vs.length = ps.length)
    (body : ∀ (f : Addr) (cdv : Value) (A : Around) (outer : List Env) (s : Shared) (H : Hp) (vs : List V) (Q : VK) (E : XK), Room k (A.deeper (envOfC x (defScope st) s.heap.objs.size f cdv)) → sp vs H Q E →
      ∃ t, PSs (cxOf CX0 P w K mg base N x (defScope st) f cdv A outer s H E).nox (defBody st) t ∧ t { nx := fun _ H' => Q .non H', rt := Q } (start N vs) H) : C8.Cal P w K mg base (k + 1) x sp [] := by
  obtain ⟨f, fd, hm, F⟩ := D
  refine ⟨f, fd, ps, [], F.ok S len (fun cdv A outer s H vs Q E hr h => ?_), hm, F.kp, F.bindsN hb, .nil⟩
  obtain ⟨t, h1, h2⟩ := body f cdv A outer s H vs Q E hr h
  exact ⟨t, h1.nox, h2⟩
theorem mkMak {C : Addr} (D : InitOf K mg x q C st) (S : FnScope N ps (defScope st))
    (hb : ∀ (kV doc pm : Value) (an : Option Addr) (cdv ct : Value) (us : List Value), us.length = ps.length → bindArgs (PySem.W.fnOf "__init__" q (defArgs st) (defBody st) (defScope st) .none kV doc pm an cdv ct) ⟨us, []⟩ = pure (ps.zip us))
    (len : ∀ vs H Q E, sp vs H Q E → vs.length = ps.length)
    (body : ∀ (f : Addr) (cdv : Value) (A : Around) (outer : List Env) (s : Shared) (H : Hp) (vs : List V) (Q : VK) (E : XK), Room k (A.deeper (envOfC q (defScope st) s.heap.objs.size f cdv)) → sp vs H Q E →
      ∃ t, PSs (cxOf CX0 P w K mg base N q (defScope st) f cdv A outer s H E).nox (defBody st) t ∧ t { nx := fun _ H' => Q .non H', rt := Q } (start N vs) H) : C8.Mak P w K mg base (k + 1) x C sp [] := by
  obtain ⟨fI, fd, M, F⟩ := D.ex
  refine ⟨fI, fd, ps, [], M, F.ok S len (fun cdv A outer s H vs Q E hr h => ?_), D.gl, F.bindsN hb, .nil⟩
  obtain ⟨t, h1, h2⟩ := body fI cdv A outer s H vs Q E hr h
  exact ⟨t, h1.nox, h2⟩
end
section
variable {X : Cx}
theorem pe_gi {x : Str} {i : Int} {pos : Pos} (hg : Gl X x) (h : ∃ t, X.mg x = some (.int i t)) (hd : (x == ("__debug__" : Str)) = false := by decide) : PE X (.Name x pos) (tC (.int i)) := by
  obtain ⟨t, h⟩ := h
  exact pe_glob (v := .int i) hg h ⟨t, rfl⟩ hd
/-- e.f, a property that hands out the object's attribute g -/
theorem pe_propT {C : Addr} {f g q : Str} {st : Stmt} {j : Nat} {e : Expr} {pos : Pos} {ta : TE} {p1 p2 p3 : Pos} (h : PropT X.K C f q st) (hN : NoAttr X.K C g) (hb : defBody st = [.Return (some (.Attribute (.Name "self" p1) g p2)) p3])
    (S : FnScope ["self"] ["self"] (defScope st))
    (hbi : ∀ (kV doc pm : Value) (an : Option Addr) (cdv ct : Value) (us : List Value), us.length = (["self"] : List Str).length → bindArgs (PySem.W.fnOf f q (defArgs st) (defBody st) (defScope st) .none kV doc pm an cdv ct) ⟨us, []⟩ = pure ((["self"] : List Str).zip us))
    (hr : Room j X.A) (hk : 2 ≤ j) (he : PE X e ta) (hab : attributeBase e f X.env (eval e X.env) = eval e X.env) : PE X (.Attribute e f pos) (tProp C (getSp C g) [] E0 ta) := by
  obtain ⟨p, gf, fd, hp, F⟩ := h.ex
  have b := F.bindsN hbi
  obtain ⟨oc, od, dV, kV, doc, pm, an, cdv, ct, osl, rfl, lk, hcd, _, _⟩ := F.ex
  exact pe_prop (k := 1) (ps := ["self"]) (dvs := []) (ds := []) (CX := CX0) he h.cl hp (fn_getter (k := 0) (N := ["self"]) lk hcd S rfl hb h.cl hN) (hr.mono hk) b .nil pass0 hab
end

/-! ### guards -/
structure FnG (P : Program) (w : World) (K : Frg) (mg : Str → Option Value) (base : Heap) (k : Nat) (f : Addr) (fd : FuncData) (ps : List Str) (sp : Sp) : Prop where
  len : ∀ vs H Q E, sp vs H Q E → vs.length = ps.length
  run : ∀ (A : Around) (outer : List Env) (s : Shared) (H : Hp) (args : Args) (us : List Value) (vs : List V) (Q : VK) (E : XK), A.guards = some [] → Room k A → Env0 P w K mg base A outer s H → BindsTo s fd args (ps.zip us) → Vals vs us →
    sp vs H Q E → codeAny (model P w) A (.call (.ref f) args) (CR CX0 outer P w H s Q E) s
structure CalG (P : Program) (w : World) (K : Frg) (mg : Str → Option Value) (base : Heap) (k : Nat) (x : Str) (sp : Sp) : Prop where
  ex : ∃ (f : Addr) (fd : FuncData) (ps : List Str), FnG P w K mg base k f fd ps sp ∧ mg x = some (.ref f) ∧ PySem.W.keepIn K (.ref f) = true ∧ Binds K fd ps []
section
variable {P : Program} {w : World} {K : Frg} {mg : Str → Option Value} {base : Heap} {x q : Str} {st : Stmt} {N ps : List Str} {k : Nat} {sp : Sp}
theorem fnG_of {f : Addr} {fd : FuncData} (F : FunD K x x (defArgs st) (defBody st) (defScope st) [] [] f fd) (S : FnScope N ps (defScope st)) (len : ∀ vs H Q E, sp vs H Q E → vs.length = ps.length)
    (body : ∀ (cdv : Value) (A : Around) (outer : List Env) (s : Shared) (H : Hp) (vs : List V) (Q : VK) (E : XK), (A.deeper (envOfC x (defScope st) s.heap.objs.size f cdv)).guards = some [] → Room k (A.deeper (envOfC x (defScope st) s.heap.objs.size f cdv)) → sp vs H Q E →
      ∃ t, PSs (cxOf CX0 P w K mg base N x (defScope st) f cdv A outer s H E).nox (defBody st) t ∧ t { nx := fun _ H' => Q .non H', rt := Q } (start N vs) H) : FnG P w K mg base (k + 1) f fd ps sp := by
  obtain ⟨oc, od, dV, kV, doc, pm, an, cdv, ct, osl, rfl, lk, hcd, _, _⟩ := F.ex
  refine ⟨len, fun A outer s H args us vs Q E hG hr e0 hb r hsp => ?_⟩
  have inK : K.In s.heap := e0.mod.kin.keeps fun b o e => (e0.bs b o e).1
  have noL : s.heap.NoLimit := e0.mod.nolimit.keeps fun b o e => (e0.bs b o e).1
  refine codeAny_call_function hr.depth (inK _ _ lk) rfl S.co S.gen rfl (PySem.W.codeRec_of inK hcd) (hb _ _ _ _ ?_)
  refine wpAny_newFunctionEnv_cells S.kind (fun ⟨n, v⟩ hy => ?_) fun env he s1 x1 => ?_
  · rcases S.par n (List.of_mem_zip hy).1 with z | z
    · exact Or.inl z
    · exact Or.inr ⟨z, PySem.W.cellsFrom_some _ _ _ (.inl z)⟩
  subst he
  refine ⟨noL.keeps x1.toInCall.keep, codeAny_func ?_⟩
  obtain ⟨t, ht, hq⟩ := body cdv A outer s H vs Q E (by show A.guards = some []; exact hG) (hr.deeper _) hsp
  refine wpAny_mono (ht.nox.run [] s1 (start N vs) H _ (inv_start S hr.hd e0 (len _ _ _ _ hsp) r x1) hq) (fun fl s' hs => ?_) fun e s' hs => hs
  cases fl with
  | ret u =>
    obtain ⟨v, σ', H', J, rv, q'⟩ := hs
    exact ⟨v, H', J.os, J.bare, J.base, J.hok, rv, q'⟩
  | next =>
    obtain ⟨σ', H', J, q'⟩ := hs
    exact ⟨V.non, H', J.os, J.bare, J.base, J.hok, rfl, q'⟩
  | brk => exact hs.elim fun _ ⟨_, _, z⟩ => z.elim
  | cont => exact hs.elim fun _ ⟨_, _, z⟩ => z.elim
theorem mkCalG (D : DefOf K mg x st) (S : FnScope N ps (defScope st))
    (hb : ∀ (kV doc pm : Value) (an : Option Addr) (cdv ct : Value) (us : List Value), us.length = ps.length → bindArgs (PySem.W.fnOf x x (defArgs st) (defBody st) (defScope st) .none kV doc pm an cdv ct) ⟨us, []⟩ = pure (ps.zip us))
    (len : ∀ vs H Q E, sp vs H Q E → vs.length = ps.length)
    (body : ∀ (f : Addr) (cdv : Value) (A : Around) (outer : List Env) (s : Shared) (H : Hp) (vs : List V) (Q : VK) (E : XK), (A.deeper (envOfC x (defScope st) s.heap.objs.size f cdv)).guards = some [] →
      Room k (A.deeper (envOfC x (defScope st) s.heap.objs.size f cdv)) → sp vs H Q E →
      ∃ t, PSs (cxOf CX0 P w K mg base N x (defScope st) f cdv A outer s H E).nox (defBody st) t ∧ t { nx := fun _ H' => Q .non H', rt := Q } (start N vs) H) : CalG P w K mg base (k + 1) x sp := by
  obtain ⟨f, fd, hm, F⟩ := D
  exact ⟨f, fd, ps, fnG_of F S len (fun cdv A outer s H vs Q E hG hr h => body f cdv A outer s H vs Q E hG hr h), hm, F.kp, F.bindsN hb⟩
end
section
variable {X : Cx}
theorem pe_cG {x : Str} {j k : Nat} {sp : Sp} {p pos : Pos} {e : Expr} {es : List Expr} {t : TA} (c : CalG X.prog X.w X.K X.mg X.base k x sp) (hG : X.A.guards = some []) (hr : Room j X.A) (hk : k ≤ j) (hg : Gl X x) (ha : PA X (e :: es) t)
    (hdb : (x == ("__debug__" : Str)) = false := by decide) (he : starEach (e :: es) X.env = (false, eval e X.env) :: starEach es X.env := by rfl) (hpl : (backTo pos (starEach es X.env)).any (·.1) = false := by rfl) :
    PE X (.Call (.Name x p) (e :: es) [] pos) (tCall sp [] E0 t) := by
  obtain ⟨f, fd, ps, F, hm, kp, b⟩ := c.ex
  refine ⟨fun pins s σ H Q I h => wpAny_Call_Name_kw (ld_glob I hg hm ?_ hdb)⟩
  refine PySem.W.callWith_K (h₀ := X.base) I.ok.mod.kin kp (thn (ha.run pos pins s σ H _ I h) fun us s1 ⟨vs, H1, I1, r, q⟩ => ⟨I1.kIn, ?_⟩) he hpl
  have q' : sp vs H1 Q E0 := by rw [← List.append_nil vs]; exact q
  have hl : (us ++ []).length = ps.length := by rw [List.append_nil, ← r.length]; exact F.len _ _ _ _ q'
  refine wpAny_call (codeAny_mono (F.run X.A X.stack s1 H1 ⟨us, []⟩ us vs Q E0 hG (hr.mono hk) I1.env0 (by have := b s1 us I1.kIn hl; rw [List.append_nil] at this; exact this) r q') fun r s' hq => ?_)
  cases r with
  | error er => exact hq.elim
  | ok fl =>
    cases fl with
    | ret u => exact I1.after hq
    | next => exact hq.elim
    | brk => exact hq.elim
    | cont => exact hq.elim
end
/-- the law, called on a script -/
theorem law_end {l : PySem.W.OpenLaw} {n k : Nat} {q : Program} {loose : List Str} {XP : (Str → Option Value) → Heap → Prop} {YP : World → Heap → Prop} {d : DefRec} {x : Str}
    (hn : l.most = some n) (hn2 : n ≤ sizeLine) (hdf : d.params.defaults = []) (hr : Room k callerA)
    (F : ∀ (w : World) (mg : Str → Option Value) (fa : Addr) (h : Heap), YP w h → h.Ns mainGlobals mg → mg d.name = some (.ref fa) →
      ∃ (K : Frg) (fd : FuncData) (sp : Sp), K.In h ∧ (∀ (s : Shared) (u : Value), BindsTo s fd ⟨[u], []⟩ [(x, u)]) ∧
        (∀ (H : Hp) (a : Addr) (ns : List Int), ns.length ≤ n → SqL K H a (ns.map V.int) → sp [.ref a] H (fun v _ => v = .bl true) fun _ _ _ => False) ∧
        ∀ base : Heap, K.In base → base.Ns mainGlobals mg → FnG l.prog w K mg base k fa fd [x] sp) : PySem.W.WalkO q loose XP YP l.row.toRowW d [] (fun f vs => PySem.call f vs) := by
  refine Att.attach_call hn hdf fun w s₀ s₁ mg mb fa o pm cd doc a vs ns G Y ho hd hcd hmg hobj hints hlen hg => ?_
  obtain ⟨K, fd, sp, KX, hb, hsp, hF⟩ := F w mg fa _ Y G.T.g hmg
  have lenV := hints.length
  have rv : Vals (ns.map V.int) vs := vals_ints hints
  have core : ∀ H : Hp, (∀ b, H b = none ∨ (b = a ∧ H b = some (.frz { cls := .type "list", data := .seq vs.toArray } (.lst (ns.map V.int))))) → SqL K H a (ns.map V.int) → HOk l.prog w H s₁.heap → (H a ≠ none → K.lookup a = none) →
      codeAny (model l.prog w) callerA (.call (.ref fa) ⟨[.ref a], []⟩) (fun r s' => r = .ok (.ret (.bool true)) ∧ OldK s₁.heap s'.heap ∧ s'.os = s₁.os ∧ AllBare s'.gens) s₁ := by
    intro H hO hS hok hK
    have noD : ∀ {b : Addr} {ob : Obj} {es : Array DictEntry} {ep : Nat}, s₁.heap.get? b = some ob → ob.data = .dict es ep → H b = none := fun {b ob es ep} e e2 => by
      rcases hO b with z | ⟨z, _⟩
      · exact z
      · rw [z, hobj] at e
        cases e
        cases e2
    have ns' : ∀ {b : Addr} {m : Str → Option Value}, s₁.heap.Ns b m → (hidT s₁.heap H).Ns b m := fun {b m} ⟨ob, es, ep, e, e2, r⟩ => ⟨ob, es, ep, hidT_get e (noD e e2), e2, r⟩
    have inB : K.In (hidT s₁.heap H) := fun b ob e => hidT_get (KX b ob e) (by
      rcases hO b with z | ⟨z, z2⟩
      · exact z
      · subst z
        rw [hK (by rw [z2]; simp)] at e
        cases e)
    have hM : Mod K mg (hidT s₁.heap H) := ⟨inB, ns' G.T.g, ⟨mb, ns' G.T.b, G.T.builtins⟩, let ⟨mc, h1, h2⟩ := G.T.nolimit; ⟨mc, ns' h1, h2⟩⟩
    have e0 : Env0 l.prog w K mg (hidT s₁.heap H) callerA [] s₁ H := ⟨rfl, hM, fun b ob e => of_hidT e, Nat.le_of_eq (hidT_size _ _), trivial, (fun b hb => by cases hb), hok, .of_eq hg⟩
    refine codeAny_mono ((hF _ inB (ns' G.T.g)).run callerA [] s₁ H ⟨[.ref a], []⟩ [.ref a] [.ref a] _ _ rfl hr e0 (hb s₁ (.ref a)) (.cons rfl .nil) (hsp H a ns hlen hS)) fun r s' h => ?_
    cases r with
    | error e => exact h.elim
    | ok fl =>
      cases fl with
      | next => exact h.elim
      | brk => exact h.elim
      | cont => exact h.elim
      | ret u =>
        obtain ⟨v, H', os, bare, un, hok', rr, qq⟩ := h
        cases (show v = .bl true from qq)
        cases (show u = Value.bool true from rr)
        refine ⟨rfl, OldK.of_keep fun b ob e => ?_, os, bare⟩
        rcases hO b with z | ⟨z, z2⟩
        · exact un.keep b ob e z (fun q => by cases q) (fun q => by cases q)
        · obtain ⟨e1, _⟩ := hok b _ z2
          obtain ⟨e2, _⟩ := hok' b _ (un.frzs b _ _ z2)
          rw [e] at e1
          cases e1
          exact e2
  cases hk : K.lookup a with
  | some ok =>
    have e := KX a ok hk
    rw [hobj] at e
    cases e
    exact core (fun _ => none) (fun _ => Or.inl rfl) (Or.inr ⟨_, vs.toArray, _, hk, rfl, rfl, rfl, by rw [List.size_toArray, lenV]; exact Nat.le_trans hlen hn2, by simpa using rv⟩) (fun _ _ z => nomatch (show (none : Option HO) = _ from z)) fun z => absurd rfl z
  | none =>
    refine core (fun b => if b = a then some (.frz { cls := .type "list", data := .seq vs.toArray } (.lst (ns.map V.int))) else none) (fun b => ?_) (Or.inl (Or.inr ⟨_, if_pos rfl⟩)) (fun b u z => ?_) fun _ => hk
    · by_cases e : b = a
      · exact Or.inr ⟨e, if_pos e⟩
      · exact Or.inl (if_neg e)
    · by_cases e : b = a
      · subst e
        cases ((if_pos rfl).symm.trans z)
        exact ⟨hobj, by rw [List.length_map]; exact Nat.le_trans hlen hn2, vs, _, rv, hobj⟩
      · exact nomatch ((if_neg e).symm.trans z)
end SL
/-! The layer's rules with the written part K named (a comprehension's block has the same). -/
namespace SL
open PySem PySem.Spec PyProof.Rows L2
section
variable {X : Cx} {K : PySem.W.Frag}
theorem k_ixT (h : X.K = K) : IxR X (rIxT K) := by subst h; exact ix_tup
theorem k_ixL (h : X.K = K) : IxR X (rIxL K) := by subst h; exact ix_list
theorem k_in (h : X.K = K) : OpR X (compareOp .In) (rIn K false) := by subst h; exact op_in_seq
theorem k_notIn (h : X.K = K) : OpR X (compareOp .NotIn) (rIn K true) := by subst h; exact op_notIn_seq
theorem k_geT (h : X.K = K) (hu : X.A.units < cLine) : OpR X (compareOp .GtE) (rGeT K) := by subst h; exact op_geT hu
theorem k_neD (h : X.K = K) (hu : X.A.units + 64 < cLine) : OpR X (compareOp .NotEq) (rNeD K) := by subst h; exact op_neD hu
def rLenQ (K : PySem.W.Frag) : List V → Hp → VK → Prop := fun xs H Q => ∃ p ys, xs = [.ref p] ∧ (SqL K H p ys ∨ SqT K H p ys) ∧ Q (.int ys.length) H
theorem k_len (h : X.K = K) : CallR X (.builtin "len") (rLenQ K) := by subst h; exact call_len_seq
theorem k_isi (h : X.K = K) : CallR X (.builtin "isinstance") (rIsi K) := by subst h; exact call_isi
theorem k_all (h : X.K = K) (hc : X.calm = true) : CallR X (.builtin "all") (rAll K) := by subst h; exact cr_all hc
theorem k_any (h : X.K = K) (hc : X.calm = true) : CallR X (.builtin "any") (rAny K) := by subst h; exact cr_any hc
theorem k_sortI (h : X.K = K) : CallR X (.builtin "sorted") (rSortedI K) := by subst h; exact cr_sortedI
theorem k_sortP (h : X.K = K) : CallR X (.builtin "sorted") (rSortedPO K) := by subst h; exact cr_sortedPO
def rTupOf (K : PySem.W.Frag) : List V → Hp → VK → Prop := fun xs H Q => ∃ p ys, xs = [.ref p] ∧ ((SqL K H p ys ∧ ∀ l, H l = none → Q (.ref l) (upd H l (.tup ys))) ∨ (SqT K H p ys ∧ Q (.ref p) H))
theorem k_tup (h : X.K = K) : CallR X (.type "tuple") (rTupOf K) := by subst h; exact call_tuple_of
def rLstOf (K : PySem.W.Frag) : List V → Hp → VK → Prop := fun xs H Q => ∃ p ys, xs = [.ref p] ∧ (SqL K H p ys ∨ SqT K H p ys) ∧ ∀ l, H l = none → Q (.ref l) (upd H l (.lst ys))
theorem k_lst (h : X.K = K) : CallR X (.type "list") (rLstOf K) := by subst h; exact call_list_of
theorem k_index (h : X.K = K) : MtR X "list.index" (rIndex K) := by subst h; exact mt_index
theorem k_slL (h : X.K = K) : SlR X (rSlL K) := by subst h; exact sl_list
theorem k_list {tg l : Expr} {tl : TE} (h : X.K = K) (hl : PE X l tl) : PI X tg l (iList K tl) := by subst h; exact pi_list hl
theorem k_tuple {tg l : Expr} {tl : TE} (h : X.K = K) (hl : PE X l tl) : PI X tg l (iTup K tl) := by subst h; exact pi_tup hl
theorem k_fld {e : Expr} {f : Str} {pos : Pos} {ta : TE} (h : X.K = K) (he : PE X e ta) (hb : attributeBase e f X.env (eval e X.env) = eval e X.env) : PE X (.Attribute e f pos) (tFld K ta f) := by subst h; exact pe_fld he hb
theorem k_gtup {es : List Expr} {k : Nat} {pos : Pos} {t : TGs} {n : Nat} (h : X.K = K) (hc : X.calm = true) (hp : PGs X es t) (hn : (assignEach es X.env).length = n := by rfl) (hst : (assignEach es X.env).findIdx? (·.1) = none := by rfl) :
    PG X (.Tuple es k pos) (gTup K n t) := by subst h; exact pg_tup hc hp hn hst
theorem k_bm {T id : String} {name : Str} {r : V → List V → Hp → VK → Prop} {o e : Expr} {es : List Expr} {to : TE} {t : TA} {apos cpos : Pos} (h : X.K = K) (pa : PlainAttrs T) (slot : Slot T name id) (hty : typeOf (.builtin id) = pure (.type "method_descriptor"))
    (hm : MtR X id r) (ho : PE X o to) (ha : PA X (e :: es) t) (hbase : attributeBase o name X.env (eval o X.env) = eval o X.env := by rfl)
    (hfew : ((backTo cpos (starEach (e :: es) X.env)).all (fun x => !x.1) && (backToKw cpos (keywordEach [] X.env)).all (fun x => x.1.isSome)
      && decide ((e :: es).length + ([] : List Keyword).length + (if ([] : List Keyword).isEmpty then 0 else 1) < 30)) = true := by rfl)
    (hline : (apos.endLine == cpos.line) = true := by rfl) (hs : starEach (e :: es) X.env = (false, eval e X.env) :: starEach es X.env := by rfl) (hplain : (backTo cpos (starEach es X.env)).any (·.1) = false := by rfl) : PE X (.Call (.Attribute o name apos) (e :: es) [] cpos) (tBM K T r to t) := by
  subst h
  exact pe_bm pa slot hty hm ho ha hbase hfew hline hs hplain
end
section
variable {X : Cx}
/-- y = {k: v for ..}, a statement of its own -/
theorem ps_setDc {i : Nat} {y : Str} {py : Pos} {kx vx tg iter : Expr} {ifs : List Expr} {scope : Scope} {own : List (Str × Nat)} {pos spos : Pos} {wi : TI} {g : TG} {tt : TT} {tk tv : TE} (hc : X.calm = true) (hN : X.N.Nodup) (hy : X.N[i]? = some y)
    (hyl : X.env.scope.names.lookup y = some .local) (hsw : swapsWith (.DictComp kx vx [⟨tg, iter, ifs, 0⟩] scope pos) (some (.Name y py)) spos.line X.env = pure true) (hi : PI X tg iter wi) (ok : BlkOk X.N X.env.scope scope own)
    (hg : ∀ (s : Shared) (H : Hp) (C : Addr) (cl : List (Str × Addr)) (fp : List Addr), PG (X.blk s H scope (compEnvC scope cl C X.env) fp) tg g)
    (ht : ∀ (s : Shared) (H : Hp) (C : Addr) (cl : List (Str × Addr)) (fp : List Addr), PTs (X.blk s H scope (compEnvC scope cl C X.env) fp) ifs tt)
    (hk : ∀ (s : Shared) (H : Hp) (C : Addr) (cl : List (Str × Addr)) (fp : List Addr), PE (X.blk s H scope (compEnvC scope cl C X.env) fp) kx tk)
    (hv : ∀ (s : Shared) (H : Hp) (C : Addr) (cl : List (Str × Addr)) (fp : List Addr), PE (X.blk s H scope (compEnvC scope cl C X.env) fp) vx tv)
    (hs : ∀ x, foldedSetIterable iter X.env x = pure x := by intro _; rfl) : PS X (.Assign [.Name y py] (.DictComp kx vx [⟨tg, iter, ifs, 0⟩] scope pos) spos) (tAsg (tDc wi g tt tk tv (own.map (·.2))) (gName i)) := by
  refine ⟨fun pins s σ H D I h => ?_⟩
  rw [exec_Assign_Name_used _ _ _ _ hsw]
  have h' : tDc wi g tt tk tv (own.map (·.2)) σ H (fun x H1 => gName i x σ H1 D.nx) := h
  refine wpAny_bind (wpAny_standAt (wpAny_bind (wpAny_bind (thn (dc_core (pos' := firstIterPos [⟨tg, iter, ifs, 0⟩] pos) (use := some (assign (.Name y py) X.env)) (Qf := fun _ s' => SP X pins D .next s') hc hN I hi ok hg ht hk hv hs h' fun L C s' m H' I' q hn fp => ?_)
    fun _ s' hq => wpAny_pure (wpAny_pure hq)))))
  refine wpAny_assign_Name (store_ok2 (v := V.ref L) I' hN hy (.inl hyl) rfl (fun s2 I2 ⟨a, sb, ha⟩ => ?_) (.inr hyl))
  obtain ⟨f0, f1, f2, f3, f4, f5⟩ := fp
  have haC : C ≠ a := ha.elim (fun z => by rw [z]; exact f1) fun z e => f4 y a z e.symm
  exact ⟨m, hn.sameBut sb haC, fun h3 sb3 => ⟨_, H', I2.turned (t' := s2.toks) (fun b o hb e => (sb3.2 b hb).trans e) f0 f1 f3 f4 f5, q⟩⟩
theorem swd_true {kx vx : Expr} {gs : List Comprehension} {scope : Scope} {pos py : Pos} {y : Str} {l : Nat} {env : Env} (hk : env.scope.kind = .function) (hy : env.scope.names.lookup y = some .local) (hl : (py.line == pos.line) = true)
    (ha : (scope.names.any fun (n, k) => n == y && (k == .local || k == .cell)) = false) : swapsWith (.DictComp kx vx gs scope pos) (some (.Name y py)) l env = pure true := by
  have k1 : env.kindOf y = some .local := hy
  have k2 : env.blockKind = .function := by
    unfold Env.blockKind
    rw [hk]
    rfl
  unfold swapsWith
  simp only [k2, k1, ha, Expr.pos, hl]
  rfl
end
end SL
local macro_rules | `(tactic| walk_at "sd") => `(tactic| try simp only [L2.tVar, L2.tC, L2.tCB, L2.tCons, L2.tNil, L2.tAndV, L2.tOrV, L2.tNotV, L2.tTest, L2.tB, L2.tNot, L2.tAnd, L2.tOr, L2.tOp, L2.tUn, L2.rI0, L2.rI, L2.rU, L2.tIsN, L2.tNotN, L2.tRet, L2.tRetN, L2.tSeq, L2.tNext, L2.tAsg, L2.gName, L2.tIfS, L2.tIf, L2.tDrop, L2.tCall, L2.tChain, L2.tBreak, L2.tCont, L2.cxOf, L2.Cx.nox, L2.Cx.wish, L2.tYes, SL.rLenQ, SL.rTupOf, SL.rLstOf, L2.rEq, L2.rNe, SL.scal_ii, SL.scal_ni, SL.scal_in, SL.scal_nn, SL.scal_bb, SL.scal_ss, SL.scal_oo, Bool.not_eq_true', decide_eq_false_iff_not, decide_eq_true_eq, ite_not, L2.tTup, L2.tLst, L2.tMake, L2.tFld, L2.sFld, L2.gSub, L2.tBM, L2.tBM0, L2.tDGet, L2.tDIn, L2.tDNotIn, L2.sDPut, L2.tDNewK, L2.tDNewT, L2.tNever, L2.tProp, L2.getSp, List.append_nil, List.nil_append,
  L2.start, L2.wipe, List.map_cons, List.map_nil, List.length_cons, List.length_nil, List.replicate, List.cons_append, List.getElem?_cons_zero, List.getElem?_cons_succ, List.set_cons_zero, List.set_cons_succ, Nat.reduceAdd, Nat.reduceSub, Nat.zero_add,
  Option.some.injEq, List.cons.injEq, L2.V.int.injEq, L2.V.bl.injEq, L2.V.ref.injEq, L2.V.ty.injEq, L2.V.str.injEq, exists_eq_left', exists_eq_left, true_and, and_true, if_true, Bool.false_eq_true, Bool.true_eq_false, if_false, ite_true, ite_false, reduceIte, exists_and_left, and_assoc])
/-! The text by places, the names by slots, and what the top leaves. -/
namespace SL
open PySem PySem.Spec PyProof.Rows L2
def top (i : Nat) : Stmt := PySem.Challenge.pw_storelands_k29_whole_keeps_by_own_runs.main.body.getD i (.Pass ⟨0, 0, 0, 0⟩)
abbrev s_is_integer : Stmt := top 1
abbrev N_is_integer : List Str := ["thing"]
theorem sc_is_integer : FnScope N_is_integer ["thing"] (defScope s_is_integer) := ⟨rfl, rfl, rfl, by decide +kernel, rfl, by decide +kernel, by decide +kernel⟩
abbrev s_is_within : Stmt := top 2
abbrev N_is_within : List Str := ["thing", "least", "most"]
theorem sc_is_within : FnScope N_is_within ["thing", "least", "most"] (defScope s_is_within) := ⟨rfl, rfl, rfl, by decide +kernel, rfl, by decide +kernel, by decide +kernel⟩
abbrev s_is_index : Stmt := top 3
abbrev N_is_index : List Str := ["thing", "many"]
theorem sc_is_index : FnScope N_is_index ["thing", "many"] (defScope s_is_index) := ⟨rfl, rfl, rfl, by decide +kernel, rfl, by decide +kernel, by decide +kernel⟩
abbrev s_is_rising_pair : Stmt := top 4
abbrev N_is_rising_pair : List Str := ["thing", "many"]
theorem sc_is_rising_pair : FnScope N_is_rising_pair ["thing", "many"] (defScope s_is_rising_pair) := ⟨rfl, rfl, rfl, by decide +kernel, rfl, by decide +kernel, by decide +kernel⟩
abbrev s_are_rising_pairs : Stmt := top 5
abbrev N_are_rising_pairs : List Str := ["thing", "many", "most", "pair", "at"]
theorem sc_are_rising_pairs : FnScope N_are_rising_pairs ["thing", "many", "most"] (defScope s_are_rising_pairs) := ⟨rfl, rfl, rfl, by decide +kernel, rfl, by decide +kernel, by decide +kernel⟩
abbrev s_beside_lists : Stmt := top 6
abbrev N_beside_lists : List Str := ["many", "pairs", "found", "one", "other", "_", "row"]
theorem sc_beside_lists : FnScope N_beside_lists ["many", "pairs"] (defScope s_beside_lists) := ⟨rfl, rfl, rfl, by decide +kernel, rfl, by decide +kernel, by decide +kernel⟩
abbrev s_reached : Stmt := top 7
abbrev N_reached : List Str := ["rows", "inside", "start", "found", "todo", "other"]
theorem sc_reached : FnScope N_reached ["rows", "inside", "start"] (defScope s_reached) := ⟨rfl, rfl, rfl, by decide +kernel, rfl, by decide +kernel, by decide +kernel⟩
abbrev s_Book : Stmt := inClass (top 16) 0
abbrev N_Book : List Str := ["self", "size", "ties", "inside", "content"]
theorem sc_Book : FnScope N_Book ["self", "size", "ties"] (defScope s_Book) := ⟨rfl, rfl, rfl, by decide +kernel, rfl, by decide +kernel, by decide +kernel⟩
abbrev s_Book_size : Stmt := inClass (top 16) 2
abbrev N_Book_size : List Str := ["self"]
theorem sc_Book_size : FnScope N_Book_size ["self"] (defScope s_Book_size) := ⟨rfl, rfl, rfl, by decide +kernel, rfl, by decide +kernel, by decide +kernel⟩
abbrev s_tied_of : Stmt := top 17
abbrev N_tied_of : List Str := ["book"]
theorem sc_tied_of : FnScope N_tied_of ["book"] (defScope s_tied_of) := ⟨rfl, rfl, rfl, by decide +kernel, rfl, by decide +kernel, by decide +kernel⟩
abbrev s_Web : Stmt := inClass (top 21) 0
abbrev N_Web : List Str := ["self", "size", "pushes"]
theorem sc_Web : FnScope N_Web ["self", "size", "pushes"] (defScope s_Web) := ⟨rfl, rfl, rfl, by decide +kernel, rfl, by decide +kernel, by decide +kernel⟩
abbrev s_Web_size : Stmt := inClass (top 21) 2
abbrev N_Web_size : List Str := ["self"]
theorem sc_Web_size : FnScope N_Web_size ["self"] (defScope s_Web_size) := ⟨rfl, rfl, rfl, by decide +kernel, rfl, by decide +kernel, by decide +kernel⟩
abbrev s_beside_of : Stmt := top 22
abbrev N_beside_of : List Str := ["web"]
theorem sc_beside_of : FnScope N_beside_of ["web"] (defScope s_beside_of) := ⟨rfl, rfl, rfl, by decide +kernel, rfl, by decide +kernel, by decide +kernel⟩
abbrev s_are_homes : Stmt := top 24
abbrev N_are_homes : List Str := ["web", "book", "thing", "standing"]
theorem sc_are_homes : FnScope N_are_homes ["web", "book", "thing"] (defScope s_are_homes) := ⟨rfl, rfl, rfl, by decide +kernel, rfl, by decide +kernel, by decide +kernel⟩
abbrev s_is_reading : Stmt := top 27
abbrev N_is_reading : List Str := ["web", "book", "thing", "content"]
theorem sc_is_reading : FnScope N_is_reading ["web", "book", "thing"] (defScope s_is_reading) := ⟨rfl, rfl, rfl, by decide +kernel, rfl, by decide +kernel, by decide +kernel⟩
abbrev s_is_order : Stmt := top 28
abbrev N_is_order : List Str := ["book", "thing"]
theorem sc_is_order : FnScope N_is_order ["book", "thing"] (defScope s_is_order) := ⟨rfl, rfl, rfl, by decide +kernel, rfl, by decide +kernel, by decide +kernel⟩
abbrev s_is_move : Stmt := top 29
abbrev N_is_move : List Str := ["web", "book", "key", "there"]
theorem sc_is_move : FnScope N_is_move ["web", "book", "key", "there"] (defScope s_is_move) := ⟨rfl, rfl, rfl, by decide +kernel, rfl, by decide +kernel, by decide +kernel⟩
abbrev s_are_moves : Stmt := top 30
abbrev N_are_moves : List Str := ["web", "book", "thing", "key", "there"]
theorem sc_are_moves : FnScope N_are_moves ["web", "book", "thing"] (defScope s_are_moves) := ⟨rfl, rfl, rfl, by decide +kernel, rfl, by decide +kernel, by decide +kernel⟩
abbrev s_Hand : Stmt := inClass (top 31) 0
abbrev N_Hand : List Str := ["self", "web", "book", "reading", "homes", "moves", "home"]
theorem sc_Hand : FnScope N_Hand ["self", "web", "book", "reading", "homes", "moves"] (defScope s_Hand) := ⟨rfl, rfl, rfl, by decide +kernel, rfl, by decide +kernel, by decide +kernel⟩
abbrev s_walked : Stmt := top 33
abbrev N_walked : List Str := ["hand", "standing", "order", "contents", "found", "met", "here", "there"]
theorem sc_walked : FnScope N_walked ["hand", "standing", "order", "contents"] (defScope s_walked) := ⟨rfl, rfl, rfl, by decide +kernel, rfl, by decide +kernel, by decide +kernel⟩
abbrev s_order_moments : Stmt := top 34
abbrev N_order_moments : List Str := ["hand", "v", "w", "found", "rests"]
theorem sc_order_moments : FnScope N_order_moments ["hand", "v", "w"] (defScope s_order_moments) := ⟨rfl, rfl, rfl, by decide +kernel, rfl, by decide +kernel, by decide +kernel⟩
abbrev s_homeward : Stmt := top 35
abbrev N_homeward : List Str := ["hand", "standing", "known", "content", "met", "on_way", "here", "right", "there", "other"]
theorem sc_homeward : FnScope N_homeward ["hand", "standing"] (defScope s_homeward) := ⟨rfl, rfl, rfl, by decide +kernel, rfl, by decide +kernel, by decide +kernel⟩
abbrev s_changes_of : Stmt := top 36
abbrev N_changes_of : List Str := ["hand", "v", "others", "w"]
theorem sc_changes_of : FnScope N_changes_of ["hand"] (defScope s_changes_of) := ⟨rfl, rfl, rfl, by decide +kernel, rfl, by decide +kernel, by decide +kernel⟩
abbrev s_break_of : Stmt := top 37
abbrev N_break_of : List Str := ["hand", "v", "w", "found", "right", "cut", "standing"]
theorem sc_break_of : FnScope N_break_of ["hand", "v", "w"] (defScope s_break_of) := ⟨rfl, rfl, rfl, by decide +kernel, rfl, by decide +kernel, by decide +kernel⟩
abbrev s_find_break : Stmt := top 38
abbrev N_find_break : List Str := ["hand", "facts", "found", "v", "w"]
theorem sc_find_break : FnScope N_find_break ["hand"] (defScope s_find_break) := ⟨rfl, rfl, rfl, by decide +kernel, rfl, by decide +kernel, by decide +kernel⟩
abbrev s_keeps : Stmt := top 39
abbrev N_keeps : List Str := ["hand"]
theorem sc_keeps : FnScope N_keeps ["hand"] (defScope s_keeps) := ⟨rfl, rfl, rfl, by decide +kernel, rfl, by decide +kernel, by decide +kernel⟩
abbrev s__law_dice : Stmt := top 41
abbrev N__law_dice : List Str := ["_law_script", "_law_cell"]
theorem sc__law_dice : FnScope N__law_dice ["_law_script"] (defScope s__law_dice) := ⟨rfl, rfl, rfl, by decide +kernel, rfl, by decide +kernel, by decide +kernel⟩
abbrev s__law_draw : Stmt := top 42
abbrev N__law_draw : List Str := ["_law_dice_here", "_law_sides", "_law_cell", "_law_digit", "_law_mixed"]
theorem sc__law_draw : FnScope N__law_draw ["_law_dice_here", "_law_sides"] (defScope s__law_draw) := ⟨rfl, rfl, rfl, by decide +kernel, rfl, by decide +kernel, by decide +kernel⟩
abbrev s__law_pair : Stmt := top 43
abbrev N__law_pair : List Str := ["_law_one", "_law_two"]
theorem sc__law_pair : FnScope N__law_pair ["_law_one", "_law_two"] (defScope s__law_pair) := ⟨rfl, rfl, rfl, by decide +kernel, rfl, by decide +kernel, by decide +kernel⟩
abbrev s__law_web : Stmt := top 44
abbrev N__law_web : List Str := ["_law_dice_here", "_law_most", "_law_size", "_law_kind", "_law_wide", "_law_found", "_law_k", "_law_other", "_law_turn", "_law_one", "_law_two"]
theorem sc__law_web : FnScope N__law_web ["_law_dice_here", "_law_most"] (defScope s__law_web) := ⟨rfl, rfl, rfl, by decide +kernel, rfl, by decide +kernel, by decide +kernel⟩
abbrev s__law_rows : Stmt := top 45
abbrev N__law_rows : List Str := ["_law_size", "_law_pairs", "_law_found", "_law_one", "_law_two", "_law_k", "_law_row"]
theorem sc__law_rows : FnScope N__law_rows ["_law_size", "_law_pairs"] (defScope s__law_rows) := ⟨rfl, rfl, rfl, by decide +kernel, rfl, by decide +kernel, by decide +kernel⟩
abbrev s__law_owners : Stmt := top 46
abbrev N__law_owners : List Str := ["_law_size", "_law_told_here", "_law_found", "_law_content", "_law_standing", "_law_k"]
theorem sc__law_owners : FnScope N__law_owners ["_law_size", "_law_told_here"] (defScope s__law_owners) := ⟨rfl, rfl, rfl, by decide +kernel, rfl, by decide +kernel, by decide +kernel⟩
abbrev s__law_touching : Stmt := top 47
abbrev N__law_touching : List Str := ["_law_pushes", "_law_owners_here", "_law_found", "_law_one", "_law_two"]
theorem sc__law_touching : FnScope N__law_touching ["_law_pushes", "_law_owners_here"] (defScope s__law_touching) := ⟨rfl, rfl, rfl, by decide +kernel, rfl, by decide +kernel, by decide +kernel⟩
abbrev s__law_begun : Stmt := top 48
abbrev N__law_begun : List Str := ["_law_dice_here", "_law_size", "_law_pushes", "_law_most", "_law_owners_here", "_law_rest", "_law_content", "_law_turn", "_law_one", "_law_two", "_law_k"]
theorem sc__law_begun : FnScope N__law_begun ["_law_dice_here", "_law_size", "_law_pushes", "_law_most"] (defScope s__law_begun) := ⟨rfl, rfl, rfl, by decide +kernel, rfl, by decide +kernel, by decide +kernel⟩
abbrev s__law_told : Stmt := top 49
abbrev N__law_told : List Str := ["_law_dice_here", "_law_size", "_law_pushes", "_law_most", "_law_owners_here", "_law_touched", "_law_met", "_law_ties", "_law_turn", "_law_one", "_law_two", "_law_pairs", "_law_plots", "_law_content", "_law_k"]
theorem sc__law_told : FnScope N__law_told ["_law_dice_here", "_law_size", "_law_pushes", "_law_most"] (defScope s__law_told) := ⟨rfl, rfl, rfl, by decide +kernel, rfl, by decide +kernel, by decide +kernel⟩
abbrev s__law_tree : Stmt := top 50
abbrev N__law_tree : List Str := ["_law_dice_here", "_law_rows_here", "_law_lot", "_law_home", "_law_found", "_law_turn", "_law_steps", "_law_here", "_law_there"]
theorem sc__law_tree : FnScope N__law_tree ["_law_dice_here", "_law_rows_here", "_law_lot", "_law_home"] (defScope s__law_tree) := ⟨rfl, rfl, rfl, by decide +kernel, rfl, by decide +kernel, by decide +kernel⟩
abbrev s__law_led_over : Stmt := top 51
abbrev N__law_led_over : List Str := ["_law_dice_here", "_law_rows_here", "_law_owners_here", "_law_plots", "_law_homes", "_law_moves", "_law_v", "_law_w", "_law_over", "_law_here", "_law_last", "_law_first", "_law_tree_here", "_law_turn", "_law_there"]
theorem sc__law_led_over : FnScope N__law_led_over ["_law_dice_here", "_law_rows_here", "_law_owners_here", "_law_plots", "_law_homes", "_law_moves", "_law_v", "_law_w"] (defScope s__law_led_over) := ⟨rfl, rfl, rfl, by decide +kernel, rfl, by decide +kernel, by decide +kernel⟩
abbrev s__law_hand : Stmt := top 52
abbrev N__law_hand : List Str := ["_law_dice_here", "_law_size", "_law_pushes", "_law_many", "_law_ties", "_law_plots", "_law_rows_here", "_law_owners_here", "_law_homes", "_law_moves", "_law_content", "_law_tree_here", "_law_other", "_law_standing", "_law_one", "_law_two", "_law_reading", "_law_plot", "_law_owner"]
theorem sc__law_hand : FnScope N__law_hand ["_law_dice_here", "_law_size", "_law_pushes", "_law_many", "_law_ties", "_law_plots"] (defScope s__law_hand) := ⟨rfl, rfl, rfl, by decide +kernel, rfl, by decide +kernel, by decide +kernel⟩
abbrev s__law_made : Stmt := top 53
abbrev N__law_made : List Str := ["_law_world", "_law_web_here", "_law_book"]
theorem sc__law_made : FnScope N__law_made ["_law_world"] (defScope s__law_made) := ⟨rfl, rfl, rfl, by decide +kernel, rfl, by decide +kernel, by decide +kernel⟩
abbrev s__law_bent : Stmt := top 54
abbrev N__law_bent : List Str := ["_law_dice_here", "_law_world", "_law_rows_here", "_law_found", "_law_moves", "_law_keys", "_law_kind", "_law_standing", "_law_order", "_law_there", "_law_key", "_law_content", "_law_reading"]
theorem sc__law_bent : FnScope N__law_bent ["_law_dice_here", "_law_world"] (defScope s__law_bent) := ⟨rfl, rfl, rfl, by decide +kernel, rfl, by decide +kernel, by decide +kernel⟩
abbrev s__law_walk : Stmt := top 55
abbrev N__law_walk : List Str := ["_law_world", "_law_here", "_law_order", "_law_contents", "_law_found", "_law_turn"]
theorem sc__law_walk : FnScope N__law_walk ["_law_world", "_law_here", "_law_order", "_law_contents"] (defScope s__law_walk) := ⟨rfl, rfl, rfl, by decide +kernel, rfl, by decide +kernel, by decide +kernel⟩
abbrev s__law_homeward : Stmt := top 56
abbrev N__law_homeward : List Str := ["_law_world", "_law_standing", "_law_content", "_law_found", "_law_rests"]
theorem sc__law_homeward : FnScope N__law_homeward ["_law_world", "_law_standing"] (defScope s__law_homeward) := ⟨rfl, rfl, rfl, by decide +kernel, rfl, by decide +kernel, by decide +kernel⟩
abbrev s__law_changed : Stmt := top 57
abbrev N__law_changed : List Str := ["_law_world", "_law_v", "_law_w", "_law_found", "_law_rests"]
theorem sc__law_changed : FnScope N__law_changed ["_law_world", "_law_v", "_law_w"] (defScope s__law_changed) := ⟨rfl, rfl, rfl, by decide +kernel, rfl, by decide +kernel, by decide +kernel⟩
abbrev s__law_changes : Stmt := top 58
abbrev N__law_changes : List Str := ["_law_world", "_law_found", "_law_one", "_law_two"]
theorem sc__law_changes : FnScope N__law_changes ["_law_world"] (defScope s__law_changes) := ⟨rfl, rfl, rfl, by decide +kernel, rfl, by decide +kernel, by decide +kernel⟩
abbrev s__law_keeps : Stmt := top 59
abbrev N__law_keeps : List Str := ["_law_world", "_law_v", "_law_w", "_law_found", "_law_right_here", "_law_standing", "_law_back", "_law_here", "_law_again"]
theorem sc__law_keeps : FnScope N__law_keeps ["_law_world"] (defScope s__law_keeps) := ⟨rfl, rfl, rfl, by decide +kernel, rfl, by decide +kernel, by decide +kernel⟩
abbrev s__law_right : Stmt := top 60
abbrev N__law_right : List Str := ["_law_world", "_law_due", "_law_hand_here", "_law_first", "_law_flags"]
theorem sc__law_right : FnScope N__law_right ["_law_world"] (defScope s__law_right) := ⟨rfl, rfl, rfl, by decide +kernel, rfl, by decide +kernel, by decide +kernel⟩
abbrev s__law_random : Stmt := top 61
abbrev N__law_random : List Str := ["_law_dice_here", "_law_world", "_law_rows_here", "_law_moves", "_law_standing", "_law_order", "_law_row", "_law_found"]
theorem sc__law_random : FnScope N__law_random ["_law_dice_here", "_law_world"] (defScope s__law_random) := ⟨rfl, rfl, rfl, by decide +kernel, rfl, by decide +kernel, by decide +kernel⟩
abbrev s_law : Stmt := top 62
abbrev N_law : List Str := ["_law_script", "_law_dice_here", "_law_size", "_law_pushes", "_law_few", "_law_many", "_law_ties", "_law_grown", "_law_world", "_law_bent_here", "_law_turn"]
theorem sc_law : FnScope N_law ["_law_script"] (defScope s_law) := ⟨rfl, rfl, rfl, by decide +kernel, rfl, by decide +kernel, by decide +kernel⟩
abbrev CW (K : Frg) : Addr := He.ga K "Web"
abbrev CB (K : Frg) : Addr := He.ga K "Book"
abbrev CH (K : Frg) : Addr := He.ga K "Hand"
structure Txt (K : Frg) (mg : Str → Option Value) : Prop where
  b_len : mg "len" = none
  b_isinstance : mg "isinstance" = none
  b_int : mg "int" = none
  b_bool : mg "bool" = none
  b_tuple : mg "tuple" = none
  b_dict : mg "dict" = none
  b_all : mg "all" = none
  b_any : mg "any" = none
  b_range : mg "range" = none
  b_sorted : mg "sorted" = none
  b_list : mg "list" = none
  b_set : mg "set" = none
  b_enumerate : mg "enumerate" = none
  b_repr : mg "repr" = none
  b_abs : mg "abs" = none
  b_min : mg "min" = none
  b_max : mg "max" = none
  c_MOST_CONTENTS : ∃ t, mg "MOST_CONTENTS" = some (.int 8 t)
  c_MOST_TIES : ∃ t, mg "MOST_TIES" = some (.int 28 t)
  c_MOST_STANDINGS : ∃ t, mg "MOST_STANDINGS" = some (.int 10000 t)
  c_MOST_PUSHES : ∃ t, mg "MOST_PUSHES" = some (.int 100000 t)
  c_HOME : ∃ t, mg "HOME" = some (.int (-1) t)
  d_is_integer : DefOf K mg "is_integer" s_is_integer
  d_is_within : DefOf K mg "is_within" s_is_within
  d_is_index : DefOf K mg "is_index" s_is_index
  d_is_rising_pair : DefOf K mg "is_rising_pair" s_is_rising_pair
  d_are_rising_pairs : DefOf K mg "are_rising_pairs" s_are_rising_pairs
  d_beside_lists : DefOf K mg "beside_lists" s_beside_lists
  d_reached : DefOf K mg "reached" s_reached
  i_Book : InitOf K mg "Book" "Book.__init__" (CB K) s_Book
  p_Book : PropT K (CB K) "size" "Book.size" s_Book_size
  d_tied_of : DefOf K mg "tied_of" s_tied_of
  i_Web : InitOf K mg "Web" "Web.__init__" (CW K) s_Web
  p_Web : PropT K (CW K) "size" "Web.size" s_Web_size
  d_beside_of : DefOf K mg "beside_of" s_beside_of
  d_are_homes : DefOf K mg "are_homes" s_are_homes
  d_is_reading : DefOf K mg "is_reading" s_is_reading
  d_is_order : DefOf K mg "is_order" s_is_order
  d_is_move : DefOf K mg "is_move" s_is_move
  d_are_moves : DefOf K mg "are_moves" s_are_moves
  i_Hand : InitOf K mg "Hand" "Hand.__init__" (CH K) s_Hand
  d_walked : DefOf K mg "walked" s_walked
  d_order_moments : DefOf K mg "order_moments" s_order_moments
  d_homeward : DefOf K mg "homeward" s_homeward
  d_changes_of : DefOf K mg "changes_of" s_changes_of
  d_break_of : DefOf K mg "break_of" s_break_of
  d_find_break : DefOf K mg "find_break" s_find_break
  d_keeps : DefOf K mg "keeps" s_keeps
  d__law_dice : DefOf K mg "_law_dice" s__law_dice
  d__law_draw : DefOf K mg "_law_draw" s__law_draw
  d__law_pair : DefOf K mg "_law_pair" s__law_pair
  d__law_web : DefOf K mg "_law_web" s__law_web
  d__law_rows : DefOf K mg "_law_rows" s__law_rows
  d__law_owners : DefOf K mg "_law_owners" s__law_owners
  d__law_touching : DefOf K mg "_law_touching" s__law_touching
  d__law_begun : DefOf K mg "_law_begun" s__law_begun
  d__law_told : DefOf K mg "_law_told" s__law_told
  d__law_tree : DefOf K mg "_law_tree" s__law_tree
  d__law_led_over : DefOf K mg "_law_led_over" s__law_led_over
  d__law_hand : DefOf K mg "_law_hand" s__law_hand
  d__law_made : DefOf K mg "_law_made" s__law_made
  d__law_bent : DefOf K mg "_law_bent" s__law_bent
  d__law_walk : DefOf K mg "_law_walk" s__law_walk
  d__law_homeward : DefOf K mg "_law_homeward" s__law_homeward
  d__law_changed : DefOf K mg "_law_changed" s__law_changed
  d__law_changes : DefOf K mg "_law_changes" s__law_changes
  d__law_keeps : DefOf K mg "_law_keeps" s__law_keeps
  d__law_right : DefOf K mg "_law_right" s__law_right
  d__law_random : DefOf K mg "_law_random" s__law_random
  d_law : DefOf K mg "law" s_law
  n_Web_kept_size : NoAttr K (CW K) "kept_size"
  n_Web_kept_pushes : NoAttr K (CW K) "kept_pushes"
  n_Web_kept_facts : NoAttr K (CW K) "kept_facts"
  n_Book_kept_size : NoAttr K (CB K) "kept_size"
  n_Book_kept_ties : NoAttr K (CB K) "kept_ties"
  n_Book_kept_facts : NoAttr K (CB K) "kept_facts"
  n_Hand_kept_web : NoAttr K (CH K) "kept_web"
  n_Hand_kept_book : NoAttr K (CH K) "kept_book"
  n_Hand_kept_reading : NoAttr K (CH K) "kept_reading"
  n_Hand_kept_homes : NoAttr K (CH K) "kept_homes"
  n_Hand_kept_moves : NoAttr K (CH K) "kept_moves"
  n_Hand_kept_facts : NoAttr K (CH K) "kept_facts"
end SL
/-! Small checks. -/
namespace SL
open PySem PySem.Spec PyProof.Rows L2
section
variable {P : Program} {w : World} {K : Frg} {mg : Str → Option Value} {base : Heap}
def spInt : Sp := fun vs H Q _ => ∃ i : Int, vs = [.int i] ∧ Q (.bl true) H
theorem cal_is_integer (T : Txt K mg) : C8.Cal P w K mg base 1 "is_integer" spInt [] := by
  refine mkCal T.d_is_integer sc_is_integer (fun _ _ _ _ _ _ us hl => match us, hl with | [_], _ => rfl) (fun vs H Q E h => ?_) (fun f cdv A outer s H vs Q E hr h => ?_)
  · obtain ⟨i, rfl, _⟩ := h
    rfl
  · have hu := hu_of hr
    obtain ⟨i, rfl, q⟩ := h
    refine ⟨_, (pss_one (ps_ret (pe_and (pe_callB (k_isi (K := K) rfl) (by rfl) T.b_isinstance (by decide +kernel) (pa_cons (pv 0) (pa_cons (pe_bltn (v := .ty "int") (by rfl) T.b_int (by decide +kernel) rfl) pa_nil))) (pe_one (pe_not (pe_callB (k_isi (K := K) rfl) (by rfl) T.b_isinstance (by decide +kernel) (pa_cons (pv 0) (pa_cons (pe_bltn (v := .ty "bool") (by rfl) T.b_bool (by decide +kernel) rfl) pa_nil)))))))), ?_⟩
    walk_at "sd"
    refine q_isi (t := "int") (b := true) (.base (.int i)) (by decide +kernel) ?_
    walk_at "sd"
    refine q_isi (t := "int") (b := false) (.base (.int i)) (by decide +kernel) ?_
    walk_at "sd"
    exact q
def spWithin : Sp := fun vs H Q _ => ∃ i a b : Int, vs = [.int i, .int a, .int b] ∧ Q (.bl (decide (a ≤ i) && decide (i ≤ b))) H
theorem cal_is_within (T : Txt K mg) : C8.Cal P w K mg base 2 "is_within" spWithin [] := by
  refine mkCal T.d_is_within sc_is_within (fun _ _ _ _ _ _ us hl => match us, hl with | [_, _, _], _ => rfl) (fun vs H Q E h => ?_) (fun f cdv A outer s H vs Q E hr h => ?_)
  · obtain ⟨i, a, b, rfl, _⟩ := h
    rfl
  · have hu := hu_of hr
    obtain ⟨i, a, b, rfl, q⟩ := h
    refine ⟨_, (pss_one (ps_ret (pe_and (C8.pe_c (cal_is_integer T) hr (by decide) rfl (pa_cons (pv 0) pa_nil)) (pe_one (pe_chain op_le op_le (pv 1) (pv 0) (pv 2)))))), ?_⟩
    walk_at "sd"
    refine ⟨i, rfl, ?_⟩
    walk_at "sd"
    by_cases h : a ≤ i
    · rw [if_pos h]
      simpa [h] using q
    · rw [if_neg h]
      simpa [h] using q
def spIndex : Sp := fun vs H Q _ => ∃ i m : Int, vs = [.int i, .int m] ∧ Q (.bl (decide (0 ≤ i) && decide (i ≤ m - 1))) H
theorem cal_is_index (T : Txt K mg) : C8.Cal P w K mg base 3 "is_index" spIndex [] := by
  refine mkCal T.d_is_index sc_is_index (fun _ _ _ _ _ _ us hl => match us, hl with | [_, _], _ => rfl) (fun vs H Q E h => ?_) (fun f cdv A outer s H vs Q E hr h => ?_)
  · obtain ⟨i, m, rfl, _⟩ := h
    rfl
  · have hu := hu_of hr
    obtain ⟨i, m, rfl, q⟩ := h
    refine ⟨_, (pss_one (ps_ret (C8.pe_c (cal_is_within T) hr (by decide) rfl (pa_cons (pv 0) (pa_cons pe_int (pa_cons (pe_op op_sub (pv 1) pe_int) pa_nil)))))), ?_⟩
    walk_at "sd"
    exact ⟨_, _, _, rfl, q⟩
/-- of a right index -/
theorem index_yes {i m : Int} {H : Hp} {Q : VK} {E : XK} (h0 : 0 ≤ i) (h1 : i < m) (q : Q (.bl true) H) : spIndex [.int i, .int m] H Q E :=
  ⟨i, m, rfl, by rw [decide_eq_true h0, decide_eq_true (by omega : i ≤ m - 1)]; exact q⟩
def spPair : Sp := fun vs H Q _ => ∃ (t : Addr) (a b m : Int), vs = [.ref t, .int m] ∧ H t = some (.tup [.int a, .int b]) ∧ 0 ≤ a ∧ a < b ∧ b < m ∧ Q (.bl true) H
theorem cal_is_rising_pair (T : Txt K mg) : C8.Cal P w K mg base 4 "is_rising_pair" spPair [] := by
  refine mkCal T.d_is_rising_pair sc_is_rising_pair (fun _ _ _ _ _ _ us hl => match us, hl with | [_, _], _ => rfl) (fun vs H Q E h => ?_) (fun f cdv A outer s H vs Q E hr h => ?_)
  · obtain ⟨t, a, b, m, rfl, _⟩ := h
    rfl
  · have hu := hu_of hr
    obtain ⟨t, a, b, m, rfl, ht, h0, h1, h2, q⟩ := h
    refine ⟨_, (pss_cons (ps_if (PW.pt (pw_or (pt_not (pt_val (pe_callB (k_isi (K := K) rfl) (by rfl) T.b_isinstance (by decide +kernel) (pa_cons (pv 0) (pa_cons (pe_bltn (v := .ty "tuple") (by rfl) T.b_tuple (by decide +kernel) rfl) pa_nil))))) (pw_or1 (pt_cmpR op_ne (pe_callB (k_len (K := K) rfl) (by rfl) T.b_len (by decide +kernel) (pa_cons (pv 0) pa_nil)) pe_int (nomark _))))) (pss_one (ps_ret pe_bl)) pss_nil)
      (pss_one (ps_ret (pe_and (C8.pe_c (cal_is_index T) hr (by decide) rfl (pa_cons (pe_ix (k_ixT (K := K) rfl) (pv 0) pe_int (fun _ _ => rfl)) (pa_cons (pv 1) pa_nil))) (pe_and (C8.pe_c (cal_is_index T) hr (by decide) rfl (pa_cons (pe_ix (k_ixT (K := K) rfl) (pv 0) pe_int (fun _ _ => rfl)) (pa_cons (pv 1) pa_nil))) (pe_one (pe_cmpR op_lt (pe_ix (k_ixT (K := K) rfl) (pv 0) pe_int (fun _ _ => rfl)) (pe_ix (k_ixT (K := K) rfl) (pv 0) pe_int (fun _ _ => rfl)) (nomark _)))))))), ?_⟩
    walk_at "sd"
    refine q_isi (t := "tuple") (b := true) (.base (.tup ht)) (by decide +kernel) ?_
    walk_at "sd"
    refine ⟨_, Or.inr (Or.inl (Or.inl ht)), ?_⟩
    walk_at "sd"
    rw [if_pos (by decide)]
    refine q_ixT (i := 0) ht rfl ?_
    refine index_yes h0 (by omega) ?_
    walk_at "sd"
    refine q_ixT (i := 1) ht rfl ?_
    refine index_yes (by omega) (by omega) ?_
    walk_at "sd"
    refine q_ixT (i := 0) ht rfl ?_
    refine q_ixT (i := 1) ht rfl ?_
    walk_at "sd"
    rw [decide_eq_true h1]
    exact q
/-- pairs, each a tuple of its own -/
structure Prs (H : Hp) (xs : List V) (ps : List (Nat × Nat)) : Prop where
  len : xs.length = ps.length
  at_ : ∀ (i : Nat) (p : Nat × Nat), ps[i]? = some p → ∃ a, xs[i]? = some (V.ref a) ∧ H a = some (.tup [vn p.1, vn p.2])
theorem Prs.same {H H' : Hp} {xs : List V} {ps : List (Nat × Nat)} (h : Prs H xs ps) (e : Same H H') : Prs H' xs ps :=
  ⟨h.len, fun i p hp => let ⟨a, h1, h2⟩ := h.at_ i p hp; ⟨a, h1, e _ _ h2⟩⟩
theorem Prs.of_x {H : Hp} {xs : List V} {ps : List (Nat × Nat)} (h : Prs H xs ps) {i : Nat} {x : V} (hx : xs[i]? = some x) : ∃ p a, ps[i]? = some p ∧ x = .ref a ∧ H a = some (.tup [vn p.1, vn p.2]) := by
  have hi : i < ps.length := by
    rw [← h.len]
    exact (List.getElem?_eq_some_iff.mp hx).1
  obtain ⟨a, h1, h2⟩ := h.at_ i ps[i] (List.getElem?_eq_getElem hi)
  rw [hx] at h1
  exact ⟨ps[i], a, List.getElem?_eq_getElem hi, Option.some.inj h1, h2⟩
/-- the order of pairs -/
def ltP2 (p q : Nat × Nat) : Prop := p.1 < q.1 ∨ (p.1 = q.1 ∧ p.2 < q.2)
/-- rightly ascending pairs below n -/
structure Rising (n : Nat) (ps : List (Nat × Nat)) : Prop where
  ok : ∀ p ∈ ps, p.1 < p.2 ∧ p.2 < n
  asc : ps.Pairwise ltP2
theorem ge_pairs {p q : Nat × Nat} (h : ltP2 p q) : Ob.lexAt (fun j => decide (([(p.1 : Int), (p.2 : Int)] : List Int).getD j 0 = ([(q.1 : Int), (q.2 : Int)] : List Int).getD j 0))
    (fun j => decide (([(q.1 : Int), (q.2 : Int)] : List Int).getD j 0 ≤ ([(p.1 : Int), (p.2 : Int)] : List Int).getD j 0)) (decide (([(p.1 : Int), (p.2 : Int)] : List Int).length ≥ ([(q.1 : Int), (q.2 : Int)] : List Int).length)) 0
    (min ([(p.1 : Int), (p.2 : Int)] : List Int).length ([(q.1 : Int), (q.2 : Int)] : List Int).length) = false := by
  show Ob.lexAt _ _ _ 0 2 = false
  rw [Ob.lexAt_succ]
  rcases h with h | ⟨h1, h2⟩
  · rw [if_neg (by simp; omega)]
    simp
    omega
  · rw [if_pos (by simp [h1]), Ob.lexAt_succ, if_neg (by simp; omega)]
    simp
    omega
def spPairs : Sp := fun vs H Q _ => ∃ (t : Addr) (n : Nat) (m : Int) (xs : List V) (ps : List (Nat × Nat)), vs = [.ref t, vn n, .int m] ∧ H t = some (.tup xs) ∧ Prs H xs ps ∧ Rising n ps ∧ (ps.length : Int) ≤ m ∧ ps.length ≤ 10000 ∧ ∀ H', Same H H' → Q (.bl true) H'
theorem cal_are_rising_pairs (T : Txt K mg) : C8.Cal P w K mg base 5 "are_rising_pairs" spPairs [] := by
  refine mkCal T.d_are_rising_pairs sc_are_rising_pairs (fun _ _ _ _ _ _ us hl => match us, hl with | [_, _, _], _ => rfl) (fun vs H Q E h => ?_) (fun f cdv A outer s H vs Q E hr h => ?_)
  · obtain ⟨t, n, m, xs, ps, rfl, _⟩ := h
    rfl
  · have hu := hu_of hr
    obtain ⟨t, n, m, xs, ps, rfl, ht, hp, hR, hm, hl, q⟩ := h
    refine ⟨_, (pss_cons (ps_if (PW.pt (pw_or (pt_not (pt_val (pe_callB (k_isi (K := K) rfl) (by rfl) T.b_isinstance (by decide +kernel) (pa_cons (pv 0) (pa_cons (pe_bltn (v := .ty "tuple") (by rfl) T.b_tuple (by decide +kernel) rfl) pa_nil))))) (pw_or1 (pt_cmpR op_gt (pe_callB (k_len (K := K) rfl) (by rfl) T.b_len (by decide +kernel) (pa_cons (pv 0) pa_nil)) (pv 2) (nomark _))))) (pss_one (ps_ret pe_bl)) pss_nil)
      (pss_cons (ps_if (pt_not (pt_val (pe_callB (k_all (K := K) rfl rfl) (by rfl) T.b_all (by decide +kernel) (pa_cons (pe_lc (own := [("pair", 3)]) rfl sc_are_rising_pairs.nd (k_tuple (K := K) rfl (pv 0)) (blkOk_by (N := N_are_rising_pairs) (sc := defScope s_are_rising_pairs) (by decide +kernel)) (fun _ _ _ _ _ => (pg_name (i := 3) sc_are_rising_pairs.nd rfl (Or.inl rfl))) (fun _ _ _ _ _ => pts_nil) (fun _ _ _ _ _ => (C8.pe_c (cal_is_rising_pair T) hr (by decide) rfl (pa_cons (pv 3) (pa_cons (pv 1) pa_nil))))) pa_nil)))) (pss_one (ps_ret pe_bl)) pss_nil)
      (pss_one (ps_ret (pe_not (pe_callB (k_any (K := K) rfl rfl) (by rfl) T.b_any (by decide +kernel) (pa_cons (pe_lc (own := [("at", 4)]) rfl sc_are_rising_pairs.nd (pi_range2 rfl T.b_range (pa_cons pe_int (pa_cons (pe_callB (k_len (K := K) rfl) (by rfl) T.b_len (by decide +kernel) (pa_cons (pv 0) pa_nil)) pa_nil))) (blkOk_by (N := N_are_rising_pairs) (sc := defScope s_are_rising_pairs) (by decide +kernel)) (fun _ _ _ _ _ => (pg_name (i := 4) sc_are_rising_pairs.nd rfl (Or.inl rfl))) (fun _ _ _ _ _ => pts_nil) (fun _ _ _ _ _ => (pe_cmpR (k_geT (K := K) rfl hr.units0) (pe_ix (k_ixT (K := K) rfl) (pv 0) (pe_op op_sub (pv 4) pe_int) (fun _ _ => rfl)) (pe_ix (k_ixT (K := K) rfl) (pv 0) (pv 4) (fun _ _ => rfl)) (nomark _)))) pa_nil))))))), ?_⟩
    walk_at "sd"
    refine q_isi (t := "tuple") (b := true) (.base (.tup ht)) (by decide +kernel) ?_
    walk_at "sd"
    refine ⟨_, Or.inr (Or.inl (Or.inl ht)), ?_⟩
    walk_at "sd"
    rw [hp.len, if_neg (by omega)]
    refine ⟨_, rfl, t, rfl, ⟨xs, Or.inl (Or.inl ht)⟩, fun D hD => ?_⟩
    refine lcT (B := H) (xs := xs) (fun _ y _ => y = .bl true) (L2.Same.refl H) hD (Or.inl (Or.inl ht)) (by rw [hp.len]; omega) (fun _ _ _ _ _ e => e) (fun _ => rfl) (fun i x H1 hx s1 _ N hN => ?_) fun H1 ys s1 hy hl1 hR1 => ?_
    · walk_at "sd"
      obtain ⟨p, a, hp1, rfl, ha⟩ := hp.of_x hx
      obtain ⟨o1, o2⟩ := hR.ok p (List.mem_of_getElem? hp1)
      exact ⟨a, p.1, p.2, n, rfl, s1 _ _ ha, by omega, by omega, by omega, hN _ _ (L2.Same.refl _) rfl⟩
    walk_at "sd"
    refine q_all hy hR1 ?_
    walk_at "sd"
    refine ⟨_, rfl, _, _, rfl, Or.inr (Or.inl (Or.inl (s1 _ _ ht))), _, _, rfl, ⟨by decide, by decide, by rw [hp.len]; omega, by rw [hp.len]; omega⟩, fun D2 hD2 => ?_⟩
    refine lcR (B := H1) (fun _ y _ => y = .bl false) (L2.Same.refl H1) hD2 (by rw [hp.len]; omega) (fun _ _ _ _ _ e => e) (fun _ => rfl) (fun i H2 hi s2 _ N hN => ?_) fun H2 ys2 s2 hy2 hl2 hR2 => ?_
    · walk_at "sd"
      rw [hp.len] at hi
      have hi2 : i + 1 < ps.length := by omega
      obtain ⟨a, ha1, ha2⟩ := hp.at_ i ps[i] (List.getElem?_eq_getElem (by omega))
      obtain ⟨b, hb1, hb2⟩ := hp.at_ (i + 1) ps[i + 1] (List.getElem?_eq_getElem hi2)
      have e1 : (1 : Int) + (i : Int) - 1 = (i : Nat) := by omega
      have e2 : (1 : Int) + (i : Int) = ((i + 1 : Nat) : Int) := by omega
      rw [e1, e2]
      refine q_ixT (s2 _ _ (s1 _ _ ht)) ha1 ?_
      refine q_ixT (s2 _ _ (s1 _ _ ht)) hb1 ?_
      refine ⟨a, b, [(ps[i].1 : Int), (ps[i].2 : Int)], [(ps[i + 1].1 : Int), (ps[i + 1].2 : Int)], rfl, rfl, Or.inl (Or.inl (s2 _ _ (s1 _ _ ha2))), Or.inl (Or.inl (s2 _ _ (s1 _ _ hb2))), hN _ _ (L2.Same.refl _) ?_⟩
      have ho := List.pairwise_iff_getElem.mp hR.asc i (i + 1) (by omega) hi2 (by omega)
      rw [ge_pairs ho]
    walk_at "sd"
    refine q_any hy2 hR2 ?_
    walk_at "sd"
    exact q _ (s1.trans s2)
end
end SL
/-! How worlds, webs, books and hands stand in the heap. -/
namespace SL
open PySem PySem.Spec PyProof.Rows L2

/-! ### moves as a dict -/
def encM (e : (Nat × Int) × Option Nat) : List Key × V := ([Sum.inl (e.1.1 : Int), Sum.inl e.1.2], vo e.2)
abbrev mkey (s : Nat) (o : Int) : List Key := [Sum.inl (s : Int), Sum.inl o]
theorem mkey_iff {e : Nat × Int} {s : Nat} {o : Int} : ([Sum.inl (e.1 : Int), Sum.inl e.2] : List Key) = mkey s o ↔ e = (s, o) := by
  obtain ⟨a, b⟩ := e
  constructor
  · intro h
    simp only [mkey, List.cons.injEq, Sum.inl.injEq, and_true] at h
    rw [show b = o from h.2, show a = s from by omega]
  · intro h
    cases h
    rfl
theorem valV_M (m : Mvs) (s : Nat) (o : Int) : valV (m.map encM) (mkey s o) = (mvL m (s, o)).map vo := by
  induction m with
  | nil => rfl
  | cons e r ih =>
    unfold valV mvL
    unfold valV mvL at ih
    rw [List.map_cons]
    by_cases h : e.1 = (s, o)
    · rw [List.find?_cons_of_pos (by simpa [encM] using mkey_iff.mpr h), List.find?_cons_of_pos (by simpa using h)]
      rfl
    · rw [List.find?_cons_of_neg (by simpa [encM] using fun z => h (mkey_iff.mp z)), List.find?_cons_of_neg (by simpa using h)]
      exact ih
theorem any_M (m : Mvs) (s : Nat) (o : Int) : ((m.map encM).any fun kv => decide (kv.1 = mkey s o)) = m.any fun e => decide (e.1 = (s, o)) := by
  rw [List.any_map]
  congr 1
  funext e
  simp only [Function.comp]
  exact decide_eq_decide.mpr mkey_iff
theorem putK_M (m : Mvs) (s : Nat) (o : Int) (t : Option Nat) : putK (m.map encM) (mkey s o) (vo t) = (mvP m (s, o) t).map encM := by
  unfold putK mvP
  rw [any_M]
  split
  · rw [List.map_map, List.map_map]
    refine List.map_congr_left fun e _ => ?_
    simp only [Function.comp]
    by_cases h : e.1 = (s, o)
    · rw [if_pos h, if_pos (show (encM e).1 = mkey s o from mkey_iff.mpr h)]
      simp [encM, h]
    · rw [if_neg h, if_neg (show ¬ (encM e).1 = mkey s o from fun z => h (mkey_iff.mp z))]
  · rw [List.map_append]
    rfl
theorem mv_key {H : Hp} {q : Addr} {s : Nat} {o : Int} (h : H q = some (.tup [vn s, .int o])) : H q = some (.tup ((mkey s o).map kV)) := h
/-- the hashes of the moves' keys differ -/
theorem hash_ne : ∀ s1 s2 : Fin 12, ∀ o1 o2 : Fin 9, hash2 (s1 : Nat) ((o1 : Nat) - 1 : Int) = hash2 (s2 : Nat) ((o2 : Nat) - 1 : Int) → s1 = s2 ∧ o1 = o2 := by decide +kernel
theorem hash_M (P : Program) (w : World) (s : Nat) (o : Int) : (tupleKind (mixKind P w)).hash (mkey s o) = hash2 s o := rfl
theorem hash_nodup (P : Program) (w : World) {m : Mvs} (hn : (m.map (·.1)).Nodup) (hk : ∀ e ∈ m, e.1.1 < 12 ∧ -1 ≤ e.1.2 ∧ e.1.2 < 8) : ((m.map encM).map fun x => (tupleKind (mixKind P w)).hash x.1).Nodup := by
  have e1 : ((m.map encM).map fun x => (tupleKind (mixKind P w)).hash x.1) = (m.map (·.1)).map fun k => hash2 k.1 k.2 := by
    rw [List.map_map, List.map_map]
    rfl
  rw [e1]
  have hk' : ∀ k ∈ m.map (·.1), k.1 < 12 ∧ -1 ≤ k.2 ∧ k.2 < 8 := fun k h => by
    obtain ⟨e, he, rfl⟩ := List.mem_map.mp h
    exact hk e he
  generalize m.map (·.1) = l at hn hk'
  refine List.pairwise_map.mpr ?_
  refine hn.imp_of_mem fun {a b} ha hb hab h => hab ?_
  obtain ⟨a1, a2⟩ := a
  obtain ⟨b1, b2⟩ := b
  obtain ⟨x1, x2, x3⟩ := hk' _ ha
  obtain ⟨y1, y2, y3⟩ := hk' _ hb
  have q := hash_ne ⟨a1, x1⟩ ⟨b1, y1⟩ ⟨(a2 + 1).toNat, by simp only at x2 x3; omega⟩ ⟨(b2 + 1).toNat, by simp only at y2 y3; omega⟩
  simp only [Fin.mk.injEq] at q
  simp only at x2 x3 y2 y3 h
  have c1 : (((a2 + 1).toNat : Int) - 1) = a2 := by omega
  have c2 : (((b2 + 1).toNat : Int) - 1) = b2 := by omega
  rw [c1, c2] at q
  obtain ⟨q1, q2⟩ := q h
  have : a2 = b2 := by omega
  rw [q1, this]

/-! ### rows of neighbours -/
/-- a list with, for each k, an object (mk l), l the neighbours of k -/
structure AdjAt (mk : List V → HO) (H : Hp) (L : Addr) (n : Nat) (ps : List (Nat × Nat)) : Prop where
  ex : ∃ xs : List V, H L = some (.lst xs) ∧ xs.length = n ∧ ∀ k, k < n → ∃ (a : Addr) (l : List Nat), xs[k]? = some (V.ref a) ∧ H a = some (mk (l.map vn)) ∧ l.length ≤ 100 ∧ ∀ x, x ∈ l ↔ nbr ps k x
abbrev AdjT := AdjAt HO.tup
abbrev AdjL := AdjAt HO.lst
theorem AdjAt.same {mk : List V → HO} {H H' : Hp} {L : Addr} {n : Nat} {ps : List (Nat × Nat)} (h : AdjAt mk H L n ps) (e : Same H H') : AdjAt mk H' L n ps := by
  obtain ⟨xs, h1, h2, h3⟩ := h.ex
  refine ⟨xs, e _ _ h1, h2, fun k hk => ?_⟩
  obtain ⟨a, l, q1, q2, q3⟩ := h3 k hk
  exact ⟨a, l, q1, e _ _ q2, q3⟩

/-! ### objects -/
def fldW (n : Nat) (t d : Addr) : List (Str × V) := [("kept_size", vn n), ("kept_pushes", .ref t), ("kept_facts", .ref d)]
def fldB (n : Nat) (t d : Addr) : List (Str × V) := [("kept_size", vn n), ("kept_ties", .ref t), ("kept_facts", .ref d)]
def fldH (wa ba tr th dm df : Addr) : List (Str × V) := [("kept_web", .ref wa), ("kept_book", .ref ba), ("kept_reading", .ref tr), ("kept_homes", .ref th), ("kept_moves", .ref dm), ("kept_facts", .ref df)]
theorem fldW_size {n : Nat} {t d : Addr} : (fldW n t d).lookup ("kept_size" : Str) = some (vn n) := by kernel_rfl
theorem fldW_pushes {n : Nat} {t d : Addr} : (fldW n t d).lookup ("kept_pushes" : Str) = some (.ref t) := by kernel_rfl
theorem fldW_facts {n : Nat} {t d : Addr} : (fldW n t d).lookup ("kept_facts" : Str) = some (.ref d) := by kernel_rfl
theorem fldB_size {n : Nat} {t d : Addr} : (fldB n t d).lookup ("kept_size" : Str) = some (vn n) := by kernel_rfl
theorem fldB_facts {n : Nat} {t d : Addr} : (fldB n t d).lookup ("kept_facts" : Str) = some (.ref d) := by kernel_rfl
theorem fldH_web {wa ba tr th dm df : Addr} : (fldH wa ba tr th dm df).lookup ("kept_web" : Str) = some (.ref wa) := by kernel_rfl
theorem fldH_book {wa ba tr th dm df : Addr} : (fldH wa ba tr th dm df).lookup ("kept_book" : Str) = some (.ref ba) := by kernel_rfl
theorem fldH_reading {wa ba tr th dm df : Addr} : (fldH wa ba tr th dm df).lookup ("kept_reading" : Str) = some (.ref tr) := by kernel_rfl
theorem fldH_homes {wa ba tr th dm df : Addr} : (fldH wa ba tr th dm df).lookup ("kept_homes" : Str) = some (.ref th) := by kernel_rfl
theorem fldH_moves {wa ba tr th dm df : Addr} : (fldH wa ba tr th dm df).lookup ("kept_moves" : Str) = some (.ref dm) := by kernel_rfl
theorem fldH_facts {wa ba tr th dm df : Addr} : (fldH wa ba tr th dm df).lookup ("kept_facts" : Str) = some (.ref df) := by kernel_rfl
/-- a Web; d: its facts -/
structure WebAt (K : Frg) (H : Hp) (a d : Addr) (n : Nat) (ps : List (Nat × Nat)) : Prop where
  ob : ∃ dx t xs, H a = some (.ins (CW K) dx (fldW n t d)) ∧ H t = some (.tup xs) ∧ Prs H xs ps
  fc : H d = some (.dK []) ∨ ∃ L, H d = some (.dK [(Sum.inr "beside", .ref L)]) ∧ AdjT H L n ps
/-- a Book -/
structure BookAt (K : Frg) (H : Hp) (a : Addr) (n : Nat) (ts : List (Nat × Nat)) : Prop where
  ob : ∃ dx t d L, H a = some (.ins (CB K) dx (fldB n t d)) ∧ H d = some (.dK [(Sum.inr "tied", .ref L)]) ∧ AdjT H L n ts
theorem BookAt.same {K : Frg} {H H' : Hp} {a : Addr} {n : Nat} {ts : List (Nat × Nat)} (h : BookAt K H a n ts) (e : Same H H') : BookAt K H' a n ts := by
  obtain ⟨dx, t, d, L, h1, h2, h3⟩ := h.ob
  exact ⟨dx, t, d, L, e _ _ h1, e _ _ h2, h3.same e⟩
/-- what is known of ways home -/
def kenc (p : Nat × Bool) : Key × V := (Sum.inl (p.1 : Int), .bl p.2)
structure KnownAt (H : Hp) (k : Addr) (W : Wd) (kn : List (Nat × Bool)) : Prop where
  ob : H k = some (.dK (kn.map kenc))
  nd : (kn.map (·.1)).Nodup
  ok : ∀ p ∈ kn, p.1 < W.size ∧ (p.2 = true ↔ HomeOk W p.1)
/-- a hand's facts: "homeward", "break" -/
def fkOf (hw br : Option V) : List (Key × V) := (match hw with | none => [] | some v => [(Sum.inr "homeward", v)]) ++ (match br with | none => [] | some v => [(Sum.inr "break", v)])
/-- what of a Hand never changes -/
structure HandAt (K : Frg) (H : Hp) (a df : Addr) (W : Wd) : Prop where
  ob : ∃ dx wa ba tr th dm, H a = some (.ins (CH K) dx (fldH wa ba tr th dm df)) ∧ BookAt K H ba W.many W.ties ∧ H tr = some (.tup (W.reading.map vo)) ∧ H th = some (.tup (W.homes.map vn)) ∧ H dm = some (.dT (W.moves.map encM))
theorem HandAt.same {K : Frg} {H H' : Hp} {a df : Addr} {W : Wd} (h : HandAt K H a df W) (e : Same H H') : HandAt K H' a df W := by
  obtain ⟨dx, wa, ba, tr, th, dm, h1, h2, h3, h4, h5⟩ := h.ob
  exact ⟨dx, wa, ba, tr, th, dm, e _ _ h1, h2.same e, e _ _ h3, e _ _ h4, e _ _ h5⟩
/-- the law's world -/
def wk (n : Nat) (tp : Addr) (m : Nat) (tt tr th dm : Addr) : List (Key × V) :=
  [(Sum.inr "size", vn n), (Sum.inr "pushes", .ref tp), (Sum.inr "many", vn m), (Sum.inr "ties", .ref tt), (Sum.inr "reading", .ref tr), (Sum.inr "homes", .ref th), (Sum.inr "moves", .ref dm)]
section
variable {n : Nat} {tp : Addr} {m : Nat} {tt tr th dm : Addr}
theorem wk_size : valV (wk n tp m tt tr th dm) (Sum.inr "size") = some (vn n) := by kernel_rfl
theorem wk_pushes : valV (wk n tp m tt tr th dm) (Sum.inr "pushes") = some (.ref tp) := by kernel_rfl
theorem wk_many : valV (wk n tp m tt tr th dm) (Sum.inr "many") = some (vn m) := by kernel_rfl
theorem wk_ties : valV (wk n tp m tt tr th dm) (Sum.inr "ties") = some (.ref tt) := by kernel_rfl
theorem wk_reading : valV (wk n tp m tt tr th dm) (Sum.inr "reading") = some (.ref tr) := by kernel_rfl
theorem wk_homes : valV (wk n tp m tt tr th dm) (Sum.inr "homes") = some (.ref th) := by kernel_rfl
theorem wk_moves : valV (wk n tp m tt tr th dm) (Sum.inr "moves") = some (.ref dm) := by kernel_rfl
theorem wk_put_moves {x : Addr} : putK (wk n tp m tt tr th dm) (Sum.inr "moves") (.ref x) = wk n tp m tt tr th x := by kernel_rfl
theorem wk_put_reading {x : Addr} : putK (wk n tp m tt tr th dm) (Sum.inr "reading") (.ref x) = wk n tp m tt x th dm := by kernel_rfl
end
structure WorldAt (H : Hp) (a : Addr) (W : Wd) : Prop where
  ob : ∃ tp xp tt xt tr th dm, H a = some (.dK (wk W.size tp W.many tt tr th dm)) ∧ H tp = some (.tup xp) ∧ Prs H xp W.pushes ∧ H tt = some (.tup xt) ∧ Prs H xt W.ties ∧ H tr = some (.tup (W.reading.map vo)) ∧ H th = some (.tup (W.homes.map vn)) ∧
    H dm = some (.dT (W.moves.map encM))
theorem WorldAt.same {H H' : Hp} {a : Addr} {W : Wd} (h : WorldAt H a W) (e : Same H H') : WorldAt H' a W := by
  obtain ⟨tp, xp, tt, xt, tr, th, dm, h1, h2, h3, h4, h5, h6, h7, h8⟩ := h.ob
  exact ⟨tp, xp, tt, xt, tr, th, dm, e _ _ h1, e _ _ h2, h3.same e, e _ _ h4, h5.same e, e _ _ h6, e _ _ h7, e _ _ h8⟩
theorem fk_h {hw br : Option V} : valV (fkOf hw br) (Sum.inr "homeward") = hw := by
  cases hw <;> cases br <;> kernel_rfl
theorem fk_b {hw br : Option V} : valV (fkOf hw br) (Sum.inr "break") = br := by
  cases hw <;> cases br <;> kernel_rfl
theorem fk_put_h {v : V} : putK (fkOf none none) (Sum.inr "homeward") v = fkOf (some v) none := by kernel_rfl
theorem fk_put_b {hw : Option V} {v : V} : putK (fkOf hw none) (Sum.inr "break") v = fkOf hw (some v) := by
  cases hw <;> kernel_rfl
end SL
/-! Rows of neighbours: beside_lists and the law's own rows. -/
namespace SL
open PySem PySem.Spec PyProof.Rows L2
section
variable {K : Frg} {H : Hp} {Q : VK}
theorem g_pair {i j : Nat} {σ : L2.St} {a : Addr} {x y : V} {N : L2.St → Hp → Prop} (h : H a = some (.tup [x, y])) (q : N ((σ.set i (some x)).set j (some y)) H) : gTup K 2 (gCons (gName i) (gCons (gName j) gNil)) (.ref a) σ H N :=
  ⟨a, _, rfl, Or.inl (Or.inl h), rfl, _, _, rfl, _, _, rfl, rfl, q⟩
theorem q_app {l : Addr} {xs : List V} {y : V} (h : H l = some (.lst xs)) (hl : xs.length < 100000) (q : Q .non (upd H l (.lst (xs ++ [y])))) : tyV K "list" (.ref l) H ∧ rAppend (.ref l) [y] H Q :=
  ⟨Or.inl ⟨rfl, _, Or.inl (Or.inl h)⟩, l, xs, y, rfl, rfl, h, szt hl, q⟩
end
/-- rows under way: a list of lists of their own -/
structure RowsAt (B H : Hp) (L : Addr) (n : Nat) (ps : List (Nat × Nat)) : Prop where
  ex : ∃ as : List Addr, H L = some (.lst (as.map V.ref)) ∧ as.length = n ∧ as.Nodup ∧ L ∉ as ∧ (∀ a ∈ as, B a = none) ∧ B L = none ∧
    ∀ k a, as[k]? = some a → ∃ l : List Nat, H a = some (.lst (l.map vn)) ∧ l.length ≤ ps.length ∧ ∀ x, x ∈ l ↔ nbr ps k x
theorem nodup_at {as : List Addr} (h : as.Nodup) {i j : Nat} {a b : Addr} (hi : as[i]? = some a) (hj : as[j]? = some b) (hne : i ≠ j) : a ≠ b := by
  rintro rfl
  exact hne (L2.nd_ix h hi hj)
/-- one pair more -/
theorem RowsAt.add {B H : Hp} {L : Addr} {n : Nat} {ps : List (Nat × Nat)} {x y : Nat} (h : RowsAt B H L n ps) (hxy : x < y) (hy : y < n) : ∃ (as : List Addr) (ax ay : Addr) (lx ly : List Nat), H L = some (.lst (as.map V.ref)) ∧ (as.map V.ref)[x]? = some (V.ref ax) ∧ (as.map V.ref)[y]? = some (V.ref ay) ∧ ax ≠ ay ∧ L ≠ ax ∧ L ≠ ay ∧
    H ax = some (.lst (lx.map vn)) ∧ H ay = some (.lst (ly.map vn)) ∧ lx.length ≤ ps.length ∧ ly.length ≤ ps.length ∧ B ax = none ∧ B ay = none ∧ RowsAt B (upd (upd H ax (.lst (lx.map vn ++ [vn y]))) ay (.lst (ly.map vn ++ [vn x]))) L n (ps ++ [(x, y)]) := by
  obtain ⟨as, hL, hn, nd, hLn, hB, hBL, hr⟩ := h.ex
  have hx : x < as.length := by omega
  have hy' : y < as.length := by omega
  have ex := List.getElem?_eq_getElem hx
  have ey := List.getElem?_eq_getElem hy'
  obtain ⟨lx, q1, q2, q3⟩ := hr x _ ex
  obtain ⟨ly, r1, r2, r3⟩ := hr y _ ey
  have hne : as[x] ≠ as[y] := nodup_at nd ex ey (by omega)
  have nL1 : L ≠ as[x] := fun e => hLn (e ▸ List.getElem_mem hx)
  have nL2 : L ≠ as[y] := fun e => hLn (e ▸ List.getElem_mem hy')
  refine ⟨as, as[x], as[y], lx, ly, hL, by rw [List.getElem?_map, ex]; rfl, by rw [List.getElem?_map, ey]; rfl, hne, nL1, nL2, q1, r1, q2, r2, hB _ (List.getElem_mem hx), hB _ (List.getElem_mem hy'), ⟨as, by rw [upd_ne nL2, upd_ne nL1]; exact hL, hn, nd, hLn, hB, hBL, fun k a hk => ?_⟩⟩
  by_cases k1 : k = y
  · subst k1
    rw [ey] at hk
    cases hk
    refine ⟨ly ++ [x], by rw [upd_same, List.map_append]; rfl, by rw [List.length_append, List.length_append]; simp; omega, fun z => ?_⟩
    rw [List.mem_append, r3]
    unfold nbr
    simp only [List.mem_append, List.mem_singleton, Prod.mk.injEq]
    constructor
    · rintro (h | h)
      · rcases h with h | h
        · exact Or.inl (Or.inl h)
        · exact Or.inr (Or.inl h)
      · exact Or.inr (Or.inr ⟨h, trivial⟩)
    · rintro ((h | ⟨h, _⟩) | (h | ⟨h, _⟩))
      · exact Or.inl (Or.inl h)
      · omega
      · exact Or.inl (Or.inr h)
      · exact Or.inr h
  · have n1 : a ≠ as[y] := nodup_at nd hk ey k1
    by_cases k2 : k = x
    · subst k2
      rw [ex] at hk
      cases hk
      refine ⟨lx ++ [y], by rw [upd_ne hne, upd_same, List.map_append]; rfl, by rw [List.length_append, List.length_append]; simp; omega, fun z => ?_⟩
      rw [List.mem_append, q3]
      unfold nbr
      simp only [List.mem_append, List.mem_singleton, Prod.mk.injEq]
      constructor
      · rintro (h | h)
        · rcases h with h | h
          · exact Or.inl (Or.inl h)
          · exact Or.inr (Or.inl h)
        · exact Or.inl (Or.inr ⟨trivial, h⟩)
      · rintro ((h | ⟨_, h⟩) | (h | ⟨_, h⟩))
        · exact Or.inl (Or.inl h)
        · exact Or.inr h
        · exact Or.inl (Or.inr h)
        · omega
    · have n2 : a ≠ as[x] := nodup_at nd hk ex k2
      obtain ⟨l, s1, s2, s3⟩ := hr k a hk
      refine ⟨l, by rw [upd_ne n1, upd_ne n2]; exact s1, by rw [List.length_append]; omega, fun z => ?_⟩
      rw [s3]
      unfold nbr
      simp only [List.mem_append, List.mem_singleton, Prod.mk.injEq]
      constructor
      · rintro (h | h)
        · exact Or.inl (Or.inl h)
        · exact Or.inr (Or.inl h)
      · rintro ((h | ⟨h, _⟩) | (h | ⟨_, h⟩))
        · exact Or.inl h
        · exact absurd h k2
        · exact Or.inr h
        · exact absurd h k1
/-- the loops that both programs have: n empty lists, then each pair both ways -/
theorem rows_prog {K : Frg} {H : Hp} {tL : TE} {D : Ends} {n : Nat} {t : Addr} {xs : List V} {ps : List (Nat × Nat)} (ht : H t = some (.tup xs)) (hp : Prs H xs ps) (hR : ∀ p ∈ ps, p.1 < p.2 ∧ p.2 < n) (hl : ps.length ≤ 100) (hn : n ≤ 100)
    (fin : ∀ σ' H' L, Same H H' → RowsAt H H' L n ps → σ'[2]? = some (some (V.ref L)) → σ'.length = 7 → tL σ' H' D.rt) :
    tSeq (tAsg (tLc (iRng1 (tCons (tVar 0) tNil)) (gName 5) tYes (tLst tNil) [5]) (gName 2)) (tSeq (tFor (iTup K (tVar 1)) (gTup K 2 (gCons (gName 3) (gCons (gName 4) gNil)))
      (tSeq (tDrop (tBM K "list" rAppend (tOp (rIxL K) (tVar 2) (tVar 3)) (tCons (tVar 4) tNil))) (tDrop (tBM K "list" rAppend (tOp (rIxL K) (tVar 2) (tVar 4)) (tCons (tVar 3) tNil))))) (tRet tL)) D [some (vn n), some (.ref t), none, none, none, none, none] H := by
  refine ⟨_, rfl, _, rfl, by omega, by omega, fun L hL => ?_⟩
  have start : ∀ H1, (Same H H1 ∧ ∃ as : List Addr, H1 L = some (.lst (as.map V.ref)) ∧ as.length = ((n : Int).toNat) ∧ as.Nodup ∧ L ∉ as ∧ (∀ a ∈ as, H a = none) ∧ ∀ a ∈ as, H1 a = some (.lst [])) →
      (tSeq (tFor (iTup K (tVar 1)) (gTup K 2 (gCons (gName 3) (gCons (gName 4) gNil)))
      (tSeq (tDrop (tBM K "list" rAppend (tOp (rIxL K) (tVar 2) (tVar 3)) (tCons (tVar 4) tNil))) (tDrop (tBM K "list" rAppend (tOp (rIxL K) (tVar 2) (tVar 4)) (tCons (tVar 3) tNil))))) (tRet tL)) D [some (vn n), some (.ref t), some (.ref L), none, none, none, none] H1 := by
    rintro H1 ⟨s1, as, hLs, hlen, nd, hLn, hfr, hem⟩
    have r0 : RowsAt H H1 L n [] := ⟨as, hLs, by rw [hlen]; omega, nd, hLn, hfr, hL, fun k a hk => ⟨[], by rw [hem a (List.mem_of_getElem? hk)]; rfl, Nat.le_refl _, fun x => by simp [nbr]⟩⟩
    refine ⟨_, rfl, t, rfl, ⟨xs, Or.inl (Or.inl (s1 _ _ ht))⟩, for_tup (K := K) (a := t) (xs := xs) (fun i σ H2 => ∃ x y, σ = [some (vn n), some (.ref t), some (.ref L), x, y, none, none] ∧ Same H H2 ∧ RowsAt H H2 L n (ps.take i))
      ⟨none, none, rfl, s1, r0⟩ (fun i σ H2 _ ⟨_, _, _, s2, _⟩ => Or.inl (Or.inl (s2 _ _ ht))) (fun i x σ H2 hx ⟨x1, y1, e, s2, r2⟩ => ?_) fun σ H2 ⟨x1, y1, e, s2, r2⟩ => ?_⟩
    · subst e
      obtain ⟨p, a, hp1, rfl, ha⟩ := hp.of_x hx
      obtain ⟨h1, h2⟩ := hR p (List.mem_of_getElem? hp1)
      refine g_pair (s2 _ _ ha) ?_
      obtain ⟨as2, ax, ay, lx, ly, q1, q2, q3, q4, q5, q6, q7, q8, q9, q10, q11, q12, q13⟩ := r2.add h1 h2
      have lt : (ps.take i).length ≤ 100 := by rw [List.length_take]; omega
      walk_at "sd"
      refine q_ixL q1 q2 ?_
      refine q_app (y := vn p.2) q7 (by rw [List.length_map]; omega) ?_
      refine q_ixL (xs := as2.map V.ref) (by rw [upd_ne q5]; exact q1) q3 ?_
      refine q_app (y := vn p.1) (by rw [upd_ne (Ne.symm q4)]; exact q8) (by rw [List.length_map]; omega) ?_
      refine ⟨(s2.mut q11).mut q12, ?_⟩
      rw [List.take_add_one, hp1]
      exact q13
    · subst e
      have e2 : ps.take xs.length = ps := by rw [hp.len, List.take_length]
      rw [e2] at r2
      exact fin _ _ L s2 r2 rfl rfl
  refine lc_range (fun i H1 => Same H H1 ∧ ∃ as : List Addr, H1 L = some (.lst (as.map V.ref)) ∧ as.length = i ∧ as.Nodup ∧ L ∉ as ∧ (∀ a ∈ as, H a = none) ∧ ∀ a ∈ as, H1 a = some (.lst [])) ⟨L2.Same.new hL, [], upd_same, rfl, List.nodup_nil, by simp, by simp, by simp⟩
    (fun i H1 hi ⟨s1, as, h1, h2, h3, h4, h5, h6⟩ => ⟨rfl, ?_⟩) start
  walk_at "sd"
  refine ⟨by decide, fun p hp0 => ?_⟩
  have npL : p ≠ L := fun e => by rw [e, h1] at hp0; cases hp0
  have npa : p ∉ as := fun hm => by rw [h6 p hm] at hp0; cases hp0
  refine ⟨as.map V.ref, by rw [upd_ne npL.symm]; exact h1, szt (by rw [List.length_map]; omega), (s1.trans (L2.Same.new hp0)).mut hL, as ++ [p], by rw [upd_same, List.map_append]; rfl, by rw [List.length_append, h2]; rfl,
    L2.nd_snoc h3 npa, by simp [h4, Ne.symm npL], fun a ha => ?_, fun a ha => ?_⟩
  · rcases List.mem_append.mp ha with ha | ha
    · exact h5 a ha
    · rw [List.mem_singleton.mp ha]
      exact s1.fr hp0
  · rcases List.mem_append.mp ha with ha | ha
    · have n1 : a ≠ p := fun e => npa (e ▸ ha)
      have n2 : a ≠ L := fun e => h4 (e ▸ ha)
      rw [upd_ne n2, upd_ne n1]
      exact h6 a ha
    · rw [List.mem_singleton.mp ha, upd_ne npL, upd_same]
/-- a sorted list of naturals is one of naturals -/
theorem perm_nat {ns : List Int} {l : List Nat} (h : ns.Perm (l.map fun n : Nat => (n : Int))) : ∃ l' : List Nat, ns = l'.map (fun n : Nat => (n : Int)) ∧ l'.Perm l := by
  refine ⟨ns.map Int.toNat, ?_, ?_⟩
  · rw [List.map_map]
    have : ∀ z ∈ ns, (((fun n : Nat => (n : Int)) ∘ Int.toNat) z) = z := fun z hz => by
      obtain ⟨n, _, e⟩ := List.mem_map.mp (h.mem_iff.mp hz)
      subst e
      rfl
    rw [List.map_congr_left this]
    simp
  · have := h.map Int.toNat
    rw [List.map_map] at this
    have e : l.map (Int.toNat ∘ fun n : Nat => (n : Int)) = l := by
      have : (Int.toNat ∘ fun n : Nat => (n : Int)) = id := by funext n; rfl
      rw [this, List.map_id]
    rw [e] at this
    exact this
theorem map_vn (l : List Nat) : l.map vn = (l.map fun n : Nat => (n : Int)).map V.int := by rw [List.map_map]; rfl
section
variable {P : Program} {w : World} {K : Frg} {mg : Str → Option Value} {base : Heap}
def spRows (mk : List V → HO) : Sp := fun vs H Q _ => ∃ (n : Nat) (t : Addr) (xs : List V) (ps : List (Nat × Nat)), vs = [vn n, .ref t] ∧ H t = some (.tup xs) ∧ Prs H xs ps ∧ (∀ p ∈ ps, p.1 < p.2 ∧ p.2 < n) ∧ ps.length ≤ 100 ∧ n ≤ 100 ∧
  ∀ L H', H L = none → Same H H' → AdjAt mk H' L n ps → Q (.ref L) H'
theorem cal_beside_lists (T : Txt K mg) : C8.Cal P w K mg base 1 "beside_lists" (spRows .tup) [] := by
  refine mkCal T.d_beside_lists sc_beside_lists (fun _ _ _ _ _ _ us hl => match us, hl with | [_, _], _ => rfl) (fun vs H Q E h => ?_) (fun f cdv A outer s H vs Q E hr h => ?_)
  · obtain ⟨n, t, xs, ps, rfl, _⟩ := h
    rfl
  · have hu := hu_of hr
    obtain ⟨n, t, xs, ps, rfl, ht, hp, hR, hl, hn, q⟩ := h
    refine ⟨_, (pss_cons (ps_setLc (i := 2) (own := [("_", 5)]) rfl sc_beside_lists.nd rfl rfl (sw_true rfl rfl rfl (by decide +kernel)) (pi_range1 rfl T.b_range (pa_cons (pv 0) pa_nil)) (blkOk_by (N := N_beside_lists) (sc := defScope s_beside_lists) (by decide +kernel)) (fun _ _ _ _ _ => (pg_name (i := 5) sc_beside_lists.nd rfl (Or.inl rfl))) (fun _ _ _ _ _ => pts_nil) (fun _ _ _ _ _ => (pe_lst pa_nil)))
      (pss_cons (ps_for PassesOwn.never rfl (k_tuple (K := K) rfl (pv 1)) (k_gtup (K := K) (n := 2) rfl rfl (pgs_cons (pg_name (i := 3) sc_beside_lists.nd rfl (Or.inl rfl)) (pgs_cons (pg_name (i := 4) sc_beside_lists.nd rfl (Or.inl rfl)) pgs_nil))) (pss_cons (ps_expr (k_bm (K := K) rfl PySem.F.plainAttrs_list PySem.F.slot_list_append PySem.F.type_list_append mt_append (pe_ix (k_ixL (K := K) rfl) (pv 2) (pv 3) (fun _ _ => rfl)) (pa_cons (pv 4) pa_nil)))
        (pss_one (ps_expr (k_bm (K := K) rfl PySem.F.plainAttrs_list PySem.F.slot_list_append PySem.F.type_list_append mt_append (pe_ix (k_ixL (K := K) rfl) (pv 2) (pv 4) (fun _ _ => rfl)) (pa_cons (pv 3) pa_nil))))))
      (pss_one (ps_ret (pe_lc (own := [("row", 6)]) rfl sc_beside_lists.nd (k_list (K := K) rfl (pv 2)) (blkOk_by (N := N_beside_lists) (sc := defScope s_beside_lists) (by decide +kernel)) (fun _ _ _ _ _ => (pg_name (i := 6) sc_beside_lists.nd rfl (Or.inl rfl))) (fun _ _ _ _ _ => pts_nil) (fun _ _ _ _ _ => (pe_callTy (k_tup (K := K) rfl) (by rfl) T.b_tuple (by decide +kernel) (pa_cons (pe_callB (k_sortI (K := K) rfl) (by rfl) T.b_sorted (by decide +kernel) (pa_cons (pv 6) pa_nil)) pa_nil)))))))), ?_⟩
    refine rows_prog (K := K) ht hp hR hl hn fun σ' H' L s1 hrw hs hlen => ?_
    obtain ⟨as, hL, has, nd, hLn, hB, hBL, hr2⟩ := hrw.ex
    refine ⟨_, hs, L, rfl, ⟨_, Or.inl (Or.inl hL)⟩, fun D hD => ?_⟩
    refine lcL (B := H') (xs := as.map V.ref) (fun k y H2 => ∃ (a : Addr) (l : List Nat), y = .ref a ∧ a ≠ D ∧ H2 a = some (.tup (l.map vn)) ∧ l.length ≤ 100 ∧ ∀ x, x ∈ l ↔ nbr ps k x) (L2.Same.refl _) hD (Or.inl (Or.inl hL)) (by rw [List.length_map]; omega)
      (fun k y H2 H3 ke ⟨a, l, e, na, h1, h2⟩ => ⟨a, l, e, na, ke a _ na h1, h2⟩) (fun x => ?_) (fun k x H2 hx s2 nD N hN => ?_) fun H2 ys s2 hy hl2 hR2 => ?_
    · match σ', hlen with
      | [_, _, _, _, _, _, _], _ => rfl
    · match σ', hlen with
      | [_, _, _, _, _, _, _], _ =>
        walk_at "sd"
        rw [List.getElem?_map] at hx
        cases hk : as[k]? with
        | none => rw [hk] at hx; cases hx
        | some a =>
          rw [hk] at hx
          cases hx
          obtain ⟨l, h1, h2, h3⟩ := hr2 k a hk
          refine ⟨a, l.map fun n : Nat => (n : Int), rfl, Or.inl (Or.inl (by rw [← map_vn]; exact s2 _ _ h1)), fun ns' p pm _ hp0 => ?_⟩
          obtain ⟨l', rfl, pl⟩ := perm_nat pm
          rw [← map_vn]
          refine ⟨p, rfl, l'.map vn, Or.inl ⟨Or.inl (Or.inl upd_same), fun u hu0 => ?_⟩⟩
          refine hN _ _ ((L2.Same.new hp0).trans (L2.Same.new hu0)) ⟨u, l', rfl, ?_, upd_same, by rw [pl.length_eq]; omega, fun x => by rw [pl.mem_iff, h3]⟩
          rintro rfl
          rw [upd_ne (fun e => nD (by rw [e]; exact hp0))] at hu0
          exact nD hu0
    · refine q D H2 (s1.fr hD) (s1.trans s2) ⟨ys, hy, by rw [hl2, List.length_map, has], fun k hk => ?_⟩
      have hk2 : k < ys.length := by rw [hl2, List.length_map, has]; exact hk
      obtain ⟨a, l, e, _, h1, h2, h3⟩ := hR2 k ys[k] (List.getElem?_eq_getElem hk2)
      exact ⟨a, l, by rw [List.getElem?_eq_getElem hk2, e], h1, h2, h3⟩
theorem cal__law_rows (T : Txt K mg) : C8.Cal P w K mg base 1 "_law_rows" (spRows .lst) [] := by
  refine mkCal T.d__law_rows sc__law_rows (fun _ _ _ _ _ _ us hl => match us, hl with | [_, _], _ => rfl) (fun vs H Q E h => ?_) (fun f cdv A outer s H vs Q E hr h => ?_)
  · obtain ⟨n, t, xs, ps, rfl, _⟩ := h
    rfl
  · have hu := hu_of hr
    obtain ⟨n, t, xs, ps, rfl, ht, hp, hR, hl, hn, q⟩ := h
    refine ⟨_, (pss_cons (ps_setLc (i := 2) (own := [("_law_k", 5)]) rfl sc__law_rows.nd rfl rfl (sw_true rfl rfl rfl (by decide +kernel)) (pi_range1 rfl T.b_range (pa_cons (pv 0) pa_nil)) (blkOk_by (N := N__law_rows) (sc := defScope s__law_rows) (by decide +kernel)) (fun _ _ _ _ _ => (pg_name (i := 5) sc__law_rows.nd rfl (Or.inl rfl))) (fun _ _ _ _ _ => pts_nil) (fun _ _ _ _ _ => (pe_lst pa_nil)))
      (pss_cons (ps_for PassesOwn.never rfl (k_tuple (K := K) rfl (pv 1)) (k_gtup (K := K) (n := 2) rfl rfl (pgs_cons (pg_name (i := 3) sc__law_rows.nd rfl (Or.inl rfl)) (pgs_cons (pg_name (i := 4) sc__law_rows.nd rfl (Or.inl rfl)) pgs_nil))) (pss_cons (ps_expr (k_bm (K := K) rfl PySem.F.plainAttrs_list PySem.F.slot_list_append PySem.F.type_list_append mt_append (pe_ix (k_ixL (K := K) rfl) (pv 2) (pv 3) (fun _ _ => rfl)) (pa_cons (pv 4) pa_nil)))
        (pss_one (ps_expr (k_bm (K := K) rfl PySem.F.plainAttrs_list PySem.F.slot_list_append PySem.F.type_list_append mt_append (pe_ix (k_ixL (K := K) rfl) (pv 2) (pv 4) (fun _ _ => rfl)) (pa_cons (pv 3) pa_nil))))))
      (pss_one (ps_ret (pe_lc (own := [("_law_row", 6)]) rfl sc__law_rows.nd (k_list (K := K) rfl (pv 2)) (blkOk_by (N := N__law_rows) (sc := defScope s__law_rows) (by decide +kernel)) (fun _ _ _ _ _ => (pg_name (i := 6) sc__law_rows.nd rfl (Or.inl rfl))) (fun _ _ _ _ _ => pts_nil) (fun _ _ _ _ _ => (pe_callB (k_sortI (K := K) rfl) (by rfl) T.b_sorted (by decide +kernel) (pa_cons (pv 6) pa_nil)))))))), ?_⟩
    refine rows_prog (K := K) ht hp hR hl hn fun σ' H' L s1 hrw hs hlen => ?_
    obtain ⟨as, hL, has, nd, hLn, hB, hBL, hr2⟩ := hrw.ex
    refine ⟨_, hs, L, rfl, ⟨_, Or.inl (Or.inl hL)⟩, fun D hD => ?_⟩
    refine lcL (B := H') (xs := as.map V.ref) (fun k y H2 => ∃ (a : Addr) (l : List Nat), y = .ref a ∧ a ≠ D ∧ H2 a = some (.lst (l.map vn)) ∧ l.length ≤ 100 ∧ ∀ x, x ∈ l ↔ nbr ps k x) (L2.Same.refl _) hD (Or.inl (Or.inl hL)) (by rw [List.length_map]; omega)
      (fun k y H2 H3 ke ⟨a, l, e, na, h1, h2⟩ => ⟨a, l, e, na, ke a _ na h1, h2⟩) (fun x => ?_) (fun k x H2 hx s2 nD N hN => ?_) fun H2 ys s2 hy hl2 hR2 => ?_
    · match σ', hlen with
      | [_, _, _, _, _, _, _], _ => rfl
    · match σ', hlen with
      | [_, _, _, _, _, _, _], _ =>
        walk_at "sd"
        rw [List.getElem?_map] at hx
        cases hk : as[k]? with
        | none => rw [hk] at hx; cases hx
        | some a =>
          rw [hk] at hx
          cases hx
          obtain ⟨l, h1, h2, h3⟩ := hr2 k a hk
          refine ⟨a, l.map fun n : Nat => (n : Int), rfl, Or.inl (Or.inl (by rw [← map_vn]; exact s2 _ _ h1)), fun ns' p pm _ hp0 => ?_⟩
          obtain ⟨l', rfl, pl⟩ := perm_nat pm
          rw [← map_vn]
          refine hN _ _ (L2.Same.new hp0) ⟨p, l', rfl, ?_, upd_same, by rw [pl.length_eq]; omega, fun x => by rw [pl.mem_iff, h3]⟩
          rintro rfl
          exact nD hp0
    · refine q D H2 (s1.fr hD) (s1.trans s2) ⟨ys, hy, by rw [hl2, List.length_map, has], fun k hk => ?_⟩
      have hk2 : k < ys.length := by rw [hl2, List.length_map, has]; exact hk
      obtain ⟨a, l, e, _, h1, h2, h3⟩ := hR2 k ys[k] (List.getElem?_eq_getElem hk2)
      exact ⟨a, l, by rw [List.getElem?_eq_getElem hk2, e], h1, h2, h3⟩
end
end SL
/-! tied_of, beside_of, Web, reached, Book. -/
namespace SL
open PySem PySem.Spec PyProof.Rows L2
theorem pf_W1 {x : V} : putF ("kept_size" : Str) x [] = [(("kept_size" : Str), x)] := by kernel_rfl
theorem pf_W2 {x y : V} : putF ("kept_pushes" : Str) y [(("kept_size" : Str), x)] = [(("kept_size" : Str), x), ("kept_pushes", y)] := by kernel_rfl
theorem pf_W3 {n : Nat} {t d : Addr} : putF ("kept_facts" : Str) (.ref d) [(("kept_size" : Str), vn n), ("kept_pushes", .ref t)] = fldW n t d := by kernel_rfl
theorem pf_B2 {x y : V} : putF ("kept_ties" : Str) y [(("kept_size" : Str), x)] = [(("kept_size" : Str), x), ("kept_ties", y)] := by kernel_rfl
theorem pf_B3 {n : Nat} {t d : Addr} : putF ("kept_facts" : Str) (.ref d) [(("kept_size" : Str), vn n), ("kept_ties", .ref t)] = fldB n t d := by kernel_rfl
theorem vv_tied {x : V} : valV [((Sum.inr "tied" : Key), x)] (Sum.inr "tied") = some x := by kernel_rfl
theorem vv_beside {x : V} : valV [((Sum.inr "beside" : Key), x)] (Sum.inr "beside") = some x := by kernel_rfl
theorem pk_beside {x : V} : putK ([] : List (Key × V)) (Sum.inr "beside") x = [((Sum.inr "beside" : Key), x)] := by kernel_rfl
section
variable {P : Program} {w : World} {K : Frg} {mg : Str → Option Value} {base : Heap}
def spTied (K : Frg) : Sp := fun vs H Q _ => ∃ (a : Addr) (n : Nat) (ts : List (Nat × Nat)), vs = [.ref a] ∧ BookAt K H a n ts ∧ ∀ L, AdjT H L n ts → Q (.ref L) H
theorem cal_tied_of (T : Txt K mg) : C8.Cal P w K mg base 1 "tied_of" (spTied K) [] := by
  refine mkCal T.d_tied_of sc_tied_of (fun _ _ _ _ _ _ us hl => match us, hl with | [_], _ => rfl) (fun vs H Q E h => ?_) (fun f cdv A outer s H vs Q E hr h => ?_)
  · obtain ⟨a, n, ts, rfl, _⟩ := h
    rfl
  · have hu := hu_of hr
    obtain ⟨a, n, ts, rfl, hb, q⟩ := h
    obtain ⟨dx, t, d, L, h1, h2, h3⟩ := hb.ob
    refine ⟨_, (pss_one (ps_ret (pe_dget hu (k_fld (K := K) rfl (pv 0) rfl) pe_str (fun _ _ => rfl)))), ?_⟩
    walk_at "sd"
    refine q_fld h1 T.i_Book.cl T.n_Book_kept_facts fldB_facts ?_
    walk_at "sd"
    exact ⟨_, q_get h2 vv_tied, q L h3⟩
def spBeside (K : Frg) : Sp := fun vs H Q _ => ∃ (a d : Addr) (n : Nat) (ps : List (Nat × Nat)), vs = [.ref a] ∧ WebAt K H a d n ps ∧ (∀ p ∈ ps, p.1 < p.2 ∧ p.2 < n) ∧ ps.length ≤ 100 ∧ n ≤ 100 ∧ ∀ L H', WebAt K H' a d n ps → AdjT H' L n ps → But (fun x => x = d) H H' → Q (.ref L) H'
theorem cal_beside_of (T : Txt K mg) : C8.Cal P w K mg base 2 "beside_of" (spBeside K) [] := by
  refine mkCal T.d_beside_of sc_beside_of (fun _ _ _ _ _ _ us hl => match us, hl with | [_], _ => rfl) (fun vs H Q E h => ?_) (fun f cdv A outer s H vs Q E hr h => ?_)
  · obtain ⟨a, d, n, ps, rfl, _⟩ := h
    rfl
  · have hu := hu_of hr
    obtain ⟨a, d, n, ps, rfl, hw, hR, hl, hn, q⟩ := h
    obtain ⟨dx, t, xs, h1, h2, h3⟩ := hw.ob
    refine ⟨_, (pss_cons (ps_if (pt_cmp (pc_dnotin hu pe_str (k_fld (K := K) rfl (pv 0) rfl))) (pss_one (ps_dput hu (k_fld (K := K) rfl (pv 0) rfl) pe_str (C8.pe_c (cal_beside_lists T) hr (by decide) rfl (pa_cons (k_fld (K := K) rfl (pv 0) rfl) (pa_cons (k_fld (K := K) rfl (pv 0) rfl) pa_nil))) rfl)) pss_nil)
      (pss_one (ps_ret (pe_dget hu (k_fld (K := K) rfl (pv 0) rfl) pe_str (fun _ _ => rfl))))), ?_⟩
    walk_at "sd"
    refine q_fld h1 T.i_Web.cl T.n_Web_kept_facts fldW_facts ?_
    walk_at "sd"
    rcases hw.fc with hd | ⟨L, hd, hadj⟩
    · refine ⟨none, q_none (k := Sum.inr "beside") hd rfl, ?_⟩
      walk_at "sd"
      refine q_fld h1 T.i_Web.cl T.n_Web_kept_size fldW_size ?_
      refine q_fld h1 T.i_Web.cl T.n_Web_kept_pushes fldW_pushes ?_
      refine ⟨n, t, xs, ps, rfl, h2, h3, hR, hl, hn, fun L H1 hL s1 ha => ?_⟩
      walk_at "sd"
      refine q_fld (s1 _ _ h1) T.i_Web.cl T.n_Web_kept_facts fldW_facts ?_
      walk_at "sd"
      refine q_put (k := Sum.inr "beside") (s1 _ _ hd) (by decide) pk_beside ?_
      have ne : ∀ {b : Addr} {o : HO}, (∀ kvs, o ≠ .dK kvs) → H1 b = some o → upd H1 d (.dK [(Sum.inr "beside", .ref L)]) b = some o := fun {b o} no e => by
        rw [upd_ne (ne_of e (s1 _ _ hd) (no _))]
        exact e
      have g1 := ne (fun _ z => by cases z) (s1 _ _ h1)
      have ga : AdjT (upd H1 d (.dK [(Sum.inr "beside", .ref L)])) L n ps := by
        obtain ⟨ys, e1, e2, e3⟩ := ha.ex
        refine ⟨ys, ne (fun _ z => by cases z) e1, e2, fun k hk => ?_⟩
        obtain ⟨b, l, b1, b2, b3⟩ := e3 k hk
        exact ⟨b, l, b1, ne (fun _ z => by cases z) b2, b3⟩
      refine q_fld g1 T.i_Web.cl T.n_Web_kept_facts fldW_facts ?_
      walk_at "sd"
      refine ⟨_, q_get (k := Sum.inr "beside") upd_same vv_beside, q L _ ⟨⟨dx, t, xs, g1, ne (fun _ z => by cases z) (s1 _ _ h2), ⟨h3.len, fun k p hp => ?_⟩⟩, Or.inr ⟨L, upd_same, ga⟩⟩ ga ?_⟩
      · obtain ⟨b, b1, b2⟩ := h3.at_ k p hp
        exact ⟨b, b1, ne (fun _ z => by cases z) (s1 _ _ b2)⟩
      · intro b o nb hb
        rw [upd_ne nb]
        exact s1 _ _ hb
    · refine ⟨_, q_get (k := Sum.inr "beside") hd vv_beside, ?_⟩
      walk_at "sd"
      refine q_fld h1 T.i_Web.cl T.n_Web_kept_facts fldW_facts ?_
      walk_at "sd"
      exact ⟨_, q_get (k := Sum.inr "beside") hd vv_beside, q L H hw hadj (But.refl _ _)⟩
def spWeb (K : Frg) : Sp := fun vs H Q _ => ∃ (a dx t : Addr) (n : Nat) (xs : List V) (ps : List (Nat × Nat)), vs = [.ref a, vn n, .ref t] ∧ H a = some (.ins (CW K) dx []) ∧ H t = some (.tup xs) ∧ Prs H xs ps ∧ Rising n ps ∧ ps.length ≤ 100 ∧ 1 ≤ n ∧ n ≤ 100 ∧
  ∀ d H', WebAt K H' a d n ps → H d = none → (∀ b o, b ≠ a → H b = some o → H' b = some o) → Q .non H'
theorem mak_Web (T : Txt K mg) : C8.Mak P w K mg base 6 "Web" (CW K) (spWeb K) [] := by
  refine mkMak T.i_Web sc_Web (fun _ _ _ _ _ _ us hl => match us, hl with | [_, _, _], _ => rfl) (fun vs H Q E h => ?_) (fun f cdv A outer s H vs Q E hr h => ?_)
  · obtain ⟨a, dx, t, n, xs, ps, rfl, _⟩ := h
    rfl
  · have hu := hu_of hr
    obtain ⟨a, dx, t, n, xs, ps, rfl, h1, h2, h3, hR, hl, hn1, hn, q⟩ := h
    refine ⟨_, (pss_cons (ps_if (pt_not (pt_val (C8.pe_c (cal_is_within T) hr (by decide) rfl (pa_cons (pv 1) (pa_cons pe_int (pa_cons (pe_gi rfl T.c_MOST_STANDINGS) pa_nil)))))) (pss_one ps_never) pss_nil)
      (pss_cons (ps_if (pt_not (pt_val (C8.pe_c (cal_are_rising_pairs T) hr (by decide) rfl (pa_cons (pv 2) (pa_cons (pv 1) (pa_cons (pe_gi rfl T.c_MOST_PUSHES) pa_nil)))))) (pss_one ps_never) pss_nil)
      (pss_cons (ps_fld (pv 0) (pv 1) rfl)
      (pss_cons (ps_fld (pv 0) (pv 2) rfl)
      (pss_one (ps_fld (pv 0) pe_dnewK rfl)))))), ?_⟩
    walk_at "sd"
    refine ⟨_, _, _, rfl, ?_⟩
    walk_at "sd"
    rw [decide_eq_true (by omega : (1 : Int) ≤ (n : Int)), decide_eq_true (by omega : (n : Int) ≤ 10000)]
    walk_at "sd"
    refine ⟨t, n, _, xs, ps, rfl, h2, h3, hR, by omega, by omega, fun H1 s1 => ?_⟩
    walk_at "sd"
    refine ⟨_, _, _, s1 _ _ h1, T.i_Web.cl, T.n_Web_kept_size, by decide, _, _, _, upd_same, T.i_Web.cl, T.n_Web_kept_pushes, ?_, ?_⟩
    · rw [pf_W1]
      show 1 < 1000
      decide
    rw [pf_W1, pf_W2]
    intro d hd
    have nda : a ≠ d := fun e => by rw [← e, upd_same] at hd; cases hd
    walk_at "sd"
    refine ⟨_, _, _, (by rw [upd_ne nda]; exact upd_same), T.i_Web.cl, T.n_Web_kept_facts, (by show 2 < 1000; decide), ?_⟩
    rw [pf_W3]
    rw [upd_ne nda.symm, upd_ne nda.symm] at hd
    have nt : t ≠ a := ne_of h2 h1 (fun z => by cases z)
    have keep : ∀ b o, b ≠ a → H b = some o → upd (upd (upd (upd H1 a (.ins (CW K) dx [("kept_size", vn n)])) a (.ins (CW K) dx [("kept_size", vn n), ("kept_pushes", .ref t)])) d (.dK [])) a (.ins (CW K) dx (fldW n t d)) b = some o := fun b o nb hb => by
      rw [upd_ne nb, upd_ne (fun e => by rw [e, s1.fr hd] at hb; cases hb), upd_ne nb, upd_ne nb]
      exact s1 _ _ hb
    refine q d _ ⟨⟨dx, t, xs, upd_same, keep _ _ nt h2, ⟨h3.len, fun k p hp => ?_⟩⟩, Or.inl (by rw [upd_ne nda.symm, upd_same])⟩ (s1.fr hd) keep
    obtain ⟨b, b1, b2⟩ := h3.at_ k p hp
    exact ⟨b, b1, keep _ _ (ne_of b2 h1 (fun z => by cases z)) b2⟩
/-- a dict of ints to True -/
def yes (F : List Nat) : List (Key × V) := F.map fun (k : Nat) => (Sum.inl (k : Int), .bl true)
theorem yes_val (F : List Nat) (k : Nat) : valV (yes F) (Sum.inl (k : Int)) = if k ∈ F then some (.bl true) else none := by
  induction F with
  | nil => rfl
  | cons a r ih =>
    unfold valV yes at *
    rw [List.map_cons]
    by_cases h : a = k
    · subst h
      rw [List.find?_cons_of_pos (by simp), if_pos List.mem_cons_self]
      rfl
    · rw [List.find?_cons_of_neg (by simpa using fun z => h (by omega)), ih]
      simp [Ne.symm h]
theorem yes_some (F : List Nat) (k : Nat) : (valV (yes F) (Sum.inl (k : Int))).isSome = decide (k ∈ F) := by
  rw [yes_val]
  by_cases h : k ∈ F
  · simp [h]
  · simp [h]
theorem yes_put {F : List Nat} {k : Nat} (h : k ∉ F) : putK (yes F) (Sum.inl (k : Int)) (.bl true) = yes (F ++ [k]) := by
  rw [putK_new _ (by rw [yes_val, if_neg h])]
  unfold yes
  rw [List.map_append]
  rfl
theorem yes_get {H : Hp} {a : Addr} {F : List Nat} (h : H a = some (.dK (yes F))) (k : Nat) : ∃ o, DGet H a (vn k) o ∧ o.isSome = decide (k ∈ F) := ⟨_, DGet.k (k := Sum.inl (k : Int)) h, yes_some F k⟩
def spReached : Sp := fun vs H Q _ => ∃ (L di : Addr) (n : Nat) (ts : List (Nat × Nat)), vs = [.ref L, .ref di, vn 0] ∧ AdjT H L n ts ∧ H di = some (.dK (yes (List.range n))) ∧ 1 ≤ n ∧ n ≤ 100 ∧ (∀ p ∈ ts, p.1 < p.2 ∧ p.2 < n) ∧ (∀ k, k < n → Rch (nbr ts) (fun x => x < n) 0 k) ∧
  ∀ d F H', H d = none → Same H H' → H' d = some (.dK (yes F)) → n ≤ F.length → Q (.ref d) H'
theorem cal_reached (T : Txt K mg) : C8.Cal P w K mg base 1 "reached" spReached [] := by
  refine mkCal T.d_reached sc_reached (fun _ _ _ _ _ _ us hl => match us, hl with | [_, _, _], _ => rfl) (fun vs H Q E h => ?_) (fun f cdv A outer s H vs Q E hr h => ?_)
  · obtain ⟨L, di, n, ts, rfl, _⟩ := h
    rfl
  · have hu := hu_of hr
    obtain ⟨L, di, n, ts, rfl, hA, hI, hn1, hn, hts, hc, q⟩ := h
    refine ⟨_, (pss_cons (ps_set (i := 3) sc_reached.nd rfl (Or.inl rfl) (pe_disp (pps_cons (pv 2) pe_bl pps_nil) (by rfl) (by rfl) (fun z => by cases z) (by decide)))
      (pss_cons (ps_set (i := 4) sc_reached.nd rfl (Or.inl rfl) (pe_lst (pa_cons (pv 2) pa_nil)))
      (pss_cons (ps_while PassesOwn.never (pt_cmpR op_gt (pe_callB (k_len (K := K) rfl) (by rfl) T.b_len (by decide +kernel) (pa_cons (pv 4) pa_nil)) pe_int (nomark _)) (pss_one (ps_for PassesOwn.never rfl (k_tuple (K := K) rfl (pe_ix (k_ixL (K := K) rfl) (pv 0) (pe_bm0 PySem.F.plainAttrs_list PySem.F.slot_list_pop PySem.F.type_list_pop mt_pop (pv 4)) (fun _ _ => rfl))) (pg_name (i := 5) sc_reached.nd rfl (Or.inl rfl)) (pss_one (ps_if (PW.pt (pw_and (pt_cmp (pc_din hu (pv 5) (pv 1))) (pw_and1 (pt_cmp (pc_dnotin hu (pv 5) (pv 3)))))) (pss_cons (ps_dput hu (pv 3) (pv 5) pe_bl rfl)
            (pss_one (ps_expr (k_bm (K := K) rfl PySem.F.plainAttrs_list PySem.F.slot_list_append PySem.F.type_list_append mt_append (pv 4) (pa_cons (pv 5) pa_nil))))) pss_nil)))))
      (pss_one (ps_ret (pv 3)))))), ?_⟩
    walk_at "sd"
    intro d hd
    refine ⟨_, rfl, upd_same, [(Sum.inl 0, .bl true)], rfl, by decide, ?_⟩
    have e0 : mergeK [] [((Sum.inl 0 : Key), V.bl true)] = yes [0] := by kernel_rfl
    rw [e0, L2.upd_upd]
    refine ⟨by decide, fun p hp => ?_⟩
    have ndp : d ≠ p := fun e => by rw [← e, upd_same] at hp; cases hp
    have hp0 : H p = none := by rw [upd_ne ndp.symm] at hp; exact hp
    refine ⟨fun m σ H1 => ∃ (F D : List Nat) (o5 : Option V), σ = [some (V.ref L), some (V.ref di), some (vn 0), some (V.ref d), some (V.ref p), o5] ∧ Same H H1 ∧ H1 d = some (.dK (yes F)) ∧ H1 p = some (.lst (D.map vn)) ∧ Srch ts n F D none ∧ m = 2 * (n - F.length) + D.length ∧ m ≤ 1000,
      ⟨2 * (n - 1) + 1, [0], [0], none, rfl, ((L2.Same.new hd).mut hp0), by rw [upd_ne ndp, upd_same], upd_same, Srch.start hn1, rfl, by omega⟩, fun m σ H1 w1 => ?_⟩
    obtain ⟨F, D, o5, rfl, s1, h1, h2, hS, hm, hmb⟩ := w1
    refine ⟨_, rfl, p, D.map vn, rfl, Or.inl (Or.inl (Or.inl h2)), ?_⟩
    walk_at "sd"
    rw [List.length_map]
    rcases List.eq_nil_or_concat D with e | ⟨D0, x, e⟩
    · subst e
      rw [if_neg (by simp)]
      exact q d F H1 hd s1 h1 (hS.all hc)
    · rw [List.concat_eq_append] at e
      subst e
      rw [if_pos (by rw [List.length_append]; simp)]
      have hx := hS.sub x (by simp)
      have hxn := hS.lt x hx
      refine ⟨fun σ' H' => ∃ m', m' < m ∧ ∃ (F D : List Nat) (o5 : Option V), σ' = [some (V.ref L), some (V.ref di), some (vn 0), some (V.ref d), some (V.ref p), o5] ∧ Same H H' ∧ H' d = some (.dK (yes F)) ∧ H' p = some (.lst (D.map vn)) ∧ Srch ts n F D none ∧ m' = 2 * (n - F.length) + D.length ∧ m' ≤ 1000,
        fun σ' H' z => z, ?_⟩
      obtain ⟨xs, a1, a2, a3⟩ := hA.ex
      obtain ⟨a, l, b1, b2, b3, b4⟩ := a3 x hxn
      have s2 : Same H (upd H1 p (.lst (D0.map vn))) := s1.mut hp0
      refine ⟨_, rfl, _, rfl, Or.inl ⟨rfl, _, Or.inl (Or.inl h2)⟩, p, _, vn x, rfl, rfl, h2, by simp, ?_⟩
      have ed : (List.map vn (D0 ++ [x])).dropLast = D0.map vn := by simp
      rw [ed]
      refine ⟨L, xs, _, _, rfl, rfl, Or.inl (Or.inl (s2 _ _ a1)), atI_nat b1, a, rfl, ⟨_, Or.inl (Or.inl (s2 _ _ b2))⟩, ?_⟩
      refine for_tup (K := K) (a := a) (xs := l.map vn) (fun i σ H2 => ∃ (F D : List Nat) (o5 : Option V), σ = [some (V.ref L), some (V.ref di), some (vn 0), some (V.ref d), some (V.ref p), o5] ∧ Same H H2 ∧ H2 d = some (.dK (yes F)) ∧ H2 p = some (.lst (D.map vn)) ∧ Srch ts n F D (some (x, l.take i)) ∧ 2 * (n - F.length) + D.length < m)
        ⟨F, D0, o5, rfl, s2, by rw [upd_ne ndp]; exact h1, upd_same, hS.pop, by rw [hm, List.length_append]; simp⟩ (fun i σ H2 _ ⟨_, _, _, _, s3, _⟩ => Or.inl (Or.inl (s3 _ _ b2))) (fun i y σ H2 hy ⟨F2, D2, o52, e, s3, c1, c2, c3, c4⟩ => ?_) fun σ H2 ⟨F2, D2, o52, e, s3, c1, c2, c3, c4⟩ => ?_
      · subst e
        rw [List.getElem?_map] at hy
        cases hk : l[i]? with
        | none => rw [hk] at hy; cases hy
        | some z =>
          rw [hk] at hy
          cases hy
          have hz := (b4 z).mp (List.mem_of_getElem? hk)
          have hzn : z < n := by
            rcases hz with hz | hz
            · exact (hts _ hz).2
            · have := hts _ hz
              simp only at this
              omega
          have tk : l.take (i + 1) = l.take i ++ [z] := by rw [List.take_add_one, hk]; rfl
          walk_at "sd"
          obtain ⟨o1, g1, g2⟩ := yes_get (s3 _ _ hI) z
          refine ⟨o1, g1, ?_⟩
          rw [g2, decide_eq_true (List.mem_range.mpr hzn)]
          walk_at "sd"
          obtain ⟨o2, g3, g4⟩ := yes_get c1 z
          refine ⟨o2, g3, ?_⟩
          rw [g4]
          by_cases hzF : z ∈ F2
          · rw [decide_eq_true hzF]
            walk_at "sd"
            refine ⟨s3, F2, c1, D2, c2, ?_, c4⟩
            rw [tk]
            exact c3.old hzF
          · rw [decide_eq_false hzF]
            walk_at "sd"
            have lF : (F2 ++ [z]).length ≤ n := nodup_lt (c3.new hzF hzn).nd (c3.new hzF hzn).lt
            rw [List.length_append, List.length_singleton] at lF
            refine q_put (k := Sum.inl (z : Int)) c1 (by unfold yes; rw [List.length_map]; omega) (yes_put hzF) ?_
            refine q_app (y := vn z) (xs := D2.map vn) (by rw [upd_ne ndp.symm]; exact c2) (by rw [List.length_map]; omega) ?_
            refine ⟨(s3.mut hd).mut hp0, F2 ++ [z], by rw [upd_ne ndp, upd_same], D2 ++ [z], by rw [upd_same, List.map_append]; rfl, ?_, ?_⟩
            · rw [tk]
              exact c3.new hzF hzn
            · simp only [List.length_append, List.length_singleton]
              omega
      · subst e
        have e2 : l.take (l.map vn).length = l := by rw [List.length_map, List.take_length]
        rw [e2] at c3
        exact ⟨_, c4, F2, D2, o52, rfl, s3, c1, c2, c3.done fun y hy => (b4 y).mpr hy, rfl, by omega⟩
end
end SL
/-! Book. -/
namespace SL
open PySem PySem.Spec PyProof.Rows L2
section
variable {P : Program} {w : World} {K : Frg} {mg : Str → Option Value} {base : Heap}
theorem dc_yes {j n : Nat} {σ : L2.St} {B H1 : Hp} {D : Addr} {Qd : Hp → Prop} (hB : Same B H1) (hD : H1 D = none) (hn : n ≤ 100000) (hj : j < σ.length) (hw : ∀ x : V, wipe ((wipe σ [j]).set j (some x)) [j] = wipe σ [j])
    (hd : ∀ H, Same B H → H D = some (.dK (yes (List.range n))) → Qd H) :
    ∃ W : Nat → Nat → Hp → Prop, (∃ m, W 0 m (upd H1 D (.dK []))) ∧ ∀ i m H, W i m H →
      ((Itr 0 n).stop i H ∧ Qd H) ∨ ((Itr 0 n).go i H ∧ ∃ Nx : Hp → Prop, (∀ H', Nx H' → ∃ m', m' < m ∧ W (i + 1) m' H') ∧ ∀ x H', (Itr 0 n).yld i H x H' → gName j x (wipe σ [j]) H' fun σ2 H2 => wipe σ2 [j] = wipe σ [j] ∧ tYes σ2 H2 fun b H3 =>
        if b = true then tVar j σ2 H3 fun y H4 => tC (.bl true) σ2 H4 fun z H5 => ∃ kvs k, y = kV k ∧ H5 D = some (.dK kvs) ∧ kvs.length < sizeLine ∧ Nx (upd H5 D (.dK (putK kvs k z))) else Nx H3) := by
  have hBD := hB.fr hD
  refine ⟨fun i m H => m = n - i ∧ i ≤ n ∧ Same B H ∧ H D = some (.dK (yes (List.range i))), ⟨n, rfl, Nat.zero_le _, hB.mut hBD, upd_same⟩, ?_⟩
  rintro i m H ⟨rfl, hi, s1, h1⟩
  by_cases hlt : i < n
  · refine .inr ⟨hlt, fun H' => Same B H' ∧ H' D = some (.dK (yes (List.range (i + 1)))), fun H' ⟨a, b⟩ => ⟨n - (i + 1), by omega, rfl, hlt, a, b⟩, fun x H' hx => ?_⟩
    obtain ⟨e1, e2⟩ := hx
    rw [e1, e2]
    refine ⟨hw _, ?_⟩
    simp only [tYes, if_true]
    refine ⟨.int (0 + (i : Int)), ?_, yes (List.range i), Sum.inl (i : Int), ?_, h1, ?_, s1.mut hBD, ?_⟩
    · rw [List.getElem?_set_self]
      rw [wipe_length]
      exact hj
    · show V.int (0 + (i : Int)) = V.int (i : Int)
      rw [Int.zero_add]
    · unfold yes
      rw [List.length_map, List.length_range]
      exact szt (by omega)
    · rw [upd_same, yes_put (by simp), List.range_succ]
  · have e : i = n := by omega
    subst e
    exact .inl ⟨Nat.le_refl _, hd H s1 h1⟩
def spBook (K : Frg) : Sp := fun vs H Q _ => ∃ (a dx t : Addr) (n : Nat) (xs : List V) (ts : List (Nat × Nat)), vs = [.ref a, vn n, .ref t] ∧ H a = some (.ins (CB K) dx []) ∧ H t = some (.tup xs) ∧ Prs H xs ts ∧ Rising n ts ∧ ts.length ≤ 28 ∧ 1 ≤ n ∧ n ≤ 8 ∧
  (∀ k, k < n → Rch (nbr ts) (fun x => x < n) 0 k) ∧ ∀ H', BookAt K H' a n ts → (∀ b o, b ≠ a → H b = some o → H' b = some o) → Q .non H'
theorem mak_Book (T : Txt K mg) : C8.Mak P w K mg base 6 "Book" (CB K) (spBook K) [] := by
  refine mkMak T.i_Book sc_Book (fun _ _ _ _ _ _ us hl => match us, hl with | [_, _, _], _ => rfl) (fun vs H Q E h => ?_) (fun f cdv A outer s H vs Q E hr h => ?_)
  · obtain ⟨a, dx, t, n, xs, ps, rfl, _⟩ := h
    rfl
  · have hu := hu_of hr
    obtain ⟨a, dx, t, n, xs, ts, rfl, h1, h2, h3, hR, hl, hn1, hn, hc, q⟩ := h
    refine ⟨_, (pss_cons (ps_if (pt_not (pt_val (C8.pe_c (cal_is_within T) hr (by decide) rfl (pa_cons (pv 1) (pa_cons pe_int (pa_cons (pe_gi rfl T.c_MOST_CONTENTS) pa_nil)))))) (pss_one ps_never) pss_nil)
      (pss_cons (ps_if (pt_not (pt_val (C8.pe_c (cal_are_rising_pairs T) hr (by decide) rfl (pa_cons (pv 2) (pa_cons (pv 1) (pa_cons (pe_gi rfl T.c_MOST_TIES) pa_nil)))))) (pss_one ps_never) pss_nil)
      (pss_cons (ps_fld (pv 0) (pv 1) rfl)
      (pss_cons (ps_fld (pv 0) (pv 2) rfl)
      (pss_cons (ps_fld (pv 0) (pe_disp (pps_cons pe_str (C8.pe_c (cal_beside_lists T) hr (by decide) rfl (pa_cons (pv 1) (pa_cons (pv 2) pa_nil))) pps_nil) (by rfl) (by rfl) (fun z => by cases z) (by decide)) rfl)
      (pss_cons (ps_setDc (i := 3) (own := [("content", 4)]) rfl sc_Book.nd rfl rfl (swd_true rfl rfl rfl (by decide +kernel)) (pi_range1 rfl T.b_range (pa_cons (pv 1) pa_nil)) (blkOk_by (N := N_Book) (sc := defScope s_Book) (by decide +kernel)) (fun _ _ _ _ _ => (pg_name (i := 4) sc_Book.nd rfl (Or.inl rfl))) (fun _ _ _ _ _ => pts_nil) (fun _ _ _ _ _ => (pv 4)) (fun _ _ _ _ _ => pe_bl))
      (pss_one (ps_if (pt_cmpR op_lt (pe_callB call_lenD (by rfl) T.b_len (by decide +kernel) (pa_cons (C8.pe_c (cal_reached T) hr (by decide) rfl (pa_cons (pe_dget hu (k_fld (K := K) rfl (pv 0) rfl) pe_str (fun _ _ => rfl)) (pa_cons (pv 3) (pa_cons pe_int pa_nil)))) pa_nil)) (pv 1) (nomark _)) (pss_one ps_never) pss_nil)))))))), ?_⟩
    walk_at "sd"
    refine ⟨_, _, _, rfl, ?_⟩
    walk_at "sd"
    rw [decide_eq_true (by omega : (1 : Int) ≤ (n : Int)), decide_eq_true (by omega : (n : Int) ≤ 8)]
    walk_at "sd"
    refine ⟨t, n, _, xs, ts, rfl, h2, h3, hR, by omega, by omega, fun H1 s1 => ?_⟩
    walk_at "sd"
    refine ⟨_, _, _, s1 _ _ h1, T.i_Book.cl, T.n_Book_kept_size, by decide, _, _, _, upd_same, T.i_Book.cl, T.n_Book_kept_ties, ?_, ?_⟩
    · rw [pf_W1]
      show 1 < 1000
      decide
    rw [pf_W1, pf_B2, L2.upd_upd]
    have nt : t ≠ a := ne_of h2 h1 (fun z => by cases z)
    have keep1 : ∀ b o, b ≠ a → H b = some o → upd H1 a (.ins (CB K) dx [("kept_size", vn n), ("kept_ties", .ref t)]) b = some o := fun b o nb hb => by
      rw [upd_ne nb]
      exact s1 _ _ hb
    generalize hH2 : upd H1 a (.ins (CB K) dx [("kept_size", vn n), ("kept_ties", .ref t)]) = H2 at *
    have ha2 : H2 a = some (.ins (CB K) dx [("kept_size", vn n), ("kept_ties", .ref t)]) := by rw [← hH2]; exact upd_same
    intro d hd
    have s2 : Same H2 (upd H2 d (.dK [])) := L2.Same.new hd
    refine ⟨_, rfl, _, rfl, n, t, xs, ts, rfl, s2 _ _ (keep1 _ _ nt h2), ⟨h3.len, fun i p hp => ?_⟩, hR.ok, by omega, by omega, fun L H3 hL s3 hA => ?_⟩
    · obtain ⟨b, b1, b2⟩ := h3.at_ i p hp
      exact ⟨b, b1, s2 _ _ (keep1 _ _ (ne_of b2 h1 (fun z => by cases z)) b2)⟩
    refine ⟨s3 _ _ upd_same, [(Sum.inr "tied", .ref L)], rfl, (by show 1 ≤ 15; decide), ?_⟩
    have em : mergeK [] [((Sum.inr "tied" : Key), V.ref L)] = [((Sum.inr "tied" : Key), V.ref L)] := by kernel_rfl
    rw [em]
    have hd3 : H3 d = some (.dK []) := s3 _ _ upd_same
    have s4 : Same H2 (upd H3 d (.dK [(Sum.inr "tied", .ref L)])) := (s2.trans s3).mut hd
    walk_at "sd"
    refine ⟨_, _, _, s4 _ _ ha2, T.i_Book.cl, T.n_Book_kept_facts, (by show 2 < 1000; decide), ?_⟩
    rw [pf_B3]
    have hne : a ≠ d := ne_of_none ha2 hd
    have keep2 : ∀ b o, b ≠ a → H b = some o → upd (upd H3 d (.dK [(Sum.inr "tied", .ref L)])) a (.ins (CB K) dx (fldB n t d)) b = some o := fun b o nb hb => by
      rw [upd_ne nb]
      exact s4 _ _ (keep1 _ _ nb hb)
    have hB : BookAt K (upd (upd H3 d (.dK [(Sum.inr "tied", .ref L)])) a (.ins (CB K) dx (fldB n t d))) a n ts := by
      refine ⟨dx, t, d, L, upd_same, by rw [upd_ne hne.symm, upd_same], ?_⟩
      have go : ∀ b o, (∀ kvs, o ≠ .dK kvs) → (∀ C dx fs, o ≠ .ins C dx fs) → H3 b = some o → upd (upd H3 d (.dK [(Sum.inr "tied", .ref L)])) a (.ins (CB K) dx (fldB n t d)) b = some o := fun b o n1 n2 e => by
        rw [upd_ne (ne_of e (s3 _ _ (s2 _ _ ha2)) (n2 _ _ _)), upd_ne (ne_of e hd3 (n1 _))]
        exact e
      obtain ⟨ys, e1, e2, e3⟩ := hA.ex
      refine ⟨ys, go _ _ (fun _ z => by cases z) (fun _ _ _ z => by cases z) e1, e2, fun k hk => ?_⟩
      obtain ⟨b, l, b1, b2, b3⟩ := e3 k hk
      exact ⟨b, l, b1, go _ _ (fun _ z => by cases z) (fun _ _ _ z => by cases z) b2, b3⟩
    generalize hH5 : upd (upd H3 d (.dK [(Sum.inr "tied", .ref L)])) a (.ins (CB K) dx (fldB n t d)) = H5 at *
    refine ⟨_, rfl, _, rfl, by omega, by omega, fun D hD => ?_⟩
    refine dc_yes (j := 4) (n := n) (σ := [some (V.ref a), some (vn n), some (V.ref t), none, none]) (B := H5) (L2.Same.refl _) hD (by omega) (by show 4 < 5; decide) (fun _ => rfl) fun H6 s6 hD6 => ?_
    walk_at "sd"
    obtain ⟨dx', t', d', L', g1, g2, g3⟩ := (hB.same s6).ob
    refine q_fld g1 T.i_Book.cl T.n_Book_kept_facts fldB_facts ?_
    walk_at "sd"
    refine ⟨_, q_get (k := Sum.inr "tied") g2 vv_tied, L', D, n, ts, rfl, g3, ?_, hn1, by omega, hR.ok, hc, fun dd F H7 hdd s7 hF hlF => ?_⟩
    · simpa using hD6
    walk_at "sd"
    refine ⟨_, hF, ?_⟩
    walk_at "sd"
    have el : (yes F).length = F.length := by unfold yes; rw [List.length_map]
    rw [el, if_neg (by omega)]
    refine q H7 ((hB.same s6).same s7) fun b o nb hb => s7 _ _ (s6 _ _ (keep2 b o nb hb))
end
end SL
/-! are_homes, is_reading, is_order, is_move, are_moves, Hand. -/
namespace SL
open PySem PySem.Spec PyProof.Rows L2
section
variable {P : Program} {w : World} {K : Frg} {mg : Str → Option Value} {base : Heap}
theorem q_size {H : Hp} {N : V → Prop} {a C dx : Addr} {fs : List (Str × V)} {v : V} (h : H a = some (.ins C dx fs)) (l : fs.lookup ("kept_size" : Str) = some v) (q : N v) :
    ∃ dx' fs', H a = some (.ins C dx' fs') ∧ ∃ dx2 fs2, H a = some (.ins C dx2 fs2) ∧ ∃ v', fs2.lookup ("kept_size" : Str) = some v' ∧ N v' := ⟨_, _, h, _, _, h, _, l, q⟩
def spHomes (K : Frg) : Sp := fun vs H Q _ => ∃ (wa d ba th : Addr) (n m : Nat) (ps ts : List (Nat × Nat)) (hs : List Nat), vs = [.ref wa, .ref ba, .ref th] ∧ WebAt K H wa d n ps ∧ BookAt K H ba m ts ∧ H th = some (.tup (hs.map vn)) ∧ hs.length = m ∧
  m ≤ 100 ∧ hs.Nodup ∧ (∀ h ∈ hs, h < n) ∧ ∀ H', Same H H' → Q (.bl true) H'
theorem cal_are_homes (T : Txt K mg) : C8.Cal P w K mg base 4 "are_homes" (spHomes K) [] := by
  refine mkCal T.d_are_homes sc_are_homes (fun _ _ _ _ _ _ us hl => match us, hl with | [_, _, _], _ => rfl) (fun vs H Q E h => ?_) (fun f cdv A outer s H vs Q E hr h => ?_)
  · obtain ⟨wa, d, ba, th, n, m, ps, ts, hs, rfl, _⟩ := h
    rfl
  · have hu := hu_of hr
    obtain ⟨wa, d, ba, th, n, m, ps, ts, hs, rfl, hw, hb, ht, hl, hm, nd, hlt, q⟩ := h
    obtain ⟨dx, tw, xw, w1, w2, w3⟩ := hw.ob
    obtain ⟨dxb, tb, db, Lb, b1, b2, b3⟩ := hb.ob
    refine ⟨_, (pss_cons (ps_if (PW.pt (pw_or (pt_not (pt_val (pe_callB (k_isi (K := K) rfl) (by rfl) T.b_isinstance (by decide +kernel) (pa_cons (pv 2) (pa_cons (pe_bltn (v := .ty "tuple") (by rfl) T.b_tuple (by decide +kernel) rfl) pa_nil))))) (pw_or1 (pt_cmpR op_ne (pe_callB (k_len (K := K) rfl) (by rfl) T.b_len (by decide +kernel) (pa_cons (pv 2) pa_nil)) (pe_propT T.p_Book T.n_Book_kept_size rfl sc_Book_size (fun _ _ _ _ _ _ us hl => match us, hl with | [_], _ => rfl) hr (by decide) (pv 1) rfl) (nomark _))))) (pss_one (ps_ret pe_bl)) pss_nil)
      (pss_one (ps_ret (pe_and (pe_callB (k_all (K := K) rfl rfl) (by rfl) T.b_all (by decide +kernel) (pa_cons (pe_lc (own := [("standing", 3)]) rfl sc_are_homes.nd (k_tuple (K := K) rfl (pv 2)) (blkOk_by (N := N_are_homes) (sc := defScope s_are_homes) (by decide +kernel)) (fun _ _ _ _ _ => (pg_name (i := 3) sc_are_homes.nd rfl (Or.inl rfl))) (fun _ _ _ _ _ => pts_nil) (fun _ _ _ _ _ => (C8.pe_c (cal_is_index T) hr (by decide) rfl (pa_cons (pv 3) (pa_cons (pe_propT T.p_Web T.n_Web_kept_size rfl sc_Web_size (fun _ _ _ _ _ _ us hl => match us, hl with | [_], _ => rfl) hr (by decide) (pv 0) rfl) pa_nil))))) pa_nil)) (pe_one (pe_cmpR op_eq (pe_lenSetT (by rfl) T.b_len (by rfl) T.b_set (pv 2)) (pe_callB (k_len (K := K) rfl) (by rfl) T.b_len (by decide +kernel) (pa_cons (pv 2) pa_nil)) (nomark _))))))), ?_⟩
    walk_at "sd"
    refine q_isi (t := "tuple") (b := true) (.base (.tup ht)) (by decide +kernel) ?_
    walk_at "sd"
    refine ⟨_, Or.inr (Or.inl (Or.inl ht)), ?_⟩
    refine q_size b1 fldB_size ?_
    walk_at "sd"
    rw [List.length_map, hl]
    walk_at "sd"
    refine ⟨_, rfl, th, rfl, ⟨_, Or.inl (Or.inl ht)⟩, fun D hD => ?_⟩
    refine lcT (B := H) (xs := hs.map vn) (fun _ y _ => y = .bl true) (L2.Same.refl H) hD (Or.inl (Or.inl ht)) (by rw [List.length_map]; omega) (fun _ _ _ _ _ e => e) (fun _ => rfl) (fun i x H1 hx s1 _ N hN => ?_) fun H1 ys s1 hy hl1 hR1 => ?_
    · walk_at "sd"
      rw [List.getElem?_map] at hx
      cases hk : hs[i]? with
      | none => rw [hk] at hx; cases hx
      | some z =>
        rw [hk] at hx
        cases hx
        refine q_size (s1 _ _ w1) fldW_size ?_
        exact index_yes (by omega) (by have := hlt z (List.mem_of_getElem? hk); omega) (hN _ _ (L2.Same.refl _) rfl)
    walk_at "sd"
    refine q_all hy hR1 ?_
    walk_at "sd"
    refine ⟨_, rfl, th, hs.map fun n : Nat => (n : Int), rfl, by rw [← map_vn]; exact Or.inl (Or.inl (s1 _ _ ht)), ?_, by rw [List.length_map]; omega, ?_⟩
    · refine List.pairwise_map.mpr (nd.imp fun {a b} hab e => hab (by omega))
    walk_at "sd"
    refine ⟨_, Or.inr (Or.inl (Or.inl (s1 _ _ ht))), ?_⟩
    rw [List.length_map, List.length_map]
    walk_at "sd"
    simpa using q _ s1
def spReading (K : Frg) : Sp := fun vs H Q _ => ∃ (wa d ba tr : Addr) (n m : Nat) (ps ts : List (Nat × Nat)) (rs : List (Option Nat)), vs = [.ref wa, .ref ba, .ref tr] ∧ WebAt K H wa d n ps ∧ BookAt K H ba m ts ∧ H tr = some (.tup (rs.map vo)) ∧ rs.length = n ∧
  n ≤ 100 ∧ (∀ c, some c ∈ rs → c < m) ∧ ∀ H', Same H H' → Q (.bl true) H'
theorem cal_is_reading (T : Txt K mg) : C8.Cal P w K mg base 4 "is_reading" (spReading K) [] := by
  refine mkCal T.d_is_reading sc_is_reading (fun _ _ _ _ _ _ us hl => match us, hl with | [_, _, _], _ => rfl) (fun vs H Q E h => ?_) (fun f cdv A outer s H vs Q E hr h => ?_)
  · obtain ⟨wa, d, ba, th, n, m, ps, ts, hs, rfl, _⟩ := h
    rfl
  · have hu := hu_of hr
    obtain ⟨wa, d, ba, th, n, m, ps, ts, rs, rfl, hw, hb, ht, hl, hm, hlt, q⟩ := h
    obtain ⟨dx, tw, xw, w1, w2, w3⟩ := hw.ob
    obtain ⟨dxb, tb, db, Lb, b1, b2, b3⟩ := hb.ob
    refine ⟨_, (pss_cons (ps_if (PW.pt (pw_or (pt_not (pt_val (pe_callB (k_isi (K := K) rfl) (by rfl) T.b_isinstance (by decide +kernel) (pa_cons (pv 2) (pa_cons (pe_bltn (v := .ty "tuple") (by rfl) T.b_tuple (by decide +kernel) rfl) pa_nil))))) (pw_or1 (pt_cmpR op_ne (pe_callB (k_len (K := K) rfl) (by rfl) T.b_len (by decide +kernel) (pa_cons (pv 2) pa_nil)) (pe_propT T.p_Web T.n_Web_kept_size rfl sc_Web_size (fun _ _ _ _ _ _ us hl => match us, hl with | [_], _ => rfl) hr (by decide) (pv 0) rfl) (nomark _))))) (pss_one (ps_ret pe_bl)) pss_nil)
      (pss_one (ps_ret (pe_callB (k_all (K := K) rfl rfl) (by rfl) T.b_all (by decide +kernel) (pa_cons (pe_lc (own := [("content", 3)]) rfl sc_is_reading.nd (k_tuple (K := K) rfl (pv 2)) (blkOk_by (N := N_is_reading) (sc := defScope s_is_reading) (by decide +kernel)) (fun _ _ _ _ _ => (pg_name (i := 3) sc_is_reading.nd rfl (Or.inl rfl))) (fun _ _ _ _ _ => pts_nil) (fun _ _ _ _ _ => (pe_or (pe_cmpR op_isN (pv 3) pe_non (nomark _)) (pe_one (C8.pe_c (cal_is_index T) hr (by decide) rfl (pa_cons (pv 3) (pa_cons (pe_propT T.p_Book T.n_Book_kept_size rfl sc_Book_size (fun _ _ _ _ _ _ us hl => match us, hl with | [_], _ => rfl) hr (by decide) (pv 1) rfl) pa_nil))))))) pa_nil))))), ?_⟩
    walk_at "sd"
    refine q_isi (t := "tuple") (b := true) (.base (.tup ht)) (by decide +kernel) ?_
    walk_at "sd"
    refine ⟨_, Or.inr (Or.inl (Or.inl ht)), ?_⟩
    refine q_size w1 fldW_size ?_
    walk_at "sd"
    rw [List.length_map, hl]
    walk_at "sd"
    refine ⟨_, rfl, th, rfl, ⟨_, Or.inl (Or.inl ht)⟩, fun D hD => ?_⟩
    refine lcT (B := H) (xs := rs.map vo) (fun _ y _ => y = .bl true) (L2.Same.refl H) hD (Or.inl (Or.inl ht)) (by rw [List.length_map]; omega) (fun _ _ _ _ _ e => e) (fun _ => rfl) (fun i x H1 hx s1 _ N hN => ?_) fun H1 ys s1 hy hl1 hR1 => ?_
    · walk_at "sd"
      rw [List.getElem?_map] at hx
      cases hk : rs[i]? with
      | none => rw [hk] at hx; cases hx
      | some z =>
        rw [hk] at hx
        cases hx
        cases z with
        | none =>
          show (if V.non = V.non then _ else _)
          rw [if_pos rfl]
          exact hN _ _ (L2.Same.refl _) rfl
        | some c =>
          show (if vn c = V.non then _ else _)
          rw [if_neg (fun z => by cases z)]
          refine q_size (s1 _ _ b1) fldB_size ?_
          exact index_yes (by omega) (by have := hlt c (List.mem_of_getElem? hk); omega) (hN _ _ (L2.Same.refl _) rfl)
    walk_at "sd"
    refine q_all hy hR1 ?_
    exact q _ s1
def spOrder (K : Frg) : Sp := fun vs H Q _ => ∃ (ba : Addr) (m : Nat) (ts : List (Nat × Nat)) (o : Int), vs = [.ref ba, .int o] ∧ BookAt K H ba m ts ∧ -1 ≤ o ∧ o < m ∧ Q (.bl true) H
theorem cal_is_order (T : Txt K mg) : C8.Cal P w K mg base 3 "is_order" (spOrder K) [] := by
  refine mkCal T.d_is_order sc_is_order (fun _ _ _ _ _ _ us hl => match us, hl with | [_, _], _ => rfl) (fun vs H Q E h => ?_) (fun f cdv A outer s H vs Q E hr h => ?_)
  · obtain ⟨ba, m, ts, o, rfl, _⟩ := h
    rfl
  · have hu := hu_of hr
    obtain ⟨ba, m, ts, o, rfl, hb, h0, h1, q⟩ := h
    obtain ⟨dxb, tb, db, Lb, b1, b2, b3⟩ := hb.ob
    refine ⟨_, (pss_one (ps_ret (pe_and (C8.pe_c (cal_is_integer T) hr (by decide) rfl (pa_cons (pv 1) pa_nil)) (pe_one (pe_chain op_le op_lt (pe_gi rfl T.c_HOME) (pv 1) (pe_propT T.p_Book T.n_Book_kept_size rfl sc_Book_size (fun _ _ _ _ _ _ us hl => match us, hl with | [_], _ => rfl) hr (by decide) (pv 0) rfl)))))), ?_⟩
    walk_at "sd"
    refine ⟨_, rfl, ?_⟩
    walk_at "sd"
    rw [if_pos h0]
    refine q_size b1 fldB_size ?_
    walk_at "sd"
    rw [decide_eq_true h1]
    exact q
end
end SL
/-! is_move, are_moves. -/
namespace SL
open PySem PySem.Spec PyProof.Rows L2
/-- objects of the usual kinds -/
def Plain : HO → Prop
  | .lst _ => True
  | .tup _ => True
  | .dK _ => True
  | .ins _ _ _ => True
  | _ => False
theorem keep_plain {H : Hp} {x : Addr} {o u : HO} (hx : H x = some o) (n : ¬ Plain o) (b : Addr) (v : HO) (hv : Plain v) (h : H b = some v) : upd H x u b = some v := by
  rw [upd_ne (ne_of h hx fun e => n (e ▸ hv))]
  exact h
theorem Prs.plain {H H' : Hp} {xs : List V} {ps : List (Nat × Nat)} (h : Prs H xs ps) (k : ∀ b o, Plain o → H b = some o → H' b = some o) : Prs H' xs ps :=
  ⟨h.len, fun i p hp => let ⟨a, h1, h2⟩ := h.at_ i p hp; ⟨a, h1, k _ _ trivial h2⟩⟩
theorem AdjAt.plain {mk : List V → HO} (hm : ∀ l, Plain (mk l)) {H H' : Hp} {L : Addr} {n : Nat} {ps : List (Nat × Nat)} (h : AdjAt mk H L n ps) (k : ∀ b o, Plain o → H b = some o → H' b = some o) : AdjAt mk H' L n ps := by
  obtain ⟨xs, h1, h2, h3⟩ := h.ex
  refine ⟨xs, k _ _ trivial h1, h2, fun j hj => ?_⟩
  obtain ⟨a, l, q1, q2, q3⟩ := h3 j hj
  exact ⟨a, l, q1, k _ _ (hm _) q2, q3⟩
theorem WebAt.plain {K : Frg} {H H' : Hp} {a d : Addr} {n : Nat} {ps : List (Nat × Nat)} (h : WebAt K H a d n ps) (k : ∀ b o, Plain o → H b = some o → H' b = some o) : WebAt K H' a d n ps := by
  obtain ⟨dx, t, xs, h1, h2, h3⟩ := h.ob
  refine ⟨⟨dx, t, xs, k _ _ trivial h1, k _ _ trivial h2, h3.plain k⟩, ?_⟩
  rcases h.fc with z | ⟨L, z1, z2⟩
  · exact Or.inl (k _ _ trivial z)
  · exact Or.inr ⟨L, k _ _ trivial z1, AdjAt.plain (mk := HO.tup) (fun _ => trivial) z2 k⟩
theorem WebAt.same {K : Frg} {H H' : Hp} {a d : Addr} {n : Nat} {ps : List (Nat × Nat)} (h : WebAt K H a d n ps) (e : Same H H') : WebAt K H' a d n ps := h.plain fun b o _ z => e b o z
theorem BookAt.plain {K : Frg} {H H' : Hp} {a : Addr} {n : Nat} {ts : List (Nat × Nat)} (h : BookAt K H a n ts) (k : ∀ b o, Plain o → H b = some o → H' b = some o) : BookAt K H' a n ts := by
  obtain ⟨dx, t, d, L, h1, h2, h3⟩ := h.ob
  exact ⟨dx, t, d, L, k _ _ trivial h1, k _ _ trivial h2, AdjAt.plain (mk := HO.tup) (fun _ => trivial) h3 k⟩
/-- where the facts stand -/
theorem WebAt.dK {K : Frg} {H : Hp} {a d : Addr} {n : Nat} {ps : List (Nat × Nat)} (h : WebAt K H a d n ps) : ∃ kvs, H d = some (.dK kvs) := h.fc.elim (fun z => ⟨_, z⟩) fun ⟨_, z, _⟩ => ⟨_, z⟩
/-- what changes of the web's facts leaves the book -/
theorem BookAt.but {K : Frg} {H H' : Hp} {a ba d : Addr} {n m : Nat} {ps ts : List (Nat × Nat)} (h : BookAt K H ba m ts) (hw : WebAt K H a d n ps) (b : But (fun x => x = d) H H') : BookAt K H' ba m ts := by
  obtain ⟨kvs, hd⟩ := hw.dK
  have go : ∀ x o, (∀ kvs, o ≠ .dK kvs) → H x = some o → H' x = some o := fun x o n1 e => b x o (fun z => by subst z; rw [hd] at e; exact n1 kvs (Option.some.inj e).symm) e
  obtain ⟨dx, t, db, L, h1, h2, h3⟩ := h.ob
  refine ⟨dx, t, db, L, go _ _ (fun _ z => by cases z) h1, b _ _ (fun z => ?_) h2, ?_⟩
  · have z : db = d := z
    subst z
    rcases hw.fc with e | ⟨L2, e, _⟩
    · rw [h2] at e
      cases e
    · rw [h2] at e
      have e2 := congrArg (fun o => match o with | some (HO.dK [(k, _)]) => decide (k = (Sum.inr "tied" : Key)) | _ => false) e
      revert e2
      show ¬ (decide ((Sum.inr "tied" : Key) = (Sum.inr "tied" : Key)) = decide ((Sum.inr "beside" : Key) = (Sum.inr "tied" : Key)))
      decide +kernel
  · obtain ⟨ys, e1, e2, e3⟩ := h3.ex
    refine ⟨ys, go _ _ (fun _ z => by cases z) e1, e2, fun k hk => ?_⟩
    obtain ⟨x, l, b1, b2, b3⟩ := e3 k hk
    exact ⟨x, l, b1, go _ _ (fun _ z => by cases z) b2, b3⟩
/-- a list of bools is none of the web's -/
theorem WebAt.bools {K : Frg} {H : Hp} {a d D : Addr} {n : Nat} {ps : List (Nat × Nat)} {ys : List V} (h : WebAt K H a d n ps) (hn : 1 ≤ n) (hD : H D = some (.lst ys)) (hb : ∀ (k : Nat) y, ys[k]? = some y → y = .bl true) (zs : List V) : WebAt K (upd H D (.lst zs)) a d n ps := by
  have go : ∀ x o, (∀ l, o ≠ .lst l) → H x = some o → upd H D (.lst zs) x = some o := fun x o n1 e => by
    rw [upd_ne (ne_of e hD (n1 _))]
    exact e
  obtain ⟨dx, t, xs, h1, h2, h3⟩ := h.ob
  refine ⟨⟨dx, t, xs, go _ _ (fun _ z => by cases z) h1, go _ _ (fun _ z => by cases z) h2, ⟨h3.len, fun i p hp => ?_⟩⟩, ?_⟩
  · obtain ⟨x, x1, x2⟩ := h3.at_ i p hp
    exact ⟨x, x1, go _ _ (fun _ z => by cases z) x2⟩
  · rcases h.fc with z | ⟨L, z1, z2⟩
    · exact Or.inl (go _ _ (fun _ z => by cases z) z)
    · refine Or.inr ⟨L, go _ _ (fun _ z => by cases z) z1, ?_⟩
      obtain ⟨ws, e1, e2, e3⟩ := z2.ex
      have nL : L ≠ D := fun e => by
        subst e
        rw [hD] at e1
        have e4 : ys = ws := by simpa using e1
        obtain ⟨x, l, y1, _⟩ := e3 0 hn
        rw [← e4] at y1
        have := hb 0 _ y1
        cases this
      refine ⟨ws, by rw [upd_ne nL]; exact e1, e2, fun k hk => ?_⟩
      obtain ⟨x, l, y1, y2, y3⟩ := e3 k hk
      exact ⟨x, l, y1, go _ _ (fun _ z => by cases z) y2, y3⟩
theorem lc_itemsT {d : Addr} {o : Obj} {kvs : List (List Key × V)} {g : TG} {tt : TT} {te : TE} {vs : List Nat} {σ : L2.St} {H1 : Hp} {D : Addr} {Qd : Hp → Prop} (Pv : Nat → Hp → Prop) (h0 : Pv 0 (upd H1 D (.lst []))) (hf : ∀ i H, Pv i H → H d = some (.frz o (.dT kvs)))
    (hs : ∀ i k v q T H, kvs[i]? = some (k, v) → Pv i H → H T = none → H q = some (.tup (k.map kV)) → g (.ref T) (wipe σ vs) (upd H T (.tup [.ref q, v])) fun σ2 H2 => wipe σ2 vs = wipe σ vs ∧ tt σ2 H2 fun b H3 =>
      if b = true then te σ2 H3 fun y H4 => ∃ acc, H4 D = some (.lst acc) ∧ acc.length < sizeLine ∧ Pv (i + 1) (upd H4 D (.lst (acc ++ [y]))) else Pv (i + 1) H3) (hd : ∀ H, Pv kvs.length H → Qd H) :
    ∃ W : Nat → Nat → Hp → Prop, (∃ m, W 0 m (upd H1 D (.lst []))) ∧ ∀ i m H, W i m H →
      ((ItiT d o kvs).stop i H ∧ Qd H) ∨ ((ItiT d o kvs).go i H ∧ ∃ Nx : Hp → Prop, (∀ H', Nx H' → ∃ m', m' < m ∧ W (i + 1) m' H') ∧ ∀ x H', (ItiT d o kvs).yld i H x H' → g x (wipe σ vs) H' fun σ2 H2 => wipe σ2 vs = wipe σ vs ∧ tt σ2 H2 fun b H3 =>
        if b = true then te σ2 H3 fun y H4 => ∃ acc, H4 D = some (.lst acc) ∧ acc.length < sizeLine ∧ Nx (upd H4 D (.lst (acc ++ [y]))) else Nx H3) := by
  refine ⟨fun i m H => m = kvs.length - i ∧ i ≤ kvs.length ∧ Pv i H, ⟨_, rfl, Nat.zero_le _, h0⟩, ?_⟩
  rintro i m H ⟨rfl, hi, p⟩
  by_cases hlt : i < kvs.length
  · refine .inr ⟨⟨hf i H p, hlt⟩, Pv (i + 1), fun H' p' => ⟨kvs.length - (i + 1), by omega, rfl, hlt, p'⟩, fun x H' hx => ?_⟩
    obtain ⟨T, k, v, q, e1, e2, e3, e4, e5⟩ := hx
    rw [e2, e5]
    exact hs i k v q T H e1 p e3 e4
  · have e : i = kvs.length := by omega
    subst e
    exact .inl ⟨⟨hf _ H p, Nat.le_refl _⟩, hd H p⟩
theorem inV_vn (y : Nat) (l : List Nat) : inV (vn y) (l.map vn) = decide (y ∈ l) := by
  unfold inV
  rw [List.any_map]
  rw [Bool.eq_iff_iff, List.any_eq_true, decide_eq_true_eq]
  constructor
  · rintro ⟨x, hx, e⟩
    have : ((x : Int) == (y : Int)) = true := e
    have e2 : (x : Int) = y := by simpa using this
    rw [show y = x by omega]
    exact hx
  · intro h
    exact ⟨y, h, by show ((y : Int) == (y : Int)) = true; simp⟩
theorem flat_vn (l : List Nat) : (l.map vn).all flatV = true := by
  rw [List.all_map, List.all_eq_true]
  intro _ _
  rfl
section
variable {P : Program} {w : World} {K : Frg} {mg : Str → Option Value} {base : Heap}
def spMove (K : Frg) : Sp := fun vs H Q _ => ∃ (wa d ba k : Addr) (n m s : Nat) (o : Int) (x : Option Nat) (ps ts : List (Nat × Nat)), vs = [.ref wa, .ref ba, .ref k, vo x] ∧ WebAt K H wa d n ps ∧ BookAt K H ba m ts ∧ H k = some (.tup [vn s, .int o]) ∧
  s < n ∧ -1 ≤ o ∧ o < m ∧ (∀ y, x = some y → nbr ps s y ∧ y < n) ∧ (∀ p ∈ ps, p.1 < p.2 ∧ p.2 < n) ∧ ps.length ≤ 100 ∧ n ≤ 100 ∧ ∀ H', WebAt K H' wa d n ps → But (fun x => x = d) H H' → Q (.bl true) H'
theorem cal_is_move (T : Txt K mg) : C8.Cal P w K mg base 4 "is_move" (spMove K) [] := by
  refine mkCal T.d_is_move sc_is_move (fun _ _ _ _ _ _ us hl => match us, hl with | [_, _, _, _], _ => rfl) (fun vs H Q E h => ?_) (fun f cdv A outer s H vs Q E hr h => ?_)
  · obtain ⟨wa, d, ba, k, n, m, s, o, x, ps, ts, rfl, _⟩ := h
    rfl
  · have hu := hu_of hr
    obtain ⟨wa, d, ba, k, n, m, s, o, x, ps, ts, rfl, hw, hb, hk, hs, o0, o1, hx, hps, hl, hn, q⟩ := h
    obtain ⟨dx, tw, xw, w1, w2, w3⟩ := hw.ob
    obtain ⟨dxb, tb, db, Lb, b1, b2, b3⟩ := hb.ob
    refine ⟨_, (pss_cons (ps_if (PW.pt (pw_or (pt_not (pt_val (pe_callB (k_isi (K := K) rfl) (by rfl) T.b_isinstance (by decide +kernel) (pa_cons (pv 2) (pa_cons (pe_bltn (v := .ty "tuple") (by rfl) T.b_tuple (by decide +kernel) rfl) pa_nil))))) (pw_or (pt_cmpR op_ne (pe_callB (k_len (K := K) rfl) (by rfl) T.b_len (by decide +kernel) (pa_cons (pv 2) pa_nil)) pe_int (nomark _)) (pw_or (pt_not (pt_val (C8.pe_c (cal_is_index T) hr (by decide) rfl (pa_cons (pe_ix (k_ixT (K := K) rfl) (pv 2) pe_int (fun _ _ => rfl)) (pa_cons (pe_propT T.p_Web T.n_Web_kept_size rfl sc_Web_size (fun _ _ _ _ _ _ us hl => match us, hl with | [_], _ => rfl) hr (by decide) (pv 0) rfl) pa_nil))))) (pw_or1 (pt_not (pt_val (C8.pe_c (cal_is_order T) hr (by decide) rfl (pa_cons (pv 1) (pa_cons (pe_ix (k_ixT (K := K) rfl) (pv 2) pe_int (fun _ _ => rfl)) pa_nil)))))))))) (pss_one (ps_ret pe_bl)) pss_nil)
      (pss_one (ps_ret (pe_or (pe_cmpR op_isN (pv 3) pe_non (nomark _)) (pe_one (pe_and (C8.pe_c (cal_is_index T) hr (by decide) rfl (pa_cons (pv 3) (pa_cons (pe_propT T.p_Web T.n_Web_kept_size rfl sc_Web_size (fun _ _ _ _ _ _ us hl => match us, hl with | [_], _ => rfl) hr (by decide) (pv 0) rfl) pa_nil))) (pe_one (pe_cmpR (k_in (K := K) rfl) (pv 3) (pe_ix (k_ixL (K := K) rfl) (C8.pe_c (cal_beside_of T) hr (by decide) rfl (pa_cons (pv 0) pa_nil)) (pe_ix (k_ixT (K := K) rfl) (pv 2) pe_int (fun _ _ => rfl)) (fun _ _ => rfl)) (by rfl))))))))), ?_⟩
    walk_at "sd"
    refine q_isi (t := "tuple") (b := true) (.base (.tup hk)) (by decide +kernel) ?_
    walk_at "sd"
    refine ⟨_, Or.inr (Or.inl (Or.inl hk)), ?_⟩
    rw [if_pos (by rfl)]
    refine q_ixT (i := 0) hk rfl ?_
    refine q_size w1 fldW_size ?_
    refine index_yes (by omega) (by omega) ?_
    walk_at "sd"
    refine q_ixT (i := 1) hk rfl ?_
    refine ⟨ba, m, ts, o, rfl, hb, o0, o1, ?_⟩
    walk_at "sd"
    cases x with
    | none =>
      show (if V.non = V.non then _ else _)
      rw [if_pos rfl]
      exact q H hw (But.refl _ _)
    | some y =>
      obtain ⟨y1, y2⟩ := hx y rfl
      show (if vn y = V.non then _ else _)
      rw [if_neg (fun z => by cases z)]
      refine q_size w1 fldW_size ?_
      refine index_yes (by omega) (by omega) ?_
      walk_at "sd"
      refine ⟨wa, d, n, ps, rfl, hw, hps, hl, hn, fun L H1 hw1 hA hBt => ?_⟩
      obtain ⟨xs, a1, a2, a3⟩ := hA.ex
      obtain ⟨a, l, c1, c2, c3, c4⟩ := a3 s hs
      have ndk : k ≠ d := by
        obtain ⟨kvs, e⟩ := hw.dK
        exact ne_of hk e fun z => by cases z
      refine q_ixT (i := 0) (hBt _ _ ndk hk) rfl ?_
      refine q_ixL a1 c1 ?_
      refine ⟨a, _, rfl, Or.inr (Or.inl (Or.inl c2)), rfl, flat_vn l, ?_⟩
      show Q (V.bl (if false = true then _ else inV (vn y) (l.map vn))) H1
      rw [if_neg Bool.false_ne_true, inV_vn, decide_eq_true ((c4 y).mpr y1)]
      exact q H1 hw1 hBt
def spMoves (K : Frg) : Sp := fun vs H Q _ => ∃ (wa d ba dm : Addr) (n m : Nat) (ps ts : List (Nat × Nat)) (ms : Mvs), vs = [.ref wa, .ref ba, .ref dm] ∧ WebAt K H wa d n ps ∧ BookAt K H ba m ts ∧ H dm = some (.dT (ms.map encM)) ∧
  (∀ e ∈ ms, e.1.1 < n ∧ -1 ≤ e.1.2 ∧ e.1.2 < m ∧ ∀ t, e.2 = some t → nbr ps e.1.1 t ∧ t < n) ∧ ms.length ≤ 1000 ∧ (∀ p ∈ ps, p.1 < p.2 ∧ p.2 < n) ∧ ps.length ≤ 100 ∧ n ≤ 100 ∧ ∀ H', WebAt K H' wa d n ps → But (fun x => x = d) H H' → Q (.bl true) H'
theorem cal_are_moves (T : Txt K mg) : C8.Cal P w K mg base 5 "are_moves" (spMoves K) [] := by
  refine mkCal T.d_are_moves sc_are_moves (fun _ _ _ _ _ _ us hl => match us, hl with | [_, _, _], _ => rfl) (fun vs H Q E h => ?_) (fun f cdv A outer s H vs Q E hr h => ?_)
  · obtain ⟨wa, d, ba, dm, n, m, ps, ts, ms, rfl, _⟩ := h
    rfl
  · have hu := hu_of hr
    obtain ⟨wa, d, ba, dm, n, m, ps, ts, ms, rfl, hw, hb, hdm, hms, hml, hps, hl, hn, q⟩ := h
    refine ⟨_, (pss_one (ps_ret (pe_and (pe_callB (k_isi (K := K) rfl) (by rfl) T.b_isinstance (by decide +kernel) (pa_cons (pv 2) (pa_cons (pe_bltn (v := .ty "dict") (by rfl) T.b_dict (by decide +kernel) rfl) pa_nil))) (pe_one (pe_callB (k_all (K := K) rfl rfl) (by rfl) T.b_all (by decide +kernel) (pa_cons (pe_lock (pe_lc (own := [("key", 3), ("there", 4)]) rfl sc_are_moves.nd (pi_itemsT (pv 2)) (blkOk_by (N := N_are_moves) (sc := defScope s_are_moves) (by decide +kernel)) (fun _ _ _ _ _ => (k_gtup (K := K) (n := 2) rfl rfl (pgs_cons (pg_name (i := 3) sc_are_moves.nd rfl (Or.inl rfl)) (pgs_cons (pg_name (i := 4) sc_are_moves.nd rfl (Or.inl rfl)) pgs_nil)))) (fun _ _ _ _ _ => pts_nil) (fun _ _ _ _ _ => (C8.pe_c (cal_is_move T) hr (by decide) rfl (pa_cons (pv 0) (pa_cons (pv 1) (pa_cons (pv 3) (pa_cons (pv 4) pa_nil)))))))) pa_nil)))))), ?_⟩
    walk_at "sd"
    refine q_isi (t := "dict") (b := true) (.base (.dT hdm)) (by decide +kernel) ?_
    walk_at "sd"
    refine ⟨dm, _, hdm, trivial, fun od => ?_⟩
    have nP : ¬ Plain (HO.dT (ms.map encM)) := fun z => z
    have k1 := keep_plain (u := .frz od (.dT (ms.map encM))) hdm nP
    refine ⟨_, rfl, dm, od, _, rfl, upd_same, fun D hD => ?_⟩
    obtain ⟨kd, hkd⟩ := hw.dK
    have nmd : dm ≠ d := ne_of hdm hkd fun z => by cases z
    have nDd : D ≠ d := fun e => by
      rw [e, k1 _ (.dK kd) trivial hkd] at hD
      cases hD
    have nDm : D ≠ dm := fun e => by rw [e, upd_same] at hD; cases hD
    generalize hH1 : upd H dm (.frz od (.dT (ms.map encM))) = H1 at *
    have hm1 : H1 dm = some (.frz od (.dT (ms.map encM))) := by rw [← hH1]; exact upd_same
    have nw : WebAt K H1 wa d n ps := hw.plain k1
    have nb : BookAt K H1 ba m ts := hb.plain k1
    refine lc_itemsT (fun i H2 => But (fun x => x = d) H1 H2 ∧ WebAt K H2 wa d n ps ∧ ∃ ys, H2 D = some (.lst ys) ∧ ys.length = i ∧ ∀ (k : Nat) y, ys[k]? = some y → y = .bl true)
      ⟨But.new hD, nw.same (L2.Same.new hD), [], upd_same, rfl, fun k y e => by simp at e⟩ (fun i H2 p => p.1 _ _ nmd hm1) (fun i k v q T H2 hi p hT hq => ?_) fun H2 p => ?_
    · obtain ⟨p1, p2, ys, p3, p4, p5⟩ := p
      rw [List.getElem?_map] at hi
      cases he : ms[i]? with
      | none => rw [he] at hi; cases hi
      | some e =>
        rw [he] at hi
        cases hi
        obtain ⟨x1, x2, x3, x4⟩ := hms e (List.mem_of_getElem? he)
        have sT : Same H2 (upd H2 T (.tup [.ref q, vo e.2])) := L2.Same.new hT
        refine g_pair upd_same ?_
        refine ⟨rfl, ?_⟩
        walk_at "sd"
        refine ⟨wa, d, ba, q, n, m, e.1.1, e.1.2, e.2, ps, ts, rfl, p2.same sT, (nb.but nw p1).same sT, sT _ _ hq, x1, x2, x3, x4, hps, hl, hn, fun H3 hw3 b3 => ?_⟩
        refine ⟨ys, b3 _ _ nDd (sT _ _ p3), szt (by have := (List.getElem?_eq_some_iff.mp he).1; omega), ?_, hw3.bools (by omega) (b3 _ _ nDd (sT _ _ p3)) p5 _, _, upd_same, by rw [List.length_append, p4]; rfl, fun j y e => ?_⟩
        · have := p1.trans ((But.of_same sT).trans b3)
          intro b o nb' hb'
          rw [upd_ne (fun e => by rw [e, hD] at hb'; cases hb')]
          exact this b o nb' hb'
        · by_cases hj : j < ys.length
          · rw [List.getElem?_append_left hj] at e
            exact p5 j y e
          · rw [List.getElem?_append_right (by omega)] at e
            by_cases h0 : j - ys.length = 0
            · rw [h0] at e
              cases e
              rfl
            · rw [List.getElem?_eq_none (by simp; omega)] at e
              cases e
    · obtain ⟨p1, p2, ys, p3, p4, p5⟩ := p
      have hm2 := p1 _ _ nmd hm1
      refine ⟨hm2, ?_⟩
      refine q_all (by rw [upd_ne nDm]; exact p3) p5 (q _ (p2.plain (keep_plain hm2 fun z => z)) fun b o nb' hb' => ?_)
      by_cases hbm : b = dm
      · subst hbm
        rw [upd_same, ← hb', hdm]
      · rw [upd_ne hbm]
        refine p1 b o nb' ?_
        rw [← hH1, upd_ne hbm]
        exact hb'
end
end SL
/-! Hand. -/
namespace SL
open PySem PySem.Spec PyProof.Rows L2
theorem dp_all {K : Frg} {H : Hp} : ∀ l : List Int, DpAll K H (l.map V.int) (l.map PyData.int)
  | [] => .nil
  | i :: r => .cons (.int i) (dp_all r)
theorem dp_ints {K : Frg} {H : Hp} {p : Addr} {l : List Int} (h : H p = some (.lst (l.map V.int))) : Dp K H (.ref p) (.list (l.map PyData.int)) := .lst (Or.inl (Or.inl h)) (dp_all l)
theorem lay_ints : ∀ l : List Int, PyData.canLayAll0 (l.map PyData.int) = true
  | [] => rfl
  | i :: r => by
    rw [List.map_cons]
    simp [PyData.canLayAll0, PyData.canLay0, lay_ints r]
theorem depth_ints : ∀ l : List Int, PyData.depthAll (l.map PyData.int) ≤ 1
  | [] => by simp [PyData.depthAll]
  | i :: r => by
    have := depth_ints r
    rw [List.map_cons]
    simp [PyData.depthAll, PyData.depth]
    omega
theorem shaped_ints (l : List Int) : SeqAt.shaped (.list (l.map PyData.int)) = true := by
  have := depth_ints l
  unfold SeqAt.shaped
  rw [Bool.and_eq_true]
  refine ⟨by simp [PyData.canLay0, lay_ints l], decide_eq_true ?_⟩
  simp only [PyData.depth]
  omega
theorem eqv_ints (l : List Int) : PyData.eqv (.list (l.map PyData.int)) (.list (l.map PyData.int)) = true := SeqAt.eqv_refl _ (by simp [PyData.canLay0, lay_ints l])
theorem pf_H1 {x : V} : putF ("kept_web" : Str) x [] = [(("kept_web" : Str), x)] := by kernel_rfl
theorem pf_H2 {x y : V} : putF ("kept_book" : Str) y [(("kept_web" : Str), x)] = [(("kept_web" : Str), x), ("kept_book", y)] := by kernel_rfl
theorem pf_H3 {x y z : V} : putF ("kept_reading" : Str) z [(("kept_web" : Str), x), ("kept_book", y)] = [(("kept_web" : Str), x), ("kept_book", y), ("kept_reading", z)] := by kernel_rfl
theorem pf_H4 {x y z u : V} : putF ("kept_homes" : Str) u [(("kept_web" : Str), x), ("kept_book", y), ("kept_reading", z)] = [(("kept_web" : Str), x), ("kept_book", y), ("kept_reading", z), ("kept_homes", u)] := by kernel_rfl
theorem pf_H5 {x y z u v : V} : putF ("kept_moves" : Str) v [(("kept_web" : Str), x), ("kept_book", y), ("kept_reading", z), ("kept_homes", u)] = [(("kept_web" : Str), x), ("kept_book", y), ("kept_reading", z), ("kept_homes", u), ("kept_moves", v)] := by kernel_rfl
theorem pf_H6 {wa ba tr th dm df : Addr} : putF ("kept_facts" : Str) (.ref df) [(("kept_web" : Str), .ref wa), ("kept_book", .ref ba), ("kept_reading", .ref tr), ("kept_homes", .ref th), ("kept_moves", .ref dm)] = fldH wa ba tr th dm df := by kernel_rfl
section
variable {P : Program} {w : World} {K : Frg} {mg : Str → Option Value} {base : Heap}
def spHand (K : Frg) : Sp := fun vs H Q _ => ∃ (a dx wa d ba tr th dm : Addr) (W : Wd), vs = [.ref a, .ref wa, .ref ba, .ref tr, .ref th, .ref dm] ∧ H a = some (.ins (CH K) dx []) ∧ WebAt K H wa d W.size W.pushes ∧ BookAt K H ba W.many W.ties ∧
  H tr = some (.tup (W.reading.map vo)) ∧ H th = some (.tup (W.homes.map vn)) ∧ H dm = some (.dT (W.moves.map encM)) ∧ W.Ok ∧
  ∀ df H', HandAt K H' a df W → H' df = some (.dK []) → H df = none → (∀ b o, b ≠ a → b ≠ d → H b = some o → H' b = some o) → Q .non H'
theorem mak_Hand (T : Txt K mg) : C8.Mak P w K mg base 6 "Hand" (CH K) (spHand K) [] := by
  refine mkMak T.i_Hand sc_Hand (fun _ _ _ _ _ _ us hl => match us, hl with | [_, _, _, _, _, _], _ => rfl) (fun vs H Q E h => ?_) (fun f cdv A outer s H vs Q E hr h => ?_)
  · obtain ⟨a, dx, wa, d, ba, tr, th, dm, W, rfl, _⟩ := h
    rfl
  · have hu := hu_of hr
    obtain ⟨a, dx, wa, d, ba, tr, th, dm, W, rfl, ha, hw, hb, ht, hh, hdm, ok, q⟩ := h
    refine ⟨_, (pss_cons (ps_if (pt_not (pt_val (C8.pe_c (cal_is_reading T) hr (by decide) rfl (pa_cons (pv 1) (pa_cons (pv 2) (pa_cons (pv 3) pa_nil)))))) (pss_one ps_never) pss_nil)
      (pss_cons (ps_if (PW.pt (pw_or (pt_not (pt_val (C8.pe_c (cal_are_homes T) hr (by decide) rfl (pa_cons (pv 1) (pa_cons (pv 2) (pa_cons (pv 4) pa_nil)))))) (pw_or1 (pt_cmpR (k_neD (K := K) rfl hr.units) (pe_lc (own := [("home", 6)]) rfl sc_Hand.nd (k_tuple (K := K) rfl (pv 4)) (blkOk_by (N := N_Hand) (sc := defScope s_Hand) (by decide +kernel)) (fun _ _ _ _ _ => (pg_name (i := 6) sc_Hand.nd rfl (Or.inl rfl))) (fun _ _ _ _ _ => pts_nil) (fun _ _ _ _ _ => (pe_ix (k_ixT (K := K) rfl) (pv 3) (pv 6) (fun _ _ => rfl)))) (pe_listRg rfl (by rfl) T.b_list (prg_1 (by rfl) T.b_range (pe_propT T.p_Book T.n_Book_kept_size rfl sc_Book_size (fun _ _ _ _ _ _ us hl => match us, hl with | [_], _ => rfl) hr (by decide) (pv 2) rfl))) (nomark _))))) (pss_one ps_never) pss_nil)
      (pss_cons (ps_if (pt_not (pt_val (C8.pe_c (cal_are_moves T) hr (by decide) rfl (pa_cons (pv 1) (pa_cons (pv 2) (pa_cons (pv 5) pa_nil)))))) (pss_one ps_never) pss_nil)
      (pss_cons (ps_fld (pv 0) (pv 1) rfl)
      (pss_cons (ps_fld (pv 0) (pv 2) rfl)
      (pss_cons (ps_fld (pv 0) (pv 3) rfl)
      (pss_cons (ps_fld (pv 0) (pv 4) rfl)
      (pss_cons (ps_fld (pv 0) (pe_callTy (call_dictT hr.units) (by rfl) T.b_dict (by decide +kernel) (pa_cons (pv 5) pa_nil)) rfl)
      (pss_one (ps_fld (pv 0) pe_dnewK rfl)))))))))), ?_⟩
    walk_at "sd"
    refine ⟨wa, d, ba, tr, W.size, W.many, W.pushes, W.ties, W.reading, rfl, hw, hb, ht, ok.rdL, by have := ok.size12; omega, fun c hc => ok.rd_mem hc, fun H1 s1 => ?_⟩
    walk_at "sd"
    refine ⟨wa, d, ba, th, W.size, W.many, W.pushes, W.ties, W.homes, rfl, hw.same s1, hb.same s1, s1 _ _ hh, ok.hmL, by have := ok.many8; omega, ok.hmN, ok.hmS, fun H2 s2 => ?_⟩
    walk_at "sd"
    have s02 := s1.trans s2
    refine ⟨_, rfl, th, rfl, ⟨_, Or.inl (Or.inl (s02 _ _ hh))⟩, fun D hD => ?_⟩
    refine lcT (B := H2) (xs := W.homes.map vn) (fun i y _ => y = vn i) (L2.Same.refl _) hD (Or.inl (Or.inl (s02 _ _ hh))) (by rw [List.length_map, ok.hmL]; have := ok.many8; omega) (fun _ _ _ _ _ e => e) (fun _ => rfl) (fun i x H3 hx s3 _ N hN => ?_) fun H3 ys s3 hy hl3 hR3 => ?_
    · walk_at "sd"
      rw [List.getElem?_map] at hx
      cases hk : W.homes[i]? with
      | none => rw [hk] at hx; cases hx
      | some z =>
        rw [hk] at hx
        cases hx
        have e1 := ok.hmR i z hk
        have e2 := Wd.rd_get ok (ok.hmS z (List.mem_of_getElem? hk))
        refine q_ixT (v := vn i) (s3 _ _ (s02 _ _ ht)) (by rw [List.getElem?_map, e2, e1]; rfl) ?_
        exact hN _ _ (L2.Same.refl _) rfl
    have s03 := s02.trans s3
    walk_at "sd"
    obtain ⟨dxb, tb, db, Lb, b1, b2, b3⟩ := (hb.same s03).ob
    refine ⟨_, rfl, ba, dxb, _, rfl, b1, ba, dxb, _, _, rfl, b1, fldB_size, W.many, rfl, RgOk.of_le (by decide) (by have := ok.many8; omega) (by decide) (by omega), fun u hu0 => ?_⟩
    have eys : ys = ((List.range W.many).map fun n : Nat => (n : Int)).map V.int := by
      rw [← map_vn]
      exact list_of_at (by rw [hl3, List.length_map, ok.hmL]) hR3
    have erg : rgV 0 (W.many : Int) = ((List.range W.many).map fun n : Nat => (n : Int)).map V.int := by
      unfold rgV
      rw [List.map_map]
      have e : ((W.many : Int) - 0).toNat = W.many := by omega
      rw [e]
      refine List.map_congr_left fun i _ => ?_
      simp
    have s34 : Same H3 (upd H3 u (.lst (rgV 0 (W.many : Int)))) := L2.Same.new hu0
    refine ⟨_, _, dp_ints (l := (List.range W.many).map fun n : Nat => (n : Int)) (by rw [s34 _ _ hy, eys]), dp_ints (l := (List.range W.many).map fun n : Nat => (n : Int)) (by rw [upd_same, erg]), shaped_ints _, shaped_ints _, ?_⟩
    rw [eqv_ints]
    walk_at "sd"
    have s04 := s03.trans s34
    generalize upd H3 u (.lst (rgV 0 (W.many : Int))) = H4 at s04 ⊢
    refine ⟨wa, d, ba, dm, W.size, W.many, W.pushes, W.ties, W.moves, rfl, hw.same s04, hb.same s04, s04 _ _ hdm, ok.mvK, by have := ok.mv108; omega, ok.push, by have := ok.push66; omega, by have := ok.size12; omega, fun H5 hw5 b5 => ?_⟩
    walk_at "sd"
    obtain ⟨kvs, hd⟩ := hw.dK
    have nad : a ≠ d := ne_of ha hd fun z => by cases z
    have ha5 := b5 _ _ nad (s04 _ _ ha)
    have hdm5 := b5 _ _ (ne_of hdm hd fun z => by cases z) (s04 _ _ hdm)
    refine ⟨_, _, _, ha5, T.i_Hand.cl, T.n_Hand_kept_web, by decide, _, _, _, upd_same, T.i_Hand.cl, T.n_Hand_kept_book, ?_, _, _, _, upd_same, T.i_Hand.cl, T.n_Hand_kept_reading, ?_, _, _, _, upd_same, T.i_Hand.cl, T.n_Hand_kept_homes, ?_, ?_⟩
    · rw [pf_H1]
      show 1 < 1000
      decide
    · rw [pf_H1, pf_H2]
      show 2 < 1000
      decide
    · rw [pf_H1, pf_H2, pf_H3]
      show 3 < 1000
      decide
    rw [pf_H1, pf_H2, pf_H3, pf_H4, L2.upd_upd, L2.upd_upd, L2.upd_upd]
    have ndm : dm ≠ a := ne_of hdm ha fun z => by cases z
    refine ⟨dm, _, rfl, by rw [upd_ne ndm]; exact hdm5, hash_nodup P w ok.mvN (fun e he => ?_), fun v hv => ?_⟩
    · have := ok.mvK e he
      have := ok.size12
      have := ok.many8
      omega
    have nva : a ≠ v := fun e => by rw [← e, upd_same] at hv; cases hv
    have hv5 : H5 v = none := by rw [upd_ne nva.symm] at hv; exact hv
    refine ⟨_, _, _, by rw [upd_ne nva]; exact upd_same, T.i_Hand.cl, T.n_Hand_kept_moves, (by show 4 < 1000; decide), ?_⟩
    rw [pf_H5]
    intro df hdf
    have nfa : a ≠ df := fun e => by rw [← e, upd_same] at hdf; cases hdf
    have nfv : v ≠ df := fun e => by rw [← e, upd_ne nva.symm, upd_same] at hdf; cases hdf
    have hdf5 : H5 df = none := by rw [upd_ne nfa.symm, upd_ne nfv.symm, upd_ne nfa.symm] at hdf; exact hdf
    refine ⟨_, _, _, by rw [upd_ne nfa]; exact upd_same, T.i_Hand.cl, T.n_Hand_kept_facts, (by show 5 < 1000; decide), ?_⟩
    rw [pf_H6]
    have kp : ∀ b o, b ≠ a → H5 b = some o → upd (upd (upd (upd (upd H5 a (.ins (CH K) dx [("kept_web", .ref wa), ("kept_book", .ref ba), ("kept_reading", .ref tr), ("kept_homes", .ref th)])) v (.dT (W.moves.map encM))) a
        (.ins (CH K) dx [("kept_web", .ref wa), ("kept_book", .ref ba), ("kept_reading", .ref tr), ("kept_homes", .ref th), ("kept_moves", .ref v)])) df (.dK [])) a (.ins (CH K) dx (fldH wa ba tr th v df)) b = some o := fun b o nb hb' => by
      rw [upd_ne nb, upd_ne (fun e => by rw [e, hdf5] at hb'; cases hb'), upd_ne nb, upd_ne (fun e => by rw [e, hv5] at hb'; cases hb'), upd_ne nb]
      exact hb'
    have k0 : ∀ b o, b ≠ a → b ≠ d → H b = some o → upd (upd (upd (upd (upd H5 a (.ins (CH K) dx [("kept_web", .ref wa), ("kept_book", .ref ba), ("kept_reading", .ref tr), ("kept_homes", .ref th)])) v (.dT (W.moves.map encM))) a
        (.ins (CH K) dx [("kept_web", .ref wa), ("kept_book", .ref ba), ("kept_reading", .ref tr), ("kept_homes", .ref th), ("kept_moves", .ref v)])) df (.dK [])) a (.ins (CH K) dx (fldH wa ba tr th v df)) b = some o := fun b o nb nd hb' => kp b o nb (b5 _ _ nd (s04 _ _ hb'))
    have hb5 : BookAt K H5 ba W.many W.ties := (hb.same s04).but (hw.same s04) b5
    refine q df _ ⟨dx, wa, ba, tr, th, v, upd_same, ?_, k0 _ _ (ne_of ht ha fun z => by cases z) (ne_of ht hd fun z => by cases z) ht, k0 _ _ (ne_of hh ha fun z => by cases z) (ne_of hh hd fun z => by cases z) hh, by rw [upd_ne nva.symm, upd_ne nfv, upd_ne nva.symm, upd_same]⟩
      (by rw [upd_ne nfa.symm, upd_same]) ?_ k0
    · obtain ⟨e1, e2, e3, e4, g1, g2, g3⟩ := hb5.ob
      have nba : ba ≠ a := by
        rintro rfl
        obtain ⟨z1, z2, z3, z4, z5, _, _⟩ := hb.ob
        rw [ha] at z5
        have := congrArg (fun o => match o with | some (HO.ins _ _ l) => l.length | _ => 0) z5
        simp [fldB] at this
      have kp2 : ∀ b o, (∀ C x fs, o ≠ .ins C x fs) → H5 b = some o → _ := fun b o n1 e => kp b o (ne_of e ha5 (n1 _ _ _)) e
      refine ⟨e1, e2, e3, e4, kp _ _ nba g1, kp2 _ _ (fun _ _ _ z => by cases z) g2, ?_⟩
      obtain ⟨ws, w1, w2, w3⟩ := g3.ex
      refine ⟨ws, kp2 _ _ (fun _ _ _ z => by cases z) w1, w2, fun k hk => ?_⟩
      obtain ⟨x, l, y1, y2, y3⟩ := w3 k hk
      exact ⟨x, l, y1, kp2 _ _ (fun _ _ _ z => by cases z) y2, y3⟩
    · cases e : H df with
      | none => rfl
      | some o =>
        by_cases e2 : df = d
        · subst e2
          obtain ⟨k2, hk2⟩ := hw5.dK
          rw [hdf5] at hk2
          cases hk2
        · have := b5 _ _ e2 (s04 _ _ e)
          rw [hdf5] at this
          cases this
end
end SL
/-! walked, order_moments. -/
namespace SL
open PySem PySem.Spec PyProof.Rows L2
theorem q_mv {H : Hp} {dm u : Addr} {ms : Mvs} {s : Nat} {o : Int} (h : H dm = some (.dT (ms.map encM))) (hu : H u = some (.tup [vn s, .int o])) : DGet H dm (.ref u) ((mvL ms (s, o)).map vo) := by
  have z := DGet.t (k := mkey s o) h (show H u = some (.tup ((mkey s o).map kV)) from hu)
  rw [valV_M] at z
  exact z
theorem inV_rd (x : Option Nat) (cs : List Nat) : inV (vo x) (cs.map vn) = true ↔ ∃ c, x = some c ∧ c ∈ cs := by
  cases x with
  | none =>
    constructor
    · intro h
      unfold inV at h
      rw [List.any_map, List.any_eq_true] at h
      obtain ⟨c, _, e⟩ := h
      cases e
    · rintro ⟨c, e, _⟩
      cases e
  | some y =>
    show inV (vn y) (cs.map vn) = true ↔ _
    rw [inV_vn, decide_eq_true_eq]
    constructor
    · intro h
      exact ⟨y, rfl, h⟩
    · rintro ⟨c, e, h⟩
      cases e
      exact h
/-- what a walk hands back -/
structure WalkRes (W : Wd) (o : Int) (cs : List Nat) (s : Nat) (found : List Nat) (b : Bool) : Prop where
  yes : b = true → IsPath W o cs found ∧ found.head? = some s
  no : b = false → ∀ p, IsPath W o cs p → p.head? ≠ some s
  lt : ∀ x ∈ found, x < W.size
theorem Seg.res_yes {W : Wd} {o : Int} {cs : List Nat} {s here : Nat} {F : List Nat} (h : Seg W o cs s F here) (hr : ∃ c, W.rd here = some c ∧ c ∈ cs) (hm : W.mv here o = some none) (hl : ∀ x ∈ F, x < W.size) (hh : here < W.size) : WalkRes W o cs s (F ++ [here]) true :=
  ⟨fun _ => h.last hr hm, (fun e => by cases e), fun x hx => by
    rcases List.mem_append.mp hx with hx | hx
    · exact hl x hx
    · rw [List.mem_singleton.mp hx]
      exact hh⟩
theorem Seg.res_no {W : Wd} {o : Int} {cs : List Nat} {s here : Nat} {F : List Nat} (h : Seg W o cs s F here) (b : (¬ ∃ c, W.rd here = some c ∧ c ∈ cs) ∨ here ∈ F ∨ W.mv here o = none) (hl : ∀ x ∈ F, x < W.size) : WalkRes W o cs s F false :=
  ⟨(fun e => by cases e), fun _ p hp => h.stop b p hp, hl⟩
theorem mv_lt {W : Wd} (ok : W.Ok) {s t : Nat} {o : Int} (h : W.mv s o = some (some t)) : t < W.size := ((ok.mvK _ (mvL_mem h)).2.2.2 t rfl).2
section
variable {P : Program} {w : World} {K : Frg} {mg : Str → Option Value} {base : Heap}
def spWalked (K : Frg) : Sp := fun vs H Q _ => ∃ (a df ct : Addr) (W : Wd) (s : Nat) (o : Int) (cs : List Nat), vs = [.ref a, vn s, .int o, .ref ct] ∧ HandAt K H a df W ∧ W.Ok ∧ s < W.size ∧ H ct = some (.tup (cs.map vn)) ∧
  ∀ t L found b H', H t = none → H L = none → Same H H' → H' t = some (.tup [.ref L, .bl b]) → H' L = some (.lst (found.map vn)) → WalkRes W o cs s found b → Q (.ref t) H'
theorem cal_walked (T : Txt K mg) : C8.Cal P w K mg base 1 "walked" (spWalked K) [] := by
  refine mkCal T.d_walked sc_walked (fun _ _ _ _ _ _ us hl => match us, hl with | [_, _, _, _], _ => rfl) (fun vs H Q E h => ?_) (fun f cdv A outer s H vs Q E hr h => ?_)
  · obtain ⟨a, df, ct, W, s, o, cs, rfl, _⟩ := h
    rfl
  · have hu := hu_of hr
    obtain ⟨a, df, ct, W, s, o, cs, rfl, hA, ok, hs, hc, q⟩ := h
    obtain ⟨dx, wa, ba, tr, th, dm, a1, a2, a3, a4, a5⟩ := hA.ob
    refine ⟨_, (pss_cons (ps_set (i := 4) sc_walked.nd rfl (Or.inl rfl) (pe_lst pa_nil))
      (pss_cons (ps_set (i := 5) sc_walked.nd rfl (Or.inl rfl) pe_dnewK)
      (pss_cons (ps_set (i := 6) sc_walked.nd rfl (Or.inl rfl) (pv 1))
      (pss_cons (ps_while PassesOwn.never (PW.pt (pw_and (pt_cmpR (k_in (K := K) rfl) (pe_ix (k_ixT (K := K) rfl) (k_fld (K := K) rfl (pv 0) rfl) (pv 6) (fun _ _ => rfl)) (pv 3) (by rfl)) (pw_and (pt_cmp (pc_dnotin hu (pv 6) (pv 5))) (pw_and1 (pt_cmp (pc_din hu (pe_tup (pa_cons (pv 6) (pa_cons (pv 2) pa_nil))) (k_fld (K := K) rfl (pv 0) rfl))))))) (pss_cons (ps_expr (k_bm (K := K) rfl PySem.F.plainAttrs_list PySem.F.slot_list_append PySem.F.type_list_append mt_append (pv 4) (pa_cons (pv 6) pa_nil)))
        (pss_cons (ps_dput hu (pv 5) (pv 6) pe_bl rfl)
        (pss_cons (ps_set (i := 7) sc_walked.nd rfl (Or.inl rfl) (pe_dget hu (k_fld (K := K) rfl (pv 0) rfl) (pe_tup (pa_cons (pv 6) (pa_cons (pv 2) pa_nil))) (fun _ _ => rfl)))
        (pss_cons (ps_if (pt_cmpR op_isN (pv 7) pe_non (nomark _)) (pss_one (ps_ret (pe_tup (pa_cons (pv 4) (pa_cons pe_bl pa_nil))))) pss_nil)
        (pss_one (ps_set (i := 6) sc_walked.nd rfl (Or.inl rfl) (pv 7))))))))
      (pss_one (ps_ret (pe_tup (pa_cons (pv 4) (pa_cons pe_bl pa_nil))))))))), ?_⟩
    walk_at "sd"
    refine ⟨by decide, fun L hL => ?_⟩
    intro M hM
    have nLM : L ≠ M := fun e => by rw [← e, upd_same] at hM; cases hM
    have hM0 : H M = none := by rw [upd_ne nLM.symm] at hM; exact hM
    walk_at "sd"
    refine ⟨fun m σ H1 => ∃ (F : List Nat) (here : Nat) (o7 : Option V), σ = [some (V.ref a), some (vn s), some (V.int o), some (V.ref ct), some (V.ref L), some (V.ref M), some (vn here), o7] ∧ Same H H1 ∧ H1 L = some (.lst (F.map vn)) ∧ H1 M = some (.dK (yes F)) ∧
      here < W.size ∧ F.Nodup ∧ (∀ x ∈ F, x < W.size) ∧ Seg W o cs s F here ∧ m = W.size - F.length,
      ⟨W.size, [], s, none, rfl, (L2.Same.new hL).mut hM0, by rw [upd_ne nLM]; exact upd_same, upd_same, hs, List.nodup_nil, by simp, Seg.nil W o cs s, rfl⟩, fun m σ H1 w1 => ?_⟩
    obtain ⟨F, here, o7, rfl, s1, h1, h2, hh, nd, hF, hS, hm⟩ := w1
    have lF : F.length ≤ 12 := Nat.le_trans (nodup_lt nd hF) ok.size12
    have stop : ((¬ ∃ c, W.rd here = some c ∧ c ∈ cs) ∨ here ∈ F ∨ W.mv here o = none) → ∀ H2, Same H1 H2 → ∀ t, H2 t = none → Q (.ref t) (upd H2 t (.tup [.ref L, .bl false])) := fun b H2 s2 t ht => by
      have st := L2.Same.new (o := .tup [.ref L, .bl false]) ht
      exact q t L F false _ ((s1.trans s2).fr ht) hL ((s1.trans s2).trans st) upd_same (st _ _ (s2 _ _ h1)) (hS.res_no b hF)
    walk_at "sd"
    refine q_fld (s1 _ _ a1) T.i_Hand.cl T.n_Hand_kept_reading fldH_reading ?_
    refine q_ixT (v := vo (W.rd here)) (s1 _ _ a3) (by rw [List.getElem?_map, Wd.rd_get ok hh]; rfl) ?_
    refine ⟨ct, _, rfl, Or.inr (Or.inl (Or.inl (s1 _ _ hc))), vo_flat _, flat_vn cs, ?_⟩
    walk_at "sd"
    by_cases hrd : ∃ c, W.rd here = some c ∧ c ∈ cs
    case neg =>
      rw [if_neg (fun z => hrd ((inV_rd _ _).mp z))]
      exact ⟨by decide, fun t ht => stop (Or.inl hrd) H1 (L2.Same.refl _) t ht⟩
    rw [if_pos ((inV_rd _ _).mpr hrd)]
    obtain ⟨g, g1, g2⟩ := yes_get h2 here
    refine ⟨g, g1, ?_⟩
    rw [g2]
    by_cases hF2 : here ∈ F
    · rw [decide_eq_true hF2]
      walk_at "sd"
      exact ⟨by decide, fun t ht => stop (Or.inr (Or.inl hF2)) H1 (L2.Same.refl _) t ht⟩
    rw [decide_eq_false hF2]
    walk_at "sd"
    refine ⟨by decide, fun u hu0 => ?_⟩
    have su : Same H1 (upd H1 u (.tup [vn here, .int o])) := L2.Same.new hu0
    refine q_fld (su _ _ (s1 _ _ a1)) T.i_Hand.cl T.n_Hand_kept_moves fldH_moves ?_
    walk_at "sd"
    refine ⟨_, q_mv (su _ _ (s1 _ _ a5)) upd_same, ?_⟩
    cases hmv : W.mv here o with
    | none =>
      rw [show mvL W.moves (here, o) = none from hmv]
      exact ⟨by decide, fun t ht => stop (Or.inr (Or.inr hmv)) _ su t ht⟩
    | some there =>
      rw [show mvL W.moves (here, o) = some there from hmv]
      refine iteT ?_
      refine ⟨fun σ' H' => ∃ m', m' < m ∧ ∃ (F : List Nat) (here : Nat) (o7 : Option V), σ' = [some (V.ref a), some (vn s), some (V.int o), some (V.ref ct), some (V.ref L), some (V.ref M), some (vn here), o7] ∧ Same H H' ∧ H' L = some (.lst (F.map vn)) ∧ H' M = some (.dK (yes F)) ∧
        here < W.size ∧ F.Nodup ∧ (∀ x ∈ F, x < W.size) ∧ Seg W o cs s F here ∧ m' = W.size - F.length, fun σ' H' z => z, ?_⟩
      refine q_app (y := vn here) (su _ _ h1) (by rw [List.length_map]; omega) ?_
      refine q_put (k := Sum.inl (here : Int)) (kvs := yes F) (by rw [upd_ne nLM.symm]; exact su _ _ h2) (by unfold yes; rw [List.length_map]; omega) (yes_put hF2) ?_
      have s3 : Same H (upd (upd (upd H1 u (.tup [vn here, .int o])) L (.lst (F.map vn ++ [vn here]))) M (.dK (yes (F ++ [here])))) := ((s1.trans su).mut hL).mut hM0
      have hL3 : upd (upd (upd H1 u (.tup [vn here, .int o])) L (.lst (F.map vn ++ [vn here]))) M (.dK (yes (F ++ [here]))) L = some (.lst ((F ++ [here]).map vn)) := by rw [upd_ne nLM, upd_same, List.map_append]; rfl
      have hM3 : upd (upd (upd H1 u (.tup [vn here, .int o])) L (.lst (F.map vn ++ [vn here]))) M (.dK (yes (F ++ [here]))) M = some (.dK (yes (F ++ [here]))) := upd_same
      generalize upd (upd (upd H1 u (.tup [vn here, .int o])) L (.lst (F.map vn ++ [vn here]))) M (.dK (yes (F ++ [here]))) = H3 at s3 hL3 hM3 ⊢
      refine q_fld (s3 _ _ a1) T.i_Hand.cl T.n_Hand_kept_moves fldH_moves ?_
      refine ⟨by decide, fun u2 hu2 => ?_⟩
      have su2 : Same H3 (upd H3 u2 (.tup [vn here, .int o])) := L2.Same.new hu2
      walk_at "sd"
      have z := q_mv (su2 _ _ (s3 _ _ a5)) (upd_same (a := u2) (o := .tup [vn here, .int o]) (H := H3))
      rw [show mvL W.moves (here, o) = some there from hmv] at z
      refine ⟨_, z, ?_⟩
      have s4 := s3.trans su2
      have nd' : (F ++ [here]).Nodup := L2.nd_snoc nd hF2
      have hF' : ∀ x ∈ F ++ [here], x < W.size := fun x hx => by
        rcases List.mem_append.mp hx with hx | hx
        · exact hF x hx
        · rw [List.mem_singleton.mp hx]
          exact hh
      have lF' : (F ++ [here]).length ≤ W.size := nodup_lt nd' hF'
      cases there with
      | none =>
        show (if V.non = V.non then _ else _)
        rw [if_pos rfl]
        refine ⟨by decide, fun t ht => ?_⟩
        have st := L2.Same.new (o := .tup [.ref L, .bl true]) ht
        exact q t L (F ++ [here]) true _ (s4.fr ht) hL (s4.trans st) upd_same (st _ _ (su2 _ _ hL3)) (hS.res_yes hrd hmv hF hh)
      | some t2 =>
        show (if vn t2 = V.non then _ else _)
        rw [if_neg (fun z => by cases z)]
        refine ⟨W.size - (F ++ [here]).length, by simp only [List.length_append, List.length_singleton] at lF' ⊢; omega, F ++ [here], t2, rfl, s4, su2 _ _ hL3, su2 _ _ hM3, mv_lt ok hmv, nd', hF', hS.snoc hrd hmv, rfl⟩
/-- what a change's moments come to -/
def MomYes (W : Wd) (v w : Nat) (p : List Nat) : Prop := ∃ h, IsPath W (w : Int) [v, w] p ∧ W.homes[v]? = some h ∧ p.head? = some h ∧ p.getLast? = W.homes[w]?
def spMom (K : Frg) : Sp := fun vs H Q _ => ∃ (a df : Addr) (W : Wd) (v x : Nat), vs = [.ref a, vn v, vn x] ∧ HandAt K H a df W ∧ W.Ok ∧ v < W.many ∧ x < W.many ∧
  ∀ t L found b H', H t = none → H L = none → Same H H' → H' t = some (.tup [.ref L, .bl b]) → H' L = some (.lst (found.map vn)) → (b = true → MomYes W v x found) → (b = false → ∀ p, ¬ MomYes W v x p) → (∀ y ∈ found, y < W.size) → Q (.ref t) H'
theorem IsPath.ne_nil {W : Wd} {o : Int} {cs p : List Nat} (h : IsPath W o cs p) : p ≠ [] := fun e => by
  subst e
  exact h
theorem cal_order_moments (T : Txt K mg) : C8.Cal P w K mg base 2 "order_moments" (spMom K) [] := by
  refine mkCal T.d_order_moments sc_order_moments (fun _ _ _ _ _ _ us hl => match us, hl with | [_, _, _], _ => rfl) (fun vs H Q E h => ?_) (fun f cdv A outer s H vs Q E hr h => ?_)
  · obtain ⟨a, df, W, v, x, rfl, _⟩ := h
    rfl
  · have hu := hu_of hr
    obtain ⟨a, df, W, v, x, rfl, hA, ok, hv, hx, q⟩ := h
    obtain ⟨dx, wa, ba, tr, th, dm, a1, a2, a3, a4, a5⟩ := hA.ob
    refine ⟨_, (pss_cons (ps_asg (C8.pe_c (cal_walked T) hr (by decide) rfl (pa_cons (pv 0) (pa_cons (pe_ix (k_ixT (K := K) rfl) (k_fld (K := K) rfl (pv 0) rfl) (pv 1) (fun _ _ => rfl)) (pa_cons (pv 2) (pa_cons (pe_tup (pa_cons (pv 1) (pa_cons (pv 2) pa_nil))) pa_nil))))) (k_gtup (K := K) (n := 2) rfl rfl (pgs_cons (pg_name (i := 3) sc_order_moments.nd rfl (Or.inl rfl)) (pgs_cons (pg_name (i := 4) sc_order_moments.nd rfl (Or.inl rfl)) pgs_nil))))
      (pss_one (ps_ret (pe_tup (pa_cons (pv 3) (pa_cons (pe_and (pv 4) (pe_one (pe_cmpR op_eq (pe_ix (k_ixL (K := K) rfl) (pv 3) (pe_un un_neg pe_int) (fun _ _ => rfl)) (pe_ix (k_ixT (K := K) rfl) (k_fld (K := K) rfl (pv 0) rfl) (pv 2) (fun _ _ => rfl)) (nomark _)))) pa_nil)))))), ?_⟩
    walk_at "sd"
    refine q_fld a1 T.i_Hand.cl T.n_Hand_kept_homes fldH_homes ?_
    have hvl : v < W.homes.length := by rw [ok.hmL]; exact hv
    have hxl : x < W.homes.length := by rw [ok.hmL]; exact hx
    have ev : W.homes[v]? = some W.homes[v] := List.getElem?_eq_getElem hvl
    have ex : W.homes[x]? = some W.homes[x] := List.getElem?_eq_getElem hxl
    refine q_ixT (v := vn W.homes[v]) a4 (by rw [List.getElem?_map, ev]; rfl) ?_
    refine ⟨by decide, fun ct hct => ?_⟩
    have sc := L2.Same.new (o := .tup [vn v, vn x]) hct
    refine ⟨a, df, ct, W, W.homes[v], (x : Int), [v, x], rfl, hA.same sc, ok, ok.hmS _ (List.mem_of_getElem? ev), upd_same, fun t L found b H1 ht hL s1 h1 h2 hR => ?_⟩
    refine g_pair h1 ?_
    walk_at "sd"
    have s2 := sc.trans s1
    cases b with
    | false =>
      walk_at "sd"
      refine ⟨by decide, fun u hu0 => ?_⟩
      have su := L2.Same.new (o := .tup [.ref L, .bl false]) hu0
      refine q u L found false _ (s2.fr hu0) (sc.fr hL) (s2.trans su) upd_same (su _ _ h2) (fun e => by cases e) (fun _ p ⟨h, p1, p2, p3, p4⟩ => ?_) hR.lt
      rw [ev] at p2
      cases p2
      exact hR.no rfl p p1 p3
    | true =>
      walk_at "sd"
      obtain ⟨r1, r2⟩ := hR.yes rfl
      have hne := r1.ne_nil
      have elast : found.getLast? = some (found.getLast hne) := List.getLast?_eq_some_getLast hne
      refine ⟨L, _, -1, vn (found.getLast hne), rfl, rfl, Or.inl (Or.inl h2), ?_, ?_⟩
      · have zz : found.map vn = (found.dropLast).map vn ++ [vn (found.getLast hne)] := by
          conv => lhs; rw [← List.dropLast_concat_getLast hne]
          rw [List.map_append]
          rfl
        rw [zz]
        exact atI_last _ _
      refine q_fld (s2 _ _ a1) T.i_Hand.cl T.n_Hand_kept_homes fldH_homes ?_
      refine q_ixT (v := vn W.homes[x]) (s2 _ _ a4) (by rw [List.getElem?_map, ex]; rfl) ?_
      walk_at "sd"
      refine ⟨by decide, fun u hu0 => ?_⟩
      have su := L2.Same.new (o := .tup [.ref L, .bl (decide (((found.getLast hne : Nat) : Int) = (W.homes[x] : Nat)))]) hu0
      refine q u L found _ _ (s2.fr hu0) (sc.fr hL) (s2.trans su) upd_same (su _ _ h2) (fun e => ?_) (fun e p ⟨h, p1, p2, p3, p4⟩ => ?_) hR.lt
      · have e1 := of_decide_eq_true e
        exact ⟨_, r1, ev, r2, by rw [elast, ex, show found.getLast hne = W.homes[x] by omega]⟩
      · have e1 := of_decide_eq_false e
        rw [ev] at p2
        cases p2
        have e2 := p1.uniq r1 (by rw [p3, r2])
        subst e2
        rw [elast, ex] at p4
        exact e1 (by rw [Option.some.inj p4])
end
end SL
/-! homeward. -/
namespace SL
open PySem PySem.Spec PyProof.Rows L2
/-- a hand's facts, as they stand -/
structure FactsAt (H : Hp) (df : Addr) (W : Wd) (hw : Option Addr) (br : Option V) : Prop where
  ob : H df = some (.dK (fkOf (hw.map V.ref) br))
  kn : ∀ k, hw = some k → ∃ l, KnownAt H k W l
/-- nothing but the facts changed -/
structure FStep (df : Addr) (H : Hp) (hw : Option Addr) (H' : Hp) (hw' : Option Addr) : Prop where
  but : ∀ b o, b ≠ df → hw ≠ some b → H b = some o → H' b = some o
  nw : hw' = hw ∨ (hw = none ∧ ∃ k, hw' = some k ∧ H k = none)
theorem FStep.refl (df : Addr) (H : Hp) (hw : Option Addr) : FStep df H hw H hw := ⟨fun _ _ _ _ h => h, Or.inl rfl⟩
theorem FStep.trans {df : Addr} {H H1 H2 : Hp} {hw h1 h2 : Option Addr} (a : FStep df H hw H1 h1) (b : FStep df H1 h1 H2 h2) (hd : H1 df ≠ none) : FStep df H hw H2 h2 := by
  refine ⟨fun x o n1 n2 h => b.but x o n1 (fun e => ?_) (a.but x o n1 n2 h), ?_⟩
  · rcases a.nw with e1 | ⟨_, k, e2, e3⟩
    · exact n2 (e1 ▸ e)
    · rw [e2] at e
      cases e
      rw [e3] at h
      cases h
  · rcases b.nw with e | ⟨e1, k, e2, e3⟩
    · rw [e]
      exact a.nw
    · rcases a.nw with e4 | ⟨_, k2, e5, _⟩
      · refine Or.inr ⟨e4 ▸ e1, k, e2, ?_⟩
        cases hk : H k with
        | none => rfl
        | some o =>
          by_cases h0 : k = df
          · subst h0
            exact absurd e3 hd
          · rw [a.but k o h0 (by rw [← e4, e1]; simp) hk] at e3
            cases e3
      · rw [e1] at e5
        cases e5
theorem FStep.of_same {df : Addr} {H H' : Hp} {hw : Option Addr} (e : Same H H') : FStep df H hw H' hw := ⟨fun _ _ _ _ h => e _ _ h, Or.inl rfl⟩
theorem FStep.base {df : Addr} {B H H' : Hp} {hw hw' : Option Addr} (a : FStep df H hw H' hw') (e : Same B H) (h1 : B df = none) (h2 : ∀ k, hw = some k → B k = none) : Same B H' := fun b o h =>
  a.but b o (fun z => by rw [z, h1] at h; cases h) (fun z => by rw [h2 b z] at h; cases h) (e b o h)
theorem AdjT.nod {H H' : Hp} {L : Addr} {n : Nat} {ps : List (Nat × Nat)} (h : AdjT H L n ps) (go : ∀ b o, (∀ kvs, o ≠ .dK kvs) → H b = some o → H' b = some o) : AdjT H' L n ps := by
  obtain ⟨ys, e1, e2, e3⟩ := h.ex
  refine ⟨ys, go _ _ (fun _ z => by cases z) e1, e2, fun k hk => ?_⟩
  obtain ⟨b, l, b1, b2, b3⟩ := e3 k hk
  exact ⟨b, l, b1, go _ _ (fun _ z => by cases z) b2, b3⟩
/-- a hand stands without the dicts that are none of its own -/
theorem HandAt.del {K : Frg} {H : Hp} {a df x : Addr} {W : Wd} {kvs : List (Key × V)} (h : HandAt K H a df W) (hx : H x = some (.dK kvs)) (n : ∀ L, kvs ≠ [((Sum.inr "tied" : Key), V.ref L)]) : HandAt K (SL.del H x) a df W := by
  have go : ∀ b o, (∀ kvs, o ≠ .dK kvs) → H b = some o → SL.del H x b = some o := fun b o n1 e => del_at e (ne_of e hx (n1 _))
  obtain ⟨dx, wa, ba, tr, th, dm, h1, h2, h3, h4, h5⟩ := h.ob
  obtain ⟨dxb, t, d, L, g1, g2, g3⟩ := h2.ob
  refine ⟨dx, wa, ba, tr, th, dm, go _ _ (fun _ z => by cases z) h1, ⟨dxb, t, d, L, go _ _ (fun _ z => by cases z) g1, del_at g2 (fun e => ?_), g3.nod go⟩, go _ _ (fun _ z => by cases z) h3, go _ _ (fun _ z => by cases z) h4, go _ _ (fun _ z => by cases z) h5⟩
  subst e
  rw [hx] at g2
  exact n L (HO.dK.inj (Option.some.inj g2))
theorem fk_len (hw br : Option V) : (fkOf hw br).length < 100000 := by
  cases hw <;> cases br <;> (unfold fkOf; simp)
theorem fk_ne (hw br : Option V) (L : Addr) : fkOf hw br ≠ [((Sum.inr "tied" : Key), V.ref L)] := fun e => by
  have e2 := congrArg (fun l : List (Key × V) => match l with | (k, _) :: _ => decide (k = (Sum.inr "tied" : Key)) | _ => false) e
  revert e2
  cases hw <;> cases br
  · show ¬ (false = decide ((Sum.inr "tied" : Key) = (Sum.inr "tied" : Key)))
    decide +kernel
  · show ¬ (decide ((Sum.inr "break" : Key) = (Sum.inr "tied" : Key)) = decide ((Sum.inr "tied" : Key) = (Sum.inr "tied" : Key)))
    decide +kernel
  · show ¬ (decide ((Sum.inr "homeward" : Key) = (Sum.inr "tied" : Key)) = decide ((Sum.inr "tied" : Key) = (Sum.inr "tied" : Key)))
    decide +kernel
  · show ¬ (decide ((Sum.inr "homeward" : Key) = (Sum.inr "tied" : Key)) = decide ((Sum.inr "tied" : Key) = (Sum.inr "tied" : Key)))
    decide +kernel
theorem kn_ne (kn : List (Nat × Bool)) (L : Addr) : kn.map kenc ≠ [((Sum.inr "tied" : Key), V.ref L)] := fun e => by
  cases kn with
  | nil => cases e
  | cons p r =>
    rw [List.map_cons] at e
    have := (Prod.mk.inj (List.cons.inj e).1).1
    cases this
/-- the facts are none of what is known -/
theorem fk_kn {v : V} {br : Option V} {kn : List (Nat × Bool)} : fkOf (some v) br ≠ kn.map kenc := fun e => by
  cases kn with
  | nil => cases e
  | cons p r =>
    rw [List.map_cons] at e
    have := (Prod.mk.inj (List.cons.inj e).1).1
    cases this
theorem kn_val (kn : List (Nat × Bool)) (x : Nat) : valV (kn.map kenc) (Sum.inl (x : Int)) = ((kn.find? fun p => decide (p.1 = x)).map fun p => V.bl p.2) := by
  induction kn with
  | nil => rfl
  | cons p r ih =>
    unfold valV at *
    rw [List.map_cons]
    by_cases h : p.1 = x
    · rw [List.find?_cons_of_pos (by simp [kenc, h]), List.find?_cons_of_pos (by simpa using h)]
      rfl
    · rw [List.find?_cons_of_neg (by simp [kenc]; omega), List.find?_cons_of_neg (by simpa using h)]
      exact ih
theorem kn_mem {kn : List (Nat × Bool)} {x : Nat} (h : x ∈ kn.map (·.1)) : ∃ b, valV (kn.map kenc) (Sum.inl (x : Int)) = some (.bl b) ∧ (x, b) ∈ kn := by
  rw [kn_val]
  cases e : kn.find? fun p => decide (p.1 = x) with
  | none =>
    obtain ⟨p, hp, hx⟩ := List.mem_map.mp h
    rw [List.find?_eq_none] at e
    exact absurd (by simpa using hx) (e p hp)
  | some p =>
    have h1 := List.mem_of_find?_eq_some e
    have h2 : p.1 = x := by simpa using List.find?_some e
    exact ⟨p.2, rfl, by rw [← h2]; exact h1⟩
theorem kn_not {kn : List (Nat × Bool)} {x : Nat} (h : x ∉ kn.map (·.1)) : valV (kn.map kenc) (Sum.inl (x : Int)) = none := by
  rw [kn_val]
  have : kn.find? (fun p => decide (p.1 = x)) = none := by
    rw [List.find?_eq_none]
    intro p hp e
    exact h (List.mem_map.mpr ⟨p, hp, by simpa using e⟩)
  rw [this]
  rfl
def bo : Option Bool → V
  | none => .non
  | some b => .bl b
theorem q_setd {Q : VK} {H : Hp} {σ : L2.St} {td : TE} {df : Addr} {hw : Option Addr} (ht : ∀ N : VK, N (.ref df) H → td σ H N) (h : H df = some (.dK (fkOf (hw.map V.ref) none)))
    (q : ∀ u k H0, H u = none → (hw = some k ∧ H0 = upd H u (.dK [])) ∨ (hw = none ∧ k = u ∧ H0 = upd (upd H u (.dK [])) df (.dK (fkOf (some (.ref u)) none))) → Q (.ref k) H0) : tDSetd td (tC (.str "homeward")) tDNewK σ H Q := by
  refine ht _ ⟨df, rfl, Or.inl ⟨_, Or.inl h⟩, fun u hu0 => ⟨_, Sum.inr "homeward", L2.Same.new hu0 _ _ h, rfl, szt (fk_len _ _), fun v e => ?_, fun e => ?_⟩⟩
  · rw [fk_h] at e
    cases hw with
    | none => cases e
    | some k =>
      cases e
      exact q u k _ hu0 (Or.inl ⟨rfl, rfl⟩)
  · rw [fk_h] at e
    cases hw with
    | none =>
      have z := q u u _ hu0 (Or.inr ⟨rfl, rfl, rfl⟩)
      rw [← fk_put_h] at z
      exact z
    | some k => cases e
/-- what is met so far on the way home from s -/
structure Seen (W : Wd) (s : Nat) (kn : List (Nat × Bool)) (F : List Nat) : Prop where
  nd : F.Nodup
  lt : ∀ x ∈ F, x < W.size
  all : ∀ x ∈ F, HomeOk W x ↔ HomeOk W s
  nk : ∀ x ∈ F, x ∉ kn.map (·.1)
structure HomeInv (W : Wd) (s : Nat) (F : List Nat) (here : Nat) : Prop where
  seg : ∀ c, W.rd s = some c → Seg W (-1) [c] s F here
  hr : W.rd here = W.rd s → (HomeOk W s ↔ HomeOk W here)
theorem HomeInv.start (W : Wd) (s : Nat) : HomeInv W s [] s := ⟨fun c _ => Seg.nil W _ _ _, fun _ => Iff.rfl⟩
theorem home_none {W : Wd} {s : Nat} (h : W.rd s = none) : ¬ HomeOk W s := fun ⟨p, c, e, _⟩ => by rw [h] at e; cases e
theorem HomeInv.stop {W : Wd} {s here : Nat} {F : List Nat} (h : HomeInv W s F here) (b : W.rd here ≠ W.rd s ∨ here ∈ F ∨ W.mv here (-1) = none) : ¬ HomeOk W s := by
  rintro ⟨p, c, e, h1, h2, _⟩
  refine (h.seg c e).stop ?_ p h1 h2
  rcases b with b | b | b
  · exact Or.inl fun ⟨c2, e2, e3⟩ => b (by rw [e2, e, List.mem_singleton.mp e3])
  · exact Or.inr (Or.inl b)
  · exact Or.inr (Or.inr b)
theorem HomeInv.go {W : Wd} {s here t : Nat} {F : List Nat} (h : HomeInv W s F here) (e : W.rd here = W.rd s) (hm : W.mv here (-1) = some (some t)) : HomeInv W s (F ++ [here]) t := by
  refine ⟨fun c hc => (h.seg c hc).snoc ⟨c, by rw [e, hc], List.mem_singleton.mpr rfl⟩ hm, fun e2 => ?_⟩
  cases hc : W.rd s with
  | none => exact ⟨fun z => absurd z (home_none hc), fun z => absurd z (home_none (e2.trans hc))⟩
  | some c => exact (h.hr e).trans (HomeOk.next (e.trans hc) hm (e2.trans hc))
theorem HomeInv.rest {W : Wd} {s here : Nat} {F : List Nat} (h : HomeInv W s F here) (e : W.rd here = W.rd s) (hm : W.mv here (-1) = some none) : HomeOk W s ↔ ∃ c, W.rd s = some c ∧ W.homes[c]? = some here := by
  rw [h.hr e]
  cases hc : W.rd s with
  | none => exact ⟨fun z => absurd z (home_none (e.trans hc)), fun ⟨c, z, _⟩ => by cases z⟩
  | some c =>
    rw [HomeOk.here (e.trans hc) hm]
    exact ⟨fun z => ⟨c, rfl, z⟩, fun ⟨c2, z, z2⟩ => by cases z; exact z2⟩
theorem Seen.snoc {W : Wd} {s here : Nat} {kn : List (Nat × Bool)} {F : List Nat} (h : Seen W s kn F) (i : HomeInv W s F here) (hh : here < W.size) (e : W.rd here = W.rd s) (hF : here ∉ F) (hk : here ∉ kn.map (·.1)) : Seen W s kn (F ++ [here]) where
  nd := L2.nd_snoc h.nd hF
  lt := fun x hx => by
    rcases List.mem_append.mp hx with hx | hx
    · exact h.lt x hx
    · rw [List.mem_singleton.mp hx]
      exact hh
  all := fun x hx => by
    rcases List.mem_append.mp hx with hx | hx
    · exact h.all x hx
    · rw [List.mem_singleton.mp hx]
      exact (i.hr e).symm
  nk := fun x hx => by
    rcases List.mem_append.mp hx with hx | hx
    · exact h.nk x hx
    · rw [List.mem_singleton.mp hx]
      exact hk
/-- the loop's state -/
structure HomeSt (W : Wd) (s : Nat) (kn : List (Nat × Bool)) (H0 H1 : Hp) (L M : Addr) (F : List Nat) (here : Nat) (r : Option Bool) : Prop where
  sm : Same H0 H1
  l : H1 L = some (.lst (F.map vn))
  m : H1 M = some (.dK (yes F))
  sn : Seen W s kn F
  hh : here < W.size
  no : r = none → HomeInv W s F here
  yes : ∀ b, r = some b → (b = true ↔ HomeOk W s)
def todo (W : Wd) (F : List Nat) (r : Option Bool) : Nat := (W.size - F.length) + (match r with | none => 1 | some _ => 0)
theorem todo_new {W : Wd} {F : List Nat} {b : Bool} : todo W F (some b) < todo W F none := by
  unfold todo
  exact Nat.lt_succ_self _
theorem todo_go {W : Wd} {F : List Nat} {x : Nat} {r : Option Bool} (h : (F ++ [x]).length ≤ W.size) : todo W (F ++ [x]) r < todo W F none := by
  rw [List.length_append, List.length_singleton] at h
  unfold todo
  rw [List.length_append, List.length_singleton]
  cases r <;> (simp only; omega)
def HomeW (W : Wd) (s : Nat) (kn : List (Nat × Bool)) (H0 : Hp) (L M a k : Addr) (m : Nat) (σ : L2.St) (H1 : Hp) : Prop :=
  ∃ (F : List Nat) (here : Nat) (r : Option Bool) (o8 : Option V), σ = [some (V.ref a), some (vn s), some (V.ref k), some (vo (W.rd s)), some (V.ref L), some (V.ref M), some (vn here), some (bo r), o8, none] ∧ HomeSt W s kn H0 H1 L M F here r ∧ m = todo W F r
theorem HomeW.mk {W : Wd} {s : Nat} {kn : List (Nat × Bool)} {H0 : Hp} {L M a k : Addr} {m : Nat} {H1 : Hp} {F : List Nat} {here : Nat} (r : Option Bool) {o8 : Option V} (h : HomeSt W s kn H0 H1 L M F here r) (hm : todo W F r < m) :
    ∃ m', m' < m ∧ HomeW W s kn H0 L M a k m' [some (V.ref a), some (vn s), some (V.ref k), some (vo (W.rd s)), some (V.ref L), some (V.ref M), some (vn here), some (bo r), o8, none] H1 := ⟨_, hm, F, here, r, o8, rfl, h, rfl⟩
theorem kn_put {kn : List (Nat × Bool)} {x : Nat} {b : Bool} (h : x ∉ kn.map (·.1)) : putK (kn.map kenc) (Sum.inl (x : Int)) (.bl b) = (kn ++ [(x, b)]).map kenc := by
  rw [putK_new _ (kn_not h), List.map_append]
  rfl
section
variable {P : Program} {w : World} {K : Frg} {mg : Str → Option Value} {base : Heap}
def spHomeward (K : Frg) : Sp := fun vs H Q _ => ∃ (a df : Addr) (W : Wd) (s : Nat) (hw : Option Addr), vs = [.ref a, vn s] ∧ HandAt K H a df W ∧ FactsAt H df W hw none ∧ W.Ok ∧ s < W.size ∧
  ∀ b H' hw', HandAt K H' a df W → FactsAt H' df W hw' none → FStep df H hw H' hw' → (b = true ↔ HomeOk W s) → Q (.bl b) H'
theorem cal_homeward (T : Txt K mg) : C8.Cal P w K mg base 1 "homeward" (spHomeward K) [] := by
  refine mkCal T.d_homeward sc_homeward (fun _ _ _ _ _ _ us hl => match us, hl with | [_, _], _ => rfl) (fun vs H Q E h => ?_) (fun f cdv A outer s H vs Q E hr h => ?_)
  · obtain ⟨a, df, W, s, hw, rfl, _⟩ := h
    rfl
  · have hu := hu_of hr
    obtain ⟨a, df, W, s, hw, rfl, hA, hF, ok, hs, q⟩ := h
    obtain ⟨dx, wa, ba, tr, th, dm, a1, a2, a3, a4, a5⟩ := hA.ob
    refine ⟨_, (pss_cons (ps_set (i := 2) sc_homeward.nd rfl (Or.inl rfl) (pe_dsetd (k_fld (K := K) rfl (pv 0) rfl) pe_str pe_dnewK ⟨rfl, rfl, rfl, rfl⟩))
      (pss_cons (ps_set (i := 3) sc_homeward.nd rfl (Or.inl rfl) (pe_ix (k_ixT (K := K) rfl) (k_fld (K := K) rfl (pv 0) rfl) (pv 1) (fun _ _ => rfl)))
      (pss_cons (ps_set (i := 4) sc_homeward.nd rfl (Or.inl rfl) (pe_lst pa_nil))
      (pss_cons (ps_set (i := 5) sc_homeward.nd rfl (Or.inl rfl) pe_dnewK)
      (pss_cons (ps_set (i := 6) sc_homeward.nd rfl (Or.inl rfl) (pv 1))
      (pss_cons (ps_set (i := 7) sc_homeward.nd rfl (Or.inl rfl) pe_non)
      (pss_cons (ps_while PassesOwn.never (pt_cmpR op_isN (pv 7) pe_non (nomark _)) (pss_one (ps_if (PW.pt (pw_or (pt_cmpR op_ne (pe_ix (k_ixT (K := K) rfl) (k_fld (K := K) rfl (pv 0) rfl) (pv 6) (fun _ _ => rfl)) (pv 3) (nomark _)) (pw_or (pt_cmp (pc_din hu (pv 6) (pv 5))) (pw_or1 (pt_cmp (pc_dnotin hu (pe_tup (pa_cons (pv 6) (pa_cons (pe_gi rfl T.c_HOME) pa_nil))) (k_fld (K := K) rfl (pv 0) rfl))))))) (pss_one (ps_set (i := 7) sc_homeward.nd rfl (Or.inl rfl) pe_bl)) (pss_one (ps_if (pt_cmp (pc_din hu (pv 6) (pv 2))) (pss_one (ps_set (i := 7) sc_homeward.nd rfl (Or.inl rfl) (pe_dget hu (pv 2) (pv 6) (fun _ _ => rfl)))) (pss_cons (ps_expr (k_bm (K := K) rfl PySem.F.plainAttrs_list PySem.F.slot_list_append PySem.F.type_list_append mt_append (pv 4) (pa_cons (pv 6) pa_nil)))
            (pss_cons (ps_dput hu (pv 5) (pv 6) pe_bl rfl)
            (pss_cons (ps_set (i := 8) sc_homeward.nd rfl (Or.inl rfl) (pe_dget hu (k_fld (K := K) rfl (pv 0) rfl) (pe_tup (pa_cons (pv 6) (pa_cons (pe_gi rfl T.c_HOME) pa_nil))) (fun _ _ => rfl)))
            (pss_one (ps_if (pt_cmpR op_isN (pv 8) pe_non (nomark _)) (pss_one (ps_set (i := 7) sc_homeward.nd rfl (Or.inl rfl) (pe_and (pe_cmpR op_notN (pv 3) pe_non (nomark _)) (pe_one (pe_cmpR op_eq (pv 6) (pe_ix (k_ixT (K := K) rfl) (k_fld (K := K) rfl (pv 0) rfl) (pv 3) (fun _ _ => rfl)) (nomark _)))))) (pss_one (ps_set (i := 6) sc_homeward.nd rfl (Or.inl rfl) (pv 8)))))))))))))
      (pss_cons (ps_for PassesOwn.never rfl (k_list (K := K) rfl (pv 4)) (pg_name (i := 9) sc_homeward.nd rfl (Or.inl rfl)) (pss_one (ps_dput hu (pv 2) (pv 9) (pv 7) rfl)))
      (pss_one (ps_ret (pv 7))))))))))), ?_⟩
    walk_at "sd"
    refine q_setd (fun N z => by
      walk_at "sd"
      exact q_fld (N := fun v => N v H) a1 T.i_Hand.cl T.n_Hand_kept_facts fldH_facts z) hF.ob fun u k H0 hu0 hk => ?_
    have su : Same H (upd H u (.dK [])) := L2.Same.new hu0
    obtain ⟨kn, hA0, hd0, hK0, hbut, hnw⟩ : ∃ kn, HandAt K H0 a df W ∧ H0 df = some (.dK (fkOf (some (.ref k)) none)) ∧ KnownAt H0 k W kn ∧ (∀ b o, b ≠ df → H b = some o → H0 b = some o) ∧ (hw = some k ∨ (hw = none ∧ H k = none)) := by
      rcases hk with ⟨rfl, rfl⟩ | ⟨rfl, rfl, rfl⟩
      · obtain ⟨kn, z⟩ := hF.kn k rfl
        exact ⟨kn, hA.same su, su _ _ hF.ob, ⟨su _ _ z.ob, z.nd, z.ok⟩, fun b o _ h => su _ _ h, Or.inl rfl⟩
      · have nk : k ≠ df := fun e => by rw [e, hF.ob] at hu0; cases hu0
        have s2 : Same (del (upd H k (.dK [])) df) (upd (upd H k (.dK [])) df (.dK (fkOf (some (.ref k)) none))) := (del_same _ _).mut (del_none _ _)
        refine ⟨[], ((hA.same su).del (su _ _ hF.ob) (fk_ne _ _)).same s2, upd_same, ⟨by rw [upd_ne nk]; exact upd_same, List.nodup_nil, by simp⟩, fun b o nb h => ?_, Or.inr ⟨rfl, hu0⟩⟩
        rw [upd_ne nb]
        exact su _ _ h
    clear hk
    walk_at "sd"
    have hck := Wd.rd_get ok hs
    obtain ⟨dx, wa, ba, tr, th, dm, a1, a2, a3, a4, a5⟩ := hA0.ob
    refine q_fld a1 T.i_Hand.cl T.n_Hand_kept_reading fldH_reading ?_
    refine q_ixT (v := vo (W.rd s)) a3 (by rw [List.getElem?_map, hck]; rfl) ?_
    refine ⟨by decide, fun L hL => ?_⟩
    intro M hM
    have nLM : L ≠ M := fun e => by rw [← e, upd_same] at hM; cases hM
    have hM0 : H0 M = none := by rw [upd_ne nLM.symm] at hM; exact hM
    walk_at "sd"
    refine ⟨HomeW W s kn H0 L M a k,
      ⟨_, [], s, none, none, rfl, ⟨(L2.Same.new hL).mut hM0, by rw [upd_ne nLM]; exact upd_same, upd_same, ⟨List.nodup_nil, by simp, by simp, by simp⟩, hs, fun _ => HomeInv.start W s, (fun b e => by cases e)⟩, rfl⟩, fun m σ H1 w1 => ?_⟩
    obtain ⟨F, here, r, o8, rfl, st, hm⟩ := w1
    have s1 := st.sm
    have lF : F.length ≤ 12 := Nat.le_trans (nodup_lt st.sn.nd st.sn.lt) ok.size12
    have ndk : df ≠ k := fun e => by
      have z := hd0
      rw [e, hK0.ob] at z
      exact fk_kn (HO.dK.inj (Option.some.inj z)).symm
    have nLk : L ≠ k := fun e => by rw [e, hK0.ob] at hL; cases hL
    walk_at "sd"
    cases r with
    | some b =>
      show (if V.bl b = V.non then _ else _)
      rw [if_neg (fun z => by cases z)]
      refine ⟨_, rfl, L, rfl, ⟨_, Or.inl (Or.inl st.l)⟩, ?_⟩
      have hk1 := s1 _ _ hK0.ob
      have keep : ∀ {H2 : Hp}, Same (SL.del H0 k) H2 → SL.del H0 k L = none := fun _ => del_free hL
      refine for_list (K := K) (a := L) (xs := F.map vn) (fun i σ H2 => ∃ o9, σ = [some (V.ref a), some (vn s), some (V.ref k), some (vo (W.rd s)), some (V.ref L), some (V.ref M), some (vn here), some (V.bl b), o8, o9] ∧ Same (SL.del H0 k) H2 ∧ H2 L = some (.lst (F.map vn)) ∧ H2 k = some (.dK ((kn ++ (F.take i).map fun x => (x, b)).map kenc)))
        ⟨none, rfl, (del_same _ _).trans s1, st.l, by rw [List.take_zero, List.map_nil, List.append_nil]; exact hk1⟩ (fun i σ H2 _ ⟨_, _, _, h2, _⟩ => Or.inl (Or.inl h2)) (fun i x σ H2 hx ⟨o9, e, s2, h2, h3⟩ => ?_) fun σ H2 ⟨o9, e, s2, h2, h3⟩ => ?_
      · subst e
        rw [List.getElem?_map] at hx
        cases hy : F[i]? with
        | none => rw [hy] at hx; cases hx
        | some y =>
          rw [hy] at hx
          cases hx
          walk_at "sd"
          have hyF := List.mem_of_getElem? hy
          have tk : F.take (i + 1) = F.take i ++ [y] := by rw [List.take_add_one, hy]; rfl
          refine q_put (k := Sum.inl (y : Int)) h3 ?_ (kn_put ?_) ?_
          · rw [List.length_map, List.length_append, List.length_map, List.length_take]
            have : kn.length ≤ 12 := by
              rw [← List.length_map (f := fun p : Nat × Bool => p.1)]
              exact Nat.le_trans (nodup_lt hK0.nd (n := W.size) fun x hx => by
                obtain ⟨p, hp, e⟩ := List.mem_map.mp hx
                rw [← e]
                exact (hK0.ok p hp).1) ok.size12
            omega
          · rw [List.map_append, List.mem_append]
            rintro (z | z)
            · exact st.sn.nk y hyF z
            · rw [List.map_map] at z
              have z2 : y ∈ F.take i := by
                obtain ⟨q2, hq2, e2⟩ := List.mem_map.mp z
                have : q2 = y := e2
                rw [← this]
                exact hq2
              have nd := st.sn.nd
              have : (F.take (i + 1)).Nodup := nd.sublist (List.take_sublist _ _)
              rw [tk] at this
              exact (List.nodup_append.mp this).2.2 y z2 y (by simp) rfl
          · refine ⟨s2.mut (del_none _ _), by rw [upd_ne nLk]; exact h2, ?_⟩
            rw [upd_same, tk]
            simp only [List.map_append, List.append_assoc]
            rfl
      · subst e
        walk_at "sd"
        rw [List.length_map, List.take_length] at h3
        refine q b H2 (some k) ((hA0.del hK0.ob (kn_ne _)).same s2) ⟨s2 _ _ (del_at hd0 ndk), fun k2 e => ?_⟩ ⟨fun x o n1 n2 hx => ?_, ?_⟩ (st.yes b rfl)
        · cases e
          refine ⟨_, h3, ?_, fun p hp => ?_⟩
          · rw [List.map_append, List.map_map]
            refine List.nodup_append.mpr ⟨hK0.nd, by simpa [Function.comp_def] using st.sn.nd, fun x hx y hy e => ?_⟩
            have hy2 : y ∈ F := by simpa [Function.comp_def] using hy
            exact st.sn.nk y hy2 (e ▸ hx)
          · rcases List.mem_append.mp hp with hp | hp
            · exact hK0.ok p hp
            · obtain ⟨x, hx, e⟩ := List.mem_map.mp hp
              rw [← e]
              exact ⟨st.sn.lt x hx, (st.yes b rfl).trans (st.sn.all x hx).symm⟩
        · refine s2 _ _ (del_at (hbut x o n1 hx) fun e => ?_)
          rcases hnw with z | ⟨_, z⟩
          · exact n2 (e ▸ z)
          · rw [← e, hx] at z
            cases z
        · rcases hnw with z | ⟨z1, z2⟩
          · exact Or.inl z.symm
          · exact Or.inr ⟨z1, k, rfl, z2⟩
    | none =>
      have iv := st.no rfl
      have hh := st.hh
      show (if V.non = V.non then _ else _)
      rw [if_pos rfl]
      refine ⟨fun σ' H' => ∃ m', m' < m ∧ HomeW W s kn H0 L M a k m' σ' H', fun σ' H' z => z, ?_⟩
      have fin : ∀ {H2 : Hp} {o8 : Option V} (_ : Same H1 H2) (b : Bool), (b = true ↔ HomeOk W s) → ∃ m', m' < m ∧ HomeW W s kn H0 L M a k m' [some (V.ref a), some (vn s), some (V.ref k), some (vo (W.rd s)), some (V.ref L), some (V.ref M), some (vn here), some (V.bl b), o8, none] H2 := fun {H2 o8} s2 b hb =>
        HomeW.mk (some b) ⟨s1.trans s2, s2 _ _ st.l, s2 _ _ st.m, st.sn, hh, (fun e => by cases e), (fun b2 e => by cases e; exact hb)⟩ (hm ▸ todo_new)
      have no : (W.rd here ≠ W.rd s ∨ here ∈ F ∨ W.mv here (-1) = none) → (false = true ↔ HomeOk W s) := fun z => ⟨(fun e => by cases e), fun e => absurd e (iv.stop z)⟩
      refine q_fld (s1 _ _ a1) T.i_Hand.cl T.n_Hand_kept_reading fldH_reading ?_
      refine q_ixT (v := vo (W.rd here)) (s1 _ _ a3) (by rw [List.getElem?_map, Wd.rd_get ok hh]; rfl) ?_
      walk_at "sd"
      by_cases e1 : W.rd here = W.rd s
      case neg =>
        rw [if_neg (fun z => e1 (vo_inj.mp z))]
        exact fin (L2.Same.refl _) false (no (Or.inl e1))
      rw [if_pos (vo_inj.mpr e1)]
      obtain ⟨g, g1, g2⟩ := yes_get st.m here
      refine ⟨g, g1, ?_⟩
      rw [g2]
      by_cases hF2 : here ∈ F
      · rw [decide_eq_true hF2]
        exact iteT (fin (L2.Same.refl _) false (no (Or.inr (Or.inl hF2))))
      rw [decide_eq_false hF2]
      refine iteF ⟨by decide, fun p hp0 => ?_⟩
      have sp : Same H1 (upd H1 p (.tup [vn here, .int (-1)])) := L2.Same.new hp0
      refine q_fld (sp _ _ (s1 _ _ a1)) T.i_Hand.cl T.n_Hand_kept_moves fldH_moves ?_
      refine ⟨dm, rfl, _, q_mv (sp _ _ (s1 _ _ a5)) upd_same, ?_⟩
      cases hmv : W.mv here (-1) with
      | none =>
        rw [show mvL W.moves (here, -1) = none from hmv]
        rw [if_pos (by rfl)]
        exact fin sp false (no (Or.inr (Or.inr hmv)))
      | some there =>
        rw [show mvL W.moves (here, -1) = some there from hmv, if_neg (fun z => by cases z)]
        have kk := sp _ _ (s1 _ _ hK0.ob)
        by_cases hkn : here ∈ kn.map (·.1)
        · obtain ⟨b, b1, b2⟩ := kn_mem hkn
          refine ⟨_, q_get (k := Sum.inl (here : Int)) kk b1, ?_⟩
          rw [if_pos (by rfl)]
          exact ⟨_, q_get (k := Sum.inl (here : Int)) kk b1, fin sp b (((hK0.ok _ b2).2).trans (iv.hr e1).symm)⟩
        refine ⟨_, q_none (k := Sum.inl (here : Int)) kk (kn_not hkn), ?_⟩
        rw [if_neg (fun z => by cases z)]
        have sn' := st.sn.snoc iv hh e1 hF2 hkn
        have lF' : (F ++ [here]).length ≤ W.size := nodup_lt sn'.nd sn'.lt
        refine q_app (y := vn here) (sp _ _ st.l) (by rw [List.length_map]; omega) ?_
        refine q_put (k := Sum.inl (here : Int)) (kvs := yes F) (by rw [upd_ne nLM.symm]; exact sp _ _ st.m) (by unfold yes; rw [List.length_map]; omega) (yes_put hF2) ?_
        have s3 : Same H0 (upd (upd (upd H1 p (.tup [vn here, .int (-1)])) L (.lst (F.map vn ++ [vn here]))) M (.dK (yes (F ++ [here])))) := ((s1.trans sp).mut hL).mut hM0
        have hL3 : upd (upd (upd H1 p (.tup [vn here, .int (-1)])) L (.lst (F.map vn ++ [vn here]))) M (.dK (yes (F ++ [here]))) L = some (.lst ((F ++ [here]).map vn)) := by rw [upd_ne nLM, upd_same, List.map_append]; rfl
        have hM3 : upd (upd (upd H1 p (.tup [vn here, .int (-1)])) L (.lst (F.map vn ++ [vn here]))) M (.dK (yes (F ++ [here]))) M = some (.dK (yes (F ++ [here]))) := upd_same
        generalize upd (upd (upd H1 p (.tup [vn here, .int (-1)])) L (.lst (F.map vn ++ [vn here]))) M (.dK (yes (F ++ [here]))) = H3 at s3 hL3 hM3 ⊢
        refine q_fld (s3 _ _ a1) T.i_Hand.cl T.n_Hand_kept_moves fldH_moves ?_
        refine ⟨by decide, fun u2 hu2 => ?_⟩
        have su2 : Same H3 (upd H3 u2 (.tup [vn here, .int (-1)])) := L2.Same.new hu2
        have z := q_mv (su2 _ _ (s3 _ _ a5)) (upd_same (a := u2) (o := .tup [vn here, .int (-1)]) (H := H3))
        rw [show mvL W.moves (here, -1) = some there from hmv] at z
        refine ⟨dm, rfl, _, z, ?_⟩
        have s4 := s3.trans su2
        have fin2 : ∀ {o8 : Option V} (b : Bool), (b = true ↔ HomeOk W s) → ∃ m', m' < m ∧ HomeW W s kn H0 L M a k m' [some (V.ref a), some (vn s), some (V.ref k), some (vo (W.rd s)), some (V.ref L), some (V.ref M), some (vn here), some (V.bl b), o8, none] (upd H3 u2 (.tup [vn here, .int (-1)])) := fun {o8} b hb =>
          HomeW.mk (some b) ⟨s4, su2 _ _ hL3, su2 _ _ hM3, sn', hh, (fun e => by cases e), (fun b2 e => by cases e; exact hb)⟩ (hm ▸ todo_go lF')
        cases there with
        | none =>
          show (if V.non = V.non then _ else _)
          rw [if_pos rfl]
          have rst := iv.rest e1 hmv
          cases hc : W.rd s with
          | none =>
            rw [if_pos (by rfl)]
            rw [hc] at fin2
            exact fin2 false ⟨(fun e => by cases e), fun e => absurd e (home_none hc)⟩
          | some c =>
            rw [if_neg (fun z => by cases z)]
            have hcl : c < W.homes.length := by rw [ok.hmL]; exact ok.rdC s c hc
            have hcv : W.homes[c]? = some W.homes[c] := List.getElem?_eq_getElem hcl
            refine q_fld (s4 _ _ a1) T.i_Hand.cl T.n_Hand_kept_homes fldH_homes ?_
            refine q_ixT (v := vn W.homes[c]) (s4 _ _ a4) (by rw [List.getElem?_map, hcv]; rfl) ?_
            walk_at "sd"
            rw [hc] at fin2
            refine fin2 _ (Iff.trans ?_ rst.symm)
            rw [decide_eq_true_eq, hc]
            constructor
            · intro e
              exact ⟨c, rfl, by rw [hcv, show here = W.homes[c] by omega]⟩
            · rintro ⟨c2, e, e2⟩
              cases e
              rw [hcv] at e2
              have := Option.some.inj e2
              omega
        | some t =>
          show (if vn t = V.non then _ else _)
          rw [if_neg (fun z => by cases z)]
          exact HomeW.mk none ⟨s4, su2 _ _ hL3, su2 _ _ hM3, sn', mv_lt ok hmv, fun _ => iv.go e1 hmv, (fun b e => by cases e)⟩ (hm ▸ todo_go lF')
end
end SL
/-! changes_of, break_of, find_break, keeps. -/
namespace SL
open PySem PySem.Spec PyProof.Rows L2
theorem for_enum {K : PySem.W.Frag} {a : Addr} {xs : List V} {g : TG} {tb : TS} {D : Ends} {σ : L2.St} {H : Hp} (Pv : Nat → L2.St → Hp → Prop) (h0 : Pv 0 σ H) (hl : ∀ i σ H, i ≤ xs.length → Pv i σ H → H a = some (.lst xs))
    (hs : ∀ i x σ H T, xs[i]? = some x → Pv i σ H → H T = none → g (.ref T) σ (upd H T (.tup [vn i, x])) fun σ2 H2 => tb { D with nx := Pv (i + 1), ct := Pv (i + 1), bk := D.nx } σ2 H2) (hd : ∀ σ H, Pv xs.length σ H → D.nx σ H) :
    ∃ W : Nat → Nat → L2.St → Hp → Prop, (∃ m, W 0 m σ H) ∧ ∀ i m σ H, W i m σ H →
      ((Ite K a).stop i H ∧ D.nx σ H) ∨ ((Ite K a).go i H ∧ ∃ N : L2.St → Hp → Prop, (∀ σ' H', N σ' H' → ∃ m', m' < m ∧ W (i + 1) m' σ' H') ∧ ∀ x H', (Ite K a).yld i H x H' → g x σ H' fun σ2 H2 => tb { D with nx := N, ct := N, bk := D.nx } σ2 H2) := by
  refine ⟨fun i m σ H => m = xs.length - i ∧ i ≤ xs.length ∧ Pv i σ H, ⟨xs.length, by simp, Nat.zero_le _, h0⟩, ?_⟩
  rintro i m σ H ⟨rfl, hi, p⟩
  have q : SqL K H a xs := Or.inl (Or.inl (hl i σ H hi p))
  by_cases hlt : i < xs.length
  · refine .inr ⟨⟨xs, xs[i], q, List.getElem?_eq_getElem hlt⟩, Pv (i + 1), fun σ' H' p' => ⟨xs.length - (i + 1), by omega, rfl, hlt, p'⟩, fun x H' y => ?_⟩
    obtain ⟨T, x2, e1, e2, e3, e4⟩ := y
    subst e1 e3
    exact hs i x2 σ H T (e4 xs q) p e2
  · have e : i = xs.length := by omega
    subst e
    exact .inl ⟨⟨xs, q, Nat.le_refl _⟩, hd σ H p⟩
theorem Prs.upd {H : Hp} {xs : List V} {ps : List (Nat × Nat)} {D : Addr} {o : HO} {l : List V} (h : Prs H xs ps) (hD : H D = some (.lst l)) : Prs (L2.upd H D o) xs ps :=
  ⟨h.len, fun i p hp => let ⟨a, h1, h2⟩ := h.at_ i p hp; ⟨a, h1, by rw [upd_ne (ne_of h2 hD fun z => by cases z)]; exact h2⟩⟩
theorem Prs.snoc {H : Hp} {xs : List V} {ps : List (Nat × Nat)} {p : Nat × Nat} {t : Addr} (h : Prs H xs ps) (ht : H t = some (.tup [vn p.1, vn p.2])) : Prs H (xs ++ [.ref t]) (ps ++ [p]) := by
  refine ⟨by rw [List.length_append, List.length_append, h.len]; rfl, fun i p2 hp => ?_⟩
  by_cases hi : i < ps.length
  · rw [List.getElem?_append_left hi] at hp
    obtain ⟨a, h1, h2⟩ := h.at_ i p2 hp
    exact ⟨a, by rw [List.getElem?_append_left (by rw [h.len]; exact hi)]; exact h1, h2⟩
  · rw [List.getElem?_append_right (by omega)] at hp
    by_cases h0 : i - ps.length = 0
    · rw [h0] at hp
      cases hp
      exact ⟨t, by rw [List.getElem?_append_right (by rw [h.len]; omega), h.len, h0]; rfl, ht⟩
    · rw [List.getElem?_eq_none (by simp; omega)] at hp
      cases hp
theorem FactsAt.same {H H' : Hp} {df : Addr} {W : Wd} {hw : Option Addr} {br : Option V} (h : FactsAt H df W hw br) (e : Same H H') : FactsAt H' df W hw br :=
  ⟨e _ _ h.ob, fun k hk => let ⟨l, z⟩ := h.kn k hk; ⟨l, e _ _ z.ob, z.nd, z.ok⟩⟩
theorem FactsAt.ne {H : Hp} {df : Addr} {W : Wd} {hw : Option Addr} {br : Option V} (h : FactsAt H df W hw br) : H df ≠ none := by rw [h.ob]; simp
/-- an object that is no such dict stays -/
theorem FStep.nod {df L : Addr} {H H' : Hp} {W : Wd} {hw hw' : Option Addr} {br : Option V} {o : HO} (s : FStep df H hw H' hw') (f : FactsAt H df W hw br) (h : H L = some o) (n : ∀ kvs, o ≠ .dK kvs) : H' L = some o :=
  s.but L o (fun e => by
    subst e
    rw [f.ob] at h
    exact n _ (Option.some.inj h).symm) (fun e => by
    obtain ⟨l, z⟩ := f.kn L e
    rw [z.ob] at h
    exact n _ (Option.some.inj h).symm) h
theorem FactsAt.step {df : Addr} {H H' : Hp} {W : Wd} {hw : Option Addr} {br : Option V} (h : FactsAt H df W hw br) (e : Same H H') {H0 : Hp} {h0 : Option Addr} (s : FStep df H0 h0 H hw) : FStep df H0 h0 H' hw := s.trans (FStep.of_same e) h.ne
/-- a hand and its facts, some steps on -/
structure HFAt (K : Frg) (H0 : Hp) (h0 : Option Addr) (H : Hp) (a df : Addr) (W : Wd) (br : Option V) : Prop where
  ex : ∃ hw, HandAt K H a df W ∧ FactsAt H df W hw br ∧ FStep df H0 h0 H hw
theorem Wd.Ok.nbr_lt {W : Wd} (ok : W.Ok) {v w : Nat} (h : nbr W.ties v w) : v < W.many ∧ w < W.many := by
  rcases h with h | h
  · have := ok.tie _ h
    simp only at this
    omega
  · have := ok.tie _ h
    simp only at this
    omega
/-- a list of pairs under way -/
structure PairsAt (B H : Hp) (D : Addr) (n : Nat) (R : Nat × Nat → Prop) : Prop where
  sm : Same B H
  ex : ∃ acc cs, H D = some (.lst acc) ∧ Prs H acc cs ∧ acc.length ≤ n ∧ ∀ p, p ∈ cs ↔ R p
theorem PairsAt.start {B H : Hp} {D : Addr} {R : Nat × Nat → Prop} (s : Same B H) (hD : H D = none) (hB : B D = none) (h : ∀ p, ¬ R p) : PairsAt B (L2.upd H D (.lst [])) D 0 R :=
  ⟨s.mut hB, [], [], upd_same, ⟨rfl, fun i p hp => by simp at hp⟩, Nat.le_refl _, fun p => by simp [h p]⟩
theorem PairsAt.mono {B H : Hp} {D : Addr} {n m : Nat} {R S : Nat × Nat → Prop} (h : PairsAt B H D n R) (hn : n ≤ m) (e : ∀ p, R p ↔ S p) : PairsAt B H D m S := by
  obtain ⟨acc, cs, h1, h2, h3, h4⟩ := h.ex
  exact ⟨h.sm, acc, cs, h1, h2, Nat.le_trans h3 hn, fun p => by rw [h4, e]⟩
theorem PairsAt.same {B H H' : Hp} {D : Addr} {n : Nat} {R : Nat × Nat → Prop} (h : PairsAt B H D n R) (e : Same H H') : PairsAt B H' D n R := by
  obtain ⟨acc, cs, h1, h2, h3, h4⟩ := h.ex
  exact ⟨h.sm.trans e, acc, cs, e _ _ h1, h2.same e, h3, h4⟩
theorem PairsAt.add {B H : Hp} {D t : Addr} {n : Nat} {R : Nat × Nat → Prop} (h : PairsAt B H D n R) (hB : B D = none) {x y : Nat} (ht : H t = some (.tup [vn x, vn y])) (hn : n < 99999) : ∃ acc, H D = some (.lst acc) ∧ acc.length < sizeLine ∧ PairsAt B (L2.upd H D (.lst (acc ++ [.ref t]))) D (n + 1) fun p => R p ∨ p = (x, y) := by
  obtain ⟨acc, cs, h1, h2, h3, h4⟩ := h.ex
  have ht' : L2.upd H D (.lst (acc ++ [.ref t])) t = some (.tup [vn x, vn y]) := by rw [upd_ne (ne_of ht h1 fun z => by cases z)]; exact ht
  refine ⟨acc, h1, szt (by omega), h.sm.mut hB, acc ++ [.ref t], cs ++ [(x, y)], upd_same, (h2.upd h1).snoc ht', by rw [List.length_append]; simp; omega, fun p => ?_⟩
  rw [List.mem_append, h4]
  simp
section
variable {P : Program} {w : World} {K : Frg} {mg : Str → Option Value} {base : Heap}
def spChanges (K : Frg) : Sp := fun vs H Q _ => ∃ (a df : Addr) (W : Wd), vs = [.ref a] ∧ HandAt K H a df W ∧ W.Ok ∧ ∀ L xs cs H', H L = none → Same H H' → H' L = some (.lst xs) → Prs H' xs cs → (∀ p, p ∈ cs ↔ nbr W.ties p.1 p.2) → Q (.ref L) H'
theorem cal_changes_of (T : Txt K mg) : C8.Cal P w K mg base 2 "changes_of" (spChanges K) [] := by
  refine mkCal T.d_changes_of sc_changes_of (fun _ _ _ _ _ _ us hl => match us, hl with | [_], _ => rfl) (fun vs H Q E h => ?_) (fun f cdv A outer s H vs Q E hr h => ?_)
  · obtain ⟨a, df, W, rfl, _⟩ := h
    rfl
  · have hu := hu_of hr
    obtain ⟨a, df, W, rfl, hA, ok, q⟩ := h
    obtain ⟨dx, wa, ba, tr, th, dm, a1, a2, a3, a4, a5⟩ := hA.ob
    refine ⟨_, (pss_one (ps_ret (pe_lc2 (own := [("v", 1), ("others", 2), ("w", 3)]) rfl sc_changes_of.nd (pi_enum rfl T.b_enumerate (pa_cons (C8.pe_c (cal_tied_of T) hr (by decide) rfl (pa_cons (k_fld (K := K) rfl (pv 0) rfl) pa_nil)) pa_nil)) (blkOk_by (N := N_changes_of) (sc := defScope s_changes_of) (by decide +kernel)) (vs1 := [3]) (by decide) (fun _ _ _ _ _ => (k_gtup (K := K) (n := 2) rfl rfl (pgs_cons (pg_name (i := 1) sc_changes_of.nd rfl (Or.inl rfl)) (pgs_cons (pg_name (i := 2) sc_changes_of.nd rfl (Or.inl rfl)) pgs_nil)))) (fun _ _ _ _ _ => pts_nil) (fun _ _ _ _ _ => (k_tuple (K := K) rfl (pv 2))) (fun _ _ _ _ _ => (pg_name (i := 3) sc_changes_of.nd rfl (Or.inl rfl))) (fun _ _ _ _ _ => pts_nil) (fun _ _ _ _ _ => (pe_tup (pa_cons (pv 1) (pa_cons (pv 3) pa_nil))))))), ?_⟩
    walk_at "sd"
    simp only [tLc2, iEnum]
    walk_at "sd"
    refine q_fld a1 T.i_Hand.cl T.n_Hand_kept_book fldH_book ?_
    refine ⟨ba, W.many, W.ties, rfl, a2, fun L0 hA0 => ?_⟩
    obtain ⟨ys, y1, y2, y3⟩ := hA0.ex
    refine ⟨L0, rfl, ys, Or.inl (Or.inl y1), fun D hD => ?_⟩
    have n8 := ok.many8
    refine ⟨fun i m H1 => m = W.many - i ∧ i ≤ W.many ∧ PairsAt H H1 D (100 * i) fun p => p.1 < i ∧ nbr W.ties p.1 p.2, ⟨_, rfl, Nat.zero_le _, PairsAt.start (L2.Same.refl _) hD hD fun p => by simp⟩, ?_⟩
    rintro i m H1 ⟨rfl, hi, c⟩
    have s1 := c.sm
    by_cases hlt : i < W.many
    · obtain ⟨r, l, r1, r2, r3, r4⟩ := y3 i hlt
      refine Or.inr ⟨⟨ys, _, Or.inl (Or.inl (s1 _ _ y1)), r1⟩, fun H' => PairsAt H H' D (100 * (i + 1)) fun p => p.1 < i + 1 ∧ nbr W.ties p.1 p.2, fun H' z => ⟨W.many - (i + 1), by omega, rfl, hlt, z⟩, fun x H2 hx => ?_⟩
      obtain ⟨t, x2, rfl, ht, rfl, hx2⟩ := hx
      have e2 := hx2 ys (Or.inl (Or.inl (s1 _ _ y1)))
      rw [r1] at e2
      cases e2
      have st : Same H1 (L2.upd H1 t (.tup [vn i, .ref r])) := L2.Same.new ht
      refine g_pair upd_same ?_
      refine ⟨rfl, ?_⟩
      walk_at "sd"
      refine ⟨_, rfl, r, rfl, ⟨_, Or.inl (Or.inl (st _ _ (s1 _ _ r2)))⟩, ?_⟩
      refine ⟨fun j k H3 => k = l.length - j ∧ j ≤ l.length ∧ PairsAt H H3 D (100 * i + j) fun p => (p.1 < i ∧ nbr W.ties p.1 p.2) ∨ (p.1 = i ∧ p.2 ∈ l.take j),
        ⟨_, rfl, Nat.zero_le _, (c.same st).mono (by omega) fun p => by simp⟩, ?_⟩
      rintro j k H3 ⟨rfl, hj, d⟩
      have s3 := d.sm
      have hsq : SqT K H3 r (l.map vn) := Or.inl (Or.inl (s3 _ _ r2))
      by_cases hjl : j < l.length
      · have hlj : l[j]? = some l[j] := List.getElem?_eq_getElem hjl
        refine Or.inr ⟨⟨_, _, hsq, by rw [List.getElem?_map, hlj]; rfl⟩, fun H' => PairsAt H H' D (100 * i + (j + 1)) fun p => (p.1 < i ∧ nbr W.ties p.1 p.2) ∨ (p.1 = i ∧ p.2 ∈ l.take (j + 1)), fun H' z => ⟨l.length - (j + 1), by omega, rfl, hjl, z⟩, fun x H4 hx => ?_⟩
        obtain ⟨rfl, hx4⟩ := hx
        have e4 := hx4 _ hsq
        rw [List.getElem?_map, hlj] at e4
        cases e4
        walk_at "sd"
        refine ⟨by decide, fun p hp => ?_⟩
        obtain ⟨acc, z1, z2, z3⟩ := (d.same (L2.Same.new (o := .tup [vn i, vn l[j]]) hp)).add hD upd_same (by omega)
        refine ⟨acc, z1, z2, z3.mono (by omega) fun p => ?_⟩
        rw [List.take_add_one, hlj]
        obtain ⟨p1, p2⟩ := p
        simp only [List.mem_append, Option.toList, List.mem_singleton, Prod.mk.injEq]
        constructor
        · rintro ((z | z) | z)
          · exact Or.inl z
          · exact Or.inr ⟨z.1, Or.inl z.2⟩
          · exact Or.inr ⟨z.1, Or.inr z.2⟩
        · rintro (z | ⟨z1, z | z⟩)
          · exact Or.inl (Or.inl z)
          · exact Or.inl (Or.inr ⟨z1, z⟩)
          · exact Or.inr ⟨z1, z⟩
      · have e : j = l.length := by omega
        subst e
        refine Or.inl ⟨⟨_, hsq, by rw [List.length_map]; exact Nat.le_refl _⟩, d.mono (by omega) fun p => ?_⟩
        rw [List.take_length]
        constructor
        · rintro (⟨z1, z2⟩ | ⟨z1, z2⟩)
          · exact ⟨by omega, z2⟩
          · exact ⟨by omega, by rw [z1]; exact (r4 _).mp z2⟩
        · rintro ⟨z1, z2⟩
          by_cases z3 : p.1 = i
          · exact Or.inr ⟨z3, (r4 _).mpr (z3 ▸ z2)⟩
          · exact Or.inl ⟨by omega, z2⟩
    · have e : i = W.many := by omega
      subst e
      obtain ⟨acc, cs, c1, c2, _, c4⟩ := c.ex
      refine Or.inl ⟨⟨ys, Or.inl (Or.inl (s1 _ _ y1)), by omega⟩, q D acc cs H1 hD s1 c1 c2 fun p => ?_⟩
      rw [c4]
      exact ⟨fun z => z.2, fun z => ⟨(ok.nbr_lt z).1, z⟩⟩
def spBreak (K : Frg) : Sp := fun vs H Q _ => ∃ (a df : Addr) (W : Wd) (v x : Nat) (hw : Option Addr), vs = [.ref a, vn v, vn x] ∧ HandAt K H a df W ∧ FactsAt H df W hw none ∧ W.Ok ∧ v < W.many ∧ x < W.many ∧
  ∀ r H' hw', HandAt K H' a df W → FactsAt H' df W hw' none → FStep df H hw H' hw' → (r = .non ↔ ChangeOk W v x) → Q r H'
theorem cal_break_of (T : Txt K mg) : C8.Cal P w K mg base 3 "break_of" (spBreak K) [] := by
  refine mkCal T.d_break_of sc_break_of (fun _ _ _ _ _ _ us hl => match us, hl with | [_, _, _], _ => rfl) (fun vs H Q E h => ?_) (fun f cdv A outer s H vs Q E hr h => ?_)
  · obtain ⟨a, df, W, v, x, hw, rfl, _⟩ := h
    rfl
  · have hu := hu_of hr
    obtain ⟨a, df, W, v, x, hw, rfl, hA, hF, ok, hv, hx, q⟩ := h
    refine ⟨_, (pss_cons (ps_asg (C8.pe_c (cal_order_moments T) hr (by decide) rfl (pa_cons (pv 0) (pa_cons (pv 1) (pa_cons (pv 2) pa_nil)))) (k_gtup (K := K) (n := 2) rfl rfl (pgs_cons (pg_name (i := 3) sc_break_of.nd rfl (Or.inl rfl)) (pgs_cons (pg_name (i := 4) sc_break_of.nd rfl (Or.inl rfl)) pgs_nil))))
      (pss_cons (ps_if (pt_not (pt_val (pv 4))) (pss_one (ps_ret (pe_tup (pa_cons (pv 1) (pa_cons (pv 2) (pa_cons pe_non pa_nil)))))) pss_nil)
      (pss_cons (ps_for PassesOwn.never rfl (pi_enum rfl T.b_enumerate (pa_cons (pv 3) pa_nil)) (k_gtup (K := K) (n := 2) rfl rfl (pgs_cons (pg_name (i := 5) sc_break_of.nd rfl (Or.inl rfl)) (pgs_cons (pg_name (i := 6) sc_break_of.nd rfl (Or.inl rfl)) pgs_nil))) (pss_one (ps_if (pt_not (pt_val (C8.pe_c (cal_homeward T) hr (by decide) rfl (pa_cons (pv 0) (pa_cons (pv 6) pa_nil))))) (pss_one (ps_ret (pe_tup (pa_cons (pv 1) (pa_cons (pv 2) (pa_cons (pv 5) pa_nil)))))) pss_nil)))
      (pss_one (ps_ret pe_non))))), ?_⟩
    walk_at "sd"
    refine ⟨a, df, W, v, x, rfl, hA, ok, hv, hx, fun t L found b H1 ht hL s1 h1 h2 hy hn hlt => ?_⟩
    refine g_pair h1 ?_
    walk_at "sd"
    cases b with
    | false =>
      walk_at "sd"
      refine ⟨by decide, fun u hu0 => ?_⟩
      have su := s1.trans (L2.Same.new (o := .tup [vn v, vn x, .non]) hu0)
      exact q _ _ hw (hA.same su) (hF.same su) (FStep.of_same su) ⟨(fun e => by cases e), fun ⟨p, h, z1, z2, z3, z4, _⟩ => absurd ⟨h, z1, z2, z3, z4⟩ (hn rfl p)⟩
    | true =>
      walk_at "sd"
      obtain ⟨hm, y1, y2, y3, y4⟩ := hy rfl
      refine ⟨_, rfl, L, _, rfl, Or.inl (Or.inl h2), ?_⟩
      refine for_enum (K := K) (a := L) (xs := found.map vn) (fun i σ H2 => ∃ o5 o6, σ = [some (V.ref a), some (vn v), some (vn x), some (V.ref L), some (V.bl true), o5, o6] ∧ HFAt K H hw H2 a df W none ∧ H2 L = some (.lst (found.map vn)) ∧ ∀ s ∈ found.take i, HomeOk W s)
        ⟨none, none, rfl, ⟨hw, hA.same s1, hF.same s1, FStep.of_same s1⟩, h2, by simp⟩ (fun i σ H2 _ ⟨_, _, _, _, z, _⟩ => z) (fun i y σ H2 T2 hy2 ⟨o5, o6, e, ⟨hw2, g1, g2, g3⟩, g4, g5⟩ hT => ?_) fun σ H2 ⟨o5, o6, e, ⟨hw2, g1, g2, g3⟩, g4, g5⟩ => ?_
      · subst e
        rw [List.getElem?_map] at hy2
        cases hk : found[i]? with
        | none => rw [hk] at hy2; cases hy2
        | some s =>
          rw [hk] at hy2
          cases hy2
          have sT : Same H2 (L2.upd H2 T2 (.tup [vn i, vn s])) := L2.Same.new hT
          have tk : found.take (i + 1) = found.take i ++ [s] := by rw [List.take_add_one, hk]; rfl
          refine g_pair upd_same ?_
          walk_at "sd"
          refine ⟨a, df, W, s, hw2, rfl, g1.same sT, g2.same sT, ok, hlt s (List.mem_of_getElem? hk), fun b3 H3 hw3 k1 k2 k3 k4 => ?_⟩
          have st3 : FStep df H hw H3 hw3 := (g2.step sT g3).trans k3 (g2.same sT).ne
          cases b3 with
          | false =>
            walk_at "sd"
            refine ⟨by decide, fun u hu0 => ?_⟩
            have su := L2.Same.new (o := .tup [vn v, vn x, vn i]) hu0
            refine q _ _ hw3 (k1.same su) (k2.same su) (k2.step su st3) ⟨(fun e => by cases e), fun ⟨p, h, z1, z2, z3, z4, z5⟩ => ?_⟩
            have e2 := z1.uniq y1 (by rw [z3, y3, ← z2, ← y2])
            subst e2
            exact absurd (k4.mpr (z5 s (List.mem_of_getElem? hk))) (by decide)
          | true =>
            walk_at "sd"
            refine ⟨⟨hw3, k1, k2, st3⟩, ?_, ?_⟩
            · exact k3.nod (g2.same sT) (sT _ _ g4) (fun _ z => by cases z)
            · intro z hz
              rw [tk] at hz
              rcases List.mem_append.mp hz with hz | hz
              · exact g5 z hz
              · rw [List.mem_singleton.mp hz]
                exact k4.mp rfl
      · subst e
        walk_at "sd"
        rw [List.length_map, List.take_length] at g5
        exact q _ _ hw2 g1 g2 g3 ⟨fun _ => ⟨found, hm, y1, y2, y3, y4, g5⟩, fun _ => rfl⟩
/-- the break that is kept -/
def BrOk (W : Wd) (br : Option V) : Prop := ∀ r, br = some r → (r = .non ↔ Due W)
def spFind (K : Frg) : Sp := fun vs H Q _ => ∃ (a df : Addr) (W : Wd) (hw : Option Addr) (br : Option V), vs = [.ref a] ∧ HandAt K H a df W ∧ FactsAt H df W hw br ∧ BrOk W br ∧ W.Ok ∧
  ∀ r H' hw', HandAt K H' a df W → FactsAt H' df W hw' (some r) → FStep df H hw H' hw' → (r = .non ↔ Due W) → Q r H'
theorem fk_none {hw : Option V} : valV (fkOf hw none) (Sum.inr "break") = none := fk_b
theorem HandAt.putF {K : Frg} {H : Hp} {a df : Addr} {W : Wd} {hw br : Option V} {o : HO} (h : HandAt K H a df W) (hd : H df = some (.dK (fkOf hw br))) : HandAt K (L2.upd H df o) a df W :=
  (h.del hd (fk_ne _ _)).same ((del_same _ _).mut (del_none _ _))
theorem cal_find_break (T : Txt K mg) : C8.Cal P w K mg base 4 "find_break" (spFind K) [] := by
  refine mkCal T.d_find_break sc_find_break (fun _ _ _ _ _ _ us hl => match us, hl with | [_], _ => rfl) (fun vs H Q E h => ?_) (fun f cdv A outer s H vs Q E hr h => ?_)
  · obtain ⟨a, df, W, hw, br, rfl, _⟩ := h
    rfl
  · have hu := hu_of hr
    obtain ⟨a, df, W, hw, br, rfl, hA, hF, hB, ok, q⟩ := h
    obtain ⟨dx, wa, ba, tr, th, dm, a1, a2, a3, a4, a5⟩ := hA.ob
    refine ⟨_, (pss_cons (ps_set (i := 1) sc_find_break.nd rfl (Or.inl rfl) (k_fld (K := K) rfl (pv 0) rfl))
      (pss_cons (ps_if (pt_cmp (pc_dnotin hu pe_str (pv 1))) (pss_cons (ps_set (i := 2) sc_find_break.nd rfl (Or.inl rfl) pe_non)
        (pss_cons (ps_for PassesOwn.never rfl (k_list (K := K) rfl (C8.pe_c (cal_changes_of T) hr (by decide) rfl (pa_cons (pv 0) pa_nil))) (k_gtup (K := K) (n := 2) rfl rfl (pgs_cons (pg_name (i := 3) sc_find_break.nd rfl (Or.inl rfl)) (pgs_cons (pg_name (i := 4) sc_find_break.nd rfl (Or.inl rfl)) pgs_nil))) (pss_cons (ps_set (i := 2) sc_find_break.nd rfl (Or.inl rfl) (C8.pe_c (cal_break_of T) hr (by decide) rfl (pa_cons (pv 0) (pa_cons (pv 3) (pa_cons (pv 4) pa_nil)))))
          (pss_one (ps_if (pt_cmpR op_notN (pv 2) pe_non (nomark _)) (pss_one ps_break) pss_nil))))
        (pss_one (ps_dput hu (pv 1) pe_str (pv 2) rfl)))) pss_nil)
      (pss_one (ps_ret (pe_dget hu (pv 1) pe_str (fun _ _ => rfl)))))), ?_⟩
    walk_at "sd"
    refine q_fld a1 T.i_Hand.cl T.n_Hand_kept_facts fldH_facts ?_
    refine ⟨df, rfl, ?_⟩
    walk_at "sd"
    cases br with
    | some r =>
      refine ⟨some r, q_get (k := Sum.inr "break") hF.ob fk_b, ?_⟩
      rw [if_neg (fun z => by cases z)]
      exact ⟨r, q_get (k := Sum.inr "break") hF.ob fk_b, q r H hw hA hF (FStep.refl _ _ _) (hB r rfl)⟩
    | none =>
      refine ⟨none, q_none (k := Sum.inr "break") hF.ob fk_b, ?_⟩
      rw [if_pos (by rfl)]
      have fin : ∀ (r : V) (H2 : Hp), HFAt K H hw H2 a df W none → (r = .non ↔ Due W) → ∃ H4, DPut H2 df (.str "break") r H4 ∧ ∃ x, DGet H4 df (.str "break") (some x) ∧ Q x H4 := fun r H2 ⟨hw2, g1, g2, g3⟩ hr => by
        refine q_put (k := Sum.inr "break") g2.ob (fk_len _ _) fk_put_b ?_
        refine ⟨r, q_get (k := Sum.inr "break") upd_same fk_b, q r _ hw2 (g1.putF g2.ob) ⟨upd_same, fun k hk => ?_⟩ ⟨fun b o n1 n2 hb => ?_, g3.nw⟩ hr⟩
        · obtain ⟨l, z⟩ := g2.kn k hk
          refine ⟨l, ?_, z.nd, z.ok⟩
          rw [upd_ne (fun e => ?_)]
          · exact z.ob
          · have e1 := z.ob
            rw [e, g2.ob, hk] at e1
            exact fk_kn (HO.dK.inj (Option.some.inj e1))
        · rw [upd_ne n1]
          exact g3.but b o n1 n2 hb
      refine ⟨_, rfl, a, df, W, rfl, hA, ok, fun L xs cs H1 hL s1 h1 h2 h3 => ⟨L, rfl, ⟨xs, Or.inl (Or.inl h1)⟩, ?_⟩⟩
      refine for_list (K := K) (a := L) (xs := xs) (fun i σ H2 => ∃ o3 o4, σ = [some (V.ref a), some (V.ref df), some V.non, o3, o4] ∧ HFAt K H hw H2 a df W none ∧ H2 L = some (.lst xs) ∧ Prs H2 xs cs ∧ ∀ p ∈ cs.take i, ChangeOk W p.1 p.2)
        ⟨none, none, rfl, ⟨hw, hA.same s1, hF.same s1, FStep.of_same s1⟩, h1, h2, by simp⟩ (fun i σ H2 _ ⟨_, _, _, _, z, _⟩ => Or.inl (Or.inl z)) (fun i y σ H2 hy ⟨o3, o4, e, ⟨hw2, g1, g2, g3⟩, g4, g5, g6⟩ => ?_) fun σ H2 ⟨o3, o4, e, g1, g4, g5, g6⟩ => ?_
      · subst e
        obtain ⟨p, t, hp1, rfl, hpt⟩ := g5.of_x hy
        have pm := List.mem_of_getElem? hp1
        have pn := (h3 p).mp pm
        have tk : cs.take (i + 1) = cs.take i ++ [p] := by rw [List.take_add_one, hp1]; rfl
        refine g_pair hpt ?_
        walk_at "sd"
        refine ⟨a, df, W, p.1, p.2, hw2, rfl, g1, g2, ok, (ok.nbr_lt pn).1, (ok.nbr_lt pn).2, fun r H3 hw3 k1 k2 k3 k4 => ?_⟩
        have hf3 : HFAt K H hw H3 a df W none := ⟨hw3, k1, k2, g3.trans k3 g2.ne⟩
        dsimp only
        by_cases e : r = .non
        · rw [if_pos e]
          subst e
          refine ⟨rfl, hf3, k3.nod g2 g4 (fun _ z => by cases z), ⟨g5.len, fun j p2 hj => ?_⟩, fun p2 hp2 => ?_⟩
          · obtain ⟨b, b1, b2⟩ := g5.at_ j p2 hj
            exact ⟨b, b1, k3.nod g2 b2 (fun _ z => by cases z)⟩
          · rw [tk] at hp2
            rcases List.mem_append.mp hp2 with z | z
            · exact g6 p2 z
            · rw [List.mem_singleton.mp z]
              exact k4.mp rfl
        · rw [if_neg e]
          exact fin r H3 hf3 ⟨fun z => absurd z e, fun z => absurd (k4.mpr (z _ _ pn)) e⟩
      · subst e
        walk_at "sd"
        refine fin .non H2 g1 ⟨fun _ v x hvx => ?_, fun _ => rfl⟩
        rw [g5.len, List.take_length] at g6
        exact g6 (v, x) ((h3 (v, x)).mpr hvx)
def spKeeps (K : Frg) : Sp := fun vs H Q _ => ∃ (a df : Addr) (W : Wd) (hw : Option Addr) (br : Option V), vs = [.ref a] ∧ HandAt K H a df W ∧ FactsAt H df W hw br ∧ BrOk W br ∧ W.Ok ∧
  ∀ b r H' hw', HandAt K H' a df W → FactsAt H' df W hw' (some r) → FStep df H hw H' hw' → BrOk W (some r) → (b = true ↔ Due W) → Q (.bl b) H'
theorem cal_keeps (T : Txt K mg) : C8.Cal P w K mg base 5 "keeps" (spKeeps K) [] := by
  refine mkCal T.d_keeps sc_keeps (fun _ _ _ _ _ _ us hl => match us, hl with | [_], _ => rfl) (fun vs H Q E h => ?_) (fun f cdv A outer s H vs Q E hr h => ?_)
  · obtain ⟨a, df, W, hw, br, rfl, _⟩ := h
    rfl
  · have hu := hu_of hr
    obtain ⟨a, df, W, hw, br, rfl, hA, hF, hB, ok, q⟩ := h
    refine ⟨_, (pss_one (ps_ret (pe_cmpR op_isN (C8.pe_c (cal_find_break T) hr (by decide) rfl (pa_cons (pv 0) pa_nil)) pe_non (nomark _)))), ?_⟩
    walk_at "sd"
    refine ⟨a, df, W, hw, br, rfl, hA, hF, hB, ok, fun r H' hw' g1 g2 g3 g4 => ?_⟩
    walk_at "sd"
    refine q _ r H' hw' g1 g2 g3 (fun r2 e => by cases e; exact g4) ?_
    rw [decide_eq_true_eq]
    exact g4
end
end SL
/-! The dice. -/
namespace SL
open PySem PySem.Spec PyProof.Rows L2
theorem seq_mid {A B : TS} {D : Ends} {σ : L2.St} {H : Hp} (Pm : L2.St → Hp → Prop) (h1 : ∀ N : L2.St → Hp → Prop, (∀ σ H, Pm σ H → N σ H) → A { D with nx := N } σ H) (h2 : ∀ σ H, Pm σ H → B D σ H) : tSeq A B D σ H := h1 (B D) h2
theorem call_intI {X : Cx} : CallR X (.type "int") (fun xs H Q => ∃ i, xs = [.int i] ∧ Q (.int i) H) := fun pins s σ H xs us Q I r h => call_int1 pins s σ H xs us Q I r (Or.inl h)
theorem call_intB {X : Cx} : CallR X (.type "int") (fun xs H Q => ∃ k, xs = [.bl k] ∧ Q (.int (if k then 1 else 0)) H) := fun pins s σ H xs us Q I r h => call_int1 pins s σ H xs us Q I r (Or.inr h)
/-- the dice at l -/
structure DiceAt (H : Hp) (l : Addr) : Prop where
  ob : ∃ (lc : Addr) (ns : List Int) (i : Nat) (b st cnt : Int), H l = some (.lst [.ref lc, vn i, .int b, .int st, .int cnt]) ∧ H lc = some (.lst (ns.map V.int)) ∧ ns.length ≤ 100 ∧ 0 ≤ st ∧ st < 2147483648
theorem DiceAt.same {H H' : Hp} {l : Addr} (h : DiceAt H l) (e : Same H H') : DiceAt H' l := by
  obtain ⟨lc, ns, i, b, st, cnt, h1, h2, h3⟩ := h.ob
  exact ⟨lc, ns, i, b, st, cnt, e _ _ h1, e _ _ h2, h3⟩
theorem dice_ne {H : Hp} {l lc : Addr} {ns : List Int} {r : List V} (h1 : H l = some (.lst (.ref lc :: r))) (h2 : H lc = some (.lst (ns.map V.int))) : lc ≠ l := fun e => by
  rw [e, h1] at h2
  have := HO.lst.inj (Option.some.inj h2)
  cases ns with
  | nil => cases this
  | cons a r =>
    rw [List.map_cons] at this
    cases (List.cons.inj this).1
/-- the dice, changed -/
theorem DiceAt.put {H : Hp} {l lc : Addr} {ns : List Int} {r : List V} {i : Nat} {b st cnt : Int} (h1 : H l = some (.lst (.ref lc :: r))) (h2 : H lc = some (.lst (ns.map V.int))) (hl : ns.length ≤ 100) (h3 : 0 ≤ st) (h4 : st < 2147483648) :
    DiceAt (upd H l (.lst [.ref lc, vn i, .int b, .int st, .int cnt])) l := ⟨lc, ns, i, b, st, cnt, upd_same, by rw [upd_ne (dice_ne h1 h2)]; exact h2, hl, h3, h4⟩
/-- the dice over a base that does not know them; lc: the cells -/
structure DSt (B H : Hp) (l lc : Addr) : Prop where
  sm : Same B H
  nl : B l = none
  cl : ∃ ns : List Int, B lc = some (.lst (ns.map V.int)) ∧ ns.length ≤ 100
  ob : ∃ (i : Nat) (b st cnt : Int), H l = some (.lst [.ref lc, vn i, .int b, .int st, .int cnt]) ∧ 0 ≤ st ∧ st < 2147483648
theorem DSt.start {H : Hp} {l : Addr} (h : DiceAt H l) : ∃ lc, DSt (SL.del H l) H l lc := by
  obtain ⟨lc, ns, i, b, st, cnt, h1, h2, h3, h4⟩ := h.ob
  exact ⟨lc, del_same _ _, del_none _ _, ⟨ns, del_at h2 (dice_ne h1 h2), h3⟩, i, b, st, cnt, h1, h4⟩
theorem DSt.di {B H : Hp} {l lc : Addr} (h : DSt B H l lc) : DiceAt H l := by
  obtain ⟨ns, c1, c2⟩ := h.cl
  obtain ⟨i, b, st, cnt, h1, h2⟩ := h.ob
  exact ⟨lc, ns, i, b, st, cnt, h1, h.sm _ _ c1, c2, h2⟩
theorem DSt.same {B H H' : Hp} {l lc : Addr} (h : DSt B H l lc) (e : Same H H') : DSt B H' l lc := by
  obtain ⟨i, b, st, cnt, h1, h2⟩ := h.ob
  exact ⟨h.sm.trans e, h.nl, h.cl, i, b, st, cnt, e _ _ h1, h2⟩
theorem DSt.mut {B H : Hp} {l lc p : Addr} {o : HO} (h : DSt B H l lc) (hp : B p = none) (hl : p ≠ l) : DSt B (upd H p o) l lc := by
  obtain ⟨i, b, st, cnt, h1, h2⟩ := h.ob
  exact ⟨h.sm.mut hp, h.nl, h.cl, i, b, st, cnt, by rw [upd_ne hl.symm]; exact h1, h2⟩
/-- nothing changes but the dice -/
def Dn (l : Addr) (H H' : Hp) : Prop := ∀ B lc, DSt B H l lc → DSt B H' l lc
theorem Dn.refl (l : Addr) (H : Hp) : Dn l H H := fun _ _ h => h
theorem Dn.trans {l : Addr} {H H1 H2 : Hp} (a : Dn l H H1) (b : Dn l H1 H2) : Dn l H H2 := fun B lc h => b B lc (a B lc h)
theorem Dn.of_same {l : Addr} {H H' : Hp} (e : Same H H') : Dn l H H' := fun _ _ h => h.same e
theorem Dn.same {l : Addr} {H H1 H2 : Hp} (a : Dn l H H1) (e : Same H1 H2) : Dn l H H2 := a.trans (Dn.of_same e)
theorem Dn.mut {l p : Addr} {H H1 : Hp} {o : HO} (a : Dn l H H1) (hp : H p = none) : Dn l H (upd H1 p o) := fun B lc h => by
  obtain ⟨i, b, st, cnt, h1, h2⟩ := h.ob
  exact (a B lc h).mut (h.sm.fr hp) fun e => by rw [e, h1] at hp; cases hp
theorem Dn.di {l : Addr} {H H' : Hp} (a : Dn l H H') (h : DiceAt H l) : DiceAt H' l := let ⟨_, d⟩ := DSt.start h; (a _ _ d).di
theorem Dn.sm {l : Addr} {H H' : Hp} (a : Dn l H H') (h : DiceAt H l) : Same (SL.del H l) H' := let ⟨_, d⟩ := DSt.start h; (a _ _ d).sm
theorem Dn.keep {l b : Addr} {o : HO} {H H' : Hp} (a : Dn l H H') (h : DiceAt H l) (n : b ≠ l) (e : H b = some o) : H' b = some o := a.sm h _ _ (del_at e n)
theorem Dn.fr {l b : Addr} {H H' : Hp} (a : Dn l H H') (h : DiceAt H l) (e : H' b = none) : H b = none := by
  cases k : H b with
  | none => rfl
  | some o =>
    by_cases n : b = l
    · subst n
      obtain ⟨lc, ns, i, b, st, cnt, h1, h2⟩ := (a.di h).ob
      rw [e] at h1
      cases h1
    · rw [a.keep h n k] at e
      cases e
theorem dice_nl {H : Hp} {l b : Addr} (h : DiceAt H l) (e : H b = none) : b ≠ l := fun z => by
  obtain ⟨lc, ns, i, b, st, cnt, h1, h2⟩ := h.ob
  rw [z, h1] at e
  cases e
theorem Dn.put {H : Hp} {l lc : Addr} {i i2 : Nat} {b st cnt b2 st2 cnt2 : Int} (h1 : H l = some (.lst [.ref lc, vn i, .int b, .int st, .int cnt])) (h4 : 0 ≤ st2) (h5 : st2 < 2147483648) : Dn l H (upd H l (.lst [.ref lc, vn i2, .int b2, .int st2, .int cnt2])) := fun B lc2 d => by
  obtain ⟨i', b', st', cnt', k1, _⟩ := d.ob
  rw [h1] at k1
  have e := V.ref.inj (List.cons.inj (HO.lst.inj (Option.some.inj k1))).1
  subst e
  exact ⟨d.sm.mut d.nl, d.nl, d.cl, _, _, _, _, upd_same, h4, h5⟩
theorem ixN_nat2 {n j : Nat} (hj : j < n) : ixN n (j : Int) = some j := by
  unfold ixN
  rw [if_pos (by omega), if_pos (by omega)]
  simp
theorem q_set {H : Hp} {Q : Hp → Prop} {p : Addr} {xs xs' : List V} {i : Nat} {v : V} (h : H p = some (.lst xs)) (hi : i < xs.length) (e : xs.set i v = xs') (q : Q (upd H p (.lst xs'))) : rSetL (.ref p) (vn i) v H Q :=
  ⟨p, xs, _, i, rfl, rfl, h, ixN_nat2 hi, by rw [e]; exact q⟩
theorem fmod_pos {a m : Int} (h : 0 < m) : 0 ≤ a.fmod m ∧ a.fmod m < m := by
  rw [Int.fmod_eq_emod_of_nonneg a (by omega)]
  exact ⟨Int.emod_nonneg _ (by omega), Int.emod_lt_of_pos _ h⟩
section
variable {P : Program} {w : World} {K : Frg} {mg : Str → Option Value} {base : Heap}
def spDice (K : Frg) : Sp := fun vs H Q _ => ∃ (a : Addr) (ns : List Int), vs = [.ref a] ∧ SqL K H a (ns.map V.int) ∧ ns.length ≤ 63 ∧ ∀ l H', DiceAt H' l → H l = none → Same H H' → Q (.ref l) H'
theorem cal__law_dice (T : Txt K mg) : C8.Cal P w K mg base 1 "_law_dice" (spDice K) [] := by
  refine mkCal T.d__law_dice sc__law_dice (fun _ _ _ _ _ _ us hl => match us, hl with | [_], _ => rfl) (fun vs H Q E h => ?_) (fun f cdv A outer s H vs Q E hr h => ?_)
  · obtain ⟨a, ns, rfl, _⟩ := h
    rfl
  · have hu := hu_of hr
    obtain ⟨a, ns, rfl, ha, hl, q⟩ := h
    refine ⟨_, (pss_one (ps_ret (pe_lst (pa_cons (pe_lc (own := [("_law_cell", 1)]) rfl sc__law_dice.nd (k_list (K := K) rfl (pe_slice (k_slL (K := K) rfl) (pv 0) po_none (po_some pe_int))) (blkOk_by (N := N__law_dice) (sc := defScope s__law_dice) (by decide +kernel)) (fun _ _ _ _ _ => (pg_name (i := 1) sc__law_dice.nd rfl (Or.inl rfl))) (fun _ _ _ _ _ => pts_nil) (fun _ _ _ _ _ => (pe_callB call_abs (by rfl) T.b_abs (by decide +kernel) (pa_cons (pe_callTy call_intI (by rfl) T.b_int (by decide +kernel) (pa_cons (pv 1) pa_nil)) pa_nil)))) (pa_cons pe_int (pa_cons pe_int (pa_cons pe_int (pa_cons pe_int pa_nil)))))))), ?_⟩
    walk_at "sd"
    refine ⟨_, rfl, _, rfl, a, _, rfl, ha, fun p hp => ?_⟩
    have sp : Same H (upd H p (.lst (cutV (ns.map V.int) none (some 63)))) := L2.Same.new hp
    have ec : cutV (ns.map V.int) none (some 63) = ns.map V.int := by
      unfold cutV
      rw [HT.sIx_none, List.drop_zero, List.take_of_length_le]
      show _ ≤ min 63 _ - 0
      rw [List.length_map]
      omega
    rw [ec] at sp ⊢
    refine ⟨p, rfl, ⟨_, Or.inl (Or.inl upd_same)⟩, fun D hD => ?_⟩
    refine lcL (B := upd H p (.lst (ns.map V.int))) (xs := ns.map V.int) (fun k y _ => ∃ z : Int, y = .int z) (L2.Same.refl _) hD (Or.inl (Or.inl upd_same)) (by rw [List.length_map]; omega) (fun _ _ _ _ _ z => z) (fun x => rfl) (fun i x H2 hx s2 nD N hN => ?_) fun H2 ys s2 hy hl2 hR => ?_
    · rw [List.getElem?_map] at hx
      cases hk : ns[i]? with
      | none => rw [hk] at hx; cases hx
      | some z =>
        rw [hk] at hx
        cases hx
        walk_at "sd"
        exact hN _ _ (L2.Same.refl _) ⟨_, rfl⟩
    · have sD : Same H H2 := sp.trans s2
      refine ⟨by decide, fun l hl0 => ?_⟩
      obtain ⟨zs, hz⟩ : ∃ zs : List Int, ys = zs.map V.int := ⟨ys.map fun v => match v with | .int z => z | _ => 0, by
        rw [List.map_map]
        refine (List.map_id ys).symm.trans (List.map_congr_left fun v hv => ?_)
        obtain ⟨i, hi⟩ := List.mem_iff_getElem?.mp hv
        obtain ⟨z, e⟩ := hR i v hi
        subst e
        rfl⟩
      subst hz
      exact q l _ ⟨D, zs, 0, 0, 1, 0, upd_same, by rw [upd_ne (ne_of_none hy hl0)]; exact hy, by rw [List.length_map, List.length_map] at hl2; omega, by decide, by decide⟩ (sD.fr hl0) (sD.trans (L2.Same.new hl0))
/-- one throw; n: how many sides -/
def spDraw : Sp := fun vs H Q _ => ∃ (l : Addr) (n : Nat), vs = [.ref l, vn n] ∧ DiceAt H l ∧ 1 ≤ n ∧ n ≤ 100000 ∧ ∀ d H', d < n → DiceAt H' l → But (fun x => x = l) H H' → Dn l H H' → Q (vn d) H'
theorem cal__law_draw (T : Txt K mg) : C8.Cal P w K mg base 1 "_law_draw" spDraw [] := by
  refine mkCal T.d__law_draw sc__law_draw (fun _ _ _ _ _ _ us hl => match us, hl with | [_, _], _ => rfl) (fun vs H Q E h => ?_) (fun f cdv A outer s H vs Q E hr h => ?_)
  · obtain ⟨l, n, rfl, _⟩ := h
    rfl
  · have hu := hu_of hr
    obtain ⟨l, n, rfl, hD, hn1, hn, q⟩ := h
    refine ⟨_, (pss_cons (ps_if (PW.pt (pw_and (pt_cmpR op_eq (pe_ix (k_ixL (K := K) rfl) (pv 0) pe_int (fun _ _ => rfl)) pe_int (nomark _)) (pw_and1 (pt_cmpR op_lt (pe_ix (k_ixL (K := K) rfl) (pv 0) pe_int (fun _ _ => rfl)) (pe_callB (k_len (K := K) rfl) (by rfl) T.b_len (by decide +kernel) (pa_cons (pe_ix (k_ixL (K := K) rfl) (pv 0) pe_int (fun _ _ => rfl)) pa_nil)) (nomark _))))) (pss_cons (ps_set (i := 2) sc__law_draw.nd rfl (Or.inl rfl) (pe_ix (k_ixL (K := K) rfl) (pe_ix (k_ixL (K := K) rfl) (pv 0) pe_int (fun _ _ => rfl)) (pe_ix (k_ixL (K := K) rfl) (pv 0) pe_int (fun _ _ => rfl)) (fun _ _ => rfl)))
        (pss_cons (ps_asg (pe_op op_add (pe_ix (k_ixL (K := K) rfl) (pv 0) pe_int (fun _ _ => rfl)) pe_int) (pg_sub (pv 0) pe_int set_list))
        (pss_one (ps_if (pt_cmpR op_ge (pv 2) (pe_op op_pow pe_int pe_int) (nomark _)) (pss_one (ps_asg (pv 2) (pg_sub (pv 0) pe_int set_list))) (pss_one (ps_asg (pe_op op_modN (pe_callTy call_intI (by rfl) T.b_int (by decide +kernel) (pa_cons (pe_op op_add (pe_op op_add (pe_op op_mul (pe_ix (k_ixL (K := K) rfl) (pv 0) pe_int (fun _ _ => rfl)) pe_int) (pe_op op_mul (pv 2) pe_int)) (pe_ix (k_ixL (K := K) rfl) (pv 0) pe_int (fun _ _ => rfl))) pa_nil)) pe_int) (pg_sub (pv 0) pe_int set_list))))))) pss_nil)
      (pss_cons (ps_if (pt_cmpR op_gt (pe_ix (k_ixL (K := K) rfl) (pv 0) pe_int (fun _ _ => rfl)) pe_int (nomark _)) (pss_cons (ps_set (i := 3) sc__law_draw.nd rfl (Or.inl rfl) (pe_op op_modN (pe_callTy call_intI (by rfl) T.b_int (by decide +kernel) (pa_cons (pe_ix (k_ixL (K := K) rfl) (pv 0) pe_int (fun _ _ => rfl)) pa_nil)) (pv 1)))
        (pss_cons (ps_asg (pe_op op_fdivN (pe_callTy call_intI (by rfl) T.b_int (by decide +kernel) (pa_cons (pe_ix (k_ixL (K := K) rfl) (pv 0) pe_int (fun _ _ => rfl)) pa_nil)) (pv 1)) (pg_sub (pv 0) pe_int set_list))
        (pss_one (ps_ret (pv 3))))) pss_nil)
      (pss_cons (ps_asg (pe_op op_add (pe_ix (k_ixL (K := K) rfl) (pv 0) pe_int (fun _ _ => rfl)) pe_int) (pg_sub (pv 0) pe_int set_list))
      (pss_cons (ps_asg (pe_op op_modN (pe_callTy call_intI (by rfl) T.b_int (by decide +kernel) (pa_cons (pe_op op_add (pe_op op_add (pe_op op_mul (pe_ix (k_ixL (K := K) rfl) (pv 0) pe_int (fun _ _ => rfl)) pe_int) (pe_op op_mul (pe_ix (k_ixL (K := K) rfl) (pv 0) pe_int (fun _ _ => rfl)) pe_int)) pe_int) pa_nil)) pe_int) (pg_sub (pv 0) pe_int set_list))
      (pss_cons (ps_set (i := 4) sc__law_draw.nd rfl (Or.inl rfl) (pe_op op_modN (pe_callTy call_intI (by rfl) T.b_int (by decide +kernel) (pa_cons (pe_op op_mul (pe_ix (k_ixL (K := K) rfl) (pv 0) pe_int (fun _ _ => rfl)) (pe_op op_add (pe_op op_fdivN (pe_ix (k_ixL (K := K) rfl) (pv 0) pe_int (fun _ _ => rfl)) pe_int) pe_int)) pa_nil)) pe_int))
      (pss_cons (ps_set (i := 4) sc__law_draw.nd rfl (Or.inl rfl) (pe_op op_modN (pe_callTy call_intI (by rfl) T.b_int (by decide +kernel) (pa_cons (pe_op op_mul (pv 4) (pe_op op_add (pe_op op_fdivN (pv 4) pe_int) pe_int)) pa_nil)) pe_int))
      (pss_one (ps_ret (pe_op op_modN (pe_callTy call_intI (by rfl) T.b_int (by decide +kernel) (pa_cons (pe_op op_fdivN (pv 4) pe_int) pa_nil)) (pv 1)))))))))), ?_⟩
    refine seq_mid (fun σ H1 => ∃ o2, σ = [some (V.ref l), some (vn n), o2, none, none] ∧ DiceAt H1 l ∧ But (fun x => x = l) H H1 ∧ Dn l H H1) (fun N hN => ?_) (fun σ H1 hh => ?_)
    · obtain ⟨lc, ns, i, b, st, cnt, h1, h2, h3, h4, h5⟩ := hD.ob
      walk_at "sd"
      refine q_ixL (i := 2) h1 rfl ?_
      walk_at "sd"
      by_cases hb : b = 0
      case neg =>
        rw [if_neg hb]
        exact hN _ _ ⟨none, rfl, hD, But.refl _ _, Dn.refl _ _⟩
      rw [if_pos hb]
      refine q_ixL (i := 1) h1 rfl ?_
      refine q_ixL (i := 0) h1 rfl ?_
      refine ⟨lc, rfl, _, Or.inl (Or.inl (Or.inl h2)), i, rfl, ?_⟩
      by_cases hi : (i : Int) < ((ns.map V.int).length : Nat)
      case neg =>
        rw [if_neg hi]
        exact hN _ _ ⟨none, rfl, hD, But.refl _ _, Dn.refl _ _⟩
      rw [if_pos hi]
      have hi2 : i < ns.length := by rw [List.length_map] at hi; omega
      refine q_ixL (i := 0) h1 rfl ?_
      refine q_ixL (i := 1) h1 rfl ?_
      refine q_ixL (v := .int ns[i]) h2 (by rw [List.getElem?_map, List.getElem?_eq_getElem hi2]; rfl) ?_
      refine q_ixL (i := 1) h1 rfl ?_
      refine ⟨_, rfl, ?_⟩
      refine q_set (xs' := [.ref lc, vn (i + 1), .int b, .int st, .int cnt]) (i := 1) h1 (Nat.le_of_ble_eq_true rfl) rfl ?_
      have g1 : upd H l (.lst [.ref lc, vn (i + 1), .int b, .int st, .int cnt]) l = some (.lst [.ref lc, vn (i + 1), .int b, .int st, .int cnt]) := upd_same
      have g2 : upd H l (.lst [.ref lc, vn (i + 1), .int b, .int st, .int cnt]) lc = some (.lst (ns.map V.int)) := by rw [upd_ne (dice_ne h1 h2)]; exact h2
      have gb : But (fun x => x = l) H (upd H l (.lst [.ref lc, vn (i + 1), .int b, .int st, .int cnt])) := But.put rfl
      have gd : Dn l H (upd H l (.lst [.ref lc, vn (i + 1), .int b, .int st, .int cnt])) := Dn.put h1 h4 h5
      refine ⟨⟨by decide, by decide, by decide⟩, _, rfl, ?_⟩
      generalize upd H l (.lst [.ref lc, vn (i + 1), .int b, .int st, .int cnt]) = H1 at g1 g2 gb gd ⊢
      refine ite2 (fun _ => ?_) (fun _ => ?_)
      · refine q_set (i := 2) g1 (Nat.le_of_ble_eq_true rfl) rfl ?_
        exact hN _ _ ⟨_, rfl, DiceAt.put g1 g2 h3 h4 h5, gb.trans (But.put rfl), gd.trans (Dn.put g1 h4 h5)⟩
      · refine q_ixL (i := 3) g1 rfl ?_
        refine ⟨_, rfl, Or.inr ⟨by decide, by decide⟩, _, rfl, Or.inr ⟨by decide, by decide⟩, ?_⟩
        refine q_ixL (i := 1) g1 rfl ?_
        refine ⟨_, rfl, by decide, ?_⟩
        refine q_set (i := 3) g1 (Nat.le_of_ble_eq_true rfl) rfl ?_
        have z := fmod_pos (a := st * 69621 + ns[i] * 40692 + ((i + 1 : Nat) : Int)) (m := 2147483647) (by decide)
        exact hN _ _ ⟨_, rfl, DiceAt.put g1 g2 h3 z.1 (by omega), gb.trans (But.put rfl), gd.trans (Dn.put g1 z.1 (by omega))⟩
    · obtain ⟨o2, rfl, hD1, b1, n1⟩ := hh
      obtain ⟨lc, ns, i, b, st, cnt, h1, h2, h3, h4, h5⟩ := hD1.ob
      have fin : ∀ (z : Int) (H2 : Hp), DiceAt H2 l → But (fun x => x = l) H H2 → Dn l H H2 → Q (.int (z.fmod n)) H2 := fun z H2 k1 k2 k3 => by
        have zz := fmod_pos (a := z) (m := n) (by omega)
        have e : z.fmod n = ((z.fmod n).toNat : Int) := by omega
        rw [e]
        exact q _ H2 (by omega) k1 k2 k3
      walk_at "sd"
      refine q_ixL (i := 2) h1 rfl ?_
      refine ⟨b, rfl, ?_⟩
      refine ite2 (fun _ => ?_) (fun _ => ?_)
      · refine q_ixL (i := 2) h1 rfl ?_
        refine ⟨b, rfl, by omega, ?_⟩
        refine q_ixL (i := 2) h1 rfl ?_
        refine ⟨b, rfl, ⟨by omega, by omega⟩, ?_⟩
        refine q_set (i := 2) h1 (Nat.le_of_ble_eq_true rfl) rfl ?_
        exact fin _ _ (DiceAt.put h1 h2 h3 h4 h5) (b1.trans (But.put rfl)) (n1.trans (Dn.put h1 h4 h5))
      · refine q_ixL (i := 4) h1 rfl ?_
        refine ⟨cnt, rfl, ?_⟩
        refine q_set (xs' := [.ref lc, vn i, .int b, .int st, .int (cnt + 1)]) (i := 4) h1 (Nat.le_of_ble_eq_true rfl) rfl ?_
        have g1 : upd H1 l (.lst [.ref lc, vn i, .int b, .int st, .int (cnt + 1)]) l = some (.lst [.ref lc, vn i, .int b, .int st, .int (cnt + 1)]) := upd_same
        have g2 : upd H1 l (.lst [.ref lc, vn i, .int b, .int st, .int (cnt + 1)]) lc = some (.lst (ns.map V.int)) := by rw [upd_ne (dice_ne h1 h2)]; exact h2
        have gb : But (fun x => x = l) H (upd H1 l (.lst [.ref lc, vn i, .int b, .int st, .int (cnt + 1)])) := b1.trans (But.put rfl)
        have gd : Dn l H (upd H1 l (.lst [.ref lc, vn i, .int b, .int st, .int (cnt + 1)])) := n1.trans (Dn.put h1 h4 h5)
        generalize upd H1 l (.lst [.ref lc, vn i, .int b, .int st, .int (cnt + 1)]) = H2 at g1 g2 gb gd ⊢
        refine q_ixL (i := 3) g1 rfl ?_
        refine ⟨st, rfl, Or.inr ⟨by decide, by decide⟩, ?_⟩
        refine q_ixL (i := 4) g1 rfl ?_
        refine ⟨_, rfl, Or.inr ⟨by decide, by decide⟩, by decide, ?_⟩
        have z := fmod_pos (a := st * 48271 + (cnt + 1) * 7919 + 1) (m := 2147483647) (by decide)
        generalize hst : (st * 48271 + (cnt + 1) * 7919 + 1).fmod 2147483647 = st2 at z ⊢
        refine q_set (xs' := [.ref lc, vn i, .int b, .int st2, .int (cnt + 1)]) (i := 3) g1 (Nat.le_of_ble_eq_true rfl) rfl ?_
        have d3 : DiceAt (upd H2 l (.lst [.ref lc, vn i, .int b, .int st2, .int (cnt + 1)])) l := DiceAt.put g1 g2 h3 z.1 (by omega)
        have gb3 : But (fun x => x = l) H (upd H2 l (.lst [.ref lc, vn i, .int b, .int st2, .int (cnt + 1)])) := gb.trans (But.put rfl)
        have k1 : upd H2 l (.lst [.ref lc, vn i, .int b, .int st2, .int (cnt + 1)]) l = some (.lst [.ref lc, vn i, .int b, .int st2, .int (cnt + 1)]) := upd_same
        have gd3 : Dn l H (upd H2 l (.lst [.ref lc, vn i, .int b, .int st2, .int (cnt + 1)])) := gd.trans (Dn.put g1 z.1 (by omega))
        generalize upd H2 l (.lst [.ref lc, vn i, .int b, .int st2, .int (cnt + 1)]) = H3 at d3 gb3 gd3 k1 ⊢
        refine q_ixL (i := 3) k1 rfl ?_
        refine q_ixL (i := 3) k1 rfl ?_
        refine ⟨st2, rfl, ⟨by decide, by decide⟩, st2, rfl, Or.inl ⟨by omega, by omega⟩, by decide, ⟨by decide, by decide⟩, ?_⟩
        generalize st2 * (st2.fdiv 1009 + 69623) = m1
        have z1 := fmod_pos (a := m1) (m := 2147483399) (by decide)
        refine ⟨Or.inl ⟨by omega, by omega⟩, by decide, ⟨by decide, by decide⟩, by omega, fin _ _ d3 gb3 gd3⟩
/-- a tuple of the less and the greater one -/
def spPair2 : Sp := fun vs H Q _ => ∃ (x y : Nat), vs = [vn x, vn y] ∧ ∀ t H', H t = none → Same H H' → H' t = some (.tup [vn (min x y), vn (max x y)]) → Q (.ref t) H'
theorem cal__law_pair (T : Txt K mg) : C8.Cal P w K mg base 1 "_law_pair" spPair2 [] := by
  refine mkCal T.d__law_pair sc__law_pair (fun _ _ _ _ _ _ us hl => match us, hl with | [_, _], _ => rfl) (fun vs H Q E h => ?_) (fun f cdv A outer s H vs Q E hr h => ?_)
  · obtain ⟨x, y, rfl, _⟩ := h
    rfl
  · have hu := hu_of hr
    obtain ⟨x, y, rfl, q⟩ := h
    refine ⟨_, (pss_one (ps_ret (pe_tup (pa_cons (pe_callB (call_min2 rfl) (by rfl) T.b_min (by decide +kernel) (pa_cons (pv 0) (pa_cons (pv 1) pa_nil))) (pa_cons (pe_callB (call_max2 rfl) (by rfl) T.b_max (by decide +kernel) (pa_cons (pv 0) (pa_cons (pv 1) pa_nil))) pa_nil))))), ?_⟩
    walk_at "sd"
    refine ⟨by decide, fun p hp => q p _ hp (L2.Same.new hp) ?_⟩
    rw [upd_same]
    by_cases h : x < y
    · rw [if_neg (by omega), if_pos (by omega), Nat.min_eq_left (by omega), Nat.max_eq_right (by omega)]
    · by_cases h2 : y < x
      · rw [if_pos (by omega), if_neg (by omega), Nat.min_eq_right (by omega), Nat.max_eq_left (by omega)]
      · have e : x = y := by omega
        subst e
        rw [Nat.min_self, Nat.max_self]
        simp
end
end SL
/-! Sets of pairs, sorting; _law_web. -/
namespace SL
open PySem PySem.Spec PyProof.Rows L2
/-- a loop behind its iterator -/
def ForGo (J : It) (g : TG) (tb : TS) (D : Ends) (σ : L2.St) (H1 : Hp) : Prop := ∃ W : Nat → Nat → L2.St → Hp → Prop, (∃ m, W 0 m σ H1) ∧ ∀ i m σ H, W i m σ H →
  (J.stop i H ∧ D.nx σ H) ∨ (J.go i H ∧ ∃ N : L2.St → Hp → Prop, (∀ σ' H', N σ' H' → ∃ m', m' < m ∧ W (i + 1) m' σ' H') ∧ ∀ x H', J.yld i H x H' → g x σ H' fun σ2 H2 => tb { D with nx := N, ct := N, bk := D.nx } σ2 H2)
theorem for_it {wi : TI} {g : TG} {tb : TS} {D : Ends} {σ : L2.St} {H : Hp} (h : wi σ H fun J H1 => ForGo J g tb D σ H1) : tFor wi g tb D σ H := h
/-- pairs of whole numbers, each a tuple of its own -/
structure PrZ (H : Hp) (xs : List V) (ps : List (Int × Int)) : Prop where
  len : xs.length = ps.length
  at_ : ∀ (i : Nat) (p : Int × Int), ps[i]? = some p → ∃ a, xs[i]? = some (V.ref a) ∧ H a = some (.tup [.int p.1, .int p.2])
def natP (p : Nat × Nat) : Int × Int := ((p.1 : Int), (p.2 : Int))
theorem Prs.z {H : Hp} {xs : List V} {ps : List (Nat × Nat)} (h : Prs H xs ps) : PrZ H xs (ps.map natP) := by
  refine ⟨by rw [List.length_map, h.len], fun i p hp => ?_⟩
  rw [List.getElem?_map] at hp
  cases e : ps[i]? with
  | none => rw [e] at hp; cases hp
  | some q =>
    rw [e] at hp
    cases hp
    exact h.at_ i q e
theorem PrZ.prs {H : Hp} {xs : List V} {ps : List (Nat × Nat)} (h : PrZ H xs (ps.map natP)) : Prs H xs ps := by
  refine ⟨by rw [h.len, List.length_map], fun i p hp => ?_⟩
  exact h.at_ i (natP p) (by rw [List.getElem?_map, hp]; rfl)
theorem PrZ.same {H H' : Hp} {xs : List V} {ps : List (Int × Int)} (h : PrZ H xs ps) (e : Same H H') : PrZ H' xs ps :=
  ⟨h.len, fun i p hp => let ⟨a, h1, h2⟩ := h.at_ i p hp; ⟨a, h1, e _ _ h2⟩⟩
def keyOf (H : Hp) (v : V) : Int × Int := match v with
  | .ref t => (match H t with | some (.tup [.int x, .int y]) => (x, y) | _ => (0, 0))
  | _ => (0, 0)
theorem PrZ.keys {H : Hp} {xs : List V} {ps : List (Int × Int)} (h : PrZ H xs ps) : xs.map (keyOf H) = ps := by
  apply List.ext_getElem?
  intro i
  rw [List.getElem?_map]
  cases e : ps[i]? with
  | none =>
    have : xs.length ≤ i := by rw [h.len]; exact List.getElem?_eq_none_iff.mp e
    rw [List.getElem?_eq_none this]
    rfl
  | some p =>
    obtain ⟨a, h1, h2⟩ := h.at_ i p e
    rw [h1]
    show some (keyOf H (.ref a)) = some p
    unfold keyOf
    simp only [h2]
theorem PrZ.all {H : Hp} {xs : List V} {ps : List (Int × Int)} (h : PrZ H xs ps) : ∀ x ∈ xs, ∃ t, x = V.ref t ∧ H t = some (.tup [.int (keyOf H x).1, .int (keyOf H x).2]) := fun x hx => by
  obtain ⟨i, hi⟩ := List.mem_iff_getElem?.mp hx
  have hl : i < ps.length := by rw [← h.len]; exact (List.getElem?_eq_some_iff.mp hi).1
  obtain ⟨a, h1, h2⟩ := h.at_ i ps[i] (List.getElem?_eq_getElem hl)
  rw [hi] at h1
  cases h1
  refine ⟨a, rfl, ?_⟩
  unfold keyOf
  simp only [h2]
theorem PrZ.of_all {H : Hp} {xs : List V} (h : ∀ x ∈ xs, ∃ t, x = V.ref t ∧ H t = some (.tup [.int (keyOf H x).1, .int (keyOf H x).2])) : PrZ H xs (xs.map (keyOf H)) := by
  refine ⟨by rw [List.length_map], fun i p hp => ?_⟩
  rw [List.getElem?_map] at hp
  cases e : xs[i]? with
  | none => rw [e] at hp; cases hp
  | some x =>
    rw [e] at hp
    cases hp
    obtain ⟨t, rfl, ht⟩ := h x (List.mem_of_getElem? e)
    exact ⟨t, rfl, ht⟩
theorem sort_prz {K : Frg} {H : Hp} {Q : VK} {a : Addr} {xs : List V} {ps : List (Int × Int)} (ha : SqL K H a xs) (h : PrZ H xs ps)
    (q : ∀ ys qs p, PrZ H ys qs → qs.Perm ps → qs.Pairwise (fun x y => SrtO.lexB y x = false) → H p = none → Q (.ref p) (upd H p (.lst ys))) : rSortedPO K [.ref a] H Q := by
  refine ⟨a, xs, keyOf H, rfl, ha, h.all, fun ys p hs hp hf => ?_⟩
  have pm := hp.perm
  refine q ys (ys.map (keyOf H)) p (PrZ.of_all fun x hx => h.all x (pm.mem_iff.mp hx)) ?_ ?_ hf
  · rw [← h.keys]
    exact pm.map _
  · exact List.pairwise_map.mpr hs
theorem sort_prs {K : Frg} {H : Hp} {Q : VK} {a : Addr} {xs : List V} {ps : List (Nat × Nat)} (ha : SqL K H a xs) (h : Prs H xs ps) (nd : ps.Nodup)
    (q : ∀ ys qs p, Prs H ys qs → qs.Perm ps → qs.Pairwise ltP2 → H p = none → Q (.ref p) (upd H p (.lst ys))) : rSortedPO K [.ref a] H Q := by
  refine sort_prz ha h.z fun ys qs p h1 h2 h3 hf => ?_
  have e : (qs.map fun p => (p.1.toNat, p.2.toNat)).map natP = qs := by
    rw [List.map_map]
    refine (List.map_congr_left fun z hz => ?_).trans (List.map_id qs)
    obtain ⟨p, _, rfl⟩ := List.mem_map.mp (h2.mem_iff.mp hz)
    rfl
  have pm : (qs.map fun p => (p.1.toNat, p.2.toNat)).Perm ps := by
    have := h2.map fun p : Int × Int => (p.1.toNat, p.2.toNat)
    rw [List.map_map] at this
    have e2 : ps.map ((fun p : Int × Int => (p.1.toNat, p.2.toNat)) ∘ natP) = ps := by
      have : ((fun p : Int × Int => (p.1.toNat, p.2.toNat)) ∘ natP) = id := by funext p; rfl
      rw [this, List.map_id]
    rw [e2] at this
    exact this
  refine q ys _ p (PrZ.prs (by rw [e]; exact h1)) pm ?_ hf
  have nd2 := pm.nodup_iff.mpr nd
  rw [← e] at h3
  have h4 := List.pairwise_map.mp h3
  refine (nd2.and h4).imp fun {x y} hxy => ?_
  obtain ⟨n1, n2⟩ := hxy
  have n3 : ¬ (natP y).1 < (natP x).1 ∧ ¬ ((natP y).1 = (natP x).1 ∧ (natP y).2 < (natP x).2) := by
    have : ¬ SrtO.lexB (natP y) (natP x) = true := by rw [n2]; decide
    rw [SrtO.lexB_iff] at this
    exact not_or.mp this
  unfold natP at n3
  unfold ltP2
  by_cases h1 : x.1 = y.1
  · refine Or.inr ⟨h1, ?_⟩
    have : x.2 ≠ y.2 := fun h2 => n1 (Prod.ext h1 h2)
    simp only at n3
    omega
  · simp only at n3
    omega
theorem keys_at {H : Hp} : ∀ {kvs : List (List Key × V)} {bs : List Addr}, IsKeys H kvs bs → bs.length = kvs.length ∧ ∀ (i : Nat) e, kvs[i]? = some e → ∃ b, bs[i]? = some b ∧ H b = some (.tup (e.1.map kV))
  | _, _, .nil => ⟨rfl, fun i e h => by simp at h⟩
  | _, _, .cons (a := a) (b := b) h t => by
    obtain ⟨h1, h2⟩ := keys_at t
    refine ⟨by simp [h1], fun i e he => ?_⟩
    cases i with
    | zero =>
      cases he
      exact ⟨b, rfl, h⟩
    | succ i => exact h2 i e he
/-- a set of pairs as a dict -/
def yes2 (F : List (Nat × Nat)) : List (List Key × V) := F.map fun p => (mkey p.1 p.2, .bl true)
theorem yes2_keys {H : Hp} {F : List (Nat × Nat)} {bs : List Addr} (h : IsKeys H (yes2 F) bs) : Prs H (bs.map V.ref) F := by
  obtain ⟨h1, h2⟩ := keys_at h
  refine ⟨by rw [List.length_map, h1]; unfold yes2; rw [List.length_map], fun i p hp => ?_⟩
  obtain ⟨b, b1, b2⟩ := h2 i (mkey p.1 p.2, .bl true) (by unfold yes2; rw [List.getElem?_map, hp]; rfl)
  exact ⟨b, by rw [List.getElem?_map, b1]; rfl, b2⟩
def insP (F : List (Nat × Nat)) (p : Nat × Nat) : List (Nat × Nat) := if p ∈ F then F else F ++ [p]
theorem mkey_nat {a b c d : Nat} : mkey a b = mkey c d ↔ a = c ∧ b = d := by
  simp only [mkey, List.cons.injEq, Sum.inl.injEq, and_true]
  omega
theorem yes2_put (F : List (Nat × Nat)) (a b : Nat) : putK (yes2 F) (mkey a b) (.bl true) = yes2 (insP F (a, b)) := by
  unfold putK insP
  have e1 : ((yes2 F).any fun kv => decide (kv.1 = mkey a b)) = decide ((a, b) ∈ F) := by
    rw [Bool.eq_iff_iff, List.any_eq_true, decide_eq_true_eq]
    unfold yes2
    constructor
    · rintro ⟨x, hx, e⟩
      obtain ⟨p, hp, rfl⟩ := List.mem_map.mp hx
      have := mkey_nat.mp (of_decide_eq_true e)
      rw [← this.1, ← this.2]
      exact hp
    · intro h
      exact ⟨_, List.mem_map.mpr ⟨_, h, rfl⟩, by simp⟩
  rw [e1]
  by_cases h : (a, b) ∈ F
  · rw [if_pos (decide_eq_true h), if_pos h]
    unfold yes2
    rw [List.map_map]
    refine List.map_congr_left fun p _ => ?_
    simp only [Function.comp]
    split
    · rename_i h2
      rw [h2]
    · rfl
  · rw [if_neg (by simpa using h), if_neg h]
    unfold yes2
    rw [List.map_append]
    rfl
/-- rising pairs below n, in a dict -/
structure EdgesAt (H : Hp) (d : Addr) (n : Nat) : Prop where
  ex : ∃ F, H d = some (.dT (yes2 F)) ∧ F.Nodup ∧ ∀ p ∈ F, p.1 < p.2 ∧ p.2 < n
theorem EdgesAt.same {H H' : Hp} {d : Addr} {n : Nat} (h : EdgesAt H d n) (e : Same H H') : EdgesAt H' d n := by
  obtain ⟨F, h1, h2⟩ := h.ex
  exact ⟨F, e _ _ h1, h2⟩
theorem insP_mem {F : List (Nat × Nat)} {p q : Nat × Nat} : q ∈ insP F p ↔ q ∈ F ∨ q = p := by
  unfold insP
  split
  · rename_i h
    constructor
    · exact Or.inl
    · rintro (z | rfl)
      · exact z
      · exact h
  · simp
theorem insP_nodup {F : List (Nat × Nat)} {p : Nat × Nat} (h : F.Nodup) : (insP F p).Nodup := by
  unfold insP
  split
  · exact h
  · rename_i hp
    exact L2.nd_snoc h hp
theorem edges_len {F : List (Nat × Nat)} {n : Nat} (nd : F.Nodup) (h : ∀ p ∈ F, p.1 < p.2 ∧ p.2 < n) (hn : n ≤ 12) : F.length ≤ 66 := by
  have : (allP 12).length = 66 := by decide
  rw [← this]
  exact nodup_le nd fun p hp => mem_allP (h p hp).1 (by have := (h p hp).2; omega)
/-- what a law's def changes: the dice, and what is its own -/
theorem DiceAt.off {H H' : Hp} {l d : Addr} {u : HO} (h : DiceAt H l) (hd : H d = some u) (nu : ∀ xs, u ≠ .lst xs) (e : ∀ b, b ≠ d → H' b = H b) : DiceAt H' l := by
  obtain ⟨lc, ns, i, b, st, cnt, h1, h2, h3⟩ := h.ob
  exact ⟨lc, ns, i, b, st, cnt, by rw [e _ (ne_of h1 hd fun z => nu _ z.symm)]; exact h1, by rw [e _ (ne_of h2 hd fun z => nu _ z.symm)]; exact h2, h3⟩
structure WebSt (B : Hp) (l d : Addr) (n : Nat) (H : Hp) : Prop where
  sm : Same B H
  di : DiceAt H l
  ed : EdgesAt H d n
theorem But.same_of {B H H' : Hp} {l : Addr} (e : Same B H) (hB : B l = none) (b : But (fun x => x = l) H H') : Same B H' := fun x o h => b x o (fun z => by
  rw [z, hB] at h
  cases h) (e x o h)
theorem WebSt.draw {B H H' : Hp} {l d : Addr} {n : Nat} (w : WebSt B l d n H) (hB : B l = none) (hd : DiceAt H' l) (b : But (fun x => x = l) H H') : WebSt B l d n H' := by
  refine ⟨But.same_of w.sm hB b, hd, ?_⟩
  obtain ⟨F, h1, h2⟩ := w.ed.ex
  obtain ⟨lc, ns, i, z, st, cnt, k1, _⟩ := w.di.ob
  exact ⟨F, b _ _ (ne_of h1 k1 fun z => by cases z) h1, h2⟩
theorem WebSt.same {B H H' : Hp} {l d : Addr} {n : Nat} (w : WebSt B l d n H) (e : Same H H') : WebSt B l d n H' := ⟨w.sm.trans e, w.di.same e, w.ed.same e⟩
theorem WebSt.put {B H : Hp} {l d t : Addr} {n : Nat} {N : Hp → Prop} (w : WebSt B l d n H) (hB : B d = none) (hn : n ≤ 12) {x y : Nat} (hxy : x < y) (hy : y < n) (ht : H t = some (.tup [vn x, vn y])) (q : ∀ H', WebSt B l d n H' → N H') :
    ∃ H4, DPut H d (.ref t) (.bl true) H4 ∧ N H4 := by
  obtain ⟨F, h1, h2, h3⟩ := w.ed.ex
  refine ⟨_, DPut.t (k := mkey x y) h1 ht (szt ?_), ?_⟩
  · unfold yes2
    rw [List.length_map]
    have := edges_len h2 h3 hn
    omega
  rw [yes2_put]
  refine q _ ⟨w.sm.mut hB, w.di.off h1 (fun _ z => by cases z) fun b hb => upd_ne hb, insP F (x, y), upd_same, insP_nodup h2, fun p hp => ?_⟩
  rcases insP_mem.mp hp with hp | rfl
  · exact h3 p hp
  · exact ⟨hxy, hy⟩
theorem WebSt.add {B H : Hp} {l d : Addr} {n : Nat} {N : Hp → Prop} (w : WebSt B l d n H) (hB : B d = none) (hn : n ≤ 12) {x y : Nat} (hxy : x < y) (hy : y < n) (q : ∀ H', WebSt B l d n H' → N H') :
    2 ≤ sizeLine ∧ ∀ p, H p = none → ∃ H4, DPut (upd H p (.tup [vn x, vn y])) d (.ref p) (.bl true) H4 ∧ N H4 :=
  ⟨by decide, fun _ hp => (w.same (L2.Same.new hp)).put hB hn hxy hy upd_same q⟩
section
variable {P : Program} {w : World} {K : Frg} {mg : Str → Option Value} {base : Heap}
def spLWeb : Sp := fun vs H Q _ => ∃ (l : Addr) (most : Nat), vs = [.ref l, vn most] ∧ DiceAt H l ∧ 1 ≤ most ∧ most ≤ 12 ∧
  ∀ (t tp : Addr) (xs : List V) (n : Nat) (ps : List (Nat × Nat)) H', DiceAt H' l → Same (SL.del H l) H' → H' t = some (.tup [vn n, .ref tp]) → H' tp = some (.tup xs) → Prs H' xs ps → Rising n ps → 1 ≤ n → n ≤ 12 → Q (.ref t) H'
theorem cal__law_web (T : Txt K mg) : C8.Cal P w K mg base 2 "_law_web" spLWeb [] := by
  refine mkCal T.d__law_web sc__law_web (fun _ _ _ _ _ _ us hl => match us, hl with | [_, _], _ => rfl) (fun vs H Q E h => ?_) (fun f cdv A outer s H vs Q E hr h => ?_)
  · obtain ⟨l, most, rfl, _⟩ := h
    rfl
  · have hu := hu_of hr
    obtain ⟨l, most, rfl, hD, hm1, hm, q⟩ := h
    refine ⟨_, (pss_cons (ps_set (i := 2) sc__law_web.nd rfl (Or.inl rfl) (pe_op op_add pe_int (C8.pe_c (cal__law_draw T) hr (by decide) rfl (pa_cons (pv 0) (pa_cons (pv 1) pa_nil)))))
      (pss_cons (ps_set (i := 3) sc__law_web.nd rfl (Or.inl rfl) (C8.pe_c (cal__law_draw T) hr (by decide) rfl (pa_cons (pv 0) (pa_cons pe_int pa_nil))))
      (pss_cons (ps_set (i := 4) sc__law_web.nd rfl (Or.inl rfl) (pe_op op_add pe_int (C8.pe_c (cal__law_draw T) hr (by decide) rfl (pa_cons (pv 0) (pa_cons pe_int pa_nil)))))
      (pss_cons (ps_set (i := 5) sc__law_web.nd rfl (Or.inl rfl) pe_dnewT)
      (pss_cons (ps_for PassesOwn.never rfl (pi_range2 rfl T.b_range (pa_cons pe_int (pa_cons (pv 2) pa_nil))) (pg_name (i := 6) sc__law_web.nd rfl (Or.inl rfl)) (pss_cons (ps_if (pt_cmpR op_lt (pv 3) pe_int (nomark _)) (pss_one (ps_dput hu (pv 5) (pe_tup (pa_cons (pe_op op_sub (pv 6) pe_int) (pa_cons (pv 6) pa_nil))) pe_bl rfl)) (pss_one (ps_if (pt_cmpR op_eq (pv 3) pe_int (nomark _)) (pss_one (ps_dput hu (pv 5) (pe_tup (pa_cons (C8.pe_c (cal__law_draw T) hr (by decide) rfl (pa_cons (pv 0) (pa_cons (pv 6) pa_nil))) (pa_cons (pv 6) pa_nil))) pe_bl rfl)) (pss_one (ps_if (PW.pt (pw_and (pt_cmpR op_eq (pv 3) pe_int (nomark _)) (pw_and1 (pt_cmpR op_ne (pe_op op_modN (pe_callTy call_intI (by rfl) T.b_int (by decide +kernel) (pa_cons (pv 6) pa_nil)) (pv 4)) pe_int (nomark _))))) (pss_one (ps_dput hu (pv 5) (pe_tup (pa_cons (pe_op op_sub (pv 6) pe_int) (pa_cons (pv 6) pa_nil))) pe_bl rfl)) pss_nil)))))
        (pss_one (ps_for PassesOwn.never rfl (pi_range1 rfl T.b_range (pa_cons (pv 6) pa_nil)) (pg_name (i := 7) sc__law_web.nd rfl (Or.inl rfl)) (pss_one (ps_if (PW.pt (pw_or (PW.pt (pw_and (pt_cmpR op_eq (pv 3) pe_int (nomark _)) (pw_and1 (pt_cmpR op_eq (pe_op op_add (pv 7) (pv 4)) (pv 6) (nomark _))))) (pw_or (pt_cmpR op_eq (pv 3) pe_int (nomark _)) (pw_or1 (PW.pt (pw_and (pt_cmpR op_eq (pv 3) pe_int (nomark _)) (pw_and1 (pt_cmpR op_eq (C8.pe_c (cal__law_draw T) hr (by decide) rfl (pa_cons (pv 0) (pa_cons pe_int pa_nil))) pe_int (nomark _))))))))) (pss_one (ps_dput hu (pv 5) (pe_tup (pa_cons (pv 7) (pa_cons (pv 6) pa_nil))) pe_bl rfl)) pss_nil))))))
      (pss_cons (ps_if (PW.pt (pw_and (pt_cmpR op_eq (pv 3) pe_int (nomark _)) (pw_and1 (pt_cmpR op_gt (pv 2) pe_int (nomark _))))) (pss_one (ps_dput hu (pv 5) (pe_tup (pa_cons pe_int (pa_cons (pe_op op_sub (pv 2) pe_int) pa_nil))) pe_bl rfl)) pss_nil)
      (pss_cons (ps_if (pt_cmpR op_gt (pv 2) pe_int (nomark _)) (pss_one (ps_for PassesOwn.never rfl (pi_range1 rfl T.b_range (pa_cons (pe_op op_add (C8.pe_c (cal__law_draw T) hr (by decide) rfl (pa_cons (pv 0) (pa_cons pe_int pa_nil))) (pe_op op_mul pe_int (pe_callTy call_intB (by rfl) T.b_int (by decide +kernel) (pa_cons (pe_cmpR op_eq (pv 3) pe_int (nomark _)) pa_nil)))) pa_nil)) (pg_name (i := 8) sc__law_web.nd rfl (Or.inl rfl)) (pss_cons (ps_set (i := 9) sc__law_web.nd rfl (Or.inl rfl) (C8.pe_c (cal__law_draw T) hr (by decide) rfl (pa_cons (pv 0) (pa_cons (pv 2) pa_nil))))
          (pss_cons (ps_set (i := 10) sc__law_web.nd rfl (Or.inl rfl) (C8.pe_c (cal__law_draw T) hr (by decide) rfl (pa_cons (pv 0) (pa_cons (pv 2) pa_nil))))
          (pss_one (ps_if (pt_cmpR op_ne (pv 9) (pv 10) (nomark _)) (pss_one (ps_dput hu (pv 5) (C8.pe_c (cal__law_pair T) hr (by decide) rfl (pa_cons (pv 9) (pa_cons (pv 10) pa_nil))) pe_bl rfl)) pss_nil)))))) pss_nil)
      (pss_one (ps_ret (pe_tup (pa_cons (pv 2) (pa_cons (pe_callTy (k_tup (K := K) rfl) (by rfl) T.b_tuple (by decide +kernel) (pa_cons (pe_callB (k_sortP (K := K) rfl) (by rfl) T.b_sorted (by decide +kernel) (pa_cons (pe_callTy (call_list_dT rfl) (by rfl) T.b_list (by decide +kernel) (pa_cons (pv 5) pa_nil)) pa_nil)) pa_nil)) pa_nil)))))))))))), ?_⟩
    refine seq_mid (fun σ H1 => ∃ n, σ = [some (V.ref l), some (vn most), some (vn n), none, none, none, none, none, none, none, none] ∧ 1 ≤ n ∧ n ≤ 12 ∧ DiceAt H1 l ∧ But (fun x => x = l) H H1) (fun N hN => ?_) (fun σ H1 hh => ?_)
    · walk_at "sd"
      refine ⟨l, most, rfl, hD, hm1, by omega, fun d H1 hd k1 k2 _ => ?_⟩
      dsimp only
      exact ⟨_, rfl, hN _ _ ⟨1 + d, rfl, by omega, by omega, k1, k2⟩⟩
    · obtain ⟨n, rfl, hn1, hn12, hD1, b1⟩ := hh
      walk_at "sd"
      refine ⟨l, 7, rfl, hD1, by decide, by decide, fun kind H2 hk k2 b2 _ => ?_⟩
      walk_at "sd"
      refine ⟨l, 3, rfl, k2, by decide, by decide, fun wd H3 hwd k3 b3 _ => ?_⟩
      walk_at "sd"
      intro d hd
      have bb := (b1.trans b2).trans b3
      have sB : Same (SL.del H l) H3 := fun x o hx => by
        by_cases e : x = l
        · rw [e, del_none] at hx
          cases hx
        · exact bb x o e (del_same _ _ _ _ hx)
      have hBl : SL.del H l l = none := del_none _ _
      have hBd : SL.del H l d = none := sB.fr hd
      have w0 : WebSt (SL.del H l) l d n (upd H3 d (.dT [])) := ⟨sB.trans (L2.Same.new hd), k3.same (L2.Same.new hd), [], upd_same, List.nodup_nil, by simp⟩
      refine ⟨_, rfl, _, _, rfl, ⟨by decide, by decide, by omega, by omega⟩, ?_⟩
      refine for_range (lo := 1) (n := ((n : Int) - 1).toNat) (fun i σ H4 => ∃ o6 o7 o8 o9 o10, σ = [some (V.ref l), some (vn most), some (vn n), some (vn kind), some (V.int (2 + wd)), some (V.ref d), o6, o7, o8, o9, o10] ∧ WebSt (SL.del H l) l d n H4)
        ⟨none, none, none, none, none, rfl, w0⟩ (fun i σ H4 hi ⟨o6, o7, o8, o9, o10, e, w4⟩ => ?_) fun σ H4 ⟨o6, o7, o8, o9, o10, e, w4⟩ => ?_
      · subst e
        have hi2 : 1 + i < n := by omega
        change tSeq _ _ _ _ _
        refine seq_mid (fun σ H5 => σ = [some (V.ref l), some (vn most), some (vn n), some (vn kind), some (V.int (2 + wd)), some (V.ref d), some (vn (1 + i)), o7, o8, o9, o10] ∧ WebSt (SL.del H l) l d n H5) (fun N hN => ?_) (fun σ H5 hh => ?_)
        · have e1 : V.int (1 + (i : Int)) = vn (1 + i) := rfl
          have e2 : V.int (1 + (i : Int) - 1) = vn i := by
            show V.int _ = V.int _
            rw [show (1 + (i : Int) - 1) = (i : Int) by omega]
          walk_at "sd"
          refine ite2 (fun _ => ?_) (fun _ => ?_)
          · rw [e2]
            exact w4.add (x := i) (y := 1 + i) hBd hn12 (by omega) hi2 fun H' w' => hN _ _ ⟨rfl, w'⟩
          refine ite2 (fun _ => ?_) (fun _ => ?_)
          · refine ⟨l, 1 + i, rfl, w4.di, by omega, by omega, fun z H5 hz k5 b5 _ => ?_⟩
            exact (w4.draw hBl k5 b5).add (x := z) (y := 1 + i) hBd hn12 hz hi2 fun H' w' => hN _ _ ⟨rfl, w'⟩
          refine ite2 (fun _ => ?_) (fun _ => ?_)
          · refine ⟨by omega, ?_⟩
            refine ite2 (fun _ => ?_) (fun _ => ?_)
            · exact hN _ _ ⟨rfl, w4⟩
            · rw [e2]
              exact w4.add (x := i) (y := 1 + i) hBd hn12 (by omega) hi2 fun H' w' => hN _ _ ⟨rfl, w'⟩
          · exact hN _ _ ⟨rfl, w4⟩
        · obtain ⟨rfl, w5⟩ := hh
          refine ⟨_, rfl, _, rfl, by omega, by omega, ?_⟩
          refine for_range (lo := 0) (n := ((1 + i : Nat) : Int).toNat) (fun j σ H6 => ∃ o7, σ = [some (V.ref l), some (vn most), some (vn n), some (vn kind), some (V.int (2 + wd)), some (V.ref d), some (vn (1 + i)), o7, o8, o9, o10] ∧ WebSt (SL.del H l) l d n H6)
            ⟨o7, rfl, w5⟩ (fun j σ H6 hj ⟨o7, e, w6⟩ => ?_) fun σ H6 ⟨o7, e, w6⟩ => ?_
          · subst e
            have e3 : V.int (0 + (j : Int)) = vn j := by rw [Int.zero_add]
            rw [e3]
            walk_at "sd"
            have put : ∀ H7, WebSt (SL.del H l) l d n H7 → 2 ≤ sizeLine ∧ ∀ p, H7 p = none → ∃ H4, DPut (upd H7 p (.tup [vn j, vn (1 + i)])) d (.ref p) (.bl true) H4 ∧ WebSt (SL.del H l) l d n H4 := fun H7 w7 =>
              w7.add (x := j) (y := 1 + i) hBd hn12 (by omega) hi2 fun H' w' => w'
            have thr : (if (kind : Int) = 4 then 2 ≤ sizeLine ∧ ∀ p, H6 p = none → ∃ H4, DPut (upd H6 p (.tup [vn j, vn (1 + i)])) d (.ref p) (.bl true) H4 ∧ WebSt (SL.del H l) l d n H4
                else if (kind : Int) = 5 then spDraw [V.ref l, V.int 2] H6 (fun x H1 => scal x (V.int 0) = true ∧ if x = V.int 0 then 2 ≤ sizeLine ∧ ∀ p, H1 p = none → ∃ H4, DPut (upd H1 p (.tup [vn j, vn (1 + i)])) d (.ref p) (.bl true) H4 ∧ WebSt (SL.del H l) l d n H4 else WebSt (SL.del H l) l d n H1) C8.E0
                else WebSt (SL.del H l) l d n H6) := by
              refine ite2 (fun _ => put _ w6) (fun _ => ?_)
              refine ite2 (fun _ => ?_) (fun _ => w6)
              refine ⟨l, 2, rfl, w6.di, by decide, by decide, fun z H7 hz k7 b7 _ => ?_⟩
              have w7 := w6.draw hBl k7 b7
              refine ⟨scal_ii.mpr trivial, ?_⟩
              exact ite2 (fun _ => put _ w7) (fun _ => w7)
            refine ite2 (fun _ => ?_) (fun _ => thr)
            exact ite2 (fun _ => put _ w6) (fun _ => thr)
          · subst e
            exact ⟨_, _, _, _, _, rfl, w6⟩
      · subst e
        refine seq_mid (fun σ H5 => ∃ o6 o7 o8 o9 o10, σ = [some (V.ref l), some (vn most), some (vn n), some (vn kind), some (V.int (2 + wd)), some (V.ref d), o6, o7, o8, o9, o10] ∧ WebSt (SL.del H l) l d n H5) (fun N hN => ?_) (fun σ H5 hh => ?_)
        · walk_at "sd"
          exact hN _ _ ⟨_, _, _, _, _, rfl, w4⟩
        · clear w4
          obtain ⟨o6, o7, o8, o9, o10, rfl, w4⟩ := hh
          refine seq_mid (fun σ H5 => ∃ o6 o7 o8 o9 o10, σ = [some (V.ref l), some (vn most), some (vn n), some (vn kind), some (V.int (2 + wd)), some (V.ref d), o6, o7, o8, o9, o10] ∧ WebSt (SL.del H l) l d n H5) (fun N hN => ?_) (fun σ H5 hh => ?_)
          · walk_at "sd"
            refine ite2 (fun _ => ?_) (fun _ => hN _ _ ⟨_, _, _, _, _, rfl, w4⟩)
            refine ite2 (fun _ => ?_) (fun _ => hN _ _ ⟨_, _, _, _, _, rfl, w4⟩)
            have e1 : V.int ((n : Int) - 1) = vn (n - 1) := by
              show V.int _ = V.int _
              rw [show (n : Int) - 1 = ((n - 1 : Nat) : Int) by omega]
            rw [e1]
            exact w4.add (x := 0) (y := n - 1) hBd hn12 (by omega) (by omega) fun H' w' => hN _ _ ⟨_, _, _, _, _, rfl, w'⟩
          · clear w4
            obtain ⟨o6, o7, o8, o9, o10, rfl, w4⟩ := hh
            refine seq_mid (fun σ H5 => ∃ o6 o7 o8 o9 o10, σ = [some (V.ref l), some (vn most), some (vn n), some (vn kind), some (V.int (2 + wd)), some (V.ref d), o6, o7, o8, o9, o10] ∧ WebSt (SL.del H l) l d n H5) (fun N hN => ?_) (fun σ H5 hh => ?_)
            · walk_at "sd"
              refine ite2 (fun hn2 => ?_) (fun _ => hN _ _ ⟨_, _, _, _, _, rfl, w4⟩)
              refine for_it ?_
              simp only [iRng1]
              walk_at "sd"
              refine ⟨l, 3, rfl, w4.di, by decide, by decide, fun z H6 hz k6 b6 _ => ?_⟩
              have w6 := w4.draw hBl k6 b6
              dsimp only
              have hx : ∃ x : Nat, ((z : Int) + 2 * if (kind : Int) = 6 then 1 else 0) = x ∧ x ≤ 10 := by
                by_cases h6 : (kind : Int) = 6
                · rw [if_pos h6]
                  exact ⟨z + 2, rfl, by omega⟩
                · rw [if_neg h6]
                  exact ⟨z, by omega, by omega⟩
              obtain ⟨c, hc, hc10⟩ := hx
              refine ⟨Or.inl ⟨by decide, by decide⟩, _, rfl, ?_⟩
              rw [hc]
              refine ⟨by omega, by omega, ?_⟩
              refine for_range (lo := 0) (n := (c : Int).toNat) (fun i σ H7 => ∃ o6 o7 o8 o9 o10, σ = [some (V.ref l), some (vn most), some (vn n), some (vn kind), some (V.int (2 + wd)), some (V.ref d), o6, o7, o8, o9, o10] ∧ WebSt (SL.del H l) l d n H7)
                ⟨_, _, _, _, _, rfl, w6⟩ (fun i σ H7 hi ⟨o6, o7, o8, o9, o10, e, w7⟩ => ?_) fun σ H7 h => hN σ H7 h
              subst e
              walk_at "sd"
              refine ⟨l, n, rfl, w7.di, hn1, by omega, fun x H8 hx k8 b8 _ => ?_⟩
              have w8 := w7.draw hBl k8 b8
              walk_at "sd"
              refine ⟨l, n, rfl, w8.di, hn1, by omega, fun y H9 hy k9 b9 _ => ?_⟩
              have w9 := w8.draw hBl k9 b9
              walk_at "sd"
              refine ite2 (fun _ => w9) (fun hne => ?_)
              refine ⟨x, y, rfl, fun t H10 ht st h10 => (w9.same st).put hBd hn12 (x := min x y) (y := max x y) ?_ ?_ h10 fun H' w' => w'⟩
              · have : x ≠ y := fun e => hne (by rw [e])
                omega
              · omega
            · clear w4
              obtain ⟨o6, o7, o8, o9, o10, rfl, w4⟩ := hh
              walk_at "sd"
              obtain ⟨F, f1, f2, f3⟩ := w4.ed.ex
              refine ⟨_, Or.inl f1, fun p bs hp hbs => ?_⟩
              have sp : Same H5 (upd H5 p (.lst (bs.map V.ref))) := L2.Same.new hp
              refine sort_prs (Or.inl (Or.inl upd_same)) ((yes2_keys hbs).same sp) f2 fun ys qs p2 g1 g2 g3 hp2 => ?_
              have sp2 := L2.Same.new (o := .lst ys) hp2
              refine ⟨p2, rfl, ys, Or.inl ⟨Or.inl (Or.inl upd_same), fun tp htp => ⟨by decide, fun t ht => ?_⟩⟩⟩
              have s3 := L2.Same.new (o := .tup ys) htp
              have s4 := L2.Same.new (o := .tup [vn n, .ref tp]) ht
              have all := sp.trans (sp2.trans (s3.trans s4))
              refine q t tp ys n qs _ (w4.di.same all) (w4.sm.trans all) upd_same (s4 _ _ upd_same) (((g1.same sp2).same s3).same s4) ⟨fun p hp => f3 p (g2.mem_iff.mp hp), g3⟩ hn1 hn12
end
end SL
/-! The mathematics of drawn books and lands. No program here. -/
namespace SL
open PySem PySem.Spec PyProof.Rows L2
theorem Rch.mono2 {adj adj' : Nat → Nat → Prop} {S S' : Nat → Prop} {a b : Nat} (h : Rch adj S a b) (ka : ∀ x y, adj x y → adj' x y) (k : ∀ x, S x → S' x) : Rch adj' S' a b := by
  induction h with
  | refl h => exact .refl (k _ h)
  | step _ h1 h2 ih => exact .step ih (ka _ _ h1) (k _ h2)
/-! ### who owns a standing -/
def own (ow : List (Option Nat)) (s : Nat) : Option Nat := (ow[s]?).join
theorem own_get {ow : List (Option Nat)} {s : Nat} (h : s < ow.length) : ow[s]? = some (own ow s) := by
  unfold own
  rw [List.getElem?_eq_getElem h]
  rfl
theorem own_lt {ow : List (Option Nat)} {s c : Nat} (h : own ow s = some c) : s < ow.length := by
  unfold own at h
  cases e : ow[s]? with
  | none => rw [e] at h; cases h
  | some x => exact (List.getElem?_eq_some_iff.mp e).1
theorem own_eq {ow : List (Option Nat)} {x : Nat} (v : Option Nat) (h : x < ow.length) : own (ow.set x v) x = v := by
  unfold own
  rw [List.getElem?_set_self h]
  rfl
theorem own_ne {ow : List (Option Nat)} {x s : Nat} (v : Option Nat) (h : s ≠ x) : own (ow.set x v) s = own ow s := by
  unfold own
  rw [List.getElem?_set_ne (Ne.symm h)]
theorem own_rep (n s : Nat) : own (List.replicate n none) s = none := by
  unfold own
  rw [List.getElem?_replicate]
  split <;> rfl
theorem own_setN {ow : List (Option Nat)} {x : Nat} (h : own ow x = none) : ∀ s, own (ow.set x none) s = own ow s := fun s => by
  by_cases e : s = x
  · subst e
    by_cases hs : s < ow.length
    · rw [own_eq _ hs, h]
    · unfold own
      rw [List.getElem?_eq_none (by rw [List.length_set]; omega), List.getElem?_eq_none (by omega)]
  · exact own_ne _ e
structure Plots (n : Nat) (ls : List (List Nat)) : Prop where
  lt : ∀ l ∈ ls, ∀ s ∈ l, s < n
  nd : ∀ l ∈ ls, l.Nodup
  dj : ∀ (i j : Nat) (l m : List Nat) (s : Nat), ls[i]? = some l → ls[j]? = some m → s ∈ l → s ∈ m → i = j
/-- parts of a web that hang together, m of them -/
structure Grown (n m : Nat) (ps : List (Nat × Nat)) (ow : List (Option Nat)) : Prop where
  len : ow.length = n
  lt : ∀ s c, own ow s = some c → c < m
  ex : ∀ c, c < m → ∃ s, own ow s = some c
  con : ∀ s t c, own ow s = some c → own ow t = some c → Rch (nbr ps) (fun x => own ow x = some c) s t
theorem Grown.put {n m : Nat} {ps : List (Nat × Nat)} {ow : List (Option Nat)} {x y : Nat} (h : Grown n m ps ow) (hx : x < n) (e : own ow x = none) (hn : nbr ps x y) : Grown n m ps (ow.set x (own ow y)) := by
  cases hy : own ow y with
  | none =>
    have k := own_setN e
    refine ⟨by rw [List.length_set]; exact h.len, fun s c => by rw [k]; exact h.lt s c, fun c hc => ?_, fun s t c hs ht => ?_⟩
    · obtain ⟨s, hs⟩ := h.ex c hc
      exact ⟨s, by rw [k]; exact hs⟩
    · rw [k] at hs ht
      exact (h.con s t c hs ht).mono fun z hz => by rw [k]; exact hz
  | some d =>
    have hx' : x < ow.length := by rw [h.len]; exact hx
    have kx : own (ow.set x (some d)) x = some d := own_eq _ hx'
    have ko : ∀ s, s ≠ x → own (ow.set x (some d)) s = own ow s := fun s hs => own_ne _ hs
    have kk : ∀ s c, own ow s = some c → own (ow.set x (some d)) s = some c := fun s c hs => by
      rw [ko s (fun z => by rw [z, e] at hs; cases hs)]
      exact hs
    have back : ∀ s c, own (ow.set x (some d)) s = some c → ∃ s0, own ow s0 = some c ∧ Rch (nbr ps) (fun z => own (ow.set x (some d)) z = some c) s0 s := fun s c hs => by
      by_cases z : s = x
      · subst z
        rw [kx] at hs
        cases hs
        exact ⟨y, hy, .step (.refl (kk y _ hy)) (nbr_symm hn) kx⟩
      · have hs2 := hs
        rw [ko s z] at hs2
        exact ⟨s, hs2, .refl hs⟩
    refine ⟨by rw [List.length_set]; exact h.len, fun s c hs => ?_, fun c hc => ?_, fun s t c hs ht => ?_⟩
    · obtain ⟨s0, h0, _⟩ := back s c hs
      exact h.lt s0 c h0
    · obtain ⟨s, hs⟩ := h.ex c hc
      exact ⟨s, kk s c hs⟩
    · obtain ⟨s0, hs0, r1⟩ := back s c hs
      obtain ⟨t0, ht0, r2⟩ := back t c ht
      exact ((r1.symm (fun _ _ z => nbr_symm z)).trans ((h.con s0 t0 c hs0 ht0).mono fun z hz => kk z c hz)).trans r2
/-- the first standings handed out -/
structure Sown (n i : Nat) (ow : List (Option Nat)) (rest : List Nat) : Prop where
  len : ow.length = n
  lt : ∀ s c, own ow s = some c → c < i
  one : ∀ c, c < i → ∃ s, own ow s = some c ∧ ∀ t, own ow t = some c → t = s
  rl : rest.length + i = n
  nd : rest.Nodup
  rf : ∀ x ∈ rest, x < n ∧ own ow x = none
theorem Sown.start (n : Nat) : Sown n 0 (List.replicate n none) (List.range n) where
  len := List.length_replicate
  lt := fun s c h => by rw [own_rep] at h; cases h
  one := fun c hc => by omega
  rl := by rw [List.length_range]; rfl
  nd := List.nodup_range
  rf := fun x hx => ⟨List.mem_range.mp hx, own_rep n x⟩
theorem Sown.put {n i k x : Nat} {ow : List (Option Nat)} {rest : List Nat} (h : Sown n i ow rest) (hk : rest[k]? = some x) : Sown n (i + 1) (ow.set x (some i)) (rest.eraseIdx k) := by
  have hkl := (List.getElem?_eq_some_iff.mp hk).1
  obtain ⟨x1, x2⟩ := h.rf x (List.mem_of_getElem? hk)
  have kx : own (ow.set x (some i)) x = some i := own_eq _ (by rw [h.len]; exact x1)
  have ko : ∀ s, s ≠ x → own (ow.set x (some i)) s = own ow s := fun s hs => own_ne _ hs
  refine ⟨by rw [List.length_set]; exact h.len, fun s c hs => ?_, fun c hc => ?_, by rw [List.length_eraseIdx_of_lt hkl]; have := h.rl; omega, h.nd.sublist (List.eraseIdx_sublist _ _), fun z hz => ?_⟩
  · by_cases e : s = x
    · subst e
      rw [kx] at hs
      cases hs
      omega
    · rw [ko s e] at hs
      have := h.lt s c hs
      omega
  · by_cases e : c = i
    · subst e
      refine ⟨x, kx, fun t ht => ?_⟩
      by_cases e2 : t = x
      · exact e2
      · rw [ko t e2] at ht
        have := h.lt t c ht
        omega
    · obtain ⟨s, s1, s2⟩ := h.one c (by omega)
      have hsx : s ≠ x := fun z => by rw [z, x2] at s1; cases s1
      refine ⟨s, by rw [ko s hsx]; exact s1, fun t ht => ?_⟩
      by_cases e2 : t = x
      · subst e2
        rw [kx] at ht
        cases ht
        omega
      · rw [ko t e2] at ht
        exact s2 t ht
  · obtain ⟨j, j1, j2⟩ := List.mem_eraseIdx_iff_getElem?.mp hz
    obtain ⟨z1, z2⟩ := h.rf z (List.mem_of_getElem? j2)
    have hzx : z ≠ x := fun e => by
      subst e
      exact j1 (L2.nd_ix h.nd j2 hk)
    exact ⟨z1, by rw [ko z hzx]; exact z2⟩
theorem Sown.grown {n i : Nat} {ps : List (Nat × Nat)} {ow : List (Option Nat)} {rest : List Nat} (h : Sown n i ow rest) : Grown n i ps ow where
  len := h.len
  lt := h.lt
  ex := fun c hc => let ⟨s, s1, _⟩ := h.one c hc; ⟨s, s1⟩
  con := fun s t c hs ht => by
    obtain ⟨z, z1, z2⟩ := h.one c (h.lt s c hs)
    rw [z2 s hs, z2 t ht]
    exact .refl z1
/-! ### what is told: a book and its lands -/
structure Land (n m : Nat) (ps ts : List (Nat × Nat)) (ls : List (List Nat)) : Prop where
  m1 : 1 ≤ m
  len : ls.length = m
  pl : Plots n ls
  ne : ∀ l ∈ ls, l ≠ []
  con : ∀ l ∈ ls, ∀ a ∈ l, ∀ b ∈ l, Rch (nbr ps) (fun x => x ∈ l) a b
  tie : Rising m ts
  tcon : ∀ k, k < m → Rch (nbr ts) (fun x => x < m) 0 k
  tch : ∀ p ∈ ts, ∃ a b l1 l2, ls[p.1]? = some l1 ∧ ls[p.2]? = some l2 ∧ a ∈ l1 ∧ b ∈ l2 ∧ nbr ps a b
/-- what touches -/
structure Touch (m : Nat) (ps : List (Nat × Nat)) (ow : List (Option Nat)) (p : Nat × Nat) : Prop where
  lt : p.1 < p.2
  ltm : p.2 < m
  ex : ∃ a b, nbr ps a b ∧ own ow a = some p.1 ∧ own ow b = some p.2
/-- what is met, and the ties that led there -/
structure Met (m : Nat) (T F : List (Nat × Nat)) (M : List Nat) : Prop where
  nd : M.Nodup
  hd : M[0]? = some 0
  fn : F.Nodup
  f : ∀ p ∈ F, p ∈ T ∧ p.1 ∈ M ∧ p.2 ∈ M
  con : ∀ k ∈ M, Rch (nbr F) (fun x => x ∈ M) 0 k
  lt : ∀ k ∈ M, k < m
def Shut (T : List (Nat × Nat)) (M : List Nat) : Prop := ∀ p ∈ T, (p.1 ∈ M ↔ p.2 ∈ M)
theorem Met.start {m : Nat} (T : List (Nat × Nat)) (h : 1 ≤ m) : Met m T [] [0] :=
  ⟨by simp, rfl, List.nodup_nil, by simp, fun k hk => by rw [List.mem_singleton.mp hk]; exact .refl (by simp), fun k hk => by rw [List.mem_singleton.mp hk]; omega⟩
theorem nbr_ins {F : List (Nat × Nat)} {p : Nat × Nat} {x y : Nat} (h : nbr F x y) : nbr (insP F p) x y := h.imp (fun z => insP_mem.mpr (Or.inl z)) fun z => insP_mem.mpr (Or.inl z)
theorem Met.grow {m : Nat} {T F : List (Nat × Nat)} {M : List Nat} {p : Nat × Nat} {x y : Nat} (h : Met m T F M) (hp : p ∈ T) (e : p = (x, y) ∨ p = (y, x)) (hx : x ∈ M) (hy : y ∉ M) (hm : y < m) : Met m T (insP F p) (M ++ [y]) := by
  have sub : ∀ z, z ∈ M → z ∈ M ++ [y] := fun z hz => List.mem_append_left _ hz
  have my : y ∈ M ++ [y] := List.mem_append_right _ (List.mem_singleton.mpr rfl)
  have mp : p ∈ insP F p := insP_mem.mpr (Or.inr rfl)
  refine ⟨L2.nd_snoc h.nd hy, ?_, insP_nodup h.fn, fun q hq => ?_, fun k hk => ?_, fun k hk => ?_⟩
  · rw [List.getElem?_append_left (List.getElem?_eq_some_iff.mp h.hd).1]
    exact h.hd
  · rcases insP_mem.mp hq with hq | rfl
    · obtain ⟨a, b, c⟩ := h.f q hq
      exact ⟨a, sub _ b, sub _ c⟩
    · refine ⟨hp, ?_⟩
      rcases e with rfl | rfl
      · exact ⟨sub _ hx, my⟩
      · exact ⟨my, sub _ hx⟩
  · have r : ∀ z ∈ M, Rch (nbr (insP F p)) (fun w => w ∈ M ++ [y]) 0 z := fun z hz => (h.con z hz).mono2 (fun _ _ => nbr_ins) sub
    rcases List.mem_append.mp hk with hk | hk
    · exact r k hk
    · rw [List.mem_singleton.mp hk]
      refine .step (r x hx) ?_ my
      rcases e with rfl | rfl
      · exact Or.inl mp
      · exact Or.inr mp
  · rcases List.mem_append.mp hk with hk | hk
    · exact h.lt k hk
    · rw [List.mem_singleton.mp hk]
      exact hm
theorem Met.more {m : Nat} {T F : List (Nat × Nat)} {M : List Nat} {p : Nat × Nat} (h : Met m T F M) (hp : p ∈ T) (h1 : p.1 ∈ M) (h2 : p.2 ∈ M) : Met m T (insP F p) M := by
  refine ⟨h.nd, h.hd, insP_nodup h.fn, fun q hq => ?_, fun k hk => (h.con k hk).mono2 (fun _ _ => nbr_ins) fun _ z => z, h.lt⟩
  rcases insP_mem.mp hq with hq | rfl
  · exact h.f q hq
  · exact ⟨hp, h1, h2⟩
theorem Met.len {m : Nat} {T F : List (Nat × Nat)} {M : List Nat} (h : Met m T F M) : M.length ≤ m := nodup_lt h.nd h.lt
theorem Met.pos {m : Nat} {T F : List (Nat × Nat)} {M : List Nat} (h : Met m T F M) : 1 ≤ M.length := (List.getElem?_eq_some_iff.mp h.hd).1
def tieOf (M : List Nat) (p : Nat × Nat) : Nat × Nat := (min (M.idxOf p.1) (M.idxOf p.2), max (M.idxOf p.1) (M.idxOf p.2))
theorem ix_at {M : List Nat} {c : Nat} (h : c ∈ M) : M[M.idxOf c]? = some c := by
  have hl := List.idxOf_lt_length_of_mem h
  rw [List.getElem?_eq_getElem hl, List.getElem_idxOf hl]
theorem ix_inj {M : List Nat} {c d : Nat} (h : c ∈ M) (k : d ∈ M) (e : M.idxOf c = M.idxOf d) : c = d := by
  have h1 := ix_at h
  rw [e, ix_at k] at h1
  exact (Option.some.inj h1).symm
theorem Met.ties_nd {m : Nat} {T F : List (Nat × Nat)} {M : List Nat} (h : Met m T F M) (hT : ∀ p ∈ T, p.1 < p.2) : (F.map (tieOf M)).Nodup := by
  refine List.pairwise_map.mpr (h.fn.imp_of_mem fun {a b} ha hb hab e => hab ?_)
  obtain ⟨a1, a2, a3⟩ := h.f a ha
  obtain ⟨b1, b2, b3⟩ := h.f b hb
  have la := hT a a1
  have lb := hT b b1
  unfold tieOf at e
  have e1 := (Prod.mk.inj e).1
  have e2 := (Prod.mk.inj e).2
  have z : (M.idxOf a.1 = M.idxOf b.1 ∧ M.idxOf a.2 = M.idxOf b.2) ∨ (M.idxOf a.1 = M.idxOf b.2 ∧ M.idxOf a.2 = M.idxOf b.1) := by omega
  rcases z with ⟨z1, z2⟩ | ⟨z1, z2⟩
  · exact Prod.ext (ix_inj a2 b2 z1) (ix_inj a3 b3 z2)
  · have c1 := ix_inj a2 b3 z1
    have c2 := ix_inj a3 b2 z2
    omega
/-- the lands, by what is met -/
def plotOf (n : Nat) (ow : List (Option Nat)) (c : Nat) : List Nat := (List.range n).filter fun s => decide (own ow s = some c)
theorem mem_plot {n : Nat} {ow : List (Option Nat)} {c s : Nat} (hl : ow.length = n) : s ∈ plotOf n ow c ↔ own ow s = some c := by
  unfold plotOf
  rw [List.mem_filter, List.mem_range, decide_eq_true_eq]
  exact ⟨fun z => z.2, fun z => ⟨hl ▸ own_lt z, z⟩⟩
theorem Met.land {n m : Nat} {ps T F qs : List (Nat × Nat)} {M : List Nat} {ow : List (Option Nat)} (h : Met m T F M) (g : Grown n m ps ow) (hT : ∀ p ∈ T, Touch m ps ow p) (pm : qs.Perm (F.map (tieOf M))) (asc : qs.Pairwise ltP2) :
    Land n M.length ps qs (M.map (plotOf n ow)) := by
  have at_ : ∀ i l, (M.map (plotOf n ow))[i]? = some l → ∃ c, M[i]? = some c ∧ l = plotOf n ow c := fun i l e => by
    rw [List.getElem?_map] at e
    cases hc : M[i]? with
    | none => rw [hc] at e; cases e
    | some c =>
      rw [hc] at e
      exact ⟨c, hc, (Option.some.inj e).symm⟩
  have mem_ : ∀ l ∈ M.map (plotOf n ow), ∃ c, c ∈ M ∧ l = plotOf n ow c := fun l hl => by
    obtain ⟨c, hc, e⟩ := List.mem_map.mp hl
    exact ⟨c, hc, e.symm⟩
  have ixl : ∀ c ∈ M, M.idxOf c < M.length := fun c hc => List.idxOf_lt_length_of_mem hc
  have qin : ∀ {a b : Nat}, nbr F a b → a ∈ M → b ∈ M → nbr qs (M.idxOf a) (M.idxOf b) := fun {a b} hab ha hb => by
    have key : ∀ p ∈ F, nbr qs (M.idxOf p.1) (M.idxOf p.2) := fun p hp => by
      have z : tieOf M p ∈ qs := pm.mem_iff.mpr (List.mem_map.mpr ⟨p, hp, rfl⟩)
      unfold tieOf at z
      by_cases e : M.idxOf p.1 ≤ M.idxOf p.2
      · rw [Nat.min_eq_left e, Nat.max_eq_right e] at z
        exact Or.inl z
      · rw [Nat.min_eq_right (by omega), Nat.max_eq_left (by omega)] at z
        exact Or.inr z
    rcases hab with z | z
    · exact key _ z
    · exact nbr_symm (key _ z)
  have r0 : ∀ k, Rch (nbr F) (fun x => x ∈ M) 0 k → Rch (nbr qs) (fun x => x < M.length) (M.idxOf 0) (M.idxOf k) := fun k hk => by
    induction hk with
    | refl hz => exact .refl (ixl _ hz)
    | step h0 h1 h2 ih => exact .step ih (qin h1 h0.in_ h2) (ixl _ h2)
  have i0 : M.idxOf 0 = 0 := L2.nd_ix h.nd (ix_at (List.mem_of_getElem? h.hd)) h.hd
  refine ⟨h.pos, List.length_map _, ⟨fun l hl s hs => ?_, fun l hl => ?_, fun i j l k s hi hj hs ht => ?_⟩, fun l hl => ?_, fun l hl a ha b hb => ?_, ⟨fun q hq => ?_, asc⟩, fun k hk => ?_, fun q hq => ?_⟩
  · obtain ⟨c, hc, rfl⟩ := mem_ l hl
    exact g.len ▸ own_lt ((mem_plot g.len).mp hs)
  · obtain ⟨c, hc, rfl⟩ := mem_ l hl
    exact List.nodup_range.filter _
  · obtain ⟨c, hc, rfl⟩ := at_ i l hi
    obtain ⟨d, hd, rfl⟩ := at_ j k hj
    have e1 := (mem_plot g.len).mp hs
    rw [(mem_plot g.len).mp ht] at e1
    cases e1
    exact L2.nd_ix h.nd hc hd
  · obtain ⟨c, hc, rfl⟩ := mem_ l hl
    obtain ⟨s, hs⟩ := g.ex c (h.lt c hc)
    exact fun e => by
      have := (mem_plot g.len).mpr hs
      rw [e] at this
      cases this
  · obtain ⟨c, hc, rfl⟩ := mem_ l hl
    exact (g.con a b c ((mem_plot g.len).mp ha) ((mem_plot g.len).mp hb)).mono fun z hz => (mem_plot g.len).mpr hz
  · obtain ⟨p, hp, rfl⟩ := List.mem_map.mp (pm.mem_iff.mp hq)
    obtain ⟨p1, p2, p3⟩ := h.f p hp
    have ne : M.idxOf p.1 ≠ M.idxOf p.2 := fun e => by
      have := ix_inj p2 p3 e
      have := (hT p p1).lt
      omega
    have l1 := ixl _ p2
    have l2 := ixl _ p3
    show min _ _ < max _ _ ∧ max _ _ < _
    omega
  · have z := r0 _ (h.con M[k] (List.getElem_mem hk))
    rw [i0, L2.nd_ix h.nd (ix_at (List.getElem_mem hk)) (List.getElem?_eq_getElem hk)] at z
    exact z
  · obtain ⟨p, hp, rfl⟩ := List.mem_map.mp (pm.mem_iff.mp hq)
    obtain ⟨p1, p2, p3⟩ := h.f p hp
    obtain ⟨a, b, ab, oa, ob⟩ := (hT p p1).ex
    have g1 : (M.map (plotOf n ow))[M.idxOf p.1]? = some (plotOf n ow p.1) := by rw [List.getElem?_map, ix_at p2]; rfl
    have g2 : (M.map (plotOf n ow))[M.idxOf p.2]? = some (plotOf n ow p.2) := by rw [List.getElem?_map, ix_at p3]; rfl
    unfold tieOf
    by_cases e : M.idxOf p.1 ≤ M.idxOf p.2
    · rw [Nat.min_eq_left e, Nat.max_eq_right e]
      exact ⟨a, b, _, _, g1, g2, (mem_plot g.len).mpr oa, (mem_plot g.len).mpr ob, ab⟩
    · rw [Nat.min_eq_right (by omega), Nat.max_eq_left (by omega)]
      exact ⟨b, a, _, _, g2, g1, (mem_plot g.len).mpr ob, (mem_plot g.len).mpr oa, nbr_symm ab⟩
end SL
/-! The mathematics of drawn trees, moves and hands. No program here. -/
namespace SL
open PySem PySem.Spec PyProof.Rows L2
/-! ### trees: from each standing to the next one on the way to the root -/
abbrev Nx := List (Nat × Option Nat)
def nxL (F : Nx) (s : Nat) : Option (Option Nat) := (F.find? fun e => decide (e.1 = s)).map (·.2)
inductive Ld (F : Nx) (root : Nat) : Nat → Nat → Prop where
  | root (k : Nat) : Ld F root k root
  | step {k s t : Nat} : nxL F s = some (some t) → Ld F root k t → Ld F root (k + 1) s
theorem Ld.mono {F F' : Nx} {root k s j : Nat} (h : Ld F root k s) (hk : k ≤ j) (e : ∀ x t, nxL F x = some (some t) → nxL F' x = some (some t)) : Ld F' root j s := by
  induction h generalizing j with
  | root k => exact .root j
  | step h1 _ ih =>
    cases j with
    | zero => omega
    | succ j => exact .step (e _ _ h1) (ih (by omega))
theorem nx_app {F : Nx} {x s : Nat} {t : Option Nat} (h : s ∈ F.map (·.1)) : nxL (F ++ [(x, t)]) s = nxL F s := by
  unfold nxL
  rw [List.find?_append]
  cases e : F.find? (fun e => decide (e.1 = s)) with
  | some z => rfl
  | none =>
    obtain ⟨p, hp, hs⟩ := List.mem_map.mp h
    rw [List.find?_eq_none] at e
    exact absurd (by simpa using hs) (e p hp)
theorem nx_new {F : Nx} {x : Nat} {t : Option Nat} (h : x ∉ F.map (·.1)) : nxL (F ++ [(x, t)]) x = some t := by
  unfold nxL
  rw [List.find?_append]
  have e : F.find? (fun e => decide (e.1 = x)) = none := by
    rw [List.find?_eq_none]
    intro p hp z
    exact h (List.mem_map.mpr ⟨p, hp, by simpa using z⟩)
  rw [e]
  simp
theorem nx_key {F : Nx} {x : Nat} {t : Option Nat} (h : nxL F x = some t) : x ∈ F.map (·.1) := by
  unfold nxL at h
  cases e : F.find? (fun e => decide (e.1 = x)) with
  | none => rw [e] at h; cases h
  | some p =>
    exact List.mem_map.mpr ⟨p, List.mem_of_find?_eq_some e, by simpa using List.find?_some e⟩
theorem nx_none {F : Nx} {x : Nat} (h : x ∉ F.map (·.1)) : nxL F x = none := by
  cases e : nxL F x with
  | none => rfl
  | some t => exact absurd (nx_key e) h
theorem nx_some {F : Nx} {x : Nat} (h : x ∈ F.map (·.1)) : ∃ t, nxL F x = some t := by
  obtain ⟨p, hp, hs⟩ := List.mem_map.mp h
  unfold nxL
  cases e : F.find? (fun e => decide (e.1 = x)) with
  | some z => exact ⟨_, rfl⟩
  | none =>
    rw [List.find?_eq_none] at e
    exact absurd (by simpa using hs) (e p hp)
structure Tree (ps : List (Nat × Nat)) (lot : List Nat) (root : Nat) (F : Nx) : Prop where
  nd : (F.map (·.1)).Nodup
  sub : ∀ x ∈ F.map (·.1), x ∈ lot
  rt : nxL F root = some none
  ld : ∀ x ∈ F.map (·.1), Ld F root F.length x
  nb : ∀ x t, nxL F x = some (some t) → nbr ps x t ∧ t ∈ F.map (·.1)
theorem Tree.start {ps : List (Nat × Nat)} {lot : List Nat} {root : Nat} (h : root ∈ lot) : Tree ps lot root [(root, none)] where
  nd := by simp
  sub := fun x hx => by
    have : x = root := by simpa using hx
    rw [this]
    exact h
  rt := by unfold nxL; rw [List.find?_cons_of_pos (by simp)]; rfl
  ld := fun x hx => by
    have : x = root := by simpa using hx
    rw [this]
    exact .root _
  nb := fun x t e => by
    unfold nxL at e
    by_cases h : root = x
    · rw [List.find?_cons_of_pos (by simpa using h)] at e
      cases e
    · rw [List.find?_cons_of_neg (by simpa using h)] at e
      cases e
theorem Tree.len {ps : List (Nat × Nat)} {lot : List Nat} {root : Nat} {F : Nx} (h : Tree ps lot root F) : F.length ≤ lot.length := by
  rw [← List.length_map (f := fun e : Nat × Option Nat => e.1)]
  exact nodup_le h.nd h.sub
theorem Tree.rin {ps : List (Nat × Nat)} {lot : List Nat} {root : Nat} {F : Nx} (h : Tree ps lot root F) : root ∈ F.map (·.1) := nx_key h.rt
theorem keys_app {F : Nx} {x : Nat} {t : Option Nat} : (F ++ [(x, t)]).map (·.1) = F.map (·.1) ++ [x] := by rw [List.map_append]; rfl
theorem Tree.add {ps : List (Nat × Nat)} {lot : List Nat} {root x y : Nat} {F : Nx} (h : Tree ps lot root F) (hx : x ∈ lot) (nx : x ∉ F.map (·.1)) (hy : y ∈ F.map (·.1)) (hn : nbr ps x y) : Tree ps lot root (F ++ [(x, some y)]) := by
  have up : ∀ z t, nxL F z = some (some t) → nxL (F ++ [(x, some y)]) z = some (some t) := fun z t e => by rw [nx_app (nx_key e)]; exact e
  refine ⟨by rw [keys_app]; exact L2.nd_snoc h.nd nx, fun z hz => ?_, by rw [nx_app h.rin]; exact h.rt, fun z hz => ?_, fun z t e => ?_⟩
  · rw [keys_app] at hz
    rcases List.mem_append.mp hz with hz | hz
    · exact h.sub z hz
    · rw [List.mem_singleton.mp hz]
      exact hx
  · rw [keys_app] at hz
    rw [List.length_append]
    rcases List.mem_append.mp hz with hz | hz
    · exact (h.ld z hz).mono (Nat.le_add_right _ _) up
    · rw [List.mem_singleton.mp hz]
      exact .step (nx_new nx) ((h.ld y hy).mono (Nat.le_refl _) up)
  · rw [keys_app]
    by_cases e2 : z = x
    · subst e2
      rw [nx_new nx] at e
      cases e
      exact ⟨hn, List.mem_append_left _ hy⟩
    · have hz : z ∈ F.map (·.1) := by
        have := nx_key e
        rw [keys_app] at this
        rcases List.mem_append.mp this with z | z
        · exact z
        · exact absurd (List.mem_singleton.mp z) e2
      rw [nx_app hz] at e
      obtain ⟨a, b⟩ := h.nb z t e
      exact ⟨a, List.mem_append_left _ b⟩
/-- nothing more to be added -/
def Whole (ps : List (Nat × Nat)) (lot : List Nat) (F : Nx) : Prop := ∀ x ∈ F.map (·.1), ∀ y ∈ lot, nbr ps x y → y ∈ F.map (·.1)
theorem Tree.all {ps : List (Nat × Nat)} {lot : List Nat} {root : Nat} {F : Nx} (h : Tree ps lot root F) (w : Whole ps lot F) (c : ∀ s ∈ lot, Rch (nbr ps) (fun x => x ∈ lot) root s) : ∀ s ∈ lot, s ∈ F.map (·.1) := fun s hs =>
  (c s hs).closed h.rin fun x y hx hxy hy => w x hx y hy hxy
/-! ### moves -/
def mvA (M : Mvs) (o : Int) (s t : Nat) : Prop := mvL M (s, o) = some (some t)
structure Home (M : Mvs) (o : Int) (lot : List Nat) (root : Nat) : Prop where
  go : ∀ s ∈ lot, Rch (mvA M o) (fun x => x ∈ lot) s root
  rest : mvL M (root, o) = some none
  rin : root ∈ lot
theorem Ld.rch {F : Nx} {root k s : Nat} {ps : List (Nat × Nat)} {lot : List Nat} {M : Mvs} {o : Int} (h : Ld F root k s) (t : Tree ps lot root F) (hs : s ∈ lot) (e : ∀ x t, x ∈ lot → nxL F x = some (some t) → mvL M (x, o) = some (some t)) : Rch (mvA M o) (fun x => x ∈ lot) s root := by
  induction h with
  | root k => exact .refl hs
  | step h1 _ ih =>
    have hz := t.sub _ (t.nb _ _ h1).2
    exact Rch.trans (.step (.refl hs) (e _ _ hs h1) hz) (ih hz)
theorem Home.of_tree {ps : List (Nat × Nat)} {lot : List Nat} {root : Nat} {F : Nx} {M : Mvs} {o : Int} (t : Tree ps lot root F) (all : ∀ s ∈ lot, s ∈ F.map (·.1)) (e : ∀ s ∈ lot, mvL M (s, o) = nxL F s) : Home M o lot root :=
  ⟨fun s hs => (t.ld s (all s hs)).rch t hs fun x y hx hxy => by rw [e x hx]; exact hxy, by rw [e root (t.sub _ t.rin)]; exact t.rt, t.sub _ t.rin⟩
theorem mvA_congr {M M' : Mvs} {o : Int} {lot : List Nat} {a b : Nat} (h : Rch (mvA M o) (fun x => x ∈ lot) a b) (e : ∀ s ∈ lot, mvL M' (s, o) = mvL M (s, o)) : Rch (mvA M' o) (fun x => x ∈ lot) a b := by
  induction h with
  | refl h => exact .refl h
  | step h0 h1 h2 ih => exact .step ih (by unfold mvA; rw [e _ h0.in_]; exact h1) h2
theorem Home.congr {M M' : Mvs} {o : Int} {lot : List Nat} {root : Nat} (h : Home M o lot root) (e : ∀ s ∈ lot, mvL M' (s, o) = mvL M (s, o)) : Home M' o lot root :=
  ⟨fun s hs => mvA_congr (h.go s hs) e, by rw [e root h.rin]; exact h.rest, h.rin⟩
/-- the moves lead from hv through a lot over into another -/
def Over (M : Mvs) (w : Int) (lv lw : List Nat) (hv : Nat) : Prop := ∃ x y, Rch (mvA M w) (fun z => z ∈ lv) hv x ∧ mvL M (x, w) = some (some y) ∧ y ∈ lw
theorem Over.congr {M M' : Mvs} {w : Int} {lv lw : List Nat} {hv : Nat} (h : Over M w lv lw hv) (e : ∀ s ∈ lv, mvL M' (s, w) = mvL M (s, w)) : Over M' w lv lw hv := by
  obtain ⟨x, y, h1, h2, h3⟩ := h
  exact ⟨x, y, mvA_congr h1 e, by rw [e x h1.in_]; exact h2, h3⟩
/-- moves of the right kind -/
structure MvOk (n m : Nat) (ps : List (Nat × Nat)) (M : Mvs) : Prop where
  nd : (M.map (·.1)).Nodup
  ok : ∀ e ∈ M, e.1.1 < n ∧ -1 ≤ e.1.2 ∧ e.1.2 < m ∧ ∀ t, e.2 = some t → nbr ps e.1.1 t ∧ t < n
theorem MvOk.nil {n m : Nat} {ps : List (Nat × Nat)} : MvOk n m ps [] := ⟨List.nodup_nil, fun e h => by cases h⟩
theorem MvOk.put {n m : Nat} {ps : List (Nat × Nat)} {M : Mvs} (h : MvOk n m ps M) {s : Nat} {o : Int} {t : Option Nat} (hs : s < n) (o1 : -1 ≤ o) (o2 : o < m) (ht : ∀ x, t = some x → nbr ps s x ∧ x < n) : MvOk n m ps (mvP M (s, o) t) :=
  ⟨mvP_nodup _ _ h.nd, fun e he => by
    rcases mvP_mem he with rfl | ⟨he, _⟩
    · exact ⟨hs, o1, o2, ht⟩
    · exact h.ok e he⟩
theorem MvOk.len {n m : Nat} {ps : List (Nat × Nat)} {M : Mvs} (h : MvOk n m ps M) (hn : n ≤ 12) (hm : m ≤ 8) : M.length ≤ 108 :=
  mvs_len h.nd fun e he => by
    obtain ⟨a, b, c, _⟩ := h.ok e he
    exact ⟨by omega, b, by omega⟩
/-! ### a hand that keeps a book -/
theorem path_of {W : Wd} {o : Int} {cs : List Nat} {S : Nat → Prop} {a b : Nat} {q : List Nat} (h : Rch (mvA W.moves o) S a b) (hS : ∀ x, S x → ∃ c, W.rd x = some c ∧ c ∈ cs) (hq : IsPath W o cs q) (e : q.head? = some b) :
    ∃ p, IsPath W o cs p ∧ p.head? = some a ∧ p.getLast? = q.getLast? ∧ ∀ x ∈ p, S x ∨ x ∈ q := by
  induction h generalizing q with
  | refl h => exact ⟨q, hq, e, rfl, fun x hx => Or.inr hx⟩
  | @step b c h0 h1 h2 ih =>
    cases q with
    | nil => exact hq.elim
    | cons d r =>
      simp at e
      subst e
      have h3 : IsPath W o cs (b :: d :: r) := ⟨hS _ h0.in_, h1, hq⟩
      obtain ⟨p, p1, p2, p3, p4⟩ := ih h3 rfl
      refine ⟨p, p1, p2, by rw [p3, List.getLast?_cons_cons], fun x hx => ?_⟩
      rcases p4 x hx with z | z
      · exact Or.inl z
      · rcases List.mem_cons.mp z with z | z
        · exact Or.inl (z ▸ h0.in_)
        · exact Or.inr z
theorem homeOk_of {W : Wd} {c s h : Nat} {l : List Nat} (H : Home W.moves (-1) l h) (hh : W.homes[c]? = some h) (rd : ∀ x ∈ l, W.rd x = some c) (hs : s ∈ l) : HomeOk W s := by
  have hS : ∀ x, x ∈ l → ∃ d, W.rd x = some d ∧ d ∈ [c] := fun x hx => ⟨c, rd x hx, by simp⟩
  obtain ⟨p, p1, p2, p3, _⟩ := path_of (W := W) (cs := [c]) (q := [h]) (H.go s hs) hS ⟨hS h H.rin, H.rest⟩ rfl
  exact ⟨p, c, rd s hs, p1, p2, by rw [p3, hh]; rfl⟩
theorem changeOk_of {W : Wd} {v w hv hw : Nat} {lv lw : List Nat} (ev : W.homes[v]? = some hv) (ew : W.homes[w]? = some hw) (rv : ∀ x ∈ lv, W.rd x = some v) (rw_ : ∀ x ∈ lw, W.rd x = some w)
    (Hv : Home W.moves (-1) lv hv) (Hw : Home W.moves (-1) lw hw) (Hw2 : Home W.moves (w : Int) lw hw) (O : Over W.moves (w : Int) lv lw hv) : ChangeOk W v w := by
  obtain ⟨x, y, o1, o2, o3⟩ := O
  have sv : ∀ x, x ∈ lv → ∃ d, W.rd x = some d ∧ d ∈ [v, w] := fun x hx => ⟨v, rv x hx, by simp⟩
  have sw : ∀ x, x ∈ lw → ∃ d, W.rd x = some d ∧ d ∈ [v, w] := fun x hx => ⟨w, rw_ x hx, by simp⟩
  obtain ⟨p, p1, p2, p3, p4⟩ := path_of (W := W) (cs := [v, w]) (q := [hw]) (Hw2.go y o3) sw ⟨sw hw Hw2.rin, Hw2.rest⟩ rfl
  have p5 : IsPath W (w : Int) [v, w] (x :: p) := by
    cases p with
    | nil => exact p1.elim
    | cons a r =>
      simp at p2
      subst p2
      exact ⟨sv x o1.in_, o2, p1⟩
  obtain ⟨q, q1, q2, q3, q4⟩ := path_of (W := W) (cs := [v, w]) o1 sv p5 rfl
  refine ⟨q, hv, q1, ev, q2, ?_, fun s hs => ?_⟩
  · rw [q3, ew]
    cases p with
    | nil => exact p1.elim
    | cons a r =>
      rw [List.getLast?_cons_cons, p3]
      rfl
  · have hin : s ∈ lv ∨ s ∈ lw := by
      rcases q4 s hs with z | z
      · exact Or.inl z
      · rcases List.mem_cons.mp z with z | z
        · exact Or.inl (z ▸ o1.in_)
        · rcases p4 s z with z | z
          · exact Or.inr z
          · rw [List.mem_singleton.mp z]
            exact Or.inr Hw.rin
    rcases hin with z | z
    · exact homeOk_of Hv ev rv z
    · exact homeOk_of Hw ew rw_ z
end SL
/-! Owners: _law_owners, _law_touching. -/
namespace SL
open PySem PySem.Spec PyProof.Rows L2
theorem q_ixO {K : Frg} {H : Hp} {Q : VK} {p : Addr} {ow : List (Option Nat)} {s : Nat} (h : H p = some (.lst (ow.map vo))) (hs : s < ow.length) (q : Q (vo (own ow s)) H) : rIxL K (.ref p) (vn s) H Q :=
  q_ixL (v := vo (own ow s)) h (by rw [List.getElem?_map, own_get hs]; rfl) q
theorem q_setO {H : Hp} {Q : Hp → Prop} {p : Addr} {ow : List (Option Nat)} {s : Nat} (v : Option Nat) (h : H p = some (.lst (ow.map vo))) (hs : s < ow.length) (q : Q (upd H p (.lst ((ow.set s v).map vo)))) : rSetL (.ref p) (vn s) (vo v) H Q :=
  q_set h (by rw [List.length_map]; exact hs) (by rw [List.map_set]) q
/-- plots of land, each a tuple of its own -/
structure PlotsAt (H : Hp) (xs : List V) (ls : List (List Nat)) : Prop where
  len : xs.length = ls.length
  at_ : ∀ (i : Nat) (l : List Nat), ls[i]? = some l → ∃ a, xs[i]? = some (V.ref a) ∧ H a = some (.tup (l.map vn))
theorem PlotsAt.same {H H' : Hp} {xs : List V} {ls : List (List Nat)} (h : PlotsAt H xs ls) (e : Same H H') : PlotsAt H' xs ls :=
  ⟨h.len, fun i p hp => let ⟨a, h1, h2⟩ := h.at_ i p hp; ⟨a, h1, e _ _ h2⟩⟩
theorem rep_vo (n : Nat) : (List.range n).map (fun _ => V.non) = (List.replicate n (none : Option Nat)).map vo := by
  rw [List.map_replicate, List.map_const', List.length_range]
  rfl
/-- [None for .. in range(n)] -/
theorem lc_none {j i : Nat} {n : Nat} {σ : L2.St} {H : Hp} {vs : List Nat} (hv : vs = [j]) (hj : σ[i]? = some (some (vn n))) (hn : n ≤ 1000) (hw : ∀ x : V, wipe ((wipe σ [j]).set j (some x)) [j] = wipe σ [j]) {Q : VK}
    (q : ∀ L H', H L = none → Same H H' → H' L = some (.lst ((List.replicate n (none : Option Nat)).map vo)) → Q (.ref L) H') : tLc (iRng1 (tCons (tVar i) tNil)) (gName j) tYes (tC .non) vs σ H Q := by
  subst hv
  refine ⟨_, hj, _, rfl, by omega, by omega, fun L hL => ?_⟩
  refine lcR (B := H) (fun _ y _ => y = V.non) (L2.Same.refl _) hL (by omega) (fun _ _ _ _ _ e => e) hw (fun k H2 hk s2 nD N hN => hN _ _ (L2.Same.refl _) rfl) fun H2 ys s2 hy hl hR => ?_
  refine q L H2 hL s2 ?_
  rw [hy, list_of_at hl fun k y e => hR k y e]
  have e : ((n : Int)).toNat = n := by omega
  rw [e, rep_vo]
/-- who owns what, under way -/
structure OwSt (B H : Hp) (L : Addr) (n : Nat) (R : Nat → Nat → Prop) : Prop where
  sm : Same B H
  ex : ∃ ow, H L = some (.lst (ow.map vo)) ∧ ow.length = n ∧ ∀ s c, own ow s = some c ↔ R s c
theorem OwSt.mono {B H : Hp} {L : Addr} {n : Nat} {R S : Nat → Nat → Prop} (h : OwSt B H L n R) (e : ∀ s c, R s c ↔ S s c) : OwSt B H L n S := by
  obtain ⟨ow, h1, h2, h3⟩ := h.ex
  exact ⟨h.sm, ow, h1, h2, fun s c => (h3 s c).trans (e s c)⟩
theorem OwSt.put {B H : Hp} {L : Addr} {n : Nat} {R : Nat → Nat → Prop} {N : Hp → Prop} {x c : Nat} (h : OwSt B H L n R) (hB : B L = none) (hx : x < n) (q : ∀ H', OwSt B H' L n (fun s d => (s = x ∧ d = c) ∨ (s ≠ x ∧ R s d)) → N H') : rSetL (.ref L) (vn x) (vn c) H N := by
  obtain ⟨ow, h1, h2, h3⟩ := h.ex
  refine q_setO (some c) h1 (by omega) (q _ ⟨h.sm.mut hB, _, upd_same, by rw [List.length_set]; exact h2, fun s d => ?_⟩)
  by_cases e : s = x
  · subst e
    rw [own_eq _ (by omega)]
    simp [eq_comm]
  · rw [own_ne _ e, h3]
    simp [e]
section
variable {P : Program} {w : World} {K : Frg} {mg : Str → Option Value} {base : Heap}
def spOwners : Sp := fun vs H Q _ => ∃ (n : Nat) (tp : Addr) (xs : List V) (ls : List (List Nat)), vs = [vn n, .ref tp] ∧ H tp = some (.tup xs) ∧ PlotsAt H xs ls ∧ Plots n ls ∧ n ≤ 100 ∧ ls.length ≤ 100 ∧
  ∀ L ow H', H L = none → Same H H' → H' L = some (.lst (ow.map vo)) → ow.length = n → (∀ s c, own ow s = some c ↔ ∃ l, ls[c]? = some l ∧ s ∈ l) → Q (.ref L) H'
theorem cal__law_owners (T : Txt K mg) : C8.Cal P w K mg base 1 "_law_owners" spOwners [] := by
  refine mkCal T.d__law_owners sc__law_owners (fun _ _ _ _ _ _ us hl => match us, hl with | [_, _], _ => rfl) (fun vs H Q E h => ?_) (fun f cdv A outer s H vs Q E hr h => ?_)
  · obtain ⟨n, tp, xs, ls, rfl, _⟩ := h
    rfl
  · have hu := hu_of hr
    obtain ⟨n, tp, xs, ls, rfl, ht, hp, hP, hn, hll, q⟩ := h
    refine ⟨_, (pss_cons (ps_setLc (i := 2) (own := [("_law_k", 5)]) rfl sc__law_owners.nd rfl rfl (sw_true rfl rfl rfl (by decide +kernel)) (pi_range1 rfl T.b_range (pa_cons (pv 0) pa_nil)) (blkOk_by (N := N__law_owners) (sc := defScope s__law_owners) (by decide +kernel)) (fun _ _ _ _ _ => (pg_name (i := 5) sc__law_owners.nd rfl (Or.inl rfl))) (fun _ _ _ _ _ => pts_nil) (fun _ _ _ _ _ => pe_non))
      (pss_cons (ps_for PassesOwn.never rfl (pi_range1 rfl T.b_range (pa_cons (pe_callB (k_len (K := K) rfl) (by rfl) T.b_len (by decide +kernel) (pa_cons (pv 1) pa_nil)) pa_nil)) (pg_name (i := 3) sc__law_owners.nd rfl (Or.inl rfl)) (pss_one (ps_for PassesOwn.never rfl (k_tuple (K := K) rfl (pe_ix (k_ixT (K := K) rfl) (pv 1) (pv 3) (fun _ _ => rfl))) (pg_name (i := 4) sc__law_owners.nd rfl (Or.inl rfl)) (pss_one (ps_asg (pv 3) (pg_sub (pv 2) (pv 4) set_list))))))
      (pss_one (ps_ret (pv 2))))), ?_⟩
    walk_at "sd"
    refine lc_none (i := 0) (j := 5) (n := n) rfl rfl (by omega) (fun _ => rfl) fun L H1 hL s1 h1 => ?_
    walk_at "sd"
    refine for_it ?_
    simp only [iRng1]
    walk_at "sd"
    have hx8 : xs.length = ls.length := hp.len
    refine ⟨xs, Or.inr (Or.inl (Or.inl (s1 _ _ ht))), ?_⟩
    refine ⟨by omega, by omega, ?_⟩
    refine for_range (lo := 0) (n := ((xs.length : Nat) : Int).toNat) (fun i σ H2 => ∃ o3 o4, σ = [some (vn n), some (V.ref tp), some (V.ref L), o3, o4, none] ∧ OwSt H H2 L n (fun s c => c < i ∧ ∃ l, ls[c]? = some l ∧ s ∈ l))
      ⟨none, none, rfl, s1, _, h1, List.length_replicate, fun s c => by simp [own_rep]⟩ (fun i σ H2 hi ⟨o3, o4, e, w2⟩ => ?_) fun σ H2 ⟨o3, o4, e, w2⟩ => ?_
    · subst e
      have hi2 : i < ls.length := by omega
      obtain ⟨a, a1, a2⟩ := hp.at_ i ls[i] (List.getElem?_eq_getElem hi2)
      have hli : ls[i]? = some ls[i] := List.getElem?_eq_getElem hi2
      have ht' : H2 tp = some (.tup xs) := w2.sm _ _ ht
      have e3 : V.int (0 + (i : Int)) = vn i := by rw [Int.zero_add]
      rw [e3]
      walk_at "sd"
      refine for_it ?_
      simp only [iTup]
      walk_at "sd"
      refine q_ixT ht' a1 ?_
      have hin : ls[i] ∈ ls := List.getElem_mem hi2
      refine ⟨a, rfl, ⟨_, Or.inl (Or.inl (w2.sm _ _ a2))⟩, ?_⟩
      generalize ls[i] = l at *
      refine for_tup (K := K) (a := a) (xs := l.map vn) (fun j σ H3 => ∃ o4, σ = [some (vn n), some (V.ref tp), some (V.ref L), some (vn i), o4, none] ∧ OwSt H H3 L n (fun s c => (c < i ∧ ∃ l, ls[c]? = some l ∧ s ∈ l) ∨ (c = i ∧ s ∈ l.take j)))
        ⟨o4, rfl, w2.mono fun s c => by simp⟩ (fun j σ H3 _ ⟨_, _, w3⟩ => Or.inl (Or.inl (w3.sm _ _ a2))) (fun j x σ H3 hx ⟨o4, e, w3⟩ => ?_) fun σ H3 ⟨o4, e, w3⟩ => ?_
      · subst e
        rw [List.getElem?_map] at hx
        cases hk : l[j]? with
        | none => rw [hk] at hx; cases hx
        | some z =>
          rw [hk] at hx
          cases hx
          have hz := List.mem_of_getElem? hk
          have tk : l.take (j + 1) = l.take j ++ [z] := by rw [List.take_add_one, hk]; rfl
          walk_at "sd"
          refine w3.put hL (hP.lt _ hin z hz) fun H4 w4 => w4.mono fun s c => ?_
          rw [tk, List.mem_append, List.mem_singleton]
          constructor
          · rintro (⟨z1, z2⟩ | ⟨z1, z2 | z2⟩)
            · exact Or.inr ⟨z2, Or.inr z1⟩
            · exact Or.inl z2
            · exact Or.inr ⟨z2.1, Or.inl z2.2⟩
          · rintro (z2 | ⟨z2, z3 | z3⟩)
            · refine Or.inr ⟨fun e => ?_, Or.inl z2⟩
              obtain ⟨z4, m', z5, z6⟩ := z2
              have := hP.dj c i m' l s z5 hli z6 (e ▸ hz)
              omega
            · by_cases e : s = z
              · exact Or.inl ⟨e, z2⟩
              · exact Or.inr ⟨e, Or.inr ⟨z2, z3⟩⟩
            · exact Or.inl ⟨z3, z2⟩
      · subst e
        refine ⟨_, _, rfl, w3.mono fun s c => ?_⟩
        rw [List.length_map, List.take_length]
        constructor
        · rintro (⟨z1, z2⟩ | ⟨z1, z2⟩)
          · exact ⟨by omega, z2⟩
          · exact ⟨by omega, l, by rw [z1]; exact hli, z2⟩
        · rintro ⟨z1, m', z2, z3⟩
          by_cases e : c = i
          · subst e
            rw [hli] at z2
            cases z2
            exact Or.inr ⟨rfl, z3⟩
          · exact Or.inl ⟨by omega, m', z2, z3⟩
    · subst e
      obtain ⟨ow, o1, o2, o3⟩ := w2.ex
      walk_at "sd"
      refine q L ow H2 hL w2.sm o1 o2 fun s c => (o3 s c).trans ⟨fun z => z.2, fun z => ⟨?_, z⟩⟩
      obtain ⟨l, z1, _⟩ := z
      have := (List.getElem?_eq_some_iff.mp z1).1
      omega
/-- what touches, under way -/
structure TchSt (B H : Hp) (d : Addr) (m : Nat) (ps : List (Nat × Nat)) (ow : List (Option Nat)) : Prop where
  sm : Same B H
  ex : ∃ F, H d = some (.dT (yes2 F)) ∧ F.Nodup ∧ ∀ p ∈ F, Touch m ps ow p
theorem TchSt.same {B H H' : Hp} {d : Addr} {m : Nat} {ps : List (Nat × Nat)} {ow : List (Option Nat)} (h : TchSt B H d m ps ow) (e : Same H H') : TchSt B H' d m ps ow := by
  obtain ⟨F, h1, h2⟩ := h.ex
  exact ⟨h.sm.trans e, F, e _ _ h1, h2⟩
theorem TchSt.put {B H : Hp} {d t : Addr} {m : Nat} {ps : List (Nat × Nat)} {ow : List (Option Nat)} {N : Hp → Prop} (h : TchSt B H d m ps ow) (hB : B d = none) (hm : m ≤ 8) {x y : Nat} (hp : Touch m ps ow (x, y)) (ht : H t = some (.tup [vn x, vn y])) (q : ∀ H', TchSt B H' d m ps ow → N H') :
    ∃ H4, DPut H d (.ref t) (.bl true) H4 ∧ N H4 := by
  obtain ⟨F, h1, h2, h3⟩ := h.ex
  refine ⟨_, DPut.t (k := mkey x y) h1 ht (szt ?_), ?_⟩
  · unfold yes2
    rw [List.length_map]
    have := edges_len (n := m) h2 (fun p hp => ⟨(h3 p hp).lt, (h3 p hp).ltm⟩) (by omega)
    omega
  rw [yes2_put]
  refine q _ ⟨h.sm.mut hB, insP F (x, y), upd_same, insP_nodup h2, fun p hq => ?_⟩
  rcases insP_mem.mp hq with hq | rfl
  · exact h3 p hq
  · exact hp
def spTouching : Sp := fun vs H Q _ => ∃ (tp L : Addr) (n m : Nat) (xs : List V) (ps : List (Nat × Nat)) (ow : List (Option Nat)), vs = [.ref tp, .ref L] ∧ H tp = some (.tup xs) ∧ Prs H xs ps ∧ Rising n ps ∧ H L = some (.lst (ow.map vo)) ∧ ow.length = n ∧ m ≤ 8 ∧ (∀ s c, own ow s = some c → c < m) ∧
  ∀ T ys ts H', H T = none → Same H H' → H' T = some (.lst ys) → Prs H' ys ts → ts.Nodup → (∀ p ∈ ts, Touch m ps ow p) → Q (.ref T) H'
theorem cal__law_touching (T : Txt K mg) : C8.Cal P w K mg base 2 "_law_touching" spTouching [] := by
  refine mkCal T.d__law_touching sc__law_touching (fun _ _ _ _ _ _ us hl => match us, hl with | [_, _], _ => rfl) (fun vs H Q E h => ?_) (fun f cdv A outer s H vs Q E hr h => ?_)
  · obtain ⟨tp, L, n, m, xs, ps, ow, rfl, _⟩ := h
    rfl
  · have hu := hu_of hr
    obtain ⟨tp, L, n, m, xs, ps, ow, rfl, ht, hp, hR, hL, hl, hm, hlt, q⟩ := h
    refine ⟨_, (pss_cons (ps_set (i := 2) sc__law_touching.nd rfl (Or.inl rfl) pe_dnewT)
      (pss_cons (ps_for PassesOwn.never rfl (k_tuple (K := K) rfl (pv 0)) (k_gtup (K := K) (n := 2) rfl rfl (pgs_cons (pg_name (i := 3) sc__law_touching.nd rfl (Or.inl rfl)) (pgs_cons (pg_name (i := 4) sc__law_touching.nd rfl (Or.inl rfl)) pgs_nil))) (pss_one (ps_if (PW.pt (pw_and (pt_cmpR op_notN (pe_ix (k_ixL (K := K) rfl) (pv 1) (pv 3) (fun _ _ => rfl)) pe_non (nomark _)) (pw_and (pt_cmpR op_notN (pe_ix (k_ixL (K := K) rfl) (pv 1) (pv 4) (fun _ _ => rfl)) pe_non (nomark _)) (pw_and1 (pt_cmpR op_ne (pe_ix (k_ixL (K := K) rfl) (pv 1) (pv 3) (fun _ _ => rfl)) (pe_ix (k_ixL (K := K) rfl) (pv 1) (pv 4) (fun _ _ => rfl)) (nomark _)))))) (pss_one (ps_dput hu (pv 2) (C8.pe_c (cal__law_pair T) hr (by decide) rfl (pa_cons (pe_ix (k_ixL (K := K) rfl) (pv 1) (pv 3) (fun _ _ => rfl)) (pa_cons (pe_ix (k_ixL (K := K) rfl) (pv 1) (pv 4) (fun _ _ => rfl)) pa_nil))) pe_bl rfl)) pss_nil)))
      (pss_one (ps_ret (pe_callB (k_sortP (K := K) rfl) (by rfl) T.b_sorted (by decide +kernel) (pa_cons (pe_callTy (call_list_dT rfl) (by rfl) T.b_list (by decide +kernel) (pa_cons (pv 2) pa_nil)) pa_nil)))))), ?_⟩
    walk_at "sd"
    intro d hd
    refine ⟨_, rfl, tp, rfl, ⟨_, Or.inl (Or.inl (L2.Same.new (o := .dT []) hd _ _ ht))⟩, ?_⟩
    refine for_tup (K := K) (a := tp) (xs := xs) (fun i σ H2 => ∃ o3 o4, σ = [some (V.ref tp), some (V.ref L), some (V.ref d), o3, o4] ∧ TchSt H H2 d m ps ow)
      ⟨none, none, rfl, L2.Same.new hd, [], upd_same, List.nodup_nil, by simp⟩ (fun i σ H2 _ ⟨_, _, _, w2⟩ => Or.inl (Or.inl (w2.sm _ _ ht))) (fun i x σ H2 hx ⟨o3, o4, e, w2⟩ => ?_) fun σ H2 ⟨o3, o4, e, w2⟩ => ?_
    · subst e
      have hi : i < ps.length := by rw [← hp.len]; exact (List.getElem?_eq_some_iff.mp hx).1
      have hpi : ps[i]? = some ps[i] := List.getElem?_eq_getElem hi
      obtain ⟨a, a1, a2⟩ := hp.at_ i ps[i] hpi
      rw [hx] at a1
      cases a1
      have hin : ps[i] ∈ ps := List.getElem_mem hi
      obtain ⟨r1, r2⟩ := hR.ok _ hin
      generalize ps[i] = p at *
      refine g_pair (w2.sm _ _ a2) ?_
      walk_at "sd"
      have hL2 := w2.sm _ _ hL
      have b1 : p.1 < ow.length := by omega
      have b2 : p.2 < ow.length := by omega
      refine q_ixO (s := p.1) hL2 b1 ?_
      walk_at "sd"
      cases o1 : own ow p.1 with
      | none =>
        show (if V.non = V.non then _ else _)
        rw [if_pos rfl]
        exact w2
      | some c1 =>
        show (if vn c1 = V.non then _ else _)
        rw [if_neg (fun z => by cases z)]
        refine q_ixO (s := p.2) hL2 b2 ?_
        cases o2 : own ow p.2 with
        | none =>
          show (if V.non = V.non then _ else _)
          rw [if_pos rfl]
          exact w2
        | some c2 =>
          show (if vn c2 = V.non then _ else _)
          rw [if_neg (fun z => by cases z)]
          refine q_ixO (s := p.1) hL2 b1 (q_ixO (s := p.2) hL2 b2 ?_)
          rw [o1, o2]
          refine ⟨scal_ii.mpr trivial, ?_⟩
          refine ite2 (fun _ => w2) (fun hne => ?_)
          have hne : c1 ≠ c2 := fun e => hne (by rw [e])
          refine q_ixO (s := p.1) hL2 b1 (q_ixO (s := p.2) hL2 b2 ?_)
          rw [o1, o2]
          refine ⟨c1, c2, rfl, fun t H3 _ s3 h3 => (w2.same s3).put hd hm (x := min c1 c2) (y := max c1 c2) ⟨by show min c1 c2 < max c1 c2; omega, ?_, ?_⟩ h3 fun H' w' => w'⟩
          · have := hlt _ _ o1
            have := hlt _ _ o2
            show max c1 c2 < m
            omega
          · by_cases hc : c1 ≤ c2
            · rw [Nat.min_eq_left hc, Nat.max_eq_right hc]
              exact ⟨p.1, p.2, Or.inl hin, o1, o2⟩
            · rw [Nat.min_eq_right (by omega), Nat.max_eq_left (by omega)]
              exact ⟨p.2, p.1, Or.inr hin, o2, o1⟩
    · subst e
      walk_at "sd"
      obtain ⟨F, f1, f2, f3⟩ := w2.ex
      refine ⟨_, Or.inl f1, fun p bs hp' hbs => ?_⟩
      have sp : Same H2 (upd H2 p (.lst (bs.map V.ref))) := L2.Same.new hp'
      refine sort_prs (Or.inl (Or.inl upd_same)) ((yes2_keys hbs).same sp) f2 fun ys qs p2 g1 g2 g3 hp2 => ?_
      have sp2 := L2.Same.new (o := .lst ys) hp2
      have all := (w2.sm.trans sp).trans sp2
      exact q p2 ys qs _ ((w2.sm.trans sp).fr hp2) all upd_same (g1.same sp2) (g2.nodup_iff.mpr f2) fun p hp => f3 p (g2.mem_iff.mp hp)
end
end SL
/-! The law's own walks: _law_walk, _law_homeward, _law_changed. -/
namespace SL
open PySem PySem.Spec PyProof.Rows L2
section
variable {P : Program} {w : World} {K : Frg} {mg : Str → Option Value} {base : Heap}
def spLWalk : Sp := fun vs H Q _ => ∃ (a ct : Addr) (W : Wd) (s : Nat) (o : Int) (cs : List Nat), vs = [.ref a, vn s, .int o, .ref ct] ∧ WorldAt H a W ∧ W.Ok ∧ s < W.size ∧ H ct = some (.lst (cs.map vn)) ∧
  ∀ t L found b H', H t = none → H L = none → Same H H' → H' t = some (.tup [.ref L, .bl b]) → H' L = some (.lst (found.map vn)) → WalkRes W o cs s found b → Q (.ref t) H'
theorem cal__law_walk (T : Txt K mg) : C8.Cal P w K mg base 1 "_law_walk" spLWalk [] := by
  refine mkCal T.d__law_walk sc__law_walk (fun _ _ _ _ _ _ us hl => match us, hl with | [_, _, _, _], _ => rfl) (fun vs H Q E h => ?_) (fun f cdv A outer s H vs Q E hr h => ?_)
  · obtain ⟨a, ct, W, s, o, cs, rfl, _⟩ := h
    rfl
  · have hu := hu_of hr
    obtain ⟨a, ct, W, s, o, cs, rfl, hA, ok, hs, hc, q⟩ := h
    obtain ⟨tp, xp, tt, xt, tr, th, dm, w1, w2, w3, w4, w5, w6, w7, w8⟩ := hA.ob
    refine ⟨_, (pss_cons (ps_set (i := 4) sc__law_walk.nd rfl (Or.inl rfl) (pe_lst pa_nil))
      (pss_cons (ps_for PassesOwn.never rfl (pi_range1 rfl T.b_range (pa_cons (pe_op op_add (pe_dget hu (pv 0) pe_str (fun _ _ => rfl)) pe_int) pa_nil)) (pg_name (i := 5) sc__law_walk.nd rfl (Or.inl rfl)) (pss_cons (ps_if (PW.pt (pw_or (pt_cmpR (k_notIn (K := K) rfl) (pe_ix (k_ixT (K := K) rfl) (pe_dget hu (pv 0) pe_str (fun _ _ => rfl)) (pv 1) (fun _ _ => rfl)) (pv 3) (by rfl)) (pw_or (pt_cmpR (k_in (K := K) rfl) (pv 1) (pv 4) (by rfl)) (pw_or1 (pt_cmp (pc_dnotin hu (pe_tup (pa_cons (pv 1) (pa_cons (pv 2) pa_nil))) (pe_dget hu (pv 0) pe_str (fun _ _ => rfl)))))))) (pss_one (ps_ret (pe_tup (pa_cons (pv 4) (pa_cons pe_bl pa_nil))))) pss_nil)
        (pss_cons (ps_expr (k_bm (K := K) rfl PySem.F.plainAttrs_list PySem.F.slot_list_append PySem.F.type_list_append mt_append (pv 4) (pa_cons (pv 1) pa_nil)))
        (pss_cons (ps_if (pt_cmpR op_isN (pe_dget hu (pe_dget hu (pv 0) pe_str (fun _ _ => rfl)) (pe_tup (pa_cons (pv 1) (pa_cons (pv 2) pa_nil))) (fun _ _ => rfl)) pe_non (nomark _)) (pss_one (ps_ret (pe_tup (pa_cons (pv 4) (pa_cons pe_bl pa_nil))))) pss_nil)
        (pss_one (ps_set (i := 1) sc__law_walk.nd rfl (Or.inl rfl) (pe_dget hu (pe_dget hu (pv 0) pe_str (fun _ _ => rfl)) (pe_tup (pa_cons (pv 1) (pa_cons (pv 2) pa_nil))) (fun _ _ => rfl))))))))
      (pss_one (ps_ret (pe_tup (pa_cons (pv 4) (pa_cons pe_bl pa_nil))))))), ?_⟩
    walk_at "sd"
    refine ⟨by decide, fun L hL => ?_⟩
    refine for_it ?_
    simp only [iRng1]
    walk_at "sd"
    have sL : Same H (L2.upd H L (.lst [])) := L2.Same.new hL
    refine ⟨_, q_get (k := Sum.inr "size") (sL _ _ w1) wk_size, _, rfl, by omega, by have := ok.size12; omega, ?_⟩
    have fin : ∀ (F : List Nat) (H1 : Hp) (b : Bool), Same H H1 → H1 L = some (.lst (F.map vn)) → WalkRes W o cs s F b → ∀ t, H1 t = none → Q (.ref t) (L2.upd H1 t (.tup [.ref L, .bl b])) := fun F H1 b s1 h1 hR t ht => by
      have st := L2.Same.new (o := .tup [.ref L, .bl b]) ht
      exact q t L F b _ (s1.fr ht) hL (s1.trans st) upd_same (st _ _ h1) hR
    refine for_range (lo := 0) (n := ((W.size : Int) + 1).toNat) (fun i σ H1 => ∃ (F : List Nat) (here : Nat) (o5 : Option V), σ = [some (V.ref a), some (vn here), some (V.int o), some (V.ref ct), some (V.ref L), o5] ∧ Same H H1 ∧ H1 L = some (.lst (F.map vn)) ∧
      here < W.size ∧ F.Nodup ∧ (∀ x ∈ F, x < W.size) ∧ Seg W o cs s F here ∧ F.length = i)
      ⟨[], s, none, rfl, sL, upd_same, hs, List.nodup_nil, by simp, Seg.nil W o cs s, rfl⟩ (fun i σ H1 hi ⟨F, here, o5, e, s1, h1, hh, nd, hF, hS, hm⟩ => ?_) fun σ H1 ⟨F, here, o5, e, s1, h1, hh, nd, hF, hS, hm⟩ => ?_
    · subst e
      have lF : F.length ≤ 12 := Nat.le_trans (nodup_lt nd hF) ok.size12
      walk_at "sd"
      refine ⟨_, q_get (k := Sum.inr "reading") (s1 _ _ w1) wk_reading, ?_⟩
      refine q_ixT (v := vo (W.rd here)) (s1 _ _ w6) (by rw [List.getElem?_map, Wd.rd_get ok hh]; rfl) ?_
      refine ⟨ct, _, rfl, Or.inl (Or.inl (Or.inl (s1 _ _ hc))), vo_flat _, flat_vn cs, ?_⟩
      walk_at "sd"
      have stop : ((¬ ∃ c, W.rd here = some c ∧ c ∈ cs) ∨ here ∈ F ∨ W.mv here o = none) → ∀ H2, Same H1 H2 → ∀ t, H2 t = none → Q (.ref t) (L2.upd H2 t (.tup [.ref L, .bl false])) := fun b H2 s2 => fin F H2 false (s1.trans s2) (s2 _ _ h1) (hS.res_no b hF)
      by_cases hrd : ∃ c, W.rd here = some c ∧ c ∈ cs
      case neg =>
        rw [if_pos (Bool.eq_false_iff.mpr fun z => hrd ((inV_rd _ _).mp z))]
        exact ⟨by decide, stop (Or.inl hrd) H1 (L2.Same.refl _)⟩
      rw [if_neg (by rw [(inV_rd _ _).mpr hrd]; decide)]
      refine ⟨L, _, rfl, Or.inl (Or.inl (Or.inl h1)), rfl, flat_vn F, ?_⟩
      refine ⟨_, rfl, ?_⟩
      simp only [Bool.false_eq_true, if_false, inV_vn]
      by_cases hF2 : here ∈ F
      · rw [decide_eq_true hF2]
        exact iteT ⟨by decide, stop (Or.inr (Or.inl hF2)) H1 (L2.Same.refl _)⟩
      rw [decide_eq_false hF2]
      refine iteF ⟨by decide, fun p hp0 => ?_⟩
      have sp : Same H1 (L2.upd H1 p (.tup [vn here, .int o])) := L2.Same.new hp0
      refine ⟨_, q_get (k := Sum.inr "moves") (sp _ _ (s1 _ _ w1)) wk_moves, dm, rfl, _, q_mv (sp _ _ (s1 _ _ w8)) upd_same, ?_⟩
      cases hmv : W.mv here o with
      | none =>
        rw [show mvL W.moves (here, o) = none from hmv]
        rw [if_pos (by rfl)]
        exact ⟨by decide, stop (Or.inr (Or.inr hmv)) _ sp⟩
      | some there =>
        rw [show mvL W.moves (here, o) = some there from hmv]
        rw [if_neg (fun z => by cases z)]
        refine q_app (y := vn here) (sp _ _ h1) (by rw [List.length_map]; omega) ?_
        have s3 : Same H (L2.upd (L2.upd H1 p (.tup [vn here, .int o])) L (.lst (F.map vn ++ [vn here]))) := (s1.trans sp).mut hL
        have hL3 : L2.upd (L2.upd H1 p (.tup [vn here, .int o])) L (.lst (F.map vn ++ [vn here])) L = some (.lst ((F ++ [here]).map vn)) := by rw [upd_same, List.map_append]; rfl
        generalize L2.upd (L2.upd H1 p (.tup [vn here, .int o])) L (.lst (F.map vn ++ [vn here])) = H3 at s3 hL3 ⊢
        refine ⟨_, q_get (k := Sum.inr "moves") (s3 _ _ w1) wk_moves, by decide, fun u2 hu2 => ?_⟩
        have su2 : Same H3 (L2.upd H3 u2 (.tup [vn here, .int o])) := L2.Same.new hu2
        have z := q_mv (su2 _ _ (s3 _ _ w8)) (upd_same (a := u2) (o := .tup [vn here, .int o]) (H := H3))
        rw [show mvL W.moves (here, o) = some there from hmv] at z
        refine ⟨dm, rfl, _, z, ?_⟩
        have s4 := s3.trans su2
        have nd' : (F ++ [here]).Nodup := L2.nd_snoc nd hF2
        have hF' : ∀ x ∈ F ++ [here], x < W.size := fun x hx => by
          rcases List.mem_append.mp hx with hx | hx
          · exact hF x hx
          · rw [List.mem_singleton.mp hx]
            exact hh
        cases there with
        | none =>
          show (if V.non = V.non then _ else _)
          rw [if_pos rfl]
          exact ⟨by decide, fin (F ++ [here]) _ true s4 (su2 _ _ hL3) (hS.res_yes hrd hmv hF hh)⟩
        | some t2 =>
          show (if vn t2 = V.non then _ else _)
          rw [if_neg (fun z => by cases z)]
          refine ⟨_, q_get (k := Sum.inr "moves") (su2 _ _ (s3 _ _ w1)) wk_moves, by decide, fun u3 hu3 => ?_⟩
          have su3 := L2.Same.new (o := .tup [vn here, .int o]) hu3
          have z := q_mv (su3 _ _ (su2 _ _ (s3 _ _ w8))) upd_same
          rw [show mvL W.moves (here, o) = some (some t2) from hmv] at z
          refine ⟨dm, rfl, _, z, ?_⟩
          exact ⟨F ++ [here], t2, rfl, s4.trans su3, su3 _ _ (su2 _ _ hL3), mv_lt ok hmv, nd', hF', hS.snoc hrd hmv, by rw [List.length_append, hm]; rfl⟩
    · have := nodup_lt nd hF
      omega
end
end SL
/-! _law_homeward, _law_changed. -/
namespace SL
open PySem PySem.Spec PyProof.Rows L2
/-- a way home -/
def HomeBy (W : Wd) (s : Nat) (p : List Nat) : Prop := ∃ c, W.rd s = some c ∧ IsPath W (-1) [c] p ∧ p.head? = some s ∧ p.getLast? = W.homes[c]?
theorem HomeBy.ok {W : Wd} {s : Nat} {p : List Nat} (h : HomeBy W s p) : HomeOk W s := let ⟨c, a, b, d, e⟩ := h; ⟨p, c, a, b, d, e⟩
theorem lastI {K : Frg} {H : Hp} {Q : VK} {L : Addr} {F : List Nat} (h : H L = some (.lst (F.map vn))) (ne : F ≠ []) (q : Q (vn (F.getLast ne)) H) : rIxL K (.ref L) (.int (-1)) H Q := by
  refine ⟨L, _, -1, vn (F.getLast ne), rfl, rfl, Or.inl (Or.inl h), ?_, q⟩
  have zz : F.map vn = (F.dropLast).map vn ++ [vn (F.getLast ne)] := by
    conv => lhs; rw [← List.dropLast_concat_getLast ne]
    rw [List.map_append]
    rfl
  rw [zz]
  exact atI_last _ _
section
variable {P : Program} {w : World} {K : Frg} {mg : Str → Option Value} {base : Heap}
def spLHome : Sp := fun vs H Q _ => ∃ (a : Addr) (W : Wd) (s : Nat), vs = [.ref a, vn s] ∧ WorldAt H a W ∧ W.Ok ∧ s < W.size ∧
  ∀ r H', Same H H' → ((r = .non ∧ ¬ HomeOk W s) ∨ ∃ L p, r = .ref L ∧ H' L = some (.lst (p.map vn)) ∧ HomeBy W s p ∧ ∀ x ∈ p, x < W.size) → Q r H'
theorem cal__law_homeward (T : Txt K mg) : C8.Cal P w K mg base 2 "_law_homeward" spLHome [] := by
  refine mkCal T.d__law_homeward sc__law_homeward (fun _ _ _ _ _ _ us hl => match us, hl with | [_, _], _ => rfl) (fun vs H Q E h => ?_) (fun f cdv A outer s H vs Q E hr h => ?_)
  · obtain ⟨a, W, s, rfl, _⟩ := h
    rfl
  · have hu := hu_of hr
    obtain ⟨a, W, s, rfl, hA, ok, hs, q⟩ := h
    obtain ⟨tp, xp, tt, xt, tr, th, dm, w1, w2, w3, w4, w5, w6, w7, w8⟩ := hA.ob
    refine ⟨_, (pss_cons (ps_set (i := 2) sc__law_homeward.nd rfl (Or.inl rfl) (pe_ix (k_ixT (K := K) rfl) (pe_dget hu (pv 0) pe_str (fun _ _ => rfl)) (pv 1) (fun _ _ => rfl)))
      (pss_cons (ps_if (pt_cmpR op_isN (pv 2) pe_non (nomark _)) (pss_one (ps_ret pe_non)) pss_nil)
      (pss_cons (ps_asg (C8.pe_c (cal__law_walk T) hr (by decide) rfl (pa_cons (pv 0) (pa_cons (pv 1) (pa_cons (pe_un un_neg pe_int) (pa_cons (pe_lst (pa_cons (pv 2) pa_nil)) pa_nil))))) (k_gtup (K := K) (n := 2) rfl rfl (pgs_cons (pg_name (i := 3) sc__law_homeward.nd rfl (Or.inl rfl)) (pgs_cons (pg_name (i := 4) sc__law_homeward.nd rfl (Or.inl rfl)) pgs_nil))))
      (pss_cons (ps_if (PW.pt (pw_and (pt_val (pv 4)) (pw_and1 (pt_cmpR op_eq (pe_ix (k_ixL (K := K) rfl) (pv 3) (pe_un un_neg pe_int) (fun _ _ => rfl)) (pe_ix (k_ixT (K := K) rfl) (pe_dget hu (pv 0) pe_str (fun _ _ => rfl)) (pv 2) (fun _ _ => rfl)) (nomark _))))) (pss_one (ps_ret (pv 3))) pss_nil)
      (pss_one (ps_ret pe_non)))))), ?_⟩
    walk_at "sd"
    refine ⟨_, q_get (k := Sum.inr "reading") w1 wk_reading, ?_⟩
    refine q_ixT (v := vo (W.rd s)) w6 (by rw [List.getElem?_map, Wd.rd_get ok hs]; rfl) ?_
    walk_at "sd"
    cases hc : W.rd s with
    | none =>
      show (if V.non = V.non then _ else _)
      rw [if_pos rfl]
      exact q _ _ (L2.Same.refl _) (Or.inl ⟨rfl, home_none hc⟩)
    | some c =>
      show (if vn c = V.non then _ else _)
      rw [if_neg (fun z => by cases z)]
      refine ⟨by decide, fun ct hct => ?_⟩
      have sc := L2.Same.new (o := .lst [vn c]) hct
      refine ⟨a, ct, W, s, -1, [c], rfl, hA.same sc, ok, hs, upd_same, fun t L found b H1 ht hL s1 h1 h2 hR => ?_⟩
      refine g_pair h1 ?_
      walk_at "sd"
      have s2 := sc.trans s1
      have hcl : c < W.homes.length := by rw [ok.hmL]; exact ok.rdC s c hc
      have hcv : W.homes[c]? = some W.homes[c] := List.getElem?_eq_getElem hcl
      have no : (∀ p, HomeBy W s p → False) → Q .non H1 := fun z => q _ _ s2 (Or.inl ⟨rfl, fun ⟨p, d, y1, y2, y3, y4⟩ => z p ⟨d, y1, y2, y3, y4⟩⟩)
      have cc : ∀ {p}, HomeBy W s p → IsPath W (-1) [c] p ∧ p.head? = some s ∧ p.getLast? = W.homes[c]? := fun ⟨d, y1, y2, y3, y4⟩ => by
        rw [hc] at y1
        cases y1
        exact ⟨y2, y3, y4⟩
      cases b with
      | false =>
        walk_at "sd"
        exact no fun p hp => hR.no rfl p (cc hp).1 (cc hp).2.1
      | true =>
        walk_at "sd"
        obtain ⟨r1, r2⟩ := hR.yes rfl
        have hne := r1.ne_nil
        have elast : found.getLast? = some (found.getLast hne) := List.getLast?_eq_some_getLast hne
        refine lastI h2 hne ?_
        refine ⟨_, q_get (k := Sum.inr "homes") (s2 _ _ w1) wk_homes, ?_⟩
        refine q_ixT (v := vn W.homes[c]) (s2 _ _ w7) (by rw [List.getElem?_map, hcv]; rfl) ?_
        walk_at "sd"
        refine ite2 (fun e => ?_) (fun e => ?_)
        · exact q _ _ s2 (Or.inr ⟨L, found, rfl, h2, ⟨c, hc, r1, r2, by rw [elast, hcv, show found.getLast hne = W.homes[c] by omega]⟩, hR.lt⟩)
        · refine no fun p hp => ?_
          obtain ⟨p1, p2, p3⟩ := cc hp
          have e2 := p1.uniq r1 (by rw [p2, r2])
          subst e2
          rw [elast, hcv] at p3
          exact e (by rw [Option.some.inj p3])
def spLMom : Sp := fun vs H Q _ => ∃ (a : Addr) (W : Wd) (v x : Nat), vs = [.ref a, vn v, vn x] ∧ WorldAt H a W ∧ W.Ok ∧ v < W.many ∧ x < W.many ∧
  ∀ t L found b H', Same H H' → H' t = some (.tup [.ref L, .bl b]) → H' L = some (.lst (found.map vn)) → (b = true → MomYes W v x found) → (b = false → ∀ p, ¬ MomYes W v x p) → (∀ y ∈ found, y < W.size) → Q (.ref t) H'
theorem cal__law_changed (T : Txt K mg) : C8.Cal P w K mg base 2 "_law_changed" spLMom [] := by
  refine mkCal T.d__law_changed sc__law_changed (fun _ _ _ _ _ _ us hl => match us, hl with | [_, _, _], _ => rfl) (fun vs H Q E h => ?_) (fun f cdv A outer s H vs Q E hr h => ?_)
  · obtain ⟨a, W, v, x, rfl, _⟩ := h
    rfl
  · have hu := hu_of hr
    obtain ⟨a, W, v, x, rfl, hA, ok, hv, hx, q⟩ := h
    obtain ⟨tp, xp, tt, xt, tr, th, dm, w1, w2, w3, w4, w5, w6, w7, w8⟩ := hA.ob
    refine ⟨_, (pss_cons (ps_asg (C8.pe_c (cal__law_walk T) hr (by decide) rfl (pa_cons (pv 0) (pa_cons (pe_ix (k_ixT (K := K) rfl) (pe_dget hu (pv 0) pe_str (fun _ _ => rfl)) (pv 1) (fun _ _ => rfl)) (pa_cons (pv 2) (pa_cons (pe_lst (pa_cons (pv 1) (pa_cons (pv 2) pa_nil))) pa_nil))))) (k_gtup (K := K) (n := 2) rfl rfl (pgs_cons (pg_name (i := 3) sc__law_changed.nd rfl (Or.inl rfl)) (pgs_cons (pg_name (i := 4) sc__law_changed.nd rfl (Or.inl rfl)) pgs_nil))))
      (pss_one (ps_ret (pe_tup (pa_cons (pv 3) (pa_cons (pe_and (pv 4) (pe_one (pe_cmpR op_eq (pe_ix (k_ixL (K := K) rfl) (pv 3) (pe_un un_neg pe_int) (fun _ _ => rfl)) (pe_ix (k_ixT (K := K) rfl) (pe_dget hu (pv 0) pe_str (fun _ _ => rfl)) (pv 2) (fun _ _ => rfl)) (nomark _)))) pa_nil)))))), ?_⟩
    walk_at "sd"
    have hvl : v < W.homes.length := by rw [ok.hmL]; exact hv
    have hxl : x < W.homes.length := by rw [ok.hmL]; exact hx
    have ev : W.homes[v]? = some W.homes[v] := List.getElem?_eq_getElem hvl
    have ex : W.homes[x]? = some W.homes[x] := List.getElem?_eq_getElem hxl
    refine ⟨_, q_get (k := Sum.inr "homes") w1 wk_homes, ?_⟩
    refine q_ixT (v := vn W.homes[v]) w7 (by rw [List.getElem?_map, ev]; rfl) ?_
    refine ⟨by decide, fun ct hct => ?_⟩
    have sc := L2.Same.new (o := .lst [vn v, vn x]) hct
    refine ⟨a, ct, W, W.homes[v], (x : Int), [v, x], rfl, hA.same sc, ok, ok.hmS _ (List.mem_of_getElem? ev), upd_same, fun t L found b H1 ht hL s1 h1 h2 hR => ?_⟩
    refine g_pair h1 ?_
    walk_at "sd"
    have s2 := sc.trans s1
    cases b with
    | false =>
      walk_at "sd"
      refine ⟨by decide, fun u hu0 => ?_⟩
      have su := L2.Same.new (o := .tup [.ref L, .bl false]) hu0
      refine q u L found false _ (s2.trans su) upd_same (su _ _ h2) (fun e => by cases e) (fun _ p ⟨h, p1, p2, p3, p4⟩ => ?_) hR.lt
      rw [ev] at p2
      cases p2
      exact hR.no rfl p p1 p3
    | true =>
      walk_at "sd"
      obtain ⟨r1, r2⟩ := hR.yes rfl
      have hne := r1.ne_nil
      have elast : found.getLast? = some (found.getLast hne) := List.getLast?_eq_some_getLast hne
      refine lastI h2 hne ?_
      refine ⟨_, q_get (k := Sum.inr "homes") (s2 _ _ w1) wk_homes, ?_⟩
      refine q_ixT (v := vn W.homes[x]) (s2 _ _ w7) (by rw [List.getElem?_map, ex]; rfl) ?_
      walk_at "sd"
      refine ⟨by decide, fun u hu0 => ?_⟩
      have su := L2.Same.new (o := .tup [.ref L, .bl (decide (((found.getLast hne : Nat) : Int) = (W.homes[x] : Nat)))]) hu0
      refine q u L found _ _ (s2.trans su) upd_same (su _ _ h2) (fun e => ?_) (fun e p ⟨h, p1, p2, p3, p4⟩ => ?_) hR.lt
      · have e1 := of_decide_eq_true e
        exact ⟨_, r1, ev, r2, by rw [elast, ex, show found.getLast hne = W.homes[x] by omega]⟩
      · have e1 := of_decide_eq_false e
        rw [ev] at p2
        cases p2
        have e2 := p1.uniq r1 (by rw [p3, r2])
        subst e2
        rw [elast, ex] at p4
        exact e1 (by rw [Option.some.inj p4])
end
end SL
/-! _law_changes. -/
namespace SL
open PySem PySem.Spec PyProof.Rows L2
theorem Prs.app {H : Hp} {xs ys : List V} {ps qs : List (Nat × Nat)} (h : Prs H xs ps) (k : Prs H ys qs) : Prs H (xs ++ ys) (ps ++ qs) := by
  refine ⟨by rw [List.length_append, List.length_append, h.len, k.len], fun i p hp => ?_⟩
  by_cases hi : i < ps.length
  · rw [List.getElem?_append_left hi] at hp
    rw [List.getElem?_append_left (by rw [h.len]; exact hi)]
    exact h.at_ i p hp
  · rw [List.getElem?_append_right (by omega)] at hp
    rw [List.getElem?_append_right (by rw [h.len]; omega), h.len]
    exact k.at_ _ p hp
/-- a list of pairs, another one put behind it -/
theorem PairsAt.ext {B H : Hp} {D : Addr} {n : Nat} {R : Nat × Nat → Prop} {zs : List V} {qs : List (Nat × Nat)} (h : PairsAt B H D n R) (hB : B D = none) (hz : Prs H zs qs) (hn : n + zs.length < 99999) :
    ∃ acc, H D = some (.lst acc) ∧ acc.length + zs.length ≤ sizeLine ∧ PairsAt B (L2.upd H D (.lst (acc ++ zs))) D (n + zs.length) fun p => R p ∨ p ∈ qs := by
  obtain ⟨acc, cs, h1, h2, h3, h4⟩ := h.ex
  refine ⟨acc, h1, szl (by omega), h.sm.mut hB, acc ++ zs, cs ++ qs, upd_same, (h2.app hz).upd h1, by rw [List.length_append]; omega, fun p => by rw [List.mem_append, h4]⟩
/-- sorted pairs, twins and all -/
theorem sort_prm {K : Frg} {H : Hp} {Q : VK} {a : Addr} {xs : List V} {ps : List (Nat × Nat)} (ha : SqL K H a xs) (h : Prs H xs ps)
    (q : ∀ ys qs p, Prs H ys qs → qs.Perm ps → H p = none → Q (.ref p) (upd H p (.lst ys))) : rSortedPO K [.ref a] H Q := by
  refine sort_prz ha h.z fun ys qs p h1 h2 h3 hf => ?_
  have e : (qs.map fun p => (p.1.toNat, p.2.toNat)).map natP = qs := by
    rw [List.map_map]
    refine (List.map_congr_left fun z hz => ?_).trans (List.map_id qs)
    obtain ⟨p, _, rfl⟩ := List.mem_map.mp (h2.mem_iff.mp hz)
    rfl
  have pm : (qs.map fun p => (p.1.toNat, p.2.toNat)).Perm ps := by
    have := h2.map fun p : Int × Int => (p.1.toNat, p.2.toNat)
    rw [List.map_map] at this
    have e2 : ps.map ((fun p : Int × Int => (p.1.toNat, p.2.toNat)) ∘ natP) = ps := by
      have : ((fun p : Int × Int => (p.1.toNat, p.2.toNat)) ∘ natP) = id := by funext p; rfl
      rw [this, List.map_id]
    rw [e2] at this
    exact this
  exact q ys _ p (PrZ.prs (by rw [e]; exact h1)) pm hf
section
variable {P : Program} {w : World} {K : Frg} {mg : Str → Option Value} {base : Heap}
def spLChanges : Sp := fun vs H Q _ => ∃ (a : Addr) (W : Wd), vs = [.ref a] ∧ WorldAt H a W ∧ W.Ok ∧ ∀ L xs cs H', Same H H' → H' L = some (.lst xs) → Prs H' xs cs → (∀ p, p ∈ cs ↔ nbr W.ties p.1 p.2) → Q (.ref L) H'
theorem cal__law_changes (T : Txt K mg) : C8.Cal P w K mg base 1 "_law_changes" spLChanges [] := by
  refine mkCal T.d__law_changes sc__law_changes (fun _ _ _ _ _ _ us hl => match us, hl with | [_], _ => rfl) (fun vs H Q E h => ?_) (fun f cdv A outer s H vs Q E hr h => ?_)
  · obtain ⟨a, W, rfl, _⟩ := h
    rfl
  · have hu := hu_of hr
    obtain ⟨a, W, rfl, hA, ok, q⟩ := h
    obtain ⟨tp, xp, tt, xt, tr, th, dm, w1, w2, w3, w4, w5, w6, w7, w8⟩ := hA.ob
    refine ⟨_, (pss_cons (ps_set (i := 1) sc__law_changes.nd rfl (Or.inl rfl) (pe_lst pa_nil))
      (pss_cons (ps_for PassesOwn.never rfl (k_tuple (K := K) rfl (pe_dget hu (pv 0) pe_str (fun _ _ => rfl))) (k_gtup (K := K) (n := 2) rfl rfl (pgs_cons (pg_name (i := 2) sc__law_changes.nd rfl (Or.inl rfl)) (pgs_cons (pg_name (i := 3) sc__law_changes.nd rfl (Or.inl rfl)) pgs_nil))) (pss_one (ps_expr (k_bm (K := K) rfl PySem.F.plainAttrs_list PySem.F.slot_list_extend PySem.F.type_list_extend mt_extend (pv 1) (pa_cons (pe_lst (pa_cons (pe_tup (pa_cons (pv 2) (pa_cons (pv 3) pa_nil))) (pa_cons (pe_tup (pa_cons (pv 3) (pa_cons (pv 2) pa_nil))) pa_nil))) pa_nil)))))
      (pss_one (ps_ret (pe_callB (k_sortP (K := K) rfl) (by rfl) T.b_sorted (by decide +kernel) (pa_cons (pv 1) pa_nil)))))), ?_⟩
    walk_at "sd"
    refine ⟨by decide, fun D hD => ?_⟩
    have sD : Same H (L2.upd H D (.lst [])) := L2.Same.new hD
    refine for_it ?_
    simp only [iTup]
    walk_at "sd"
    refine ⟨_, q_get (k := Sum.inr "ties") (sD _ _ w1) wk_ties, tt, rfl, ⟨_, Or.inl (Or.inl (sD _ _ w4))⟩, ?_⟩
    refine for_tup (K := K) (a := tt) (xs := xt) (fun i σ H2 => ∃ o2 o3, σ = [some (V.ref a), some (V.ref D), o2, o3] ∧ PairsAt H H2 D (2 * i) (fun p => p ∈ W.ties.take i ∨ (p.2, p.1) ∈ W.ties.take i))
      ⟨none, none, rfl, PairsAt.start (L2.Same.refl _) hD hD fun p => by simp⟩ (fun i σ H2 _ ⟨_, _, _, w⟩ => Or.inl (Or.inl (w.sm _ _ w4))) (fun i x σ H2 hx ⟨o2, o3, e, w⟩ => ?_) fun σ H2 ⟨o2, o3, e, w⟩ => ?_
    · subst e
      have hi : i < W.ties.length := by rw [← w5.len]; exact (List.getElem?_eq_some_iff.mp hx).1
      have hpi : W.ties[i]? = some W.ties[i] := List.getElem?_eq_getElem hi
      have h28 := ok.tie28
      obtain ⟨t, a1, a2⟩ := w5.at_ i W.ties[i] hpi
      rw [hx] at a1
      cases a1
      have tk : W.ties.take (i + 1) = W.ties.take i ++ [W.ties[i]] := by rw [List.take_add_one, hpi]; rfl
      generalize W.ties[i] = p at *
      refine g_pair (w.sm _ _ a2) ?_
      walk_at "sd"
      obtain ⟨acc0, cs0, z1, _⟩ := w.ex
      refine ⟨Or.inl ⟨rfl, _, Or.inl (Or.inl z1)⟩, by decide, fun p1 hp1 => ⟨by decide, fun p2 hp2 => ⟨by decide, fun p3 hp3 => ?_⟩⟩⟩
      have k1 := L2.Same.new (o := .tup [vn p.1, vn p.2]) hp1
      have k2 := L2.Same.new (o := .tup [vn p.2, vn p.1]) hp2
      have k3 := L2.Same.new (o := .lst [V.ref p1, V.ref p2]) hp3
      have hz : Prs (L2.upd (L2.upd (L2.upd H2 p1 (.tup [vn p.1, vn p.2])) p2 (.tup [vn p.2, vn p.1])) p3 (.lst [V.ref p1, V.ref p2])) [V.ref p1, V.ref p2] [p, (p.2, p.1)] :=
        ⟨rfl, fun i q hq => by
          match i, hq with
          | 0, hq => cases hq; exact ⟨p1, rfl, k3 _ _ (k2 _ _ upd_same)⟩
          | 1, hq => cases hq; exact ⟨p2, rfl, k3 _ _ upd_same⟩⟩
      obtain ⟨acc, y1, y2, y3⟩ := (w.same ((k1.trans k2).trans k3)).ext hD hz (by show 2 * i + 2 < 99999; omega)
      refine ⟨D, p3, acc, _, rfl, rfl, y1, upd_same, y2, y3.mono (by show 2 * i + 2 ≤ 2 * (i + 1); omega) fun q => ?_⟩
      obtain ⟨q1, q2⟩ := q
      obtain ⟨r1, r2⟩ := p
      rw [tk]
      simp only [List.mem_append, List.mem_singleton, List.mem_cons, Prod.mk.injEq, List.not_mem_nil, or_false]
      constructor
      · rintro ((z | z) | (z | z))
        · exact Or.inl (Or.inl z)
        · exact Or.inr (Or.inl z)
        · exact Or.inl (Or.inr z)
        · exact Or.inr (Or.inr ⟨z.2, z.1⟩)
      · rintro ((z | z) | (z | z))
        · exact Or.inl (Or.inl z)
        · exact Or.inr (Or.inl z)
        · exact Or.inl (Or.inr z)
        · exact Or.inr (Or.inr ⟨z.2, z.1⟩)
    · subst e
      walk_at "sd"
      obtain ⟨acc, cs, c1, c2, c3, c4⟩ := w.ex
      have lt : xt.length = W.ties.length := w5.len
      rw [lt, List.take_length] at c4
      refine sort_prm (Or.inl (Or.inl c1)) c2 fun ys qs p g1 g2 hp => ?_
      have sp := L2.Same.new (o := .lst ys) hp
      exact q p ys qs _ (w.sm.trans sp) upd_same (g1.same sp) fun z => by rw [g2.mem_iff, c4]; rfl
end
end SL
/-! _law_begun. -/
namespace SL
open PySem PySem.Spec PyProof.Rows L2
theorem rg_vn (n : Nat) : rgV 0 (n : Int) = (List.range n).map vn := by
  unfold rgV
  have e : ((n : Int) - 0).toNat = n := by omega
  rw [e]
  refine List.map_congr_left fun i _ => ?_
  simp
theorem q_pop {H : Hp} {Q : VK} {l : Addr} {zs : List Nat} {k x : Nat} (h : H l = some (.lst (zs.map vn))) (hl : zs.length ≤ 1000) (e : zs[k]? = some x) (q : Q (vn x) (upd H l (.lst ((zs.eraseIdx k).map vn)))) : rPopAt (.ref l) [vn k] H Q := by
  have hk := (List.getElem?_eq_some_iff.mp e).1
  refine ⟨l, zs.map vn, (k : Int), k, vn x, rfl, rfl, h, by omega, by omega, ?_, by rw [List.getElem?_map, e]; rfl, ?_⟩
  · unfold seqIndex?
    simp only [show ¬ ((k : Int) < 0) by omega, if_false, List.length_map]
    simp [hk]
  · rw [List.eraseIdx_eq_take_drop_succ, ← List.map_take, ← List.map_drop, ← List.map_append, ← List.eraseIdx_eq_take_drop_succ]
    exact q
/-- standings handed out, under way -/
structure SowSt (H0 H : Hp) (l L U : Addr) (n i : Nat) : Prop where
  dn : Dn l H0 H
  ex : ∃ ow rest, H L = some (.lst (ow.map vo)) ∧ H U = some (.lst (rest.map vn)) ∧ Sown n i ow rest
theorem SowSt.draw {H0 H H' : Hp} {l L U : Addr} {n i : Nat} (g : SowSt H0 H l L U n i) (hD : DiceAt H0 l) (hL : L ≠ l) (hU : U ≠ l) (d : Dn l H H') : SowSt H0 H' l L U n i := by
  obtain ⟨ow, rest, h1, h2, h3⟩ := g.ex
  exact ⟨g.dn.trans d, ow, rest, d.keep (g.dn.di hD) hL h1, d.keep (g.dn.di hD) hU h2, h3⟩
/-- parts growing -/
structure GrSt (H0 H : Hp) (l L : Addr) (n m : Nat) (ps : List (Nat × Nat)) : Prop where
  dn : Dn l H0 H
  ex : ∃ ow, H L = some (.lst (ow.map vo)) ∧ Grown n m ps ow
theorem GrSt.draw {H0 H H' : Hp} {l L : Addr} {n m : Nat} {ps : List (Nat × Nat)} (g : GrSt H0 H l L n m ps) (hD : DiceAt H0 l) (hL : L ≠ l) (d : Dn l H H') : GrSt H0 H' l L n m ps := by
  obtain ⟨ow, h1, h2⟩ := g.ex
  exact ⟨g.dn.trans d, ow, d.keep (g.dn.di hD) hL h1, h2⟩
theorem GrSt.put {H0 H : Hp} {l L : Addr} {n m x y : Nat} {ps : List (Nat × Nat)} {ow : List (Option Nat)} (d : Dn l H0 H) (g : Grown n m ps ow) (hL : H0 L = none) (hx : x < n) (e : own ow x = none) (hn : nbr ps x y) : GrSt H0 (upd H L (.lst ((ow.set x (own ow y)).map vo))) l L n m ps :=
  ⟨d.mut hL, _, upd_same, g.put hx e hn⟩
section
variable {P : Program} {w : World} {K : Frg} {mg : Str → Option Value} {base : Heap}
def spBegun : Sp := fun vs H Q _ => ∃ (l tp : Addr) (n most : Nat) (xs : List V) (ps : List (Nat × Nat)), vs = [.ref l, vn n, .ref tp, vn most] ∧ DiceAt H l ∧ H tp = some (.tup xs) ∧ Prs H xs ps ∧ Rising n ps ∧ 1 ≤ n ∧ n ≤ 12 ∧ 1 ≤ most ∧ most ≤ 8 ∧
  ∀ L ow m H', Dn l H H' → H L = none → H' L = some (.lst (ow.map vo)) → Grown n m ps ow → 1 ≤ m → m ≤ most → Q (.ref L) H'
theorem cal__law_begun (T : Txt K mg) : C8.Cal P w K mg base 2 "_law_begun" spBegun [] := by
  refine mkCal T.d__law_begun sc__law_begun (fun _ _ _ _ _ _ us hl => match us, hl with | [_, _, _, _], _ => rfl) (fun vs H Q E h => ?_) (fun f cdv A outer s H vs Q E hr h => ?_)
  · obtain ⟨l, tp, n, most, xs, ps, rfl, _⟩ := h
    rfl
  · have hu := hu_of hr
    obtain ⟨l, tp, n, most, xs, ps, rfl, hD, ht, hp, hR, hn1, hn, hm1, hm, q⟩ := h
    refine ⟨_, (pss_cons (ps_setLc (i := 4) (own := [("_law_k", 10)]) rfl sc__law_begun.nd rfl rfl (sw_true rfl rfl rfl (by decide +kernel)) (pi_range1 rfl T.b_range (pa_cons (pv 1) pa_nil)) (blkOk_by (N := N__law_begun) (sc := defScope s__law_begun) (by decide +kernel)) (fun _ _ _ _ _ => (pg_name (i := 10) sc__law_begun.nd rfl (Or.inl rfl))) (fun _ _ _ _ _ => pts_nil) (fun _ _ _ _ _ => pe_non))
      (pss_cons (ps_set (i := 5) sc__law_begun.nd rfl (Or.inl rfl) (pe_listRg rfl (by rfl) T.b_list (prg_1 (by rfl) T.b_range (pv 1))))
      (pss_cons (ps_for PassesOwn.never rfl (pi_range1 rfl T.b_range (pa_cons (pe_op op_add pe_int (C8.pe_c (cal__law_draw T) hr (by decide) rfl (pa_cons (pv 0) (pa_cons (pe_callB (call_min2 rfl) (by rfl) T.b_min (by decide +kernel) (pa_cons (pv 3) (pa_cons (pv 1) pa_nil))) pa_nil)))) pa_nil)) (pg_name (i := 6) sc__law_begun.nd rfl (Or.inl rfl)) (pss_one (ps_asg (pv 6) (pg_sub (pv 4) (k_bm (K := K) rfl PySem.F.plainAttrs_list PySem.F.slot_list_pop PySem.F.type_list_pop mt_popAt (pv 5) (pa_cons (C8.pe_c (cal__law_draw T) hr (by decide) rfl (pa_cons (pv 0) (pa_cons (pe_callB (k_len (K := K) rfl) (by rfl) T.b_len (by decide +kernel) (pa_cons (pv 5) pa_nil)) pa_nil))) pa_nil)) set_list))))
      (pss_cons (ps_if (pt_cmpR op_gt (pe_callB (k_len (K := K) rfl) (by rfl) T.b_len (by decide +kernel) (pa_cons (pv 2) pa_nil)) pe_int (nomark _)) (pss_one (ps_for PassesOwn.never rfl (pi_range1 rfl T.b_range (pa_cons (C8.pe_c (cal__law_draw T) hr (by decide) rfl (pa_cons (pv 0) (pa_cons (pe_op op_add (pe_op op_mul pe_int (pe_callB (k_len (K := K) rfl) (by rfl) T.b_len (by decide +kernel) (pa_cons (pv 2) pa_nil))) pe_int) pa_nil))) pa_nil)) (pg_name (i := 7) sc__law_begun.nd rfl (Or.inl rfl)) (pss_cons (ps_asg (pe_ix (k_ixT (K := K) rfl) (pv 2) (C8.pe_c (cal__law_draw T) hr (by decide) rfl (pa_cons (pv 0) (pa_cons (pe_callB (k_len (K := K) rfl) (by rfl) T.b_len (by decide +kernel) (pa_cons (pv 2) pa_nil)) pa_nil))) (fun _ _ => rfl)) (k_gtup (K := K) (n := 2) rfl rfl (pgs_cons (pg_name (i := 8) sc__law_begun.nd rfl (Or.inl rfl)) (pgs_cons (pg_name (i := 9) sc__law_begun.nd rfl (Or.inl rfl)) pgs_nil))))
          (pss_one (ps_if (pt_cmpR op_isN (pe_ix (k_ixL (K := K) rfl) (pv 4) (pv 8) (fun _ _ => rfl)) pe_non (nomark _)) (pss_one (ps_asg (pe_ix (k_ixL (K := K) rfl) (pv 4) (pv 9) (fun _ _ => rfl)) (pg_sub (pv 4) (pv 8) set_list))) (pss_one (ps_if (pt_cmpR op_isN (pe_ix (k_ixL (K := K) rfl) (pv 4) (pv 9) (fun _ _ => rfl)) pe_non (nomark _)) (pss_one (ps_asg (pe_ix (k_ixL (K := K) rfl) (pv 4) (pv 8) (fun _ _ => rfl)) (pg_sub (pv 4) (pv 9) set_list))) pss_nil))))))) pss_nil)
      (pss_one (ps_ret (pv 4))))))), ?_⟩
    walk_at "sd"
    refine lc_none (i := 1) (j := 10) (n := n) rfl rfl (by omega) (fun _ => rfl) fun L H1 hL s1 h1 => ?_
    simp only [tLstRg, tRg1]
    walk_at "sd"
    refine ⟨RgOk.of_le (by decide) (by omega) (by decide) (by omega), fun U hU => ?_⟩
    rw [rg_vn]
    have nLU : L ≠ U := fun e => by rw [← e, h1] at hU; cases hU
    have hU0 : H U = none := s1.fr hU
    have w0 : SowSt H (upd H1 U (.lst ((List.range n).map vn))) l L U n 0 := ⟨((Dn.refl l H).same s1).same (L2.Same.new hU), _, _, by rw [upd_ne nLU]; exact h1, upd_same, Sown.start n⟩
    have nLl := dice_nl hD hL
    have nUl := dice_nl hD hU0
    refine for_it ?_
    simp only [iRng1]
    walk_at "sd"
    have em : (V.int (if (n : Int) < (most : Int) then (n : Int) else (most : Int))) = vn (min most n) := by
      show V.int _ = V.int _
      congr 1
      split <;> omega
    rw [em]
    refine ⟨l, min most n, rfl, w0.dn.di hD, by omega, by omega, fun k H3 hk _ _ n3 => ?_⟩
    have ht3 : ∀ {H4 : Hp}, Dn l H H4 → H4 tp = some (.tup xs) := fun d => d.keep hD (fun e => by
      obtain ⟨lc, ns, i, b, st, cnt, z1, _⟩ := hD.ob
      rw [e, z1] at ht
      cases ht) ht
    dsimp only
    refine ⟨_, rfl, by omega, by omega, ?_⟩
    refine for_range (lo := 0) (n := (1 + (k : Int)).toNat) (fun i σ H4 => ∃ o6, σ = [some (V.ref l), some (vn n), some (V.ref tp), some (vn most), some (V.ref L), some (V.ref U), o6, none, none, none, none] ∧ SowSt H H4 l L U n i)
      ⟨none, rfl, w0.draw hD nLl nUl n3⟩ (fun i σ H4 hi ⟨o6, e, w4⟩ => ?_) fun σ H4 ⟨o6, e, w4⟩ => ?_
    · subst e
      obtain ⟨ow, rest, g1, g2, g3⟩ := w4.ex
      have e3 : V.int (0 + (i : Int)) = vn i := by rw [Int.zero_add]
      rw [e3]
      have hrl := g3.rl
      have hDi := w4.dn.di hD
      walk_at "sd"
      refine ⟨Or.inl ⟨rfl, _, Or.inl (Or.inl g2)⟩, _, Or.inl (Or.inl (Or.inl g2)), ?_⟩
      rw [List.length_map]
      refine ⟨l, rest.length, rfl, hDi, by omega, by omega, fun j H5 hj _ _ n5 => ?_⟩
      have hL5 := n5.keep hDi nLl g1
      have hU5 := n5.keep hDi nUl g2
      have hx : rest[j]? = some rest[j] := List.getElem?_eq_getElem hj
      obtain ⟨x1, x2⟩ := g3.rf _ (List.getElem_mem hj)
      dsimp only
      refine q_pop hU5 (by omega) hx ?_
      refine q_setO (some i) (by rw [upd_ne nLU]; exact hL5) (by rw [g3.len]; exact x1) ?_
      exact ⟨((w4.dn.trans n5).mut hU0).mut hL, _, _, upd_same, by rw [upd_ne nLU.symm]; exact upd_same, g3.put hx⟩
    · subst e
      obtain ⟨ow, rest, g1, g2, g3⟩ := w4.ex
      have ek : (1 + (k : Int)).toNat = 1 + k := by omega
      rw [ek] at g3
      have gr : GrSt H H4 l L n (1 + k) ps := ⟨w4.dn, ow, g1, g3.grown⟩
      clear g1 g2 g3 w4
      dsimp only
      change tSeq _ _ _ _ _
      refine seq_mid (fun σ H5 => ∃ o6 o7 o8 o9, σ = [some (V.ref l), some (vn n), some (V.ref tp), some (vn most), some (V.ref L), some (V.ref U), o6, o7, o8, o9, none] ∧ GrSt H H5 l L n (1 + k) ps) (fun N hN => ?_) (fun σ H5 hh => ?_)
      · walk_at "sd"
        refine ⟨_, Or.inr (Or.inl (Or.inl (ht3 gr.dn))), ?_⟩
        have hpl : xs.length = ps.length := hp.len
        have h66 := edges_len (asc_nodup hR.asc) hR.ok hn
        refine ite2 (fun hpos => ?_) (fun _ => hN _ _ ⟨_, _, _, _, rfl, gr⟩)
        refine for_it ?_
        simp only [iRng1]
        walk_at "sd"
        refine ⟨_, Or.inr (Or.inl (Or.inl (ht3 gr.dn))), Or.inl ⟨by decide, by decide⟩, ?_⟩
        refine ⟨l, 2 * xs.length + 1, rfl, gr.dn.di hD, by omega, by omega, fun k2 H5 hk2 _ _ n5 => ?_⟩
        dsimp only
        refine ⟨_, rfl, by omega, by omega, ?_⟩
        refine for_range (lo := 0) (n := (k2 : Int).toNat) (fun i σ H6 => ∃ o7 o8 o9, σ = [some (V.ref l), some (vn n), some (V.ref tp), some (vn most), some (V.ref L), some (V.ref U), o6, o7, o8, o9, none] ∧ GrSt H H6 l L n (1 + k) ps)
          ⟨_, _, _, rfl, gr.draw hD nLl n5⟩ (fun i σ H6 hi ⟨o7, o8, o9, e, g6⟩ => ?_) fun σ H6 ⟨o7, o8, o9, e, g6⟩ => ?_
        · subst e
          walk_at "sd"
          refine ⟨_, Or.inr (Or.inl (Or.inl (ht3 g6.dn))), ?_⟩
          refine ⟨l, xs.length, rfl, g6.dn.di hD, by omega, by omega, fun j H7 hj _ _ n7 => ?_⟩
          have g7 := g6.draw hD nLl n7
          have hjp : j < ps.length := by omega
          obtain ⟨t, t1, t2⟩ := hp.at_ j ps[j] (List.getElem?_eq_getElem hjp)
          have hin : ps[j] ∈ ps := List.getElem_mem hjp
          obtain ⟨r1, r2⟩ := hR.ok _ hin
          generalize ps[j] = p at *
          have ht2 : H7 t = some (.tup [vn p.1, vn p.2]) := g7.dn.keep hD (fun e => by
            obtain ⟨lc, ns, i, b, st, cnt, z1, _⟩ := hD.ob
            rw [e, z1] at t2
            cases t2) t2
          dsimp only
          refine q_ixT (ht3 g7.dn) t1 (g_pair ht2 ?_)
          walk_at "sd"
          obtain ⟨ow, w1, w2⟩ := g7.ex
          have l1 : p.1 < ow.length := by rw [w2.len]; omega
          have l2 : p.2 < ow.length := by rw [w2.len]; omega
          refine q_ixO (s := p.1) w1 l1 ?_
          cases o1 : own ow p.1 with
          | none =>
            show (if V.non = V.non then _ else _)
            rw [if_pos rfl]
            refine q_ixO (s := p.2) w1 l2 ?_
            refine q_setO (own ow p.2) w1 l1 ?_
            exact GrSt.put g7.dn w2 hL (by omega) o1 (Or.inl hin)
          | some c1 =>
            show (if vn c1 = V.non then _ else _)
            rw [if_neg (fun z => by cases z)]
            refine q_ixO (s := p.2) w1 l2 ?_
            cases o2 : own ow p.2 with
            | none =>
              show (if V.non = V.non then _ else _)
              rw [if_pos rfl]
              refine q_ixO (s := p.1) w1 l1 ?_
              refine q_setO (own ow p.1) w1 l2 ?_
              exact GrSt.put g7.dn w2 hL r2 o2 (Or.inr hin)
            | some c2 =>
              show (if vn c2 = V.non then _ else _)
              rw [if_neg (fun z => by cases z)]
              exact g7
        · subst e
          exact hN _ _ ⟨_, _, _, _, rfl, g6⟩
      · obtain ⟨o6, o7, o8, o9, rfl, g⟩ := hh
        obtain ⟨ow, g1, g2⟩ := g.ex
        walk_at "sd"
        exact q L ow (1 + k) H5 g.dn hL g1 g2 (by omega) (by omega)
end
end SL
/-! _law_tree. -/
namespace SL
open PySem PySem.Spec PyProof.Rows L2
/-- a comprehension behind its iterator -/
def LcGo (J : It) (g : TG) (tt : TT) (te : TE) (vs : List Nat) (σ : L2.St) (D : Addr) (Qd : Hp → Prop) (H1 : Hp) : Prop := ∃ W : Nat → Nat → Hp → Prop, (∃ m, W 0 m (upd H1 D (.lst []))) ∧ ∀ i m H, W i m H →
  (J.stop i H ∧ Qd H) ∨ (J.go i H ∧ ∃ Nx : Hp → Prop, (∀ H', Nx H' → ∃ m', m' < m ∧ W (i + 1) m' H') ∧ ∀ x H', J.yld i H x H' → g x (wipe σ vs) H' fun σ2 H2 => wipe σ2 vs = wipe σ vs ∧ tt σ2 H2 fun b H3 =>
    if b = true then te σ2 H3 fun y H4 => ∃ acc, H4 D = some (.lst acc) ∧ acc.length < sizeLine ∧ Nx (upd H4 D (.lst (acc ++ [y]))) else Nx H3)
theorem lc_it {wi : TI} {g : TG} {tt : TT} {te : TE} {vs : List Nat} {σ : L2.St} {H : Hp} {Q : VK} (h : wi σ H fun J H1 => ∀ D, H1 D = none → LcGo J g tt te vs σ D (fun H => Q (.ref D) H) H1) : tLc wi g tt te vs σ H Q := h
def nenc (e : Nat × Option Nat) : Key × V := (Sum.inl (e.1 : Int), vo e.2)
theorem nx_val (F : Nx) (x : Nat) : valV (F.map nenc) (Sum.inl (x : Int)) = (nxL F x).map vo := by
  induction F with
  | nil => rfl
  | cons e r ih =>
    unfold valV nxL
    unfold valV nxL at ih
    rw [List.map_cons]
    by_cases h : e.1 = x
    · rw [List.find?_cons_of_pos (by simp [nenc, h]), List.find?_cons_of_pos (by simpa using h)]
      rfl
    · rw [List.find?_cons_of_neg (by simp [nenc]; omega), List.find?_cons_of_neg (by simpa using h)]
      exact ih
theorem nx_put {F : Nx} {x : Nat} {t : Option Nat} (h : x ∉ F.map (·.1)) : putK (F.map nenc) (Sum.inl (x : Int)) (vo t) = (F ++ [(x, t)]).map nenc := by
  rw [putK_new _ (by rw [nx_val, nx_none h]; rfl), List.map_append]
  rfl
theorem nx_keys (F : Nx) : (F.map nenc).map (fun kv => kV kv.1) = (F.map (·.1)).map vn := by
  rw [List.map_map, List.map_map]
  rfl
section
variable {P : Program} {w : World} {K : Frg} {mg : Str → Option Value} {base : Heap}
def spTree : Sp := fun vs H Q _ => ∃ (l R tl : Addr) (n root : Nat) (ps : List (Nat × Nat)) (lot : List Nat), vs = [.ref l, .ref R, .ref tl, vn root] ∧ DiceAt H l ∧ AdjL H R n ps ∧ H tl = some (.tup (lot.map vn)) ∧ lot.Nodup ∧ (∀ x ∈ lot, x < n) ∧ n ≤ 12 ∧ root ∈ lot ∧
  (∀ s ∈ lot, Rch (nbr ps) (fun x => x ∈ lot) root s) ∧
  ∀ d F H', Dn l H H' → H d = none → H' d = some (.dK (F.map nenc)) → Tree ps lot root F → (∀ s ∈ lot, s ∈ F.map (·.1)) → Q (.ref d) H'
theorem dice_nt {H : Hp} {l b : Addr} {xs : List V} (h : DiceAt H l) (e : H b = some (.tup xs)) : b ≠ l := by
  obtain ⟨lc, ns, i, b, st, cnt, h1, h2⟩ := h.ob
  exact ne_of e h1 fun z => by cases z
theorem AdjAt.dn {l R : Addr} {H H' : Hp} {n : Nat} {ps : List (Nat × Nat)} (h : AdjL H R n ps) (hD : DiceAt H l) (d : Dn l H H') : AdjL H' R n ps := by
  obtain ⟨xs, h1, h2, h3⟩ := h.ex
  obtain ⟨lc, ns, i, b, st, cnt, k1, k2⟩ := hD.ob
  have nR : R ≠ l := fun e => by
    rw [e, k1] at h1
    have e2 := HO.lst.inj (Option.some.inj h1)
    rw [← e2] at h2 h3
    obtain ⟨a, r, q1, _⟩ := h3 1 (by rw [← h2]; show 1 < 5; omega)
    cases q1
  refine ⟨xs, d.keep hD nR h1, h2, fun k hk => ?_⟩
  obtain ⟨a, r, q1, q2, q3⟩ := h3 k hk
  refine ⟨a, r, q1, d.keep hD (fun e => ?_) q2, q3⟩
  rw [e, k1] at q2
  have e2 := HO.lst.inj (Option.some.inj q2)
  cases r with
  | nil => cases e2
  | cons x r =>
    rw [List.map_cons] at e2
    cases (List.cons.inj e2).1
/-- a tree under way -/
structure TreeSt (H0 H : Hp) (l d : Addr) (ps : List (Nat × Nat)) (lot : List Nat) (root i : Nat) : Prop where
  dn : Dn l H0 H
  ex : ∃ F, H d = some (.dK (F.map nenc)) ∧ Tree ps lot root F ∧ (i + 1 ≤ F.length ∨ Whole ps lot F)
theorem cal__law_tree (T : Txt K mg) : C8.Cal P w K mg base 2 "_law_tree" spTree [] := by
  refine mkCal T.d__law_tree sc__law_tree (fun _ _ _ _ _ _ us hl => match us, hl with | [_, _, _, _], _ => rfl) (fun vs H Q E h => ?_) (fun f cdv A outer s H vs Q E hr h => ?_)
  · obtain ⟨l, R, tl, n, root, ps, lot, rfl, _⟩ := h
    rfl
  · have hu := hu_of hr
    obtain ⟨l, R, tl, n, root, ps, lot, rfl, hD, hA, ht, hnd, hlt, hn, hroot, hcon, q⟩ := h
    refine ⟨_, (pss_cons (ps_set (i := 4) sc__law_tree.nd rfl (Or.inr rfl) (pe_disp (pps_cons (pv 3) pe_non pps_nil) (by rfl) (by rfl) (fun z => by cases z) (by decide)))
      (pss_cons (ps_for PassesOwn.never rfl (pi_range1 rfl T.b_range (pa_cons (pe_callB (k_len (K := K) rfl) (by rfl) T.b_len (by decide +kernel) (pa_cons (pv 2) pa_nil)) pa_nil)) (pg_name (i := 5) sc__law_tree.nd rfl (Or.inl rfl)) (pss_cons (ps_set (i := 6) sc__law_tree.nd rfl (Or.inl rfl) (pe_lst pa_nil))
        (pss_cons (ps_for PassesOwn.never rfl (k_list (K := K) rfl (pe_callTy (call_list_dK rfl) (by rfl) T.b_list (by decide +kernel) (pa_cons (pv 4) pa_nil))) (pg_name (i := 7) sc__law_tree.nd rfl (Or.inr rfl)) (pss_one (ps_expr (k_bm (K := K) rfl PySem.F.plainAttrs_list PySem.F.slot_list_extend PySem.F.type_list_extend mt_extend (pv 6) (pa_cons (pe_lc (own := [("_law_there", 8)]) rfl sc__law_tree.nd (k_list (K := K) rfl (pe_ix (k_ixL (K := K) rfl) (pv 1) (pv 7) (fun _ _ => rfl))) (blkOk_by (N := N__law_tree) (sc := defScope s__law_tree) (by decide +kernel)) (fun _ _ _ _ _ => (pg_name (i := 8) sc__law_tree.nd rfl (Or.inl rfl))) (fun _ _ _ _ _ => (pts_one (PW.pt (pw_and (pt_cmpR (k_in (K := K) rfl) (pv 8) (pv 2) (by rfl)) (pw_and1 (pt_cmp (pc_dnotin hu (pv 8) (pv 4)))))))) (fun _ _ _ _ _ => (pe_tup (pa_cons (pv 8) (pa_cons (pv 7) pa_nil))))) pa_nil)))))
        (pss_one (ps_if (pt_cmpR op_gt (pe_callB (k_len (K := K) rfl) (by rfl) T.b_len (by decide +kernel) (pa_cons (pv 6) pa_nil)) pe_int (nomark _)) (pss_cons (ps_asg (pe_ix (k_ixL (K := K) rfl) (pv 6) (C8.pe_c (cal__law_draw T) hr (by decide) rfl (pa_cons (pv 0) (pa_cons (pe_callB (k_len (K := K) rfl) (by rfl) T.b_len (by decide +kernel) (pa_cons (pv 6) pa_nil)) pa_nil))) (fun _ _ => rfl)) (k_gtup (K := K) (n := 2) rfl rfl (pgs_cons (pg_name (i := 8) sc__law_tree.nd rfl (Or.inl rfl)) (pgs_cons (pg_name (i := 7) sc__law_tree.nd rfl (Or.inr rfl)) pgs_nil))))
          (pss_one (ps_dput hu (pv 4) (pv 8) (pv 7) rfl))) pss_nil)))))
      (pss_one (ps_ret (pv 4))))), ?_⟩
    walk_at "sd"
    intro d hd
    refine ⟨_, rfl, upd_same, [(Sum.inl (root : Int), .non)], rfl, by show 1 ≤ 15; decide, ?_⟩
    have e0 : mergeK [] [((Sum.inl (root : Int) : Key), V.non)] = List.map nenc [(root, none)] := rfl
    rw [e0, L2.upd_upd]
    refine for_it ?_
    simp only [iRng1]
    walk_at "sd"
    have sd0 : Same H (upd H d (.dK [nenc (root, none)])) := L2.Same.new hd
    have ndl := dice_nl hD hd
    have hll : lot.length ≤ 12 := Nat.le_trans (nodup_lt hnd hlt) hn
    refine ⟨_, Or.inr (Or.inl (Or.inl (sd0 _ _ ht))), ?_⟩
    rw [List.length_map]
    refine ⟨by omega, by omega, ?_⟩
    refine for_range (lo := 0) (n := ((lot.length : Nat) : Int).toNat) (fun i σ H1 => ∃ o5 o6 o7 o8, σ = [some (V.ref l), some (V.ref R), some (V.ref tl), some (vn root), some (V.ref d), o5, o6, o7, o8] ∧ TreeSt H H1 l d ps lot root i)
      ⟨none, none, none, none, rfl, (Dn.refl l H).same sd0, _, upd_same, Tree.start hroot, Or.inl (Nat.le_refl _)⟩ (fun i σ H1 hi ⟨o5, o6, o7, o8, e, w1⟩ => ?_) fun σ H1 ⟨o5, o6, o7, o8, e, w1⟩ => ?_
    · subst e
      change tSeq _ _ _ _ _
      obtain ⟨F, f1, f2, f3⟩ := w1.ex
      refine seq_mid (fun σ H2 => ∃ S, σ = [some (V.ref l), some (V.ref R), some (V.ref tl), some (vn root), some (V.ref d), some (vn i), some (V.ref S), o7, o8] ∧ H1 S = none ∧ PairsAt H1 H2 S 0 (fun _ => False)) (fun N hN => ?_) (fun σ H2 hh => ?_)
      · have e3 : V.int (0 + (i : Int)) = vn i := by rw [Int.zero_add]
        rw [e3]
        walk_at "sd"
        refine ⟨by decide, fun S hS => ?_⟩
        exact hN _ _ ⟨S, rfl, hS, PairsAt.start (L2.Same.refl _) hS hS fun _ => id⟩
      · obtain ⟨S, rfl, hS, w2⟩ := hh
        refine seq_mid (fun σ H3 => ∃ o7 o8, σ = [some (V.ref l), some (V.ref R), some (V.ref tl), some (vn root), some (V.ref d), some (vn i), some (V.ref S), o7, o8] ∧ PairsAt H1 H3 S 2000 (fun p => p.2 ∈ F.map (·.1) ∧ nbr ps p.2 p.1 ∧ p.1 ∈ lot ∧ p.1 ∉ F.map (·.1))) (fun N hN => ?_) (fun σ H3 hh => ?_)
        · refine for_it ?_
          simp only [iList]
          walk_at "sd"
          have ht1 : H1 tl = some (.tup (lot.map vn)) := w1.dn.keep hD (dice_nt hD ht) ht
          refine ⟨d, _, rfl, w2.sm _ _ f1, fun q hq => ?_⟩
          have sq : Same H2 (upd H2 q (.lst (List.map (fun kv => kV kv.1) (F.map nenc)))) := L2.Same.new hq
          rw [nx_keys] at sq ⊢
          have hq1 : H1 q = none := w2.sm.fr hq
          have nSq : S ≠ q := fun e => by
            obtain ⟨_, _, z, _⟩ := w2.ex
            rw [e, hq] at z
            cases z
          refine ⟨q, rfl, ⟨_, Or.inl (Or.inl upd_same)⟩, ?_⟩
          refine for_list (K := K) (a := q) (xs := (F.map (·.1)).map vn) (fun j σ H3 => ∃ o7 o8, σ = [some (V.ref l), some (V.ref R), some (V.ref tl), some (vn root), some (V.ref d), some (vn i), some (V.ref S), o7, o8] ∧ H3 q = some (.lst ((F.map (·.1)).map vn)) ∧
            PairsAt H1 H3 S (100 * j) (fun p => p.2 ∈ (F.map (·.1)).take j ∧ nbr ps p.2 p.1 ∧ p.1 ∈ lot ∧ p.1 ∉ F.map (·.1)))
            ⟨_, _, rfl, upd_same, (w2.same sq).mono (by omega) fun p => by simp⟩ (fun j σ H3 _ ⟨_, _, _, z, _⟩ => Or.inl (Or.inl z)) (fun j y σ H3 hy ⟨o7, o8, e, hq3, w3⟩ => ?_) fun σ H3 ⟨o7, o8, e, hq3, w3⟩ => ?_
          · subst e
            rw [List.getElem?_map] at hy
            cases hk : (F.map (·.1))[j]? with
            | none => rw [hk] at hy; cases hy
            | some x =>
              rw [hk] at hy
              cases hy
              have hxin := List.mem_of_getElem? hk
              have hxlt := hlt x (f2.sub x hxin)
              have tk : (F.map (·.1)).take (j + 1) = (F.map (·.1)).take j ++ [x] := by rw [List.take_add_one, hk]; rfl
              have hjl := (List.getElem?_eq_some_iff.mp hk).1
              rw [List.length_map] at hjl
              have hFl := f2.len
              obtain ⟨rs, r1, r2, r3⟩ := ((hA.dn hD w1.dn).same w3.sm).ex
              obtain ⟨ra, row, c1, c2, c3, c4⟩ := r3 x hxlt
              obtain ⟨acc0, cs0, z1, _⟩ := w3.ex
              walk_at "sd"
              refine ⟨Or.inl ⟨rfl, _, Or.inl (Or.inl z1)⟩, ?_⟩
              refine lc_it ?_
              simp only [iList]
              walk_at "sd"
              refine q_ixL r1 c1 ?_
              refine ⟨ra, rfl, ⟨_, Or.inl (Or.inl c2)⟩, fun D hD3 => ?_⟩
              refine lc_list (K := K) (xs := row.map vn) (fun i H4 => PairsAt H3 H4 D i (fun p => p.2 = x ∧ p.1 ∈ row.take i ∧ p.1 ∈ lot ∧ p.1 ∉ F.map (·.1)))
                (PairsAt.start (L2.Same.refl _) hD3 hD3 fun p => by simp) (fun i H4 _ z => Or.inl (Or.inl (z.sm _ _ c2))) (fun i y H4 hy z => ?_) fun H4 z => ?_
              · rw [List.getElem?_map] at hy
                cases hk2 : row[i]? with
                | none => rw [hk2] at hy; cases hy
                | some t =>
                  rw [hk2] at hy
                  cases hy
                  have tk2 : row.take (i + 1) = row.take i ++ [t] := by rw [List.take_add_one, hk2]; rfl
                  walk_at "sd"
                  have hd4 := z.sm _ _ (w3.sm _ _ f1)
                  refine ⟨tl, _, rfl, Or.inr (Or.inl (Or.inl (z.sm _ _ (w3.sm _ _ ht1)))), rfl, flat_vn lot, _, rfl, ?_⟩
                  simp only [Bool.false_eq_true, if_false, inV_vn]
                  have same : ¬ (t ∈ lot ∧ t ∉ F.map (·.1)) → ∀ H5, Same H4 H5 → PairsAt H3 H5 D (i + 1) (fun p => p.2 = x ∧ p.1 ∈ row.take (i + 1) ∧ p.1 ∈ lot ∧ p.1 ∉ F.map (·.1)) := fun no H5 s5 => (z.same s5).mono (Nat.le_succ _) fun p => by
                    rw [tk2, List.mem_append, List.mem_singleton]
                    constructor
                    · rintro ⟨u1, u2, u3⟩
                      exact ⟨u1, Or.inl u2, u3⟩
                    · rintro ⟨u1, u2 | u2, u3⟩
                      · exact ⟨u1, u2, u3⟩
                      · rw [u2] at u3
                        exact absurd u3 no
                  by_cases hl : t ∈ lot
                  · rw [decide_eq_true hl]
                    refine iteT ⟨_, DGet.k (k := Sum.inl (t : Int)) hd4, ?_⟩
                    rw [nx_val]
                    by_cases hf : t ∈ F.map (·.1)
                    · obtain ⟨u, hu⟩ := nx_some hf
                      rw [hu, if_neg (fun e => by cases e)]
                      exact same (fun e => e.2 hf) _ (L2.Same.refl _)
                    · rw [nx_none hf, if_pos (by rfl)]
                      refine ⟨by decide, fun p hp => ?_⟩
                      obtain ⟨acc, y1, y2, y3⟩ := (z.same (L2.Same.new (o := .tup [vn t, vn x]) hp)).add hD3 upd_same (by have := (List.getElem?_eq_some_iff.mp hk2).1; omega)
                      refine ⟨acc, y1, y2, y3.mono (Nat.le_refl _) fun p => ?_⟩
                      rw [tk2, List.mem_append, List.mem_singleton]
                      constructor
                      · rintro (⟨u1, u2, u3⟩ | u1)
                        · exact ⟨u1, Or.inl u2, u3⟩
                        · subst u1
                          exact ⟨rfl, Or.inr rfl, hl, hf⟩
                      · rintro ⟨u1, u2 | u2, u3⟩
                        · exact Or.inl ⟨u1, u2, u3⟩
                        · exact Or.inr (Prod.ext u2 u1)
                  · rw [decide_eq_false hl]
                    exact iteF (same (fun e => hl e.1) _ (L2.Same.refl _))
              · rw [List.length_map, List.take_length] at z
                obtain ⟨acc, cs, y1, y2, y3, y4⟩ := z.ex
                obtain ⟨acc1, a1, a2, a3⟩ := (w3.same z.sm).ext hS y2 (by omega)
                refine ⟨S, D, acc1, acc, rfl, rfl, a1, y1, a2, ?_⟩
                refine ⟨by rw [upd_ne nSq.symm]; exact z.sm _ _ hq3, a3.mono (by omega) fun p => ?_⟩
                rw [y4, tk, List.mem_append, List.mem_singleton, c4]
                constructor
                · rintro (⟨u1, u2⟩ | ⟨u1, u2, u3⟩)
                  · exact ⟨Or.inl u1, u2⟩
                  · exact ⟨Or.inr u1, by rw [u1]; exact u2, u3⟩
                · rintro ⟨u1 | u1, u2, u3⟩
                  · exact Or.inl ⟨u1, u2, u3⟩
                  · exact Or.inr ⟨u1, by rw [u1] at u2; exact u2, u3⟩
          · subst e
            rw [List.length_map, List.take_length] at w3
            have hFl := f2.len
            exact hN _ _ ⟨_, _, rfl, w3.mono (by rw [List.length_map]; omega) fun p => Iff.rfl⟩
        · clear w2
          obtain ⟨o7, o8, rfl, w3⟩ := hh
          walk_at "sd"
          obtain ⟨acc, cs, z1, z2, z3, z4⟩ := w3.ex
          have dn3 := w1.dn.same w3.sm
          have nSl : S ≠ l := dice_nl (w1.dn.di hD) hS
          refine ⟨_, Or.inl (Or.inl (Or.inl z1)), ?_⟩
          refine ite2 (fun hpos => ?_) (fun hz => ?_)
          · refine ⟨_, Or.inl (Or.inl (Or.inl z1)), l, acc.length, rfl, dn3.di hD, by omega, by omega, fun k H4 hk _ _ n4 => ?_⟩
            have hacc : acc[k]? = some acc[k] := List.getElem?_eq_getElem hk
            have hck : k < cs.length := by rw [← z2.len]; exact hk
            have hcs : cs[k]? = some cs[k] := List.getElem?_eq_getElem hck
            obtain ⟨t, t1, t2⟩ := z2.at_ k _ hcs
            obtain ⟨p1, p2, p3, p4⟩ := (z4 _).mp (List.getElem_mem hck)
            have hD3 := dn3.di hD
            dsimp only
            refine q_ixL (n4.keep hD3 nSl z1) t1 ?_
            refine g_pair (n4.keep hD3 (dice_nt hD3 t2) t2) ?_
            walk_at "sd"
            have hFl := f2.len
            refine q_put (k := Sum.inl (cs[k].1 : Int)) (n4.keep hD3 ndl (w3.sm _ _ f1)) (by rw [List.length_map]; omega) (nx_put (t := some cs[k].2) p4) ?_
            refine ⟨(dn3.trans n4).mut hd, _, upd_same, f2.add p3 p4 p1 (nbr_symm p2), Or.inl ?_⟩
            rw [List.length_append]
            rcases f3 with f3 | f3
            · show i + 1 + 1 ≤ F.length + 1
              omega
            · exact absurd (f3 _ p1 _ p3 p2) p4
          · refine ⟨dn3, F, w3.sm _ _ f1, f2, Or.inr fun x hx y hy hxy => ?_⟩
            by_cases e : y ∈ F.map (·.1)
            · exact e
            · have := (z4 (y, x)).mpr ⟨hx, hxy, hy, e⟩
              have h0 : acc.length = 0 := by omega
              rw [z2.len] at h0
              rw [List.length_eq_zero_iff.mp h0] at this
              cases this
    · subst e
      walk_at "sd"
      obtain ⟨F, f1, f2, f3⟩ := w1.ex
      have hw : Whole ps lot F := by
        rcases f3 with f3 | f3
        · have := f2.len
          omega
        · exact f3
      exact q d F H1 w1.dn hd f1 f2 (f2.all hw hcon)
end
end SL
/-! What stays when but the dice change. -/
namespace SL
open PySem PySem.Spec PyProof.Rows L2
theorem DiceAt.ne {H : Hp} {l b : Addr} {o : HO} (h : DiceAt H l) (e : H b = some o) (n : ∀ xs, o ≠ .lst xs) : b ≠ l := by
  obtain ⟨lc, ns, i, b', st, cnt, h1, h2⟩ := h.ob
  exact ne_of e h1 (n _)
theorem Dn.kp {l b : Addr} {o : HO} {H H' : Hp} (d : Dn l H H') (h : DiceAt H l) (e : H b = some o) (n : ∀ xs, o ≠ .lst xs) : H' b = some o := d.keep h (h.ne e n) e
theorem Dn.kt {l b : Addr} {xs : List V} {H H' : Hp} (d : Dn l H H') (h : DiceAt H l) (e : H b = some (.tup xs)) : H' b = some (.tup xs) := d.kp h e fun _ z => by cases z
theorem Prs.dn {H H' : Hp} {xs : List V} {ps : List (Nat × Nat)} {l : Addr} (h : Prs H xs ps) (hD : DiceAt H l) (d : Dn l H H') : Prs H' xs ps :=
  ⟨h.len, fun i p hp => let ⟨a, h1, h2⟩ := h.at_ i p hp; ⟨a, h1, d.kt hD h2⟩⟩
theorem PrZ.dn {H H' : Hp} {xs : List V} {ps : List (Int × Int)} {l : Addr} (h : PrZ H xs ps) (hD : DiceAt H l) (d : Dn l H H') : PrZ H' xs ps :=
  ⟨h.len, fun i p hp => let ⟨a, h1, h2⟩ := h.at_ i p hp; ⟨a, h1, d.kt hD h2⟩⟩
theorem PlotsAt.dn {H H' : Hp} {xs : List V} {ls : List (List Nat)} {l : Addr} (h : PlotsAt H xs ls) (hD : DiceAt H l) (d : Dn l H H') : PlotsAt H' xs ls :=
  ⟨h.len, fun i p hp => let ⟨a, h1, h2⟩ := h.at_ i p hp; ⟨a, h1, d.kt hD h2⟩⟩
theorem WorldAt.dn {H H' : Hp} {a l : Addr} {W : Wd} (h : WorldAt H a W) (hD : DiceAt H l) (d : Dn l H H') : WorldAt H' a W := by
  obtain ⟨tp, xp, tt, xt, tr, th, dm, h1, h2, h3, h4, h5, h6, h7, h8⟩ := h.ob
  exact ⟨tp, xp, tt, xt, tr, th, dm, d.kp hD h1 (fun _ z => by cases z), d.kt hD h2, h3.dn hD d, d.kt hD h4, h5.dn hD d, d.kt hD h6, d.kt hD h7, d.kp hD h8 (fun _ z => by cases z)⟩
/-! ### moves under way -/
structure MvSt (H0 H : Hp) (l dm : Addr) (n m : Nat) (ps : List (Nat × Nat)) (R : Mvs → Prop) : Prop where
  dn : Dn l H0 H
  ex : ∃ M, H dm = some (.dT (M.map encM)) ∧ MvOk n m ps M ∧ R M
theorem MvSt.draw {H0 H H' : Hp} {l dm : Addr} {n m : Nat} {ps : List (Nat × Nat)} {R : Mvs → Prop} (h : MvSt H0 H l dm n m ps R) (hD : DiceAt H0 l) (d : Dn l H H') : MvSt H0 H' l dm n m ps R := by
  obtain ⟨M, h1, h2⟩ := h.ex
  exact ⟨h.dn.trans d, M, d.kp (h.dn.di hD) h1 (fun _ z => by cases z), h2⟩
theorem MvSt.same {H0 H H' : Hp} {l dm : Addr} {n m : Nat} {ps : List (Nat × Nat)} {R : Mvs → Prop} (h : MvSt H0 H l dm n m ps R) (e : Same H H') : MvSt H0 H' l dm n m ps R := by
  obtain ⟨M, h1, h2⟩ := h.ex
  exact ⟨h.dn.same e, M, e _ _ h1, h2⟩
theorem MvSt.mono {H0 H : Hp} {l dm : Addr} {n m : Nat} {ps : List (Nat × Nat)} {R S : Mvs → Prop} (h : MvSt H0 H l dm n m ps R) (e : ∀ M, R M → S M) : MvSt H0 H l dm n m ps S := by
  obtain ⟨M, h1, h2, h3⟩ := h.ex
  exact ⟨h.dn, M, h1, h2, e M h3⟩
theorem MvSt.put {H0 H : Hp} {l dm t : Addr} {n m : Nat} {ps : List (Nat × Nat)} {R S : Mvs → Prop} {N : Hp → Prop} {s : Nat} {o : Int} {x : Option Nat} (h : MvSt H0 H l dm n m ps R) (hB : H0 dm = none) (hn : n ≤ 12) (hm : m ≤ 8) (ht : H t = some (.tup [vn s, .int o]))
    (hs : s < n) (o1 : -1 ≤ o) (o2 : o < m) (hx : ∀ y, x = some y → nbr ps s y ∧ y < n) (e : ∀ M, R M → S (mvP M (s, o) x)) (q : ∀ H', MvSt H0 H' l dm n m ps S → N H') : ∃ H4, DPut H dm (.ref t) (vo x) H4 ∧ N H4 := by
  obtain ⟨M, h1, h2, h3⟩ := h.ex
  refine ⟨_, DPut.t (k := mkey s o) h1 ht (szt (by rw [List.length_map]; have := h2.len hn hm; omega)), ?_⟩
  rw [putK_M]
  exact q _ ⟨h.dn.mut hB, _, upd_same, h2.put hs o1 o2 hx, e M h3⟩
theorem Wd.Ok.moves {W : Wd} (ok : W.Ok) {M : Mvs} (h : MvOk W.size W.many W.pushes M) : ({ W with moves := M } : Wd).Ok :=
  ⟨ok.size1, ok.size12, ok.push, ok.pushA, ok.many1, ok.many8, ok.tie, ok.tieA, ok.conn, ok.rdL, ok.rdC, ok.hmL, ok.hmN, ok.hmS, ok.hmR, h.nd, h.ok⟩
theorem Wd.Ok.mvOk {W : Wd} (ok : W.Ok) : MvOk W.size W.many W.pushes W.moves := ⟨ok.mvN, ok.mvK⟩
theorem own_set {rs : List (Option Nat)} {s : Nat} {c : Option Nat} {x : Nat} (hs : s < rs.length) : ((rs.set s c)[x]?).join = if x = s then c else (rs[x]?).join := by
  by_cases e : x = s
  · subst e
    rw [if_pos rfl]
    exact own_eq c hs
  · rw [if_neg e]
    exact own_ne c e
theorem Wd.Ok.reading {W : Wd} (ok : W.Ok) {s : Nat} {c : Option Nat} (hs : s < W.size) (hc : ∀ d, c = some d → d < W.many) (hh : s ∉ W.homes) : ({ W with reading := W.reading.set s c } : Wd).Ok := by
  have hs' : s < W.reading.length := by rw [ok.rdL]; exact hs
  refine ⟨ok.size1, ok.size12, ok.push, ok.pushA, ok.many1, ok.many8, ok.tie, ok.tieA, ok.conn, by show (W.reading.set s c).length = W.size; rw [List.length_set]; exact ok.rdL, fun x d e => ?_, ok.hmL, ok.hmN, ok.hmS, fun d h e => ?_, ok.mvN, ok.mvK⟩
  · unfold Wd.rd at e
    simp only at e
    rw [own_set hs'] at e
    split at e
    · exact hc d e
    · exact ok.rdC x d e
  · unfold Wd.rd
    simp only
    rw [own_set hs', if_neg (fun z => hh (by subst z; exact List.mem_of_getElem? e))]
    exact ok.hmR d h e
end SL
/-! _law_keeps. -/
namespace SL
open PySem PySem.Spec PyProof.Rows L2
theorem dp_nats {K : Frg} {H : Hp} {p : Addr} {l : List Nat} (h : H p = some (.lst (l.map vn))) : Dp K H (.ref p) (.list ((l.map fun n : Nat => (n : Int)).map PyData.int)) := dp_ints (by rw [h, map_vn])
theorem HomeBy.eq {W : Wd} {s : Nat} {p q : List Nat} (h : HomeBy W s p) (k : HomeBy W s q) : p = q := by
  obtain ⟨c, a1, a2, a3, a4⟩ := h
  obtain ⟨d, b1, b2, b3, b4⟩ := k
  exact a2.uniq b2 (by rw [a3, b3])
theorem HomeBy.drop {W : Wd} {s t i : Nat} {p : List Nat} (h : HomeBy W s p) (hi : p[i]? = some t) : HomeBy W t (p.drop i) := by
  obtain ⟨c, a1, a2, a3, a4⟩ := h
  obtain ⟨b1, b2, b3, b4⟩ := home_drop a2 a4 hi
  exact ⟨c, b4, b1, b2, b3⟩
theorem HomeBy.nd {W : Wd} {s : Nat} {p : List Nat} (h : HomeBy W s p) : p.Nodup := let ⟨_, _, a, _⟩ := h; a.nodup
theorem q_index {K : Frg} {H : Hp} {Q : VK} {L : Addr} {M : List Nat} {c : Nat} (h : SqL K H L (M.map vn)) (nd : M.Nodup) (hc : c ∈ M) (q : Q (vn (M.idxOf c)) H) : rIndex K (.ref L) [vn c] H Q := by
  refine ⟨L, _, vn c, M.idxOf c, vn c, rfl, rfl, h, rfl, flat_vn M, by rw [List.getElem?_map, ix_at hc]; rfl, by simp [eqV], fun m z' hm hz => ?_, q⟩
  rw [List.getElem?_map] at hz
  cases e : M[m]? with
  | none => rw [e] at hz; cases hz
  | some c' =>
    rw [e] at hz
    cases hz
    show ((c' : Int) == (c : Int)) = false
    refine Bool.eq_false_iff.mpr fun z => ?_
    have z2 : (c' : Int) = (c : Int) := by simpa using z
    have z3 : c' = c := by omega
    subst z3
    have := L2.nd_ix nd e (ix_at hc)
    omega
section
variable {P : Program} {w : World} {K : Frg} {mg : Str → Option Value} {base : Heap}
def spLKeeps : Sp := fun vs H Q _ => ∃ (a : Addr) (W : Wd), vs = [.ref a] ∧ WorldAt H a W ∧ W.Ok ∧ ∀ b H', Same H H' → (b = true ↔ Due W) → Q (.bl b) H'
theorem cal__law_keeps (T : Txt K mg) : C8.Cal P w K mg base 3 "_law_keeps" spLKeeps [] := by
  refine mkCal T.d__law_keeps sc__law_keeps (fun _ _ _ _ _ _ us hl => match us, hl with | [_], _ => rfl) (fun vs H Q E h => ?_) (fun f cdv A outer s H vs Q E hr h => ?_)
  · obtain ⟨a, W, rfl, _⟩ := h
    rfl
  · have hu := hu_of hr
    obtain ⟨a, W, rfl, hA, ok, q⟩ := h
    refine ⟨_, (pss_cons (ps_for PassesOwn.never rfl (k_list (K := K) rfl (C8.pe_c (cal__law_changes T) hr (by decide) rfl (pa_cons (pv 0) pa_nil))) (k_gtup (K := K) (n := 2) rfl rfl (pgs_cons (pg_name (i := 1) sc__law_keeps.nd rfl (Or.inl rfl)) (pgs_cons (pg_name (i := 2) sc__law_keeps.nd rfl (Or.inl rfl)) pgs_nil))) (pss_cons (ps_asg (C8.pe_c (cal__law_changed T) hr (by decide) rfl (pa_cons (pv 0) (pa_cons (pv 1) (pa_cons (pv 2) pa_nil)))) (k_gtup (K := K) (n := 2) rfl rfl (pgs_cons (pg_name (i := 3) sc__law_keeps.nd rfl (Or.inl rfl)) (pgs_cons (pg_name (i := 4) sc__law_keeps.nd rfl (Or.inl rfl)) pgs_nil))))
        (pss_cons (ps_if (pt_not (pt_val (pv 4))) (pss_one (ps_ret pe_bl)) pss_nil)
        (pss_one (ps_for PassesOwn.never rfl (k_list (K := K) rfl (pv 3)) (pg_name (i := 5) sc__law_keeps.nd rfl (Or.inl rfl)) (pss_cons (ps_set (i := 6) sc__law_keeps.nd rfl (Or.inl rfl) (C8.pe_c (cal__law_homeward T) hr (by decide) rfl (pa_cons (pv 0) (pa_cons (pv 5) pa_nil))))
          (pss_cons (ps_if (pt_cmpR op_isN (pv 6) pe_non (nomark _)) (pss_one (ps_ret pe_bl)) pss_nil)
          (pss_one (ps_for PassesOwn.never rfl (k_list (K := K) rfl (pv 6)) (pg_name (i := 7) sc__law_keeps.nd rfl (Or.inl rfl)) (pss_cons (ps_set (i := 8) sc__law_keeps.nd rfl (Or.inl rfl) (C8.pe_c (cal__law_homeward T) hr (by decide) rfl (pa_cons (pv 0) (pa_cons (pv 7) pa_nil))))
            (pss_one (ps_if (PW.pt (pw_or (pt_cmpR op_isN (pv 8) pe_non (nomark _)) (pw_or1 (pt_cmpR (k_neD (K := K) rfl hr.units) (pv 8) (pe_slice (k_slL (K := K) rfl) (pv 6) (po_some (k_bm (K := K) rfl PySem.F.plainAttrs_list PySem.F.slot_list_index PySem.F.type_list_index (k_index (K := K) rfl) (pv 6) (pa_cons (pv 7) pa_nil))) po_none) (nomark _))))) (pss_one (ps_ret pe_bl)) pss_nil))))))))))))
      (pss_one (ps_ret pe_bl))), ?_⟩
    refine for_it ?_
    simp only [iList]
    walk_at "sd"
    refine ⟨a, W, rfl, hA, ok, fun L xs cs H1 s1 h1 hp hcs => ?_⟩
    dsimp only
    refine ⟨L, rfl, ⟨_, Or.inl (Or.inl h1)⟩, ?_⟩
    refine for_list (K := K) (a := L) (xs := xs) (fun i σ H2 => ∃ o1 o2 o3 o4 o5 o6 o7 o8, σ = [some (V.ref a), o1, o2, o3, o4, o5, o6, o7, o8] ∧ Same H1 H2 ∧ ∀ p ∈ cs.take i, ChangeOk W p.1 p.2)
      ⟨none, none, none, none, none, none, none, none, rfl, L2.Same.refl _, by simp⟩ (fun i σ H2 _ ⟨_, _, _, _, _, _, _, _, _, z, _⟩ => Or.inl (Or.inl (z _ _ h1))) (fun i x σ H2 hx ⟨o1, o2, o3, o4, o5, o6, o7, o8, e, s2, hall⟩ => ?_) fun σ H2 ⟨o1, o2, o3, o4, o5, o6, o7, o8, e, s2, hall⟩ => ?_
    · subst e
      have hi : i < cs.length := by rw [← hp.len]; exact (List.getElem?_eq_some_iff.mp hx).1
      have hpi : cs[i]? = some cs[i] := List.getElem?_eq_getElem hi
      obtain ⟨t, a1, a2⟩ := hp.at_ i cs[i] hpi
      rw [hx] at a1
      cases a1
      have tk : cs.take (i + 1) = cs.take i ++ [cs[i]] := by rw [List.take_add_one, hpi]; rfl
      have hnb := (hcs cs[i]).mp (List.getElem_mem hi)
      generalize cs[i] = p at *
      obtain ⟨l1, l2⟩ := ok.nbr_lt hnb
      have no : ∀ H3, Same H H3 → ¬ ChangeOk W p.1 p.2 → Q (.bl false) H3 := fun H3 s3 hc => q false H3 s3 ⟨(fun e => by cases e), fun due => absurd (due _ _ hnb) hc⟩
      refine g_pair (s2 _ _ a2) ?_
      walk_at "sd"
      refine ⟨a, W, p.1, p.2, rfl, (hA.same s1).same s2, ok, l1, l2, fun t F found b H3 s3 h3 h4 hy hn hlt => ?_⟩
      refine g_pair h3 ?_
      walk_at "sd"
      have s03 := (s1.trans s2).trans s3
      cases b with
      | false =>
        walk_at "sd"
        exact no H3 s03 fun ⟨p, h, z1, z2, z3, z4, _⟩ => hn rfl p ⟨h, z1, z2, z3, z4⟩
      | true =>
        walk_at "sd"
        obtain ⟨hm, y1, y2, y3, y4⟩ := hy rfl
        refine for_it ?_
        simp only [iList]
        walk_at "sd"
        refine ⟨⟨_, Or.inl (Or.inl h4)⟩, ?_⟩
        refine for_list (K := K) (a := F) (xs := found.map vn) (fun j σ H4 => ∃ o5 o6 o7 o8, σ = [some (V.ref a), some (vn p.1), some (vn p.2), some (V.ref F), some (V.bl true), o5, o6, o7, o8] ∧ Same H3 H4 ∧ ∀ s ∈ found.take j, HomeOk W s)
          ⟨_, _, _, _, rfl, L2.Same.refl _, by simp⟩ (fun j σ H4 _ ⟨_, _, _, _, _, z, _⟩ => Or.inl (Or.inl (z _ _ h4))) (fun j y σ H4 hy ⟨o5, o6, o7, o8, e, s4, hall2⟩ => ?_) fun σ H4 ⟨o5, o6, o7, o8, e, s4, hall2⟩ => ?_
        · subst e
          rw [List.getElem?_map] at hy
          cases hk : found[j]? with
          | none => rw [hk] at hy; cases hy
          | some s =>
            rw [hk] at hy
            cases hy
            have tk2 : found.take (j + 1) = found.take j ++ [s] := by rw [List.take_add_one, hk]; rfl
            have hsin := List.mem_of_getElem? hk
            have hsl := hlt s hsin
            have s04 := s03.trans s4
            have bad : ¬ HomeOk W s → ¬ ChangeOk W p.1 p.2 := fun nh ⟨p', h', z1, z2, z3, z4, z5⟩ => by
              have e2 := z1.uniq y1 (by rw [z3, y3, ← z2, ← y2])
              subst e2
              exact nh (z5 s hsin)
            walk_at "sd"
            refine ⟨a, W, s, rfl, hA.same s04, ok, hsl, fun r H5 s5 hr' => ?_⟩
            have s05 := s04.trans s5
            rcases hr' with ⟨rfl, nh⟩ | ⟨B, p', rfl, hB, hb, hbl⟩
            · walk_at "sd"
              exact no _ s05 (bad nh)
            · walk_at "sd"
              rw [if_neg (fun z => by cases z)]
              refine for_it ?_
              simp only [iList]
              walk_at "sd"
              refine ⟨⟨_, Or.inl (Or.inl hB)⟩, ?_⟩
              refine for_list (K := K) (a := B) (xs := p'.map vn) (fun k σ H6 => ∃ o7 o8, σ = [some (V.ref a), some (vn p.1), some (vn p.2), some (V.ref F), some (V.bl true), some (vn s), some (V.ref B), o7, o8] ∧ Same H5 H6)
                ⟨_, _, rfl, L2.Same.refl _⟩ (fun j σ H4 _ ⟨_, _, _, z⟩ => Or.inl (Or.inl (z _ _ hB))) (fun k y σ H6 hy ⟨o7, o8, e, s6⟩ => ?_) fun σ H6 ⟨o7, o8, e, s6⟩ => ?_
              · subst e
                rw [List.getElem?_map] at hy
                cases hk3 : p'[k]? with
                | none => rw [hk3] at hy; cases hy
                | some t =>
                  rw [hk3] at hy
                  cases hy
                  have hdr := hb.drop hk3
                  walk_at "sd"
                  refine ⟨a, W, t, rfl, hA.same (s05.trans s6), ok, hbl t (List.mem_of_getElem? hk3), fun r H7 s7 hr' => ?_⟩
                  rcases hr' with ⟨rfl, nh⟩ | ⟨B2, p2, rfl, hB2, hb2, hbl2⟩
                  · exact absurd hdr.ok nh
                  · have e2 := hb2.eq hdr
                    subst e2
                    walk_at "sd"
                    rw [if_neg (fun z => by cases z)]
                    simp only [tSl, tPart, tNoPart]
                    walk_at "sd"
                    have hB7 := (s6.trans s7) _ _ hB
                    have hix := L2.nd_ix hb.nd (ix_at (List.mem_of_getElem? hk3)) hk3
                    refine ⟨Or.inl ⟨rfl, _, Or.inl (Or.inl hB7)⟩, ?_⟩
                    refine q_index (Or.inl (Or.inl hB7)) hb.nd (List.mem_of_getElem? hk3) ?_
                    rw [hix]
                    refine ⟨_, rfl, B, _, rfl, Or.inl (Or.inl hB7), fun S hS => ?_⟩
                    have sS := L2.Same.new (o := .lst (cutV (p'.map vn) (some (k : Int)) none)) hS
                    have hkl := (List.getElem?_eq_some_iff.mp hk3).1
                    have ec : cutV (p'.map vn) (some (k : Int)) none = (p'.drop k).map vn := by
                      unfold cutV
                      rw [HT.sIx_nat, HT.sIx_none, List.length_map, Nat.min_eq_left (by omega), List.take_of_length_le (by rw [List.length_drop, List.length_map]; exact Nat.le_refl _), List.map_drop]
                    rw [ec] at sS ⊢
                    refine ⟨_, _, dp_nats (sS _ _ hB2), dp_nats upd_same, shaped_ints _, shaped_ints _, ?_⟩
                    rw [eqv_ints]
                    walk_at "sd"
                    exact (s6.trans s7).trans sS
              · subst e
                exact ⟨_, _, _, _, rfl, s4.trans (s5.trans s6), fun z hz => by
                  rw [tk2] at hz
                  rcases List.mem_append.mp hz with hz | hz
                  · exact hall2 z hz
                  · rw [List.mem_singleton.mp hz]
                    exact hb.ok⟩
        · subst e
          rw [List.length_map, List.take_length] at hall2
          exact ⟨_, _, _, _, _, _, _, _, rfl, (s2.trans s3).trans s4, fun z hz => by
            rw [tk] at hz
            rcases List.mem_append.mp hz with hz | hz
            · exact hall z hz
            · rw [List.mem_singleton.mp hz]
              exact ⟨found, hm, y1, y2, y3, y4, hall2⟩⟩
    · subst e
      walk_at "sd"
      have lt : xs.length = cs.length := hp.len
      rw [lt, List.take_length] at hall
      exact q true H2 (s1.trans s2) ⟨fun _ v x hvx => hall (v, x) ((hcs (v, x)).mpr hvx), fun _ => rfl⟩
end
end SL
/-! _law_made. -/
namespace SL
open PySem PySem.Spec PyProof.Rows L2
section
variable {P : Program} {w : World} {K : Frg} {mg : Str → Option Value} {base : Heap}
def spMade (K : Frg) : Sp := fun vs H Q _ => ∃ (a : Addr) (W : Wd), vs = [.ref a] ∧ WorldAt H a W ∧ W.Ok ∧ ∀ h df H', HandAt K H' h df W → H' df = some (.dK []) → H df = none → Same H H' → Q (.ref h) H'
theorem cal__law_made (T : Txt K mg) : C8.Cal P w K mg base 8 "_law_made" (spMade K) [] := by
  refine mkCal T.d__law_made sc__law_made (fun _ _ _ _ _ _ us hl => match us, hl with | [_], _ => rfl) (fun vs H Q E h => ?_) (fun f cdv A outer s H vs Q E hr h => ?_)
  · obtain ⟨a, W, rfl, _⟩ := h
    rfl
  · have hu := hu_of hr
    obtain ⟨a, W, rfl, hA, ok, q⟩ := h
    obtain ⟨tp, xp, tt, xt, tr, th, dm, w1, w2, w3, w4, w5, w6, w7, w8⟩ := hA.ob
    refine ⟨_, (pss_cons (ps_set (i := 1) sc__law_made.nd rfl (Or.inl rfl) (C8.pe_mk (mak_Web T) hr (by decide) rfl (pa_cons (pe_dget hu (pv 0) pe_str (fun _ _ => rfl)) (pa_cons (pe_dget hu (pv 0) pe_str (fun _ _ => rfl)) pa_nil))))
      (pss_cons (ps_set (i := 2) sc__law_made.nd rfl (Or.inl rfl) (C8.pe_mk (mak_Book T) hr (by decide) rfl (pa_cons (pe_dget hu (pv 0) pe_str (fun _ _ => rfl)) (pa_cons (pe_dget hu (pv 0) pe_str (fun _ _ => rfl)) pa_nil))))
      (pss_one (ps_ret (C8.pe_mk (mak_Hand T) hr (by decide) rfl (pa_cons (pv 1) (pa_cons (pv 2) (pa_cons (pe_dget hu (pv 0) pe_str (fun _ _ => rfl)) (pa_cons (pe_dget hu (pv 0) pe_str (fun _ _ => rfl)) (pa_cons (pe_callTy (call_dictT hr.units) (by rfl) T.b_dict (by decide +kernel) (pa_cons (pe_dget hu (pv 0) pe_str (fun _ _ => rfl)) pa_nil)) pa_nil)))))))))), ?_⟩
    walk_at "sd"
    refine ⟨_, q_get (k := Sum.inr "size") w1 wk_size, _, q_get (k := Sum.inr "pushes") w1 wk_pushes, ?_⟩
    intro x dx hx hdx hne
    have sW : Same H (L2.upd (L2.upd H dx (.own x)) x (.ins (CW K) dx [])) := (L2.Same.new hdx).trans (L2.Same.new (by rw [upd_ne hne.symm]; exact hx))
    refine ⟨x, dx, tp, W.size, xp, W.pushes, rfl, upd_same, sW _ _ w2, w3.same sW, ⟨ok.push, ok.pushA⟩, by have := ok.push66; omega, ok.size1, by have := ok.size12; omega, fun dw H2 hw hdw kp => ?_⟩
    have s2 : Same H H2 := fun b o h => kp b o (fun e => by rw [e, hx] at h; cases h) (sW _ _ h)
    have hdw0 : H dw = none := sW.fr hdw
    clear kp hdw sW hne
    refine ⟨rfl, ?_⟩
    refine ⟨_, q_get (k := Sum.inr "many") (s2 _ _ w1) wk_many, _, q_get (k := Sum.inr "ties") (s2 _ _ w1) wk_ties, fun y dy hy hdy hne => ?_⟩
    have sB : Same H2 (L2.upd (L2.upd H2 dy (.own y)) y (.ins (CB K) dy [])) := (L2.Same.new hdy).trans (L2.Same.new (by rw [upd_ne hne.symm]; exact hy))
    have sB0 := s2.trans sB
    refine ⟨y, dy, tt, W.many, xt, W.ties, rfl, upd_same, sB0 _ _ w4, w5.same sB0, ⟨ok.tie, ok.tieA⟩, ok.tie28, ok.many1, ok.many8, ok.conn, fun H4 hb kp => ?_⟩
    have s24 : Same H2 H4 := fun b o h => kp b o (fun e => by rw [e, hy] at h; cases h) (sB _ _ h)
    have s4 := s2.trans s24
    clear kp sB0 sB hne
    refine ⟨rfl, ?_⟩
    refine ⟨_, q_get (k := Sum.inr "reading") (s4 _ _ w1) wk_reading, _, q_get (k := Sum.inr "homes") (s4 _ _ w1) wk_homes, _, q_get (k := Sum.inr "moves") (s4 _ _ w1) wk_moves, ?_⟩
    refine ⟨dm, _, rfl, s4 _ _ w8, hash_nodup P w ok.mvN (fun e he => ?_), fun v hv => ?_⟩
    · have := ok.mvK e he
      have := ok.size12
      have := ok.many8
      omega
    intro z dz hz hdz hne
    have sv : Same H4 (L2.upd H4 v (.dT (W.moves.map encM))) := L2.Same.new hv
    have sH := sv.trans ((L2.Same.new (o := .own z) hdz).trans (L2.Same.new (o := .ins (CH K) dz []) (by rw [upd_ne hne.symm]; exact hz)))
    have sH2 := (L2.Same.new (o := .own z) hdz).trans (L2.Same.new (o := .ins (CH K) dz []) (by rw [upd_ne hne.symm]; exact hz))
    have s5 := s4.trans sH
    refine ⟨z, dz, x, dw, y, tr, th, v, W, rfl, upd_same, (hw.same s24).same sH, hb.same sH, s5 _ _ w6, s5 _ _ w7, sH2 _ _ upd_same, ok, fun df H' hand hdf hdf0 kp => ?_⟩
    refine ⟨rfl, q z df H' hand hdf (s5.fr hdf0) fun b o h => kp b o (fun e => ?_) (fun e => ?_) (s5 _ _ h)⟩
    · have := (s4.trans sv) _ _ h
      rw [e, hz] at this
      cases this
    · rw [e, hdw0] at h
      cases h
end
end SL
/-! _law_random. -/
namespace SL
open PySem PySem.Spec PyProof.Rows L2
section
variable {P : Program} {w : World} {K : Frg} {mg : Str → Option Value} {base : Heap}
def spNew : Sp := fun vs H Q _ => ∃ (l a : Addr) (W : Wd), vs = [.ref l, .ref a] ∧ DiceAt H l ∧ WorldAt H a W ∧ W.Ok ∧ ∀ b W' H', Dn l H H' → WorldAt H' b W' → W'.Ok → Q (.ref b) H'
theorem cal__law_random (T : Txt K mg) : C8.Cal P w K mg base 2 "_law_random" spNew [] := by
  refine mkCal T.d__law_random sc__law_random (fun _ _ _ _ _ _ us hl => match us, hl with | [_, _], _ => rfl) (fun vs H Q E h => ?_) (fun f cdv A outer s H vs Q E hr h => ?_)
  · obtain ⟨l, a, W, rfl, _⟩ := h
    rfl
  · have hu := hu_of hr
    obtain ⟨l, a, W, rfl, hD, hA, ok, q⟩ := h
    obtain ⟨tp, xp, tt, xt, tr, th, dm, w1, w2, w3, w4, w5, w6, w7, w8⟩ := hA.ob
    refine ⟨_, (pss_cons (ps_set (i := 2) sc__law_random.nd rfl (Or.inl rfl) (C8.pe_c (cal__law_rows T) hr (by decide) rfl (pa_cons (pe_dget hu (pv 1) pe_str (fun _ _ => rfl)) (pa_cons (pe_dget hu (pv 1) pe_str (fun _ _ => rfl)) pa_nil))))
      (pss_cons (ps_set (i := 3) sc__law_random.nd rfl (Or.inl rfl) pe_dnewT)
      (pss_cons (ps_for PassesOwn.never rfl (pi_range1 rfl T.b_range (pa_cons (pe_dget hu (pv 1) pe_str (fun _ _ => rfl)) pa_nil)) (pg_name (i := 4) sc__law_random.nd rfl (Or.inl rfl)) (pss_one (ps_for PassesOwn.never rfl (pi_range2 rfl T.b_range (pa_cons (pe_un un_neg pe_int) (pa_cons (pe_dget hu (pv 1) pe_str (fun _ _ => rfl)) pa_nil))) (pg_name (i := 5) sc__law_random.nd rfl (Or.inl rfl)) (pss_cons (ps_set (i := 6) sc__law_random.nd rfl (Or.inl rfl) (pe_op op_cat (pe_ix (k_ixL (K := K) rfl) (pv 2) (pv 4) (fun _ _ => rfl)) (pe_lst (pa_cons pe_non pa_nil))))
          (pss_cons (ps_dput hu (pv 3) (pe_tup (pa_cons (pv 4) (pa_cons (pv 5) pa_nil))) (pe_ix (k_ixL (K := K) rfl) (pv 6) (C8.pe_c (cal__law_draw T) hr (by decide) rfl (pa_cons (pv 0) (pa_cons (pe_callB (k_len (K := K) rfl) (by rfl) T.b_len (by decide +kernel) (pa_cons (pv 6) pa_nil)) pa_nil))) (fun _ _ => rfl)) rfl)
          (pss_one (ps_if (PW.pt (pw_or (PW.pt (pw_and (pt_cmpR op_ge (pv 5) pe_int (nomark _)) (pw_and1 (pt_cmpR op_eq (pe_ix (k_ixT (K := K) rfl) (pe_dget hu (pv 1) pe_str (fun _ _ => rfl)) (pv 5) (fun _ _ => rfl)) (pv 4) (nomark _))))) (pw_or1 (PW.pt (pw_and (pt_cmpR op_lt (pv 5) pe_int (nomark _)) (pw_and1 (pt_cmpR (k_in (K := K) rfl) (pv 4) (pe_dget hu (pv 1) pe_str (fun _ _ => rfl)) (by rfl)))))))) (pss_one (ps_dput hu (pv 3) (pe_tup (pa_cons (pv 4) (pa_cons (pv 5) pa_nil))) pe_non rfl)) pss_nil)))))))
      (pss_cons (ps_set (i := 7) sc__law_random.nd rfl (Or.inl rfl) (pe_callTy call_dictK (by rfl) T.b_dict (by decide +kernel) (pa_cons (pv 1) pa_nil)))
      (pss_cons (ps_dput hu (pv 7) pe_str (pv 3) rfl)
      (pss_one (ps_ret (pv 7)))))))), ?_⟩
    walk_at "sd"
    refine ⟨_, q_get (k := Sum.inr "size") w1 wk_size, _, q_get (k := Sum.inr "pushes") w1 wk_pushes, ?_⟩
    have n12 := ok.size12
    have m8 := ok.many8
    refine ⟨W.size, tp, xp, W.pushes, rfl, w2, w3, ok.push, by have := ok.push66; omega, by omega, fun R H1 hR s1 hadj => ?_⟩
    walk_at "sd"
    intro d hd
    have sd : Same H (L2.upd H1 d (.dT [])) := s1.trans (L2.Same.new hd)
    have w0 : MvSt H1 (L2.upd H1 d (.dT [])) l d W.size W.many W.pushes (fun _ => True) := ⟨(Dn.refl l H1).same (L2.Same.new hd), [], upd_same, MvOk.nil, trivial⟩
    have hD1 : DiceAt H1 l := hD.same s1
    refine for_it ?_
    simp only [iRng1]
    walk_at "sd"
    refine ⟨_, q_get (k := Sum.inr "size") (sd _ _ w1) wk_size, _, rfl, by omega, by omega, ?_⟩
    refine for_range (lo := 0) (n := (W.size : Int).toNat) (fun i σ H2 => ∃ o4 o5 o6, σ = [some (V.ref l), some (V.ref a), some (V.ref R), some (V.ref d), o4, o5, o6, none] ∧ MvSt H1 H2 l d W.size W.many W.pushes (fun _ => True))
      ⟨none, none, none, rfl, w0⟩ (fun i σ H2 hi ⟨o4, o5, o6, e, g2⟩ => ?_) fun σ H2 ⟨o4, o5, o6, e, g2⟩ => ?_
    · subst e
      have e3 : V.int (0 + (i : Int)) = vn i := by rw [Int.zero_add]
      rw [e3]
      walk_at "sd"
      refine for_it ?_
      simp only [iRng2]
      walk_at "sd"
      refine ⟨_, q_get (k := Sum.inr "many") (g2.dn.kp hD1 (s1 _ _ w1) fun _ z => by cases z) wk_many, _, rfl, by decide, by decide, by omega, by omega, ?_⟩
      refine for_range (lo := -1) (n := ((W.many : Int) - -1).toNat) (fun k σ H3 => ∃ o5 o6, σ = [some (V.ref l), some (V.ref a), some (V.ref R), some (V.ref d), some (vn i), o5, o6, none] ∧ MvSt H1 H3 l d W.size W.many W.pushes (fun _ => True))
        ⟨_, _, rfl, g2⟩ (fun k σ H3 hk ⟨o5, o6, e, g3⟩ => ?_) fun σ H3 ⟨o5, o6, e, g3⟩ => ?_
      · subst e
        obtain ⟨o, ho, ho1, ho2⟩ : ∃ o : Int, -1 + (k : Int) = o ∧ -1 ≤ o ∧ o < W.many := ⟨_, rfl, by omega, by omega⟩
        rw [ho]
        obtain ⟨xs, r1, r2, r3⟩ := (hadj.dn hD1 g3.dn).ex
        obtain ⟨ra, row, c1, c2, c3, c4⟩ := r3 i (by omega)
        change tSeq _ _ _ _ _
        refine seq_mid (fun σ H4 => ∃ c, σ = [some (V.ref l), some (V.ref a), some (V.ref R), some (V.ref d), some (vn i), some (V.int o), some (V.ref c), none] ∧ H3 c = none ∧ Same H3 H4 ∧ H4 c = some (.lst ((row.map some ++ [none]).map vo))) (fun N hN => ?_) (fun σ H4 hh => ?_)
        · walk_at "sd"
          refine q_ixL r1 c1 ?_
          refine ⟨by decide, fun p hp => ?_⟩
          have sp := L2.Same.new (o := .lst [V.non]) hp
          refine ⟨ra, p, _, _, rfl, rfl, sp _ _ c2, upd_same, szl (by rw [List.length_map]; show row.length + 1 ≤ 100000; omega), fun c hc => ?_⟩
          refine hN _ _ ⟨c, rfl, sp.fr hc, sp.trans (L2.Same.new hc), ?_⟩
          rw [upd_same, List.map_append, List.map_map]
          rfl
        · obtain ⟨c, rfl, hc, s4, h4⟩ := hh
          walk_at "sd"
          have hD4 := (g3.dn.di hD1).same s4
          have ncl := dice_nl (g3.dn.di hD1) hc
          refine ⟨_, Or.inl (Or.inl (Or.inl h4)), l, _, rfl, hD4, by simp, by simp; omega, fun j H5 hj _ _ n5 => ?_⟩
          rw [List.length_map] at hj
          have hy : (row.map some ++ [none])[j]? = some (row.map some ++ [none])[j] := List.getElem?_eq_getElem hj
          have hyn : ∀ t, (row.map some ++ [none])[j] = some t → nbr W.pushes i t ∧ t < W.size := fun t e => by
            have := List.getElem_mem hj
            rw [e] at this
            rcases List.mem_append.mp this with z | z
            · obtain ⟨u, u1, u2⟩ := List.mem_map.mp z
              cases u2
              have z := (c4 t).mp u1
              refine ⟨z, ?_⟩
              rcases z with z | z
              · exact (ok.push _ z).2
              · have := ok.push _ z
                simp only at this
                omega
            · cases List.mem_singleton.mp z
          generalize (row.map some ++ [none])[j] = y at *
          have g5 := (g3.same s4).draw hD1 n5
          refine q_ixL (v := vo y) (n5.keep hD4 ncl h4) (by rw [List.getElem?_map, hy]; rfl) ?_
          refine ⟨by decide, fun p hp => ?_⟩
          refine (g5.same (L2.Same.new hp)).put (S := fun _ => True) hd n12 m8 upd_same (by omega) ho1 ho2 hyn (fun _ _ => trivial) fun H6 g6 => ?_
          have non : ∀ H7, MvSt H1 H7 l d W.size W.many W.pushes (fun _ => True) → 2 ≤ sizeLine ∧ ∀ p, H7 p = none → ∃ x, DPut (L2.upd H7 p (.tup [vn i, V.int o])) d (.ref p) V.non x ∧ MvSt H1 x l d W.size W.many W.pushes (fun _ => True) := fun H7 g7 =>
            ⟨by decide, fun p hp => (g7.same (L2.Same.new hp)).put (x := none) (S := fun _ => True) hd n12 m8 upd_same (by omega) ho1 ho2 (fun _ e => by cases e) (fun _ _ => trivial) fun H8 g8 => g8⟩
          have w16 := g6.dn.kp hD1 (s1 _ _ w1) (fun _ z => by cases z)
          have w76 := g6.dn.kt hD1 (s1 _ _ w7)
          refine ite2 (fun h0 => ?_) (fun h0 => ?_)
          · obtain ⟨c, rfl⟩ := Int.eq_ofNat_of_zero_le h0
            have hcl : c < W.homes.length := by rw [ok.hmL]; omega
            refine ⟨_, q_get (k := Sum.inr "homes") w16 wk_homes, ?_⟩
            refine q_ixT (v := vn W.homes[c]) w76 (by rw [List.getElem?_map, List.getElem?_eq_getElem hcl]; rfl) ?_
            refine ⟨scal_ii.mpr trivial, ?_⟩
            refine ite2 (fun _ => non _ g6) (fun _ => ?_)
            rw [if_neg (by omega)]
            exact g6
          · refine ite2 (fun _ => ?_) (fun _ => g6)
            refine ⟨_, q_get (k := Sum.inr "homes") w16 wk_homes, th, _, rfl, Or.inr (Or.inl (Or.inl w76)), rfl, flat_vn _, _, rfl, ?_⟩
            exact ite2 (fun _ => non _ g6) (fun _ => g6)
      · subst e
        exact ⟨_, _, _, rfl, g3⟩
    · subst e
      walk_at "sd"
      obtain ⟨M, m1, m2, _⟩ := g2.ex
      have w1' := g2.dn.kp hD1 (s1 _ _ w1) fun _ z => by cases z
      refine ⟨a, _, rfl, w1', fun f hf => ?_⟩
      have sf : Same H2 (L2.upd H2 f (.dK (wk W.size tp W.many tt tr th dm))) := L2.Same.new hf
      refine ⟨f, rfl, ?_⟩
      refine q_put (k := Sum.inr "moves") upd_same (by show 7 < 100000; decide) wk_put_moves ?_
      rw [L2.upd_upd]
      have sg : Same H2 (L2.upd H2 f (.dK (wk W.size tp W.many tt tr th d))) := L2.Same.new hf
      have dn2 : Dn l H H2 := (Dn.of_same s1).trans g2.dn
      refine q f { W with moves := M } _ (dn2.same sg) ⟨tp, xp, tt, xt, tr, th, d, upd_same, sg _ _ (dn2.kt hD w2), (w3.dn hD dn2).same sg, sg _ _ (dn2.kt hD w4), (w5.dn hD dn2).same sg, sg _ _ (dn2.kt hD w6), sg _ _ (dn2.kt hD w7), sg _ _ m1⟩ (ok.moves m2)
end
end SL
/-! _law_told. -/
namespace SL
open PySem PySem.Spec PyProof.Rows L2
/-- what is met, under way -/
structure MetSt (H0 H : Hp) (l Me d : Addr) (m : Nat) (ts : List (Nat × Nat)) (R : List Nat → Prop) : Prop where
  dn : Dn l H0 H
  ex : ∃ F M, H Me = some (.lst (M.map vn)) ∧ H d = some (.dT (yes2 F)) ∧ Met m ts F M ∧ R M
theorem MetSt.mono {H0 H : Hp} {l Me d : Addr} {m : Nat} {ts : List (Nat × Nat)} {R S : List Nat → Prop} (h : MetSt H0 H l Me d m ts R) (e : ∀ M, R M → S M) : MetSt H0 H l Me d m ts S := by
  obtain ⟨F, M, h1, h2, h3, h4⟩ := h.ex
  exact ⟨h.dn, F, M, h1, h2, h3, e M h4⟩
theorem MetSt.draw {H0 H H' : Hp} {l Me d : Addr} {m : Nat} {ts : List (Nat × Nat)} {R : List Nat → Prop} (h : MetSt H0 H l Me d m ts R) (hD : DiceAt H0 l) (hM : Me ≠ l) (dd : Dn l H H') : MetSt H0 H' l Me d m ts R := by
  obtain ⟨F, M, h1, h2, h3, h4⟩ := h.ex
  have hD1 := h.dn.di hD
  exact ⟨h.dn.trans dd, F, M, dd.keep hD1 hM h1, dd.kp hD1 h2 (fun _ z => by cases z), h3, h4⟩
/-- the ties' dict, a pair put in -/
theorem tie_put {H : Hp} {d t : Addr} {F : List (Nat × Nat)} {p : Nat × Nat} (h : H d = some (.dT (yes2 F))) (hF : F.length ≤ 1000) (ht : H t = some (.tup [vn p.1, vn p.2])) : DPut H d (.ref t) (.bl true) (upd H d (.dT (yes2 (insP F p)))) := by
  have z := DPut.t (k := mkey p.1 p.2) (v := .bl true) h ht (szt (by unfold yes2; rw [List.length_map]; omega))
  rw [yes2_put] at z
  exact z
theorem Met.f66 {m : Nat} {ts F : List (Nat × Nat)} {M : List Nat} (h : Met m ts F M) (hm : m ≤ 8) (hT : ∀ p ∈ ts, p.1 < p.2 ∧ p.2 < m) : F.length ≤ 66 := edges_len (n := m) h.fn (fun p hp => hT p (h.f p hp).1) (by omega)
/-- over the keys of a locked dict with tuple keys -/
theorem lc_keysT {d : Addr} {o : Obj} {kvs : List (List Key × V)} {g : TG} {tt : TT} {te : TE} {vs : List Nat} {σ : L2.St} {H1 : Hp} {D : Addr} {Qd : Hp → Prop} (Pv : Nat → Hp → Prop) (h0 : Pv 0 (upd H1 D (.lst []))) (hf : ∀ i H, Pv i H → H d = some (.frz o (.dT kvs)))
    (hs : ∀ i k v q H, kvs[i]? = some (k, v) → Pv i H → H q = some (.tup (k.map kV)) → g (.ref q) (wipe σ vs) H fun σ2 H2 => wipe σ2 vs = wipe σ vs ∧ tt σ2 H2 fun b H3 =>
      if b = true then te σ2 H3 fun y H4 => ∃ acc, H4 D = some (.lst acc) ∧ acc.length < sizeLine ∧ Pv (i + 1) (upd H4 D (.lst (acc ++ [y]))) else Pv (i + 1) H3) (hd : ∀ H, Pv kvs.length H → Qd H) :
    LcGo (Itkt d o kvs) g tt te vs σ D Qd H1 := by
  refine ⟨fun i m H => m = kvs.length - i ∧ i ≤ kvs.length ∧ Pv i H, ⟨_, rfl, Nat.zero_le _, h0⟩, ?_⟩
  rintro i m H ⟨rfl, hi, p⟩
  by_cases hlt : i < kvs.length
  · refine .inr ⟨⟨hf i H p, hlt⟩, Pv (i + 1), fun H' p' => ⟨kvs.length - (i + 1), by omega, rfl, hlt, p'⟩, fun x H' hx => ?_⟩
    obtain ⟨e0, k, v, q, e1, e2, e3⟩ := hx
    rw [e2, e0]
    exact hs i k v q H e1 p e3
  · have e : i = kvs.length := by omega
    subst e
    exact .inl ⟨⟨hf _ H p, Nat.le_refl _⟩, hd H p⟩
theorem PlotsAt.upd {H : Hp} {xs : List V} {ls : List (List Nat)} {D : Addr} {o : HO} {l : List V} (h : PlotsAt H xs ls) (hD : H D = some (.lst l)) : PlotsAt (L2.upd H D o) xs ls :=
  ⟨h.len, fun i p hp => let ⟨a, h1, h2⟩ := h.at_ i p hp; ⟨a, h1, by rw [upd_ne (ne_of h2 hD fun z => by cases z)]; exact h2⟩⟩
theorem PlotsAt.snoc {H : Hp} {xs : List V} {ls : List (List Nat)} {p : List Nat} {t : Addr} (h : PlotsAt H xs ls) (ht : H t = some (.tup (p.map vn))) : PlotsAt H (xs ++ [.ref t]) (ls ++ [p]) := by
  refine ⟨by rw [List.length_append, List.length_append, h.len]; rfl, fun i p2 hp => ?_⟩
  by_cases hi : i < ls.length
  · rw [List.getElem?_append_left hi] at hp
    obtain ⟨a, h1, h2⟩ := h.at_ i p2 hp
    exact ⟨a, by rw [List.getElem?_append_left (by rw [h.len]; exact hi)]; exact h1, h2⟩
  · rw [List.getElem?_append_right (by omega)] at hp
    by_cases h0 : i - ls.length = 0
    · rw [h0] at hp
      cases hp
      exact ⟨t, by rw [List.getElem?_append_right (by rw [h.len]; omega), h.len, h0]; rfl, ht⟩
    · rw [List.getElem?_eq_none (by simp; omega)] at hp
      cases hp
def scToldIn : Scope := { kind := .function, names := [((".0" : Str), .local), ("_law_content", .cell), ("tuple", .globalImplicit), ("range", .globalImplicit), ("_law_owners_here", .free), ("_law_size", .free)], isGenerator := false, isCoroutine := false }
section
variable {P : Program} {w : World} {K : Frg} {mg : Str → Option Value} {base : Heap}
def spTold : Sp := fun vs H Q _ => ∃ (l tp : Addr) (n most : Nat) (xs : List V) (ps : List (Nat × Nat)), vs = [.ref l, vn n, .ref tp, vn most] ∧ DiceAt H l ∧ H tp = some (.tup xs) ∧ Prs H xs ps ∧ Rising n ps ∧ 1 ≤ n ∧ n ≤ 12 ∧ 1 ≤ most ∧ most ≤ 8 ∧
  ∀ t tt tl xt xl m ts ls H', Dn l H H' → H' t = some (.tup [vn m, .ref tt, .ref tl]) → H' tt = some (.tup xt) → Prs H' xt ts → H' tl = some (.tup xl) → PlotsAt H' xl ls → Land n m ps ts ls → m ≤ most → Q (.ref t) H'
theorem cal__law_told (T : Txt K mg) : C8.Cal P w K mg base 3 "_law_told" spTold [] := by
  refine mkCal T.d__law_told sc__law_told (fun _ _ _ _ _ _ us hl => match us, hl with | [_, _, _, _], _ => rfl) (fun vs H Q E h => ?_) (fun f cdv A outer s H vs Q E hr h => ?_)
  · obtain ⟨l, tp, n, most, xs, ps, rfl, _⟩ := h
    rfl
  · have hu := hu_of hr
    obtain ⟨l, tp, n, most, xs, ps, rfl, hD, ht, hp, hR, hn1, hn, hm1, hm, q⟩ := h
    refine ⟨_, (pss_cons (ps_set (i := 4) sc__law_told.nd rfl (Or.inr rfl) (C8.pe_c (cal__law_begun T) hr (by decide) rfl (pa_cons (pv 0) (pa_cons (pv 1) (pa_cons (pv 2) (pa_cons (pv 3) pa_nil))))))
      (pss_cons (ps_set (i := 5) sc__law_told.nd rfl (Or.inl rfl) (C8.pe_c (cal__law_touching T) hr (by decide) rfl (pa_cons (pv 2) (pa_cons (pv 4) pa_nil))))
      (pss_cons (ps_set (i := 6) sc__law_told.nd rfl (Or.inr rfl) (pe_lst (pa_cons pe_int pa_nil)))
      (pss_cons (ps_set (i := 7) sc__law_told.nd rfl (Or.inl rfl) pe_dnewT)
      (pss_cons (ps_for PassesOwn.never rfl (pi_range1 rfl T.b_range (pa_cons (pv 3) pa_nil)) (pg_name (i := 8) sc__law_told.nd rfl (Or.inl rfl)) (pss_one (ps_for PassesOwn.never rfl (k_list (K := K) rfl (pv 5)) (k_gtup (K := K) (n := 2) rfl rfl (pgs_cons (pg_name (i := 9) sc__law_told.nd rfl (Or.inl rfl)) (pgs_cons (pg_name (i := 10) sc__law_told.nd rfl (Or.inl rfl)) pgs_nil))) (pss_one (ps_if (pt_cmpR op_ne (pe_cmpR (k_in (K := K) rfl) (pv 9) (pv 6) (by rfl)) (pe_cmpR (k_in (K := K) rfl) (pv 10) (pv 6) (by rfl)) (nomark _)) (pss_cons (ps_dput hu (pv 7) (pe_tup (pa_cons (pv 9) (pa_cons (pv 10) pa_nil))) pe_bl rfl)
            (pss_one (ps_expr (k_bm (K := K) rfl PySem.F.plainAttrs_list PySem.F.slot_list_append PySem.F.type_list_append mt_append (pv 6) (pa_cons (pe_ifExp (pt_cmpR (k_in (K := K) rfl) (pv 9) (pv 6) (by rfl)) (pv 10) (pv 9)) pa_nil))))) pss_nil)))))
      (pss_cons (ps_for PassesOwn.never rfl (k_list (K := K) rfl (pv 5)) (k_gtup (K := K) (n := 2) rfl rfl (pgs_cons (pg_name (i := 9) sc__law_told.nd rfl (Or.inl rfl)) (pgs_cons (pg_name (i := 10) sc__law_told.nd rfl (Or.inl rfl)) pgs_nil))) (pss_one (ps_if (PW.pt (pw_and (pt_cmpR (k_in (K := K) rfl) (pv 9) (pv 6) (by rfl)) (pw_and1 (pt_cmpR op_eq (C8.pe_c (cal__law_draw T) hr (by decide) rfl (pa_cons (pv 0) (pa_cons pe_int pa_nil))) pe_int (nomark _))))) (pss_one (ps_dput hu (pv 7) (pe_tup (pa_cons (pv 9) (pa_cons (pv 10) pa_nil))) pe_bl rfl)) pss_nil)))
      (pss_cons (ps_lock (ps_setLc (i := 11) (own := [("_law_one", 9), ("_law_two", 10)]) rfl sc__law_told.nd rfl rfl (sw_true rfl rfl rfl (by decide +kernel)) (pi_keys (pv 7)) (blkOk_by (N := N__law_told) (sc := defScope s__law_told) (by decide +kernel)) (fun _ _ _ _ _ => (k_gtup (K := K) (n := 2) rfl rfl (pgs_cons (pg_name (i := 9) sc__law_told.nd rfl (Or.inl rfl)) (pgs_cons (pg_name (i := 10) sc__law_told.nd rfl (Or.inl rfl)) pgs_nil)))) (fun _ _ _ _ _ => pts_nil) (fun _ _ _ _ _ => (C8.pe_c (cal__law_pair T) hr (by decide) rfl (pa_cons (k_bm (K := K) rfl PySem.F.plainAttrs_list PySem.F.slot_list_index PySem.F.type_list_index (k_index (K := K) rfl) (pv 6) (pa_cons (pv 9) pa_nil)) (pa_cons (k_bm (K := K) rfl PySem.F.plainAttrs_list PySem.F.slot_list_index PySem.F.type_list_index (k_index (K := K) rfl) (pv 6) (pa_cons (pv 10) pa_nil)) pa_nil))))))
      (pss_cons (ps_setLc (i := 12) (own := [("_law_content", 13)]) rfl sc__law_told.nd rfl rfl (sw_true rfl rfl rfl (by decide +kernel)) (k_list (K := K) rfl (pv 6)) (blkOk_by (N := N__law_told) (sc := defScope s__law_told) (by decide +kernel)) (fun _ _ _ _ _ => (pg_name (i := 13) sc__law_told.nd rfl (Or.inr rfl))) (fun _ _ _ _ _ => pts_nil) (fun _ _ _ _ _ => (pe_callTy (k_tup (K := K) rfl) (by rfl) T.b_tuple (by decide +kernel) (pa_cons (pe_lc (own := [("_law_k", 14)]) rfl sc__law_told.nd (pi_range1 rfl T.b_range (pa_cons (pv 1) pa_nil)) (blkOk_by (N := N__law_told) (sc := relS scToldIn (defScope s__law_told)) (by decide +kernel)) (fun _ _ _ _ _ => (pg_name (i := 14) sc__law_told.nd rfl (Or.inl rfl))) (fun _ _ _ _ _ => (pts_one (pt_cmpR op_eq (pe_ix (k_ixL (K := K) rfl) (pv 4) (pv 14) (fun _ _ => rfl)) (pv 13) (nomark _)))) (fun _ _ _ _ _ => (pv 14))) pa_nil))))
      (pss_one (ps_ret (pe_tup (pa_cons (pe_callB (k_len (K := K) rfl) (by rfl) T.b_len (by decide +kernel) (pa_cons (pv 6) pa_nil)) (pa_cons (pe_callTy (k_tup (K := K) rfl) (by rfl) T.b_tuple (by decide +kernel) (pa_cons (pe_callB (k_sortP (K := K) rfl) (by rfl) T.b_sorted (by decide +kernel) (pa_cons (pv 11) pa_nil)) pa_nil)) (pa_cons (pe_callTy (k_tup (K := K) rfl) (by rfl) T.b_tuple (by decide +kernel) (pa_cons (pv 12) pa_nil)) pa_nil)))))))))))))), ?_⟩
    walk_at "sd"
    refine ⟨l, tp, n, most, xs, ps, rfl, hD, ht, hp, hR, hn1, hn, hm1, hm, fun L ow m0 H1 d1 hL h1 hg hm1 hm0 => ?_⟩
    walk_at "sd"
    refine ⟨tp, L, n, m0, xs, ps, ow, rfl, d1.kt hD ht, hp.dn hD d1, hR, h1, hg.len, by omega, hg.lt, fun Tt ys ts H2 hT s2 h2' hp2 nd2 htc => ?_⟩
    walk_at "sd"
    refine ⟨by decide, fun Me hMe => ?_⟩
    intro d hd
    have nMd : Me ≠ d := fun e => by rw [← e, upd_same] at hd; cases hd
    have hd2 : H2 d = none := by rw [upd_ne nMd.symm] at hd; exact hd
    refine for_it ?_
    simp only [iRng1]
    walk_at "sd"
    have hT1 := dice_nl (d1.di hD) hT
    have hD1 := d1.di hD
    have hD2 : DiceAt H2 l := hD1.same s2
    have w0 : MetSt H2 (L2.upd (L2.upd H2 Me (.lst [V.int 0])) d (.dT [])) l Me d m0 ts (fun M => Shut ts M ∨ 0 + 1 ≤ M.length) :=
      ⟨((Dn.refl l H2).mut hMe).mut hd2, [], [0], by rw [upd_ne nMd]; exact upd_same, upd_same, Met.start ts hm1, Or.inr (Nat.le_refl _)⟩
    have nMl := dice_nl hD2 hMe
    refine ⟨by omega, by omega, ?_⟩
    refine for_range (lo := 0) (n := (most : Int).toNat) (fun i σ H3 => ∃ o8 o9 o10, σ = [some (V.ref l), some (vn n), some (V.ref tp), some (vn most), some (V.ref L), some (V.ref Tt), some (V.ref Me), some (V.ref d), o8, o9, o10, none, none, none, none] ∧ MetSt H2 H3 l Me d m0 ts (fun M => Shut ts M ∨ i + 1 ≤ M.length))
      ⟨none, none, none, rfl, w0⟩ (fun i σ H3 hi ⟨o8, o9, o10, e, w3⟩ => ?_) fun σ H3 ⟨o8, o9, o10, e, w3⟩ => ?_
    · subst e
      have e3 : V.int (0 + (i : Int)) = vn i := by rw [Int.zero_add]
      rw [e3]
      obtain ⟨F0, M0, m1, m2, m3, m4⟩ := w3.ex
      walk_at "sd"
      refine for_it ?_
      simp only [iList]
      walk_at "sd"
      have hT3 : ∀ {H4 : Hp}, Dn l H2 H4 → H4 Tt = some (.lst ys) := fun d => d.keep hD2 hT1 h2'
      refine ⟨⟨_, Or.inl (Or.inl (hT3 w3.dn))⟩, ?_⟩
      refine for_list (K := K) (a := Tt) (xs := ys) (fun j σ H4 => ∃ o9 o10, σ = [some (V.ref l), some (vn n), some (V.ref tp), some (vn most), some (V.ref L), some (V.ref Tt), some (V.ref Me), some (V.ref d), some (vn i), o9, o10, none, none, none, none] ∧
        MetSt H2 H4 l Me d m0 ts (fun M => (M = M0 ∧ ∀ p ∈ ts.take j, (p.1 ∈ M ↔ p.2 ∈ M)) ∨ (M0.length < M.length ∧ ¬ Shut ts M0)))
        ⟨_, _, rfl, w3.dn, F0, M0, m1, m2, m3, Or.inl ⟨rfl, by simp⟩⟩ (fun j σ H4 _ ⟨_, _, _, z⟩ => Or.inl (Or.inl (hT3 z.dn))) (fun j x σ H4 hx ⟨o9, o10, e, w4⟩ => ?_) fun σ H4 ⟨o9, o10, e, w4⟩ => ?_
      · subst e
        have hj : j < ts.length := by rw [← hp2.len]; exact (List.getElem?_eq_some_iff.mp hx).1
        have hpj : ts[j]? = some ts[j] := List.getElem?_eq_getElem hj
        obtain ⟨t, a1, a2⟩ := hp2.at_ j ts[j] hpj
        rw [hx] at a1
        cases a1
        have tk : ts.take (j + 1) = ts.take j ++ [ts[j]] := by rw [List.take_add_one, hpj]; rfl
        have hin : ts[j] ∈ ts := List.getElem_mem hj
        generalize ts[j] = p at *
        refine g_pair (w4.dn.kt hD2 a2) ?_
        walk_at "sd"
        obtain ⟨F, M, g1, g2, g3, g4⟩ := w4.ex
        refine ⟨Me, _, rfl, Or.inl (Or.inl (Or.inl g1)), rfl, flat_vn M, ?_⟩
        refine ⟨Me, _, rfl, Or.inl (Or.inl (Or.inl g1)), rfl, flat_vn M, ?_⟩
        simp only [Bool.false_eq_true, if_false, inV_vn]
        refine ⟨scal_bb.mpr trivial, ?_⟩
        have tch := htc p hin
        have hF66 := g3.f66 (by omega) (fun p hp => ⟨(htc p hp).lt, (htc p hp).ltm⟩)
        have hMl := g3.len
        have same : (p.1 ∈ M ↔ p.2 ∈ M) → MetSt H2 H4 l Me d m0 ts (fun M => (M = M0 ∧ ∀ p ∈ ts.take (j + 1), (p.1 ∈ M ↔ p.2 ∈ M)) ∨ (M0.length < M.length ∧ ¬ Shut ts M0)) := fun e => ⟨w4.dn, F, M, g1, g2, g3, by
          rcases g4 with ⟨g4, g5⟩ | g4
          · refine Or.inl ⟨g4, fun q hq => ?_⟩
            rw [tk] at hq
            rcases List.mem_append.mp hq with hq | hq
            · exact g5 q hq
            · rw [List.mem_singleton.mp hq]
              exact e
          · exact Or.inr g4⟩
        have grow : ∀ x y, (p = (x, y) ∨ p = (y, x)) → x ∈ M → y ∉ M → ∀ H5, Same H4 H5 → MetSt H2 (L2.upd (L2.upd H5 d (.dT (yes2 (insP F p)))) Me (.lst (M.map vn ++ [vn y]))) l Me d m0 ts (fun M => (M = M0 ∧ ∀ p ∈ ts.take (j + 1), (p.1 ∈ M ↔ p.2 ∈ M)) ∨ (M0.length < M.length ∧ ¬ Shut ts M0)) := fun x y e hx hy H5 s5 => by
          refine ⟨((w4.dn.same s5).mut hd2).mut hMe, insP F p, M ++ [y], by rw [upd_same, List.map_append]; rfl, by rw [upd_ne nMd.symm]; exact upd_same, g3.grow hin e hx hy ?_, Or.inr ?_⟩
          · have := tch.lt
            have := tch.ltm
            rcases e with e | e
            · have := congrArg Prod.snd e
              simp only at this
              omega
            · have := congrArg Prod.fst e
              simp only at this
              omega
          · rw [List.length_append, List.length_singleton]
            rcases g4 with ⟨g4, g5⟩ | g4
            · subst g4
              refine ⟨by omega, fun sh => ?_⟩
              have := sh p hin
              rcases e with e | e
              · rw [e] at this
                exact hy (this.mp hx)
              · rw [e] at this
                exact hy (this.mpr hx)
            · exact ⟨by omega, g4.2⟩
        have both : ∀ H5, Same H4 H5 → H5 d = some (.dT (yes2 F)) ∧ L2.upd H5 d (.dT (yes2 (insP F p))) Me = some (.lst (M.map vn)) := fun H5 s5 => ⟨s5 _ _ g2, by rw [upd_ne nMd]; exact s5 _ _ g1⟩
        by_cases c1 : p.1 ∈ M
        · by_cases c2 : p.2 ∈ M
          · rw [if_pos (by rw [decide_eq_true c1, decide_eq_true c2])]
            exact same ⟨fun _ => c2, fun _ => c1⟩
          · rw [if_neg (by rw [decide_eq_true c1, decide_eq_false c2]; exact fun e => by cases e)]
            refine ⟨by decide, fun t ht => ?_⟩
            have s5 := L2.Same.new (o := .tup [vn p.1, vn p.2]) ht
            obtain ⟨z1, z2⟩ := both _ s5
            refine ⟨_, tie_put z1 (by omega) upd_same, Or.inl ⟨rfl, _, Or.inl (Or.inl z2)⟩, Me, _, rfl, Or.inl (Or.inl (Or.inl z2)), rfl, flat_vn M, _, rfl, ?_⟩
            simp only [Bool.false_eq_true, if_false, inV_vn]
            rw [decide_eq_true c1]
            exact iteT ⟨Me, _, _, rfl, rfl, z2, szt (by rw [List.length_map]; omega), grow _ _ (Or.inl rfl) c1 c2 _ s5⟩
        · by_cases c2 : p.2 ∈ M
          · rw [if_neg (by rw [decide_eq_false c1, decide_eq_true c2]; exact fun e => by cases e)]
            refine ⟨by decide, fun t ht => ?_⟩
            have s5 := L2.Same.new (o := .tup [vn p.1, vn p.2]) ht
            obtain ⟨z1, z2⟩ := both _ s5
            refine ⟨_, tie_put z1 (by omega) upd_same, Or.inl ⟨rfl, _, Or.inl (Or.inl z2)⟩, Me, _, rfl, Or.inl (Or.inl (Or.inl z2)), rfl, flat_vn M, _, rfl, ?_⟩
            simp only [Bool.false_eq_true, if_false, inV_vn]
            rw [decide_eq_false c1]
            exact iteF ⟨Me, _, _, rfl, rfl, z2, szt (by rw [List.length_map]; omega), grow _ _ (Or.inr rfl) c2 c1 _ s5⟩
          · rw [if_pos (by rw [decide_eq_false c1, decide_eq_false c2])]
            exact same ⟨fun z => absurd z c1, fun z => absurd z c2⟩
      · subst e
        have lt : ys.length = ts.length := hp2.len
        rw [lt, List.take_length] at w4
        obtain ⟨F, M, g1, g2, g3, g4⟩ := w4.ex
        refine ⟨_, _, _, rfl, w4.dn, F, M, g1, g2, g3, ?_⟩
        rcases g4 with ⟨rfl, g4⟩ | ⟨g4, g5⟩
        · exact Or.inl g4
        · rcases m4 with m4 | m4
          · exact absurd m4 g5
          · exact Or.inr (by omega)
    · subst e
      have w3 : MetSt H2 H3 l Me d m0 ts (Shut ts) := by
        obtain ⟨F, M, g1, g2, g3, g4⟩ := w3.ex
        refine ⟨w3.dn, F, M, g1, g2, g3, ?_⟩
        rcases g4 with g4 | g4
        · exact g4
        · have := g3.len
          omega
      dsimp only
      change tSeq _ _ _ _ _
      refine seq_mid (fun σ H5 => ∃ o8 o9 o10, σ = [some (V.ref l), some (vn n), some (V.ref tp), some (vn most), some (V.ref L), some (V.ref Tt), some (V.ref Me), some (V.ref d), o8, o9, o10, none, none, none, none] ∧ MetSt H2 H5 l Me d m0 ts (Shut ts)) (fun N hN => ?_) (fun σ H5 hh => ?_)
      · refine for_it ?_
        simp only [iList]
        walk_at "sd"
        have hT3 : ∀ {H4 : Hp}, Dn l H2 H4 → H4 Tt = some (.lst ys) := fun d => d.keep hD2 hT1 h2'
        refine ⟨⟨_, Or.inl (Or.inl (hT3 w3.dn))⟩, ?_⟩
        refine for_list (K := K) (a := Tt) (xs := ys) (fun j σ H4 => ∃ o9 o10, σ = [some (V.ref l), some (vn n), some (V.ref tp), some (vn most), some (V.ref L), some (V.ref Tt), some (V.ref Me), some (V.ref d), o8, o9, o10, none, none, none, none] ∧ MetSt H2 H4 l Me d m0 ts (Shut ts))
          ⟨_, _, rfl, w3⟩ (fun j σ H4 _ ⟨_, _, _, z⟩ => Or.inl (Or.inl (hT3 z.dn))) (fun j x σ H4 hx ⟨o9, o10, e, w4⟩ => ?_) fun σ H4 ⟨o9, o10, e, w4⟩ => ?_
        · subst e
          have hj : j < ts.length := by rw [← hp2.len]; exact (List.getElem?_eq_some_iff.mp hx).1
          have hpj : ts[j]? = some ts[j] := List.getElem?_eq_getElem hj
          obtain ⟨t, a1, a2⟩ := hp2.at_ j ts[j] hpj
          rw [hx] at a1
          cases a1
          have hin : ts[j] ∈ ts := List.getElem_mem hj
          generalize ts[j] = p at *
          refine g_pair (w4.dn.kt hD2 a2) ?_
          walk_at "sd"
          obtain ⟨F, M, g1, g2, g3, g4⟩ := w4.ex
          refine ⟨Me, _, rfl, Or.inl (Or.inl (Or.inl g1)), rfl, flat_vn M, _, rfl, ?_⟩
          simp only [Bool.false_eq_true, if_false, inV_vn]
          by_cases c1 : p.1 ∈ M
          · rw [decide_eq_true c1]
            refine iteT ⟨l, 2, rfl, w4.dn.di hD2, by decide, by decide, fun k H5 _ _ _ n5 => ?_⟩
            have w5 := w4.draw hD2 nMl n5
            refine ⟨scal_ii.mpr trivial, ?_⟩
            refine ite2 (fun _ => ?_) (fun _ => w5)
            have g1' := n5.keep (w4.dn.di hD2) nMl g1
            have g2' := n5.kp (w4.dn.di hD2) g2 (fun _ z => by cases z)
            refine ⟨by decide, fun t ht => ?_⟩
            have s5 := L2.Same.new (o := .tup [vn p.1, vn p.2]) ht
            have hF66 := g3.f66 (by omega) (fun p hp => ⟨(htc p hp).lt, (htc p hp).ltm⟩)
            exact ⟨_, tie_put (s5 _ _ g2') (by omega) upd_same, (w5.dn.same s5).mut hd2, insP F p, M, by rw [upd_ne nMd]; exact s5 _ _ g1', upd_same, g3.more hin c1 ((g4 p hin).mp c1), g4⟩
          · rw [decide_eq_false c1]
            exact iteF w4
        · subst e
          exact hN _ _ ⟨_, _, _, rfl, w4⟩
      · obtain ⟨o8, o9, o10, rfl, w5⟩ := hh
        obtain ⟨F, M, g1, g2, g3, g4⟩ := w5.ex
        change tSeq _ _ _ _ _
        refine seq_mid (fun σ H6 => ∃ D acc, σ = [some (V.ref l), some (vn n), some (V.ref tp), some (vn most), some (V.ref L), some (V.ref Tt), some (V.ref Me), some (V.ref d), o8, o9, o10, some (V.ref D), none, none, none] ∧ Same H5 H6 ∧ H6 D = some (.lst acc) ∧ Prs H6 acc (F.map (tieOf M))) (fun N hN => ?_) (fun σ H6 hh => ?_)
        · refine ⟨d, _, g2, trivial, fun od => ?_⟩
          generalize hb : L2.upd H5 d (.frz od (.dT (yes2 F))) = Hb
          have hbd : Hb d = some (.frz od (.dT (yes2 F))) := by rw [← hb]; exact upd_same
          have hbo : ∀ b, b ≠ d → Hb b = H5 b := fun b n => by rw [← hb, upd_ne n]
          have hF66 := g3.f66 (by omega) (fun p hp => ⟨(htc p hp).lt, (htc p hp).ltm⟩)
          walk_at "sd"
          refine lc_it ?_
          simp only [iKeys]
          walk_at "sd"
          refine ⟨od, Or.inr ⟨_, hbd, fun D hD => ?_⟩⟩
          refine lc_keysT (fun i H => Same Hb H ∧ ∃ acc, H D = some (.lst acc) ∧ Prs H acc ((F.take i).map (tieOf M)))
            ⟨L2.Same.new hD, [], upd_same, rfl, fun i p hp => by simp at hp⟩ (fun i H z => z.1 _ _ hbd) (fun i k v q H hi z hq => ?_) fun H z => ?_
          · obtain ⟨z1, acc, z2, z3⟩ := z
            have hi2 : ∃ p, F[i]? = some p ∧ k = mkey p.1 p.2 := by
              unfold yes2 at hi
              rw [List.getElem?_map] at hi
              cases e : F[i]? with
              | none => rw [e] at hi; cases hi
              | some p => rw [e] at hi; cases hi; exact ⟨p, rfl, rfl⟩
            obtain ⟨p, hpi, rfl⟩ := hi2
            obtain ⟨f1, f2, f3⟩ := g3.f p (List.mem_of_getElem? hpi)
            have tk : F.take (i + 1) = F.take i ++ [p] := by rw [List.take_add_one, hpi]; rfl
            refine g_pair hq ?_
            walk_at "sd"
            have hMe : H Me = some (.lst (M.map vn)) := z1 _ _ (by rw [hbo _ nMd]; exact g1)
            refine ⟨Or.inl ⟨rfl, _, Or.inl (Or.inl hMe)⟩, q_index (Or.inl (Or.inl hMe)) g3.nd f2 ⟨Or.inl ⟨rfl, _, Or.inl (Or.inl hMe)⟩, q_index (Or.inl (Or.inl hMe)) g3.nd f3 ?_⟩⟩
            refine ⟨M.idxOf p.1, M.idxOf p.2, rfl, fun t H4 ht s4 h4 => ?_⟩
            have z4 := s4 _ _ z2
            have hal : acc.length ≤ 66 := by rw [z3.len, List.length_map, List.length_take]; omega
            refine ⟨acc, z4, szt (by omega), (z1.trans s4).mut hD, _, upd_same, ?_⟩
            rw [tk, List.map_append]
            exact ((z3.same s4).upd z4).snoc (p := tieOf M p) (by rw [upd_ne (ne_of h4 z4 fun z => by cases z)]; exact h4)
          · obtain ⟨z1, acc, z2, z3⟩ := z
            have el : (yes2 F).length = F.length := by unfold yes2; rw [List.length_map]
            rw [el, List.take_length] at z3
            have hfz := z1 _ _ hbd
            refine ⟨hfz, hN _ _ ⟨D, acc, rfl, fun b o h => ?_, ?_, ⟨z3.len, fun i p hp => ?_⟩⟩⟩
            · by_cases e : b = d
              · subst e
                rw [upd_same, ← g2]
                exact h
              · rw [upd_ne e]
                exact z1 _ _ (by rw [hbo b e]; exact h)
            · rw [upd_ne (ne_of z2 hfz fun z => by cases z)]
              exact z2
            · obtain ⟨a, a1, a2⟩ := z3.at_ i p hp
              exact ⟨a, a1, by rw [upd_ne (ne_of a2 hfz fun z => by cases z)]; exact a2⟩
        · obtain ⟨D, acc, rfl, s6, h6, hp6⟩ := hh
          walk_at "sd"
          refine lc_it ?_
          simp only [iList]
          walk_at "sd"
          have dn6 : Dn l H2 H6 := w5.dn.same s6
          have hMe6 := s6 _ _ g1
          have hL6 : H6 L = some (.lst (ow.map vo)) := dn6.keep hD2 (dice_nl hD hL) (s2 _ _ h1)
          refine ⟨⟨_, Or.inl (Or.inl hMe6)⟩, fun E hE => ?_⟩
          refine lc_list (K := K) (xs := M.map vn) (fun i H7 => Same H6 H7 ∧ ∃ xl, H7 E = some (.lst xl) ∧ PlotsAt H7 xl ((M.take i).map (plotOf n ow)))
            ⟨L2.Same.new hE, [], upd_same, rfl, fun i p hp => by simp at hp⟩ (fun i H _ z => Or.inl (Or.inl (z.1 _ _ hMe6))) (fun i x H7 hx z => ?_) fun H7 z => ?_
          · obtain ⟨z1, xl, z2, z3⟩ := z
            rw [List.getElem?_map] at hx
            cases hk : M[i]? with
            | none => rw [hk] at hx; cases hx
            | some c =>
              rw [hk] at hx
              cases hx
              have tk : M.take (i + 1) = M.take i ++ [c] := by rw [List.take_add_one, hk]; rfl
              have hil := (List.getElem?_eq_some_iff.mp hk).1
              walk_at "sd"
              refine lc_it ?_
              simp only [iRng1]
              walk_at "sd"
              refine ⟨by omega, by omega, fun G hG => ?_⟩
              refine lc_range (lo := 0) (n := (n : Int).toNat) (fun k H8 => Same H7 H8 ∧ H8 G = some (.lst (((List.range k).filter fun s => decide (own ow s = some c)).map vn)))
                ⟨L2.Same.new hG, upd_same⟩ (fun k H8 hk y => ?_) fun H8 y => ?_
              · obtain ⟨y1, y2⟩ := y
                have e3 : V.int (0 + (k : Int)) = vn k := by rw [Int.zero_add]
                rw [e3]
                walk_at "sd"
                have kl : k < ow.length := by rw [hg.len]; omega
                refine q_ixO (s := k) (y1 _ _ (z1 _ _ hL6)) kl ?_
                refine ⟨(scal_oo (b := some c)).mpr trivial, ?_⟩
                have er : (List.range (k + 1)).filter (fun s => decide (own ow s = some c)) = (List.range k).filter (fun s => decide (own ow s = some c)) ++ (if own ow k = some c then [k] else []) := by
                  rw [List.range_succ, List.filter_append]
                  congr 1
                  by_cases e : own ow k = some c <;> simp [e]
                rw [er]
                refine ite2 (fun e => ?_) (fun e => ?_)
                · have e2 : own ow k = some c := vo_inj (b := some c).mp e
                  rw [if_pos e2]
                  refine ⟨_, y2, szt (by
                    rw [List.length_map]
                    have := List.length_filter_le (fun s => decide (own ow s = some c)) (List.range k)
                    rw [List.length_range] at this
                    omega), y1.mut hG, ?_⟩
                  rw [upd_same, List.map_append]
                  rfl
                · rw [if_neg fun z => e (vo_inj (b := some c).mpr z), List.append_nil]
                  exact ⟨y1, y2⟩
              · obtain ⟨y1, y2⟩ := y
                have en : (n : Int).toNat = n := by omega
                rw [en] at y2
                refine ⟨_, Or.inl ⟨Or.inl (Or.inl y2), fun tl htl => ?_⟩⟩
                have st := L2.Same.new (o := .tup (List.map vn ((List.range n).filter fun s => decide (own ow s = some c)))) htl
                have sE := st _ _ (y1 _ _ z2)
                have hM8 := g3.len
                have hxl : xl.length ≤ 8 := by rw [z3.len, List.length_map, List.length_take]; omega
                refine ⟨xl, sE, szt (by omega), ((z1.trans y1).trans st).mut hE, _, upd_same, ?_⟩
                rw [tk, List.map_append]
                exact (((z3.same y1).same st).upd sE).snoc (by rw [upd_ne (ne_of upd_same sE fun z => by cases z)]; exact upd_same)
          · obtain ⟨z1, xl, z2, z3⟩ := z
            rw [List.length_map, List.take_length] at z3
            refine ⟨_, Or.inl (Or.inl (Or.inl (z1 _ _ hMe6))), ?_⟩
            refine sort_prs (Or.inl (Or.inl (z1 _ _ h6))) (hp6.same z1) (g3.ties_nd fun p hp => (htc p hp).lt) fun yt qs pt k1 k2 k3 hpt => ?_
            have u1 := L2.Same.new (o := .lst yt) hpt
            refine ⟨pt, rfl, yt, Or.inl ⟨Or.inl (Or.inl upd_same), fun l2 hl2 => ?_⟩⟩
            have u2 := L2.Same.new (o := .tup yt) hl2
            refine ⟨xl, Or.inl ⟨Or.inl (Or.inl (u2 _ _ (u1 _ _ z2))), fun l3 hl3 => ⟨by decide, fun t ht => ?_⟩⟩⟩
            have u3 := L2.Same.new (o := .tup xl) hl3
            rw [List.length_map]
            have u4 := L2.Same.new (o := .tup [V.int (M.length : Nat), .ref l2, .ref l3]) ht
            have dn := (((((d1.same s2).trans dn6).same z1).same u1).same u2).same (u3.trans u4)
            refine q t l2 l3 yt xl M.length qs _ _ dn upd_same (u4 _ _ (u3 _ _ upd_same)) ((((k1.same u1).same u2).same u3).same u4) (u4 _ _ upd_same) ((((z3.same u1).same u2).same u3).same u4) (g3.land hg htc k2 k3) ?_
            have := g3.len
            omega
end
end SL
/-! _law_led_over. -/
namespace SL
open PySem PySem.Spec PyProof.Rows L2
/-- nothing changes but the dice and one dict -/
def Dm (l dm : Addr) (H H' : Hp) : Prop := ∀ B lc, DSt B H l lc → B dm = none → DSt B H' l lc
theorem Dn.dm {l dm : Addr} {H H1 H2 : Hp} (a : Dn l H H1) (b : Dm l dm H1 H2) (h : H dm = none) : Dn l H H2 := fun B lc d => b B lc (a B lc d) (d.sm.fr h)
theorem Dm.of {l dm : Addr} {H H1 H2 : Hp} (a : Dn l H H1) (b : But (fun x => x = dm) H1 H2) (n : l ≠ dm) : Dm l dm H H2 := fun B lc d hB => by
  obtain ⟨s, nl, cl, i, b', st, cnt, h1, h2⟩ := a B lc d
  exact ⟨b.same s fun z e => by rw [e]; exact hB, nl, cl, i, b', st, cnt, b _ _ n h1, h2⟩
/-- the moves on the way over, under way -/
structure LedSt (H0 H : Hp) (dm : Addr) (n m x : Nat) (ps : List (Nat × Nat)) (lv : List Nat) (M : Mvs) (F : Nx) (hv here : Nat) : Prop where
  bt : But (fun b => b = dm) H0 H
  ex : ∃ M', H dm = some (.dT (M'.map encM)) ∧ MvOk n m ps M' ∧ (∀ s o, (o ≠ (x : Int) ∨ s ∉ lv) → mvL M' (s, o) = mvL M (s, o)) ∧ Rch (fun s t => mvL M' (s, (x : Int)) = some (some t) ∧ nxL F s = some (some t)) (fun z => z ∈ lv) hv here
theorem LedSt.same {H0 H H' : Hp} {dm : Addr} {n m x : Nat} {ps : List (Nat × Nat)} {lv : List Nat} {M : Mvs} {F : Nx} {hv here : Nat} (h : LedSt H0 H dm n m x ps lv M F hv here) (e : Same H H') : LedSt H0 H' dm n m x ps lv M F hv here := by
  obtain ⟨M', h1, h2⟩ := h.ex
  exact ⟨h.bt.trans (But.of_same e), M', e _ _ h1, h2⟩
theorem LedSt.put {H0 H : Hp} {dm u : Addr} {n m x : Nat} {ps : List (Nat × Nat)} {lv : List Nat} {M : Mvs} {F : Nx} {hv here t : Nat} {N : Hp → Prop} (h : LedSt H0 H dm n m x ps lv M F hv here) (hn : n ≤ 12) (hm : m ≤ 8) (hx : x < m) (hu : H u = some (.tup [vn here, .int (x : Int)]))
    (hh : here ∈ lv) (hl : here < n) (ht : t ∈ lv) (htl : t < n) (nb : nbr ps here t) (e : nxL F here = some (some t)) (q : ∀ H', LedSt H0 H' dm n m x ps lv M F hv t → N H') : ∃ H4, DPut H dm (.ref u) (vn t) H4 ∧ N H4 := by
  obtain ⟨M', h1, h2, h3, h4⟩ := h.ex
  refine ⟨_, DPut.t (k := mkey here (x : Int)) h1 hu (szt (by rw [List.length_map]; have := h2.len hn hm; omega)), ?_⟩
  rw [show vn t = vo (some t) from rfl, putK_M]
  refine q _ ⟨h.bt.trans (But.put rfl), _, upd_same, h2.put hl (by omega) (by omega) (fun y hy => ?_), fun s o hs => ?_, ?_⟩
  · cases hy
    exact ⟨nb, htl⟩
  · rw [mvL_P_other _ _ (fun z => ?_), h3 s o hs]
    cases z
    rcases hs with hs | hs
    · exact hs rfl
    · exact hs hh
  · refine .step (h4.mono2 (fun a b hab => ?_) fun _ z => z) ⟨mvL_P_same _ _ _, e⟩ ht
    refine ⟨?_, hab.2⟩
    by_cases z : a = here
    · subst z
      rw [mvL_P_same, ← e, hab.2]
    · rw [mvL_P_other _ _ (fun k => z (Prod.mk.inj k).1)]
      exact hab.1
section
variable {P : Program} {w : World} {K : Frg} {mg : Str → Option Value} {base : Heap}
def spLed : Sp := fun vs H Q _ => ∃ (l R L tl hm dm : Addr) (n m v x : Nat) (ps : List (Nat × Nat)) (ow : List (Option Nat)) (xl : List V) (ls : List (List Nat)) (hs : List Nat) (M : Mvs) (lv lw : List Nat) (hv : Nat),
  vs = [.ref l, .ref R, .ref L, .ref tl, .ref hm, .ref dm, vn v, vn x] ∧ DiceAt H l ∧ AdjL H R n ps ∧ H L = some (.lst (ow.map vo)) ∧ ow.length = n ∧ H tl = some (.tup xl) ∧ PlotsAt H xl ls ∧ H hm = some (.lst (hs.map vn)) ∧ H dm = some (.dT (M.map encM)) ∧
  MvOk n m ps M ∧ n ≤ 12 ∧ m ≤ 8 ∧ x < m ∧ (∀ p ∈ ps, p.1 < n ∧ p.2 < n) ∧ ls[v]? = some lv ∧ ls[x]? = some lw ∧ hs[v]? = some hv ∧ hv ∈ lv ∧ lv.Nodup ∧ (∀ s ∈ lv, s < n) ∧ (∀ s, own ow s = some x ↔ s ∈ lw) ∧
  (∀ a ∈ lv, ∀ b ∈ lv, Rch (nbr ps) (fun z => z ∈ lv) a b) ∧ (∃ a b, a ∈ lv ∧ b ∈ lw ∧ nbr ps a b) ∧ L ≠ l ∧ hm ≠ l ∧
  ∀ M' H', Dm l dm H H' → H' dm = some (.dT (M'.map encM)) → MvOk n m ps M' → (∀ s o, (o ≠ (x : Int) ∨ s ∉ lv) → mvL M' (s, o) = mvL M (s, o)) → Over M' x lv lw hv → Q .non H'
theorem cal__law_led_over (T : Txt K mg) : C8.Cal P w K mg base 3 "_law_led_over" spLed [] := by
  refine mkCal T.d__law_led_over sc__law_led_over (fun _ _ _ _ _ _ us hl => match us, hl with | [_, _, _, _, _, _, _, _], _ => rfl) (fun vs H Q E h => ?_) (fun f cdv A outer s H vs Q E hr h => ?_)
  · obtain ⟨l, R, L, tl, hm, dm, n, m, v, x, ps, ow, xl, ls, hs, M, lv, lw, hv, rfl, _⟩ := h
    rfl
  · have hu := hu_of hr
    obtain ⟨l, R, L, tl, hm, dm, n, m, v, x, ps, ow, xl, ls, hs, M, lv, lw, hv, rfl, hD, hA, hL, hol, htl, hpl, hhm, hdm, mok, hn, hm8, hx, hps, elv, elw, ehv, hin, nd, hlt, how, hcon, htch, nLl, nhl, q⟩ := h
    refine ⟨_, (pss_cons (ps_set (i := 8) sc__law_led_over.nd rfl (Or.inl rfl) (pe_lst pa_nil))
      (pss_cons (ps_for PassesOwn.never rfl (k_tuple (K := K) rfl (pe_ix (k_ixT (K := K) rfl) (pv 3) (pv 6) (fun _ _ => rfl))) (pg_name (i := 9) sc__law_led_over.nd rfl (Or.inr rfl)) (pss_one (ps_expr (k_bm (K := K) rfl PySem.F.plainAttrs_list PySem.F.slot_list_extend PySem.F.type_list_extend mt_extend (pv 8) (pa_cons (pe_lc (own := [("_law_there", 14)]) rfl sc__law_led_over.nd (k_list (K := K) rfl (pe_ix (k_ixL (K := K) rfl) (pv 1) (pv 9) (fun _ _ => rfl))) (blkOk_by (N := N__law_led_over) (sc := defScope s__law_led_over) (by decide +kernel)) (fun _ _ _ _ _ => (pg_name (i := 14) sc__law_led_over.nd rfl (Or.inl rfl))) (fun _ _ _ _ _ => (pts_one (pt_cmpR op_eq (pe_ix (k_ixL (K := K) rfl) (pv 2) (pv 14) (fun _ _ => rfl)) (pv 7) (nomark _)))) (fun _ _ _ _ _ => (pe_tup (pa_cons (pv 9) (pa_cons (pv 14) pa_nil))))) pa_nil)))))
      (pss_cons (ps_asg (pe_ix (k_ixL (K := K) rfl) (pv 8) (C8.pe_c (cal__law_draw T) hr (by decide) rfl (pa_cons (pv 0) (pa_cons (pe_callB (k_len (K := K) rfl) (by rfl) T.b_len (by decide +kernel) (pa_cons (pv 8) pa_nil)) pa_nil))) (fun _ _ => rfl)) (k_gtup (K := K) (n := 2) rfl rfl (pgs_cons (pg_name (i := 10) sc__law_led_over.nd rfl (Or.inl rfl)) (pgs_cons (pg_name (i := 11) sc__law_led_over.nd rfl (Or.inl rfl)) pgs_nil))))
      (pss_cons (ps_set (i := 12) sc__law_led_over.nd rfl (Or.inl rfl) (C8.pe_c (cal__law_tree T) hr (by decide) rfl (pa_cons (pv 0) (pa_cons (pv 1) (pa_cons (pe_ix (k_ixT (K := K) rfl) (pv 3) (pv 6) (fun _ _ => rfl)) (pa_cons (pv 10) pa_nil))))))
      (pss_cons (ps_set (i := 9) sc__law_led_over.nd rfl (Or.inr rfl) (pe_ix (k_ixL (K := K) rfl) (pv 4) (pv 6) (fun _ _ => rfl)))
      (pss_cons (ps_for PassesOwn.never rfl (pi_range1 rfl T.b_range (pa_cons (pe_callB (k_len (K := K) rfl) (by rfl) T.b_len (by decide +kernel) (pa_cons (pe_ix (k_ixT (K := K) rfl) (pv 3) (pv 6) (fun _ _ => rfl)) pa_nil)) pa_nil)) (pg_name (i := 13) sc__law_led_over.nd rfl (Or.inl rfl)) (pss_one (ps_if (pt_cmpR op_ne (pv 9) (pv 10) (nomark _)) (pss_cons (ps_dput hu (pv 5) (pe_tup (pa_cons (pv 9) (pa_cons (pv 7) pa_nil))) (pe_dget hu (pv 12) (pv 9) (fun _ _ => rfl)) rfl)
          (pss_one (ps_set (i := 9) sc__law_led_over.nd rfl (Or.inr rfl) (pe_dget hu (pv 12) (pv 9) (fun _ _ => rfl))))) pss_nil)))
      (pss_one (ps_dput hu (pv 5) (pe_tup (pa_cons (pv 10) (pa_cons (pv 7) pa_nil))) (pv 11) rfl)))))))), ?_⟩
    walk_at "sd"
    refine ⟨by decide, fun V0 hV0 => ?_⟩
    refine for_it ?_
    simp only [iTup]
    walk_at "sd"
    obtain ⟨ta, t1, t2⟩ := hpl.at_ v lv elv
    refine q_ixT (L2.Same.new hV0 _ _ htl) t1 ?_
    refine ⟨ta, rfl, ⟨_, Or.inl (Or.inl (L2.Same.new hV0 _ _ t2))⟩, ?_⟩
    have nV : V0 ≠ l := dice_nl hD hV0
    have hll : lv.length ≤ 12 := Nat.le_trans (nodup_lt nd hlt) hn
    refine for_tup (K := K) (a := ta) (xs := lv.map vn) (fun i σ H2 => ∃ o9 o10 o11 o12 o13, σ = [some (V.ref l), some (V.ref R), some (V.ref L), some (V.ref tl), some (V.ref hm), some (V.ref dm), some (vn v), some (vn x), some (V.ref V0), o9, o10, o11, o12, o13, none] ∧
      PairsAt H H2 V0 (100 * i) (fun p => p.1 ∈ lv.take i ∧ nbr ps p.1 p.2 ∧ p.2 ∈ lw))
      ⟨none, none, none, none, none, rfl, PairsAt.start (L2.Same.refl _) hV0 hV0 fun p => by simp⟩ (fun i σ H2 _ ⟨_, _, _, _, _, _, z⟩ => Or.inl (Or.inl (z.sm _ _ t2))) (fun i y σ H2 hy ⟨o9, o10, o11, o12, o13, e, w2⟩ => ?_) fun σ H2 ⟨o9, o10, o11, o12, o13, e, w2⟩ => ?_
    · subst e
      rw [List.getElem?_map] at hy
      cases hk : lv[i]? with
      | none => rw [hk] at hy; cases hy
      | some s =>
        rw [hk] at hy
        cases hy
        have hsin := List.mem_of_getElem? hk
        have hil := (List.getElem?_eq_some_iff.mp hk).1
        have tk : lv.take (i + 1) = lv.take i ++ [s] := by rw [List.take_add_one, hk]; rfl
        obtain ⟨rs, r1, r2, r3⟩ := (hA.same w2.sm).ex
        obtain ⟨ra, row, c1, c2, c3, c4⟩ := r3 s (hlt s hsin)
        obtain ⟨acc0, cs0, z1, _⟩ := w2.ex
        walk_at "sd"
        refine ⟨Or.inl ⟨rfl, _, Or.inl (Or.inl z1)⟩, ?_⟩
        refine lc_it ?_
        simp only [iList]
        walk_at "sd"
        refine q_ixL r1 c1 ?_
        refine ⟨ra, rfl, ⟨_, Or.inl (Or.inl c2)⟩, fun D hD3 => ?_⟩
        refine lc_list (K := K) (xs := row.map vn) (fun j H4 => PairsAt H2 H4 D j (fun p => p.1 = s ∧ p.2 ∈ row.take j ∧ p.2 ∈ lw))
          (PairsAt.start (L2.Same.refl _) hD3 hD3 fun p => by simp) (fun i H4 _ z => Or.inl (Or.inl (z.sm _ _ c2))) (fun j y H4 hy z => ?_) fun H4 z => ?_
        · rw [List.getElem?_map] at hy
          cases hk2 : row[j]? with
          | none => rw [hk2] at hy; cases hy
          | some t =>
            rw [hk2] at hy
            cases hy
            have tk2 : row.take (j + 1) = row.take j ++ [t] := by rw [List.take_add_one, hk2]; rfl
            have htn : t < ow.length := by
              rw [hol]
              rcases (c4 t).mp (List.mem_of_getElem? hk2) with z | z
              · exact (hps _ z).2
              · exact (hps _ z).1
            have hL4 := z.sm _ _ (w2.sm _ _ hL)
            walk_at "sd"
            refine q_ixO (s := t) hL4 htn ?_
            refine ⟨(scal_oo (b := some x)).mpr trivial, ?_⟩
            refine ite2 (fun e => ?_) (fun e => ?_)
            · have hw := (how t).mp (vo_inj (b := some x).mp e)
              refine ⟨by decide, fun p hp => ?_⟩
              obtain ⟨acc, y1, y2, y3⟩ := (z.same (L2.Same.new (o := .tup [vn s, vn t]) hp)).add hD3 upd_same (by have := (List.getElem?_eq_some_iff.mp hk2).1; omega)
              refine ⟨acc, y1, y2, y3.mono (Nat.le_refl _) fun p => ?_⟩
              rw [tk2, List.mem_append, List.mem_singleton]
              constructor
              · rintro (⟨u1, u2, u3⟩ | u1)
                · exact ⟨u1, Or.inl u2, u3⟩
                · subst u1
                  exact ⟨rfl, Or.inr rfl, hw⟩
              · rintro ⟨u1, u2 | u2, u3⟩
                · exact Or.inl ⟨u1, u2, u3⟩
                · exact Or.inr (Prod.ext u1 u2)
            · refine z.mono (Nat.le_succ _) fun p => ?_
              rw [tk2, List.mem_append, List.mem_singleton]
              constructor
              · rintro ⟨u1, u2, u3⟩
                exact ⟨u1, Or.inl u2, u3⟩
              · rintro ⟨u1, u2 | u2, u3⟩
                · exact ⟨u1, u2, u3⟩
                · exact absurd (vo_inj (b := some x).mpr ((how t).mpr (u2 ▸ u3))) e
        · rw [List.length_map, List.take_length] at z
          obtain ⟨acc, cs, y1, y2, y3, y4⟩ := z.ex
          obtain ⟨acc1, a1, a2, a3⟩ := (w2.same z.sm).ext hV0 y2 (by omega)
          refine ⟨V0, D, acc1, acc, rfl, rfl, a1, y1, a2, ?_⟩
          refine a3.mono (by omega) fun p => ?_
          rw [y4, tk, List.mem_append, List.mem_singleton, c4]
          constructor
          · rintro (⟨u1, u2⟩ | ⟨u1, u2, u3⟩)
            · exact ⟨Or.inl u1, u2⟩
            · exact ⟨Or.inr u1, by rw [u1]; exact u2, u3⟩
          · rintro ⟨u1 | u1, u2, u3⟩
            · exact Or.inl ⟨u1, u2, u3⟩
            · exact Or.inr ⟨u1, by rw [u1] at u2; exact u2, u3⟩
    · subst e
      rw [List.length_map, List.take_length] at w2
      obtain ⟨acc, cs, z1, z2, z3, z4⟩ := w2.ex
      have hD2 : DiceAt H2 l := hD.same w2.sm
      have hne : cs ≠ [] := fun e => by
        obtain ⟨a, b, ha, hb, hab⟩ := htch
        have := (z4 (a, b)).mpr ⟨ha, hab, hb⟩
        rw [e] at this
        cases this
      have hpos : 1 ≤ acc.length := by
        rw [z2.len]
        exact List.length_pos_iff.mpr hne
      walk_at "sd"
      refine ⟨_, Or.inl (Or.inl (Or.inl z1)), ?_⟩
      refine ⟨l, acc.length, rfl, hD2, hpos, by omega, fun k H3 hk _ _ n3 => ?_⟩
      have hck : k < cs.length := by rw [← z2.len]; exact hk
      obtain ⟨t, u1, u2⟩ := z2.at_ k cs[k] (List.getElem?_eq_getElem hck)
      obtain ⟨p1, p2, p3⟩ := (z4 _).mp (List.getElem_mem hck)
      generalize cs[k] = p at *
      dsimp only
      refine q_ixL (n3.keep hD2 nV z1) u1 ?_
      refine g_pair (n3.kt hD2 u2) ?_
      walk_at "sd"
      have d3 : Dn l H H3 := (Dn.of_same w2.sm).trans n3
      have hD3 := d3.di hD
      refine q_ixT (d3.kt hD htl) t1 ?_
      refine ⟨l, R, ta, n, p.1, ps, lv, rfl, hD3, hA.dn hD d3, d3.kt hD t2, nd, hlt, hn, p1, fun s hs => hcon _ p1 _ hs, fun d F H4 d4 hd hF tr hall => ?_⟩
      walk_at "sd"
      have d04 := d3.trans d4
      have hD4 := d4.di hD3
      have hdm4 := d04.kp hD hdm (fun _ z => by cases z)
      refine q_ixL (d04.keep hD nhl hhm) (show (hs.map vn)[v]? = some (vn hv) by rw [List.getElem?_map, ehv]; rfl) ?_
      have w0 : LedSt H4 H4 dm n m x ps lv M F hv hv := ⟨But.refl _ _, M, hdm4, mok, fun _ _ _ => rfl, .refl hin⟩
      refine for_it ?_
      simp only [iRng1]
      walk_at "sd"
      refine q_ixT (d04.kt hD htl) t1 ?_
      refine ⟨_, rfl, _, Or.inr (Or.inl (Or.inl (d04.kt hD t2))), ?_⟩
      rw [List.length_map]
      refine ⟨by omega, by omega, ?_⟩
      have hFl := tr.len
      have nld : dm ≠ l := hD.ne hdm (fun _ z => by cases z)
      have nddm : d ≠ dm := ne_of hF hdm4 (fun z => by cases z)
      refine for_range (lo := 0) (n := ((lv.length : Nat) : Int).toNat) (fun i σ H5 => ∃ here o13, σ = [some (V.ref l), some (V.ref R), some (V.ref L), some (V.ref tl), some (V.ref hm), some (V.ref dm), some (vn v), some (vn x), some (V.ref V0), some (vn here), some (vn p.1), some (vn p.2), some (V.ref d), o13, none] ∧
        LedSt H4 H5 dm n m x ps lv M F hv here ∧ here ∈ lv ∧ Ld F p.1 (lv.length - i) here)
        ⟨hv, _, rfl, w0, hin, (tr.ld hv (hall hv hin)).mono hFl fun _ _ z => z⟩ (fun i σ H5 hi ⟨here, o13, e, w5, hh, hld⟩ => ?_) fun σ H5 ⟨here, o13, e, w5, hh, hld⟩ => ?_
      · subst e
        have hd5 := w5.bt _ _ nddm hF
        walk_at "sd"
        refine ite2 (fun e => ?_) (fun hne => ?_)
        · have e2 : here = p.1 := by omega
          subst e2
          exact ⟨_, rfl, w5, hh, .root _⟩
        · have hil : i < lv.length := by omega
          obtain ⟨kk, hkk⟩ : ∃ kk, lv.length - i = kk + 1 := ⟨lv.length - (i + 1), by omega⟩
          have hk2 : lv.length - (i + 1) = kk := by omega
          rw [hkk] at hld
          rw [hk2]
          cases hld with
          | root => exact absurd rfl hne
          | @step _ _ t h1 h2 =>
            obtain ⟨nb, tin⟩ := tr.nb _ _ h1
            have tlv := tr.sub _ tin
            refine ⟨_, q_get (k := Sum.inl (here : Int)) (v := vn t) hd5 (by rw [nx_val, h1]; rfl), by decide, fun u hu0 => ?_⟩
            refine (w5.same (L2.Same.new hu0)).put hn hm8 hx upd_same hh (hlt _ hh) tlv (hlt _ tlv) nb h1 fun H6 w6 => ?_
            exact ⟨_, q_get (k := Sum.inl (here : Int)) (v := vn t) (w6.bt _ _ nddm hF) (by rw [nx_val, h1]; rfl), t, rfl, w6, tlv, h2⟩
      · subst e
        have e0 : here = p.1 := by
          have : lv.length - ((lv.length : Nat) : Int).toNat = 0 := by omega
          rw [this] at hld
          cases hld
          rfl
        subst e0
        walk_at "sd"
        refine ⟨by decide, fun u hu0 => ?_⟩
        have w6 := w5.same (L2.Same.new (o := .tup [vn p.1, vn x]) hu0)
        obtain ⟨M', m1, m2, m3, m4⟩ := w6.ex
        refine ⟨_, DPut.t (k := mkey p.1 (x : Int)) m1 upd_same (szt (by rw [List.length_map]; have := m2.len hn hm8; omega)), ?_⟩
        rw [show vn p.2 = vo (some p.2) from rfl, putK_M]
        refine q (mvP M' (p.1, (x : Int)) (some p.2)) _ (Dm.of d04 (w6.bt.trans (But.put rfl)) nld.symm) upd_same (m2.put (hlt _ hh) (by omega) (by omega) fun y hy => ?_) (fun s o hs => ?_) ⟨p.1, p.2, m4.mono2 (fun a b hab => ?_) (fun _ z => z), mvL_P_same _ _ _, p3⟩
        · cases hy
          refine ⟨p2, ?_⟩
          rcases p2 with z | z
          · exact (hps _ z).2
          · exact (hps _ z).1
        · rw [mvL_P_other _ _ (fun z => ?_), m3 s o hs]
          cases z
          rcases hs with hs | hs
          · exact hs rfl
          · exact hs hh
        · unfold mvA
          rw [mvL_P_other _ _ (fun z => ?_)]
          · exact hab.1
          · have e := (Prod.mk.inj z).1
            have := hab.2
            rw [e, tr.rt] at this
            cases this
end
end SL
/-! _law_right. -/
namespace SL
open PySem PySem.Spec PyProof.Rows L2
theorem bool_of {P : Prop} {a b : Bool} (h : a = true ↔ P) (k : b = true ↔ P) : a = b := by
  cases a <;> cases b <;> first | rfl | exact absurd (h.mpr (k.mp rfl)) (by decide) | exact absurd (k.mpr (h.mp rfl)) (by decide)
theorem FactsAt.fresh {H : Hp} {df : Addr} {W : Wd} (h : H df = some (.dK [])) : FactsAt H df W none none := ⟨h, fun k e => by cases e⟩
theorem BrOk.none {W : Wd} : BrOk W none := fun _ e => by cases e
theorem BrOk.some {W : Wd} {r : V} (h : r = .non ↔ Due W) : BrOk W (some r) := fun r2 e => by
  cases e
  exact h
section
variable {P : Program} {w : World} {K : Frg} {mg : Str → Option Value} {base : Heap}
def spRight : Sp := fun vs H Q _ => ∃ (a : Addr) (W : Wd), vs = [.ref a] ∧ WorldAt H a W ∧ W.Ok ∧ ∀ H', Same H H' → Q (.bl true) H'
theorem cal__law_right (T : Txt K mg) : CalG P w K mg base 9 "_law_right" spRight := by
  refine mkCalG T.d__law_right sc__law_right (fun _ _ _ _ _ _ us hl => match us, hl with | [_], _ => rfl) (fun vs H Q E h => ?_) (fun f cdv A outer s H vs Q E hG hr h => ?_)
  · obtain ⟨a, W, rfl, _⟩ := h
    rfl
  · have hu := hu_of hr
    obtain ⟨a, W, rfl, hA, ok, q⟩ := h
    refine ⟨_, (pss_cons (ps_set (i := 1) sc__law_right.nd rfl (Or.inl rfl) (C8.pe_c (cal__law_keeps T) hr (by decide) rfl (pa_cons (pv 0) pa_nil)))
      (pss_cons (ps_set (i := 2) sc__law_right.nd rfl (Or.inl rfl) (C8.pe_c (cal__law_made T) hr (by decide) rfl (pa_cons (pv 0) pa_nil)))
      (pss_cons (ps_set (i := 3) sc__law_right.nd rfl (Or.inl rfl) (C8.pe_c (cal_find_break T) hr (by decide) rfl (pa_cons (pv 2) pa_nil)))
      (pss_cons (ps_set (i := 4) sc__law_right.nd rfl (Or.inl rfl) (pe_lst (pa_cons (C8.pe_c (cal_keeps T) hr (by decide) rfl (pa_cons (pv 2) pa_nil)) (pa_cons (C8.pe_c (cal_keeps T) hr (by decide) rfl (pa_cons (C8.pe_c (cal__law_made T) hr (by decide) rfl (pa_cons (pv 0) pa_nil)) pa_nil)) (pa_cons (C8.pe_c (cal_keeps T) hr (by decide) rfl (pa_cons (pv 2) pa_nil)) pa_nil)))))
      (pss_one (ps_ret (pe_and (pe_cmpR op_eq (pe_callB (call_reprB hG hr.units) (by rfl) T.b_repr (by decide +kernel) (pa_cons (pv 4) pa_nil)) (pe_callB (call_reprB hG hr.units) (by rfl) T.b_repr (by decide +kernel) (pa_cons (pe_lst (pa_cons (pv 1) (pa_cons (pv 1) (pa_cons (pv 1) pa_nil)))) pa_nil)) (nomark _)) (pe_one (pe_cmpR op_eq (pe_cmpR op_isN (pv 3) pe_non (nomark _)) (pv 1) (nomark _)))))))))), ?_⟩
    walk_at "sd"
    refine ⟨a, W, rfl, hA, ok, fun b H1 s1 hb => ?_⟩
    walk_at "sd"
    refine ⟨a, W, rfl, hA.same s1, ok, fun h df H2 hand hdf hdf0 s2 => ?_⟩
    walk_at "sd"
    refine ⟨h, df, W, none, none, rfl, hand, FactsAt.fresh hdf, BrOk.none, ok, fun r H3 hw3 g1 g2 g3 g4 => ?_⟩
    walk_at "sd"
    refine ⟨h, df, W, hw3, some r, rfl, g1, g2, BrOk.some g4, ok, fun b4 r4 H4 hw4 k1 k2 k3 k4 k5 => ?_⟩
    have st4 : FStep df H2 none H4 hw4 := g3.trans k3 g2.ne
    have s14 : Same H1 H4 := st4.base s2 hdf0 (fun k e => by cases e)
    have s04 := s1.trans s14
    dsimp only
    refine ⟨a, W, rfl, hA.same s04, ok, fun h5 df5 H5 hand5 hdf5 hdf50 s5 => ?_⟩
    dsimp only
    refine ⟨h5, df5, W, none, none, rfl, hand5, FactsAt.fresh hdf5, BrOk.none, ok, fun b6 r6 H6 hw6 m1 m2 m3 m4 m5 => ?_⟩
    have s46 : Same H4 H6 := m3.base s5 hdf50 (fun k e => by cases e)
    dsimp only
    refine ⟨h, df, W, hw4, some r4, rfl, k1.same s46, k2.same s46, k4, ok, fun b7 r7 H7 hw7 n1 n2 n3 n4 n5 => ?_⟩
    have st7 : FStep df H2 none H7 hw7 := (st4.trans (FStep.of_same s46) k2.ne).trans n3 (k2.same s46).ne
    have s17 : Same H1 H7 := st7.base s2 hdf0 (fun k e => by cases e)
    have s07 := s1.trans s17
    have e4 := bool_of k5 hb
    have e6 := bool_of m5 hb
    have e7 := bool_of n5 hb
    subst e4 e6 e7
    refine ⟨by decide, fun L hL => ?_⟩
    have hlen : (reprBs [b7, b7, b7]).length ≤ sizeLine := by cases b7 <;> decide
    have sL := L2.Same.new (o := .lst [V.bl b7, V.bl b7, V.bl b7]) hL
    refine ⟨L, [b7, b7, b7], rfl, upd_same, hlen, ?_⟩
    refine ⟨by decide, fun M2 hM2 => ?_⟩
    have sL2 := L2.Same.new (o := .lst [V.bl b7, V.bl b7, V.bl b7]) hM2
    refine ⟨M2, [b7, b7, b7], rfl, upd_same, hlen, ?_⟩
    refine ⟨scal_ss.mpr trivial, ?_⟩
    rw [if_pos rfl]
    have e : decide (decide (r = V.non) = b7) = true := by
      rw [decide_eq_true_eq]
      refine bool_of ?_ hb
      rw [decide_eq_true_eq]
      exact g4
    rw [e]
    exact q _ ((s07.trans sL).trans sL2)
end
end SL
/-! _law_bent. -/
namespace SL
open PySem PySem.Spec PyProof.Rows L2
def keyZ (e : (Nat × Int) × Option Nat) : Int × Int := ((e.1.1 : Int), e.1.2)
theorem mv_keys {H : Hp} {M : Mvs} {bs : List Addr} (h : IsKeys H (M.map encM) bs) : PrZ H (bs.map V.ref) (M.map keyZ) := by
  obtain ⟨h1, h2⟩ := keys_at h
  refine ⟨by rw [List.length_map, h1, List.length_map, List.length_map], fun i p hp => ?_⟩
  rw [List.getElem?_map] at hp
  cases e : M[i]? with
  | none => rw [e] at hp; cases hp
  | some x =>
    rw [e] at hp
    cases hp
    obtain ⟨b, b1, b2⟩ := h2 i (encM x) (by rw [List.getElem?_map, e]; rfl)
    exact ⟨b, by rw [List.getElem?_map, b1]; rfl, b2⟩
/-- the bent world, as far as it stands -/
structure BentSt (H0 H : Hp) (l f d tp tt th dm : Addr) (W : Wd) : Prop where
  dn : Dn l H0 H
  ex : ∃ (tr : Addr) (rs : List (Option Nat)) (M : Mvs), H f = some (.dK (wk W.size tp W.many tt tr th dm)) ∧ H tr = some (.tup (rs.map vo)) ∧ H d = some (.dT (M.map encM)) ∧ MvOk W.size W.many W.pushes M ∧ ({ W with reading := rs } : Wd).Ok
theorem dp_tup {K : Frg} {H : Hp} {p : Addr} {l : List Int} (h : H p = some (.tup (l.map V.int))) : Dp K H (.ref p) (.tuple (l.map PyData.int)) := .tup (Or.inl (Or.inl h)) (dp_all l)
theorem shaped_tup (l : List Int) : SeqAt.shaped (.tuple (l.map PyData.int)) = true := by
  have := depth_ints l
  unfold SeqAt.shaped
  rw [Bool.and_eq_true]
  refine ⟨by simp [PyData.canLay0, lay_ints l], decide_eq_true ?_⟩
  simp only [PyData.depth]
  omega
/-- before the change -/
structure BentA (H H4 H8 : Hp) (l R f0 d KL tp tt tr th dm : Addr) (W : Wd) (ys : List V) (qs : List (Int × Int)) (s : Nat) (o : Int) : Prop where
  s4 : Same H H4
  n48 : Dn l H4 H8
  adj : AdjL H4 R W.size W.pushes
  hf : H4 f0 = some (.dK (wk W.size tp W.many tt tr th dm))
  fH : H f0 = none
  hd : H4 d = some (.dT (W.moves.map encM))
  dH : H d = none
  kl : H4 KL = some (.lst ys)
  klH : H KL = none
  pr : PrZ H4 ys qs
  pm : qs.Perm (W.moves.map keyZ)
  hs : s < W.size
  ho1 : -1 ≤ o
  ho2 : o < W.many
theorem seq_mid8 {A1 A2 A3 A4 A5 A6 A7 A8 B : TS} {D : Ends} {σ : L2.St} {H : Hp} (Pm : L2.St → Hp → Prop) (h1 : ∀ N : L2.St → Hp → Prop, (∀ σ H, Pm σ H → N σ H) → tSeq A1 (tSeq A2 (tSeq A3 (tSeq A4 (tSeq A5 (tSeq A6 (tSeq A7 A8)))))) { D with nx := N } σ H) (h2 : ∀ σ H, Pm σ H → B D σ H) :
    tSeq A1 (tSeq A2 (tSeq A3 (tSeq A4 (tSeq A5 (tSeq A6 (tSeq A7 (tSeq A8 B))))))) D σ H := h1 (B D) h2
section
variable {P : Program} {w : World} {K : Frg} {mg : Str → Option Value} {base : Heap}
theorem cal__law_bent (T : Txt K mg) : C8.Cal P w K mg base 2 "_law_bent" spNew [] := by
  refine mkCal T.d__law_bent sc__law_bent (fun _ _ _ _ _ _ us hl => match us, hl with | [_, _], _ => rfl) (fun vs H Q E h => ?_) (fun f cdv A outer s H vs Q E hr h => ?_)
  · obtain ⟨l, a, W, rfl, _⟩ := h
    rfl
  · have hu := hu_of hr
    obtain ⟨l, a, W, rfl, hD, hA, ok, q⟩ := h
    obtain ⟨tp, xp, tt, xt, tr, th, dm, w1, w2, w3, w4, w5, w6, w7, w8⟩ := hA.ob
    refine ⟨_, (pss_cons (ps_set (i := 2) sc__law_bent.nd rfl (Or.inl rfl) (C8.pe_c (cal__law_rows T) hr (by decide) rfl (pa_cons (pe_dget hu (pv 1) pe_str (fun _ _ => rfl)) (pa_cons (pe_dget hu (pv 1) pe_str (fun _ _ => rfl)) pa_nil))))
      (pss_cons (ps_set (i := 3) sc__law_bent.nd rfl (Or.inl rfl) (pe_callTy call_dictK (by rfl) T.b_dict (by decide +kernel) (pa_cons (pv 1) pa_nil)))
      (pss_cons (ps_set (i := 4) sc__law_bent.nd rfl (Or.inl rfl) (pe_callTy (call_dictT hr.units) (by rfl) T.b_dict (by decide +kernel) (pa_cons (pe_dget hu (pv 1) pe_str (fun _ _ => rfl)) pa_nil)))
      (pss_cons (ps_set (i := 5) sc__law_bent.nd rfl (Or.inl rfl) (pe_callB (k_sortP (K := K) rfl) (by rfl) T.b_sorted (by decide +kernel) (pa_cons (pe_callTy (call_list_dT rfl) (by rfl) T.b_list (by decide +kernel) (pa_cons (pv 4) pa_nil)) pa_nil)))
      (pss_cons (ps_set (i := 6) sc__law_bent.nd rfl (Or.inl rfl) (C8.pe_c (cal__law_draw T) hr (by decide) rfl (pa_cons (pv 0) (pa_cons pe_int pa_nil))))
      (pss_cons (ps_set (i := 7) sc__law_bent.nd rfl (Or.inl rfl) (C8.pe_c (cal__law_draw T) hr (by decide) rfl (pa_cons (pv 0) (pa_cons (pe_dget hu (pv 1) pe_str (fun _ _ => rfl)) pa_nil))))
      (pss_cons (ps_set (i := 8) sc__law_bent.nd rfl (Or.inl rfl) (pe_op op_sub (C8.pe_c (cal__law_draw T) hr (by decide) rfl (pa_cons (pv 0) (pa_cons (pe_op op_add (pe_dget hu (pv 1) pe_str (fun _ _ => rfl)) pe_int) pa_nil))) pe_int))
      (pss_cons (ps_if (PW.pt (pw_and (pt_cmpR op_lt (pv 6) pe_int (nomark _)) (pw_and1 (pt_cmpR op_gt (pe_callB (k_len (K := K) rfl) (by rfl) T.b_len (by decide +kernel) (pa_cons (pv 5) pa_nil)) pe_int (nomark _))))) (pss_one (ps_asg (pe_ix (k_ixL (K := K) rfl) (pv 5) (C8.pe_c (cal__law_draw T) hr (by decide) rfl (pa_cons (pv 0) (pa_cons (pe_callB (k_len (K := K) rfl) (by rfl) T.b_len (by decide +kernel) (pa_cons (pv 5) pa_nil)) pa_nil))) (fun _ _ => rfl)) (k_gtup (K := K) (n := 2) rfl rfl (pgs_cons (pg_name (i := 7) sc__law_bent.nd rfl (Or.inl rfl)) (pgs_cons (pg_name (i := 8) sc__law_bent.nd rfl (Or.inl rfl)) pgs_nil))))) pss_nil)
      (pss_cons (ps_set (i := 9) sc__law_bent.nd rfl (Or.inl rfl) (pe_ix (k_ixL (K := K) rfl) (pe_op op_cat (pe_ix (k_ixL (K := K) rfl) (pv 2) (pv 7) (fun _ _ => rfl)) (pe_lst (pa_cons pe_non pa_nil))) (C8.pe_c (cal__law_draw T) hr (by decide) rfl (pa_cons (pv 0) (pa_cons (pe_op op_add (pe_callB (k_len (K := K) rfl) (by rfl) T.b_len (by decide +kernel) (pa_cons (pe_ix (k_ixL (K := K) rfl) (pv 2) (pv 7) (fun _ _ => rfl)) pa_nil)) pe_int) pa_nil))) (fun _ _ => rfl)))
      (pss_cons (ps_if (pt_cmpR op_eq (pv 6) pe_int (nomark _)) (pss_cons (ps_set (i := 4) sc__law_bent.nd rfl (Or.inl rfl) pe_dnewT)
        (pss_one (ps_for PassesOwn.never rfl (k_list (K := K) rfl (pv 5)) (pg_name (i := 10) sc__law_bent.nd rfl (Or.inl rfl)) (pss_one (ps_if (pt_cmpR (k_neD (K := K) rfl hr.units) (pv 10) (pe_tup (pa_cons (pv 7) (pa_cons (pv 8) pa_nil))) (nomark _)) (pss_one (ps_dput hu (pv 4) (pv 10) (pe_dget hu (pe_dget hu (pv 1) pe_str (fun _ _ => rfl)) (pv 10) (fun _ _ => rfl)) rfl)) pss_nil))))) (pss_one (ps_if (pt_cmpR op_lt (pv 6) pe_int (nomark _)) (pss_one (ps_dput hu (pv 4) (pe_tup (pa_cons (pv 7) (pa_cons (pv 8) pa_nil))) (pv 9) rfl)) (pss_one (ps_if (pt_cmpR (k_notIn (K := K) rfl) (pv 7) (pe_dget hu (pv 1) pe_str (fun _ _ => rfl)) (by rfl)) (pss_cons (ps_set (i := 11) sc__law_bent.nd rfl (Or.inl rfl) (C8.pe_c (cal__law_draw T) hr (by decide) rfl (pa_cons (pv 0) (pa_cons (pe_op op_add (pe_dget hu (pv 1) pe_str (fun _ _ => rfl)) pe_int) pa_nil))))
            (pss_cons (ps_set (i := 12) sc__law_bent.nd rfl (Or.inl rfl) (pe_callTy (k_lst (K := K) rfl) (by rfl) T.b_list (by decide +kernel) (pa_cons (pe_dget hu (pv 1) pe_str (fun _ _ => rfl)) pa_nil)))
            (pss_cons (ps_asg (pe_ix (k_ixL (K := K) rfl) (pe_lst (pa_cons (pv 11) (pa_cons pe_non pa_nil))) (pe_callTy call_intB (by rfl) T.b_int (by decide +kernel) (pa_cons (pe_cmpR op_eq (pv 11) (pe_dget hu (pv 1) pe_str (fun _ _ => rfl)) (nomark _)) pa_nil)) (fun _ _ => rfl)) (pg_sub (pv 12) (pv 7) set_list))
            (pss_one (ps_dput hu (pv 3) pe_str (pe_callTy (k_tup (K := K) rfl) (by rfl) T.b_tuple (by decide +kernel) (pa_cons (pv 12) pa_nil)) rfl))))) pss_nil)))))
      (pss_cons (ps_dput hu (pv 3) pe_str (pv 4) rfl)
      (pss_one (ps_ret (pv 3)))))))))))))), ?_⟩
    have n12 := ok.size12
    have n1 := ok.size1
    have m8 := ok.many8
    have m1 := ok.many1
    have h108 := ok.mv108
    refine seq_mid8 (fun σ H8 => ∃ (R f0 d KL : Addr) (kind s : Nat) (o : Int) (ys : List V) (qs : List (Int × Int)) (H4 : Hp), σ = [some (V.ref l), some (V.ref a), some (V.ref R), some (V.ref f0), some (V.ref d), some (V.ref KL), some (vn kind), some (vn s), some (V.int o), none, none, none, none] ∧ BentA H H4 H8 l R f0 d KL tp tt tr th dm W ys qs s o) (fun N hN => ?_) (fun σ H8 hh => ?_)
    · walk_at "sd"
      refine ⟨_, q_get (k := Sum.inr "size") w1 wk_size, _, q_get (k := Sum.inr "pushes") w1 wk_pushes, ?_⟩
      refine ⟨W.size, tp, xp, W.pushes, rfl, w2, w3, ok.push, by have := ok.push66; omega, by omega, fun R H1 hR s1 hadj => ?_⟩
      walk_at "sd"
      refine ⟨a, _, rfl, s1 _ _ w1, fun f0 hf0 => ?_⟩
      have sf : Same H (L2.upd H1 f0 (.dK (wk W.size tp W.many tt tr th dm))) := s1.trans (L2.Same.new hf0)
      have sf1 : Same H1 (L2.upd H1 f0 (.dK (wk W.size tp W.many tt tr th dm))) := L2.Same.new hf0
      have hfat : L2.upd H1 f0 (.dK (wk W.size tp W.many tt tr th dm)) f0 = some (.dK (wk W.size tp W.many tt tr th dm)) := upd_same
      have hf00 : H f0 = none := s1.fr hf0
      generalize L2.upd H1 f0 (.dK (wk W.size tp W.many tt tr th dm)) = H2 at *
      walk_at "sd"
      refine ⟨_, q_get (k := Sum.inr "moves") (sf _ _ w1) wk_moves, ?_⟩
      refine ⟨dm, _, rfl, sf _ _ w8, hash_nodup P w ok.mvN (fun e he => ?_), fun d hd => ?_⟩
      · have := ok.mvK e he
        omega
      have sd : Same H2 (L2.upd H2 d (.dT (W.moves.map encM))) := L2.Same.new hd
      have hdat : L2.upd H2 d (.dT (W.moves.map encM)) d = some (.dT (W.moves.map encM)) := upd_same
      have hd0 : H d = none := sf.fr hd
      generalize L2.upd H2 d (.dT (W.moves.map encM)) = H3 at *
      walk_at "sd"
      refine ⟨_, Or.inl hdat, fun p bs hp hbs => ?_⟩
      have sp : Same H3 (upd H3 p (.lst (bs.map V.ref))) := L2.Same.new hp
      refine sort_prz (Or.inl (Or.inl upd_same)) ((mv_keys hbs).same sp) fun ys qs KL g1 g2 _ hKL => ?_
      have sk := sp.trans (L2.Same.new (o := .lst ys) hKL)
      have hkl : upd (upd H3 p (.lst (bs.map V.ref))) KL (.lst ys) KL = some (.lst ys) := upd_same
      have g1' := g1.same (L2.Same.new (o := .lst ys) hKL)
      have hKL0 : H KL = none := ((sf.trans sd).trans sp).fr hKL
      generalize upd (upd H3 p (.lst (bs.map V.ref))) KL (.lst ys) = H4 at *
      clear g1
      have s4 : Same H H4 := (sf.trans sd).trans sk
      have hD4 := hD.same s4
      walk_at "sd"
      refine ⟨l, 6, rfl, hD4, by decide, by decide, fun kind H5 hkd _ _ n5 => ?_⟩
      walk_at "sd"
      have hD5 := n5.di hD4
      refine ⟨_, q_get (k := Sum.inr "size") (n5.kp hD4 (s4 _ _ w1) fun _ z => by cases z) wk_size, ?_⟩
      refine ⟨l, W.size, rfl, hD5, n1, by omega, fun st H6 hst _ _ n6 => ?_⟩
      walk_at "sd"
      have n46 := n5.trans n6
      have hD6 := n46.di hD4
      refine ⟨_, q_get (k := Sum.inr "many") (n46.kp hD4 (s4 _ _ w1) fun _ z => by cases z) wk_many, ?_⟩
      refine ⟨_, rfl, l, W.many + 1, rfl, hD6, by omega, by omega, fun od H7 hod _ _ n7 => ?_⟩
      have n47 := n46.trans n7
      have hD7 := n47.di hD4
      refine ⟨_, rfl, ?_⟩
      have s14 := (sf1.trans sd).trans sk
      have N0 : ∀ (s : Nat) (o : Int) H8, s < W.size → -1 ≤ o → o < W.many → Dn l H4 H8 → N [some (V.ref l), some (V.ref a), some (V.ref R), some (V.ref f0), some (V.ref d), some (V.ref KL), some (vn kind), some (vn s), some (V.int o), none, none, none, none] H8 := fun s o H8 k1 k2 k3 k4 =>
        hN _ _ ⟨R, f0, d, KL, kind, s, o, ys, qs, H4, rfl, s4, k4, hadj.same s14, (sd.trans sk) _ _ hfat, hf00, sk _ _ hdat, hd0, hkl, hKL0, g1', g2, k1, k2, k3⟩
      have hkl7 := n47.keep hD4 (dice_nl hD hKL0) hkl
      have hyl : ys.length = W.moves.length := by rw [g1'.len, g2.length_eq, List.length_map]
      refine ite2 (fun _ => ?_) (fun _ => N0 _ _ _ hst (by omega) (by omega) n47)
      refine ⟨_, Or.inl (Or.inl (Or.inl hkl7)), ?_⟩
      refine ite2 (fun _ => ?_) (fun _ => N0 _ _ _ hst (by omega) (by omega) n47)
      refine ⟨_, Or.inl (Or.inl (Or.inl hkl7)), l, ys.length, rfl, hD7, by omega, by omega, fun k H8 hk _ _ n8 => ?_⟩
      have hkq : k < qs.length := by rw [← g1'.len]; exact hk
      obtain ⟨t, t1, t2⟩ := g1'.at_ k qs[k] (List.getElem?_eq_getElem hkq)
      obtain ⟨e, e1, e2⟩ := List.mem_map.mp (g2.mem_iff.mp (List.getElem_mem hkq))
      obtain ⟨x1, x2, x3, _⟩ := ok.mvK e e1
      rw [← e2] at t2
      have n48 := n47.trans n8
      refine q_ixL (n8.keep hD7 (dice_nl hD hKL0) hkl7) t1 ?_
      refine g_pair (n48.kt hD4 t2) ?_
      exact N0 _ _ _ x1 x2 x3 n48
    · obtain ⟨R, f0, d, KL, kind, s, o, ys, qs, H4, rfl, b⟩ := hh
      have hD4 := hD.same b.s4
      have hD8 := b.n48.di hD4
      refine seq_mid (fun σ H9 => ∃ (y : Option Nat), σ = [some (V.ref l), some (V.ref a), some (V.ref R), some (V.ref f0), some (V.ref d), some (V.ref KL), some (vn kind), some (vn s), some (V.int o), some (vo y), none, none, none] ∧ Dn l H4 H9 ∧ ∀ t, y = some t → nbr W.pushes s t ∧ t < W.size) (fun N hN => ?_) (fun σ H9 hh => ?_)
      · walk_at "sd"
        obtain ⟨rs, r1, r2, r3⟩ := (b.adj.dn hD4 b.n48).ex
        obtain ⟨ra, row, c1, c2, c3, c4⟩ := r3 s b.hs
        refine q_ixL r1 c1 ⟨by decide, fun p hp => ?_⟩
        have sp := L2.Same.new (o := .lst [V.non]) hp
        refine ⟨ra, p, _, _, rfl, rfl, sp _ _ c2, upd_same, szl (by rw [List.length_map]; show row.length + 1 ≤ 100000; omega), fun c hc => ?_⟩
        have sc := sp.trans (L2.Same.new (o := .lst (row.map vn ++ [V.non])) hc)
        have hcc : upd (upd H8 p (.lst [V.non])) c (.lst (row.map vn ++ [V.non])) c = some (.lst ((row.map some ++ [none]).map vo)) := by
          rw [upd_same, List.map_append, List.map_map]
          rfl
        have hc8 : H8 c = none := sp.fr hc
        generalize upd (upd H8 p (.lst [V.non])) c (.lst (row.map vn ++ [V.non])) = H8' at *
        have hD8' := hD8.same sc
        refine q_ixL (sc _ _ r1) c1 ?_
        refine ⟨ra, rfl, _, Or.inl (Or.inl (Or.inl (sc _ _ c2))), ?_⟩
        rw [List.length_map]
        refine ⟨l, row.length + 1, rfl, hD8', by omega, by omega, fun j H9 hj _ _ n9 => ?_⟩
        have hj' : j < (row.map some ++ [none]).length := by rw [List.length_append, List.length_map]; exact hj
        have hyj : (row.map some ++ [none])[j]? = some (row.map some ++ [none])[j] := List.getElem?_eq_getElem hj'
        have hyn : ∀ t, (row.map some ++ [none])[j] = some t → nbr W.pushes s t ∧ t < W.size := fun t e => by
          have := List.getElem_mem hj'
          rw [e] at this
          rcases List.mem_append.mp this with z | z
          · obtain ⟨u, u1, u2⟩ := List.mem_map.mp z
            cases u2
            have z := (c4 t).mp u1
            refine ⟨z, ?_⟩
            rcases z with z | z
            · exact (ok.push _ z).2
            · have := ok.push _ z
              simp only at this
              omega
          · cases List.mem_singleton.mp z
        generalize (row.map some ++ [none])[j] = y at *
        refine q_ixL (v := vo y) (n9.keep hD8' (dice_nl hD8 hc8) hcc) (by rw [List.getElem?_map, hyj]; rfl) ?_
        exact hN _ _ ⟨y, rfl, (b.n48.same sc).trans n9, hyn⟩
      · obtain ⟨y, rfl, n49, hy⟩ := hh
        refine seq_mid (fun σ H10 => ∃ d' o10 o11 o12, σ = [some (V.ref l), some (V.ref a), some (V.ref R), some (V.ref f0), some (V.ref d'), some (V.ref KL), some (vn kind), some (vn s), some (V.int o), some (vo y), o10, o11, o12] ∧ BentSt H H10 l f0 d' tp tt th dm W) (fun N hN => ?_) (fun σ H10 hh => ?_)
        · have n09 : Dn l H H9 := (Dn.of_same b.s4).trans n49
          have hD9 := n09.di hD
          have f9 := n49.kp hD4 b.hf (fun _ z => by cases z)
          have d9 := n49.kp hD4 b.hd (fun _ z => by cases z)
          have k9 := n49.keep hD4 (dice_nl hD b.klH) b.kl
          have p9 := b.pr.dn hD4 n49
          have a9 := n09.kp hD w1 (fun _ z => by cases z)
          have r9 := n09.kt hD w6
          have hyl : ys.length = W.moves.length := by rw [b.pr.len, b.pm.length_eq, List.length_map]
          have nfd : f0 ≠ d := ne_of f9 d9 (fun z => by cases z)
          walk_at "sd"
          refine ite2 (fun _ => ?_) (fun _ => ite2 (fun _ => ?_) (fun _ => ?_))
          · intro D2 hD2
            have w0 : MvSt H9 (L2.upd H9 D2 (.dT [])) l D2 W.size W.many W.pushes (fun _ => True) := ⟨(Dn.refl l H9).same (L2.Same.new hD2), [], upd_same, MvOk.nil, trivial⟩
            refine for_it ?_
            simp only [iList]
            walk_at "sd"
            have nkl : KL ≠ l := dice_nl hD b.klH
            refine ⟨⟨_, Or.inl (Or.inl (w0.dn.keep hD9 nkl k9))⟩, ?_⟩
            refine for_list (K := K) (a := KL) (xs := ys) (fun i σ H10 => ∃ o10, σ = [some (V.ref l), some (V.ref a), some (V.ref R), some (V.ref f0), some (V.ref D2), some (V.ref KL), some (vn kind), some (vn s), some (V.int o), some (vo y), o10, none, none] ∧ MvSt H9 H10 l D2 W.size W.many W.pushes (fun _ => True))
              ⟨_, rfl, w0⟩ (fun i σ H10 _ ⟨_, _, z⟩ => Or.inl (Or.inl (z.dn.keep hD9 nkl k9))) (fun i x σ H10 hx ⟨o10, e, g⟩ => ?_) fun σ H10 ⟨o10, e, g⟩ => ?_
            · subst e
              have hi : i < qs.length := by rw [← p9.len]; exact (List.getElem?_eq_some_iff.mp hx).1
              obtain ⟨t, t1, t2⟩ := p9.at_ i qs[i] (List.getElem?_eq_getElem hi)
              rw [hx] at t1
              cases t1
              obtain ⟨e, e1, e2⟩ := List.mem_map.mp (b.pm.mem_iff.mp (List.getElem_mem hi))
              rw [← e2] at t2
              obtain ⟨v, hv⟩ := mvL_some (List.mem_map.mpr ⟨e, e1, rfl⟩)
              obtain ⟨y1, y2, y3, y4⟩ := ok.mvK _ (mvL_mem hv)
              have t3 : H10 t = some (.tup (([((e.1.1 : Nat) : Int), e.1.2] : List Int).map V.int)) := g.dn.kt hD9 t2
              walk_at "sd"
              refine ⟨by decide, fun u hu0 => ?_⟩
              have su := L2.Same.new (o := .tup ([(s : Int), o].map V.int)) hu0
              refine ⟨_, _, dp_tup (su _ _ t3), dp_tup (l := [(s : Int), o]) upd_same, shaped_tup _, shaped_tup _, ?_⟩
              refine ⟨_, rfl, ?_⟩
              have gu := g.same su
              refine ite2 (fun _ => ?_) (fun _ => gu)
              refine ⟨_, q_get (k := Sum.inr "moves") (gu.dn.kp hD9 a9 fun _ z => by cases z) wk_moves, dm, rfl, ?_⟩
              have z := q_mv (s := e.1.1) (o := e.1.2) ((n09.trans gu.dn).kp hD w8 fun _ z => by cases z) (su _ _ t3)
              rw [hv] at z
              refine ⟨_, z, ?_⟩
              exact gu.put (S := fun _ => True) hD2 n12 m8 (su _ _ t3) y1 y2 y3 y4 (fun _ _ => trivial) fun H11 g11 => g11
            · subst e
              obtain ⟨M, m2, m3, _⟩ := g.ex
              exact hN _ _ ⟨D2, _, none, none, rfl, n09.trans g.dn, tr, W.reading, M, g.dn.kp hD9 f9 (fun _ z => by cases z), g.dn.kt hD9 r9, m2, m3, ok⟩
          · refine ⟨by decide, fun p hp => ?_⟩
            have sp := L2.Same.new (o := .tup [vn s, V.int o]) hp
            refine ⟨_, DPut.t (k := mkey s o) (sp _ _ d9) upd_same (szt (by rw [List.length_map]; omega)), ?_⟩
            rw [putK_M]
            exact hN _ _ ⟨d, none, none, none, rfl, (n09.same sp).mut b.dH, tr, W.reading, _, by rw [upd_ne nfd]; exact sp _ _ f9, by rw [upd_ne (ne_of r9 d9 fun z => by cases z)]; exact sp _ _ r9, upd_same, ok.mvOk.put b.hs b.ho1 b.ho2 hy, ok⟩
          · refine ⟨_, q_get (k := Sum.inr "homes") a9 wk_homes, th, _, rfl, Or.inr (Or.inl (Or.inl (n09.kt hD w7))), rfl, flat_vn _, _, rfl, ?_⟩
            simp only [if_true, inV_vn]
            by_cases hh : s ∈ W.homes
            · rw [decide_eq_true hh]
              exact iteF (hN _ _ ⟨d, none, none, none, rfl, n09, tr, W.reading, W.moves, f9, r9, d9, ok.mvOk, ok⟩)
            rw [decide_eq_false hh]
            refine iteT ⟨_, q_get (k := Sum.inr "many") a9 wk_many, _, rfl, l, W.many + 1, rfl, hD9, by omega, by omega, fun c H10 hc _ _ n10 => ?_⟩
            have n010 := n09.trans n10
            have a10 := n010.kp hD w1 (fun _ z => by cases z)
            refine ⟨_, q_get (k := Sum.inr "reading") a10 wk_reading, tr, rfl, _, Or.inr (Or.inl (Or.inl (n010.kt hD w6))), fun RL hRL => ⟨by decide, fun C hC => ?_⟩⟩
            have s1' := L2.Same.new (o := .lst (W.reading.map vo)) hRL
            have s2' := L2.Same.new (o := .lst [vn c, V.non]) hC
            have s12' := s1'.trans s2'
            refine ⟨_, q_get (k := Sum.inr "many") (s12' _ _ a10) wk_many, scal_ii.mpr trivial, ?_⟩
            obtain ⟨z, hz1, hz2⟩ : ∃ z : Option Nat, (∀ e, z = some e → e < W.many) ∧ [vn c, V.non][(if vn c = vn W.many then 1 else 0)]? = some (vo z) := by
              by_cases e : c = W.many
              · exact ⟨none, (fun _ e => by cases e), by rw [if_pos (by rw [e])]; rfl⟩
              · exact ⟨some c, (fun d e2 => by cases e2; omega), by rw [if_neg (fun z => e (vn_inj.mp z))]; rfl⟩
            have ei : V.int (if vn c = vn W.many then 1 else 0) = vn (if vn c = vn W.many then 1 else 0) := by split <;> rfl
            rw [ei]
            refine q_ixL (v := vo z) upd_same hz2 ?_
            refine q_setO z (s2' _ _ upd_same) (by rw [ok.rdL]; exact b.hs) ?_
            have nRC : RL ≠ C := fun e => by rw [← e, upd_same] at hC; cases hC
            have d10 := n10.kp hD9 d9 (fun _ z => by cases z)
            have f10 := n10.kp hD9 f9 (fun _ z => by cases z)
            have hRL10 : H RL = none := n010.fr hD hRL
            have fR : f0 ≠ RL := ne_of_none f10 hRL
            have dR : d ≠ RL := ne_of_none d10 hRL
            refine ⟨_, Or.inl ⟨Or.inl (Or.inl upd_same), fun T hT => ?_⟩⟩
            have sT := L2.Same.new (o := .tup ((W.reading.set s z).map vo)) hT
            refine q_put (k := Sum.inr "reading") (sT _ _ (by rw [upd_ne fR]; exact s12' _ _ f10)) (by show 7 < 100000; decide) wk_put_reading ?_
            have fT : f0 ≠ T := fun e => by rw [← e, upd_ne fR, s12' _ _ f10] at hT; cases hT
            exact hN _ _ ⟨d, none, some (vn c), some (V.ref RL), rfl, (((n010.same s12').mut hRL10).same sT).mut b.fH, T, W.reading.set s z, W.moves, upd_same, by rw [upd_ne fT.symm]; exact upd_same, by rw [upd_ne nfd.symm]; exact sT _ _ (by rw [upd_ne dR]; exact s12' _ _ d10), ok.mvOk, ok.reading b.hs hz1 hh⟩
        · obtain ⟨d', o10, o11, o12, rfl, g⟩ := hh
          walk_at "sd"
          obtain ⟨tr', rs, M, e1, e2, e3, e4, e5⟩ := g.ex
          have dn := g.dn
          refine q_put (k := Sum.inr "moves") e1 (by show 7 < 100000; decide) wk_put_moves ?_
          have kp : ∀ b' o', (∀ kvs, o' ≠ .dK kvs) → H10 b' = some o' → upd H10 f0 (.dK (wk W.size tp W.many tt tr' th d')) b' = some o' := fun b' o' n e => by
            rw [upd_ne (ne_of e e1 (n _))]
            exact e
          have kpt : ∀ b' xs, H10 b' = some (.tup xs) → upd H10 f0 (.dK (wk W.size tp W.many tt tr' th d')) b' = some (.tup xs) := fun b' xs e => kp b' _ (fun _ z => by cases z) e
          refine q f0 { W with reading := rs, moves := M } _ (dn.mut b.fH) ⟨tp, xp, tt, xt, tr', th, d', upd_same, kpt _ _ (dn.kt hD w2), ⟨w3.len, fun i p hp => ?_⟩, kpt _ _ (dn.kt hD w4), ⟨w5.len, fun i p hp => ?_⟩, kpt _ _ e2, kpt _ _ (dn.kt hD w7), kp _ _ (fun _ z => by cases z) e3⟩ (Wd.Ok.moves e5 e4)
          · obtain ⟨x, x1, x2⟩ := w3.at_ i p hp
            exact ⟨x, x1, kpt _ _ (dn.kt hD x2)⟩
          · obtain ⟨x, x1, x2⟩ := w5.at_ i p hp
            exact ⟨x, x1, kpt _ _ (dn.kt hD x2)⟩
end
end SL
/-! _law_hand. -/
namespace SL
open PySem PySem.Spec PyProof.Rows L2
/-- homes drawn, under way -/
structure HmSt (H0 H : Hp) (l D : Addr) (ls : List (List Nat)) (i : Nat) : Prop where
  dn : Dn l H0 H
  ex : ∃ hs : List Nat, H D = some (.lst (hs.map vn)) ∧ hs.length = i ∧ ∀ (c h : Nat), hs[c]? = some h → ∃ lv, ls[c]? = some lv ∧ h ∈ lv
/-- moves that lead home, and over each tie in ts, both ways -/
structure LedTo (ls : List (List Nat)) (hs : List Nat) (T : Nat → Nat → Prop) (M : Mvs) : Prop where
  home : ∀ (c : Nat) (lv : List Nat) (h : Nat), ls[c]? = some lv → hs[c]? = some h → Home M (-1) lv h ∧ Home M (c : Int) lv h
  over : ∀ v x, T v x → ∀ (lv lw : List Nat) (hv : Nat), ls[v]? = some lv → ls[x]? = some lw → hs[v]? = some hv → Over M (x : Int) lv lw hv
theorem MvSt.put2 {H0 H : Hp} {l dm t : Addr} {n m : Nat} {ps : List (Nat × Nat)} {R S : Mvs → Prop} {N : Hp → Prop} {s : Nat} {o : Int} {x : Option Nat} (h : MvSt H0 H l dm n m ps R) (hB : H0 dm = none) (hn : n ≤ 12) (hm : m ≤ 8) (ht : H t = some (.tup [vn s, .int o]))
    (hs : s < n) (o1 : -1 ≤ o) (o2 : o < m) (hx : ∀ y, x = some y → nbr ps s y ∧ y < n) (e : ∀ M, R M → S (mvP M (s, o) x)) (q : ∀ H', But (fun b => b = dm) H H' → MvSt H0 H' l dm n m ps S → N H') : ∃ H4, DPut H dm (.ref t) (vo x) H4 ∧ N H4 := by
  obtain ⟨M, h1, h2, h3⟩ := h.ex
  refine ⟨_, DPut.t (k := mkey s o) h1 ht (szt (by rw [List.length_map]; have := h2.len hn hm; omega)), ?_⟩
  rw [putK_M]
  exact q _ (But.put rfl) ⟨h.dn.mut hB, _, upd_same, h2.put hs o1 o2 hx, e M h3⟩
theorem Home.put {M : Mvs} {o o' : Int} {lot : List Nat} {root s : Nat} {t : Option Nat} (h : Home M o lot root) (n : s ∉ lot) : Home (mvP M (s, o') t) o lot root := h.congr fun s' hs' => mvL_P_other _ _ fun z => n ((Prod.mk.inj z).1 ▸ hs')
theorem Land.nbr_lt {n m : Nat} {ps ts : List (Nat × Nat)} {ls : List (List Nat)} (ld : Land n m ps ts ls) {v x : Nat} (h : nbr ts v x) : v < m ∧ x < m ∧ v ≠ x := by
  rcases h with h | h
  · have := ld.tie.ok _ h
    simp only at this
    omega
  · have := ld.tie.ok _ h
    simp only at this
    omega
theorem Land.touch {n m : Nat} {ps ts : List (Nat × Nat)} {ls : List (List Nat)} (ld : Land n m ps ts ls) {v x : Nat} {lv lw : List Nat} (h : nbr ts v x) (ev : ls[v]? = some lv) (ew : ls[x]? = some lw) : ∃ a b, a ∈ lv ∧ b ∈ lw ∧ nbr ps a b := by
  rcases h with h | h
  · obtain ⟨a, b, l1, l2, h1, h2, h3, h4, h5⟩ := ld.tch _ h
    simp only at h1 h2
    rw [ev] at h1
    rw [ew] at h2
    cases h1
    cases h2
    exact ⟨a, b, h3, h4, h5⟩
  · obtain ⟨a, b, l1, l2, h1, h2, h3, h4, h5⟩ := ld.tch _ h
    simp only at h1 h2
    rw [ew] at h1
    rw [ev] at h2
    cases h1
    cases h2
    exact ⟨b, a, h4, h3, nbr_symm h5⟩
theorem LedTo.step {n m : Nat} {ps ts : List (Nat × Nat)} {ls : List (List Nat)} {hs : List Nat} {T : Nat → Nat → Prop} {M M' : Mvs} {v x hv : Nat} {lv lw : List Nat} (h : LedTo ls hs T M) (ld : Land n m ps ts ls) (hne : v ≠ x) (ev : ls[v]? = some lv) (ew : ls[x]? = some lw) (eh : hs[v]? = some hv)
    (un : ∀ s o, (o ≠ (x : Int) ∨ s ∉ lv) → mvL M' (s, o) = mvL M (s, o)) (ov : Over M' (x : Int) lv lw hv) : LedTo ls hs (fun a b => T a b ∨ (a = v ∧ b = x)) M' where
  home := fun c l1 h1 e1 e2 => by
    obtain ⟨k1, k2⟩ := h.home c l1 h1 e1 e2
    refine ⟨k1.congr fun s _ => un s _ (Or.inl (by omega)), k2.congr fun s hs => un s _ ?_⟩
    by_cases e : c = x
    · subst e
      exact Or.inr fun z => hne (ld.pl.dj v c lv l1 s ev e1 z hs)
    · exact Or.inl (by omega)
  over := fun a b hab la lb ha ea eb eha => by
    by_cases e : a = v ∧ b = x
    · obtain ⟨rfl, rfl⟩ := e
      rw [ev] at ea
      rw [ew] at eb
      rw [eh] at eha
      cases ea
      cases eb
      cases eha
      exact ov
    · have hab' : T a b := hab.resolve_right e
      refine (h.over a b hab' la lb ha ea eb eha).congr fun s hs => un s _ ?_
      by_cases e2 : b = x
      · exact Or.inr fun z => e ⟨ld.pl.dj a v la lv s ea ev hs z, e2⟩
      · exact Or.inl (by omega)
/-- the reading, under way -/
structure RdSt (H0 H : Hp) (l RD : Addr) (n m : Nat) (ow : List (Option Nat)) : Prop where
  dn : Dn l H0 H
  ex : ∃ rs : List (Option Nat), H RD = some (.lst (rs.map vo)) ∧ rs.length = n ∧ (∀ s c, own ow s = some c → own rs s = some c) ∧ ∀ s c, own rs s = some c → c < m
theorem tdisp_it {trs : List (TE × TE)} {σ : L2.St} {H : Hp} {Q : VK} (h : ∀ p, H p = none → tPairs trs σ (upd H p (.dK [])) fun ps H2 => H2 p = some (.dK []) ∧ ∃ kvs : List (Key × V), ps = kvs.map (fun kv => (kV kv.1, kv.2)) ∧ kvs.length ≤ 15 ∧ Q (.ref p) (upd H2 p (.dK (mergeK [] kvs)))) : tDisp trs σ H Q := h
section
variable {P : Program} {w : World} {K : Frg} {mg : Str → Option Value} {base : Heap}
def spHandW : Sp := fun vs H Q _ => ∃ (l tp tt tl : Addr) (n m : Nat) (xs xt xl : List V) (ps ts : List (Nat × Nat)) (ls : List (List Nat)), vs = [.ref l, vn n, .ref tp, vn m, .ref tt, .ref tl] ∧ DiceAt H l ∧ H tp = some (.tup xs) ∧ Prs H xs ps ∧ Rising n ps ∧ 1 ≤ n ∧ n ≤ 12 ∧
  H tt = some (.tup xt) ∧ Prs H xt ts ∧ H tl = some (.tup xl) ∧ PlotsAt H xl ls ∧ Land n m ps ts ls ∧ m ≤ 8 ∧ ∀ a W H', Dn l H H' → WorldAt H' a W → W.Ok → Due W → Q (.ref a) H'
theorem cal__law_hand (T : Txt K mg) : C8.Cal P w K mg base 4 "_law_hand" spHandW [] := by
  refine mkCal T.d__law_hand sc__law_hand (fun _ _ _ _ _ _ us hl => match us, hl with | [_, _, _, _, _, _], _ => rfl) (fun vs H Q E h => ?_) (fun f cdv A outer s H vs Q E hr h => ?_)
  · obtain ⟨l, tp, tt, tl, n, m, xs, xt, xl, ps, ts, ls, rfl, _⟩ := h
    rfl
  · have hu := hu_of hr
    obtain ⟨l, tp, tt, tl, n, m, xs, xt, xl, ps, ts, ls, rfl, hD, ht, hp, hR, hn1, hn, htt, hpt, htl, hpl, ld, hm, q⟩ := h
    have hlm := ld.len
    have h66 := edges_len (asc_nodup hR.asc) hR.ok hn
    refine ⟨_, (pss_cons (ps_set (i := 6) sc__law_hand.nd rfl (Or.inl rfl) (C8.pe_c (cal__law_rows T) hr (by decide) rfl (pa_cons (pv 1) (pa_cons (pv 2) pa_nil))))
      (pss_cons (ps_set (i := 7) sc__law_hand.nd rfl (Or.inl rfl) (C8.pe_c (cal__law_owners T) hr (by decide) rfl (pa_cons (pv 1) (pa_cons (pv 5) pa_nil))))
      (pss_cons (ps_setLc (i := 8) (own := [("_law_plot", 17)]) rfl sc__law_hand.nd rfl rfl (sw_true rfl rfl rfl (by decide +kernel)) (k_tuple (K := K) rfl (pv 5)) (blkOk_by (N := N__law_hand) (sc := defScope s__law_hand) (by decide +kernel)) (fun _ _ _ _ _ => (pg_name (i := 17) sc__law_hand.nd rfl (Or.inl rfl))) (fun _ _ _ _ _ => pts_nil) (fun _ _ _ _ _ => (pe_ix (k_ixT (K := K) rfl) (pv 17) (C8.pe_c (cal__law_draw T) hr (by decide) rfl (pa_cons (pv 0) (pa_cons (pe_callB (k_len (K := K) rfl) (by rfl) T.b_len (by decide +kernel) (pa_cons (pv 17) pa_nil)) pa_nil))) (fun _ _ => rfl))))
      (pss_cons (ps_set (i := 9) sc__law_hand.nd rfl (Or.inl rfl) pe_dnewT)
      (pss_cons (ps_for PassesOwn.never rfl (pi_range1 rfl T.b_range (pa_cons (pv 3) pa_nil)) (pg_name (i := 10) sc__law_hand.nd rfl (Or.inl rfl)) (pss_cons (ps_set (i := 11) sc__law_hand.nd rfl (Or.inl rfl) (C8.pe_c (cal__law_tree T) hr (by decide) rfl (pa_cons (pv 0) (pa_cons (pv 6) (pa_cons (pe_ix (k_ixT (K := K) rfl) (pv 5) (pv 10) (fun _ _ => rfl)) (pa_cons (pe_ix (k_ixL (K := K) rfl) (pv 8) (pv 10) (fun _ _ => rfl)) pa_nil))))))
        (pss_cons (ps_set (i := 12) sc__law_hand.nd rfl (Or.inl rfl) (C8.pe_c (cal__law_tree T) hr (by decide) rfl (pa_cons (pv 0) (pa_cons (pv 6) (pa_cons (pe_ix (k_ixT (K := K) rfl) (pv 5) (pv 10) (fun _ _ => rfl)) (pa_cons (pe_ix (k_ixL (K := K) rfl) (pv 8) (pv 10) (fun _ _ => rfl)) pa_nil))))))
        (pss_one (ps_for PassesOwn.never rfl (k_tuple (K := K) rfl (pe_ix (k_ixT (K := K) rfl) (pv 5) (pv 10) (fun _ _ => rfl))) (pg_name (i := 13) sc__law_hand.nd rfl (Or.inl rfl)) (pss_cons (ps_dput hu (pv 9) (pe_tup (pa_cons (pv 13) (pa_cons (pe_un un_neg pe_int) pa_nil))) (pe_dget hu (pv 11) (pv 13) (fun _ _ => rfl)) rfl)
          (pss_one (ps_dput hu (pv 9) (pe_tup (pa_cons (pv 13) (pa_cons (pv 10) pa_nil))) (pe_dget hu (pv 12) (pv 13) (fun _ _ => rfl)) rfl))))))))
      (pss_cons (ps_for PassesOwn.never rfl (k_tuple (K := K) rfl (pv 4)) (k_gtup (K := K) (n := 2) rfl rfl (pgs_cons (pg_name (i := 14) sc__law_hand.nd rfl (Or.inl rfl)) (pgs_cons (pg_name (i := 15) sc__law_hand.nd rfl (Or.inl rfl)) pgs_nil))) (pss_cons (ps_expr (C8.pe_c (cal__law_led_over T) hr (by decide) rfl (pa_cons (pv 0) (pa_cons (pv 6) (pa_cons (pv 7) (pa_cons (pv 5) (pa_cons (pv 8) (pa_cons (pv 9) (pa_cons (pv 14) (pa_cons (pv 15) pa_nil))))))))))
        (pss_one (ps_expr (C8.pe_c (cal__law_led_over T) hr (by decide) rfl (pa_cons (pv 0) (pa_cons (pv 6) (pa_cons (pv 7) (pa_cons (pv 5) (pa_cons (pv 8) (pa_cons (pv 9) (pa_cons (pv 15) (pa_cons (pv 14) pa_nil)))))))))))))
      (pss_cons (ps_setLc (i := 16) (own := [("_law_owner", 18)]) rfl sc__law_hand.nd rfl rfl (sw_true rfl rfl rfl (by decide +kernel)) (k_list (K := K) rfl (pv 7)) (blkOk_by (N := N__law_hand) (sc := defScope s__law_hand) (by decide +kernel)) (fun _ _ _ _ _ => (pg_name (i := 18) sc__law_hand.nd rfl (Or.inl rfl))) (fun _ _ _ _ _ => pts_nil) (fun _ _ _ _ _ => (pv 18)))
      (pss_cons (ps_for PassesOwn.never rfl (pi_range1 rfl T.b_range (pa_cons (pv 1) pa_nil)) (pg_name (i := 13) sc__law_hand.nd rfl (Or.inl rfl)) (pss_one (ps_if (PW.pt (pw_and (pt_cmpR op_isN (pe_ix (k_ixL (K := K) rfl) (pv 7) (pv 13) (fun _ _ => rfl)) pe_non (nomark _)) (pw_and1 (pt_cmpR op_eq (C8.pe_c (cal__law_draw T) hr (by decide) rfl (pa_cons (pv 0) (pa_cons pe_int pa_nil))) pe_int (nomark _))))) (pss_one (ps_asg (C8.pe_c (cal__law_draw T) hr (by decide) rfl (pa_cons (pv 0) (pa_cons (pv 3) pa_nil))) (pg_sub (pv 16) (pv 13) set_list))) pss_nil)))
      (pss_one (ps_ret (pe_disp (pps_cons pe_str (pv 1) (pps_cons pe_str (pv 2) (pps_cons pe_str (pv 3) (pps_cons pe_str (pv 4) (pps_cons pe_str (pe_callTy (k_tup (K := K) rfl) (by rfl) T.b_tuple (by decide +kernel) (pa_cons (pv 16) pa_nil)) (pps_cons pe_str (pe_callTy (k_tup (K := K) rfl) (by rfl) T.b_tuple (by decide +kernel) (pa_cons (pv 8) pa_nil)) (pps_cons pe_str (pv 9) pps_nil))))))) (by rfl) (by rfl) (fun z => by cases z) (by decide)))))))))))), ?_⟩
    walk_at "sd"
    refine ⟨n, tp, xs, ps, rfl, ht, hp, hR.ok, by omega, by omega, fun R H1 hRf s1 hadj => ?_⟩
    walk_at "sd"
    refine ⟨n, tl, xl, ls, rfl, s1 _ _ htl, hpl.same s1, ld.pl, by omega, by omega, fun OW ow H2 hOW s2 how hol hown => ?_⟩
    have s02 := s1.trans s2
    have hD2 := hD.same s02
    walk_at "sd"
    refine lc_it ?_
    simp only [iTup]
    walk_at "sd"
    refine ⟨⟨_, Or.inl (Or.inl (s02 _ _ htl))⟩, fun HM hHM => ?_⟩
    refine lc_tup (K := K) (xs := xl) (fun i H3 => HmSt H2 H3 l HM ls i)
      ⟨(Dn.refl l H2).same (L2.Same.new hHM), [], upd_same, rfl, fun c h e => by simp at e⟩ (fun i H _ z => Or.inl (Or.inl (z.dn.kt hD2 (s02 _ _ htl)))) (fun i x H3 hx z => ?_) fun H3 z => ?_
    · have hi : i < ls.length := by rw [← hpl.len]; exact (List.getElem?_eq_some_iff.mp hx).1
      have hli : ls[i]? = some ls[i] := List.getElem?_eq_getElem hi
      obtain ⟨ta, a1, a2⟩ := hpl.at_ i ls[i] hli
      rw [hx] at a1
      cases a1
      have hin : ls[i] ∈ ls := List.getElem_mem hi
      generalize ls[i] = lv at *
      have hD3 := z.dn.di hD2
      have nHl := dice_nl hD2 hHM
      walk_at "sd"
      refine ⟨_, Or.inr (Or.inl (Or.inl (z.dn.kt hD2 (s02 _ _ a2)))), ?_⟩
      have hlv := ld.ne _ hin
      have hl1 : 1 ≤ lv.length := List.length_pos_iff.mpr hlv
      have hl12 : lv.length ≤ 12 := Nat.le_trans (nodup_lt (ld.pl.nd _ hin) (ld.pl.lt _ hin)) hn
      rw [List.length_map]
      refine ⟨l, lv.length, rfl, hD3, hl1, by omega, fun k H4 hk _ _ n4 => ?_⟩
      have hk2 : lv[k]? = some lv[k] := List.getElem?_eq_getElem hk
      refine q_ixT (v := vn lv[k]) (n4.kt hD3 (z.dn.kt hD2 (s02 _ _ a2))) (by rw [List.getElem?_map, hk2]; rfl) ?_
      obtain ⟨hs, z1, z2, z3⟩ := z.ex
      have z4 := n4.keep hD3 nHl z1
      refine ⟨_, z4, szt (by rw [List.length_map]; omega), (z.dn.trans n4).mut hHM, hs ++ [lv[k]], by rw [upd_same, List.map_append]; rfl, by rw [List.length_append, z2]; rfl, fun c h e => ?_⟩
      by_cases hc : c < hs.length
      · rw [List.getElem?_append_left hc] at e
        exact z3 c h e
      · rw [List.getElem?_append_right (by omega)] at e
        by_cases h0 : c - hs.length = 0
        · rw [h0] at e
          cases e
          exact ⟨lv, by rw [show c = i by omega]; exact hli, List.getElem_mem hk⟩
        · rw [List.getElem?_eq_none (by simp; omega)] at e
          cases e
    · obtain ⟨hs, z1, z2, z3⟩ := z.ex
      have dn3 := z.dn
      have hD3 := dn3.di hD2
      have dn03 : Dn l H H3 := (Dn.of_same s02).trans dn3
      have nHl := dice_nl hD2 hHM
      have hxl : xl.length = m := by rw [hpl.len, hlm]
      clear z
      walk_at "sd"
      intro DM hDM
      have w0 : MvSt H3 (L2.upd H3 DM (.dT [])) l DM n m ps (fun M => ∀ (c : Nat) (lv : List Nat) (h : Nat), c < 0 → ls[c]? = some lv → hs[c]? = some h → Home M (-1) lv h ∧ Home M (c : Int) lv h) :=
        ⟨(Dn.refl l H3).same (L2.Same.new hDM), [], upd_same, MvOk.nil, fun c lv h hc => by omega⟩
      refine for_it ?_
      simp only [iRng1]
      walk_at "sd"
      refine ⟨by omega, by omega, ?_⟩
      refine for_range (lo := 0) (n := (m : Int).toNat) (fun i σ H4 => ∃ o10 o11 o12 o13, σ = [some (V.ref l), some (vn n), some (V.ref tp), some (vn m), some (V.ref tt), some (V.ref tl), some (V.ref R), some (V.ref OW), some (V.ref HM), some (V.ref DM), o10, o11, o12, o13, none, none, none, none, none] ∧
        MvSt H3 H4 l DM n m ps (fun M => ∀ (c : Nat) (lv : List Nat) (h : Nat), c < i → ls[c]? = some lv → hs[c]? = some h → Home M (-1) lv h ∧ Home M (c : Int) lv h))
        ⟨none, none, none, none, rfl, w0⟩ (fun i σ H4 hi ⟨o10, o11, o12, o13, e, g4⟩ => ?_) fun σ H4 ⟨o10, o11, o12, o13, e, g4⟩ => ?_
      · subst e
        have e3 : V.int (0 + (i : Int)) = vn i := by rw [Int.zero_add]
        rw [e3]
        have hi2 : i < ls.length := by omega
        have hli : ls[i]? = some ls[i] := List.getElem?_eq_getElem hi2
        obtain ⟨ta, a1, a2⟩ := hpl.at_ i ls[i] hli
        have hin : ls[i] ∈ ls := List.getElem_mem hi2
        generalize ls[i] = lv at *
        have hih : i < hs.length := by rw [z2, hxl]; omega
        have hhi : hs[i]? = some hs[i] := List.getElem?_eq_getElem hih
        have hhl : hs[i] ∈ lv := by
          obtain ⟨lv', y1, y2⟩ := z3 i hs[i] hhi
          rw [hli] at y1
          cases y1
          exact y2
        generalize hs[i] = h at *
        have hcon : ∀ s ∈ lv, Rch (nbr ps) (fun x => x ∈ lv) h s := fun s hs => ld.con _ hin _ hhl _ hs
        have dn4 : Dn l H H4 := dn03.trans g4.dn
        have hD4 := dn4.di hD
        have hadj4 : AdjL H4 R n ps := (hadj.same s2).dn hD2 (dn3.trans g4.dn)
        walk_at "sd"
        refine q_ixT (dn4.kt hD htl) a1 ?_
        refine q_ixL (v := vn h) (g4.dn.keep hD3 nHl z1) (by rw [List.getElem?_map, hhi]; rfl) ?_
        refine ⟨l, R, ta, n, h, ps, lv, rfl, hD4, hadj4, dn4.kt hD a2, ld.pl.nd _ hin, ld.pl.lt _ hin, hn, hhl, hcon, fun d1 F1 H5 n5 hd1 hF1 tr1 all1 => ?_⟩
        walk_at "sd"
        have g5 := g4.draw hD3 n5
        have dn5 := dn4.trans n5
        have hD5 := dn5.di hD
        refine q_ixT (dn5.kt hD htl) a1 ?_
        refine q_ixL (v := vn h) (g5.dn.keep hD3 nHl z1) (by rw [List.getElem?_map, hhi]; rfl) ?_
        refine ⟨l, R, ta, n, h, ps, lv, rfl, hD5, hadj4.dn hD4 n5, dn5.kt hD a2, ld.pl.nd _ hin, ld.pl.lt _ hin, hn, hhl, hcon, fun d2 F2 H6 n6 hd2 hF2 tr2 all2 => ?_⟩
        walk_at "sd"
        have g6 := g5.draw hD3 n6
        have dn6 := dn5.trans n6
        have hD6 := dn6.di hD
        have hF16 := n6.kp hD5 hF1 (fun _ z => by cases z)
        refine for_it ?_
        simp only [iTup]
        walk_at "sd"
        refine q_ixT (dn6.kt hD htl) a1 ?_
        refine ⟨ta, rfl, ⟨_, Or.inl (Or.inl (dn6.kt hD a2))⟩, ?_⟩
        have hm3 : m ≤ 8 := hm
        have other : ∀ (c : Nat) (lv' : List Nat), c < i → ls[c]? = some lv' → ∀ s ∈ lv', s ∉ lv := fun c lv' hc e s hs hs2 => by
          have := ld.pl.dj c i lv' lv s e hli hs hs2
          omega
        refine for_tup (K := K) (a := ta) (xs := lv.map vn) (fun j σ H7 => ∃ o13, σ = [some (V.ref l), some (vn n), some (V.ref tp), some (vn m), some (V.ref tt), some (V.ref tl), some (V.ref R), some (V.ref OW), some (V.ref HM), some (V.ref DM), some (vn i), some (V.ref d1), some (V.ref d2), o13, none, none, none, none, none] ∧
          Same (SL.del H6 DM) H7 ∧ MvSt H3 H7 l DM n m ps (fun M => (∀ (c : Nat) (lv : List Nat) (h : Nat), c < i → ls[c]? = some lv → hs[c]? = some h → Home M (-1) lv h ∧ Home M (c : Int) lv h) ∧ ∀ s ∈ lv.take j, mvL M (s, -1) = nxL F1 s ∧ mvL M (s, (i : Int)) = nxL F2 s))
          ⟨_, rfl, del_same _ _, g6.mono fun M hM => ⟨hM, by simp⟩⟩ (fun j σ H7 _ ⟨_, _, _, z⟩ => Or.inl (Or.inl ((dn03.trans z.dn).kt hD a2))) (fun j x σ H7 hx ⟨o13, e, s7, g7⟩ => ?_) fun σ H7 ⟨o13, e, s7, g7⟩ => ?_
        · subst e
          rw [List.getElem?_map] at hx
          cases hk : lv[j]? with
          | none => rw [hk] at hx; cases hx
          | some s =>
            rw [hk] at hx
            cases hx
            have hsin := List.mem_of_getElem? hk
            have hsn := ld.pl.lt _ hin s hsin
            have tk : lv.take (j + 1) = lv.take j ++ [s] := by rw [List.take_add_one, hk]; rfl
            obtain ⟨t1, ht1⟩ := nx_some (all1 s hsin)
            obtain ⟨t2, ht2⟩ := nx_some (all2 s hsin)
            have nxn : ∀ {F : Nx}, Tree ps lv h F → ∀ t, nxL F s = some t → ∀ y, t = some y → nbr ps s y ∧ y < n := fun tr t e y e2 => by
              subst e2
              obtain ⟨q1, q2⟩ := tr.nb _ _ e
              exact ⟨q1, ld.pl.lt _ hin _ (tr.sub _ q2)⟩
            have snj : s ∉ lv.take j := fun z => by
              have nd := (ld.pl.nd _ hin).sublist (List.take_sublist (j + 1) lv)
              rw [tk] at nd
              exact (List.nodup_append.mp nd).2.2 s z s (by simp) rfl
            have nd1 : d1 ≠ DM := by
              obtain ⟨M, m1, _⟩ := g6.ex
              exact ne_of hF16 m1 fun z => by cases z
            have nd2 : d2 ≠ DM := by
              obtain ⟨M, m1, _⟩ := g6.ex
              exact ne_of hF2 m1 fun z => by cases z
            have D1 := s7 _ _ (del_at hF16 nd1)
            have D2 := s7 _ _ (del_at hF2 nd2)
            walk_at "sd"
            have hDM6 : SL.del H6 DM DM = none := del_none _ _
            refine ⟨_, q_get (k := Sum.inl (s : Int)) (v := vo t1) D1 (by rw [nx_val, ht1]; rfl), by decide, fun p hp => ?_⟩
            refine (g7.same (L2.Same.new hp)).put2 (S := fun M => ((∀ (c : Nat) (lv : List Nat) (h : Nat), c < i → ls[c]? = some lv → hs[c]? = some h → Home M (-1) lv h ∧ Home M (c : Int) lv h) ∧ ∀ s ∈ lv.take j, mvL M (s, -1) = nxL F1 s ∧ mvL M (s, (i : Int)) = nxL F2 s) ∧ mvL M (s, -1) = some t1)
              hDM hn hm upd_same hsn (by omega) (by omega) (nxn tr1 t1 ht1) (fun M hM => ⟨⟨fun c lv' h' hc e1 e2 => ?_, fun s' hs' => ?_⟩, mvL_P_same _ _ _⟩) fun H8 b8 g8 => ?_
            · obtain ⟨k1, k2⟩ := hM.1 c lv' h' hc e1 e2
              have ns : s ∉ lv' := fun z => other c lv' hc e1 s z hsin
              exact ⟨k1.put ns, k2.put ns⟩
            · have ne : s' ≠ s := fun z => snj (z ▸ hs')
              rw [mvL_P_other _ _ (fun z => ne (Prod.mk.inj z).1), mvL_P_other _ _ (fun z => ne (Prod.mk.inj z).1)]
              exact hM.2 s' hs'
            have s8 : Same (SL.del H6 DM) H8 := But.same_of (s7.trans (L2.Same.new hp)) hDM6 b8
            refine ⟨_, q_get (k := Sum.inl (s : Int)) (v := vo t2) (s8 _ _ (del_at hF2 nd2)) (by rw [nx_val, ht2]; rfl), by decide, fun p hp => ?_⟩
            refine (g8.same (L2.Same.new hp)).put2 (S := fun M => (∀ (c : Nat) (lv : List Nat) (h : Nat), c < i → ls[c]? = some lv → hs[c]? = some h → Home M (-1) lv h ∧ Home M (c : Int) lv h) ∧ ∀ s ∈ lv.take (j + 1), mvL M (s, -1) = nxL F1 s ∧ mvL M (s, (i : Int)) = nxL F2 s)
              hDM hn hm upd_same hsn (by omega) (by omega) (nxn tr2 t2 ht2) (fun M hM => ⟨fun c lv' h' hc e1 e2 => ?_, fun s' hs' => ?_⟩) fun H9 b9 g9 => ⟨But.same_of (s8.trans (L2.Same.new hp)) hDM6 b9, g9⟩
            · obtain ⟨k1, k2⟩ := hM.1.1 c lv' h' hc e1 e2
              have ns : s ∉ lv' := fun z => other c lv' hc e1 s z hsin
              exact ⟨k1.put ns, k2.put ns⟩
            · rw [tk] at hs'
              rcases List.mem_append.mp hs' with hs' | hs'
              · have ne : s' ≠ s := fun z => snj (z ▸ hs')
                rw [mvL_P_other _ _ (fun z => ne (Prod.mk.inj z).1), mvL_P_other _ _ (fun z => ne (Prod.mk.inj z).1)]
                exact hM.1.2 s' hs'
              · have e := List.mem_singleton.mp hs'
                subst e
                rw [mvL_P_same, mvL_P_other _ _ (fun z => by have := (Prod.mk.inj z).2; omega), hM.2, ht1, ht2]
                exact ⟨rfl, rfl⟩
        · subst e
          rw [List.length_map, List.take_length] at g7
          refine ⟨_, _, _, _, rfl, g7.mono fun M hM c lv' h' hc e1 e2 => ?_⟩
          by_cases hci : c < i
          · exact hM.1 c lv' h' hci e1 e2
          · have : c = i := by omega
            subst this
            rw [hli] at e1
            cases e1
            rw [hhi] at e2
            cases e2
            exact ⟨Home.of_tree tr1 all1 fun s hs => (hM.2 s hs).1, Home.of_tree tr2 all2 fun s hs => (hM.2 s hs).2⟩
      · subst e
        dsimp only
        have em : (m : Int).toNat = m := by omega
        rw [em] at g4
        have e0 : ∀ {c : Nat} {lv : List Nat}, ls[c]? = some lv → c < m := fun e => by rw [← hlm]; exact (List.getElem?_eq_some_iff.mp e).1
        have step : ∀ (v x : Nat) (T : Nat → Nat → Prop) (Hc : Hp), MvSt H3 Hc l DM n m ps (LedTo ls hs T) → nbr ts v x → ∀ Qc : VK, (∀ Hd, MvSt H3 Hd l DM n m ps (LedTo ls hs (fun a b => T a b ∨ (a = v ∧ b = x))) → Qc .non Hd) →
            spLed [V.ref l, V.ref R, V.ref OW, V.ref tl, V.ref HM, V.ref DM, vn v, vn x] Hc Qc C8.E0 := fun v x T Hc g hvx Qc qc => by
          obtain ⟨v1, v2, v3⟩ := ld.nbr_lt hvx
          obtain ⟨M, m1, m2, m3⟩ := g.ex
          have ev : ls[v]? = some ls[v] := List.getElem?_eq_getElem (by omega)
          have ex : ls[x]? = some ls[x] := List.getElem?_eq_getElem (by omega)
          have hvl : v < hs.length := by rw [z2, hxl]; exact v1
          have eh : hs[v]? = some hs[v] := List.getElem?_eq_getElem hvl
          obtain ⟨lv', y1, y2⟩ := z3 v hs[v] eh
          rw [ev] at y1
          cases y1
          have hin : ls[v] ∈ ls := List.getElem_mem _
          have dnc := dn03.trans g.dn
          have hDc := dnc.di hD
          refine ⟨l, R, OW, tl, HM, DM, n, m, v, x, ps, ow, xl, ls, hs, M, ls[v], ls[x], hs[v], rfl, hDc, (hadj.same s2).dn hD2 (dn3.trans g.dn), (dn3.trans g.dn).keep hD2 (dice_nl (hD.same s1) hOW) how, hol, dnc.kt hD htl, hpl.dn hD dnc, g.dn.keep hD3 nHl z1, m1, m2, hn, hm, v2,
            fun p hp => ?_, ev, ex, eh, y2, ld.pl.nd _ hin, ld.pl.lt _ hin, fun s => ?_, ld.con _ hin, ld.touch hvx ev ex, dice_nl (hD.same s1) hOW, nHl, fun M' Hd dmd k1 k2 k3 k4 => qc Hd ⟨g.dn.dm dmd hDM, M', k1, k2, m3.step ld v3 ev ex eh k3 k4⟩⟩
          · have := hR.ok p hp
            omega
          · rw [hown]
            constructor
            · rintro ⟨l', e1, e2⟩
              rw [ex] at e1
              cases e1
              exact e2
            · exact fun z => ⟨_, ex, z⟩
        change tSeq _ _ _ _ _
        refine seq_mid (fun σ H5 => ∃ o10 o11 o12 o13 o14 o15, σ = [some (V.ref l), some (vn n), some (V.ref tp), some (vn m), some (V.ref tt), some (V.ref tl), some (V.ref R), some (V.ref OW), some (V.ref HM), some (V.ref DM), o10, o11, o12, o13, o14, o15, none, none, none] ∧ MvSt H3 H5 l DM n m ps (LedTo ls hs (nbr ts))) (fun N hN => ?_) (fun σ H5 hh => ?_)
        · refine for_it ?_
          simp only [iTup]
          walk_at "sd"
          refine ⟨⟨_, Or.inl (Or.inl ((dn03.trans g4.dn).kt hD htt))⟩, ?_⟩
          refine for_tup (K := K) (a := tt) (xs := xt) (fun i σ H5 => ∃ o14 o15, σ = [some (V.ref l), some (vn n), some (V.ref tp), some (vn m), some (V.ref tt), some (V.ref tl), some (V.ref R), some (V.ref OW), some (V.ref HM), some (V.ref DM), o10, o11, o12, o13, o14, o15, none, none, none] ∧ MvSt H3 H5 l DM n m ps (LedTo ls hs (nbr (ts.take i))))
            ⟨_, _, rfl, g4.mono fun M hM => ⟨fun c lv h e1 e2 => hM c lv h (e0 e1) e1 e2, fun v x z => by rcases z with z | z <;> simp at z⟩⟩ (fun i σ H5 _ ⟨_, _, _, z⟩ => Or.inl (Or.inl ((dn03.trans z.dn).kt hD htt))) (fun i x σ H5 hx ⟨o14, o15, e, g5⟩ => ?_) fun σ H5 ⟨o14, o15, e, g5⟩ => ?_
          · subst e
            have hi : i < ts.length := by rw [← hpt.len]; exact (List.getElem?_eq_some_iff.mp hx).1
            have hpi : ts[i]? = some ts[i] := List.getElem?_eq_getElem hi
            obtain ⟨t, a1, a2⟩ := hpt.at_ i ts[i] hpi
            rw [hx] at a1
            cases a1
            have tk : ts.take (i + 1) = ts.take i ++ [ts[i]] := by rw [List.take_add_one, hpi]; rfl
            have hin : ts[i] ∈ ts := List.getElem_mem hi
            generalize ts[i] = p at *
            refine g_pair ((dn03.trans g5.dn).kt hD a2) ?_
            walk_at "sd"
            have hnb : nbr ts p.1 p.2 := Or.inl hin
            refine step _ _ _ _ g5 hnb _ fun H6 g6 => ?_
            refine step _ _ _ _ g6 (nbr_symm hnb) _ fun H7 g7 => ?_
            refine g7.mono fun M hM => ⟨hM.home, fun v x hvx => hM.over v x ?_⟩
            rw [tk] at hvx
            rcases hvx with z | z
            · rcases List.mem_append.mp z with z | z
              · exact Or.inl (Or.inl (Or.inl z))
              · have := List.mem_singleton.mp z
                rw [← this]
                exact Or.inl (Or.inr ⟨rfl, rfl⟩)
            · rcases List.mem_append.mp z with z | z
              · exact Or.inl (Or.inl (Or.inr z))
              · have := List.mem_singleton.mp z
                rw [← this]
                exact Or.inr ⟨rfl, rfl⟩
          · subst e
            have lt : xt.length = ts.length := hpt.len
            rw [lt, List.take_length] at g5
            exact hN _ _ ⟨_, _, _, _, _, _, rfl, g5⟩
        · obtain ⟨o10, o11, o12, o13, o14, o15, rfl, g5⟩ := hh
          clear g4
          have dn5 : Dn l H2 H5 := dn3.trans g5.dn
          have hD5 := dn5.di hD2
          have nOl : OW ≠ l := dice_nl (hD.same s1) hOW
          have hOW5 := dn5.keep hD2 nOl how
          refine seq_mid (fun σ H6 => ∃ RD, σ = [some (V.ref l), some (vn n), some (V.ref tp), some (vn m), some (V.ref tt), some (V.ref tl), some (V.ref R), some (V.ref OW), some (V.ref HM), some (V.ref DM), o10, o11, o12, o13, o14, o15, some (V.ref RD), none, none] ∧ H5 RD = none ∧ RdSt H5 H6 l RD n m ow) (fun N hN => ?_) (fun σ H6 hh => ?_)
          · walk_at "sd"
            refine lc_it ?_
            simp only [iList]
            walk_at "sd"
            refine ⟨⟨_, Or.inl (Or.inl hOW5)⟩, fun RD hRD => ?_⟩
            refine lc_list (K := K) (xs := ow.map vo) (fun i H6 => Same H5 H6 ∧ H6 RD = some (.lst ((ow.take i).map vo)))
              ⟨L2.Same.new hRD, upd_same⟩ (fun i H _ z => Or.inl (Or.inl (z.1 _ _ hOW5))) (fun i x H6 hx z => ?_) fun H6 z => ?_
            · rw [List.getElem?_map] at hx
              cases hk : ow[i]? with
              | none => rw [hk] at hx; cases hx
              | some y =>
                rw [hk] at hx
                cases hx
                have tk : ow.take (i + 1) = ow.take i ++ [y] := by rw [List.take_add_one, hk]; rfl
                walk_at "sd"
                refine ⟨_, z.2, szt (by rw [List.length_map, List.length_take]; omega), z.1.mut hRD, ?_⟩
                rw [upd_same, tk, List.map_append]
                rfl
            · rw [List.length_map, List.take_length] at z
              exact hN _ _ ⟨RD, rfl, hRD, (Dn.refl l H5).same z.1, ow, z.2, hol, fun _ _ z => z, fun s c e => by
                obtain ⟨l', e1, _⟩ := (hown s c).mp e
                exact e0 e1⟩
          · obtain ⟨RD, rfl, hRD, w6⟩ := hh
            have nRl := dice_nl hD5 hRD
            have hm1 := ld.m1
            refine seq_mid (fun σ H7 => ∃ o13, σ = [some (V.ref l), some (vn n), some (V.ref tp), some (vn m), some (V.ref tt), some (V.ref tl), some (V.ref R), some (V.ref OW), some (V.ref HM), some (V.ref DM), o10, o11, o12, o13, o14, o15, some (V.ref RD), none, none] ∧ RdSt H5 H7 l RD n m ow) (fun N hN => ?_) (fun σ H7 hh => ?_)
            · refine for_it ?_
              simp only [iRng1]
              walk_at "sd"
              refine ⟨by omega, by omega, ?_⟩
              refine for_range (lo := 0) (n := (n : Int).toNat) (fun i σ H7 => ∃ o13, σ = [some (V.ref l), some (vn n), some (V.ref tp), some (vn m), some (V.ref tt), some (V.ref tl), some (V.ref R), some (V.ref OW), some (V.ref HM), some (V.ref DM), o10, o11, o12, o13, o14, o15, some (V.ref RD), none, none] ∧ RdSt H5 H7 l RD n m ow)
                ⟨_, rfl, w6⟩ (fun i σ H7 hi ⟨o13, e, w7⟩ => ?_) fun σ H7 ⟨o13, e, w7⟩ => hN _ _ ⟨_, e, w7⟩
              subst e
              have e3 : V.int (0 + (i : Int)) = vn i := by rw [Int.zero_add]
              rw [e3]
              have hio : i < ow.length := by omega
              have hD7 := w7.dn.di hD5
              walk_at "sd"
              refine q_ixO (s := i) (w7.dn.keep hD5 nOl hOW5) hio ?_
              cases eo : own ow i with
              | some c =>
                show (if vn c = V.non then _ else _)
                rw [if_neg (fun z => by cases z)]
                exact w7
              | none =>
                show (if V.non = V.non then _ else _)
                rw [if_pos rfl]
                refine ⟨l, 2, rfl, hD7, by decide, by decide, fun k H8 hk _ _ n8 => ?_⟩
                have hD8 := n8.di hD7
                obtain ⟨rs, r1, r2, r3, r4⟩ := w7.ex
                refine ⟨scal_ii.mpr trivial, ?_⟩
                refine ite2 (fun _ => ?_) (fun _ => ⟨w7.dn.trans n8, rs, n8.keep hD7 nRl r1, r2, r3, r4⟩)
                refine ⟨l, m, rfl, hD8, hm1, by omega, fun c H9 hc _ _ n9 => ?_⟩
                have n79 := n8.trans n9
                refine q_setO (some c) (n79.keep hD7 nRl r1) (by omega) ?_
                refine ⟨(w7.dn.trans n79).mut hRD, rs.set i (some c), upd_same, by rw [List.length_set]; exact r2, fun s d e => ?_, fun s d e => ?_⟩
                · have : s ≠ i := fun z => by rw [z, eo] at e; cases e
                  rw [own_ne _ this]
                  exact r3 s d e
                · by_cases z : s = i
                  · subst z
                    rw [own_eq _ (by omega)] at e
                    cases e
                    exact hc
                  · rw [own_ne _ z] at e
                    exact r4 s d e
            · obtain ⟨o13, rfl, w7⟩ := hh
              walk_at "sd"
              refine tdisp_it ?_
              intro d hd
              simp only [tPairs]
              walk_at "sd"
              obtain ⟨M, m1, m2, m3⟩ := g5.ex
              obtain ⟨rs, r1, r2, r3, r4⟩ := w7.ex
              have dn7 : Dn l H H7 := (dn03.trans g5.dn).trans w7.dn
              have hm7 := w7.dn.keep hD5 nHl (g5.dn.keep hD3 nHl z1)
              have sd0 : Same H7 (L2.upd H7 d (.dK [])) := L2.Same.new hd
              refine ⟨_, Or.inl ⟨Or.inl (Or.inl (sd0 _ _ r1)), fun t1 ht1 => ?_⟩⟩
              have st1 := L2.Same.new (o := .tup (rs.map vo)) ht1
              refine ⟨_, Or.inl ⟨Or.inl (Or.inl (st1 _ _ (sd0 _ _ hm7))), fun t2 ht2 => ?_⟩⟩
              have st2 := L2.Same.new (o := .tup (hs.map vn)) ht2
              refine ⟨st2 _ _ (st1 _ _ upd_same), wk n tp m tt t1 t2 DM, rfl, by show 7 ≤ 15; decide, ?_⟩
              have emk : mergeK [] (wk n tp m tt t1 t2 DM) = wk n tp m tt t1 t2 DM := by kernel_rfl
              rw [emk]
              have e1 : t1 ≠ d := fun e => by rw [e, upd_same] at ht1; cases ht1
              have e2 : t2 ≠ d := fun e => by rw [e, upd_ne e1.symm, upd_same] at ht2; cases ht2
              have sAll := ((sd0.trans st1).trans st2).mut (o := .dK (wk n tp m tt t1 t2 DM)) hd
              have hml : hs.length = m := by rw [z2, hxl]
              have rdv : ∀ (v : Nat) (lv : List Nat), ls[v]? = some lv → ∀ y ∈ lv, own rs y = some v := fun v lv e y hy => r3 y v ((hown y v).mpr ⟨lv, e, hy⟩)
              have okW : (⟨n, ps, m, ts, rs, hs, M⟩ : Wd).Ok := by
                refine ⟨hn1, hn, hR.ok, hR.asc, ld.m1, hm, ld.tie.ok, ld.tie.asc, ld.tcon, r2, r4, hml, ?_, fun h hh => ?_, fun c h e => ?_, m2.nd, m2.ok⟩
                · refine List.pairwise_iff_getElem.mpr fun i j hi hj hij e => ?_
                  obtain ⟨l1, y1, y2⟩ := z3 i _ (List.getElem?_eq_getElem hi)
                  obtain ⟨l2, y3, y4⟩ := z3 j _ (List.getElem?_eq_getElem hj)
                  have := ld.pl.dj i j l1 l2 _ y1 y3 y2 (e ▸ y4)
                  omega
                · obtain ⟨i, hi⟩ := List.mem_iff_getElem?.mp hh
                  obtain ⟨l1, y1, y2⟩ := z3 i _ hi
                  exact ld.pl.lt _ (List.mem_of_getElem? y1) _ y2
                · obtain ⟨l1, y1, y2⟩ := z3 c h e
                  exact rdv c l1 y1 h y2
              refine q d ⟨n, ps, m, ts, rs, hs, M⟩ _ (dn7.same sAll) ⟨tp, xs, tt, xt, t1, t2, DM, upd_same, sAll _ _ (dn7.kt hD ht), (hp.dn hD dn7).same sAll, sAll _ _ (dn7.kt hD htt), (hpt.dn hD dn7).same sAll, ?_, ?_, sAll _ _ (w7.dn.kp hD5 m1 fun _ z => by cases z)⟩ okW fun v x hvx => ?_
              · rw [upd_ne e1]
                exact st2 _ _ upd_same
              · rw [upd_ne e2]
                exact upd_same
              · obtain ⟨v1, v2, v3⟩ := ld.nbr_lt hvx
                have ev : ls[v]? = some ls[v] := List.getElem?_eq_getElem (by omega)
                have ex : ls[x]? = some ls[x] := List.getElem?_eq_getElem (by omega)
                have eh : hs[v]? = some hs[v] := List.getElem?_eq_getElem (by omega)
                have ek : hs[x]? = some hs[x] := List.getElem?_eq_getElem (by omega)
                obtain ⟨k1, k2⟩ := m3.home v _ _ ev eh
                obtain ⟨k3, k4⟩ := m3.home x _ _ ex ek
                exact changeOk_of (W := ⟨n, ps, m, ts, rs, hs, M⟩) eh ek (rdv v _ ev) (rdv x _ ex) k1 k3 k4 (m3.over v x hvx _ _ _ ev ex eh)
end
end SL
/-! law. -/
namespace SL
open PySem PySem.Spec PyProof.Rows L2
theorem g_trip {K : Frg} {H : Hp} {i j k : Nat} {σ : L2.St} {a : Addr} {x y z : V} {N : L2.St → Hp → Prop} (h : H a = some (.tup [x, y, z])) (q : N (((σ.set i (some x)).set j (some y)).set k (some z)) H) : gTup K 3 (gCons (gName i) (gCons (gName j) (gCons (gName k) gNil))) (.ref a) σ H N :=
  ⟨a, _, rfl, Or.inl (Or.inl h), rfl, _, _, rfl, _, _, rfl, _, _, rfl, rfl, q⟩
/-- the law's loop -/
structure LawSt (H : Hp) (l aw ab : Addr) (W : Wd) : Prop where
  di : DiceAt H l
  wa : WorldAt H aw W
  ex : ∃ Wb, WorldAt H ab Wb ∧ Wb.Ok
section
variable {P : Program} {w : World} {K : Frg} {mg : Str → Option Value} {base : Heap}
def spLaw (K : Frg) : Sp := fun vs H Q _ => ∃ (a : Addr) (ns : List Int), vs = [.ref a] ∧ SqL K H a (ns.map V.int) ∧ ns.length ≤ 63 ∧ ∀ H', Q (.bl true) H'
theorem fn_law (T : Txt K mg) {f : Addr} {fd : FuncData} (F : FunD K "law" "law" (defArgs s_law) (defBody s_law) (defScope s_law) [] [] f fd) : FnG P w K mg base 10 f fd ["_law_script"] (spLaw K) := by
  refine fnG_of F sc_law (fun vs H Q E h => ?_) (fun cdv A outer s H vs Q E hG hr h => ?_)
  · obtain ⟨a, ns, rfl, _⟩ := h
    rfl
  · have hu := hu_of hr
    obtain ⟨a, ns, rfl, ha, hl, q⟩ := h
    refine ⟨_, (pss_cons (ps_set (i := 1) sc_law.nd rfl (Or.inl rfl) (C8.pe_c (cal__law_dice T) hr (by decide) rfl (pa_cons (pv 0) pa_nil)))
      (pss_cons (ps_asg (C8.pe_c (cal__law_web T) hr (by decide) rfl (pa_cons (pv 1) (pa_cons pe_int pa_nil))) (k_gtup (K := K) (n := 2) rfl rfl (pgs_cons (pg_name (i := 2) sc_law.nd rfl (Or.inl rfl)) (pgs_cons (pg_name (i := 3) sc_law.nd rfl (Or.inl rfl)) pgs_nil))))
      (pss_cons (ps_set (i := 4) sc_law.nd rfl (Or.inl rfl) (pe_ix (k_ixL (K := K) rfl) (pe_lst (pa_cons pe_int (pa_cons pe_int pa_nil))) (pe_callTy call_intB (by rfl) T.b_int (by decide +kernel) (pa_cons (pe_cmpR op_eq (C8.pe_c (cal__law_draw T) hr (by decide) rfl (pa_cons (pv 1) (pa_cons pe_int pa_nil))) pe_int (nomark _)) pa_nil)) (fun _ _ => rfl)))
      (pss_cons (ps_asg (C8.pe_c (cal__law_told T) hr (by decide) rfl (pa_cons (pv 1) (pa_cons (pv 2) (pa_cons (pv 3) (pa_cons (pv 4) pa_nil))))) (k_gtup (K := K) (n := 3) rfl rfl (pgs_cons (pg_name (i := 5) sc_law.nd rfl (Or.inl rfl)) (pgs_cons (pg_name (i := 6) sc_law.nd rfl (Or.inl rfl)) (pgs_cons (pg_name (i := 7) sc_law.nd rfl (Or.inl rfl)) pgs_nil)))))
      (pss_cons (ps_set (i := 8) sc_law.nd rfl (Or.inl rfl) (C8.pe_c (cal__law_hand T) hr (by decide) rfl (pa_cons (pv 1) (pa_cons (pv 2) (pa_cons (pv 3) (pa_cons (pv 5) (pa_cons (pv 6) (pa_cons (pv 7) pa_nil))))))))
      (pss_cons (ps_if (PW.pt (pw_or (pt_not (pt_val (pe_cG (cal__law_right T) hG hr (by decide) rfl (pa_cons (pv 8) pa_nil)))) (pw_or1 (pt_not (pt_val (C8.pe_c (cal_keeps T) hr (by decide) rfl (pa_cons (C8.pe_c (cal__law_made T) hr (by decide) rfl (pa_cons (pv 8) pa_nil)) pa_nil))))))) (pss_one (ps_ret pe_bl)) pss_nil)
      (pss_cons (ps_if (pt_not (pt_val (pe_cG (cal__law_right T) hG hr (by decide) rfl (pa_cons (C8.pe_c (cal__law_random T) hr (by decide) rfl (pa_cons (pv 1) (pa_cons (pv 8) pa_nil))) pa_nil)))) (pss_one (ps_ret pe_bl)) pss_nil)
      (pss_cons (ps_set (i := 9) sc_law.nd rfl (Or.inl rfl) (pv 8))
      (pss_cons (ps_for PassesOwn.never rfl (pi_range1 rfl T.b_range (pa_cons pe_int pa_nil)) (pg_name (i := 10) sc_law.nd rfl (Or.inl rfl)) (pss_cons (ps_set (i := 9) sc_law.nd rfl (Or.inl rfl) (C8.pe_c (cal__law_bent T) hr (by decide) rfl (pa_cons (pv 1) (pa_cons (pv 9) pa_nil))))
        (pss_one (ps_if (PW.pt (pw_or (pt_not (pt_val (pe_cG (cal__law_right T) hG hr (by decide) rfl (pa_cons (pv 9) pa_nil)))) (pw_or1 (pt_not (pt_val (pe_cG (cal__law_right T) hG hr (by decide) rfl (pa_cons (C8.pe_c (cal__law_bent T) hr (by decide) rfl (pa_cons (pv 1) (pa_cons (pv 8) pa_nil))) pa_nil))))))) (pss_one (ps_ret pe_bl)) pss_nil))))
      (pss_one (ps_ret (pe_cG (cal__law_right T) hG hr (by decide) rfl (pa_cons (pv 8) pa_nil))))))))))))), ?_⟩
    walk_at "sd"
    refine ⟨a, ns, rfl, ha, hl, fun l H1 hD1 _ s1 => ?_⟩
    walk_at "sd"
    refine ⟨l, 12, rfl, hD1, by decide, by decide, fun t tp xs n ps H2 hD2 _ ht htp hp hR hn1 hn => ?_⟩
    refine g_pair ht ?_
    walk_at "sd"
    refine ⟨by decide, fun C hC => ?_⟩
    have sC := L2.Same.new (o := .lst [V.int 5, V.int 8]) hC
    refine ⟨l, 8, rfl, hD2.same sC, by decide, by decide, fun k H3 hk hD3 _ n3 => ?_⟩
    have hD2' := hD2.same sC
    have hC3 : H3 C = some (.lst [V.int 5, V.int 8]) := n3.keep hD2' (dice_nl hD2 hC) upd_same
    refine ⟨scal_ii.mpr trivial, ?_⟩
    obtain ⟨few, ef, f1, f8⟩ : ∃ few : Nat, [V.int 5, V.int 8][(if vn k = V.int 7 then 1 else 0)]? = some (vn few) ∧ 1 ≤ few ∧ few ≤ 8 := by
      split
      · exact ⟨8, rfl, by decide, by decide⟩
      · exact ⟨5, rfl, by decide, by decide⟩
    have ei : V.int (if vn k = V.int 7 then 1 else 0) = vn (if vn k = V.int 7 then 1 else 0) := by split <;> rfl
    rw [ei]
    refine q_ixL (v := vn few) hC3 ef ?_
    refine ⟨l, tp, n, few, xs, ps, rfl, hD3, n3.kt hD2' (sC _ _ htp), (hp.same sC).dn hD2' n3, hR, hn1, hn, f1, f8, fun t2 tt tl xt xl m ts ls H4 n4 ht4 htt hpt htl hpl ld hm => ?_⟩
    refine g_trip ht4 ?_
    have hD4 := n4.di hD3
    have tp4 := n4.kt hD3 (n3.kt hD2' (sC _ _ htp))
    have hp4 := ((hp.same sC).dn hD2' n3).dn hD3 n4
    walk_at "sd"
    refine ⟨l, tp, tt, tl, n, m, xs, xt, xl, ps, ts, ls, rfl, hD4, tp4, hp4, hR, hn1, hn, htt, hpt, htl, hpl, ld, by omega, fun aw W H5 n5 hA ok due => ?_⟩
    have hD5 := n5.di hD4
    walk_at "sd"
    refine ⟨aw, W, rfl, hA, ok, fun H6 s6 => ?_⟩
    walk_at "sd"
    have hA6 := hA.same s6
    refine ⟨aw, W, rfl, hA6, ok, fun h df H7 hand hdf hdf0 s7 => ?_⟩
    dsimp only
    refine ⟨h, df, W, none, none, rfl, hand, FactsAt.fresh hdf, BrOk.none, ok, fun b r H8 hw g1 g2 g3 g4 g5 => ?_⟩
    have s68 : Same H6 H8 := g3.base s7 hdf0 (fun k e => by cases e)
    have hb : b = true := g5.mpr due
    subst hb
    dsimp only
    refine ⟨_, rfl, ?_⟩
    rw [if_neg (by decide)]
    have s58 := s6.trans s68
    have hD8 := hD5.same s58
    have hA8 := hA.same s58
    refine ⟨l, aw, W, rfl, hD8, hA8, ok, fun ar Wr H9 n9 hAr okr => ?_⟩
    dsimp only
    refine ⟨ar, Wr, rfl, hAr, okr, fun H10 s10 => ?_⟩
    dsimp only
    refine ⟨_, rfl, ?_⟩
    rw [if_neg (by decide)]
    have w0 : LawSt H10 l aw aw W := ⟨(n9.di hD8).same s10, (hA8.dn hD8 n9).same s10, W, (hA8.dn hD8 n9).same s10, ok⟩
    refine for_it ?_
    simp only [iRng1]
    walk_at "sd"
    refine ⟨by decide, by decide, ?_⟩
    refine for_range (lo := 0) (n := (3 : Int).toNat) (fun i σ H11 => ∃ ab o10, σ = [some (V.ref a), some (V.ref l), some (vn n), some (V.ref tp), some (vn few), some (vn m), some (V.ref tt), some (V.ref tl), some (V.ref aw), some (V.ref ab), o10] ∧ LawSt H11 l aw ab W)
      ⟨aw, none, rfl, w0⟩ (fun i σ H11 hi ⟨ab, o10, e, w11⟩ => ?_) fun σ H11 ⟨ab, o10, e, w11⟩ => ?_
    · subst e
      obtain ⟨Wb, wb, okb⟩ := w11.ex
      walk_at "sd"
      refine ⟨l, ab, Wb, rfl, w11.di, wb, okb, fun ac Wc H12 n12 hc okc => ?_⟩
      have hD12 := n12.di w11.di
      have hA12 := w11.wa.dn w11.di n12
      walk_at "sd"
      refine ⟨ac, Wc, rfl, hc, okc, fun H13 s13 => ?_⟩
      walk_at "sd"
      have hD13 := hD12.same s13
      have hA13 := hA12.same s13
      refine ⟨l, aw, W, rfl, hD13, hA13, ok, fun ad Wd H14 n14 hd okd => ?_⟩
      dsimp only
      refine ⟨ad, Wd, rfl, hd, okd, fun H15 s15 => ?_⟩
      walk_at "sd"
      exact ⟨(n14.di hD13).same s15, (hA13.dn hD13 n14).same s15, Wc, ((hc.same s13).dn hD13 n14).same s15, okc⟩
    · subst e
      walk_at "sd"
      exact ⟨aw, W, rfl, w11.wa, ok, fun H12 _ => q H12⟩
end
end SL
/-! The head: facts behind the top. -/
namespace SL
open PySem PySem.Spec PyProof.Rows L2
abbrev R : PySem.W.OpenRow := PySem.W.OpenLaw.row PySem.Challenge.rw_storelands_k29_whole_keeps_by_own_runs
/-- facts of any form, and defs -/
abbrev FB := PySem.W.Frag → Bool
def obsS (fb : List FB) (fn : List He5.DefA) (K : PySem.W.Frag) : He.AlD := ((fb.all fun f => f K) && fn.all fun d => d.ok K, fn.map fun d => He5.fnA K (d.at_ K))
def valS (fn : List He5.DefA) : He.AlD := (true, fn.map He5.DefA.val)
def SaysS (fb : List FB) (fn : List He5.DefA) (K : PySem.W.Frag) : Prop := obsS fb fn K = valS fn
def obsSG (n : Nat) (fb : List FB) (fn : List He5.DefA) (g : Addr → Option Obj) : He.AlD := obsS fb fn (He.frG g (He.asD g n))
def hookS (n : Nat) (fb : List FB) (fn : List He5.DefA) : PySem.W.Hook where
  α := He.AlD
  obs := fun s => obsSG n fb fn s.heap.get?
  val := fun _ => valS fn
  says := fun _ h => ∃ K : PySem.W.Frag, K.In h ∧ SaysS fb fn K
  of := fun _ _ e => ⟨_, He.frG_in, e⟩
  keeps := fun _ _ _ ⟨K, hK, c⟩ k => ⟨K, PySem.W.Frag.In.keeps hK k, c⟩
theorem obsSG_eq {n : Nat} {fb : List FB} {fn : List He5.DefA} {g : Addr → Option Obj} {s : Shared} (h : ∀ a, g a = s.heap.get? a) : obsSG n fb fn g = (hookS n fb fn).obs s := by
  have e : g = s.heap.get? := funext h
  rw [e] <;> rfl
theorem SaysS.fact {fb : List FB} {fn : List He5.DefA} {K : PySem.W.Frag} (c : SaysS fb fn K) (i : Nat) {f : FB} (h : fb[i]? = some f) : f K = true := by
  have c1 := (He.ba (show ((fb.all fun f => f K) && fn.all fun d => d.ok K) = true from congrArg (fun z : He.AlD => z.1) c)).1
  exact List.all_eq_true.mp c1 f (List.mem_of_getElem? h)
theorem SaysS.def_ {fb : List FB} {fn : List He5.DefA} {K : PySem.W.Frag} (c : SaysS fb fn K) (i : Nat) {d : He5.DefA} (h : fn[i]? = some d) : ∃ fd, L2.FunD K d.name d.qual d.params d.body d.scope (d.dvs K) (d.kws K) (d.at_ K) fd := by
  have c2 := (He.ba (show ((fb.all fun f => f K) && fn.all fun d => d.ok K) = true from congrArg (fun z : He.AlD => z.1) c)).2
  have e : fn.map (fun d => He5.fnA K (d.at_ K)) = fn.map He5.DefA.val := congrArg (fun z : He.AlD => z.2) c
  have e2 : (fn.map fun d => He5.fnA K (d.at_ K))[i]? = (fn.map He5.DefA.val)[i]? := by rw [e]
  rw [List.getElem?_map, List.getElem?_map, h] at e2
  exact He5.DefA.funD (Option.some.inj e2) (List.all_eq_true.mp c2 d (List.mem_of_getElem? h))
/-- a def of the top; a class's __init__; a property's getter -/
def propG (K : PySem.W.Frag) (x f : Str) : Addr := match PySem.W.recIn K (He.ma K (He.ga K x) f) "property" with
  | some (.ref g :: _) => g
  | _ => 0
def dG (x : Str) (st : Stmt) : He5.DefA := ⟨fun K => He.ga K x, x, x, defArgs st, defBody st, defScope st, [], []⟩
def dI (x q : Str) (st : Stmt) : He5.DefA := ⟨fun K => He.ma K (He.ga K x) "__init__", "__init__", q, defArgs st, defBody st, defScope st, [], []⟩
def dP (x f q : Str) (st : Stmt) : He5.DefA := ⟨fun K => propG K x f, f, q, defArgs st, defBody st, defScope st, [], []⟩
def fG (x : Str) : FB := fun K => (He.Fa.glo x).ok K
def fFree (x : Str) : FB := fun K => (He.Fa.free x).ok K
def fInt (x : Str) (i : Int) : FB := fun K => (He.Fa.int x i).ok K
def fCls (x : Str) : FB := fun K => (He.Fa.cls x).ok K
def fNo (x f : Str) : FB := fun K => (He.Fa.noat x f).ok K
def fMkr (x : Str) : FB := fun K => (He.Fa.mkr x).ok K
def fProp (x f : Str) : FB := fun K => He.eqO (PySem.W.findIn K (.ref (He.ga K x)) f) (some (some (.ref (He.ma K (He.ga K x) f)))) && (He.eqO (PySem.W.specialIn K (.ref (He.ma K (He.ga K x) f)) "__get__") (some (some (.builtin "property.__get__"))) &&
  (decide (PySem.W.takesIn K (.ref (He.ma K (He.ga K x) f)) = some true) && (match PySem.W.recIn K (He.ma K (He.ga K x) f) "property" with
    | some (.ref _ :: _) => true
    | _ => false)))
def fn0 : List He5.DefA := [dG "is_integer" s_is_integer, dG "is_within" s_is_within, dG "is_index" s_is_index, dG "is_rising_pair" s_is_rising_pair, dG "are_rising_pairs" s_are_rising_pairs, dG "beside_lists" s_beside_lists, dG "reached" s_reached, dI "Book" "Book.__init__" s_Book, dP "Book" "size" "Book.size" s_Book_size, dG "tied_of" s_tied_of, dI "Web" "Web.__init__" s_Web, dP "Web" "size" "Web.size" s_Web_size, dG "beside_of" s_beside_of, dG "are_homes" s_are_homes, dG "is_reading" s_is_reading, dG "is_order" s_is_order, dG "is_move" s_is_move, dG "are_moves" s_are_moves, dI "Hand" "Hand.__init__" s_Hand, dG "walked" s_walked, dG "order_moments" s_order_moments, dG "homeward" s_homeward, dG "changes_of" s_changes_of, dG "break_of" s_break_of, dG "find_break" s_find_break, dG "keeps" s_keeps, dG "_law_dice" s__law_dice, dG "_law_draw" s__law_draw, dG "_law_pair" s__law_pair, dG "_law_web" s__law_web]
def fn1 : List He5.DefA := [dG "_law_rows" s__law_rows, dG "_law_owners" s__law_owners, dG "_law_touching" s__law_touching, dG "_law_begun" s__law_begun, dG "_law_told" s__law_told, dG "_law_tree" s__law_tree, dG "_law_led_over" s__law_led_over, dG "_law_hand" s__law_hand, dG "_law_made" s__law_made, dG "_law_bent" s__law_bent, dG "_law_walk" s__law_walk, dG "_law_homeward" s__law_homeward, dG "_law_changed" s__law_changed, dG "_law_changes" s__law_changes, dG "_law_keeps" s__law_keeps, dG "_law_right" s__law_right, dG "_law_random" s__law_random, dG "law" s_law]
def fn : List He5.DefA := fn0 ++ fn1
def fb0 : List FB := [fFree "len", fFree "isinstance", fFree "int", fFree "bool", fFree "tuple", fFree "dict", fFree "all", fFree "any", fFree "range", fFree "sorted", fFree "list", fFree "set", fFree "enumerate", fFree "repr", fFree "abs", fFree "min", fFree "max", fG "is_integer", fG "is_within", fG "is_index", fG "is_rising_pair", fG "are_rising_pairs", fG "beside_lists", fG "reached", fG "Book", fG "tied_of", fG "Web", fG "beside_of", fG "are_homes", fG "is_reading"]
def fb1 : List FB := [fG "is_order", fG "is_move", fG "are_moves", fG "Hand", fG "walked", fG "order_moments", fG "homeward", fG "changes_of", fG "break_of", fG "find_break", fG "keeps", fG "_law_dice", fG "_law_draw", fG "_law_pair", fG "_law_web", fG "_law_rows", fG "_law_owners", fG "_law_touching", fG "_law_begun", fG "_law_told", fG "_law_tree", fG "_law_led_over", fG "_law_hand", fG "_law_made", fG "_law_bent", fG "_law_walk", fG "_law_homeward", fG "_law_changed", fG "_law_changes", fG "_law_keeps"]
def fb2 : List FB := [fG "_law_right", fG "_law_random", fG "law", fInt "MOST_CONTENTS" 8, fInt "MOST_TIES" 28, fInt "MOST_STANDINGS" 10000, fInt "MOST_PUSHES" 100000, fInt "HOME" (-1), fCls "Web", fMkr "Web", fCls "Book", fMkr "Book", fCls "Hand", fMkr "Hand", fNo "Web" "kept_size", fNo "Web" "kept_pushes", fNo "Web" "kept_facts", fNo "Book" "kept_size", fNo "Book" "kept_ties", fNo "Book" "kept_facts", fNo "Hand" "kept_web", fNo "Hand" "kept_book", fNo "Hand" "kept_reading", fNo "Hand" "kept_homes", fNo "Hand" "kept_moves", fNo "Hand" "kept_facts", fProp "Web" "size", fProp "Book" "size"]
def fb : List FB := fb0 ++ fb1 ++ fb2
def lo0 : List Str := ["is_integer", "is_within", "is_index", "is_rising_pair", "are_rising_pairs", "beside_lists", "reached", "Book", "tied_of", "Web", "beside_of", "are_homes", "is_reading", "is_order", "is_move", "are_moves", "Hand", "walked", "order_moments", "homeward", "changes_of", "break_of", "find_break", "keeps", "_law_dice", "_law_draw", "_law_pair", "_law_web", "_law_rows", "_law_owners"]
def lo1 : List Str := ["_law_touching", "_law_begun", "_law_told", "_law_tree", "_law_led_over", "_law_hand", "_law_made", "_law_bent", "_law_walk", "_law_homeward", "_law_changed", "_law_changes", "_law_keeps", "_law_right", "_law_random", "LandsError", "BadWeb", "BadBook", "BadHand", "MOST_CONTENTS", "MOST_TIES", "MOST_STANDINGS", "MOST_PUSHES", "HOME", "__name__"]
def lo : List Str := lo0 ++ lo1
abbrev hk : PySem.W.Hook := hookS 5 fb fn
def ob (s : PySem.W.SharedT) : He.AlD := obsSG 5 fb fn (HandSHeadRun.getT s)
theorem ob_eq (s : PySem.W.SharedT) : ob s = hk.obs s.abs := obsSG_eq (HandSHeadRun.getT_eq s)
theorem run (w : World) : HandSHeadRun.RunEq R (PySem.W.view R.prog [62]) hk ob 6000 lo w := by
  intro os
  kernel_rfl
end SL
/-! The end: what the top holds, and the law. -/
namespace SL
open PySem PySem.Spec PyProof.Rows L2
theorem prop_ok {K : Frg} {x f : Str} (h : fProp x f K = true) : PropOf K (He.ga K x) f (He.ma K (He.ga K x) f) (propG K x f) := by
  obtain ⟨h1, h2⟩ := He.ba h
  obtain ⟨h2, h3⟩ := He.ba h2
  obtain ⟨h3, h4⟩ := He.ba h3
  refine ⟨He.eqO_ok h1, He.eqO_ok h2, of_decide_eq_true h3, ?_⟩
  unfold propG
  cases e : PySem.W.recIn K (He.ma K (He.ga K x) f) "property" with
  | none => rw [e] at h4; cases h4
  | some r =>
    rw [e] at h4
    match r, h4 with
    | .ref g :: rest, _ => exact ⟨rest, rfl⟩
theorem txt_of {K : Frg} {h : Heap} {mg : Str → Option Value} (X : K.In h) (G : h.Ns mainGlobals mg) (c : SaysS fb fn K) : Txt K mg where
  b_len := He.free_ok X G (c.fact 0 (f := fFree "len") rfl)
  b_isinstance := He.free_ok X G (c.fact 1 (f := fFree "isinstance") rfl)
  b_int := He.free_ok X G (c.fact 2 (f := fFree "int") rfl)
  b_bool := He.free_ok X G (c.fact 3 (f := fFree "bool") rfl)
  b_tuple := He.free_ok X G (c.fact 4 (f := fFree "tuple") rfl)
  b_dict := He.free_ok X G (c.fact 5 (f := fFree "dict") rfl)
  b_all := He.free_ok X G (c.fact 6 (f := fFree "all") rfl)
  b_any := He.free_ok X G (c.fact 7 (f := fFree "any") rfl)
  b_range := He.free_ok X G (c.fact 8 (f := fFree "range") rfl)
  b_sorted := He.free_ok X G (c.fact 9 (f := fFree "sorted") rfl)
  b_list := He.free_ok X G (c.fact 10 (f := fFree "list") rfl)
  b_set := He.free_ok X G (c.fact 11 (f := fFree "set") rfl)
  b_enumerate := He.free_ok X G (c.fact 12 (f := fFree "enumerate") rfl)
  b_repr := He.free_ok X G (c.fact 13 (f := fFree "repr") rfl)
  b_abs := He.free_ok X G (c.fact 14 (f := fFree "abs") rfl)
  b_min := He.free_ok X G (c.fact 15 (f := fFree "min") rfl)
  b_max := He.free_ok X G (c.fact 16 (f := fFree "max") rfl)
  c_MOST_CONTENTS := He.int_ok X G (c.fact 63 (f := fInt "MOST_CONTENTS" 8) rfl)
  c_MOST_TIES := He.int_ok X G (c.fact 64 (f := fInt "MOST_TIES" 28) rfl)
  c_MOST_STANDINGS := He.int_ok X G (c.fact 65 (f := fInt "MOST_STANDINGS" 10000) rfl)
  c_MOST_PUSHES := He.int_ok X G (c.fact 66 (f := fInt "MOST_PUSHES" 100000) rfl)
  c_HOME := He.int_ok X G (c.fact 67 (f := fInt "HOME" (-1)) rfl)
  d_is_integer := let ⟨fd, F⟩ := c.def_ 0 (d := dG "is_integer" s_is_integer) rfl; ⟨_, fd, He.glo_ok X G (c.fact 17 (f := fG "is_integer") rfl), F⟩
  d_is_within := let ⟨fd, F⟩ := c.def_ 1 (d := dG "is_within" s_is_within) rfl; ⟨_, fd, He.glo_ok X G (c.fact 18 (f := fG "is_within") rfl), F⟩
  d_is_index := let ⟨fd, F⟩ := c.def_ 2 (d := dG "is_index" s_is_index) rfl; ⟨_, fd, He.glo_ok X G (c.fact 19 (f := fG "is_index") rfl), F⟩
  d_is_rising_pair := let ⟨fd, F⟩ := c.def_ 3 (d := dG "is_rising_pair" s_is_rising_pair) rfl; ⟨_, fd, He.glo_ok X G (c.fact 20 (f := fG "is_rising_pair") rfl), F⟩
  d_are_rising_pairs := let ⟨fd, F⟩ := c.def_ 4 (d := dG "are_rising_pairs" s_are_rising_pairs) rfl; ⟨_, fd, He.glo_ok X G (c.fact 21 (f := fG "are_rising_pairs") rfl), F⟩
  d_beside_lists := let ⟨fd, F⟩ := c.def_ 5 (d := dG "beside_lists" s_beside_lists) rfl; ⟨_, fd, He.glo_ok X G (c.fact 22 (f := fG "beside_lists") rfl), F⟩
  d_reached := let ⟨fd, F⟩ := c.def_ 6 (d := dG "reached" s_reached) rfl; ⟨_, fd, He.glo_ok X G (c.fact 23 (f := fG "reached") rfl), F⟩
  i_Book := ⟨He.glo_ok X G (c.fact 24 (f := fG "Book") rfl), He.cls_ok (c.fact 70 (f := fCls "Book") rfl), let ⟨fd, F⟩ := c.def_ 7 (d := dI "Book" "Book.__init__" s_Book) rfl; ⟨_, fd, He.mkr_ok (c.fact 71 (f := fMkr "Book") rfl), F⟩⟩
  p_Book := ⟨He.cls_ok (c.fact 70 (f := fCls "Book") rfl), let ⟨fd, F⟩ := c.def_ 8 (d := dP "Book" "size" "Book.size" s_Book_size) rfl; ⟨_, _, fd, prop_ok (c.fact 87 (f := fProp "Book" "size") rfl), F⟩⟩
  d_tied_of := let ⟨fd, F⟩ := c.def_ 9 (d := dG "tied_of" s_tied_of) rfl; ⟨_, fd, He.glo_ok X G (c.fact 25 (f := fG "tied_of") rfl), F⟩
  i_Web := ⟨He.glo_ok X G (c.fact 26 (f := fG "Web") rfl), He.cls_ok (c.fact 68 (f := fCls "Web") rfl), let ⟨fd, F⟩ := c.def_ 10 (d := dI "Web" "Web.__init__" s_Web) rfl; ⟨_, fd, He.mkr_ok (c.fact 69 (f := fMkr "Web") rfl), F⟩⟩
  p_Web := ⟨He.cls_ok (c.fact 68 (f := fCls "Web") rfl), let ⟨fd, F⟩ := c.def_ 11 (d := dP "Web" "size" "Web.size" s_Web_size) rfl; ⟨_, _, fd, prop_ok (c.fact 86 (f := fProp "Web" "size") rfl), F⟩⟩
  d_beside_of := let ⟨fd, F⟩ := c.def_ 12 (d := dG "beside_of" s_beside_of) rfl; ⟨_, fd, He.glo_ok X G (c.fact 27 (f := fG "beside_of") rfl), F⟩
  d_are_homes := let ⟨fd, F⟩ := c.def_ 13 (d := dG "are_homes" s_are_homes) rfl; ⟨_, fd, He.glo_ok X G (c.fact 28 (f := fG "are_homes") rfl), F⟩
  d_is_reading := let ⟨fd, F⟩ := c.def_ 14 (d := dG "is_reading" s_is_reading) rfl; ⟨_, fd, He.glo_ok X G (c.fact 29 (f := fG "is_reading") rfl), F⟩
  d_is_order := let ⟨fd, F⟩ := c.def_ 15 (d := dG "is_order" s_is_order) rfl; ⟨_, fd, He.glo_ok X G (c.fact 30 (f := fG "is_order") rfl), F⟩
  d_is_move := let ⟨fd, F⟩ := c.def_ 16 (d := dG "is_move" s_is_move) rfl; ⟨_, fd, He.glo_ok X G (c.fact 31 (f := fG "is_move") rfl), F⟩
  d_are_moves := let ⟨fd, F⟩ := c.def_ 17 (d := dG "are_moves" s_are_moves) rfl; ⟨_, fd, He.glo_ok X G (c.fact 32 (f := fG "are_moves") rfl), F⟩
  i_Hand := ⟨He.glo_ok X G (c.fact 33 (f := fG "Hand") rfl), He.cls_ok (c.fact 72 (f := fCls "Hand") rfl), let ⟨fd, F⟩ := c.def_ 18 (d := dI "Hand" "Hand.__init__" s_Hand) rfl; ⟨_, fd, He.mkr_ok (c.fact 73 (f := fMkr "Hand") rfl), F⟩⟩
  d_walked := let ⟨fd, F⟩ := c.def_ 19 (d := dG "walked" s_walked) rfl; ⟨_, fd, He.glo_ok X G (c.fact 34 (f := fG "walked") rfl), F⟩
  d_order_moments := let ⟨fd, F⟩ := c.def_ 20 (d := dG "order_moments" s_order_moments) rfl; ⟨_, fd, He.glo_ok X G (c.fact 35 (f := fG "order_moments") rfl), F⟩
  d_homeward := let ⟨fd, F⟩ := c.def_ 21 (d := dG "homeward" s_homeward) rfl; ⟨_, fd, He.glo_ok X G (c.fact 36 (f := fG "homeward") rfl), F⟩
  d_changes_of := let ⟨fd, F⟩ := c.def_ 22 (d := dG "changes_of" s_changes_of) rfl; ⟨_, fd, He.glo_ok X G (c.fact 37 (f := fG "changes_of") rfl), F⟩
  d_break_of := let ⟨fd, F⟩ := c.def_ 23 (d := dG "break_of" s_break_of) rfl; ⟨_, fd, He.glo_ok X G (c.fact 38 (f := fG "break_of") rfl), F⟩
  d_find_break := let ⟨fd, F⟩ := c.def_ 24 (d := dG "find_break" s_find_break) rfl; ⟨_, fd, He.glo_ok X G (c.fact 39 (f := fG "find_break") rfl), F⟩
  d_keeps := let ⟨fd, F⟩ := c.def_ 25 (d := dG "keeps" s_keeps) rfl; ⟨_, fd, He.glo_ok X G (c.fact 40 (f := fG "keeps") rfl), F⟩
  d__law_dice := let ⟨fd, F⟩ := c.def_ 26 (d := dG "_law_dice" s__law_dice) rfl; ⟨_, fd, He.glo_ok X G (c.fact 41 (f := fG "_law_dice") rfl), F⟩
  d__law_draw := let ⟨fd, F⟩ := c.def_ 27 (d := dG "_law_draw" s__law_draw) rfl; ⟨_, fd, He.glo_ok X G (c.fact 42 (f := fG "_law_draw") rfl), F⟩
  d__law_pair := let ⟨fd, F⟩ := c.def_ 28 (d := dG "_law_pair" s__law_pair) rfl; ⟨_, fd, He.glo_ok X G (c.fact 43 (f := fG "_law_pair") rfl), F⟩
  d__law_web := let ⟨fd, F⟩ := c.def_ 29 (d := dG "_law_web" s__law_web) rfl; ⟨_, fd, He.glo_ok X G (c.fact 44 (f := fG "_law_web") rfl), F⟩
  d__law_rows := let ⟨fd, F⟩ := c.def_ 30 (d := dG "_law_rows" s__law_rows) rfl; ⟨_, fd, He.glo_ok X G (c.fact 45 (f := fG "_law_rows") rfl), F⟩
  d__law_owners := let ⟨fd, F⟩ := c.def_ 31 (d := dG "_law_owners" s__law_owners) rfl; ⟨_, fd, He.glo_ok X G (c.fact 46 (f := fG "_law_owners") rfl), F⟩
  d__law_touching := let ⟨fd, F⟩ := c.def_ 32 (d := dG "_law_touching" s__law_touching) rfl; ⟨_, fd, He.glo_ok X G (c.fact 47 (f := fG "_law_touching") rfl), F⟩
  d__law_begun := let ⟨fd, F⟩ := c.def_ 33 (d := dG "_law_begun" s__law_begun) rfl; ⟨_, fd, He.glo_ok X G (c.fact 48 (f := fG "_law_begun") rfl), F⟩
  d__law_told := let ⟨fd, F⟩ := c.def_ 34 (d := dG "_law_told" s__law_told) rfl; ⟨_, fd, He.glo_ok X G (c.fact 49 (f := fG "_law_told") rfl), F⟩
  d__law_tree := let ⟨fd, F⟩ := c.def_ 35 (d := dG "_law_tree" s__law_tree) rfl; ⟨_, fd, He.glo_ok X G (c.fact 50 (f := fG "_law_tree") rfl), F⟩
  d__law_led_over := let ⟨fd, F⟩ := c.def_ 36 (d := dG "_law_led_over" s__law_led_over) rfl; ⟨_, fd, He.glo_ok X G (c.fact 51 (f := fG "_law_led_over") rfl), F⟩
  d__law_hand := let ⟨fd, F⟩ := c.def_ 37 (d := dG "_law_hand" s__law_hand) rfl; ⟨_, fd, He.glo_ok X G (c.fact 52 (f := fG "_law_hand") rfl), F⟩
  d__law_made := let ⟨fd, F⟩ := c.def_ 38 (d := dG "_law_made" s__law_made) rfl; ⟨_, fd, He.glo_ok X G (c.fact 53 (f := fG "_law_made") rfl), F⟩
  d__law_bent := let ⟨fd, F⟩ := c.def_ 39 (d := dG "_law_bent" s__law_bent) rfl; ⟨_, fd, He.glo_ok X G (c.fact 54 (f := fG "_law_bent") rfl), F⟩
  d__law_walk := let ⟨fd, F⟩ := c.def_ 40 (d := dG "_law_walk" s__law_walk) rfl; ⟨_, fd, He.glo_ok X G (c.fact 55 (f := fG "_law_walk") rfl), F⟩
  d__law_homeward := let ⟨fd, F⟩ := c.def_ 41 (d := dG "_law_homeward" s__law_homeward) rfl; ⟨_, fd, He.glo_ok X G (c.fact 56 (f := fG "_law_homeward") rfl), F⟩
  d__law_changed := let ⟨fd, F⟩ := c.def_ 42 (d := dG "_law_changed" s__law_changed) rfl; ⟨_, fd, He.glo_ok X G (c.fact 57 (f := fG "_law_changed") rfl), F⟩
  d__law_changes := let ⟨fd, F⟩ := c.def_ 43 (d := dG "_law_changes" s__law_changes) rfl; ⟨_, fd, He.glo_ok X G (c.fact 58 (f := fG "_law_changes") rfl), F⟩
  d__law_keeps := let ⟨fd, F⟩ := c.def_ 44 (d := dG "_law_keeps" s__law_keeps) rfl; ⟨_, fd, He.glo_ok X G (c.fact 59 (f := fG "_law_keeps") rfl), F⟩
  d__law_right := let ⟨fd, F⟩ := c.def_ 45 (d := dG "_law_right" s__law_right) rfl; ⟨_, fd, He.glo_ok X G (c.fact 60 (f := fG "_law_right") rfl), F⟩
  d__law_random := let ⟨fd, F⟩ := c.def_ 46 (d := dG "_law_random" s__law_random) rfl; ⟨_, fd, He.glo_ok X G (c.fact 61 (f := fG "_law_random") rfl), F⟩
  d_law := let ⟨fd, F⟩ := c.def_ 47 (d := dG "law" s_law) rfl; ⟨_, fd, He.glo_ok X G (c.fact 62 (f := fG "law") rfl), F⟩
  n_Web_kept_size := He.noat_ok (c.fact 74 (f := fNo "Web" "kept_size") rfl)
  n_Web_kept_pushes := He.noat_ok (c.fact 75 (f := fNo "Web" "kept_pushes") rfl)
  n_Web_kept_facts := He.noat_ok (c.fact 76 (f := fNo "Web" "kept_facts") rfl)
  n_Book_kept_size := He.noat_ok (c.fact 77 (f := fNo "Book" "kept_size") rfl)
  n_Book_kept_ties := He.noat_ok (c.fact 78 (f := fNo "Book" "kept_ties") rfl)
  n_Book_kept_facts := He.noat_ok (c.fact 79 (f := fNo "Book" "kept_facts") rfl)
  n_Hand_kept_web := He.noat_ok (c.fact 80 (f := fNo "Hand" "kept_web") rfl)
  n_Hand_kept_book := He.noat_ok (c.fact 81 (f := fNo "Hand" "kept_book") rfl)
  n_Hand_kept_reading := He.noat_ok (c.fact 82 (f := fNo "Hand" "kept_reading") rfl)
  n_Hand_kept_homes := He.noat_ok (c.fact 83 (f := fNo "Hand" "kept_homes") rfl)
  n_Hand_kept_moves := He.noat_ok (c.fact 84 (f := fNo "Hand" "kept_moves") rfl)
  n_Hand_kept_facts := He.noat_ok (c.fact 85 (f := fNo "Hand" "kept_facts") rfl)
theorem facts {P : Program} {w : World} {K : Frg} {h : Heap} {mg : Str → Option Value} {f : Addr} (X : K.In h) (G : h.Ns mainGlobals mg) (hfa : mg ("law" : Str) = some (.ref f)) (c : SaysS fb fn K) :
    ∃ fd : FuncData, (∀ (s : Shared) (v : Value), BindsTo s fd ⟨[v], []⟩ [("_law_script", v)]) ∧ ∀ base : Heap, K.In base → base.Ns mainGlobals mg → FnG P w K mg base 10 f fd ["_law_script"] (spLaw K) := by
  have T := txt_of X G c
  obtain ⟨f', fd, hm, F⟩ := T.d_law
  have e := hfa.symm.trans hm
  cases e
  have b := FunD.bindsA (ps := ["_law_script"]) F fun _ _ _ _ _ _ us hl => match us, hl with | [_], _ => rfl
  exact ⟨fd, fun s v => b s [v] rfl, fun base _ _ => fn_law T F⟩
end SL
open PySem PySem.W PySem.Calls PyProof.Rows
theorem PySem.Challenge.cw_storelands_k29_whole_keeps_by_own_runs_holds : PySem.Challenge.rw_storelands_k29_whole_keeps_by_own_runs.Holds := by
  w_on; o_law
  refine HandSHeadRun.head_any (r := OpenLaw.row PySem.Challenge.rw_storelands_k29_whole_keeps_by_own_runs) (q := view (OpenLaw.row PySem.Challenge.rw_storelands_k29_whole_keeps_by_own_runs).prog [62]) (H := SL.hk) (ob := SL.ob) (M := 6000) (loose := SL.lo) (d := HandSHeadRun.topDef (OpenLaw.row PySem.Challenge.rw_storelands_k29_whole_keeps_by_own_runs).prog 62) (kwd := []) SL.ob_eq
    (by kernel_rfl) (fun s => by kernel_rfl) SL.run (by kernel_rfl) (by kernel_rfl) (by kernel_rfl) (by rfl) (by first | assumption | decide +kernel) (by decide +kernel) ⟨rfl, rfl, rfl, rfl, rfl, by decide +kernel⟩ ?hw ?hc
  case hw => w_witness2
  case hc =>
    refine SL.law_end (l := PySem.Challenge.rw_storelands_k29_whole_keeps_by_own_runs) (n := 63) (k := 10) (x := "_law_script") rfl (by decide) (by kernel_rfl) ⟨rfl, by decide, by decide⟩ ?F
    intro w mg fa h Y G hmg0
    obtain ⟨K, KX, c⟩ := Y
    have hmg : mg ("law" : PySem.Str) = some (.ref fa) := by
      have e : (HandSHeadRun.topDef (OpenLaw.row PySem.Challenge.rw_storelands_k29_whole_keeps_by_own_runs).prog 62).name = ("law" : PySem.Str) := by kernel_rfl
      rw [← e]
      exact hmg0
    obtain ⟨fd, hb, hF⟩ := SL.facts (P := (PySem.Challenge.rw_storelands_k29_whole_keeps_by_own_runs).prog) (w := w) KX G hmg c
    exact ⟨K, fd, SL.spLaw K, KX, hb, fun H a ns hl hS => ⟨a, ns, rfl, hS, hl, fun _ => rfl⟩, hF⟩
