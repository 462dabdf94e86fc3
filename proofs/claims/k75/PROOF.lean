import PyProof.Rows.All
import Wide.All
import OpenK.AllK
import Wide.FinOn
import KE.KStateDown
import Lean
import HandS.ForMost
import HandS.ForExc
import HandS.Flow
import HandS.Defaults
import HandS.Star
import HandS.ClsMeth
import HandS.OwnEq
import HandS.SlotsOwn
import HandS.IsInst
import HandS.Strs
import HandS.SetBool
import HandS.SetKeys
import HandS.DictComp
import HandS.DictTup
import HandS.TupAny
import HandS.Zip
import HandS.Deep
import HandS.DeepEq
import HandS.GenCall
import HandS.GenList
import HandS.GenYield
import HandS.TryMany
import HandS.ExcInit
import HandS.ExcField
import HandS.ExcSuper
import HandS.FStr
import HandS.Head0
import HandS.Head1
import HandS.Head2
import HandS.HeadEnd
import HandS.HeadHook1
import HandS.HeadHook2
import KE.KSuper
import KE.KDictWalk
import KE.KDictItemsList
import KE.GoesRaise
import HandS.SetFor
import HandS.ExcOwn
import HandS.WordsExc
import HandS.Nested
import KE.KExcSuper
import HandS.Conv
import PySem.Challenge.RW_everyfield_k75_whole_points_and_lines
set_option Elab.async false
set_option linter.all false
set_option maxRecDepth 100000
set_option maxHeartbeats 4000000
set_option Elab.async false
set_option linter.all false
set_option maxRecDepth 100000
set_option maxHeartbeats 4000000
namespace K75
open PySem PySem.Spec PyProof.Rows L2

/-! own operators, own classes by a local name, classmethods without arguments -/
section
variable {X : Cx} {CX : CXT} {k i : Nat} {C g : Addr} {sp : Sp} {E : XK} {x : Str} {e o : Expr} {es : List Expr} {t : TA} {ta : TE} {p pos apos : Pos}

/-- a new instance by the class that a local name holds -/
def tNewV (i : Nat) (C : Addr) (sp : Sp) (E : XK) (t : TA) : TE := fun σ H Q => σ[i]? = some (some (.ref C)) ∧ t σ H fun vs H1 => ∀ x dx, H1 x = none → H1 dx = none → dx ≠ x →
  sp (V.ref x :: vs) (upd (upd H1 dx (.own x)) x (.ins C dx [])) (fun v H2 => v = .non ∧ Q (.ref x) H2) E
theorem pe_newV (M : Mk X.K C g) (F : FnR X.prog X.w X.K X.mg X.base CX k g sp) (hr : Room (k + 1) X.A) (hx : Passes CX X E) (hN : X.N[i]? = some x) (hv : Vis X.env.scope x) (ha : PA X (e :: es) t)
    (hd : (x == ("__debug__" : Str)) = false := by decide) (hcd : (x == ("__classdict__" : Str)) = false := by decide)
    (he : starEach (e :: es) X.env = (false, eval e X.env) :: starEach es X.env := by rfl) (hpl : (backTo pos (starEach es X.env)).any (·.1) = false := by rfl) :
    PE X (.Call (.Name x p) (e :: es) [] pos) (tNewV i C sp E t) := by
  refine ⟨fun pins s σ H Q I h => ?_⟩
  obtain ⟨hs, h⟩ := h
  refine wpAny_Call_Name_kw (thn ((pe_var (pos := p) (i := i) hN hv hd hcd).run pins s σ H (fun v H1 => v = .ref C ∧ H1 = H) I ⟨.ref C, hs, rfl, rfl⟩) fun u s1 ⟨v, H1, I1, r1, ev, eH⟩ => ?_)
  subst ev
  rw [eH] at I1
  cases r1
  refine PySem.W.callWith_K (h₀ := X.base) I.ok.mod.kin M.kp (thn (ha.run pos pins s1 σ H _ I1 h) fun us s2 ⟨vs, H2, I2, r, q⟩ => ⟨I2.kIn, ?_⟩) he hpl
  exact StX.run_makeR M F hr hx I2 r q

/-- an instance at a -/
theorem inst_of {pins : List (Addr × Obj)} {σ : L2.St} {H : Hp} {s : Shared} {a dx : Addr} {fs : List (Str × V)} (I : Inv X pins σ H s) (h : H a = some (.ins C dx fs)) : ∃ od, PySem.W.InstAt s.heap a (PySem.W.instObj C dx) C (some od) := by
  obtain ⟨mA, O, _⟩ := ins_get I.hok h
  obtain ⟨od, J, _⟩ := O.look
  exact ⟨od, J⟩

/-- x op y, two instances of one class with its own def of op -/
def rBin (C : Addr) (sp : Sp) (E : XK) : R2 := fun x y H Q => ∃ a b dx dy fs gs, x = .ref a ∧ y = .ref b ∧ H a = some (.ins C dx fs) ∧ H b = some (.ins C dy gs) ∧ sp [x, y] H Q E
theorem op_bin {op : Operator} (hc : PySem.W.selfFirst X.K C = true) (hs : PySem.W.findIn X.K (.ref C) (PySem.dunder op.info.2) = some (some (.ref g))) (hf : PySem.W.isFn X.K (.ref g) = true)
    (F : FnR X.prog X.w X.K X.mg X.base CX k g sp) (hr : Room k X.A) (hx : Passes CX X E) : OpR X (binaryOp op) (rBin C sp E) := by
  intro pins s σ H x y v u Q I rx ry h
  obtain ⟨a, b, dx, dy, fs, gs, rfl, rfl, ha, hb, q⟩ := h
  cases (show v = Value.ref a from rx)
  cases (show u = Value.ref b from ry)
  obtain ⟨od, J⟩ := inst_of I ha
  obtain ⟨od', J'⟩ := inst_of I hb
  obtain ⟨m, hF⟩ := I.fr
  refine PySem.W.binop_K hF I.ok.mod.kin J J'.type hc hs hf ?_
  refine wpAny_mono (wpAny_call (run_fnR (us := [.ref a, .ref b]) (vs := [.ref a, .ref b]) F hr hx I (.cons rfl (.cons rfl .nil)) q)) (fun w s' z => ?_) fun _ _ x => x
  obtain ⟨z', H', I', rz, qz⟩ := z
  exact SlX.cmpback rz ⟨z', H', I', rz, qz⟩
/-- op x -/
def rUn1 (C : Addr) (sp : Sp) (E : XK) : V → Hp → VK → Prop := fun x H Q => ∃ a dx fs, x = .ref a ∧ H a = some (.ins C dx fs) ∧ sp [x] H Q E
theorem un_ownNeg (hs : PySem.W.findIn X.K (.ref C) "__neg__" = some (some (.ref g))) (hf : PySem.W.isFn X.K (.ref g) = true)
    (F : FnR X.prog X.w X.K X.mg X.base CX k g sp) (hr : Room k X.A) (hx : Passes CX X E) : UnR X (unaryOp .USub) (rUn1 C sp E) := by
  intro pins s σ H x v Q I rx h
  obtain ⟨a, dx, fs, rfl, ha, q⟩ := h
  cases (show v = Value.ref a from rx)
  obtain ⟨od, J⟩ := inst_of I ha
  obtain ⟨m, hF⟩ := I.fr
  exact PySem.W.ksp_neg hF I.ok.mod.kin J hs hf (wpAny_call (run_fnR (us := [.ref a]) (vs := [.ref a]) F hr hx I (.cons rfl .nil) q))
theorem un_ownInv (hs : PySem.W.findIn X.K (.ref C) "__invert__" = some (some (.ref g))) (hf : PySem.W.isFn X.K (.ref g) = true)
    (F : FnR X.prog X.w X.K X.mg X.base CX k g sp) (hr : Room k X.A) (hx : Passes CX X E) : UnR X (unaryOp .Invert) (rUn1 C sp E) := by
  intro pins s σ H x v Q I rx h
  obtain ⟨a, dx, fs, rfl, ha, q⟩ := h
  cases (show v = Value.ref a from rx)
  obtain ⟨od, J⟩ := inst_of I ha
  obtain ⟨m, hF⟩ := I.fr
  exact PySem.W.ksp_inv hF I.ok.mod.kin J hs hf (wpAny_call (run_fnR (us := [.ref a]) (vs := [.ref a]) F hr hx I (.cons rfl .nil) q))
/-- y in x, by x's own __contains__ that answers a bool -/
def rInO (C : Addr) (sp : Sp) (E : XK) : R2 := fun y x H Q => ∃ a dx fs, x = .ref a ∧ H a = some (.ins C dx fs) ∧ sp [x, y] H (fun z H' => ∃ b, z = .bl b ∧ Q z H') E
theorem op_inOwn (hs : PySem.W.findIn X.K (.ref C) "__contains__" = some (some (.ref g))) (hf : PySem.W.isFn X.K (.ref g) = true)
    (F : FnR X.prog X.w X.K X.mg X.base CX k g sp) (hr : Room k X.A) (hx : Passes CX X E) : OpR X (compareOp .In) (rInO C sp E) := by
  intro pins s σ H y x u v Q I ry rx h
  obtain ⟨a, dx, fs, rfl, ha, q⟩ := h
  cases (show v = Value.ref a from rx)
  obtain ⟨od, J⟩ := inst_of I ha
  obtain ⟨m, hF⟩ := I.fr
  refine PySem.W.in_K hF I.ok.mod.kin J hs hf ?_
  refine wpAny_mono (wpAny_call (run_fnR (us := [.ref a, u]) (vs := [.ref a, y]) F hr hx I (.cons rfl (.cons ry .nil)) q)) (fun w s' z => ?_) fun _ _ x => x
  obtain ⟨z', H', I', rz, b, eb, qz⟩ := z
  subst eb
  cases (show w = Value.bool b from rz)
  exact wpAny_truthy_bool ⟨.bl b, H', I', rfl, qz⟩
/-- x == y by x's own __eq__: y an instance, or a tuple, of a type that is not below x's class -/
def OfTy (K : PySem.W.Frag) (H : Hp) (y : V) (tb : Value) : Prop := (∃ b C' dy gs, y = .ref b ∧ H b = some (.ins C' dy gs) ∧ tb = .ref C') ∨ ∃ b ys, y = .ref b ∧ SqT K H b ys ∧ tb = .type "tuple"
theorem OfTy.looks {pins : List (Addr × Obj)} {σ : L2.St} {H : Hp} {s : Shared} {M : Model} {y : V} {u tb : Value} (I : Inv X pins σ H s) (ry : RelV y u) (h : OfTy X.K H y tb) : PySem.W.Looks M s.heap (typeOf u) tb := by
  rcases h with ⟨b, C', dy, gs, rfl, hb, rfl⟩ | ⟨b, ys, rfl, hb, rfl⟩
  · cases (show u = Value.ref b from ry)
    obtain ⟨od', J'⟩ := inst_of I hb
    exact J'.type
  · cases (show u = Value.ref b from ry)
    obtain ⟨its, r, ⟨o, ho, hc, n, hd⟩, hz⟩ := I.tuple hb
    intro A Q E s' k q
    exact wpAny_typeOf (show s'.TypeIs (.ref b) "tuple" from ⟨o, k _ _ ho, hc⟩) q
def rEqO (K : PySem.W.Frag) (C : Addr) (sp : Sp) (E : XK) : R2 := fun x y H Q => ∃ a dx fs tb, x = .ref a ∧ H a = some (.ins C dx fs) ∧ OfTy K H y tb ∧ PySem.W.notFirst K C tb = true ∧ sp [x, y] H Q E
theorem op_eqOwn (hs : PySem.W.findIn X.K (.ref C) "__eq__" = some (some (.ref g))) (hf : PySem.W.isFn X.K (.ref g) = true)
    (F : FnR X.prog X.w X.K X.mg X.base CX k g sp) (hr : Room k X.A) (hx : Passes CX X E) : OpR X (compareOp .Eq) (rEqO X.K C sp E) := by
  intro pins s σ H x y v u Q I rx ry h
  obtain ⟨a, dx, fs, tb, rfl, ha, hy, hn, q⟩ := h
  cases (show v = Value.ref a from rx)
  obtain ⟨od, J⟩ := inst_of I ha
  obtain ⟨m, hF⟩ := I.fr
  show wpAny (model X.prog X.w) X.A (richCompare .Eq (.ref a) u) (EP X pins σ Q) X.xe s
  refine PySem.W.cmp_K (op := .Eq) (tb := tb) hr.units0 hF I.ok.mod.kin J (hy.looks I ry) hn hs hf ?_
  refine wpAny_mono (wpAny_call (run_fnR (us := [.ref a, u]) (vs := [.ref a, y]) F hr hx I (.cons rfl (.cons ry .nil)) q)) (fun w s' z => ?_) fun _ _ x => x
  obtain ⟨z', H', I', rz, qz⟩ := z
  exact SlX.cmpback rz ⟨z', H', I', rz, qz⟩
end
end K75
set_option Elab.async false
set_option linter.all false
set_option maxRecDepth 100000
set_option maxHeartbeats 4000000
namespace K75
open PySem PySem.Spec PyProof.Rows L2

/-! dicts with tuple keys, frozen where they stand -/
section
variable {X : Cx} {e : Expr} {te : TE} {pos : Pos}
/-- the thing that the expression's end names is frozen from here on -/
def tFrz (te : TE) : TE := fun σ H Q => te σ H fun v H1 => ∃ d u, H1 d = some u ∧ Mut (some u) ∧ ∀ od, Q v (upd H1 d (.frz od u))
theorem pe_frz (h : PE X e te) : PE X e (tFrz te) := by
  refine ⟨fun pins s σ H Q I hw => ?_⟩
  refine thn (h.run pins s σ H _ I hw) fun v s1 ⟨x, H1, I1, r, d, u, hd, mu, q⟩ => ?_
  obtain ⟨od, I2⟩ := I1.lock hd mu
  exact ⟨x, _, I2, r, q od⟩
end

section
variable {X : Cx} {pins : List (Addr × Obj)} {σ : L2.St} {H : Hp} {s : Shared} {d : Addr} {o : Obj}
theorem frzTV {kvs : List (List Key × V)} (I : Inv X pins σ H s) (h : H d = some (.frz o (.dT kvs))) :
    (d == sysModules) = false ∧ kvs.length ≤ sizeLine ∧ o.ExactDict ∧ s.heap.get? d = some o ∧ ∃ (es : Array DictEntry) (ep : Nat), o.data = .dict es ep ∧ s.heap.DictRaw d es ep ∧ es.size = kvs.length ∧
      ∀ (i : Nat) (k : List Key) (v : V), kvs[i]? = some (k, v) → ∃ (en : DictEntry) (q : Addr), es[i]? = some en ∧ en.key = .ref q ∧ H q = some (.tup (k.map kV)) ∧ RelV v en.val := by
  obtain ⟨hd, z, hs, xs, pr, o', es, ep, ho, hx, hdt, he, _⟩ := I.hok d _ h
  rw [hd] at ho
  cases ho
  refine ⟨hs, z, hx, hd, es, ep, hdt, ⟨o, hd, hx, hdt⟩, ?_, fun i k v e => ?_⟩
  · have l1 : es.size = xs.length := size_of_entries he
    have l2 : kvs.length = xs.length := Paired.length pr
    omega
  · obtain ⟨b, hb, e1, e2, e3⟩ := L2.paired_get pr e
    have q := entry_at he i
    rw [hb] at q
    exact ⟨_, b.2.1, q, rfl, e2, e3⟩
end

/-- the items of the frozen dict at d: each a new tuple of the key's own tuple and the value -/
def ItiT (d : Addr) (o : Obj) (kvs : List (List Key × V)) : It :=
  ⟨fun i H => H d = some (.frz o (.dT kvs)) ∧ i < kvs.length,
   fun i H x H' => ∃ (T q : Addr) (k : List Key) (v : V), kvs[i]? = some (k, v) ∧ x = .ref T ∧ H T = none ∧ H q = some (.tup (k.map kV)) ∧ H' = upd H T (.tup [.ref q, v]),
   fun i H => H d = some (.frz o (.dT kvs)) ∧ kvs.length ≤ i⟩
def ItdT (d : Addr) (o : Obj) (kvs : List (List Key × V)) : It :=
  ⟨fun i H => H d = some (.frz o (.dT kvs)) ∧ i < kvs.length, fun i H x H' => H' = H ∧ ∃ k, kvs[i]? = some (k, x), fun i H => H d = some (.frz o (.dT kvs)) ∧ kvs.length ≤ i⟩
section
variable {P : Program} {w : World} {K : PySem.W.Frag} {tg : Expr} {d : Addr} {o : Obj} {es : Array DictEntry} {ep : Nat}
theorem turn_valsT {kvs : List (List Key × V)} (it : Addr) (hod : o.data = .dict es ep) : Turn P w K tg (ItdT d o kvs) [it] it (fun i h => h.IsValIter it d i kvs.length ep) where
  mem := by simp
  obj := fun i h st b hb => by
    obtain rfl : b = it := by simpa using hb
    obtain ⟨oi, e, c, dd⟩ := st
    exact ⟨oi, e, fun v z => by rw [dd] at z; cases z⟩
  keep := fun i h h' st k => st.at fun oi e => k it (by simp) oi e
  item := by
    intro X hP hw hK hc i pins s σ H E I hf st hg
    subst hP hw hK
    obtain ⟨hd, hi⟩ := hg
    obtain ⟨f0, f1, f2, f3, f4, f5⟩ := hf it (by simp)
    obtain ⟨hs, hz, hx, hgd, es', ep', hdt, raw, hsz, ent⟩ := frzTV I hd
    obtain ⟨rfl, rfl⟩ := dict_ep hod hdt
    obtain ⟨⟨k, v⟩, hkv⟩ : ∃ p, kvs[i]? = some p := ⟨kvs[i], List.getElem?_eq_getElem hi⟩
    obtain ⟨en, q, hen, hkey, hq, rv⟩ := ent i k v hkv
    rw [← hsz] at st
    have hi' : i < es'.size := by omega
    have een : es'[i] = en := by
      rw [Array.getElem?_eq_getElem hi'] at hen
      exact Option.some.inj hen
    refine wpAny_pyNext_values_item_raw st raw hi' fun h' st' sb => ?_
    have I1 : Inv X pins σ H { s with heap := h' } := I.turned (t' := s.toks) (fun b ob hb e => (sb.2 b hb).trans e) f0 f1 f3 f4 f5
    obtain ⟨oi, e, c, dd⟩ := id st'
    refine ⟨_, rfl, go_of (s := { s with heap := h' }) e c dd (by decide) ⟨v, H, I1, by rw [een]; exact rv, ⟨rfl, k, hkv⟩, ?_, fun b hb => (hf b hb).1⟩⟩
    show h'.IsValIter it d (i + 1) kvs.length _
    rw [← hsz]
    exact st'
  done := by
    intro X hP hw hK hc i pins s σ H E I hf st hg
    subst hP hw hK
    obtain ⟨hd, hi⟩ := hg
    obtain ⟨f0, f1, f2, f3, f4, f5⟩ := hf it (by simp)
    obtain ⟨hs, hz, hx, hgd, es', ep', hdt, raw, hsz, ent⟩ := frzTV I hd
    obtain ⟨rfl, rfl⟩ := dict_ep hod hdt
    rw [← hsz] at st
    exact wpAny_pyNext_values_end_raw (I.ok.hd hc) st raw (by omega) fun h' eb => ⟨rfl, I.turned (t' := s.toks) (fun b ob hb e => eb b ob hb e) f0 f1 f3 f4 f5⟩
  self := fun A i s Q E st h => wpAny_pyIter_valiter st h
theorem turn_itemsT {kvs : List (List Key × V)} {elts : List Expr} {kk : Nat} {tpos : Pos} (it : Addr) (hod : o.data = .dict es ep) :
    Turn P w K (.Tuple elts kk tpos) (ItiT d o kvs) [it] it (fun i h => ∃ ok ov, IsItemIter h it d i kvs.length ep ok ov) where
  mem := by simp
  obj := fun i h st b hb => by
    obtain rfl : b = it := by simpa using hb
    obtain ⟨ok, ov, e⟩ := st
    exact ⟨_, e, fun v z => nomatch z⟩
  keep := fun i h h' st k => let ⟨ok, ov, e⟩ := st; ⟨ok, ov, k it (by simp) _ e⟩
  item := by
    intro X hP hw hK hc i pins s σ H E I hf st hg
    subst hP hw hK
    obtain ⟨hd, hi⟩ := hg
    obtain ⟨hs, hz, hx, hgd, es', ep', hdt, raw, hsz, ent⟩ := frzTV I hd
    obtain ⟨rfl, rfl⟩ := dict_ep hod hdt
    obtain ⟨⟨k, v⟩, hkv⟩ : ∃ p, kvs[i]? = some p := ⟨kvs[i], List.getElem?_eq_getElem hi⟩
    obtain ⟨en, q, hen, hkey, hq, rv⟩ := ent i k v hkv
    obtain ⟨ok, ov, he⟩ := st
    rw [← hsz] at he
    have hi' : i < es'.size := by omega
    have een : es'[i] = en := by
      rw [Array.getElem?_eq_getElem hi'] at hen
      exact Option.some.inj hen
    have hlt : it < s.heap.objs.size := Heap.lt_size he
    refine wpAny_pyNext_items_item_raw he raw hi' fun h' ho hT hz' hk => ?_
    refine ⟨_, rfl, wpAny_letOwnedTupleGo_items (s := { s with heap := h' }) ho fun h'' he' sb => ?_⟩
    have hT2 : h''.get? s.heap.objs.size = some { cls := .type "tuple", data := .seq #[es'[i].key, es'[i].val] } := (sb.2 _ (Nat.ne_of_gt hlt)).trans hT
    have new : ObjOk X.prog X.w (upd H s.heap.objs.size (.tup [.ref q, v])) h'' s.heap.objs.size (.tup [.ref q, v]) :=
      ⟨by show 2 ≤ sizeLine; decide, [es'[i].key, es'[i].val], .cons (by rw [een, hkey]; rfl) (.cons (by rw [een]; exact rv) .nil), ⟨_, hT2, rfl, _, rfl⟩⟩
    have I1 : Inv X pins σ (upd H s.heap.objs.size (.tup [.ref q, v])) { s with heap := h'' } :=
      I.turnedNew (t' := s.toks) (ch := [it]) (fun b ob hb e => (sb.2 b (by simpa using hb)).trans (hk b ob (by simpa using hb) e)) hf (Nat.le_refl _) new
    refine ⟨.ref s.heap.objs.size, _, I1, rfl, ⟨_, q, k, v, hkv, rfl, I.hok.fresh (Nat.le_refl _), hq, rfl⟩, ⟨es'[i].key, es'[i].val, ?_⟩, fun b hb => ?_⟩
    · rw [← hsz]; exact he'
    · obtain rfl : b = it := by simpa using hb
      rw [upd_ne (Nat.ne_of_lt hlt)]
      exact (hf b (by simp)).1
  done := by
    intro X hP hw hK hc i pins s σ H E I hf st hg
    subst hP hw hK
    obtain ⟨hd, hi⟩ := hg
    obtain ⟨f0, f1, f2, f3, f4, f5⟩ := hf it (by simp)
    obtain ⟨hs, hz, hx, hgd, es', ep', hdt, raw, hsz, ent⟩ := frzTV I hd
    obtain ⟨rfl, rfl⟩ := dict_ep hod hdt
    obtain ⟨ok, ov, he⟩ := st
    rw [← hsz] at he
    exact wpAny_pyNext_items_end_raw (I.ok.hd hc) he raw (by omega) fun h' eb => ⟨rfl, I.turned (t' := s.toks) (fun b ob hb e => eb b ob hb e) f0 f1 f3 f4 f5⟩
  self := fun A i s Q E st h => let ⟨_, _, e⟩ := st; PySem.W.kcp_self e h
end

def iValsT (td : TE) : TI := fun σ H R => td σ H fun x H1 => ∃ d o kvs, x = .ref d ∧ H1 d = some (.frz o (.dT kvs)) ∧ R (ItdT d o kvs) H1
def iItemsT (td : TE) : TI := fun σ H R => td σ H fun x H1 => ∃ d o kvs, x = .ref d ∧ H1 d = some (.frz o (.dT kvs)) ∧ R (ItiT d o kvs) H1
section
variable {X : Cx} {tg e : Expr} {td : TE} {apos cpos : Pos}
theorem pi_valuesT (he : PE X e td) (hbase : attributeBase e "values" X.env (eval e X.env) = eval e X.env := by rfl) (hline : (apos.endLine == cpos.line) = true := by rfl) : PI X tg (.Call (.Attribute e "values" apos) [] [] cpos) (iValsT td) := by
  refine ⟨fun pins s σ H R I h => ?_⟩
  refine wpAny_Call_method (T := "dict") (id := "dict.values") hbase rfl hline F.plainAttrs_dict F.slot_dict_values F.type_dict_values (thn (he.run pins s σ H _ I h) fun u s1 ⟨x, H1, I1, rx, d, o, kvs, ex, hd, q⟩ => ?_)
  subst ex
  obtain rfl : u = Value.ref d := rx
  obtain ⟨hs, hz, hx, hgd, es, ep, hdt, raw, hsz, ent⟩ := frzTV I1 hd
  refine ⟨raw.typeIs, (fun a ea => by cases ea; exact ⟨o, hgd, hx.2.1⟩), ?_⟩
  have I2 : Inv X pins σ H1 { s1 with heap := s1.heap.push { cls := .type "dict_values", data := .fields #[.ref d] } } := I1.kept (t' := s1.toks) fun b ob q => Heap.get?_push_of_some _ q
  have fin : wpAny (model X.prog X.w) X.A (pyIter (.ref s1.heap.objs.size)) (PIE X pins σ tg R) X.xe { s1 with heap := s1.heap.push { cls := .type "dict_values", data := .fields #[.ref d] } } := by
    refine wpAny_pyIter_values_raw (d := d) ⟨_, Heap.get?_push_size _ rfl, rfl, rfl⟩ (raw.at fun o e => Heap.get?_push_of_some _ e) (pi_one (tk := s1.toks) I2 _ (turn_valsT _ hdt) ⟨_, Heap.get?_push_size _ rfl, rfl, ?_⟩ q)
    rw [hsz] <;> rfl
  show wpAny _ _ (callWith cpos (.builtin "dict.values") [.ref d] [] []) _ X.xe s1
  exact method_meetsIn F.slot_dict_values F.entry_dict_values rfl (PySem.evalArgs_none ⟨rfl, raw.typeIs, F.args_dict_values_1 _, _, meets_dict_values_raw d hs, ⟨es, ep, raw⟩, fin⟩)
theorem pi_itemsT {elts : List Expr} {kk : Nat} {tpos : Pos} (he : PE X e td) (hbase : attributeBase e "items" X.env (eval e X.env) = eval e X.env := by rfl) (hline : (apos.endLine == cpos.line) = true := by rfl) :
    PI X (.Tuple elts kk tpos) (.Call (.Attribute e "items" apos) [] [] cpos) (iItemsT td) := by
  refine ⟨fun pins s σ H R I h => ?_⟩
  refine wpAny_Call_method (T := "dict") (id := "dict.items") hbase rfl hline F.plainAttrs_dict F.slot_dict_items F.type_dict_items (thn (he.run pins s σ H _ I h) fun u s1 ⟨x, H1, I1, rx, d, o, kvs, ex, hd, q⟩ => ?_)
  subst ex
  obtain rfl : u = Value.ref d := rx
  obtain ⟨hs, hz, hx, hgd, es, ep, hdt, raw, hsz, ent⟩ := frzTV I1 hd
  refine ⟨raw.typeIs, (fun a ea => by cases ea; exact ⟨o, hgd, hx.2.1⟩), ?_⟩
  have I2 : Inv X pins σ H1 { s1 with heap := s1.heap.push { cls := .type "dict_items", data := .fields #[.ref d] } } := I1.kept (t' := s1.toks) fun b ob q => Heap.get?_push_of_some _ q
  have fin : wpAny (model X.prog X.w) X.A (pyIter (.ref s1.heap.objs.size)) (PIE X pins σ (.Tuple elts kk tpos) R) X.xe { s1 with heap := s1.heap.push { cls := .type "dict_items", data := .fields #[.ref d] } } := by
    refine wpAny_pyIter_items_raw (d := d) ⟨_, Heap.get?_push_size _ rfl, rfl, rfl⟩ (raw.at fun o e => Heap.get?_push_of_some _ e) (pi_one (tk := s1.toks) I2 _ (turn_itemsT _ hdt) ⟨.none, .none, ?_⟩ q)
    rw [← hsz]
    exact Heap.get?_push_size _ rfl
  show wpAny _ _ (callWith cpos (.builtin "dict.items") [.ref d] [] []) _ X.xe s1
  exact method_meetsIn F.slot_dict_items F.entry_dict_items rfl (PySem.evalArgs_none ⟨rfl, raw.typeIs, F.args_dict_items_1 _, _, meets_dict_items_raw d hs, ⟨es, ep, raw⟩, fin⟩)
end
end K75
set_option Elab.async false
set_option linter.all false
set_option maxRecDepth 100000
set_option maxHeartbeats 4000000
namespace K75
open PySem PySem.Spec PyProof.Rows L2

/-! a comprehension's block, whatever it makes and whatever it walks -/
/-- the block's context -/
abbrev Bk (X : Cx) (s3 : Shared) (H3 : Hp) (scope : Scope) (cl : List (Str × Addr)) (C : Addr) (fp : List Addr) : Cx := X.blk s3 H3 scope (compEnvC scope cl C X.env) fp

section
variable {X : Cx} {pins : List (Addr × Obj)} {σ : L2.St} {H : Hp} {s : Shared}
theorem comp_scaf {e : Expr} {g : Comprehension} {gs : List Comprehension} {scope : Scope} {own : List (Str × Nat)} {pos' : Pos} {mk : Sem Value} {u0 : Addr → HO} {use : Option (Value → Sem Unit)} {Qf : Value → Shared → Prop}
    {Pay : Addr → List Addr → Hp → Shared → Prop}
    (hN : X.N.Nodup) (I : Inv X pins σ H s) (ok : BlkOk X.N X.env.scope scope own) (hcl : clausesOf e = g :: gs) (hs : ∀ x, foldedSetIterable g.iter X.env x = pure x)
    (hmk : ∀ (H1 : Hp) (s1 : Shared) (Qm : Value → Shared → Prop) (Em : Value → Shared → Prop), Inv X pins σ H1 s1 →
      (∀ s2, Inv X pins σ (upd H1 s1.heap.objs.size (u0 s1.heap.objs.size)) s2 → (∀ b o, s1.heap.get? b = some o → s2.heap.get? b = some o) → s1.heap.objs.size < s2.heap.objs.size → s2.gens = s1.gens → Qm (.ref s1.heap.objs.size) s2) →
      wpAny (model X.prog X.w) X.A mk Qm Em s1)
    (hsrc : wpAny (model X.prog X.w) X.A (eval g.iter X.env) (fun v s1 => wpAny (model X.prog X.w) X.A (pyIter v) (fun itv s2 => ∃ (it : Addr) (fp : List Addr) (H2 : Hp), itv = .ref it ∧ Inv X pins σ H2 s2 ∧
      (∀ b ∈ fp, FpOk X pins H2 b ∧ b < s2.heap.objs.size) ∧ Pay it fp H2 s2) X.xe s1) X.xe s)
    (loop : ∀ (it : Addr) (fp : List Addr) (H2 : Hp) (s2 s3 s4 : Shared) (D C : Addr) (cl : List (Str × Addr)), H2 D = none → Pay it fp H2 s2 → (∀ b o, s2.heap.get? b = some o → s4.heap.get? b = some o) → s4.gens = s2.gens →
      Inv (Bk X s3 (upd H2 D (u0 D)) scope cl C fp) [] (wipe σ (own.map (·.2))) (upd H2 D (u0 D)) s4 →
      (∀ b ∈ fp, (upd H2 D (u0 D)) b = none) →
      (∀ (σ' : L2.St) (H' : Hp) (s' : Shared), Inv (Bk X s3 (upd H2 D (u0 D)) scope cl C fp) [] σ' H' s' → Inv X pins σ H' s' ∧ FpOk X pins H' C ∧ ∃ m, s'.heap.Ns C m) →
      codeAny (model X.prog X.w) X.A (.compStart e 0 (.ref it) (.ref D) (compEnvC scope cl C X.env)) (compPost (model X.prog X.w) X.A X.xe use Qf (.ref D) C) s4) :
    wpAny (model X.prog X.w) X.A (comprehension e scope X.env pos' mk false (eval g.iter X.env) use) Qf X.xe s := by
  have hfree : ∀ y ∈ scope.names, y.2 = .free → ∃ c, X.env.cells.lookup y.1 = some c := fun y hy e =>
    (ok.free y hy e).elim (fun k => I.ok.has _ (.inl k)) fun k => I.ok.has _ (.inr k)
  refine wpAny_comprehension_free (use := use) hcl hs (closure_ok hfree) ok.kind (fun y hy e => by rw [ok.uniq y hy, e]) (thn hsrc fun xv s1 hx => thn hx fun itv s2 h2 => ?_)
  obtain ⟨it, fp, H2, rfl, I2, f2, pay⟩ := h2
  refine hmk H2 s2 _ _ I2 fun s3 I3 k3 lt3 g3 => newEnv_comp ?_
  have hDn : H2 s2.heap.objs.size = none := I2.hok.fresh (Nat.le_refl _)
  generalize hD : s2.heap.objs.size = D at I3 hDn lt3
  have f3 : ∀ b ∈ fp, FpOk X pins (upd H2 D (u0 D)) b ∧ b < s3.heap.objs.size := fun b hb => by
    obtain ⟨q, lt⟩ := f2 b hb
    refine ⟨⟨?_, q.2⟩, Nat.lt_trans (hD ▸ lt) lt3⟩
    rw [upd_ne (Nat.ne_of_lt (hD ▸ lt))]
    exact q.1
  have I4 := block_start I3 ok hN f3
  refine loop it fp H2 s2 s3 _ D s3.heap.objs.size _ hDn pay (fun b o e => pushCells_keeps _ _ _ _ (Heap.get?_push_of_some _ (k3 b o e))) g3 I4 (fun b hb => (f3 b hb).1.1) fun σ' H' s' I6 => ?_
  refine ⟨I3.call' (ch := fp) I6.os I6.base I6.hok I6.bare fun b hb => ⟨(f3 b hb).1.2.2.2.1, (f3 b hb).1.2.1, (f3 b hb).1.2.2.2.2.1, (f3 b hb).1.2.2.2.2.2⟩, I3.fpOk (Nat.le_refl _) I6.free, ?_⟩
  obtain ⟨m, hn, _⟩ := I6.loc
  exact ⟨m, hn⟩
/-- the block's iterator, in a state of the block -/
theorem blk_fp {scope : Scope} {fp : List Addr} {s3 : Shared} {H3 : Hp} {cl : List (Str × Addr)} {C : Addr} {σ' : L2.St} {H' : Hp} {s' : Shared} (I' : Inv (Bk X s3 H3 scope cl C fp) [] σ' H' s') (hn : ∀ b ∈ fp, H' b = none) :
    ∀ b ∈ fp, FpOk (Bk X s3 H3 scope cl C fp) [] H' b := fun b hb =>
  ⟨hn b hb, (I'.ok.exf b hb).1, I'.ok.exfs b hb, .inl hb, fun x c e => (I'.ok.exf b hb).2 x c e, fun p hp => absurd (show p ∈ ([] : List (Addr × Obj)) ++ [] from hp) (by simp)⟩
/-- an iterator by its Turn -/
def TPay (X : Cx) (tg : Expr) (R : It → Hp → Prop) (it : Addr) (fp : List Addr) (H2 : Hp) (s2 : Shared) : Prop :=
  ∃ (tn : Nat → Heap → Prop) (J : It), Turn X.prog X.w X.K tg J fp it tn ∧ tn 0 s2.heap ∧ R J H2
theorem src_of {tg iter : Expr} {wi : TI} {R : It → Hp → Prop} (hi : PI X tg iter wi) (I : Inv X pins σ H s) (h : wi σ H R) :
    wpAny (model X.prog X.w) X.A (eval iter X.env) (fun v s1 => wpAny (model X.prog X.w) X.A (pyIter v) (fun itv s2 => ∃ (it : Addr) (fp : List Addr) (H2 : Hp), itv = .ref it ∧ Inv X pins σ H2 s2 ∧
      (∀ b ∈ fp, FpOk X pins H2 b ∧ b < s2.heap.objs.size) ∧ TPay X tg R it fp H2 s2) X.xe s1) X.xe s := by
  refine thn (hi.run pins s σ H R I h) fun v s1 h1 => thn h1 fun itv s2 h2 => ?_
  obtain ⟨it, fp, tn, J, H2, e, I2, T, st2, f2, q⟩ := h2
  refine ⟨it, fp, H2, e, I2, fun b hb => ⟨f2 b hb, ?_⟩, tn, J, T, st2, q⟩
  obtain ⟨o, e, _⟩ := T.obj _ _ st2 b hb
  exact Heap.lt_size e
/-- behind a turn of the block: the target's slots are wiped, the iterator stands -/
theorem blk_next {scope : Scope} {own : List (Str × Nat)} {fp : List Addr} {s3 : Shared} {H3 : Hp} {cl : List (Str × Addr)} {C : Addr} {σ8 : L2.St} {H' : Hp} {s7 s' : Shared} {tg : Expr} {J : It} {it : Addr} {tn : Nat → Heap → Prop} {i : Nat}
    (T : Turn X.prog X.w X.K tg J fp it tn) (st7 : tn i s7.heap) (hw8 : wipe σ8 (own.map (·.2)) = wipe σ (own.map (·.2))) (I' : Inv (Bk X s3 H3 scope cl C fp) ([] ++ pinsAt fp s7.heap) σ8 H' s') :
    Inv (Bk X s3 H3 scope cl C fp) [] (wipe σ (own.map (·.2))) H' s' ∧ tn i s'.heap ∧ ∀ b ∈ fp, H' b = none := by
  have pin' : ∀ b ∈ fp, ∀ o, s7.heap.get? b = some o → s'.heap.get? b = some o ∧ H' b = none := fun b hb o e =>
    let z := I'.pin (b, o) (List.mem_append_right _ (List.mem_append_right _ (mem_pinsAt hb e)))
    ⟨z.1, z.2.1⟩
  refine ⟨(I'.unpinned (pins := [])).weak (by rw [← hw8, wipe_length]) (fun j v e => ?_), T.keep _ _ _ st7 fun b hb o e => (pin' b hb o e).1, fun b hb => ?_⟩
  · rw [← hw8] at e
    exact (wipe_some e).1
  · obtain ⟨o, e, _⟩ := T.obj _ _ st7 b hb
    exact (pin' b hb o e).2
end

/-! {key: value for .. in .. if ..} with tuple keys -/
theorem dt_dictSet {X : Cx} {pins : List (Addr × Obj)} {σ : L2.St} {H : Hp} {s : Shared} {E : Value → Shared → Prop} {D b : Addr} {kvs : List (List Key × V)} {k : List Key} {v : V} {r : Value} {Q : Unit → Shared → Prop} (hu : X.A.units + 1 < cLine) (I : Inv X pins σ H s)
    (hD : H D = some (.dT kvs)) (hb : H b = some (.tup (k.map kV))) (hz : kvs.length < sizeLine) (rv : RelV v r) (h : ∀ s', Inv X pins σ (upd H D (.dT (putK kvs k v))) s' → Q () s') :
    wpAny (model X.prog X.w) X.A (dictSet D (.ref b) r) Q E s := by
  obtain ⟨z, hd, xs, rel, dd⟩ := dt_of I.hok hD
  have hz : xs.length ≤ sizeLine := by rw [← Paired.length rel]; exact z
  have hl : (putK kvs k v).length ≤ sizeLine := by have := length_putK kvs k v; omega
  refine wpAny_dictSet_heap (hsz := hz) (show X.A.units < cLine by omega) (key_of I.hok hb) dd fun h' dd' hs => h _ ?_
  obtain ⟨q, es, ep, hq, h2, h3, h4, _, h5⟩ := dd'
  refine d_write I (by rw [hD]; exact True.intro) hs ⟨q, hq⟩ ⟨hl, hd, _, (rel.put k hb rv).keeps fun c ys ec => ?_, q, es, ep, hq, h2, h3, h4, h5⟩
  rw [upd_ne (ne_of ec hD (fun z => nomatch z))]
  exact ec
def tDcT (wi : TI) (g : TG) (tt : TT) (tk tv : TE) (vs : List Nat) : TE := fun σ H Q => wi σ H fun J H1 => ∀ D, H1 D = none → ∃ W : Nat → Nat → Hp → Prop, (∃ m, W 0 m (upd H1 D (.dT []))) ∧ ∀ i m H, W i m H →
  (J.stop i H ∧ Q (.ref D) H) ∨ (J.go i H ∧ ∃ Nx : Hp → Prop, (∀ H', Nx H' → ∃ m', m' < m ∧ W (i + 1) m' H') ∧ ∀ x H', J.yld i H x H' → g x (wipe σ vs) H' fun σ2 H2 => wipe σ2 vs = wipe σ vs ∧ tt σ2 H2 fun b H3 =>
    if b = true then tk σ2 H3 fun y H4 => tv σ2 H4 fun z H5 => ∃ kvs k b, y = .ref b ∧ H5 b = some (.tup (k.map kV)) ∧ H5 D = some (.dT kvs) ∧ kvs.length < sizeLine ∧ Nx (upd H5 D (.dT (putK kvs k z))) else Nx H3)
theorem pe_dcT {X : Cx} {kx vx tg iter : Expr} {ifs : List Expr} {scope : Scope} {own : List (Str × Nat)} {pos : Pos} {wi : TI} {g : TG} {tt : TT} {tk tv : TE} (hu : X.A.units + 1 < cLine) (hc : X.calm = true) (hN : X.N.Nodup) (hi : PI X tg iter wi) (ok : BlkOk X.N X.env.scope scope own)
    (hg : ∀ (s : Shared) (H : Hp) (C : Addr) (cl : List (Str × Addr)) (fp : List Addr), PG (Bk X s H scope cl C fp) tg g) (ht : ∀ (s : Shared) (H : Hp) (C : Addr) (cl : List (Str × Addr)) (fp : List Addr), PTs (Bk X s H scope cl C fp) ifs tt)
    (hk : ∀ (s : Shared) (H : Hp) (C : Addr) (cl : List (Str × Addr)) (fp : List Addr), PE (Bk X s H scope cl C fp) kx tk)
    (he : ∀ (s : Shared) (H : Hp) (C : Addr) (cl : List (Str × Addr)) (fp : List Addr), PE (Bk X s H scope cl C fp) vx tv) (hs : ∀ x, foldedSetIterable iter X.env x = pure x := by intro _; rfl) :
    PE X (.DictComp kx vx [⟨tg, iter, ifs, 0⟩] scope pos) (tDcT wi g tt tk tv (own.map (·.2))) := by
  refine ⟨fun pins s σ H Q I h => ?_⟩
  rw [arm_eval_DictComp]
  refine comp_scaf (u0 := fun _ => .dT []) (g := ⟨tg, iter, ifs, 0⟩) hN I ok rfl hs (fun H1 s1 Qm Em I1 q => ?_) (src_of hi I h) ?_
  · refine wpAny_newObj_type (q { s1 with heap := s1.heap.push { cls := .type "dict", data := .dict #[] } } ?_ (fun b o e => Heap.get?_push_of_some _ e) (by rw [Heap.size_push]; exact Nat.lt_succ_self _) rfl)
    exact I1.laid (t' := s1.toks) (fun b o e => Heap.get?_push_of_some _ e) (Nat.le_refl _) (dt_empty s1.heap I1.big)
  · intro it fp H2 s2 s3 s4 D C cl hDn ⟨tn, J, T, st2, q⟩ k4 g4 I4 n4 exit
    obtain ⟨W, ⟨m0, w0⟩, turn⟩ := q D hDn
    have st4 : tn 0 s4.heap := T.keep _ _ _ st2 fun b _ o e => k4 b o e
    have pg := hg s3 (upd H2 D (.dT [])) C cl fp
    have pt := ht s3 (upd H2 D (.dT [])) C cl fp
    have pk := hk s3 (upd H2 D (.dT [])) C cl fp
    have pe := he s3 (upd H2 D (.dT [])) C cl fp
    have loop : codeAny (model X.prog X.w) X.A (.compLoop (.DictComp kx vx [⟨tg, iter, ifs, 0⟩] scope pos) 0 (.ref it) (.ref D) (compEnvC scope cl C X.env)) (compPost (model X.prog X.w) X.A X.xe none (EP X pins σ Q) (.ref D) C) s4 := by
      refine compLoop_anyD (fun n s' => ∃ i H', Inv (Bk X s3 (upd H2 D (.dT [])) scope cl C fp) [] (wipe σ (own.map (·.2))) H' s' ∧ tn i s'.heap ∧ (∀ b ∈ fp, H' b = none) ∧ W i n H') ?_ m0 ⟨0, _, I4, st4, n4, w0⟩
      rintro n s5 ⟨i, H5, I5, st5, n5, w5⟩
      rcases turn i n H5 w5 with ⟨stop, qq⟩ | ⟨go, Nx, hNx, step⟩
      · refine thnF (T.done (Bk X s3 (upd H2 D (.dT [])) scope cl C fp) rfl rfl rfl hc i [] s5 _ H5 (fun _ _ => False) I5 (blk_fp I5 n5) st5 stop) fun r s6 ⟨hr, I6⟩ => ?_
        subst hr
        obtain ⟨I7, f7, m, hn⟩ := exit _ _ _ I6
        refine ⟨m, hn, fun h' sb => ?_⟩
        obtain ⟨f0, f1, f2, f3, f4, f5⟩ := f7
        exact ⟨.ref D, H5, I7.turned (t' := s6.toks) (fun b o hb e => (sb.2 b hb).trans e) f0 f1 f3 f4 f5, rfl, qq⟩
      · refine thnF (T.item (Bk X s3 (upd H2 D (.dT [])) scope cl C fp) rfl rfl rfl hc i [] s5 _ H5 (fun _ _ => False) I5 (blk_fp I5 n5) st5 go) fun r s6 ⟨u, hr, h6⟩ => ?_
        subst hr
        refine thnF h6 fun _ s7 ⟨x, H7, I7, r7, y7, st7, n7⟩ => ?_
        refine thnF (pg.run _ s7 _ H7 x u _ (I7.pinned (blk_fp I7 n7) (T.obj _ _ st7)) r7 (step x H7 y7)) fun _ s8 ⟨σ8, H8, I8, hw8, q8⟩ => ?_
        refine thnF (pt.run _ s8 σ8 H8 _ I8 q8) fun b s9 ⟨H9, I9, q9⟩ => ?_
        have fin : ∀ {s' : Shared} {H' : Hp}, Inv (Bk X s3 (upd H2 D (.dT [])) scope cl C fp) ([] ++ pinsAt fp s7.heap) σ8 H' s' → Nx H' →
            ∃ m, m < n ∧ ∃ i H', Inv (Bk X s3 (upd H2 D (.dT [])) scope cl C fp) [] (wipe σ (own.map (·.2))) H' s' ∧ tn i s'.heap ∧ (∀ b ∈ fp, H' b = none) ∧ W i m H' := fun {s' H'} I' nx => by
          obtain ⟨m', hm, w'⟩ := hNx H' nx
          obtain ⟨a1, a2, a3⟩ := blk_next T st7 hw8 I'
          exact ⟨m', hm, i + 1, H', a1, a2, a3, w'⟩
        cases b with
        | false =>
          rw [if_neg Bool.false_ne_true] at q9 ⊢
          exact fin I9 q9
        | true =>
          rw [if_pos rfl] at q9 ⊢
          refine thnF (pk.run _ s9 σ8 H9 _ I9 q9) fun z s10 ⟨yk, H10, I10, r10, q10⟩ => ?_
          refine thnF (pe.run _ s10 σ8 H10 _ I10 q10) fun z2 s11 ⟨yv, H11, I11, r11, kvs, k, bb, ek, hbb, hD11, hz11, nx⟩ => ?_
          subst ek
          cases (show z = Value.ref bb from r10)
          exact dt_dictSet (X := Bk X s3 (upd H2 D (.dT [])) scope cl C fp) hu I11 hD11 hbb hz11 r11 fun s12 I12 => fin I12 nx
    exact codeAny_compStart_dict loop (T.self X.A 0 _ _ _ st4 loop)
end K75
set_option Elab.async false
set_option linter.all false
set_option maxRecDepth 100000
set_option maxHeartbeats 4000000
namespace K75
open PySem PySem.Spec PyProof.Rows L2

/-! list(d.items()) of a frozen dict with tuple keys -/
/-- at p a list of new pairs: a term's key (its tuple) and its coefficient -/
def TermsAt (H : Hp) (p : Addr) (kvs : List (List Key × V)) : Prop :=
  ∃ ts : List Addr, H p = some (.lst (ts.map V.ref)) ∧ Paired (fun (t : Addr) (kv : List Key × V) => ∃ q, H t = some (.tup [.ref q, kv.2]) ∧ H q = some (.tup (kv.1.map kV))) ts kvs
/-- tracked: each address with its own two items -/
def putP : Hp → List (Addr × V × V) → Hp
  | H, [] => H
  | H, z :: zs => putP (upd H z.1 (.tup [z.2.1, z.2.2])) zs
theorem putP_off {b : Addr} : ∀ (zs : List (Addr × V × V)) (H : Hp), b ∉ zs.map (·.1) → putP H zs b = H b
  | [], _, _ => rfl
  | z :: zs, H, h => by
    rw [List.map_cons, List.mem_cons, not_or] at h
    show putP (upd H z.1 _) zs b = H b
    rw [putP_off zs _ h.2, upd_ne h.1]
theorem putP_at : ∀ (zs : List (Addr × V × V)) (H : Hp), (zs.map (·.1)).Nodup → ∀ z ∈ zs, putP H zs z.1 = some (.tup [z.2.1, z.2.2])
  | z :: zs, H, hn, y, hy => by
    rw [List.map_cons, List.nodup_cons] at hn
    show putP (upd H z.1 _) zs y.1 = _
    rcases List.mem_cons.mp hy with rfl | hy
    · rw [putP_off zs _ hn.1, upd_same]
    · exact putP_at zs _ hn.2 y hy
section
variable {X : Cx} {pins : List (Addr × Obj)} {σ : L2.St} {H : Hp} {s : Shared}
/-- new pairs and a new list are tracked -/
theorem pairs_laid {h' : Heap} {tk : Nat} {S : Addr} {zs : List (Addr × V × V)} {acc : Array Value} {c : Nat} (I : Inv X pins σ H s) (hz : zs.length ≤ sizeLine)
    (hk : ∀ b o, s.heap.get? b = some o → h'.get? b = some o) (hS0 : s.heap.objs.size ≤ S) (hS : h'.get? S = some { cls := .type "list", dict := none, data := .seq acc c, slots := #[] })
    (hacc : acc.toList = zs.map fun z => Value.ref z.1) (hnd : (zs.map (·.1)).Nodup) (hab : ∀ z ∈ zs, S < z.1)
    (hp : ∀ z ∈ zs, ∃ u1 u2, RelV z.2.1 u1 ∧ RelV z.2.2 u2 ∧ h'.get? z.1 = some { cls := .type "tuple", data := .seq #[u1, u2] }) :
    let H' := putP (upd H S (.lst (zs.map fun z => V.ref z.1))) zs
    Inv X pins σ H' { s with heap := h', toks := tk } ∧ (∀ b o, H b = some o → H' b = some o) ∧ H S = none ∧ H' S = some (.lst (zs.map fun z => V.ref z.1)) ∧ (∀ z ∈ zs, H' z.1 = some (.tup [z.2.1, z.2.2])) := by
  intro H'
  have nS : S ∉ zs.map (·.1) := fun q => by
    obtain ⟨z, hz, e⟩ := List.mem_map.mp q
    exact Nat.lt_irrefl _ (e ▸ hab z hz)
  have newS : H S = none := I.hok.fresh hS0
  have new : ∀ b ∈ zs.map (·.1), H b = none ∧ s.heap.objs.size ≤ b := fun b hb => by
    obtain ⟨z, hz, e⟩ := List.mem_map.mp hb
    have l : s.heap.objs.size ≤ b := e ▸ Nat.le_of_lt (Nat.lt_of_le_of_lt hS0 (hab z hz))
    exact ⟨I.hok.fresh l, l⟩
  have off : ∀ b, b ∉ zs.map (·.1) → b ≠ S → H' b = H b := fun b h1 h2 => by
    show putP _ zs b = _
    rw [putP_off zs _ h1, upd_ne h2]
  have kp : ∀ b u, H b = some u → H' b = some u := fun b u e => by
    rw [off b (fun q => by rw [(new b q).1] at e; cases e) (fun q => by rw [q, newS] at e; cases e)]
    exact e
  have eS : H' S = some (.lst (zs.map fun z => V.ref z.1)) := by
    show putP _ zs S = _
    rw [putP_off zs _ nS, upd_same]
  have eT : ∀ z ∈ zs, H' z.1 = some (.tup [z.2.1, z.2.2]) := fun z hz => putP_at zs _ hnd z hz
  refine ⟨?_, kp, newS, eS, eT⟩
  refine I.call' (ch := []) rfl ⟨fun b o q _ _ _ => hk b o q, fun b o q _ _ _ => ⟨o.slots, hk b o q⟩, fun b o q n _ => ?_, fun b o q _ => ⟨o, hk b o q⟩, fun b xs q => kp b _ q, fun b o u q => kp b _ q, fun b ps q => ⟨#[], by rw [kp b _ q]; simp⟩⟩ (fun b u q => ?_) I.bare fun b z => by simp at z
  · rw [off b (fun z => absurd (Heap.lt_size q) (Nat.not_lt.mpr (new b z).2)) (fun z => absurd (Heap.lt_size q) (Nat.not_lt.mpr (z ▸ hS0)))]
    exact n
  · by_cases hb : b ∈ zs.map (·.1)
    · obtain ⟨z, hz, e⟩ := List.mem_map.mp hb
      rw [← e, eT z hz] at q
      cases q
      obtain ⟨u1, u2, r1, r2, hh⟩ := hp z hz
      rw [← e]
      exact ⟨by show 2 ≤ sizeLine; decide, [u1, u2], .cons r1 (.cons r2 .nil), ⟨_, hh, rfl, _, rfl⟩⟩
    · by_cases hb2 : b = S
      · subst hb2
        rw [eS] at q
        cases q
        refine ⟨by rw [List.length_map]; exact hz, acc.toList, c, ?_, by rw [Array.toArray_toList]; exact hS⟩
        rw [hacc]
        clear eS eT kp off H'
        revert hz
        clear hp hab hnd hacc hb nS new
        induction zs with
        | nil => intro _; exact .nil
        | cons z zs ih => intro hz; exact .cons rfl (ih (Nat.le_of_succ_le hz))
      · rw [off b hb hb2] at q
        exact (I.hok b u q).stay (fun d v _ y => hk d v y) (fun d y => kp d _ y) fun d xs y => kp d _ y
end
def tListItemsT (te : TE) : TE := fun σ H Q => te σ H fun x H1 => ∃ (d : Addr) (o : Obj) (kvs : List (List Key × V)), x = .ref d ∧ H1 d = some (.frz o (.dT kvs)) ∧
  ∀ (H' : Hp) (p : Addr), (∀ b o, H1 b = some o → H' b = some o) → H1 p = none → TermsAt H' p kvs → Q (.ref p) H'
section
variable {X : Cx} {e : Expr} {te : TE} {p apos cpos pos : Pos}
theorem pe_listItemsT (hc : X.calm = true) (he : PE X e te) (hg : Gl X "list") (hm : X.mg "list" = none) (hv : bootBuiltins "list" = some (.type "list") := by decide +kernel) (hbase : attributeBase e "items" X.env (eval e X.env) = eval e X.env := by rfl) (hline : (apos.endLine == cpos.line) = true := by rfl)
    (hs : starEach [.Call (.Attribute e "items" apos) [] [] cpos] X.env = (false, eval (.Call (.Attribute e "items" apos) [] [] cpos) X.env) :: starEach [] X.env := by rfl) :
    PE X (.Call (.Name "list" p) [.Call (.Attribute e "items" apos) [] [] cpos] [] pos) (tListItemsT te) := by
  refine ⟨fun pins s σ H Q I hq => ?_⟩
  refine wpAny_Call_Name_kw (ld_blt I hg hm hv (PyProof.Rows.callWith_type1 ?_ hs rfl))
  rw [hs]
  show wpAny _ _ (spliced ((false, eval (.Call (.Attribute e "items" apos) [] [] cpos) X.env) :: backTo pos (starEach [] X.env))) _ _ s
  refine Calls.spliced_cons ?_
  refine wpAny_Call_method (T := "dict") (id := "dict.items") hbase rfl hline F.plainAttrs_dict F.slot_dict_items F.type_dict_items (thn (he.run pins s σ H _ I hq) fun u s1 ⟨x, H1, I1, rx, d, o, kvs, ex, hd, q⟩ => ?_)
  subst ex
  obtain rfl : u = Value.ref d := rx
  obtain ⟨hs0, hz, hx, hgd, es, ep, hdt, raw, hsz, ent⟩ := frzTV I1 hd
  have I2 : Inv X pins σ H1 { s1 with heap := s1.heap.push { cls := .type "dict_items", data := .fields #[.ref d] } } := I1.kept (t' := s1.toks) fun b ob q => Heap.get?_push_of_some _ q
  refine ⟨raw.typeIs, (fun a ea => by cases ea; exact ⟨o, hgd, hx.2.1⟩), ?_⟩
  show wpAny _ _ (callWith cpos (.builtin "dict.items") [.ref d] [] []) _ X.xe s1
  refine method_meetsIn F.slot_dict_items F.entry_dict_items rfl (PySem.evalArgs_none ⟨rfl, raw.typeIs, F.args_dict_items_1 _, _, meets_dict_items_raw d hs0, ⟨es, ep, raw⟩, Calls.spliced_nil ?_⟩)
  refine PySem.W.dil_call (ep := ep) (es := es) (I1.ok.hd hc) ⟨_, Heap.get?_push_size _ rfl, rfl, rfl⟩ (raw.at fun o e => Heap.get?_push_of_some _ e) (by omega) fun h' tk acc c as hk hS hl hG hacc => ?_
  -- the pairs by place
  have atv : ∀ (j : Nat) (kv : List Key × V), kvs[j]? = some kv → ∃ (hj : j < es.size) (qa : Addr), es[j].key = .ref qa ∧ H1 qa = some (.tup (kv.1.map kV)) ∧ RelV kv.2 es[j].val := fun j kv e => by
    obtain ⟨en, qa, hen, hkey, hqa, rv⟩ := ent j kv.1 kv.2 e
    have hj : j < es.size := by
      have := (List.getElem?_eq_some_iff.mp e).1
      omega
    rw [Array.getElem?_eq_getElem hj] at hen
    cases Option.some.inj hen
    exact ⟨hj, qa, hkey, hqa, rv⟩
  obtain ⟨f, hf⟩ : ∃ f : Nat → Addr, ∀ (j : Nat) (kv : List Key × V), kvs[j]? = some kv → ∃ (hj : j < es.size), es[j].key = .ref (f j) ∧ H1 (f j) = some (.tup (kv.1.map kV)) ∧ RelV kv.2 es[j].val := by
    have : ∀ j : Nat, ∃ qa : Addr, ∀ (kv : List Key × V), kvs[j]? = some kv → ∃ (hj : j < es.size), es[j].key = .ref qa ∧ H1 qa = some (.tup (kv.1.map kV)) ∧ RelV kv.2 es[j].val := fun j => by
      cases e : kvs[j]? with
      | none => exact ⟨0, fun kv h => by cases h⟩
      | some kv =>
        obtain ⟨hj, qa, r1, r2, r3⟩ := atv j kv e
        exact ⟨qa, fun kv' h => by cases h; exact ⟨hj, r1, r2, r3⟩⟩
    exact Classical.axiomOfChoice this
  let zs : List (Addr × V × V) := (as.zip kvs).mapIdx fun j z => (z.1, V.ref (f j), z.2.2)
  have lzs : zs.length = kvs.length := by simp only [zs, List.length_mapIdx, List.length_zip]; omega
  have zat : ∀ (j : Nat) (kv : List Key × V), kvs[j]? = some kv → ∃ (a qa : Addr), zs[j]? = some (a, V.ref qa, kv.2) ∧ as[j]? = some a ∧ H1 qa = some (.tup (kv.1.map kV)) ∧
      ∃ hj : j < es.size, es[j].key = .ref qa ∧ RelV kv.2 es[j].val := fun j kv e => by
    obtain ⟨hj, hkey, hqa, rv⟩ := hf j kv e
    have ha : as[j]? = some as[j] := List.getElem?_eq_getElem (by omega)
    refine ⟨as[j], f j, ?_, ha, hqa, hj, hkey, rv⟩
    have ez : (as.zip kvs)[j]? = some (as[j], kv) := List.getElem?_zip_eq_some.mpr ⟨ha, e⟩
    simp only [zs, List.getElem?_mapIdx, ez, Option.map_some]
  have zas : zs.map (·.1) = as := by
    refine List.ext_getElem? fun j => ?_
    rw [List.getElem?_map]
    by_cases hj : j < kvs.length
    · obtain ⟨a, qa, e1, e2, _⟩ := zat j kvs[j] (List.getElem?_eq_getElem hj)
      rw [e1, e2]
      rfl
    · rw [List.getElem?_eq_none (by omega), List.getElem?_eq_none (by omega)]
      rfl
  have zmem : ∀ z ∈ zs, ∃ (j : Nat) (kv : List Key × V) (a qa : Addr), z = (a, V.ref qa, kv.2) ∧ kvs[j]? = some kv ∧ as[j]? = some a ∧ H1 qa = some (.tup (kv.1.map kV)) ∧ ∃ hj : j < es.size, es[j].key = .ref qa ∧ RelV kv.2 es[j].val := fun z hz => by
    obtain ⟨j, hj, e⟩ := List.mem_iff_getElem.mp hz
    have hj2 : j < kvs.length := by omega
    obtain ⟨a, qa, e1, e2, e3, e4⟩ := zat j kvs[j] (List.getElem?_eq_getElem hj2)
    rw [List.getElem?_eq_getElem hj] at e1
    exact ⟨j, kvs[j], a, qa, by rw [← e]; exact Option.some.inj e1, List.getElem?_eq_getElem hj2, e2, e3, e4⟩
  have hnd : (zs.map (·.1)).Nodup := by
    rw [zas]
    exact List.Pairwise.imp (fun {a b} (h : a < b) => Nat.ne_of_lt h) hG.rise
  obtain ⟨J, kp, nS, eS, eT⟩ := pairs_laid (tk := tk) (zs := zs) I2 (by omega) hk (Nat.le_refl _) hS (by rw [hacc, ← zas, List.map_map]; rfl) hnd
    (fun z hz => by
      obtain ⟨j, kv, a, qa, rfl, _, e2, _⟩ := zmem z hz
      exact hG.above a (List.mem_of_getElem? e2))
    (fun z hz => by
      obtain ⟨j, kv, a, qa, rfl, e1, e2, e3, hj, e4, rv⟩ := zmem z hz
      obtain ⟨hj', e5⟩ := hG.pairs j a e2
      exact ⟨_, _, show RelV (V.ref qa) es[j].key by rw [e4]; rfl, rv, e5⟩)
  refine ⟨.ref _, _, J, rfl, q _ _ kp nS ⟨as, ?_, ?_⟩⟩
  · rw [eS, ← zas, List.map_map]
    rfl
  · -- item by item
    have key : ∀ (n : Nat) (as' : List Addr) (kvs' : List (List Key × V)), as'.length = n → kvs'.length = n →
        (∀ (j : Nat) (a : Addr) (kv : List Key × V), as'[j]? = some a → kvs'[j]? = some kv → ∃ q, putP (upd H1 { s1 with heap := s1.heap.push { cls := .type "dict_items", data := .fields #[.ref d] } }.heap.objs.size (.lst (zs.map fun z => V.ref z.1))) zs a = some (.tup [.ref q, kv.2]) ∧
          putP (upd H1 { s1 with heap := s1.heap.push { cls := .type "dict_items", data := .fields #[.ref d] } }.heap.objs.size (.lst (zs.map fun z => V.ref z.1))) zs q = some (.tup (kv.1.map kV))) →
        Paired (fun (t : Addr) (kv : List Key × V) => ∃ q, putP (upd H1 { s1 with heap := s1.heap.push { cls := .type "dict_items", data := .fields #[.ref d] } }.heap.objs.size (.lst (zs.map fun z => V.ref z.1))) zs t = some (.tup [.ref q, kv.2]) ∧
          putP (upd H1 { s1 with heap := s1.heap.push { cls := .type "dict_items", data := .fields #[.ref d] } }.heap.objs.size (.lst (zs.map fun z => V.ref z.1))) zs q = some (.tup (kv.1.map kV))) as' kvs' := by
      intro n
      induction n with
      | zero =>
        intro as' kvs' h1 h2 _
        rw [List.eq_nil_of_length_eq_zero h1, List.eq_nil_of_length_eq_zero h2]
        exact .nil
      | succ n ih =>
        intro as' kvs' h1 h2 hh
        cases as' with
        | nil => cases h1
        | cons a as' =>
          cases kvs' with
          | nil => cases h2
          | cons kv kvs' => exact .cons (hh 0 a kv rfl rfl) (ih as' kvs' (Nat.succ.inj h1) (Nat.succ.inj h2) fun j a kv e1 e2 => hh (j + 1) a kv e1 e2)
    refine key kvs.length as kvs (by omega) rfl fun j a kv e1 e2 => ?_
    obtain ⟨a', qa, z1, z2, z3, _⟩ := zat j kv e2
    rw [e1] at z2
    cases Option.some.inj z2
    exact ⟨qa, eT _ (List.mem_of_getElem? z1), kp _ _ z3⟩
end
end K75
set_option Elab.async false
set_option linter.all false
set_option maxRecDepth 100000
set_option maxHeartbeats 4000000
namespace K75
open PySem PySem.Spec PyProof.Rows L2

/-! d == e of dicts with tuple keys and ints -/
def hasK (xb : List (List Key × Addr × Value)) (k : List Key) : Bool := xb.any fun y => decide (y.1 = k)
/-- the value of a written entry -/
def isI (x : List Key × Addr × Value) (i : Int) : Prop := ∃ t, x.2.2 = .int i t
section
variable {prog : Program} {w : World} {A : Around} {E : Value → Shared → Prop} {s : Shared}
theorem samePairsT {nm : String} {a b : Addr} {xa xb : List (List Key × Addr × Value)} {fa fb : List Key → Int} {Q : Bool → Shared → Prop} (hu : A.units < cLine) (ha : (a == sysModules) = false) (hb : (b == sysModules) = false)
    (da : s.heap.DictOfH (tupleKind (mixKind prog w)) a xa) (db : s.heap.DictOfH (tupleKind (mixKind prog w)) b xb) (ia : ∀ x ∈ xa, isI x (fa x.1)) (ib : ∀ x ∈ xb, isI x (fb x.1))
    (h : Q (xa.length == xb.length && xa.all fun x => hasK xb x.1 && fa x.1 == fb x.1) s) :
    wpAny (model prog w) A (Builtin.Dict.samePairs nm a b) Q E s := by
  obtain ⟨oa, es, ep, hoa, hca, hda, hea, hia, hna⟩ := da
  obtain ⟨ob, es', ep', hob, hcb, hdb, heb, hib, hnb⟩ := db
  have hla : es.size = xa.length := size_of_entries hea
  have hlb : es'.size = xb.length := size_of_entries heb
  rw [← hla, ← hlb] at h
  unfold Builtin.Dict.samePairs Builtin.Dict.showsAll
  rw [if_neg (show ¬ (a == sysModules) = true by rw [ha]; exact Bool.false_ne_true), if_neg (show ¬ (b == sysModules) = true by rw [hb]; exact Bool.false_ne_true)]
  refine wpAny_bind (wpAny_pure (wpAny_bind (wpAny_pure (wpAny_bind (wpAny_dictEntries hoa hda ?_)))))
  dsimp only
  refine wpAny_bind (wpAny_dictEntries hob hdb ?_)
  by_cases hsz : es.size = es'.size
  case neg =>
    rw [if_pos (by simpa using hsz)]
    rw [show (es.size == es'.size) = false by simpa using hsz, Bool.false_and] at h
    exact wpAny_bind (wpAny_rule (wpAny_pure h))
  case pos =>
    rw [if_neg (by rw [hsz]; simp)]
    have h' : Q (xa.all fun x => hasK xb x.1 && fa x.1 == fb x.1) s := by simpa [hsz] using h
    refine wpAny_bind (wpAny_dictEpoch hoa hda (wpAny_bind ?_))
    rw [Std.Legacy.Range.forIn_eq_forIn_range']
    simp only [Std.Legacy.Range.size, Nat.sub_zero, Nat.add_sub_cancel, Nat.div_one]
    refine wpAny_forIn_list _
      (fun rest q s' => s' = s ∧ q = (none, ()) ∧ ∃ i, rest = List.range' i (es.size - i) ∧ i ≤ es.size ∧ (xa.all fun x => hasK xb x.1 && fa x.1 == fb x.1) = ((xa.drop i).all fun x => hasK xb x.1 && fa x.1 == fb x.1))
      _ ?_ ?_ _ _ ⟨rfl, rfl, 0, by simp, Nat.zero_le _, by rw [List.drop_zero]⟩
    · rintro x rest q s' ⟨rfl, rfl, i, hr, hi, hpre⟩
      have hlt : i < es.size := by
        rcases Nat.lt_or_ge i es.size with h | h
        · exact h
        · rw [Nat.sub_eq_zero_of_le h] at hr; simp at hr
      obtain ⟨rfl, hrest⟩ : x = i ∧ rest = List.range' (i + 1) (es.size - (i + 1)) := by
        rw [show es.size - i = (es.size - (i + 1)) + 1 by omega, List.range'_succ] at hr
        injection hr with h1 h2
        exact ⟨h1, h2⟩
      have hlt' : x < xa.length := by rw [← hla]; exact hlt
      have e0 := entry_at hea x
      rw [Array.getElem?_eq_getElem hlt, List.getElem?_eq_getElem hlt'] at e0
      have e1 : es[x] = entryOfKey (tupleKind (mixKind prog w)) xa[x] := Option.some.inj e0
      have hx : xa[x] ∈ xa := List.getElem_mem hlt'
      obtain ⟨tx, hvx⟩ := ia _ hx
      rw [List.drop_eq_getElem_cons hlt', List.all_cons] at hpre
      refine wpAny_bind (wpAny_dictEntries hoa hda ?_)
      rw [Array.getElem?_eq_getElem hlt]
      show wpAny _ _ (holding [es[x].key, es[x].val] _ >>= _) _ _ _
      rw [e1]
      show wpAny _ _ (holding [Value.ref xa[x].2.1, xa[x].2.2] _ >>= _) _ _ _
      refine wpAny_bind (wpAny_holding (wpAny_bind (wpAny_dictFind_heap (knd := tupleKind (mixKind prog w)) (k := xa[x].1) hu (hia _ hx) hob hdb heb hib hnb (fun hno => ?_) fun j p hj => ?_)))
      · have hnm : hasK xb xa[x].1 = false := by
          cases q : hasK xb xa[x].1 with
          | false => rfl
          | true =>
            obtain ⟨y, hy, ey⟩ := List.any_eq_true.mp q
            obtain ⟨j, hj, ej⟩ := List.mem_iff_getElem.mp hy
            exact absurd (by rw [List.getElem?_eq_getElem hj, ej, ← of_decide_eq_true ey]) (hno j y.2)
        rw [hnm, Bool.false_and, Bool.false_and] at hpre
        refine wpAny_pure ?_
        show wpAny _ _ (if (!false) = true then _ else _) _ _ _
        rw [if_pos (by decide)]
        exact wpAny_pure (wpAny_pure (hpre ▸ h'))
      · have hjm : (xa[x].1, p) ∈ xb := List.mem_of_getElem? hj
        have hmm : hasK xb xa[x].1 = true := List.any_eq_true.mpr ⟨_, hjm, decide_eq_true rfl⟩
        obtain ⟨tp, hvp⟩ := ib _ hjm
        have f0 := entry_at heb j
        rw [hj] at f0
        refine wpAny_bind (wpAny_dictEntries hob hdb ?_)
        rw [f0]
        show wpAny _ _ (holding [p.2] (eqBool xa[x].2.2 p.2)) _ _ _
        rw [hvx, show p.2 = Value.int (fb xa[x].1) tp from hvp]
        rw [hmm, Bool.true_and] at hpre
        refine wpAny_holding (wpAny_eqBool_int ?_)
        cases hq : (fa xa[x].1 == fb xa[x].1) with
        | false =>
          rw [hq, Bool.false_and] at hpre
          show wpAny _ _ (if (!false) = true then _ else _) _ _ _
          rw [if_pos (by decide)]
          exact wpAny_pure (wpAny_pure (hpre ▸ h'))
        | true =>
          rw [hq, Bool.true_and] at hpre
          show wpAny _ _ (if (!true) = true then _ else _) _ _ _
          rw [if_neg (by decide)]
          refine wpAny_bind (wpAny_dictEpoch hoa hda ?_)
          rw [if_neg (by simp)]
          exact wpAny_pure ⟨rfl, rfl, x + 1, hrest, hlt, hpre⟩
    · rintro q s' ⟨rfl, rfl, i, hr, hi, hpre⟩
      have hin : i = es.size := by
        rcases Nat.lt_or_ge i es.size with h | h
        · rw [show es.size - i = (es.size - (i + 1)) + 1 by omega, List.range'_succ] at hr; exact nomatch hr
        · exact Nat.le_antisymm hi h
      refine wpAny_pure ?_
      rw [hin, hla, List.drop_length, List.all_nil] at hpre
      exact hpre ▸ h'
theorem rcT_dicts {a b : Addr} {xa xb : List (List Key × Addr × Value)} {fa fb : List Key → Int} {Q : Value → Shared → Prop} (hu : A.units + 1 < cLine) (ha : (a == sysModules) = false) (hb : (b == sysModules) = false)
    (da : s.heap.DictOfH (tupleKind (mixKind prog w)) a xa) (db : s.heap.DictOfH (tupleKind (mixKind prog w)) b xb) (ia : ∀ x ∈ xa, isI x (fa x.1)) (ib : ∀ x ∈ xb, isI x (fb x.1))
    (h : Q (.bool (xa.length == xb.length && xa.all fun x => hasK xb x.1 && fa x.1 == fb x.1)) s) : wpAny (model prog w) A (richCompare .Eq (.ref a) (.ref b)) Q E s := by
  have ta : s.TypeIs (.ref a) "dict" := let ⟨o, _, _, ho, hc, _⟩ := da; ⟨o, ho, hc.1⟩
  have tb : s.TypeIs (.ref b) "dict" := let ⟨o, _, _, ho, hc, _⟩ := db; ⟨o, ho, hc.1⟩
  refine wpAny_richCompare_same_room (op := .Eq) ta tb PySem.F.slot_dict_eq (wpAny_call_entry PySem.F.slot_dict_eq ta PySem.F.entry_dict_eq ?_ (PySem.F.args_dict_eq_2 _ _)) (by omega)
  show wpAny _ _ (Builtin.Dict.dictSlotArgs "__eq__" ⟨[.ref a, .ref b], []⟩ >>= _) _ _ s
  refine wpAny_bind ?_
  unfold Builtin.Dict.dictSlotArgs
  refine wpAny_bind (wpAny_notOrdered_dict ta ?_)
  show wpAny _ _ (pure (Value.ref a, Value.ref b)) _ _ s
  refine wpAny_pure (wpAny_bind (wpAny_isInstance (T := "dict") tb PySem.F.sub_dict_dict ?_))
  simp only [Bool.not_true, Bool.false_eq_true, if_false]
  refine wpAny_bind (wpAny_pure (wpAny_bind (wpAny_pure (wpAny_bind (samePairsT (A := A.in1) (show A.units + 1 < cLine from hu) ha hb da db ia ib (wpAny_pure ⟨_, rfl, ?_, ?_⟩))))))
  · exact fun x => nomatch x
  · simpa using h
end

/-! terms: a key and its coefficient -/
abbrev Tm := List (List Key × Int)
def enc (L : Tm) : List (List Key × V) := L.map fun p => (p.1, V.int p.2)
/-- the coefficient at a key -/
def cf (L : Tm) (k : List Key) : Int := ((L.find? fun p => decide (p.1 = k)).map (·.2)).getD 0
theorem cf_nil (k : List Key) : cf [] k = 0 := rfl
theorem cf_cons (p : List Key × Int) (L : Tm) (k : List Key) : cf (p :: L) k = if p.1 = k then p.2 else cf L k := by
  unfold cf
  rw [List.find?_cons]
  by_cases h : p.1 = k
  · rw [decide_eq_true h, if_pos h]
    rfl
  · rw [decide_eq_false h, if_neg h]
/-- a dict's terms: each key once, no coefficient 0 -/
structure Nrm (L : Tm) : Prop where
  nd : (L.map (·.1)).Nodup
  nz : ∀ p ∈ L, p.2 ≠ 0
theorem cf_mem {L : Tm} (hn : (L.map (·.1)).Nodup) : ∀ {p : List Key × Int}, p ∈ L → cf L p.1 = p.2 := by
  induction L with
  | nil => intro p h; cases h
  | cons q L ih =>
    intro p h
    rw [List.map_cons, List.nodup_cons] at hn
    rw [cf_cons]
    rcases List.mem_cons.mp h with rfl | h
    · rw [if_pos rfl]
    · rw [if_neg (fun e : q.1 = p.1 => hn.1 (e ▸ List.mem_map.mpr ⟨p, h, rfl⟩))]
      exact ih hn.2 h
theorem cf_out {L : Tm} {k : List Key} (h : k ∉ L.map (·.1)) : cf L k = 0 := by
  induction L with
  | nil => rfl
  | cons q L ih =>
    rw [List.map_cons, List.mem_cons, not_or] at h
    rw [cf_cons, if_neg (fun e => h.1 e.symm)]
    exact ih h.2
theorem cf_in {L : Tm} (hn : Nrm L) {k : List Key} (h : k ∈ L.map (·.1)) : cf L k ≠ 0 := by
  obtain ⟨p, hp, rfl⟩ := List.mem_map.mp h
  rw [cf_mem hn.nd hp]
  exact hn.nz p hp
theorem nodup_sub {α : Type} : ∀ {xs ys : List α}, xs.Nodup → (∀ x ∈ xs, x ∈ ys) → ys.length ≤ xs.length → ∀ y ∈ ys, y ∈ xs
  | [], ys, _, _, hl => fun y hy => by
    cases ys with
    | nil => cases hy
    | cons a l => simp at hl
  | x :: xs, ys, hn, hs, hl => fun y hy => by
    rw [List.nodup_cons] at hn
    obtain ⟨l1, l2, rfl⟩ := List.append_of_mem (hs x List.mem_cons_self)
    have ih := nodup_sub (xs := xs) (ys := l1 ++ l2) hn.2 (fun z hz => by
      have h1 := hs z (List.mem_cons_of_mem _ hz)
      rcases List.mem_append.mp h1 with h1 | h1
      · exact List.mem_append_left _ h1
      · rcases List.mem_cons.mp h1 with rfl | h1
        · exact absurd hz hn.1
        · exact List.mem_append_right _ h1) (by simp at hl ⊢; omega)
    rcases List.mem_append.mp hy with h1 | h1
    · exact List.mem_cons_of_mem _ (ih y (List.mem_append_left _ h1))
    · rcases List.mem_cons.mp h1 with rfl | h1
      · exact List.mem_cons_self
      · exact List.mem_cons_of_mem _ (ih y (List.mem_append_right _ h1))
def hasT (M : Tm) (k : List Key) : Bool := M.any fun y => decide (y.1 = k)
theorem hasT_iff {M : Tm} {k : List Key} : hasT M k = true ↔ k ∈ M.map (·.1) := by
  constructor
  · intro h
    obtain ⟨y, hy, e⟩ := List.any_eq_true.mp h
    exact List.mem_map.mpr ⟨y, hy, of_decide_eq_true e⟩
  · intro h
    obtain ⟨y, hy, e⟩ := List.mem_map.mp h
    exact List.any_eq_true.mpr ⟨y, hy, decide_eq_true e⟩
/-- what == finds -/
theorem eq_spec {L M : Tm} (hL : Nrm L) (hM : Nrm M) : (L.length == M.length && L.all fun p => hasT M p.1 && cf L p.1 == cf M p.1) = true ↔ ∀ k, cf L k = cf M k := by
  constructor
  · intro h k
    obtain ⟨h1, h2⟩ := Bool.and_eq_true_iff.mp h
    have e : L.length = M.length := eq_of_beq h1
    have sub : ∀ x ∈ L.map (·.1), x ∈ M.map (·.1) := fun x hx => by
      obtain ⟨p, hp, rfl⟩ := List.mem_map.mp hx
      exact hasT_iff.mp (Bool.and_eq_true_iff.mp (List.all_eq_true.mp h2 p hp)).1
    by_cases hk : k ∈ L.map (·.1)
    · obtain ⟨p, hp, rfl⟩ := List.mem_map.mp hk
      exact eq_of_beq (Bool.and_eq_true_iff.mp (List.all_eq_true.mp h2 p hp)).2
    · have hk2 : k ∉ M.map (·.1) := fun q => hk (nodup_sub hL.nd sub (by simp [e]) k q)
      rw [cf_out hk, cf_out hk2]
  · intro h
    have sub : ∀ x ∈ L.map (·.1), x ∈ M.map (·.1) := fun x hx => Classical.byContradiction fun q => cf_in hL hx (by rw [h x, cf_out q])
    have sub2 : ∀ x ∈ M.map (·.1), x ∈ L.map (·.1) := fun x hx => Classical.byContradiction fun q => cf_in hM hx (by rw [← h x, cf_out q])
    have len : ∀ {A B : Tm}, (A.map (·.1)).Nodup → (∀ x ∈ A.map (·.1), x ∈ B.map (·.1)) → A.length ≤ B.length := fun {A B} hA hs => by
      rcases Nat.lt_or_ge B.length A.length with q | q
      · exfalso
        -- more keys than places
        have : ∀ (xs ys : List (List Key)), xs.Nodup → (∀ x ∈ xs, x ∈ ys) → xs.length ≤ ys.length := by
          intro xs
          induction xs with
          | nil => intro ys _ _; exact Nat.zero_le _
          | cons x xs ih =>
            intro ys hn hs
            rw [List.nodup_cons] at hn
            obtain ⟨l1, l2, rfl⟩ := List.append_of_mem (hs x List.mem_cons_self)
            have := ih (l1 ++ l2) hn.2 fun z hz => by
              rcases List.mem_append.mp (hs z (List.mem_cons_of_mem _ hz)) with h1 | h1
              · exact List.mem_append_left _ h1
              · rcases List.mem_cons.mp h1 with rfl | h1
                · exact absurd hz hn.1
                · exact List.mem_append_right _ h1
            simp at this ⊢
            omega
        have z := this _ _ hA hs
        simp at z
        omega
      · exact q
    refine Bool.and_eq_true_iff.mpr ⟨beq_iff_eq.mpr (Nat.le_antisymm (len hL.nd sub) (len hM.nd sub2)), List.all_eq_true.mpr fun p hp => ?_⟩
    exact Bool.and_eq_true_iff.mpr ⟨hasT_iff.mpr (sub _ (List.mem_map.mpr ⟨p, hp, rfl⟩)), beq_iff_eq.mpr (h _)⟩

/-- two readable dicts of terms, compared -/
def rEqT : R2 := fun x y H Q => ∃ a b L M, x = .ref a ∧ y = .ref b ∧ Rd H a (.dT (enc L)) ∧ Rd H b (.dT (enc M)) ∧ Nrm L ∧ Nrm M ∧ ∀ r : Bool, (r = true ↔ ∀ k, cf L k = cf M k) → Q (.bl r) H
theorem kt_enc {H : Hp} : ∀ {L : Tm} {xs : List (List Key × Addr × Value)}, KT H (enc L) xs → xs.map (·.1) = L.map (·.1) ∧ ∀ x ∈ xs, ∃ p ∈ L, p.1 = x.1 ∧ isI x p.2
  | [], _, .nil => ⟨rfl, fun x h => by cases h⟩
  | p :: L, _, .cons (b := q) r t => by
    obtain ⟨h1, h2⟩ := kt_enc (L := L) t
    obtain ⟨e1, e2, tok, e3⟩ := r
    refine ⟨by rw [List.map_cons, List.map_cons, h1]; exact congrArg (· :: _) e1.symm, fun x hx => ?_⟩
    rcases List.mem_cons.mp hx with rfl | hx
    · exact ⟨p, List.mem_cons_self, e1, tok, e3⟩
    · obtain ⟨p', hp, e⟩ := h2 x hx
      exact ⟨p', List.mem_cons_of_mem _ hp, e⟩
theorem op_eqT {X : Cx} (hu : X.A.units + 1 < cLine) : OpR X (compareOp .Eq) rEqT := by
  intro pins s σ H x y v u Q I rx ry h
  obtain ⟨a, b, L, M, rfl, rfl, ha, hb, nL, nM, q⟩ := h
  cases (show v = Value.ref a from rx)
  cases (show u = Value.ref b from ry)
  obtain ⟨_, sa, xa, ka, da⟩ := dt_rd I.hok ha
  obtain ⟨_, sb, xb, kb, db⟩ := dt_rd I.hok hb
  obtain ⟨ea, va⟩ := kt_enc ka
  obtain ⟨eb, vb⟩ := kt_enc kb
  show wpAny (model X.prog X.w) X.A (richCompare .Eq (.ref a) (.ref b)) (EP X pins σ Q) X.xe s
  have iA : ∀ x ∈ xa, isI x (cf L x.1) := fun x hx => by
    obtain ⟨p, hp, e1, e2⟩ := va x hx
    rw [← e1, cf_mem nL.nd hp]
    exact e2
  have iB : ∀ x ∈ xb, isI x (cf M x.1) := fun x hx => by
    obtain ⟨p, hp, e1, e2⟩ := vb x hx
    rw [← e1, cf_mem nM.nd hp]
    exact e2
  refine rcT_dicts hu sa sb da db iA iB ⟨.bl _, H, I, rfl, q _ ?_⟩
  rw [← eq_spec nL nM]
  have l1 : xa.length = L.length := by simpa using congrArg List.length ea
  have l2 : xb.length = M.length := by simpa using congrArg List.length eb
  have any2 : ∀ (f : List Key → Bool), xb.any (fun x => f x.1) = M.any fun p => f p.1 := fun f => by
    have e1 : xb.any (fun x => f x.1) = (xb.map (·.1)).any f := by rw [List.any_map]; rfl
    have e2 : (M.any fun p => f p.1) = (M.map (·.1)).any f := by rw [List.any_map]; rfl
    rw [e1, e2, eb]
  have hk : ∀ k, hasK xb k = hasT M k := fun k => any2 fun j => decide (j = k)
  have all : ∀ (f : List Key → Bool), xa.all (fun x => f x.1) = L.all fun p => f p.1 := fun f => by
    have e1 : xa.all (fun x => f x.1) = (xa.map (·.1)).all f := by rw [List.all_map]; rfl
    have e2 : (L.all fun p => f p.1) = (L.map (·.1)).all f := by rw [List.all_map]; rfl
    rw [e1, e2, ea]
  rw [l1, l2]
  have e3 := all fun k => hasK xb k && cf L k == cf M k
  rw [e3]
  simp only [hk]
end K75
set_option Elab.async false
set_option linter.all false
set_option maxRecDepth 100000
set_option maxHeartbeats 4000000
namespace K75
open PySem PySem.Spec PyProof.Rows L2

section
variable {P : Program} {w : World} {A : Around} {E : Value → Shared → Prop} {s : Shared}
abbrev set0 (w : World) : Obj := { cls := .type "set", dict := none, data := .set #[] 0 (.fresh 0 0 (!w.params.followText "set-order")) }
set_option maxHeartbeats 8000000 in
/-- set(l), l a list of ints -/
theorem call_set_lst {l : Addr} {items : Array Value} (ns : List Int) {Q : Value → Shared → Prop} (hh : A.handled = none) (hl : s.heap.IsList l items) (hit : IntsAre items.toList ns) (hb : ns.length + 1 < scanBound)
    (h : ∀ (h' : Heap) (tk c : Nat), SetR w h' s.heap.objs.size (fun j => decide (j ∈ ns)) c → c ≤ ns.length → (∀ b o, s.heap.get? b = some o → h'.get? b = some o) → Q (.ref s.heap.objs.size) { s with heap := h', toks := tk }) :
    wpAny (model P w) A (call (.type "set") [.ref l]) Q E s := by
  have hisz : items.size = ns.length := by simpa using IntsAre.length hit
  obtain ⟨c, tl, hmro⟩ := F.called_set.mro
  have hmade := F.called_set.made
  have hsub := F.called_set.sub
  have h1 := F.called_set.notType
  have h2 := F.called_set.canCreate
  have hct := F.typeCall_set_1 (.ref l)
  refine wpAny_call (codeAny_of_tree ?_)
  show wpAny _ _ (callAny (.type "set") _) _ _ _
  refine wpAny_pure ⟨Code.quiet_builtin _ (by decide +kernel), codeAny_builtin F.entry_type_call ?_⟩
  rw [Around.under_plain (weight_type_call_type "set" [.ref l] []) rfl]
  repeat (any_goals (first | assumption | wp_step))
  refine codeAny_mono (code_set_led1 (.ref l) (E := E) (Q₁ := fun obj s₁ => obj = .ref s.heap.objs.size ∧ s₁ = { s with heap := s.heap.push (set0 w) }) ⟨rfl, rfl⟩) fun r s₁ hr => ?_
  cases r with
  | error e => exact hr
  | ok fl =>
    cases fl with
    | ret obj =>
      obtain ⟨rfl, rfl⟩ := hr
      have hS : (s.heap.push (set0 w)).get? s.heap.objs.size = some (set0 w) := Heap.get?_push_size _ rfl
      have hT : Shared.TypeIs { s with heap := s.heap.push (set0 w) } (.ref s.heap.objs.size) "set" := ⟨_, hS, rfl⟩
      have hli := F.called_set.init.lookup
      have hbi := F.called_set.init.bind (.ref s.heap.objs.size)
      repeat (any_goals (first | assumption | wp_step))
      refine codeAny_mono (codeAny_call_builtin (R := wants (fun r s₂ => r = .none ∧ ∃ h' tk c, s₂ = { s with heap := h', toks := tk } ∧ SetR w h' s.heap.objs.size (fun j => decide (j ∈ ns)) c ∧ c ≤ ns.length ∧
          (∀ b o, s.heap.get? b = some o → h'.get? b = some o)) E) F.called_set.init.plain F.entry_set_init (check_set_init_1 hT ?_)) fun r₂ s₂ hr₂ => ?_
      · obtain ⟨⟨ocls, odict, odata, oslots⟩, hol, hcl, nl, hdl⟩ := hl
        simp only at hcl hdl
        subst hcl; subst hdl
        have hol' : (s.heap.push (set0 w)).get? l = some { cls := .type "list", dict := odict, data := .seq items nl, slots := oslots } := Heap.get?_push_of_some _ hol
        have hsls := F.sub_list_set
        have hslf := F.sub_list_frozenset
        have hne : (Value.type "list" == Value.type "dict") = false := by decide
        have hl1 : (s.heap.push (set0 w)).IsList l items := ⟨_, hol', rfl, nl, rfl⟩
        unfold Builtin.«set.__init__» noKeywords Builtin.Frozenset.updateFrom
        generalize hPI : pyIter = PI
        wp_walk
        subst hPI
        refine wpAny_pyIter_list hl1 (wpAny_bind (wpAny_runValue ?_))
        have hlS : l < s.heap.objs.size := Heap.lt_size hol
        have hh3 : A.in1.in1.in1.handled = none := by simp [hh]
        have hz1 : (s.heap.push (set0 w)).objs.size = s.heap.objs.size + 1 := Heap.size_push ..
        have hneI : l ≠ (s.heap.push (set0 w)).objs.size := by rw [hz1]; exact Nat.ne_of_lt (Nat.lt_succ_of_lt hlS)
        have hSf : s.heap.objs.size ∉ [(s.heap.push (set0 w)).objs.size, l] := by
          rw [hz1]
          intro q
          rcases List.mem_cons.mp q with q | q
          · exact Nat.ne_of_lt (Nat.lt_succ_self _) q
          · exact Nat.ne_of_gt hlS (List.mem_singleton.mp q)
        have hval : ∀ (i : Nat) (v : Value), items[i]? = some v → ∃ k t, ns[i]? = some k ∧ v = .int k t := fun i v hv => by
          have hi : i < ns.length := by rw [← hisz]; exact (Array.getElem?_eq_some_iff.mp hv).1
          obtain ⟨t, e⟩ := PyProof.Rows.IntsAre.int_at hit i v (by rw [Array.getElem?_toList]; exact hv)
          refine ⟨ns[i], t, List.getElem?_eq_getElem hi, ?_⟩
          rw [e, List.getD_eq_getElem?_getD, List.getElem?_eq_getElem hi] <;> rfl
        refine set_update_ints ((Walks.list hh3 _ l hneI items).toS) s.heap.objs.size hSf ns hisz hb hval (items.size - 0) 0 _ (by omega) (Nat.zero_le _)
          ⟨⟨_, Heap.get?_push_size _ rfl, rfl, rfl⟩, (hl1.push _)⟩ ⟨0, Nat.le_refl 0, setR_new_at (Heap.get?_push_of_some _ hS)⟩ fun s' c' hm hc' hS' => ?_
        obtain ⟨h', g2, d', tk', os'⟩ := s'
        have eg : g2 = s.gens := hm.gens
        have ed : d' = s.drawn := hm.drawn
        have eo : os' = s.os := hm.os
        subst eg; subst ed; subst eo
        show wpAny _ _ _ _ _ _
        refine wpAny_pure ?_
        show wpAny _ _ (ret Value.none) _ _ _
        rw [hisz] at hc'
        refine wpAny_pure ⟨rfl, h', tk', c', rfl, hS', hc', fun b o e => ?_⟩
        have hb0 : b < s.heap.objs.size := Heap.lt_size e
        refine hm.heap b o (fun q => ?_) (Heap.get?_push_of_some _ (Heap.get?_push_of_some _ e))
        rcases List.mem_cons.mp q with q | q
        · exact Nat.ne_of_lt hb0 q
        · rw [List.mem_singleton, hz1] at q
          exact Nat.ne_of_lt (Nat.lt_succ_of_lt hb0) q
      · cases r₂ with
        | error e => exact hr₂
        | ok fl₂ =>
          cases fl₂ with
          | ret r =>
            obtain ⟨rfl, h', tk, c', rfl, hS', hc', hk'⟩ := hr₂
            repeat (any_goals (first | assumption | wp_step))
            exact h _ _ _ hS' hc' hk'
          | _ => exact hr₂.elim
    | _ => exact hr.elim
end

/-- set(xs) of a list or tuple of ints -/
def rSetI (w : World) (K : PySem.W.Frag) : List V → Hp → VK → Prop := fun xs H Q => ∃ (l : Addr) (ns : List Int), xs = [.ref l] ∧ (SqL K H l (ns.map V.int) ∨ SqT K H l (ns.map V.int)) ∧ ns.length < 60 ∧ ∀ (p : Addr) (c : Nat), c ≤ ns.length → H p = none → Q (.ref p) (upd H p (SetO w p (fun j => decide (j ∈ ns)) c))
theorem cr_setI {X : Cx} (hc : X.calm = true) : CallR X (.type "set") (rSetI X.w X.K) := by
  intro pins s σ H xs us Q I r h
  obtain ⟨l, ns, rfl, hq, h60, q1⟩ := h
  rw [Vals.ref1 r]
  have sb : ns.length + 1 < scanBound := by
    have : (64 : Nat) ≤ scanBound := by decide
    omega
  have fin : ∀ (h' : Heap) (tk c : Nat), SetR X.w h' s.heap.objs.size (fun j => decide (j ∈ ns)) c → c ≤ ns.length → (∀ b o, s.heap.get? b = some o → h'.get? b = some o) → EP X pins σ Q (.ref s.heap.objs.size) { s with heap := h', toks := tk } :=
    fun h' tk c R hc hk => ⟨.ref _, _, I.laid hk (Nat.le_refl _) (setO_new R), rfl, q1 _ c hc (I.hok.fresh (Nat.le_refl _))⟩
  rcases hq with hq | hq
  · obtain ⟨its, rr, pl, hz⟩ := I.list hq
    exact call_set_lst ns (I.ok.hd hc) pl.isList (by simpa using ints_of_vals rr) sb fin
  · obtain ⟨its, rr, pl, hz⟩ := I.tuple hq
    exact call_set_tupI ns (I.ok.hd hc) (show s.heap.IsTuple l its.toArray from pl) (by simpa using ints_of_vals rr) sb fin
end K75
set_option Elab.async false
set_option linter.all false
set_option maxRecDepth 100000
set_option maxHeartbeats 4000000
namespace K75
open PySem PySem.Spec PyProof.Rows L2

/-! a set of at most one string: made, given its string, sorted -/
/-- the set at a holds the strings xs -/
def SetE (w : World) (h : Heap) (a : Addr) (xs : List Str) : Prop :=
  ∃ o es ep t, h.get? a = some o ∧ o.ExactSet ∧ o.data = .set es ep t ∧ StrsAre (es.toList.map (·.2)) xs ∧ xs.length ≤ 1 ∧ t.fits es.size = true ∧ Ris t.place.toList ∧ (w.params.followText "set-order" = true ∨ t.led = true)
theorem SetE.at {w : World} {h h' : Heap} {a : Addr} {xs : List Str} (R : SetE w h a xs) (k : ∀ o, h.get? a = some o → h'.get? a = some o) : SetE w h' a xs := by
  obtain ⟨o, es, ep, t, ho, r⟩ := R
  exact ⟨o, es, ep, t, k o ho, r⟩
def SetSO (w : World) (a : Addr) (xs : List Str) : HO := .ext fun h => SetE w h a xs
theorem setSO_new {w : World} {P : Program} {H : Hp} {h : Heap} {a : Addr} {xs : List Str} (R : SetE w h a xs) : ObjOk P w H h a (SetSO w a xs) := by
  have ⟨o, _, _, _, ho, _⟩ := R
  exact ⟨R, ⟨o, ho⟩, fun h1 h2 p k => SetE.at p k⟩
theorem setE_fresh {h : Heap} (w : World) : SetE w (h.push { cls := .type "set", dict := none, data := .set #[] 0 (.fresh 0 0 (!w.params.followText "set-order")) }) h.objs.size [] :=
  ⟨_, #[], 0, _, Heap.get?_push_size _ rfl, ⟨rfl, rfl, rfl⟩, rfl, .nil, Nat.zero_le _, rfl, List.Pairwise.nil, by
    show _ ∨ (!w.params.followText "set-order") = true
    cases w.params.followText "set-order" with
    | true => exact .inl rfl
    | false => exact .inr rfl⟩
section
variable {P : Program} {w : World} {A : Around} {E : Value → Shared → Prop} {s : Shared} {a : Addr}
/-- the one string given -/
theorem setE_tail {k : Str} {tk : Tok} {hh : Int} {o : Obj} {es : Array (Int × Value)} {ep : Nat} {t2 : SetTable} {t : SetTable} {x : Value × Nat} {wasDummy : Bool} {g : Bool → Sem Unit} {es1 : Array (Int × Value)} {R : Option Bool → Shared → Prop}
    (hg : ∀ (b : Bool) (s₁ : Shared) (Q' : Unit → Shared → Prop), Q' () s₁ → wpAny (model P w) A (g b) Q' E s₁)
    (ho : s.heap.get? a = some o) (hex : o.ExactSet) (hd : o.data = .set es ep t) (h1 : StrsAre (es1.toList.map (·.2)) [k]) (hz : es1.size = 1)
    (hf2 : t2.fits es1.size = true) (hr : Ris t2.place.toList) (hl : w.params.followText "set-order" = true ∨ t2.led = true)
    (hR : ∀ h', Heap.SameBut a s.heap h' → SetE w h' a [k] → R (some true) { s with heap := h' }) :
    wpAny (model P w) A (do
        storeSet a es1 t2
        if (!wasDummy && t2.tooFull) = true then do
            g (relayAll t2 es1 (SetTable.grown es1.size)).2.2
            storeSet a (relayAll t2 es1 (SetTable.grown es1.size)).1 (relayAll t2 es1 (SetTable.grown es1.size)).2.1
            pure (some true)
          else pure (some true)) R E s := by
  have hb : es1.size < scanBound := by rw [hz]; decide
  have ho1 := PpSet.storeB_at (es' := es1) (t' := t2) ho hd
  have sb1 := Heap.SameBut.update s.heap a (Obj.putSet es1 t2)
  refine wpAny_bind (wpAny_storeSet_of ho hd ?_ (fits_of_scanBound hb))
  by_cases hc : (!wasDummy && t2.tooFull) = true
  · rw [if_pos hc]
    have pm := relayAll_perm t2 es1 (SetTable.grown es1.size)
    have hf3 := relayAll_fits t2 es1 (SetTable.grown es1.size)
    have hr3 := relayAll_ris t2 es1 (SetTable.grown es1.size)
    have hl3 := relayAll_led t2 es1 (SetTable.grown es1.size)
    generalize relayAll t2 es1 (SetTable.grown es1.size) = Z at pm hf3 hr3 hl3 ⊢
    obtain ⟨es2, t3, gave⟩ := Z
    dsimp only at pm hf3 hr3 hl3 ⊢
    have hsz : es2.size = 1 := by rw [← hz, ← Array.length_toList, ← Array.length_toList]; exact pm.length_eq
    refine wpAny_bind (hg _ _ _ (wpAny_bind (wpAny_storeSet_of ho1 rfl ?_ (fits_of_scanBound (by rw [hsz]; decide)))))
    refine wpAny_pure (hR _ (sb1.trans (Heap.SameBut.update _ a _)) ⟨_, es2, _, t3, PpSet.storeB_at (es' := es2) (t' := t3) ho1 rfl, hex, rfl, ?_, Nat.le_refl _, hf3, hr3, hl.imp id fun z => by rw [hl3]; exact z⟩)
    have e : es2.toList = es1.toList := by
      obtain ⟨y, ey⟩ := List.length_eq_one_iff.mp (show es1.toList.length = 1 from hz)
      rw [ey] at pm ⊢
      exact List.perm_singleton.mp pm
    rw [e]
    exact h1
  · rw [if_neg hc]
    exact wpAny_pure (hR _ sb1 ⟨_, es1, _, t2, ho1, hex, rfl, h1, Nat.le_refl _, hf2, hr, hl⟩)
theorem setE_add_hashed {k : Str} {tk : Tok} {Q : Bool → Shared → Prop} (R : SetE w s.heap a []) (hQ : ∀ h', Heap.SameBut a s.heap h' → SetE w h' a [k] → Q true { s with heap := h' }) :
    wpAny (model P w) A (setAddHashed a (.str k tk) ((PySem.strKind P w).hash k)) Q E s := by
  obtain ⟨o, es, ep, t, ho, hex, hd, hs, hn, hf, hr, hl⟩ := R
  have e0 : es = #[] := by
    have : es.toList.map (·.2) = [] := by cases hq : es.toList.map (·.2) with
      | nil => rfl
      | cons y l => rw [hq] at hs; cases hs
    exact Array.toList_eq_nil_iff.mp (List.map_eq_nil_iff.mp this)
  subst e0
  have hkey : (PySem.strKind P w).is k (.str k tk) = true := strKind_is P w k tk
  have hsc : (Value.str k tk).scannable = true := rfl
  have hel : ElemsOf (PySem.strKind P w) (#[] : Array (Int × Value)).toList := fun e he => by simp at he
  unfold setAddHashed setAddHashedIn
  refine wpAny_holding (wpAny_bind (wpAny_setState_of ho hd hf ?_))
  dsimp only
  rw [byScan_of hsc (by decide) hel]
  simp only [↓reduceIte]
  unfold setAddByScan
  refine wpAny_bind ?_
  refine wpAny_bind (wpAny_rule ?_)
  refine wpAny_bind (wpAny_setScan_of hkey ho hd hf hel ?_)
  rw [show List.findIdx? (fun e : Int × Value => (PySem.strKind P w).is k e.2) (#[] : Array (Int × Value)).toList = none from rfl]
  dsimp only
  have hgw : ∀ (b : Bool) (s₁ : Shared) (Q' : Unit → Shared → Prop), Q' () s₁ → wpAny (model P w) A (match b with | true => rule "set.scan.the-table-gave-way" | false => pure ()) Q' E s₁ :=
    fun b s₁ Q' q => match b with
      | true => wpAny_rule q
      | false => wpAny_pure q
  have pm := layNew_perm t #[] ((PySem.strKind P w).hash k) (.str k tk)
  have hf1 := layNew_fits t #[] ((PySem.strKind P w).hash k) (.str k tk)
  have hr1 := layNew_ris t #[] ((PySem.strKind P w).hash k) (.str k tk) hr
  have hl1 := layNew_led t #[] ((PySem.strKind P w).hash k) (.str k tk)
  generalize layNew t #[] ((PySem.strKind P w).hash k) (.str k tk) = Z at pm hf1 hr1 hl1 ⊢
  obtain ⟨es1, t1, wasDummy, gave⟩ := Z
  dsimp only at pm hf1 hr1 hl1 ⊢
  have e1 : es1.toList = [((PySem.strKind P w).hash k, Value.str k tk)] := List.perm_singleton.mp pm
  have hz : es1.size = 1 := by rw [← Array.length_toList, e1]; rfl
  have h1 : StrsAre (es1.toList.map (·.2)) [k] := by rw [e1]; exact .cons _ _ .nil
  have hled : w.params.followText "set-order" = true ∨ t1.led = true := hl.imp id fun z => by rw [hl1]; exact z
  refine wpAny_bind (hgw _ _ _ ?_)
  split
  · refine wpAny_bind ?_
    rw [hashByValue_scannable 8 hsc]
    refine wpAny_pure ?_
    refine setE_tail (k := k) (tk := tk) (hh := 0) (x := (.none, 0)) hgw ho hex hd h1 hz ?_ ?_ ?_ fun h' sb r => ?_
    · first | (split <;> first | exact hf1 | exact SetTable.fits_plain_off hf1) | exact hf1
    · first | (split <;> exact hr1) | exact hr1
    · first | (split <;> exact hled) | exact hled
    · exact wpAny_pure (hQ h' sb r)
  · refine wpAny_bind (wpAny_pure ?_)
    simp only [↓reduceIte]
    exact setE_tail (k := k) (tk := tk) (hh := 0) (x := (.none, 0)) hgw ho hex hd h1 hz hf1 hr1 hled fun h' sb r => wpAny_pure (hQ h' sb r)
theorem setE_type {h : Heap} {xs : List Str} (R : SetE w h a xs) : ∃ o, h.get? a = some o ∧ o.cls = .type "set" := by
  obtain ⟨o, _, _, _, ho, hex, _⟩ := R
  exact ⟨o, ho, hex.1⟩
theorem setE_add {k : Str} {tk : Tok} {Q : Value → Shared → Prop} (R : SetE w s.heap a []) (hQ : ∀ h' tk', Heap.SameBut a s.heap h' → SetE w h' a [k] → Q .none { s with heap := h', toks := tk' }) :
    wpAny (model P w) A (call (.builtin "set.add") [.ref a, .str k tk]) Q E s := by
  refine wpAny_call_entry F.slot_set_add (show s.TypeIs (.ref a) "set" from setE_type R) F.entry_set_add ?_ (F.args_set_add_2 _ _)
  unfold Builtin.«set.add» Builtin.Frozenset.oneOther
  simp only [List.isEmpty_nil, bind_assoc]
  unfold Builtin.Frozenset.addrOf setAdd
  refine wpAny_bind (wpAny_pure ?_)
  try dsimp only
  refine wpAny_bind (wpAny_pure ?_)
  try dsimp only
  refine wpAny_bind (wpAny_holding (wpAny_bind ((PySem.strKind P w).pyHash (strKind_is P w k tk) ?_)))
  refine setE_add_hashed (s := { s with toks := s.toks + 1 }) R fun h' sb r => ?_
  show wpAny _ _ (ret Value.none) _ _ _
  exact wpAny_pure ⟨_, rfl, hQ h' _ sb r⟩
theorem sorted_setE {xs : List Str} {Q : Value → Shared → Prop} (R : SetE w s.heap a xs) (hh : A.handled = none)
    (hQ : ∀ s' p (out : Array Value) (c : Nat), (∀ b o, s.heap.get? b = some o → s'.heap.get? b = some o) → s'.gens = s.gens → s'.os = s.os → s.heap.objs.size ≤ p →
      s'.heap.get? p = some (seqObj "list" out c) → StrsAre out.toList xs → Q (.ref p) s') :
    wpAny (model P w) A (call (.builtin "sorted") [.ref a]) Q E s := by
  obtain ⟨o, es, ep, t, ho, hex, hd, hs, hn, hf, hr, hl⟩ := R
  have hlen : es.size = xs.length := by rw [← Array.length_toList, ← List.length_map (f := (·.2))]; exact hs.length
  have hb : es.size < scanBound := by rw [hlen]; exact Nat.lt_of_le_of_lt hn (by decide)
  refine Calls.call_function_entry kind_sorted plain_sorted entry_sorted (args_sorted1 _) ?_
  unfold Builtin.«sorted»
  refine wpAny_bind (m := checkCount "sorted" 1 1 _) (wpAny_pure ?_)
  refine wpAny_bind (collect_set (A := A.in1) hh ⟨o, ho, hex.1, hd⟩ hf hb hr hl fun s1 vs k1 hz g1 o1 pm => ?_)
  have ev : vs = es.toList.map (·.2) := by
    generalize es.toList.map (·.2) = ys at pm hs
    cases hs with
    | nil => exact List.perm_nil.mp pm
    | cons x t r => cases r with
      | nil => exact List.perm_singleton.mp pm
      | cons y u q => exact absurd hn (by simp)
  rw [← ev] at hs
  have hvl : vs.length = xs.length := hs.length
  refine wpAny_bind (wpAny_newList ?_ (by rw [hvl, sizeLine_eq]; omega))
  have hoL : (s1.heap.push (seqObj "list" vs.toArray 0)).get? s1.heap.objs.size = some (seqObj "list" vs.toArray 0) := Heap.get?_push_size _ rfl
  refine wpAny_bind (wpAny_holding (wpAny_call_entry slot_list_sort ⟨_, hoL, rfl⟩ entry_list_sort (list_sort_treeK strKind_oneLt hoL hs.keysOf (fun v₁ v₂ rest e => keyKind_strs (by rw [← e]; exact hs)) (by omega) fun st' a1 a2 => ⟨_, rfl, ?_⟩) (args_list_sort _)))
  obtain ⟨ns', b1, b2, b3⟩ := sorted_out_str hs a1 a2
  have en : ns' = xs := by
    cases xs with
    | nil => exact List.perm_nil.mp b2
    | cons x l => cases l with
      | nil => exact List.perm_singleton.mp b2
      | cons y q => exact absurd hn (by simp)
  subst en
  obtain ⟨c, hc⟩ := sortedHeap_at (vs := vs) (out := ((arrOf st').map (·.2))) hoL
  refine wpAny_pure ⟨_, rfl, hQ _ s1.heap.objs.size _ c (fun b u e => ?_) g1 o1 hz hc b1⟩
  have q := k1 b u e
  have hlt := Heap.lt_size q
  show (sortedHeap (s1.heap.push (seqObj "list" vs.toArray 0)) s1.heap.objs.size vs _).get? b = some u
  rw [sortedHeap_old (Nat.ne_of_lt hlt) (by rw [size_push']; exact Nat.lt_succ_of_lt hlt)]
  exact Heap.get?_push_of_some _ q
end
section
variable {X : Cx}
theorem setSO_get {pins : List (Addr × Obj)} {σ : L2.St} {H : Hp} {s : Shared} {a : Addr} {xs : List Str} (I : Inv X pins σ H s) (ha : H a = some (SetSO X.w a xs)) : SetE X.w s.heap a xs := (I.hok a _ ha).1
theorem addS_ok {pins : List (Addr × Obj)} {σ : L2.St} {H : Hp} {s : Shared} {E : Value → Shared → Prop} {D : Addr} {k : Str} {tk : Tok} {Q : Value → Shared → Prop} (I : Inv X pins σ H s) (hD : H D = some (SetSO X.w D []))
    (h : ∀ s', Inv X pins σ (upd H D (SetSO X.w D [k])) s' → Q .none s') : wpAny (model X.prog X.w) X.A (call (.builtin "set.add") [.ref D, .str k tk]) Q E s := by
  refine setE_add (setSO_get I hD) fun h' tk' sb new => h _ (I.write (e := D) (t' := tk') (by rw [hD]; trivial) (.inl rfl) (fun b u hb hu => (sb.2 b hb).trans hu) ?_ (setSO_new new))
  have ⟨o, _, _, _, ho, _⟩ := new
  exact ⟨o, ho⟩
/-- sorted(a set of at most one string) -/
def rSortedE (w : World) : List V → Hp → VK → Prop := fun vs H Q => ∃ (a : Addr) (xs : List Str), vs = [V.ref a] ∧ H a = some (SetSO w a xs) ∧ ∀ p : Addr, H p = none → Q (.ref p) (upd H p (.lst (xs.map V.str)))
theorem cr_sortedE (hc : X.calm = true) : CallR X (.builtin "sorted") (rSortedE X.w) := by
  intro pins s σ H vs us Q I r h
  obtain ⟨a, xs, rfl, ha, q⟩ := h
  have R := setSO_get I ha
  have hn : xs.length ≤ 1 := by obtain ⟨_, _, _, _, _, _, _, _, hn, _⟩ := R; exact hn
  rw [Vals.ref1 r]
  refine sorted_setE R (I.ok.hd hc) fun s' p out c k g o hp hg hi => ?_
  have hlen : (xs.map V.str).length ≤ sizeLine := by rw [List.length_map, sizeLine_eq]; omega
  have hn : H p = none := I.hok.fresh hp
  have J : Inv X pins σ (upd H p (.lst (xs.map V.str))) { s with heap := s'.heap, gens := s'.gens, drawn := s'.drawn, toks := s'.toks } :=
    I.call (ch := []) (Un.laid k hp hn) (I.hok.laid k hp ⟨hlen, out.toList, c, vals_of_strs hi, hg⟩) (by rw [g]; exact I.bare) (fun _ z => nomatch z)
  have e : s' = { s with heap := s'.heap, gens := s'.gens, drawn := s'.drawn, toks := s'.toks } := by
    obtain ⟨⟩ := s
    obtain ⟨⟩ := s'
    obtain rfl := o
    rfl
  rw [e]
  exact ⟨.ref p, _, J, rfl, q p hn⟩
end
end K75
set_option Elab.async false
set_option linter.all false
set_option maxRecDepth 100000
set_option maxHeartbeats 4000000
namespace K75
open PySem PySem.Spec PyProof.Rows L2

/-! {elt for t0 in i0 for t1 in i1}: a set of at most one string -/
theorem turnS2_out (elt t0 i0 t1 i1 : Expr) (scope : Scope) (pos : Pos) (it acc : Value) (env : Env) :
    compTurn (.SetComp elt [⟨t0, i0, [], 0⟩, ⟨t1, i1, [], 0⟩] scope pos) 0 it acc env = (do
      standAt i0.pos
      match ← pyNext it with
      | none => pure (.done .next)
      | some v =>
        letOwnedTupleGo t0 it v
        assign t0 env v
        let x ← eval i1 env
        standAt i1.pos
        let x ← foldedSetIterable i1 env x
        let _ ← runOwn (.compStart (.SetComp elt [⟨t0, i0, [], 0⟩, ⟨t1, i1, [], 0⟩] scope pos) 1 (← holding [x] (pyIter x)) acc env) env
        again (.compLoop (.SetComp elt [⟨t0, i0, [], 0⟩, ⟨t1, i1, [], 0⟩] scope pos) 0 it acc env)) := by rfl
theorem turnS2_in (elt t0 i0 t1 i1 : Expr) (scope : Scope) (pos : Pos) (it acc : Value) (env : Env) :
    compTurn (.SetComp elt [⟨t0, i0, [], 0⟩, ⟨t1, i1, [], 0⟩] scope pos) 1 it acc env = (do
      standAt i1.pos
      match ← pyNext it with
      | none => pure (.done .next)
      | some v =>
        letOwnedTupleGo t1 it v
        assign t1 env v
        (do let v ← eval elt env; standAt elt.pos; let _ ← call (.builtin "set.add") [acc, v])
        again (.compLoop (.SetComp elt [⟨t0, i0, [], 0⟩, ⟨t1, i1, [], 0⟩] scope pos) 1 it acc env)) := by rfl
section
variable {prog : Program} {w : World} {A : Around} {R : Result → Shared → Prop} {s : Shared} {elt t0 i0 t1 i1 : Expr} {scope : Scope} {pos : Pos} {it acc : Value} {env : Env}
theorem loopS2_out (hs : ∀ x, foldedSetIterable i1 env x = pure x) (I : Nat → Shared → Prop)
    (turn : ∀ n s, I n s → wpAny (model prog w) A (pyNext it) (fun r s₁ => match r with
      | none => R (.ok .next) s₁
      | some v => wpAny (model prog w) A (letOwnedTupleGo t0 it v) (fun _ s₁' => wpAny (model prog w) A (assign t0 env v) (fun _ s₃ =>
            wpAny (model prog w) A (eval i1 env) (fun x s₄ => wpAny (model prog w) A (pyIter x) (fun it1 s₅ =>
              codeAny (model prog w) A (.compStart (.SetComp elt [⟨t0, i0, [], 0⟩, ⟨t1, i1, [], 0⟩] scope pos) 1 it1 acc env) (fun r s' => match r with
                | .ok _ => ∃ m, m < n ∧ I m s'
                | .error _ => False) s₅) (notedBy (model prog w) A env fun e s' => R (.error e) s') s₄) (notedBy (model prog w) A env fun e s' => R (.error e) s') s₃)
            (notedBy (model prog w) A env fun e s' => R (.error e) s') s₁') (notedBy (model prog w) A env fun e s' => R (.error e) s') s₁) (notedBy (model prog w) A env fun e s' => R (.error e) s') s)
    (n : Nat) (h : I n s) :
    codeAny (model prog w) A (.compLoop (.SetComp elt [⟨t0, i0, [], 0⟩, ⟨t1, i1, [], 0⟩] scope pos) 0 it acc env) R s := by
  refine codeAny_loop rfl I (fun n s hI => ?_) n h
  show wpAny _ A ((compTurn (.SetComp elt [⟨t0, i0, [], 0⟩, ⟨t1, i1, [], 0⟩] scope pos) 0 it acc env).onRaise (fun x => do noteFrame x env; theTreesLotGoes x)) _ _ s
  refine wpAny_noted ?_
  rw [turnS2_out]
  refine wpAny_bind (wpAny_standAt (wpAny_bind (wpAny_mono (turn n s hI) (fun r s₁ h₁ => ?_) fun _ _ h' => h')))
  match r, h₁ with
  | none, h₁ => exact wpAny_pure h₁
  | some v, h₁ =>
    refine wpAny_bind (wpAny_mono h₁ (fun _ s₁' h₁' => ?_) fun _ _ h' => h')
    refine wpAny_bind (wpAny_mono h₁' (fun _ s₂ h₂ => ?_) fun _ _ h' => h')
    refine wpAny_bind (wpAny_mono h₂ (fun x s₄ h₄ => ?_) fun _ _ h' => h')
    refine wpAny_bind (wpAny_standAt (wpAny_bind (wpAny_of_eq (hs x) (wpAny_bind (wpAny_holding (wpAny_mono h₄ (fun it1 s₅ h₅ => ?_) fun _ _ h' => h'))))))
    refine wpAny_bind (wpAny_runOwn ?_)
    rw [Around.mark_none]
    refine codeAny_mono h₅ fun r s' hr => ?_
    match r, hr with
    | .ok f, hr => exact wpAny_pure ⟨rfl, hr⟩
    | .error e, hr => exact hr.elim
theorem loopS2_in (I : Nat → Shared → Prop)
    (turn : ∀ n s, I n s → wpAny (model prog w) A (pyNext it) (fun r s₁ => match r with
      | none => R (.ok .next) s₁
      | some v => wpAny (model prog w) A (letOwnedTupleGo t1 it v) (fun _ s₁' => wpAny (model prog w) A (assign t1 env v) (fun _ s₃ =>
            wpAny (model prog w) A (eval elt env) (fun x s₄ =>
              wpAny (model prog w) A (call (.builtin "set.add") [acc, x]) (fun _ s₅ => ∃ m, m < n ∧ I m s₅) (notedBy (model prog w) A env fun e s' => R (.error e) s') s₄) (notedBy (model prog w) A env fun e s' => R (.error e) s') s₃)
            (notedBy (model prog w) A env fun e s' => R (.error e) s') s₁') (notedBy (model prog w) A env fun e s' => R (.error e) s') s₁) (notedBy (model prog w) A env fun e s' => R (.error e) s') s)
    (n : Nat) (h : I n s) :
    codeAny (model prog w) A (.compLoop (.SetComp elt [⟨t0, i0, [], 0⟩, ⟨t1, i1, [], 0⟩] scope pos) 1 it acc env) R s := by
  refine codeAny_loop rfl I (fun n s hI => ?_) n h
  show wpAny _ A ((compTurn (.SetComp elt [⟨t0, i0, [], 0⟩, ⟨t1, i1, [], 0⟩] scope pos) 1 it acc env).onRaise (fun x => do noteFrame x env; theTreesLotGoes x)) _ _ s
  refine wpAny_noted ?_
  rw [turnS2_in]
  refine wpAny_bind (wpAny_standAt (wpAny_bind (wpAny_mono (turn n s hI) (fun r s₁ h₁ => ?_) fun _ _ h' => h')))
  match r, h₁ with
  | none, h₁ => exact wpAny_pure h₁
  | some v, h₁ =>
    refine wpAny_bind (wpAny_mono h₁ (fun _ s₁' h₁' => ?_) fun _ _ h' => h')
    refine wpAny_bind (wpAny_mono h₁' (fun _ s₂ h₃ => ?_) fun _ _ h' => h')
    exact wpAny_bind (wpAny_bind (wpAny_mono h₃ (fun x s₄ h₄ => wpAny_bind (wpAny_standAt (wpAny_bind (wpAny_mono h₄ (fun _ s₅ h₅ => wpAny_pure (wpAny_pure ⟨rfl, h₅⟩)) fun _ _ h' => h')))) fun _ _ h' => h'))
theorem startS1 (h0 : codeAny (model prog w) A (.compLoop (.SetComp elt [⟨t0, i0, [], 0⟩, ⟨t1, i1, [], 0⟩] scope pos) 1 it acc env) R s)
    (h : wpAny (model prog w) A (pyIter it) (fun it' s' => codeAny (model prog w) A (.compLoop (.SetComp elt [⟨t0, i0, [], 0⟩, ⟨t1, i1, [], 0⟩] scope pos) 1 it' acc env) R s')
      (notedBy (model prog w) A env fun x s' => R (.error x) s') s) :
    codeAny (model prog w) A (.compStart (.SetComp elt [⟨t0, i0, [], 0⟩, ⟨t1, i1, [], 0⟩] scope pos) 1 it acc env) R s := by
  refine codeAny_of_tree ?_
  show wpAny _ _ ((compStart (.SetComp elt [⟨t0, i0, [], 0⟩, ⟨t1, i1, [], 0⟩] scope pos) 1 it acc env).onRaise (fun x => do noteFrame x env; standAt theWindowsPlace)) _ _ s
  refine wpAny_notedAt ?_
  unfold compStart
  show wpAny _ _ (ask >>= _) _ _ s
  refine wpAny_bind (wpAny_askSetting (wpAny_ite ?_))
  split
  · first
      | exact wpAny_bind (wpAny_pure (wpAny_pure (And.intro rfl h0)))
      | exact wpAny_pure (And.intro rfl h0)
  · first
      | exact wpAny_bind (wpAny_rule (wpAny_bind (wpAny_standAt (wpAny_bind (wpAny_mono h (fun it' s' h' => wpAny_pure (And.intro rfl h')) fun _ _ x => x)))))
      | (refine wpAny_bind (wpAny_rule ?_); show wpAny _ _ (standAt i1.pos >>= _) _ _ s; exact wpAny_bind (wpAny_standAt (wpAny_bind (wpAny_mono h (fun it' s' h' => wpAny_pure (And.intro rfl h')) fun _ _ x => x))))
end

theorem wipe_at {σ : L2.St} {i : Nat} : ∀ {vs : List Nat}, i ∈ vs → (wipe σ vs)[i]? = if i < σ.length then some none else none
  | v :: vs, h => by
    show ((wipe σ vs).set v none)[i]? = _
    by_cases hi : v = i
    · rw [hi, List.getElem?_set_self', ← wipe_length σ vs]
      by_cases hl : i < (wipe σ vs).length
      · rw [List.getElem?_eq_getElem hl, if_pos hl]; rfl
      · rw [List.getElem?_eq_none (by omega), if_neg hl]; rfl
    · rw [List.getElem?_set_ne hi]
      exact wipe_at (by rcases List.mem_cons.mp h with z | z; exact absurd z.symm hi; exact z)
def tSc2 (w : World) (wi : TI) (g : TG) (wi1 : TI) (g1 : TG) (te : TE) (vs vs1 : List Nat) : TE := fun σ H Q => wi σ H fun J H1 => ∀ D, H1 D = none → ∃ W : Nat → Nat → Hp → Prop, (∃ m, W 0 m (upd H1 D (SetSO w D []))) ∧ ∀ i m H, W i m H →
  (J.stop i H ∧ Q (.ref D) H) ∨ (J.go i H ∧ ∃ Nx : Hp → Prop, (∀ H', Nx H' → ∃ m', m' < m ∧ W (i + 1) m' H') ∧ ∀ x H', J.yld i H x H' → g x (wipe σ vs) H' fun σ2 H2 => wipe σ2 vs = wipe σ vs ∧
    wi1 σ2 H2 fun J1 H4 => ∃ W1 : Nat → Nat → Hp → Prop, (∃ m, W1 0 m H4) ∧ ∀ j k H, W1 j k H →
      (J1.stop j H ∧ Nx H) ∨ (J1.go j H ∧ ∃ Nx1 : Hp → Prop, (∀ H', Nx1 H' → ∃ k', k' < k ∧ W1 (j + 1) k' H') ∧ ∀ x H', J1.yld j H x H' → g1 x (wipe σ2 vs1) H' fun σ3 H5 => wipe σ3 vs1 = wipe σ2 vs1 ∧
        te σ3 H5 fun y H7 => ∃ k, y = .str k ∧ H7 D = some (SetSO w D []) ∧ Nx1 (upd H7 D (SetSO w D [k]))))
section
variable {X : Cx}
theorem pe_sc2 {elt tg iter tg1 iter1 : Expr} {scope : Scope} {own : List (Str × Nat)} {vs1 : List Nat} {pos : Pos} {wi wi1 : TI} {g g1 : TG} {te : TE} (hc : X.calm = true) (hN : X.N.Nodup) (hi : PI X tg iter wi) (ok : BlkOk X.N X.env.scope scope own) (hv : ∀ i ∈ vs1, i ∈ own.map (·.2))
    (hg : ∀ (s : Shared) (H : Hp) (C : Addr) (cl : List (Str × Addr)) (fp : List Addr), PG (Bk X s H scope cl C fp) tg g)
    (hi1 : ∀ (s : Shared) (H : Hp) (C : Addr) (cl : List (Str × Addr)) (fp : List Addr), PI (Bk X s H scope cl C fp) tg1 iter1 wi1)
    (hg1 : ∀ (s : Shared) (H : Hp) (C : Addr) (cl : List (Str × Addr)) (fp : List Addr), PG (Bk X s H scope cl C fp) tg1 g1)
    (he : ∀ (s : Shared) (H : Hp) (C : Addr) (cl : List (Str × Addr)) (fp : List Addr), PE (Bk X s H scope cl C fp) elt te) (hs : ∀ x, foldedSetIterable iter X.env x = pure x := by intro _; rfl) (hs1 : ∀ env x, foldedSetIterable iter1 env x = pure x := by intro _ _; rfl) :
    PE X (.SetComp elt [⟨tg, iter, [], 0⟩, ⟨tg1, iter1, [], 0⟩] scope pos) (tSc2 X.w wi g wi1 g1 te (own.map (·.2)) vs1) := by
  refine ⟨fun pins s σ H Q I h => ?_⟩
  rw [PpSet.eval_SetComp]
  refine comp_scaf (u0 := fun D => SetSO X.w D []) (g := ⟨tg, iter, [], 0⟩) (gs := [⟨tg1, iter1, [], 0⟩]) hN I ok rfl hs (fun H1 s1 Qm Em I1 q => ?_) (src_of hi I h) ?_
  · refine PpSet.newSet_ok (q _ ?_ (fun b o e => Heap.get?_push_of_some _ e) (by rw [Heap.size_push]; exact Nat.lt_succ_self _) rfl)
    exact I1.laid (t' := s1.toks) (fun b o e => Heap.get?_push_of_some _ e) (Nat.le_refl _) (setSO_new (setE_fresh X.w))
  · intro it fp H2 s2 s3 s4 D C cl hDn ⟨tn, J, T, st2, q⟩ k4 g4 I4 n4 exit
    obtain ⟨W, ⟨m0, w0⟩, turn⟩ := q D hDn
    have st4 : tn 0 s4.heap := T.keep _ _ _ st2 fun b _ o e => k4 b o e
    have pg := hg s3 (upd H2 D (SetSO X.w D [])) C cl fp
    have pi1 := hi1 s3 (upd H2 D (SetSO X.w D [])) C cl fp
    have pg1 := hg1 s3 (upd H2 D (SetSO X.w D [])) C cl fp
    have pe := he s3 (upd H2 D (SetSO X.w D [])) C cl fp
    have loop : codeAny (model X.prog X.w) X.A (.compLoop (.SetComp elt [⟨tg, iter, [], 0⟩, ⟨tg1, iter1, [], 0⟩] scope pos) 0 (.ref it) (.ref D) (compEnvC scope cl C X.env)) (compPost (model X.prog X.w) X.A X.xe none (EP X pins σ Q) (.ref D) C) s4 := by
      refine loopS2_out (hs1 _) (fun n s' => ∃ i H', Inv (Bk X s3 (upd H2 D (SetSO X.w D [])) scope cl C fp) [] (wipe σ (own.map (·.2))) H' s' ∧ tn i s'.heap ∧ (∀ b ∈ fp, H' b = none) ∧ W i n H') ?_ m0 ⟨0, _, I4, st4, n4, w0⟩
      rintro n s5 ⟨i, H5, I5, st5, n5, w5⟩
      rcases turn i n H5 w5 with ⟨stop, qq⟩ | ⟨go, Nx, hNx, step⟩
      · refine thnF (T.done (Bk X s3 (upd H2 D (SetSO X.w D [])) scope cl C fp) rfl rfl rfl hc i [] s5 _ H5 (fun _ _ => False) I5 (blk_fp I5 n5) st5 stop) fun r s6 ⟨hr, I6⟩ => ?_
        subst hr
        obtain ⟨I7, f7, m, hn⟩ := exit _ _ _ I6
        refine ⟨m, hn, fun h' sb => ?_⟩
        obtain ⟨f0, f1, f2, f3, f4, f5⟩ := f7
        exact ⟨.ref D, H5, I7.turned (t' := s6.toks) (fun b o hb e => (sb.2 b hb).trans e) f0 f1 f3 f4 f5, rfl, qq⟩
      · refine thnF (T.item (Bk X s3 (upd H2 D (SetSO X.w D [])) scope cl C fp) rfl rfl rfl hc i [] s5 _ H5 (fun _ _ => False) I5 (blk_fp I5 n5) st5 go) fun r s6 ⟨u, hr, h6⟩ => ?_
        subst hr
        refine thnF h6 fun _ s7 ⟨x, H7, I7, r7, y7, st7, n7⟩ => ?_
        refine thnF (pg.run _ s7 _ H7 x u _ (I7.pinned (blk_fp I7 n7) (T.obj _ _ st7)) r7 (step x H7 y7)) fun _ s8 ⟨σ8, H8, I8, hw8, q8⟩ => ?_
        refine thnF (pi1.run _ s8 σ8 H8 _ I8 q8) fun xv s10 hx => thnF hx fun itv s11 ⟨it1, fp1, tn1, J1, H11, e1, I11, T1, st11, f11, W1, ⟨m1, w1⟩, turn1⟩ => ?_
        subst e1
        have stat1 : ∀ {H' : Hp}, (∀ b ∈ fp1, H' b = none) → ∀ b ∈ fp1, FpOk (Bk X s3 (upd H2 D (SetSO X.w D [])) scope cl C fp) ([] ++ pinsAt fp s7.heap) H' b := fun hn b hb => ⟨hn b hb, (f11 b hb).2⟩
        have loop1 : codeAny (model X.prog X.w) X.A (.compLoop (.SetComp elt [⟨tg, iter, [], 0⟩, ⟨tg1, iter1, [], 0⟩] scope pos) 1 (.ref it1) (.ref D) (compEnvC scope cl C X.env))
            (fun r s' => match r with
              | .ok _ => ∃ m, m < n ∧ ∃ i H', Inv (Bk X s3 (upd H2 D (SetSO X.w D [])) scope cl C fp) [] (wipe σ (own.map (·.2))) H' s' ∧ tn i s'.heap ∧ (∀ b ∈ fp, H' b = none) ∧ W i m H'
              | .error _ => False) s11 := by
          refine loopS2_in (fun k s' => ∃ j H', Inv (Bk X s3 (upd H2 D (SetSO X.w D [])) scope cl C fp) ([] ++ pinsAt fp s7.heap) (wipe σ8 vs1) H' s' ∧ tn1 j s'.heap ∧ (∀ b ∈ fp1, H' b = none) ∧ W1 j k H') ?_ m1 ⟨0, H11, I11.weak (wipe_length _ _) (fun j v e => (wipe_some e).1), st11, fun b hb => (f11 b hb).1, w1⟩
          rintro k s12 ⟨j, H12, I12, st12, n12, w12⟩
          rcases turn1 j k H12 w12 with ⟨stop1, nx1⟩ | ⟨go1, Nx1, hNx1, step1⟩
          · refine thnF (T1.done (Bk X s3 (upd H2 D (SetSO X.w D [])) scope cl C fp) rfl rfl rfl hc j _ s12 (wipe σ8 vs1) H12 (fun _ _ => False) I12 (stat1 n12) st12 stop1) fun r s13 ⟨hr, I13⟩ => ?_
            subst hr
            obtain ⟨m', hm, w'⟩ := hNx _ nx1
            have I14 : Inv (Bk X s3 (upd H2 D (SetSO X.w D [])) scope cl C fp) ([] ++ pinsAt fp s7.heap) σ8 H12 s13 ∨ True := .inr trivial
            have hw9 : wipe (wipe σ8 vs1) (own.map (·.2)) = wipe σ (own.map (·.2)) := by
              rw [← hw8]
              apply List.ext_getElem?
              intro l
              by_cases hl : l ∈ own.map (·.2)
              · rw [wipe_at hl, wipe_at hl, wipe_length]
              · rw [wipe_out hl, wipe_out hl, wipe_out fun z => hl (hv l z)]
            obtain ⟨a1, a2, a3⟩ := blk_next T st7 hw9 I13
            exact ⟨m', hm, i + 1, H12, a1, a2, a3, w'⟩
          · refine thnF (T1.item (Bk X s3 (upd H2 D (SetSO X.w D [])) scope cl C fp) rfl rfl rfl hc j _ s12 (wipe σ8 vs1) H12 (fun _ _ => False) I12 (stat1 n12) st12 go1) fun r s13 ⟨u1, hr, h13⟩ => ?_
            subst hr
            refine thnF h13 fun _ s14 ⟨x1, H14, I14, r14, y14, st14, n14⟩ => ?_
            refine thnF (pg1.run _ s14 (wipe σ8 vs1) H14 x1 u1 _ (I14.pinned (stat1 n14) (T1.obj _ _ st14)) r14 (step1 x1 H14 y14)) fun _ s15 ⟨σ15, H15, I15, hw15, q15⟩ => ?_
            refine thnF (pe.run _ s15 σ15 H15 _ I15 q15) fun z s17 ⟨yv, H17, I17, r17, kk, ek, hD17, nx⟩ => ?_
            subst ek
            obtain ⟨tk, rfl⟩ := r17
            refine addS_ok (X := Bk X s3 (upd H2 D (SetSO X.w D [])) scope cl C fp) I17 hD17 fun s18 I18 => ?_
            obtain ⟨m', hm, w'⟩ := hNx1 _ nx
            have pin' : ∀ b ∈ fp1, ∀ o, s14.heap.get? b = some o → s18.heap.get? b = some o ∧ (upd H17 D (SetSO X.w D [kk])) b = none := fun b hb o e =>
              let z := I18.pin (b, o) (List.mem_append_right _ (List.mem_append_right _ (mem_pinsAt hb e)))
              ⟨z.1, z.2.1⟩
            refine ⟨m', hm, j + 1, _, I18.unpinned.weak (by rw [← hw15, wipe_length]) (fun j v e => by rw [← hw15] at e; exact (wipe_some e).1), T1.keep _ _ _ st14 fun b hb o e => (pin' b hb o e).1, fun b hb => ?_, w'⟩
            obtain ⟨o, e, _⟩ := T1.obj _ _ st14 b hb
            exact (pin' b hb o e).2
        exact startS1 loop1 (T1.self X.A 0 _ _ _ st11 loop1)
    exact PpSet.codeAny_compStart_set loop (T.self X.A 0 _ _ _ st4 loop)
end
end K75
set_option Elab.async false
set_option linter.all false
set_option maxRecDepth 100000
set_option maxHeartbeats 4000000
namespace K75
open PySem PySem.Spec PyProof.Rows L2

/-! a list comprehension whose element may raise -/
theorem inv_xe {X : Cx} {xB : Value → Shared → Prop} {pins : List (Addr × Obj)} {σ : L2.St} {H : Hp} {s : Shared} (I : Inv X pins σ H s) : Inv { X with xe := xB } pins σ H s :=
  ⟨⟨I.ok.mod, I.ok.kind, I.ok.glob, I.ok.blt, I.ok.above, I.ok.inj, I.ok.has, I.ok.cab, I.ok.hd, I.ok.frames, I.ok.stk, I.ok.exf, I.ok.bs, I.ok.bsz, I.ok.noex, I.ok.exfs, I.ok.funs, I.ok.frf⟩,
    I.os, I.bare, I.base, I.loc, I.cell, I.free, I.freeC, I.pin, I.hok, I.len⟩
theorem inv_ex {X : Cx} {xB : Value → Shared → Prop} {pins : List (Addr × Obj)} {σ : L2.St} {H : Hp} {s : Shared} (I : Inv { X with xe := xB } pins σ H s) : Inv X pins σ H s :=
  ⟨⟨I.ok.mod, I.ok.kind, I.ok.glob, I.ok.blt, I.ok.above, I.ok.inj, I.ok.has, I.ok.cab, I.ok.hd, I.ok.frames, I.ok.stk, I.ok.exf, I.ok.bs, I.ok.bsz, I.ok.noex, I.ok.exfs, I.ok.funs, I.ok.frf⟩,
    I.os, I.bare, I.base, I.loc, I.cell, I.free, I.freeC, I.pin, I.hok, I.len⟩
/-- the block, whose raise is taken by xB -/
abbrev BkE (X : Cx) (s3 : Shared) (H3 : Hp) (scope : Scope) (cl : List (Str × Addr)) (C : Addr) (fp : List Addr) (xB : Value → Shared → Prop) : Cx := { Bk X s3 H3 scope cl C fp with xe := xB }
theorem tracedZ_same {h h' base : Heap} {e L : Addr} {Z : Obj → Prop} {fl : Value} {m : Str → Option Value} (x : HandSPX.TracedZ h base e Z fl) (hn : h.Ns L m) (hs : Heap.SameBut L h h') : HandSPX.TracedZ h' base e Z fl := by
  obtain ⟨oe, vs, T, oT, ts, he, hz, hd, h1, hT, ne, hoT, hdT, h3⟩ := x
  obtain ⟨o, es, ep, ho, hod, _⟩ := hn
  have n1 : e ≠ L := fun z => by rw [z, ho] at he; cases he; rw [hod] at hd; cases hd
  have n2 : T ≠ L := fun z => by rw [z, ho] at hoT; cases hoT; rw [hod] at hdT; cases hdT
  exact ⟨oe, vs, T, oT, ts, (hs.2 e n1).trans he, hz, hd, h1, hT, ne, (hs.2 T n2).trans hoT, hdT, h3⟩
theorem funFrames_mono {h B B' : Heap} (hB : ∀ b, B.get? b = none → B'.get? b = none) : ∀ {l : List Env}, h.FunFrames B l → h.FunFrames B' l
  | [], _ => trivial
  | _ :: _, ⟨hk, ⟨L, o, a, b, c, d⟩, r⟩ => ⟨hk, ⟨L, o, a, hB _ b, c, d⟩, funFrames_mono hB r⟩
section
variable {X : Cx} {E : XK} {pins pins' : List (Addr × Obj)} {σ σ9 : L2.St} {H3 H9 : Hp} {s3 s9 s' : Shared} {scope : Scope} {cl : List (Str × Addr)} {C : Addr} {fp : List Addr} {xB : Value → Shared → Prop} {u : Value}
theorem fails_of (tk : Takes X (fun cls d _ H => E cls d H)) (hs : X.stack = X.env :: X.outer) (hf : X.env.frame = some X.env.locals) (I3 : Inv X pins σ H3 s3)
    (f3 : ∀ b ∈ fp, (b ∈ X.ex ∨ X.s_0.heap.objs.size ≤ b) ∧ b ≠ X.env.locals ∧ (∀ x c, X.env.cells.lookup x = some c → c ≠ b) ∧ ∀ p ∈ X.pn ++ pins, p.1 ≠ b)
    (hC : s3.heap.objs.size ≤ C) (I9 : Inv (BkE X s3 H3 scope cl C fp xB) pins' σ9 H9 s9) (c : L2.CX X.prog X.w X.stack H9 s9 E u s') :
    notedBy (model X.prog X.w) X.A (compEnvC scope cl C X.env) (CompFails (model X.prog X.w) X.A X.xe (compEnvC scope cl C X.env)) u s' := by
  obtain ⟨a, B, H', cls, d, rfl, fl, hok, ub, na, os, ag, hE⟩ := c
  have ltC : ∀ {b : Addr} {o : Obj}, s3.heap.get? b = some o → b ≠ C := fun {b o} z => Nat.ne_of_lt (Nat.lt_of_lt_of_le (Heap.lt_size z) hC)
  have frz : ∀ {b : Addr}, b ∈ frs X.stack → ∃ o, s3.heap.get? b = some o := fun {b} hb => by
    obtain ⟨_, o, ho, _⟩ := I3.stack.mem hb
    exact ⟨o, ho⟩
  have nCf : C ∉ frs X.stack := fun hb => by
    obtain ⟨o, z⟩ := frz hb
    exact ltC z rfl
  obtain ⟨m9, n9, _⟩ := I9.loc
  have n9 : s9.heap.Ns C m9 := n9
  obtain ⟨oC, esC, epC, hoC, hdC, rC⟩ := n9
  have fC : H9 C = none := I9.free
  have bC : B.get? C = some oC := ub.keep C oC hoC fC nCf
  obtain ⟨B', b1, b2⟩ := restrict B fun b => decide (b ≠ C)
  have bB : ∀ b o, B'.get? b = some o → B.get? b = some o ∧ b ≠ C := fun b o e => by
    by_cases hb : b = C
    · rw [hb, b2 C (by simp)] at e; cases e
    · rw [b1 b (by simpa using hb)] at e; exact ⟨e, hb⟩
  have Bb : ∀ b o, B.get? b = some o → b ≠ C → B'.get? b = some o := fun b o e hb => by rw [b1 b (by simpa using hb)]; exact e
  have mono : ∀ b, B.get? b = none → B'.get? b = none := fun b e => by
    cases q : B'.get? b with
    | none => rfl
    | some o => rw [(bB b o q).1] at e; cases e
  obtain ⟨g1, g2, g3, oe, vs, T, oT, ts, t1, t2, t3, t4, t5, t6, t7, t8, t9⟩ := fl
  have fl' : HandSPX.FlyingZ B' X.stack a (Zc cls d) s'.heap := ⟨fun b o e => g1 b o (bB b o e).1, mono _ g2, funFrames_mono mono g3, oe, vs, T, oT, ts, t1, t2, t3, t4, mono _ t5, t6, t7, t8, t9⟩
  -- the state without the exception
  obtain ⟨G, q1, q2⟩ := restrict s'.heap fun b => (B'.get? b).isSome || decide (b ∈ frs X.stack)
  have gB : ∀ b o, B'.get? b = some o → G.get? b = some o := fun b o e => by
    rw [q1 b (by simp [e])]
    exact fl'.1 b o e
  have gF : ∀ b, b ∈ frs X.stack → G.get? b = s'.heap.get? b := fun b hb => q1 b (by simp [hb])
  have og : ∀ b o, G.get? b = some o → s'.heap.get? b = some o ∧ ((B'.get? b).isSome = true ∨ b ∈ frs X.stack) := fun b o e => by
    cases q : ((B'.get? b).isSome || decide (b ∈ frs X.stack)) with
    | false => rw [q2 b q] at e; cases e
    | true =>
      rw [q1 b q] at e
      exact ⟨e, by simpa [Bool.or_eq_true] using q⟩
  have hC' : H' C = none := ub.free C oC hoC fC
  have base := I9.base
  have base : Un (frs X.stack) fp H3 H9 s3.heap s9.heap := base
  have frH : ∀ b ∈ frs X.stack, H3 b = none := fun b hb => I3.stkFree b hb
  have okG : HOk X.prog X.w H' G := fun b o q => by
    refine (hok b o q).stay (fun c v hc r => gB c v (Bb c v r fun z => ?_)) (fun _ r => r) fun _ _ r => r
    rcases hc with hc | hc
    · rw [← hc, z, hC'] at q; cases q
    · rw [z, hC'] at hc; cases hc
  have J : Inv X pins σ H' { s' with heap := G } := by
    refine I3.call' (ch := fp) (os.trans I9.os) ⟨fun b o e n h1 h2 => ?_, fun b o e n h1 h2 => ?_, fun b o e n h2 => ?_, fun b o e h2 => ?_, fun b xs e => ub.tups b xs (base.tups b xs e), fun b o v e => ub.frzs b o v (base.frzs b o v e), fun b ps e => ?_⟩ okG ag f3
    · exact gB b o (Bb b o (ub.keep b o (base.keep b o e n h1 h2) (base.free b o e n h2) h1) (ltC e))
    · obtain ⟨sl, e1⟩ := base.slot b o e n h1 h2
      obtain ⟨sl2, e2⟩ := ub.slot b _ e1 h1
      exact ⟨sl2, by rw [gF b h1]; exact e2⟩
    · obtain ⟨o1, e1⟩ := base.there b o e h2
      exact ub.free b o1 e1 (base.free b o e n h2)
    · obtain ⟨o1, e1⟩ := base.there b o e h2
      by_cases hb : b ∈ frs X.stack
      · obtain ⟨sl2, e2⟩ := ub.slot b _ e1 hb
        exact ⟨_, by rw [gF b hb]; exact e2⟩
      · obtain ⟨o2, e2⟩ := ub.there b o1 e1 hb
        exact ⟨o2, gB b o2 (Bb b o2 e2 (ltC e))⟩
    · obtain ⟨m1, e1⟩ := base.tbls b ps e
      obtain ⟨m2, e2⟩ := ub.tbls b _ e1
      exact ⟨m1 ++ m2, by rw [e2, Array.append_assoc]⟩
  have hfr : X.A.frames = some (X.env :: X.outer) := by rw [I3.ok.frames, hs]
  rw [hs] at fl'
  show wpAny _ _ (noteFrame (.ref a) (compEnvC scope cl C X.env)) _ _ s'
  rw [noteFrame_env (.ref a) (show (compEnvC scope cl C X.env).frame = X.env.frame from rfl)]
  refine HandSPX.looks_onZ Zc.steady hfr hf fl' fun h1 hh up1 => ?_
  obtain ⟨slC, eC⟩ := up1 C oC (g1 C oC bC) (fun vs q => by rw [hdC] at q; cases q)
  refine ⟨m9, ⟨_, esC, epC, eC, hdC, rC⟩, fun h2 m2 n2 sb2 => ?_⟩
  obtain ⟨r1, r2, r3, r4⟩ := hh
  have nB' : B'.get? C = none := b2 C (by simp)
  have w1 : B'.StaysIn h2 := fun b o e => (sb2.2 b fun z => by rw [show b = C from z, nB'] at e; cases e).trans (r1 b o e)
  have w3 : h2.FunFrames B' (X.env :: X.outer) := Heap.FunFrames.sameBut sb2 n2 r3
  have w4 := tracedZ_same r4 ⟨_, esC, epC, eC, hdC, rC⟩ sb2
  obtain ⟨oe2, vs2, T2, oT2, ts2, u1, u2, u3, u4, u5, u6, u7, u8, u9⟩ := w4
  unfold PySem.passOn
  refine wpAny_bind (wpAny_field u1 u3 u4 ?_)
  rw [if_neg (show ¬ ((Value.ref T2 == Value.none) = true) from by simp)]
  rw [show (compEnvC scope cl C X.env).frame = some X.env.locals from hf]
  refine wpAny_bind (HandSPX.setFlight_onZ (l := X.env :: X.outer) (base := B') (Z := Zc cls d) ⟨w1, r2, w3, oe2, vs2, T2, oT2, ts2, u1, u2, u3, u4, u5, u6, u7, u8, u9⟩ fun h3 hh3 up3 => wpAny_throw ?_)
  refine tk _ _ ⟨a, B', { s' with heap := G }, pins, σ, H', cls, d, rfl, J, fun b o e hb => ?_, fun b o e hnf => ?_, .inr (.inr ?_), na, rfl, ag, hE⟩
  · obtain ⟨_, h⟩ := og b o e
    rcases h with h | h
    · obtain ⟨o', q⟩ := Option.isSome_iff_exists.mp h
      have z := gB b o' q
      rw [e] at z; cases z
      exact q
    · exact absurd h hb
  · obtain ⟨e0, h⟩ := og b o e
    have hbC : b ≠ C := fun z => by
      rcases h with h | h
      · rw [z, nB'] at h; cases h
      · exact nCf (z ▸ h)
    obtain ⟨sl1, e1⟩ := up1 b o e0 hnf
    obtain ⟨sl2, e2⟩ := up3 b _ ((sb2.2 b hbC).trans e1) hnf
    exact ⟨sl2, e2⟩
  · rw [hs]
    exact hh3
end

def tLcE (wi : TI) (g : TG) (te : TE) (vs : List Nat) : TE := fun σ H Q => wi σ H fun J H1 => ∀ D, H1 D = none → ∃ W : Nat → Nat → Hp → Prop, (∃ m, W 0 m (upd H1 D (.lst []))) ∧ ∀ i m H, W i m H →
  (J.stop i H ∧ Q (.ref D) H) ∨ (J.go i H ∧ ∃ Nx : Hp → Prop, (∀ H', Nx H' → ∃ m', m' < m ∧ W (i + 1) m' H') ∧ ∀ x H', J.yld i H x H' → g x (wipe σ vs) H' fun σ2 H2 => wipe σ2 vs = wipe σ vs ∧
    te σ2 H2 fun y H4 => ∃ acc, H4 D = some (.lst acc) ∧ acc.length < sizeLine ∧ Nx (upd H4 D (.lst (acc ++ [y]))))
section
variable {X : Cx}
theorem pe_lcE {E : XK} {elt tg iter : Expr} {scope : Scope} {own : List (Str × Nat)} {pos : Pos} {wi : TI} {g : TG} {te : TE} (hc : X.calm = true) (hN : X.N.Nodup) (hst : X.stack = X.env :: X.outer) (hf : X.env.frame = some X.env.locals)
    (tk : Takes X (fun cls d _ H => E cls d H)) (hi : PI X tg iter wi) (ok : BlkOk X.N X.env.scope scope own)
    (hg : ∀ (s : Shared) (H : Hp) (C : Addr) (cl : List (Str × Addr)) (fp : List Addr) (xB : Value → Shared → Prop), PG (BkE X s H scope cl C fp xB) tg g)
    (he : ∀ (s : Shared) (H : Hp) (C : Addr) (cl : List (Str × Addr)) (fp : List Addr) (xB : Value → Shared → Prop), Passes (L2.CX X.prog X.w) (BkE X s H scope cl C fp xB) E → PE (BkE X s H scope cl C fp xB) elt te)
    (hs : ∀ x, foldedSetIterable iter X.env x = pure x := by intro _; rfl) :
    PE X (.ListComp elt [⟨tg, iter, [], 0⟩] scope pos) (tLcE wi g te (own.map (·.2))) := by
  refine ⟨fun pins s σ H Q I h => ?_⟩
  rw [eval_ListComp]
  have hfree : ∀ y ∈ scope.names, y.2 = .free → ∃ c, X.env.cells.lookup y.1 = some c := fun y hy e =>
    (ok.free y hy e).elim (fun k => I.ok.has _ (.inl k)) fun k => I.ok.has _ (.inr k)
  refine comprehension_at (use := none) (g := ⟨tg, iter, [], 0⟩) rfl hs (closure_ok hfree) ok.kind (fun y hy e => by rw [ok.uniq y hy, e]) (thn (src_of hi I h) fun xv s1 hx => thn hx fun itv s2 h2 => ?_)
  obtain ⟨it, fp, H2, rfl, I2, f2, tn, J, T, st2, q⟩ := h2
  refine wpAny_newObj_type (newEnv_comp ?_)
  have hDn : H2 s2.heap.objs.size = none := I2.hok.fresh (Nat.le_refl _)
  generalize hs3 : ({ s2 with heap := s2.heap.push { cls := .type "list", data := .seq ([] : List Value).toArray } } : Shared) = s3
  have h3 : s3.heap = s2.heap.push { cls := .type "list", data := .seq ([] : List Value).toArray } := by rw [← hs3]
  have I3 : Inv X pins σ (upd H2 s2.heap.objs.size (.lst [])) s3 := by
    rw [← hs3]
    exact I2.laid (t' := s2.toks) (fun b o e => Heap.get?_push_of_some _ e) (Nat.le_refl _) ⟨Nat.zero_le _, [], 0, .nil, Heap.get?_push_size _ rfl⟩
  have k3 : ∀ b o, s2.heap.get? b = some o → s3.heap.get? b = some o := fun b o e => by rw [h3]; exact Heap.get?_push_of_some _ e
  have lt3 : s2.heap.objs.size < s3.heap.objs.size := by rw [h3, Heap.size_push]; exact Nat.lt_succ_self _
  obtain ⟨W, ⟨m0, w0⟩, turn⟩ := q _ hDn
  generalize hD : s2.heap.objs.size = D at I3 hDn lt3 w0 turn
  have f3 : ∀ b ∈ fp, FpOk X pins (upd H2 D (.lst [])) b ∧ b < s3.heap.objs.size := fun b hb => by
    obtain ⟨q, lt⟩ := f2 b hb
    refine ⟨⟨?_, q.2⟩, Nat.lt_trans (hD ▸ lt) lt3⟩
    rw [upd_ne (Nat.ne_of_lt (hD ▸ lt))]
    exact q.1
  have ch3 : ∀ b ∈ fp, (b ∈ X.ex ∨ X.s_0.heap.objs.size ≤ b) ∧ b ≠ X.env.locals ∧ (∀ x c, X.env.cells.lookup x = some c → c ≠ b) ∧ ∀ p ∈ X.pn ++ pins, p.1 ≠ b := fun b hb => ⟨(f3 b hb).1.2.2.2.1, (f3 b hb).1.2.1, (f3 b hb).1.2.2.2.2.1, (f3 b hb).1.2.2.2.2.2⟩
  have I4 := block_start I3 ok hN f3
  show codeAny _ _ (.compStart (.ListComp elt [⟨tg, iter, [], 0⟩] scope pos) 0 (.ref it) (.ref D) (compEnvC scope (cellsFrom (s3.heap.objs.size + 1) scope.names (cloFrom X.env.cells scope.names [])) s3.heap.objs.size X.env)) (compEnds (model X.prog X.w) X.A X.xe none (EP X pins σ Q) (.ref D) (compEnvC scope (cellsFrom (s3.heap.objs.size + 1) scope.names (cloFrom X.env.cells scope.names [])) s3.heap.objs.size X.env)) { s3 with heap := pushCells (s3.heap.push { cls := .type "dict", data := .dict #[] }) scope.names }
  generalize hs4 : ({ s3 with heap := pushCells (s3.heap.push { cls := .type "dict", data := .dict #[] }) scope.names } : Shared) = s4 at I4 ⊢
  have st4 : tn 0 s4.heap := T.keep _ _ _ st2 fun b _ o e => by rw [← hs4]; exact pushCells_keeps _ _ _ _ (Heap.get?_push_of_some _ (k3 b o e))
  have n4 : ∀ b ∈ fp, (upd H2 D (.lst [])) b = none := fun b hb => (f3 b hb).1.1
  generalize hCC : s3.heap.objs.size = C at I4 ⊢
  generalize hcl : cellsFrom (C + 1) scope.names (cloFrom X.env.cells scope.names []) = cl at I4 ⊢
  generalize hxB : (notedBy (model X.prog X.w) X.A (compEnvC scope cl C X.env) fun e s' => compEnds (model X.prog X.w) X.A X.xe none (EP X pins σ Q) (.ref D) (compEnvC scope cl C X.env) (.error e) s') = xB
  have I4 : Inv (BkE X s3 (upd H2 D (.lst [])) scope cl C fp xB) [] (wipe σ (own.map (·.2))) (upd H2 D (.lst [])) s4 := inv_xe I4
  have pg := hg s3 (upd H2 D (.lst [])) C cl fp xB
  have pe := he s3 (upd H2 D (.lst [])) C cl fp xB (fun pins9 σ9 H9 s9 e s' I9 c => by
    show xB e s'
    rw [← hxB]
    exact fails_of tk hst hf I3 ch3 (by rw [hCC]; exact Nat.le_refl _) I9 c)
  have loop : codeAny (model X.prog X.w) X.A (.compLoop (.ListComp elt [⟨tg, iter, [], 0⟩] scope pos) 0 (.ref it) (.ref D) (compEnvC scope cl C X.env)) (compEnds (model X.prog X.w) X.A X.xe none (EP X pins σ Q) (.ref D) (compEnvC scope cl C X.env)) s4 := by
    refine compLoop_any (fun n s' => ∃ i H', Inv (BkE X s3 (upd H2 D (.lst [])) scope cl C fp xB) [] (wipe σ (own.map (·.2))) H' s' ∧ tn i s'.heap ∧ (∀ b ∈ fp, H' b = none) ∧ W i n H') ?_ m0 ⟨0, _, I4, st4, n4, w0⟩
    rw [hxB]
    rintro n s5 ⟨i, H5, I5, st5, n5, w5⟩
    have stat : ∀ {σ' : L2.St} {H' : Hp} {s' : Shared}, Inv (BkE X s3 (upd H2 D (.lst [])) scope cl C fp xB) [] σ' H' s' → (∀ b ∈ fp, H' b = none) → ∀ b ∈ fp, FpOk (BkE X s3 (upd H2 D (.lst [])) scope cl C fp xB) [] H' b := fun I' hn => blk_fp (inv_ex I') hn
    rcases turn i n H5 w5 with ⟨stop, qq⟩ | ⟨go, Nx, hNx, step⟩
    · refine thnF (T.done (BkE X s3 (upd H2 D (.lst [])) scope cl C fp xB) rfl rfl rfl hc i [] s5 _ H5 (fun _ _ => False) I5 (stat I5 n5) st5 stop) fun r s6 ⟨hr, I6⟩ => ?_
      subst hr
      have I7 : Inv X pins σ H5 s6 := I3.call' (ch := fp) I6.os I6.base I6.hok I6.bare ch3
      obtain ⟨m, hn, _⟩ := I6.loc
      refine ⟨m, hn, fun h' sb => ?_⟩
      obtain ⟨f0, f1, f2, f3, f4, f5⟩ := I3.fpOk (b := C) (by rw [hCC]; exact Nat.le_refl _) (H' := H5) I6.free
      exact ⟨.ref D, H5, I7.turned (t' := s6.toks) (fun b o hb e => (sb.2 b hb).trans e) f0 f1 f3 f4 f5, rfl, qq⟩
    · refine thnF (T.item (BkE X s3 (upd H2 D (.lst [])) scope cl C fp xB) rfl rfl rfl hc i [] s5 _ H5 (fun _ _ => False) I5 (stat I5 n5) st5 go) fun r s6 ⟨u, hr, h6⟩ => ?_
      subst hr
      refine thnF h6 fun _ s7 ⟨x, H7, I7, r7, y7, st7, n7⟩ => ?_
      refine thn (pg.run _ s7 _ H7 x u _ (I7.pinned (stat I7 n7) (T.obj _ _ st7)) r7 (step x H7 y7)) fun _ s8 ⟨σ8, H8, I8, hw8, q8⟩ => ?_
      refine wpAny_tests_nil ?_
      rw [if_pos rfl]
      refine thn (pe.run _ s8 σ8 H8 _ I8 q8) fun z s10 ⟨yv, H10, I10, r10, acc, hD10, hz10, nx⟩ => ?_
      refine app_ok (X := BkE X s3 (upd H2 D (.lst [])) scope cl C fp xB) I10 hD10 hz10 r10 fun s11 I11 => ?_
      obtain ⟨m', hm, w'⟩ := hNx _ nx
      obtain ⟨a1, a2, a3⟩ := blk_next T st7 hw8 (inv_ex I11)
      exact ⟨m', hm, i + 1, _, inv_xe a1, a2, a3, w'⟩
  exact codeAny_compStart_list loop (T.self X.A 0 _ _ _ st4 loop)
end
end K75
set_option Elab.async false
set_option linter.all false
set_option maxRecDepth 100000
set_option maxHeartbeats 4000000
namespace K75
open PySem PySem.Spec PyProof.Rows L2

/-! a def that says super() -/
/-- its words; x: the class in whose body it stands; ar: its first parameter -/
structure SupD (P : Program) (K : PySem.W.Frag) (mg : Str → Option Value) (F : NdefX.NF) (f cc D : Addr) (ar : Str) (doc pm ctv : Value) : Prop where
  lk : ∃ oc od osl, K.lookup f = some ⟨oc, od, .func (F.fd doc pm ctv), osl⟩
  hcd : PySem.W.codeIn K (.ref F.c) F.qual = true
  hcl : F.cl = [(("__class__" : Str), cc)]
  cell : ∃ oc od osl, K.lookup cc = some ⟨oc, od, .cell (some (.ref D)), osl⟩
  file : ∃ oc od osl vs fl tf, K.lookup F.c = some ⟨oc, od, .fields vs, osl⟩ ∧ vs[2]? = some (.str fl tf) ∧ ((P.main.file : Str) == fl) = true
  cls : ∃ cd, PySem.W.clsIn K D = some cd
  sup : mg "super" = none
  first : (F.params.posonlyargs ++ F.params.args).head?.map (·.arg) = some ar
  top : (P.main.scope.names.lookup ("super" : Str)).isSome = false
  opq : PySem.W.nsIn K cStatics "thirdparty.any" = some none
  ks : F.scope.names.lookup ("super" : Str) = some .globalImplicit
  kc : F.scope.names.lookup ("__class__" : Str) = some .free
  ka : F.scope.names.lookup ar = some .local
section
variable {CX : CXT} {P : Program} {w : World} {K : PySem.W.Frag} {mg : Str → Option Value} {base : Heap} {N ps : List Str} {F : NdefX.NF} {f cc D : Addr} {ar : Str} {doc pm ctv : Value} {k : Nat} {sp : Sp}
/-- the context of such a def's body -/
abbrev scx (CX : CXT) (P : Program) (w : World) (K : PySem.W.Frag) (mg : Str → Option Value) (base : Heap) (N : List Str) (F : NdefX.NF) (f : Addr) (A : Around) (outer : List Env) (s : Shared) (H : Hp) (E : XK) : Cx := NdefX.ncx CX P w K mg base N F f A outer s H E
theorem fnS_of (S : NdefX.NScope N ps ["__class__"] F.scope) (T : SupD P K mg F f cc D ar doc pm ctv) (len : ∀ vs H Q E, sp vs H Q E → vs.length = ps.length)
    (hbody : ∀ (A : Around) (outer : List Env) (s : Shared) (H : Hp) (vs : List V) (Q : VK) (E : XK), Room k (A.deeper (NdefX.envF F f s.heap.objs.size)) → sp vs H Q E → ∀ s1, Inv (scx CX P w K mg base N F f A outer s H E) [] (NdefX.startF N vs [none]) H s1 →
      _root_.PySem.wpAt (model P w) (A.deeper (NdefX.envF F f s.heap.objs.size)) (.func F.body (NdefX.envF F f s.heap.objs.size)) (execs F.body (NdefX.envF F f s.heap.objs.size))
        (SP (scx CX P w K mg base N F f A outer s H E) [] { nx := fun _ H' => Q .non H', rt := Q }) (scx CX P w K mg base N F f A outer s H E).xe s1) : FnOk P w K mg base CX (k + 1) f (F.fd doc pm ctv) ps sp := by
  refine ⟨len, fun A outer s H args us vs Q E hr e0 hb r hsp => ?_⟩
  have hl := len _ _ _ _ hsp
  have KX : K.In s.heap := e0.mod.kin.keeps fun b o e => (e0.bs b o e).1
  have lim : s.heap.NoLimit := e0.mod.nolimit.keeps fun b o e => (e0.bs b o e).1
  obtain ⟨oc, od, osl, lk⟩ := T.lk
  obtain ⟨occ, odc, ocs, lcc⟩ := T.cell
  have C : NdefX.CellsAt F.cl ["__class__"] [none] s.heap H := by
    rw [T.hcl]
    refine ⟨rfl, fun y c e => ?_, fun x y c h1 h2 => ?_, fun i y e => ?_⟩
    · by_cases hy : y = ("__class__" : Str)
      · subst hy
        have e2 : c = cc := by simpa [List.lookup] using e.symm
        subst e2
        refine ⟨?_, some (.ref D), _, KX _ _ lcc, rfl⟩
        exact (e0.bs c _ (e0.mod.kin _ _ lcc)).2
      · have : (y == ("__class__" : Str)) = false := by simpa using hy
        simp [List.lookup, this] at e
    · have key : ∀ {z : Str}, List.lookup z [(("__class__" : Str), cc)] = some c → z = ("__class__" : Str) := fun {z} e => by
        by_cases hy : z = ("__class__" : Str)
        · exact hy
        · have : (z == ("__class__" : Str)) = false := by simpa using hy
          simp [List.lookup, this] at e
      rw [key h1, key h2]
    · match i, e with
      | 0, e =>
        have : y = ("__class__" : Str) := by simpa using e.symm
        subst this
        exact ⟨cc, by simp [List.lookup], fun v hv => by cases hv⟩
      | i + 1, e => simp at e
  refine codeAny_call_function hr.depth (KX _ _ lk) rfl S.co S.gen rfl (PySem.W.codeRec_of KX T.hcd) (hb _ _ _ _ ?_)
  refine wpAny_newFunctionEnv S.nocell (fun ⟨n, _⟩ hy => S.par n (List.of_mem_zip hy).1) (fun h₁ hns hsb => ⟨lim.fresh _ hsb, ?_⟩) S.kind
  have kp : ∀ b o, s.heap.get? b = some o → h₁.get? b = some o := fun b o e => hsb.extBut b o (Nat.ne_of_lt (Heap.lt_size e)) (Heap.get?_push_of_some _ e)
  have I : Inv (scx CX P w K mg base N F f A outer s H E) [] (NdefX.startF N vs [none]) H { s with heap := h₁, toks := s.toks + (ps.zip us).length } := NdefX.inv_startN S hr.hd e0 hl r C hns kp
  show codeAny _ _ (.func F.body (NdefX.envF F f s.heap.objs.size)) _ _
  refine ks_codeAny_funcAt (ks_wpAt_mono (hbody A outer s H vs Q E (hr.deeper _) hsp _ I) (fun fl s' hs => ?_) fun e s' hs => hs)
  have fin : ∀ {σ' : L2.St} {H' : Hp} {v : V} {u : Value}, Inv (scx CX P w K mg base N F f A outer s H E) [] σ' H' s' → L2.RelV v u → Q v H' → CE outer P w H s Q u s' :=
    fun {σ' H' v u} J rv q => ⟨v, H', J.os, J.bare, J.base, J.hok, rv, q⟩
  cases fl with
  | ret u =>
    obtain ⟨v, σ', H', J, rv, q⟩ := hs
    exact fin J rv q
  | next =>
    obtain ⟨σ', H', J, q⟩ := hs
    exact fin (v := V.non) (u := Value.none) J rfl q
  | brk =>
    obtain ⟨_, _, _, q⟩ := hs
    exact False.elim q
  | cont =>
    obtain ⟨_, _, _, q⟩ := hs
    exact False.elim q
end

section
variable {CX : CXT} {P : Program} {w : World} {K : PySem.W.Frag} {mg : Str → Option Value} {base : Heap} {N ps : List Str} {F : NdefX.NF} {f cc D : Addr} {ar : Str} {doc pm ctv : Value} {A : Around} {outer : List Env} {s0 s : Shared} {H0 H : Hp} {E : XK} {pins : List (Addr × Obj)} {σ : L2.St}
/-- super().name: the super object so, made -/
theorem super_base {Q : Value → Shared → Prop} {name : Str} {whole : Sem Value} {p0 p1 : Pos} {a C : Addr} {oa : Obj} (T : SupD P K mg F f cc D ar doc pm ctv) (I : Inv (scx CX P w K mg base N F f A outer s0 H0 E) pins σ H s)
    (hN : N[0]? = some ar) (hσ : σ[0]? = some (some (.ref a))) (ha : s.heap.get? a = some oa) (hac : oa.cls = .ref C) (hnc : ∀ c, oa.data ≠ .cls c) (hsub : PySem.W.mroIn K C (.ref D) = some true) (hat : (name == ("__class__" : Str)) = false)
    (h : ∀ so s', (∀ b o, s.heap.get? b = some o → s'.heap.get? b = some o) → Inv (scx CX P w K mg base N F f A outer s0 H0 E) pins σ H s' → s'.heap.get? so = some (PySem.W.ks_superObj D a C) → Q (.ref so) s') :
    _root_.PySem.wpAt (model P w) (A.deeper (NdefX.envF F f s0.heap.objs.size)) (.func F.body (NdefX.envF F f s0.heap.objs.size)) (attributeBase (.Call (.Name "super" p0) [] [] p1) name (NdefX.envF F f s0.heap.objs.size) whole) Q
      (scx CX P w K mg base N F f A outer s0 H0 E).xe s := by
  have KX : K.In s.heap := I.kIn
  obtain ⟨oc, od, osl, lk⟩ := T.lk
  obtain ⟨occ, odc, ocs, lcc⟩ := T.cell
  obtain ⟨oc2, od2, os2, vs, fl, tf, lcd, hvs, hfile⟩ := T.file
  obtain ⟨cdD, hD⟩ := T.cls
  obtain ⟨oD, hD1, hD2⟩ : ∃ oD, s.heap.get? D = some oD ∧ oD.data = .cls cdD := by
    unfold PySem.W.clsIn at hD
    split at hD
    · rename_i c d cd' sl ho
      cases hD
      exact ⟨_, KX _ _ ho, rfl⟩
    · cases hD
  obtain ⟨arg, hp, harg⟩ : ∃ arg : Arg, (F.params.posonlyargs ++ F.params.args).head? = some arg ∧ arg.arg = ar := by
    have q := T.first
    cases e : (F.params.posonlyargs ++ F.params.args).head? with
    | none => rw [e] at q; cases q
    | some x => rw [e] at q; exact ⟨x, rfl, Option.some.inj q⟩
  subst harg
  refine ks_wpAt_super_base (env := NdefX.envF F f s0.heap.objs.size) T.ks T.kc hat rfl (KX _ _ lk) rfl hp rfl (KX _ _ lcd) rfl hvs hfile T.top ?_
  obtain ⟨mb, h1, h2⟩ := I.mod.blt
  refine PySem.W.ks_loadName_global I.ok.kind T.ks (Calls.loadGlobal_builtin (env := NdefX.envF F f s0.heap.objs.size) (I.mod.glob.keeps I.bk) T.sup (h1.keeps I.bk) ((h2 _ (by decide)).trans (by first | rfl | kernel_rfl)) ⟨rfl, ?_⟩)
  have hlc : (NdefX.envF F f s0.heap.objs.size).cells.lookup ("__class__" : Str) = some cc := by
    show F.cl.lookup _ = _
    rw [T.hcl]
    simp [List.lookup]
  refine wpAny_loadName_free I.ok.kind T.kc hlc ⟨_, KX _ _ lcc, rfl⟩ ?_
  obtain ⟨m, hn, hl⟩ := I.loc
  obtain ⟨u, ru, l⟩ := hl 0 arg.arg (.ref a) hN hσ (.inl T.ka)
  obtain rfl : u = Value.ref a := ru
  have hm : m arg.arg = some (.ref a) := by
    rcases l with ⟨_, hm⟩ | ⟨hk, _⟩
    · exact hm
    · have q : (NdefX.envF F f s0.heap.objs.size).kindOf arg.arg = some .local := T.ka
      rcases hk with hk | hk <;> (rw [show (scx CX P w K mg base N F f A outer s0 H0 E).env.kindOf arg.arg = some .local from T.ka] at hk; cases hk)
  refine wpAny_loadName_local I.ok.kind T.ka hn hm ?_
  refine ks_wpAny_isType_cls hD1 hD2 ⟨rfl, ?_⟩
  refine ks_wpAny_call_super hD1 hD2 ha hac hnc (PySem.W.looks_mroIn KX hsub) (fun h' e k => ?_)
  exact h _ { s with heap := h' } k (I.kept (t' := s.toks) k) e
end
/-- o.m(e, .., k = v, ..) -/
theorem kbn0 {K : PySem.W.Frag} {x qual : Str} {params : Arguments} {body : List Stmt} {scope : Scope} {f : Addr} {fd : FuncData} {ps : List Str} (F : FunD K x qual params body scope [] [] f fd) (n : Nat) (ks : List Str)
    (h : ∀ (kV doc pm : Value) (an : Option Addr) (cdv ct : Value) (us ws : List Value), us.length = n → ws.length = ks.length → bindArgs (PySem.W.fnOf x qual params body scope .none kV doc pm an cdv ct) ⟨us, ks.zip ws⟩ = pure (ps.zip (us ++ ws))) :
    KBn K fd ps n ks (fun us ws => us ++ ws) (fun vs zs => vs ++ zs) := by
  obtain ⟨oc, od, dV, kV, doc, pm, an, cdv, ct, osl, rfl, lk, hcd, hD, hK⟩ := F.ex
  rcases hD with ⟨_, rfl⟩ | ⟨e, _⟩
  · exact ⟨fun s us ws X l1 l2 => BindsTo.of_eq (h kV doc pm an cdv ct us ws l1 l2), fun r1 r2 => r1.append r2⟩
  · exact absurd rfl e
def tMethN (C : Addr) (m : Str) (n j : Nat) (sp : Sp) (E : XK) (ta : TE) (t tk : TA) : TE := fun σ H Q => ta σ H fun x H1 => ∃ a dx fs, x = .ref a ∧ H1 a = some (.ins C dx fs) ∧ fs.lookup m = none ∧
  t σ H1 fun vs H2 => tk σ H2 fun zs H3 => vs.length = n ∧ zs.length = j ∧ sp (x :: (vs ++ zs)) H3 Q E
section
variable {X : Cx} {CX : CXT} {k n : Nat} {C f : Addr} {fd : FuncData} {ps ks : List Str} {sp : Sp} {E : XK} {m : Str} {apos pos : Pos} {e o : Expr} {es : List Expr} {kws : List Keyword} {ta : TE} {t tk : TA}
theorem pe_methN {pl : Sem Bool} (he : PE X o ta) (c : Cls X.K C) (hm : Meth X.K C m f) (F : FnOk X.prog X.w X.K X.mg X.base CX k f fd ps sp) (hr : Room k X.A) (hb : KBn X.K fd ps (n + 1) ks (fun us ws => us ++ ws) (fun vs zs => vs ++ zs)) (hx : Passes CX X E)
    (ha : PA X (e :: es) t) (hkw : PK X kws tk) (hall : (backToKw pos (keywordEach kws X.env)).all (·.1.isSome) = true := by rfl) (hks : (backToKw pos (keywordEach kws X.env)).filterMap (·.1) = ks := by rfl)
    (hst : starEach (e :: es) X.env = (false, eval e X.env) :: starEach es X.env := by rfl)
    (hpl : ((backTo pos (starEach (e :: es) X.env)).any (·.1) || (backToKw pos (keywordEach kws X.env)).any (·.1.isNone)) = false := by rfl)
    (ht : eval (.Call (.Attribute o m apos) (e :: es) kws pos) X.env = (do
      let ov ← eval o X.env
      standAt apos.atName
      let (f, first) ← holding [ov] (getMethod ov m pl)
      callWith pos f first (backTo pos (starEach (e :: es) X.env)) (backToKw pos (keywordEach kws X.env))) := by rfl) :
    PE X (.Call (.Attribute o m apos) (e :: es) kws pos) (tMethN C m n ks.length sp E ta t tk) := by
  refine ⟨fun pins s σ H Q I h => ?_⟩
  refine PySem.W.methodCall_KW (pl := pl) (thn (he.run pins s σ H _ I h) fun u s1 ⟨x, H1, I1, rx, a, dx, fs, ex, ea, l, q⟩ => ?_) ht
  subst ex
  obtain rfl : u = Value.ref a := rx
  refine getmeth_ok I1 ea c hm l ?_
  refine PySem.W.callWith_KW (first := [.ref a]) (h₀ := X.base) I.ok.mod.kin hm.kp hall (thn (ha.run pos pins s1 σ H1 _ I1 q) fun us s2 ⟨vs, H2, I2, r, q2⟩ => ?_) hpl hst
  refine thn (hkw.run pos pins s2 σ H2 _ I2 q2) fun ws s3 ⟨zs, H3, I3, rz, l1, l2, q3⟩ => ⟨I3.kIn, ?_⟩
  rw [hks]
  exact run_fnN (vs := .ref a :: vs) F hr hb hx I3 (.cons rfl r) rz (by rw [List.length_cons, l1]) l2 q3
end
end K75
set_option Elab.async false
set_option linter.all false
set_option maxRecDepth 100000
set_option maxHeartbeats 4000000
namespace K75
open PySem PySem.Spec PyProof.Rows L2

/-! super().m(..) of an instance, super().__init__(..) of an exception -/
section
variable {CX CX2 : CXT} {P : Program} {w : World} {K : PySem.W.Frag} {mg : Str → Option Value} {base : Heap} {N ps ps2 : List Str} {F : NdefX.NF} {f f2 cc D : Addr} {ar : Str} {doc pm ctv : Value} {A : Around} {outer : List Env} {s0 s : Shared} {H0 H : Hp} {E E2 : XK}
  {pins : List (Addr × Obj)} {σ : L2.St} {fd2 : FuncData} {ks : List Str} {sp2 : Sp} {k2 n : Nat} {t tk : TA} {name : Str} {p0 p1 apos pos : Pos} {e : Expr} {es : List Expr} {kws : List Keyword}
theorem wpAt_methodCallK {M : Model} {A : Around} {c : Code} {E : Value → Shared → Prop} {s : Shared} {env : Env} {o : Expr} {name : Str} {apos pos : Pos} {args : List Expr} {kws : List Keyword} {pl : Sem Bool} {Q : Value → Shared → Prop}
    (h : _root_.PySem.wpAt M A c (attributeBase o name env (eval o env)) (fun ov s₁ => wpAny M A (getMethod ov name pl) (fun fx s₂ => wpAny M A (callWith pos fx.1 fx.2 (backTo pos (starEach args env)) (backToKw pos (keywordEach kws env))) Q E s₂) E s₁) E s)
    (he : eval (.Call (.Attribute o name apos) args kws pos) env = (do
      let ov ← attributeBase o name env (eval o env)
      standAt apos.atName
      let (f, first) ← holding [ov] (getMethod ov name pl)
      callWith pos f first (backTo pos (starEach args env)) (backToKw pos (keywordEach kws env))) := by rfl) :
    _root_.PySem.wpAt M A c (eval (.Call (.Attribute o name apos) args kws pos) env) Q E s := by
  rw [he]
  refine _root_.PySem.wpAt_bind (_root_.PySem.wpAt_mono h (fun ov s₁ h₁ => _root_.PySem.wpAt_of_wpAny (wpAny_bind (wpAny_standAt (wpAny_bind (wpAny_holding (wpAny_mono h₁ (fun fx s₂ h₂ => ?_) fun _ _ x => x)))))) fun _ _ x => x)
  exact h₂
theorem super_call {pl : Sem Bool} {Q : VK} {a C dx : Addr} {fs : List (Str × V)} (T : SupD P K mg F f cc D ar doc pm ctv) (I : Inv (scx CX P w K mg base N F f A outer s0 H0 E) pins σ H s)
    (hN : N[0]? = some ar) (hσ : σ[0]? = some (some (.ref a))) (ha : H a = some (.ins C dx fs)) (hsub : PySem.W.mroIn K C (.ref D) = some true) (hat : (name == ("__class__" : Str)) = false)
    (hm : PySem.W.ks_superIn K C D name = some (some (.ref f2))) (ht2 : PySem.W.typeIn K (.ref f2) = some (.type "function")) (hf2 : PySem.W.fnIn K f2 = true)
    (F2 : FnOk P w K mg base CX2 k2 f2 fd2 ps2 sp2) (hr : Room k2 (A.deeper (NdefX.envF F f s0.heap.objs.size))) (hb : KBn K fd2 ps2 (n + 1) ks (fun us ws => us ++ ws) (fun vs zs => vs ++ zs)) (hx : Passes CX2 (scx CX P w K mg base N F f A outer s0 H0 E) E2)
    (hpa : PA (scx CX P w K mg base N F f A outer s0 H0 E) (e :: es) t) (hkw : PK (scx CX P w K mg base N F f A outer s0 H0 E) kws tk)
    (h : t σ H fun vs H1 => tk σ H1 fun zs H2 => vs.length = n ∧ zs.length = ks.length ∧ sp2 (.ref a :: (vs ++ zs)) H2 Q E2)
    (hall : (backToKw pos (keywordEach kws (NdefX.envF F f s0.heap.objs.size))).all (·.1.isSome) = true := by rfl) (hks : (backToKw pos (keywordEach kws (NdefX.envF F f s0.heap.objs.size))).filterMap (·.1) = ks := by rfl)
    (hst : starEach (e :: es) (NdefX.envF F f s0.heap.objs.size) = (false, eval e (NdefX.envF F f s0.heap.objs.size)) :: starEach es (NdefX.envF F f s0.heap.objs.size) := by rfl)
    (hpl : ((backTo pos (starEach (e :: es) (NdefX.envF F f s0.heap.objs.size))).any (·.1) || (backToKw pos (keywordEach kws (NdefX.envF F f s0.heap.objs.size))).any (·.1.isNone)) = false := by rfl)
    (he : eval (.Call (.Attribute (.Call (.Name "super" p0) [] [] p1) name apos) (e :: es) kws pos) (NdefX.envF F f s0.heap.objs.size) = (do
      let ov ← attributeBase (.Call (.Name "super" p0) [] [] p1) name (NdefX.envF F f s0.heap.objs.size) (eval (.Call (.Name "super" p0) [] [] p1) (NdefX.envF F f s0.heap.objs.size))
      standAt apos.atName
      let (g0, first) ← holding [ov] (getMethod ov name pl)
      callWith pos g0 first (backTo pos (starEach (e :: es) (NdefX.envF F f s0.heap.objs.size))) (backToKw pos (keywordEach kws (NdefX.envF F f s0.heap.objs.size)))) := by rfl) :
    _root_.PySem.wpAt (model P w) (A.deeper (NdefX.envF F f s0.heap.objs.size)) (.func F.body (NdefX.envF F f s0.heap.objs.size)) (eval (.Call (.Attribute (.Call (.Name "super" p0) [] [] p1) name apos) (e :: es) kws pos) (NdefX.envF F f s0.heap.objs.size))
      (EP (scx CX P w K mg base N F f A outer s0 H0 E) pins σ Q) (scx CX P w K mg base N F f A outer s0 H0 E).xe s := by
  refine wpAt_methodCallK ?_ he
  have ⟨_, _, _, ho, _⟩ := (show ObjOk P w H s.heap a (.ins C dx fs) from I.hok a _ ha)
  refine super_base T I hN hσ ho rfl (fun c z => nomatch z) hsub hat fun so s1 k1 I1 hso => ?_
  have KX : K.In s1.heap := I1.kIn
  obtain ⟨of, hof, hofc⟩ : ∃ of, s1.heap.get? f2 = some of ∧ of.cls = .type "function" := by
    have ht' : (K.lookup f2).map (·.cls) = some (.type "function") := ht2
    cases z : K.lookup f2 with
    | none => rw [z] at ht'; cases ht'
    | some of => rw [z] at ht'; exact ⟨of, KX _ _ z, Option.some.inj ht'⟩
  obtain ⟨cd, hcd⟩ : ∃ cd, PySem.W.clsIn K C = some cd := by
    cases hc : PySem.W.clsIn K C with
    | none => unfold PySem.W.ks_superIn at hm; rw [hc] at hm; cases hm
    | some cd => exact ⟨cd, rfl⟩
  have hm' := hm
  unfold PySem.W.ks_superIn at hm'
  rw [hcd] at hm'
  have naC : a ≠ C := fun z => by
    unfold PySem.W.clsIn at hcd
    split at hcd
    · rename_i c d cd' sl hoc
      have e1 := I.kIn _ _ hoc
      rw [← z, ho] at e1
      cases e1
    · cases hcd
  obtain ⟨hp, g, dr, tt, os⟩ := s1
  refine ks_wpAny_getMethod_super hso (PySem.W.looks_opaque KX T.opq) (l₀ := cd.mro) ?_ rfl KX hm' hof hofc naC hat ?_
  · exact fun A Q E s k q => wpAny_bind ((PySem.W.looks_clsIn KX hcd) A _ E s k (wpAny_pure q))
  have kq : ∀ b o, hp.get? b = some o → (hp.push { cls := .type "method", data := .fields #[.ref f2, .ref a] }).get? b = some o := fun b o e => Heap.get?_push_of_some _ e
  have I2 : Inv (scx CX P w K mg base N F f A outer s0 H0 E) pins σ H ⟨hp.push { cls := .type "method", data := .fields #[.ref f2, .ref a] }, g, dr, tt + 1, os⟩ := I1.kept (t' := tt + 1) kq
  have hq : (hp.push { cls := .type "method", data := .fields #[.ref f2, .ref a] }).get? hp.objs.size = some (PySem.W.methodObj (.ref f2) (.ref a)) := Heap.get?_push_size _ rfl
  have hne : H hp.objs.size = none := I1.hok.fresh (Nat.le_refl _)
  have fp := I1.fpOk (Nat.le_refl hp.objs.size) hne
  have I3 : Inv (scx CX P w K mg base N F f A outer s0 H0 E) (pins ++ [(hp.objs.size, PySem.W.methodObj (.ref f2) (.ref a))]) σ H ⟨hp.push { cls := .type "method", data := .fields #[.ref f2, .ref a] }, g, dr, tt + 1, os⟩ :=
    I2.pins_of fun p hp' => (List.mem_append.mp hp').elim (fun z => I2.pin p (List.mem_append_right _ z)) fun z => by
      obtain rfl := List.mem_singleton.mp z
      exact ⟨hq, hne, fp.2.1, fp.2.2.1, fun v z => nomatch z⟩
  refine PySem.W.callWith_of (P := PySem.W.MethP K hp.objs.size f2 (.ref a)) hpl (PySem.W.keeps_M hf2) (evalArgs_kw2 hall (thn (hpa.run pos _ _ σ H _ I3 h) fun us s2 ⟨vs, H2, I4, r, q2⟩ => ?_) hst)
  refine thn (hkw.run pos _ s2 σ H2 _ I4 q2) fun ws s3 ⟨zs, H3, I5, rz, l1, l2, q3⟩ => ?_
  have hq3 : s3.heap.get? hp.objs.size = some (PySem.W.methodObj (.ref f2) (.ref a)) := (I5.pin (hp.objs.size, PySem.W.methodObj (.ref f2) (.ref a)) (List.mem_append_right _ (List.mem_append_right _ (List.mem_singleton.mpr rfl)))).1
  refine ⟨⟨hq3, I5.kIn⟩, ?_⟩
  rw [hks]
  have r2 := hb.rel (.cons (show RelV (V.ref a) (Value.ref a) from rfl) r) rz
  refine wpAny_call (ks_codeAny_call_bound hq3 ?_)
  have l1' : (Value.ref a :: us).length = n + 1 := by rw [List.length_cons, ← r.length, l1]
  have I5' : Inv (scx CX P w K mg base N F f A outer s0 H0 E) pins σ H3 s3 := ⟨I5.ok, I5.os, I5.bare, I5.base, I5.loc, I5.cell, I5.free, I5.freeC, fun p hp => I5.pin p ((List.mem_append.mp hp).elim (fun z => List.mem_append_left _ z) fun z => List.mem_append_right _ (List.mem_append_left _ z)), I5.hok, I5.len⟩
  refine codeAny_mono (F2.run _ _ s3 H3 ⟨.ref a :: us, ks.zip ws⟩ ((.ref a :: us) ++ ws) ((.ref a :: vs) ++ zs) Q E2 hr I5'.env0 (hb.to s3 (.ref a :: us) ws I5'.kIn l1' (rz.length.symm.trans l2)) r2 q3) fun r s' hq => ?_
  cases r with
  | error e => exact hx pins σ H3 s3 e s' I5' hq
  | ok fl =>
    cases fl with
    | ret u => exact I5'.after hq
    | next => exact False.elim hq
    | brk => exact False.elim hq
    | cont => exact False.elim hq
theorem super_init {pl : Sem Bool} {Q : VK} {a C : Addr} (T : SupD P K mg F f cc D ar doc pm ctv) (I : Inv (scx CX P w K mg base N F f A outer s0 H0 E) pins σ H s)
    (hN : N[0]? = some ar) (hσ : σ[0]? = some (some (.ref a))) (ha : H a = some (exo a C none)) (hsub : PySem.W.mroIn K C (.ref D) = some true) (X : OexC K C)
    (hm : PySem.W.ks_superIn K C D "__init__" = some (some (.builtin "ValueError.__init__"))) (hB : PySem.W.subIn K (.ref C) (.type "ValueError") = some true)
    (hpa : PA (scx CX P w K mg base N F f A outer s0 H0 E) (e :: es) t)
    (h : t σ H fun vs H1 => H1 a = some (exo a C none) ∧ vs.length ≤ 1000 ∧ Q .non H1)
    (hst : starEach (e :: es) (NdefX.envF F f s0.heap.objs.size) = (false, eval e (NdefX.envF F f s0.heap.objs.size)) :: starEach es (NdefX.envF F f s0.heap.objs.size) := by rfl)
    (hpl : ((backTo pos (starEach es (NdefX.envF F f s0.heap.objs.size))).any (·.1)) = false := by rfl)
    (he : eval (.Call (.Attribute (.Call (.Name "super" p0) [] [] p1) "__init__" apos) (e :: es) [] pos) (NdefX.envF F f s0.heap.objs.size) = (do
      let ov ← attributeBase (.Call (.Name "super" p0) [] [] p1) "__init__" (NdefX.envF F f s0.heap.objs.size) (eval (.Call (.Name "super" p0) [] [] p1) (NdefX.envF F f s0.heap.objs.size))
      standAt apos.atName
      let (g0, first) ← holding [ov] (getMethod ov "__init__" pl)
      callWith pos g0 first (backTo pos (starEach (e :: es) (NdefX.envF F f s0.heap.objs.size))) (backToKw pos (keywordEach [] (NdefX.envF F f s0.heap.objs.size)))) := by rfl) :
    _root_.PySem.wpAt (model P w) (A.deeper (NdefX.envF F f s0.heap.objs.size)) (.func F.body (NdefX.envF F f s0.heap.objs.size)) (eval (.Call (.Attribute (.Call (.Name "super" p0) [] [] p1) "__init__" apos) (e :: es) [] pos) (NdefX.envF F f s0.heap.objs.size))
      (EP (scx CX P w K mg base N F f A outer s0 H0 E) pins σ Q) (scx CX P w K mg base N F f A outer s0 H0 E).xe s := by
  refine wpAt_methodCallK ?_ he
  obtain ⟨t1, ho⟩ := exo_at I.hok ha
  refine super_base T I hN hσ ho rfl (fun c z => nomatch z) hsub (by decide) fun so s1 k1 I1 hso => ?_
  have KX : K.In s1.heap := I1.kIn
  obtain ⟨cd, hcd⟩ : ∃ cd, PySem.W.clsIn K C = some cd := by
    cases hc : PySem.W.clsIn K C with
    | none => unfold PySem.W.ks_superIn at hm; rw [hc] at hm; cases hm
    | some cd => exact ⟨cd, rfl⟩
  have hm' := hm
  unfold PySem.W.ks_superIn at hm'
  rw [hcd] at hm'
  have naC : a ≠ C := fun z => by
    unfold PySem.W.clsIn at hcd
    split at hcd
    · rename_i c d cd' sl hoc
      have e1 := I.kIn _ _ hoc
      rw [← z, ho] at e1
      cases e1
    · cases hcd
  have ho1 := k1 _ _ ho
  obtain ⟨hp, g, dr, tt, os⟩ := s1
  have LI : PySem.W.Looks (model P w) hp (isInstance (.ref a) (.type "ValueError")) true := by
    have L0 : PySem.W.Looks (model P w) hp (typeOf (.ref a)) (.ref C) := fun A Q E s k q => wpAny_typeOf_ref (k _ _ ho1) q
    exact L0.andThen (PySem.W.looks_subIn KX hB)
  refine PySem.W.kxs_getMethod PySem.W.kxs_ValueError hso (PySem.W.looks_opaque KX T.opq) (l₀ := cd.mro) ?_ rfl KX hm' LI naC (by decide) ?_
  · exact fun A Q E s k q => wpAny_bind ((PySem.W.looks_clsIn KX hcd) A _ E s k (wpAny_pure q))
  have kq : ∀ b o, hp.get? b = some o → (hp.push (PySem.W.kxs_mw "ValueError.__init__" a)).get? b = some o := fun b o e => Heap.get?_push_of_some _ e
  have I2 : Inv (scx CX P w K mg base N F f A outer s0 H0 E) pins σ H ⟨hp.push (PySem.W.kxs_mw "ValueError.__init__" a), g, dr, tt + 1, os⟩ := I1.kept (t' := tt + 1) kq
  have hq : (hp.push (PySem.W.kxs_mw "ValueError.__init__" a)).get? hp.objs.size = some (PySem.W.kxs_mw "ValueError.__init__" a) := Heap.get?_push_size _ rfl
  have hne : H hp.objs.size = none := I1.hok.fresh (Nat.le_refl _)
  have fp := I1.fpOk (Nat.le_refl hp.objs.size) hne
  have I3 : Inv (scx CX P w K mg base N F f A outer s0 H0 E) (pins ++ [(hp.objs.size, PySem.W.kxs_mw "ValueError.__init__" a)]) σ H ⟨hp.push (PySem.W.kxs_mw "ValueError.__init__" a), g, dr, tt + 1, os⟩ :=
    I2.pins_of fun p hp' => (List.mem_append.mp hp').elim (fun z => I2.pin p (List.mem_append_right _ z)) fun z => by
      obtain rfl := List.mem_singleton.mp z
      exact ⟨hq, hne, fp.2.1, fp.2.2.1, fun v z => nomatch z⟩
  show wpAny _ _ (callWith pos (.ref hp.objs.size) [] (backTo pos (starEach (e :: es) (NdefX.envF F f s0.heap.objs.size))) []) _ _ _
  have hA := hpa.run pos _ _ σ H _ I3 h
  have hst' : starEach (e :: es) (scx CX P w K mg base N F f A outer s0 H0 E).env = (false, eval e (NdefX.envF F f s0.heap.objs.size)) :: starEach es (NdefX.envF F f s0.heap.objs.size) := hst
  rw [hst'] at hA
  rw [hst]
  refine PySem.W.kxs_callWith (i := "ValueError.__init__") (x := a) (by show (false || (backTo pos (starEach es (NdefX.envF F f s0.heap.objs.size))).any (·.1)) = false; rw [hpl]; rfl) (Calls.evalArgs_plain (thn hA fun us s2 ⟨vs, H2, I4, r, hx2, hl2, q2⟩ => ?_))
  have hq2 : s2.heap.get? hp.objs.size = some (PySem.W.kxs_mw "ValueError.__init__" a) := (I4.pin (hp.objs.size, PySem.W.kxs_mw "ValueError.__init__" a) (List.mem_append_right _ (List.mem_append_right _ (List.mem_singleton.mpr rfl)))).1
  refine ⟨hq2, ?_⟩
  have I5 : Inv (scx CX P w K mg base N F f A outer s0 H0 E) pins σ H2 s2 := ⟨I4.ok, I4.os, I4.bare, I4.base, I4.loc, I4.cell, I4.free, I4.freeC, fun p hp => I4.pin p ((List.mem_append.mp hp).elim (fun z => List.mem_append_left _ z) fun z => List.mem_append_right _ (List.mem_append_left _ z)), I4.hok, I4.len⟩
  obtain ⟨t2, ho2⟩ := exo_at I5.hok hx2
  obtain ⟨nm, qn, Nn, bs, bm, sn, sub, ab, col, dd, k0, k1', k2', k3, k5, hC, hbm⟩ := X.cls
  have hC2 := I5.kIn _ _ hC
  have hlen : us.length ≤ sizeLine := by
    rw [← Paired.length r, sizeLine_eq]
    omega
  have back : ∀ h' t1, (∀ b o, b ≠ a → s2.heap.get? b = some o → h'.get? b = some o) → h'.get? a = some (HandSPX.excO C t1) → EP (scx CX P w K mg base N F f A outer s0 H0 E) pins σ Q .none { s2 with heap := h' } := fun h' t1 kk hx' => by
    have J := I5.write (t' := s2.toks) (x := a) (e := a) (o := exo a C none) (by rw [hx2]; exact True.intro) (.inl rfl) kk ⟨_, hx'⟩ (exo_ok hx')
    have eu : upd H2 a (exo a C none) = H2 := by
      funext b
      by_cases hb : b = a
      · rw [hb, upd_same, hx2]
      · rw [upd_ne hb]
    rw [eu] at J
    exact ⟨.non, H2, J, rfl, q2⟩
  obtain ⟨hp2, g2, d2, tk2, os2⟩ := s2
  show wpAny _ _ (call (.ref hp.objs.size) us) _ _ _
  refine wpAny_call (codeAny_of_tree ?_)
  show wpAny _ _ (callAny (.ref hp.objs.size) ⟨us, []⟩) _ _ _
  simp only [callAny]
  refine wpAny_bind (wpAny_load hq2 ?_)
  simp only [PySem.W.kxs_mw, show (Value.type "method-wrapper" == Value.type "method" || Value.type "method-wrapper" == Value.type "builtin_function_or_method" || Value.type "method-wrapper" == Value.type "method-wrapper") = true by decide, if_true]
  refine PySem.W.KFB.if_so (by decide) ?_
  refine wpAny_bind (PySem.W.check_bound_init PySem.F.excBase_ValueError.toExcCallFacts hC2 ho2 rfl ?_)
  refine wpAny_bind (wpAny_pure (wpAny_pure ?_))
  refine ⟨plainId_quiet PySem.F.excBase_ValueError.init.plain _, codeAny_builtin PySem.F.excBase_ValueError.initEntry ?_⟩
  rw [Around.under_plainId PySem.F.excBase_ValueError.init.plain _]
  wp_walk
  refine back _ hp2.objs.size (fun b o hb ho => ?_) ?_
  · rw [Heap.get?_update_other _ _ (Ne.symm hb)]
    exact Heap.get?_push_of_some _ ho
  · rw [Heap.get?_update_self _ (Heap.get?_push_of_some _ ho2) rfl]
    rfl
end
end K75
set_option Elab.async false
set_option linter.all false
set_option maxRecDepth 100000
set_option maxHeartbeats 4000000
namespace K75
open PySem PySem.Spec PyProof.Rows L2 GenW

/-! a generator whose consumer is a comprehension's block: C the block's own dict -/
/-- running: C stands as the consumer left it at s₀ -/
def GIc (X : Cx) (C : Addr) (s₀ : Shared) (ip : List (Addr × Obj)) (σ : L2.St) (H : Hp) (s : Shared) : Prop := ∃ oC, s₀.heap.get? C = some oC ∧ Inv X ((C, oC) :: ip) σ H s
/-- what the consumer did while the generator slept -/
structure Wk (X : Cx) (C : Addr) (ip : List (Addr × Obj)) (H2 : Hp) (s s'' : Shared) : Prop where
  os : s''.os = X.s_0.os
  bare : AllBare s''.gens
  un : Un X.fs X.ex X.H_0 H2 X.s_0.heap s''.heap
  hok : HOk X.prog X.w H2 s''.heap
  loc : ∀ o, s.heap.get? X.env.locals = some o → s''.heap.get? X.env.locals = some o
  freeL : H2 X.env.locals = none
  pin : ∀ p ∈ X.pn ++ ip, s''.heap.get? p.1 = some p.2 ∧ H2 p.1 = none
  cC : ∃ oC, s''.heap.get? C = some oC ∧ H2 C = none ∧ ∀ v, oC.data ≠ .cell v
/-- no cells, and C younger than the call -/
structure ApC (X : Cx) (C : Addr) : Prop where
  cells : X.env.cells = []
  neL : C ≠ X.env.locals
  nefs : C ∉ X.fs
theorem GIc.woken {X : Cx} {C : Addr} {s₀ s s'' : Shared} {ip : List (Addr × Obj)} {σ : L2.St} {H H2 : Hp} (a : ApC X C) (h : GIc X C s₀ ip σ H s) (z : Wk X C ip H2 s s'') : GIc X C s'' ip σ H2 s'' := by
  obtain ⟨oC, e0, I⟩ := h
  obtain ⟨oC', e1, e2, e3⟩ := z.cC
  obtain ⟨m, hn, hl⟩ := I.loc
  have hn' : s''.heap.Ns X.env.locals m := by
    obtain ⟨o, es, ep, ho, r⟩ := hn
    exact ⟨o, es, ep, z.loc o ho, r⟩
  refine ⟨oC', e1, I.ok, z.os, z.bare, z.un, ⟨m, hn', fun i x v h1 h2 h3 => ?_⟩, fun x c e => ?_, z.freeL, fun x c e => ?_, fun p hp => ?_, z.hok, I.len⟩
  · obtain ⟨u, ru, l⟩ := hl i x v h1 h2 h3
    refine ⟨u, ru, ?_⟩
    rcases l with l | ⟨_, c, hc, _⟩
    · exact .inl l
    · rw [a.cells] at hc; cases hc
  · rw [a.cells] at e; cases e
  · rw [a.cells] at e; cases e
  · rcases List.mem_append.mp hp with hp | hp
    · obtain ⟨q1, q2⟩ := z.pin p (List.mem_append_left _ hp)
      obtain ⟨_, _, p3, p4, p5⟩ := I.pin p (List.mem_append_left _ hp)
      exact ⟨q1, q2, p3, p4, p5⟩
    · rcases List.mem_cons.mp hp with hp | hp
      · rw [hp]
        exact ⟨e1, e2, a.neL, a.nefs, e3⟩
      · obtain ⟨q1, q2⟩ := z.pin p (List.mem_append_right _ hp)
        obtain ⟨_, _, p3, p4, p5⟩ := I.pin p (List.mem_append_right _ (List.mem_cons_of_mem _ hp))
        exact ⟨q1, q2, p3, p4, p5⟩
/-- the consumer's step: an item x, the heap, what is wanted of the heap behind it -/
abbrev CStep := V → Hp → (Hp → Prop) → Prop
def Yc (X : Cx) (C : Addr) (S : CStep) : Protocol := fun _ s₀ v s kap => ∃ x ip σ H Kp, RelV x v ∧ (∀ p ∈ X.pn ++ ip, p.1 ≠ C) ∧ GIc X C s₀ ip σ H s ∧ S x H Kp ∧ ∀ H2 s'', Kp H2 → Wk X C ip H2 s s'' → kap (.send .none) s''
/-- what is wanted behind a statement: n is how many items may still be handed out -/
abbrev TGc := (Nat → L2.St → Hp → Prop) → Nat → L2.St → Hp → Prop
structure GCc (X : Cx) (C : Addr) (ip : List (Addr × Obj)) (A : Around) (c : Code) (fs : List Frame) (gd : Bool → Bool) : Prop where
  apart : ApC X C
  pnC : ∀ p ∈ X.pn ++ ip, p.1 ≠ C
  over : A.over c fs = X.A
  split : splitAtGen fs = none
  guard : fs.any Frame.guarded = false
  gd : gd false = false
structure GKc (X : Cx) (C : Addr) (S : CStep) (ip : List (Addr × Obj)) (A : Around) (R : GenEnd) (c : Code) (fs : List Frame) (K : Flow → Sem PySem.Fin) (J : Value → Sem PySem.Fin) (D : Nat → L2.St → Hp → Prop) : Prop where
  ok : ∀ (n : Nat) (s₀ s : Shared) (σ : L2.St) (H : Hp), GIc X C s₀ ip σ H s → D n σ H → Seg (model X.prog X.w) A R (Yc X C S) n s₀ c (K .next) fs s
  exc : ∀ (n : Nat) (s₀ : Shared) (e : Value) (s : Shared), X.xe e s → Seg (model X.prog X.w) A R (Yc X C S) n s₀ c (J e) fs s
structure GSc (X : Cx) (C : Addr) (S : CStep) (st : Stmt) (t : TGc) : Prop where
  run : ∀ (A : Around) (ip : List (Addr × Obj)) (R : GenEnd) (n : Nat) (s₀ : Shared) (c : Code) (fs : List Frame) (K : Flow → Sem PySem.Fin) (J : Value → Sem PySem.Fin) (gd : Bool → Bool) (lv : List Value → List Value) (s : Shared) (σ : L2.St) (H : Hp) (D : Nat → L2.St → Hp → Prop),
    GCc X C ip A c fs gd → GKc X C S ip A R c fs K J D → GIc X C s₀ ip σ H s → t D n σ H → Seg (model X.prog X.w) A R (Yc X C S) n s₀ c ((exec st X.env).wrap K J gd lv) fs s
structure GSsc (X : Cx) (C : Addr) (S : CStep) (st : List Stmt) (t : TGc) : Prop where
  run : ∀ (A : Around) (ip : List (Addr × Obj)) (R : GenEnd) (n : Nat) (s₀ : Shared) (c : Code) (fs : List Frame) (K : Flow → Sem PySem.Fin) (J : Value → Sem PySem.Fin) (gd : Bool → Bool) (lv : List Value → List Value) (s : Shared) (σ : L2.St) (H : Hp) (D : Nat → L2.St → Hp → Prop),
    GCc X C ip A c fs gd → GKc X C S ip A R c fs K J D → GIc X C s₀ ip σ H s → t D n σ H → Seg (model X.prog X.w) A R (Yc X C S) n s₀ c ((execs st X.env).wrap K J gd lv) fs s
section
variable {X : Cx} {C : Addr} {S : CStep} {st : Stmt} {rest : List Stmt}
theorem gsc_ps {t : TS} (h : PS X st t) : GSc X C S st (fun D n σ H => t { nx := fun σ H => D n σ H, rt := fun _ _ => False } σ H) := by
  refine ⟨fun A ip R n s₀ c fs K J gd lv s σ H D g k hI ht => ?_⟩
  obtain ⟨oC, e0, I⟩ := hI
  refine seg_wrap ?_
  rw [g.over]
  refine wpAny_mono (h.run _ s σ H _ I ht) (fun f s' hs => ?_) fun x s' hx => k.exc n s₀ x s' hx
  cases f with
  | next =>
    obtain ⟨σ', H', I', q⟩ := hs
    exact k.ok n s₀ s' σ' H' ⟨oC, e0, I'⟩ q
  | brk => obtain ⟨_, _, _, q⟩ := hs; exact False.elim q
  | cont => obtain ⟨_, _, _, q⟩ := hs; exact False.elim q
  | ret u => obtain ⟨_, _, _, _, _, q⟩ := hs; exact False.elim q
theorem gssc_nil : GSsc X C S [] (fun D n σ H => D n σ H) := ⟨fun A ip R n s₀ c fs K J gd lv s σ H D g k hI ht => seg_execs_nil (k.ok n s₀ s σ H hI ht)⟩
theorem gssc_cons {t u : TGc} (a : GSc X C S st t) (b : GSsc X C S rest u) : GSsc X C S (st :: rest) (fun D n σ H => t (fun n' σ' H' => u D n' σ' H') n σ H) := by
  refine ⟨fun A ip R n s₀ c fs K J gd lv s σ H D g k hI ht => ?_⟩
  refine seg_execs_cons ?_
  exact a.run A ip R n s₀ c fs _ J gd lv s σ H (fun n' σ' H' => u D n' σ' H') g ⟨fun n' s₀' s' σ' H' hI' q => b.run A ip R n' s₀' c fs K J gd lv s' σ' H' D g k hI' q, k.exc⟩ hI ht
/-- yield e -/
def tGcY (S : CStep) (te : TE) : TGc := fun D n σ H => ∃ m, n = m + 1 ∧ te σ H fun x H1 => S x H1 fun H2 => D m σ H2
theorem gsc_yield {e : Expr} {yp pos : Pos} {te : TE} (he : PE X e te) (hco : X.env.scope.isCoroutine = false := by rfl) (hi : interactive X.env = false := by rfl) : GSc X C S (.Expr (.Yield (some e) yp) pos) (tGcY S te) := by
  refine ⟨fun A ip R n s₀ c fs K J gd lv s σ H D g k hI ht => ?_⟩
  obtain ⟨m, rfl, ht⟩ := ht
  obtain ⟨oC, e0, I⟩ := hI
  refine seg_Expr_Yield g.split g.gd g.guard ?_ hco hi
  rw [g.over]
  refine wpAny_mono (he.run _ s σ H _ I ht) (fun v s' hv => ?_) fun x s' hx => k.exc _ s₀ x s' hx
  obtain ⟨x, H1, I1, rv, q⟩ := hv
  have G1 : GIc X C s₀ ip σ H1 s' := ⟨oC, e0, I1⟩
  intro kap hk
  exact ⟨x, ip, σ, H1, _, rv, g.pnC, G1, q, fun H2 s'' hS z => hk .none s'' (k.ok m s'' s'' σ H2 (G1.woken g.apart z) hS)⟩

/-! for in a generator -/
theorem seg_forLoop {prog : Program} {w : World} {A : Around} {R : GenEnd} {Y : Protocol} {n : Nat} {s₀ : Shared} {fs : List Frame} {s : Shared} {env : Env} {tg : Expr} {it : Value} {body : List Stmt}
    (h : wpAny (model prog w) (A.over (.forLoop tg it body [] env) fs) (pyNext it) (fun r s1 => match r with
      | none => Seg (model prog w) A R Y n s₀ (.forLoop tg it body [] env) (.pure (.again (.block [] env))) fs s1
      | some v => wpAny (model prog w) (A.over (.forLoop tg it body [] env) fs) (letOwnedTupleGo tg it v) (fun _ s2 => wpAny (model prog w) (A.over (.forLoop tg it body [] env) fs) (assign tg env v) (fun _ s3 =>
          Seg (model prog w) A R Y n s₀ (.forLoop tg it body [] env) ((execs body env).wrap (fun f => match f with
            | .next | .cont => .pure (.again (.forLoop tg it body [] env))
            | .brk => .pure (.done .next)
            | .ret v => .pure (.done (.ret v))) (fun e => (do noteFrame e env; theTreesLotGoes e : Sem Unit).wrap (fun _ => .raise e) .raise id id) id id) fs s3)
          (fun x s' => Seg (model prog w) A R Y n s₀ (.forLoop tg it body [] env) ((do noteFrame x env; theTreesLotGoes x : Sem Unit).wrap (fun _ => .raise x) .raise id id) fs s') s2)
          (fun x s' => Seg (model prog w) A R Y n s₀ (.forLoop tg it body [] env) ((do noteFrame x env; theTreesLotGoes x : Sem Unit).wrap (fun _ => .raise x) .raise id id) fs s') s1)
      (fun _ _ => False) s) :
    Seg (model prog w) A R Y n s₀ (.forLoop tg it body [] env) ((model prog w).den (.forLoop tg it body [] env)) fs s := by
  show Seg _ A R Y n s₀ _ ((forTurn tg it body [] env).onRaise (fun x => do noteFrame x env; theTreesLotGoes x)) fs s
  unfold forTurn
  rw [Sem.onRaise_eq_wrap]
  refine seg_bind_wrap (wpAny_standAt ?_)
  refine seg_bind_wrap (wpAny_onRaise (wpAny_mono h (fun r s1 h1 => ?_) fun _ _ x => x.elim))
  cases r with
  | none => exact h1
  | some v =>
    refine seg_bind_wrap (wpAny_mono h1 (fun _ s2 h2 => ?_) fun x s' hx => ?_)
    · refine seg_bind_wrap (wpAny_mono h2 (fun _ s3 h3 => ?_) fun x s' hx => ?_)
      · rw [Sem.bind_eq_wrap', Sem.wrap_wrap]
        rw [Sem.wrap_congr (execs body env) _ _ (K' := fun f => match f with
            | .next | .cont => .pure (.again (.forLoop tg it body [] env))
            | .brk => .pure (.done .next)
            | .ret v => .pure (.done (.ret v))) (H' := (fun e => (do noteFrame e env; theTreesLotGoes e : Sem Unit).wrap (fun _ => .raise e) .raise id id))
          (fun f => by cases f <;> rfl)
          (fun e => by first | exact Sem.bind_eq_wrap _ _ | (show (do noteFrame e env; theTreesLotGoes e : Sem Unit).bind (fun _ => .raise e) = _; rw [Sem.bind_eq_wrap]))]
        exact h3
      · first
          | (rw [← Sem.bind_eq_wrap] at hx; exact hx)
          | exact hx
    · first
        | (rw [← Sem.bind_eq_wrap] at hx; exact hx)
        | exact hx
end

def tGcFor (wi : TI) (g : TG) (tb : TGc) : TGc := fun D n σ H => wi σ H fun J H1 => ∃ W : Nat → Nat → Nat → L2.St → Hp → Prop, (∃ m, W 0 m n σ H1) ∧ ∀ i m n σ H, W i m n σ H →
  (J.stop i H ∧ D n σ H) ∨ (J.go i H ∧ ∃ Nx : Nat → L2.St → Hp → Prop, (∀ n' σ' H', Nx n' σ' H' → ∃ m', m' < m ∧ W (i + 1) m' n' σ' H') ∧ ∀ x H', J.yld i H x H' → g x σ H' fun σ2 H2 => tb Nx n σ2 H2)
theorem gcc_loop {X : Cx} {C : Addr} {ip ip' : List (Addr × Obj)} {A : Around} {c c' : Code} {fs : List Frame} {gd : Bool → Bool} {k : Result → Sem PySem.Fin} {l kp : List Value} {p : Pos} (g : GCc X C ip A c fs gd) (hp : ∀ q ∈ ip', q.1 ≠ C) (hw : c'.weight = 0) (hu : c'.cUnits = 0) :
    GCc X C ip' A c' (.ret k none (gd false) l c p kp :: fs) id where
  apart := g.apart
  pnC := fun q hq => (List.mem_append.mp hq).elim (fun z => g.pnC q (List.mem_append_left _ z)) (hp q)
  over := (over_loop hw hu).trans g.over
  split := by
    show (splitAtGen fs).map _ = none
    rw [g.split]; rfl
  guard := by
    show (gd false || fs.any Frame.guarded) = false
    rw [g.gd, g.guard]; rfl
  gd := rfl
section
variable {X : Cx} {C : Addr} {S : CStep}
theorem segc_back {ip : List (Addr × Obj)} {A : Around} {R : GenEnd} {c : Code} {fs : List Frame} {K : Flow → Sem PySem.Fin} {J : Value → Sem PySem.Fin} {gd : Bool → Bool} {lv : List Value → List Value} {D : Nat → L2.St → Hp → Prop} {n : Nat} {s₀ s : Shared} {e : Value}
    (g : GCc X C ip A c fs gd) (k : GKc X C S ip A R c fs K J D) (h : cameBackBy (model X.prog X.w) X.A X.env X.xe e s) :
    Seg (model X.prog X.w) A R (Yc X C S) n s₀ c (((Sem.raise e : Sem Flow).onRaise (cameBack X.env)).wrap K J gd lv) fs s := by
  show Seg _ _ _ _ _ _ _ (((cameBack X.env e).bind fun _ => (Sem.raise e : Sem Flow)).wrap K J gd lv) _ _
  rw [Sem.bind_eq_wrap, Sem.wrap_wrap]
  refine seg_wrap ?_
  rw [g.over]
  exact wpAny_mono h (fun _ s' hx => k.exc n s₀ e s' hx) fun x s' hx => k.exc n s₀ x s' hx
theorem gsc_for {tg iter : Expr} {body : List Stmt} {pos : Pos} {wi : TI} {g : TG} {tb : TGc} (hc : X.calm = true) (hp : PassesOwn (model X.prog X.w) X.A X.env X.xe) (hi : PI X tg iter wi) (hg : PG X tg g) (hb : GSsc X C S body tb)
    (hs : ∀ x, foldedSetIterable iter X.env x = pure x := by intro _; rfl) : GSc X C S (.For tg iter body [] pos) (tGcFor wi g tb) := by
  refine ⟨fun A ip R n s₀ c fs K J gd lv s σ H D gc k hI ht => ?_⟩
  obtain ⟨oC, e0, I⟩ := hI
  show Seg _ _ _ _ n s₀ c (.at pos fun _ => ((eval iter X.env >>= fun v => foldedSetIterable iter X.env v >>= fun x => standAt iter.pos >>= fun _ => holding [x] (pyIter x) >>= fun it => runOwn (.forLoop tg it body [] X.env) X.env) : Sem Flow).wrap K J gd lv) fs s
  refine seg_at ?_
  refine seg_bind_wrap ?_
  rw [gc.over]
  refine wpAny_mono (hi.run _ s σ H _ I ht) (fun v s1 hv => ?_) fun x s' hx => k.exc n s₀ x s' hx
  refine seg_bind_wrap (wpAny_of_eq (hs v) ?_)
  refine seg_bind_wrap (wpAny_standAt ?_)
  refine seg_bind_wrap (wpAny_holding ?_)
  rw [gc.over]
  refine wpAny_mono hv (fun itv s2 h2 => ?_) fun x s' hx => k.exc n s₀ x s' hx
  obtain ⟨it, fp, tn, JJ, H2, rfl, I2, T, st2, f2, W, ⟨m0, w0⟩, turn⟩ := h2
  refine seg_call fun p => ?_
  have fpC : ∀ b ∈ fp, b ≠ C := fun b hb z => (f2 b hb).2.2.2.2.2 (C, oC) (List.mem_append_right _ List.mem_cons_self) z.symm
  have fpOf : ∀ {oC' : Obj} {H' : Hp}, (∀ b ∈ fp, H' b = none) → ∀ b ∈ fp, FpOk X ((C, oC') :: ip) H' b := fun {oC' H'} hn b hb => by
    obtain ⟨_, f1, f3, f4, f5, f6⟩ := f2 b hb
    refine ⟨hn b hb, f1, f3, f4, f5, fun q hq => ?_⟩
    rcases List.mem_append.mp hq with z | z
    · exact f6 q (List.mem_append_left _ z)
    · rcases List.mem_cons.mp z with z | z
      · rw [z]; exact Ne.symm (fpC b hb)
      · exact f6 q (List.mem_append_right _ (List.mem_cons_of_mem _ z))
  have loop : ∀ (m i n : Nat) (s₀ s : Shared) (σ : L2.St) (H : Hp), W i m n σ H → GIc X C s₀ ip σ H s → tn i s.heap → (∀ b ∈ fp, H b = none) →
      Seg (model X.prog X.w) A R (Yc X C S) n s₀ (.forLoop tg (.ref it) body [] X.env) ((model X.prog X.w).den (.forLoop tg (.ref it) body [] X.env))
        (.ret (fun r => ((match r with | .ok f => (.pure f : Sem Flow) | .error e => .raise e).onRaise (cameBack X.env)).wrap K J gd lv) none (gd false) (lv []) c p [] :: fs) s := by
    intro m
    induction m using Nat.strongRecOn with
    | ind m ih =>
      intro i n s₀ s σ H w hI st hn
      obtain ⟨oC, e0, I⟩ := hI
      have gl := fun (ip' : List (Addr × Obj)) (hp' : ∀ q ∈ ip', q.1 ≠ C) (kk : Result → Sem PySem.Fin) => gcc_loop (k := kk) (c' := .forLoop tg (.ref it) body [] X.env) (l := lv []) (kp := []) (p := p) (ip' := ip') gc hp' rfl rfl
      have hip : ∀ q ∈ ip, q.1 ≠ C := fun q hq => gc.pnC q (List.mem_append_right _ hq)
      have ee : ∀ (n : Nat) (s₀ : Shared) (x : Value) (s' : Shared), X.xe x s' → Seg (model X.prog X.w) A R (Yc X C S) n s₀ (.forLoop tg (.ref it) body [] X.env)
          ((do noteFrame x X.env; theTreesLotGoes x : Sem Unit).wrap (fun _ => .raise x) .raise id id)
          (.ret (fun r => ((match r with | .ok f => (.pure f : Sem Flow) | .error e => .raise e).onRaise (cameBack X.env)).wrap K J gd lv) none (gd false) (lv []) c p [] :: fs) s' := fun n s₀ x s' hx => by
        refine seg_wrap ?_
        rw [(gl ip hip _).over]
        refine wpAny_bind (wpAny_mono (hp x s' hx) (fun _ s'' hcb => wpAny_theTreesLotGoes ?_) fun y s'' hcb => ?_)
        · exact seg_leaf (.error x) (segc_back gc k hcb)
        · exact seg_leaf (.error y) (segc_back gc k hcb)
      refine seg_forLoop ?_
      rw [(gl ip hip _).over]
      rcases turn i m n σ H w with ⟨stop, q⟩ | ⟨go, Nx, hNx, step⟩
      · refine wpAny_mono (T.done X rfl rfl rfl hc i _ s σ H (fun _ _ => False) I (fpOf hn) st stop) (fun r s1 ⟨hr, I1⟩ => ?_) fun _ _ x => x
        subst hr
        refine seg_again rfl ?_
        exact seg_leaf (.ok .next) (k.ok n s₀ s1 σ H ⟨oC, e0, I1⟩ q)
      · refine wpAny_mono (T.item X rfl rfl rfl hc i _ s σ H (fun _ _ => False) I (fpOf hn) st go) (fun r s1 ⟨u, hr, h1⟩ => ?_) fun _ _ x => x
        subst hr
        dsimp only
        refine wpAny_mono h1 (fun _ s7 h7 => ?_) fun _ _ x => x.elim
        obtain ⟨x, H7, I7, r7, y7, st7, n7⟩ := h7
        have I7' := I7.pinned (fpOf n7) (T.obj _ _ st7)
        refine wpAny_mono (hg.run _ s7 _ H7 x u _ I7' r7 (step x H7 y7)) (fun _ s8 h8 => ?_) fun x s' hx => ee n s₀ x s' hx
        obtain ⟨σ8, H8, I8, q8⟩ := h8
        have hip2 : ∀ q ∈ ip ++ pinsAt fp s7.heap, q.1 ≠ C := fun q hq => (List.mem_append.mp hq).elim (hip q) fun z => fpC q.1 (of_pinsAt z).1
        refine hb.run A (ip ++ pinsAt fp s7.heap) R n s₀ _ _ _ _ id id s8 σ8 H8 Nx (gl _ hip2 _) ⟨fun n' s₀' s3 σ3 H3 hI3 n3 => ?_, fun n' s₀' x s3 hx => ee n' s₀' x s3 hx⟩ ⟨oC, e0, I8⟩ q8
        obtain ⟨m', hm, w3⟩ := hNx n' σ3 H3 n3
        obtain ⟨oC3, e3, I3⟩ := hI3
        have pin' : ∀ b ∈ fp, ∀ o, s7.heap.get? b = some o → s3.heap.get? b = some o ∧ H3 b = none := fun b hb o e =>
          let z := I3.pin (b, o) (List.mem_append_right _ (List.mem_cons_of_mem _ (List.mem_append_right _ (mem_pinsAt hb e))))
          ⟨z.1, z.2.1⟩
        refine seg_again rfl (ih m' hm (i + 1) n' s₀' s3 σ3 H3 w3 ⟨oC3, e3, I3.unpinned (pins := (C, oC3) :: ip)⟩ (T.keep _ _ _ st7 fun b hb o e => (pin' b hb o e).1) fun b hb => ?_)
        obtain ⟨o, e, _⟩ := T.obj _ _ st7 b hb
        exact (pin' b hb o e).2
  exact loop m0 0 n s₀ s2 σ H2 w0 ⟨oC, e0, I2⟩ st2 fun b hb => (f2 b hb).1
end
end K75
set_option Elab.async false
set_option linter.all false
set_option maxRecDepth 100000
set_option maxHeartbeats 4000000
namespace K75
open PySem PySem.Spec PyProof.Rows L2 GenW

/-! a generator def's promise to a comprehension's block -/
/-- the ground at a switch: sc, Hc the call's state; ps: the generator's own objects -/
structure Gnd (P : Program) (w : World) (outer : List Env) (Hc : Hp) (sc : Shared) (C : Addr) (ps : List (Addr × Obj)) (H : Hp) (s : Shared) : Prop where
  os : s.os = sc.os
  bare : AllBare s.gens
  un : Un (frs outer) [] Hc H sc.heap s.heap
  hok : HOk P w H s.heap
  pin : ∀ p ∈ ps, s.heap.get? p.1 = some p.2 ∧ H p.1 = none
  cC : ∃ oC, s.heap.get? C = some oC ∧ H C = none ∧ ∀ v, oC.data ≠ .cell v
/-- what the pins are -/
structure Own (outer : List Env) (sc : Shared) (C a : Addr) (g : Nat) (ps : List (Addr × Obj)) : Prop where
  sep : ∀ p ∈ ps, p.1 ≠ C ∧ p.1 ∉ frs outer ∧ ∀ v, p.2.data ≠ .cell v
  gen : ∀ h : Heap, (∀ p ∈ ps, h.get? p.1 = some p.2) → h.IsGen a g
def REndC (P : Program) (w : World) (outer : List Env) (Hc : Hp) (sc : Shared) (C : Addr) (Q : Hp → Prop) : GenEnd := fun _ s₀ r s1 =>
  ((r = .ok (.ret .none) ∨ r = .ok .next) ∧ ∃ H', Gnd P w outer Hc sc C [] H' s1 ∧ (∃ oC, s₀.heap.get? C = some oC ∧ s1.heap.get? C = some oC) ∧ Q H') ∨ ∃ e, r = .error e ∧ False
def YItemC (P : Program) (w : World) (outer : List Env) (Hc : Hp) (sc : Shared) (C a : Addr) (g : Nat) (S : CStep) : Protocol := fun _ s₀ v s1 kap =>
  ∃ x H ps Kp, RelV x v ∧ Gnd P w outer Hc sc C ps H s1 ∧ Own outer sc C a g ps ∧ s1.heap.NoLimit ∧ (∃ oC, s₀.heap.get? C = some oC ∧ s1.heap.get? C = some oC) ∧
    S x H Kp ∧ ∀ H2 s'', Kp H2 → Gnd P w outer Hc sc C ps H2 s'' → kap (.send .none) s''
abbrev SpC := List V → CStep → (Hp → Prop) → Nat → Hp → Prop
/-- a generator that has not begun -/
def GMadeC (P : Program) (w : World) (k : Nat) (outer : List Env) (Hc : Hp) (sc : Shared) (sp : CStep → (Hp → Prop) → Nat → Hp → Prop) (u : Value) (s' : Shared) : Prop :=
  ∃ (a : Addr) (g : Nat) (c : Code) (ps : List (Addr × Obj)), u = .ref a ∧ sc.heap.objs.size ≤ a ∧ a < s'.heap.objs.size ∧ s'.gens[g]? = some (.fresh c) ∧ s'.os = sc.os ∧ AllBare s'.gens ∧ s'.heap.NoLimit ∧ (∀ b o, sc.heap.get? b = some o → s'.heap.get? b = some o) ∧
    (∀ p ∈ ps, s'.heap.get? p.1 = some p.2 ∧ sc.heap.objs.size ≤ p.1) ∧ (∀ C, s'.heap.objs.size ≤ C → Own outer sc C a g ps) ∧
    ∀ (A : Around) (C : Addr) (s2 : Shared) (H2 : Hp) (S : CStep) (Q : Hp → Prop) (n : Nat), Room k A → A.frames = some outer → s'.heap.objs.size ≤ C → Gnd P w outer Hc sc C ps H2 s2 → sp S Q n H2 →
      Seg (model P w) A (REndC P w outer Hc sc C Q) (YItemC P w outer Hc sc C a g S) n s2 c ((model P w).den c) [] s2
structure GFnC (P : Program) (w : World) (K : PySem.W.Frag) (mg : Str → Option Value) (base : Heap) (k : Nat) (f : Addr) (fd : FuncData) (ps : List Str) (sp : SpC) : Prop where
  run : ∀ (A : Around) (outer : List Env) (s : Shared) (H : Hp) (args : Args) (us : List Value) (vs : List V), Room k A → Env0 P w K mg base A outer s H → BindsTo s fd args (ps.zip us) → Vals vs us → vs.length = ps.length →
    codeAny (model P w) A (.call (.ref f) args) (fun r s' => match r with | .ok (.ret u) => GMadeC P w k outer H s (sp vs) u s' | _ => False) s
theorem gfnc_of {P : Program} {w : World} {K : PySem.W.Frag} {mg : Str → Option Value} {base : Heap} {k : Nat} {f : Addr} {name qual : Str} {params : Arguments} {body : List Stmt} {scope : Scope} {dV kV doc pm cdv ct oc : Value} {an od : Option Addr}
    {osl : Array (Option Value)} {N ps : List Str} {sp : SpC} (lk : K.lookup f = some ⟨oc, od, .func (PySem.W.fnOf name qual params body scope dV kV doc pm an cdv ct), osl⟩) (hcd : PySem.W.codeIn K cdv qual = true) (S : GScope N ps scope)
    (hcell : ∀ n, cellsFrom n scope.names [] = [])
    (hbody : ∀ (A : Around) (outer : List Env) (s : Shared) (H : Hp) (vs : List V) (pn : List (Addr × Obj)) (C : Addr) (St : CStep) (Q : Hp → Prop) (n : Nat) (H2 : Hp), Room k (A.deeper (envOfC qual scope s.heap.objs.size f cdv)) → sp vs St Q n H2 →
      ∃ t, GSsc (gcxOf P w K mg base N qual scope f cdv A outer s H (fun _ _ _ => False) pn) C St body t ∧ t (fun _ _ H' => Q H') n (start N vs) H2) :
    GFnC P w K mg base (k + 1) f (PySem.W.fnOf name qual params body scope dV kV doc pm an cdv ct) ps sp := by
  refine ⟨fun A outer s H args us vs hr e0 hb r hl => ?_⟩
  have KX : K.In s.heap := e0.mod.kin.keeps fun b o e => (e0.bs b o e).1
  have lim : s.heap.NoLimit := e0.mod.nolimit.keeps fun b o e => (e0.bs b o e).1
  have hkind : ∀ y ∈ ps.zip us, scope.names.lookup y.1 = some .local ∨ (scope.names.lookup y.1 = some .cell ∧ ((cellsFrom (s.heap.objs.size + 1) scope.names []).lookup y.1).isSome = true) := fun ⟨n, v⟩ hy => by
    rcases S.par n (List.of_mem_zip hy).1 with q | q
    · exact .inl q
    · exact .inr ⟨q, PySem.W.cellsFrom_some _ _ _ (.inl q)⟩
  refine codeAny_call_generator hr.depth (KX _ _ lk) rfl S.co S.gen rfl (PySem.W.codeRec_of KX hcd) (hb _ _ _ _ ?_)
  refine wpAny_newFunctionEnv_cells S.kind hkind fun env he s1 x => ?_
  subst he
  have lim1 : s1.heap.NoLimit := lim.keeps x.toInCall.keep
  refine ⟨lim1, ?_⟩
  obtain ⟨h1, tk, es1, hk1⟩ := x.done
  have os1 : s1.os = s.os := by rw [es1]
  have gen1 : s1.gens = s.gens := by rw [es1]
  have lt1 : s.heap.objs.size < s1.heap.objs.size := x.toInCall.ns.lt
  have sz1 : s.heap.objs.size ≤ s1.heap.objs.size := Nat.le_of_lt lt1
  have kp1 : ∀ b o, s.heap.get? b = some o → s1.heap.get? b = some o := x.toInCall.keep
  have nsL : s1.heap.Ns s.heap.objs.size _ := x.toInCall.ns
  have main : ∀ (go : Obj) (nm qn : Value) (tk2 : Nat), go.cls = .type "generator" → go.data = .fields #[.int s1.gens.size 0, nm, qn] → go.slots = #[] → (∀ h : Heap, (h.push go).get? h.objs.size = some go) →
      GMadeC P w (k + 1) outer H s (sp vs) (.ref s1.heap.objs.size) { s1 with gens := s1.gens.push (.fresh (.func body (envOfC qual scope s.heap.objs.size f cdv))), toks := tk2, heap := s1.heap.push go } := by
    intro go nm qn tk2 hgc hgd0 hgs hgp
    have hgen : ∀ h : Heap, h.get? s1.heap.objs.size = some go → h.IsGen s1.heap.objs.size s1.gens.size := fun h e => ⟨go, nm, qn, e, hgc, hgd0, hgs⟩
    have hpushed : (s1.heap.push go).get? s1.heap.objs.size = some go := hgp _
    obtain ⟨oL, esL, epL, hoL, hdL, rL⟩ := nsL
    have hgd : ∀ v, go.data ≠ .cell v := fun v q => by rw [hgd0] at q; cases q
    have hLd : ∀ v, oL.data ≠ .cell v := fun v q => by rw [hdL] at q; cases q
    have nfr : ∀ b, s.heap.objs.size ≤ b → b ∉ frs outer := fun b hb hm => by
      obtain ⟨_, o, ho, _⟩ := e0.funs.mem hm
      exact absurd (Heap.lt_size ho) (Nat.not_lt_of_le hb)
    refine ⟨s1.heap.objs.size, s1.gens.size, _, [(s.heap.objs.size, oL), (s1.heap.objs.size, go)], rfl, sz1, ?_, Array.getElem?_push_size .., os1, ?_, lim1.keeps fun b o e => Heap.get?_push_of_some _ e, fun b o e => Heap.get?_push_of_some _ (kp1 b o e), ?_, ?_, ?_⟩
    · show _ < (s1.heap.push _).objs.size
      rw [Heap.size_push]; exact Nat.lt_succ_self _
    · exact AllBare.push (by rw [gen1]; exact e0.bare) rfl
    · intro p hp
      rcases List.mem_cons.mp hp with hp | hp
      · rw [hp]; exact ⟨Heap.get?_push_of_some _ hoL, Nat.le_refl _⟩
      · rw [List.mem_singleton.mp hp]; exact ⟨hpushed, sz1⟩
    · intro C hC
      have hC : (s1.heap.push go).objs.size ≤ C := hC
      rw [Heap.size_push] at hC
      refine ⟨fun p hp => ?_, fun h hh => hgen h (hh (s1.heap.objs.size, go) (by simp))⟩
      rcases List.mem_cons.mp hp with hp | hp
      · rw [hp]; exact ⟨Nat.ne_of_lt (Nat.lt_of_lt_of_le lt1 (Nat.le_of_succ_le hC)), nfr _ (Nat.le_refl _), hLd⟩
      · rw [List.mem_singleton.mp hp]; exact ⟨Nat.ne_of_lt hC, nfr _ sz1, hgd⟩
    intro Aw C s2 H2 St Q n hrw hfr hC z hsp
    have hC : (s1.heap.push go).objs.size ≤ C := hC
    rw [Heap.size_push] at hC
    have e0w : Env0 P w K mg base Aw outer s H := ⟨hfr, e0.mod, e0.bs, e0.bsz, e0.funs, e0.frf, e0.hok, e0.bare⟩
    obtain ⟨t, ht, hq⟩ := hbody Aw outer s H vs [(s1.heap.objs.size, go)] C St Q n H2 (hrw.deeper _) hsp
    have I1 : Inv (gcxOf P w K mg base N qual scope f cdv Aw outer s H (fun _ _ _ => False) []) [] (start N vs) H s1 := inv_startG S hrw.hd e0w hl r x
    obtain ⟨pL1, pL2⟩ := z.pin (s.heap.objs.size, oL) (by simp)
    obtain ⟨pG1, pG2⟩ := z.pin (s1.heap.objs.size, go) (by simp)
    obtain ⟨oC, hC1, hC2, hC3⟩ := z.cC
    have neCL : C ≠ s.heap.objs.size := Nat.ne_of_gt (Nat.lt_of_lt_of_le lt1 (Nat.le_of_succ_le hC))
    have neCG : s1.heap.objs.size ≠ C := Nat.ne_of_lt hC
    have noc : ∀ y c, (cellsFrom (s.heap.objs.size + 1) scope.names []).lookup y = some c → False := fun y c e => by rw [hcell] at e; cases e
    have hG : GIc (gcxOf P w K mg base N qual scope f cdv Aw outer s H (fun _ _ _ => False) [(s1.heap.objs.size, go)]) C s2 [] (start N vs) H2 s2 := by
      refine ⟨oC, hC1, ⟨I1.ok.mod, I1.ok.kind, I1.ok.glob, I1.ok.blt, I1.ok.above, I1.ok.inj, I1.ok.has, I1.ok.cab, I1.ok.hd, I1.ok.frames, I1.ok.stk, I1.ok.exf, I1.ok.bs, I1.ok.bsz, I1.ok.noex, I1.ok.exfs, I1.ok.funs, I1.ok.frf⟩, z.os, z.bare, z.un, ?_, fun y c e => (noc y c e).elim, pL2, fun y c e => (noc y c e).elim, fun p hp => ?_, z.hok, I1.len⟩
      · obtain ⟨m1, hn1, hl1⟩ := I1.loc
        have hn1 : s1.heap.Ns s.heap.objs.size m1 := hn1
        have hn2 : s2.heap.Ns s.heap.objs.size m1 := by
          obtain ⟨o, es, ep, ho, r⟩ := hn1
          rw [hoL] at ho
          cases ho
          exact ⟨_, es, ep, pL1, r⟩
        refine ⟨m1, hn2, fun i y v e1 e2 e3 => ?_⟩
        obtain ⟨u, ru, l⟩ := hl1 i y v e1 e2 e3
        refine ⟨u, ru, ?_⟩
        rcases l with l | ⟨_, c, hc, _⟩
        · exact .inl l
        · exact (noc y c hc).elim
      · rcases List.mem_append.mp hp with hp | hp
        · rw [List.mem_singleton.mp hp]
          exact ⟨pG1, pG2, Nat.ne_of_gt lt1, nfr _ sz1, hgd⟩
        · rw [List.mem_singleton.mp hp]
          exact ⟨hC1, hC2, neCL, nfr _ (Nat.le_trans sz1 (Nat.le_of_succ_le hC)), hC3⟩
    have hAp : ApC (gcxOf P w K mg base N qual scope f cdv Aw outer s H (fun _ _ _ => False) [(s1.heap.objs.size, go)]) C := ⟨hcell _, neCL, nfr _ (Nat.le_trans sz1 (Nat.le_of_succ_le hC))⟩
    refine seg_func ?_
    refine seg_imp (R := fun _ s₀ r s' => match r with
        | .ok (.ret u) => u = .none ∧ ∃ ip σ H', GIc (gcxOf P w K mg base N qual scope f cdv Aw outer s H (fun _ _ _ => False) [(s1.heap.objs.size, go)]) C s₀ ip σ H' s' ∧ Q H'
        | .ok _ => False
        | .error e => False)
      (Y := Yc (gcxOf P w K mg base N qual scope f cdv Aw outer s H (fun _ _ _ => False) [(s1.heap.objs.size, go)]) C St) (fun n s₀ r s1' hR => ?_) (fun n s₀ v s1' kap kap' hkk hY => ?_) n ?_
    · cases r with
      | error e => exact hR.elim
      | ok fl =>
        cases fl with
        | next => exact False.elim hR
        | brk => exact False.elim hR
        | cont => exact False.elim hR
        | ret u =>
          obtain ⟨eu, ip, σ', H', ⟨oC', e0', J⟩, hQ⟩ := hR
          subst eu
          obtain ⟨q1, q2, _, _, q5⟩ := J.pin (C, oC') (List.mem_append_right _ List.mem_cons_self)
          exact .inl ⟨.inl rfl, H', ⟨J.os, J.bare, J.base, J.hok, fun p hp => (by simp at hp), oC', q1, q2, q5⟩, ⟨oC', e0', q1⟩, hQ⟩
    · obtain ⟨xx, ip, σ', H', Kp, rx, hne, ⟨oC', e0', J⟩, hKp, h3⟩ := hY
      obtain ⟨m, hn, hl'⟩ := J.loc
      obtain ⟨oL', esL', epL', hoL', hdL', rL'⟩ := hn
      have hoL' : s1'.heap.get? s.heap.objs.size = some oL' := hoL'
      obtain ⟨q1, q2, q3, q4, q5⟩ := J.pin (C, oC') (List.mem_append_right _ List.mem_cons_self)
      have inP : ∀ {p : Addr × Obj}, p ∈ [(s1.heap.objs.size, go)] ++ ip → p ∈ [(s1.heap.objs.size, go)] ++ ((C, oC') :: ip) := fun {p} hp =>
        (List.mem_append.mp hp).elim (fun z => List.mem_append_left _ z) fun z => List.mem_append_right _ (List.mem_cons_of_mem _ z)
      refine ⟨xx, H', (s.heap.objs.size, oL') :: ([(s1.heap.objs.size, go)] ++ ip), Kp, rx, ⟨J.os, J.bare, J.base, J.hok, fun p hp => ?_, oC', q1, q2, q5⟩, ⟨fun p hp => ?_, fun h hh => hgen h (hh (s1.heap.objs.size, go) (by simp))⟩, J.nolimit, ⟨oC', e0', q1⟩, hKp, fun H3 s'' hS z' => hkk _ _ (h3 H3 s'' hS ⟨z'.os, z'.bare, z'.un, z'.hok, fun o ho => ?_, (z'.pin (s.heap.objs.size, oL') (by simp)).2, fun p hp => z'.pin p (List.mem_cons_of_mem _ hp), z'.cC⟩)⟩
      · rcases List.mem_cons.mp hp with hp | hp
        · rw [hp]; exact ⟨hoL', J.free⟩
        · obtain ⟨a1, a2, _⟩ := J.pin p (inP hp)
          exact ⟨a1, a2⟩
      · rcases List.mem_cons.mp hp with hp | hp
        · rw [hp]; exact ⟨Ne.symm neCL, nfr _ (Nat.le_refl _), fun v q => by rw [hdL'] at q; cases q⟩
        · obtain ⟨_, _, _, a4, a5⟩ := J.pin p (inP hp)
          exact ⟨hne p hp, a4, a5⟩
      · have ho : s1'.heap.get? s.heap.objs.size = some o := ho
        rw [hoL'] at ho
        cases ho
        exact (z'.pin (s.heap.objs.size, oL') (by simp)).1
    · refine ht.run Aw [] _ n s2 _ [] _ _ id id s2 (start N vs) H2 _ ⟨hAp, fun p hp => ?_, over_func, rfl, rfl, rfl⟩ ⟨fun n' s₀ s' σ' H' hI hQ => ?_, fun n' s₀ e s' hx => ?_⟩ hG hq
      · rw [List.append_nil] at hp
        rw [List.mem_singleton.mp hp]
        exact neCG
      · exact seg_end (.ok (.ret .none)) ⟨rfl, [], σ', H', hI, hQ⟩
      · refine seg_wrap ?_
        rw [over_func]
        refine wpAny_mono (show wpAny (model P w) (Aw.deeper (envOfC qual scope s.heap.objs.size f cdv)) (leaving (envOfC qual scope s.heap.objs.size f cdv) e) (fun _ s'' => CX P w outer H s (fun _ _ _ => False) e s'' ∧ ∀ p ∈ [(s1.heap.objs.size, go)], s''.heap.get? p.1 = some p.2) (fun _ _ => False) s' from hx) (fun _ s'' q => ?_) fun _ s'' q => q.elim
        obtain ⟨⟨_, _, _, _, _, _, _, _, _, _, _, _, w⟩, _⟩ := q
        exact w.elim
  exact main _ _ _ _ rfl rfl rfl fun h => Heap.get?_push_size _ rfl
end K75
set_option Elab.async false
set_option linter.all false
set_option maxRecDepth 100000
set_option maxHeartbeats 4000000
namespace K75
open PySem PySem.Spec PyProof.Rows L2 GenW

/-! expressions that leave the generators as they are -/
structure PQ (X : Cx) (e : Expr) (t : TE) : Prop where
  run : ∀ (pins : List (Addr × Obj)) (s : Shared) (σ : L2.St) (H : Hp) (Q : VK), Inv X pins σ H s → t σ H Q → wpAny (model X.prog X.w) X.A (eval e X.env) (fun u s' => EP X pins σ Q u s' ∧ s'.gens = s.gens) X.xe s
structure PTQ (X : Cx) (e : Expr) (t : TT) : Prop where
  run : ∀ (pins : List (Addr × Obj)) (s : Shared) (σ : L2.St) (H : Hp) (Q : Bool → Hp → Prop), Inv X pins σ H s → t σ H Q → wpAny (model X.prog X.w) X.A (isTrue e X.env (eval e X.env)) (fun b s' => (∃ H', Inv X pins σ H' s' ∧ Q b H') ∧ s'.gens = s.gens) X.xe s
structure PGQ (X : Cx) (e : Expr) (t : TG) : Prop where
  run : ∀ (pins : List (Addr × Obj)) (s : Shared) (σ : L2.St) (H : Hp) (v : V) (u : Value) (Q : L2.St → Hp → Prop), Inv X pins σ H s → RelV v u → t v σ H Q → wpAny (model X.prog X.w) X.A (assign e X.env u) (fun _ s' => (∃ σ' H', Inv X pins σ' H' s' ∧ Q σ' H') ∧ s'.gens = s.gens) X.xe s
structure PGQs (X : Cx) (es : List Expr) (t : TGs) : Prop where
  run : ∀ (pins : List (Addr × Obj)) (s : Shared) (σ : L2.St) (H : Hp) (vs : List V) (us : List Value) (Q : L2.St → Hp → Prop), Inv X pins σ H s → Vals vs us → t vs σ H Q →
    wpAny (model X.prog X.w) X.A (assignInOrder ((assignEach es X.env).map (·.2)) us) (fun _ s' => (∃ σ' H', Inv X pins σ' H' s' ∧ Q σ' H') ∧ s'.gens = s.gens) X.xe s
section
variable {X : Cx} {a b : Expr} {ta tb : TE} {pos : Pos}
theorem pq_var {i : Nat} {x : Str} (hN : X.N[i]? = some x) (hv : Vis X.env.scope x) (hd : (x == ("__debug__" : Str)) = false := by decide) (hcd : (x == ("__classdict__" : Str)) = false := by decide) : PQ X (.Name x pos) (tVar i) := by
  refine ⟨fun pins s σ H Q I h => ?_⟩
  obtain ⟨v, e, h⟩ := h
  obtain ⟨m, hn, hl⟩ := I.loc
  obtain ⟨u, r, l⟩ := hl i x v hN e hv
  have fin : EP X pins σ Q u s ∧ s.gens = s.gens := ⟨⟨v, H, I, r, h⟩, rfl⟩
  rcases l with ⟨hk, hm⟩ | ⟨hk, c, hc, hcell⟩
  · exact wpAny_Name (wpAny_loadName_local I.ok.kind hk hn hm fin) hd
  · rcases hk with hk | hk
    · exact wpAny_Name (wpAny_loadName_cell I.ok.kind hk hc hcell fin) hd
    · exact wpAny_Name (wpAny_loadName_free I.ok.kind hk hc hcell fin hcd) hd
theorem pq_int {i : Int} {j : Nat} : PQ X (.Constant (.int i) j pos) (tC (.int i)) := ⟨fun _ _ _ H _ I h => wpAny_Constant_int ⟨⟨.int i, H, I.tok _, ⟨_, rfl⟩, h⟩, rfl⟩⟩
theorem pq_op {op : Operator} {C : Int → Int → Prop} {g : Int → Int → Int} (ha : PQ X a ta) (hb : PQ X b tb)
    (rule : ∀ (i j : Int) (t u : Tok) (s : Shared) (Q : Value → Shared → Prop) (E : Value → Shared → Prop), C i j → Q (.int (g i j) s.toks) { s with toks := s.toks + 1 } → wpAny (model X.prog X.w) X.A (binaryOp op (.int i t) (.int j u)) Q E s) :
    PQ X (.BinOp a op b pos) (fun σ H Q => ta σ H fun x H1 => tb σ H1 fun y H2 => ∃ i j, x = .int i ∧ y = .int j ∧ C i j ∧ Q (.int (g i j)) H2) := by
  refine ⟨fun pins s σ H Q I h => ?_⟩
  refine wpAny_BinOp (thn (ha.run pins s σ H _ I h) fun v s1 ⟨⟨x, H1, I1, r1, q1⟩, g1⟩ => thn (hb.run pins s1 σ H1 _ I1 q1) fun u s2 ⟨⟨y, H2, I2, r2, i, j, ex, ey, hC, q2⟩, g2⟩ => ?_)
  subst ex ey
  obtain ⟨t, rfl⟩ := r1
  obtain ⟨t', rfl⟩ := r2
  exact rule i j t t' s2 _ _ hC ⟨⟨.int (g i j), H2, I2.tok _, ⟨_, rfl⟩, q2⟩, g2.trans g1⟩
theorem pq_mul (ha : PQ X a ta) (hb : PQ X b tb) : PQ X (.BinOp a .Mult b pos) (fun σ H Q => ta σ H fun x H1 => tb σ H1 fun y H2 => ∃ i j, x = .int i ∧ y = .int j ∧ CMul i j ∧ Q (.int (i * j)) H2) :=
  pq_op ha hb fun _ _ _ _ _ _ _ hc q => mul_int q hc.ok
theorem pq_add (ha : PQ X a ta) (hb : PQ X b tb) : PQ X (.BinOp a .Add b pos) (fun σ H Q => ta σ H fun x H1 => tb σ H1 fun y H2 => ∃ i j, x = .int i ∧ y = .int j ∧ True ∧ Q (.int (i + j)) H2) :=
  pq_op ha hb fun _ _ _ _ _ _ _ _ q => add_int q
theorem pq_mod (ha : PQ X a ta) (hb : PQ X b tb) : PQ X (.BinOp a .Mod b pos) (fun σ H Q => ta σ H fun x H1 => tb σ H1 fun y H2 => ∃ i j, x = .int i ∧ y = .int j ∧ 0 < j ∧ Q (.int (i % j)) H2) :=
  pq_op ha hb fun i j _ _ _ _ _ hc q => mod_int' (by omega) (by rw [Int.fmod_eq_emod_of_nonneg i (by omega)]; exact q)
theorem ptq_eq (ha : PQ X a ta) (hb : PQ X b tb) (hm : behindInMarks .Eq b = false) : PTQ X (.Compare a [.Eq] [b] pos) (fun σ H Q => ta σ H fun x H1 => tb σ H1 fun y H2 => ∃ i j, x = .int i ∧ y = .int j ∧ Q (decide (i = j)) H2) := by
  refine ⟨fun pins s σ H Q I h => ?_⟩
  refine wpAny_isTrue_Compare1 (thn (ha.run pins s σ H _ I h) fun v s1 ⟨⟨x, H1, I1, r1, q1⟩, g1⟩ => thn (hb.run pins s1 σ H1 _ I1 q1) fun u s2 ⟨⟨y, H2, I2, r2, i, j, ex, ey, q2⟩, g2⟩ => ?_) hm
  subst ex ey
  obtain ⟨t, rfl⟩ := r1
  obtain ⟨t', rfl⟩ := r2
  refine eq_int ?_
  rw [Bool.beq_eq_decide_eq]
  exact wpAny_truthy_bool ⟨⟨H2, I2, q2⟩, g2.trans g1⟩
theorem pq_tup3 {c : Expr} {tc : TE} {x1 : Nat} (ha : PQ X a ta) (hb : PQ X b tb) (hc : PQ X c tc)
    (h1 : starEach [a, b, c] X.env = [(false, eval a X.env), (false, eval b X.env), (false, eval c X.env)] := by rfl) :
    PQ X (.Tuple [a, b, c] x1 pos) (fun σ H Q => ta σ H fun x H1 => tb σ H1 fun y H2 => tc σ H2 fun z H3 => ∀ T, H3 T = none → Q (.ref T) (upd H3 T (.tup [x, y, z]))) := by
  refine ⟨fun pins s σ H Q I h => ?_⟩
  refine wpAny_Tuple_spliced ?_
  rw [h1]
  show wpAny _ _ (spliced [(false, eval a X.env), (false, eval b X.env), (false, eval c X.env)]) _ _ s
  refine Calls.spliced_cons (thn (ha.run pins s σ H _ I h) fun u s1 ⟨⟨x, H1, I1, r1, q1⟩, g1⟩ => ?_)
  refine Calls.spliced_cons (thn (hb.run pins s1 σ H1 _ I1 q1) fun v s2 ⟨⟨y, H2, I2, r2, q2⟩, g2⟩ => ?_)
  refine Calls.spliced_cons (thn (hc.run pins s2 σ H2 _ I2 q2) fun t s3 ⟨⟨z, H3, I3, r3, q3⟩, g3⟩ => ?_)
  refine Calls.spliced_nil ⟨by show 3 ≤ sizeLine; decide, ?_⟩
  have hf : H3 s3.heap.objs.size = none := I3.hok.fresh (Nat.le_refl _)
  refine ⟨⟨.ref s3.heap.objs.size, upd H3 s3.heap.objs.size (.tup [x, y, z]), I3.laid (t' := s3.toks) (fun b u e => Heap.get?_push_of_some _ e) (Nat.le_refl _) ?_, rfl, q3 _ hf⟩, g3.trans (g2.trans g1)⟩
  exact ⟨by show 3 ≤ sizeLine; decide, [u, v, t], .cons r1 (.cons r2 (.cons r3 .nil)), ⟨_, Heap.get?_push_size _ rfl, rfl, _, rfl⟩⟩
theorem store_okG {M : Model} {A : Around} {E : Value → Shared → Prop} {pins : List (Addr × Obj)} {σ : L2.St} {H : Hp} {s : Shared} {i : Nat} {x : Str} {v : V} {u : Value} {Q : Unit → Shared → Prop} (I : Inv X pins σ H s) (hN : X.N.Nodup) (hi : X.N[i]? = some x) (hk : X.env.scope.names.lookup x = some .local) (r : RelV v u)
    (h : ∀ s', Inv X pins (σ.set i (some v)) H s' → s'.gens = s.gens → Q () s') : wpAny M A (storeName X.env x u) Q E s := by
  obtain ⟨m, hn, hl⟩ := id I.loc
  have hcls : (X.env.scope.kind == .class || (X.env.scope.kind == .module && X.env.locals != X.env.globals)) = false := by rw [I.ok.kind]; rfl
  have hiσ : i < σ.length := by rw [I.len]; exact (List.getElem?_eq_some_iff.mp hi).1
  have cne := I.cne
  refine wpAny_storeName_local hk hn (fun h' hn' hs => ?_) hcls
  obtain ⟨oL, _, _, hoL, _⟩ := id hn
  have old : ∀ b, b < X.s_0.heap.objs.size → h'.get? b = s.heap.get? b := fun b hb => hs.2 b (Nat.ne_of_lt (Nat.lt_of_lt_of_le hb I.ok.above))
  refine h _ ⟨I.ok, I.os, I.bare, ⟨fun b o e n hb hx => ?_, fun b o e n hb hx => ?_, I.base.free, fun b o e hx => ?_, I.base.tups, I.base.frzs, I.base.tbls⟩, ⟨_, hn', fun j y v' e1 e2 e3 => ?_⟩, fun y c e => ?_, I.free, I.freeC, fun p hp => ?_, fun b ob e => ?_, by simpa using I.len⟩ rfl
  · exact (old b (Heap.lt_size e)).trans (I.base.keep b o e n hb hx)
  · obtain ⟨sl, e1⟩ := I.base.slot b o e n hb hx
    exact ⟨sl, (old b (Heap.lt_size e)).trans e1⟩
  · obtain ⟨o', e1⟩ := I.base.there b o e hx
    exact ⟨o', (old b (Heap.lt_size e)).trans e1⟩
  · by_cases hj : j = i
    · subst hj
      rw [hi] at e1; cases e1
      rw [List.getElem?_set_self hiσ] at e2
      cases e2
      exact ⟨u, r, .inl ⟨hk, by simp⟩⟩
    · rw [List.getElem?_set_ne (Ne.symm hj)] at e2
      obtain ⟨u', r', q⟩ := hl j y v' e1 e2 e3
      refine ⟨u', r', ?_⟩
      rcases q with ⟨k, e⟩ | ⟨k, c, e, z⟩
      · refine .inl ⟨k, ?_⟩
        have : y ≠ x := fun e => hj (nodup_ix hN e1 (e ▸ hi))
        simp [this, e]
      · exact .inr ⟨k, c, e, z.sameBut hs (cne y c e)⟩
  · obtain ⟨w', z⟩ := I.cell y c e
    exact ⟨w', z.sameBut hs (cne y c e)⟩
  · obtain ⟨e, n, ne, nf, d⟩ := I.pin p hp
    exact ⟨(hs.2 p.1 ne).trans e, n, ne, nf, d⟩
  · refine (I.hok b ob e).stay (fun c w' hc q => (hs.2 c fun z => ?_).trans q) (fun _ q => q) fun _ _ q => q
    have hfree : H X.env.locals = none := I.free
    rcases hc with hc | hc
    · rw [← hc, z, hfree] at e; cases e
    · rw [z, hfree] at hc; cases hc
theorem pgq_name {i : Nat} {x : Str} (hN : X.N.Nodup) (hi : X.N[i]? = some x) (hx : X.env.scope.names.lookup x = some .local) : PGQ X (.Name x pos) (gName i) := by
  refine ⟨fun pins s σ H v u Q I r h => ?_⟩
  exact wpAny_assign_Name (store_okG I hN hi hx r fun s' I' g => ⟨⟨_, H, I', h⟩, g⟩)
theorem pgqs_nil : PGQs X [] gNil := by
  refine ⟨fun pins s σ H vs us Q I r h => ?_⟩
  obtain ⟨e, h⟩ := h
  subst e
  cases r
  exact assignInOrder_nil ⟨⟨σ, H, I, h⟩, rfl⟩
theorem pgqs_cons {e : Expr} {es : List Expr} {t : TG} {u : TGs} (h1 : PGQ X e t) (h2 : PGQs X es u)
    (hs : (assignEach (e :: es) X.env).map (·.2) = assign e X.env :: (assignEach es X.env).map (·.2) := by rfl) : PGQs X (e :: es) (gCons t u) := by
  refine ⟨fun pins s σ H vs us Q I r h => ?_⟩
  obtain ⟨v, vr, e1, h⟩ := h
  subst e1
  cases r with
  | cons r rr =>
    rw [hs]
    refine assignInOrder_cons (thn (h1.run pins s σ H _ _ _ I r h) fun _ s1 ⟨⟨σ1, H1, I1, q1⟩, g1⟩ => ?_)
    exact thn (h2.run pins s1 σ1 H1 _ _ Q I1 rr q1) fun _ s2 ⟨q2, g2⟩ => ⟨q2, g2.trans g1⟩
theorem pgq_tup {es : List Expr} {k : Nat} {t : TGs} {n : Nat} (hc : X.calm = true) (h : PGQs X es t)
    (hn : (assignEach es X.env).length = n := by rfl) (hst : (assignEach es X.env).findIdx? (·.1) = none := by rfl) : PGQ X (.Tuple es k pos) (gTup X.K n t) := by
  refine ⟨fun pins s σ H v u Q I r hw => ?_⟩
  obtain ⟨a, xs, e1, hq, hl, hw⟩ := hw
  subst e1
  cases r
  obtain ⟨its, rv, ht, hz⟩ := I.tuple hq
  refine assign_Tuple_tuple (I.ok.hd hc) ht (by simp [hn, ← hl, rv.length]) hst fun h' hx => ?_
  have I1 : Inv X pins σ H { s with heap := h' } := I.kept (t' := s.toks) fun b o e => hx b o (Nat.ne_of_lt (Heap.lt_size e)) e
  exact h.run pins _ σ H xs _ Q I1 (by simpa using rv) hw
end
end K75
set_option Elab.async false
set_option linter.all false
set_option maxRecDepth 100000
set_option maxHeartbeats 4000000
namespace K75
open PySem PySem.Spec PyProof.Rows L2 GenW

/-! [elt for tg in g(..) if test] over a generator -/
abbrev Bkg (X : Cx) (sc : Shared) (Hc : Hp) (scope : Scope) (cl : List (Str × Addr)) (C : Addr) : Cx := Bk X sc Hc scope cl C []
section
variable {X : Cx} {pinsX pins : List (Addr × Obj)} {σX σ : L2.St} {Hc H3 H H' : Hp} {sc s3 s s' : Shared} {scope : Scope} {cl : List (Str × Addr)} {C : Addr} {ps : List (Addr × Obj)}
theorem rebase (I : Inv X pinsX σX Hc sc) (u : Un (frs X.stack) [] Hc H3 sc.heap s3.heap) (le : sc.heap.objs.size ≤ s3.heap.objs.size) (os : s3.os = sc.os) (J : Inv (Bk X s3 H3 scope cl C []) pins σ H s) : Inv (Bkg X sc Hc scope cl C) pins σ H s :=
  ⟨⟨J.ok.mod, J.ok.kind, J.ok.glob, J.ok.blt, Nat.le_trans le J.ok.above, J.ok.inj, J.ok.has, fun x c h e => Nat.le_trans le (J.ok.cab x c h e), J.ok.hd, J.ok.frames, J.ok.stk, J.ok.exf, I.bs, Nat.le_trans I.ok.bsz I.sz, J.ok.noex, J.ok.exfs, I.stack, I.stkFree⟩,
    J.os.trans os, J.bare, u.trans J.base, J.loc, J.cell, J.free, J.freeC, J.pin, J.hok, J.len⟩
theorem rewake (J : Inv (Bkg X sc Hc scope cl C) pins σ H s) (hcells : ∀ x c, cl.lookup x = some c → ∃ oc, sc.heap.get? c = some oc ∧ Hc c = none) (hC : ∃ oC, s.heap.get? C = some oC ∧ s'.heap.get? C = some oC)
    (z : Gnd X.prog X.w X.stack Hc sc C ps H' s') (own : ∀ p ∈ ps, p.1 ≠ C ∧ p.1 ∉ frs X.stack ∧ ∀ v, p.2.data ≠ .cell v) : Inv (Bkg X sc Hc scope cl C) ps σ H' s' := by
  obtain ⟨oC, hC1, hC2⟩ := hC
  obtain ⟨oC', hC3, hC4, _⟩ := z.cC
  have cellK : ∀ {x : Str} {c : Addr} {v : Option Value}, cl.lookup x = some c → s.heap.IsCell c v → s'.heap.IsCell c v := fun {x c v} e hv => by
    obtain ⟨oc, h1, h2⟩ := hcells x c e
    obtain ⟨sl1, e1⟩ := J.base.any h1 h2 (by simp)
    obtain ⟨sl2, e2⟩ := z.un.any h1 h2 (by simp)
    obtain ⟨o, ho, hd⟩ := hv
    rw [e1] at ho
    cases ho
    exact ⟨_, e2, hd⟩
  obtain ⟨m, hn, hl⟩ := J.loc
  have hn' : s'.heap.Ns C m := by
    obtain ⟨o, es, ep, ho, r⟩ := hn
    have ho : s.heap.get? C = some o := ho
    rw [hC1] at ho
    cases ho
    exact ⟨_, es, ep, hC2, r⟩
  refine ⟨J.ok, z.os, z.bare, z.un, ⟨m, hn', fun i x v h1 h2 h3 => ?_⟩, fun x c e => ?_, hC4, fun x c e => ?_, fun p hp => ?_, z.hok, J.len⟩
  · obtain ⟨u, ru, l⟩ := hl i x v h1 h2 h3
    refine ⟨u, ru, ?_⟩
    rcases l with ⟨k, e⟩ | ⟨k, c, hc, hcell⟩
    · exact .inl ⟨k, e⟩
    · exact .inr ⟨k, c, hc, cellK hc hcell⟩
  · obtain ⟨v, hv⟩ := J.cell x c e
    exact ⟨v, cellK e hv⟩
  · obtain ⟨oc, h1, h2⟩ := hcells x c e
    exact z.un.free c oc h1 h2 (by simp)
  · obtain ⟨q1, q2⟩ := z.pin p hp
    obtain ⟨o1, o2, o3⟩ := own p hp
    exact ⟨q1, q2, o1, o2, o3⟩
/-- the consumer hands over -/
theorem handover (J : Inv (Bkg X sc Hc scope cl C) ps σ H s) {tk : Nat} {gs : Array GenState} (hb : AllBare gs) : Gnd X.prog X.w X.stack Hc sc C ps H { s with gens := gs, toks := tk } := by
  obtain ⟨m, ⟨oC, es, ep, hC, hd, r⟩, _⟩ := J.loc
  exact ⟨J.os, hb, J.base, J.hok, fun p hp => ⟨(J.pin p (List.mem_append_right _ hp)).1, (J.pin p (List.mem_append_right _ hp)).2.1⟩, oC, hC, J.free, fun v q => by rw [hd] at q; cases q⟩
end
/-- an expression whose value is such a generator -/
structure PGc (X : Cx) (k : Nat) (e : Expr) (ta : TA) (sp : SpC) : Prop where
  run : ∀ (pins : List (Addr × Obj)) (s : Shared) (σ : L2.St) (H : Hp) (K : List V → Hp → Prop), Inv X pins σ H s → ta σ H K → wpAny (model X.prog X.w) X.A (eval e X.env)
    (fun u s' => ∃ vs H1 sc, Inv X pins σ H1 sc ∧ K vs H1 ∧ GMadeC X.prog X.w k X.stack H1 sc (sp vs) u s') X.xe s
theorem pgc_call {X : Cx} {k : Nat} {f : Addr} {fd : FuncData} {ps : List Str} {sp : SpC} {x : Str} {p pos : Pos} {e : Expr} {es : List Expr} {t : TA} (F : GFnC X.prog X.w X.K X.mg X.base k f fd ps sp) (hr : Room k X.A) (hg : Gl X x) (hm : X.mg x = some (.ref f)) (hk : PySem.W.keepIn X.K (.ref f) = true) (hb : Binds X.K fd ps [])
    (ha : PA X (e :: es) t) (hdb : (x == ("__debug__" : Str)) = false := by decide) (he : starEach (e :: es) X.env = (false, eval e X.env) :: starEach es X.env := by rfl) (hpl : (backTo pos (starEach es X.env)).any (·.1) = false := by rfl) :
    PGc X k (.Call (.Name x p) (e :: es) [] pos) (fun σ H K => t σ H fun vs H1 => vs.length = ps.length ∧ K vs H1) sp := by
  refine ⟨fun pins s σ H K I h => ?_⟩
  refine wpAny_Call_Name_kw (ld_glob I hg hm ?_ hdb)
  refine PySem.W.callWith_K (h₀ := X.base) I.ok.mod.kin hk (thn (ha.run pos pins s σ H _ I h) fun us s1 ⟨vs, H1, I1, r, hl, q⟩ => ⟨I1.kIn, ?_⟩) he hpl
  have hl2 : (us ++ []).length = ps.length := by rw [List.append_nil, ← r.length]; exact hl
  have b := hb s1 us I1.kIn hl2
  rw [List.append_nil] at b
  refine wpAny_call (codeAny_mono (F.run X.A X.stack s1 H1 ⟨us, []⟩ us vs hr I1.env0 b r hl) fun r s' hq => ?_)
  cases r with
  | error e => exact False.elim hq
  | ok fl =>
    cases fl with
    | ret u => exact ⟨vs, H1, s1, I1, q, hq⟩
    | next => exact False.elim hq
    | brk => exact False.elim hq
    | cont => exact False.elim hq
/-- the consumer's turn -/
def stepG (g : TG) (tt : TT) (te : TE) (σw : L2.St) (vs : List Nat) (D : Addr) : CStep := fun x H K => g x σw H fun σ2 H2 => wipe σ2 vs = σw ∧ tt σ2 H2 fun b H3 =>
  if b = true then te σ2 H3 fun y H4 => ∃ acc, H4 D = some (.lst acc) ∧ acc.length < sizeLine ∧ K (upd H4 D (.lst (acc ++ [y]))) else K H3
def tLcG (ta : TA) (sp : SpC) (g : TG) (tt : TT) (te : TE) (vs : List Nat) : TE := fun σ H Q => ta σ H fun ws H1 => ∀ D, H1 D = none → ∃ n, sp ws (stepG g tt te (wipe σ vs) vs D) (fun H' => Q (.ref D) H') n (upd H1 D (.lst []))
section
variable {X : Cx}
theorem pe_lcG {k : Nat} {elt iter cond : Expr} {tes : List Expr} {tj : Nat} {tpos : Pos} {scope : Scope} {own : List (Str × Nat)} {pos : Pos} {ta : TA} {sp : SpC} {g : TG} {tt : TT} {te : TE} (hc : X.calm = true) (hN : X.N.Nodup) (hr : Room (k + 1) X.A) (hi : PGc X k iter ta sp) (ok : BlkOk X.N X.env.scope scope own)
    (hcf : ∀ n l, cellsFrom n scope.names l = l)
    (hg : ∀ (s : Shared) (H : Hp) (C : Addr) (cl : List (Str × Addr)), PGQ (Bkg X s H scope cl C) (.Tuple tes tj tpos) g) (ht : ∀ (s : Shared) (H : Hp) (C : Addr) (cl : List (Str × Addr)), PTQ (Bkg X s H scope cl C) cond tt)
    (he : ∀ (s : Shared) (H : Hp) (C : Addr) (cl : List (Str × Addr)), PQ (Bkg X s H scope cl C) elt te) (hs : ∀ x, foldedSetIterable iter X.env x = pure x := by intro _; rfl) :
    PE X (.ListComp elt [⟨.Tuple tes tj tpos, iter, [cond], 0⟩] scope pos) (tLcG ta sp g tt te (own.map (·.2))) := by
  refine ⟨fun pins s σ H Q I h => ?_⟩
  rw [eval_ListComp]
  have hfree : ∀ y ∈ scope.names, y.2 = .free → ∃ c, X.env.cells.lookup y.1 = some c := fun y hy e =>
    (ok.free y hy e).elim (fun k => I.ok.has _ (.inl k)) fun k => I.ok.has _ (.inr k)
  refine wpAny_comprehension_free (use := none) (g := ⟨.Tuple tes tj tpos, iter, [cond], 0⟩) rfl hs (closure_ok hfree) ok.kind (fun y hy e => by rw [ok.uniq y hy, e]) (thn (hi.run pins s σ H _ I h) fun u s1 ⟨vs, Hc, sc, Ic, q, hG⟩ => ?_)
  obtain ⟨a, gi, c, ps, rfl, ha1, ha2, hgs, hos, hb, hl, hkp, hpin, hown, wake⟩ := hG
  have hIsG : ∀ {h : Heap}, (∀ p ∈ ps, h.get? p.1 = some p.2) → h.IsGen a gi := fun {h} hh => (hown _ (Nat.le_refl _)).gen h hh
  refine wpAny_pyIter_gen (hIsG fun p hp => (hpin p hp).1) ?_
  refine wpAny_newObj_type (newEnv_comp ?_)
  -- the states: s1 the generator made, s3 the new list
  have hsz : sc.heap.objs.size ≤ s1.heap.objs.size := Nat.le_trans ha1 (Nat.le_of_lt ha2)
  have I1 : Inv X pins σ Hc s1 := Ic.call' (ch := []) hos (Un.kept hkp) (Ic.hok.kept hkp) hb fun b z => by simp at z
  generalize hs3 : ({ s1 with heap := s1.heap.push { cls := .type "list", data := .seq ([] : List Value).toArray } } : Shared) = s3
  have h3 : s3.heap = s1.heap.push { cls := .type "list", data := .seq ([] : List Value).toArray } := by rw [← hs3]
  have g3 : s3.gens = s1.gens := by rw [← hs3]
  have o3 : s3.os = sc.os := by rw [← hs3]; exact hos
  have hDn : Hc s1.heap.objs.size = none := I1.hok.fresh (Nat.le_refl _)
  have I3 : Inv X pins σ (upd Hc s1.heap.objs.size (.lst [])) s3 := by
    rw [← hs3]
    exact I1.laid (t' := s1.toks) (fun b o e => Heap.get?_push_of_some _ e) (Nat.le_refl _) ⟨Nat.zero_le _, [], 0, .nil, Heap.get?_push_size _ rfl⟩
  have k3 : ∀ b o, s1.heap.get? b = some o → s3.heap.get? b = some o := fun b o e => by rw [h3]; exact Heap.get?_push_of_some _ e
  have lt3 : s1.heap.objs.size < s3.heap.objs.size := by rw [h3, Heap.size_push]; exact Nat.lt_succ_self _
  have u3 : Un (frs X.stack) [] Hc (upd Hc s1.heap.objs.size (.lst [])) sc.heap s3.heap := Un.laid (fun b o e => k3 b o (hkp b o e)) hsz hDn
  obtain ⟨n, hsp⟩ := q _ hDn
  generalize hD : s1.heap.objs.size = D at I3 hDn u3 hsp lt3
  have I4 := block_start (fp := []) I3 ok hN (fun b hb => by simp at hb)
  generalize hs4 : ({ s3 with heap := pushCells (s3.heap.push { cls := .type "dict", data := .dict #[] }) scope.names } : Shared) = s4 at I4 ⊢
  have k4 : ∀ b o, s3.heap.get? b = some o → s4.heap.get? b = some o := fun b o e => by rw [← hs4]; exact pushCells_keeps _ _ _ _ (Heap.get?_push_of_some _ e)
  have g4 : s4.gens = s1.gens := by rw [← hs4]; exact g3
  show codeAny _ _ (.compStart (.ListComp elt [⟨.Tuple tes tj tpos, iter, [cond], 0⟩] scope pos) 0 (.ref a) (.ref D) (compEnvC scope (cellsFrom (s3.heap.objs.size + 1) scope.names (cloFrom X.env.cells scope.names [])) s3.heap.objs.size X.env)) (compPost (model X.prog X.w) X.A X.xe none (EP X pins σ Q) (.ref D) s3.heap.objs.size) s4
  have hCle : s1.heap.objs.size ≤ s3.heap.objs.size := by rw [hD]; exact Nat.le_of_lt lt3
  generalize hCC : s3.heap.objs.size = C at I4 hCle ⊢
  rw [hcf] at I4 ⊢
  generalize hcl : cloFrom X.env.cells scope.names [] = cl at I4 ⊢
  have hcells : ∀ x c, cl.lookup x = some c → ∃ oc, sc.heap.get? c = some oc ∧ Hc c = none := fun x c e => by
    rw [← hcl] at e
    have e2 := NdefX.clo_cm (fun y hy e => hfree y hy e) e
    obtain ⟨v, oc, ho, _⟩ := Ic.cell x c e2
    exact ⟨oc, ho, Ic.freeC x c e2⟩
  have ownC := hown C hCle
  have J4 : Inv (Bkg X sc Hc scope cl C) ps (wipe σ (own.map (·.2))) (upd Hc D (.lst [])) s4 := by
    have J := rebase Ic u3 (Nat.le_trans hsz (by rw [hD]; exact Nat.le_of_lt lt3)) o3 I4
    refine ⟨J.ok, J.os, J.bare, J.base, J.loc, J.cell, J.free, J.freeC, fun p hp => ?_, J.hok, J.len⟩
    have hp : p ∈ ps := by simpa using hp
    obtain ⟨s1', s2', s3'⟩ := ownC.sep p hp
    have lt := Heap.lt_size (hpin p hp).1
    refine ⟨k4 _ _ (k3 _ _ (hpin p hp).1), ?_, s1', s2', s3'⟩
    rw [upd_ne (by rw [← hD]; exact Nat.ne_of_lt lt)]
    exact Ic.hok.fresh (hpin p hp).2
  have pg := hg sc Hc C cl
  have pt := ht sc Hc C cl
  have pe := he sc Hc C cl
  have hRm : Room k X.A.in1 := ⟨hr.hd, by have := hr.dp; show X.A.depth + 3 * k + 5 < _; omega, by have := hr.un; show X.A.units + 1 + 16 * k + 200 < _; omega⟩
  have goes : ∀ {St : CStep} {gs : GenState} {B : Around} {m : Nat} {r : Resume} {s : Shared}, gs.Goes (model X.prog X.w) B (REndC X.prog X.w X.stack Hc sc C fun H' => Q (.ref D) H') (YItemC X.prog X.w X.stack Hc sc C a gi St) m r s →
      gs.Goes (model X.prog X.w) B (fun n s₀ r s₁ => ((r = .ok (.ret .none) ∨ r = .ok .next) ∧ ∃ H', Gnd X.prog X.w X.stack Hc sc C [] H' s₁ ∧ (∃ oC, s₀.heap.get? C = some oC ∧ s₁.heap.get? C = some oC) ∧ Q (.ref D) H') ∨ ∃ e, r = .error e ∧ False) (YItemC X.prog X.w X.stack Hc sc C a gi St) m r s := fun h => h
  have loop : codeAny (model X.prog X.w) X.A (.compLoop (.ListComp elt [⟨.Tuple tes tj tpos, iter, [cond], 0⟩] scope pos) 0 (.ref a) (.ref D) (compEnvC scope cl C X.env)) (compPost (model X.prog X.w) X.A X.xe none (EP X pins σ Q) (.ref D) C) s4 := by
    refine compLoop_any (fun m s' => ∃ ps' H' gs, s'.gens[gi]? = some gs ∧ s'.heap.NoLimit ∧ Own X.stack sc C a gi ps' ∧ Inv (Bkg X sc Hc scope cl C) ps' (wipe σ (own.map (·.2))) H' s' ∧
      gs.Goes (model X.prog X.w) X.A.in1 (REndC X.prog X.w X.stack Hc sc C fun H' => Q (.ref D) H') (YItemC X.prog X.w X.stack Hc sc C a gi (stepG g tt te (wipe σ (own.map (·.2))) (own.map (·.2)) D)) m (.send .none) (s'.setGen gi .running)) ?_ n ⟨ps, _, .fresh c, by rw [g4]; exact hgs, (hl.keeps k3).keeps k4, ownC, J4, rfl, ?_⟩
    · rintro m s5 ⟨ps', H5, gs, hgs5, hl5, own5, I5, go5⟩
      have hgl : gi < s5.gens.size := (Array.getElem?_eq_some_iff.mp hgs5).1
      have pin5 : ∀ p ∈ ps', s5.heap.get? p.1 = some p.2 := fun p hp => (I5.pin p (List.mem_append_right _ hp)).1
      refine wpAny_gsz (n := gi + 1) hgl (next_genG (A := X.A) (I5.ok.hd hc) hl5 hr.depth (own5.gen _ pin5) hgs5 (goes go5) (fun v s₁ gs' hbare hv => ?_) (fun s₁ hp h' hk => ?_) fun e s₁ he => he.elim)
      · intro hsz1
        obtain ⟨x, H6, ps6, Kp, rx, z6, own6, hl6, hC6, hst, hres⟩ := hv
        have I6 : Inv (Bkg X sc Hc scope cl C) ps6 (wipe σ (own.map (·.2))) H6 (s₁.setGen gi gs') := by
          refine rewake I5 hcells hC6 ⟨z6.os, allBare_setGen z6.bare hbare, z6.un, z6.hok, z6.pin, z6.cC⟩ own6.sep
        obtain ⟨oG, nm, qn, hoG, hcG, hdG, _⟩ := own6.gen (s₁.setGen gi gs').heap (fun p hp => (z6.pin p hp).1)
        refine go_of (n := "generator") hoG hcG hdG (by decide) ?_
        have hsz2 : gi < s₁.gens.size := by
          have q : (s₁.setGen gi gs').gens.size = s₁.gens.size := setGen_size _ _ _
          have hsz' : gi + 1 ≤ (s₁.setGen gi gs').gens.size := hsz1
          omega
        refine thnF (pg.run ps6 _ _ H6 x v _ I6 rx hst) fun _ s7 ⟨⟨σ7, H7, I7, hw7, q7⟩, g7⟩ => ?_
        have fin : ∀ {s' : Shared} {H' : Hp}, Inv (Bkg X sc Hc scope cl C) ps6 σ7 H' s' → s'.gens = (s₁.setGen gi gs').gens → Kp H' → ∃ m', m' < m ∧ ∃ ps' H' gs, s'.gens[gi]? = some gs ∧ s'.heap.NoLimit ∧ Own X.stack sc C a gi ps' ∧ Inv (Bkg X sc Hc scope cl C) ps' (wipe σ (own.map (·.2))) H' s' ∧
            gs.Goes (model X.prog X.w) X.A.in1 (REndC X.prog X.w X.stack Hc sc C fun H' => Q (.ref D) H') (YItemC X.prog X.w X.stack Hc sc C a gi (stepG g tt te (wipe σ (own.map (·.2))) (own.map (·.2)) D)) m' (.send .none) (s'.setGen gi .running) := fun {s' H'} I' hg' kp => by
          have J' : Inv (Bkg X sc Hc scope cl C) ps6 (wipe σ (own.map (·.2))) H' s' := I'.weak (by rw [← hw7, wipe_length]) (fun j v e => by rw [← hw7] at e; exact (wipe_some e).1)
          have hr1 := hres H' (s'.setGen gi .running) kp (handover (tk := s'.toks) J' (allBare_setGen I'.bare rfl))
          cases m with
          | zero => exact False.elim hr1
          | succ m => exact ⟨m, Nat.lt_succ_self _, ps6, H', gs', by rw [hg']; exact setGen_at hsz2, I'.nolimit, own6, J', hr1⟩
        refine wpAny_tests_one (thnF (pt.run ps6 s7 σ7 H7 _ I7 q7) fun b s8 ⟨⟨H8, I8, q8⟩, g8⟩ => ?_)
        cases b with
        | false =>
          rw [if_neg Bool.false_ne_true] at q8 ⊢
          exact fin I8 (g8.trans g7) q8
        | true =>
          rw [if_pos rfl] at q8 ⊢
          refine thnF (pe.run ps6 s8 σ7 H8 _ I8 q8) fun z s9 ⟨⟨yv, H9, I9, r9, acc, hD9, hz9, kp⟩, g9⟩ => ?_
          obtain ⟨hz', its, n', ri, e⟩ := I9.hok D _ hD9
          have hlen := ri.length
          refine append_at (hsz := by rw [List.size_toArray]; omega) e fun h' sb ho' => ?_
          refine fin (I9.write (o := .lst (acc ++ [yv])) (x := D) (e := D) (t' := s9.toks) (by rw [hD9]; trivial) (.inl rfl) (fun b u hb q => (sb.2 b hb).trans q) ⟨_, ho'⟩ ⟨by rw [List.length_append]; exact hz9, its ++ [z], n' + 1, ri.append (.cons r9 .nil), ?_⟩) (g9.trans (g8.trans g7)) kp
          rw [ho']
          simp
      · intro hsz1
        obtain ⟨H', z, ⟨oC, hoC1, hoC2⟩, hQ⟩ := hp
        obtain ⟨m5, ⟨oC', es, ep, hoC', r⟩, _⟩ := I5.loc
        have hoC' : s5.heap.get? C = some oC' := hoC'
        have hoC1 : s5.heap.get? C = some oC := hoC1
        rw [hoC1] at hoC'
        cases hoC'
        have I7 : Inv X pins σ H' { s₁.setGen gi .finished with heap := h' } := Ic.call' (ch := []) z.os (z.un.trans (Un.kept hk)) (z.hok.kept hk) (allBare_setGen z.bare rfl) fun b z => by simp at z
        refine ⟨m5, ⟨_, es, ep, hk _ _ hoC2, r⟩, fun h'' sb => ?_⟩
        obtain ⟨_, _, hCn, _⟩ := z.cC
        obtain ⟨f0, f1, f2, f3, f4, f5⟩ := Ic.fpOk (b := C) (Nat.le_trans hsz hCle) hCn
        exact ⟨.ref D, H', I7.turned (t' := s₁.toks) (fun b o hb e => (sb.2 b hb).trans e) f0 f1 f3 f4 f5, rfl, hQ⟩
    · exact wake X.A.in1 C (s4.setGen gi .running) _ _ _ n hRm Ic.ok.frames hCle (handover (tk := s4.toks) J4 (allBare_setGen J4.bare rfl)) hsp
  exact codeAny_compStart_list loop (wpAny_pyIter_gen (hIsG fun p hp => k4 _ _ (k3 _ _ (hpin p hp).1)) loop)
end
end K75
set_option Elab.async false
set_option linter.all false
set_option maxRecDepth 100000
set_option maxHeartbeats 4000000
namespace PySem
open PySem.SeqAt
open AutoSeq1 (wpAny_loadPart')
open MeetsSeq MeetsSeq2 MeetsSeq3 SeqRoads2
namespace K75T
section
variable {prog : Program} {w : World} {A : Around} {R : Result → Shared → Prop}
/-- tuple == tuple, item by item, up to the first two that differ -/
theorem tuple_eqB (l b : Addr) (items items2 : Array Value) (n n2 : Nat) (dd dd2 : Option Addr) (sl sl2 : Array (Option Value)) (hsz : items.size = items2.size) (I : Nat → Shared → Prop)
    (turn : ∀ i (h1 : i < items.size) (h2 : i < items2.size) s, I i s → wpAny (model prog w) A.in1 (eqBool items[i] items2[i]) (fun r s' => if r = true then I (i + 1) s' else R (.ok (.ret (.bool false))) s') (fun e s' => R (.error e) s') s)
    (fin : ∀ s, I items.size s → R (.ok (.ret (.bool true))) s) {s : Shared} (hl1 : s.heap.get? l = some { cls := .type "tuple", dict := dd, data := .seq items n, slots := sl }) (hb1 : s.heap.get? b = some { cls := .type "tuple", dict := dd2, data := .seq items2 n2, slots := sl2 }) (h : I 0 s) :
    wpAny (model prog w) A.in1 (Builtin.«tuple.__eq__» ⟨[.ref l, .ref b], []⟩) (GQ.FinOf prog w A R) (fun e s' => R (.error e) s') s := by
  have f2 := AutoSeq1.sub_tuple_tuple
  have hZ : (items.toList.zip items2.toList).length = items.size := by simp [hsz]
  have h0 := h
  obtain ⟨hp, g, d, tk, os⟩ := s
  wp_walk using wpAny_loadPart' hl1, wpAny_loadPart' hb1, wpAny_forIn_list _ (fun rest b s' => b.1 = none ∧ ∃ i, rest = (items.toList.zip items2.toList).drop i ∧ i ≤ items.size ∧ I i s') _
  case turn =>
    rintro ⟨y, x⟩ rest b s' ⟨hb', i, hz, hi, hI⟩
    have hlt : i < (items.toList.zip items2.toList).length := by
      rcases Nat.lt_or_ge i (items.toList.zip items2.toList).length with h' | h'
      · exact h'
      · rw [List.drop_of_length_le h'] at hz; cases hz
    have h1 : i < items.size := hZ ▸ hlt
    have h2 : i < items2.size := hsz ▸ h1
    rw [List.drop_eq_getElem_cons hlt] at hz
    injection hz with hyx hrest
    have hy : y = items[i] := by have := congrArg Prod.fst hyx; simpa using this
    have hx : x = items2[i] := by have := congrArg Prod.snd hyx; simpa using this
    subst hy hx
    refine wpAny_bind (wpAny_mono (turn i h1 h2 s' hI) (fun r s2 q2 => ?_) fun _ _ x => x)
    cases r with
    | true =>
      rw [if_pos rfl] at q2
      wp_walk
      exact ⟨rfl, i + 1, hrest, h1, q2⟩
    | false =>
      rw [if_neg Bool.false_ne_true] at q2
      wp_walk
      exact q2
  case fin =>
    rintro ⟨b1, b2⟩ s' ⟨hb', i, hz, hi, hI⟩
    simp only at hb'
    subst hb'
    have hge : items.size ≤ i := by
      rcases Nat.lt_or_ge i (items.toList.zip items2.toList).length with h' | h'
      · rw [List.drop_eq_getElem_cons h'] at hz; cases hz
      · exact hZ ▸ h'
    have hi' : i = items.size := by omega
    have hR : R (.ok (.ret (.bool true))) s' := fin s' (hi' ▸ hI)
    wp_walk
    simpa [Builtin.Tuple.tupleCompareSizes, hsz] using hR
  case h =>
    exact ⟨rfl, 0, rfl, Nat.zero_le _, h0⟩
end
section
variable {prog : Program} {w : World} {A : Around} {E : Value → Shared → Prop} {s : Shared}
theorem rc_tupB {l b : Addr} {items items2 : Array Value} {Q : Value → Shared → Prop} (hsz : items.size = items2.size) (hu : A.units < cLine) (I : Nat → Shared → Prop)
    (hl : s.heap.IsTuple l items) (hb : s.heap.IsTuple b items2)
    (turn : ∀ i (h1 : i < items.size) (h2 : i < items2.size) s, I i s → wpAny (model prog w) A.in1 (eqBool items[i] items2[i]) (fun r s' => if r = true then I (i + 1) s' else Q (.bool false) s') E s)
    (fin : ∀ s, I items.size s → Q (.bool true) s) (h : I 0 s) : wpAny (model prog w) A (richCompare .Eq (.ref l) (.ref b)) Q E s := by
  obtain ⟨⟨cls, dd, data, sl⟩, ho, hc, n, hd⟩ := id hl
  obtain ⟨⟨cls2, dd2, data2, sl2⟩, ho2, hc2, n2, hd2⟩ := id hb
  simp only at hc hd hc2 hd2
  subst hc hd hc2 hd2
  refine wpAny_richCompare_same_room (op := .Eq) ⟨_, ho, rfl⟩ ⟨_, ho2, rfl⟩ F.slot_tuple_eq (GQ.call_here F.slot_tuple_eq ⟨_, ho, rfl⟩ F.entry_tuple_eq (F.args_tuple_eq_2 _ _) ?_) hu
  refine tuple_eqB (R := wants (fun v s' => v ≠ .notImplemented ∧ Q v s') E) l b items items2 n n2 dd dd2 sl sl2 hsz I (fun i h1 h2 s hi => wpAny_mono (turn i h1 h2 s hi) (fun r s' q => ?_) fun _ _ x => x) (fun s' q => ⟨(fun x => nomatch x), fin s' q⟩) ho ho2 h
  cases r with
  | true => exact q
  | false => exact ⟨(fun x => nomatch x), q⟩
end
end K75T
end PySem
namespace K75
open PySem PySem.Spec PyProof.Rows L2
/-- the items as two tuples of instances of the class at C, compared by C's own == -/
def eqRun (C : Addr) (sp : Sp) (E : XK) : List Addr → List Addr → Hp → VK → Prop
  | a :: as, b :: bs, H, Q => (a = b ∧ eqRun C sp E as bs H Q) ∨ (a ≠ b ∧ (∃ dx fs dy gs, H a = some (.ins C dx fs) ∧ H b = some (.ins C dy gs)) ∧ sp [.ref a, .ref b] H (fun v H' => ∃ r, v = .bl r ∧ if r = true then eqRun C sp E as bs H' Q else Q (.bl false) H') E)
  | _, _, H, Q => Q (.bl true) H
theorem eqBool_self {prog : Program} {w : World} {A : Around} {E : Value → Shared → Prop} {s : Shared} {a : Addr} {Q : Bool → Shared → Prop} (h : Q true s) : wpAny (model prog w) A (eqBool (.ref a) (.ref a)) Q E s := by
  unfold eqBool
  refine wpAny_holding ?_
  rw [if_pos (show ((Value.ref a == Value.ref a) = true) by simp)]
  exact wpAny_bind (wpAny_rule (wpAny_pure h))
def rEqT3 (K : PySem.W.Frag) (C : Addr) (sp : Sp) (E : XK) : R2 := fun x y H Q => ∃ a b as bs, x = .ref a ∧ y = .ref b ∧ SqT K H a (as.map V.ref) ∧ SqT K H b (bs.map V.ref) ∧ as.length = bs.length ∧ eqRun C sp E as bs H Q
section
variable {X : Cx}
theorem eqRun_drop {C : Addr} {sp : Sp} {E : XK} {as bs : List Addr} {H : Hp} {Q : VK} (h : eqRun C sp E (as.drop as.length) (bs.drop as.length) H Q) : Q (.bl true) H := by
  rw [List.drop_length] at h
  exact h
theorem op_eqT3 {CX : CXT} {k : Nat} {C g : Addr} {sp : Sp} {E : XK} (hs : PySem.W.findIn X.K (.ref C) "__eq__" = some (some (.ref g))) (hf : PySem.W.isFn X.K (.ref g) = true) (hn : PySem.W.notFirst X.K C (.ref C) = true)
    (F : FnR X.prog X.w X.K X.mg X.base CX k g sp) (hr : Room (k + 1) X.A) (hx : Passes CX X E) : OpR X (compareOp .Eq) (rEqT3 X.K C sp E) := by
  intro pins s σ H x y v u Q I rx ry h
  obtain ⟨a, b, as, bs, rfl, rfl, ha, hb, hl, q⟩ := h
  cases (show v = Value.ref a from rx)
  cases (show u = Value.ref b from ry)
  obtain ⟨its, r, e, z⟩ := I.tuple ha
  obtain ⟨its2, r2, e2, z2⟩ := I.tuple hb
  have l1 : its.length = as.length := by rw [← r.length, List.length_map]
  have l2 : its2.length = bs.length := by rw [← r2.length, List.length_map]
  have hsz : its.toArray.size = its2.toArray.size := by rw [List.size_toArray, List.size_toArray]; omega
  show wpAny (model X.prog X.w) X.A (richCompare .Eq (.ref a) (.ref b)) (EP X pins σ Q) X.xe s
  refine K75T.rc_tupB hsz hr.units0 (fun i s' => ∃ H', Inv X pins σ H' s' ∧ eqRun C sp E (as.drop i) (bs.drop i) H' Q) e e2 (fun i h1 h2 s' hi => ?_) (fun s' hi => ?_) ⟨H, I, q⟩
  · obtain ⟨H1, I1, q1⟩ := hi
    have h1' : i < its.length := by simpa using h1
    have h2' : i < its2.length := by simpa using h2
    have k1 : i < as.length := by omega
    have k2 : i < bs.length := by omega
    have g1 : its[i] = .ref as[i] := by
      obtain ⟨u, hu, ru⟩ := r.get (show (as.map V.ref)[i]? = some (.ref as[i]) by simp [k1])
      rw [List.getElem?_eq_getElem h1'] at hu
      cases hu
      exact ru
    have g2 : its2[i] = .ref bs[i] := by
      obtain ⟨u, hu, ru⟩ := r2.get (show (bs.map V.ref)[i]? = some (.ref bs[i]) by simp [k2])
      rw [List.getElem?_eq_getElem h2'] at hu
      cases hu
      exact ru
    rw [List.drop_eq_getElem_cons k1, List.drop_eq_getElem_cons k2] at q1
    rw [show its.toArray[i] = Value.ref as[i] by simpa using g1, show its2.toArray[i] = Value.ref bs[i] by simpa using g2]
    rcases q1 with ⟨same, q1⟩ | ⟨ne, ⟨dx, fs, dy, gs, hA, hB⟩, q1⟩
    · rw [same]
      exact eqBool_self ⟨H1, I1, q1⟩
    refine GQ.eqBool_refG ne ?_
    obtain ⟨od, J⟩ := inst_of I1 hA
    obtain ⟨od', J'⟩ := inst_of I1 hB
    obtain ⟨m, hF⟩ := I1.fr
    have e0 : Env0 X.prog X.w X.K X.mg X.base X.A.in1 X.stack s' H1 := I1.env0.in1
    refine PySem.W.cmp_K (op := .Eq) (tb := .ref C) hr.in1.units0 hF I1.ok.mod.kin J J'.type hn hs hf ?_
    refine wpAny_call (codeAny_mono (F X.A.in1 X.stack s' H1 [.ref as[i], .ref bs[i]] [.ref as[i], .ref bs[i]] _ E hr.in1 e0 (.cons rfl (.cons rfl .nil)) q1) fun r s2 hq => ?_)
    cases r with
    | error e => exact hx pins σ H1 s' e s2 I1 hq
    | ok fl =>
      cases fl with
      | ret w =>
        obtain ⟨z', H', I', rz, rr, ez, qz⟩ := I1.after hq
        subst ez
        cases rz
        show ∃ r, Value.bool rr = .bool r ∧ _
        refine ⟨rr, rfl, ?_⟩
        cases rr with
        | true => rw [if_pos rfl] at qz ⊢; exact ⟨H', I', qz⟩
        | false => rw [if_neg Bool.false_ne_true] at qz ⊢; exact ⟨.bl false, H', I', rfl, qz⟩
      | next => exact False.elim hq
      | brk => exact False.elim hq
      | cont => exact False.elim hq
  · obtain ⟨H1, I1, q1⟩ := hi
    rw [List.size_toArray, l1] at q1
    exact ⟨.bl true, H1, I1, rfl, eqRun_drop q1⟩
/-- C.m(), C the class, m a classmethod -/
theorem pe_cmeth0 {CX : CXT} {k : Nat} {C p g : Addr} {mc : Value} {sp : Sp} {E : XK} {o : Expr} {m : Str} {pos apos : Pos} {ta : TE} {pl : Sem Bool} (he : PE X o ta) (r : ClX.CRead X.K C mc) (c : ClX.CMet X.K C mc m p g) (F : FnR X.prog X.w X.K X.mg X.base CX k g sp) (hr : Room k X.A) (hx : Passes CX X E)
    (ht : eval (.Call (.Attribute o m apos) [] [] pos) X.env = (do
      let ov ← eval o X.env
      standAt apos.atName
      let (f, first) ← holding [ov] (getMethod ov m pl)
      callWith pos f first (backTo pos (starEach [] X.env)) (backToKw pos (keywordEach [] X.env))) := by rfl) :
    PE X (.Call (.Attribute o m apos) [] [] pos) (ClX.tCMeth C sp E ta tNil) := by
  refine ⟨fun pins s σ H Q I h => ?_⟩
  refine PySem.W.methodCall_KW (pl := pl) (thn (he.run pins s σ H _ I h) fun u s1 ⟨x, H1, I1, rx, ex, q⟩ => ?_) ht
  subst ex
  obtain rfl : u = Value.ref C := rx
  refine ClX.getmethcm_ok I1 r c fun s2 I2 => ?_
  refine PySem.W.callWith_M0 (K := X.K) (first := []) ⟨ClX.pin_at I2, I2.kIn⟩ c.fi ?_
  exact ClX.run_cm F hr hx I2 .nil q
end
end K75
set_option Elab.async false
set_option linter.all false
set_option maxRecDepth 100000
set_option maxHeartbeats 4000000
namespace K75
open PySem PySem.Spec PyProof.Rows L2
/-- the i-th statement of the text's top; the j-th of a class's body -/
def top (i : Nat) : Stmt := PySem.Challenge.pw_everyfield_k75_whole_points_and_lines.main.body.getD i (.Pass ⟨0, 0, 0, 0⟩)
abbrev FnP (K : PySem.W.Frag) (x q : Str) (st : Stmt) (f : Addr) (fd : FuncData) : Prop := FunD K x q (defArgs st) (defBody st) (defScope st) [] [] f fd
theorem ifb {c : Prop} [Decidable c] {A B : Prop} (h1 : c → A) (h2 : ¬ c → B) : if (decide c) = true then A else B := by
  by_cases h : c
  · rw [decide_eq_true h]; exact iteT (h1 h)
  · rw [decide_eq_false h]; exact iteF (h2 h)
theorem ifnb {c : Prop} [Decidable c] {A B : Prop} (h1 : ¬ c → A) (h2 : c → B) : if (!decide c) = true then A else B := by
  by_cases h : c
  · rw [decide_eq_true h]; exact iteF (h2 h)
  · rw [decide_eq_false h]; exact iteT (h1 h)
abbrev sCommon : Stmt := top 8
theorem sc_common : FnScope ["a", "b", "first", "second"] ["a", "b"] (defScope sCommon) := ⟨rfl, rfl, rfl, by decide +kernel, rfl, by decide +kernel, by decide +kernel⟩
def spCommon : Sp := fun vs H Q _ => ∃ a b : Int, vs = [.int a, .int b] ∧ Q (.int (Int.gcd a b : Int)) H
section
variable {P : Program} {w : World} {K : PySem.W.Frag} {mg : Str → Option Value} {base : Heap} {f : Addr} {fd : FuncData}
theorem ok_common (F : FnP K "common" "common" sCommon f fd) (gA : mg "abs" = none) : FnOk P w K mg base CX0 1 f fd ["a", "b"] spCommon := by
  refine F.ok sc_common (fun vs H Q E h => ?_) (fun cdv A outer s H vs Q E hr h => ⟨_, PSs.nox (pss_cons (ps_par (i := 2) (j := 3) rfl sc_common.nd rfl rfl (by decide) rfl rfl (pa_cons (pe_callB call_abs rfl gA boot_abs (pa_cons (pv 0) pa_nil)) (pa_cons (pe_callB call_abs rfl gA boot_abs (pa_cons (pv 1) pa_nil)) pa_nil)) (by rfl)) (pss_cons (ps_while (fun _ _ h => h.elim) (pt_cmp (pc_neI (pv 3) pe_int)) (pss_one (ps_par (i := 2) (j := 3) rfl sc_common.nd rfl rfl (by decide) rfl rfl (pa_cons (pv 3) (pa_cons (pe_op op_mod (pv 2) (pv 3)) pa_nil)) (by rfl)))) (pss_one (ps_ret (pv 2))))), ?_⟩)
  · obtain ⟨a, b, rfl, _⟩ := h
    rfl
  · obtain ⟨a, b, rfl, hQ⟩ := h
    refine ⟨_, rfl, _, rfl, _, rfl, _, rfl, _, _, rfl, ?_⟩
    refine ⟨fun m σ H' => H' = H ∧ ∃ x : Nat, σ = [some (.int a), some (.int b), some (.int x), some (.int (m : Nat))] ∧ Nat.gcd a.natAbs b.natAbs = Nat.gcd x m, ⟨b.natAbs, rfl, a.natAbs, ?_, rfl⟩, ?_⟩
    · rw [show (if a < 0 then -a else a) = (a.natAbs : Int) by omega, show (if b < 0 then -b else b) = (b.natAbs : Int) by omega]
      rfl
    · rintro y σ H' ⟨rfl, x, rfl, hg⟩
      refine ⟨_, rfl, _, _, rfl, rfl, _, rfl, ifnb (fun h0 => ?_) fun h0 => ?_⟩
      · refine ⟨_, fun σ' H' h => ⟨_, Nat.mod_lt x (by omega), h⟩, ⟨_, rfl, _, rfl, _, rfl, _, _, rfl, rfl, by omega, _, _, rfl, rfl, y, ?_, ?_⟩⟩
        · rfl
        · rw [hg, Nat.gcd_comm x y, Nat.gcd_rec, Nat.gcd_comm]
      · have : y = 0 := by omega
        subst this
        refine ⟨_, rfl, ?_⟩
        rw [Nat.gcd_zero_right] at hg
        rw [← hg]
        exact hQ
end
end K75
set_option Elab.async false
set_option linter.all false
set_option maxRecDepth 100000
set_option maxHeartbeats 4000000
namespace K75
open PySem PySem.Spec PyProof.Rows L2
/-! list comprehensions over ints -/
abbrev iV (ns : List Int) : List V := ns.map V.int
theorem wipe_set {σ : L2.St} {i : Nat} {v : Option V} : ∀ {vs : List Nat}, i ∈ vs → wipe ((wipe σ vs).set i v) vs = wipe σ vs := fun {vs} h => by
  apply List.ext_getElem?
  intro l
  by_cases hl : l ∈ vs
  · rw [wipe_at hl, wipe_at hl, List.length_set, wipe_length]
  · rw [wipe_out hl, wipe_out hl, List.getElem?_set_ne (fun e => hl (by rw [← e]; exact h)), wipe_out hl]
theorem wipe_set2 {σ : L2.St} {i j : Nat} {u v : Option V} {vs : List Nat} (hi : i ∈ vs) (hj : j ∈ vs) : wipe (((wipe σ vs).set i u).set j v) vs = wipe σ vs := by
  apply List.ext_getElem?
  intro l
  by_cases hl : l ∈ vs
  · rw [wipe_at hl, wipe_at hl, List.length_set, List.length_set, wipe_length]
  · rw [wipe_out hl, wipe_out hl, List.getElem?_set_ne (fun e => hl (by rw [← e]; exact hj)), List.getElem?_set_ne (fun e => hl (by rw [← e]; exact hi)), wipe_out hl]
theorem sqlU {K : PySem.W.Frag} {H : Hp} {a D : Addr} {xs : List V} {o : HO} (h : SqL K H a xs) (hD : H D = none) : SqL K (upd H D o) a xs := h.ext (Ext.upd hD)
theorem sqtU {K : PySem.W.Frag} {H : Hp} {a D : Addr} {xs : List V} {o : HO} (h : SqT K H a xs) (hD : H D = none) : SqT K (upd H D o) a xs := h.ext (Ext.upd hD)
theorem upd_upd {H : Hp} {D : Addr} {o u : HO} : upd (upd H D o) D u = upd H D u := by
  funext b
  by_cases h : b = D
  · rw [h, upd_same, upd_same]
  · rw [upd_ne h, upd_ne h, upd_ne h]
/-- the value of a filtered, mapped list, by its first n items -/
def lcV (p : Int → Bool) (f : Int → V) (ns : List Int) : List V := (ns.filter p).map f
theorem lcV_snoc {p : Int → Bool} {f : Int → V} {ns : List Int} {i : Nat} {n : Int} (h : ns[i]? = some n) : lcV p f (ns.take (i + 1)) = if p n = true then lcV p f (ns.take i) ++ [f n] else lcV p f (ns.take i) := by
  unfold lcV
  rw [List.take_add_one, h, List.filter_append, List.map_append]
  by_cases hp : p n = true
  · simp [hp]
  · simp [hp]
theorem lcV_len {p : Int → Bool} {f : Int → V} {ns : List Int} {i : Nat} : (lcV p f (ns.take i)).length ≤ ns.length := by
  unfold lcV
  rw [List.length_map]
  exact Nat.le_trans (List.length_filter_le _ _) (by rw [List.length_take]; omega)
section
variable {K : PySem.W.Frag} {a D : Addr} {ns : List Int} {i : Nat} {tt : TT} {te : TE} {vs : List Nat} {σ : L2.St} {H1 : Hp} {Qd : Hp → Prop}
theorem lcI_step (p : Int → Bool) (f : Int → V) (hi : i ∈ vs) (hlen : ns.length < sizeLine) (ht : ∀ n ∈ ns, ∀ acc K', K' (p n) (upd H1 D (.lst acc)) → tt ((wipe σ vs).set i (some (.int n))) (upd H1 D (.lst acc)) K')
    (he : ∀ n ∈ ns, p n = true → ∀ acc K', K' (f n) (upd H1 D (.lst acc)) → te ((wipe σ vs).set i (some (.int n))) (upd H1 D (.lst acc)) K') (j : Nat) (x : V) (H : Hp) (hx : (iV ns)[j]? = some x) (hp : H = upd H1 D (.lst (lcV p f (ns.take j)))) :
    gName i x (wipe σ vs) H fun σ2 H2 => wipe σ2 vs = wipe σ vs ∧ tt σ2 H2 fun b H3 =>
      if b = true then te σ2 H3 fun y H4 => ∃ acc, H4 D = some (.lst acc) ∧ acc.length < sizeLine ∧ upd H4 D (.lst (acc ++ [y])) = upd H1 D (.lst (lcV p f (ns.take (j + 1)))) else H3 = upd H1 D (.lst (lcV p f (ns.take (j + 1)))) := by
  subst hp
  rw [List.getElem?_map] at hx
  cases hn : ns[j]? with
  | none => rw [hn] at hx; cases hx
  | some n =>
    rw [hn] at hx
    cases hx
    have hm : n ∈ ns := List.mem_of_getElem? hn
    refine ⟨wipe_set hi, ht n hm _ _ ?_⟩
    cases hpn : p n with
    | true =>
      refine iteT (he n hm hpn _ _ ⟨_, upd_same, Nat.lt_of_le_of_lt lcV_len hlen, ?_⟩)
      rw [upd_upd, lcV_snoc hn, if_pos hpn]
    | false =>
      refine iteF ?_
      rw [lcV_snoc hn, if_neg (by rw [hpn]; exact Bool.false_ne_true)]
/-- [te for x in a list of ints if tt] -/
theorem lcI_list (p : Int → Bool) (f : Int → V) (hi : i ∈ vs) (hs : SqL K H1 a (iV ns)) (hD : H1 D = none) (hlen : ns.length < sizeLine) (ht : ∀ n ∈ ns, ∀ acc K', K' (p n) (upd H1 D (.lst acc)) → tt ((wipe σ vs).set i (some (.int n))) (upd H1 D (.lst acc)) K')
    (he : ∀ n ∈ ns, p n = true → ∀ acc K', K' (f n) (upd H1 D (.lst acc)) → te ((wipe σ vs).set i (some (.int n))) (upd H1 D (.lst acc)) K') (hd : Qd (upd H1 D (.lst (lcV p f ns)))) :
    ∃ W : Nat → Nat → Hp → Prop, (∃ m, W 0 m (upd H1 D (.lst []))) ∧ ∀ j m H, W j m H →
      ((Itl K a).stop j H ∧ Qd H) ∨ ((Itl K a).go j H ∧ ∃ Nx : Hp → Prop, (∀ H', Nx H' → ∃ m', m' < m ∧ W (j + 1) m' H') ∧ ∀ x H', (Itl K a).yld j H x H' → gName i x (wipe σ vs) H' fun σ2 H2 => wipe σ2 vs = wipe σ vs ∧ tt σ2 H2 fun b H3 =>
        if b = true then te σ2 H3 fun y H4 => ∃ acc, H4 D = some (.lst acc) ∧ acc.length < sizeLine ∧ Nx (upd H4 D (.lst (acc ++ [y]))) else Nx H3) :=
  lc_list (xs := iV ns) (fun j H => H = upd H1 D (.lst (lcV p f (ns.take j)))) rfl (fun j H _ e => by rw [e]; exact sqlU hs hD) (fun j x H hx hp => lcI_step p f hi hlen ht he j x H hx hp) fun H e => by
    rw [e, List.length_map, List.take_length]
    exact hd
theorem lcI_tup (p : Int → Bool) (f : Int → V) (hi : i ∈ vs) (hs : SqT K H1 a (iV ns)) (hD : H1 D = none) (hlen : ns.length < sizeLine) (ht : ∀ n ∈ ns, ∀ acc K', K' (p n) (upd H1 D (.lst acc)) → tt ((wipe σ vs).set i (some (.int n))) (upd H1 D (.lst acc)) K')
    (he : ∀ n ∈ ns, p n = true → ∀ acc K', K' (f n) (upd H1 D (.lst acc)) → te ((wipe σ vs).set i (some (.int n))) (upd H1 D (.lst acc)) K') (hd : Qd (upd H1 D (.lst (lcV p f ns)))) :
    ∃ W : Nat → Nat → Hp → Prop, (∃ m, W 0 m (upd H1 D (.lst []))) ∧ ∀ j m H, W j m H →
      ((Itt K a).stop j H ∧ Qd H) ∨ ((Itt K a).go j H ∧ ∃ Nx : Hp → Prop, (∀ H', Nx H' → ∃ m', m' < m ∧ W (j + 1) m' H') ∧ ∀ x H', (Itt K a).yld j H x H' → gName i x (wipe σ vs) H' fun σ2 H2 => wipe σ2 vs = wipe σ vs ∧ tt σ2 H2 fun b H3 =>
        if b = true then te σ2 H3 fun y H4 => ∃ acc, H4 D = some (.lst acc) ∧ acc.length < sizeLine ∧ Nx (upd H4 D (.lst (acc ++ [y]))) else Nx H3) :=
  lc_tup (xs := iV ns) (fun j H => H = upd H1 D (.lst (lcV p f (ns.take j)))) rfl (fun j H _ e => by rw [e]; exact sqtU hs hD) (fun j x H hx hp => lcI_step p f hi hlen ht he j x H hx hp) fun H e => by
    rw [e, List.length_map, List.take_length]
    exact hd
end
/-! zip of two tuples of ints -/
theorem lcZ {K : PySem.W.Frag} {a b D : Addr} {ns ms : List Int} {i j : Nat} {te : TE} {vs : List Nat} {σ : L2.St} {H1 : Hp} {Qd : Hp → Prop} (f : Int → Int → V) (hi : i ∈ vs) (hj : j ∈ vs) (ha : SqT K H1 a (iV ns)) (hb : SqT K H1 b (iV ms)) (hl : ns.length = ms.length) (hD : H1 D = none) (hlen : ns.length < sizeLine)
    (he : ∀ n m H K', K' (f n m) H → te (((wipe σ vs).set i (some (.int n))).set j (some (.int m))) H K') (hd : ∀ H, Ext H1 H → H D = some (.lst (List.zipWith f ns ms)) → Qd H) :
    ∃ W : Nat → Nat → Hp → Prop, (∃ m, W 0 m (upd H1 D (.lst []))) ∧ ∀ l m H, W l m H →
      ((RZ.ItzT K a b).stop l H ∧ Qd H) ∨ ((RZ.ItzT K a b).go l H ∧ ∃ Nx : Hp → Prop, (∀ H', Nx H' → ∃ m', m' < m ∧ W (l + 1) m' H') ∧ ∀ x H', (RZ.ItzT K a b).yld l H x H' → gTup K 2 (gCons (gName i) (gCons (gName j) gNil)) x (wipe σ vs) H' fun σ2 H2 => wipe σ2 vs = wipe σ vs ∧ tYes σ2 H2 fun b H3 =>
        if b = true then te σ2 H3 fun y H4 => ∃ acc, H4 D = some (.lst acc) ∧ acc.length < sizeLine ∧ Nx (upd H4 D (.lst (acc ++ [y]))) else Nx H3) := by
  have hz : (List.zipWith f ns ms).length = ns.length := by rw [List.length_zipWith, hl, Nat.min_self]
  refine ⟨fun l m H => m = ns.length - l ∧ l ≤ ns.length ∧ Ext H1 H ∧ H D = some (.lst ((List.zipWith f ns ms).take l)), ⟨ns.length, by omega, Nat.zero_le _, Ext.upd hD, by rw [upd_same, List.take_zero]⟩, ?_⟩
  rintro l m H ⟨rfl, hle, hE, hDl⟩
  by_cases hlt : l < ns.length
  · have hlt2 : l < ms.length := hl ▸ hlt
    have g1 : (iV ns)[l]? = some (.int ns[l]) := by simp [iV, hlt]
    have g2 : (iV ms)[l]? = some (.int ms[l]) := by simp [iV, hlt2]
    refine .inr ⟨⟨iV ns, iV ms, _, _, ha.ext hE, hb.ext hE, g1, g2⟩, fun H' => l + 1 ≤ ns.length ∧ Ext H1 H' ∧ H' D = some (.lst ((List.zipWith f ns ms).take (l + 1))), fun H' ⟨q1, q2, q3⟩ => ⟨ns.length - (l + 1), by omega, rfl, q1, q2, q3⟩, fun x H' y => ?_⟩
    obtain ⟨T, x1, y1, rfl, hT, rfl, k1, k2⟩ := y
    have e1 := k1 _ (ha.ext hE)
    have e2 := k2 _ (hb.ext hE)
    rw [g1] at e1
    rw [g2] at e2
    cases e1
    cases e2
    have hTD : D ≠ T := fun z => by rw [← z, hDl] at hT; cases hT
    refine ⟨T, _, rfl, .inl (.inl upd_same), rfl, _, _, rfl, _, _, rfl, rfl, wipe_set2 hi hj, ?_⟩
    dsimp only [tYes]
    rw [if_pos rfl]
    refine he _ _ _ _ ⟨(List.zipWith f ns ms).take l, ?_, ?_, hlt, ?_, ?_⟩
    · rw [upd_ne hTD]; exact hDl
    · rw [List.length_take]; omega
    · intro b o e
      have hbD : b ≠ D := fun z => by rw [z, hD] at e; cases e
      have hbT : b ≠ T := fun z => by rw [← z, hE b o e] at hT; cases hT
      rw [upd_ne hbD, upd_ne hbT]
      exact hE b o e
    · rw [upd_same, List.take_add_one, List.getElem?_zipWith]
      simp [hlt, hlt2]
  · have e : l = ns.length := by omega
    subst e
    refine .inl ⟨⟨iV ns, iV ms, ha.ext hE, hb.ext hE, .inl (by simp [iV])⟩, hd H hE ?_⟩
    rw [hDl, List.take_of_length_le (by omega)]
end K75
set_option Elab.async false
set_option linter.all false
set_option maxRecDepth 100000
set_option maxHeartbeats 4000000
namespace K75
open PySem PySem.Spec PyProof.Rows L2
abbrev sComb : Stmt := top 9
theorem sc_comb : FnScope ["a", "b", "first", "second", "quotient", "i", "j"] ["a", "b"] (defScope sComb) := ⟨rfl, rfl, rfl, by decide +kernel, rfl, by decide +kernel, by decide +kernel⟩
def spComb (K : PySem.W.Frag) : Sp := fun vs H Q _ => ∃ a b : Int, vs = [.int a, .int b] ∧ 0 < a ∧ 0 < b ∧ a < 1000 ∧ b < 1000 ∧ Int.gcd a b = 1 ∧ ∀ t H' u v, Ext H H' → SqT K H' t (iV [1, u, v]) → u * a + v * b = 1 → Q (.ref t) H'
theorem ext_trans {H H1 H2 : Hp} (h : Ext H H1) (k : Ext H1 H2) : Ext H H2 := fun b o e => k b o (h b o e)
theorem comb_step (f0 f1 f2 s0 s1 s2 q : Int) : List.zipWith (fun i j => V.int (i - q * j)) [f0, f1, f2] [s0, s1, s2] = iV [f0 - q * s0, f1 - q * s1, f2 - q * s2] := rfl
theorem sqT_of {K : PySem.W.Frag} {H : Hp} {a : Addr} {xs : List V} (h : H a = some (.tup xs)) : SqT K H a xs := SqT.of h
section
variable {P : Program} {w : World} {K : PySem.W.Frag} {mg : Str → Option Value} {base : Heap} {f : Addr} {fd : FuncData}
theorem ok_comb (F : FnP K "combination" "combination" sComb f fd) (gT : mg "tuple" = none) (gZ : mg "zip" = none) : FnOk P w K mg base CX0 1 f fd ["a", "b"] (spComb K) := by
  refine F.ok sc_comb (fun vs H Q E h => ?_) (fun cdv A outer s H vs Q E hr h => ⟨_, PSs.nox (pss_cons (ps_set (i := 2) sc_comb.nd rfl (Or.inl rfl) (pe_tup (pa_cons (pv 0) (pa_cons pe_int (pa_cons pe_int pa_nil)))))
    (pss_cons (ps_set (i := 3) sc_comb.nd rfl (Or.inl rfl) (pe_tup (pa_cons (pv 1) (pa_cons pe_int (pa_cons pe_int pa_nil)))))
    (pss_cons (ps_while (fun _ _ h => h.elim) (pt_cmp (pc_neI (pe_ix ix_tup (pv 3) pe_int (fun _ _ => rfl)) pe_int))
      (pss_cons (ps_set (i := 4) sc_comb.nd rfl (Or.inr rfl) (pe_op op_fdiv (pe_ix ix_tup (pv 2) pe_int (fun _ _ => rfl)) (pe_ix ix_tup (pv 3) pe_int (fun _ _ => rfl))))
       (pss_one (ps_par (i := 2) (j := 3) rfl sc_comb.nd rfl rfl (by decide) rfl rfl (pa_cons (pv 3) (pa_cons (pe_tupleOf (by rfl) gT (pe_lc (own := [("i", 5), ("j", 6)]) (g := gTup K 2 (gCons (gName 5) (gCons (gName 6) gNil))) (tt := tYes) rfl sc_comb.nd (RZ.pi_zipA (by rfl) gZ (pa_cons (pv 2) (pa_cons (pv 3) pa_nil)))
          (blkOk_by (own := [("i", 5), ("j", 6)]) (N := ["a", "b", "first", "second", "quotient", "i", "j"]) (sc := defScope sComb) (by decide +kernel)) (fun _ _ _ _ _ => pg_tup (by rfl) (pgs_cons (pg_name (i := 5) sc_comb.nd rfl (Or.inl rfl)) (pgs_cons (pg_name (i := 6) sc_comb.nd rfl (Or.inl rfl)) pgs_nil))) (fun _ _ _ _ _ => pts_nil)
          (fun _ _ _ _ _ => pe_op op_sub (pv 5) (pe_op op_mul (pv 4) (pv 6))))) pa_nil)) (by rfl)))))
    (pss_cons (ps_if (pt_cmpR op_lt (pe_ix ix_tup (pv 2) pe_int (fun _ _ => rfl)) pe_int (nomark _)) pss_never pss_nil) (pss_one (ps_ret (pv 2))))))), ?_⟩)
  · obtain ⟨a, b, rfl, _⟩ := h
    rfl
  · obtain ⟨a, b, rfl, ha, hb, la, lb, hg, hQ⟩ := h
    refine ⟨_, rfl, (by show 3 ≤ sizeLine; decide), fun t ht => ?_⟩
    refine ⟨_, rfl, (by show 3 ≤ sizeLine; decide), fun u hu => ?_⟩
    have etu : t ≠ u := fun e => by rw [← e, upd_same] at hu; cases hu
    refine ⟨fun m σ H' => ∃ (A B : Addr) (f1 f2 s1 s2 : Int) (f0 : Nat) (q : Option V), Ext H H' ∧ σ = [some (.int a), some (.int b), some (.ref A), some (.ref B), q, none, none] ∧ SqT K H' A (iV [(f0 : Int), f1, f2]) ∧ SqT K H' B (iV [(m : Nat), s1, s2]) ∧ f1 * a + f2 * b = (f0 : Nat) ∧ s1 * a + s2 * b = (m : Nat) ∧ Nat.gcd f0 m = 1 ∧ f0 < 1000 ∧ m < 1000,
      ⟨b.toNat, t, u, 1, 0, 0, 1, a.toNat, none, fun b' o e => ?_, rfl, ?_, ?_, by omega, by omega, ?_, by omega, by omega⟩, ?_⟩
    · exact Ext.upd hu b' o (Ext.upd ht b' o e)
    · refine sqT_of ?_
      rw [upd_ne etu, upd_same, show ((a.toNat : Nat) : Int) = a by omega]
      rfl
    · refine sqT_of ?_
      rw [upd_same, show ((b.toNat : Nat) : Int) = b by omega]
      rfl
    · rw [← hg]
      unfold Int.gcd
      rw [show a.toNat = a.natAbs by omega, show b.toNat = b.natAbs by omega]
    · rintro y σ H' ⟨A, B, f1, f2, s1, s2, f0, q, hE, rfl, hA, hB, e1, e2, hc, lf, ly⟩
      refine ⟨_, rfl, _, _, _, _, rfl, rfl, hB, atI_nat (j := 0) rfl, _, _, rfl, rfl, _, rfl, ifnb (fun h0 => ?_) fun h0 => ?_⟩
      · have y0 : 0 < y := by omega
        refine ⟨_, fun σ' H' h => ⟨f0 % y, Nat.mod_lt _ y0, h⟩, ⟨_, rfl, _, _, _, _, rfl, rfl, hA, atI_nat (j := 0) rfl, _, rfl, _, _, _, _, rfl, rfl, hB, atI_nat (j := 0) rfl, _, _, rfl, rfl, ⟨by omega, by omega⟩, ?_⟩⟩
        have lq : (f0 : Int) / (y : Nat) ≤ 1000 := Int.le_trans (Int.ediv_le_self _ (by omega)) (by omega)
        have gq : 0 ≤ (f0 : Int) / (y : Nat) := Int.ediv_nonneg (by omega) (by omega)
        refine ⟨_, rfl, _, rfl, _, rfl, _, _, _, _, rfl, .inr ⟨hA, hB, fun D hD => ?_⟩⟩
        refine lcZ (ns := [(f0 : Int), f1, f2]) (ms := [((y : Nat) : Int), s1, s2]) (fun i j => V.int (i - (f0 : Int) / (y : Nat) * j)) (by decide) (by decide) hA hB rfl hD (by show 3 < sizeLine; decide) (fun n m H K' hK => ?_) fun H2 hE2 hD2 => ?_
        · exact ⟨_, rfl, _, rfl, _, rfl, _, _, rfl, rfl, .inl ⟨by omega, by omega⟩, _, _, rfl, rfl, hK⟩
        · refine .inl ⟨_, _, rfl, SqL.of hD2, fun T hT => ⟨_, _, rfl, B, T, s1, s2, f1 - (f0 : Int) / (y : Nat) * s1, f2 - (f0 : Int) / (y : Nat) * s2, y, _, ?_, rfl, hB.ext (ext_trans hE2 (Ext.upd hT)), ?_, e2, ?_, ?_, ly, ?_⟩⟩
          · exact ext_trans hE (ext_trans hE2 (Ext.upd hT))
          · refine sqT_of ?_
            rw [upd_same, comb_step]
            have : (f0 : Int) - (f0 : Int) / (y : Nat) * (y : Nat) = ((f0 % y : Nat) : Int) := by
              have := Int.emod_add_mul_ediv (f0 : Int) (y : Nat)
              rw [Int.mul_comm] at this
              rw [Int.natCast_emod]
              omega
            rw [this]
          · rw [Int.natCast_emod]
            have h1 := Int.emod_add_mul_ediv (f0 : Int) (y : Nat)
            generalize hq : (f0 : Int) / (y : Nat) = q at *
            have : (f1 - q * s1) * a + (f2 - q * s2) * b = (f1 * a + f2 * b) - q * (s1 * a + s2 * b) := by
              rw [Int.sub_mul, Int.sub_mul, Int.mul_add, Int.mul_assoc, Int.mul_assoc]
              omega
            rw [this, e1, e2]
            rw [Int.mul_comm] at h1
            omega
          · rw [Nat.gcd_comm, ← Nat.gcd_rec, Nat.gcd_comm]; exact hc
          · have := Nat.mod_lt f0 y0
            omega
      · have : y = 0 := by omega
        subst this
        rw [Nat.gcd_zero_right] at hc
        subst hc
        refine ⟨_, rfl, _, _, _, _, rfl, rfl, hA, atI_nat (j := 0) rfl, _, _, rfl, rfl, _, rfl, ?_⟩
        refine iteF ?_
        refine ⟨_, rfl, ?_⟩
        exact hQ A H' f1 f2 hE hA e1
end
abbrev sIsP : Stmt := top 11
theorem sc_isP : FnScope ["n", "divisor"] ["n"] (defScope sIsP) := ⟨rfl, rfl, rfl, by decide +kernel, rfl, by decide +kernel, by decide +kernel⟩
/-- prime -/
def IsPi (n : Int) : Prop := 2 ≤ n ∧ ∀ d : Int, 2 ≤ d → d * d ≤ n → n % d ≠ 0
def spIsP : Sp := fun vs H Q _ => ∃ n : Int, vs = [.int n] ∧ n < 2 ^ 60 ∧ ∀ r : Bool, (r = true ↔ IsPi n) → Q (.bl r) H
abbrev sChk : Stmt := top 12
theorem sc_chk : FnScope ["p"] ["p"] (defScope sChk) := ⟨rfl, rfl, rfl, by decide +kernel, rfl, by decide +kernel, by decide +kernel⟩
theorem sq_le {d n : Int} (h : 0 ≤ d) (h2 : d * d ≤ n) : d ≤ n := by
  by_cases hd : d = 0
  · subst hd; omega
  · have : d * 1 ≤ d * d := Int.mul_le_mul_of_nonneg_left (by omega) h
    omega
section
variable {P : Program} {w : World} {K : PySem.W.Frag} {mg : Str → Option Value} {base : Heap} {f : Addr} {fd : FuncData}
theorem ok_isP (F : FnP K "is_prime" "is_prime" sIsP f fd) : FnOk P w K mg base CX0 1 f fd ["n"] spIsP := by
  refine F.ok sc_isP (fun vs H Q E h => ?_) (fun cdv A outer s H vs Q E hr h => ⟨_, PSs.nox (pss_cons (ps_if (pt_cmpR op_lt (pv 0) pe_int (nomark _)) (pss_one (ps_ret pe_bl)) pss_nil)
    (pss_cons (ps_set (i := 1) sc_isP.nd rfl (Or.inl rfl) pe_int)
    (pss_cons (ps_while (fun _ _ h => h.elim) (pt_cmpR op_le (pe_op op_mul (pv 1) (pv 1)) (pv 0) (nomark _))
      (pss_cons (ps_if (pt_cmpR op_eq (pe_op op_mod (pv 0) (pv 1)) pe_int (nomark _)) (pss_one (ps_ret pe_bl)) pss_nil)
       (pss_one (ps_aug (i := 1) sc_isP.nd rfl (Or.inl rfl) pe_int ip_add))))
    (pss_one (ps_ret pe_bl))))), ?_⟩)
  · obtain ⟨n, rfl, _⟩ := h
    rfl
  · obtain ⟨n, rfl, hn, hQ⟩ := h
    refine ⟨_, rfl, _, _, rfl, rfl, _, rfl, ifb (fun h2 => ?_) fun h2 => ?_⟩
    · exact hQ false ⟨fun z => (by cases z), fun z => absurd z.1 (by omega)⟩
    · refine ⟨fun m σ H' => H' = H ∧ ∃ d : Int, σ = [some (.int n), some (.int d)] ∧ 2 ≤ d ∧ d ≤ n ∧ m = (n - d + 1).toNat ∧ ∀ e, 2 ≤ e → e < d → e * e ≤ n → n % e ≠ 0, ⟨_, rfl, 2, rfl, by omega, by omega, rfl, fun e h1 h2 => by omega⟩, ?_⟩
      rintro y σ H' ⟨rfl, d, rfl, hd, hdn, hm, hall⟩
      refine ⟨_, rfl, _, rfl, _, _, rfl, rfl, .inl ⟨by omega, by omega⟩, _, rfl, _, _, rfl, rfl, _, rfl, ifb (fun h3 => ?_) fun h3 => ?_⟩
      · have hdd : d * 2 ≤ d * d := Int.mul_le_mul_of_nonneg_left (by omega) (by omega)
        refine ⟨_, fun σ' H' h => ⟨(n - (d + 1) + 1).toNat, by omega, h⟩, ⟨_, rfl, _, rfl, _, _, rfl, rfl, (by show 0 < d; omega), rfl, _, rfl, ifb (fun h4 => ?_) fun h4 => ?_⟩⟩
        · have h4 : n % d = 0 := V.int.inj h4
          exact hQ false ⟨fun z => (by cases z), fun z => absurd h4 (z.2 d hd h3)⟩
        · have h4 : n % d ≠ 0 := fun e => h4 (congrArg V.int e)
          refine ⟨_, rfl, _, _, rfl, rfl, rfl, d + 1, rfl, by omega, by omega, rfl, fun e h1 h5 h6 => ?_⟩
          by_cases hed : e = d
          · subst hed; exact h4
          · exact hall e h1 (by omega) h6
      · refine hQ true ⟨fun _ => ⟨by omega, fun e h1 h5 => ?_⟩, fun _ => rfl⟩
        by_cases hed : e < d
        · exact hall e h1 hed h5
        · exfalso
          have : d * d ≤ e * e := Int.mul_le_mul (by omega) (by omega) (by omega) (by omega)
          omega
end
end K75
set_option Elab.async false
set_option linter.all false
set_option maxRecDepth 100000
set_option maxHeartbeats 4000000
namespace K75
open PySem PySem.Spec PyProof.Rows L2
/-! the exceptions' own __init__ -/
abbrev nfX (x q : Str) (st : Stmt) (cc c : Addr) : NdefX.NF := ⟨x, q, defArgs st, defBody st, defScope st, [(("__class__" : Str), cc)], c⟩
def spXI (C : Addr) (fl : Str) (v : V) : Sp := fun vs H Q _ => ∃ a : Addr, vs = [.ref a, v] ∧ H a = some (exo a C none) ∧ ∀ dx, H dx = none → dx ≠ a → Q .non (upd (upd H dx (exd dx [(fl, v)])) a (exo a C (some dx)))
section

theorem super_stmt {X : Cx} {c : Code} {e : Expr} {pos : Pos} {rest : List Stmt} {D : Ends} {pins : List (Addr × Obj)} {σ : L2.St} {s : Shared} {tr : TS} (h : _root_.PySem.wpAt (model X.prog X.w) X.A c (eval e X.env) (EP X pins σ (fun _ H1 => tr D σ H1)) X.xe s)
    (hr : PSs X rest tr) (hi : interactive X.env = false := by rfl) (hs : swapsWith e none pos.line X.env = pure false := by rfl) : _root_.PySem.wpAt (model X.prog X.w) X.A c (execs (.Expr e pos :: rest) X.env) (SP X pins D) X.xe s := by
  refine ks_wpAt_execs_cons (ks_wpAt_Expr_any ?_ hi hs)
  exact ks_wpAt_mono h (fun v s' ⟨x, H1, I1, r, q⟩ => _root_.PySem.wpAt_of_wpAny (hr.run pins s' σ H1 D I1 q)) fun _ _ x => x
theorem super_ret {X : Cx} {c : Code} {e : Expr} {pos : Pos} {D : Ends} {pins : List (Addr × Obj)} {σ : L2.St} {s : Shared} (h : _root_.PySem.wpAt (model X.prog X.w) X.A c (eval e X.env) (EP X pins σ D.rt) X.xe s) :
    _root_.PySem.wpAt (model X.prog X.w) X.A c (execs [.Return (some e) pos] X.env) (SP X pins D) X.xe s := by
  refine ks_wpAt_execs_cons (ks_wpAt_Return_some ?_)
  exact ks_wpAt_mono h (fun v s' ⟨x, H1, I1, r, q⟩ => ⟨x, σ, H1, I1, r, q⟩) fun _ _ x => x
end
abbrev sBad : Stmt := inClass (top 4) 0
abbrev sUnk : Stmt := inClass (top 6) 0
theorem ns_bad : NdefX.NScope ["self", "p", "__class__"] ["self", "p"] ["__class__"] (defScope sBad) := NdefX.nscope_by (by decide +kernel)
theorem ns_unk : NdefX.NScope ["self", "name", "__class__"] ["self", "name"] ["__class__"] (defScope sUnk) := NdefX.nscope_by (by decide +kernel)
section
variable {CX : CXT} {P : Program} {w : World} {K : PySem.W.Frag} {mg : Str → Option Value} {base : Heap} {f cc C c : Addr} {ar : Str} {doc pm ctv : Value}
theorem ok_bad (T : SupD P K mg (nfX "__init__" "BadCharacteristic.__init__" sBad cc c) f cc C "self" doc pm ctv) (hsub : PySem.W.mroIn K C (.ref C) = some true) (X : OexC K C)
    (hm : PySem.W.ks_superIn K C C "__init__" = some (some (.builtin "ValueError.__init__"))) (hB : PySem.W.subIn K (.ref C) (.type "ValueError") = some true) (hno : PySem.W.findIn K (.ref C) "p" = some none) :
    FnOk P w K mg base CX0 1 f ((nfX "__init__" "BadCharacteristic.__init__" sBad cc c).fd doc pm ctv) ["self", "p"] (spXI C "p" (.int 4)) := by
  refine fnS_of (k := 0) ns_bad T (fun vs H Q E h => ?_) fun A outer s H vs Q E hr h s1 I => ?_
  · obtain ⟨a, rfl, _⟩ := h
    rfl
  · obtain ⟨a, rfl, ha, hQ⟩ := h
    refine super_stmt (X := scx CX0 P w K mg base ["self", "p", "__class__"] (nfX "__init__" "BadCharacteristic.__init__" sBad cc c) f A outer s H E) (super_init (t := _) T I rfl rfl ha hsub X hm hB (pa_cons (pe_joined (.cons (pe_fmt (pv 1)) (.cons pe_str .nil))) pa_nil) ?_) (pss_one (ps_ost (pv 0) (pv 1)))
    refine ⟨_, rfl, .inr ⟨4, rfl, by decide +kernel, _, rfl, by decide +kernel, _, rfl, by decide +kernel, ha, by decide, ?_⟩⟩
    exact ⟨_, rfl, _, rfl, a, C, rfl, X, hno, .inl ⟨ha, fun dx h1 h2 => hQ dx h1 h2⟩⟩
theorem ok_unk (T : SupD P K mg (nfX "__init__" "UnknownName.__init__" sUnk cc c) f cc C "self" doc pm ctv) (hsub : PySem.W.mroIn K C (.ref C) = some true) (X : OexC K C)
    (hm : PySem.W.ks_superIn K C C "__init__" = some (some (.builtin "ValueError.__init__"))) (hB : PySem.W.subIn K (.ref C) (.type "ValueError") = some true) (hno : PySem.W.findIn K (.ref C) "name" = some none) :
    FnOk P w K mg base CX0 1 f ((nfX "__init__" "UnknownName.__init__" sUnk cc c).fd doc pm ctv) ["self", "name"] (spXI C "name" (.str "b7y")) := by
  refine fnS_of (k := 0) ns_unk T (fun vs H Q E h => ?_) fun A outer s H vs Q E hr h s1 I => ?_
  · obtain ⟨a, rfl, _⟩ := h
    rfl
  · obtain ⟨a, rfl, ha, hQ⟩ := h
    refine super_stmt (X := scx CX0 P w K mg base ["self", "name", "__class__"] (nfX "__init__" "UnknownName.__init__" sUnk cc c) f A outer s H E) (super_init (t := _) T I rfl rfl ha hsub X hm hB (pa_cons (pe_joined (.cons pe_str (.cons (pe_fmt (pv 1)) .nil))) pa_nil) ?_) (pss_one (ps_ost (pv 0) (pv 1)))
    refine ⟨_, rfl, by decide +kernel, _, rfl, .inl ⟨_, rfl, by decide +kernel, _, rfl, by decide +kernel, ha, by decide, ?_⟩⟩
    exact ⟨_, rfl, _, rfl, a, C, rfl, X, hno, .inl ⟨ha, fun dx h1 h2 => hQ dx h1 h2⟩⟩
end
end K75
set_option Elab.async false
set_option linter.all false
set_option maxRecDepth 100000
set_option maxHeartbeats 4000000
namespace K75
open PySem PySem.Spec PyProof.Rows L2
/-! what may be called, by name -/
section
variable (P : Program) (w : World) (K : PySem.W.Frag) (mg : Str → Option Value) (base : Heap)
structure Cal (CX : CXT) (k : Nat) (x : Str) (sp : Sp) : Prop where
  ex : ∃ f, mg x = some (.ref f) ∧ PySem.W.keepIn K (.ref f) = true ∧ FnR P w K mg base CX k f sp
structure CalN (CX : CXT) (k n : Nat) (x : Str) (ks : List Str) (sp : Sp) : Prop where
  ex : ∃ f fd ps, mg x = some (.ref f) ∧ PySem.W.keepIn K (.ref f) = true ∧ FnOk P w K mg base CX k f fd ps sp ∧ KBn K fd ps n ks (fun us ws => us ++ ws) (fun vs zs => vs ++ zs)
structure Met (CX : CXT) (k : Nat) (C : Addr) (m : Str) (sp : Sp) : Prop where
  cl : Cls K C
  ex : ∃ f, Meth K C m f ∧ FnR P w K mg base CX k f sp
structure MetN (CX : CXT) (k n : Nat) (C : Addr) (m : Str) (ks : List Str) (sp : Sp) : Prop where
  cl : Cls K C
  ex : ∃ f fd ps, Meth K C m f ∧ FnOk P w K mg base CX k f fd ps sp ∧ KBn K fd ps (n + 1) ks (fun us ws => us ++ ws) (fun vs zs => vs ++ zs)
structure Mak (CX : CXT) (k : Nat) (C : Addr) (sp : Sp) : Prop where
  ex : ∃ f, Mk K C f ∧ FnR P w K mg base CX k f sp
structure Exk (k : Nat) (x : Str) (C : Addr) (sp : Sp) : Prop where
  oex : OexC K C
  gC : mg x = some (.ref C)
  ex : ∃ fI fd ps, PySem.W.findIn K (.ref C) "__init__" = some (some (.ref fI)) ∧ PySem.W.typeIn K (.ref fI) = some (.type "function") ∧ FnOk P w K mg base CX0 k fI fd ps sp ∧ Binds K fd ps []
structure ClM (CX : CXT) (k : Nat) (C : Addr) (m : Str) (sp : Sp) : Prop where
  ex : ∃ mc p g, ClX.CRead K C mc ∧ ClX.CMet K C mc m p g ∧ FnR P w K mg base CX k g sp
/-- an own operator's def -/
structure Opr (CX : CXT) (k : Nat) (C : Addr) (m : Str) (sp : Sp) : Prop where
  ex : ∃ g, PySem.W.findIn K (.ref C) m = some (some (.ref g)) ∧ PySem.W.isFn K (.ref g) = true ∧ FnR P w K mg base CX k g sp
end
section
variable {X : Cx} {CX : CXT} {k j n : Nat} {C : Addr} {x m : Str} {ks : List Str} {sp : Sp} {E : XK} {p pos apos : Pos} {e o : Expr} {es : List Expr} {kws : List Keyword} {ta : TE} {t tk : TA}
def tCl (sp : Sp) (E : XK) (t : TA) : TE := fun σ H Q => t σ H fun vs H1 => sp vs H1 Q E
def tCn (n j : Nat) (sp : Sp) (E : XK) (t tk : TA) : TE := fun σ H Q => t σ H fun vs H1 => tk σ H1 fun zs H2 => vs.length = n ∧ zs.length = j ∧ sp (vs ++ zs) H2 Q E
theorem pe_c (c : Cal X.prog X.w X.K X.mg X.base CX k x sp) (hr : Room j X.A) (hk : k ≤ j) (hg : Gl X x) (hx : Passes CX X E) (ha : PA X (e :: es) t)
    (hdb : (x == ("__debug__" : Str)) = false := by decide) (he : starEach (e :: es) X.env = (false, eval e X.env) :: starEach es X.env := by rfl) (hpl : (backTo pos (starEach es X.env)).any (·.1) = false := by rfl) :
    PE X (.Call (.Name x p) (e :: es) [] pos) (tCl sp E t) := by
  obtain ⟨f, hm, kp, F⟩ := c.ex
  refine ⟨fun pins s σ H Q I h => ?_⟩
  refine wpAny_Call_Name_kw (ld_glob I hg hm ?_ hdb)
  refine PySem.W.callWith_K (h₀ := X.base) I.ok.mod.kin kp (thn (ha.run pos pins s σ H _ I h) fun us s1 ⟨vs, H1, I1, r, q⟩ => ⟨I1.kIn, ?_⟩) he hpl
  exact wpAny_call (run_fnR F (hr.mono hk) hx I1 r q)
theorem pe_cn (c : CalN X.prog X.w X.K X.mg X.base CX k n x ks sp) (hr : Room j X.A) (hk : k ≤ j) (hg : Gl X x) (hx : Passes CX X E)
    (ha : PA X (e :: es) t) (hkw : PK X kws tk) (hall : (backToKw pos (keywordEach kws X.env)).all (·.1.isSome) = true := by rfl) (hks : (backToKw pos (keywordEach kws X.env)).filterMap (·.1) = ks := by rfl)
    (hdb : (x == ("__debug__" : Str)) = false := by decide) (he : starEach (e :: es) X.env = (false, eval e X.env) :: starEach es X.env := by rfl)
    (hpl : ((backTo pos (starEach (e :: es) X.env)).any (·.1) || (backToKw pos (keywordEach kws X.env)).any (·.1.isNone)) = false := by rfl) :
    PE X (.Call (.Name x p) (e :: es) kws pos) (tCn n ks.length sp E t tk) := by
  obtain ⟨f, fd, ps, hm, kp, F, hb⟩ := c.ex
  exact pe_callN F (hr.mono hk) hg hm kp hb hx ha hkw hall hks hdb he hpl
theorem pe_m {pl : Sem Bool} (c : Met X.prog X.w X.K X.mg X.base CX k C m sp) (hr : Room j X.A) (hk : k ≤ j) (hx : Passes CX X E) (he : PE X o ta) (ha : PA X (e :: es) t)
    (hst : starEach (e :: es) X.env = (false, eval e X.env) :: starEach es X.env := by rfl) (hpl : (backTo pos (starEach es X.env)).any (·.1) = false := by rfl)
    (ht : eval (.Call (.Attribute o m apos) (e :: es) [] pos) X.env = (do
      let ov ← eval o X.env
      standAt apos.atName
      let (f, first) ← holding [ov] (getMethod ov m pl)
      callWith pos f first (backTo pos (starEach (e :: es) X.env)) (backToKw pos (keywordEach [] X.env))) := by rfl) :
    PE X (.Call (.Attribute o m apos) (e :: es) [] pos) (tMethR C m sp E ta t) := by
  obtain ⟨f, hm, F⟩ := c.ex
  exact pe_methR (pl := pl) he c.cl hm F (hr.mono hk) hx ha hst hpl ht
def tM0 (C : Addr) (m : Str) (sp : Sp) (E : XK) (ta : TE) : TE := fun σ H Q => ta σ H fun x H1 => ∃ a dx fs, x = .ref a ∧ H1 a = some (.ins C dx fs) ∧ fs.lookup m = none ∧ sp [x] H1 Q E
theorem pe_m0 {pl : Sem Bool} (c : Met X.prog X.w X.K X.mg X.base CX k C m sp) (hr : Room j X.A) (hk : k ≤ j) (hx : Passes CX X E) (he : PE X o ta)
    (ht : eval (.Call (.Attribute o m apos) [] [] pos) X.env = (do
      let ov ← eval o X.env
      standAt apos.atName
      let (f, first) ← holding [ov] (getMethod ov m pl)
      callWith pos f first (backTo pos (starEach [] X.env)) (backToKw pos (keywordEach [] X.env))) := by rfl) :
    PE X (.Call (.Attribute o m apos) [] [] pos) (tM0 C m sp E ta) := by
  obtain ⟨f, hm, F⟩ := c.ex
  refine ⟨fun pins s σ H Q I h => ?_⟩
  refine PySem.W.methodCall_KW (pl := pl) (thn (he.run pins s σ H _ I h) fun u s1 ⟨x, H1, I1, rx, a, dx, fs, ex, ea, l, q⟩ => ?_) ht
  subst ex
  obtain rfl : u = Value.ref a := rx
  refine getmeth_ok I1 ea c.cl hm l ?_
  exact PySem.W.callWith_K0 (first := [.ref a]) I1.kIn hm.kp (wpAny_call (run_fnR (us := [.ref a]) (vs := [.ref a]) F (hr.mono hk) hx I1 (.cons rfl .nil) q))
theorem pe_mn {pl : Sem Bool} (c : MetN X.prog X.w X.K X.mg X.base CX k n C m ks sp) (hr : Room j X.A) (hk : k ≤ j) (hx : Passes CX X E) (he : PE X o ta)
    (ha : PA X (e :: es) t) (hkw : PK X kws tk) (hall : (backToKw pos (keywordEach kws X.env)).all (·.1.isSome) = true := by rfl) (hks : (backToKw pos (keywordEach kws X.env)).filterMap (·.1) = ks := by rfl)
    (hst : starEach (e :: es) X.env = (false, eval e X.env) :: starEach es X.env := by rfl)
    (hpl : ((backTo pos (starEach (e :: es) X.env)).any (·.1) || (backToKw pos (keywordEach kws X.env)).any (·.1.isNone)) = false := by rfl)
    (ht : eval (.Call (.Attribute o m apos) (e :: es) kws pos) X.env = (do
      let ov ← eval o X.env
      standAt apos.atName
      let (f, first) ← holding [ov] (getMethod ov m pl)
      callWith pos f first (backTo pos (starEach (e :: es) X.env)) (backToKw pos (keywordEach kws X.env))) := by rfl) :
    PE X (.Call (.Attribute o m apos) (e :: es) kws pos) (tMethN C m n ks.length sp E ta t tk) := by
  obtain ⟨f, fd, ps, hm, F, hb⟩ := c.ex
  exact pe_methN (pl := pl) he c.cl hm F (hr.mono hk) hb hx ha hkw hall hks hst hpl ht
theorem pe_mk (c : Mak X.prog X.w X.K X.mg X.base CX k C sp) (hr : Room j X.A) (hk : k + 1 ≤ j) (hg : Gl X x) (hm : X.mg x = some (.ref C)) (hx : Passes CX X E) (ha : PA X (e :: es) t)
    (hdb : (x == ("__debug__" : Str)) = false := by decide) (he : starEach (e :: es) X.env = (false, eval e X.env) :: starEach es X.env := by rfl) (hpl : (backTo pos (starEach es X.env)).any (·.1) = false := by rfl) :
    PE X (.Call (.Name x p) (e :: es) [] pos) (StX.tMakeR C sp E t) := by
  obtain ⟨f, M, F⟩ := c.ex
  exact StX.pe_makeR M F (hr.mono hk) hg hm hx ha hdb he hpl
theorem pe_mkV {i : Nat} (c : Mak X.prog X.w X.K X.mg X.base CX k C sp) (hr : Room j X.A) (hk : k + 1 ≤ j) (hx : Passes CX X E) (hN : X.N[i]? = some x) (hv : Vis X.env.scope x) (ha : PA X (e :: es) t)
    (hd : (x == ("__debug__" : Str)) = false := by decide) (hcd : (x == ("__classdict__" : Str)) = false := by decide)
    (he : starEach (e :: es) X.env = (false, eval e X.env) :: starEach es X.env := by rfl) (hpl : (backTo pos (starEach es X.env)).any (·.1) = false := by rfl) :
    PE X (.Call (.Name x p) (e :: es) [] pos) (tNewV i C sp E t) := by
  obtain ⟨f, M, F⟩ := c.ex
  exact pe_newV M F (hr.mono hk) hx hN hv ha hd hcd he hpl
theorem pmk_x {ta' : TA} (c : Exk X.prog X.w X.K X.mg X.base k x C sp) (hr : Room j X.A) (hk : k + 1 ≤ j) (hg : Gl X x) (ha : PA X (e :: es) ta')
    (hdb : (x == ("__debug__" : Str)) = false := by decide) (he : starEach (e :: es) X.env = (false, eval e X.env) :: starEach es X.env := by rfl) (hpl : (backTo pos (starEach es X.env)).any (·.1) = false := by rfl) :
    PMk X (.Call (.Name x p) (e :: es) [] pos) (tMkO C sp [] ta') := by
  obtain ⟨fI, fd, ps, h1, h2, F, b⟩ := c.ex
  exact pmk_oex c.oex h1 h2 F (hr.mono hk) b .nil pass0 hg c.gC ha hdb he hpl
theorem pe_cm {pl : Sem Bool} (c : ClM X.prog X.w X.K X.mg X.base CX k C m sp) (hr : Room j X.A) (hk : k ≤ j) (hx : Passes CX X E) (he : PE X o ta) (ha : PA X (e :: es) t)
    (hst : starEach (e :: es) X.env = (false, eval e X.env) :: starEach es X.env := by rfl) (hpl : (backTo pos (starEach es X.env)).any (·.1) = false := by rfl)
    (ht : eval (.Call (.Attribute o m apos) (e :: es) [] pos) X.env = (do
      let ov ← eval o X.env
      standAt apos.atName
      let (f, first) ← holding [ov] (getMethod ov m pl)
      callWith pos f first (backTo pos (starEach (e :: es) X.env)) (backToKw pos (keywordEach [] X.env))) := by rfl) : PE X (.Call (.Attribute o m apos) (e :: es) [] pos) (ClX.tCMeth C sp E ta t) := by
  obtain ⟨mc, p, g, r, cm, F⟩ := c.ex
  exact ClX.pe_cmeth (pl := pl) he r cm F (hr.mono hk) hx ha hst hpl ht
theorem pe_cm0 {pl : Sem Bool} (c : ClM X.prog X.w X.K X.mg X.base CX k C m sp) (hr : Room j X.A) (hk : k ≤ j) (hx : Passes CX X E) (he : PE X o ta)
    (ht : eval (.Call (.Attribute o m apos) [] [] pos) X.env = (do
      let ov ← eval o X.env
      standAt apos.atName
      let (f, first) ← holding [ov] (getMethod ov m pl)
      callWith pos f first (backTo pos (starEach [] X.env)) (backToKw pos (keywordEach [] X.env))) := by rfl) : PE X (.Call (.Attribute o m apos) [] [] pos) (ClX.tCMeth C sp E ta tNil) := by
  obtain ⟨mc, p, g, r, cm, F⟩ := c.ex
  exact pe_cmeth0 (pl := pl) he r cm F (hr.mono hk) hx ht
end
end K75
set_option Elab.async false
set_option linter.all false
set_option maxRecDepth 100000
set_option maxHeartbeats 4000000
namespace K75
open PySem PySem.Spec PyProof.Rows L2
def spChk (CB : Addr) : Sp := fun vs H Q E => ∃ p : Int, vs = [.int p] ∧ p < 2 ^ 60 ∧ (p = 0 ∨ IsPi p → Q (.int p) H) ∧ (¬ (p = 0 ∨ IsPi p) → p = 4 ∧ ∀ d, H d = none → E (.ref CB) (some d) (upd H d (.xd [("p", .int 4)])))
theorem xd_heap {H : Hp} {a d C : Addr} {fs : List (Str × V)} (ha : H a = none) (hd : d ≠ a) : upd (del (upd (upd (upd H a (exo a C none)) d (exd d fs)) a (exo a C (some d))) a) d (.xd fs) = upd H d (.xd fs) := by
  funext b
  by_cases h1 : b = d
  · rw [h1, upd_same, upd_same]
  · rw [upd_ne h1, upd_ne h1]
    by_cases h2 : b = a
    · rw [h2, del_same, ha]
    · rw [del_ne h2, upd_ne h2, upd_ne h1, upd_ne h2]
/-- what a raise of an own exception asks -/
theorem raise_xi {H : Hp} {C : Addr} {fl : Str} {v : V} {Q : XK} (h : ∀ d, H d = none → Q (.ref C) (some d) (upd H d (.xd [(fl, v)]))) (a : Addr) (ha : H a = none) :
    spXI C fl v [.ref a, v] (upd H a (exo a C none)) (fun y H2 => y = .non ∧ ∃ (d : Addr) (fs : List (Str × V)), H2 a = some (exo a C (some d)) ∧ H2 d = some (exd d fs) ∧ H d = none ∧ Q (.ref C) (some d) (upd (del H2 a) d (.xd fs))) E0 := by
  refine ⟨a, rfl, upd_same, fun dx h1 h2 => ⟨rfl, dx, [(fl, v)], upd_same, ?_, ?_, ?_⟩⟩
  · rw [upd_ne h2, upd_same]
  · rw [upd_ne h2] at h1
    exact h1
  · rw [xd_heap ha h2]
    rw [upd_ne h2] at h1
    exact h dx h1
section
variable {P : Program} {w : World} {K : PySem.W.Frag} {mg : Str → Option Value} {base : Heap} {f CB : Addr} {fd : FuncData}
theorem ok_chk (F : FnP K "checked" "checked" sChk f fd) (cP : Cal P w K mg base CX0 1 "is_prime" spIsP) (cB : Exk P w K mg base 1 "BadCharacteristic" CB (spXI CB "p" (.int 4))) :
    FnOk P w K mg base (L2.CX P w) 3 f fd ["p"] (spChk CB) := by
  refine F.ok sc_chk (fun vs H Q E h => ?_) (fun cdv A outer s H vs Q E hr h => ⟨_, pss_cons (ps_if (PW.pt (pw_and (pt_cmp (pc_neI (pv 0) pe_int)) (pw_and1 (pt_not (pt_val (pe_c cP hr (by decide) rfl pass0 (pa_cons (pv 0) pa_nil)))))))
      (pss_one (ps_raise rfl (takes_of rfl rfl rfl rfl) (pmk_x cB hr (by decide) rfl (pa_cons (pv 0) pa_nil)))) pss_nil) (pss_one (ps_ret (pv 0))), ?_⟩)
  · obtain ⟨p, rfl, _⟩ := h
    rfl
  · obtain ⟨p, rfl, hp, h1, h2⟩ := h
    refine ⟨_, rfl, _, _, rfl, rfl, _, rfl, ifnb (fun h0 => ?_) fun h0 => ?_⟩
    · refine ⟨_, rfl, p, rfl, hp, fun r hr2 => ⟨r, rfl, ?_⟩⟩
      cases r with
      | true => exact iteF ⟨_, rfl, h1 (.inr (hr2.mp rfl))⟩
      | false =>
        obtain ⟨rfl, hE⟩ := h2 (fun z => z.elim h0 fun z => by have := hr2.mpr z; cases this)
        exact iteT ⟨_, rfl, by decide, fun a ha => raise_xi hE a ha⟩
    · exact iteF ⟨_, rfl, h1 (.inl h0)⟩
end
end K75
set_option Elab.async false
set_option linter.all false
set_option maxRecDepth 100000
set_option maxHeartbeats 4000000
namespace K75
open PySem PySem.Spec PyProof.Rows L2
/-! primes, plainly -/
def NPi (n : Nat) : Prop := 2 ≤ n ∧ ∀ d : Nat, 2 ≤ d → d * d ≤ n → n % d ≠ 0
theorem isPi_nat {n : Nat} : IsPi (n : Int) ↔ NPi n := by
  constructor
  · intro ⟨h1, h2⟩
    refine ⟨by omega, fun d hd hle hz => ?_⟩
    refine h2 d (by omega) (by exact_mod_cast hle) ?_
    rw [← Int.natCast_emod, hz]
    rfl
  · intro ⟨h1, h2⟩
    refine ⟨by omega, fun d hd hle hz => ?_⟩
    obtain ⟨e, rfl⟩ : ∃ e : Nat, d = e := ⟨d.toNat, by omega⟩
    refine h2 e (by omega) (by exact_mod_cast hle) ?_
    rw [← Int.natCast_emod] at hz
    exact_mod_cast hz
theorem isPi_pos {p : Int} (h : IsPi p) : ∃ n : Nat, p = n ∧ NPi n := by
  have := h.1
  refine ⟨p.toNat, by omega, isPi_nat.mp ?_⟩
  rwa [show ((p.toNat : Nat) : Int) = p by omega]
theorem npi_dvd {q g : Nat} (h : NPi q) (hg : g ∣ q) (h2 : 2 ≤ g) : g = q := by
  obtain ⟨c, rfl⟩ := hg
  have q2 := h.1
  by_cases hc : c = 1
  · rw [hc, Nat.mul_one]
  · have hc0 : c ≠ 0 := fun z => by rw [z] at q2; omega
    exfalso
    by_cases hgc : g ≤ c
    · exact h.2 g h2 (Nat.mul_le_mul_left g hgc) (Nat.mul_mod_right g c)
    · refine h.2 c (by omega) (Nat.mul_le_mul_right c (by omega)) (Nat.mul_mod_left g c)
theorem npi_euclid {q a b : Nat} (h : NPi q) (hd : q ∣ a * b) : q ∣ a ∨ q ∣ b := by
  by_cases hg : Nat.gcd q a = 1
  · exact .inr (Nat.Coprime.dvd_of_dvd_mul_left hg hd)
  · refine .inl ?_
    have hq := h.1
    have h1 : Nat.gcd q a ∣ q := Nat.gcd_dvd_left q a
    have h0 : Nat.gcd q a ≠ 0 := fun z => by
      rw [z] at h1
      have := Nat.eq_zero_of_zero_dvd h1
      omega
    have := npi_dvd h h1 (by omega)
    rw [← this]
    exact Nat.gcd_dvd_right q a
/-- the state of prime_divisors: n given, xs found, L left -/
structure PDI (n : Nat) (xs : List Nat) (L d : Nat) : Prop where
  d2 : 2 ≤ d
  L1 : 1 ≤ L
  pr : ∀ x ∈ xs, NPi x
  dv : ∀ e, NPi e → (e ∣ n ↔ e ∈ xs ∨ e ∣ L)
  no : ∀ e, 2 ≤ e → e < d → L % e ≠ 0
  ln : 2 ^ xs.length * L ≤ n
theorem pdi_0 {n : Nat} (h : 1 ≤ n) : PDI n [] n 2 := ⟨Nat.le_refl _, h, fun _ z => (by cases z), fun e _ => (by simp), fun e h1 h2 => (by omega), (by simp)⟩
theorem pdi_skip {n L d : Nat} {xs : List Nat} (h : PDI n xs L d) (hz : L % d ≠ 0) : PDI n xs L (d + 1) :=
  ⟨by have := h.d2; omega, h.L1, h.pr, h.dv, fun e h1 h2 => by
    by_cases he : e = d
    · rw [he]; exact hz
    · exact h.no e h1 (by omega), h.ln⟩
theorem pdi_prime {n L d : Nat} {xs : List Nat} (h : PDI n xs L d) (hz : L % d = 0) : NPi d := by
  refine ⟨h.d2, fun e h1 h2 h3 => ?_⟩
  have hd := h.d2
  have : e < d := by
    by_cases he : e < d
    · exact he
    · exfalso
      have : d * d ≤ e * e := Nat.mul_le_mul (by omega) (by omega)
      have : d * 2 ≤ d * d := Nat.mul_le_mul_left d hd
      omega
  exact h.no e h1 this (Nat.mod_eq_zero_of_dvd (Nat.dvd_trans (Nat.dvd_of_mod_eq_zero h3) (Nat.dvd_of_mod_eq_zero hz)))
/-- within the inner loop: found xs ++ [d]; L was left at its entry, M now -/
structure PDJ (n : Nat) (xs : List Nat) (L d M : Nat) : Prop where
  M1 : 1 ≤ M
  Md : M ∣ L
  dv : ∀ e, NPi e → (e ∣ n ↔ e ∈ xs ++ [d] ∨ e ∣ M)
  ln : M = L ∨ 2 ^ (xs.length + 1) * M ≤ n
theorem pdj_0 {n L d : Nat} {xs : List Nat} (h : PDI n xs L d) (hz : L % d = 0) : PDJ n xs L d L := by
  refine ⟨h.L1, Nat.dvd_refl _, fun e he => ?_, .inl rfl⟩
  rw [h.dv e he]
  simp only [List.mem_append, List.mem_singleton]
  constructor
  · rintro (z | z)
    · exact .inl (.inl z)
    · exact .inr z
  · rintro ((z | z) | z)
    · exact .inl z
    · rw [z]; exact .inr (Nat.dvd_of_mod_eq_zero hz)
    · exact .inr z
theorem pdj_step {n L d M : Nat} {xs : List Nat} (h : PDI n xs L d) (hz : L % d = 0) (j : PDJ n xs L d M) (hM : M % d = 0) : PDJ n xs L d (M / d) ∧ M / d < M := by
  have hd := h.d2
  have hm := j.M1
  obtain ⟨c, rfl⟩ := Nat.dvd_of_mod_eq_zero hM
  have hc : c ≠ 0 := fun z => by rw [z] at hm; omega
  rw [Nat.mul_div_cancel_left c (by omega)]
  have hp := pdi_prime h hz
  have h2c : 2 * c ≤ d * c := Nat.mul_le_mul_right c hd
  refine ⟨⟨by omega, Nat.dvd_trans (Nat.dvd_mul_left c d) j.Md, fun e he => ?_, .inr ?_⟩, by omega⟩
  · rw [j.dv e he]
    constructor
    · rintro (z | z)
      · exact .inl z
      · rcases npi_euclid he z with z | z
        · refine .inl (List.mem_append_right _ (List.mem_singleton.mpr ?_))
          exact npi_dvd hp z he.1
        · exact .inr z
    · rintro (z | z)
      · exact .inl z
      · exact .inr (Nat.dvd_trans z (Nat.dvd_mul_left c d))
  · rcases j.ln with z | z
    · have q := h.ln
      rw [← z] at q
      have : 2 ^ (xs.length + 1) * c = 2 ^ xs.length * (2 * c) := by rw [Nat.pow_succ, Nat.mul_assoc]
      rw [this]
      exact Nat.le_trans (Nat.mul_le_mul_left _ h2c) q
    · exact Nat.le_trans (Nat.mul_le_mul_left _ (by omega)) z
theorem pdj_end {n L d M : Nat} {xs : List Nat} (h : PDI n xs L d) (hz : L % d = 0) (j : PDJ n xs L d M) (hM : M % d ≠ 0) : PDI n (xs ++ [d]) M (d + 1) := by
  refine ⟨by have := h.d2; omega, j.M1, fun x hx => ?_, j.dv, fun e h1 h2 h3 => ?_, ?_⟩
  · rcases List.mem_append.mp hx with z | z
    · exact h.pr x z
    · rw [List.mem_singleton.mp z]; exact pdi_prime h hz
  · by_cases he : e = d
    · rw [he] at h3; exact hM h3
    · exact h.no e h1 (by omega) (Nat.mod_eq_zero_of_dvd (Nat.dvd_trans (Nat.dvd_of_mod_eq_zero h3) j.Md))
  · rw [List.length_append, List.length_singleton]
    rcases j.ln with z | z
    · rw [z] at hM; exact absurd hz hM
    · exact z
/-- what the found list is in the end -/
structure PDE (n : Nat) (ys : List Nat) : Prop where
  pr : ∀ x ∈ ys, NPi x
  dv : ∀ e, NPi e → (e ∣ n ↔ e ∈ ys)
  ln : 2 ^ ys.length ≤ n
theorem pde_more {n L d : Nat} {xs : List Nat} (h : PDI n xs L d) (hd : ¬ d * d ≤ L) (h1 : 1 < L) : PDE n (xs ++ [L]) := by
  have hp : NPi L := ⟨h1, fun e h2 h3 => h.no e h2 (by
    by_cases he : e < d
    · exact he
    · have : d * d ≤ e * e := Nat.mul_le_mul (by omega) (by omega)
      omega)⟩
  refine ⟨fun x hx => ?_, fun e he => ?_, ?_⟩
  · rcases List.mem_append.mp hx with z | z
    · exact h.pr x z
    · rw [List.mem_singleton.mp z]; exact hp
  · rw [h.dv e he, List.mem_append, List.mem_singleton]
    constructor
    · rintro (z | z)
      · exact .inl z
      · exact .inr (npi_dvd hp z he.1)
    · rintro (z | z)
      · exact .inl z
      · exact .inr (z ▸ Nat.dvd_refl _)
  · rw [List.length_append, List.length_singleton, Nat.pow_succ]
    exact Nat.le_trans (Nat.mul_le_mul_left _ h1) h.ln
theorem pde_done {n L d : Nat} {xs : List Nat} (h : PDI n xs L d) (h1 : ¬ 1 < L) : PDE n xs := by
  have e : L = 1 := by have := h.L1; omega
  subst e
  refine ⟨h.pr, fun e he => ?_, ?_⟩
  · rw [h.dv e he]
    constructor
    · rintro (z | z)
      · exact z
      · have := Nat.le_of_dvd (by omega) z
        have := he.1
        omega
    · exact .inl
  · have := h.ln
    omega
theorem ext_at {H H' : Hp} {l : Addr} {o : HO} (hl : H l = none) (h : Ext H H') : Ext H (upd H' l o) := fun b u e => by
  have : b ≠ l := fun z => by rw [z, hl] at e; cases e
  rw [upd_ne this]
  exact h b u e
abbrev sPD : Stmt := top 10
theorem sc_pd : FnScope ["n", "found", "left", "divisor"] ["n"] (defScope sPD) := ⟨rfl, rfl, rfl, by decide +kernel, rfl, by decide +kernel, by decide +kernel⟩
abbrev nV (ns : List Nat) : List V := List.map (fun (n : Nat) => V.int (Int.ofNat n)) ns
def spPD : Sp := fun vs H Q _ => ∃ n : Int, vs = [.int n] ∧ n ≠ 0 ∧ n.natAbs < 2 ^ 50 ∧ ∀ l H' ys, Ext H H' → H' l = some (.lst (nV ys)) → PDE n.natAbs ys → Q (.ref l) H'
theorem pow_small {k n : Nat} (h : 2 ^ k ≤ n) (hn : n < 2 ^ 50) : k < 50 := by
  by_cases hk : k < 50
  · exact hk
  · have : 2 ^ 50 ≤ 2 ^ k := Nat.pow_le_pow_right (by omega) (by omega)
    omega
section
variable {P : Program} {w : World} {K : PySem.W.Frag} {mg : Str → Option Value} {base : Heap} {f : Addr} {fd : FuncData}
theorem ok_pd (F : FnP K "prime_divisors" "prime_divisors" sPD f fd) (gA : mg "abs" = none) : FnOk P w K mg base CX0 1 f fd ["n"] spPD := by
  refine F.ok sc_pd (fun vs H Q E h => ?_) (fun cdv A outer s H vs Q E hr h => ⟨_, PSs.nox (pss_cons (ps_if (pt_cmpR op_eq (pv 0) pe_int (nomark _)) pss_never pss_nil)
    (pss_cons (ps_set (i := 1) sc_pd.nd rfl (Or.inl rfl) (pe_lst pa_nil))
    (pss_cons (ps_set (i := 2) sc_pd.nd rfl (Or.inl rfl) (pe_callB call_abs rfl gA boot_abs (pa_cons (pv 0) pa_nil)))
    (pss_cons (ps_set (i := 3) sc_pd.nd rfl (Or.inl rfl) pe_int)
    (pss_cons (ps_while (fun _ _ h => h.elim) (pt_cmpR op_le (pe_op op_mul (pv 3) (pv 3)) (pv 2) (nomark _))
      (pss_cons (ps_if (pt_cmpR op_eq (pe_op op_mod (pv 2) (pv 3)) pe_int (nomark _))
        (pss_cons (ps_expr (pe_bm PySem.F.plainAttrs_list PySem.F.slot_list_append PySem.F.type_list_append mt_append (pv 1) (pa_cons (pv 3) pa_nil)))
         (pss_one (ps_while (fun _ _ h => h.elim) (pt_cmpR op_eq (pe_op op_mod (pv 2) (pv 3)) pe_int (nomark _))
           (pss_one (ps_set (i := 2) sc_pd.nd rfl (Or.inl rfl) (pe_op op_fdiv (pv 2) (pv 3))))))) pss_nil)
       (pss_one (ps_aug (i := 3) sc_pd.nd rfl (Or.inl rfl) pe_int ip_add))))
    (pss_cons (ps_if (pt_cmpR op_gt (pv 2) pe_int (nomark _)) (pss_one (ps_expr (pe_bm PySem.F.plainAttrs_list PySem.F.slot_list_append PySem.F.type_list_append mt_append (pv 1) (pa_cons (pv 2) pa_nil)))) pss_nil)
    (pss_one (ps_ret (pv 1))))))))), ?_⟩)
  · obtain ⟨n, rfl, _⟩ := h
    rfl
  · obtain ⟨n, rfl, hn, hb, hQ⟩ := h
    refine ⟨_, rfl, rfl, _, rfl, ifb (fun h0 => absurd (V.int.inj h0) hn) fun _ => ?_⟩
    refine ⟨Nat.zero_le _, fun l hl => ⟨_, rfl, _, rfl, ?_⟩⟩
    refine ⟨fun m σ H' => ∃ (xs : List Nat) (L d : Nat), σ = [some (.int n), some (.ref l), some (.int (L : Nat)), some (.int (d : Nat))] ∧ Ext H H' ∧ H' l = some (.lst (nV xs)) ∧ PDI n.natAbs xs L d ∧ d < 2 ^ 31 ∧ m = L + 2 - d,
      ⟨_, [], n.natAbs, 2, ?_, Ext.upd hl, (by rw [upd_same]; rfl), pdi_0 (by omega), by decide, rfl⟩, ?_⟩
    · rw [show (if n < 0 then -n else n) = (n.natAbs : Int) by omega]
      rfl
    · rintro y σ H' ⟨xs, L, d, rfl, hE, hL, hp, hd31, hm⟩
      have hd := hp.d2
      have hL1 := hp.L1
      have hlen : xs.length < sizeLine := by
        have h1 : 2 ^ xs.length ≤ n.natAbs := Nat.le_trans (Nat.le_mul_of_pos_right _ hL1) hp.ln
        have := pow_small h1 hb
        rw [sizeLine_eq]
        omega
      have hL50 : L < 2 ^ 50 := Nat.lt_of_le_of_lt (Nat.le_trans (Nat.le_mul_of_pos_left L (Nat.pow_pos (by omega))) hp.ln) hb
      have hfin : ¬ d * d ≤ L → ∀ ys, PDE n.natAbs ys → ∀ H2, Ext H H2 → H2 l = some (.lst (nV ys)) → Q (.ref l) H2 := fun _ ys e H2 e1 e2 => hQ l H2 ys e1 e2 e
      have hcd : (d : Int) * (d : Int) ≤ (L : Int) ↔ d * d ≤ L := by
        rw [← Int.natCast_mul]
        exact Int.ofNat_le
      refine ⟨_, rfl, _, rfl, _, _, rfl, rfl, .inl ⟨by omega, by omega⟩, _, rfl, _, _, rfl, rfl, _, rfl, ifb (fun h3 => ?_) fun h3 => ?_⟩
      · have hdd := hcd.mp h3
        have hdl : d * 2 ≤ d * d := Nat.mul_le_mul_left d hd
        have hd30 : d < 2 ^ 30 := by
          by_cases z : d < 2 ^ 30
          · exact z
          · have : 2 ^ 30 * 2 ^ 30 ≤ d * d := Nat.mul_le_mul (by omega) (by omega)
            omega
        refine ⟨_, fun σ' H' h => h, ⟨_, rfl, _, rfl, _, _, rfl, rfl, (by show (0 : Int) < d; omega), rfl, _, rfl, ifb (fun h4 => ?_) fun h4 => ?_⟩⟩
        · have hz : L % d = 0 := by
            have h4 : ((L % d : Nat) : Int) = 0 := V.int.inj h4
            omega
          refine ⟨_, rfl, .inl ⟨rfl, _, SqL.of hL⟩, _, rfl, l, _, _, rfl, rfl, hL, (by rw [List.length_map]; exact hlen), ?_⟩
          refine ⟨fun m σ H' => ∃ M : Nat, σ = [some (.int n), some (.ref l), some (.int (M : Nat)), some (.int (d : Nat))] ∧ Ext H H' ∧ H' l = some (.lst (nV (xs ++ [d]))) ∧ PDJ n.natAbs xs L d M ∧ m = M,
            ⟨_, L, rfl, ?_, ?_, pdj_0 hp hz, rfl⟩, ?_⟩
          · exact ext_at hl hE
          · rw [upd_same]; simp [nV]
          · rintro y2 σ H3 ⟨M, rfl, hE3, hL3, hj, hm3⟩
            refine ⟨_, rfl, _, rfl, _, _, rfl, rfl, (by show (0 : Int) < d; omega), rfl, _, rfl, ifb (fun h5 => ?_) fun h5 => ?_⟩
            · have hz5 : M % d = 0 := by
                have h5 : ((M % d : Nat) : Int) = 0 := V.int.inj h5
                omega
              have hs := pdj_step hp hz hj hz5
              exact ⟨_, fun σ' H' h => h, ⟨_, rfl, _, rfl, _, _, rfl, rfl, ⟨by omega, by omega⟩, M / d, by omega, M / d, rfl, hE3, hL3, hs.1, rfl⟩⟩
            · have hz5 : M % d ≠ 0 := fun z => h5 (by show V.int ((M % d : Nat) : Int) = V.int 0; rw [z]; rfl)
              have hML : M ≤ L := Nat.le_of_dvd hL1 hj.Md
              refine ⟨_, rfl, _, _, rfl, rfl, M + 2 - (d + 1), by omega, xs ++ [d], M, d + 1, rfl, hE3, hL3, pdj_end hp hz hj hz5, by omega, rfl⟩
        · have hz : L % d ≠ 0 := fun z => h4 (by show V.int ((L % d : Nat) : Int) = V.int 0; rw [z]; rfl)
          exact ⟨_, rfl, _, _, rfl, rfl, L + 2 - (d + 1), by omega, xs, L, d + 1, rfl, hE, hL, pdi_skip hp hz, by omega, rfl⟩
      · have hnd : ¬ d * d ≤ L := fun z => h3 (hcd.mpr z)
        refine ⟨_, rfl, _, _, rfl, rfl, _, rfl, ifb (fun h6 => ?_) fun h6 => ?_⟩
        · refine ⟨_, rfl, .inl ⟨rfl, _, SqL.of hL⟩, _, rfl, l, _, _, rfl, rfl, hL, (by rw [List.length_map]; exact hlen), _, rfl, ?_⟩
          refine hfin hnd (xs ++ [L]) (pde_more hp hnd (by omega)) _ ?_ (by rw [upd_same]; simp [nV])
          exact ext_at hl hE
        · exact ⟨_, rfl, hfin hnd xs (pde_done hp (by omega)) _ hE hL⟩
end
end K75
set_option Elab.async false
set_option linter.all false
set_option maxRecDepth 100000
set_option maxHeartbeats 4000000
namespace K75
open PySem PySem.Spec PyProof.Rows L2
/-! Chars -/
abbrev sChI : Stmt := inClass (top 17) 0
abbrev sChEv : Stmt := inClass (top 17) 1
abbrev sChNo : Stmt := inClass (top 17) 2
abbrev sChZ : Stmt := inClass (top 17) 5
abbrev sChC : Stmt := inClass (top 17) 8
abbrev sChV : Stmt := inClass (top 17) 9
abbrev sChA : Stmt := inClass (top 17) 10
abbrev sChE : Stmt := inClass (top 17) 13
abbrev sSh : Stmt := top 18
theorem sc_chI : FnScope ["self", "endless", "primes", "p"] ["self", "endless", "primes"] (defScope sChI) := ⟨rfl, rfl, rfl, by decide +kernel, rfl, by decide +kernel, by decide +kernel⟩
theorem sc_chEv : FnScope ["cls"] ["cls"] (defScope sChEv) := ⟨rfl, rfl, rfl, by decide +kernel, rfl, by decide +kernel, by decide +kernel⟩
theorem sc_chNo : FnScope ["cls"] ["cls"] (defScope sChNo) := ⟨rfl, rfl, rfl, by decide +kernel, rfl, by decide +kernel, by decide +kernel⟩
theorem sc_chZ : FnScope ["cls", "n"] ["cls", "n"] (defScope sChZ) := ⟨rfl, rfl, rfl, by decide +kernel, rfl, by decide +kernel, by decide +kernel⟩
theorem sc_chC : FnScope ["self", "p"] ["self", "p"] (defScope sChC) := ⟨rfl, rfl, rfl, by decide +kernel, rfl, by decide +kernel, by decide +kernel⟩
theorem sc_chV : FnScope ["self"] ["self"] (defScope sChV) := ⟨rfl, rfl, rfl, by decide +kernel, rfl, by decide +kernel, by decide +kernel⟩
theorem sc_chA : FnScope ["self", "other"] ["self", "other"] (defScope sChA) := ⟨rfl, rfl, rfl, by decide +kernel, rfl, by decide +kernel, by decide +kernel⟩
theorem sc_chE : FnScope ["self", "other"] ["self", "other"] (defScope sChE) := ⟨rfl, rfl, rfl, by decide +kernel, rfl, by decide +kernel, by decide +kernel⟩
theorem sc_sh : FnScope ["first", "second", "p"] ["first", "second"] (defScope sSh) := ⟨rfl, rfl, rfl, by decide +kernel, rfl, by decide +kernel, by decide +kernel⟩
/-- what isinstance asks of an own class -/
structure IsI (K : PySem.W.Frag) (C : Addr) : Prop where
  ha : PySem.W.findIn K (.ref C) "__class__" = some (some (.builtin "object.__class__"))
  hn : PySem.W.specialIn K (.builtin "object.__class__") "__get__" = some (some (.builtin "getset_descriptor.__get__"))
  htk : PySem.W.takesIn K (.builtin "object.__class__") = some true
  hm : PySem.W.mroIn K C (.type "object") = some true
theorem IsI.ty {K : PySem.W.Frag} {C a dx : Addr} {H : Hp} {fs : List (Str × V)} (h : IsI K C) (c : Cls K C) (e : H a = some (.ins C dx fs)) : TyX K H (.ref a) (.ref C) := .base (.ins e c h.ha h.hn h.htk h.hm)
def chF (e : Bool) (t : Addr) : List (Str × V) := [("endless", .bl e), ("primes", .ref t)]
theorem chF_e (e : Bool) (t : Addr) : (chF e t).lookup ("endless" : Str) = some (.bl e) := rfl
theorem chF_p (e : Bool) (t : Addr) : (chF e t).lookup ("primes" : Str) = some (.ref t) := rfl
/-- the Chars at a -/
def ChO (K : PySem.W.Frag) (CC : Addr) (H : Hp) (a : Addr) (e : Bool) (ps : List Int) : Prop := ∃ dx t, H a = some (.ins CC dx (chF e t)) ∧ SqT K H t (iV ps)
theorem ChO.ext {K : PySem.W.Frag} {CC : Addr} {H H' : Hp} {a : Addr} {e : Bool} {ps : List Int} (h : ChO K CC H a e ps) (x : Ext H H') : ChO K CC H' a e ps := by
  obtain ⟨dx, t, h1, h2⟩ := h
  exact ⟨dx, t, x _ _ h1, h2.ext x⟩
structure PsOk (ps : List Int) : Prop where
  pr : ∀ x ∈ ps, IsPi x ∧ x < 2 ^ 60
  so : ps.Pairwise (· < ·)
  ln : ps.length < 60
theorem psOk_nil : PsOk [] := ⟨fun _ h => (by cases h), List.Pairwise.nil, (by decide)⟩
structure ChT (K : PySem.W.Frag) (mg : Str → Option Value) (CC : Addr) : Prop where
  cl : Cls K CC
  nE : NoAttr K CC "endless"
  nP : NoAttr K CC "primes"
  is : IsI K CC
  kt : PySem.W.kitOne K (.ref CC) (.ref CC) = some true
  mgC : mg "Chars" = some (.ref CC)
  set : mg "set" = none
  srt : mg "sorted" = none
  tup : mg "tuple" = none
  isi : mg "isinstance" = none
  keep : PySem.W.keepIn K (.ref CC) = true
/-- a list or a tuple of these ints -/
def Sq (K : PySem.W.Frag) (H : Hp) (a : Addr) (ns : List Int) : Prop := SqL K H a (iV ns) ∨ SqT K H a (iV ns)
theorem Sq.ext {K : PySem.W.Frag} {H H' : Hp} {a : Addr} {ns : List Int} (h : Sq K H a ns) (x : Ext H H') : Sq K H' a ns := h.imp (·.ext x) (·.ext x)
def spChI (K : PySem.W.Frag) (CC : Addr) : Sp := fun vs H Q _ => ∃ (a dx l : Addr) (e : Bool) (ns : List Int), vs = [.ref a, .bl e, .ref l] ∧ H a = some (.ins CC dx []) ∧ Sq K H l ns ∧ ns.length < 60 ∧ (∀ x ∈ ns, IsPi x ∧ x < 2 ^ 60) ∧
  ∀ H' ps, (∀ b o, b ≠ a → H b = some o → H' b = some o) → ChO K CC H' a e ps → PsOk ps → (∀ x, x ∈ ps ↔ x ∈ ns) → Q .non H'
theorem Sq.put {K : PySem.W.Frag} {H : Hp} {l a C dx : Addr} {ns : List Int} {fs fs' : List (Str × V)} (h : Sq K H l ns) (ha : H a = some (.ins C dx fs)) : Sq K (upd H a (.ins C dx fs')) l ns := by
  have key : ∀ o, H l = some o → (∀ C' dx' fs2, o ≠ .ins C' dx' fs2) → upd H a (.ins C dx fs') l = some o := fun o e n => by
    have : l ≠ a := fun z => by
      rw [z, ha] at e
      exact n _ _ _ (Option.some.inj e).symm
    rw [upd_ne this]
    exact e
  rcases h with ((h | ⟨o, h⟩) | h) | ((h | ⟨o, h⟩) | h)
  · exact .inl (.inl (.inl (key _ h fun _ _ _ z => by cases z)))
  · exact .inl (.inl (.inr ⟨o, key _ h fun _ _ _ z => by cases z⟩))
  · exact .inl (.inr h)
  · exact .inr (.inl (.inl (key _ h fun _ _ _ z => by cases z)))
  · exact .inr (.inl (.inr ⟨o, key _ h fun _ _ _ z => by cases z⟩))
  · exact .inr (.inr h)
theorem inV_iV {x : Int} {ns : List Int} : inV (.int x) (iV ns) = decide (x ∈ ns) := by
  unfold inV
  rw [Bool.eq_iff_iff, List.any_eq_true, decide_eq_true_eq]
  constructor
  · rintro ⟨y, hy, e⟩
    obtain ⟨n, hn, rfl⟩ := List.mem_map.mp hy
    have : n = x := by simpa [eqV] using e
    rwa [← this]
  · intro h
    exact ⟨.int x, List.mem_map.mpr ⟨x, h, rfl⟩, by simp [eqV]⟩
theorem flat_iV {ns : List Int} : (iV ns).all flatV = true := by
  rw [List.all_eq_true]
  intro y hy
  obtain ⟨n, _, rfl⟩ := List.mem_map.mp hy
  rfl
theorem PI.or {X : Cx} {tg it : Expr} {w1 w2 : TI} (h1 : PI X tg it w1) (h2 : PI X tg it w2) : PI X tg it (fun σ H R => w1 σ H R ∨ w2 σ H R) := ⟨fun pins s σ H R I h => h.elim (h1.run pins s σ H R I) (h2.run pins s σ H R I)⟩
theorem for_sq {K : PySem.W.Frag} {a : Addr} {ns : List Int} {g : TG} {tb : TS} {D : Ends} {σ : L2.St} {H : Hp} {j : Nat} (Pv : Nat → L2.St → Hp → Prop) (hσ : σ[j]? = some (some (.ref a))) (hq : Sq K H a ns) (h0 : Pv 0 σ H) (hl : ∀ i σ H', Pv i σ H' → Ext H H')
    (hs : ∀ i n σ H, ns[i]? = some n → Pv i σ H → g (.int n) σ H fun σ2 H2 => tb { D with nx := Pv (i + 1), ct := Pv (i + 1), bk := D.nx } σ2 H2) (hd : ∀ σ H, Pv ns.length σ H → D.nx σ H) :
    iList K (tVar j) σ H (fun J H1 => ∃ W : Nat → Nat → L2.St → Hp → Prop, (∃ m, W 0 m σ H1) ∧ ∀ i m σ H, W i m σ H →
      (J.stop i H ∧ D.nx σ H) ∨ (J.go i H ∧ ∃ N : L2.St → Hp → Prop, (∀ σ' H', N σ' H' → ∃ m', m' < m ∧ W (i + 1) m' σ' H') ∧ ∀ x H', J.yld i H x H' → g x σ H' fun σ2 H2 => tb { D with nx := N, ct := N, bk := D.nx } σ2 H2)) ∨
    iTup K (tVar j) σ H (fun J H1 => ∃ W : Nat → Nat → L2.St → Hp → Prop, (∃ m, W 0 m σ H1) ∧ ∀ i m σ H, W i m σ H →
      (J.stop i H ∧ D.nx σ H) ∨ (J.go i H ∧ ∃ N : L2.St → Hp → Prop, (∀ σ' H', N σ' H' → ∃ m', m' < m ∧ W (i + 1) m' σ' H') ∧ ∀ x H', J.yld i H x H' → g x σ H' fun σ2 H2 => tb { D with nx := N, ct := N, bk := D.nx } σ2 H2)) := by
  have hs' : ∀ i x σ H, (iV ns)[i]? = some x → Pv i σ H → g x σ H fun σ2 H2 => tb { D with nx := Pv (i + 1), ct := Pv (i + 1), bk := D.nx } σ2 H2 := fun i x σ H hx hp => by
    rw [List.getElem?_map] at hx
    cases hn : ns[i]? with
    | none => rw [hn] at hx; cases hx
    | some n =>
      rw [hn] at hx
      cases hx
      exact hs i n σ H hn hp
  have hd' : ∀ σ H, Pv (iV ns).length σ H → D.nx σ H := fun σ H h => hd σ H (by rwa [List.length_map] at h)
  rcases hq with q | q
  · exact .inl ⟨_, hσ, a, rfl, ⟨_, q⟩, for_list Pv h0 (fun i σ' H' hi hp => q.ext (hl i σ' H' hp)) hs' hd'⟩
  · exact .inr ⟨_, hσ, a, rfl, ⟨_, q⟩, for_tup Pv h0 (fun i σ' H' hi hp => q.ext (hl i σ' H' hp)) hs' hd'⟩
section
variable {P : Program} {w : World} {K : PySem.W.Frag} {mg : Str → Option Value} {base : Heap} {f CC : Addr} {fd : FuncData}
theorem ok_chI (F : FnP K "__init__" "Chars.__init__" sChI f fd) (T : ChT K mg CC) (cP : Cal P w K mg base CX0 1 "is_prime" spIsP) : FnOk P w K mg base CX0 2 f fd ["self", "endless", "primes"] (spChI K CC) := by
  refine F.ok sc_chI (fun vs H Q E h => ?_) (fun cdv A outer s H vs Q E hr h => ⟨_, PSs.nox (pss_cons (ps_for (fun _ _ h => h.elim) rfl (PI.or (pi_list (pv 2)) (pi_tup (pv 2))) (pg_name (i := 3) sc_chI.nd rfl (Or.inl rfl))
      (pss_one (ps_if (pt_not (pt_val (pe_c cP hr (by decide) rfl pass0 (pa_cons (pv 3) pa_nil)))) pss_never pss_nil)))
    (pss_cons (ps_fld (pv 0) (pv 1) rfl)
    (pss_one (ps_fld (pv 0) (pe_tupleOf (by rfl) T.tup (pe_callB (cr_sortedSet rfl) (by rfl) T.srt (by decide +kernel) (pa_cons (pe_callTy (cr_setI rfl) (by rfl) T.set (by decide +kernel) (pa_cons (pv 2) pa_nil)) pa_nil))) rfl)))), ?_⟩)
  · obtain ⟨a, dx, l, e, ns, rfl, _⟩ := h
    rfl
  · obtain ⟨a, dx, l, e, ns, rfl, ha, hl, hlen, hpr, hQ⟩ := h
    refine for_sq (K := K) (ns := ns) (fun i σ H' => H' = H ∧ ∃ v, σ = [some (.ref a), some (.bl e), some (.ref l), v]) rfl hl ⟨rfl, none, rfl⟩ (fun i σ H' hp => by rw [hp.1]; exact fun _ _ z => z) ?_ ?_
    · rintro i n σ H' hi ⟨rfl, v, rfl⟩
      have hm : n ∈ ns := List.mem_of_getElem? hi
      refine ⟨_, rfl, n, rfl, by have := (hpr n hm).2; exact this, fun r hr => ⟨r, rfl, ?_⟩⟩
      cases r with
      | true => exact iteF ⟨rfl, _, rfl⟩
      | false => have := hr.mpr (hpr n hm).1; cases this
    · rintro σ H' ⟨rfl, v, rfl⟩
      refine ⟨_, rfl, _, rfl, a, CC, dx, _, rfl, ha, T.cl, T.nE, by decide, ?_⟩
      have hl1 := hl.put ha (fs' := putF "endless" (.bl e) [])
      refine ⟨_, rfl, l, ns, rfl, hl1, hlen, fun p c hc hp => ⟨p, _, c, rfl, upd_same, by omega, fun ms q hso hmem hlen2 hq => ?_⟩⟩
      refine .inl ⟨_, _, rfl, SqL.of upd_same, fun t ht => ⟨_, rfl, a, CC, dx, putF "endless" (.bl e) [], rfl, ?_, T.cl, T.nP, (by show 1 < 1000; decide), ?_⟩⟩
      · have h1 : H' a ≠ none := by rw [ha]; exact fun z => by cases z
        have hpa : a ≠ p := fun z => by rw [← z, upd_same] at hp; cases hp
        have hqa : a ≠ q := fun z => by rw [← z, upd_ne hpa, upd_same] at hq; cases hq
        have hta : a ≠ t := fun z => by rw [← z, upd_ne hqa, upd_ne hpa, upd_same] at ht; cases ht
        rw [upd_ne hta, upd_ne hqa, upd_ne hpa, upd_same]
      · have hpa : a ≠ p := fun z => by rw [← z, upd_same] at hp; cases hp
        have hqa : a ≠ q := fun z => by rw [← z, upd_ne hpa, upd_same] at hq; cases hq
        have hta : a ≠ t := fun z => by rw [← z, upd_ne hqa, upd_ne hpa, upd_same] at ht; cases ht
        refine hQ _ ms (fun b o hb eb => ?_) ⟨dx, t, upd_same, ?_⟩ ⟨fun x hx => hpr x (of_decide_eq_true ((hmem x).mp hx)), hso, by omega⟩ fun x => ?_
        · rw [upd_ne hb]
          have nb : ∀ {c : Addr} {H0 : Hp}, H0 c = none → H0 b = some o → b ≠ c := fun {c H0} z1 z2 z => by rw [z, z1] at z2; cases z2
          have e1 : upd H' a (.ins CC dx (putF "endless" (.bl e) [])) b = some o := by rw [upd_ne hb]; exact eb
          have e2 := (upd_ne (o := SetO w p (fun j => decide (j ∈ ns)) c) (nb hp e1)).trans e1
          have e3 := (upd_ne (o := .lst (ms.map V.int)) (nb hq e2)).trans e2
          exact (upd_ne (nb ht e3)).trans e3
        · refine sqT_of ?_
          rw [upd_ne hta.symm, upd_same]
        · rw [hmem x, decide_eq_true_eq]
/-- the making of a Chars behind H -/
def mkCh (K : PySem.W.Frag) (CC : Addr) (H : Hp) (e : Bool) (ns : List Int) (Q : VK) : Prop := ∀ a H' ps, Ext H H' → ChO K CC H' a e ps → PsOk ps → (∀ x, x ∈ ps ↔ x ∈ ns) → Q (.ref a) H'
/-- what cls(e, l) asks is met -/
theorem mk_ch {H : Hp} {l : Addr} {e : Bool} {ns : List Int} {Q : VK} (hl : Sq K H l ns) (hlen : ns.length < 60) (hpr : ∀ x ∈ ns, IsPi x ∧ x < 2 ^ 60) (hQ : mkCh K CC H e ns Q) (x dx : Addr) (hx : H x = none) (hdx : H dx = none) (hne : dx ≠ x) :
    spChI K CC [.ref x, .bl e, .ref l] (upd (upd H dx (.own x)) x (.ins CC dx [])) (fun v H2 => v = .non ∧ Q (.ref x) H2) E0 := by
  have s0 : Ext H (upd (upd H dx (.own x)) x (.ins CC dx [])) := ext_at hx (Ext.upd hdx)
  refine ⟨x, dx, l, e, ns, rfl, upd_same, hl.ext s0, hlen, hpr, fun H' ps k hc hp hm => ⟨rfl, hQ x H' ps (fun b o eb => ?_) hc hp hm⟩⟩
  exact k b o (fun z => by rw [z, hx] at eb; cases eb) (s0 b o eb)
def spNew (K : PySem.W.Frag) (CC : Addr) (e : Bool) : Sp := fun vs H Q _ => vs = [.ref CC] ∧ mkCh K CC H e [] Q
theorem ok_chEv (F : FnP K "every" "Chars.every" sChEv f fd) (M : Mak P w K mg base CX0 2 CC (spChI K CC)) : FnOk P w K mg base CX0 4 f fd ["cls"] (spNew K CC true) := by
  refine F.ok sc_chEv (fun vs H Q E h => ?_) (fun cdv A outer s H vs Q E hr h => ⟨_, PSs.nox (pss_one (ps_ret (pe_mkV (i := 0) M hr (by decide) pass0 rfl (Or.inl rfl) (pa_cons pe_bl (pa_cons (pe_lst pa_nil) pa_nil))))), ?_⟩)
  · obtain ⟨rfl, _⟩ := h
    rfl
  · obtain ⟨rfl, hQ⟩ := h
    refine ⟨rfl, Nat.zero_le _, fun l hl => fun x dx hx hdx hne => mk_ch (.inl (SqL.of upd_same)) (by decide) (fun _ z => by cases z) (fun a H' ps e => hQ a H' ps (ext_trans (Ext.upd hl) e)) x dx hx hdx hne⟩
theorem ok_chNo (F : FnP K "none" "Chars.none" sChNo f fd) (M : Mak P w K mg base CX0 2 CC (spChI K CC)) : FnOk P w K mg base CX0 4 f fd ["cls"] (spNew K CC false) := by
  refine F.ok sc_chNo (fun vs H Q E h => ?_) (fun cdv A outer s H vs Q E hr h => ⟨_, PSs.nox (pss_one (ps_ret (pe_mkV (i := 0) M hr (by decide) pass0 rfl (Or.inl rfl) (pa_cons pe_bl (pa_cons (pe_lst pa_nil) pa_nil))))), ?_⟩)
  · obtain ⟨rfl, _⟩ := h
    rfl
  · obtain ⟨rfl, hQ⟩ := h
    refine ⟨rfl, Nat.zero_le _, fun l hl => fun x dx hx hdx hne => mk_ch (.inl (SqL.of upd_same)) (by decide) (fun _ z => by cases z) (fun a H' ps e => hQ a H' ps (ext_trans (Ext.upd hl) e)) x dx hx hdx hne⟩
/-- zero_of: the characteristics in which n is zero -/
def spChZ (K : PySem.W.Frag) (CC : Addr) : Sp := fun vs H Q _ => ∃ n : Int, vs = [.ref CC, .int n] ∧ n.natAbs < 2 ^ 50 ∧ ∀ a H' ps, Ext H H' → ChO K CC H' a (decide (n = 0)) ps → PsOk ps → (n = 0 → ps = []) → (n ≠ 0 → ∀ x, x ∈ ps ↔ IsPi x ∧ n % x = 0) → Q (.ref a) H'
theorem pde_mem {n : Int} {ys : List Nat} (hn : n ≠ 0) (h : PDE n.natAbs ys) (x : Int) : x ∈ ys.map Int.ofNat ↔ IsPi x ∧ n % x = 0 := by
  constructor
  · intro hx
    obtain ⟨y, hy, rfl⟩ := List.mem_map.mp hx
    have hp := h.pr y hy
    refine ⟨isPi_nat.mpr hp, Int.emod_eq_zero_of_dvd ?_⟩
    exact Int.ofNat_dvd_left.mpr ((h.dv y hp).mpr hy)
  · rintro ⟨hp, hz⟩
    obtain ⟨y, rfl, hy⟩ := isPi_pos hp
    exact List.mem_map.mpr ⟨y, (h.dv y hy).mp (Int.ofNat_dvd_left.mp (Int.dvd_of_emod_eq_zero hz)), rfl⟩
theorem pde_lt {n : Nat} {ys : List Nat} (hn : n ≠ 0) (h : PDE n ys) {y : Nat} (hy : y ∈ ys) : y ≤ n := Nat.le_of_dvd (by omega) ((h.dv y (h.pr y hy)).mpr hy)
theorem ok_chZ (F : FnP K "zero_of" "Chars.zero_of" sChZ f fd) (M : Mak P w K mg base CX0 2 CC (spChI K CC)) (cD : Cal P w K mg base CX0 1 "prime_divisors" spPD) : FnOk P w K mg base CX0 4 f fd ["cls", "n"] (spChZ K CC) := by
  refine F.ok sc_chZ (fun vs H Q E h => ?_) (fun cdv A outer s H vs Q E hr h => ⟨_, PSs.nox (pss_cons (ps_if (pt_cmpR op_eq (pv 1) pe_int (nomark _)) (pss_one (ps_ret (pe_mkV (i := 0) M hr (by decide) pass0 rfl (Or.inl rfl) (pa_cons pe_bl (pa_cons (pe_lst pa_nil) pa_nil))))) pss_nil)
    (pss_one (ps_ret (pe_mkV (i := 0) M hr (by decide) pass0 rfl (Or.inl rfl) (pa_cons pe_bl (pa_cons (pe_c cD hr (by decide) rfl pass0 (pa_cons (pv 1) pa_nil)) pa_nil)))))), ?_⟩)
  · obtain ⟨n, rfl, _⟩ := h
    rfl
  · obtain ⟨n, rfl, hb, hQ⟩ := h
    refine ⟨_, rfl, rfl, _, rfl, ifb (fun h0 => ?_) fun h0 => ?_⟩
    · obtain rfl : n = 0 := V.int.inj h0
      refine ⟨rfl, Nat.zero_le _, fun l hl => fun x dx hx hdx hne => mk_ch (ns := []) (.inl (SqL.of upd_same)) (by decide) (fun _ z => by cases z) (fun a H' ps e hc hp hm => hQ a H' ps (ext_trans (Ext.upd hl) e) hc hp (fun _ => ?_) fun z => absurd rfl z) x dx hx hdx hne⟩
      exact List.eq_nil_iff_forall_not_mem.mpr fun x hx => by have := (hm x).mp hx; cases this
    · have hn : n ≠ 0 := fun z => h0 (congrArg V.int z)
      refine ⟨rfl, _, rfl, n, rfl, hn, hb, fun l H1 ys hE hl hd => fun x dx hx hdx hne => ?_⟩
      have hlen := pow_small hd.ln hb
      refine mk_ch (ns := ys.map Int.ofNat) (.inl (SqL.of ?_)) (by rw [List.length_map]; omega) (fun x hx => ?_) (fun a H' ps e hc hp hm => hQ a H' ps (ext_trans hE e) ?_ hp (fun z => absurd z hn) fun _ x => ?_) x dx hx hdx hne
      · rw [hl]
        simp [nV, iV]
      · refine ⟨((pde_mem hn hd x).mp hx).1, ?_⟩
        obtain ⟨y, hy, rfl⟩ := List.mem_map.mp hx
        have := pde_lt (by omega) hd hy
        show ((y : Nat) : Int) < 2 ^ 60
        omega
      · rw [decide_eq_false hn]
        exact hc
      · rw [hm x, pde_mem hn hd x]
end
end K75
set_option Elab.async false
set_option linter.all false
set_option maxRecDepth 100000
set_option maxHeartbeats 4000000
namespace K75
open PySem PySem.Spec PyProof.Rows L2
def shL (e1 : Bool) (ps1 : List Int) (e2 : Bool) (ps2 : List Int) : List Int := if e1 = true then (if e2 = true then [] else ps2) else if e2 = true then ps1 else ps1.filter fun x => decide (x ∈ ps2)
def spSh (K : PySem.W.Frag) (CC : Addr) : Sp := fun vs H Q _ => ∃ (a b : Addr) (e1 e2 : Bool) (ps1 ps2 : List Int), vs = [.ref a, .ref b] ∧ ChO K CC H a e1 ps1 ∧ ChO K CC H b e2 ps2 ∧ (e1 = true → ps1 = []) ∧ (e2 = true → ps2 = []) ∧ ps1.length < 60 ∧ ps2.length < 60 ∧
  ∀ l H', Ext H H' → Sq K H' l (shL e1 ps1 e2 ps2) → Q (.ref l) H'
theorem lcV_int {p : Int → Bool} {ns : List Int} : lcV p V.int ns = iV (ns.filter p) := rfl
theorem filter_all {p : Int → Bool} {ns : List Int} (h : ∀ x, p x = true) : ns.filter p = ns := List.filter_eq_self.mpr fun x _ => h x
section
variable {P : Program} {w : World} {K : PySem.W.Frag} {mg : Str → Option Value} {base : Heap} {f CC : Addr} {fd : FuncData}
/-- the test p in (not in) x.primes of such a comprehension -/
theorem prTest {H1 : Hp} {D b dx t : Addr} {e : Bool} {ps : List Int} {σ : L2.St} {j i : Nat} {n : Int} {acc : List V} {neg : Bool} {K' : Bool → Hp → Prop} (T : ChT K mg CC) (hj : σ[j]? = some (some (.ref b))) (hi : σ[i]? = some (some (.int n))) (hb : H1 b = some (.ins CC dx (chF e t))) (ht : SqT K H1 t (iV ps))
    (hD : H1 D = none) (hK : K' (if neg then !decide (n ∈ ps) else decide (n ∈ ps)) (upd H1 D (.lst acc))) : tTest (tOp (rIn K neg) (tVar i) (tFld K (tVar j) "primes")) σ (upd H1 D (.lst acc)) K' := by
  have hbD : b ≠ D := fun z => by rw [z, hD] at hb; cases hb
  refine ⟨_, hi, _, hj, b, CC, dx, _, _, rfl, by rw [upd_ne hbD]; exact hb, T.cl, T.nP, chF_p e t, t, iV ps, rfl, .inr (sqtU ht hD), rfl, flat_iV, _, rfl, ?_⟩
  rw [inV_iV]
  exact hK
theorem ok_sh (F : FnP K "shared" "shared" sSh f fd) (T : ChT K mg CC) : FnOk P w K mg base CX0 1 f fd ["first", "second"] (spSh K CC) := by
  refine F.ok sc_sh (fun vs H Q E h => ?_) (fun cdv A outer s H vs Q E hr h => ⟨_, PSs.nox (pss_cons (ps_if (PW.pt (pw_and (pt_val (pe_fld (pv 0) rfl)) (pw_and1 (pt_val (pe_fld (pv 1) rfl))))) (pss_one (ps_ret (pe_op op_catA (pe_fld (pv 0) rfl) (pe_fld (pv 1) rfl)))) pss_nil)
    (pss_cons (ps_if (pt_val (pe_fld (pv 0) rfl)) (pss_one (ps_ret (pe_lc (own := [("p", 2)]) (g := gName 2) (tt := tTest (tOp (rIn K true) (tVar 2) (tFld K (tVar 0) "primes"))) rfl sc_sh.nd (pi_tup (pe_fld (pv 1) rfl)) (blkOk_by (own := [("p", 2)]) (N := ["first", "second", "p"]) (sc := defScope sSh) (by decide +kernel)) (fun _ _ _ _ _ => pg_name (i := 2) sc_sh.nd rfl (Or.inl rfl))
        (fun _ _ _ _ _ => pts_one (pt_cmpR op_notIn_seq (pv 2) (pe_fld (pv 0) rfl) rfl)) (fun _ _ _ _ _ => pv 2)))) pss_nil)
    (pss_cons (ps_if (pt_val (pe_fld (pv 1) rfl)) (pss_one (ps_ret (pe_lc (own := [("p", 2)]) (g := gName 2) (tt := tTest (tOp (rIn K true) (tVar 2) (tFld K (tVar 1) "primes"))) rfl sc_sh.nd (pi_tup (pe_fld (pv 0) rfl)) (blkOk_by (own := [("p", 2)]) (N := ["first", "second", "p"]) (sc := defScope sSh) (by decide +kernel)) (fun _ _ _ _ _ => pg_name (i := 2) sc_sh.nd rfl (Or.inl rfl))
        (fun _ _ _ _ _ => pts_one (pt_cmpR op_notIn_seq (pv 2) (pe_fld (pv 1) rfl) rfl)) (fun _ _ _ _ _ => pv 2)))) pss_nil)
    (pss_one (ps_ret (pe_lc (own := [("p", 2)]) (g := gName 2) (tt := tTest (tOp (rIn K false) (tVar 2) (tFld K (tVar 1) "primes"))) rfl sc_sh.nd (pi_tup (pe_fld (pv 0) rfl)) (blkOk_by (own := [("p", 2)]) (N := ["first", "second", "p"]) (sc := defScope sSh) (by decide +kernel)) (fun _ _ _ _ _ => pg_name (i := 2) sc_sh.nd rfl (Or.inl rfl))
        (fun _ _ _ _ _ => pts_one (pt_cmpR op_in_seq (pv 2) (pe_fld (pv 1) rfl) rfl)) (fun _ _ _ _ _ => pv 2))))))), ?_⟩)
  · obtain ⟨a, b, e1, e2, ps1, ps2, rfl, _⟩ := h
    rfl
  · obtain ⟨a, b, e1, e2, ps1, ps2, rfl, ⟨dx, t, ha, ht⟩, ⟨dy, u, hb, hu⟩, z1, z2, l1, l2, hQ⟩ := h
    have fin : ∀ (D : Addr) (ns : List Int) (p : Int → Bool), H D = none → ns.filter p = shL e1 ps1 e2 ps2 → Q (.ref D) (upd H D (.lst (lcV p V.int ns))) := fun D ns p hD e => by
      refine hQ D _ (Ext.upd hD) (.inl (SqL.of ?_))
      rw [upd_same, lcV_int, e]
    refine ⟨_, rfl, a, CC, dx, _, _, rfl, ha, T.cl, T.nE, chF_e _ _, e1, rfl, ?_⟩
    cases e1 with
    | true =>
      obtain rfl := z1 rfl
      refine iteT ⟨_, rfl, b, CC, dy, _, _, rfl, hb, T.cl, T.nE, chF_e _ _, e2, rfl, ?_⟩
      cases e2 with
      | true =>
        obtain rfl := z2 rfl
        refine iteT ⟨_, rfl, a, CC, dx, _, _, rfl, ha, T.cl, T.nP, chF_p _ _, _, rfl, b, CC, dy, _, _, rfl, hb, T.cl, T.nP, chF_p _ _, t, u, _, _, rfl, rfl, ht, hu, Nat.zero_le _, fun _ => hQ u H (fun _ _ z => z) (.inr hu), fun z => absurd rfl z, fun z => absurd rfl z⟩
      | false =>
        refine iteF ⟨_, rfl, a, CC, dx, _, _, rfl, ha, T.cl, T.nE, chF_e _ _, true, rfl, iteT ?_⟩
        refine ⟨_, rfl, b, CC, dy, _, _, rfl, hb, T.cl, T.nP, chF_p _ _, u, rfl, ⟨_, hu⟩, fun D hD => ?_⟩
        refine lcI_tup (ns := ps2) (fun n => !decide (n ∈ ([] : List Int))) V.int (by decide) hu hD (Nat.lt_trans l2 (by decide)) (fun n hn acc K' hK => prTest (neg := true) T rfl rfl ha ht hD hK) (fun n hn _ acc K' hK => ⟨_, rfl, hK⟩) (fin D ps2 _ hD (filter_all fun x => ?_))
        simp
    | false =>
      refine iteF ⟨_, rfl, a, CC, dx, _, _, rfl, ha, T.cl, T.nE, chF_e _ _, false, rfl, iteF ⟨_, rfl, b, CC, dy, _, _, rfl, hb, T.cl, T.nE, chF_e _ _, e2, rfl, ?_⟩⟩
      cases e2 with
      | true =>
        obtain rfl := z2 rfl
        refine iteT ⟨_, rfl, a, CC, dx, _, _, rfl, ha, T.cl, T.nP, chF_p _ _, t, rfl, ⟨_, ht⟩, fun D hD => ?_⟩
        refine lcI_tup (ns := ps1) (fun n => !decide (n ∈ ([] : List Int))) V.int (by decide) ht hD (Nat.lt_trans l1 (by decide)) (fun n hn acc K' hK => prTest (neg := true) T rfl rfl hb hu hD hK) (fun n hn _ acc K' hK => ⟨_, rfl, hK⟩) (fin D ps1 _ hD (filter_all fun x => ?_))
        simp
      | false =>
        refine iteF ⟨_, rfl, a, CC, dx, _, _, rfl, ha, T.cl, T.nP, chF_p _ _, t, rfl, ⟨_, ht⟩, fun D hD => ?_⟩
        refine lcI_tup (ns := ps1) (fun n => decide (n ∈ ps2)) V.int (by decide) ht hD (Nat.lt_trans l1 (by decide)) (fun n hn acc K' hK => prTest (neg := false) T rfl rfl hb hu hD hK) (fun n hn _ acc K' hK => ⟨_, rfl, hK⟩) (fin D ps1 _ hD rfl)
end
end K75
set_option Elab.async false
set_option linter.all false
set_option maxRecDepth 100000
set_option maxHeartbeats 4000000
namespace K75
open PySem PySem.Spec PyProof.Rows L2
/-! data of ints for == -/
def iD (ns : List Int) : List PyData := ns.map PyData.int
theorem dpAll_iV {K : PySem.W.Frag} {H : Hp} : ∀ ns : List Int, DpAll K H (iV ns) (iD ns)
  | [] => .nil
  | n :: ns => .cons (.int n) (dpAll_iV ns)
theorem dp_tup {K : PySem.W.Frag} {H : Hp} {a : Addr} {ns : List Int} (h : SqT K H a (iV ns)) : Dp K H (.ref a) (.tuple (iD ns)) := .tup h (dpAll_iV ns)
theorem eqvAll_iD : ∀ ns ms : List Int, PyData.eqvAll (iD ns) (iD ms) = decide (ns = ms)
  | [], [] => rfl
  | [], m :: ms => rfl
  | n :: ns, [] => rfl
  | n :: ns, m :: ms => by
    show (PyData.eqv (.int n) (.int m) && PyData.eqvAll (iD ns) (iD ms)) = _
    rw [eqvAll_iD ns ms, Bool.eq_iff_iff]
    simp [PyData.eqv]
theorem eqv_iD (ns ms : List Int) : PyData.eqv (.tuple (iD ns)) (.tuple (iD ms)) = decide (ns = ms) := by
  show PyData.eqvAll (iD ns) (iD ms) = _
  exact eqvAll_iD ns ms
theorem shAll_iD : ∀ ns : List Int, PyData.canLayAll0 (iD ns) = true
  | [] => rfl
  | n :: ns => by
    show (PyData.canLay0 (.int n) && PyData.canLayAll0 (iD ns)) = true
    rw [shAll_iD ns]
    rfl
theorem dep_iD : ∀ ns : List Int, PyData.depthAll (iD ns) = 0
  | [] => rfl
  | n :: ns => by
    show max (PyData.depth (.int n)) (PyData.depthAll (iD ns)) = 0
    rw [dep_iD ns]
    rfl
theorem sh_iD (ns : List Int) : SeqAt.shaped (.tuple (iD ns)) = true := by
  show (PyData.canLayAll0 (iD ns) && decide (PyData.depthAll (iD ns) + 1 ≤ 64)) = true
  rw [shAll_iD, dep_iD]
  rfl
/-- membership -/
def inC (e : Bool) (ps : List Int) (p : Int) : Bool := if p = 0 then e else (decide (p ∈ ps) != e)
def spChC (K : PySem.W.Frag) (CC : Addr) : Sp := fun vs H Q _ => ∃ (a : Addr) (e : Bool) (ps : List Int) (p : Int), vs = [.ref a, .int p] ∧ ChO K CC H a e ps ∧ Q (.bl (inC e ps p)) H
def spChV (K : PySem.W.Frag) (CC : Addr) : Sp := fun vs H Q _ => ∃ (a : Addr) (e : Bool) (ps : List Int), vs = [.ref a] ∧ ChO K CC H a e ps ∧ PsOk ps ∧ mkCh K CC H (!e) ps Q
def spChA (K : PySem.W.Frag) (CC : Addr) : Sp := fun vs H Q _ => ∃ (a b : Addr) (e1 e2 : Bool) (ps1 ps2 : List Int), vs = [.ref a, .ref b] ∧ ChO K CC H a e1 ps1 ∧ ChO K CC H b e2 ps2 ∧ (e1 = true → ps1 = []) ∧ (e2 = true → ps2 = []) ∧ PsOk ps1 ∧ PsOk ps2 ∧ mkCh K CC H (e1 && e2) (shL e1 ps1 e2 ps2) Q
def spChE (K : PySem.W.Frag) (CC : Addr) : Sp := fun vs H Q _ => ∃ (a b : Addr) (e1 e2 : Bool) (ps1 ps2 : List Int), vs = [.ref a, .ref b] ∧ ChO K CC H a e1 ps1 ∧ ChO K CC H b e2 ps2 ∧ Q (.bl (decide (e1 = e2 ∧ ps1 = ps2))) H
theorem shL_ok {e1 e2 : Bool} {ps1 ps2 : List Int} (h1 : PsOk ps1) (h2 : PsOk ps2) : (shL e1 ps1 e2 ps2).length < 60 ∧ ∀ x ∈ shL e1 ps1 e2 ps2, IsPi x ∧ x < 2 ^ 60 := by
  unfold shL
  cases e1 <;> cases e2 <;> simp only [if_true, if_false, Bool.false_eq_true]
  · exact ⟨Nat.lt_of_le_of_lt (List.length_filter_le _ _) h1.ln, fun x hx => h1.pr x (List.mem_filter.mp hx).1⟩
  · exact ⟨h1.ln, h1.pr⟩
  · exact ⟨h2.ln, h2.pr⟩
  · exact ⟨by decide, fun x hx => by cases hx⟩
section
variable {P : Program} {w : World} {K : PySem.W.Frag} {mg : Str → Option Value} {base : Heap} {f CC : Addr} {fd : FuncData}
theorem ok_chC (F : FnP K "__contains__" "Chars.__contains__" sChC f fd) (T : ChT K mg CC) : FnOk P w K mg base CX0 1 f fd ["self", "p"] (spChC K CC) := by
  refine F.ok sc_chC (fun vs H Q E h => ?_) (fun cdv A outer s H vs Q E hr h => ⟨_, PSs.nox (pss_cons (ps_if (pt_cmpR op_eq (pv 1) pe_int (nomark _)) (pss_one (ps_ret (pe_fld (pv 0) rfl))) pss_nil)
    (pss_one (ps_ret (pe_cmpR op_ne (pe_cmpR op_in_seq (pv 1) (pe_fld (pv 0) rfl) rfl) (pe_fld (pv 0) rfl) rfl)))), ?_⟩)
  · obtain ⟨a, e, ps, p, rfl, _⟩ := h
    rfl
  · obtain ⟨a, e, ps, p, rfl, ⟨dx, t, ha, ht⟩, hQ⟩ := h
    refine ⟨_, rfl, rfl, _, rfl, ifb (fun h0 => ?_) fun h0 => ?_⟩
    · have h0 : p = 0 := V.int.inj h0
      refine ⟨_, rfl, a, CC, dx, _, _, rfl, ha, T.cl, T.nE, chF_e _ _, ?_⟩
      rw [show inC e ps p = e from if_pos h0] at hQ
      exact hQ
    · have h0 : p ≠ 0 := fun z => h0 (congrArg V.int z)
      refine ⟨_, rfl, _, rfl, a, CC, dx, _, _, rfl, ha, T.cl, T.nP, chF_p _ _, t, iV ps, rfl, .inr ht, rfl, flat_iV, _, rfl, a, CC, dx, _, _, rfl, ha, T.cl, T.nE, chF_e _ _, rfl, ?_⟩
      rw [show inC e ps p = (decide (p ∈ ps) != e) from if_neg h0] at hQ
      have hb : (!decide (V.bl (if false = true then !inV (.int p) (iV ps) else inV (.int p) (iV ps)) = V.bl e)) = (decide (p ∈ ps) != e) := by
        rw [if_neg Bool.false_ne_true, inV_iV]
        cases decide (p ∈ ps) <;> cases e <;> rfl
      rw [← hb] at hQ
      exact hQ
theorem ok_chV (F : FnP K "__invert__" "Chars.__invert__" sChV f fd) (T : ChT K mg CC) (M : Mak P w K mg base CX0 2 CC (spChI K CC)) : FnOk P w K mg base CX0 4 f fd ["self"] (spChV K CC) := by
  refine F.ok sc_chV (fun vs H Q E h => ?_) (fun cdv A outer s H vs Q E hr h => ⟨_, PSs.nox (pss_one (ps_ret (pe_mk M hr (by decide) rfl T.mgC pass0 (pa_cons (pe_not (pe_fld (pv 0) rfl)) (pa_cons (pe_fld (pv 0) rfl) pa_nil))))), ?_⟩)
  · obtain ⟨a, e, ps, rfl, _⟩ := h
    rfl
  · obtain ⟨a, e, ps, rfl, ⟨dx, t, ha, ht⟩, hp, hQ⟩ := h
    exact ⟨_, rfl, a, CC, dx, _, _, rfl, ha, T.cl, T.nE, chF_e _ _, e, rfl, _, rfl, a, CC, dx, _, _, rfl, ha, T.cl, T.nP, chF_p _ _, fun x dx hx hdx hne => mk_ch (.inr ht) hp.ln hp.pr hQ x dx hx hdx hne⟩
theorem ok_chA (F : FnP K "__and__" "Chars.__and__" sChA f fd) (T : ChT K mg CC) (M : Mak P w K mg base CX0 2 CC (spChI K CC)) (cS : Cal P w K mg base CX0 1 "shared" (spSh K CC)) : FnOk P w K mg base CX0 4 f fd ["self", "other"] (spChA K CC) := by
  refine F.ok sc_chA (fun vs H Q E h => ?_) (fun cdv A outer s H vs Q E hr h => ⟨_, PSs.nox (pss_one (ps_ret (pe_mk M hr (by decide) rfl T.mgC pass0 (pa_cons (pe_and (pe_fld (pv 0) rfl) (pe_one (pe_fld (pv 1) rfl))) (pa_cons (pe_c cS hr (by decide) rfl pass0 (pa_cons (pv 0) (pa_cons (pv 1) pa_nil))) pa_nil))))), ?_⟩)
  · obtain ⟨a, b, e1, e2, ps1, ps2, rfl, _⟩ := h
    rfl
  · obtain ⟨a, b, e1, e2, ps1, ps2, rfl, ha, hb, z1, z2, p1, p2, hQ⟩ := h
    have hs := shL_ok (e1 := e1) (e2 := e2) p1 p2
    have tail : ∀ l H1, Ext H H1 → Sq K H1 l (shL e1 ps1 e2 ps2) → ∀ x dx, H1 x = none → H1 dx = none → dx ≠ x → spChI K CC [.ref x, .bl (e1 && e2), .ref l] (upd (upd H1 dx (.own x)) x (.ins CC dx [])) (fun v H2 => v = .non ∧ Q (.ref x) H2) E0 := fun l H1 hE hl x dx hx hdx hne =>
      mk_ch hl hs.1 hs.2 (fun a H' ps e => hQ a H' ps (ext_trans hE e)) x dx hx hdx hne
    have ha' := ha
    have hb' := hb
    obtain ⟨dx, t, ha1, ht⟩ := ha
    obtain ⟨dy, u, hb1, hu⟩ := hb
    refine ⟨_, rfl, a, CC, dx, _, _, rfl, ha1, T.cl, T.nE, chF_e _ _, e1, rfl, ?_⟩
    cases e1 with
    | true => exact iteT ⟨_, rfl, b, CC, dy, _, _, rfl, hb1, T.cl, T.nE, chF_e _ _, _, rfl, _, rfl, a, b, _, _, _, _, rfl, ha', hb', z1, z2, p1.ln, p2.ln, tail⟩
    | false => exact iteF ⟨_, rfl, _, rfl, a, b, _, _, _, _, rfl, ha', hb', z1, z2, p1.ln, p2.ln, tail⟩
theorem ok_chE (F : FnP K "__eq__" "Chars.__eq__" sChE f fd) (T : ChT K mg CC) : FnOk P w K mg base CX0 1 f fd ["self", "other"] (spChE K CC) := by
  refine F.ok sc_chE (fun vs H Q E h => ?_) (fun cdv A outer s H vs Q E hr h => ⟨_, PSs.nox (pss_cons (ps_if (pt_not (pt_val (pe_callB call_isi (by rfl) T.isi boot_isinstance (pa_cons (pv 1) (pa_cons (pe_glob (v := V.ref CC) rfl T.mgC rfl) pa_nil))))) (pss_one (ps_ret pe_bl)) pss_nil)
    (pss_one (ps_ret (pe_and (pe_cmpR op_eq (pe_fld (pv 0) rfl) (pe_fld (pv 1) rfl) rfl) (pe_one (pe_cmpR (op_eqD hr.units) (pe_fld (pv 0) rfl) (pe_fld (pv 1) rfl) rfl)))))), ?_⟩)
  · obtain ⟨a, b, e1, e2, ps1, ps2, rfl, _⟩ := h
    rfl
  · obtain ⟨a, b, e1, e2, ps1, ps2, rfl, ⟨dx, t, ha, ht⟩, ⟨dy, u, hb, hu⟩, hQ⟩ := h
    refine ⟨_, rfl, _, _, _, _, true, rfl, .own CC, T.is.ty T.cl hb, T.kt, true, rfl, iteF ?_⟩
    refine ⟨_, rfl, a, CC, dx, _, _, rfl, ha, T.cl, T.nE, chF_e _ _, _, rfl, b, CC, dy, _, _, rfl, hb, T.cl, T.nE, chF_e _ _, rfl, _, rfl, ?_⟩
    by_cases he : e1 = e2
    · subst he
      rw [decide_eq_true (rfl : V.bl e1 = V.bl e1)]
      refine iteT ⟨_, rfl, a, CC, dx, _, _, rfl, ha, T.cl, T.nP, chF_p _ _, _, rfl, b, CC, dy, _, _, rfl, hb, T.cl, T.nP, chF_p _ _, _, _, dp_tup ht, dp_tup hu, sh_iD _, sh_iD _, ?_⟩
      rw [eqv_iD]
      have : decide (e1 = e1 ∧ ps1 = ps2) = decide (ps1 = ps2) := by simp
      rw [this] at hQ
      exact hQ
    · rw [decide_eq_false (fun z => he (V.bl.inj z))]
      refine iteF ?_
      have : decide (e1 = e2 ∧ ps1 = ps2) = false := decide_eq_false fun z => he z.1
      rw [this] at hQ
      exact hQ
end
end K75
set_option Elab.async false
set_option linter.all false
set_option maxRecDepth 100000
set_option maxHeartbeats 4000000
namespace K75
open PySem PySem.Spec PyProof.Rows L2
/-! sorted(t), t a tuple of texts -/
section
variable {P : Program} {w : World} {A : Around} {E : Value → Shared → Prop} {s : Shared} {a : Addr}
theorem sorted_tupS {items : Array Value} {n : Nat} {xs : List Str} {o : Obj} {Q : Value → Shared → Prop} (ho : s.heap.get? a = some o) (hc : o.cls = .type "tuple") (hd : o.data = .seq items n) (hs : StrsAre items.toList xs) (hlt : xs.length < 64)
    (hQ : ∀ (h1 h2 : Heap) p (out : Array Value) (c : Nat) (ys : List Str), (∀ b o, s.heap.get? b = some o → h1.get? b = some o) → (∀ b o, h1.get? b = some o → h2.get? b = some o) → h1.objs.size ≤ p →
      h2.get? p = some (seqObj "list" out c) → StrsAre out.toList ys → ys.Perm xs → sortedS ys = true → Q (.ref p) { s with heap := h2 }) :
    wpAny (model P w) A (call (.builtin "sorted") [.ref a]) Q E s := by
  have hlen : items.toList.length = xs.length := hs.length
  refine Calls.call_function_entry kind_sorted plain_sorted entry_sorted (args_sorted1 _) ?_
  unfold Builtin.«sorted»
  refine wpAny_bind (m := checkCount "sorted" 1 1 _) (wpAny_pure ?_)
  refine wpAny_bind (wpAny_collect_seq a (.inr rfl) ho hc hd (fun h' hk => ?_) (by rw [← Array.length_toList, hlen, sizeLine_eq]; omega))
  have hvl : items.toList.length = xs.length := hlen
  refine wpAny_bind (wpAny_newList ?_ (by rw [hvl, sizeLine_eq]; omega))
  have hoL : (h'.push (seqObj "list" items.toList.toArray 0)).get? h'.objs.size = some (seqObj "list" items.toList.toArray 0) := Heap.get?_push_size _ rfl
  refine wpAny_bind (wpAny_holding (wpAny_call_entry slot_list_sort ⟨_, hoL, rfl⟩ entry_list_sort (list_sort_treeK strKind_oneLt hoL hs.keysOf (fun v₁ v₂ rest e => keyKind_strs (by rw [← e]; exact hs)) (by omega) fun st' a1 a2 => ⟨_, rfl, ?_⟩) (args_list_sort _)))
  obtain ⟨ns', b1, b2, b3⟩ := sorted_out_str hs a1 a2
  obtain ⟨c, hc2⟩ := sortedHeap_at (vs := items.toList) (out := ((arrOf st').map (·.2))) hoL
  refine wpAny_pure ⟨_, rfl, hQ h' _ h'.objs.size _ c ns' hk (fun b u q => ?_) (Nat.le_refl _) hc2 b1 b2 b3⟩
  have hlt := Heap.lt_size q
  show (sortedHeap (h'.push (seqObj "list" items.toList.toArray 0)) h'.objs.size items.toList _).get? b = some u
  rw [sortedHeap_old (Nat.ne_of_lt hlt) (by rw [size_push']; exact Nat.lt_succ_of_lt hlt)]
  exact Heap.get?_push_of_some _ q
end
section
variable {X : Cx}
def rSortedTS (K : PySem.W.Frag) : List V → Hp → VK → Prop := fun vs H Q => ∃ (a : Addr) (xs : List Str), vs = [V.ref a] ∧ SqT K H a (xs.map V.str) ∧ xs.length < 64 ∧
  ∀ (ys : List Str) (p : Addr), ys.Perm xs → sortedS ys = true → H p = none → Q (.ref p) (upd H p (.lst (ys.map V.str)))
theorem cr_sortedTS : CallR X (.builtin "sorted") (rSortedTS X.K) := by
  intro pins s σ H vs us Q I r h
  obtain ⟨a, xs, rfl, hs, h64, q⟩ := h
  obtain ⟨its, rv, ⟨o, ho, hc, n, hd⟩, _⟩ := I.tuple hs
  rw [Vals.ref1 r]
  refine sorted_tupS ho hc hd (by simpa using rv.strs) h64 fun h1 h2 p out c ys k1 k2 hp hget hst hperm hso => ?_
  have I1 : Inv X pins σ H { s with heap := h1 } := I.kept (t' := s.toks) k1
  have hlen : (ys.map V.str).length ≤ sizeLine := by rw [List.length_map, hperm.length_eq, sizeLine_eq]; omega
  exact ⟨.ref p, _, I1.laid (t' := s.toks) k2 hp (show ObjOk X.prog X.w _ _ _ (.lst (ys.map V.str)) from ⟨hlen, out.toList, c, vals_of_strs hst, hget⟩), rfl, q ys p hperm hso (I1.hok.fresh hp)⟩
end
end K75
set_option Elab.async false
set_option linter.all false
set_option maxRecDepth 100000
set_option maxHeartbeats 4000000
namespace K75
open PySem PySem.Spec PyProof.Rows L2
/-! sums of terms, plainly -/
/-- the pairing of terms with a function of keys -/
def pr (L : Tm) (φ : List Key → Int) : Int := (L.map fun p => p.2 * φ p.1).sum
def NN (L : Tm) : Nat := (L.map fun p => p.2.natAbs).sum
theorem pr_nil {φ : List Key → Int} : pr [] φ = 0 := rfl
theorem pr_cons {p : List Key × Int} {L : Tm} {φ : List Key → Int} : pr (p :: L) φ = p.2 * φ p.1 + pr L φ := by simp [pr]
theorem pr_append {L M : Tm} {φ : List Key → Int} : pr (L ++ M) φ = pr L φ + pr M φ := by simp [pr]
theorem NN_nil : NN [] = 0 := rfl
theorem NN_cons {p : List Key × Int} {L : Tm} : NN (p :: L) = p.2.natAbs + NN L := by simp [NN]
theorem NN_append {L M : Tm} : NN (L ++ M) = NN L + NN M := by simp [NN]
theorem NN_mem {L : Tm} {p : List Key × Int} (h : p ∈ L) : p.2.natAbs ≤ NN L := by
  induction L with
  | nil => cases h
  | cons q L ih =>
    rw [NN_cons]
    rcases List.mem_cons.mp h with rfl | h
    · omega
    · have := ih h; omega
theorem NN_len {L : Tm} (h : ∀ p ∈ L, p.2 ≠ 0) : L.length ≤ NN L := by
  induction L with
  | nil => exact Nat.le_refl _
  | cons q L ih =>
    rw [NN_cons, List.length_cons]
    have := h q List.mem_cons_self
    have := ih fun p hp => h p (List.mem_cons_of_mem _ hp)
    omega
def addT (L : Tm) (k : List Key) (c : Int) : Tm := if (L.any fun p => decide (p.1 = k)) = true then L.map (fun p => if p.1 = k then (p.1, p.2 + c) else p) else L ++ [(k, c)]
theorem any_key {L : Tm} {k : List Key} : (L.any fun p => decide (p.1 = k)) = true ↔ k ∈ L.map (·.1) := by
  simp [List.any_eq_true]
theorem addT_in {L : Tm} {k : List Key} {c : Int} (h : k ∈ L.map (·.1)) : (addT L k c).map (·.1) = L.map (·.1) := by
  unfold addT
  rw [if_pos (any_key.mpr h), List.map_map]
  refine List.map_congr_left fun p _ => ?_
  show (if p.1 = k then (p.1, p.2 + c) else p).1 = p.1
  split <;> rfl
theorem addT_out {L : Tm} {k : List Key} {c : Int} (h : k ∉ L.map (·.1)) : (addT L k c).map (·.1) = L.map (·.1) ++ [k] := by
  unfold addT
  rw [if_neg (fun z => h (any_key.mp z)), List.map_append]
  rfl
theorem addT_nd {L : Tm} {k : List Key} {c : Int} (h : (L.map (·.1)).Nodup) : ((addT L k c).map (·.1)).Nodup := by
  by_cases hk : k ∈ L.map (·.1)
  · rw [addT_in hk]; exact h
  · rw [addT_out hk]
    exact List.nodup_append.mpr ⟨h, by simp, fun a ha b hb => by
      rw [List.mem_singleton] at hb
      subst hb
      exact fun e => hk (e ▸ ha)⟩
theorem map_add_out {L : Tm} {k : List Key} {c : Int} (h : k ∉ L.map (·.1)) : L.map (fun p => if p.1 = k then (p.1, p.2 + c) else p) = L := by
  rw [show L = L.map id by simp]
  conv => rhs; rw [List.map_id]
  rw [List.map_id]
  refine (List.map_congr_left fun p hp => ?_).trans (List.map_id L)
  have : ¬ p.1 = k := fun e => h (List.mem_map.mpr ⟨p, hp, e⟩)
  rw [if_neg this]
  rfl
theorem pr_add {L : Tm} {k : List Key} {c : Int} {φ : List Key → Int} (h : (L.map (·.1)).Nodup) : pr (addT L k c) φ = pr L φ + c * φ k := by
  unfold addT
  by_cases hk : k ∈ L.map (·.1)
  · rw [if_pos (any_key.mpr hk)]
    induction L with
    | nil => cases hk
    | cons q L ih =>
      rw [List.map_cons, List.nodup_cons] at h
      rw [List.map_cons, pr_cons, pr_cons]
      by_cases hq : q.1 = k
      · rw [if_pos hq, map_add_out (hq ▸ h.1), Int.add_mul]
        show q.2 * φ q.1 + c * φ q.1 + pr L φ = _
        rw [← hq]
        omega
      · rw [if_neg hq]
        rw [List.map_cons] at hk
        rw [ih h.2 ((List.mem_cons.mp hk).resolve_left fun e => hq e.symm)]
        omega
  · rw [if_neg (fun z => hk (any_key.mp z)), pr_append, pr_cons, pr_nil, Int.add_zero]
theorem NN_map_out {L : Tm} {k : List Key} {c : Int} (h : k ∉ L.map (·.1)) : NN (L.map (fun p => if p.1 = k then (p.1, p.2 + c) else p)) = NN L := by rw [map_add_out h]
theorem NN_add {L : Tm} {k : List Key} {c : Int} (h : (L.map (·.1)).Nodup) : NN (addT L k c) ≤ NN L + c.natAbs := by
  unfold addT
  by_cases hk : k ∈ L.map (·.1)
  · rw [if_pos (any_key.mpr hk)]
    induction L with
    | nil => cases hk
    | cons q L ih =>
      rw [List.map_cons, List.nodup_cons] at h
      rw [List.map_cons, NN_cons, NN_cons]
      by_cases hq : q.1 = k
      · rw [if_pos hq, NN_map_out (hq ▸ h.1)]
        show (q.2 + c).natAbs + _ ≤ _
        omega
      · rw [if_neg hq]
        rw [List.map_cons] at hk
        have := ih h.2 ((List.mem_cons.mp hk).resolve_left fun e => hq e.symm)
        omega
  · rw [if_neg (fun z => hk (any_key.mp z)), NN_append, NN_cons, NN_nil]
    show _ + (c.natAbs + 0) ≤ _
    omega
def gath (acc L : Tm) : Tm := L.foldl (fun a p => addT a p.1 p.2) acc
theorem gath_cons {acc L : Tm} {p : List Key × Int} : gath acc (p :: L) = gath (addT acc p.1 p.2) L := rfl
theorem gath_snoc {acc L : Tm} {p : List Key × Int} : gath acc (L ++ [p]) = addT (gath acc L) p.1 p.2 := by unfold gath; rw [List.foldl_append]; rfl
theorem gath_nd : ∀ {L acc : Tm}, (acc.map (·.1)).Nodup → ((gath acc L).map (·.1)).Nodup
  | [], _, h => h
  | p :: L, acc, h => by rw [gath_cons]; exact gath_nd (addT_nd h)
theorem gath_pr {φ : List Key → Int} : ∀ {L acc : Tm}, (acc.map (·.1)).Nodup → pr (gath acc L) φ = pr acc φ + pr L φ
  | [], acc, _ => by rw [pr_nil]; show pr acc φ = _; omega
  | p :: L, acc, h => by rw [gath_cons, gath_pr (addT_nd h), pr_add h, pr_cons]; omega
theorem gath_NN : ∀ {L acc : Tm}, (acc.map (·.1)).Nodup → NN (gath acc L) ≤ NN acc + NN L
  | [], acc, _ => by rw [NN_nil]; exact Nat.le_refl _
  | p :: L, acc, h => by
    rw [gath_cons, NN_cons]
    have h1 := gath_NN (L := L) (addT_nd (k := p.1) (c := p.2) h)
    have h2 := NN_add (k := p.1) (c := p.2) h
    omega
theorem gath_keys {k : List Key} : ∀ {L acc : Tm}, k ∈ (gath acc L).map (·.1) → k ∈ acc.map (·.1) ∨ k ∈ L.map (·.1)
  | [], _, h => .inl h
  | p :: L, acc, h => by
    rw [gath_cons] at h
    rcases gath_keys h with h | h
    · by_cases hk : p.1 ∈ acc.map (·.1)
      · rw [addT_in hk] at h; exact .inl h
      · rw [addT_out hk] at h
        rcases List.mem_append.mp h with h | h
        · exact .inl h
        · rw [List.mem_singleton.mp h]; exact .inr List.mem_cons_self
    · exact .inr (List.mem_cons_of_mem _ h)
theorem addT_len {L : Tm} {k : List Key} {c : Int} : (addT L k c).length ≤ L.length + 1 := by
  unfold addT
  split
  · rw [List.length_map]; omega
  · rw [List.length_append]; exact Nat.le_refl _
theorem gath_len : ∀ {L acc : Tm}, (gath acc L).length ≤ acc.length + L.length
  | [], _ => Nat.le_refl _
  | p :: L, acc => by
    rw [gath_cons, List.length_cons]
    have h1 := gath_len (L := L) (acc := addT acc p.1 p.2)
    have h2 := addT_len (L := acc) (k := p.1) (c := p.2)
    omega
def nzB (p : List Key × Int) : Bool := decide (p.2 ≠ 0)
def norm (L : Tm) : Tm := (gath [] L).filter nzB
theorem pr_filter {L : Tm} {φ : List Key → Int} : pr (L.filter nzB) φ = pr L φ := by
  induction L with
  | nil => rfl
  | cons p L ih =>
    by_cases h : p.2 = 0
    · rw [List.filter_cons_of_neg (by simp [nzB, h]), ih, pr_cons, h, Int.zero_mul, Int.zero_add]
    · rw [List.filter_cons_of_pos (by simp [nzB, h]), pr_cons, pr_cons, ih]
theorem NN_filter {L : Tm} : NN (L.filter nzB) ≤ NN L := by
  induction L with
  | nil => exact Nat.le_refl _
  | cons p L ih =>
    by_cases h : p.2 = 0
    · rw [List.filter_cons_of_neg (by simp [nzB, h]), NN_cons]; omega
    · rw [List.filter_cons_of_pos (by simp [nzB, h]), NN_cons, NN_cons]; omega
theorem norm_pr {L : Tm} {φ : List Key → Int} : pr (norm L) φ = pr L φ := by
  unfold norm
  rw [pr_filter, gath_pr (by simp), pr_nil, Int.zero_add]
theorem norm_NN {L : Tm} : NN (norm L) ≤ NN L := by
  have h1 := NN_filter (L := gath [] L)
  have h2 := gath_NN (L := L) (acc := []) (by simp)
  rw [NN_nil] at h2
  unfold norm
  omega
theorem norm_ok {L : Tm} : Nrm (norm L) := by
  refine ⟨?_, fun p hp => by simpa [nzB] using (List.mem_filter.mp hp).2⟩
  exact List.Sublist.nodup (List.Sublist.map _ List.filter_sublist) (gath_nd (by simp))
theorem norm_keys {L : Tm} {p : List Key × Int} (h : p ∈ norm L) : p.1 ∈ L.map (·.1) := by
  rcases gath_keys (List.mem_map.mpr ⟨p, (List.mem_filter.mp h).1, rfl⟩) with h | h
  · cases h
  · exact h
theorem cf_pr {L : Tm} (h : (L.map (·.1)).Nodup) (k : List Key) : cf L k = pr L fun q => if q = k then 1 else 0 := by
  induction L with
  | nil => rfl
  | cons p L ih =>
    rw [List.map_cons, List.nodup_cons] at h
    rw [cf_cons, pr_cons, ← ih h.2]
    by_cases hp : p.1 = k
    · rw [if_pos hp, if_pos hp, cf_out (hp ▸ h.1), Int.mul_one, Int.add_zero]
    · rw [if_neg hp, if_neg hp, Int.mul_zero, Int.zero_add]
/-! against the dict -/
theorem val_enc {L : Tm} {k : List Key} : (valV (enc L) k).getD (.int 0) = .int (cf L k) := by
  induction L with
  | nil => rfl
  | cons p L ih =>
    rw [cf_cons]
    show (valV ((p.1, V.int p.2) :: enc L) k).getD _ = _
    by_cases hp : p.1 = k
    · rw [valV_pos hp, if_pos hp]; rfl
    · rw [valV_neg hp, if_neg hp]; exact ih
theorem put_enc {L : Tm} {k : List Key} {c : Int} (h : (L.map (·.1)).Nodup) : putK (enc L) k (.int (cf L k + c)) = enc (addT L k c) := by
  unfold putK addT
  have e : ((enc L).any fun kv => decide (kv.1 = k)) = (L.any fun p => decide (p.1 = k)) := by
    unfold enc
    rw [List.any_map]
    rfl
  rw [e]
  by_cases hk : (L.any fun p => decide (p.1 = k)) = true
  · rw [if_pos hk, if_pos hk]
    unfold enc
    rw [List.map_map, List.map_map]
    refine List.map_congr_left fun p hp => ?_
    show (if p.1 = k then (p.1, V.int (cf L k + c)) else (p.1, V.int p.2)) = _
    by_cases hq : p.1 = k
    · show _ = ((if p.1 = k then (p.1, p.2 + c) else p).1, V.int (if p.1 = k then (p.1, p.2 + c) else p).2)
      rw [if_pos hq, if_pos hq, ← hq, cf_mem h hp]
    · show _ = ((if p.1 = k then (p.1, p.2 + c) else p).1, V.int (if p.1 = k then (p.1, p.2 + c) else p).2)
      rw [if_neg hq, if_neg hq]
  · rw [if_neg hk, if_neg hk, cf_out (fun z => hk (any_key.mpr z)), Int.zero_add]
    unfold enc
    rw [List.map_append]
    rfl
theorem enc_len {L : Tm} : (enc L).length = L.length := List.length_map ..
theorem enc_put_new {L : Tm} {p : List Key × Int} (h : p.1 ∉ L.map (·.1)) : putK (enc L) p.1 (.int p.2) = enc (L ++ [p]) := by
  have e : valV (enc L) p.1 = none := by
    cases hv : valV (enc L) p.1 with
    | none => rfl
    | some v =>
      have := valV_in hv
      unfold enc at this
      rw [List.map_map] at this
      exact absurd this h
  rw [putK_new _ e]
  unfold enc
  rw [List.map_append]
  rfl
end K75
set_option Elab.async false
set_option linter.all false
set_option maxRecDepth 100000
set_option maxHeartbeats 4000000
namespace K75
open PySem PySem.Spec PyProof.Rows L2
theorem paired_get {α β : Type} {F : α → β → Prop} : ∀ {l : List α} {m : List β}, Paired F l m → ∀ {i : Nat} {a : α} {b : β}, l[i]? = some a → m[i]? = some b → F a b
  | _, _, .nil, i, a, b, h, _ => by simp at h
  | _, _, .cons r t, 0, a, b, h1, h2 => by
    simp at h1 h2
    subst h1 h2
    exact r
  | _, _, .cons r t, i + 1, a, b, h1, h2 => paired_get t (by simpa using h1) (by simpa using h2)
theorem paired_mono {α β : Type} {F G : α → β → Prop} (hm : ∀ a b, F a b → G a b) : ∀ {l : List α} {m : List β}, Paired F l m → Paired G l m
  | _, _, .nil => .nil
  | _, _, .cons r t => .cons (hm _ _ r) (paired_mono hm t)
theorem paired_append {α β : Type} {F : α → β → Prop} : ∀ {l l' : List α} {m m' : List β}, Paired F l m → Paired F l' m' → Paired F (l ++ l') (m ++ m')
  | _, _, _, _, .nil, h => h
  | _, _, _, _, .cons r t, h => .cons r (paired_append t h)
theorem paired_len {α β : Type} {F : α → β → Prop} : ∀ {l : List α} {m : List β}, Paired F l m → l.length = m.length
  | _, _, .nil => rfl
  | _, _, .cons _ t => by rw [List.length_cons, List.length_cons, paired_len t]
/-- one term at t -/
def TmAt (H : Hp) (t : Addr) (kv : List Key × V) : Prop := ∃ q, H t = some (.tup [.ref q, kv.2]) ∧ H q = some (.tup (kv.1.map kV))
theorem TmAt.ext {H H' : Hp} {t : Addr} {kv : List Key × V} (h : TmAt H t kv) (x : Ext H H') : TmAt H' t kv := by
  obtain ⟨q, h1, h2⟩ := h
  exact ⟨q, x _ _ h1, x _ _ h2⟩
theorem TermsAt.ext {H H' : Hp} {p : Addr} {kvs : List (List Key × V)} (h : TermsAt H p kvs) (x : Ext H H') : TermsAt H' p kvs := by
  obtain ⟨ts, h1, h2⟩ := h
  exact ⟨ts, x _ _ h1, paired_mono (fun a b (r : TmAt H a b) => r.ext x) h2⟩
theorem terms_get {H : Hp} {p : Addr} {L : Tm} (h : TermsAt H p (enc L)) : ∃ ts : List Addr, H p = some (.lst (ts.map V.ref)) ∧ ts.length = L.length ∧ ∀ (i : Nat) (kc : List Key × Int), L[i]? = some kc → ∃ t q, ts[i]? = some t ∧ H t = some (.tup [.ref q, .int kc.2]) ∧ H q = some (.tup (kc.1.map kV)) := by
  obtain ⟨ts, h1, h2⟩ := h
  have hl := paired_len h2
  rw [enc_len] at hl
  refine ⟨ts, h1, hl, fun i kc hi => ?_⟩
  have hil : i < ts.length := by
    rw [hl]
    exact (List.getElem?_eq_some_iff.mp hi).1
  have h3 : (enc L)[i]? = some (kc.1, V.int kc.2) := by
    unfold enc
    rw [List.getElem?_map, hi]
    rfl
  obtain ⟨q, e1, e2⟩ := paired_get h2 (List.getElem?_eq_getElem hil) h3
  exact ⟨ts[i], q, List.getElem?_eq_getElem hil, e1, e2⟩
abbrev sGa : Stmt := top 20
theorem sc_ga : FnScope ["terms", "sums", "names", "coefficient"] ["terms"] (defScope sGa) := ⟨rfl, rfl, rfl, by decide +kernel, rfl, by decide +kernel, by decide +kernel⟩
def spGa : Sp := fun vs H Q _ => ∃ (p : Addr) (L : Tm), vs = [.ref p] ∧ TermsAt H p (enc L) ∧ L.length < sizeLine ∧ ∀ d H', Ext H H' → H' d = some (.dT (enc (norm L))) → H d = none → Q (.ref d) H'
theorem take_succ {α : Type} {L : List α} {i : Nat} {x : α} (h : L[i]? = some x) : L.take (i + 1) = L.take i ++ [x] := by
  rw [List.take_add_one, h]
  rfl
theorem filter_snoc {G : Tm} {i : Nat} {x : List Key × Int} (h : G[i]? = some x) : (G.take (i + 1)).filter nzB = if nzB x = true then (G.take i).filter nzB ++ [x] else (G.take i).filter nzB := by
  rw [take_succ h, List.filter_append]
  cases hx : nzB x with
  | true => rw [if_pos rfl, List.filter_cons_of_pos hx]; rfl
  | false => rw [if_neg Bool.false_ne_true, List.filter_cons_of_neg (by simp [hx])]; simp
theorem nd_take {G : Tm} (hnd : (G.map (·.1)).Nodup) {i : Nat} {x : List Key × Int} (h : G[i]? = some x) : x.1 ∉ ((G.take i).filter nzB).map (·.1) := by
  intro hm
  obtain ⟨y, hy, e⟩ := List.mem_map.mp hm
  have hy2 := (List.mem_filter.mp hy).1
  have hi := (List.getElem?_eq_some_iff.mp h).1
  have hd : G = G.take i ++ x :: G.drop (i + 1) := by
    have h1 := List.take_append_drop i G
    rw [List.drop_eq_getElem_cons hi, (List.getElem?_eq_some_iff.mp h).2] at h1
    exact h1.symm
  rw [hd, List.map_append, List.map_cons] at hnd
  exact (List.nodup_append.mp hnd).2.2 y.1 (List.mem_map.mpr ⟨y, hy2, rfl⟩) x.1 List.mem_cons_self e
theorem gath_len0 {L : Tm} : (gath [] L).length ≤ L.length := by
  have := gath_len (L := L) (acc := [])
  simpa using this
section
variable {P : Program} {w : World} {K : PySem.W.Frag} {mg : Str → Option Value} {base : Heap} {f : Addr} {fd : FuncData}
theorem ok_ga (F : FnP K "gathered" "gathered" sGa f fd) : FnOk P w K mg base CX0 1 f fd ["terms"] spGa := by
  refine F.ok sc_ga (fun vs H Q E h => ?_) (fun cdv A outer s H vs Q E hr h => ⟨_, PSs.nox (pss_cons (ps_set (i := 1) sc_ga.nd rfl (Or.inl rfl) pe_dnewT)
    (pss_cons (ps_for (fun _ _ h => h.elim) rfl (pi_list (pv 0)) (pg_tup (by rfl) (pgs_cons (pg_name (i := 2) sc_ga.nd rfl (Or.inl rfl)) (pgs_cons (pg_name (i := 3) sc_ga.nd rfl (Or.inl rfl)) pgs_nil)))
      (pss_one (ps_dput (hu_of hr) (pv 1) (pv 2) (pe_op op_add (pe_dget2 (hu_of hr) (pv 1) (pv 2) pe_int ⟨rfl, rfl, rfl, rfl⟩) (pv 3)) rfl)))
    (pss_one (ps_ret (pe_dcT (own := [("names", 2), ("coefficient", 3)]) (g := gTup K 2 (gCons (gName 2) (gCons (gName 3) gNil))) (tt := tB (tNeI (tVar 3) (tC (.int 0)))) (tk := tVar 2) (tv := tVar 3) (hu_of hr) rfl sc_ga.nd (pi_itemsT (pe_frz (pv 1)))
      (blkOk_by (own := [("names", 2), ("coefficient", 3)]) (N := ["terms", "sums", "names", "coefficient"]) (sc := defScope sGa) (by decide +kernel)) (fun _ _ _ _ _ => pg_tup (by rfl) (pgs_cons (pg_name (i := 2) sc_ga.nd rfl (Or.inl rfl)) (pgs_cons (pg_name (i := 3) sc_ga.nd rfl (Or.inl rfl)) pgs_nil)))
      (fun _ _ _ _ _ => pts_one (pt_cmp (pc_neI (pv 3) pe_int))) (fun _ _ _ _ _ => pv 2) (fun _ _ _ _ _ => pv 3)))))), ?_⟩)
  · obtain ⟨p, L, rfl, _⟩ := h
    rfl
  · obtain ⟨p, L, rfl, ht, hlen, hQ⟩ := h
    refine fun S hS => ?_
    have hE0 : Ext H (upd H S (.dT [])) := Ext.upd hS
    obtain ⟨ts, hp, hts, hget⟩ := terms_get ht
    have hpS : p ≠ S := fun z => by rw [z, hS] at hp; cases hp
    refine ⟨_, rfl, p, rfl, ⟨_, SqL.of (hE0 _ _ hp)⟩, for_list (K := K) (a := p) (xs := ts.map V.ref) (fun i σ H' => ∃ u v, σ = [some (.ref p), some (.ref S), u, v] ∧ Ext H H' ∧ H' S = some (.dT (enc (gath [] (L.take i)))))
      ⟨none, none, rfl, hE0, by rw [upd_same]; rfl⟩ (fun i σ H' _ ⟨_, _, _, e, _⟩ => SqL.of (e _ _ hp)) ?_ ?_⟩
    · rintro i x σ H' hi ⟨u, v, rfl, hE, hD⟩
      have hil : i < L.length := by
        have := (List.getElem?_eq_some_iff.mp hi).1
        rw [List.length_map, hts] at this
        exact this
      obtain ⟨t, q, e1, e2, e3⟩ := hget i L[i] (List.getElem?_eq_getElem hil)
      rw [List.getElem?_map, e1] at hi
      cases hi
      have hnd := gath_nd (L := L.take i) (acc := []) (by simp)
      refine ⟨t, _, rfl, SqT.of (hE _ _ e2), rfl, _, _, rfl, _, _, rfl, rfl, ?_⟩
      refine ⟨_, rfl, S, rfl, .inr ⟨_, .inl hD⟩, _, rfl, _, DGet.t hD (hE _ _ e3), _, rfl, _, _, val_enc, rfl, _, rfl, _, rfl, S, _, rfl, DPut.t hD (hE _ _ e3) ?_, _, _, rfl, ext_at hS hE, ?_⟩
      · rw [enc_len]
        have := gath_len0 (L := L.take i)
        rw [List.length_take] at this
        omega
      · rw [upd_same]
        show some (HO.dT (putK _ _ _)) = _
        rw [put_enc hnd, take_succ (List.getElem?_eq_getElem hil), gath_snoc]
    · rintro σ H' ⟨u, v, rfl, hE, hD⟩
      rw [List.length_map, hts, List.take_length] at hD
      refine ⟨_, rfl, S, _, hD, trivial, fun od => ⟨S, od, _, rfl, upd_same, fun D hDn => ?_⟩⟩
      have hE1 : Ext H (upd H' S (.frz od (.dT (enc (gath [] L))))) := ext_at hS hE
      generalize hG : gath [] L = G at *
      have hGlen : G.length < sizeLine := by
        have := gath_len0 (L := L)
        rw [hG] at this
        omega
      have hnd : (G.map (·.1)).Nodup := by rw [← hG]; exact gath_nd (by simp)
      have hSD : S ≠ D := fun z => by rw [← z, upd_same] at hDn; cases hDn
      refine ⟨fun i m H3 => m = G.length - i ∧ i ≤ G.length ∧ Ext (upd H' S (.frz od (.dT (enc G)))) H3 ∧ H3 D = some (.dT (enc ((G.take i).filter nzB))), ⟨_, rfl, Nat.zero_le _, Ext.upd hDn, by rw [upd_same]; rfl⟩, ?_⟩
      rintro i m H3 ⟨rfl, hle, hE3, hD3⟩
      have hS3 : H3 S = some (.frz od (.dT (enc G))) := hE3 _ _ upd_same
      by_cases hlt : i < G.length
      · refine .inr ⟨⟨hS3, by rw [enc_len]; exact hlt⟩, fun H4 => i + 1 ≤ G.length ∧ Ext (upd H' S (.frz od (.dT (enc G)))) H4 ∧ H4 D = some (.dT (enc ((G.take (i + 1)).filter nzB))), fun H4 q => ⟨G.length - (i + 1), by omega, rfl, q.1, q.2.1, q.2.2⟩, ?_⟩
        rintro x H4 ⟨T, q, k, y, hkv, rfl, hT, hq, rfl⟩
        have hGi : G[i]? = some G[i] := List.getElem?_eq_getElem hlt
        have hkv2 : (enc G)[i]? = some (G[i].1, V.int G[i].2) := by
          unfold enc
          rw [List.getElem?_map, hGi]
          rfl
        rw [hkv2] at hkv
        obtain ⟨rfl, rfl⟩ := Prod.mk.inj (Option.some.inj hkv)
        have hTD : D ≠ T := fun z => by rw [← z, hD3] at hT; cases hT
        have hTq : q ≠ T := fun z => by rw [z, hT] at hq; cases hq
        refine ⟨T, _, rfl, SqT.of upd_same, rfl, _, _, rfl, _, _, rfl, rfl, ?_⟩
        refine ⟨wipe_set2 (by decide) (by decide), _, rfl, _, _, rfl, rfl, _, rfl, ?_⟩
        have hf := filter_snoc hGi
        have hnz : (!decide (G[i].2 = 0)) = nzB G[i] := by simp [nzB]
        have hmem := nd_take hnd hGi
        show if (!decide (G[i].2 = 0)) = true then _ else _
        rw [hnz]
        cases hb : nzB G[i] with
        | true =>
          rw [hb, if_pos rfl] at hf
          refine iteT ⟨_, rfl, _, rfl, _, G[i].1, q, rfl, (by rw [upd_ne hTq]; exact hq), (by rw [upd_ne hTD]; exact hD3), ?_, hlt, ?_, ?_⟩
          · rw [enc_len]
            have := List.length_filter_le nzB (G.take i)
            rw [List.length_take] at this
            omega
          · intro b o e
            have e3 := hE3 b o e
            have h1 : b ≠ D := fun z => by rw [z, hDn] at e; cases e
            have h2 : b ≠ T := fun z => by rw [z, hT] at e3; cases e3
            rw [upd_ne h1, upd_ne h2]
            exact e3
          · rw [upd_same, hf, enc_put_new hmem]
        | false =>
          rw [hb, if_neg Bool.false_ne_true] at hf
          refine iteF ⟨hlt, fun b o e => ?_, ?_⟩
          · have e3 := hE3 b o e
            have h2 : b ≠ T := fun z => by rw [z, hT] at e3; cases e3
            rw [upd_ne h2]
            exact e3
          · rw [upd_ne hTD, hf]
            exact hD3
      · have e : i = G.length := by omega
        subst e
        refine .inl ⟨⟨hS3, by rw [enc_len]; exact Nat.le_refl _⟩, hQ D H3 (ext_trans hE1 hE3) ?_ ?_⟩
        · rw [hD3, List.take_length]
          unfold norm
          rw [hG]
        · cases e : H D with
          | none => rfl
          | some o => have := hE1 _ _ e; rw [hDn] at this; cases this
end
end K75
set_option Elab.async false
set_option linter.all false
set_option maxRecDepth 100000
set_option maxHeartbeats 4000000
namespace K75
open PySem PySem.Spec PyProof.Rows L2
abbrev sMI : Stmt := inClass (top 21) 0
abbrev sMNum : Stmt := inClass (top 21) 1
abbrev sMUnk : Stmt := inClass (top 21) 2
abbrev sMAdd : Stmt := inClass (top 21) 3
abbrev sMNeg : Stmt := inClass (top 21) 4
abbrev sMSub : Stmt := inClass (top 21) 5
abbrev sMMul : Stmt := inClass (top 21) 6
abbrev sMEq : Stmt := inClass (top 21) 7
theorem sc_MI : FnScope ["self", "terms"] ["self", "terms"] (defScope sMI) := ⟨rfl, rfl, rfl, by decide +kernel, rfl, by decide +kernel, by decide +kernel⟩
theorem sc_MNum : FnScope ["cls", "n"] ["cls", "n"] (defScope sMNum) := ⟨rfl, rfl, rfl, by decide +kernel, rfl, by decide +kernel, by decide +kernel⟩
theorem sc_MUnk : FnScope ["cls", "name"] ["cls", "name"] (defScope sMUnk) := ⟨rfl, rfl, rfl, by decide +kernel, rfl, by decide +kernel, by decide +kernel⟩
theorem sc_MAdd : FnScope ["self", "other"] ["self", "other"] (defScope sMAdd) := ⟨rfl, rfl, rfl, by decide +kernel, rfl, by decide +kernel, by decide +kernel⟩
theorem sc_MNeg : FnScope ["self", "names", "coefficient"] ["self"] (defScope sMNeg) := ⟨rfl, rfl, rfl, by decide +kernel, rfl, by decide +kernel, by decide +kernel⟩
theorem sc_MSub : FnScope ["self", "other"] ["self", "other"] (defScope sMSub) := ⟨rfl, rfl, rfl, by decide +kernel, rfl, by decide +kernel, by decide +kernel⟩
theorem sc_MMul : FnScope ["self", "other"] ["self", "other"] (defScope sMMul) := ⟨rfl, rfl, rfl, by decide +kernel, rfl, by decide +kernel, by decide +kernel⟩
theorem sc_MEq : FnScope ["self", "other"] ["self", "other"] (defScope sMEq) := ⟨rfl, rfl, rfl, by decide +kernel, rfl, by decide +kernel, by decide +kernel⟩
def mnF (d : Addr) : List (Str × V) := [("terms", .ref d)]
theorem mnF_t (d : Addr) : (mnF d).lookup ("terms" : Str) = some (.ref d) := rfl
/-- the Many at a -/
def MnO (CM : Addr) (H : Hp) (a : Addr) (L : Tm) : Prop := ∃ dx d od, H a = some (.ins CM dx (mnF d)) ∧ H d = some (.frz od (.dT (enc L)))
theorem MnO.ext {CM : Addr} {H H' : Hp} {a : Addr} {L : Tm} (h : MnO CM H a L) (x : Ext H H') : MnO CM H' a L := by
  obtain ⟨dx, d, od, h1, h2⟩ := h
  exact ⟨dx, d, od, x _ _ h1, x _ _ h2⟩
structure MnT (K : PySem.W.Frag) (mg : Str → Option Value) (CM : Addr) : Prop where
  cl : Cls K CM
  nT : NoAttr K CM "terms"
  is : IsI K CM
  kt : PySem.W.kitOne K (.ref CM) (.ref CM) = some true
  mgC : mg "Many" = some (.ref CM)
  list : mg "list" = none
  isi : mg "isinstance" = none
  srt : mg "sorted" = none
  tup : mg "tuple" = none
  sf : PySem.W.selfFirst K CM = true
def spMI (CM : Addr) : Sp := fun vs H Q _ => ∃ (a dx p : Addr) (L : Tm), vs = [.ref a, .ref p] ∧ H a = some (.ins CM dx []) ∧ TermsAt H p (enc L) ∧ L.length < sizeLine ∧ ∀ H', (∀ b o, b ≠ a → H b = some o → H' b = some o) → MnO CM H' a (norm L) → Q .non H'
def mkMn (CM : Addr) (H : Hp) (R : Tm) (Q : VK) : Prop := ∀ a H', Ext H H' → MnO CM H' a R → Q (.ref a) H'
theorem mk_mn {CM : Addr} {H : Hp} {l : Addr} {L : Tm} {Q : VK} (hl : TermsAt H l (enc L)) (hlen : L.length < sizeLine) (hQ : mkMn CM H (norm L) Q) (x dx : Addr) (hx : H x = none) (hdx : H dx = none) (hne : dx ≠ x) :
    spMI CM [.ref x, .ref l] (upd (upd H dx (.own x)) x (.ins CM dx [])) (fun v H2 => v = .non ∧ Q (.ref x) H2) E0 := by
  have s0 : Ext H (upd (upd H dx (.own x)) x (.ins CM dx [])) := ext_at hx (Ext.upd hdx)
  refine ⟨x, dx, l, L, rfl, upd_same, hl.ext s0, hlen, fun H' k hc => ⟨rfl, hQ x H' (fun b o eb => ?_) hc⟩⟩
  exact k b o (fun z => by rw [z, hx] at eb; cases eb) (s0 b o eb)
def numL (n : Int) : Tm := if n = 0 then [] else [([], n)]
theorem norm_one {k : List Key} {n : Int} : norm [(k, n)] = if n = 0 then [] else [(k, n)] := by
  show [(k, n)].filter nzB = _
  by_cases h : n = 0
  · rw [if_pos h, List.filter_cons_of_neg (by simp [nzB, h])]; rfl
  · rw [if_neg h, List.filter_cons_of_pos (by simp [nzB, h])]; rfl
def spMNum (CM : Addr) : Sp := fun vs H Q _ => ∃ n : Int, vs = [.ref CM, .int n] ∧ mkMn CM H (numL n) Q
def spMUnk (CM : Addr) : Sp := fun vs H Q _ => ∃ x : Str, vs = [.ref CM, .str x] ∧ mkMn CM H [([.inr x], 1)] Q
def spMAdd (CM : Addr) : Sp := fun vs H Q _ => ∃ (a b : Addr) (L M : Tm), vs = [.ref a, .ref b] ∧ MnO CM H a L ∧ MnO CM H b M ∧ L.length + M.length < sizeLine ∧ mkMn CM H (norm (L ++ M)) Q
def ng (p : List Key × Int) : List Key × Int := (p.1, -p.2)
def spMNeg (CM : Addr) : Sp := fun vs H Q _ => ∃ (a : Addr) (L : Tm), vs = [.ref a] ∧ MnO CM H a L ∧ L.length < sizeLine ∧ mkMn CM H (norm (L.map ng)) Q
def spMSub (CM : Addr) : Sp := fun vs H Q _ => ∃ (a b : Addr) (L M : Tm), vs = [.ref a, .ref b] ∧ MnO CM H a L ∧ MnO CM H b M ∧ L.length + M.length < sizeLine ∧ mkMn CM H (norm (L ++ norm (M.map ng))) Q
def spMEq (CM : Addr) : Sp := fun vs H Q _ => ∃ (a b : Addr) (L M : Tm), vs = [.ref a, .ref b] ∧ MnO CM H a L ∧ MnO CM H b M ∧ Nrm L ∧ Nrm M ∧ ∀ r : Bool, (r = true ↔ ∀ k, cf L k = cf M k) → Q (.bl r) H
theorem enc_append {L M : Tm} : enc (L ++ M) = enc L ++ enc M := List.map_append
theorem norm_len {L : Tm} : (norm L).length ≤ L.length := Nat.le_trans (List.length_filter_le _ _) gath_len0
theorem one_term {H : Hp} {l t q : Addr} {k : List Key} {n : Int} (h1 : H l = some (.lst [.ref t])) (h2 : H t = some (.tup [.ref q, .int n])) (h3 : H q = some (.tup (k.map kV))) : TermsAt H l (enc [(k, n)]) := ⟨[t], h1, .cons ⟨q, h2, h3⟩ .nil⟩
section
variable {P : Program} {w : World} {K : PySem.W.Frag} {mg : Str → Option Value} {base : Heap} {f CM : Addr} {fd : FuncData}
theorem ok_MI (F : FnP K "__init__" "Many.__init__" sMI f fd) (T : MnT K mg CM) (cG : Cal P w K mg base CX0 1 "gathered" spGa) : FnOk P w K mg base CX0 2 f fd ["self", "terms"] (spMI CM) := by
  refine F.ok sc_MI (fun vs H Q E h => ?_) (fun cdv A outer s H vs Q E hr h => ⟨_, PSs.nox (pss_one (ps_fld (pv 0) (pe_frz (pe_c cG hr (by decide) rfl pass0 (pa_cons (pv 1) pa_nil))) rfl)), ?_⟩)
  · obtain ⟨a, dx, p, L, rfl, _⟩ := h
    rfl
  · obtain ⟨a, dx, p, L, rfl, ha, hp, hlen, hQ⟩ := h
    refine ⟨_, rfl, p, L, rfl, hp, hlen, fun d H1 hE hd hn => ⟨d, _, hd, trivial, fun od => ?_⟩⟩
    have had : a ≠ d := fun z => by rw [← z, ha] at hn; cases hn
    refine ⟨_, rfl, a, CM, dx, [], rfl, (by rw [upd_ne had]; exact hE _ _ ha), T.cl, T.nT, by decide, hQ _ (fun b o hb eb => ?_) ⟨dx, d, od, upd_same, ?_⟩⟩
    · rw [upd_ne hb]
      have hbd : b ≠ d := fun z => by rw [z, hn] at eb; cases eb
      rw [upd_ne hbd]
      exact hE _ _ eb
    · rw [upd_ne had.symm, upd_same]
theorem ok_MNum (F : FnP K "number" "Many.number" sMNum f fd) (M : Mak P w K mg base CX0 2 CM (spMI CM)) : FnOk P w K mg base CX0 4 f fd ["cls", "n"] (spMNum CM) := by
  refine F.ok sc_MNum (fun vs H Q E h => ?_) (fun cdv A outer s H vs Q E hr h => ⟨_, PSs.nox (pss_one (ps_ret (pe_mkV (i := 0) M hr (by decide) pass0 rfl (Or.inl rfl) (pa_cons (pe_lst (pa_cons (pe_tup (pa_cons (pe_tup pa_nil) (pa_cons (pv 1) pa_nil))) pa_nil)) pa_nil)))), ?_⟩)
  · obtain ⟨n, rfl, _⟩ := h
    rfl
  · obtain ⟨n, rfl, hQ⟩ := h
    refine ⟨rfl, Nat.zero_le _, fun q hq => ⟨_, rfl, (by show 2 ≤ sizeLine; decide), fun t ht => ⟨(by show 1 ≤ sizeLine; decide), fun l hl => ?_⟩⟩⟩
    have htq : q ≠ t := fun z => by rw [← z, upd_same] at ht; cases ht
    have htl : t ≠ l := fun z => by rw [← z, upd_same] at hl; cases hl
    have hql : q ≠ l := fun z => by rw [← z, upd_ne htq, upd_same] at hl; cases hl
    refine mk_mn (L := [([], n)]) (one_term (t := t) (q := q) upd_same ?_ ?_) (by show 1 < sizeLine; decide) ?_
    · rw [upd_ne htl, upd_same]
    · rw [upd_ne hql, upd_ne htq, upd_same]; rfl
    · rw [norm_one]
      exact fun a H' hE hm => hQ a H' (ext_trans (Ext.upd hq) (ext_trans (Ext.upd ht) (ext_trans (Ext.upd hl) hE))) hm
theorem ok_MUnk (F : FnP K "unknown" "Many.unknown" sMUnk f fd) (M : Mak P w K mg base CX0 2 CM (spMI CM)) : FnOk P w K mg base CX0 4 f fd ["cls", "name"] (spMUnk CM) := by
  refine F.ok sc_MUnk (fun vs H Q E h => ?_) (fun cdv A outer s H vs Q E hr h => ⟨_, PSs.nox (pss_one (ps_ret (pe_mkV (i := 0) M hr (by decide) pass0 rfl (Or.inl rfl) (pa_cons (pe_lst (pa_cons (pe_tup (pa_cons (pe_tup (pa_cons (pv 1) pa_nil)) (pa_cons pe_int pa_nil))) pa_nil)) pa_nil)))), ?_⟩)
  · obtain ⟨n, rfl, _⟩ := h
    rfl
  · obtain ⟨n, rfl, hQ⟩ := h
    refine ⟨rfl, _, rfl, (by show 1 ≤ sizeLine; decide), fun q hq => ⟨(by show 2 ≤ sizeLine; decide), fun t ht => ⟨(by show 1 ≤ sizeLine; decide), fun l hl => ?_⟩⟩⟩
    have htq : q ≠ t := fun z => by rw [← z, upd_same] at ht; cases ht
    have htl : t ≠ l := fun z => by rw [← z, upd_same] at hl; cases hl
    have hql : q ≠ l := fun z => by rw [← z, upd_ne htq, upd_same] at hl; cases hl
    refine mk_mn (L := [([.inr n], 1)]) (one_term (t := t) (q := q) upd_same ?_ ?_) (by show 1 < sizeLine; decide) ?_
    · rw [upd_ne htl, upd_same]
    · rw [upd_ne hql, upd_ne htq, upd_same]; rfl
    · rw [norm_one]
      exact fun a H' hE hm => hQ a H' (ext_trans (Ext.upd hq) (ext_trans (Ext.upd ht) (ext_trans (Ext.upd hl) hE))) hm
theorem ok_MAdd (F : FnP K "__add__" "Many.__add__" sMAdd f fd) (T : MnT K mg CM) (M : Mak P w K mg base CX0 2 CM (spMI CM)) : FnOk P w K mg base CX0 4 f fd ["self", "other"] (spMAdd CM) := by
  refine F.ok sc_MAdd (fun vs H Q E h => ?_) (fun cdv A outer s H vs Q E hr h => ⟨_, PSs.nox (pss_one (ps_ret (pe_mk M hr (by decide) rfl T.mgC pass0 (pa_cons (pe_op op_cat (pe_listItemsT rfl (pe_fld (pv 0) rfl) rfl T.list) (pe_listItemsT rfl (pe_fld (pv 1) rfl) rfl T.list)) pa_nil)))), ?_⟩)
  · obtain ⟨a, b, L, M, rfl, _⟩ := h
    rfl
  · obtain ⟨a, b, L, M', rfl, ⟨dx, d, od, ha, hd⟩, ⟨dy, e, oe, hb, he⟩, hlen, hQ⟩ := h
    refine ⟨_, rfl, a, CM, dx, _, _, rfl, ha, T.cl, T.nT, mnF_t _, d, od, _, rfl, hd, fun H1 p1 k1 n1 t1 => ?_⟩
    refine ⟨_, rfl, b, CM, dy, _, _, rfl, k1 _ _ hb, T.cl, T.nT, mnF_t _, e, oe, _, rfl, k1 _ _ he, fun H2 p2 k2 n2 t2 => ?_⟩
    obtain ⟨ts, e1, q1⟩ := t1.ext k2
    obtain ⟨us, e2, q2⟩ := t2
    have l1 := paired_len q1
    have l2 := paired_len q2
    rw [enc_len] at l1 l2
    refine ⟨p1, p2, _, _, rfl, rfl, e1, e2, (by rw [List.length_map, List.length_map, l1, l2]; omega), fun p hp => ?_⟩
    refine mk_mn (L := L ++ M') ⟨ts ++ us, by rw [upd_same, List.map_append], ?_⟩ (by rw [List.length_append]; exact hlen) fun a' H' hE hm => hQ a' H' (ext_trans k1 (ext_trans k2 (ext_trans (Ext.upd hp) hE))) hm
    rw [enc_append]
    exact paired_mono (fun x y (r : TmAt H2 x y) => r.ext (Ext.upd hp)) (paired_append q1 q2)
theorem ok_MNeg (F : FnP K "__neg__" "Many.__neg__" sMNeg f fd) (T : MnT K mg CM) (M : Mak P w K mg base CX0 2 CM (spMI CM)) : FnOk P w K mg base CX0 4 f fd ["self"] (spMNeg CM) := by
  refine F.ok sc_MNeg (fun vs H Q E h => ?_) (fun cdv A outer s H vs Q E hr h => ⟨_, PSs.nox (pss_one (ps_ret (pe_mk M hr (by decide) rfl T.mgC pass0 (pa_cons (pe_lc (own := [("names", 1), ("coefficient", 2)]) (g := gTup K 2 (gCons (gName 1) (gCons (gName 2) gNil))) (tt := tYes) rfl sc_MNeg.nd (pi_itemsT (pe_fld (pv 0) rfl))
      (blkOk_by (own := [("names", 1), ("coefficient", 2)]) (N := ["self", "names", "coefficient"]) (sc := defScope sMNeg) (by decide +kernel)) (fun _ _ _ _ _ => pg_tup (by rfl) (pgs_cons (pg_name (i := 1) sc_MNeg.nd rfl (Or.inl rfl)) (pgs_cons (pg_name (i := 2) sc_MNeg.nd rfl (Or.inl rfl)) pgs_nil))) (fun _ _ _ _ _ => pts_nil)
      (fun _ _ _ _ _ => pe_tup (pa_cons (pv 1) (pa_cons (pe_un un_neg (pv 2)) pa_nil)))) pa_nil)))), ?_⟩)
  · obtain ⟨a, L, rfl, _⟩ := h
    rfl
  · obtain ⟨a, L, rfl, ⟨dx, d, od, ha, hd⟩, hlen, hQ⟩ := h
    refine ⟨_, rfl, a, CM, dx, _, _, rfl, ha, T.cl, T.nT, mnF_t _, d, od, _, rfl, hd, fun D hDn => ?_⟩
    refine ⟨fun i m H3 => m = L.length - i ∧ i ≤ L.length ∧ Ext H H3 ∧ TermsAt H3 D (enc ((L.take i).map ng)), ⟨_, rfl, Nat.zero_le _, Ext.upd hDn, [], by rw [upd_same]; rfl, .nil⟩, ?_⟩
    rintro i m H3 ⟨rfl, hle, hE3, hT3⟩
    have hS3 := hE3 _ _ hd
    by_cases hlt : i < L.length
    · refine .inr ⟨⟨hS3, by rw [enc_len]; exact hlt⟩, fun H4 => i + 1 ≤ L.length ∧ Ext H H4 ∧ TermsAt H4 D (enc ((L.take (i + 1)).map ng)), fun H4 q => ⟨L.length - (i + 1), by omega, rfl, q.1, q.2.1, q.2.2⟩, ?_⟩
      rintro x H4 ⟨T1, q, k, y, hkv, rfl, hT, hq, rfl⟩
      have hLi : L[i]? = some L[i] := List.getElem?_eq_getElem hlt
      have hkv2 : (enc L)[i]? = some (L[i].1, V.int L[i].2) := by
        unfold enc
        rw [List.getElem?_map, hLi]
        rfl
      rw [hkv2] at hkv
      obtain ⟨rfl, rfl⟩ := Prod.mk.inj (Option.some.inj hkv)
      refine ⟨T1, _, rfl, SqT.of upd_same, rfl, _, _, rfl, _, _, rfl, rfl, ?_⟩
      refine ⟨wipe_set2 (by decide) (by decide), ?_⟩
      dsimp only [tYes]
      rw [if_pos rfl]
      refine ⟨_, rfl, _, rfl, _, rfl, (by show 2 ≤ sizeLine; decide), fun T2 hT2 => ?_⟩
      have hTq : q ≠ T1 := fun z => by rw [z, hT] at hq; cases hq
      obtain ⟨ts, e1, e2⟩ := hT3
      have hDT : D ≠ T1 := fun z => by rw [z, hT] at e1; cases e1
      have hDT2 : D ≠ T2 := fun z => by rw [← z, upd_ne hDT, e1] at hT2; cases hT2
      have hl := paired_len e2
      rw [enc_len, List.length_map, List.length_take] at hl
      have x1 : Ext H3 (upd H3 T1 (.tup [.ref q, .int L[i].2])) := Ext.upd hT
      have x2 := ext_trans x1 (Ext.upd (o := .tup [.ref q, .int (-L[i].2)]) hT2)
      have hqT2 : q ≠ T2 := fun z => by rw [← z, upd_ne hTq, hq] at hT2; cases hT2
      have keyx : ∀ b o, b ≠ D → H3 b = some o → upd (upd (upd H3 T1 (.tup [.ref q, .int L[i].2])) T2 (.tup [.ref q, .int (-L[i].2)])) D (.lst (ts.map V.ref ++ [.ref T2])) b = some o := fun b o hb e => by rw [upd_ne hb]; exact x2 b o e
      refine ⟨_, (by rw [upd_ne hDT2, upd_ne hDT]; exact e1), (by rw [List.length_map, hl]; omega), hlt, fun b o e => keyx b o (fun z => by rw [z, hDn] at e; cases e) (hE3 b o e), ts ++ [T2], by rw [upd_same, List.map_append]; rfl, ?_⟩
      rw [take_succ hLi, List.map_append, enc_append]
      refine paired_append (paired_mono (fun t kv (r : TmAt H3 t kv) => ?_) e2) (.cons ⟨q, ?_, ?_⟩ .nil)
      · obtain ⟨q', r1, r2⟩ := r
        have n1 : t ≠ D := fun z => by rw [z, e1] at r1; cases r1
        have n2 : q' ≠ D := fun z => by rw [z, e1] at r2; cases r2
        exact ⟨q', keyx _ _ n1 r1, keyx _ _ n2 r2⟩
      · rw [upd_ne hDT2.symm, upd_same]; rfl
      · have n2 : q ≠ D := fun z => by rw [z, e1] at hq; cases hq
        exact keyx _ _ n2 hq
    · have e : i = L.length := by omega
      subst e
      rw [List.take_length] at hT3
      refine .inl ⟨⟨hS3, by rw [enc_len]; exact Nat.le_refl _⟩, fun x dx' hx hdx hne => mk_mn hT3 (by rw [List.length_map]; exact hlen) (fun a' H' hE hm => hQ a' H' (ext_trans hE3 hE) hm) x dx' hx hdx hne⟩
theorem ok_MSub (F : FnP K "__sub__" "Many.__sub__" sMSub f fd) (T : MnT K mg CM) (oA : Opr P w K mg base CX0 4 CM "__add__" (spMAdd CM)) (oN : Opr P w K mg base CX0 4 CM "__neg__" (spMNeg CM)) : FnOk P w K mg base CX0 5 f fd ["self", "other"] (spMSub CM) := by
  obtain ⟨gA, a1, a2, a3⟩ := oA.ex
  obtain ⟨gN, n1, n2, n3⟩ := oN.ex
  refine F.ok sc_MSub (fun vs H Q E h => ?_) (fun cdv A outer s H vs Q E hr h => ⟨_, PSs.nox (pss_one (ps_ret (pe_op (op_bin T.sf a1 a2 a3 (hr.mono (by decide)) pass0) (pv 0) (pe_un (un_ownNeg n1 n2 n3 (hr.mono (by decide)) pass0) (pv 1))))), ?_⟩)
  · obtain ⟨a, b, L, M, rfl, _⟩ := h
    rfl
  · obtain ⟨a, b, L, M', rfl, hA, hB, hlen, hQ⟩ := h
    have hA' := hA
    have hB' := hB
    obtain ⟨dx, d, od, ha, hd⟩ := hA'
    obtain ⟨dy, e, oe, hb, he⟩ := hB'
    refine ⟨_, rfl, _, rfl, b, dy, _, rfl, hb, b, M', rfl, hB, by omega, fun c H1 hE hC => ?_⟩
    have hC' := hC
    obtain ⟨dz, u, ou, hc, hu⟩ := hC'
    have hl := norm_len (L := M'.map ng)
    rw [List.length_map] at hl
    exact ⟨a, c, dx, dz, _, _, rfl, rfl, hE _ _ ha, hc, a, c, L, _, rfl, hA.ext hE, hC, by omega, fun a' H' hE' hm => hQ a' H' (ext_trans hE hE') hm⟩
theorem ok_MEq (F : FnP K "__eq__" "Many.__eq__" sMEq f fd) (T : MnT K mg CM) : FnOk P w K mg base CX0 1 f fd ["self", "other"] (spMEq CM) := by
  refine F.ok sc_MEq (fun vs H Q E h => ?_) (fun cdv A outer s H vs Q E hr h => ⟨_, PSs.nox (pss_one (ps_ret (pe_and (pe_callB call_isi (by rfl) T.isi boot_isinstance (pa_cons (pv 1) (pa_cons (pe_glob (v := V.ref CM) rfl T.mgC rfl) pa_nil))) (pe_one (pe_cmpR (op_eqT (hu_of hr)) (pe_fld (pv 0) rfl) (pe_fld (pv 1) rfl) rfl))))), ?_⟩)
  · obtain ⟨a, b, L, M, rfl, _⟩ := h
    rfl
  · obtain ⟨a, b, L, M', rfl, ⟨dx, d, od, ha, hd⟩, ⟨dy, e, oe, hb, he⟩, nL, nM, hQ⟩ := h
    exact ⟨_, rfl, _, _, _, _, true, rfl, .own CM, T.is.ty T.cl hb, T.kt, true, rfl, iteT ⟨_, rfl, a, CM, dx, _, _, rfl, ha, T.cl, T.nT, mnF_t _, _, rfl, b, CM, dy, _, _, rfl, hb, T.cl, T.nT, mnF_t _, d, e, L, M', rfl, rfl, .inr ⟨od, hd⟩, .inr ⟨oe, he⟩, nL, nM, hQ⟩⟩
end
end K75
set_option Elab.async false
set_option linter.all false
set_option maxRecDepth 100000
set_option maxHeartbeats 4000000
namespace K75
open PySem PySem.Spec PyProof.Rows L2
theorem for_itemsT {d : Addr} {o : Obj} {L : Tm} {g : TG} {tb : TS} {D : Ends} {σ : L2.St} {H : Hp} (Pv : Nat → L2.St → Hp → Prop) (h0 : Pv 0 σ H) (hd : ∀ i σ H, Pv i σ H → H d = some (.frz o (.dT (enc L))))
    (hs : ∀ (i : Nat) (k : List Key × Int) σ H (T q : Addr), L[i]? = some k → Pv i σ H → H T = none → H q = some (.tup (k.1.map kV)) → g (.ref T) σ (upd H T (.tup [.ref q, .int k.2])) fun σ2 H2 => tb { D with nx := Pv (i + 1), ct := Pv (i + 1), bk := D.nx } σ2 H2)
    (hn : ∀ σ H, Pv L.length σ H → D.nx σ H) :
    ∃ W : Nat → Nat → L2.St → Hp → Prop, (∃ m, W 0 m σ H) ∧ ∀ i m σ H, W i m σ H →
      ((ItiT d o (enc L)).stop i H ∧ D.nx σ H) ∨ ((ItiT d o (enc L)).go i H ∧ ∃ N : L2.St → Hp → Prop, (∀ σ' H', N σ' H' → ∃ m', m' < m ∧ W (i + 1) m' σ' H') ∧ ∀ x H', (ItiT d o (enc L)).yld i H x H' → g x σ H' fun σ2 H2 => tb { D with nx := N, ct := N, bk := D.nx } σ2 H2) := by
  refine ⟨fun i m σ H => m = L.length - i ∧ i ≤ L.length ∧ Pv i σ H, ⟨_, rfl, Nat.zero_le _, h0⟩, ?_⟩
  rintro i m σ H ⟨rfl, hle, p⟩
  have hS := hd i σ H p
  by_cases hlt : i < L.length
  · refine .inr ⟨⟨hS, by rw [enc_len]; exact hlt⟩, Pv (i + 1), fun σ' H' q => ⟨L.length - (i + 1), by omega, rfl, hlt, q⟩, ?_⟩
    rintro x H4 ⟨T, q, k, y, hkv, rfl, hT, hq, rfl⟩
    have hLi : L[i]? = some L[i] := List.getElem?_eq_getElem hlt
    have hkv2 : (enc L)[i]? = some (L[i].1, V.int L[i].2) := by
      unfold enc
      rw [List.getElem?_map, hLi]
      rfl
    rw [hkv2] at hkv
    obtain ⟨rfl, rfl⟩ := Prod.mk.inj (Option.some.inj hkv)
    exact hs i L[i] σ H T q hLi p hT hq
  · have e : i = L.length := by omega
    subst e
    exact .inl ⟨⟨hS, by rw [enc_len]; exact Nat.le_refl _⟩, hn σ H p⟩
abbrev sPT : Stmt := top 22
theorem sc_PT : FnScope ["first", "second", "terms", "names", "coefficient", "more", "factor"] ["first", "second"] (defScope sPT) := ⟨rfl, rfl, rfl, by decide +kernel, rfl, by decide +kernel, by decide +kernel⟩
def pairsT (L M : Tm) : List ((List Key × Int) × (List Key × Int)) := L.flatMap fun p => M.map fun m => (p, m)
def strK (k : List Key) (xs : List Str) : Prop := k = xs.map Sum.inr
/-- a term of the product -/
def PT (t : List Key × Int) (pm : (List Key × Int) × (List Key × Int)) : Prop := (∃ xs : List Str, t.1 = xs.map Sum.inr ∧ sortedS xs = true) ∧ t.1.Perm (pm.1.1 ++ pm.2.1) ∧ t.2 = pm.1.2 * pm.2.2
structure PTok (L M : Tm) : Prop where
  sL : ∀ p ∈ L, ∃ xs : List Str, p.1 = xs.map Sum.inr
  sM : ∀ p ∈ M, ∃ xs : List Str, p.1 = xs.map Sum.inr
  dg : ∀ p ∈ L, ∀ m ∈ M, p.1.length + m.1.length < 64
  cL : ∀ p ∈ L, p.2.natAbs < 2 ^ 60
  ln : L.length * M.length < sizeLine
def spPT : Sp := fun vs H Q _ => ∃ (d e : Addr) (od oe : Obj) (L M : Tm), vs = [.ref d, .ref e] ∧ H d = some (.frz od (.dT (enc L))) ∧ H e = some (.frz oe (.dT (enc M))) ∧ PTok L M ∧ ∀ p H' T, Ext H H' → TermsAt H' p (enc T) → Paired PT T (pairsT L M) → Q (.ref p) H'
theorem pairs_len {L M : Tm} : (pairsT L M).length = L.length * M.length := by
  unfold pairsT
  induction L with
  | nil => simp
  | cons p L ih => rw [List.flatMap_cons, List.length_append, ih, List.length_map, List.length_cons, Nat.add_mul]; omega
theorem pairs_snoc {L M : Tm} {p : List Key × Int} : pairsT (L ++ [p]) M = pairsT L M ++ M.map fun m => (p, m) := by
  unfold pairsT
  rw [List.flatMap_append]
  simp
theorem str_map {xs : List Str} : (xs.map Sum.inr : List Key).map kV = xs.map V.str := by rw [List.map_map]; rfl
theorem catA_all {K : PySem.W.Frag} {H : Hp} {Q : VK} {a b : Addr} {xs ys : List V} (ha : SqT K H a xs) (hb : SqT K H b ys) (hl : xs.length + ys.length ≤ sizeLine) (h : ∀ c Hc, Ext H Hc → SqT K Hc c (xs ++ ys) → Q (.ref c) Hc) : rCatA K (.ref a) (.ref b) H Q := by
  refine ⟨a, b, xs, ys, rfl, rfl, ha, hb, hl, fun z => ?_, fun _ z => ?_, fun _ _ p hp => ?_⟩
  · subst z
    exact h b H (fun _ _ e => e) hb
  · subst z
    exact h a H (fun _ _ e => e) (by rw [List.append_nil]; exact ha)
  · exact h p _ (Ext.upd hp) (SqT.of upd_same)
section
variable {P : Program} {w : World} {K : PySem.W.Frag} {mg : Str → Option Value} {base : Heap} {f CM : Addr} {fd : FuncData}
theorem ok_PT (F : FnP K "product_terms" "product_terms" sPT f fd) (gS : mg "sorted" = none) (gT : mg "tuple" = none) : FnOk P w K mg base CX0 1 f fd ["first", "second"] spPT := by
  refine F.ok sc_PT (fun vs H Q E h => ?_) (fun cdv A outer s H vs Q E hr h => ⟨_, PSs.nox (pss_cons (ps_set (i := 2) sc_PT.nd rfl (Or.inl rfl) (pe_lst pa_nil))
    (pss_cons (ps_for (fun _ _ h => h.elim) rfl (pi_itemsT (pv 0)) (pg_tup (by rfl) (pgs_cons (pg_name (i := 3) sc_PT.nd rfl (Or.inl rfl)) (pgs_cons (pg_name (i := 4) sc_PT.nd rfl (Or.inl rfl)) pgs_nil)))
      (pss_one (ps_for (fun _ _ h => h.elim) rfl (pi_itemsT (pv 1)) (pg_tup (by rfl) (pgs_cons (pg_name (i := 5) sc_PT.nd rfl (Or.inl rfl)) (pgs_cons (pg_name (i := 6) sc_PT.nd rfl (Or.inl rfl)) pgs_nil)))
        (pss_one (ps_expr (pe_bm PySem.F.plainAttrs_list PySem.F.slot_list_append PySem.F.type_list_append mt_append (pv 2) (pa_cons (pe_tup (pa_cons (pe_tupleOf (by rfl) gT (pe_callB cr_sortedTS (by rfl) gS (by decide +kernel) (pa_cons (pe_op op_catA (pv 3) (pv 5)) pa_nil))) (pa_cons (pe_op op_mul (pv 4) (pv 6)) pa_nil))) pa_nil)))))))
    (pss_one (ps_ret (pv 2))))), ?_⟩)
  · obtain ⟨d, e, od, oe, L, M, rfl, _⟩ := h
    rfl
  · obtain ⟨d, e, od, oe, L, M, rfl, hd, he, ok, hQ⟩ := h
    refine ⟨Nat.zero_le _, fun S hS => ?_⟩
    have x0 : Ext H (upd H S (.lst [])) := Ext.upd hS
    refine ⟨_, rfl, d, od, _, rfl, x0 _ _ hd, for_itemsT (L := L) (fun i σ H' => ∃ u3 u4 u5 u6 T, σ = [some (.ref d), some (.ref e), some (.ref S), u3, u4, u5, u6] ∧ Ext H H' ∧ TermsAt H' S (enc T) ∧ Paired PT T (pairsT (L.take i) M))
      ⟨none, none, none, none, [], rfl, x0, ⟨[], by rw [upd_same]; rfl, .nil⟩, .nil⟩ (fun i σ H' ⟨_, _, _, _, _, _, x, _⟩ => x _ _ hd) ?_ ?_⟩
    · rintro i k σ H1 T1 q1 hi ⟨u3, u4, u5, u6, T, rfl, x1, t1, p1⟩ hT1 hq1
      refine ⟨T1, _, rfl, SqT.of upd_same, rfl, _, _, rfl, _, _, rfl, rfl, ?_⟩
      have x2 : Ext H1 (upd H1 T1 (.tup [.ref q1, .int k.2])) := Ext.upd hT1
      have x12 := ext_trans x1 x2
      refine ⟨_, rfl, e, oe, _, rfl, x12 _ _ he, for_itemsT (L := M) (fun j σ H' => ∃ u5 u6 T, σ = [some (.ref d), some (.ref e), some (.ref S), some (.ref q1), some (.int k.2), u5, u6] ∧ Ext H H' ∧ H' q1 = some (.tup (k.1.map kV)) ∧ TermsAt H' S (enc T) ∧ Paired PT T (pairsT (L.take i) M ++ (M.take j).map fun m => (k, m)))
        ⟨u5, u6, T, rfl, x12, x2 _ _ hq1, t1.ext x2, by rw [List.take_zero, List.map_nil, List.append_nil]; exact p1⟩ (fun j σ H' ⟨_, _, _, _, x, _⟩ => x _ _ he) ?_ ?_⟩
      · rintro j m σ H3 T3 q3 hj ⟨u5, u6, T', rfl, x3, hq1', t3, p3⟩ hT3 hq3
        refine ⟨T3, _, rfl, SqT.of upd_same, rfl, _, _, rfl, _, _, rfl, rfl, ?_⟩
        have x4 : Ext H3 (upd H3 T3 (.tup [.ref q3, .int m.2])) := Ext.upd hT3
        have hmL : k ∈ L := List.mem_of_getElem? hi
        have hmM : m ∈ M := List.mem_of_getElem? hj
        obtain ⟨xs, ex⟩ := ok.sL k hmL
        obtain ⟨ys, ey⟩ := ok.sM m hmM
        have hdg := ok.dg k hmL m hmM
        rw [ex, ey, List.length_map, List.length_map] at hdg
        have hcl := ok.cL k hmL
        rw [ex, str_map] at hq1'
        rw [ey, str_map] at hq3
        obtain ⟨ts, e1, e2⟩ := t3.ext x4
        have hlT : T'.length < sizeLine := by
          have h1 := paired_len p3
          rw [List.length_append, pairs_len, List.length_map, List.length_take, List.length_take] at h1
          have hiL := (List.getElem?_eq_some_iff.mp hi).1
          have hjM := (List.getElem?_eq_some_iff.mp hj).1
          have hln := ok.ln
          have : (i + 1) * M.length ≤ L.length * M.length := Nat.mul_le_mul_right _ hiL
          rw [Nat.add_mul] at this
          rw [show min i L.length = i by omega] at h1
          omega
        have hlts := paired_len e2
        rw [enc_len] at hlts
        refine ⟨_, rfl, .inl ⟨rfl, _, SqL.of e1⟩, ?_⟩
        have hq1'' := x4 _ _ hq1'
        have hq3'' := x4 _ _ hq3
        refine ⟨_, rfl, _, rfl, catA_all (SqT.of hq1'') (SqT.of hq3'') (by rw [List.length_map, List.length_map, sizeLine_eq]; omega) fun c Hc xc hc => ?_⟩
        refine ⟨c, xs ++ ys, rfl, by rw [List.map_append]; exact hc, by rw [List.length_append]; exact hdg, fun zs p hperm hso hp => ?_⟩
        refine .inl ⟨p, _, rfl, SqL.of upd_same, fun t ht => ⟨_, rfl, _, rfl, _, _, rfl, rfl, .inl ⟨by omega, by omega⟩, (by show 2 ≤ sizeLine; decide), fun T5 hT5 => ?_⟩⟩
        have x5 : Ext Hc (upd Hc p (.lst (zs.map V.str))) := Ext.upd hp
        have x6 := ext_trans x5 (Ext.upd (o := .tup (zs.map V.str)) ht)
        have x7 := ext_trans x6 (Ext.upd (o := .tup [.ref t, .int (k.2 * m.2)]) hT5)
        have x8 := ext_trans xc x7
        have hSe := x8 _ _ e1
        refine ⟨S, _, _, rfl, rfl, hSe, (by rw [List.length_map, hlts]; exact hlT), ?_⟩
        have keyx : ∀ b o, b ≠ S → upd (upd (upd Hc p (.lst (zs.map V.str))) t (.tup (zs.map V.str))) T5 (.tup [.ref t, .int (k.2 * m.2)]) b = some o → upd (upd (upd (upd Hc p (.lst (zs.map V.str))) t (.tup (zs.map V.str))) T5 (.tup [.ref t, .int (k.2 * m.2)])) S (.lst (ts.map V.ref ++ [.ref T5])) b = some o := fun b o hb e => by rw [upd_ne hb]; exact e
        have hT5S : T5 ≠ S := fun z => by rw [← z, upd_same] at hSe; cases hSe
        have htT5 : t ≠ T5 := fun z => by rw [← z, upd_same] at hT5; cases hT5
        have htS : t ≠ S := fun z => by rw [← z, upd_ne htT5, upd_same] at hSe; cases hSe
        have x9 : Ext H3 (upd (upd (upd Hc p (.lst (zs.map V.str))) t (.tup (zs.map V.str))) T5 (.tup [.ref t, .int (k.2 * m.2)])) := ext_trans x4 x8
        refine ⟨_, _, T' ++ [(zs.map Sum.inr, k.2 * m.2)], rfl, fun b o eb => keyx _ _ (fun z => by rw [z, hS] at eb; cases eb) (x9 _ _ (x3 _ _ eb)), keyx _ _ (fun z => ?_) ?_, ⟨ts ++ [T5], by rw [upd_same, List.map_append]; rfl, ?_⟩, ?_⟩
        · rw [z] at hq1'
          obtain ⟨_, r1, _⟩ := t3
          rw [hq1'] at r1
          cases r1
        · rw [ex, str_map]
          exact x9 _ _ hq1'
        · rw [enc_append]
          refine paired_append (paired_mono (fun y kv (r : TmAt _ y kv) => ?_) e2) (.cons ⟨t, ?_, ?_⟩ .nil)
          · obtain ⟨q', r1, r2⟩ := r.ext x8
            have n1 : y ≠ S := fun z => by rw [z, hSe] at r1; cases r1
            have n2 : q' ≠ S := fun z => by rw [z, hSe] at r2; cases r2
            exact ⟨q', keyx _ _ n1 r1, keyx _ _ n2 r2⟩
          · exact keyx _ _ hT5S upd_same
          · refine keyx _ _ htS ?_
            rw [upd_ne htT5, upd_same]
            exact congrArg (fun z => some (HO.tup z)) str_map.symm
        · rw [take_succ hj, List.map_append, ← List.append_assoc]
          refine paired_append p3 (.cons ⟨⟨zs, rfl, hso⟩, ?_, rfl⟩ .nil)
          show (zs.map Sum.inr).Perm (k.1 ++ m.1)
          rw [ex, ey, ← List.map_append]
          exact hperm.map _
      · rintro σ H3 ⟨u5, u6, T', rfl, x3, _, t3, p3⟩
        rw [List.take_length] at p3
        refine ⟨_, _, _, _, T', rfl, x3, t3, ?_⟩
        rw [take_succ hi, pairs_snoc]
        exact p3
    · rintro σ H1 ⟨u3, u4, u5, u6, T, rfl, x1, t1, p1⟩
      rw [List.take_length] at p1
      exact ⟨_, rfl, hQ S H1 T x1 t1 p1⟩
end
end K75
set_option Elab.async false
set_option linter.all false
set_option maxRecDepth 100000
set_option maxHeartbeats 4000000
namespace K75
open PySem PySem.Spec PyProof.Rows L2
abbrev sMNames : Stmt := inClass (top 21) 9
abbrev sMCont : Stmt := inClass (top 21) 11
abbrev sMVan : Stmt := inClass (top 21) 12
abbrev sMPut : Stmt := inClass (top 21) 13
abbrev sMVal : Stmt := inClass (top 21) 14
theorem sc_MNames : FnScope ["self", "names", "name"] ["self"] (defScope sMNames) := ⟨rfl, rfl, rfl, by decide +kernel, rfl, by decide +kernel, by decide +kernel⟩
theorem sc_MCont : FnScope ["self", "found", "coefficient"] ["self"] (defScope sMCont) := ⟨rfl, rfl, rfl, by decide +kernel, rfl, by decide +kernel, by decide +kernel⟩
theorem sc_MVan : FnScope ["self"] ["self"] (defScope sMVan) := ⟨rfl, rfl, rfl, by decide +kernel, rfl, by decide +kernel, by decide +kernel⟩
theorem sc_MPut : FnScope ["self", "values", "terms", "names", "coefficient", "name"] ["self", "values"] (defScope sMPut) := ⟨rfl, rfl, rfl, by decide +kernel, rfl, by decide +kernel, by decide +kernel⟩
theorem sc_MVal : FnScope ["self", "values", "p", "name", "found"] ["self", "values", "p"] (defScope sMVal) := ⟨rfl, rfl, rfl, by decide +kernel, rfl, by decide +kernel, by decide +kernel⟩
def spMMul (CM : Addr) : Sp := fun vs H Q _ => ∃ (a b : Addr) (L M : Tm), vs = [.ref a, .ref b] ∧ MnO CM H a L ∧ MnO CM H b M ∧ PTok L M ∧ ∀ T, Paired PT T (pairsT L M) → mkMn CM H (norm T) Q
def gcdL (L : Tm) : Int := L.foldl (fun g p => (Int.gcd g p.2 : Int)) 0
theorem gcdL_snoc {L : Tm} {p : List Key × Int} : gcdL (L ++ [p]) = (Int.gcd (gcdL L) p.2 : Int) := by unfold gcdL; rw [List.foldl_append]; rfl
def spMCont (CM : Addr) : Sp := fun vs H Q _ => ∃ (a : Addr) (L : Tm), vs = [.ref a] ∧ MnO CM H a L ∧ Q (.int (gcdL L)) H
def spMVan (K : PySem.W.Frag) (CC CM : Addr) : Sp := fun vs H Q _ => ∃ (b : Addr) (L : Tm), vs = [.ref b] ∧ MnO CM H b L ∧ (gcdL L).natAbs < 2 ^ 50 ∧ ∀ a H' ps, Ext H H' → ChO K CC H' a (decide (gcdL L = 0)) ps → PsOk ps → (gcdL L = 0 → ps = []) → (gcdL L ≠ 0 → ∀ x, x ∈ ps ↔ IsPi x ∧ gcdL L % x = 0) → Q (.ref a) H'
/-- at most one term of at most one name -/
def Sm (L : Tm) (xs : List Str) : Prop := (L = [] ∧ xs = []) ∨ ∃ c, L = [(xs.map Sum.inr, c)] ∧ xs.length ≤ 1
def spMNames (CM : Addr) : Sp := fun vs H Q _ => ∃ (a : Addr) (L : Tm) (xs : List Str), vs = [.ref a] ∧ MnO CM H a L ∧ Sm L xs ∧ ∀ p H', Ext H H' → H' p = some (.lst (xs.map V.str)) → Q (.ref p) H'
section
variable {P : Program} {w : World} {K : PySem.W.Frag} {mg : Str → Option Value} {base : Heap} {f CM CC : Addr} {fd : FuncData}
theorem ok_MMul (F : FnP K "__mul__" "Many.__mul__" sMMul f fd) (T : MnT K mg CM) (M : Mak P w K mg base CX0 2 CM (spMI CM)) (cP : Cal P w K mg base CX0 1 "product_terms" spPT) : FnOk P w K mg base CX0 4 f fd ["self", "other"] (spMMul CM) := by
  refine F.ok sc_MMul (fun vs H Q E h => ?_) (fun cdv A outer s H vs Q E hr h => ⟨_, PSs.nox (pss_one (ps_ret (pe_mk M hr (by decide) rfl T.mgC pass0 (pa_cons (pe_c cP hr (by decide) rfl pass0 (pa_cons (pe_fld (pv 0) rfl) (pa_cons (pe_fld (pv 1) rfl) pa_nil))) pa_nil)))), ?_⟩)
  · obtain ⟨a, b, L, M, rfl, _⟩ := h
    rfl
  · obtain ⟨a, b, L, M', rfl, ⟨dx, d, od, ha, hd⟩, ⟨dy, e, oe, hb, he⟩, ok, hQ⟩ := h
    refine ⟨_, rfl, a, CM, dx, _, _, rfl, ha, T.cl, T.nT, mnF_t _, _, rfl, b, CM, dy, _, _, rfl, hb, T.cl, T.nT, mnF_t _, d, e, od, oe, L, M', rfl, hd, he, ok, fun p H' T' hE hT hp => ?_⟩
    have hl := paired_len hp
    rw [pairs_len] at hl
    exact fun x dx hx hdx hne => mk_mn hT (by rw [hl]; exact ok.ln) (fun a' H2 hE2 hm => hQ T' hp a' H2 (ext_trans hE hE2) hm) x dx hx hdx hne
theorem ok_MCont (F : FnP K "content" "Many.content" sMCont f fd) (T : MnT K mg CM) (cC : Cal P w K mg base CX0 1 "common" spCommon) : FnOk P w K mg base CX0 2 f fd ["self"] (spMCont CM) := by
  refine F.ok sc_MCont (fun vs H Q E h => ?_) (fun cdv A outer s H vs Q E hr h => ⟨_, PSs.nox (pss_cons (ps_set (i := 1) sc_MCont.nd rfl (Or.inl rfl) pe_int)
    (pss_cons (ps_for (fun _ _ h => h.elim) rfl (pi_valuesT (pe_fld (pv 0) rfl)) (pg_name (i := 2) sc_MCont.nd rfl (Or.inl rfl)) (pss_one (ps_set (i := 1) sc_MCont.nd rfl (Or.inl rfl) (pe_c cC hr (by decide) rfl pass0 (pa_cons (pv 1) (pa_cons (pv 2) pa_nil))))))
    (pss_one (ps_ret (pv 1))))), ?_⟩)
  · obtain ⟨a, L, rfl, _⟩ := h
    rfl
  · obtain ⟨a, L, rfl, ⟨dx, d, od, ha, hd⟩, hQ⟩ := h
    refine ⟨_, rfl, a, CM, dx, _, _, rfl, ha, T.cl, T.nT, mnF_t _, d, od, _, rfl, hd, ?_⟩
    refine ⟨fun i m σ H' => m = L.length - i ∧ i ≤ L.length ∧ H' = H ∧ ∃ u, σ = [some (.ref a), some (.int (gcdL (L.take i))), u], ⟨_, rfl, Nat.zero_le _, rfl, none, rfl⟩, ?_⟩
    rintro i m σ H' ⟨rfl, hle, rfl, u, rfl⟩
    by_cases hlt : i < L.length
    · refine .inr ⟨⟨hd, by rw [enc_len]; exact hlt⟩, fun σ' H2 => i + 1 ≤ L.length ∧ H2 = H' ∧ ∃ u, σ' = [some (.ref a), some (.int (gcdL (L.take (i + 1)))), u], fun σ' H2 q => ⟨L.length - (i + 1), by omega, rfl, q⟩, ?_⟩
      rintro x H2 ⟨rfl, k, hk⟩
      have hLi : L[i]? = some L[i] := List.getElem?_eq_getElem hlt
      have hkv2 : (enc L)[i]? = some (L[i].1, V.int L[i].2) := by
        unfold enc
        rw [List.getElem?_map, hLi]
        rfl
      rw [hkv2] at hk
      obtain ⟨rfl, rfl⟩ := Prod.mk.inj (Option.some.inj hk)
      refine ⟨_, rfl, _, rfl, _, _, rfl, hlt, rfl, some (.int L[i].2), ?_⟩
      rw [take_succ hLi, gcdL_snoc]
      rfl
    · have e : i = L.length := by omega
      subst e
      rw [List.take_length]
      exact .inl ⟨⟨hd, by rw [enc_len]; exact Nat.le_refl _⟩, _, rfl, hQ⟩
theorem ok_MVan (F : FnP K "vanishing" "Many.vanishing" sMVan f fd) (mC : mg "Chars" = some (.ref CC)) (cZ : ClM P w K mg base CX0 4 CC "zero_of" (spChZ K CC)) (mD : Met P w K mg base CX0 2 CM "content" (spMCont CM)) : FnOk P w K mg base CX0 5 f fd ["self"] (spMVan K CC CM) := by
  refine F.ok sc_MVan (fun vs H Q E h => ?_) (fun cdv A outer s H vs Q E hr h => ⟨_, PSs.nox (pss_one (ps_ret (pe_cm cZ hr (by decide) pass0 (pe_glob (v := V.ref CC) rfl mC rfl) (pa_cons (pe_m0 mD hr (by decide) pass0 (pv 0)) pa_nil)))), ?_⟩)
  · obtain ⟨a, L, rfl, _⟩ := h
    rfl
  · obtain ⟨a, L, rfl, hm, hb, hQ⟩ := h
    have hm' := hm
    obtain ⟨dx, d, od, ha, hd⟩ := hm'
    exact ⟨rfl, _, rfl, a, dx, _, rfl, ha, rfl, a, L, rfl, hm, _, rfl, hb, hQ⟩
theorem ok_MNames (F : FnP K "names" "Many.names" sMNames f fd) (T : MnT K mg CM) : FnOk P w K mg base CX0 1 f fd ["self"] (spMNames CM) := by
  refine F.ok sc_MNames (fun vs H Q E h => ?_) (fun cdv A outer s H vs Q E hr h => ⟨_, PSs.nox (pss_one (ps_ret (pe_callB (cr_sortedE rfl) (by rfl) T.srt (by decide +kernel) (pa_cons (pe_sc2 (own := [("names", 1), ("name", 2)]) (vs1 := [2]) (g := gName 1) (g1 := gName 2) (wi1 := iTup K (tVar 1)) (te := tVar 2) rfl sc_MNames.nd (pi_keys (pe_fld (pv 0) rfl))
      (blkOk_by (own := [("names", 1), ("name", 2)]) (N := ["self", "names", "name"]) (sc := defScope sMNames) (by decide +kernel)) (by decide) (fun _ _ _ _ _ => pg_name (i := 1) sc_MNames.nd rfl (Or.inl rfl)) (fun _ _ _ _ _ => pi_tup (pv 1)) (fun _ _ _ _ _ => pg_name (i := 2) sc_MNames.nd rfl (Or.inl rfl)) (fun _ _ _ _ _ => pv 2)) pa_nil)))), ?_⟩)
  · obtain ⟨a, L, xs, rfl, _⟩ := h
    rfl
  · obtain ⟨a, L, xs, rfl, ⟨dx, d, od, ha, hd⟩, hsm, hQ⟩ := h
    refine ⟨_, rfl, a, CM, dx, _, _, rfl, ha, T.cl, T.nT, mnF_t _, d, od, rfl, .inr ⟨enc L, hd, fun D hDn => ?_⟩⟩
    have fin : ∀ H3, Ext H H3 → H3 D = some (SetSO w D xs) → rSortedE w [.ref D] H3 Q := fun H3 hE hD => ⟨D, xs, rfl, hD, fun p hp => hQ p _ (ext_trans hE (Ext.upd hp)) upd_same⟩
    have x0 : Ext H (upd H D (SetSO w D [])) := Ext.upd hDn
    rcases hsm with ⟨rfl, rfl⟩ | ⟨c, rfl, hx1⟩
    · refine ⟨fun i m H3 => H3 = upd H D (SetSO w D []), ⟨0, rfl⟩, ?_⟩
      rintro i m H3 rfl
      exact .inl ⟨⟨x0 _ _ hd, Nat.zero_le _⟩, fin _ x0 upd_same⟩
    · refine ⟨fun i m H3 => m = 1 - i ∧ i ≤ 1 ∧ Ext H H3 ∧ H3 D = some (SetSO w D (if i = 0 then [] else xs)), ⟨1, rfl, by decide, x0, by rw [upd_same]; rfl⟩, ?_⟩
      rintro i m H3 ⟨rfl, hi, hE, hD⟩
      by_cases h0 : i = 0
      · subst h0
        refine .inr ⟨⟨hE _ _ hd, by show 0 < 1; decide⟩, fun H4 => Ext H H4 ∧ H4 D = some (SetSO w D xs), fun H4 q => ⟨0, by decide, rfl, Nat.le_refl _, q.1, q.2⟩, ?_⟩
        rintro x H4 ⟨rfl, k, v, q, hk, rfl, hq⟩
        obtain ⟨rfl, rfl⟩ := Prod.mk.inj (Option.some.inj (show some (xs.map Sum.inr, V.int c) = some (k, v) from hk))
        rw [str_map] at hq
        refine ⟨wipe_set (by decide), _, rfl, q, rfl, ⟨_, SqT.of hq⟩, ?_⟩
        refine ⟨fun j k H5 => k = xs.length - j ∧ j ≤ xs.length ∧ Ext H H5 ∧ H5 q = some (.tup (xs.map V.str)) ∧ H5 D = some (SetSO w D (xs.take j)), ⟨_, rfl, Nat.zero_le _, hE, hq, by rw [List.take_zero]; exact hD⟩, ?_⟩
        rintro j k H5 ⟨rfl, hj, hE5, hq5', hD5⟩
        have hq5 : SqT K H5 q (xs.map V.str) := SqT.of hq5'
        by_cases hlt : j < xs.length
        · have hj0 : j = 0 := by omega
          subst hj0
          refine .inr ⟨⟨_, V.str xs[0], hq5, by simp [hlt]⟩, fun H6 => Ext H H6 ∧ H6 q = some (.tup (xs.map V.str)) ∧ H6 D = some (SetSO w D (xs.take 1)), fun H6 q => ⟨xs.length - 1, by omega, rfl, hlt, q⟩, ?_⟩
          rintro x H6 ⟨rfl, hx⟩
          have hx2 := hx _ hq5
          rw [List.getElem?_map, List.getElem?_eq_getElem hlt] at hx2
          obtain rfl : V.str xs[0] = x := Option.some.inj hx2
          have hqD : q ≠ D := fun z => by
            have := hE _ _ hd
            rw [z, hD] at hq
            cases hq
          refine ⟨wipe_set (by decide), _, rfl, xs[0], rfl, hD5, fun b o e => ?_, ?_, ?_⟩
          · have : b ≠ D := fun z => by rw [z, hDn] at e; cases e
            rw [upd_ne this]
            exact hE5 _ _ e
          · rw [upd_ne hqD]
            exact hq5'
          · rw [upd_same, show xs.take 1 = [xs[0]] by cases xs with | nil => exact absurd hlt (by decide) | cons y ys => rfl]
            rfl
        · have e : j = xs.length := by omega
          subst e
          rw [List.take_length] at hD5
          exact .inl ⟨⟨_, hq5, by rw [List.length_map]; exact Nat.le_refl _⟩, hE5, hD5⟩
      · have e : i = 1 := by omega
        subst e
        exact .inl ⟨⟨hE _ _ hd, Nat.le_refl _⟩, fin H3 hE hD⟩
end
end K75
set_option Elab.async false
set_option linter.all false
set_option maxRecDepth 100000
set_option maxHeartbeats 4000000
namespace K75
open PySem PySem.Spec PyProof.Rows L2
/-- n is the value of L behind these values -/
structure IsVal (L : Tm) (kvs : List (Key × V)) (n : Int) : Prop where
  z : L = [] → n = 0
  c : ∀ c, L = [([], c)] → n = c
  x : ∀ x c, L = [([.inr x], c)] → ∃ v : Int, valV kvs (.inr x) = some (.int v) ∧ n = c * v
def spMPut (CM : Addr) : Sp := fun vs H Q _ => ∃ (a dv : Addr) (L : Tm) (xs : List Str) (kvs : List (Key × V)) (n : Int), vs = [.ref a, .ref dv] ∧ MnO CM H a L ∧ Sm L xs ∧ (∀ p ∈ L, p.2.natAbs < 2 ^ 60) ∧ Rd H dv (.dK kvs) ∧ IsVal L kvs n ∧ mkMn CM H (numL n) Q
section
variable {P : Program} {w : World} {K : PySem.W.Frag} {mg : Str → Option Value} {base : Heap} {f CM CC : Addr} {fd : FuncData}
theorem rd_ext {H H' : Hp} {a : Addr} {u : HO} (h : Rd H a u) (x : Ext H H') : Rd H' a u := h.imp (x _ _) fun ⟨o, e⟩ => ⟨o, x _ _ e⟩
theorem ok_MPut (F : FnP K "put" "Many.put" sMPut f fd) (T : MnT K mg CM) (M : Mak P w K mg base CX0 2 CM (spMI CM)) : FnOk P w K mg base CX0 4 f fd ["self", "values"] (spMPut CM) := by
  refine F.ok sc_MPut (fun vs H Q E h => ?_) (fun cdv A outer s H vs Q E hr h => ⟨_, PSs.nox (pss_cons (ps_set (i := 2) sc_MPut.nd rfl (Or.inl rfl) (pe_lst pa_nil))
    (pss_cons (ps_for (fun _ _ h => h.elim) rfl (pi_itemsT (pe_fld (pv 0) rfl)) (pg_tup (by rfl) (pgs_cons (pg_name (i := 3) sc_MPut.nd rfl (Or.inl rfl)) (pgs_cons (pg_name (i := 4) sc_MPut.nd rfl (Or.inl rfl)) pgs_nil)))
      (pss_cons (ps_for (fun _ _ h => h.elim) rfl (pi_tup (pv 3)) (pg_name (i := 5) sc_MPut.nd rfl (Or.inl rfl)) (pss_one (ps_set (i := 4) sc_MPut.nd rfl (Or.inl rfl) (pe_op op_mul (pv 4) (pe_dget2 (hu_of hr) (pv 1) (pv 5) pe_int ⟨rfl, rfl, rfl, rfl⟩)))))
       (pss_one (ps_expr (pe_bm PySem.F.plainAttrs_list PySem.F.slot_list_append PySem.F.type_list_append mt_append (pv 2) (pa_cons (pe_tup (pa_cons (pe_tupleOf (by rfl) T.tup (pe_lc (own := [("name", 5)]) (g := gName 5) (tt := tB (tDNotIn (tVar 5) (tVar 1))) rfl sc_MPut.nd (pi_tup (pv 3))
          (blkOk_by (own := [("name", 5)]) (N := ["self", "values", "terms", "names", "coefficient", "name"]) (sc := defScope sMPut) (by decide +kernel)) (fun _ _ _ _ _ => pg_name (i := 5) sc_MPut.nd rfl (Or.inl rfl)) (fun _ _ _ _ _ => pts_one (pt_cmp (pc_dnotin (hu_of hr) (pv 5) (pv 1)) rfl)) (fun _ _ _ _ _ => pv 5))) (pa_cons (pv 4) pa_nil))) pa_nil))))))
    (pss_one (ps_ret (pe_mk M hr (by decide) rfl T.mgC pass0 (pa_cons (pv 2) pa_nil)))))), ?_⟩)
  · obtain ⟨a, dv, L, xs, kvs, n, rfl, _⟩ := h
    rfl
  · obtain ⟨a, dv, L, xs, kvs, n, rfl, ⟨dx, d, od, ha, hd⟩, hsm, hcb, hrd, hv, hQ⟩ := h
    refine ⟨Nat.zero_le _, fun S hS => ?_⟩
    have x0 : Ext H (upd H S (.lst [])) := Ext.upd hS
    refine ⟨_, rfl, a, CM, dx, _, _, rfl, x0 _ _ ha, T.cl, T.nT, mnF_t _, d, od, _, rfl, x0 _ _ hd, for_itemsT (L := L) (fun i σ H' => ∃ u3 u4 u5 T, σ = [some (.ref a), some (.ref dv), some (.ref S), u3, u4, u5] ∧ Ext H H' ∧ TermsAt H' S (enc T) ∧ i ≤ L.length ∧ (i = 0 → T = []) ∧ (i ≠ 0 → T = [([], n)]))
      ⟨none, none, none, [], rfl, x0, ⟨[], by rw [upd_same]; rfl, .nil⟩, Nat.zero_le _, fun _ => rfl, fun z => absurd rfl z⟩ (fun i σ H' ⟨_, _, _, _, _, x, _⟩ => x _ _ hd) ?_ ?_⟩
    · rintro i k σ H1 T1 q1 hi ⟨u3, u4, u5, T0, rfl, x1, t1, hiL, hT0, _⟩ hT1 hq1
      rcases hsm with ⟨rfl, rfl⟩ | ⟨c, rfl, hx1⟩
      · simp at hi
      have hi0 : i = 0 := by have := (List.getElem?_eq_some_iff.mp hi).1; simp at this; omega
      subst hi0
      obtain rfl : (xs.map Sum.inr, c) = k := by simpa using hi
      obtain rfl := hT0 rfl
      rw [str_map] at hq1
      have hcb := hcb _ List.mem_cons_self
      refine ⟨T1, _, rfl, SqT.of upd_same, rfl, _, _, rfl, _, _, rfl, rfl, ?_⟩
      have x2 : Ext H1 (upd H1 T1 (.tup [.ref q1, .int c])) := Ext.upd hT1
      have x12 := ext_trans x1 x2
      have hq1' := x2 _ _ hq1
      refine ⟨_, rfl, q1, rfl, ⟨_, SqT.of hq1'⟩, for_tup (K := K) (a := q1) (xs := xs.map V.str) (fun j σ H' => H' = upd H1 T1 (.tup [.ref q1, .int c]) ∧ ∃ u, σ = [some (.ref a), some (.ref dv), some (.ref S), some (.ref q1), some (.int (if j = 0 then c else n)), u])
        ⟨rfl, _, rfl⟩ (fun j σ H' _ hp => by rw [hp.1]; exact SqT.of hq1') ?_ ?_⟩
      · rintro j x σ H' hj ⟨rfl, u, rfl⟩
        rw [List.getElem?_map] at hj
        match xs, hx1, hj, hv with
        | [], _, hj, _ => simp at hj
        | [y], _, hj, hv =>
          have hj0 : j = 0 := by
            cases j with
            | zero => rfl
            | succ j => simp at hj
          subst hj0
          obtain rfl : V.str y = x := by simpa using hj
          obtain ⟨v, hv1, hv2⟩ := hv.x y c rfl
          refine ⟨_, rfl, _, rfl, dv, rfl, .inl ⟨kvs, rd_ext hrd x12⟩, _, rfl, _, .inl ⟨kvs, .inr y, rd_ext hrd x12, rfl, rfl⟩, ?_⟩
          rw [hv1]
          refine ⟨_, _, rfl, rfl, .inl ⟨by omega, by omega⟩, rfl, some (.str y), ?_⟩
          rw [hv2]
          rfl
      · rintro σ H' ⟨rfl, u, rfl⟩
        have hnn : (if (xs.map V.str).length = 0 then c else n) = n := by
          split
          · rename_i h0
            have : xs = [] := by simpa using h0
            subst this
            exact (hv.c c rfl).symm
          · rfl
        rw [hnn]
        obtain ⟨ts, e1, e2⟩ := t1.ext x2
        have hts0 := paired_len e2
        obtain rfl : ts = [] := List.length_eq_zero_iff.mp hts0
        refine ⟨_, rfl, .inl ⟨rfl, _, SqL.of e1⟩, _, rfl, q1, rfl, ⟨_, SqT.of hq1'⟩, fun D hD => ?_⟩
        refine lc_tup (xs := xs.map V.str) (fun j H' => H' = upd (upd H1 T1 (.tup [.ref q1, .int c])) D (.lst [])) rfl (fun j H' _ e => by rw [e]; exact (SqT.of hq1').ext (Ext.upd hD)) ?_ ?_
        · rintro j x H' hj rfl
          rw [List.getElem?_map] at hj
          match xs, hx1, hj, hv with
          | [], _, hj, _ => simp at hj
          | [y], _, hj, hv =>
            have hj0 : j = 0 := by
              cases j with
              | zero => rfl
              | succ j => simp at hj
            subst hj0
            obtain rfl : V.str y = x := by simpa using hj
            obtain ⟨v, hv1, hv2⟩ := hv.x y c rfl
            refine ⟨wipe_set (by decide), _, rfl, _, rfl, dv, _, rfl, .inl ⟨kvs, .inr y, rd_ext hrd (ext_trans x12 (Ext.upd hD)), rfl, rfl⟩, _, rfl, ?_⟩
            rw [hv1]
            exact iteF rfl
        · rintro H' rfl
          refine .inl ⟨D, [], rfl, SqL.of upd_same, fun t ht => ⟨_, rfl, (by show 2 ≤ sizeLine; decide), fun T5 hT5 => ?_⟩⟩
          have x5 : Ext (upd H1 T1 (.tup [.ref q1, .int c])) _ := ext_trans (Ext.upd hD) (ext_trans (Ext.upd (o := .tup []) ht) (Ext.upd (o := .tup [.ref t, .int n]) hT5))
          have hSe := x5 _ _ e1
          refine ⟨S, _, _, rfl, rfl, hSe, by decide, ?_⟩
          have hT5S : T5 ≠ S := fun z => by rw [← z, upd_same] at hSe; cases hSe
          have htT5 : t ≠ T5 := fun z => by rw [← z, upd_same] at hT5; cases hT5
          have htS : t ≠ S := fun z => by rw [← z, upd_ne htT5, upd_same] at hSe; cases hSe
          refine ⟨_, _, _, [([], n)], rfl, fun b o eb => ?_, one_term (t := T5) (q := t) upd_same ?_ ?_, Nat.le_refl _, fun z => absurd z (by decide), fun _ => rfl⟩
          · have : b ≠ S := fun z => by rw [z, hS] at eb; cases eb
            rw [upd_ne this]
            exact x5 _ _ (x12 _ _ eb)
          · rw [upd_ne hT5S, upd_same]
          · rw [upd_ne htS, upd_ne htT5, upd_same]
            rfl
    · rintro σ H1 ⟨u3, u4, u5, T0, rfl, x1, t1, _, hT0, hT1⟩
      refine ⟨_, rfl, fun x dx' hx hdx hne => mk_mn t1 ?_ (fun a' H2 hE2 hm => hQ a' H2 (ext_trans x1 hE2) ?_) x dx' hx hdx hne⟩
      · by_cases h0 : L.length = 0
        · rw [hT0 h0]; decide
        · rw [hT1 h0]; show 1 < sizeLine; decide
      · by_cases h0 : L.length = 0
        · rw [hT0 h0] at hm
          have : n = 0 := hv.z (List.length_eq_zero_iff.mp h0)
          rw [this]
          exact hm
        · rw [hT1 h0, norm_one] at hm
          exact hm
end
end K75
set_option Elab.async false
set_option linter.all false
set_option maxRecDepth 100000
set_option maxHeartbeats 4000000
namespace K75
open PySem PySem.Spec PyProof.Rows L2
theorem not_pi4 : ¬ ((4 : Int) = 0 ∨ IsPi 4) := fun h => h.elim (by decide) fun h => h.2 2 (by decide) (by decide) (by decide)
theorem cf_num {n : Int} : cf (numL n) [] = n := by
  unfold numL
  by_cases h : n = 0
  · rw [if_pos h, cf_nil, h]
  · rw [if_neg h, cf_cons, if_pos rfl]
theorem sm_val {L : Tm} {xs : List Str} {kvs : List (Key × V)} {n : Int} (hs : Sm L xs) (hv : IsVal L kvs n) (y : Str) (hy : y ∈ xs) : ∃ v : Int, valV kvs (.inr y) = some (.int v) := by
  rcases hs with ⟨_, e⟩ | ⟨c, e, hx⟩
  · rw [e] at hy
    cases hy
  · cases xs with
    | nil => cases hy
    | cons z zs =>
      have : zs = [] := by
        rw [List.length_cons] at hx
        exact List.length_eq_zero_iff.mp (by omega)
      rw [this] at hy e
      obtain ⟨v, h1, _⟩ := hv.x z c e
      rw [List.mem_singleton.mp hy]
      exact ⟨v, h1⟩
/-- the three ways out of value -/
def spMVal (CB CU CM : Addr) : Sp := fun vs H Q E => ∃ (a dv : Addr) (p : Int) (L : Tm) (xs : List Str) (kvs : List (Key × V)), vs = [.ref a, .ref dv, .int p] ∧ MnO CM H a L ∧ Sm L xs ∧ (∀ p ∈ L, p.2.natAbs < 2 ^ 60) ∧ Rd H dv (.dK kvs) ∧ p < 2 ^ 60 ∧
  (((p = 0 ∨ IsPi p) ∧ ∃ n, IsVal L kvs n ∧ ∀ H', Ext H H' → Q (.int (if p = 0 then n else n % p)) H') ∨
   ((p = 0 ∨ IsPi p) ∧ xs = (["b7y"] : List Str) ∧ valV kvs (.inr "b7y") = none ∧ ∀ H' d, Ext H H' → H' d = none → E (.ref CU) (some d) (upd H' d (.xd [("name", .str "b7y")]))) ∨
   (p = 4 ∧ ∀ d, H d = none → E (.ref CB) (some d) (upd H d (.xd [("p", .int 4)]))))
section
variable {P : Program} {w : World} {K : PySem.W.Frag} {mg : Str → Option Value} {base : Heap} {f CM CB CU : Addr} {fd : FuncData}
theorem ok_MVal (F : FnP K "value" "Many.value" sMVal f fd) (T : MnT K mg CM) (cK : Cal P w K mg base (L2.CX P w) 3 "checked" (spChk CB)) (cU : Exk P w K mg base 1 "UnknownName" CU (spXI CU "name" (.str "b7y"))) (mN : Met P w K mg base CX0 1 CM "names" (spMNames CM)) (mP : Met P w K mg base CX0 4 CM "put" (spMPut CM)) :
    FnOk P w K mg base (L2.CX P w) 5 f fd ["self", "values", "p"] (spMVal CB CU CM) := by
  refine F.ok sc_MVal (fun vs H Q E h => ?_) (fun cdv A outer s H vs Q E hr h => ⟨_, pss_cons (ps_expr (pe_c cK hr (by decide) rfl (passes_call (takes_of rfl rfl rfl rfl) (fun _ _ _ _ h => h)) (pa_cons (pv 2) pa_nil)))
    (pss_cons (ps_for (passes_of rfl) rfl (pi_list (pe_m0 mN hr (by decide) pass0 (pv 0))) (pg_name (i := 3) sc_MVal.nd rfl (Or.inl rfl)) (pss_one (ps_if (pt_cmp (pc_dnotin (hu_of hr) (pv 3) (pv 1)) rfl) (pss_one (ps_raise rfl (takes_of rfl rfl rfl rfl) (pmk_x cU hr (by decide) rfl (pa_cons (pv 3) pa_nil)))) pss_nil)))
    (pss_cons (ps_set (i := 4) sc_MVal.nd rfl (Or.inl rfl) (pe_dget2 (hu_of hr) (pe_fld (pe_m mP hr (by decide) pass0 (pv 0) (pa_cons (pv 1) pa_nil)) rfl) (pe_tup pa_nil) pe_int ⟨rfl, rfl, rfl, rfl⟩))
    (pss_one (ps_ret (pe_ifExp (pt_cmpR op_eq (pv 2) pe_int (nomark _)) (pv 4) (pe_op op_mod (pv 4) (pv 2))))))), ?_⟩)
  · obtain ⟨a, dv, p, L, xs, kvs, rfl, _⟩ := h
    rfl
  · obtain ⟨a, dv, p, L, xs, kvs, rfl, hm, hsm, hcb, hrd, hp, hway⟩ := h
    refine ⟨_, rfl, p, rfl, hp, fun hok => ?_, fun hno => ?_⟩
    · have hm' := hm
      obtain ⟨dx, d, od, ha, hd⟩ := hm'
      refine ⟨_, rfl, a, dx, _, rfl, ha, rfl, a, L, xs, rfl, hm, hsm, fun l H1 x1 hl => ⟨l, rfl, ⟨_, SqL.of hl⟩, ?_⟩⟩
      have hrd1 := rd_ext hrd x1
      rcases hway with ⟨_, n, hv, hQ⟩ | ⟨_, rfl, hnone, hE⟩ | ⟨rfl, _⟩
      · refine for_list (K := K) (a := l) (xs := xs.map V.str) (fun i σ H' => H' = H1 ∧ ∃ u, σ = [some (.ref a), some (.ref dv), some (.int p), u, none]) ⟨rfl, none, rfl⟩ (fun i σ H' _ h => by rw [h.1]; exact SqL.of hl) ?_ ?_
        · rintro i x σ H' hi ⟨rfl, u, rfl⟩
          rw [List.getElem?_map] at hi
          cases hy : xs[i]? with
          | none => rw [hy] at hi; cases hi
          | some y =>
            rw [hy] at hi
            obtain rfl : V.str y = x := Option.some.inj hi
            have hval := sm_val hsm hv y (List.mem_of_getElem? hy)
            obtain ⟨v, hv1⟩ := hval
            refine ⟨_, rfl, _, rfl, dv, _, rfl, .inl ⟨kvs, .inr y, hrd1, rfl, rfl⟩, _, rfl, ?_⟩
            rw [hv1]
            exact iteF ⟨rfl, _, rfl⟩
        · rintro σ H' ⟨rfl, u, rfl⟩
          refine ⟨_, rfl, a, dx, _, rfl, x1 _ _ ha, rfl, _, rfl, a, dv, L, xs, kvs, n, rfl, hm.ext x1, hsm, hcb, hrd1, hv, fun b H2 x2 hb => ?_⟩
          obtain ⟨dy, e, oe, hb1, he⟩ := hb
          refine ⟨b, CM, dy, _, _, rfl, hb1, T.cl, T.nT, mnF_t _, e, rfl, .inr ⟨_, .inr ⟨_, he⟩⟩, Nat.zero_le _, fun t ht => ?_⟩
          have x3 : Ext H2 (upd H2 t (.tup [])) := Ext.upd ht
          refine ⟨_, .inr ⟨_, [], t, .inr ⟨_, x3 _ _ he⟩, rfl, upd_same, rfl⟩, ?_⟩
          rw [val_enc, cf_num]
          have x4 := ext_trans x1 (ext_trans x2 x3)
          have q := hQ _ x4
          refine ⟨_, rfl, rfl, _, rfl, ifb (fun h0 => ?_) fun h0 => ?_⟩
          · rw [if_pos (V.int.inj h0)] at q
            exact ⟨_, rfl, q⟩
          · have hp0 : p ≠ 0 := fun z => h0 (congrArg V.int z)
            rw [if_neg hp0] at q
            refine ⟨_, rfl, _, rfl, _, _, rfl, rfl, ?_, q⟩
            rcases hok with z | z
            · exact absurd z hp0
            · have := z.1
              show 0 < p
              omega
      · refine for_list (K := K) (a := l) (xs := (["b7y"] : List Str).map V.str) (fun i σ H' => i = 0 ∧ H' = H1 ∧ σ = [some (.ref a), some (.ref dv), some (.int p), none, none]) ⟨rfl, rfl, rfl⟩ (fun i σ H' _ h => by rw [h.2.1]; exact SqL.of hl) ?_ ?_
        · rintro i x σ H' hi ⟨rfl, rfl, rfl⟩
          obtain rfl : V.str "b7y" = x := by simpa using hi
          refine ⟨_, rfl, _, rfl, dv, _, rfl, .inl ⟨kvs, .inr "b7y", hrd1, rfl, rfl⟩, _, rfl, ?_⟩
          rw [hnone]
          exact iteT ⟨_, rfl, by decide, fun e he => raise_xi (fun d hd' => hE _ d x1 hd') e he⟩
        · rintro σ H' ⟨h0, _⟩
          cases h0
      · exact absurd hok not_pi4
    · rcases hway with ⟨h, _⟩ | ⟨h, _⟩ | ⟨rfl, hE⟩
      · exact absurd h hno
      · exact absurd h hno
      · exact ⟨rfl, hE⟩
end
end K75
set_option Elab.async false
set_option linter.all false
set_option maxRecDepth 100000
set_option maxHeartbeats 4000000
namespace K75
open PySem PySem.Spec PyProof.Rows L2
/-! sums of products, plainly -/
def Inva (φ : List Key → Int) : Prop := ∀ k k' : List Key, k.Perm k' → φ k = φ k'
def PP (L M : Tm) (φ : List Key → Int) : Int := pr L fun k => pr M fun m => φ (k ++ m)
theorem Inva.left {φ : List Key → Int} (h : Inva φ) (k : List Key) : Inva fun m => φ (k ++ m) := fun m m' p => h _ _ (p.append_left k)
theorem pr_congr {L : Tm} {f g : List Key → Int} (h : ∀ k, f k = g k) : pr L f = pr L g := by rw [show f = g from funext h]
theorem pr_zero {L : Tm} : pr L (fun _ => 0) = 0 := by
  induction L with
  | nil => rfl
  | cons p L ih => rw [pr_cons, ih]; simp
theorem pr_addf {L : Tm} {f g : List Key → Int} : pr L (fun k => f k + g k) = pr L f + pr L g := by
  induction L with
  | nil => rfl
  | cons p L ih => rw [pr_cons, pr_cons, pr_cons, ih, Int.mul_add]; omega
theorem pr_subf {L : Tm} {f g : List Key → Int} : pr L (fun k => f k - g k) = pr L f - pr L g := by
  induction L with
  | nil => rfl
  | cons p L ih => rw [pr_cons, pr_cons, pr_cons, ih, Int.mul_sub]; omega
theorem pr_mulf {L : Tm} {c : Int} {f : List Key → Int} : pr L (fun k => c * f k) = c * pr L f := by
  induction L with
  | nil => simp [pr_nil]
  | cons p L ih => rw [pr_cons, pr_cons, ih, Int.mul_add, Int.mul_left_comm]
theorem pr_swap {L M : Tm} {ψ : List Key → List Key → Int} : pr L (fun k => pr M fun m => ψ k m) = pr M fun m => pr L fun k => ψ k m := by
  induction L with
  | nil => rw [pr_nil, show (fun m => pr [] fun k => ψ k m) = fun _ => 0 from rfl, pr_zero]
  | cons p L ih =>
    rw [pr_cons, ih, ← pr_mulf, ← pr_addf]
    exact pr_congr fun m => by rw [pr_cons]
theorem PP_comm {L M : Tm} {φ : List Key → Int} (h : Inva φ) : PP L M φ = PP M L φ := by
  unfold PP
  rw [pr_swap]
  exact pr_congr fun m => pr_congr fun k => h _ _ List.perm_append_comm
def T3 (A B C : Tm) (φ : List Key → Int) : Int := pr A fun k => pr B fun m => pr C fun n => φ (k ++ (m ++ n))
theorem T3_12 {A B C : Tm} {φ : List Key → Int} (h : Inva φ) : T3 A B C φ = T3 B A C φ := by
  unfold T3
  rw [pr_swap]
  refine pr_congr fun m => pr_congr fun k => pr_congr fun n => h _ _ ?_
  rw [← List.append_assoc, ← List.append_assoc]
  exact List.perm_append_comm.append_right n
theorem T3_23 {A B C : Tm} {φ : List Key → Int} (h : Inva φ) : T3 A B C φ = T3 A C B φ := by
  unfold T3
  refine pr_congr fun k => ?_
  rw [pr_swap]
  exact pr_congr fun m => pr_congr fun n => h _ _ (List.perm_append_comm.append_left k)
theorem T3_13 {A B C : Tm} {φ : List Key → Int} (h : Inva φ) : T3 A B C φ = T3 C B A φ := by rw [T3_12 h, T3_23 h, T3_12 h]
/-- L stands for this functional -/
def Sem (R : Tm) (F : (List Key → Int) → Int) : Prop := ∀ φ, Inva φ → pr R φ = F φ
theorem PP_sem {A X B F C E : Tm} (h : Sem X fun φ => PP B F φ - PP C E φ) {φ : List Key → Int} (hφ : Inva φ) : PP A X φ = T3 A B F φ - T3 A C E φ := by
  unfold PP
  rw [show (fun k => pr X fun m => φ (k ++ m)) = fun k => (pr B fun m => pr F fun n => φ (k ++ (m ++ n))) - (pr C fun m => pr E fun n => φ (k ++ (m ++ n))) from funext fun k => h _ (hφ.left k), pr_subf]
  rfl
/-- the three coordinates of a cross product -/
structure Crs (A B C D E F X Y Z : Tm) : Prop where
  x : Sem X fun φ => PP B F φ - PP C E φ
  y : Sem Y fun φ => PP C D φ - PP A F φ
  z : Sem Z fun φ => PP A E φ - PP B D φ
theorem crs_first {A B C D E F X Y Z : Tm} (h : Crs A B C D E F X Y Z) {φ : List Key → Int} (hφ : Inva φ) : PP A X φ + PP B Y φ + PP C Z φ = 0 := by
  rw [PP_sem h.x hφ, PP_sem h.y hφ, PP_sem h.z hφ, T3_12 (A := A) (B := B) hφ, T3_12 (A := A) (B := C) hφ, T3_12 (A := B) (B := C) hφ]
  omega
theorem crs_second {A B C D E F X Y Z : Tm} (h : Crs A B C D E F X Y Z) {φ : List Key → Int} (hφ : Inva φ) : PP D X φ + PP E Y φ + PP F Z φ = 0 := by
  rw [PP_sem h.x hφ, PP_sem h.y hφ, PP_sem h.z hφ, T3_13 (A := D) (B := B) hφ, T3_13 (A := D) (B := C) hφ, T3_13 (A := E) (B := A) hφ]
  omega
/-! sorted keys -/
theorem le_str {a b : Str} : ltCps b.cps.toList a.cps.toList = false ↔ a.cps.toList ≤ b.cps.toList := by
  rw [ltCps_eq, decide_eq_false_iff_not]
  exact Iff.rfl
theorem rising_all : ∀ (p : Str) (l : List Str), risingS p l = true → (p :: l).Pairwise fun a b => a.cps.toList ≤ b.cps.toList
  | p, [], _ => List.pairwise_singleton _ _
  | p, x :: r, h => by
    have h' : (!ltCps x.cps.toList p.cps.toList && risingS x r) = true := h
    rw [Bool.and_eq_true, Bool.not_eq_true'] at h'
    have ih := rising_all x r h'.2
    have hpx : p.cps.toList ≤ x.cps.toList := le_str.mp h'.1
    refine List.pairwise_cons.mpr ⟨fun y hy => ?_, ih⟩
    rcases List.mem_cons.mp hy with rfl | hy
    · exact hpx
    · exact List.le_trans hpx ((List.pairwise_cons.mp ih).1 y hy)
theorem sorted_all : ∀ l : List Str, sortedS l = true → l.Pairwise fun a b => a.cps.toList ≤ b.cps.toList
  | [], _ => .nil
  | x :: r, h => rising_all x r h
theorem str_ext {a b : Str} (h : a.cps.toList = b.cps.toList) : a = b := by
  obtain ⟨x⟩ := a
  obtain ⟨y⟩ := b
  exact congrArg Str.mk (Array.toList_inj.mp h)
theorem sorted_eq {xs ys : List Str} (h1 : sortedS xs = true) (h2 : sortedS ys = true) (h : xs.Perm ys) : xs = ys :=
  h.eq_of_pairwise (fun a b _ _ p q => str_ext (List.le_antisymm p q)) (sorted_all xs h1) (sorted_all ys h2)
end K75
set_option Elab.async false
set_option linter.all false
set_option maxRecDepth 100000
set_option maxHeartbeats 4000000
namespace K75
open PySem PySem.Spec PyProof.Rows L2
def SK (L : Tm) : Prop := ∀ p ∈ L, ∃ xs : List Str, p.1 = xs.map Sum.inr ∧ sortedS xs = true
/-- normal, keys sorted, weight at most n, degree at most d -/
structure GM (n d : Nat) (L : Tm) : Prop where
  nr : Nrm L
  sk : SK L
  nn : NN L ≤ n
  dg : ∀ p ∈ L, p.1.length ≤ d
theorem GM.mono {n d n' d' : Nat} {L : Tm} (h : GM n d L) (h1 : n ≤ n') (h2 : d ≤ d') : GM n' d' L := ⟨h.nr, h.sk, Nat.le_trans h.nn h1, fun p hp => Nat.le_trans (h.dg p hp) h2⟩
theorem GM.len {n d : Nat} {L : Tm} (h : GM n d L) : L.length ≤ n := Nat.le_trans (NN_len h.nr.nz) h.nn
theorem norm_SK {L : Tm} (h : SK L) : SK (norm L) := fun p hp => by
  obtain ⟨q, hq, e⟩ := List.mem_map.mp (norm_keys hp)
  rw [← e]
  exact h q hq
theorem norm_GM {n d : Nat} {L : Tm} (h : SK L) (hn : NN L ≤ n) (hd : ∀ p ∈ L, p.1.length ≤ d) : GM n d (norm L) :=
  ⟨norm_ok, norm_SK h, Nat.le_trans norm_NN hn, fun p hp => by
    obtain ⟨q, hq, e⟩ := List.mem_map.mp (norm_keys hp)
    rw [← e]
    exact hd q hq⟩
theorem add_GM {n m d : Nat} {L M : Tm} (h : GM n d L) (k : GM m d M) : GM (n + m) d (norm (L ++ M)) :=
  norm_GM (fun p hp => (List.mem_append.mp hp).elim (h.sk p) (k.sk p)) (by rw [NN_append]; exact Nat.add_le_add h.nn k.nn) fun p hp => (List.mem_append.mp hp).elim (h.dg p) (k.dg p)
theorem ng_NN {L : Tm} : NN (L.map ng) = NN L := by
  induction L with
  | nil => rfl
  | cons p L ih =>
    rw [List.map_cons, NN_cons, NN_cons, ih]
    show (-p.2).natAbs + _ = _
    rw [Int.natAbs_neg]
theorem ng_pr {L : Tm} {φ : List Key → Int} : pr (L.map ng) φ = - pr L φ := by
  induction L with
  | nil => rfl
  | cons p L ih =>
    rw [List.map_cons, pr_cons, pr_cons, ih]
    show (-p.2) * φ p.1 + _ = _
    rw [Int.neg_mul]
    omega
theorem neg_GM {n d : Nat} {L : Tm} (h : GM n d L) : GM n d (norm (L.map ng)) := by
  refine norm_GM (fun p hp => ?_) (by rw [ng_NN]; exact h.nn) fun p hp => ?_
  · obtain ⟨q, hq, rfl⟩ := List.mem_map.mp hp
    exact h.sk q hq
  · obtain ⟨q, hq, rfl⟩ := List.mem_map.mp hp
    exact h.dg q hq
theorem sub_GM {n m d : Nat} {L M : Tm} (h : GM n d L) (k : GM m d M) : GM (n + m) d (norm (L ++ norm (M.map ng))) := add_GM h (neg_GM k)
theorem sub_pr {L M : Tm} {φ : List Key → Int} : pr (norm (L ++ norm (M.map ng))) φ = pr L φ - pr M φ := by
  rw [norm_pr, pr_append, norm_pr, ng_pr]
  omega
theorem add_pr {L M : Tm} {φ : List Key → Int} : pr (norm (L ++ M)) φ = pr L φ + pr M φ := by rw [norm_pr, pr_append]
theorem paired_sum {α β : Type} {F : α → β → Prop} {f : α → Int} {g : β → Int} (hm : ∀ a b, F a b → f a = g b) : ∀ {l : List α} {m : List β}, Paired F l m → (l.map f).sum = (m.map g).sum
  | _, _, .nil => rfl
  | _, _, .cons r t => by rw [List.map_cons, List.map_cons, List.sum_cons, List.sum_cons, hm _ _ r, paired_sum hm t]
theorem paired_sumN {α β : Type} {F : α → β → Prop} {f : α → Nat} {g : β → Nat} (hm : ∀ a b, F a b → f a = g b) : ∀ {l : List α} {m : List β}, Paired F l m → (l.map f).sum = (m.map g).sum
  | _, _, .nil => rfl
  | _, _, .cons r t => by rw [List.map_cons, List.map_cons, List.sum_cons, List.sum_cons, hm _ _ r, paired_sumN hm t]
theorem paired_left {α β : Type} {F : α → β → Prop} : ∀ {l : List α} {m : List β}, Paired F l m → ∀ a ∈ l, ∃ b ∈ m, F a b
  | _, _, .nil, a, h => by cases h
  | _, _, .cons r t, a, h => by
    rcases List.mem_cons.mp h with rfl | h
    · exact ⟨_, List.mem_cons_self, r⟩
    · obtain ⟨b, hb, q⟩ := paired_left t a h
      exact ⟨b, List.mem_cons_of_mem _ hb, q⟩
theorem row_sum {c : Int} {M : Tm} {f : List Key → Int} : (M.map fun m => c * m.2 * f m.1).sum = c * pr M f := by
  induction M with
  | nil => simp [pr_nil]
  | cons m M ih => rw [List.map_cons, List.sum_cons, ih, pr_cons, Int.mul_add, Int.mul_assoc]
theorem row_NN {c : Int} {M : Tm} : (M.map fun m => (c * m.2).natAbs).sum = c.natAbs * NN M := by
  induction M with
  | nil => rfl
  | cons m M ih => rw [List.map_cons, List.sum_cons, ih, NN_cons, Nat.mul_add, Int.natAbs_mul]
theorem pairs_pr {L M : Tm} {φ : List Key → Int} : ((pairsT L M).map fun pm => pm.1.2 * pm.2.2 * φ (pm.1.1 ++ pm.2.1)).sum = PP L M φ := by
  unfold PP
  induction L with
  | nil => rfl
  | cons p L ih =>
    rw [pr_cons, ← ih]
    show ((M.map (fun m => (p, m)) ++ pairsT L M).map _).sum = _
    rw [List.map_append, List.sum_append, List.map_map, ← row_sum]
    rfl
theorem pairs_NN {L M : Tm} : ((pairsT L M).map fun pm => (pm.1.2 * pm.2.2).natAbs).sum = NN L * NN M := by
  induction L with
  | nil => rw [NN_nil, Nat.zero_mul]; rfl
  | cons p L ih =>
    show ((M.map (fun m => (p, m)) ++ pairsT L M).map _).sum = _
    rw [List.map_append, List.sum_append, List.map_map, ih, NN_cons, Nat.add_mul, ← row_NN]
    rfl
theorem pairs_mem {L M : Tm} {pm : (List Key × Int) × (List Key × Int)} (h : pm ∈ pairsT L M) : pm.1 ∈ L ∧ pm.2 ∈ M := by
  unfold pairsT at h
  obtain ⟨p, hp, h⟩ := List.mem_flatMap.mp h
  obtain ⟨m, hm, rfl⟩ := List.mem_map.mp h
  exact ⟨hp, hm⟩
theorem mul_GM {n m d e : Nat} {L M T : Tm} (h : GM n d L) (k : GM m e M) (hT : Paired PT T (pairsT L M)) : GM (n * m) (d + e) (norm T) := by
  refine norm_GM (fun p hp => ?_) ?_ fun p hp => ?_
  · obtain ⟨pm, _, r⟩ := paired_left hT p hp
    exact r.1
  · have : NN T = NN L * NN M := by
      rw [← pairs_NN]
      exact paired_sumN (fun a b (r : PT a b) => by rw [r.2.2]) hT
    rw [this]
    exact Nat.mul_le_mul h.nn k.nn
  · obtain ⟨pm, hm, r⟩ := paired_left hT p hp
    have hmm := pairs_mem hm
    rw [r.2.1.length_eq, List.length_append]
    exact Nat.add_le_add (h.dg _ hmm.1) (k.dg _ hmm.2)
theorem mul_sem {L M T : Tm} (hT : Paired PT T (pairsT L M)) : Sem (norm T) (PP L M) := fun φ hφ => by
  rw [norm_pr, ← pairs_pr]
  exact paired_sum (fun a b (r : PT a b) => by rw [r.2.2, hφ _ _ r.2.1]) hT
theorem GM.pt {n m d e : Nat} {L M : Tm} (h : GM n d L) (k : GM m e M) (h1 : n * m < 2 ^ 23) (h2 : d + e < 64) (h3 : n < 2 ^ 60) : PTok L M :=
  ⟨fun p hp => (h.sk p hp).imp fun _ z => z.1, fun p hp => (k.sk p hp).imp fun _ z => z.1, fun p hp q hq => by have := h.dg p hp; have := k.dg q hq; omega, fun p hp => by have := NN_mem hp; have := h.nn; omega, by
    have := Nat.mul_le_mul h.len k.len
    rw [sizeLine_eq]
    omega⟩
def unK : Key → Str
  | .inr s => s
  | .inl _ => Str.empty
theorem map_unK : ∀ xs : List Str, (xs.map Sum.inr : List Key).map unK = xs
  | [] => rfl
  | x :: xs => by rw [List.map_cons, List.map_cons, map_unK xs]; rfl
/-- nothing but 0 pairs to nothing -/
theorem gm_zero {n d : Nat} {L : Tm} (h : GM n d L) (hz : ∀ φ, Inva φ → pr L φ = 0) : L = [] := by
  match L, h, hz with
  | [], _, _ => rfl
  | p :: R, h, hz =>
    exfalso
    have hp : p ∈ p :: R := List.mem_cons_self
    obtain ⟨xs, ex, hxs⟩ := h.sk p hp
    have key := hz (fun q => open Classical in if q.Perm p.1 then 1 else 0) (fun k k' hk => by
      by_cases h1 : k.Perm p.1
      · simp only [if_pos h1, if_pos (hk.symm.trans h1)]
      · simp only [if_neg h1, if_neg fun z => h1 (hk.trans z)])
    have e2 : pr (p :: R) (fun q => open Classical in if q.Perm p.1 then 1 else 0) = pr (p :: R) (fun q => if q = p.1 then 1 else 0) := by
      unfold pr
      refine congrArg List.sum (List.map_congr_left fun q hq => ?_)
      obtain ⟨ys, ey, hys⟩ := h.sk q hq
      by_cases h1 : q.1 = p.1
      · exact congrArg (q.2 * ·) ((if_pos (by rw [h1])).trans (if_pos h1).symm)
      · have h2 : ¬ q.1.Perm p.1 := fun z => by
          rw [ex, ey] at z
          have e3 := z.map unK
          rw [map_unK, map_unK] at e3
          rw [ex, ey, sorted_eq hys hxs e3] at h1
          exact h1 rfl
        simp only [if_neg h1, if_neg h2]
    rw [e2, ← cf_pr h.nr.nd, cf_mem h.nr.nd hp] at key
    exact h.nr.nz p hp key
end K75
set_option Elab.async false
set_option linter.all false
set_option maxRecDepth 100000
set_option maxHeartbeats 4000000
namespace K75
open PySem PySem.Spec PyProof.Rows L2
abbrev sCross : Stmt := top 24
abbrev sDot : Stmt := top 25
theorem sc_cross : FnScope ["first", "second", "a", "b", "c", "d", "e", "f"] ["first", "second"] (defScope sCross) := ⟨rfl, rfl, rfl, by decide +kernel, rfl, by decide +kernel, by decide +kernel⟩
theorem sc_dot : FnScope ["first", "second", "a", "b", "c", "d", "e", "f"] ["first", "second"] (defScope sDot) := ⟨rfl, rfl, rfl, by decide +kernel, rfl, by decide +kernel, by decide +kernel⟩
/-- three Many in a tuple -/
def Tri (K : PySem.W.Frag) (CM : Addr) (H : Hp) (t : Addr) (A B C : Tm) (n d : Nat) : Prop := ∃ a b c, SqT K H t [.ref a, .ref b, .ref c] ∧ MnO CM H a A ∧ MnO CM H b B ∧ MnO CM H c C ∧ GM n d A ∧ GM n d B ∧ GM n d C
theorem Tri.ext {K : PySem.W.Frag} {CM t : Addr} {H H' : Hp} {A B C : Tm} {n d : Nat} (h : Tri K CM H t A B C n d) (x : Ext H H') : Tri K CM H' t A B C n d := by
  obtain ⟨a, b, c, h1, h2, h3, h4, h5⟩ := h
  exact ⟨a, b, c, h1.ext x, h2.ext x, h3.ext x, h4.ext x, h5⟩
/-- the own operators of Many -/
structure MnOp (P : Program) (w : World) (K : PySem.W.Frag) (mg : Str → Option Value) (base : Heap) (CM : Addr) : Prop where
  sf : PySem.W.selfFirst K CM = true
  add : Opr P w K mg base CX0 4 CM "__add__" (spMAdd CM)
  sub : Opr P w K mg base CX0 5 CM "__sub__" (spMSub CM)
  mul : Opr P w K mg base CX0 4 CM "__mul__" (spMMul CM)
section
variable {CM : Addr} {H : Hp} {Q : VK} {a b : Addr} {A B : Tm} {n1 n2 d1 d2 d : Nat}
theorem mul_rd (hA : MnO CM H a A) (gA : GM n1 d1 A) (hB : MnO CM H b B) (gB : GM n2 d2 B) (h1 : n1 * n2 < 2 ^ 23) (h2 : d1 + d2 < 64) (h3 : n1 < 2 ^ 60) (h : ∀ c H' R, Ext H H' → MnO CM H' c R → GM (n1 * n2) (d1 + d2) R → Sem R (PP A B) → Q (.ref c) H') :
    rBin CM (spMMul CM) E0 (.ref a) (.ref b) H Q := by
  have hA' := hA
  have hB' := hB
  obtain ⟨dx, _, _, ha, _⟩ := hA'
  obtain ⟨dy, _, _, hb, _⟩ := hB'
  exact ⟨a, b, dx, dy, _, _, rfl, rfl, ha, hb, a, b, A, B, rfl, hA, hB, gA.pt gB h1 h2 h3, fun T hT c H' hE hc => h c H' _ hE hc (mul_GM gA gB hT) (mul_sem hT)⟩
theorem sub_rd (hA : MnO CM H a A) (gA : GM n1 d A) (hB : MnO CM H b B) (gB : GM n2 d B) (h1 : n1 + n2 < 2 ^ 24) (h : ∀ c H' R, Ext H H' → MnO CM H' c R → GM (n1 + n2) d R → (∀ φ, pr R φ = pr A φ - pr B φ) → Q (.ref c) H') :
    rBin CM (spMSub CM) E0 (.ref a) (.ref b) H Q := by
  have hA' := hA
  have hB' := hB
  obtain ⟨dx, _, _, ha, _⟩ := hA'
  obtain ⟨dy, _, _, hb, _⟩ := hB'
  refine ⟨a, b, dx, dy, _, _, rfl, rfl, ha, hb, a, b, A, B, rfl, hA, hB, ?_, fun c H' hE hc => h c H' _ hE hc (sub_GM gA gB) fun φ => sub_pr⟩
  have := gA.len
  have := gB.len
  rw [sizeLine_eq]
  omega
theorem add_rd (hA : MnO CM H a A) (gA : GM n1 d A) (hB : MnO CM H b B) (gB : GM n2 d B) (h1 : n1 + n2 < 2 ^ 24) (h : ∀ c H' R, Ext H H' → MnO CM H' c R → GM (n1 + n2) d R → (∀ φ, pr R φ = pr A φ + pr B φ) → Q (.ref c) H') :
    rBin CM (spMAdd CM) E0 (.ref a) (.ref b) H Q := by
  have hA' := hA
  have hB' := hB
  obtain ⟨dx, _, _, ha, _⟩ := hA'
  obtain ⟨dy, _, _, hb, _⟩ := hB'
  refine ⟨a, b, dx, dy, _, _, rfl, rfl, ha, hb, a, b, A, B, rfl, hA, hB, ?_, fun c H' hE hc => h c H' _ hE hc (add_GM gA gB) fun φ => add_pr⟩
  have := gA.len
  have := gB.len
  rw [sizeLine_eq]
  omega
/-- x * y - z * u -/
theorem cross_el {c e : Addr} {C E : Tm} {σ : L2.St} {i j k l : Nat} (hi : σ[i]? = some (some (.ref a))) (hj : σ[j]? = some (some (.ref b))) (hk : σ[k]? = some (some (.ref c))) (hl : σ[l]? = some (some (.ref e)))
    (hA : MnO CM H a A) (gA : GM n1 d1 A) (hB : MnO CM H b B) (gB : GM n2 d2 B) (hC : MnO CM H c C) (gC : GM n1 d1 C) (hE : MnO CM H e E) (gE : GM n2 d2 E) (h1 : n1 * n2 < 2 ^ 22) (h2 : d1 + d2 < 64) (h3 : n1 < 2 ^ 60)
    (h : ∀ r H' R, Ext H H' → MnO CM H' r R → GM (n1 * n2 + n1 * n2) (d1 + d2) R → Sem R (fun φ => PP A B φ - PP C E φ) → Q (.ref r) H') :
    tOp (rBin CM (spMSub CM) E0) (tOp (rBin CM (spMMul CM) E0) (tVar i) (tVar j)) (tOp (rBin CM (spMMul CM) E0) (tVar k) (tVar l)) σ H Q := by
  refine ⟨_, hi, _, hj, mul_rd hA gA hB gB (by omega) h2 h3 fun x H1 X e1 hX gX sX => ?_⟩
  refine ⟨_, hk, _, hl, mul_rd (hC.ext e1) gC (hE.ext e1) gE (by omega) h2 h3 fun y H2 Y e2 hY gY sY => ?_⟩
  refine sub_rd (hX.ext e2) gX hY gY (by omega) fun r H3 R e3 hR gR sR => h r H3 R (ext_trans e1 (ext_trans e2 e3)) hR gR fun φ hφ => ?_
  rw [sR, sX φ hφ, sY φ hφ]
end
def spCross (K : PySem.W.Frag) (CM : Addr) : Sp := fun vs H Q _ => ∃ (s t : Addr) (A B C D E F : Tm) (n1 d1 n2 d2 : Nat), vs = [.ref s, .ref t] ∧ Tri K CM H s A B C n1 d1 ∧ Tri K CM H t D E F n2 d2 ∧ n1 * n2 < 2 ^ 22 ∧ d1 + d2 < 64 ∧ n1 < 2 ^ 60 ∧
  ∀ r H' X Y Z, Ext H H' → Tri K CM H' r X Y Z (n1 * n2 + n1 * n2) (d1 + d2) → Crs A B C D E F X Y Z → Q (.ref r) H'
def spDot (K : PySem.W.Frag) (CM : Addr) : Sp := fun vs H Q _ => ∃ (s t : Addr) (A B C D E F : Tm) (n1 d1 n2 d2 : Nat), vs = [.ref s, .ref t] ∧ Tri K CM H s A B C n1 d1 ∧ Tri K CM H t D E F n2 d2 ∧ n1 * n2 < 2 ^ 22 ∧ d1 + d2 < 64 ∧ n1 < 2 ^ 60 ∧
  ∀ r H' R, Ext H H' → MnO CM H' r R → GM (n1 * n2 + n1 * n2 + n1 * n2) (d1 + d2) R → Sem R (fun φ => PP A D φ + PP B E φ + PP C F φ) → Q (.ref r) H'
section
variable {P : Program} {w : World} {K : PySem.W.Frag} {mg : Str → Option Value} {base : Heap} {f CM : Addr} {fd : FuncData}
theorem ok_cross (F : FnP K "cross" "cross" sCross f fd) (O : MnOp P w K mg base CM) : FnOk P w K mg base CX0 6 f fd ["first", "second"] (spCross K CM) := by
  obtain ⟨gS, s1, s2, s3⟩ := O.sub.ex
  obtain ⟨gM, m1, m2, m3⟩ := O.mul.ex
  refine F.ok sc_cross (fun vs H Q E h => ?_) (fun cdv A outer s H vs Q E hr h => ⟨_, PSs.nox (pss_cons (ps_asg (pv 0) (pg_tup (by rfl) (pgs_cons (pg_name (i := 2) sc_cross.nd rfl (Or.inl rfl)) (pgs_cons (pg_name (i := 3) sc_cross.nd rfl (Or.inl rfl)) (pgs_cons (pg_name (i := 4) sc_cross.nd rfl (Or.inl rfl)) pgs_nil)))))
    (pss_cons (ps_asg (pv 1) (pg_tup (by rfl) (pgs_cons (pg_name (i := 5) sc_cross.nd rfl (Or.inl rfl)) (pgs_cons (pg_name (i := 6) sc_cross.nd rfl (Or.inl rfl)) (pgs_cons (pg_name (i := 7) sc_cross.nd rfl (Or.inl rfl)) pgs_nil)))))
    (pss_one (ps_ret (pe_tup
      (pa_cons (pe_op (op_bin O.sf s1 s2 s3 (hr.mono (by decide)) pass0) (pe_op (op_bin O.sf m1 m2 m3 (hr.mono (by decide)) pass0) (pv 3) (pv 7)) (pe_op (op_bin O.sf m1 m2 m3 (hr.mono (by decide)) pass0) (pv 4) (pv 6)))
      (pa_cons (pe_op (op_bin O.sf s1 s2 s3 (hr.mono (by decide)) pass0) (pe_op (op_bin O.sf m1 m2 m3 (hr.mono (by decide)) pass0) (pv 4) (pv 5)) (pe_op (op_bin O.sf m1 m2 m3 (hr.mono (by decide)) pass0) (pv 2) (pv 7)))
      (pa_cons (pe_op (op_bin O.sf s1 s2 s3 (hr.mono (by decide)) pass0) (pe_op (op_bin O.sf m1 m2 m3 (hr.mono (by decide)) pass0) (pv 2) (pv 6)) (pe_op (op_bin O.sf m1 m2 m3 (hr.mono (by decide)) pass0) (pv 3) (pv 5))) pa_nil)))))))), ?_⟩)
  · obtain ⟨s, t, _, _, _, _, _, _, _, _, _, _, rfl, _⟩ := h
    rfl
  · obtain ⟨s, t, A, B, C, D, E', F', n1, d1, n2, d2, rfl, ⟨a, b, c, hs, hA, hB, hC, gA, gB, gC⟩, ⟨d, e, f', ht, hD, hE, hF, gD, gE, gF⟩, hn, hd, hn1, hQ⟩ := h
    refine ⟨_, rfl, s, _, rfl, hs, rfl, _, _, rfl, _, _, rfl, _, _, rfl, rfl, ?_⟩
    refine ⟨_, rfl, t, _, rfl, ht, rfl, _, _, rfl, _, _, rfl, _, _, rfl, rfl, ?_⟩
    refine cross_el rfl rfl rfl rfl hB gB hF gF hC gC hE gE hn hd hn1 fun x H1 X x1 hX gX sX => ?_
    refine cross_el rfl rfl rfl rfl (hC.ext x1) gC (hD.ext x1) gD (hA.ext x1) gA (hF.ext x1) gF hn hd hn1 fun y H2 Y x2 hY gY sY => ?_
    have x12 := ext_trans x1 x2
    refine cross_el rfl rfl rfl rfl (hA.ext x12) gA (hE.ext x12) gE (hB.ext x12) gB (hD.ext x12) gD hn hd hn1 fun z H3 Z x3 hZ gZ sZ => ?_
    refine ⟨(by show 3 ≤ sizeLine; decide), fun r hr' => ?_⟩
    have x4 : Ext H3 (upd H3 r (.tup [.ref x, .ref y, .ref z])) := Ext.upd hr'
    exact hQ r _ X Y Z (ext_trans x12 (ext_trans x3 x4)) ⟨x, y, z, SqT.of upd_same, hX.ext (ext_trans x2 (ext_trans x3 x4)), hY.ext (ext_trans x3 x4), hZ.ext x4, gX, gY, gZ⟩ ⟨sX, sY, sZ⟩
theorem ok_dot (F : FnP K "dot" "dot" sDot f fd) (O : MnOp P w K mg base CM) : FnOk P w K mg base CX0 6 f fd ["first", "second"] (spDot K CM) := by
  obtain ⟨gS, s1, s2, s3⟩ := O.add.ex
  obtain ⟨gM, m1, m2, m3⟩ := O.mul.ex
  refine F.ok sc_dot (fun vs H Q E h => ?_) (fun cdv A outer s H vs Q E hr h => ⟨_, PSs.nox (pss_cons (ps_asg (pv 0) (pg_tup (by rfl) (pgs_cons (pg_name (i := 2) sc_dot.nd rfl (Or.inl rfl)) (pgs_cons (pg_name (i := 3) sc_dot.nd rfl (Or.inl rfl)) (pgs_cons (pg_name (i := 4) sc_dot.nd rfl (Or.inl rfl)) pgs_nil)))))
    (pss_cons (ps_asg (pv 1) (pg_tup (by rfl) (pgs_cons (pg_name (i := 5) sc_dot.nd rfl (Or.inl rfl)) (pgs_cons (pg_name (i := 6) sc_dot.nd rfl (Or.inl rfl)) (pgs_cons (pg_name (i := 7) sc_dot.nd rfl (Or.inl rfl)) pgs_nil)))))
    (pss_one (ps_ret (pe_op (op_bin O.sf s1 s2 s3 (hr.mono (by decide)) pass0) (pe_op (op_bin O.sf s1 s2 s3 (hr.mono (by decide)) pass0) (pe_op (op_bin O.sf m1 m2 m3 (hr.mono (by decide)) pass0) (pv 2) (pv 5)) (pe_op (op_bin O.sf m1 m2 m3 (hr.mono (by decide)) pass0) (pv 3) (pv 6)))
      (pe_op (op_bin O.sf m1 m2 m3 (hr.mono (by decide)) pass0) (pv 4) (pv 7))))))), ?_⟩)
  · obtain ⟨s, t, _, _, _, _, _, _, _, _, _, _, rfl, _⟩ := h
    rfl
  · obtain ⟨s, t, A, B, C, D, E', F', n1, d1, n2, d2, rfl, ⟨a, b, c, hs, hA, hB, hC, gA, gB, gC⟩, ⟨d, e, f', ht, hD, hE, hF, gD, gE, gF⟩, hn, hd, hn1, hQ⟩ := h
    refine ⟨_, rfl, s, _, rfl, hs, rfl, _, _, rfl, _, _, rfl, _, _, rfl, rfl, ?_⟩
    refine ⟨_, rfl, t, _, rfl, ht, rfl, _, _, rfl, _, _, rfl, _, _, rfl, rfl, ?_⟩
    refine ⟨_, rfl, _, rfl, mul_rd hA gA hD gD (by omega) hd hn1 fun x H1 X x1 hX gX sX => ?_⟩
    refine ⟨_, rfl, _, rfl, mul_rd (hB.ext x1) gB (hE.ext x1) gE (by omega) hd hn1 fun y H2 Y x2 hY gY sY => ?_⟩
    refine add_rd (hX.ext x2) gX hY gY (by omega) fun u H3 U x3 hU gU sU => ?_
    have x13 := ext_trans x1 (ext_trans x2 x3)
    refine ⟨_, rfl, _, rfl, mul_rd (hC.ext x13) gC (hF.ext x13) gF (by omega) hd hn1 fun z H4 Z x4 hZ gZ sZ => ?_⟩
    refine add_rd (hU.ext x4) gU hZ gZ (by omega) fun r H5 R x5 hR gR sR => hQ r H5 R (ext_trans x13 (ext_trans x4 x5)) hR gR fun φ hφ => ?_
    rw [sR, sU, sX φ hφ, sY φ hφ, sZ φ hφ]
end
end K75
set_option Elab.async false
set_option linter.all false
set_option maxRecDepth 100000
set_option maxHeartbeats 4000000
namespace K75
open PySem PySem.Spec PyProof.Rows L2
abbrev sTI : Stmt := inClass (top 27) 0
abbrev sWhole : Stmt := inClass (top 28) 0
abbrev sLoose : Stmt := inClass (top 28) 1
abbrev sPEq : Stmt := inClass (top 28) 2
abbrev sPPos : Stmt := inClass (top 28) 3
abbrev sLT : Stmt := inClass (top 28) 5
abbrev sOff : Stmt := inClass (top 28) 6
abbrev sLEq : Stmt := inClass (top 29) 0
abbrev sLPos : Stmt := inClass (top 29) 1
abbrev sCrg : Stmt := inClass (top 29) 3
theorem sc_TI : FnScope ["self", "x", "y", "z"] ["self", "x", "y", "z"] (defScope sTI) := ⟨rfl, rfl, rfl, by decide +kernel, rfl, by decide +kernel, by decide +kernel⟩
theorem sc_whole : FnScope ["cls", "x", "y", "z"] ["cls", "x", "y", "z"] (defScope sWhole) := ⟨rfl, rfl, rfl, by decide +kernel, rfl, by decide +kernel, by decide +kernel⟩
theorem sc_loose : FnScope ["cls", "name"] ["cls", "name"] (defScope sLoose) := ⟨rfl, rfl, rfl, by decide +kernel, rfl, by decide +kernel, by decide +kernel⟩
theorem sc_PEq : FnScope ["self", "other"] ["self", "other"] (defScope sPEq) := ⟨rfl, rfl, rfl, by decide +kernel, rfl, by decide +kernel, by decide +kernel⟩
theorem sc_LEq : FnScope ["self", "other"] ["self", "other"] (defScope sLEq) := ⟨rfl, rfl, rfl, by decide +kernel, rfl, by decide +kernel, by decide +kernel⟩
theorem sc_LT : FnScope ["self", "other", "a", "b", "c"] ["self", "other"] (defScope sLT) := ⟨rfl, rfl, rfl, by decide +kernel, rfl, by decide +kernel, by decide +kernel⟩
theorem sc_Crg : FnScope ["self", "other", "a", "b", "c"] ["self", "other"] (defScope sCrg) := ⟨rfl, rfl, rfl, by decide +kernel, rfl, by decide +kernel, by decide +kernel⟩
theorem sc_Off : FnScope ["self", "line"] ["self", "line"] (defScope sOff) := ⟨rfl, rfl, rfl, by decide +kernel, rfl, by decide +kernel, by decide +kernel⟩
def ptF (t : Addr) : List (Str × V) := [("coordinates", .ref t)]
theorem ptF_c (t : Addr) : (ptF t).lookup ("coordinates" : Str) = some (.ref t) := rfl
structure PtT (K : PySem.W.Frag) (mg : Str → Option Value) (x : Str) (C : Addr) : Prop where
  cl : Cls K C
  nC : NoAttr K C "coordinates"
  is : IsI K C
  kt : PySem.W.kitOne K (.ref C) (.ref C) = some true
  mgC : mg x = some (.ref C)
  isi : mg "isinstance" = none
/-- the Point or Line at o -/
def PtO (K : PySem.W.Frag) (C CM : Addr) (H : Hp) (o : Addr) (A B D : Tm) (n d : Nat) : Prop := ∃ dx t, H o = some (.ins C dx (ptF t)) ∧ Tri K CM H t A B D n d
theorem PtO.ext {K : PySem.W.Frag} {C CM o : Addr} {H H' : Hp} {A B D : Tm} {n d : Nat} (h : PtO K C CM H o A B D n d) (x : Ext H H') : PtO K C CM H' o A B D n d := by
  obtain ⟨dx, t, h1, h2⟩ := h
  exact ⟨dx, t, x _ _ h1, h2.ext x⟩
def spTI (C : Addr) : Sp := fun vs H Q _ => ∃ (o dx a b c : Addr), vs = [.ref o, .ref a, .ref b, .ref c] ∧ H o = some (.ins C dx []) ∧ ∀ H' t, (∀ x u, x ≠ o → H x = some u → H' x = some u) → H' o = some (.ins C dx (ptF t)) → H' t = some (.tup [.ref a, .ref b, .ref c]) → Q .non H'
/-- the making of one -/
def mkPt (K : PySem.W.Frag) (C CM : Addr) (H : Hp) (A B D : Tm) (n d : Nat) (Q : VK) : Prop := ∀ o H', Ext H H' → PtO K C CM H' o A B D n d → Q (.ref o) H'
theorem mk_pt {K : PySem.W.Frag} {C CM : Addr} {H : Hp} {a b c : Addr} {A B D : Tm} {n d : Nat} {Q : VK} (hA : MnO CM H a A) (hB : MnO CM H b B) (hD : MnO CM H c D) (gA : GM n d A) (gB : GM n d B) (gD : GM n d D) (hQ : mkPt K C CM H A B D n d Q) (x dx : Addr) (hx : H x = none) (hdx : H dx = none) (hne : dx ≠ x) :
    spTI C [.ref x, .ref a, .ref b, .ref c] (upd (upd H dx (.own x)) x (.ins C dx [])) (fun v H2 => v = .non ∧ Q (.ref x) H2) E0 := by
  have s0 : Ext H (upd (upd H dx (.own x)) x (.ins C dx [])) := ext_at hx (Ext.upd hdx)
  refine ⟨x, dx, a, b, c, rfl, upd_same, fun H' t k ho ht => ⟨rfl, ?_⟩⟩
  have s1 : Ext H H' := fun y u e => k y u (fun z => by rw [z, hx] at e; cases e) (s0 y u e)
  exact hQ x H' s1 ⟨dx, t, ho, a, b, c, SqT.of ht, hA.ext s1, hB.ext s1, hD.ext s1, gA, gB, gD⟩
theorem sorted_nil : sortedS [] = true := rfl
theorem num_GM {n : Nat} {x : Int} (h : x.natAbs ≤ n) : GM n 0 (numL x) := by
  unfold numL
  by_cases hx : x = 0
  · rw [if_pos hx]
    exact ⟨⟨(by simp), fun p hp => (by cases hp)⟩, fun p hp => (by cases hp), Nat.zero_le _, fun p hp => (by cases hp)⟩
  · rw [if_neg hx]
    refine ⟨⟨by simp, fun p hp => ?_⟩, fun p hp => ⟨[], ?_, rfl⟩, ?_, fun p hp => ?_⟩
    · rw [List.mem_singleton.mp hp]; exact hx
    · rw [List.mem_singleton.mp hp]; rfl
    · show x.natAbs + 0 ≤ n
      omega
    · rw [List.mem_singleton.mp hp]; exact Nat.le_refl _
theorem unk_GM {x : Str} : GM 1 1 [([.inr x], 1)] := by
  refine ⟨⟨by simp, fun p hp => ?_⟩, fun p hp => ⟨[x], ?_, rfl⟩, Nat.le_refl _, fun p hp => ?_⟩
  · rw [List.mem_singleton.mp hp]; exact (by decide : (1 : Int) ≠ 0)
  · rw [List.mem_singleton.mp hp]; rfl
  · rw [List.mem_singleton.mp hp]; exact Nat.le_refl _
def spWhole (K : PySem.W.Frag) (CP CM : Addr) : Sp := fun vs H Q _ => ∃ (x y z : Int) (n : Nat), vs = [.ref CP, .int x, .int y, .int z] ∧ x.natAbs ≤ n ∧ y.natAbs ≤ n ∧ z.natAbs ≤ n ∧ mkPt K CP CM H (numL x) (numL y) (numL z) n 0 Q
abbrev ukL (x : Str) : Tm := [([.inr x], 1)]
def spLoose (K : PySem.W.Frag) (CP CM : Addr) : Sp := fun vs H Q _ => vs = [.ref CP, .str "b7"] ∧ mkPt K CP CM H (ukL "b7x") (ukL "b7y") (ukL "b7z") 1 1 Q
def spLT (K : PySem.W.Frag) (C1 C2 C3 CM : Addr) : Sp := fun vs H Q _ => ∃ (o u : Addr) (A B C D E F : Tm) (n1 d1 n2 d2 : Nat), vs = [.ref o, .ref u] ∧ PtO K C1 CM H o A B C n1 d1 ∧ PtO K C2 CM H u D E F n2 d2 ∧ n1 * n2 < 2 ^ 22 ∧ d1 + d2 < 64 ∧ n1 < 2 ^ 60 ∧
  ∀ X Y Z, Crs A B C D E F X Y Z → mkPt K C3 CM H X Y Z (n1 * n2 + n1 * n2) (d1 + d2) Q
def spOff (K : PySem.W.Frag) (C1 C2 CM : Addr) : Sp := fun vs H Q _ => ∃ (o u : Addr) (A B C D E F : Tm) (n1 d1 n2 d2 : Nat), vs = [.ref o, .ref u] ∧ PtO K C1 CM H o A B C n1 d1 ∧ PtO K C2 CM H u D E F n2 d2 ∧ n1 * n2 < 2 ^ 22 ∧ d1 + d2 < 64 ∧ n1 < 2 ^ 60 ∧
  ∀ r H' R, Ext H H' → MnO CM H' r R → GM (n1 * n2 + n1 * n2 + n1 * n2) (d1 + d2) R → Sem R (fun φ => PP A D φ + PP B E φ + PP C F φ) → Q (.ref r) H'
def EqT (L M : Tm) : Prop := ∀ k, cf L k = cf M k
def spPEq (K : PySem.W.Frag) (C CM : Addr) : Sp := fun vs H Q _ => ∃ (o : Addr) (y : V) (A B D : Tm) (n d : Nat), vs = [.ref o, y] ∧ PtO K C CM H o A B D n d ∧
  ((∃ (u : Addr) (A' B' D' : Tm) (n' d' : Nat), y = .ref u ∧ PtO K C CM H u A' B' D' n' d' ∧ ∀ r : Bool, (r = true ↔ EqT A A' ∧ EqT B B' ∧ EqT D D') → Q (.bl r) H) ∨
   (∃ t, TyX K H y t ∧ PySem.W.kitOne K t (.ref C) = some false ∧ Q (.bl false) H))
theorem enc_inj : ∀ {L M : Tm}, enc L = enc M → L = M
  | [], [], _ => rfl
  | p :: L, [], h => by cases h
  | [], q :: M, h => by cases h
  | p :: L, q :: M, h => by
    have h' : (p.1, V.int p.2) :: enc L = (q.1, V.int q.2) :: enc M := h
    obtain ⟨h1, h2⟩ := List.cons.inj h'
    obtain ⟨h3, h4⟩ := Prod.mk.inj h1
    rw [enc_inj h2, show p = q from Prod.ext h3 (V.int.inj h4)]
theorem MnO.same {CM : Addr} {H : Hp} {a : Addr} {L M : Tm} (h : MnO CM H a L) (k : MnO CM H a M) : L = M := by
  obtain ⟨dx, d, od, h1, h2⟩ := h
  obtain ⟨dy, e, oe, k1, k2⟩ := k
  rw [h1] at k1
  obtain ⟨-, -, e1⟩ := HO.ins.inj (Option.some.inj k1)
  have e2 : d = e := V.ref.inj (Prod.mk.inj (List.cons.inj e1).1).2
  subst e2
  rw [h2] at k2
  exact enc_inj (HO.dT.inj (HO.frz.inj (Option.some.inj k2)).2)
/-- one item of the tuples -/
theorem eq_item {CM : Addr} {H : Hp} {Q : VK} {a b : Addr} {as bs : List Addr} {L M : Tm} (hL : MnO CM H a L) (hM : MnO CM H b M) (nL : Nrm L) (nM : Nrm M) (h1 : EqT L M → eqRun CM (spMEq CM) E0 as bs H Q) (h2 : ¬ EqT L M → Q (.bl false) H) :
    eqRun CM (spMEq CM) E0 (a :: as) (b :: bs) H Q := by
  by_cases hab : a = b
  · subst hab
    exact .inl ⟨rfl, h1 (by rw [hL.same hM]; exact fun _ => rfl)⟩
  · have hL' := hL
    have hM' := hM
    obtain ⟨dx, _, _, ha, _⟩ := hL'
    obtain ⟨dy, _, _, hb, _⟩ := hM'
    refine .inr ⟨hab, ⟨dx, _, dy, _, ha, hb⟩, a, b, L, M, rfl, hL, hM, nL, nM, fun r hr => ⟨r, rfl, ?_⟩⟩
    cases r with
    | true => exact iteT (h1 (hr.mp rfl))
    | false => exact iteF (h2 fun z => by have := hr.mpr z; cases this)
theorem tri_eq {K : PySem.W.Frag} {CM : Addr} {H : Hp} {Q : VK} {s t : Addr} {A B D A' B' D' : Tm} {n d n' d' : Nat} (h : Tri K CM H s A B D n d) (k : Tri K CM H t A' B' D' n' d') (hQ : ∀ r : Bool, (r = true ↔ EqT A A' ∧ EqT B B' ∧ EqT D D') → Q (.bl r) H) : rEqT3 K CM (spMEq CM) E0 (.ref s) (.ref t) H Q := by
  obtain ⟨a, b, c, hs, hA, hB, hC, gA, gB, gC⟩ := h
  obtain ⟨a', b', c', ht, kA, kB, kC, lA, lB, lC⟩ := k
  have no : ∀ {X : Prop}, ¬ X → Q (.bl false) H → Q (.bl false) H := fun _ q => q
  refine ⟨s, t, [a, b, c], [a', b', c'], rfl, rfl, hs, ht, rfl, eq_item hA kA gA.nr lA.nr (fun e1 => eq_item hB kB gB.nr lB.nr (fun e2 => eq_item hC kC gC.nr lC.nr (fun e3 => hQ true ⟨fun _ => ⟨e1, e2, e3⟩, fun _ => rfl⟩) fun z => ?_) fun z => ?_) fun z => ?_⟩
  · exact hQ false ⟨fun e => (by cases e), fun e => absurd e.2.2 z⟩
  · exact hQ false ⟨fun e => (by cases e), fun e => absurd e.2.1 z⟩
  · exact hQ false ⟨fun e => (by cases e), fun e => absurd e.1 z⟩
section
variable {P : Program} {w : World} {K : PySem.W.Frag} {mg : Str → Option Value} {base : Heap} {f C CP CL CM C1 C2 C3 : Addr} {fd : FuncData}
theorem ok_TI (F : FnP K "__init__" "Triple.__init__" sTI f fd) (c : Cls K C) (n : NoAttr K C "coordinates") : FnOk P w K mg base CX0 1 f fd ["self", "x", "y", "z"] (spTI C) := by
  refine F.ok sc_TI (fun vs H Q E h => ?_) (fun cdv A outer s H vs Q E hr h => ⟨_, PSs.nox (pss_one (ps_fld (pv 0) (pe_tup (pa_cons (pv 1) (pa_cons (pv 2) (pa_cons (pv 3) pa_nil)))) rfl)), ?_⟩)
  · obtain ⟨o, dx, a, b, c, rfl, _⟩ := h
    rfl
  · obtain ⟨o, dx, a, b, c', rfl, ho, hQ⟩ := h
    refine ⟨_, rfl, _, rfl, _, rfl, (by show 3 ≤ sizeLine; decide), fun t ht => ?_⟩
    have hot : o ≠ t := fun z => by rw [← z, ho] at ht; cases ht
    refine ⟨_, rfl, o, C, dx, [], rfl, (by rw [upd_ne hot]; exact ho), c, n, by decide, hQ _ t (fun x u hx e => ?_) upd_same ?_⟩
    · rw [upd_ne hx]
      exact Ext.upd ht _ _ e
    · rw [upd_ne hot.symm, upd_same]
theorem ok_whole (F : FnP K "whole" "Point.whole" sWhole f fd) (M : Mak P w K mg base CX0 1 CP (spTI CP)) (mM : mg "Many" = some (.ref CM)) (cN : ClM P w K mg base CX0 4 CM "number" (spMNum CM)) : FnOk P w K mg base CX0 5 f fd ["cls", "x", "y", "z"] (spWhole K CP CM) := by
  refine F.ok sc_whole (fun vs H Q E h => ?_) (fun cdv A outer s H vs Q E hr h => ⟨_, PSs.nox (pss_one (ps_ret (pe_mkV (i := 0) M hr (by decide) pass0 rfl (Or.inl rfl) (pa_cons (pe_cm cN hr (by decide) pass0 (pe_glob (v := V.ref CM) rfl mM rfl) (pa_cons (pv 1) pa_nil)) (pa_cons (pe_cm cN hr (by decide) pass0 (pe_glob (v := V.ref CM) rfl mM rfl) (pa_cons (pv 2) pa_nil)) (pa_cons (pe_cm cN hr (by decide) pass0 (pe_glob (v := V.ref CM) rfl mM rfl) (pa_cons (pv 3) pa_nil)) pa_nil)))))), ?_⟩)
  · obtain ⟨x, y, z, n, rfl, _⟩ := h
    rfl
  · obtain ⟨x, y, z, n, rfl, hx, hy, hz, hQ⟩ := h
    refine ⟨rfl, rfl, _, rfl, x, rfl, fun a H1 e1 h1 => ⟨rfl, _, rfl, y, rfl, fun b H2 e2 h2 => ⟨rfl, _, rfl, z, rfl, fun c H3 e3 h3 => fun o dx ho hdx hne => ?_⟩⟩⟩
    exact mk_pt (h1.ext (ext_trans e2 e3)) (h2.ext e3) h3 (num_GM hx) (num_GM hy) (num_GM hz) (fun o' H' e => hQ o' H' (ext_trans e1 (ext_trans e2 (ext_trans e3 e)))) o dx ho hdx hne
theorem ok_loose (F : FnP K "loose" "Point.loose" sLoose f fd) (M : Mak P w K mg base CX0 1 CP (spTI CP)) (mM : mg "Many" = some (.ref CM)) (cU : ClM P w K mg base CX0 4 CM "unknown" (spMUnk CM)) : FnOk P w K mg base CX0 5 f fd ["cls", "name"] (spLoose K CP CM) := by
  refine F.ok sc_loose (fun vs H Q E h => ?_) (fun cdv A outer s H vs Q E hr h => ⟨_, PSs.nox (pss_one (ps_ret (pe_mkV (i := 0) M hr (by decide) pass0 rfl (Or.inl rfl) (pa_cons (pe_cm cU hr (by decide) pass0 (pe_glob (v := V.ref CM) rfl mM rfl) (pa_cons (pe_op op_add_str (pv 1) pe_str) pa_nil)) (pa_cons (pe_cm cU hr (by decide) pass0 (pe_glob (v := V.ref CM) rfl mM rfl) (pa_cons (pe_op op_add_str (pv 1) pe_str) pa_nil)) (pa_cons (pe_cm cU hr (by decide) pass0 (pe_glob (v := V.ref CM) rfl mM rfl) (pa_cons (pe_op op_add_str (pv 1) pe_str) pa_nil)) pa_nil)))))), ?_⟩)
  · obtain ⟨rfl, _⟩ := h
    rfl
  · obtain ⟨rfl, hQ⟩ := h
    refine ⟨rfl, rfl, _, rfl, _, _, rfl, rfl, by decide, _, rfl, fun a H1 e1 h1 => ⟨rfl, _, rfl, _, _, rfl, rfl, by decide, _, rfl, fun b H2 e2 h2 => ⟨rfl, _, rfl, _, _, rfl, rfl, by decide, _, rfl, fun c H3 e3 h3 => fun o dx ho hdx hne => ?_⟩⟩⟩
    exact mk_pt (h1.ext (ext_trans e2 e3)) (h2.ext e3) h3 unk_GM unk_GM unk_GM (fun o' H' e => hQ o' H' (ext_trans e1 (ext_trans e2 (ext_trans e3 e)))) o dx ho hdx hne
/-- line_to and crossing -/
theorem ok_LT (F : FnP K "line_to" "Point.line_to" sLT f fd) (T : PtT K mg "Point" CP) (TL : PtT K mg "Line" CL) (M : Mak P w K mg base CX0 1 CL (spTI CL)) (cC : Cal P w K mg base CX0 6 "cross" (spCross K CM)) : FnOk P w K mg base CX0 7 f fd ["self", "other"] (spLT K CP CP CL CM) := by
  refine F.ok sc_LT (fun vs H Q E h => ?_) (fun cdv A outer s H vs Q E hr h => ⟨_, PSs.nox (pss_cons (ps_asg (pe_c cC hr (by decide) rfl pass0 (pa_cons (pe_fld (pv 0) rfl) (pa_cons (pe_fld (pv 1) rfl) pa_nil))) (pg_tup (by rfl) (pgs_cons (pg_name (i := 2) sc_LT.nd rfl (Or.inl rfl)) (pgs_cons (pg_name (i := 3) sc_LT.nd rfl (Or.inl rfl)) (pgs_cons (pg_name (i := 4) sc_LT.nd rfl (Or.inl rfl)) pgs_nil)))))
    (pss_one (ps_ret (pe_mk M hr (by decide) rfl TL.mgC pass0 (pa_cons (pv 2) (pa_cons (pv 3) (pa_cons (pv 4) pa_nil))))))), ?_⟩)
  · obtain ⟨o, u, _, _, _, _, _, _, _, _, _, _, rfl, _⟩ := h
    rfl
  · obtain ⟨o, u, A, B, C, D, E', F', n1, d1, n2, d2, rfl, ⟨dx, t, ho, hs⟩, ⟨dy, t', hu, ht⟩, hn, hd, hn1, hQ⟩ := h
    refine ⟨_, rfl, o, CP, dx, _, _, rfl, ho, T.cl, T.nC, ptF_c _, _, rfl, u, CP, dy, _, _, rfl, hu, T.cl, T.nC, ptF_c _, t, t', A, B, C, D, E', F', n1, d1, n2, d2, rfl, hs, ht, hn, hd, hn1, fun r H1 X Y Z x1 hT hc => ?_⟩
    obtain ⟨a, b, c, hr', hA, hB, hC, gA, gB, gC⟩ := hT
    refine ⟨r, _, rfl, hr', rfl, _, _, rfl, _, _, rfl, _, _, rfl, rfl, ?_⟩
    exact ⟨_, rfl, _, rfl, _, rfl, fun x dx' hx hdx hne => mk_pt hA hB hC gA gB gC (fun o' H' e => hQ X Y Z hc o' H' (ext_trans x1 e)) x dx' hx hdx hne⟩
theorem ok_Crg (F : FnP K "crossing" "Line.crossing" sCrg f fd) (T : PtT K mg "Point" CP) (TL : PtT K mg "Line" CL) (M : Mak P w K mg base CX0 1 CP (spTI CP)) (cC : Cal P w K mg base CX0 6 "cross" (spCross K CM)) : FnOk P w K mg base CX0 7 f fd ["self", "other"] (spLT K CL CL CP CM) := by
  refine F.ok sc_Crg (fun vs H Q E h => ?_) (fun cdv A outer s H vs Q E hr h => ⟨_, PSs.nox (pss_cons (ps_asg (pe_c cC hr (by decide) rfl pass0 (pa_cons (pe_fld (pv 0) rfl) (pa_cons (pe_fld (pv 1) rfl) pa_nil))) (pg_tup (by rfl) (pgs_cons (pg_name (i := 2) sc_Crg.nd rfl (Or.inl rfl)) (pgs_cons (pg_name (i := 3) sc_Crg.nd rfl (Or.inl rfl)) (pgs_cons (pg_name (i := 4) sc_Crg.nd rfl (Or.inl rfl)) pgs_nil)))))
    (pss_one (ps_ret (pe_mk M hr (by decide) rfl T.mgC pass0 (pa_cons (pv 2) (pa_cons (pv 3) (pa_cons (pv 4) pa_nil))))))), ?_⟩)
  · obtain ⟨o, u, _, _, _, _, _, _, _, _, _, _, rfl, _⟩ := h
    rfl
  · obtain ⟨o, u, A, B, C, D, E', F', n1, d1, n2, d2, rfl, ⟨dx, t, ho, hs⟩, ⟨dy, t', hu, ht⟩, hn, hd, hn1, hQ⟩ := h
    refine ⟨_, rfl, o, CL, dx, _, _, rfl, ho, TL.cl, TL.nC, ptF_c _, _, rfl, u, CL, dy, _, _, rfl, hu, TL.cl, TL.nC, ptF_c _, t, t', A, B, C, D, E', F', n1, d1, n2, d2, rfl, hs, ht, hn, hd, hn1, fun r H1 X Y Z x1 hT hc => ?_⟩
    obtain ⟨a, b, c, hr', hA, hB, hC, gA, gB, gC⟩ := hT
    refine ⟨r, _, rfl, hr', rfl, _, _, rfl, _, _, rfl, _, _, rfl, rfl, ?_⟩
    exact ⟨_, rfl, _, rfl, _, rfl, fun x dx' hx hdx hne => mk_pt hA hB hC gA gB gC (fun o' H' e => hQ X Y Z hc o' H' (ext_trans x1 e)) x dx' hx hdx hne⟩
theorem ok_Off (F : FnP K "off" "Point.off" sOff f fd) (T : PtT K mg "Point" CP) (TL : PtT K mg "Line" CL) (cD : Cal P w K mg base CX0 6 "dot" (spDot K CM)) : FnOk P w K mg base CX0 7 f fd ["self", "line"] (spOff K CP CL CM) := by
  refine F.ok sc_Off (fun vs H Q E h => ?_) (fun cdv A outer s H vs Q E hr h => ⟨_, PSs.nox (pss_one (ps_ret (pe_c cD hr (by decide) rfl pass0 (pa_cons (pe_fld (pv 0) rfl) (pa_cons (pe_fld (pv 1) rfl) pa_nil))))), ?_⟩)
  · obtain ⟨o, u, _, _, _, _, _, _, _, _, _, _, rfl, _⟩ := h
    rfl
  · obtain ⟨o, u, A, B, C, D, E', F', n1, d1, n2, d2, rfl, ⟨dx, t, ho, hs⟩, ⟨dy, t', hu, ht⟩, hn, hd, hn1, hQ⟩ := h
    exact ⟨_, rfl, o, CP, dx, _, _, rfl, ho, T.cl, T.nC, ptF_c _, _, rfl, u, CL, dy, _, _, rfl, hu, TL.cl, TL.nC, ptF_c _, t, t', A, B, C, D, E', F', n1, d1, n2, d2, rfl, hs, ht, hn, hd, hn1, hQ⟩
theorem ok_PEq (F : FnP K "__eq__" "Point.__eq__" sPEq f fd) (T : PtT K mg "Point" CP) (oE : Opr P w K mg base CX0 1 CM "__eq__" (spMEq CM)) (nf : PySem.W.notFirst K CM (.ref CM) = true) : FnOk P w K mg base CX0 3 f fd ["self", "other"] (spPEq K CP CM) := by
  obtain ⟨g, h1, h2, h3⟩ := oE.ex
  refine F.ok sc_PEq (fun vs H Q E h => ?_) (fun cdv A outer s H vs Q E hr h => ⟨_, PSs.nox (pss_one (ps_ret (pe_and (pe_callB call_isi (by rfl) T.isi boot_isinstance (pa_cons (pv 1) (pa_cons (pe_glob (v := V.ref CP) rfl T.mgC rfl) pa_nil))) (pe_one (pe_cmpR (op_eqT3 h1 h2 nf h3 hr pass0) (pe_fld (pv 0) rfl) (pe_fld (pv 1) rfl) rfl))))), ?_⟩)
  · obtain ⟨o, y, _, _, _, _, _, rfl, _⟩ := h
    rfl
  · obtain ⟨o, y, A, B, D, n, d, rfl, ⟨dx, t, ho, hs⟩, hw⟩ := h
    rcases hw with ⟨u, A', B', D', n', d', rfl, ⟨dy, t', hu, ht⟩, hQ⟩ | ⟨ty, h4, h5, hQ⟩
    · exact ⟨_, rfl, _, _, _, _, true, rfl, .own CP, T.is.ty T.cl hu, T.kt, true, rfl, iteT ⟨_, rfl, o, CP, dx, _, _, rfl, ho, T.cl, T.nC, ptF_c _, _, rfl, u, CP, dy, _, _, rfl, hu, T.cl, T.nC, ptF_c _, tri_eq hs ht hQ⟩⟩
    · exact ⟨_, rfl, _, _, _, _, false, rfl, .own CP, h4, h5, false, rfl, iteF hQ⟩
theorem ok_LEq (F : FnP K "__eq__" "Line.__eq__" sLEq f fd) (T : PtT K mg "Line" CL) (oE : Opr P w K mg base CX0 1 CM "__eq__" (spMEq CM)) (nf : PySem.W.notFirst K CM (.ref CM) = true) : FnOk P w K mg base CX0 3 f fd ["self", "other"] (spPEq K CL CM) := by
  obtain ⟨g, h1, h2, h3⟩ := oE.ex
  refine F.ok sc_LEq (fun vs H Q E h => ?_) (fun cdv A outer s H vs Q E hr h => ⟨_, PSs.nox (pss_one (ps_ret (pe_and (pe_callB call_isi (by rfl) T.isi boot_isinstance (pa_cons (pv 1) (pa_cons (pe_glob (v := V.ref CL) rfl T.mgC rfl) pa_nil))) (pe_one (pe_cmpR (op_eqT3 h1 h2 nf h3 hr pass0) (pe_fld (pv 0) rfl) (pe_fld (pv 1) rfl) rfl))))), ?_⟩)
  · obtain ⟨o, y, _, _, _, _, _, rfl, _⟩ := h
    rfl
  · obtain ⟨o, y, A, B, D, n, d, rfl, ⟨dx, t, ho, hs⟩, hw⟩ := h
    rcases hw with ⟨u, A', B', D', n', d', rfl, ⟨dy, t', hu, ht⟩, hQ⟩ | ⟨ty, h4, h5, hQ⟩
    · exact ⟨_, rfl, _, _, _, _, true, rfl, .own CL, T.is.ty T.cl hu, T.kt, true, rfl, iteT ⟨_, rfl, o, CL, dx, _, _, rfl, ho, T.cl, T.nC, ptF_c _, _, rfl, u, CL, dy, _, _, rfl, hu, T.cl, T.nC, ptF_c _, tri_eq hs ht hQ⟩⟩
    · exact ⟨_, rfl, _, _, _, _, false, rfl, .own CL, h4, h5, false, rfl, iteF hQ⟩
end
end K75
set_option Elab.async false
set_option linter.all false
set_option maxRecDepth 100000
set_option maxHeartbeats 4000000
namespace K75
open PySem PySem.Spec PyProof.Rows L2
abbrev sThere : Stmt := top 26
theorem sc_there : FnScope ["triple", "missing", "part"] ["triple"] (defScope sThere) := ⟨rfl, rfl, rfl, by decide +kernel, rfl, by decide +kernel, by decide +kernel⟩
theorem sc_PPos : FnScope ["self"] ["self"] (defScope sPPos) := ⟨rfl, rfl, rfl, by decide +kernel, rfl, by decide +kernel, by decide +kernel⟩
theorem sc_LPos : FnScope ["self"] ["self"] (defScope sLPos) := ⟨rfl, rfl, rfl, by decide +kernel, rfl, by decide +kernel, by decide +kernel⟩
/-- (e, ps): where all these numbers vanish -/
structure Miss (gs : List Int) (e : Bool) (ps : List Int) : Prop where
  z : e = true ↔ ∀ g ∈ gs, g = 0
  no : e = true → ps = []
  mem : e = false → ∀ x, x ∈ ps ↔ IsPi x ∧ ∀ g ∈ gs, g % x = 0
  ok : PsOk ps
theorem miss_nil : Miss [] true [] := ⟨⟨fun _ g h => (by cases h), fun _ => rfl⟩, fun _ => rfl, fun h => (by cases h), psOk_nil⟩
theorem mem_nil_of {ps qs : List Int} (h : ∀ x, x ∈ ps ↔ x ∈ qs) (hq : qs = []) : ps = [] := List.eq_nil_iff_forall_not_mem.mpr fun x hx => by rw [h x, hq] at hx; cases hx
theorem miss_step {gs : List Int} {e : Bool} {ps qs rs : List Int} {g : Int} (h : Miss gs e ps) (h0 : g = 0 → qs = []) (h1 : g ≠ 0 → ∀ x, x ∈ qs ↔ IsPi x ∧ g % x = 0) (hr : PsOk rs) (hm : ∀ x, x ∈ rs ↔ x ∈ shL e ps (decide (g = 0)) qs) : Miss (gs ++ [g]) (e && decide (g = 0)) rs := by
  have hz := h.z
  by_cases hg : g = 0
  · have hd : decide (g = 0) = true := decide_eq_true hg
    rw [hd] at hm ⊢
    have hq := h0 hg
    cases e with
    | true =>
      refine ⟨⟨fun _ x hx => ?_, fun _ => rfl⟩, fun _ => mem_nil_of hm rfl, fun z => (by cases z), hr⟩
      rcases List.mem_append.mp hx with hx | hx
      · exact hz.mp rfl x hx
      · rw [List.mem_singleton.mp hx]; exact hg
    | false =>
      refine ⟨⟨fun z => (by cases z), fun z => hz.mpr fun x hx => z x (List.mem_append_left _ hx)⟩, fun z => (by cases z), fun _ x => ?_, hr⟩
      rw [hm x]
      show x ∈ ps ↔ _
      rw [h.mem rfl x]
      constructor
      · rintro ⟨a, b⟩
        refine ⟨a, fun y hy => ?_⟩
        rcases List.mem_append.mp hy with hy | hy
        · exact b y hy
        · rw [List.mem_singleton.mp hy, hg]; exact Int.zero_emod _
      · rintro ⟨a, b⟩
        exact ⟨a, fun y hy => b y (List.mem_append_left _ hy)⟩
  · have hd : decide (g = 0) = false := decide_eq_false hg
    rw [hd] at hm ⊢
    rw [Bool.and_false]
    refine ⟨⟨fun z => (by cases z), fun z => absurd (z g (List.mem_append_right _ (List.mem_singleton.mpr rfl))) hg⟩, fun z => (by cases z), fun _ x => ?_, hr⟩
    rw [hm x]
    cases e with
    | true =>
      show x ∈ qs ↔ _
      rw [h1 hg x]
      constructor
      · rintro ⟨a, b⟩
        refine ⟨a, fun y hy => ?_⟩
        rcases List.mem_append.mp hy with hy | hy
        · rw [hz.mp rfl y hy]; exact Int.zero_emod _
        · rw [List.mem_singleton.mp hy]; exact b
      · rintro ⟨a, b⟩
        exact ⟨a, b g (List.mem_append_right _ (List.mem_singleton.mpr rfl))⟩
    | false =>
      show x ∈ ps.filter (fun x => decide (x ∈ qs)) ↔ _
      rw [List.mem_filter, decide_eq_true_eq, h.mem rfl x, h1 hg x]
      constructor
      · rintro ⟨⟨a, b⟩, _, c⟩
        refine ⟨a, fun y hy => ?_⟩
        rcases List.mem_append.mp hy with hy | hy
        · exact b y hy
        · rw [List.mem_singleton.mp hy]; exact c
      · rintro ⟨a, b⟩
        exact ⟨⟨a, fun y hy => b y (List.mem_append_left _ hy)⟩, a, b g (List.mem_append_right _ (List.mem_singleton.mpr rfl))⟩
def spThere (K : PySem.W.Frag) (CC CM : Addr) : Sp := fun vs H Q _ => ∃ (t : Addr) (A B D : Tm) (n d : Nat), vs = [.ref t] ∧ Tri K CM H t A B D n d ∧ (gcdL A).natAbs < 2 ^ 50 ∧ (gcdL B).natAbs < 2 ^ 50 ∧ (gcdL D).natAbs < 2 ^ 50 ∧
  ∀ a H' e ps, Ext H H' → ChO K CC H' a (!e) ps → Miss [gcdL A, gcdL B, gcdL D] e ps → Q (.ref a) H'
def spPos (K : PySem.W.Frag) (C CC CM : Addr) : Sp := fun vs H Q _ => ∃ (o : Addr) (A B D : Tm) (n d : Nat), vs = [.ref o] ∧ PtO K C CM H o A B D n d ∧ (gcdL A).natAbs < 2 ^ 50 ∧ (gcdL B).natAbs < 2 ^ 50 ∧ (gcdL D).natAbs < 2 ^ 50 ∧
  ∀ a H' e ps, Ext H H' → ChO K CC H' a (!e) ps → Miss [gcdL A, gcdL B, gcdL D] e ps → Q (.ref a) H'
section
variable {P : Program} {w : World} {K : PySem.W.Frag} {mg : Str → Option Value} {base : Heap} {f C CP CL CM CC : Addr} {fd : FuncData}
theorem ok_there (F : FnP K "there" "there" sThere f fd) (T : ChT K mg CC) (sf : PySem.W.selfFirst K CC = true) (cE : ClM P w K mg base CX0 4 CC "every" (spNew K CC true)) (oA : Opr P w K mg base CX0 4 CC "__and__" (spChA K CC)) (oI : Opr P w K mg base CX0 4 CC "__invert__" (spChV K CC)) (mV : Met P w K mg base CX0 5 CM "vanishing" (spMVan K CC CM)) :
    FnOk P w K mg base CX0 6 f fd ["triple"] (spThere K CC CM) := by
  obtain ⟨gA', a1, a2, a3⟩ := oA.ex
  obtain ⟨gI, i1, i2, i3⟩ := oI.ex
  refine F.ok sc_there (fun vs H Q E h => ?_) (fun cdv A outer s H vs Q E hr h => ⟨_, PSs.nox (pss_cons (ps_set (i := 1) sc_there.nd rfl (Or.inl rfl) (pe_cm0 cE hr (by decide) pass0 (pe_glob (v := V.ref CC) rfl T.mgC rfl)))
    (pss_cons (ps_for (fun _ _ h => h.elim) rfl (pi_tup (pv 0)) (pg_name (i := 2) sc_there.nd rfl (Or.inl rfl)) (pss_one (ps_set (i := 1) sc_there.nd rfl (Or.inl rfl) (pe_op (op_bin sf a1 a2 a3 (hr.mono (by decide)) pass0) (pv 1) (pe_m0 mV hr (by decide) pass0 (pv 2))))))
    (pss_one (ps_ret (pe_un (un_ownInv i1 i2 i3 (hr.mono (by decide)) pass0) (pv 1)))))), ?_⟩)
  · obtain ⟨t, _, _, _, _, _, rfl, _⟩ := h
    rfl
  · obtain ⟨t, A, B, D, n, d, rfl, ⟨a, b, c, ht, hA, hB, hD, _⟩, bA, bB, bD, hQ⟩ := h
    refine ⟨rfl, rfl, fun m0 H1 ps0 x1 h1 k1 hm0 => ?_⟩
    obtain rfl := mem_nil_of hm0 rfl
    refine ⟨_, rfl, t, rfl, ⟨_, ht.ext x1⟩, for_tup (K := K) (a := t) (xs := [.ref a, .ref b, .ref c]) (fun i σ H' => ∃ m e ps u, σ = [some (.ref t), some (.ref m), u] ∧ Ext H H' ∧ ChO K CC H' m e ps ∧ Miss ([gcdL A, gcdL B, gcdL D].take i) e ps) ⟨m0, true, [], none, rfl, x1, h1, miss_nil⟩ (fun i σ H' _ ⟨_, _, _, _, _, x, _⟩ => ht.ext x) ?_ ?_⟩
    · rintro i x σ H' hi ⟨m, e, ps, u, rfl, x2, hm, hmiss⟩
      have step : ∀ (o : Addr) (L : Tm) (g : Int), x = .ref o → MnO CM H' o L → gcdL L = g → g.natAbs < 2 ^ 50 → [gcdL A, gcdL B, gcdL D][i]? = some g → tOp (rBin CC (spChA K CC) E0) (tVar 1) (tM0 CM "vanishing" (spMVan K CC CM) E0 (tVar 2)) ([some (.ref t), some (.ref m), u].set 2 (some x)) H'
          (fun y H2 => gName 1 y ([some (.ref t), some (.ref m), u].set 2 (some x)) H2 fun σ' H3 => ∃ m e ps u, σ' = [some (.ref t), some (.ref m), u] ∧ Ext H H3 ∧ ChO K CC H3 m e ps ∧ Miss ([gcdL A, gcdL B, gcdL D].take (i + 1)) e ps) := by
        rintro o L g rfl hL rfl hb hg
        have hL' := hL
        obtain ⟨dx, _, _, ho, _⟩ := hL'
        refine ⟨_, rfl, _, rfl, o, dx, _, rfl, ho, rfl, o, L, rfl, hL, hb, fun v H2 qs x3 hv hq h0 h1 => ?_⟩
        have hm2 := hm.ext x3
        have hm3 := hm2
        have hv3 := hv
        obtain ⟨dm, _, hmi, _⟩ := hm3
        obtain ⟨dv, _, hvi, _⟩ := hv3
        refine ⟨m, v, dm, dv, _, _, rfl, rfl, hmi, hvi, m, v, e, _, ps, qs, rfl, hm2, hv, hmiss.no, fun z => h0 (of_decide_eq_true z), hmiss.ok, hq, fun r H3 rs x4 hr3 hrs hmem => ?_⟩
        refine ⟨r, _, rs, _, rfl, ext_trans x2 (ext_trans x3 x4), hr3, ?_⟩
        rw [take_succ hg]
        exact miss_step hmiss h0 h1 hrs hmem
      match i, hi with
      | 0, hi => exact step a A _ (by simpa using hi.symm) (hA.ext x2) rfl bA rfl
      | 1, hi => exact step b B _ (by simpa using hi.symm) (hB.ext x2) rfl bB rfl
      | 2, hi => exact step c D _ (by simpa using hi.symm) (hD.ext x2) rfl bD rfl
      | i + 3, hi => simp at hi
    · rintro σ H' ⟨m, e, ps, u, rfl, x2, hm, hmiss⟩
      have hm3 := hm
      obtain ⟨dm, _, hmi, _⟩ := hm3
      refine ⟨_, rfl, m, dm, _, rfl, hmi, m, e, ps, rfl, hm, hmiss.ok, fun r H3 rs x4 hr3 hrs hmem => hQ r H3 e rs (ext_trans x2 x4) hr3 ⟨hmiss.z, fun z => mem_nil_of hmem (hmiss.no z), fun z x => (hmem x).trans (hmiss.mem z x), hrs⟩⟩
theorem ok_PPos (F : FnP K "possible" "Point.possible" sPPos f fd) (T : PtT K mg "Point" CP) (cT : Cal P w K mg base CX0 6 "there" (spThere K CC CM)) : FnOk P w K mg base CX0 7 f fd ["self"] (spPos K CP CC CM) := by
  refine F.ok sc_PPos (fun vs H Q E h => ?_) (fun cdv A outer s H vs Q E hr h => ⟨_, PSs.nox (pss_one (ps_ret (pe_c cT hr (by decide) rfl pass0 (pa_cons (pe_fld (pv 0) rfl) pa_nil)))), ?_⟩)
  · obtain ⟨t, _, _, _, _, _, rfl, _⟩ := h
    rfl
  · obtain ⟨o, A, B, D, n, d, rfl, ⟨dx, t, ho, ht⟩, bA, bB, bD, hQ⟩ := h
    exact ⟨_, rfl, o, CP, dx, _, _, rfl, ho, T.cl, T.nC, ptF_c _, t, A, B, D, n, d, rfl, ht, bA, bB, bD, hQ⟩
theorem ok_LPos (F : FnP K "possible" "Line.possible" sLPos f fd) (T : PtT K mg "Line" CL) (cT : Cal P w K mg base CX0 6 "there" (spThere K CC CM)) : FnOk P w K mg base CX0 7 f fd ["self"] (spPos K CL CC CM) := by
  refine F.ok sc_LPos (fun vs H Q E h => ?_) (fun cdv A outer s H vs Q E hr h => ⟨_, PSs.nox (pss_one (ps_ret (pe_c cT hr (by decide) rfl pass0 (pa_cons (pe_fld (pv 0) rfl) pa_nil)))), ?_⟩)
  · obtain ⟨t, _, _, _, _, _, rfl, _⟩ := h
    rfl
  · obtain ⟨o, A, B, D, n, d, rfl, ⟨dx, t, ho, ht⟩, bA, bB, bD, hQ⟩ := h
    exact ⟨_, rfl, o, CL, dx, _, _, rfl, ho, T.cl, T.nC, ptF_c _, t, A, B, D, n, d, rfl, ht, bA, bB, bD, hQ⟩
end
end K75
set_option Elab.async false
set_option linter.all false
set_option maxRecDepth 100000
set_option maxHeartbeats 4000000
namespace K75
open PySem PySem.Spec PyProof.Rows L2
abbrev sNorm : Stmt := top 30
theorem sc_norm : FnScope ["triple", "p", "row", "heads", "back", "divisor", "item"] ["triple", "p"] (defScope sNorm) := ⟨rfl, rfl, rfl, by decide +kernel, rfl, by decide +kernel, by decide +kernel⟩
def nzI (x : Int) : Bool := !decide (x = 0)
def invL (p h : Int) : List Int := ((List.range p.toNat).map Int.ofNat).filter fun k => decide (k * h % p = 1)
def inv (p h : Int) : Int := (invL p h).headD 0
def rowZ (p : Int) (xs : List Int) : List Int := xs.map fun x => if 0 < p then x % p else x
def g3 : List Int → Int
  | [x, y, z] => (Int.gcd (Int.gcd x y : Int) z : Int)
  | _ => 0
def nZ (p : Int) (xs : List Int) : Option (List Int) :=
  match (rowZ p xs).filter nzI with
  | [] => none
  | h :: _ => if 0 < p then some ((rowZ p xs).map fun i => i * inv p h % p) else some ((rowZ p xs).map fun i => i.fdiv (if h < 0 then -g3 (rowZ p xs) else g3 (rowZ p xs)))
theorem mod_inv {p u w h i : Int} (hu : u * h % p = 1) (hw : w * h % p = 1) : i * u % p = i * w % p := by
  have e1 : (i * u * (w * h)) % p = i * u % p := by rw [Int.mul_emod, hw, Int.mul_one, Int.emod_emod]
  have e2 : (i * w * (u * h)) % p = i * w % p := by rw [Int.mul_emod, hu, Int.mul_one, Int.emod_emod]
  rw [← e1, ← e2]
  congr 1
  rw [Int.mul_assoc, Int.mul_assoc, Int.mul_left_comm u w h]
theorem inv_mem {p u h : Int} (hp : 0 < p) (hu : u * h % p = 1) : u % p ∈ invL p h := by
  have h0 := Int.emod_nonneg u (show p ≠ 0 by omega)
  have h1 := Int.emod_lt_of_pos u hp
  refine List.mem_filter.mpr ⟨List.mem_map.mpr ⟨(u % p).toNat, List.mem_range.mpr (by omega), ?_⟩, ?_⟩
  · show ((u % p).toNat : Int) = u % p
    omega
  · rw [decide_eq_true_eq, Int.mul_emod, Int.emod_emod, ← Int.mul_emod]
    exact hu
theorem inv_ok {p u h : Int} (hp : 0 < p) (hu : u * h % p = 1) : inv p h * h % p = 1 := by
  have hm := inv_mem hp hu
  unfold inv
  cases e : invL p h with
  | nil => rw [e] at hm; cases hm
  | cons k ks =>
    have : k ∈ invL p h := by rw [e]; exact List.mem_cons_self
    exact of_decide_eq_true (List.mem_filter.mp this).2
theorem row_inv {p u h : Int} {row : List Int} (hp : 0 < p) (hu : u * h % p = 1) : row.map (fun i => i * u % p) = row.map (fun i => i * inv p h % p) := List.map_congr_left fun _ _ => mod_inv hu (inv_ok hp hu)
def spNorm (K : PySem.W.Frag) : Sp := fun vs H Q _ => ∃ (l : Addr) (p x y z : Int), vs = [.ref l, .int p] ∧ SqL K H l (iV [x, y, z]) ∧ x.natAbs < 2 ^ 29 ∧ y.natAbs < 2 ^ 29 ∧ z.natAbs < 2 ^ 29 ∧ (p = 0 ∨ IsPi p ∧ p < 1000) ∧
  (nZ p [x, y, z] = none → ∀ H', Ext H H' → Q .non H') ∧ ∀ ys, nZ p [x, y, z] = some ys → ∀ t H', Ext H H' → SqT K H' t (iV ys) → Q (.ref t) H'
theorem npi_cop {p h : Int} (hp : IsPi p) (h0 : 0 < h) (h1 : h < p) : Int.gcd h p = 1 := by
  obtain ⟨q, rfl, hq⟩ := isPi_pos hp
  obtain ⟨k, rfl⟩ : ∃ k : Nat, h = k := ⟨h.toNat, by omega⟩
  show Nat.gcd k q = 1
  have hq2 := hq.1
  have d1 : Nat.gcd k q ∣ q := Nat.gcd_dvd_right k q
  have d2 : Nat.gcd k q ∣ k := Nat.gcd_dvd_left k q
  have n0 : Nat.gcd k q ≠ 0 := fun z => by
    rw [z] at d1
    have := Nat.eq_zero_of_zero_dvd d1
    omega
  by_cases hg : Nat.gcd k q = 1
  · exact hg
  · have e := npi_dvd hq d1 (by omega)
    rw [e] at d2
    have := Nat.le_of_dvd (by omega) d2
    omega
theorem lcV_all {f : Int → V} {ns : List Int} : lcV (fun _ => true) f ns = ns.map f := by unfold lcV; rw [filter_all fun _ => rfl]
theorem eqv_nil (ns : List Int) : PyData.eqv (.list (iD ns)) (.list []) = decide (ns = []) := by
  show PyData.eqvAll (iD ns) (iD []) = _
  exact eqvAll_iD ns []
theorem sh_lst (ns : List Int) : SeqAt.shaped (.list (iD ns)) = true := by
  show (PyData.canLayAll0 (iD ns) && decide (PyData.depthAll (iD ns) + 1 ≤ 64)) = true
  rw [shAll_iD, dep_iD]
  rfl
/-- return tuple([item // divisor for item in row]) -/
theorem norm_end {K : PySem.W.Frag} {H : Hp} {D : Ends} {σ : L2.St} {a : Addr} {ns : List Int} {d : Int} (h2 : σ[2]? = some (some (.ref a))) (h5 : σ[5]? = some (some (.int d))) (h7 : σ.length = 7) (ha : SqL K H a (iV ns)) (hl : ns.length < sizeLine) (hd : d ≠ 0 ∧ d.natAbs < 1073741824)
    (hQ : ∀ t H', Ext H H' → SqT K H' t (iV (ns.map fun i => i.fdiv d)) → D.rt (.ref t) H') :
    tRet (tThen (tLc (iList K (tVar 2)) (gName 6) tYes (tOp (rI CDivN fun i j => .int (i.fdiv j)) (tVar 6) (tVar 5)) [6]) (kTup K)) D σ H := by
  refine ⟨_, h2, a, rfl, ⟨_, ha⟩, fun E hE => ?_⟩
  refine lcI_list (fun _ => true) (fun i => V.int (i.fdiv d)) (by decide) ha hE hl (fun n _ acc K' hK => hK) (fun n _ _ acc K' hK => ⟨_, ?_, _, ?_, _, _, rfl, rfl, hd, hK⟩) ?_
  · rw [List.getElem?_set_self (by rw [wipe_length, h7]; decide)]
  · rw [List.getElem?_set_ne (by decide), wipe_out (by decide), h5]
  · refine .inl ⟨E, _, rfl, SqL.of upd_same, fun t ht => hQ t _ (ext_trans (Ext.upd hE) (Ext.upd ht)) (SqT.of ?_)⟩
    rw [upd_same, lcV_all]
    simp [iV]
section
variable {P : Program} {w : World} {K : PySem.W.Frag} {mg : Str → Option Value} {base : Heap} {f CB : Addr} {fd : FuncData}
theorem ok_norm (F : FnP K "normal" "normal" sNorm f fd) (cK : Cal P w K mg base (L2.CX P w) 3 "checked" (spChk CB)) (cC : Cal P w K mg base CX0 1 "combination" (spComb K)) (cG : Cal P w K mg base CX0 1 "common" spCommon) (gT : mg "tuple" = none) : FnOk P w K mg base CX0 4 f fd ["triple", "p"] (spNorm K) := by
  refine F.ok sc_norm (fun vs H Q E h => ?_) (fun cdv A outer s H vs Q E hr h => ⟨_, PSs.nox (pss_cons (ps_expr (pe_c cK hr (by decide) rfl passL (pa_cons (pv 1) pa_nil)))
    (pss_cons (ps_setLc (i := 2) (own := [("item", 6)]) (g := gName 6) (tt := tYes) rfl sc_norm.nd rfl rfl (sw_true rfl rfl rfl (by decide +kernel)) (pi_list (pv 0)) (blkOk_by (own := [("item", 6)]) (N := ["triple", "p", "row", "heads", "back", "divisor", "item"]) (sc := defScope sNorm) (by decide +kernel)) (fun _ _ _ _ _ => pg_name (i := 6) sc_norm.nd rfl (Or.inl rfl)) (fun _ _ _ _ _ => pts_nil)
        (fun _ _ _ _ _ => pe_ifExp (pt_cmpR op_gt (pv 1) pe_int (nomark _)) (pe_op op_mod (pv 6) (pv 1)) (pv 6)))
    (pss_cons (ps_setLc (i := 3) (own := [("item", 6)]) (g := gName 6) (tt := tB (tNeI (tVar 6) (tC (.int 0)))) rfl sc_norm.nd rfl rfl (sw_true rfl rfl rfl (by decide +kernel)) (pi_list (pv 2)) (blkOk_by (own := [("item", 6)]) (N := ["triple", "p", "row", "heads", "back", "divisor", "item"]) (sc := defScope sNorm) (by decide +kernel)) (fun _ _ _ _ _ => pg_name (i := 6) sc_norm.nd rfl (Or.inl rfl)) (fun _ _ _ _ _ => pts_one (pt_cmp (pc_neI (pv 6) pe_int)))
        (fun _ _ _ _ _ => pv 6))
    (pss_cons (ps_if (pt_cmpR (op_eqD hr.units) (pv 3) (pe_lst pa_nil) (nomark _)) (pss_one (ps_ret pe_non)) pss_nil)
    (pss_cons (ps_if (pt_cmpR op_gt (pv 1) pe_int (nomark _))
        (pss_cons (ps_set (i := 4) sc_norm.nd rfl (Or.inr rfl) (pe_ix ix_tup (pe_c cC hr (by decide) rfl pass0 (pa_cons (pe_ix ix_list (pv 3) pe_int (fun _ _ => rfl)) (pa_cons (pv 1) pa_nil))) pe_int (fun _ _ => rfl)))
          (pss_one (ps_ret (pe_tupleOf (by rfl) gT (pe_lc (own := [("item", 6)]) (g := gName 6) (tt := tYes) rfl sc_norm.nd (pi_list (pv 2)) (blkOk_by (own := [("item", 6)]) (N := ["triple", "p", "row", "heads", "back", "divisor", "item"]) (sc := defScope sNorm) (by decide +kernel)) (fun _ _ _ _ _ => pg_name (i := 6) sc_norm.nd rfl (Or.inl rfl)) (fun _ _ _ _ _ => pts_nil)
            (fun _ _ _ _ _ => pe_op op_mod (pe_op op_mul (pv 6) (pv 4)) (pv 1))))))) pss_nil)
    (pss_cons (ps_set (i := 5) sc_norm.nd rfl (Or.inr rfl) (pe_c cG hr (by decide) rfl pass0 (pa_cons (pe_c cG hr (by decide) rfl pass0 (pa_cons (pe_ix ix_list (pv 2) pe_int (fun _ _ => rfl)) (pa_cons (pe_ix ix_list (pv 2) pe_int (fun _ _ => rfl)) pa_nil))) (pa_cons (pe_ix ix_list (pv 2) pe_int (fun _ _ => rfl)) pa_nil))))
    (pss_cons (ps_if (pt_cmpR op_lt (pe_ix ix_list (pv 3) pe_int (fun _ _ => rfl)) pe_int (nomark _)) (pss_one (ps_set (i := 5) sc_norm.nd rfl (Or.inr rfl) (pe_un un_neg (pv 5)))) pss_nil)
    (pss_one (ps_ret (pe_tupleOf (by rfl) gT (pe_lc (own := [("item", 6)]) (g := gName 6) (tt := tYes) rfl sc_norm.nd (pi_list (pv 2)) (blkOk_by (own := [("item", 6)]) (N := ["triple", "p", "row", "heads", "back", "divisor", "item"]) (sc := defScope sNorm) (by decide +kernel)) (fun _ _ _ _ _ => pg_name (i := 6) sc_norm.nd rfl (Or.inl rfl)) (fun _ _ _ _ _ => pts_nil)
            (fun _ _ _ _ _ => pe_op op_fdivN (pv 6) (pv 5))))))))))))), ?_⟩)
  · obtain ⟨l, p, x, y, z, rfl, _⟩ := h
    rfl
  · obtain ⟨l, p, x, y, z, rfl, hl, bx, by', bz, hp, hN, hS⟩ := h
    have hp60 : p < 2 ^ 60 := by rcases hp with h | h <;> omega
    refine ⟨_, rfl, p, rfl, hp60, fun _ => ?_, fun hno => absurd (hp.imp id And.left) hno⟩
    refine ⟨_, rfl, l, rfl, ⟨_, hl⟩, fun D1 hD1 => ?_⟩
    refine lcI_list (fun _ => true) (fun n => V.int (if 0 < p then n % p else n)) (by decide) hl hD1 (by show 3 < sizeLine; decide) (fun n _ acc K' hK => hK) (fun n _ _ acc K' hK => ⟨_, rfl, _, _, rfl, rfl, _, rfl, ifb (fun h0 => ?_) fun h0 => ?_⟩) ?_
    · rw [if_pos h0] at hK
      exact ⟨_, rfl, _, rfl, _, _, rfl, rfl, h0, hK⟩
    · rw [if_neg h0] at hK
      exact ⟨_, rfl, hK⟩
    have eR : lcV (fun _ => true) (fun n => V.int (if 0 < p then n % p else n)) [x, y, z] = iV (rowZ p [x, y, z]) := by
      rw [lcV_all]
      rfl
    rw [eR]
    have hR3 : (rowZ p [x, y, z]).length = 3 := rfl
    have hS1 : SqL K (upd H D1 (.lst (iV (rowZ p [x, y, z])))) D1 (iV (rowZ p [x, y, z])) := SqL.of upd_same
    have x1 : Ext H (upd H D1 (.lst (iV (rowZ p [x, y, z])))) := Ext.upd hD1
    refine ⟨_, rfl, D1, rfl, ⟨_, hS1⟩, fun D2 hD2 => ?_⟩
    refine lcI_list nzI V.int (by decide) hS1 hD2 (by rw [hR3]; decide) (fun n _ acc K' hK => ⟨_, rfl, _, _, rfl, rfl, _, rfl, hK⟩) (fun n _ _ acc K' hK => ⟨_, rfl, hK⟩) ?_
    have x2 : Ext _ (upd (upd H D1 (.lst (iV (rowZ p [x, y, z])))) D2 (.lst (lcV nzI V.int (rowZ p [x, y, z])))) := Ext.upd hD2
    rw [show lcV nzI V.int (rowZ p [x, y, z]) = iV ((rowZ p [x, y, z]).filter nzI) from rfl] at x2 ⊢
    generalize hH3 : upd (upd H D1 (.lst (iV (rowZ p [x, y, z])))) D2 (.lst (iV ((rowZ p [x, y, z]).filter nzI))) = H3 at x2 ⊢
    have hD2s : H3 D2 = some (.lst (iV ((rowZ p [x, y, z]).filter nzI))) := by rw [← hH3, upd_same]
    have x3 := ext_trans x1 x2
    have hD1s : SqL K H3 D1 (iV (rowZ p [x, y, z])) := hS1.ext x2
    refine ⟨_, rfl, Nat.zero_le _, fun D3 hD3 => ?_⟩
    have x4 : Ext H3 (upd H3 D3 (.lst [])) := Ext.upd hD3
    refine ⟨.list (iD ((rowZ p [x, y, z]).filter nzI)), .list [], .lst (SqL.of (x4 _ _ hD2s)) (dpAll_iV _), .lst (SqL.of upd_same) .nil, sh_lst _, rfl, _, rfl, ?_⟩
    rw [eqv_nil]
    refine ifb (fun h0 => ?_) fun h0 => ?_
    · exact hN (by unfold nZ; rw [h0]) _ (ext_trans x3 x4)
    cases e : (rowZ p [x, y, z]).filter nzI with
    | nil => exact absurd e h0
    | cons h hs =>
    rw [e] at hD2s
    have hmem := List.mem_filter.mp (show h ∈ (rowZ p [x, y, z]).filter nzI by rw [e]; exact List.mem_cons_self)
    have hne : h ≠ 0 := by have := hmem.2; simpa [nzI] using this
    have hD2t : SqL K (upd H3 D3 (.lst [])) D2 (iV (h :: hs)) := SqL.of (x4 _ _ hD2s)
    have hD1t := hD1s.ext x4
    have x34 := ext_trans x3 x4
    refine ⟨_, rfl, _, _, rfl, rfl, _, rfl, ifb (fun hpp => ?_) fun hpp => ?_⟩
    · have hpi : IsPi p ∧ p < 1000 := hp.resolve_left (by omega)
      have hrow : ∀ i ∈ rowZ p [x, y, z], 0 ≤ i ∧ i < p := fun i hi => by
        obtain ⟨j, _, rfl⟩ := List.mem_map.mp hi
        rw [if_pos hpp]
        exact ⟨Int.emod_nonneg _ (by omega), Int.emod_lt_of_pos _ hpp⟩
      have hh := hrow h hmem.1
      refine ⟨_, rfl, _, _, _, _, rfl, rfl, hD2t, atI_nat (j := 0) rfl, _, rfl, h, p, rfl, by omega, hpp, by omega, hpi.2, npi_cop hpi.1 (by omega) hh.2, fun t H5 u v x5 ht hu => ?_⟩
      refine ⟨_, _, _, _, rfl, rfl, ht, atI_nat (j := 1) rfl, ?_⟩
      have hD1u := hD1t.ext x5
      refine ⟨_, rfl, D1, rfl, ⟨_, hD1u⟩, fun D4 hD4 => ?_⟩
      refine lcI_list (fun _ => true) (fun i => V.int (i * u % p)) (by decide) hD1u hD4 (by rw [hR3]; decide) (fun n _ acc K' hK => hK) (fun n hn _ acc K' hK => ⟨_, rfl, _, rfl, _, _, rfl, rfl, ?_, _, rfl, _, _, rfl, rfl, hpp, hK⟩) ?_
      · have := hrow n hn
        exact .inl ⟨by omega, by omega⟩
      · refine .inl ⟨D4, _, rfl, SqL.of upd_same, fun t2 ht2 => hS ((rowZ p [x, y, z]).map fun i => i * inv p h % p) ?_ t2 _ (ext_trans x34 (ext_trans x5 (ext_trans (Ext.upd hD4) (Ext.upd ht2)))) (SqT.of ?_)⟩
        · unfold nZ
          rw [e]
          show (if 0 < p then _ else _) = _
          rw [if_pos hpp]
        · rw [upd_same, lcV_all]
          have hu1 : u * h % p = 1 := by
            rw [show u * h = 1 - v * p by omega, Int.sub_mul_emod_self_right]
            have := hpi.1.1
            exact Int.emod_eq_of_lt (by decide) (by omega)
          rw [← row_inv hpp hu1]
          simp [iV]
    · have hp0 : p = 0 := hp.resolve_right fun q => by have := q.1.1; omega
      subst hp0
      have hrow : rowZ 0 [x, y, z] = [x, y, z] := rfl
      rw [hrow] at hD1t hmem e
      have hg : g3 [x, y, z] = (Int.gcd (Int.gcd x y : Int) z : Int) := rfl
      have hdvd : (Int.gcd (Int.gcd x y : Int) z) ∣ h.natAbs := by
        have d0 : (Int.gcd (Int.gcd x y : Int) z) ∣ Int.gcd x y := by
          have := Int.gcd_dvd_natAbs_left (Int.gcd x y : Int) z
          simpa using this
        rcases List.mem_cons.mp hmem.1 with rfl | hm
        · exact Nat.dvd_trans d0 (Int.gcd_dvd_natAbs_left _ _)
        rcases List.mem_cons.mp hm with rfl | hm
        · exact Nat.dvd_trans d0 (Int.gcd_dvd_natAbs_right _ _)
        rw [List.mem_singleton.mp hm]
        exact Int.gcd_dvd_natAbs_right _ _
      have hhb : h.natAbs < 2 ^ 29 := by
        rcases List.mem_cons.mp hmem.1 with rfl | hm
        · exact bx
        rcases List.mem_cons.mp hm with rfl | hm
        · exact by'
        rw [List.mem_singleton.mp hm]
        exact bz
      have hg0 : Int.gcd (Int.gcd x y : Int) z ≠ 0 := fun q => by
        rw [q] at hdvd
        have := Nat.eq_zero_of_zero_dvd hdvd
        omega
      have hgb : Int.gcd (Int.gcd x y : Int) z < 2 ^ 29 := Nat.lt_of_le_of_lt (Nat.le_of_dvd (by omega) hdvd) hhb
      have fin : ∀ (dd : Int), (dd = if h < 0 then -g3 [x, y, z] else g3 [x, y, z]) → ∀ t H', Ext H H' → SqT K H' t (iV ([x, y, z].map fun i => i.fdiv dd)) → Q (.ref t) H' := fun dd hdd t H' hE ht => by
        refine hS _ ?_ t H' hE ht
        unfold nZ
        rw [hrow, e, hdd]
        rfl
      refine ⟨_, rfl, _, _, _, _, rfl, rfl, hD1t, atI_nat (j := 0) rfl, _, rfl, _, _, _, _, rfl, rfl, hD1t, atI_nat (j := 1) rfl, x, y, rfl, _, rfl, _, _, _, _, rfl, rfl, hD1t, atI_nat (j := 2) rfl, _, z, rfl, ?_⟩
      refine ⟨_, rfl, _, _, _, _, rfl, rfl, hD2t, atI_nat (j := 0) rfl, _, _, rfl, rfl, _, rfl, ifb (fun hneg => ?_) fun hneg => ?_⟩
      · refine ⟨_, rfl, _, rfl, ?_⟩
        refine norm_end rfl rfl rfl hD1t (by show 3 < sizeLine; decide) ⟨by omega, by omega⟩ (fun t H' hE ht => fin _ ?_ t H' (ext_trans x34 hE) ht)
        rw [if_pos hneg, hg]
      · refine norm_end rfl rfl rfl hD1t (by show 3 < sizeLine; decide) ⟨by omega, by omega⟩ (fun t H' hE ht => fin _ ?_ t H' (ext_trans x34 hE) ht)
        rw [if_neg hneg, hg]
end
end K75
set_option Elab.async false
set_option linter.all false
set_option maxRecDepth 100000
set_option maxHeartbeats 4000000
namespace K75
open PySem PySem.Spec PyProof.Rows L2 GenW
abbrev sPts : Stmt := top 31
theorem gs_pts : GScope ["p", "z", "y"] ["p"] (defScope sPts) := ⟨rfl, rfl, rfl, by decide +kernel, rfl, by decide +kernel, by decide +kernel⟩
def rngI (n : Nat) : List Int := (List.range n).map Int.ofNat
/-- the points over a field of p elements -/
def pts (p : Nat) : List (List Int) := [[0, 0, 1]] ++ (rngI p).map (fun z => [0, 1, z]) ++ (rngI p).flatMap fun y => (rngI p).map fun z => [1, y, z]
/-- what the consumer keeps: Z by the points that were handed out -/
def spPts : SpC := fun vs S Q n H => ∃ (p : Nat) (Z : List (List Int) → Hp → Prop), vs = [.int (p : Int)] ∧ IsPi (p : Int) ∧ p < 1000 ∧ n = (pts p).length ∧ Z [] H ∧
  (∀ (l r : List (List Int)) (q : List Int) (H : Hp) (T : Addr) (K : Hp → Prop), pts p = l ++ q :: r → Z l H → H T = none → (∀ H2, Z (l ++ [q]) H2 → K H2) → S (.ref T) (upd H T (.tup (iV q))) K) ∧ ∀ H, Z (pts p) H → Q H
theorem rngI_len {n : Nat} : (rngI n).length = n := by simp [rngI]
theorem rngI_get {n i : Nat} (h : i < n) : (rngI n)[i]? = some (i : Int) := by
  unfold rngI
  rw [List.getElem?_map, List.getElem?_range h]
  rfl
theorem rngI_split {n i : Nat} (h : i < n) : rngI n = (rngI n).take i ++ (i : Int) :: (rngI n).drop (i + 1) := by
  have hl : i < (rngI n).length := by rw [rngI_len]; exact h
  have h1 := List.take_append_drop i (rngI n)
  rw [List.drop_eq_getElem_cons hl] at h1
  have h2 := rngI_get h
  rw [List.getElem?_eq_getElem hl] at h2
  rw [Option.some.inj h2] at h1
  exact h1.symm
theorem take_rng {n i : Nat} (h : i < n) : (rngI n).take (i + 1) = (rngI n).take i ++ [(i : Int)] := take_succ (rngI_get h)
theorem take_rng_all {n : Nat} : (rngI n).take n = rngI n := List.take_of_length_le (by rw [rngI_len]; exact Nat.le_refl _)
theorem flat_len {ys zs : List Int} : (ys.flatMap fun y => zs.map fun z => [1, y, z]).length = ys.length * zs.length := by
  induction ys with
  | nil => simp
  | cons y ys ih => rw [List.flatMap_cons, List.length_append, ih, List.length_map, List.length_cons, Nat.add_mul]; omega
theorem pts_len {p : Nat} : (pts p).length = 1 + p + p * p := by
  unfold pts
  rw [List.length_append, List.length_append, List.length_map, flat_len, rngI_len]
  rfl
theorem pts_split1 {p i : Nat} (hi : i < p) : pts p = ([[0, 0, 1]] ++ ((rngI p).take i).map fun z => [0, 1, z]) ++ [0, 1, (i : Int)] :: (((rngI p).drop (i + 1)).map (fun z => [0, 1, z]) ++ (rngI p).flatMap fun y => (rngI p).map fun z => [1, y, z]) := by
  have h1 : (rngI p).map (fun z => ([0, 1, z] : List Int)) = ((rngI p).take i).map (fun z => [0, 1, z]) ++ [0, 1, (i : Int)] :: ((rngI p).drop (i + 1)).map (fun z => [0, 1, z]) := by
    have := congrArg (List.map fun z => ([0, 1, z] : List Int)) (rngI_split hi)
    rwa [List.map_append, List.map_cons] at this
  unfold pts
  rw [h1]
  simp only [List.append_assoc, List.cons_append]
theorem pts_split2 {p i j : Nat} (hi : i < p) (hj : j < p) : pts p = ([[0, 0, 1]] ++ (rngI p).map (fun z => [0, 1, z]) ++ ((rngI p).take i).flatMap (fun y => (rngI p).map fun z => [1, y, z]) ++ ((rngI p).take j).map fun z => [1, (i : Int), z]) ++
    [1, (i : Int), (j : Int)] :: (((rngI p).drop (j + 1)).map (fun z => [1, (i : Int), z]) ++ ((rngI p).drop (i + 1)).flatMap fun y => (rngI p).map fun z => [1, y, z]) := by
  have h1 : (rngI p).map (fun z => ([1, (i : Int), z] : List Int)) = ((rngI p).take j).map (fun z => [1, (i : Int), z]) ++ [1, (i : Int), (j : Int)] :: ((rngI p).drop (j + 1)).map (fun z => [1, (i : Int), z]) := by
    have := congrArg (List.map fun z => ([1, (i : Int), z] : List Int)) (rngI_split hj)
    rwa [List.map_append, List.map_cons] at this
  have h2 : ((rngI p).flatMap fun y => (rngI p).map fun z => [1, y, z]) = ((rngI p).take i).flatMap (fun y => (rngI p).map fun z => [1, y, z]) ++ ((rngI p).map (fun z => [1, (i : Int), z]) ++ ((rngI p).drop (i + 1)).flatMap fun y => (rngI p).map fun z => [1, y, z]) := by
    have := congrArg (List.flatMap fun y => (rngI p).map fun z => ([1, y, z] : List Int)) (rngI_split hi)
    rwa [List.flatMap_append, List.flatMap_cons] at this
  unfold pts
  rw [h2, h1]
  simp only [List.append_assoc, List.cons_append]
/-- a for over a range in a generator -/
theorem gfor_rng {n : Nat} {g : TG} {tb : TGc} {D : Nat → L2.St → Hp → Prop} {k : Nat} {σ : L2.St} {H : Hp} (Pv : Nat → Nat → L2.St → Hp → Prop) (h0 : Pv 0 k σ H)
    (hs : ∀ i k σ H, i < n → Pv i k σ H → g (.int (0 + i)) σ H fun σ2 H2 => tb (Pv (i + 1)) k σ2 H2) (hd : ∀ k σ H, Pv n k σ H → D k σ H) :
    ∃ W : Nat → Nat → Nat → L2.St → Hp → Prop, (∃ m, W 0 m k σ H) ∧ ∀ i m k σ H, W i m k σ H →
      ((Itr 0 n).stop i H ∧ D k σ H) ∨ ((Itr 0 n).go i H ∧ ∃ Nx : Nat → L2.St → Hp → Prop, (∀ n' σ' H', Nx n' σ' H' → ∃ m', m' < m ∧ W (i + 1) m' n' σ' H') ∧ ∀ x H', (Itr 0 n).yld i H x H' → g x σ H' fun σ2 H2 => tb Nx k σ2 H2) := by
  refine ⟨fun i m k σ H => m = n - i ∧ i ≤ n ∧ Pv i k σ H, ⟨n, by simp, Nat.zero_le _, h0⟩, ?_⟩
  rintro i m k σ H ⟨rfl, hi, p⟩
  by_cases hlt : i < n
  · refine .inr ⟨hlt, Pv (i + 1), fun n' σ' H' p' => ⟨n - (i + 1), by omega, rfl, hlt, p'⟩, fun x H' y => ?_⟩
    obtain ⟨e, y⟩ := y
    subst e y
    exact hs i k σ _ hlt p
  · have e : i = n := by omega
    subst e
    exact .inl ⟨Nat.le_refl _, hd k σ H p⟩
section
variable {P : Program} {w : World} {K : PySem.W.Frag} {mg : Str → Option Value} {base : Heap} {f CB : Addr} {fd : FuncData}
theorem ok_pts (F : FnP K "points_of" "points_of" sPts f fd) (cK : Cal P w K mg base (L2.CX P w) 3 "checked" (spChk CB)) (gR : mg "range" = none) : GFnC P w K mg base 4 f fd ["p"] spPts := by
  obtain ⟨oc, od, dV, kV, doc, pm, an, cdv, ct, osl, rfl, lk, hcd, _, _⟩ := F.ex
  refine gfnc_of lk hcd gs_pts (fun n => by rfl) fun A outer s H vs pn C St Q n H2 hr h => ⟨_, gssc_cons (gsc_ps (ps_if (pt_cmpR op_eq (pe_c cK hr (by decide) rfl passL (pa_cons (pv 0) pa_nil)) pe_int (nomark _)) pss_never pss_nil))
    (gssc_cons (gsc_yield (pe_tup (pa_cons pe_int (pa_cons pe_int (pa_cons pe_int pa_nil)))))
    (gssc_cons (gsc_for rfl (passes_of rfl) (pi_range1 (by rfl) gR (pa_cons (pv 0) pa_nil)) (pg_name (i := 1) gs_pts.nd rfl (Or.inl rfl)) (gssc_cons (gsc_yield (pe_tup (pa_cons pe_int (pa_cons pe_int (pa_cons (pv 1) pa_nil))))) gssc_nil))
    (gssc_cons (gsc_for rfl (passes_of rfl) (pi_range1 (by rfl) gR (pa_cons (pv 0) pa_nil)) (pg_name (i := 2) gs_pts.nd rfl (Or.inl rfl))
      (gssc_cons (gsc_for rfl (passes_of rfl) (pi_range1 (by rfl) gR (pa_cons (pv 0) pa_nil)) (pg_name (i := 1) gs_pts.nd rfl (Or.inl rfl)) (gssc_cons (gsc_yield (pe_tup (pa_cons pe_int (pa_cons (pv 2) (pa_cons (pv 1) pa_nil))))) gssc_nil)) gssc_nil)) gssc_nil))), ?_⟩
  obtain ⟨p, Z, rfl, hp, hp1, rfl, z0, hS, hQ⟩ := h
  have hp2 := hp.1
  have h60 : (p : Int) < 2 ^ 60 := by omega
  refine ⟨_, rfl, _, rfl, h60, fun _ => ⟨rfl, _, rfl, ifb (fun h0 => absurd (V.int.inj h0) (by omega)) fun _ => ?_⟩, fun hno => absurd (.inr hp) hno⟩
  refine ⟨p + p * p, by rw [pts_len]; omega, (by show 3 ≤ sizeLine; decide), fun T hT => hS [] _ [0, 0, 1] _ T _ rfl z0 hT fun H3 z3 => ?_⟩
  refine ⟨_, rfl, _, rfl, by omega, by omega, gfor_rng (n := p) (fun i k σ H' => ∃ u v, σ = [some (.int (p : Int)), u, v] ∧ Z ([[0, 0, 1]] ++ ((rngI p).take i).map fun z => [0, 1, z]) H' ∧ k = p - i + p * p) ⟨none, none, rfl, z3, rfl⟩ ?_ ?_⟩
  · rintro i k σ H' hi ⟨u, v, rfl, z, rfl⟩
    refine ⟨p - (i + 1) + p * p, by omega, _, rfl, (by show 3 ≤ sizeLine; decide), fun T hT => ?_⟩
    have e0 : ((0 : Int) + (i : Nat)) = (i : Int) := Int.zero_add _
    rw [e0]
    refine hS _ _ [0, 1, (i : Int)] _ T _ (pts_split1 hi) z hT fun H4 z4 => ⟨_, _, rfl, ?_, rfl⟩
    rw [take_rng hi, List.map_append, ← List.append_assoc]
    exact z4
  · rintro k σ H' ⟨u, v, rfl, z, rfl⟩
    rw [take_rng_all] at z
    refine ⟨_, rfl, _, rfl, by omega, by omega, gfor_rng (n := p) (fun i k σ H' => ∃ u v, σ = [some (.int (p : Int)), u, v] ∧ Z ([[0, 0, 1]] ++ (rngI p).map (fun z => [0, 1, z]) ++ ((rngI p).take i).flatMap fun y => (rngI p).map fun z => [1, y, z]) H' ∧ k = (p - i) * p)
      ⟨u, v, rfl, by rw [List.take_zero]; simpa using z, by rw [Nat.sub_self, Nat.zero_add, Nat.sub_zero]⟩ ?_ ?_⟩
    · rintro i k σ H' hi ⟨u, v, rfl, z, rfl⟩
      have e0 : ((0 : Int) + (i : Nat)) = (i : Int) := Int.zero_add _
      rw [e0]
      refine ⟨_, rfl, _, rfl, by omega, by omega, gfor_rng (n := p) (fun j k σ H' => ∃ u, σ = [some (.int (p : Int)), u, some (.int (i : Int))] ∧ Z ([[0, 0, 1]] ++ (rngI p).map (fun z => [0, 1, z]) ++ ((rngI p).take i).flatMap (fun y => (rngI p).map fun z => [1, y, z]) ++ ((rngI p).take j).map fun z => [1, (i : Int), z]) H' ∧ k = (p - (i + 1)) * p + (p - j))
        ⟨u, rfl, by rw [List.take_zero]; simpa using z, ?_⟩ ?_ ?_⟩
      · rw [show p - i = (p - (i + 1)) + 1 by omega, Nat.add_mul]
        omega
      · rintro j k σ H' hj ⟨u, rfl, z, rfl⟩
        have e1 : ((0 : Int) + (j : Nat)) = (j : Int) := Int.zero_add _
        rw [e1]
        refine ⟨(p - (i + 1)) * p + (p - (j + 1)), by omega, _, rfl, _, rfl, (by show 3 ≤ sizeLine; decide), fun T hT => ?_⟩
        refine hS _ _ [1, (i : Int), (j : Int)] _ T _ (pts_split2 hi hj) z hT fun H4 z4 => ⟨_, rfl, ?_, rfl⟩
        rw [take_rng hj, List.map_append, ← List.append_assoc]
        exact z4
      · rintro k σ H' ⟨u, rfl, z, rfl⟩
        rw [take_rng_all] at z
        refine ⟨_, _, rfl, ?_, by omega⟩
        rw [take_rng hi, List.flatMap_append, ← List.append_assoc]
        simpa using z
    · rintro k σ H' ⟨u, v, rfl, z, rfl⟩
      rw [take_rng_all] at z
      exact hQ H' z
end
end K75
set_option Elab.async false
set_option linter.all false
set_option maxRecDepth 100000
set_option maxHeartbeats 4000000
namespace K75
open PySem PySem.Spec PyProof.Rows L2 GenW
abbrev sOn : Stmt := top 32
theorem sc_on : FnScope ["triple", "p", "a", "b", "c", "x", "y", "z"] ["triple", "p"] (defScope sOn) := ⟨rfl, rfl, rfl, by decide +kernel, rfl, by decide +kernel, by decide +kernel⟩
/-- the point lies on the line -/
def onB (p a b c : Int) : List Int → Bool
  | [x, y, z] => decide ((a * x + b * y + c * z) % p = 0)
  | _ => false
def ListPts (H : Hp) (l : Addr) (qs : List (List Int)) : Prop := ∃ ts : List Addr, H l = some (.lst (ts.map V.ref)) ∧ Paired (fun t q => H t = some (.tup (iV q))) ts qs
def spOn (K : PySem.W.Frag) : Sp := fun vs H Q _ => ∃ (t : Addr) (p a b c : Int), vs = [.ref t, .int p] ∧ SqT K H t (iV [a, b, c]) ∧ IsPi p ∧ p < 1000 ∧ a.natAbs < 2 ^ 60 ∧ b.natAbs < 2 ^ 60 ∧ c.natAbs < 2 ^ 60 ∧ ∀ l H', Ext H H' → ListPts H' l ((pts p.toNat).filter (onB p a b c)) → Q (.ref l) H'
theorem look_p : List.lookup ("p" : Str) ([(".0", NameKind.local), ("x", NameKind.local), ("y", NameKind.local), ("z", NameKind.local), ("a", NameKind.free), ("b", NameKind.free), ("c", NameKind.free), ("p", NameKind.free)] : List (Str × NameKind)) = some NameKind.free := by decide +kernel
theorem pts_three {p : Nat} {q : List Int} (h : q ∈ pts p) : ∃ x y z, q = [x, y, z] := by
  unfold pts at h
  rcases List.mem_append.mp h with h | h
  · rcases List.mem_append.mp h with h | h
    · exact ⟨_, _, _, List.mem_singleton.mp h⟩
    · obtain ⟨z, _, rfl⟩ := List.mem_map.mp h
      exact ⟨_, _, _, rfl⟩
  · obtain ⟨y, _, h⟩ := List.mem_flatMap.mp h
    obtain ⟨z, _, rfl⟩ := List.mem_map.mp h
    exact ⟨_, _, _, rfl⟩
section
variable {P : Program} {w : World} {K : PySem.W.Frag} {mg : Str → Option Value} {base : Heap} {f g : Addr} {fd gd : FuncData}
theorem ok_on (F : FnP K "points_on" "points_on" sOn f fd) (G : GFnC P w K mg base 4 g gd ["p"] spPts) (mG : mg "points_of" = some (.ref g)) (kG : PySem.W.keepIn K (.ref g) = true) (bG : Binds K gd ["p"] []) : FnOk P w K mg base CX0 6 f fd ["triple", "p"] (spOn K) := by
  refine F.ok sc_on (fun vs H Q E h => ?_) (fun cdv A outer s H vs Q E hr h => ⟨_, PSs.nox (pss_cons (ps_asg (pv 0) (pg_tup (by rfl) (pgs_cons (pg_name (i := 2) sc_on.nd rfl (Or.inr rfl)) (pgs_cons (pg_name (i := 3) sc_on.nd rfl (Or.inr rfl)) (pgs_cons (pg_name (i := 4) sc_on.nd rfl (Or.inr rfl)) pgs_nil)))))
    (pss_one (ps_ret (pe_lcG (k := 4) (own := [("x", 5), ("y", 6), ("z", 7)]) (g := gTup K 3 (gCons (gName 5) (gCons (gName 6) (gCons (gName 7) gNil)))) rfl sc_on.nd hr (pgc_call G (hr.mono (by decide)) rfl mG kG bG (pa_cons (pv 1) pa_nil))
      (blkOk_by (own := [("x", 5), ("y", 6), ("z", 7)]) (N := ["triple", "p", "a", "b", "c", "x", "y", "z"]) (sc := defScope sOn) (by decide +kernel)) (fun _ _ => by rfl)
      (fun _ _ _ _ => pgq_tup (by rfl) (pgqs_cons (pgq_name (i := 5) sc_on.nd rfl rfl) (pgqs_cons (pgq_name (i := 6) sc_on.nd rfl rfl) (pgqs_cons (pgq_name (i := 7) sc_on.nd rfl rfl) pgqs_nil))))
      (fun _ _ _ _ => ptq_eq (pq_mod (pq_add (pq_add (pq_mul (pq_var (i := 2) rfl (Or.inr (Or.inl rfl))) (pq_var (i := 5) rfl (Or.inl rfl))) (pq_mul (pq_var (i := 3) rfl (Or.inr (Or.inl rfl))) (pq_var (i := 6) rfl (Or.inl rfl)))) (pq_mul (pq_var (i := 4) rfl (Or.inr (Or.inl rfl))) (pq_var (i := 7) rfl (Or.inl rfl)))) (pq_var (i := 1) rfl (Or.inr (Or.inl rfl)))) pq_int rfl)
      (fun _ _ _ _ => pq_tup3 (pq_var (i := 5) rfl (Or.inl rfl)) (pq_var (i := 6) rfl (Or.inl rfl)) (pq_var (i := 7) rfl (Or.inl rfl))))))), ?_⟩)
  · obtain ⟨t, p, a, b, c, rfl, _⟩ := h
    rfl
  · obtain ⟨t, p, a, b, c, rfl, ht, hp, hp1, ba, bb, bc, hQ⟩ := h
    have hp2 := hp.1
    obtain ⟨n, rfl⟩ : ∃ n : Nat, p = (n : Int) := ⟨p.toNat, by omega⟩
    refine ⟨_, rfl, t, _, rfl, ht, rfl, _, _, rfl, _, _, rfl, _, _, rfl, rfl, ?_⟩
    refine ⟨_, rfl, rfl, fun D hD => ⟨_, n, fun l H' => Ext H H' ∧ ListPts H' D (l.filter (onB n a b c)), rfl, hp, by omega, rfl, ⟨Ext.upd hD, [], by rw [upd_same]; rfl, .nil⟩, ?_, fun H' z => hQ D H' z.1 z.2⟩⟩
    rintro l r q H1 T K' hsplit ⟨hE, ts, e1, e2⟩ hT hK
    obtain ⟨x, y, z, rfl⟩ := pts_three (show q ∈ pts n by rw [hsplit]; exact List.mem_append_right _ List.mem_cons_self)
    have x1 : Ext H1 (upd H1 T (.tup (iV [x, y, z]))) := Ext.upd hT
    have hDT : D ≠ T := fun z => by rw [z, hT] at e1; cases e1
    refine ⟨T, _, rfl, SqT.of upd_same, rfl, _, _, rfl, _, _, rfl, _, _, rfl, rfl, rfl, ?_⟩
    refine ⟨_, rfl, _, rfl, a, x, rfl, rfl, .inl ⟨by omega, by omega⟩, _, rfl, _, rfl, b, y, rfl, rfl, .inl ⟨by omega, by omega⟩, _, _, rfl, rfl, trivial, _, rfl, _, rfl, c, z, rfl, rfl, .inl ⟨by omega, by omega⟩, _, _, rfl, rfl, trivial, _, rfl, _, _, rfl, rfl, by omega, _, _, rfl, rfl, ?_⟩
    have hf : onB n a b c [x, y, z] = decide ((a * x + b * y + c * z) % n = 0) := rfl
    rw [← hf]
    have hls : ts.length < sizeLine := by
      have h1 := paired_len e2
      have h2 := List.length_filter_le (onB n a b c) l
      have h3 : l.length ≤ (pts n).length := by rw [hsplit, List.length_append]; omega
      rw [pts_len] at h3
      have h4 : n * n ≤ 1000 * 1000 := Nat.mul_le_mul (by omega) (by omega)
      rw [sizeLine_eq]
      omega
    cases hb : onB n a b c [x, y, z] with
    | false =>
      refine iteF (hK _ ⟨ext_trans hE x1, ts, x1 _ _ e1, ?_⟩)
      rw [List.filter_append, List.filter_cons_of_neg (by rw [hb]; exact Bool.false_ne_true), List.filter_nil, List.append_nil]
      exact paired_mono (fun t q (h : H1 t = _) => x1 _ _ h) e2
    | true =>
      refine iteT ⟨_, rfl, _, rfl, _, rfl, fun T2 hT2 => ?_⟩
      have hDT2 : D ≠ T2 := fun z => by rw [← z, upd_ne hDT, e1] at hT2; cases hT2
      have x2 := ext_trans x1 (Ext.upd (o := .tup [.int x, .int y, .int z]) hT2)
      refine ⟨_, x2 _ _ e1, by rw [List.length_map]; exact hls, hK _ ⟨fun b' o e => ?_, ts ++ [T2], by rw [upd_same, List.map_append]; rfl, ?_⟩⟩
      · have : b' ≠ D := fun z => by rw [z, hD] at e; cases e
        rw [upd_ne this]
        exact x2 _ _ (hE _ _ e)
      · rw [List.filter_append, List.filter_cons_of_pos hb, List.filter_nil]
        refine paired_append (paired_mono (fun t q (h : H1 t = _) => ?_) e2) (.cons ?_ .nil)
        · have : t ≠ D := fun z => by rw [z, e1] at h; cases h
          rw [upd_ne this]
          exact x2 _ _ h
        · rw [upd_ne hDT2.symm, upd_same]
          rfl
end
end K75
set_option Elab.async false
set_option linter.all false
set_option maxRecDepth 100000
set_option maxHeartbeats 4000000
namespace K75
open PySem PySem.Spec PyProof.Rows L2
abbrev sSeenT : Stmt := inClass (top 27) 2
abbrev sSeenP : Stmt := inClass (top 28) 4
abbrev sSeenL : Stmt := inClass (top 29) 2
theorem sc_seenT : FnScope ["self", "values", "p", "part"] ["self", "values", "p"] (defScope sSeenT) := ⟨rfl, rfl, rfl, by decide +kernel, rfl, by decide +kernel, by decide +kernel⟩
theorem ns_seenP : NdefX.NScope ["self", "values", "p", "__class__"] ["self", "values", "p"] ["__class__"] (defScope sSeenP) := NdefX.nscope_by (by decide +kernel)
theorem ns_seenL : NdefX.NScope ["self", "values", "p", "__class__"] ["self", "values", "p"] ["__class__"] (defScope sSeenL) := NdefX.nscope_by (by decide +kernel)
def md (p v : Int) : Int := if p = 0 then v else v % p
structure VO (L : Tm) (kvs : List (Key × V)) (n : Int) : Prop where
  sm : ∃ xs, Sm L xs
  cb : ∀ p ∈ L, p.2.natAbs < 2 ^ 60
  v : IsVal L kvs n
def spSeen (K : PySem.W.Frag) (C CB CU CM : Addr) : Sp := fun vs H Q E => ∃ (o dv : Addr) (p : Int) (A B D : Tm) (n d : Nat) (kvs : List (Key × V)), vs = [.ref o, .ref dv, .int p] ∧ PtO K C CM H o A B D n d ∧ Rd H dv (.dK kvs) ∧
  ((∃ x y z, (p = 0 ∨ IsPi p ∧ p < 1000) ∧ VO A kvs x ∧ VO B kvs y ∧ VO D kvs z ∧ x.natAbs < 2 ^ 29 ∧ y.natAbs < 2 ^ 29 ∧ z.natAbs < 2 ^ 29 ∧
      (nZ p [md p x, md p y, md p z] = none → ∀ H', Ext H H' → Q .non H') ∧ ∀ ys, nZ p [md p x, md p y, md p z] = some ys → ∀ t H', Ext H H' → SqT K H' t (iV ys) → Q (.ref t) H') ∨
   (∃ x, (p = 0 ∨ IsPi p ∧ p < 1000) ∧ VO A kvs x ∧ Sm B (["b7y"] : List Str) ∧ (∀ p ∈ B, p.2.natAbs < 2 ^ 60) ∧ valV kvs (.inr "b7y") = none ∧ ∀ H' d, Ext H H' → H' d = none → E (.ref CU) (some d) (upd H' d (.xd [("name", .str "b7y")]))) ∨
   (∃ xs, p = 4 ∧ Sm A xs ∧ (∀ p ∈ A, p.2.natAbs < 2 ^ 60) ∧ ∀ H' d, Ext H H' → H' d = none → E (.ref CB) (some d) (upd H' d (.xd [("p", .int 4)]))))
theorem md_small {p v : Int} (hp : p = 0 ∨ IsPi p ∧ p < 1000) (hv : v.natAbs < 2 ^ 29) : (md p v).natAbs < 2 ^ 29 := by
  unfold md
  by_cases h : p = 0
  · rw [if_pos h]; exact hv
  · rw [if_neg h]
    have := (hp.resolve_left h).1.1
    have h1 := Int.emod_nonneg v h
    have h2 := Int.emod_lt_of_pos v (show 0 < p by omega)
    have := (hp.resolve_left h).2
    omega
section
variable {P : Program} {w : World} {K : PySem.W.Frag} {mg : Str → Option Value} {base : Heap} {f C CB CU CM : Addr} {fd : FuncData}
theorem ok_seenT (F : FnP K "seen" "Triple.seen" sSeenT f fd) (c : Cls K C) (nc : NoAttr K C "coordinates") (cN : CalN P w K mg base CX0 4 1 "normal" ["p"] (spNorm K)) (mV : MetN P w K mg base (L2.CX P w) 5 1 CM "value" ["p"] (spMVal CB CU CM)) :
    FnOk P w K mg base (L2.CX P w) 6 f fd ["self", "values", "p"] (spSeen K C CB CU CM) := by
  refine F.ok sc_seenT (fun vs H Q E h => ?_) (fun cdv A outer s H vs Q E hr h => ⟨_, pss_one (ps_ret (pe_cn cN hr (by decide) rfl pass0 (pa_cons (pe_lcE (E := E) (own := [("part", 3)]) (g := gName 3) rfl sc_seenT.nd rfl rfl (takes_of rfl rfl rfl rfl) (pi_tup (pe_fld (pv 0) rfl)) (blkOk_by (own := [("part", 3)]) (N := ["self", "values", "p", "part"]) (sc := defScope sSeenT) (by decide +kernel))
      (fun _ _ _ _ _ _ => pg_name (i := 3) sc_seenT.nd rfl (Or.inl rfl)) (fun _ _ _ _ _ _ hp => pe_mn mV hr (by decide) hp (pv 3) (pa_cons (pv 1) pa_nil) (pk_cons (pv 2) pk_nil))) pa_nil) (pk_cons (pv 2) pk_nil))), ?_⟩)
  · obtain ⟨o, dv, p, _, _, _, _, _, _, rfl, _⟩ := h
    rfl
  · obtain ⟨o, dv, p, A, B, D, n, d, kvs, rfl, ⟨dx, t, ho, a, b, c', ht, hA, hB, hD, gA, gB, gD⟩, hrd, hway⟩ := h
    refine ⟨_, rfl, o, C, dx, _, _, rfl, ho, c, nc, ptF_c _, t, rfl, ⟨_, ht⟩, fun l hl => ?_⟩
    have xl : Ext H (upd H l (.lst [])) := Ext.upd hl
    rcases hway with ⟨x, y, z, hp, vA, vB, vD, bx, by', bz, hN, hS⟩ | ⟨x, hp, vA, smB, cbB, hnone, hX⟩ | ⟨xs, rfl, smA, cbA, hX⟩
    · have hp60 : p < 2 ^ 60 := by rcases hp with h | h <;> omega
      refine ⟨fun i m H' => m = 3 - i ∧ i ≤ 3 ∧ Ext H H' ∧ H' l = some (.lst (iV ([md p x, md p y, md p z].take i))), ⟨3, rfl, by decide, xl, by rw [upd_same]; rfl⟩, ?_⟩
      rintro i m H' ⟨rfl, hi, hE, hL⟩
      by_cases hlt : i < 3
      · refine .inr ⟨⟨_, ([.ref a, .ref b, .ref c'] : List V)[i], ht.ext hE, by simp [hlt]⟩, fun H2 => i + 1 ≤ 3 ∧ Ext H H2 ∧ H2 l = some (.lst (iV ([md p x, md p y, md p z].take (i + 1)))), fun H2 q => ⟨3 - (i + 1), by omega, rfl, q⟩, ?_⟩
        rintro u H2 ⟨rfl, hu⟩
        have hu2 := hu _ (ht.ext hE)
        have step : ∀ (q : Addr) (L : Tm) (v : Int), u = .ref q → MnO CM H q L → VO L kvs v → [md p x, md p y, md p z][i]? = some (md p v) →
            gName 3 u (wipe [some (.ref o), some (.ref dv), some (.int p), none] [3]) H2 fun σ2 H3 => wipe σ2 [3] = wipe [some (.ref o), some (.ref dv), some (.int p), none] [3] ∧
              tMethN CM "value" 1 1 (spMVal CB CU CM) E (tVar 3) (tCons (tVar 1) tNil) (tCons (tVar 2) tNil) σ2 H3 fun yy H4 => ∃ acc, H4 l = some (.lst acc) ∧ acc.length < sizeLine ∧ (fun H2 => i + 1 ≤ 3 ∧ Ext H H2 ∧ H2 l = some (.lst (iV ([md p x, md p y, md p z].take (i + 1))))) (upd H4 l (.lst (acc ++ [yy]))) := by
          rintro q L v rfl hq ⟨⟨ws, hsm⟩, hcb, hval⟩ hg
          have hq2 := hq.ext hE
          have hq3 := hq2
          obtain ⟨dq, _, _, hqi, _⟩ := hq3
          refine ⟨wipe_set (by decide), _, rfl, q, dq, _, rfl, hqi, rfl, _, rfl, _, rfl, rfl, rfl, q, dv, p, L, ws, kvs, rfl, hq2, hsm, hcb, rd_ext hrd hE, hp60, .inl ⟨hp.imp id And.left, v, hval, fun H3 x3 => ?_⟩⟩
          refine ⟨_, x3 _ _ hL, ?_, hlt, fun b' o' e => ?_, ?_⟩
          · rw [List.length_map, List.length_take, sizeLine_eq]
            show min i 3 < _
            omega
          · have : b' ≠ l := fun z => by rw [z, hl] at e; cases e
            rw [upd_ne this]
            exact x3 _ _ (hE _ _ e)
          · rw [upd_same, take_succ hg]
            simp [iV, md]
        match i, hlt, hu2, step with
        | 0, _, hu2, step => exact step a A x (by simpa using hu2.symm) hA vA rfl
        | 1, _, hu2, step => exact step b B y (by simpa using hu2.symm) hB vB rfl
        | 2, _, hu2, step => exact step c' D z (by simpa using hu2.symm) hD vD rfl
        | i + 3, h, _, _ => omega
      · have e : i = 3 := by omega
        subst e
        refine .inl ⟨⟨_, ht.ext hE, Nat.le_refl _⟩, _, rfl, rfl, rfl, l, p, md p x, md p y, md p z, rfl, SqL.of hL, md_small hp bx, md_small hp by', md_small hp bz, hp, fun h0 H3 x3 => hN h0 H3 (ext_trans hE x3), fun ys h0 t2 H3 x3 ht2 => hS ys h0 t2 H3 (ext_trans hE x3) ht2⟩
    · have hp60 : p < 2 ^ 60 := by rcases hp with h | h <;> omega
      refine ⟨fun i m H' => m = 3 - i ∧ i ≤ 1 ∧ Ext H H' ∧ H' l = some (.lst (iV ([md p x].take i))), ⟨3, rfl, by decide, xl, by rw [upd_same]; rfl⟩, ?_⟩
      rintro i m H' ⟨rfl, hi, hE, hL⟩
      refine .inr ⟨⟨_, ([.ref a, .ref b, .ref c'] : List V)[i]'(by show i < 3; omega), ht.ext hE, by simp⟩, fun H2 => i + 1 ≤ 1 ∧ Ext H H2 ∧ H2 l = some (.lst (iV ([md p x].take (i + 1)))), fun H2 q => ⟨3 - (i + 1), by omega, rfl, q⟩, ?_⟩
      rintro u H2 ⟨rfl, hu⟩
      have hu2 := hu _ (ht.ext hE)
      match i, hi, hu2, hL with
      | 0, _, hu2, hL =>
        obtain rfl : V.ref a = u := by simpa using hu2
        obtain ⟨⟨ws, hsm⟩, hcb, hval⟩ := vA
        have hq2 := hA.ext hE
        have hq3 := hq2
        obtain ⟨dq, _, _, hqi, _⟩ := hq3
        refine ⟨wipe_set (by decide), _, rfl, a, dq, _, rfl, hqi, rfl, _, rfl, _, rfl, rfl, rfl, a, dv, p, A, ws, kvs, rfl, hq2, hsm, hcb, rd_ext hrd hE, hp60, .inl ⟨hp.imp id And.left, x, hval, fun H3 x3 => ?_⟩⟩
        refine ⟨_, x3 _ _ hL, (by show 0 < sizeLine; decide), Nat.le_refl _, fun b' o' e => ?_, ?_⟩
        · have : b' ≠ l := fun z => by rw [z, hl] at e; cases e
          rw [upd_ne this]
          exact x3 _ _ (hE _ _ e)
        · rw [upd_same]
          rfl
      | 1, _, hu2, hL =>
        obtain rfl : V.ref b = u := by simpa using hu2
        have hq2 := hB.ext hE
        have hq3 := hq2
        obtain ⟨dq, _, _, hqi, _⟩ := hq3
        exact ⟨wipe_set (by decide), _, rfl, b, dq, _, rfl, hqi, rfl, _, rfl, _, rfl, rfl, rfl, b, dv, p, B, _, kvs, rfl, hq2, smB, cbB, rd_ext hrd hE, hp60, .inr (.inl ⟨hp.imp id And.left, rfl, hnone, fun H3 d' x3 hd' => hX H3 d' (ext_trans hE x3) hd'⟩)⟩
    · refine ⟨fun i m H' => m = 3 - i ∧ i = 0 ∧ Ext H H', ⟨3, rfl, rfl, xl⟩, ?_⟩
      rintro i m H' ⟨rfl, rfl, hE⟩
      refine .inr ⟨⟨_, .ref a, ht.ext hE, rfl⟩, fun H2 => False, fun H2 q => q.elim, ?_⟩
      rintro u H2 ⟨rfl, hu⟩
      have hu2 := hu _ (ht.ext hE)
      obtain rfl : V.ref a = u := by simpa using hu2
      have hq2 := hA.ext hE
      have hq3 := hq2
      obtain ⟨dq, _, _, hqi, _⟩ := hq3
      exact ⟨wipe_set (by decide), _, rfl, a, dq, _, rfl, hqi, rfl, _, rfl, _, rfl, rfl, rfl, a, dv, 4, A, xs, kvs, rfl, hq2, smA, cbA, rd_ext hrd hE, by decide, .inr (.inr ⟨rfl, fun d' hd' => hX _ d' hE hd'⟩)⟩
/-- return super().seen(values, p=p), of a Point (D: its class) -/
theorem ok_seenP {cc g : Addr} {fdT : FuncData} {doc pm ctv : Value} {cd : Addr} (T : SupD P K mg (nfX "seen" "Point.seen" sSeenP cc cd) f cc C "self" doc pm ctv) (hsub : PySem.W.mroIn K C (.ref C) = some true)
    (hm : PySem.W.ks_superIn K C C "seen" = some (some (.ref g))) (ht2 : PySem.W.typeIn K (.ref g) = some (.type "function")) (hf2 : PySem.W.fnIn K g = true) (G : FnOk P w K mg base (L2.CX P w) 6 g fdT ["self", "values", "p"] (spSeen K C CB CU CM)) (hb : KBn K fdT ["self", "values", "p"] 2 ["p"] (fun us ws => us ++ ws) (fun vs zs => vs ++ zs)) :
    FnOk P w K mg base (L2.CX P w) 7 f ((nfX "seen" "Point.seen" sSeenP cc cd).fd doc pm ctv) ["self", "values", "p"] (spSeen K C CB CU CM) := by
  refine fnS_of (k := 6) ns_seenP T (fun vs H Q E h => ?_) fun A outer s H vs Q E hr h s1 I => ?_
  · obtain ⟨o, dv, p, _, _, _, _, _, _, rfl, _⟩ := h
    rfl
  · have h' := h
    obtain ⟨o, dv, p, _, _, _, _, _, _, rfl, ⟨dx, t, ho, _⟩, _⟩ := h'
    refine super_ret (X := scx (L2.CX P w) P w K mg base ["self", "values", "p", "__class__"] (nfX "seen" "Point.seen" sSeenP cc cd) f A outer s H E) (super_call (n := 1) (t := _) (tk := _) (E2 := E) T I rfl rfl ho hsub (by decide) hm ht2 hf2 G (hr.mono (by decide)) hb (passes_call (takes_of rfl rfl rfl rfl) (fun _ _ _ _ h => h)) (pa_cons (pv 1) pa_nil) (pk_cons (pv 2) pk_nil) ?_)
    exact ⟨_, rfl, _, rfl, rfl, rfl, h⟩
theorem ok_seenL {cc g : Addr} {fdT : FuncData} {doc pm ctv : Value} {cd : Addr} (T : SupD P K mg (nfX "seen" "Line.seen" sSeenL cc cd) f cc C "self" doc pm ctv) (hsub : PySem.W.mroIn K C (.ref C) = some true)
    (hm : PySem.W.ks_superIn K C C "seen" = some (some (.ref g))) (ht2 : PySem.W.typeIn K (.ref g) = some (.type "function")) (hf2 : PySem.W.fnIn K g = true) (G : FnOk P w K mg base (L2.CX P w) 6 g fdT ["self", "values", "p"] (spSeen K C CB CU CM)) (hb : KBn K fdT ["self", "values", "p"] 2 ["p"] (fun us ws => us ++ ws) (fun vs zs => vs ++ zs)) :
    FnOk P w K mg base (L2.CX P w) 7 f ((nfX "seen" "Line.seen" sSeenL cc cd).fd doc pm ctv) ["self", "values", "p"] (spSeen K C CB CU CM) := by
  refine fnS_of (k := 6) ns_seenL T (fun vs H Q E h => ?_) fun A outer s H vs Q E hr h s1 I => ?_
  · obtain ⟨o, dv, p, _, _, _, _, _, _, rfl, _⟩ := h
    rfl
  · have h' := h
    obtain ⟨o, dv, p, _, _, _, _, _, _, rfl, ⟨dx, t, ho, _⟩, _⟩ := h'
    refine super_ret (X := scx (L2.CX P w) P w K mg base ["self", "values", "p", "__class__"] (nfX "seen" "Line.seen" sSeenL cc cd) f A outer s H E) (super_call (n := 1) (t := _) (tk := _) (E2 := E) T I rfl rfl ho hsub (by decide) hm ht2 hf2 G (hr.mono (by decide)) hb (passes_call (takes_of rfl rfl rfl rfl) (fun _ _ _ _ h => h)) (pa_cons (pv 1) pa_nil) (pk_cons (pv 2) pk_nil) ?_)
    exact ⟨_, rfl, _, rfl, rfl, rfl, h⟩
end
end K75
set_option Elab.async false
set_option linter.all false
set_option maxRecDepth 100000
set_option maxHeartbeats 4000000
namespace K75
open PySem PySem.Spec PyProof.Rows L2
abbrev sCell : Stmt := top 34
abbrev sDraws : Stmt := top 35
abbrev sLIsP : Stmt := top 37
abbrev sPF : Stmt := top 38
theorem sc_cell : FnScope ["_law_script", "_law_k"] ["_law_script", "_law_k"] (defScope sCell) := ⟨rfl, rfl, rfl, by decide +kernel, rfl, by decide +kernel, by decide +kernel⟩
theorem sc_draws : FnScope ["_law_cell_here", "_law_sizes", "_law_drawn", "_law_left", "_law_at", "_law_mixed"] ["_law_cell_here", "_law_sizes"] (defScope sDraws) := ⟨rfl, rfl, rfl, by decide +kernel, rfl, by decide +kernel, by decide +kernel⟩
theorem sc_lisP : FnScope ["_law_n", "_law_k"] ["_law_n"] (defScope sLIsP) := ⟨rfl, rfl, rfl, by decide +kernel, rfl, by decide +kernel, by decide +kernel⟩
theorem sc_PF : FnScope ["_law_n"] ["_law_n"] (defScope sPF) := ⟨rfl, rfl, rfl, by decide +kernel, rfl, by decide +kernel, by decide +kernel⟩
def spCell (K : PySem.W.Frag) : Sp := fun vs H Q _ => ∃ (a : Addr) (ns : List Int), vs = [.ref a, .int 0] ∧ SqL K H a (iV ns) ∧ ∀ n : Int, Q (.int n) H
def InB (ds sizes : List Int) : Prop := ∀ (i : Nat) (d s : Int), ds[i]? = some d → sizes[i]? = some s → 0 ≤ d ∧ d < s
def spDraws (K : PySem.W.Frag) : Sp := fun vs H Q _ => ∃ (c : Int) (s : Addr) (sizes : List Int), vs = [.int c, .ref s] ∧ SqL K H s (iV sizes) ∧ sizes.length < 100 ∧ (∀ x ∈ sizes, 0 < x ∧ x < 1000) ∧ ∀ l H' ds, Ext H H' → H' l = some (.lst (iV ds)) → ds.length = sizes.length → InB ds sizes → Q (.ref l) H'
/-- an odd prime -/
def OPi (n : Int) : Prop := 3 ≤ n ∧ n % 2 ≠ 0 ∧ ∀ k : Int, 3 ≤ k → k % 2 ≠ 0 → k * k ≤ n → n % k ≠ 0
theorem opi_isPi {n : Int} (h : OPi n) : IsPi n := by
  refine ⟨by have := h.1; omega, fun d hd hdd hz => ?_⟩
  by_cases h2 : d % 2 = 0
  · have : n % 2 = 0 := by
      have h3 : (2 : Int) ∣ d := Int.dvd_of_emod_eq_zero h2
      exact Int.emod_eq_zero_of_dvd (Int.dvd_trans h3 (Int.dvd_of_emod_eq_zero hz))
    exact h.2.1 this
  · exact h.2.2 d (by omega) h2 hdd hz
def spLIsP : Sp := fun vs H Q _ => ∃ n : Int, vs = [.int n] ∧ n < 2 ^ 60 ∧ ∀ r : Bool, (r = true ↔ OPi n) → Q (.bl r) H
def spPF : Sp := fun vs H Q _ => ∃ n : Int, vs = [.int n] ∧ 3 ≤ n ∧ n ≤ 30 ∧ ∀ q : Int, IsPi q → 3 ≤ q → q ≤ 31 → Q (.int q) H
theorem opi31 : OPi 31 := by
  refine ⟨by decide, by decide, fun k h1 h2 h3 h4 => ?_⟩
  have : k ≤ 5 := by
    by_cases h : k ≤ 5
    · exact h
    · have : 6 * 6 ≤ k * k := Int.mul_le_mul (by omega) (by omega) (by omega) (by omega)
      omega
  have : k = 3 ∨ k = 4 ∨ k = 5 := by omega
  rcases this with rfl | rfl | rfl <;> revert h4 <;> decide
section
variable {P : Program} {w : World} {K : PySem.W.Frag} {mg : Str → Option Value} {base : Heap} {f : Addr} {fd : FuncData}
theorem ok_cell (F : FnP K "_law_cell" "_law_cell" sCell f fd) (gL : mg "len" = none) : FnOk P w K mg base CX0 1 f fd ["_law_script", "_law_k"] (spCell K) := by
  refine F.ok sc_cell (fun vs H Q E h => ?_) (fun cdv A outer s H vs Q E hr h => ⟨_, PSs.nox (pss_cons (ps_if (pt_cmpR op_lt (pv 1) (pe_callB call_len_seq (by rfl) gL boot_len (pa_cons (pv 0) pa_nil)) (nomark _)) (pss_one (ps_ret (pe_ix ix_list (pv 0) (pv 1) (fun _ _ => rfl)))) pss_nil) (pss_one (ps_ret pe_int))), ?_⟩)
  · obtain ⟨a, ns, rfl, _⟩ := h
    rfl
  · obtain ⟨a, ns, rfl, hs, hQ⟩ := h
    refine ⟨_, rfl, _, rfl, a, _, rfl, .inl hs, _, _, rfl, rfl, _, rfl, ifb (fun h0 => ?_) fun h0 => ?_⟩
    · rw [List.length_map] at h0
      have hl : 0 < ns.length := by omega
      exact ⟨_, rfl, _, rfl, a, iV ns, 0, .int ns[0], rfl, rfl, hs, atI_nat (j := 0) (by simp [hl]), hQ _⟩
    · exact hQ 0
theorem ok_lisP (F : FnP K "_law_is_prime" "_law_is_prime" sLIsP f fd) : FnOk P w K mg base CX0 1 f fd ["_law_n"] spLIsP := by
  refine F.ok sc_lisP (fun vs H Q E h => ?_) (fun cdv A outer s H vs Q E hr h => ⟨_, PSs.nox (pss_cons (ps_if (PW.pt (pw_or (pt_cmpR op_lt (pv 0) pe_int (nomark _)) (pw_or1 (pt_cmpR op_eq (pe_op op_mod (pv 0) pe_int) pe_int (nomark _))))) (pss_one (ps_ret pe_bl)) pss_nil)
    (pss_cons (ps_set (i := 1) sc_lisP.nd rfl (Or.inl rfl) pe_int)
    (pss_cons (ps_while (fun _ _ h => h.elim) (pt_cmpR op_le (pe_op op_mul (pv 1) (pv 1)) (pv 0) (nomark _))
      (pss_cons (ps_if (pt_cmpR op_eq (pe_op op_mod (pv 0) (pv 1)) pe_int (nomark _)) (pss_one (ps_ret pe_bl)) pss_nil)
       (pss_one (ps_set (i := 1) sc_lisP.nd rfl (Or.inl rfl) (pe_op op_add (pv 1) pe_int)))))
    (pss_one (ps_ret pe_bl))))), ?_⟩)
  · obtain ⟨n, rfl, _⟩ := h
    rfl
  · obtain ⟨n, rfl, hn, hQ⟩ := h
    refine ⟨_, rfl, _, _, rfl, rfl, _, rfl, ?_⟩
    by_cases h3 : n < 3
    · rw [decide_eq_true h3]
      exact iteT (hQ false ⟨fun z => (by cases z), fun z => absurd z.1 (by omega)⟩)
    · rw [decide_eq_false h3]
      refine iteF ⟨_, rfl, _, _, rfl, rfl, (by show (0 : Int) < 2; decide), rfl, _, rfl, ifb (fun h4 => ?_) fun h4 => ?_⟩
      · have h4 : n % 2 = 0 := V.int.inj h4
        exact hQ false ⟨fun z => (by cases z), fun z => absurd h4 z.2.1⟩
      · have h4 : n % 2 ≠ 0 := fun z => h4 (congrArg V.int z)
        refine ⟨fun m σ H' => H' = H ∧ ∃ d : Int, σ = [some (.int n), some (.int d)] ∧ 3 ≤ d ∧ d ≤ n ∧ d % 2 ≠ 0 ∧ m = (n - d + 1).toNat ∧ ∀ e, 3 ≤ e → e % 2 ≠ 0 → e < d → e * e ≤ n → n % e ≠ 0, ⟨_, rfl, 3, rfl, by omega, by omega, by decide, rfl, fun e h1 h2 h5 => by omega⟩, ?_⟩
        rintro y σ H' ⟨rfl, d, rfl, hd, hdn, hodd, hm, hall⟩
        refine ⟨_, rfl, _, rfl, _, _, rfl, rfl, .inl ⟨by omega, by omega⟩, _, rfl, _, _, rfl, rfl, _, rfl, ifb (fun h3 => ?_) fun h3 => ?_⟩
        · have hdd : d * 3 ≤ d * d := Int.mul_le_mul_of_nonneg_left (by omega) (by omega)
          refine ⟨_, fun σ' H' h => ⟨(n - (d + 2) + 1).toNat, by omega, h⟩, ⟨_, rfl, _, rfl, _, _, rfl, rfl, (by show 0 < d; omega), rfl, _, rfl, ifb (fun h5 => ?_) fun h5 => ?_⟩⟩
          · have h5 : n % d = 0 := V.int.inj h5
            exact hQ false ⟨fun z => (by cases z), fun z => absurd h5 (z.2.2 d hd hodd h3)⟩
          · have h5 : n % d ≠ 0 := fun e => h5 (congrArg V.int e)
            refine ⟨_, rfl, _, _, rfl, rfl, rfl, d + 2, rfl, by omega, by omega, by omega, rfl, fun e h1 h2 h6 h7 => ?_⟩
            by_cases hed : e = d
            · subst hed; exact h5
            · exact hall e h1 h2 (by omega) h7
        · refine hQ true ⟨fun _ => ⟨by omega, h4, fun e h1 h2 h5 => ?_⟩, fun _ => rfl⟩
          by_cases hed : e < d
          · exact hall e h1 h2 hed h5
          · exfalso
            have : d * d ≤ e * e := Int.mul_le_mul (by omega) (by omega) (by omega) (by omega)
            omega
theorem ok_PF (F : FnP K "_law_prime_from" "_law_prime_from" sPF f fd) (gM : mg "max" = none) (cP : Cal P w K mg base CX0 1 "_law_is_prime" spLIsP) : FnOk P w K mg base CX0 2 f fd ["_law_n"] spPF := by
  refine F.ok sc_PF (fun vs H Q E h => ?_) (fun cdv A outer s H vs Q E hr h => ⟨_, PSs.nox (pss_cons (ps_set (i := 0) sc_PF.nd rfl (Or.inl rfl) (pe_callB (call_max2 rfl) (by rfl) gM (by decide +kernel) (pa_cons (pv 0) (pa_cons pe_int pa_nil))))
    (pss_cons (ps_set (i := 0) sc_PF.nd rfl (Or.inl rfl) (pe_op op_sub (pe_op op_add (pv 0) pe_int) (pe_op op_mod (pv 0) pe_int)))
    (pss_cons (ps_while (fun _ _ h => h.elim) (pt_not (pt_val (pe_c cP hr (by decide) rfl pass0 (pa_cons (pv 0) pa_nil)))) (pss_one (ps_set (i := 0) sc_PF.nd rfl (Or.inl rfl) (pe_op op_add (pv 0) pe_int))))
    (pss_one (ps_ret (pv 0)))))), ?_⟩)
  · obtain ⟨n, rfl, _⟩ := h
    rfl
  · obtain ⟨n, rfl, h3, h30, hQ⟩ := h
    refine ⟨_, rfl, n, 3, rfl, ?_⟩
    rw [show (if (3 : Int) > n then 3 else n) = n by rw [if_neg (by omega)]]
    refine ⟨_, rfl, _, _, rfl, rfl, _, rfl, _, _, rfl, rfl, (by show (0 : Int) < 2; decide), _, _, rfl, rfl, ?_⟩
    refine ⟨fun m σ H' => H' = H ∧ ∃ q : Int, σ = [some (.int q)] ∧ 3 ≤ q ∧ q ≤ 31 ∧ q % 2 = 1 ∧ m = (31 - q).toNat, ⟨_, rfl, n + 1 - n % 2, rfl, by omega, by omega, by omega, rfl⟩, ?_⟩
    rintro y σ H' ⟨rfl, q, rfl, q3, q31, qo, rfl⟩
    refine ⟨_, rfl, q, rfl, by omega, fun r hr2 => ⟨r, rfl, ?_⟩⟩
    cases r with
    | true => exact iteF ⟨_, rfl, hQ q (opi_isPi (hr2.mp rfl)) q3 q31⟩
    | false =>
      have hne : q ≠ 31 := fun z => by rw [z] at hr2; have := hr2.mpr opi31; cases this
      exact iteT ⟨_, fun σ' H' h => ⟨(31 - (q + 2)).toNat, by omega, h⟩, ⟨_, rfl, _, _, rfl, rfl, rfl, q + 2, rfl, by omega, by omega, by omega, rfl⟩⟩
end
end K75
set_option Elab.async false
set_option linter.all false
set_option maxRecDepth 100000
set_option maxHeartbeats 4000000
namespace K75
open PySem PySem.Spec PyProof.Rows L2
section
variable {P : Program} {w : World} {K : PySem.W.Frag} {mg : Str → Option Value} {base : Heap} {f : Addr} {fd : FuncData}
theorem inB_snoc {ds sizes : List Int} {d s : Int} (h : InB ds sizes) (hs : sizes[ds.length]? = some s) (h0 : 0 ≤ d) (h1 : d < s) : InB (ds ++ [d]) sizes := fun i x y hx hy => by
  by_cases hi : i < ds.length
  · rw [List.getElem?_append_left hi] at hx
    exact h i x y hx hy
  · have e : i = ds.length := by
      have := (List.getElem?_eq_some_iff.mp hx).1
      rw [List.length_append, List.length_singleton] at this
      omega
    subst e
    rw [hs] at hy
    cases hy
    rw [List.getElem?_append_right (Nat.le_refl _), Nat.sub_self] at hx
    cases hx
    exact ⟨h0, h1⟩
theorem ok_draws (F : FnP K "_law_draws" "_law_draws" sDraws f fd) (gA : mg "abs" = none) (gL : mg "len" = none) (gR : mg "range" = none) (gI : mg "int" = none) : FnOk P w K mg base CX0 1 f fd ["_law_cell_here", "_law_sizes"] (spDraws K) := by
  refine F.ok sc_draws (fun vs H Q E h => ?_) (fun cdv A outer s H vs Q E hr h => ⟨_, PSs.nox (pss_cons (ps_set (i := 2) sc_draws.nd rfl (Or.inl rfl) (pe_lst pa_nil))
    (pss_cons (ps_set (i := 3) sc_draws.nd rfl (Or.inl rfl) (pe_callB call_abs (by rfl) gA boot_abs (pa_cons (pv 0) pa_nil)))
    (pss_cons (ps_for (fun _ _ h => h.elim) rfl (pi_range1 (by rfl) gR (pa_cons (pe_callB call_len_seq (by rfl) gL boot_len (pa_cons (pv 1) pa_nil)) pa_nil)) (pg_name (i := 4) sc_draws.nd rfl (Or.inl rfl))
      (pss_one (ps_if (pt_cmpR op_ge (pe_callB call_abs (by rfl) gA boot_abs (pa_cons (pv 0) pa_nil)) (pe_op op_pow pe_int pe_int) (nomark _))
        (pss_cons (ps_expr (pe_bm PySem.F.plainAttrs_list PySem.F.slot_list_append PySem.F.type_list_append mt_append (pv 2) (pa_cons (pe_op op_mod (pe_callTy call_int1 (by rfl) gI (by decide +kernel) (pa_cons (pv 3) pa_nil)) (pe_ix ix_list (pv 1) (pv 4) (fun _ _ => rfl))) pa_nil)))
          (pss_one (ps_set (i := 3) sc_draws.nd rfl (Or.inl rfl) (pe_op op_fdiv (pv 3) (pe_ix ix_list (pv 1) (pv 4) (fun _ _ => rfl))))))
        (pss_cons (ps_set (i := 5) sc_draws.nd rfl (Or.inl rfl) (pe_op op_mod (pe_callTy call_int1 (by rfl) gI (by decide +kernel) (pa_cons (pe_op op_mul (pe_op op_add (pe_op op_add (pv 3) (pe_op op_mul pe_int (pv 4))) pe_int) pe_int) pa_nil)) pe_int))
        (pss_cons (ps_set (i := 5) sc_draws.nd rfl (Or.inl rfl) (pe_op op_mod (pe_callTy call_int1 (by rfl) gI (by decide +kernel) (pa_cons (pe_op op_add (pe_op op_add (pe_op op_mul (pe_op op_mul (pv 5) (pv 5)) pe_int) (pe_op op_mul pe_int (pv 4))) (pv 5)) pa_nil)) pe_int))
          (pss_one (ps_expr (pe_bm PySem.F.plainAttrs_list PySem.F.slot_list_append PySem.F.type_list_append mt_append (pv 2) (pa_cons (pe_op op_mod (pe_op op_fdiv (pv 5) pe_int) (pe_ix ix_list (pv 1) (pv 4) (fun _ _ => rfl))) pa_nil)))))))))
    (pss_one (ps_ret (pv 2)))))), ?_⟩)
  · obtain ⟨c, s, sizes, rfl, _⟩ := h
    rfl
  · obtain ⟨c, s, sizes, rfl, hs, hlen, hsz, hQ⟩ := h
    refine ⟨Nat.zero_le _, fun D hD => ⟨_, rfl, _, rfl, ?_⟩⟩
    have x0 : Ext H (upd H D (.lst [])) := Ext.upd hD
    refine ⟨_, rfl, s, iV sizes, rfl, .inl (hs.ext x0), _, rfl, by omega, (by rw [List.length_map]; omega), ?_⟩
    rw [List.length_map]
    refine for_range (lo := 0) (n := sizes.length) (fun i σ H' => ∃ (ds : List Int) (left : Int) (u v : Option V), σ = [some (.int c), some (.ref s), some (.ref D), some (.int left), u, v] ∧ Ext H H' ∧ H' D = some (.lst (iV ds)) ∧ ds.length = i ∧ InB ds sizes)
      ⟨[], _, none, none, rfl, x0, (by rw [upd_same]; rfl), rfl, fun i d s h => (by simp at h)⟩ ?_ ?_
    · rintro i σ H' hi ⟨ds, left, u, v, rfl, hE, hL, rfl, hB⟩
      have hg : sizes[ds.length]? = some sizes[ds.length] := List.getElem?_eq_getElem hi
      have hz := hsz sizes[ds.length] (List.getElem_mem hi)
      have e0 : ((0 : Int) + (ds.length : Nat)) = (ds.length : Int) := Int.zero_add _
      have hat : atI (iV sizes) ((0 : Int) + (ds.length : Nat)) = some (.int sizes[ds.length]) := by
        rw [e0]
        exact atI_nat (by rw [List.getElem?_map, hg]; rfl)
      have hsE := hs.ext hE
      have hlt : (iV ds).length < sizeLine := by rw [List.length_map, sizeLine_eq]; omega
      have app : ∀ d : Int, 0 ≤ d → d < sizes[ds.length] → Ext H (upd H' D (.lst (iV ds ++ [.int d]))) ∧ upd H' D (.lst (iV ds ++ [.int d])) D = some (.lst (iV (ds ++ [d]))) ∧ (ds ++ [d]).length = ds.length + 1 ∧ InB (ds ++ [d]) sizes := fun d h0 h1 =>
        ⟨ext_at hD hE, by rw [upd_same]; simp [iV], by simp, inB_snoc hB hg h0 h1⟩
      refine ⟨_, rfl, _, rfl, _, _, rfl, rfl, ⟨by decide, by decide, by decide⟩, _, _, rfl, rfl, _, rfl, ifb (fun h0 => ?_) fun h0 => ?_⟩
      · refine ⟨_, rfl, .inl ⟨rfl, _, SqL.of hL⟩, _, rfl, .inl ⟨left, rfl, _, rfl, _, rfl, s, _, _, _, rfl, rfl, hsE, hat, _, _, rfl, rfl, hz.1, D, _, _, rfl, rfl, hL, hlt, ?_⟩⟩
        obtain ⟨a1, a2, a3, a4⟩ := app (left % sizes[ds.length]) (Int.emod_nonneg _ (by omega)) (Int.emod_lt_of_pos _ hz.1)
        exact ⟨_, rfl, _, rfl, _, rfl, s, _, _, _, rfl, rfl, hs.ext a1, hat, _, _, rfl, rfl, ⟨hz.1, by omega⟩, ds ++ [left % sizes[ds.length]], _, _, _, rfl, a1, a2, a3, a4⟩
      · refine ⟨_, rfl, _, rfl, _, _, rfl, rfl, .inl ⟨by decide, by decide⟩, _, _, rfl, rfl, _, _, rfl, rfl, _, _, rfl, rfl, .inr ⟨by decide, by decide⟩, .inl ⟨_, rfl, _, _, rfl, rfl, (by show (0 : Int) < 2147483647; decide), ?_⟩⟩
        obtain ⟨m, hm⟩ : ∃ m, m = (left + 11 * (0 + (ds.length : Int)) + 3) * 48271 % 2147483647 := ⟨_, rfl⟩
        have m0 : 0 ≤ m := by rw [hm]; exact Int.emod_nonneg _ (by decide)
        have m1 : m < 2147483647 := by rw [hm]; exact Int.emod_lt_of_pos _ (by decide)
        refine ⟨_, rfl, _, rfl, _, _, rfl, rfl, .inl (show -(2 ^ 64) < (left + 11 * (0 + (ds.length : Int)) + 3) * 48271 % 2147483647 ∧ (left + 11 * (0 + (ds.length : Int)) + 3) * 48271 % 2147483647 < 2 ^ 64 by rw [← hm]; omega), _, _, rfl, rfl, .inr ⟨by decide, by decide⟩, _, rfl, _, _, rfl, rfl, .inl ⟨by decide, by decide⟩, _, _, rfl, rfl, _, rfl, _, _, rfl, rfl, .inl ⟨_, rfl, _, _, rfl, rfl, (by show (0 : Int) < 2147483629; decide), ?_⟩⟩
        obtain ⟨m2, hm2⟩ : ∃ m2, m2 = (m * m * 16807 + 97 * (0 + (ds.length : Int)) + m) % 2147483629 := ⟨_, rfl⟩
        refine ⟨_, rfl, .inl ⟨rfl, _, SqL.of hL⟩, _, rfl, _, _, rfl, rfl, ⟨by decide, by decide⟩, _, rfl, _, rfl, s, _, _, _, rfl, rfl, hsE, hat, _, _, rfl, rfl, hz.1, D, _, _, rfl, rfl, hL, hlt, ?_⟩
        obtain ⟨a1, a2, a3, a4⟩ := app (m2 / 5 % sizes[ds.length]) (Int.emod_nonneg _ (by omega)) (Int.emod_lt_of_pos _ hz.1)
        rw [hm2, hm] at a1 a2 a3 a4
        exact ⟨_, left, _, _, rfl, a1, a2, a3, a4⟩
    · rintro σ H' ⟨ds, left, u, v, rfl, hE, hL, hl, hB⟩
      exact ⟨_, rfl, hQ D H' ds hE hL hl hB⟩
end
end K75
set_option Elab.async false
set_option linter.all false
set_option maxRecDepth 100000
set_option maxHeartbeats 4000000
namespace K75
open PySem PySem.Spec PyProof.Rows L2
abbrev sLN : Stmt := top 39
abbrev nLN : List Str := ["_law_row", "_law_char", "_law_heads", "_law_back", "_law_divisor", "_law_k", "_law_item"]
theorem sc_LN : FnScope nLN ["_law_row", "_law_char"] (defScope sLN) := ⟨rfl, rfl, rfl, by decide +kernel, rfl, by decide +kernel, by decide +kernel⟩
theorem bez : ∀ a b : Nat, ∃ u v : Int, u * a + v * b = (Nat.gcd a b : Nat) := by
  intro a b
  induction a, b using Nat.gcd.induction with
  | H0 n => exact ⟨0, 1, by rw [Nat.gcd_zero_left]; omega⟩
  | H1 m n hm ih =>
    obtain ⟨u, v, h⟩ := ih
    refine ⟨v - u * (n / m : Nat), u, ?_⟩
    rw [Nat.gcd_rec, ← h, Int.sub_mul, Int.mul_assoc]
    have e : (n : Int) = (n % m : Nat) + (m : Int) * (n / m : Nat) := by
      have := Nat.mod_add_div n m
      exact_mod_cast this.symm
    have : u * (n : Int) = u * (n % m : Nat) + u * ((n / m : Nat) * (m : Int)) := by
      rw [← Int.mul_add, Int.mul_comm ((n / m : Nat) : Int) (m : Int), ← e]
    omega
theorem inv_has {p h : Int} (hp : IsPi p) (h0 : 0 < h) (h1 : h < p) : ∃ u, u * h % p = 1 := by
  obtain ⟨k, rfl⟩ : ∃ k : Nat, h = k := ⟨h.toNat, by omega⟩
  obtain ⟨q, rfl, hq⟩ := isPi_pos hp
  obtain ⟨u, v, e⟩ := bez k q
  have hg : Nat.gcd k q = 1 := npi_cop hp h0 h1
  rw [hg] at e
  refine ⟨u, ?_⟩
  have hq2 := hq.1
  rw [show u * (k : Int) = 1 - v * (q : Int) by omega, Int.sub_mul_emod_self_right]
  exact Int.emod_eq_of_lt (by decide) (by omega)
section
variable {P : Program} {w : World} {K : PySem.W.Frag} {mg : Str → Option Value} {base : Heap} {f : Addr} {fd : FuncData}
/-- return tuple([item // divisor for item in row]), the names at places i, j -/
theorem norm_end2 {H : Hp} {D : Ends} {σ : L2.St} {a : Addr} {ns : List Int} {d : Int} {i j : Nat} (hi : i ≠ 6) (hj : j ≠ 6) (h2 : σ[i]? = some (some (.ref a))) (h5 : σ[j]? = some (some (.int d))) (h7 : σ.length = 7) (ha : SqL K H a (iV ns)) (hl : ns.length < sizeLine) (hd : d ≠ 0 ∧ d.natAbs < 1073741824)
    (hQ : ∀ t H', Ext H H' → SqT K H' t (iV (ns.map fun i => i.fdiv d)) → D.rt (.ref t) H') :
    tRet (tThen (tLc (iList K (tVar i)) (gName 6) tYes (tOp (rI CDivN fun i j => .int (i.fdiv j)) (tVar 6) (tVar j)) [6]) (kTup K)) D σ H := by
  refine ⟨_, h2, a, rfl, ⟨_, ha⟩, fun E hE => ?_⟩
  refine lcI_list (fun _ => true) (fun i => V.int (i.fdiv d)) (by decide) ha hE hl (fun n _ acc K' hK => hK) (fun n _ _ acc K' hK => ⟨_, ?_, _, ?_, _, _, rfl, rfl, hd, hK⟩) ?_
  · rw [List.getElem?_set_self (by rw [wipe_length, h7]; decide)]
  · rw [List.getElem?_set_ne (Ne.symm hj), wipe_out (by simp [hj]), h5]
  · refine .inl ⟨E, _, rfl, SqL.of upd_same, fun t ht => hQ t _ (ext_trans (Ext.upd hE) (Ext.upd ht)) (SqT.of ?_)⟩
    rw [upd_same, lcV_all]
    simp [iV]
/-- dd: the greatest common divisor among the first i numbers -/
structure Dv (ns : List Int) (i : Nat) (dd : Int) : Prop where
  pos : 0 < dd
  all : ∀ n ∈ ns, n % dd = 0
  top : ∀ k : Int, 0 < k → k ≤ i → (∀ n ∈ ns, n % k = 0) → k ≤ dd
theorem dv_end {x y z h m dd : Int} (hd : Dv [x, y, z] m.toNat dd) (hh : h ∈ [x, y, z]) (h0 : h ≠ 0) (hm : ∀ n ∈ [x, y, z], (n.natAbs : Int) ≤ m) : dd = g3 [x, y, z] := by
  have hg : g3 [x, y, z] = (Int.gcd (Int.gcd x y : Int) z : Int) := rfl
  have hdx : (Int.gcd (Int.gcd x y : Int) z : Nat) ∣ x.natAbs := Nat.dvd_trans (by simpa using Int.gcd_dvd_natAbs_left (Int.gcd x y : Int) z) (Int.gcd_dvd_natAbs_left x y)
  have hdy : (Int.gcd (Int.gcd x y : Int) z : Nat) ∣ y.natAbs := Nat.dvd_trans (by simpa using Int.gcd_dvd_natAbs_left (Int.gcd x y : Int) z) (Int.gcd_dvd_natAbs_right x y)
  have hdz : (Int.gcd (Int.gcd x y : Int) z : Nat) ∣ z.natAbs := Int.gcd_dvd_natAbs_right _ _
  have hall : ∀ n ∈ [x, y, z], (Int.gcd (Int.gcd x y : Int) z : Nat) ∣ n.natAbs := fun n hn => by
    rcases List.mem_cons.mp hn with rfl | hn
    · exact hdx
    rcases List.mem_cons.mp hn with rfl | hn
    · exact hdy
    rw [List.mem_singleton.mp hn]
    exact hdz
  have hgpos : 0 < Int.gcd (Int.gcd x y : Int) z := by
    refine Nat.pos_of_ne_zero fun q => ?_
    have := hall h hh
    rw [q] at this
    have := Nat.eq_zero_of_zero_dvd this
    omega
  have hgh := Nat.le_of_dvd (by omega) (hall h hh)
  have hmh := hm h hh
  have h1 : (Int.gcd (Int.gcd x y : Int) z : Int) ≤ dd := hd.top _ (by omega) (by omega) fun n hn => Int.emod_eq_zero_of_dvd (Int.ofNat_dvd_left.mpr (hall n hn))
  obtain ⟨q, rfl⟩ : ∃ q : Nat, dd = q := ⟨dd.toNat, by have := hd.pos; omega⟩
  have h2 : q ∣ Int.gcd (Int.gcd x y : Int) z := by
    have d1 : q ∣ x.natAbs := Int.ofNat_dvd_left.mp (Int.dvd_of_emod_eq_zero (hd.all x (by simp)))
    have d2 : q ∣ y.natAbs := Int.ofNat_dvd_left.mp (Int.dvd_of_emod_eq_zero (hd.all y (by simp)))
    have d3 : q ∣ z.natAbs := Int.ofNat_dvd_left.mp (Int.dvd_of_emod_eq_zero (hd.all z (by simp)))
    exact Nat.dvd_gcd (Nat.dvd_gcd d1 d2) d3
  have h3 := Nat.le_of_dvd hgpos h2
  rw [hg]
  omega
abbrev rInt1 : List V → Hp → VK → Prop := fun xs H Q => (∃ i, xs = [.int i] ∧ Q (.int i) H) ∨ ∃ k, xs = [.bl k] ∧ Q (.int (if k then 1 else 0)) H
abbrev ttBack (K : PySem.W.Frag) : TT := tTest (tOp rEq (tOp (rI (fun _ j => 0 < j) fun i j => .int (i % j)) (tCB rInt1 (tCons (tOp (rI CMul fun i j => .int (i * j)) (tVar 5) (tOp (rIxL K) (tVar 2) (tC (.int 0)))) tNil)) (tVar 1)) (tC (.int 1)))
abbrev ttDiv : TT := tB (tNeI (tOp (rI (fun _ j => 0 < j) fun i j => .int (i % j)) (tCB rInt1 (tCons (tVar 6) tNil)) (tVar 5)) (tC (.int 0)))
theorem ok_LN (F : FnP K "_law_normal" "_law_normal" sLN f fd) (gI : mg "int" = none) (gR : mg "range" = none) (gT : mg "tuple" = none) (gM : mg "max" = none) (gA : mg "abs" = none) : FnOk P w K mg base CX0 1 f fd ["_law_row", "_law_char"] (spNorm K) := by
  refine F.ok sc_LN (fun vs H Q E h => ?_) (fun cdv A outer s H vs Q E hr h => ⟨_, PSs.nox (pss_cons (ps_if (pt_cmpR op_gt (pv 1) pe_int (nomark _))
      (pss_one (ps_setLc (i := 0) (own := [("_law_item", 6)]) (g := gName 6) (tt := tYes) rfl sc_LN.nd rfl rfl (sw_true rfl rfl rfl (by decide +kernel)) (pi_list (pv 0)) (blkOk_by (own := [("_law_item", 6)]) (N := nLN) (sc := defScope sLN) (by decide +kernel)) (fun _ _ _ _ _ => pg_name (i := 6) sc_LN.nd rfl (Or.inl rfl)) (fun _ _ _ _ _ => pts_nil)
        (fun _ _ _ _ _ => pe_op op_mod (pe_callTy call_int1 (by rfl) gI (by decide +kernel) (pa_cons (pv 6) pa_nil)) (pv 1)))) pss_nil)
    (pss_cons (ps_set (i := 2) sc_LN.nd rfl (Or.inr rfl) (pe_lc (own := [("_law_item", 6)]) (g := gName 6) (tt := tB (tNeI (tVar 6) (tC (.int 0)))) rfl sc_LN.nd (pi_list (pv 0)) (blkOk_by (own := [("_law_item", 6)]) (N := nLN) (sc := defScope sLN) (by decide +kernel)) (fun _ _ _ _ _ => pg_name (i := 6) sc_LN.nd rfl (Or.inl rfl)) (fun _ _ _ _ _ => pts_one (pt_cmp (pc_neI (pv 6) pe_int)))
        (fun _ _ _ _ _ => pv 6)))
    (pss_cons (ps_if (pt_cmpR (op_eqD hr.units) (pv 2) (pe_lst pa_nil) (nomark _)) (pss_one (ps_ret pe_non)) pss_nil)
    (pss_cons (ps_if (pt_cmpR op_gt (pv 1) pe_int (nomark _))
        (pss_cons (ps_set (i := 3) sc_LN.nd rfl (Or.inr rfl) (pe_ix ix_list (pe_lc (own := [("_law_k", 5)]) (g := gName 5) (tt := ttBack K) rfl sc_LN.nd (pi_range1 (by rfl) gR (pa_cons (pv 1) pa_nil)) (blkOk_by (own := [("_law_k", 5)]) (N := nLN) (sc := defScope sLN) (by decide +kernel)) (fun _ _ _ _ _ => pg_name (i := 5) sc_LN.nd rfl (Or.inl rfl))
            (fun _ _ _ _ _ => pts_one (pt_cmpR op_eq (pe_op op_mod (pe_callTy call_int1 (by rfl) gI (by decide +kernel) (pa_cons (pe_op op_mul (pv 5) (pe_ix ix_list (pv 2) pe_int (fun _ _ => rfl))) pa_nil)) (pv 1)) pe_int (nomark _))) (fun _ _ _ _ _ => pv 5)) pe_int (fun _ _ => rfl)))
          (pss_one (ps_ret (pe_tupleOf (by rfl) gT (pe_lc (own := [("_law_item", 6)]) (g := gName 6) (tt := tYes) rfl sc_LN.nd (pi_list (pv 0)) (blkOk_by (own := [("_law_item", 6)]) (N := nLN) (sc := defScope sLN) (by decide +kernel)) (fun _ _ _ _ _ => pg_name (i := 6) sc_LN.nd rfl (Or.inl rfl)) (fun _ _ _ _ _ => pts_nil)
            (fun _ _ _ _ _ => pe_op op_mod (pe_callTy call_int1 (by rfl) gI (by decide +kernel) (pa_cons (pe_op op_mul (pv 6) (pv 3)) pa_nil)) (pv 1))))))) pss_nil)
    (pss_cons (ps_set (i := 4) sc_LN.nd rfl (Or.inr rfl) pe_int)
    (pss_cons (ps_for (fun _ _ h => h.elim) rfl (pi_range2 (by rfl) gR (pa_cons pe_int (pa_cons (pe_op op_add pe_int (pe_callB (cr_max rfl) (by rfl) gM (by decide +kernel) (pa_cons (pe_lc (own := [("_law_item", 6)]) (g := gName 6) (tt := tYes) rfl sc_LN.nd (pi_list (pv 0)) (blkOk_by (own := [("_law_item", 6)]) (N := nLN) (sc := defScope sLN) (by decide +kernel)) (fun _ _ _ _ _ => pg_name (i := 6) sc_LN.nd rfl (Or.inl rfl)) (fun _ _ _ _ _ => pts_nil)
            (fun _ _ _ _ _ => pe_callB call_abs (by rfl) gA boot_abs (pa_cons (pv 6) pa_nil))) pa_nil))) pa_nil))) (pg_name (i := 5) sc_LN.nd rfl (Or.inr rfl))
        (pss_one (ps_if (pt_cmpR (op_eqD hr.units) (pe_lc (own := [("_law_item", 6)]) (g := gName 6) (tt := ttDiv) rfl sc_LN.nd (pi_list (pv 0)) (blkOk_by (own := [("_law_item", 6)]) (N := nLN) (sc := defScope sLN) (by decide +kernel)) (fun _ _ _ _ _ => pg_name (i := 6) sc_LN.nd rfl (Or.inl rfl)) (fun _ _ _ _ _ => pts_one (pt_cmp (pc_neI (pe_op op_mod (pe_callTy call_int1 (by rfl) gI (by decide +kernel) (pa_cons (pv 6) pa_nil)) (pv 5)) pe_int)))
            (fun _ _ _ _ _ => pv 6)) (pe_lst pa_nil) (nomark _)) (pss_one (ps_set (i := 4) sc_LN.nd rfl (Or.inr rfl) (pv 5))) pss_nil)))
    (pss_cons (ps_if (pt_cmpR op_lt (pe_ix ix_list (pv 2) pe_int (fun _ _ => rfl)) pe_int (nomark _)) (pss_one (ps_set (i := 4) sc_LN.nd rfl (Or.inr rfl) (pe_un un_neg (pv 4)))) pss_nil)
    (pss_one (ps_ret (pe_tupleOf (by rfl) gT (pe_lc (own := [("_law_item", 6)]) (g := gName 6) (tt := tYes) rfl sc_LN.nd (pi_list (pv 0)) (blkOk_by (own := [("_law_item", 6)]) (N := nLN) (sc := defScope sLN) (by decide +kernel)) (fun _ _ _ _ _ => pg_name (i := 6) sc_LN.nd rfl (Or.inl rfl)) (fun _ _ _ _ _ => pts_nil)
            (fun _ _ _ _ _ => pe_op op_fdivN (pv 6) (pv 4))))))))))))), ?_⟩)
  · obtain ⟨l, p, x, y, z, rfl, _⟩ := h
    rfl
  · obtain ⟨l, p, x, y, z, rfl, hl, bx, by', bz, hp, hN, hS⟩ := h
    refine ⟨_, rfl, _, _, rfl, rfl, _, rfl, ?_⟩
    by_cases hpp : 0 < p
    · rw [decide_eq_true hpp]
      have hpi : IsPi p ∧ p < 1000 := hp.resolve_left (by omega)
      have hrow : ∀ i ∈ rowZ p [x, y, z], 0 ≤ i ∧ i < p := fun i hi => by
        obtain ⟨j, _, rfl⟩ := List.mem_map.mp hi
        rw [if_pos hpp]
        exact ⟨Int.emod_nonneg _ (by omega), Int.emod_lt_of_pos _ hpp⟩
      refine iteT ⟨_, rfl, l, rfl, ⟨_, hl⟩, fun D1 hD1 => ?_⟩
      refine lcI_list (fun _ => true) (fun n => V.int (n % p)) (by decide) hl hD1 (by show 3 < sizeLine; decide) (fun n _ acc K' hK => hK) (fun n _ _ acc K' hK => ⟨_, rfl, .inl ⟨n, rfl, _, rfl, _, _, rfl, rfl, hpp, hK⟩⟩) ?_
      have eR : lcV (fun _ => true) (fun n => V.int (n % p)) [x, y, z] = iV (rowZ p [x, y, z]) := by
        rw [lcV_all]
        unfold rowZ
        simp [iV, hpp]
      rw [eR]
      have hR3 : (rowZ p [x, y, z]).length = 3 := rfl
      have hS1 : SqL K (upd H D1 (.lst (iV (rowZ p [x, y, z])))) D1 (iV (rowZ p [x, y, z])) := SqL.of upd_same
      have x1 : Ext H (upd H D1 (.lst (iV (rowZ p [x, y, z])))) := Ext.upd hD1
      refine ⟨_, rfl, D1, rfl, ⟨_, hS1⟩, fun D2 hD2 => ?_⟩
      refine lcI_list nzI V.int (by decide) hS1 hD2 (by rw [hR3]; decide) (fun n _ acc K' hK => ⟨_, rfl, _, _, rfl, rfl, _, rfl, hK⟩) (fun n _ _ acc K' hK => ⟨_, rfl, hK⟩) ?_
      have x2 : Ext _ (upd (upd H D1 (.lst (iV (rowZ p [x, y, z])))) D2 (.lst (lcV nzI V.int (rowZ p [x, y, z])))) := Ext.upd hD2
      rw [show lcV nzI V.int (rowZ p [x, y, z]) = iV ((rowZ p [x, y, z]).filter nzI) from rfl] at x2 ⊢
      generalize hH3 : upd (upd H D1 (.lst (iV (rowZ p [x, y, z])))) D2 (.lst (iV ((rowZ p [x, y, z]).filter nzI))) = H3 at x2 ⊢
      have hD2s : H3 D2 = some (.lst (iV ((rowZ p [x, y, z]).filter nzI))) := by rw [← hH3, upd_same]
      have x3 := ext_trans x1 x2
      have hD1s : SqL K H3 D1 (iV (rowZ p [x, y, z])) := hS1.ext x2
      refine ⟨_, rfl, Nat.zero_le _, fun D3 hD3 => ?_⟩
      have x4 : Ext H3 (upd H3 D3 (.lst [])) := Ext.upd hD3
      refine ⟨.list (iD ((rowZ p [x, y, z]).filter nzI)), .list [], .lst (SqL.of (x4 _ _ hD2s)) (dpAll_iV _), .lst (SqL.of upd_same) .nil, sh_lst _, rfl, _, rfl, ?_⟩
      rw [eqv_nil]
      refine ifb (fun h0 => ?_) fun h0 => ?_
      · exact hN (by unfold nZ; rw [h0]) _ (ext_trans x3 x4)
      cases e : (rowZ p [x, y, z]).filter nzI with
      | nil => exact absurd e h0
      | cons h hs =>
      rw [e] at hD2s
      have hmem := List.mem_filter.mp (show h ∈ (rowZ p [x, y, z]).filter nzI by rw [e]; exact List.mem_cons_self)
      have hne : h ≠ 0 := by have := hmem.2; simpa [nzI] using this
      have hD2t : SqL K (upd H3 D3 (.lst [])) D2 (iV (h :: hs)) := SqL.of (x4 _ _ hD2s)
      have hD1t := hD1s.ext x4
      have x34 := ext_trans x3 x4
      have hh := hrow h hmem.1
      refine ⟨_, rfl, _, _, rfl, rfl, _, rfl, ?_⟩
      rw [decide_eq_true hpp]
      refine iteT ⟨_, rfl, p, rfl, by omega, by omega, fun D4 hD4 => ?_⟩
      generalize hH5 : upd H3 D3 (.lst []) = H5 at x4 hD2t hD1t x34 hD4 ⊢
      refine lc_range (lo := 0) (n := p.toNat) (fun i H' => H' = upd H5 D4 (.lst (iV (((rngI p.toNat).take i).filter fun k => decide (k * h % p = 1))))) (by rw [List.take_zero]; rfl) ?_ ?_
      · rintro i H' hi rfl
        have e0 : ((0 : Int) + (i : Nat)) = (i : Int) := Int.zero_add _
        refine ⟨wipe_set (by decide), _, rfl, _, rfl, D2, _, 0, .int h, rfl, rfl, hD2t.ext (Ext.upd hD4), atI_nat (j := 0) rfl, _, _, rfl, rfl, .inl ⟨by omega, by omega⟩, .inl ⟨_, rfl, _, rfl, _, _, rfl, rfl, hpp, rfl, _, rfl, ?_⟩⟩
        rw [e0, take_rng hi, List.filter_append]
        refine ifb (fun hk => ?_) fun hk => ?_
        · have hk : (i : Int) * h % p = 1 := V.int.inj hk
          refine ⟨_, rfl, _, upd_same, ?_, ?_⟩
          · rw [List.length_map]
            have h1 := List.length_filter_le (fun k : Int => decide (k * h % p = 1)) ((rngI p.toNat).take i)
            have h2 := List.length_take_le i (rngI p.toNat)
            rw [sizeLine_eq]
            omega
          · have e9 : List.filter (fun k => decide (k * h % p = 1)) [(i : Int)] = [(i : Int)] := by simp [hk]
            rw [upd_upd, e9]
            simp [iV]
        · have hk : ¬ (i : Int) * h % p = 1 := fun z => hk (congrArg V.int z)
          have e9 : List.filter (fun k => decide (k * h % p = 1)) [(i : Int)] = [] := by simp [hk]
          rw [e9, List.append_nil]
      · rintro H' rfl
        rw [take_rng_all]
        obtain ⟨u, hu⟩ := inv_has hpi.1 (by omega) hh.2
        have hinv : ((rngI p.toNat).filter fun k => decide (k * h % p = 1))[0]? = some (inv p h) := by
          have hm := inv_mem hpp hu
          show (invL p h)[0]? = some ((invL p h).headD 0)
          cases e2 : invL p h with
          | nil => rw [e2] at hm; cases hm
          | cons k ks => rfl
        refine ⟨D4, _, 0, .int (inv p h), rfl, rfl, SqL.of upd_same, atI_nat (j := 0) (by rw [List.getElem?_map, hinv]; rfl), ?_⟩
        have x5 : Ext H5 (upd H5 D4 (.lst (iV ((rngI p.toNat).filter fun k => decide (k * h % p = 1))))) := Ext.upd hD4
        have hD1u := hD1t.ext x5
        refine ⟨_, rfl, D1, rfl, ⟨_, hD1u⟩, fun D6 hD6 => ?_⟩
        refine lcI_list (fun _ => true) (fun i => V.int (i * inv p h % p)) (by decide) hD1u hD6 (by rw [hR3]; decide) (fun n _ acc K' hK => hK) (fun n hn _ acc K' hK => ⟨_, rfl, _, rfl, _, _, rfl, rfl, ?_, .inl ⟨_, rfl, _, rfl, _, _, rfl, rfl, hpp, hK⟩⟩) ?_
        · have := hrow n hn
          exact .inl ⟨by omega, by omega⟩
        · refine .inl ⟨D6, _, rfl, SqL.of upd_same, fun t2 ht2 => hS ((rowZ p [x, y, z]).map fun i => i * inv p h % p) ?_ t2 _ (ext_trans x34 (ext_trans x5 (ext_trans (Ext.upd hD6) (Ext.upd ht2)))) (SqT.of ?_)⟩
          · unfold nZ
            rw [e]
            show (if 0 < p then _ else _) = _
            rw [if_pos hpp]
          · rw [upd_same, lcV_all]
            simp [iV]
    · rw [decide_eq_false hpp]
      have hp0 : p = 0 := hp.resolve_right fun q => by have := q.1.1; omega
      subst hp0
      have hrow : rowZ 0 [x, y, z] = [x, y, z] := rfl
      refine iteF ⟨_, rfl, l, rfl, ⟨_, hl⟩, fun D2 hD2 => ?_⟩
      refine lcI_list nzI V.int (by decide) hl hD2 (by show 3 < sizeLine; decide) (fun n _ acc K' hK => ⟨_, rfl, _, _, rfl, rfl, _, rfl, hK⟩) (fun n _ _ acc K' hK => ⟨_, rfl, hK⟩) ?_
      have x2 : Ext H (upd H D2 (.lst (lcV nzI V.int [x, y, z]))) := Ext.upd hD2
      rw [show lcV nzI V.int [x, y, z] = iV ([x, y, z].filter nzI) from rfl] at x2 ⊢
      generalize hH3 : upd H D2 (.lst (iV ([x, y, z].filter nzI))) = H3 at x2 ⊢
      have hD2s : H3 D2 = some (.lst (iV ([x, y, z].filter nzI))) := by rw [← hH3, upd_same]
      have hl3 : SqL K H3 l (iV [x, y, z]) := hl.ext x2
      refine ⟨_, rfl, Nat.zero_le _, fun D3 hD3 => ?_⟩
      have x4 : Ext H3 (upd H3 D3 (.lst [])) := Ext.upd hD3
      refine ⟨.list (iD ([x, y, z].filter nzI)), .list [], .lst (SqL.of (x4 _ _ hD2s)) (dpAll_iV _), .lst (SqL.of upd_same) .nil, sh_lst _, rfl, _, rfl, ?_⟩
      rw [eqv_nil]
      refine ifb (fun h0 => ?_) fun h0 => ?_
      · exact hN (by unfold nZ; rw [hrow, h0]) _ (ext_trans x2 x4)
      cases e : [x, y, z].filter nzI with
      | nil => exact absurd e h0
      | cons h hs =>
      rw [e] at hD2s
      have hmem := List.mem_filter.mp (show h ∈ [x, y, z].filter nzI by rw [e]; exact List.mem_cons_self)
      have hne : h ≠ 0 := by have := hmem.2; simpa [nzI] using this
      have hD2t : SqL K (upd H3 D3 (.lst [])) D2 (iV (h :: hs)) := SqL.of (x4 _ _ hD2s)
      have hl4 := hl3.ext x4
      have x34 := ext_trans x2 x4
      generalize hH5 : upd H3 D3 (.lst []) = H5 at x4 hD2t hl4 x34 ⊢
      refine ⟨_, rfl, _, _, rfl, rfl, _, rfl, ?_⟩
      refine iteF ⟨_, rfl, l, rfl, ⟨_, hl4⟩, fun D6 hD6 => ?_⟩
      refine lcI_list (fun _ => true) (fun n => V.int (if n < 0 then -n else n)) (by decide) hl4 hD6 (by show 3 < sizeLine; decide) (fun n _ acc K' hK => hK) (fun n _ _ acc K' hK => ⟨_, rfl, _, rfl, hK⟩) ?_
      rw [lcV_all]
      have x6 : Ext H5 (upd H5 D6 (.lst ([x, y, z].map fun n => V.int (if n < 0 then -n else n)))) := Ext.upd hD6
      generalize hH6 : upd H5 D6 (.lst ([x, y, z].map fun n => V.int (if n < 0 then -n else n))) = H6 at x6 ⊢
      have hD6s : H6 D6 = some (.lst (iV ([x, y, z].map fun n => if n < 0 then -n else n))) := by rw [← hH6, upd_same]; rfl
      refine ⟨D6, [x, y, z].map fun n => if n < 0 then -n else n, rfl, SqL.of hD6s, (by show 0 < 3; decide), fun m hm hmax => ?_⟩
      have hmb : 0 ≤ m ∧ m < 2 ^ 29 := by
        obtain ⟨n, hn, rfl⟩ := List.mem_map.mp hm
        have : n.natAbs < 2 ^ 29 := by
          rcases List.mem_cons.mp hn with rfl | hn
          · exact bx
          rcases List.mem_cons.mp hn with rfl | hn
          · exact by'
          rw [List.mem_singleton.mp hn]; exact bz
        split <;> omega
      have hmall : ∀ n ∈ [x, y, z], (n.natAbs : Int) ≤ m := fun n hn => by
        have := hmax _ (List.mem_map.mpr ⟨n, hn, rfl⟩)
        have h2 : (n.natAbs : Int) = if n < 0 then -n else n := by split <;> omega
        rw [h2]; exact this
      have hl6 := hl4.ext x6
      have hD2u := hD2t.ext x6
      have x36 := ext_trans x34 x6
      refine ⟨_, _, rfl, rfl, 1, 1 + m, rfl, ⟨by omega, by omega, by omega, by omega⟩, ?_⟩
      refine for_range (lo := 1) (n := (1 + m - 1).toNat) (fun i σ H' => ∃ (dd : Int) (u : Option V), σ = [some (.ref l), some (.int 0), some (.ref D2), none, some (.int dd), u, none] ∧ Ext H6 H' ∧ Dv [x, y, z] i dd)
        ⟨1, none, rfl, fun _ _ q => q, by decide, fun n _ => Int.emod_one n, fun k h1 h2 _ => by omega⟩ ?_ ?_
      · rintro i σ H' hi ⟨dd, u, rfl, hE, hdv⟩
        have hl7 := hl6.ext hE
        refine ⟨_, rfl, l, rfl, ⟨_, hl7⟩, fun D7 hD7 => ?_⟩
        refine lcI_list (fun n => !decide (n % (1 + (i : Int)) = 0)) V.int (by decide) hl7 hD7 (by show 3 < sizeLine; decide) (fun n _ acc K' hK => ⟨_, rfl, .inl ⟨n, rfl, _, rfl, _, _, rfl, rfl, (by show 0 < 1 + (i : Int); omega), _, _, rfl, rfl, _, rfl, hK⟩⟩) (fun n _ _ acc K' hK => ⟨_, rfl, hK⟩) ?_
        refine ⟨Nat.zero_le _, fun D8 hD8 => ?_⟩
        have x7 : Ext H' (upd H' D7 (.lst (iV ([x, y, z].filter fun n => !decide (n % (1 + (i : Int)) = 0))))) := Ext.upd hD7
        have x8 := Ext.upd (o := .lst []) hD8
        refine ⟨.list (iD ([x, y, z].filter fun n => !decide (n % (1 + (i : Int)) = 0))), .list [], .lst (SqL.of (x8 _ _ upd_same)) (dpAll_iV _), .lst (SqL.of upd_same) .nil, sh_lst _, rfl, _, rfl, ?_⟩
        rw [eqv_nil]
        have hE8 := ext_trans hE (ext_trans x7 x8)
        refine ifb (fun hz => ?_) fun hz => ?_
        · refine ⟨_, rfl, 1 + (i : Int), _, rfl, hE8, by omega, fun n hn => ?_, fun k h1 h2 _ => by omega⟩
          by_cases hq : n % (1 + (i : Int)) = 0
          · exact hq
          · have : n ∈ [x, y, z].filter fun n => !decide (n % (1 + (i : Int)) = 0) := List.mem_filter.mpr ⟨hn, by simp [hq]⟩
            rw [hz] at this
            cases this
        · refine ⟨dd, _, rfl, hE8, hdv.pos, hdv.all, fun k h1 h2 h3 => ?_⟩
          by_cases hk : k ≤ i
          · exact hdv.top k h1 hk h3
          · exfalso
            have hk2 : k = 1 + (i : Int) := by omega
            subst hk2
            refine hz (List.filter_eq_nil_iff.mpr fun n hn => ?_)
            simp [h3 n hn]
      · rintro σ H' ⟨dd, u, rfl, hE, hdv⟩
        rw [show 1 + m - 1 = m by omega] at hdv
        have hdd := dv_end hdv hmem.1 hne hmall
        have hl7 := hl6.ext hE
        have x7 := ext_trans x36 hE
        have hdb : dd ≠ 0 ∧ dd.natAbs < 1073741824 := by
          have h1 := hdv.pos
          have h2 := hdv.all h hmem.1
          obtain ⟨q, hq⟩ := Int.dvd_of_emod_eq_zero h2
          have h3 : dd.natAbs ∣ h.natAbs := Int.natAbs_dvd_natAbs.mpr ⟨q, hq⟩
          have h4 := Nat.le_of_dvd (by omega) h3
          have h5 := hmall h hmem.1
          omega
        have fin : ∀ (d2 : Int), (d2 = if h < 0 then -g3 [x, y, z] else g3 [x, y, z]) → ∀ t H', Ext H H' → SqT K H' t (iV ([x, y, z].map fun i => i.fdiv d2)) → Q (.ref t) H' := fun d2 hd2 t H' hE ht => by
          refine hS _ ?_ t H' hE ht
          unfold nZ
          rw [hrow, e, hd2]
          rfl
        refine ⟨_, rfl, _, _, _, _, rfl, rfl, hD2u.ext hE, atI_nat (j := 0) rfl, _, _, rfl, rfl, _, rfl, ifb (fun hneg => ?_) fun hneg => ?_⟩
        · refine ⟨_, rfl, _, rfl, ?_⟩
          refine norm_end2 (by decide) (by decide) rfl rfl rfl hl7 (by show 3 < sizeLine; decide) ⟨by omega, by omega⟩ (fun t H' hE ht => fin _ ?_ t H' (ext_trans x7 hE) ht)
          rw [if_pos hneg, hdd]
        · refine norm_end2 (by decide) (by decide) rfl rfl rfl hl7 (by show 3 < sizeLine; decide) hdb (fun t H' hE ht => fin _ ?_ t H' (ext_trans x7 hE) ht)
          rw [if_neg hneg, hdd]
end
end K75
set_option Elab.async false
set_option linter.all false
set_option maxRecDepth 100000
set_option maxHeartbeats 4000000
namespace K75
open PySem PySem.Spec PyProof.Rows L2
/-! several clauses, all with one name -/
/-- what they wish, one after the other; slot i is the name's -/
def wAsM (K : PySem.W.Frag) (i : Nat) (Wo : WX) (D : Ends) : List (Value × (Addr → Value → Option Addr → TS)) → WX
  | [] => Wo
  | (c, ts) :: r => fun cls d σ H => ∃ b, PySem.W.exmOne K cls c = some b ∧
      (b = true → ∀ a, H a = none → ts a cls d { nx := fun τ G => D.nx (τ.set i none) G, rt := D.rt, bk := fun τ G => D.bk (τ.set i none) G, ct := fun τ G => D.ct (τ.set i none) G } (σ.set i (some (.ref a))) H) ∧ (b = false → wAsM K i Wo D r cls d σ H)
inductive HdA (X : Cx) (n : Str) : List ExceptHandler → List (Value × (Addr → Value → Option Addr → TS)) → Prop
  | nil : HdA X n [] []
  | cons {x : Str} {c : Value} {ts : Addr → Value → Option Addr → TS} {b1 : Stmt} {su : List Stmt} {np q : Pos} {hl : List ExceptHandler} {l : List (Value × (Addr → Value → Option Addr → TS))} (hc : Names X x c)
      (hsu : ∀ (a : Addr) (oe : Obj) (cls : Value) (d : Option Addr) (pn : List (Addr × Obj)), Zc cls d oe → (∃ vs, oe.data = .fields vs) → PSs (X.suite a ((a, oe) :: pn)) (b1 :: su) (ts a cls d)) (r : HdA X n hl l) :
      HdA X n (.ExceptHandler (some (.Name x np)) (some n) (b1 :: su) q :: hl) ((c, ts) :: l)
section
variable {X : Cx} {n : Str} {i : Nat} {body : List Stmt} {h1 : ExceptHandler} {hl : List ExceptHandler} {l : List (Value × (Addr → Value → Option Addr → TS))} {pos : Pos} {tb : WX → TS} {Wo : WX}
theorem ps_try_asM (hst : X.stack = X.env :: X.outer) (hfr0 : X.env.frame = some X.env.locals) (hN : X.N.Nodup) (hi : X.N[i]? = some n) (hln : X.env.kindOf n = some .local) (tk : Takes X Wo)
    (hb : ∀ (W : WX) (pn : List (Addr × Obj)) (xe : Value → Shared → Prop), Takes (X.tr pn xe) W → PassesOwn (model X.prog X.w) X.A X.env xe → PSs (X.tr pn xe) body (tb W))
    (hh : HdA X n (h1 :: hl) l) : PS X (.Try body (h1 :: hl) [] [] pos) (fun D σ H => tb (wAsM X.K i Wo D l) D σ H) := by
  refine ⟨fun ps0 s0 σ0 H0 D I0 hw0 => ?_⟩
  have kk := I0.ok
  have hA : X.A.frames = some (X.env :: X.outer) := by rw [kk.frames, hst]
  have hlc : Loc X.env.scope n := .inl hln
  refine wpAny_Try_except ?_
  refine wpAny_mono ((hb (wAsM X.K i Wo D l) (X.pn ++ ps0) (fun e t1 => wpAny (model X.prog X.w) X.A (noteFrame e X.env) (fun _ t2 => wpAny (model X.prog X.w) X.A (setFlight e none) (fun _ t3 =>
    wpAny (model X.prog X.w) X.A (handleBy e X.env (h1 :: hl)) (SP X ps0 D) X.xe t3) X.xe t2) X.xe t1) (fun u s' xx => ?_) PassesOwn.looking).run [] s0 σ0 H0 D (I0.toTry _) hw0) (fun fl s1 hsp => ?_) (fun e s1 he => he)
  · obtain ⟨a, B, sI, psI, τ, G, cls, d, rfl, J0, nb, up, sky, na, os, ag, w⟩ := xx
    have J : Inv X ps0 τ G sI := J0.ofTry kk
    have sk : Sky B (X.env :: X.outer) a (Zc cls d) X.env.locals s'.heap := by rw [← hst]; exact sky
    show wpAny (model X.prog X.w) X.A (noteFrame (.ref a) X.env) _ _ _
    refine Sky.land Zc.steady hA hfr0 sk fun g3 fl3 up3 => ?_
    have J3 : Inv X ps0 τ G { s' with heap := g3 } := J.landed nb fl3.1 (up.trans up3) os ag
    obtain ⟨ob3, vs3, he3, hz3, hd3⟩ := fl3.there
    have nofr : a ∉ frs (X.env :: X.outer) := fun hm => by
      obtain ⟨_, o', e', hnf⟩ := fl3.2.2.1.mem hm
      rw [he3] at e'
      cases e'
      exact hnf _ hd3
    have nL : a ≠ X.env.locals := fun z => nofr (List.mem_filterMap.mpr ⟨X.env, List.mem_cons_self, by rw [hfr0, z]⟩)
    have nF : a ∉ X.fs := fun hm => by
      obtain ⟨e, he, q⟩ := List.mem_filterMap.mp hm
      exact nofr (List.mem_filterMap.mpr ⟨e, List.mem_cons_of_mem _ he, q⟩)
    have S3 := J3.suite he3 hd3 na nL nF
    have go : ∀ {hl' : List ExceptHandler} {l' : List (Value × (Addr → Value → Option Addr → TS))}, HdA X n hl' l' → wAsM X.K i Wo D l' cls d τ G → wpAny (model X.prog X.w) X.A (handleBy (.ref a) X.env hl') (SP X ps0 D) X.xe { s' with heap := g3 } := by
      intro hl' l' hk
      induction hk with
      | nil =>
        intro w
        refine wpAny_handleBy_nil ?_
        obtain ⟨_, _, _, oe, vs, T, oT, ts', heT, _, hdT, h1T, _⟩ := id fl3
        have fin : wpAny (model X.prog X.w) X.A (setFlight (.ref a) X.env.frame) (fun _ s4 => wpAny (model X.prog X.w) X.A (throw (.ref a) : _root_.PySem.Sem Flow) (SP X ps0 D) X.xe s4) X.xe { s' with heap := g3 } := by
          rw [hfr0]
          refine HandSPX.setFlight_upZ fl3 fun g4 hg4 up4 => wpAny_throw (tk _ _ ?_)
          exact ⟨a, B, sI, ps0, τ, G, cls, d, rfl, J, nb, (up.trans up3).trans up4, .inr (.inr (by rw [hst]; exact hg4)), na, os, ag, w⟩
        unfold PySem.passOn
        refine wpAny_bind (wpAny_field heT hdT h1T ?_)
        rw [if_neg (show ¬ ((Value.ref T == Value.none) = true) from by simp)]
        first
          | exact wpAny_bind (wpAny_pure (wpAny_bind fin))
          | exact wpAny_bind fin
      | @cons x c ts b1 su np q hl2 l2 hc hsu r ih =>
        intro w
        obtain ⟨b, hb1, hyes, hno⟩ := w
        refine wpAny_handleBy_cons (codeAny_handlers_test ?_) (by intro q; cases q)
        have LT : PySem.W.Looks (model X.prog X.w) g3 (typeOf (.ref a)) cls := fun A Q E s k q => wpAny_typeOf_ref (k _ _ he3) (by rw [hz3.1]; exact q)
        have LM := PySem.W.exm_one (M := model X.prog X.w) (J3.kIn) LT hb1
        have tst : ∀ {Q : Value → Shared → Prop} {E : Value → Shared → Prop}, Q c { s' with heap := g3 } → wpAny (model X.prog X.w) (X.A.mark (some (.ref a))) (eval (.Name x np) X.env) Q E { s' with heap := g3 } := fun {Q E} q => by
          obtain ⟨hg, hdbg, hm | ⟨hm, hv, hnn⟩⟩ := hc
          · exact ld_glob (X := X.suite a ((a, ob3) :: (X.pn ++ ps0))) S3 hg hm q hdbg
          · exact ld_blt (X := X.suite a ((a, ob3) :: (X.pn ++ ps0))) S3 hg hm hv q hnn hdbg
        refine tst (LM.here ?_)
        cases b with
        | true =>
          refine codeAny_handlers_suite_as ?_
          refine HandSPX.lands_againZ fl3 fun g4 fl4 up4 => ?_
          have J4 : Inv X ps0 τ G { s' with heap := g4 } := J.landed nb fl4.1 ((up.trans up3).trans up4) os ag
          obtain ⟨ob4, vs4, he4, hz4, hd4⟩ := fl4.there
          have S4 := J4.suite he4 hd4 na nL nF
          refine store_ok (X := X.suite a ((a, ob4) :: (X.pn ++ ps0))) (v := .ref a) S4 hN hi hlc rfl (fun s5 S5 => ?_) (.inr hln)
          refine wpAny_mono ((hsu a ob4 cls d (X.pn ++ ps0) hz4 ⟨_, hd4⟩).run [] s5 _ G _ S5 (hyes rfl a na)) (fun fw s6 hsp => ?_) (fun _ _ z => False.elim z)
          have fin : ∀ {σ6 : L2.St} {H6 : Hp} {Q : Shared → Prop}, Inv (X.suite a ((a, ob4) :: (X.pn ++ ps0))) [] σ6 H6 s6 → (∀ s7, Inv X ps0 (σ6.set i none) H6 s7 → Q s7) → wpAny (model X.prog X.w) X.A (do bindName X.env n .none; unbindBehindTheSuite X.env n q) (fun _ s7 => Q s7) X.xe s6 :=
            fun {σ6 H6 Q} S6 hq => gone_ok (S6.unsuite kk) hN hi hln hq
          cases fw with
          | next => obtain ⟨σ6, H6, S6, q6⟩ := hsp; exact fin S6 fun s7 J7 => ⟨_, _, J7, q6⟩
          | brk => obtain ⟨σ6, H6, S6, q6⟩ := hsp; exact fin S6 fun s7 J7 => ⟨_, _, J7, q6⟩
          | cont => obtain ⟨σ6, H6, S6, q6⟩ := hsp; exact fin S6 fun s7 J7 => ⟨_, _, J7, q6⟩
          | ret u => obtain ⟨v6, σ6, H6, S6, r6, q6⟩ := hsp; exact fin S6 fun s7 J7 => ⟨_, _, _, J7, r6, q6⟩
        | false =>
          show wpAny _ X.A (handleBy (.ref a) X.env hl2) _ _ _
          exact ih (hno rfl)
    exact go hh w
  · cases fl with
    | next => obtain ⟨τ, G, J0, q⟩ := hsp; exact wpAny_execs_nil ⟨τ, G, J0.ofTry kk, q⟩
    | brk => obtain ⟨τ, G, J0, q⟩ := hsp; exact ⟨τ, G, J0.ofTry kk, q⟩
    | cont => obtain ⟨τ, G, J0, q⟩ := hsp; exact ⟨τ, G, J0.ofTry kk, q⟩
    | ret u => obtain ⟨v, τ, G, J0, r, q⟩ := hsp; exact ⟨v, τ, G, J0.ofTry kk, r, q⟩
end
end K75
set_option Elab.async false
set_option linter.all false
set_option maxRecDepth 100000
set_option maxHeartbeats 4000000
namespace K75
open PySem PySem.Spec PyProof.Rows L2
section
variable {X : Cx} {CX : CXT} {k j n : Nat} {C : Addr} {m : Str} {ks : List Str} {sp : Sp} {ES : L2.St → XK} {pos apos : Pos} {e o : Expr} {es : List Expr} {kws : List Keyword} {ta : TE} {t tk : TA}
/-- o.m(e, k = v) within a try: what it may let out is told by the slots -/
def tMnS (C : Addr) (m : Str) (n j : Nat) (sp : Sp) (ES : L2.St → XK) (ta : TE) (t tk : TA) : TE := fun σ H Q => ta σ H fun x H1 => ∃ a dx fs, x = .ref a ∧ H1 a = some (.ins C dx fs) ∧ fs.lookup m = none ∧
  t σ H1 fun vs H2 => tk σ H2 fun zs H3 => vs.length = n ∧ zs.length = j ∧ sp (x :: (vs ++ zs)) H3 Q (ES σ)
theorem pe_mnS {pl : _root_.PySem.Sem Bool} (c : MetN X.prog X.w X.K X.mg X.base CX k n C m ks sp) (hr : Room j X.A) (hk : k ≤ j) (hx : ∀ σ, PassesAt CX X σ (ES σ)) (he : PE X o ta)
    (ha : PA X (e :: es) t) (hkw : PK X kws tk) (hall : (backToKw pos (keywordEach kws X.env)).all (·.1.isSome) = true := by rfl) (hks : (backToKw pos (keywordEach kws X.env)).filterMap (·.1) = ks := by rfl)
    (hst : starEach (e :: es) X.env = (false, eval e X.env) :: starEach es X.env := by rfl)
    (hpl : ((backTo pos (starEach (e :: es) X.env)).any (·.1) || (backToKw pos (keywordEach kws X.env)).any (·.1.isNone)) = false := by rfl)
    (ht : eval (.Call (.Attribute o m apos) (e :: es) kws pos) X.env = (do
      let ov ← eval o X.env
      standAt apos.atName
      let (f, first) ← holding [ov] (getMethod ov m pl)
      callWith pos f first (backTo pos (starEach (e :: es) X.env)) (backToKw pos (keywordEach kws X.env))) := by rfl) :
    PE X (.Call (.Attribute o m apos) (e :: es) kws pos) (tMnS C m n ks.length sp ES ta t tk) := by
  obtain ⟨f, fd, ps, hm, F0, hb⟩ := c.ex
  have F := F0.mono hk
  refine ⟨fun pins s σ H Q I h => ?_⟩
  refine PySem.W.methodCall_KW (pl := pl) (thn (he.run pins s σ H _ I h) fun u s1 ⟨x, H1, I1, rx, a, dx, fs, ex, ea, l, q⟩ => ?_) ht
  subst ex
  obtain rfl : u = Value.ref a := rx
  refine getmeth_ok I1 ea c.cl hm l ?_
  refine PySem.W.callWith_KW (first := [.ref a]) (h₀ := X.base) I.ok.mod.kin hm.kp hall (thn (ha.run pos pins s1 σ H1 _ I1 q) fun us s2 ⟨vs, H2, I2, r, q2⟩ => ?_) hpl hst
  refine thn (hkw.run pos pins s2 σ H2 _ I2 q2) fun ws s3 ⟨zs, H3, I3, rz, l1, l2, q3⟩ => ⟨I3.kIn, ?_⟩
  rw [hks]
  have r2 := hb.rel (.cons (show RelV (V.ref a) (Value.ref a) from rfl) r) rz
  have l1' : (Value.ref a :: us).length = n + 1 := by rw [List.length_cons, ← r.length, l1]
  refine wpAny_call (codeAny_mono (F.run X.A X.stack s3 H3 ⟨.ref a :: us, ks.zip ws⟩ ((.ref a :: us) ++ ws) ((.ref a :: vs) ++ zs) Q (ES σ) hr I3.env0 (hb.to s3 (.ref a :: us) ws I3.kIn l1' (rz.length.symm.trans l2)) r2 q3) fun r s' hq => ?_)
  cases r with
  | error e => exact hx σ pins H3 s3 e s' I3 hq
  | ok fl =>
    cases fl with
    | ret u => exact I3.after hq
    | next => exact False.elim hq
    | brk => exact False.elim hq
    | cont => exact False.elim hq
end
abbrev sLSeen : Stmt := top 40
theorem sc_LSeen : FnScope ["_law_thing", "_law_values", "_law_char", "e"] ["_law_thing", "_law_values", "_law_char"] (defScope sLSeen) := ⟨rfl, rfl, rfl, by decide +kernel, rfl, by decide +kernel, by decide +kernel⟩
/-- the three ways of _law_seen -/
def spLSeen (K : PySem.W.Frag) (C CB CU CM : Addr) : Sp := fun vs H Q _ => ∃ (o dv : Addr) (p : Int) (A B D : Tm) (n d : Nat) (kvs : List (Key × V)), vs = [.ref o, .ref dv, .int p] ∧ PtO K C CM H o A B D n d ∧ Rd H dv (.dK kvs) ∧
  ((∃ x y z ys, (p = 0 ∨ IsPi p ∧ p < 1000) ∧ VO A kvs x ∧ VO B kvs y ∧ VO D kvs z ∧ x.natAbs < 2 ^ 29 ∧ y.natAbs < 2 ^ 29 ∧ z.natAbs < 2 ^ 29 ∧ nZ p [md p x, md p y, md p z] = some ys ∧ ∀ t H', Ext H H' → SqT K H' t (iV ys) → Q (.ref t) H') ∨
   (∃ x, (p = 0 ∨ IsPi p ∧ p < 1000) ∧ VO A kvs x ∧ Sm B (["b7y"] : List Str) ∧ (∀ p ∈ B, p.2.natAbs < 2 ^ 60) ∧ valV kvs (.inr "b7y") = none ∧ ∀ l H', Ext H H' → H' l = some (.lst [.str "name", .str "b7y"]) → Q (.ref l) H') ∨
   (∃ xs, p = 4 ∧ Sm A xs ∧ (∀ p ∈ A, p.2.natAbs < 2 ^ 60) ∧ ∀ l H', Ext H H' → H' l = some (.lst [.str "bad", .int 4]) → Q (.ref l) H'))
structure ExT (K : PySem.W.Frag) (mg : Str → Option Value) (CB CU : Addr) : Prop where
  gU : mg "UnknownName" = some (.ref CU)
  gB : mg "BadCharacteristic" = some (.ref CB)
  xU : XfC K CU
  xB : XfC K CB
  nU : PySem.W.findIn K (.ref CU) "name" = some none
  nB : PySem.W.findIn K (.ref CB) "p" = some none
  uu : PySem.W.exmOne K (.ref CU) (.ref CU) = some true
  bu : PySem.W.exmOne K (.ref CB) (.ref CU) = some false
  bb : PySem.W.exmOne K (.ref CB) (.ref CB) = some true
section
variable {P : Program} {w : World} {K : PySem.W.Frag} {mg : Str → Option Value} {base : Heap} {f C CB CU CM : Addr} {fd : FuncData}
theorem ok_LSeen (F : FnP K "_law_seen" "_law_seen" sLSeen f fd) (T : ExT K mg CB CU) (mS : MetN P w K mg base (L2.CX P w) 7 1 C "seen" ["p"] (spSeen K C CB CU CM)) : FnOk P w K mg base CX0 8 f fd ["_law_thing", "_law_values", "_law_char"] (spLSeen K C CB CU CM) := by
  refine F.ok sc_LSeen (fun vs H Q E h => ?_) (fun cdv A outer s H vs Q E hr h => ⟨_, PSs.nox (pss_one (ps_try_asM (i := 3) (n := "e") (Wo := fun _ _ _ _ => False) rfl rfl sc_LSeen.nd rfl rfl takes0
      (fun W pn xe tk _ => pss_one (ps_ret (pe_mnS mS hr (by decide) (fun σ => passAt tk σ) (pv 0) (pa_cons (pv 1) pa_nil) (pk_cons (pv 2) pk_nil))))
      (.cons ⟨rfl, by decide, .inl T.gU⟩ (fun a oe cls d pn hz hf => pss_one (ps_ret (pe_lst (pa_cons pe_str (pa_cons (pe_xf T.xU T.nU hz hf (pv 3)) pa_nil)))))
        (.cons ⟨rfl, by decide, .inl T.gB⟩ (fun a oe cls d pn hz hf => pss_one (ps_ret (pe_lst (pa_cons pe_str (pa_cons (pe_xf T.xB T.nB hz hf (pv 3)) pa_nil))))) .nil)))), ?_⟩)
  · obtain ⟨o, dv, p, _, _, _, _, _, _, rfl, _⟩ := h
    rfl
  · obtain ⟨o, dv, p, A, B, D, n, d, kvs, rfl, hP, hrd, hway⟩ := h
    have hP' := hP
    obtain ⟨dx, t, ho, _⟩ := hP'
    refine ⟨_, rfl, o, dx, _, rfl, ho, rfl, _, rfl, _, rfl, rfl, rfl, o, dv, p, A, B, D, n, d, kvs, rfl, hP, hrd, ?_⟩
    rcases hway with ⟨x, y, z, ys, hp, vA, vB, vD, bx, by', bz, hnz, hQ⟩ | ⟨x, hp, vA, smB, cbB, hnone, hQ⟩ | ⟨xs, rfl, smA, cbA, hQ⟩
    · exact .inl ⟨x, y, z, hp, vA, vB, vD, bx, by', bz, fun h0 => (by rw [hnz] at h0; cases h0), fun ys' h0 t' H' x1 ht => (by rw [hnz] at h0; cases h0; exact hQ t' H' x1 ht)⟩
    · refine .inr (.inl ⟨x, hp, vA, smB, cbB, hnone, fun H' d' x1 hd' => ⟨true, T.uu, fun _ a ha => ?_, fun z => (by cases z)⟩⟩)
      refine ⟨_, rfl, rfl, rfl, d', _, _, rfl, upd_same, rfl, by decide, fun l hl => hQ l _ (ext_trans x1 (ext_trans (Ext.upd hd') (Ext.upd hl))) upd_same⟩
    · refine .inr (.inr ⟨xs, rfl, smA, cbA, fun H' d' x1 hd' => ⟨false, T.bu, fun z => (by cases z), fun _ => ⟨true, T.bb, fun _ a ha => ?_, fun z => (by cases z)⟩⟩⟩)
      refine ⟨_, rfl, rfl, rfl, d', _, _, rfl, upd_same, rfl, by decide, fun l hl => hQ l _ (ext_trans x1 (ext_trans (Ext.upd hd') (Ext.upd hl))) upd_same⟩
end
end K75
set_option Elab.async false
set_option linter.all false
set_option maxRecDepth 100000
set_option maxHeartbeats 4000000
namespace K75
open PySem PySem.Spec PyProof.Rows L2
/-! counting points, plainly -/
theorem rngI_mem {n : Nat} {x : Int} : x ∈ rngI n ↔ 0 ≤ x ∧ x < n := by
  unfold rngI
  rw [List.mem_map]
  constructor
  · rintro ⟨k, hk, rfl⟩
    have := List.mem_range.mp hk
    show 0 ≤ (k : Int) ∧ (k : Int) < n
    omega
  · rintro ⟨h0, h1⟩
    exact ⟨x.toNat, List.mem_range.mpr (by omega), by show (x.toNat : Int) = x; omega⟩
theorem rngI_nd {n : Nat} : (rngI n).Nodup := by
  unfold rngI
  refine List.Pairwise.map _ (fun a b h => ?_) List.nodup_range
  intro e
  exact h (Int.ofNat.inj e)
theorem one_len {α : Type} {l : List α} (hn : l.Nodup) {x : α} (hx : x ∈ l) (hu : ∀ y ∈ l, y = x) : l.length = 1 := by
  cases l with
  | nil => cases hx
  | cons a l =>
    cases l with
    | nil => rfl
    | cons b l =>
      exfalso
      have h1 := hu a List.mem_cons_self
      have h2 := hu b (List.mem_cons_of_mem _ List.mem_cons_self)
      rw [List.nodup_cons] at hn
      exact hn.1 (by rw [h1, ← h2]; exact List.mem_cons_self)
theorem mod_eq_of {p a b : Int} (h0 : 0 ≤ a) (h1 : a < p) (h2 : 0 ≤ b) (h3 : b < p) (h : (a - b) % p = 0) : a = b := by
  obtain ⟨k, hk⟩ := Int.dvd_of_emod_eq_zero h
  have hk0 : k = 0 := by
    by_cases hp : 0 < k
    · have : p * 1 ≤ p * k := Int.mul_le_mul_of_nonneg_left (by omega) (by omega)
      omega
    · by_cases hn : k < 0
      · have : p * k ≤ p * (-1) := Int.mul_le_mul_of_nonneg_left (by omega) (by omega)
        omega
      · omega
  rw [hk0, Int.mul_zero] at hk
  omega
/-- c * z + d vanishes at just one z mod p -/
theorem lin_one {p : Nat} {c d u : Int} (hp : 1 < p) (hu : u * c % p = 1) : ((rngI p).filter fun z => decide ((d + c * z) % p = 0)).length = 1 := by
  have hp0 : (0 : Int) < p := by omega
  have hz : ((-(d * u)) % (p : Int)) ∈ (rngI p).filter fun z => decide ((d + c * z) % p = 0) := by
    refine List.mem_filter.mpr ⟨rngI_mem.mpr ⟨Int.emod_nonneg _ (by omega), Int.emod_lt_of_pos _ hp0⟩, decide_eq_true ?_⟩
    have e : (d + c * ((-(d * u)) % (p : Int))) % p = (d + c * (-(d * u))) % p := by
      rw [Int.add_emod, Int.mul_emod, Int.emod_emod, ← Int.mul_emod, ← Int.add_emod]
    rw [e]
    have e2 : d + c * (-(d * u)) = d * (1 - u * c) := by
      rw [Int.mul_sub, Int.mul_one, Int.mul_neg, Int.mul_left_comm, Int.mul_comm c u]
      omega
    rw [e2, Int.mul_emod]
    have e3 : (1 - u * c) % (p : Int) = 0 := by
      rw [Int.sub_emod, hu]
      have : (1 : Int) % p = 1 := Int.emod_eq_of_lt (by decide) (by omega)
      rw [this]
      rfl
    rw [e3, Int.mul_zero, Int.zero_emod]
  refine one_len (List.Sublist.nodup List.filter_sublist rngI_nd) hz fun y hy => ?_
  obtain ⟨hy1, hy2⟩ := List.mem_filter.mp hy
  obtain ⟨hz1, hz2⟩ := List.mem_filter.mp hz
  have a1 := rngI_mem.mp hy1
  have a2 := rngI_mem.mp hz1
  have b1 := Int.dvd_of_emod_eq_zero (of_decide_eq_true hy2)
  have b2 := Int.dvd_of_emod_eq_zero (of_decide_eq_true hz2)
  have b3 := Int.dvd_sub b1 b2
  refine mod_eq_of a1.1 a1.2 a2.1 a2.2 (Int.emod_eq_zero_of_dvd ?_)
  generalize (-(d * u)) % (p : Int) = w at *
  have b4 : (p : Int) ∣ c * (y - w) := by
    rw [Int.mul_sub]
    have : c * y - c * w = d + c * y - (d + c * w) := by omega
    rw [this]
    exact b3
  have b5 : (p : Int) ∣ u * c * (y - w) := by rw [Int.mul_assoc]; exact Int.dvd_mul_of_dvd_right b4
  have b6 : u * c * (y - w) % (p : Int) = (y - w) % p := by
    rw [Int.mul_emod, hu, Int.one_mul, Int.emod_emod]
  have b7 := Int.emod_eq_zero_of_dvd b5
  rw [b6] at b7
  exact Int.dvd_of_emod_eq_zero b7
theorem len_fmap {α : Type} {g : Int → List α} {f : α → Bool} : ∀ {ys : List Int}, ((ys.flatMap g).filter f).length = (ys.map fun y => ((g y).filter f).length).sum
  | [] => rfl
  | y :: ys => by rw [List.flatMap_cons, List.filter_append, List.length_append, len_fmap, List.map_cons, List.sum_cons]
theorem len_map {α : Type} {g : Int → α} {f : α → Bool} {ys : List Int} : ((ys.map g).filter f).length = (ys.filter fun y => f (g y)).length := by rw [List.filter_map, List.length_map]; rfl
theorem sum_const {k : Nat} {g : Int → Nat} : ∀ {ys : List Int}, (∀ y ∈ ys, g y = k) → (ys.map g).sum = ys.length * k
  | [], _ => by simp
  | y :: ys, h => by
    rw [List.map_cons, List.sum_cons, h y List.mem_cons_self, sum_const fun z hz => h z (List.mem_cons_of_mem _ hz), List.length_cons, Nat.add_mul]
    omega
theorem pts_count {p : Nat} {a b c : Int} : ((pts p).filter (onB p a b c)).length = (if c % (p : Int) = 0 then 1 else 0) + ((rngI p).filter fun z => decide ((b + c * z) % p = 0)).length + ((rngI p).map fun y => ((rngI p).filter fun z => decide (((a + b * y) + c * z) % p = 0)).length).sum := by
  unfold pts
  rw [List.filter_append, List.filter_append, List.length_append, List.length_append, len_fmap, len_map]
  congr 1
  · congr 1
    · have e : onB p a b c [0, 0, 1] = decide (c % (p : Int) = 0) := by
        show decide ((a * 0 + b * 0 + c * 1) % (p : Int) = 0) = _
        simp
      by_cases h : c % (p : Int) = 0
      · rw [if_pos h, List.filter_cons_of_pos (by rw [e]; exact decide_eq_true h)]; rfl
      · rw [if_neg h, List.filter_cons_of_neg (by rw [e]; simpa using h)]; rfl
    · refine congrArg List.length (List.filter_congr fun z _ => ?_)
      show decide ((a * 0 + b * 1 + c * z) % (p : Int) = 0) = _
      simp
  · refine congrArg List.sum (List.map_congr_left fun y _ => ?_)
    rw [len_map]
    refine congrArg List.length (List.filter_congr fun z _ => ?_)
    show decide ((a * 1 + b * y + c * z) % (p : Int) = 0) = _
    simp
theorem not_zero_of_inv {p : Nat} {c u : Int} (hp : 1 < p) (hu : u * c % p = 1) : c % (p : Int) ≠ 0 := fun h => by
  rw [Int.mul_emod, h, Int.mul_zero, Int.zero_emod] at hu
  cases hu
theorem cnt_c {p : Nat} {a b c u : Int} (hp : 1 < p) (hu : u * c % p = 1) : ((pts p).filter (onB p a b c)).length = p + 1 := by
  rw [pts_count, if_neg (not_zero_of_inv hp hu), lin_one hp hu, sum_const (k := 1) fun y _ => lin_one hp hu, rngI_len]
  omega
theorem cnt_b {p : Nat} {a b u : Int} (hp : 1 < p) (hu : u * b % p = 1) : ((pts p).filter (onB p a b 0)).length = p + 1 := by
  have hb := not_zero_of_inv hp hu
  have e1 : (rngI p).filter (fun z => decide ((b + 0 * z) % (p : Int) = 0)) = [] := List.filter_eq_nil_iff.mpr fun z _ => by simpa using hb
  have e2 : ((rngI p).map fun y => ((rngI p).filter fun z => decide (((a + b * y) + 0 * z) % (p : Int) = 0)).length).sum = p := by
    have h1 := lin_one (d := a) hp hu
    have e3 : ∀ ys : List Int, (ys.map fun y => ((rngI p).filter fun z => decide (((a + b * y) + 0 * z) % (p : Int) = 0)).length).sum = (ys.filter fun y => decide ((a + b * y) % (p : Int) = 0)).length * p := by
      intro ys
      induction ys with
      | nil => simp
      | cons y ys ih =>
        rw [List.map_cons, List.sum_cons, ih]
        by_cases h : (a + b * y) % (p : Int) = 0
        · rw [List.filter_cons_of_pos (by simpa using h), List.length_cons, Nat.add_mul, Nat.one_mul]
          have : (rngI p).filter (fun z => decide (((a + b * y) + 0 * z) % (p : Int) = 0)) = rngI p := List.filter_eq_self.mpr fun z _ => by simpa using h
          rw [this, rngI_len]
          omega
        · rw [List.filter_cons_of_neg (by simpa using h)]
          have : (rngI p).filter (fun z => decide (((a + b * y) + 0 * z) % (p : Int) = 0)) = [] := List.filter_eq_nil_iff.mpr fun z _ => by simpa using h
          rw [this]
          simp
    rw [e3, h1, Nat.one_mul]
  rw [pts_count, e1, e2, if_pos (Int.zero_emod _)]
  show 1 + 0 + p = p + 1
  omega
theorem cnt_a {p : Nat} {a u : Int} (hp : 1 < p) (hu : u * a % p = 1) : ((pts p).filter (onB p a 0 0)).length = p + 1 := by
  have ha := not_zero_of_inv hp hu
  have e1 : (rngI p).filter (fun z => decide ((0 + 0 * z) % (p : Int) = 0)) = rngI p := List.filter_eq_self.mpr fun z _ => by simp
  have e2 : ((rngI p).map fun y => ((rngI p).filter fun z => decide (((a + 0 * y) + 0 * z) % (p : Int) = 0)).length).sum = 0 := by
    rw [sum_const (k := 0) fun y _ => ?_, Nat.mul_zero]
    have : (rngI p).filter (fun z => decide (((a + 0 * y) + 0 * z) % (p : Int) = 0)) = [] := List.filter_eq_nil_iff.mpr fun z _ => by simpa using ha
    rw [this]
    rfl
  rw [pts_count, e1, e2, if_pos (Int.zero_emod _), rngI_len]
  omega
/-- a line has p + 1 points -/
theorem line_count {p : Nat} {a b c : Int} (hp : IsPi (p : Int)) (ha : 0 ≤ a ∧ a < p) (hb : 0 ≤ b ∧ b < p) (hc : 0 ≤ c ∧ c < p) (hne : ¬ (a = 0 ∧ b = 0 ∧ c = 0)) : ((pts p).filter (onB p a b c)).length = p + 1 := by
  have hp1 : 1 < p := by have := hp.1; omega
  by_cases h1 : c = 0
  · subst h1
    by_cases h2 : b = 0
    · subst h2
      have h3 : a ≠ 0 := fun z => hne ⟨z, rfl, rfl⟩
      obtain ⟨u, hu⟩ := inv_has hp (show 0 < a by omega) ha.2
      exact cnt_a hp1 hu
    · obtain ⟨u, hu⟩ := inv_has hp (show 0 < b by omega) hb.2
      exact cnt_b hp1 hu
  · obtain ⟨u, hu⟩ := inv_has hp (show 0 < c by omega) hc.2
    exact cnt_c hp1 hu
end K75
set_option Elab.async false
set_option linter.all false
set_option maxRecDepth 100000
set_option maxHeartbeats 4000000
namespace K75
open PySem PySem.Spec PyProof.Rows L2
/-! normal rows are points -/
theorem pts_1 {p : Nat} {y z : Int} (hy : 0 ≤ y ∧ y < p) (hz : 0 ≤ z ∧ z < p) : [1, y, z] ∈ pts p :=
  List.mem_append_right _ (List.mem_flatMap.mpr ⟨y, rngI_mem.mpr hy, List.mem_map.mpr ⟨z, rngI_mem.mpr hz, rfl⟩⟩)
theorem pts_2 {p : Nat} {z : Int} (hz : 0 ≤ z ∧ z < p) : [0, 1, z] ∈ pts p := List.mem_append_left _ (List.mem_append_right _ (List.mem_map.mpr ⟨z, rngI_mem.mpr hz, rfl⟩))
theorem pts_3 {p : Nat} : [0, 0, 1] ∈ pts p := List.mem_append_left _ (List.mem_append_left _ List.mem_cons_self)
/-- what a normal row is made of, p prime -/
theorem nZ_pts {p : Nat} {x y z : Int} {ys : List Int} (hp : IsPi (p : Int)) (h : nZ p [x, y, z] = some ys) : ys ∈ pts p := by
  have hp1 := hp.1
  have hp0 : (0 : Int) < p := by omega
  have hpn : 0 < p := by omega
  unfold nZ at h
  have er : rowZ p [x, y, z] = [x % p, y % p, z % p] := by unfold rowZ; simp only [List.map_cons, List.map_nil, if_pos hp0]
  rw [er] at h
  have bx := Int.emod_nonneg x (show (p : Int) ≠ 0 by omega)
  have by' := Int.emod_nonneg y (show (p : Int) ≠ 0 by omega)
  have bz := Int.emod_nonneg z (show (p : Int) ≠ 0 by omega)
  have cx := Int.emod_lt_of_pos x hp0
  have cy := Int.emod_lt_of_pos y hp0
  have cz := Int.emod_lt_of_pos z hp0
  generalize x % (p : Int) = a at *
  generalize y % (p : Int) = b at *
  generalize z % (p : Int) = c at *
  have md : ∀ v : Int, 0 ≤ v % (p : Int) ∧ v % (p : Int) < p := fun v => ⟨Int.emod_nonneg v (by omega), Int.emod_lt_of_pos v hp0⟩
  have io : ∀ g : Int, 0 < g → g < p → g * inv p g % p = 1 := fun g h0 h1 => by
    obtain ⟨u, hu⟩ := inv_has hp h0 h1
    rw [Int.mul_comm]
    exact inv_ok hp0 hu
  by_cases ha : a = 0
  · subst ha
    by_cases hb : b = 0
    · subst hb
      by_cases hc : c = 0
      · subst hc
        simp [nzI] at h
      · simp [nzI, hc, hpn] at h
        rw [← h, io c (by omega) cz]
        simpa using pts_3
    · simp [nzI, hb, hpn] at h
      rw [← h, io b (by omega) cy]
      simpa using pts_2 (md _)
  · simp [nzI, ha, hpn] at h
    rw [← h, io a (by omega) cx]
    exact pts_1 (md _) (md _)
end K75
set_option Elab.async false
set_option linter.all false
set_option maxRecDepth 100000
set_option maxHeartbeats 4000000
namespace K75
/-! plain: two triples and their cross product, modulo p -/
theorem mz {p x : Int} : x % p = 0 ↔ ∃ k, x = p * k := ⟨fun h => Int.dvd_of_emod_eq_zero h, fun ⟨k, h⟩ => Int.emod_eq_zero_of_dvd ⟨k, h⟩⟩
theorem m1 {p u x : Int} (h : u * x % p = 1) : ∃ k, u * x = 1 + p * k := ⟨u * x / p, by have := Int.emod_add_mul_ediv (u * x) p; omega⟩
theorem mo_eq {p a b : Int} : a % p = b % p ↔ ∃ k, a - b = p * k := by
  rw [Int.emod_eq_emod_iff_emod_sub_eq_zero]
  exact mz
/-- units -/
theorem un_mul {p u x v y : Int} (hp : 1 < p) (h : u * x % p = 1) (k : v * y % p = 1) : x * y % p ≠ 0 := fun z => by
  obtain ⟨a, ha⟩ := m1 h
  obtain ⟨b, hb⟩ := m1 k
  obtain ⟨c, hc⟩ := mz.mp z
  have : 1 = p * (u * v * c - a - b - p * a * b) := by grind
  have h2 : (1 : Int) % p = 0 := Int.emod_eq_zero_of_dvd ⟨_, this⟩
  rw [Int.emod_eq_of_lt (by decide) hp] at h2
  cases h2
section
variable {p x1 y1 z1 x2 y2 z2 u1 u2 : Int}
theorem c11 (h1 : u1 * x1 % p = 1) (h2 : u2 * x2 % p = 1) : ((y1 * z2 - z1 * y2) % p = 0 ∧ (z1 * x2 - x1 * z2) % p = 0 ∧ (x1 * y2 - y1 * x2) % p = 0) ↔ y1 * u1 % p = y2 * u2 % p ∧ z1 * u1 % p = z2 * u2 % p := by
  obtain ⟨a, ha⟩ := m1 h1
  obtain ⟨b, hb⟩ := m1 h2
  rw [mo_eq, mo_eq, mz, mz, mz]
  constructor
  · rintro ⟨⟨c, hc⟩, ⟨d, hd⟩, ⟨e, he⟩⟩
    exact ⟨⟨-(u1 * u2 * e) + u2 * y2 * a - u1 * y1 * b, by grind⟩, ⟨u1 * u2 * d + u2 * z2 * a - u1 * z1 * b, by grind⟩⟩
  · rintro ⟨⟨c, hc⟩, ⟨d, hd⟩⟩
    refine ⟨?_, ?_, ?_⟩
    · refine ⟨x1 * x2 * (c * u2 * z2 - d * u2 * y2) - (y1 * z2 - z1 * y2) * (a + b + p * a * b), ?_⟩
      grind
    · refine ⟨x1 * x2 * d + x1 * z2 * b - z1 * x2 * a, ?_⟩
      grind
    · refine ⟨-(x1 * x2 * c) + y1 * x2 * a - x1 * y2 * b, ?_⟩
      grind
theorem c12 (hp : 1 < p) (h1 : u1 * x1 % p = 1) (h2 : x2 % p = 0) (h3 : u2 * y2 % p = 1) : ¬ (x1 * y2 - y1 * x2) % p = 0 := fun h => by
  refine un_mul hp h1 h3 (mz.mpr ?_)
  obtain ⟨a, ha⟩ := mz.mp h2
  obtain ⟨b, hb⟩ := mz.mp h
  exact ⟨b + y1 * a, by grind⟩
theorem c13 (hp : 1 < p) (h1 : u1 * x1 % p = 1) (h2 : x2 % p = 0) (h3 : u2 * z2 % p = 1) : ¬ (z1 * x2 - x1 * z2) % p = 0 := fun h => by
  refine un_mul hp h1 h3 (mz.mpr ?_)
  obtain ⟨a, ha⟩ := mz.mp h2
  obtain ⟨b, hb⟩ := mz.mp h
  exact ⟨z1 * a - b, by grind⟩
theorem c22 (hx1 : x1 % p = 0) (hx2 : x2 % p = 0) (h1 : u1 * y1 % p = 1) (h2 : u2 * y2 % p = 1) : ((y1 * z2 - z1 * y2) % p = 0 ∧ (z1 * x2 - x1 * z2) % p = 0 ∧ (x1 * y2 - y1 * x2) % p = 0) ↔ z1 * u1 % p = z2 * u2 % p := by
  obtain ⟨a, ha⟩ := m1 h1
  obtain ⟨b, hb⟩ := m1 h2
  obtain ⟨c, hc⟩ := mz.mp hx1
  obtain ⟨d, hd⟩ := mz.mp hx2
  rw [mo_eq, mz, mz, mz]
  constructor
  · rintro ⟨⟨e, he⟩, _⟩
    exact ⟨-(u1 * u2 * e) + u2 * z2 * a - u1 * z1 * b, by grind⟩
  · rintro ⟨e, he⟩
    exact ⟨⟨-(y1 * y2 * e) - y1 * z2 * b + z1 * y2 * a, by grind⟩, ⟨z1 * d - c * z2, by grind⟩, ⟨c * y2 - y1 * d, by grind⟩⟩
theorem c23 (hp : 1 < p) (h1 : u1 * y1 % p = 1) (h2 : y2 % p = 0) (h3 : u2 * z2 % p = 1) : ¬ (y1 * z2 - z1 * y2) % p = 0 := fun h => by
  refine un_mul hp h1 h3 (mz.mpr ?_)
  obtain ⟨a, ha⟩ := mz.mp h2
  obtain ⟨b, hb⟩ := mz.mp h
  exact ⟨b + z1 * a, by grind⟩
theorem c33 (h1 : x1 % p = 0) (h2 : x2 % p = 0) (h3 : y1 % p = 0) (h4 : y2 % p = 0) : ((y1 * z2 - z1 * y2) % p = 0 ∧ (z1 * x2 - x1 * z2) % p = 0 ∧ (x1 * y2 - y1 * x2) % p = 0) := by
  obtain ⟨a, ha⟩ := mz.mp h1
  obtain ⟨b, hb⟩ := mz.mp h2
  obtain ⟨c, hc⟩ := mz.mp h3
  obtain ⟨d, hd⟩ := mz.mp h4
  exact ⟨mz.mpr ⟨c * z2 - z1 * d, by grind⟩, mz.mpr ⟨z1 * b - a * z2, by grind⟩, mz.mpr ⟨a * y2 - y1 * b, by grind⟩⟩
end
/-- the same the other way round -/
theorem crs_sym {p x1 y1 z1 x2 y2 z2 : Int} : ((y1 * z2 - z1 * y2) % p = 0 ∧ (z1 * x2 - x1 * z2) % p = 0 ∧ (x1 * y2 - y1 * x2) % p = 0) ↔ ((y2 * z1 - z2 * y1) % p = 0 ∧ (z2 * x1 - x2 * z1) % p = 0 ∧ (x2 * y1 - y2 * x1) % p = 0) := by
  have key : ∀ a b : Int, a = -b → (a % p = 0 ↔ b % p = 0) := fun a b h => by
    rw [mz, mz]
    exact ⟨fun ⟨k, e⟩ => ⟨-k, by grind⟩, fun ⟨k, e⟩ => ⟨-k, by grind⟩⟩
  rw [key (y1 * z2 - z1 * y2) (y2 * z1 - z2 * y1) (by grind), key (z1 * x2 - x1 * z2) (z2 * x1 - x2 * z1) (by grind), key (x1 * y2 - y1 * x2) (x2 * y1 - y2 * x1) (by grind)]
/-- what a normal form modulo a prime is, plainly -/
inductive NF (p x y z : Int) : Option (List Int) → Prop
  | a (u : Int) (h : u * x % p = 1) : NF p x y z (some [1, y * u % p, z * u % p])
  | b (u : Int) (hx : x % p = 0) (h : u * y % p = 1) : NF p x y z (some [0, 1, z * u % p])
  | c (u : Int) (hx : x % p = 0) (hy : y % p = 0) (h : u * z % p = 1) : NF p x y z (some [0, 0, 1])
  | n (hx : x % p = 0) (hy : y % p = 0) (hz : z % p = 0) : NF p x y z none
theorem nf_none {p x y z : Int} {o : Option (List Int)} (hp : 1 < p) (h : NF p x y z o) : o = none ↔ x % p = 0 ∧ y % p = 0 ∧ z % p = 0 := by
  have no : ∀ {u v : Int}, u * v % p = 1 → ¬ v % p = 0 := fun h k => by
    rw [Int.mul_emod, k, Int.mul_zero, Int.zero_emod] at h
    cases h
  cases h with
  | a u h => exact ⟨fun z => (by cases z), fun z => absurd z.1 (no h)⟩
  | b u hx h => exact ⟨fun z => (by cases z), fun z => absurd z.2.1 (no h)⟩
  | c u hx hy h => exact ⟨fun z => (by cases z), fun z => absurd z.2.2 (no h)⟩
  | n hx hy hz => exact ⟨fun _ => ⟨hx, hy, hz⟩, fun _ => rfl⟩
theorem nf_cross {p x1 y1 z1 x2 y2 z2 : Int} {o1 o2 : Option (List Int)} (hp : 1 < p) (h1 : NF p x1 y1 z1 o1) (h2 : NF p x2 y2 z2 o2) :
    ((y1 * z2 - z1 * y2) % p = 0 ∧ (z1 * x2 - x1 * z2) % p = 0 ∧ (x1 * y2 - y1 * x2) % p = 0) ↔ o1 = none ∨ o2 = none ∨ o1 = o2 := by
  have zer : ∀ {x1 y1 z1 x2 y2 z2 : Int}, x1 % p = 0 → y1 % p = 0 → z1 % p = 0 → ((y1 * z2 - z1 * y2) % p = 0 ∧ (z1 * x2 - x1 * z2) % p = 0 ∧ (x1 * y2 - y1 * x2) % p = 0) := fun {x1 y1 z1 x2 y2 z2} hx hy hz => by
    obtain ⟨a, ha⟩ := mz.mp hx
    obtain ⟨b, hb⟩ := mz.mp hy
    obtain ⟨c, hc⟩ := mz.mp hz
    exact ⟨mz.mpr ⟨b * z2 - c * y2, by grind⟩, mz.mpr ⟨c * x2 - a * z2, by grind⟩, mz.mpr ⟨a * y2 - b * x2, by grind⟩⟩
  cases h1 with
  | n hx hy hz => exact ⟨fun _ => .inl rfl, fun _ => zer hx hy hz⟩
  | a u h =>
    cases h2 with
    | n hx hy hz => exact ⟨fun _ => .inr (.inl rfl), fun _ => crs_sym.mp (zer hx hy hz)⟩
    | a u' h' => rw [c11 h h']; simp
    | b u' hx' h' => exact ⟨fun z => absurd z.2.2 (c12 hp h hx' h'), fun z => by simp at z⟩
    | c u' hx' hy' h' => exact ⟨fun z => absurd z.2.1 (c13 hp h hx' h'), fun z => by simp at z⟩
  | b u hx h =>
    cases h2 with
    | n hx hy hz => exact ⟨fun _ => .inr (.inl rfl), fun _ => crs_sym.mp (zer hx hy hz)⟩
    | a u' h' => exact ⟨fun z => absurd (crs_sym.mp z).2.2 (c12 hp h' hx h), fun z => by simp at z⟩
    | b u' hx' h' => rw [c22 hx hx' h h']; simp
    | c u' hx' hy' h' => exact ⟨fun z => absurd z.1 (c23 hp h hy' h'), fun z => by simp at z⟩
  | c u hx hy h =>
    cases h2 with
    | n hx hy hz => exact ⟨fun _ => .inr (.inl rfl), fun _ => crs_sym.mp (zer hx hy hz)⟩
    | a u' h' => exact ⟨fun z => absurd (crs_sym.mp z).2.1 (c13 hp h' hx h), fun z => by simp at z⟩
    | b u' hx' h' => exact ⟨fun z => absurd (crs_sym.mp z).1 (c23 hp h' hy h), fun z => by simp at z⟩
    | c u' hx' hy' h' => exact ⟨fun _ => .inr (.inr rfl), fun _ => c33 hx hx' hy hy'⟩
/-- every normal form is a multiple -/
theorem nf_mul {p x y z : Int} {ys : List Int} (hp : 1 < p) (h : NF p x y z (some ys)) : ∃ u a b c, ys = [a, b, c] ∧ (∃ k, a - x * u = p * k) ∧ (∃ k, b - y * u = p * k) ∧ ∃ k, c - z * u = p * k := by
  have md : ∀ a : Int, ∃ k, a % p - a = p * k := fun a => ⟨-(a / p), by
    have := Int.emod_add_mul_ediv a p
    rw [Int.mul_neg]; omega⟩
  cases h with
  | a u h =>
    obtain ⟨k, hk⟩ := m1 h
    exact ⟨u, _, _, _, rfl, ⟨-k, by grind⟩, md _, md _⟩
  | b u hx h =>
    obtain ⟨k, hk⟩ := m1 h
    obtain ⟨l, hl⟩ := mz.mp hx
    exact ⟨u, _, _, _, rfl, ⟨-(l * u), by grind⟩, ⟨-k, by grind⟩, md _⟩
  | c u hx hy h =>
    obtain ⟨k, hk⟩ := m1 h
    obtain ⟨l, hl⟩ := mz.mp hx
    obtain ⟨m, hm⟩ := mz.mp hy
    exact ⟨u, _, _, _, rfl, ⟨-(l * u), by grind⟩, ⟨-(m * u), by grind⟩, ⟨-k, by grind⟩⟩
/-- a point whose dot with the line vanishes lies on it, in the normal forms too -/
theorem nf_on {p x y z a b c : Int} {xs as : List Int} (hp : 1 < p) (h : NF p x y z (some xs)) (k : NF p a b c (some as)) (hd : a * x + b * y + c * z = 0) : ∃ x' y' z' a' b' c', xs = [x', y', z'] ∧ as = [a', b', c'] ∧ (a' * x' + b' * y' + c' * z') % p = 0 := by
  obtain ⟨u, x', y', z', e1, ⟨k1, h1⟩, ⟨k2, h2⟩, ⟨k3, h3⟩⟩ := nf_mul hp h
  obtain ⟨v, a', b', c', e2, ⟨l1, g1⟩, ⟨l2, g2⟩, ⟨l3, g3⟩⟩ := nf_mul hp k
  refine ⟨x', y', z', a', b', c', e1, e2, mz.mpr ⟨a' * k1 + l1 * (x * u) + (b' * k2 + l2 * (y * u)) + (c' * k3 + l3 * (z * u)), ?_⟩⟩
  have e : a' * x' + b' * y' + c' * z' - u * v * (a * x + b * y + c * z) = p * (a' * k1 + l1 * (x * u) + (b' * k2 + l2 * (y * u)) + (c' * k3 + l3 * (z * u))) := by grind
  rw [hd] at e
  grind
end K75
set_option Elab.async false
set_option linter.all false
set_option maxRecDepth 100000
set_option maxHeartbeats 4000000
namespace K75
def Pos3 (X Y Z : Int) : Prop := 0 < X ∨ (X = 0 ∧ 0 < Y) ∨ (X = 0 ∧ Y = 0 ∧ 0 < Z)
/-- a normal form over the fractions -/
inductive NF0 (x y z : Int) : Option (List Int) → Prop
  | s (d X Y Z : Int) (hd : d ≠ 0) (hx : x = d * X) (hy : y = d * Y) (hz : z = d * Z) (hg : Int.gcd (Int.gcd X Y : Int) Z = 1) (hp : Pos3 X Y Z) : NF0 x y z (some [X, Y, Z])
  | n (hx : x = 0) (hy : y = 0) (hz : z = 0) : NF0 x y z none
theorem prim_eq {a b X1 Y1 Z1 X2 Y2 Z2 : Int} (ha : 0 < a) (hb : 0 < b) (h1 : a * X2 = b * X1) (h2 : a * Y2 = b * Y1) (h3 : a * Z2 = b * Z1) (g1 : Int.gcd (Int.gcd X1 Y1 : Int) Z1 = 1) (g2 : Int.gcd (Int.gcd X2 Y2 : Int) Z2 = 1) : X1 = X2 ∧ Y1 = Y2 ∧ Z1 = Z2 := by
  have sc : ∀ (c X Y Z : Int), Int.gcd (Int.gcd (c * X) (c * Y) : Int) (c * Z) = c.natAbs * Int.gcd (Int.gcd X Y : Int) Z := fun c X Y Z => by
    have e1 : Int.gcd (Int.gcd (c * X) (c * Y) : Int) (c * Z) = Nat.gcd (Int.gcd (c * X) (c * Y)) (c * Z).natAbs := rfl
    have e2 : Int.gcd (Int.gcd X Y : Int) Z = Nat.gcd (Int.gcd X Y) Z.natAbs := rfl
    rw [e1, e2, Int.gcd_mul_left, Int.natAbs_mul, Nat.gcd_mul_left]
  have s1 := sc a X2 Y2 Z2
  have s2 := sc b X1 Y1 Z1
  rw [h1, h2, h3, s2, g1, g2] at s1
  have e : b = a := by omega
  subst e
  have can : ∀ {u v : Int}, b * u = b * v → v = u := fun {u v} h => (Int.eq_of_mul_eq_mul_left (by omega) h).symm
  exact ⟨can h1, can h2, can h3⟩
theorem pos_sep {X1 Y1 Z1 X2 Y2 Z2 : Int} (p1 : Pos3 X1 Y1 Z1) (p2 : Pos3 X2 Y2 Z2) (g1 : Int.gcd (Int.gcd X1 Y1 : Int) Z1 = 1) (g2 : Int.gcd (Int.gcd X2 Y2 : Int) Z2 = 1) (hx : Y1 * Z2 - Z1 * Y2 = 0) (hy : Z1 * X2 - X1 * Z2 = 0) (hz : X1 * Y2 - Y1 * X2 = 0) : X1 = X2 ∧ Y1 = Y2 ∧ Z1 = Z2 := by
  have mp : ∀ {a b : Int}, 0 < a → 0 < b → a * b = 0 → False := fun h k z => by
    have := Int.mul_pos h k
    omega
  rcases p1 with a1 | ⟨b1, a1⟩ | ⟨b1, c1, a1⟩
  · rcases p2 with a2 | ⟨b2, a2⟩ | ⟨b2, c2, a2⟩
    · exact prim_eq a1 a2 (by grind) (by grind) (by grind) g1 g2
    · subst b2; exact (mp a1 a2 (by grind)).elim
    · subst b2; exact (mp a1 a2 (by grind)).elim
  · subst b1
    rcases p2 with a2 | ⟨b2, a2⟩ | ⟨b2, c2, a2⟩
    · exact (mp a1 a2 (by grind)).elim
    · subst b2; exact prim_eq a1 a2 (by grind) (by grind) (by grind) g1 g2
    · subst b2 c2; exact (mp a1 a2 (by grind)).elim
  · subst b1 c1
    rcases p2 with a2 | ⟨b2, a2⟩ | ⟨b2, c2, a2⟩
    · exact (mp a1 a2 (by grind)).elim
    · exact (mp a1 a2 (by grind)).elim
    · subst b2 c2; exact prim_eq a1 a2 (by grind) (by grind) (by grind) g1 g2
theorem pos_ne {d X Y Z : Int} (hd : d ≠ 0) (p : Pos3 X Y Z) (hx : d * X = 0) (hy : d * Y = 0) (hz : d * Z = 0) : False := by
  have c : ∀ {u : Int}, d * u = 0 → u = 0 := fun {u} h => (Int.mul_eq_zero.mp h).resolve_left hd
  have a := c hx
  have b := c hy
  have e := c hz
  rcases p with h | h | h <;> omega
theorem nf0_none {x y z : Int} {o : Option (List Int)} (h : NF0 x y z o) : o = none ↔ x = 0 ∧ y = 0 ∧ z = 0 := by
  cases h with
  | s d X Y Z hd hx hy hz hg hp => exact ⟨fun z => (by cases z), fun ⟨a, b, c⟩ => (pos_ne hd hp (by omega) (by omega) (by omega)).elim⟩
  | n hx hy hz => exact ⟨fun _ => ⟨hx, hy, hz⟩, fun _ => rfl⟩
theorem nf0_cross {x1 y1 z1 x2 y2 z2 : Int} {o1 o2 : Option (List Int)} (h1 : NF0 x1 y1 z1 o1) (h2 : NF0 x2 y2 z2 o2) :
    (y1 * z2 - z1 * y2 = 0 ∧ z1 * x2 - x1 * z2 = 0 ∧ x1 * y2 - y1 * x2 = 0) ↔ o1 = none ∨ o2 = none ∨ o1 = o2 := by
  cases h1 with
  | n hx hy hz => subst hx hy hz; exact ⟨fun _ => .inl rfl, fun _ => ⟨by simp, by simp, by simp⟩⟩
  | s d X Y Z hd hx hy hz hg hp =>
    cases h2 with
    | n hx' hy' hz' => subst hx' hy' hz'; exact ⟨fun _ => .inr (.inl rfl), fun _ => ⟨by simp, by simp, by simp⟩⟩
    | s d' X' Y' Z' hd' hx' hy' hz' hg' hp' =>
      subst hx hy hz hx' hy' hz'
      have hdd : d * d' ≠ 0 := fun z => (Int.mul_eq_zero.mp z).elim hd hd'
      have can : ∀ {u : Int}, d * d' * u = 0 → u = 0 := fun {u} h => (Int.mul_eq_zero.mp h).resolve_left hdd
      constructor
      · rintro ⟨a, b, c⟩
        obtain ⟨e1, e2, e3⟩ := pos_sep hp hp' hg hg' (can (by grind)) (can (by grind)) (can (by grind))
        subst e1 e2 e3
        exact .inr (.inr rfl)
      · rintro (h | h | h)
        · cases h
        · cases h
        · simp only [Option.some.injEq, List.cons.injEq, and_true] at h
          obtain ⟨rfl, rfl, rfl⟩ := h
          exact ⟨by grind, by grind, by grind⟩
end K75
set_option Elab.async false
set_option linter.all false
set_option maxRecDepth 100000
set_option maxHeartbeats 4000000
namespace K75
theorem gcd3_dvd (x y z : Int) : (Int.gcd (Int.gcd x y : Int) z : Int) ∣ x ∧ (Int.gcd (Int.gcd x y : Int) z : Int) ∣ y ∧ (Int.gcd (Int.gcd x y : Int) z : Int) ∣ z := by
  have h1 : (Int.gcd (Int.gcd x y : Int) z : Int) ∣ (Int.gcd x y : Int) := Int.gcd_dvd_left _ _
  exact ⟨Int.dvd_trans h1 (Int.gcd_dvd_left _ _), Int.dvd_trans h1 (Int.gcd_dvd_right _ _), Int.gcd_dvd_right _ _⟩
theorem nf0_mk {x y z h : Int} (hh : (h = x ∧ x ≠ 0) ∨ (x = 0 ∧ h = y ∧ y ≠ 0) ∨ (x = 0 ∧ y = 0 ∧ h = z ∧ z ≠ 0)) {d : Int} (hd : d = if h < 0 then -(Int.gcd (Int.gcd x y : Int) z : Int) else (Int.gcd (Int.gcd x y : Int) z : Int)) :
    NF0 x y z (some [x.fdiv d, y.fdiv d, z.fdiv d]) := by
  have h0 : h ≠ 0 := by rcases hh with h | h | h <;> omega
  obtain ⟨⟨X, hX⟩, ⟨Y, hY⟩, ⟨Z, hZ⟩⟩ := gcd3_dvd x y z
  have hg0 : Int.gcd (Int.gcd x y : Int) z ≠ 0 := fun q => by
    rw [q] at hX hY hZ
    simp at hX hY hZ
    rcases hh with h | h | h <;> omega
  obtain ⟨s, hs, hsg⟩ : ∃ s : Int, (s = 1 ∧ 0 < h ∨ s = -1 ∧ h < 0) ∧ d = s * (Int.gcd (Int.gcd x y : Int) z : Int) := by
    by_cases hn : h < 0
    · exact ⟨-1, .inr ⟨rfl, hn⟩, by rw [hd, if_pos hn]; omega⟩
    · exact ⟨1, .inl ⟨rfl, by omega⟩, by rw [hd, if_neg hn]; omega⟩
  have hss : s * s = 1 := by rcases hs with ⟨rfl, _⟩ | ⟨rfl, _⟩ <;> rfl
  have hsn : s.natAbs = 1 := by rcases hs with ⟨rfl, _⟩ | ⟨rfl, _⟩ <;> rfl
  have hd0 : d ≠ 0 := by rw [hsg]; rcases hs with ⟨rfl, _⟩ | ⟨rfl, _⟩ <;> omega
  generalize hG : Int.gcd (Int.gcd x y : Int) z = G at *
  have eX : x = d * (s * X) := by rw [hsg]; grind
  have eY : y = d * (s * Y) := by rw [hsg]; grind
  have eZ : z = d * (s * Z) := by rw [hsg]; grind
  have fd : ∀ {u v : Int}, u = d * v → u.fdiv d = v := fun {u v} e => by rw [e]; exact Int.mul_fdiv_cancel_left _ hd0
  rw [fd eX, fd eY, fd eZ]
  refine .s d _ _ _ hd0 eX eY eZ ?_ ?_
  · have sc : ∀ (c X Y Z : Int), Int.gcd (Int.gcd (c * X) (c * Y) : Int) (c * Z) = c.natAbs * Int.gcd (Int.gcd X Y : Int) Z := fun c X Y Z => by
      have e1 : Int.gcd (Int.gcd (c * X) (c * Y) : Int) (c * Z) = Nat.gcd (Int.gcd (c * X) (c * Y)) (c * Z).natAbs := rfl
      have e2 : Int.gcd (Int.gcd X Y : Int) Z = Nat.gcd (Int.gcd X Y) Z.natAbs := rfl
      rw [e1, e2, Int.gcd_mul_left, Int.natAbs_mul, Nat.gcd_mul_left]
    have q := sc d (s * X) (s * Y) (s * Z)
    rw [← eX, ← eY, ← eZ, hG, hsg, Int.natAbs_mul, hsn, Nat.one_mul, Int.natAbs_natCast] at q
    exact (Nat.eq_of_mul_eq_mul_left (by omega : 0 < G) (by omega)).symm
  · have pos : ∀ {v : Int}, h = d * v → 0 < v := fun {v} e => by
      rcases hs with ⟨rfl, hp⟩ | ⟨rfl, hn⟩
      · have hdp : 0 < d := by omega
        by_cases hv : 0 < v
        · exact hv
        · have := Int.mul_le_mul_of_nonneg_left (show v ≤ 0 by omega) (show 0 ≤ d by omega)
          omega
      · have hdn : 0 < -d := by omega
        by_cases hv : 0 < v
        · exact hv
        · have := Int.mul_le_mul_of_nonneg_left (show v ≤ 0 by omega) (show 0 ≤ -d by omega)
          rw [Int.neg_mul] at this
          omega
    have zer : ∀ {u v : Int}, u = d * v → u = 0 → v = 0 := fun {u v} e z => (Int.mul_eq_zero.mp (by rw [← e, z])).resolve_left hd0
    rcases hh with ⟨rfl, _⟩ | ⟨hx, rfl, _⟩ | ⟨hx, hy, rfl, _⟩
    · exact .inl (pos eX)
    · exact .inr (.inl ⟨zer eX hx, pos eY⟩)
    · exact .inr (.inr ⟨zer eX hx, zer eY hy, pos eZ⟩)
end K75
set_option Elab.async false
set_option linter.all false
set_option maxRecDepth 100000
set_option maxHeartbeats 4000000
namespace K75
open PySem PySem.Spec PyProof.Rows L2
/-! the law's normal forms are the plain ones -/
theorem nf_of {p : Nat} {x y z : Int} (hp : IsPi (p : Int)) : NF p x y z (nZ p [x, y, z]) := by
  have hp1 := hp.1
  have hp0 : (0 : Int) < p := by omega
  have hpn : 0 < p := by omega
  have er : rowZ p [x, y, z] = [x % p, y % p, z % p] := by unfold rowZ; simp only [List.map_cons, List.map_nil, if_pos hp0]
  unfold nZ
  rw [er]
  have io : ∀ x : Int, x % (p : Int) ≠ 0 → inv p (x % p) * x % p = 1 ∧ x % p * inv p (x % p) % p = 1 := fun x h => by
    have h0 := Int.emod_nonneg x (show (p : Int) ≠ 0 by omega)
    obtain ⟨u, hu⟩ := inv_has hp (show 0 < x % (p : Int) by omega) (Int.emod_lt_of_pos x hp0)
    have q := inv_ok hp0 hu
    refine ⟨?_, by rw [Int.mul_comm]; exact q⟩
    have e : ∀ a : Int, a * (x % (p : Int)) % p = a * x % p := fun a => by rw [Int.mul_emod, Int.emod_emod, ← Int.mul_emod]
    rw [e] at q
    exact q
  have mm : ∀ a u : Int, a % (p : Int) * u % p = a * u % p := fun a u => by rw [Int.mul_emod, Int.emod_emod, ← Int.mul_emod]
  by_cases ha : x % (p : Int) = 0
  · by_cases hb : y % (p : Int) = 0
    · by_cases hc : z % (p : Int) = 0
      · have e : ([x % (p : Int), y % p, z % p].filter nzI) = [] := by simp [nzI, ha, hb, hc]
        rw [e]
        exact .n ha hb hc
      · have e : ([x % (p : Int), y % p, z % p].filter nzI) = [z % p] := by simp [nzI, ha, hb, hc]
        rw [e]
        show NF p x y z (if (0 : Int) < p then some [x % p * inv p (z % p) % p, y % p * inv p (z % p) % p, z % p * inv p (z % p) % p] else _)
        rw [if_pos hp0, (io z hc).2, ha, hb, Int.zero_mul, Int.zero_emod]
        exact .c _ ha hb (io z hc).1
    · have e : ([x % (p : Int), y % p, z % p].filter nzI) = y % p :: [z % p].filter nzI := by simp [nzI, ha, hb]
      rw [e]
      show NF p x y z (if (0 : Int) < p then some [x % p * inv p (y % p) % p, y % p * inv p (y % p) % p, z % p * inv p (y % p) % p] else _)
      rw [if_pos hp0, (io y hb).2, ha, Int.zero_mul, Int.zero_emod, mm]
      exact .b _ ha (io y hb).1
  · have e : ([x % (p : Int), y % p, z % p].filter nzI) = x % p :: [y % p, z % p].filter nzI := by simp [nzI, ha]
    rw [e]
    show NF p x y z (if (0 : Int) < p then some [x % p * inv p (x % p) % p, y % p * inv p (x % p) % p, z % p * inv p (x % p) % p] else _)
    rw [if_pos hp0, (io x ha).2, mm, mm]
    exact .a _ (io x ha).1
theorem nf0_of {x y z : Int} : NF0 x y z (nZ 0 [x, y, z]) := by
  have er : rowZ 0 [x, y, z] = [x, y, z] := rfl
  unfold nZ
  rw [er]
  by_cases ha : x = 0
  · by_cases hb : y = 0
    · by_cases hc : z = 0
      · have e : ([x, y, z].filter nzI) = [] := by simp [nzI, ha, hb, hc]
        rw [e]
        exact .n ha hb hc
      · have e : ([x, y, z].filter nzI) = [z] := by simp [nzI, ha, hb, hc]
        rw [e]
        exact nf0_mk (h := z) (.inr (.inr ⟨ha, hb, rfl, hc⟩)) rfl
    · have e : ([x, y, z].filter nzI) = y :: [z].filter nzI := by simp [nzI, ha, hb]
      rw [e]
      exact nf0_mk (h := y) (.inr (.inl ⟨ha, rfl, hb⟩)) rfl
  · have e : ([x, y, z].filter nzI) = x :: [y, z].filter nzI := by simp [nzI, ha]
    rw [e]
    exact nf0_mk (h := x) (.inl ⟨rfl, ha⟩) rfl
/-- 0 in the characteristic p -/
def z0 (p x : Int) : Prop := md p x = 0
theorem md_pos {p x : Int} (h : 0 < p) : md p x = x % p := by unfold md; rw [if_neg (by omega)]
theorem md_zero {x : Int} : md 0 x = x := rfl
/-- both kinds -/
theorem nz_none {p x y z : Int} (hp : p = 0 ∨ IsPi p) : nZ p [x, y, z] = none ↔ z0 p x ∧ z0 p y ∧ z0 p z := by
  rcases hp with rfl | hp
  · exact nf0_none nf0_of
  · have h2 := hp.1
    obtain ⟨q, rfl⟩ : ∃ q : Nat, p = q := ⟨p.toNat, by omega⟩
    unfold z0
    rw [md_pos (by omega), md_pos (by omega), md_pos (by omega)]
    exact nf_none (by omega) (nf_of hp)
theorem nz_cross {p x1 y1 z1 x2 y2 z2 : Int} (hp : p = 0 ∨ IsPi p) : nZ p [y1 * z2 - z1 * y2, z1 * x2 - x1 * z2, x1 * y2 - y1 * x2] = none ↔ nZ p [x1, y1, z1] = none ∨ nZ p [x2, y2, z2] = none ∨ nZ p [x1, y1, z1] = nZ p [x2, y2, z2] := by
  rw [nz_none hp]
  rcases hp with rfl | hp
  · exact nf0_cross nf0_of nf0_of
  · have h2 := hp.1
    obtain ⟨q, rfl⟩ : ∃ q : Nat, p = q := ⟨p.toNat, by omega⟩
    unfold z0
    rw [md_pos (by omega), md_pos (by omega), md_pos (by omega)]
    exact nf_cross (by omega) (nf_of hp) (nf_of hp)
theorem nz_md {p x y z : Int} (hp : p = 0 ∨ IsPi p) : nZ p [md p x, md p y, md p z] = nZ p [x, y, z] := by
  rcases hp with rfl | hp
  · rfl
  · have h2 := hp.1
    have e : rowZ p [md p x, md p y, md p z] = rowZ p [x, y, z] := by
      unfold rowZ
      simp only [List.map_cons, List.map_nil, if_pos (show 0 < p by omega), md_pos (show 0 < p by omega), Int.emod_emod]
    unfold nZ
    rw [e]
/-- a normal row is on the line's normal row -/
theorem nz_on {p : Nat} {x y z a b c : Int} {xs as : List Int} (hp : IsPi (p : Int)) (h : nZ p [x, y, z] = some xs) (k : nZ p [a, b, c] = some as) (hd : a * x + b * y + c * z = 0) :
    ∃ a' b' c', as = [a', b', c'] ∧ xs ∈ (pts p).filter (onB p a' b' c') ∧ ((pts p).filter (onB p a' b' c')).length = p + 1 ∧ (0 ≤ a' ∧ a' < p) ∧ (0 ≤ b' ∧ b' < p) ∧ (0 ≤ c' ∧ c' < p) := by
  have h2 := hp.1
  have n1 := nf_of (x := x) (y := y) (z := z) hp
  have n2 := nf_of (x := a) (y := b) (z := c) hp
  rw [h] at n1
  rw [k] at n2
  obtain ⟨x', y', z', a', b', c', rfl, rfl, e⟩ := nf_on (by omega) n1 n2 hd
  have md : ∀ v : Int, 0 ≤ v % (p : Int) ∧ v % (p : Int) < p := fun v => ⟨Int.emod_nonneg v (by omega), Int.emod_lt_of_pos v (by omega)⟩
  have hz : ((0 : Int) ≤ 0 ∧ (0 : Int) < p) := ⟨by omega, by omega⟩
  have ho : ((0 : Int) ≤ 1 ∧ (1 : Int) < p) := ⟨by omega, by omega⟩
  have rg : (0 ≤ a' ∧ a' < (p : Int)) ∧ (0 ≤ b' ∧ b' < (p : Int)) ∧ (0 ≤ c' ∧ c' < (p : Int)) ∧ ¬ (a' = 0 ∧ b' = 0 ∧ c' = 0) := by
    cases n2 with
    | a u h => exact ⟨ho, md _, md _, fun z => by omega⟩
    | b u hx h => exact ⟨hz, ho, md _, fun z => by omega⟩
    | c u hx hy h => exact ⟨hz, hz, ho, fun z => by omega⟩
  refine ⟨a', b', c', rfl, List.mem_filter.mpr ⟨nZ_pts hp h, decide_eq_true e⟩, line_count hp rg.1 rg.2.1 rg.2.2.1 rg.2.2.2, rg.1, rg.2.1, rg.2.2.1⟩
end K75
set_option Elab.async false
set_option linter.all false
set_option maxRecDepth 100000
set_option maxHeartbeats 4000000
namespace K75
open PySem PySem.Spec PyProof.Rows L2
/-! polynomials that are numbers, and the loose lines -/
theorem pr_num {c : Int} {φ : List Key → Int} : pr (numL c) φ = c * φ [] := by
  unfold numL
  by_cases h : c = 0
  · rw [if_pos h, pr_nil, h, Int.zero_mul]
  · rw [if_neg h, pr_cons, pr_nil, Int.add_zero]
theorem pr_ukL {s : Str} {φ : List Key → Int} : pr (ukL s) φ = φ [.inr s] := by
  unfold ukL
  rw [pr_cons, pr_nil, Int.one_mul, Int.add_zero]
theorem gm_num {n : Nat} {L : Tm} (h : GM n 0 L) : L = numL (pr L fun _ => 1) := by
  match L, h with
  | [], _ => rfl
  | [p], h =>
    have h1 : p.1 = [] := List.length_eq_zero_iff.mp (Nat.le_zero.mp (h.dg p List.mem_cons_self))
    have h2 := h.nr.nz p List.mem_cons_self
    rw [pr_cons, pr_nil]
    unfold numL
    rw [if_neg (by omega), Int.add_zero, Int.mul_one, ← h1]
  | p :: q :: R, h =>
    exfalso
    have h1 : p.1 = [] := List.length_eq_zero_iff.mp (Nat.le_zero.mp (h.dg p List.mem_cons_self))
    have h2 : q.1 = [] := List.length_eq_zero_iff.mp (Nat.le_zero.mp (h.dg q (List.mem_cons_of_mem _ List.mem_cons_self)))
    have h3 := h.nr.nd
    rw [List.map_cons, List.map_cons, List.nodup_cons, h1, h2] at h3
    exact h3.1 List.mem_cons_self
theorem inva_one : Inva fun _ => 1 := fun _ _ _ => rfl
theorem PP_nn {a b : Int} {φ : List Key → Int} : PP (numL a) (numL b) φ = a * b * φ [] := by
  unfold PP
  rw [pr_num]
  show a * pr (numL b) (fun m => φ m) = _
  rw [pr_num, Int.mul_assoc]
theorem PP_nu {a : Int} {s : Str} {φ : List Key → Int} : PP (numL a) (ukL s) φ = a * φ [.inr s] := by
  unfold PP
  rw [pr_num]
  show a * pr (ukL s) (fun m => φ m) = _
  rw [pr_ukL]
theorem crs_num {x1 y1 z1 x2 y2 z2 : Int} {X Y Z : Tm} {n : Nat} (h : Crs (numL x1) (numL y1) (numL z1) (numL x2) (numL y2) (numL z2) X Y Z) (gX : GM n 0 X) (gY : GM n 0 Y) (gZ : GM n 0 Z) :
    X = numL (y1 * z2 - z1 * y2) ∧ Y = numL (z1 * x2 - x1 * z2) ∧ Z = numL (x1 * y2 - y1 * x2) := by
  have k : ∀ {A B C D : Int}, PP (numL A) (numL B) (fun _ => 1) - PP (numL C) (numL D) (fun _ => 1) = A * B - C * D := fun {A B C D} => by
    rw [PP_nn, PP_nn, Int.mul_one, Int.mul_one]
  exact ⟨(gm_num gX).trans (congrArg numL ((h.x _ inva_one).trans k)), (gm_num gY).trans (congrArg numL ((h.y _ inva_one).trans k)), (gm_num gZ).trans (congrArg numL ((h.z _ inva_one).trans k))⟩
theorem gcdL_num {c : Int} : gcdL (numL c) = (c.natAbs : Int) := by
  unfold numL
  by_cases h : c = 0
  · rw [if_pos h, h]; rfl
  · rw [if_neg h]
    show (Int.gcd 0 c : Int) = _
    rw [Int.gcd_zero_left]
theorem gcdL_uk {s : Str} : gcdL (ukL s) = 1 := by
  show (Int.gcd 0 1 : Int) = 1
  decide
theorem vo_num {c : Int} {kvs : List (Key × V)} (h : c.natAbs < 2 ^ 60) : VO (numL c) kvs c := by
  unfold numL
  by_cases hc : c = 0
  · rw [if_pos hc]
    exact ⟨⟨[], .inl ⟨rfl, rfl⟩⟩, fun p hp => (by cases hp), ⟨fun _ => hc, fun c h => (by cases h), fun x c h => (by cases h)⟩⟩
  · rw [if_neg hc]
    refine ⟨⟨[], .inr ⟨c, rfl, by decide⟩⟩, fun p hp => ?_, ⟨fun h => (by cases h), fun d h => ?_, fun x d h => ?_⟩⟩
    · rw [List.mem_singleton.mp hp]; exact h
    · simpa using h
    · simp at h
theorem sm_uk {s : Str} : Sm (ukL s) [s] := .inr ⟨1, rfl, Nat.le_refl _⟩
theorem uk_cb {s : Str} : ∀ p ∈ ukL s, p.2.natAbs < 2 ^ 60 := fun p hp => by
  rw [List.mem_singleton.mp hp]
  show (1 : Int).natAbs < 2 ^ 60
  decide
theorem vo_uk {s : Str} {kvs : List (Key × V)} {v : Int} (h : valV kvs (.inr s) = some (.int v)) : VO (ukL s) kvs v :=
  ⟨⟨[s], sm_uk⟩, uk_cb, ⟨fun h => (by cases h), fun c h => (by simp at h), fun x c e => (by
    have e1 : ([.inr s] : List Key) = [.inr x] ∧ (1 : Int) = c := by simpa using e
    obtain ⟨e2, rfl⟩ := e1
    have e3 : s = x := Sum.inr.inj (List.cons.inj e2).1
    subst e3
    exact ⟨v, h, by omega⟩)⟩⟩
theorem cf_perm {n d : Nat} {L : Tm} (h : GM n d L) {xs : List Str} (hs : sortedS xs = true) : cf L (xs.map Sum.inr) = pr L fun q => open Classical in if q.Perm (xs.map Sum.inr) then 1 else 0 := by
  rw [cf_pr h.nr.nd]
  unfold pr
  refine congrArg List.sum (List.map_congr_left fun q hq => ?_)
  obtain ⟨ys, ey, hys⟩ := h.sk q hq
  by_cases h1 : q.1 = xs.map Sum.inr
  · exact congrArg (q.2 * ·) ((if_pos h1).trans (if_pos (by rw [h1])).symm)
  · have h2 : ¬ q.1.Perm (xs.map Sum.inr) := fun z => by
      rw [ey] at z
      have e3 := z.map unK
      rw [map_unK, map_unK] at e3
      exact h1 (by rw [ey, sorted_eq hys hs e3])
    simp only [if_neg h1, if_neg h2]
theorem eqT_of {n d n' d' : Nat} {L M : Tm} (h : GM n d L) (k : GM n' d' M) (he : ∀ φ, Inva φ → pr L φ = pr M φ) : EqT L M := fun q => by
  by_cases hq : ∃ xs : List Str, q = xs.map Sum.inr ∧ sortedS xs = true
  · obtain ⟨xs, rfl, hs⟩ := hq
    rw [cf_perm h hs, cf_perm k hs]
    exact he _ fun a b hab => by
      by_cases h1 : a.Perm (xs.map Sum.inr)
      · simp only [if_pos h1, if_pos (hab.symm.trans h1)]
      · simp only [if_neg h1, if_neg fun z => h1 (hab.trans z)]
  · have out : ∀ {N : Tm}, SK N → q ∉ N.map (·.1) := fun hN hm => by
      obtain ⟨p, hp, e⟩ := List.mem_map.mp hm
      obtain ⟨xs, ex, hs⟩ := hN p hp
      exact hq ⟨xs, e ▸ ex, hs⟩
    rw [cf_out (out h.sk), cf_out (out k.sk)]
theorem eqT_num {a b : Int} : EqT (numL a) (numL b) ↔ a = b := ⟨fun h => by have := h []; rwa [cf_num, cf_num] at this, fun h => by rw [h]; exact fun _ => rfl⟩
theorem inva_k {s : Str} : Inva fun q => if q = [.inr s] then 1 else 0 := fun a b h => by
  by_cases h1 : a = [.inr s]
  · have h2 : b = [.inr s] := by
      rw [h1] at h
      exact (List.perm_singleton.mp h.symm)
    simp only [if_pos h1, if_pos h2]
  · have h2 : b ≠ [.inr s] := fun z => h1 (by
      rw [z] at h
      exact List.perm_singleton.mp h)
    simp only [if_neg h1, if_neg h2]
/-- the lines to a loose point are told apart by their points -/
theorem loose_eq {x1 y1 z1 x2 y2 z2 : Int} {bx by' bz : Str} {X Y Z X' Y' Z' : Tm} {n d n' d' : Nat} (hxy : bx ≠ by') (hyz : by' ≠ bz) (hxz : bx ≠ bz)
    (h : Crs (numL x1) (numL y1) (numL z1) (ukL bx) (ukL by') (ukL bz) X Y Z) (h' : Crs (numL x2) (numL y2) (numL z2) (ukL bx) (ukL by') (ukL bz) X' Y' Z')
    (gX : GM n d X) (gY : GM n d Y) (gZ : GM n d Z) (gX' : GM n' d' X') (gY' : GM n' d' Y') (gZ' : GM n' d' Z') : (EqT X X' ∧ EqT Y Y' ∧ EqT Z Z') ↔ x1 = x2 ∧ y1 = y2 ∧ z1 = z2 := by
  constructor
  · rintro ⟨e1, e2, e3⟩
    have k1 := e1 [.inr bz]
    have k2 := e2 [.inr bz]
    have k3 := e3 [.inr bx]
    have j1 := e1 [.inr by']
    have ne : ∀ {s t : Str}, s ≠ t → ¬ (([.inr s] : List Key) = [.inr t]) := fun h z => h (Sum.inr.inj (List.cons.inj z).1)
    have pi : ∀ {A B : Int} {s t u : Str}, PP (numL A) (ukL s) (fun q => if q = [.inr u] then 1 else 0) - PP (numL B) (ukL t) (fun q => if q = [.inr u] then 1 else 0) = A * (if ([.inr s] : List Key) = [.inr u] then 1 else 0) - B * (if ([.inr t] : List Key) = [.inr u] then 1 else 0) := fun {A B s t u} => by
      rw [PP_nu, PP_nu]
    rw [cf_pr gX.nr.nd, cf_pr gX'.nr.nd] at k1 j1
    rw [cf_pr gY.nr.nd, cf_pr gY'.nr.nd] at k2
    have k1' := ((h.x _ inva_k).trans pi).symm.trans (k1.trans ((h'.x _ inva_k).trans pi))
    have j1' := ((h.x _ inva_k).trans pi).symm.trans (j1.trans ((h'.x _ inva_k).trans pi))
    have k2' := ((h.y _ inva_k).trans pi).symm.trans (k2.trans ((h'.y _ inva_k).trans pi))
    rw [if_pos rfl, if_neg (ne hyz)] at k1'
    rw [if_pos rfl, if_neg (ne hyz.symm)] at j1'
    rw [if_pos rfl, if_neg (ne hxz)] at k2'
    exact ⟨by omega, by omega, by omega⟩
  · rintro ⟨rfl, rfl, rfl⟩
    exact ⟨eqT_of gX gX' fun φ hφ => by rw [h.x φ hφ, h'.x φ hφ], eqT_of gY gY' fun φ hφ => by rw [h.y φ hφ, h'.y φ hφ], eqT_of gZ gZ' fun φ hφ => by rw [h.z φ hφ, h'.z φ hφ]⟩
/-- possible, by the coefficients -/
theorem miss_in {a b c : Int} {e : Bool} {ps : List Int} {p : Int} (h : Miss [(a.natAbs : Int), (b.natAbs : Int), (c.natAbs : Int)] e ps) (hp : p = 0 ∨ IsPi p) : inC (!e) ps p = !decide (nZ p [a, b, c] = none) := by
  have ha : ∀ {x : Int}, (x.natAbs : Int) = 0 ↔ x = 0 := by omega
  have hm : ∀ {x q : Int}, (x.natAbs : Int) % q = 0 ↔ x % q = 0 := fun {x q} => by
    rw [← Int.dvd_iff_emod_eq_zero, ← Int.dvd_iff_emod_eq_zero, Int.dvd_natAbs]
  have hz : e = true ↔ a = 0 ∧ b = 0 ∧ c = 0 := by
    rw [h.z]
    constructor
    · intro q
      exact ⟨ha.mp (q _ (by simp)), ha.mp (q _ (by simp)), ha.mp (q _ (by simp))⟩
    · rintro ⟨rfl, rfl, rfl⟩ g hg
      simp at hg
      exact hg
  have hn := nz_none (x := a) (y := b) (z := c) hp
  unfold inC
  rcases hp with rfl | hp
  · rw [if_pos rfl]
    congr 1
    rw [Bool.eq_iff_iff, hz, decide_eq_true_eq, hn]
    rfl
  · have h2 := hp.1
    rw [if_neg (by omega)]
    unfold z0 at hn
    rw [md_pos (by omega), md_pos (by omega), md_pos (by omega)] at hn
    cases e with
    | true =>
      obtain ⟨rfl, rfl, rfl⟩ := hz.mp rfl
      rw [h.no rfl]
      have : nZ p [0, 0, 0] = none := hn.mpr ⟨Int.zero_emod _, Int.zero_emod _, Int.zero_emod _⟩
      rw [this]
      rfl
    | false =>
      have hmem : p ∈ ps ↔ nZ p [a, b, c] = none := by
        rw [h.mem rfl, hn]
        constructor
        · rintro ⟨_, q⟩
          exact ⟨hm.mp (q _ (by simp)), hm.mp (q _ (by simp)), hm.mp (q _ (by simp))⟩
        · rintro ⟨q1, q2, q3⟩
          refine ⟨hp, fun g hg => ?_⟩
          simp at hg
          rcases hg with rfl | rfl | rfl
          · exact hm.mpr q1
          · exact hm.mpr q2
          · exact hm.mpr q3
      by_cases hk : nZ p [a, b, c] = none
      · rw [decide_eq_true hk, decide_eq_true (hmem.mpr hk)]; rfl
      · rw [decide_eq_false hk, decide_eq_false fun z => hk (hmem.mp z)]; rfl
theorem miss_uk {e : Bool} {ps : List Int} (h : Miss [1, 1, 1] e ps) : e = false ∧ ps = [] := by
  have he : e = false := by
    cases e with
    | false => rfl
    | true =>
      have := h.z.mp rfl 1 (by simp)
      cases this
  refine ⟨he, List.eq_nil_iff_forall_not_mem.mpr fun x hx => ?_⟩
  obtain ⟨h1, h2⟩ := (h.mem he x).mp hx
  have h3 := h2 1 (by simp)
  have := h1.1
  rw [Int.emod_eq_of_lt (by decide) (by omega)] at h3
  cases h3
theorem miss_none {gs : List Int} {e : Bool} {ps : List Int} (h : Miss gs e ps) : ((!e) = false ∧ ps = []) ↔ ∀ g ∈ gs, g = 0 := by
  rw [← h.z]
  cases e with
  | true => exact ⟨fun _ => rfl, fun _ => ⟨rfl, h.no rfl⟩⟩
  | false => exact ⟨fun z => (by cases z.1), fun z => (by cases z)⟩
end K75
set_option Elab.async false
set_option linter.all false
set_option maxRecDepth 100000
set_option maxHeartbeats 4000000
namespace K75
open PySem PySem.Spec PyProof.Rows L2
/-- a normal triple as a value: None or a tuple -/
def VN (K : PySem.W.Frag) (H : Hp) (v : V) (o : Option (List Int)) : Prop := (v = .non ∧ o = none) ∨ ∃ t ys, v = .ref t ∧ SqT K H t (iV ys) ∧ o = some ys
theorem VN.ext {K : PySem.W.Frag} {H H' : Hp} {v : V} {o : Option (List Int)} (h : VN K H v o) (x : Ext H H') : VN K H' v o := by
  rcases h with h | ⟨t, ys, h1, h2, h3⟩
  · exact .inl h
  · exact .inr ⟨t, ys, h1, h2.ext x, h3⟩
def oD : Option (List Int) → PyData
  | none => .none
  | some ys => .tuple (iD ys)
theorem VN.dp {K : PySem.W.Frag} {H : Hp} {v : V} {o : Option (List Int)} (h : VN K H v o) : Dp K H v (oD o) := by
  rcases h with ⟨rfl, rfl⟩ | ⟨t, ys, rfl, h2, rfl⟩
  · exact .non
  · exact dp_tup h2
theorem sh_oD : ∀ o, SeqAt.shaped (oD o) = true
  | none => rfl
  | some ys => sh_iD ys
theorem eqv_oD : ∀ a b, PyData.eqv (oD a) (oD b) = decide (a = b)
  | none, none => rfl
  | none, some ys => by simp [oD, PyData.eqv]
  | some ys, none => by simp [oD, PyData.eqv]
  | some ys, some zs => by
    show PyData.eqv (.tuple (iD ys)) (.tuple (iD zs)) = _
    rw [eqv_iD]
    simp
theorem VN.non {K : PySem.W.Frag} {H : Hp} {v : V} {o : Option (List Int)} (h : VN K H v o) : decide (v = .non) = decide (o = none) := by
  rcases h with ⟨rfl, rfl⟩ | ⟨t, ys, rfl, _, rfl⟩
  · rfl
  · rfl
end K75
set_option Elab.async false
set_option linter.all false
set_option maxRecDepth 100000
set_option maxHeartbeats 4000000
namespace K75
open PySem PySem.Spec PyProof.Rows L2
/-! readings that _law_right, _law_loose_fits and law share -/
section
variable {K : PySem.W.Frag} {H : Hp} {Q : VK} {E : XK} {p x y z : Int} {n d : Nat} {C CP CL CB CU CM CC : Addr} {σ : L2.St} {i j : Nat}
theorem norm_vn {l : Addr} (hl : SqL K H l (iV [x, y, z])) (bx : x.natAbs < 2 ^ 29) (by' : y.natAbs < 2 ^ 29) (bz : z.natAbs < 2 ^ 29) (hp : p = 0 ∨ IsPi p ∧ p < 1000) (h : ∀ v H', Ext H H' → VN K H' v (nZ p [x, y, z]) → Q v H') : spNorm K [.ref l, .int p] H Q E :=
  ⟨l, p, x, y, z, rfl, hl, bx, by', bz, hp, fun h0 H' e => h _ H' e (.inl ⟨rfl, h0⟩), fun ys h0 t H' e ht => h _ H' e (.inr ⟨t, ys, rfl, ht, h0⟩)⟩
theorem small60 {x : Int} (h : x.natAbs < 2 ^ 29) : x.natAbs < 2 ^ 60 := by omega
theorem seen_vn {o dv : Addr} (hP : PtO K C CM H o (numL x) (numL y) (numL z) n d) (hr : Rd H dv (.dK [])) (bx : x.natAbs < 2 ^ 29) (by' : y.natAbs < 2 ^ 29) (bz : z.natAbs < 2 ^ 29) (hp : p = 0 ∨ IsPi p ∧ p < 1000) (h : ∀ v H', Ext H H' → VN K H' v (nZ p [x, y, z]) → Q v H') :
    spSeen K C CB CU CM [.ref o, .ref dv, .int p] H Q E := by
  have e := nz_md (x := x) (y := y) (z := z) (hp.imp id And.left)
  exact ⟨o, dv, p, _, _, _, n, d, [], rfl, hP, hr, .inl ⟨x, y, z, hp, vo_num (small60 bx), vo_num (small60 by'), vo_num (small60 bz), bx, by', bz, fun h0 H' e' => h _ H' e' (.inl ⟨rfl, by rw [← e]; exact h0⟩), fun ys h0 t H' e' ht => h _ H' e' (.inr ⟨t, ys, rfl, ht, by rw [← e]; exact h0⟩)⟩⟩
theorem rd_seen {o : Addr} (hi : σ[i]? = some (some (.ref o))) (hj : σ[j]? = some (some (.int p))) (hP : PtO K C CM H o (numL x) (numL y) (numL z) n d) (bx : x.natAbs < 2 ^ 29) (by' : y.natAbs < 2 ^ 29) (bz : z.natAbs < 2 ^ 29) (hp : p = 0 ∨ IsPi p ∧ p < 1000) (h : ∀ v H', Ext H H' → VN K H' v (nZ p [x, y, z]) → Q v H') :
    tMethN C "seen" 1 1 (spSeen K C CB CU CM) E (tVar i) (tCons tDNewK tNil) (tCons (tVar j) tNil) σ H Q := by
  have hP' := hP
  obtain ⟨dx, t, ho, _⟩ := hP'
  refine ⟨_, hi, o, dx, _, rfl, ho, rfl, fun dv hd => ⟨_, hj, rfl, rfl, ?_⟩⟩
  have x1 : Ext H (upd H dv (.dK [])) := Ext.upd hd
  exact seen_vn (hP.ext x1) (.inl upd_same) bx by' bz hp fun v H' e hv => h v H' (ext_trans x1 e) hv
theorem ne_vn {v u : V} {o o' : Option (List Int)} (h : VN K H v o) (k : VN K H u o') (q : Q (.bl (!decide (o = o'))) H) : rNeD K v u H Q := ⟨oD o, oD o', h.dp, k.dp, sh_oD _, sh_oD _, by rw [eqv_oD]; exact q⟩
theorem eq_vn {v u : V} {o o' : Option (List Int)} (h : VN K H v o) (k : VN K H u o') (q : Q (.bl (decide (o = o'))) H) : rEqD K v u H Q := ⟨oD o, oD o', h.dp, k.dp, sh_oD _, sh_oD _, by rw [eqv_oD]; exact q⟩
theorem dec_self {α : Type} [DecidableEq α] {a : α} : (!decide (a = a)) = false := by simp
theorem rd_off0 {o l : Addr} {A B C D E' F : Tm} {n1 d1 n2 d2 : Nat} (hi : σ[i]? = some (some (.ref o))) (hj : σ[j]? = some (some (.ref l))) (hP : PtO K CP CM H o A B C n1 d1) (hL : PtO K CL CM H l D E' F n2 d2) (b1 : n1 * n2 < 2 ^ 22) (b2 : d1 + d2 < 64) (b3 : n1 < 2 ^ 60)
    (hz : ∀ φ, Inva φ → PP A D φ + PP B E' φ + PP C F φ = 0) (nf : PySem.W.notFirst K CM (.ref CM) = true) (hQ : ∀ H', Ext H H' → Q (.bl true) H') :
    tOp (rEqO K CM (spMEq CM) E0) (tMethR CP "off" (spOff K CP CL CM) E0 (tVar i) (tCons (tVar j) tNil)) (ClX.tCMeth CM (spMNum CM) E0 (tC (.ref CM)) (tCons (tC (.int 0)) tNil)) σ H Q := by
  have hP' := hP
  obtain ⟨dx, t, ho, _⟩ := hP'
  refine ⟨_, hi, o, dx, _, rfl, ho, rfl, _, hj, o, l, A, B, C, D, E', F, n1, d1, n2, d2, rfl, hP, hL, b1, b2, b3, fun r H1 R e1 hR gR sR => ?_⟩
  refine ⟨rfl, 0, rfl, fun z H2 e2 hz2 => ?_⟩
  have hR2 := hR.ext e2
  have hR' := hR2
  have hz' := hz2
  obtain ⟨dy, d', od, hr, _⟩ := hR'
  obtain ⟨dz, d'', od', hzz, _⟩ := hz'
  have eR : R = [] := gm_zero gR fun φ hφ => (sR φ hφ).trans (hz φ hφ)
  subst eR
  refine ⟨r, dy, _, .ref CM, rfl, hr, .inl ⟨z, CM, dz, _, rfl, hzz, rfl⟩, nf, r, z, _, _, rfl, hR2, hz2, gR.nr, (num_GM (n := 0) (x := 0) (Nat.le_refl _)).nr, fun b hb => ?_⟩
  have hbt : b = true := hb.mpr fun _ => rfl
  subst hbt
  exact hQ H2 (ext_trans e1 e2)
theorem num_le {c : Int} {n d : Nat} (h : GM n d (numL c)) : c.natAbs ≤ n := by
  by_cases hc : c = 0
  · subst hc; exact Nat.zero_le _
  · have e : numL c = [([], c)] := by unfold numL; rw [if_neg hc]
    rw [e] at h
    exact Nat.le_trans (NN_mem (L := [([], c)]) (p := ([], c)) List.mem_cons_self) h.nn
theorem PtO.num {o : Addr} {A B D : Tm} (h : PtO K C CM H o A B D n d) : GM n d A ∧ GM n d B ∧ GM n d D := by
  obtain ⟨dx, t, _, a, b, c, _, _, _, _, gA, gB, gD⟩ := h
  exact ⟨gA, gB, gD⟩
/-- p in o.possible() -/
theorem rd_poss {o : Addr} {m : Str} (hm : m = "possible") (hj : σ[j]? = some (some (.int p))) (hi : σ[i]? = some (some (.ref o))) (hP : PtO K C CM H o (numL x) (numL y) (numL z) n d) (hn : n < 2 ^ 50) (hp : p = 0 ∨ IsPi p) (hQ : ∀ H', Ext H H' → Q (.bl (!decide (nZ p [x, y, z] = none))) H') :
    tOp (rInO CC (spChC K CC) E0) (tVar j) (tM0 C m (spPos K C CC CM) E0 (tVar i)) σ H Q := by
  subst hm
  have hP' := hP
  obtain ⟨dx, t, ho, _⟩ := hP'
  obtain ⟨gA, gB, gD⟩ := hP.num
  have bd : ∀ {c : Int}, GM n d (numL c) → (gcdL (numL c)).natAbs < 2 ^ 50 := fun {c} g => by
    rw [gcdL_num]
    have := num_le g
    omega
  refine ⟨_, hj, _, hi, o, dx, _, rfl, ho, rfl, o, _, _, _, n, d, rfl, hP, bd gA, bd gB, bd gD, fun a H1 e ps x1 hc hm => ?_⟩
  rw [gcdL_num, gcdL_num, gcdL_num] at hm
  have hc' := hc
  obtain ⟨dy, t', ha, _⟩ := hc'
  refine ⟨a, dy, _, rfl, ha, a, !e, ps, p, rfl, hc, _, rfl, ?_⟩
  rw [miss_in hm hp]
  exact hQ H1 x1
end
end K75
set_option Elab.async false
set_option linter.all false
set_option maxRecDepth 100000
set_option maxHeartbeats 4000000
namespace K75
open PySem PySem.Spec PyProof.Rows L2
/-! readings put together: only new objects come, and the value is told by a predicate -/
theorem xid {H : Hp} : Ext H H := fun _ _ h => h
abbrev VP := V → Hp → Prop
def EX (te : TE) (σ : L2.St) (H : Hp) (P : VP) : Prop := ∀ Q : VK, (∀ v H', Ext H H' → P v H' → Q v H') → te σ H Q
def AX (t : TA) (σ : L2.St) (H : Hp) (P : List V → Hp → Prop) : Prop := ∀ Q : List V → Hp → Prop, (∀ v H', Ext H H' → P v H' → Q v H') → t σ H Q
def SX (sp : Sp) (vs : List V) (H : Hp) (E : XK) (P : VP) : Prop := ∀ Q : VK, (∀ v H', Ext H H' → P v H' → Q v H') → sp vs H Q E
def RX (r : R2) (x y : V) (H : Hp) (P : VP) : Prop := ∀ Q : VK, (∀ v H', Ext H H' → P v H' → Q v H') → r x y H Q
def TX (t : TT) (σ : L2.St) (H : Hp) (b : Bool) : Prop := ∀ Q : Bool → Hp → Prop, (∀ H', Ext H H' → Q b H') → t σ H Q
abbrev isV (v : V) : VP := fun u _ => u = v
section
variable {σ : L2.St} {H : Hp} {P P1 P2 : VP} {te ta tb : TE} {t tk : TA} {sp : Sp} {E : XK} {i j n : Nat} {v : V} {vs ws : List V} {r : R2} {C : Addr} {m : Str} {K : PySem.W.Frag} {b : Bool} {c d : TT} {D : Ends} {rest st st2 : TS}
theorem EX.of (h : EX te σ H P) (k : ∀ v H', Ext H H' → P v H' → P1 v H') : EX te σ H P1 := fun Q q => h Q fun v H' e p => q v H' e (k v H' e p)
theorem SX.of (h : SX sp vs H E P) (k : ∀ v H', Ext H H' → P v H' → P1 v H') : SX sp vs H E P1 := fun Q q => h Q fun v H' e p => q v H' e (k v H' e p)
theorem ex_var (h : σ[i]? = some (some v)) : EX (tVar i) σ H (isV v) := fun Q q => ⟨v, h, q v H xid rfl⟩
theorem ex_c : EX (tC v) σ H (isV v) := fun Q q => q v H xid rfl
theorem ax_nil : AX tNil σ H fun us _ => us = [] := fun Q q => q [] H xid rfl
theorem ax_one (ha : EX ta σ H P1) : AX (tCons ta tNil) σ H fun us H' => ∃ u, us = [u] ∧ P1 u H' := fun Q q => ha _ fun u H1 e p => q [u] H1 e ⟨u, rfl, p⟩
/-- what is told of an earlier argument holds later too -/
def Up (P : VP) : Prop := ∀ v H H', Ext H H' → P v H → P v H'
theorem up_isV : Up (isV v) := fun _ _ _ _ h => h
theorem ax_cons {P3 : List V → Hp → Prop} (hu : Up P1) (ha : EX ta σ H P1) (hb : ∀ u H1, Ext H H1 → P1 u H1 → AX t σ H1 P3) : AX (tCons ta t) σ H fun us H' => ∃ u ys, us = u :: ys ∧ P1 u H' ∧ P3 ys H' :=
  fun Q q => ha _ fun u H1 e p => hb u H1 e p _ fun ys H2 e2 p2 => q (u :: ys) H2 (ext_trans e e2) ⟨u, ys, rfl, hu _ _ _ e2 p, p2⟩
/-- arguments that are plain -/
theorem ax_v1 (h : σ[i]? = some (some v)) : AX (tCons (tVar i) tNil) σ H fun us _ => us = [v] := fun Q q => ⟨v, h, q [v] H xid rfl⟩
theorem ax_v2 {u : V} (h : σ[i]? = some (some v)) (k : σ[j]? = some (some u)) : AX (tCons (tVar i) (tCons (tVar j) tNil)) σ H fun us _ => us = [v, u] := fun Q q => ⟨v, h, u, k, q [v, u] H xid rfl⟩
theorem ex_cl {A : List V → Hp → Prop} (ha : AX t σ H A) (h : ∀ us H1, Ext H H1 → A us H1 → SX sp us H1 E P) : EX (tCl sp E t) σ H P := fun Q q => ha _ fun us H1 e p => h us H1 e p _ fun v H2 e2 p2 => q v H2 (ext_trans e e2) p2
theorem ex_cn {A : List V → Hp → Prop} {B : List V → Hp → Prop} (ha : AX t σ H A) (hb : ∀ us H1, Ext H H1 → A us H1 → AX tk σ H1 B) (hn : ∀ us zs H1 H2, A us H1 → B zs H2 → us.length = n ∧ zs.length = j) (h : ∀ us zs H1 H2, Ext H H1 → A us H1 → Ext H1 H2 → B zs H2 → SX sp (us ++ zs) H2 E P) : EX (tCn n j sp E t tk) σ H P :=
  fun Q q => ha _ fun us H1 e p => hb us H1 e p _ fun zs H2 e2 p2 => ⟨(hn us zs H1 H2 p p2).1, (hn us zs H1 H2 p p2).2, h us zs H1 H2 e p e2 p2 _ fun v H3 e3 p3 => q v H3 (ext_trans e (ext_trans e2 e3)) p3⟩
/-- a method's call: the object with these fields -/
theorem ex_m {A : List V → Hp → Prop} (ho : EX ta σ H P1) (ha : ∀ x H1, Ext H H1 → P1 x H1 → ∃ a dx fs, x = .ref a ∧ H1 a = some (.ins C dx fs) ∧ fs.lookup m = none ∧ AX t σ H1 A)
    (h : ∀ x us H1 H2, Ext H H1 → P1 x H1 → Ext H1 H2 → A us H2 → SX sp (x :: us) H2 E P) : EX (tMethR C m sp E ta t) σ H P := fun Q q => ho _ fun x H1 e p => by
  obtain ⟨a, dx, fs, e1, e2, e3, e4⟩ := ha x H1 e p
  exact ⟨a, dx, fs, e1, e2, e3, e4 _ fun us H2 e5 p2 => h x us H1 H2 e p e5 p2 _ fun v H3 e6 p3 => q v H3 (ext_trans e (ext_trans e5 e6)) p3⟩
theorem ex_m0 (ho : EX ta σ H P1) (h : ∀ x H1, Ext H H1 → P1 x H1 → ∃ a dx fs, x = .ref a ∧ H1 a = some (.ins C dx fs) ∧ fs.lookup m = none ∧ SX sp [x] H1 E P) : EX (tM0 C m sp E ta) σ H P := fun Q q => ho _ fun x H1 e p => by
  obtain ⟨a, dx, fs, e1, e2, e3, e4⟩ := h x H1 e p
  exact ⟨a, dx, fs, e1, e2, e3, e4 _ fun v H3 e6 p3 => q v H3 (ext_trans e e6) p3⟩
theorem ex_cm {A : List V → Hp → Prop} (ha : AX t σ H A) (h : ∀ us H1, Ext H H1 → A us H1 → SX sp (.ref C :: us) H1 E P) : EX (ClX.tCMeth C sp E (tC (.ref C)) t) σ H P := fun Q q => ⟨rfl, ha _ fun us H1 e p => h us H1 e p _ fun v H2 e2 p2 => q v H2 (ext_trans e e2) p2⟩
theorem ex_op {P2 : V → VP} (ha : EX ta σ H P1) (hb : ∀ x H1, Ext H H1 → P1 x H1 → EX tb σ H1 (P2 x)) (h : ∀ x y H1 H2, Ext H H1 → P1 x H1 → Ext H1 H2 → P2 x y H2 → RX r x y H2 P) : EX (tOp r ta tb) σ H P :=
  fun Q q => ha _ fun x H1 e p => hb x H1 e p _ fun y H2 e2 p2 => h x y H1 H2 e p e2 p2 _ fun v H3 e3 p3 => q v H3 (ext_trans e (ext_trans e2 e3)) p3
theorem ex_fld {f : Str} (ha : EX ta σ H P1) (h : ∀ x H1, Ext H H1 → P1 x H1 → ∃ a C dx fs v, x = .ref a ∧ H1 a = some (.ins C dx fs) ∧ Cls K C ∧ NoAttr K C f ∧ fs.lookup f = some v ∧ P v H1) : EX (tFld K ta f) σ H P := fun Q q => ha _ fun x H1 e p => by
  obtain ⟨a, C, dx, fs, v, e1, e2, e3, e4, e5, e6⟩ := h x H1 e p
  exact ⟨a, C, dx, fs, v, e1, e2, e3, e4, e5, q v H1 e e6⟩
/-! tests -/
theorem tx_test (h : EX te σ H (isV (.bl b))) : TX (tTest te) σ H b := fun Q q => h _ fun v H1 e p => ⟨b, p, q H1 e⟩
theorem tx_B (h : EX te σ H (isV (.bl b))) : TX (tB te) σ H b := fun Q q => h _ fun v H1 e p => ⟨b, p, q H1 e⟩
theorem tx_not (h : TX c σ H b) : TX (tNot c) σ H (!b) := fun Q q => h _ fun H1 e => q H1 e
theorem tx_notF (h : TX c σ H true) : TX (tNot c) σ H false := tx_not h
theorem tx_or (h : TX c σ H false) (k : ∀ H', Ext H H' → TX d σ H' b) : TX (tOr c d) σ H b := fun Q q => h _ fun H1 e => iteF (k H1 e _ fun H2 e2 => q H2 (ext_trans e e2))
theorem tx_and (h : TX c σ H true) (k : ∀ H', Ext H H' → TX d σ H' b) : TX (tAnd c d) σ H b := fun Q q => h _ fun H1 e => iteT (k H1 e _ fun H2 e2 => q H2 (ext_trans e e2))
theorem tx_andF (h : TX c σ H false) : TX (tAnd c d) σ H false := fun Q q => h _ fun H1 e => iteF (q H1 e)
/-! values -/
theorem ex_and (h : EX ta σ H (isV (.bl true))) (k : ∀ H', Ext H H' → EX tb σ H' P) : EX (tAndV ta tb) σ H P := fun Q q => h _ fun v H1 e p => ⟨true, p, iteT (k H1 e _ fun u H2 e2 p2 => q u H2 (ext_trans e e2) p2)⟩
/-! statements -/
theorem sx_if (h : TX c σ H false) (k : ∀ H', Ext H H' → rest D σ H') : tSeq (tIfS c st tNext) rest D σ H := h _ fun H1 e => iteF (k H1 e)
theorem sx_ifT (h : TX c σ H true) (k : ∀ H', Ext H H' → st { D with nx := rest D } σ H') : tSeq (tIfS c st st2) rest D σ H := h _ fun H1 e => iteT (k H1 e)
theorem sx_set (h : EX te σ H P) (k : ∀ v H', Ext H H' → P v H' → rest D (σ.set i (some v)) H') : tSeq (tAsg te (gName i)) rest D σ H := h _ fun v H1 e p => k v H1 e p
theorem sx_par (ha : EX ta σ H P1) (hb : ∀ x H1, Ext H H1 → P1 x H1 → EX tb σ H1 P2) (k : ∀ x y H1 H2, Ext H H1 → P1 x H1 → Ext H1 H2 → P2 y H2 → rest D ((σ.set i (some x)).set j (some y)) H2) : tSeq (tPar i j (tCons ta (tCons tb tNil))) rest D σ H :=
  ha _ fun x H1 e p => hb x H1 e p _ fun y H2 e2 p2 => ⟨x, y, rfl, k x y H1 H2 e p e2 p2⟩
theorem sx_ret (h : EX te σ H P) (k : ∀ v H', Ext H H' → P v H' → D.rt v H') : tRet te D σ H := h _ k
end
end K75
set_option Elab.async false
set_option linter.all false
set_option maxRecDepth 100000
set_option maxHeartbeats 4000000
namespace K75
open PySem PySem.Spec PyProof.Rows L2
/-! what each callee does, in those words -/
section
variable {K : PySem.W.Frag} {H : Hp} {E : XK} {p x y z : Int} {n d n1 d1 n2 d2 : Nat} {C C1 C2 C3 CP CL CB CU CM CC : Addr} {σ : L2.St} {i j k : Nat} {A B C' D' E' F : Tm} {b : Bool}
abbrev vnP (K : PySem.W.Frag) (p x y z : Int) : VP := fun v H' => VN K H' v (nZ p [x, y, z])
theorem up_vn {o : Option (List Int)} : Up fun v H' => VN K H' v o := fun _ _ _ e h => h.ext e
/-- three small numbers, a characteristic -/
structure Sml (p x y z : Int) : Prop where
  x : x.natAbs < 2 ^ 29
  y : y.natAbs < 2 ^ 29
  z : z.natAbs < 2 ^ 29
  p : p = 0 ∨ IsPi p ∧ p < 1000
theorem norm_sx {l : Addr} (hl : SqL K H l (iV [x, y, z])) (s : Sml p x y z) : SX (spNorm K) [.ref l, .int p] H E (vnP K p x y z) := fun Q q => norm_vn hl s.x s.y s.z s.p q
theorem ex_norm {l : Addr} (h : σ[i]? = some (some (.ref l))) (g : σ[j]? = some (some (.int p))) (hl : SqL K H l (iV [x, y, z])) (s : Sml p x y z) : EX (tCl (spNorm K) E (tCons (tVar i) (tCons (tVar j) tNil))) σ H (vnP K p x y z) :=
  ex_cl (ax_v2 h g) fun us H1 e hu => by subst hu; exact norm_sx (hl.ext e) s
theorem ex_normK {l : Addr} (h : σ[i]? = some (some (.ref l))) (g : σ[j]? = some (some (.int p))) (hl : SqL K H l (iV [x, y, z])) (s : Sml p x y z) : EX (tCn 1 1 (spNorm K) E (tCons (tVar i) tNil) (tCons (tVar j) tNil)) σ H (vnP K p x y z) :=
  ex_cn (ax_v1 h) (fun us H1 e hu => ax_v1 g) (fun us zs H1 H2 h1 h2 => by subst h1 h2; exact ⟨rfl, rfl⟩) fun us zs H1 H2 e h1 e2 h2 => by subst h1 h2; exact norm_sx (hl.ext (ext_trans e e2)) s
theorem ex_seen {o : Addr} (h : σ[i]? = some (some (.ref o))) (g : σ[j]? = some (some (.int p))) (hP : PtO K C CM H o (numL x) (numL y) (numL z) n d) (s : Sml p x y z) : EX (tMethN C "seen" 1 1 (spSeen K C CB CU CM) E (tVar i) (tCons tDNewK tNil) (tCons (tVar j) tNil)) σ H (vnP K p x y z) :=
  fun Q q => rd_seen h g hP s.x s.y s.z s.p q
theorem rx_ne {o : Option (List Int)} {v u : V} (h : VN K H v o) (g : VN K H u o) : RX (rNeD K) v u H (isV (.bl false)) := fun Q q => ne_vn h g (by rw [dec_self]; exact q _ _ xid rfl)
/-- x != y, both a normal form -/
theorem ex_neV {te : TE} {v : V} {o : Option (List Int)} (h : EX te σ H fun u H' => VN K H' u o) (g : σ[k]? = some (some v)) (hv : VN K H v o) : EX (tOp (rNeD K) te (tVar k)) σ H (isV (.bl false)) :=
  ex_op h (fun _ _ _ _ => ex_var g) fun u w H1 H2 e1 h1 e2 h2 => by subst h2; exact rx_ne (h1.ext e2) (hv.ext (ext_trans e1 e2))
/-- a made line or point -/
def mkP (K : PySem.W.Frag) (C CM : Addr) (A B D : Tm) (n d : Nat) : VP := fun v H' => ∃ o, v = .ref o ∧ PtO K C CM H' o A B D n d
theorem up_mkP : Up (mkP K C CM A B D' n d) := fun _ _ _ e ⟨o, h1, h2⟩ => ⟨o, h1, h2.ext e⟩
theorem PtO.at_ {o : Addr} (h : PtO K C CM H o A B D' n d) : ∃ dx t, H o = some (.ins C dx (ptF t)) := by
  obtain ⟨dx, t, h1, _⟩ := h
  exact ⟨dx, t, h1⟩
/-- what a crossing is -/
def crP (K : PySem.W.Frag) (C CM : Addr) (A B C' D' E' F : Tm) (n d : Nat) : VP := fun v H' => ∃ X Y Z, Crs A B C' D' E' F X Y Z ∧ mkP K C CM X Y Z n d v H'
theorem lt_sx {o u : Addr} (hP : PtO K C1 CM H o A B C' n1 d1) (hL : PtO K C2 CM H u D' E' F n2 d2) (b1 : n1 * n2 < 2 ^ 22) (b2 : d1 + d2 < 64) (b3 : n1 < 2 ^ 60) : SX (spLT K C1 C2 C3 CM) [.ref o, .ref u] H E (crP K C3 CM A B C' D' E' F (n1 * n2 + n1 * n2) (d1 + d2)) :=
  fun Q q => ⟨o, u, A, B, C', D', E', F, n1, d1, n2, d2, rfl, hP, hL, b1, b2, b3, fun X Y Z hc l H' e hl => q _ H' e ⟨X, Y, Z, hc, l, rfl, hl⟩⟩
theorem ex_lt {m : Str} {ta tb : TE} {o u : Addr} (h : EX ta σ H (isV (.ref o))) (g : ∀ H1, Ext H H1 → EX tb σ H1 (isV (.ref u))) (hP : PtO K C1 CM H o A B C' n1 d1) (hL : PtO K C2 CM H u D' E' F n2 d2) (b1 : n1 * n2 < 2 ^ 22) (b2 : d1 + d2 < 64) (b3 : n1 < 2 ^ 60) (hm : ∀ t, (ptF t).lookup m = none) :
    EX (tMethR C1 m (spLT K C1 C2 C3 CM) E ta (tCons tb tNil)) σ H (crP K C3 CM A B C' D' E' F (n1 * n2 + n1 * n2) (d1 + d2)) :=
  ex_m (A := fun us _ => us = [.ref u]) h (fun w H1 e h1 => by
    subst h1
    obtain ⟨dx, t, h2⟩ := hP.at_
    exact ⟨o, dx, _, rfl, e _ _ h2, hm t, fun Q q => g H1 e _ fun v H2 e2 hv => q [v] H2 e2 (by subst hv; rfl)⟩) fun w us H1 H2 e h1 e2 h2 => by subst h1 h2; exact lt_sx (hP.ext (ext_trans e e2)) (hL.ext (ext_trans e e2)) b1 b2 b3
/-- a polynomial -/
def mnP (CM : Addr) (n d : Nat) (S : (List Key → Int) → Int) : VP := fun v H' => ∃ r R, v = .ref r ∧ MnO CM H' r R ∧ GM n d R ∧ Sem R S
theorem ex_off0 {ta tb : TE} {o l : Addr} (h : EX ta σ H (isV (.ref o))) (g : ∀ H1, Ext H H1 → EX tb σ H1 (isV (.ref l))) (hP : PtO K CP CM H o A B C' n1 d1) (hL : PtO K CL CM H l D' E' F n2 d2) (b1 : n1 * n2 < 2 ^ 22) (b2 : d1 + d2 < 64) (b3 : n1 < 2 ^ 60)
    (hz : ∀ φ, Inva φ → PP A D' φ + PP B E' φ + PP C' F φ = 0) (nf : PySem.W.notFirst K CM (.ref CM) = true) :
    EX (tOp (rEqO K CM (spMEq CM) E0) (tMethR CP "off" (spOff K CP CL CM) E0 ta (tCons tb tNil)) (ClX.tCMeth CM (spMNum CM) E0 (tC (.ref CM)) (tCons (tC (.int 0)) tNil))) σ H (isV (.bl true)) := by
  refine ex_op (P1 := mnP CM (n1 * n2 + n1 * n2 + n1 * n2) (d1 + d2) fun _ => 0) (P2 := fun _ v H' => ∃ r, v = .ref r ∧ MnO CM H' r []) (ex_m (A := fun us _ => us = [.ref l]) h (fun w H1 e h1 => ?_) fun w us H1 H2 e h1 e2 h2 => ?_) (fun w H1 e h1 => ?_) fun x y H1 H2 e h1 e2 h2 => ?_
  · subst h1
    obtain ⟨dx, t, h2⟩ := hP.at_
    exact ⟨o, dx, _, rfl, e _ _ h2, rfl, fun Q q => g H1 e _ fun v H2 e2 hv => q [v] H2 e2 (by subst hv; rfl)⟩
  · subst h1 h2
    have e12 := ext_trans e e2
    exact fun Q q => ⟨o, l, A, B, C', D', E', F, n1, d1, n2, d2, rfl, hP.ext e12, hL.ext e12, b1, b2, b3, fun r H3 R e3 hR gR sR => q _ H3 e3 ⟨r, R, rfl, hR, gR, fun φ hφ => (sR φ hφ).trans (hz φ hφ)⟩⟩
  · exact ex_cm (A := fun us _ => us = [.int 0]) (fun Q q => q _ _ xid rfl) fun us H2 e2 h2 => by
      subst h2
      exact fun Q q => ⟨0, rfl, fun z H3 e3 hz3 => q _ H3 e3 ⟨z, rfl, hz3⟩⟩
  · obtain ⟨r, R, rfl, hR, gR, sR⟩ := h1
    obtain ⟨r', rfl, hR'⟩ := h2
    have hR2 := hR.ext e2
    have eR : R = [] := gm_zero gR sR
    subst eR
    intro Q q
    have k1 := hR2
    have k2 := hR'
    obtain ⟨dy, d', od, hr, _⟩ := k1
    obtain ⟨dz, d'', od', hzz, _⟩ := k2
    refine ⟨r, dy, _, .ref CM, rfl, hr, .inl ⟨r', CM, dz, _, rfl, hzz, rfl⟩, nf, r, r', _, _, rfl, hR2, hR', gR.nr, gR.nr, fun b hb => ?_⟩
    have hbt : b = true := hb.mpr fun _ => rfl
    subst hbt
    exact q _ H2 xid rfl
/-- p in o.possible() -/
theorem ex_poss {o : Addr} (hj : σ[j]? = some (some (.int p))) (hi : σ[i]? = some (some (.ref o))) (hP : PtO K C CM H o (numL x) (numL y) (numL z) n d) (hn : n < 2 ^ 50) (hp : p = 0 ∨ IsPi p) :
    EX (tOp (rInO CC (spChC K CC) E0) (tVar j) (tM0 C "possible" (spPos K C CC CM) E0 (tVar i))) σ H (isV (.bl (!decide (nZ p [x, y, z] = none)))) := fun Q q => rd_poss rfl hj hi hP hn hp fun H' e => q _ H' e rfl
/-- isinstance(o, C), o an instance of C -/
theorem ex_isi {o : Addr} (hi : σ[i]? = some (some (.ref o))) (hP : PtO K C CM H o A B D' n d) (T : IsI K C) (cl : Cls K C) (kt : PySem.W.kitOne K (.ref C) (.ref C) = some true) : EX (tCB (rIsi K) (tCons (tVar i) (tCons (tC (.ref C)) tNil))) σ H (isV (.bl true)) := fun Q q => by
  obtain ⟨dx, t, h⟩ := hP.at_
  exact ⟨_, hi, _, _, _, _, true, rfl, .own C, T.ty cl h, kt, q _ _ xid rfl⟩
end
end K75
set_option Elab.async false
set_option linter.all false
set_option maxRecDepth 100000
set_option maxHeartbeats 4000000
namespace K75
open PySem PySem.Spec PyProof.Rows L2
abbrev sRight : Stmt := top 41
theorem sc_right : FnScope ["_law_one", "_law_two", "_law_first", "_law_second", "_law_char", "_law_a", "_law_b", "_law_line", "_law_found", "_law_row"] ["_law_one", "_law_two", "_law_first", "_law_second", "_law_char"] (defScope sRight) := ⟨rfl, rfl, rfl, by decide +kernel, rfl, by decide +kernel, by decide +kernel⟩
/-- what _law_right leans on -/
structure RiT (P : Program) (w : World) (K : PySem.W.Frag) (mg : Str → Option Value) (base : Heap) (CC CM CP CL CB CU : Addr) : Prop where
  ln : Cal P w K mg base CX0 1 "_law_normal" (spNorm K)
  sP : MetN P w K mg base (L2.CX P w) 7 1 CP "seen" ["p"] (spSeen K CP CB CU CM)
  sL : MetN P w K mg base (L2.CX P w) 7 1 CL "seen" ["p"] (spSeen K CL CB CU CM)
  nm : CalN P w K mg base CX0 4 1 "normal" ["p"] (spNorm K)
  lt : Met P w K mg base CX0 7 CP "line_to" (spLT K CP CP CL CM)
  off : Met P w K mg base CX0 7 CP "off" (spOff K CP CL CM)
  num : ClM P w K mg base CX0 4 CM "number" (spMNum CM)
  meq : Opr P w K mg base CX0 1 CM "__eq__" (spMEq CM)
  mnf : PySem.W.notFirst K CM (.ref CM) = true
  lp : Met P w K mg base CX0 7 CL "possible" (spPos K CL CC CM)
  cin : Opr P w K mg base CX0 1 CC "__contains__" (spChC K CC)
  on : Cal P w K mg base CX0 6 "points_on" (spOn K)
  mM : mg "Many" = some (.ref CM)
  mL : mg "Line" = some (.ref CL)
  isi : mg "isinstance" = none
  len : mg "len" = none
  tl : PtT K mg "Line" CL
/-- it answers True -/
def spRight (K : PySem.W.Frag) (CP CM : Addr) : Sp := fun vs H Q _ => ∃ (o1 o2 l1 l2 : Addr) (p x1 y1 z1 x2 y2 z2 : Int), vs = [.ref o1, .ref o2, .ref l1, .ref l2, .int p] ∧ PtO K CP CM H o1 (numL x1) (numL y1) (numL z1) 36 0 ∧ PtO K CP CM H o2 (numL x2) (numL y2) (numL z2) 72 0 ∧
  SqL K H l1 (iV [x1, y1, z1]) ∧ SqL K H l2 (iV [x2, y2, z2]) ∧ (p = 0 ∨ IsPi p ∧ p < 1000) ∧ ∀ H', Ext H H' → Q (.bl true) H'
section
variable {K : PySem.W.Frag} {H : Hp} {Q : VK} {σ : L2.St} {i j : Nat}
theorem ne_same {v u : V} {o : Option (List Int)} (h : VN K H v o) (k : VN K H u o) (q : Q (.bl false) H) : rNeD K v u H Q := ne_vn h k (by rw [dec_self]; exact q)
theorem rd_or {va vb : V} {oa ob : Option (List Int)} (hi : σ[i]? = some (some va)) (hj : σ[j]? = some (some vb)) (ha : VN K H va oa) (hb : VN K H vb ob) (q : Q (.bl (decide (oa = none ∨ ob = none ∨ oa = ob))) H) :
    tOrV (tOp (fun x y H Q => y = .non ∧ Q (.bl (decide (x = .non))) H) (tVar i) (tC .non)) (tOrV (tOp (fun x y H Q => y = .non ∧ Q (.bl (decide (x = .non))) H) (tVar j) (tC .non)) (tOp (rEqD K) (tVar i) (tVar j))) σ H Q := by
  refine ⟨_, hi, rfl, _, rfl, ?_⟩
  rw [ha.non]
  by_cases h1 : oa = none
  · rw [decide_eq_true (Or.inl h1)] at q
    rw [decide_eq_true h1]
    exact iteT q
  · rw [decide_eq_false h1]
    refine iteF ⟨_, hj, rfl, _, rfl, ?_⟩
    rw [hb.non]
    by_cases h2 : ob = none
    · rw [decide_eq_true (Or.inr (Or.inl h2))] at q
      rw [decide_eq_true h2]
      exact iteT q
    · rw [decide_eq_false h2]
      refine iteF ⟨_, hi, _, hj, eq_vn ha hb ?_⟩
      have e : decide (oa = none ∨ ob = none ∨ oa = ob) = decide (oa = ob) := by
        simp [h1, h2]
      rw [e] at q
      exact q
theorem rd_isN {v : V} {o : Option (List Int)} (hi : σ[i]? = some (some v)) (h : VN K H v o) (q : Q (.bl (decide (o = none))) H) : tOp (fun x y H Q => y = .non ∧ Q (.bl (decide (x = .non))) H) (tVar i) (tC .non) σ H Q := ⟨_, hi, rfl, by rw [h.non]; exact q⟩
theorem rd_notN {v : V} {o : Option (List Int)} (hi : σ[i]? = some (some v)) (h : VN K H v o) (q : Q (.bl (!decide (o = none))) H) : tOp (fun x y H Q => y = .non ∧ Q (.bl (!decide (x = .non))) H) (tVar i) (tC .non) σ H Q := ⟨_, hi, rfl, by rw [h.non]; exact q⟩
def pD (qs : List (List Int)) : List PyData := qs.map fun q => .tuple (iD q)
theorem dp_pts {H : Hp} {l : Addr} {qs : List (List Int)} (h : ListPts H l qs) : Dp K H (.ref l) (.list (pD qs)) := by
  obtain ⟨ts, h1, h2⟩ := h
  refine .lst (SqL.of h1) ?_
  clear h1
  induction h2 with
  | nil => exact .nil
  | cons r _ ih => exact .cons (dp_tup (SqT.of r)) ih
theorem lay_pD : ∀ qs : List (List Int), PyData.canLayAll0 (pD qs) = true
  | [] => rfl
  | q :: qs => by
    show (PyData.canLayAll0 (iD q) && PyData.canLayAll0 (pD qs)) = true
    rw [shAll_iD, lay_pD qs]
    rfl
theorem dep_pD : ∀ qs : List (List Int), PyData.depthAll (pD qs) ≤ 1
  | [] => by
    show 0 ≤ 1
    decide
  | q :: qs => by
    show max (PyData.depthAll (iD q) + 1) (PyData.depthAll (pD qs)) ≤ 1
    rw [dep_iD]
    have := dep_pD qs
    omega
theorem sh_pD (qs : List (List Int)) : SeqAt.shaped (.list (pD qs)) = true := by
  show (PyData.canLayAll0 (pD qs) && decide (PyData.depthAll (pD qs) + 1 ≤ 64)) = true
  rw [lay_pD, Bool.true_and]
  have := dep_pD qs
  exact decide_eq_true (by omega)
theorem rd_in {t l : Addr} {xs : List Int} {qs : List (List Int)} (ht : SqT K H t (iV xs)) (hl : ListPts H l qs) (hm : xs ∈ qs) (q : Q (.bl true) H) : rInD K (.ref t) (.ref l) H Q := by
  refine ⟨.tuple (iD xs), pD qs, dp_tup ht, dp_pts hl, sh_iD xs, sh_pD qs, ?_⟩
  have e : ((pD qs).any fun z => PyData.eqv z (.tuple (iD xs))) = true := by
    rw [List.any_eq_true]
    exact ⟨.tuple (iD xs), List.mem_map.mpr ⟨xs, hm, rfl⟩, by rw [eqv_iD]; exact decide_eq_true rfl⟩
  rw [e]
  exact q
end
section
variable {K : PySem.W.Frag} {H : Hp} {σ : L2.St} {i j : Nat} {a : Bool} {ta tb : TE} {v : V} {o : Option (List Int)}
theorem EX.cast {te : TE} {a b : Bool} (h : EX te σ H (isV (.bl a))) (e : a = b) : EX te σ H (isV (.bl b)) := by subst e; exact h
theorem ex_gt0 {p : Int} (h : σ[i]? = some (some (.int p))) : EX (tOp (rI0 fun i j => .bl (decide (j < i))) (tVar i) (tC (.int 0))) σ H (isV (.bl (decide (0 < p)))) := fun Q q => ⟨_, h, _, _, rfl, rfl, q _ _ xid rfl⟩
theorem ListPts.ext {H H' : Hp} {l : Addr} {qs : List (List Int)} (h : ListPts H l qs) (x : Ext H H') : ListPts H' l qs := by
  obtain ⟨ts, h1, h2⟩ := h
  exact ⟨ts, x _ _ h1, paired_mono (fun _ _ e => x _ _ e) h2⟩
theorem ex_on {E : XK} {p a b c : Int} {t : Addr} (hi : σ[i]? = some (some (.ref t))) (hj : σ[j]? = some (some (.int p))) (ht : SqT K H t (iV [a, b, c])) (hp : IsPi p) (hp1 : p < 1000) (ha : a.natAbs < 2 ^ 60) (hb : b.natAbs < 2 ^ 60) (hc : c.natAbs < 2 ^ 60) :
    EX (tCl (spOn K) E (tCons (tVar i) (tCons (tVar j) tNil))) σ H fun v H' => ∃ l, v = .ref l ∧ ListPts H' l ((pts p.toNat).filter (onB p a b c)) :=
  ex_cl (ax_v2 hi hj) fun us H1 e hu => by subst hu; exact fun Q q => ⟨t, p, a, b, c, rfl, ht.ext e, hp, hp1, ha, hb, hc, fun l H' e' hl => q _ H' e' ⟨l, rfl, hl⟩⟩
theorem ex_in {t l : Addr} {xs : List Int} {qs : List (List Int)} (hi : σ[i]? = some (some (.ref t))) (hj : σ[j]? = some (some (.ref l))) (ht : SqT K H t (iV xs)) (hl : ListPts H l qs) (hm : xs ∈ qs) : EX (tOp (rInD K) (tVar i) (tVar j)) σ H (isV (.bl true)) := fun Q q => ⟨_, hi, _, hj, rd_in ht hl hm (q _ _ xid rfl)⟩
theorem rx_neB {x y : V} (hx : x = .bl a) (hy : y = .bl a) : RX rNe x y H (isV (.bl false)) := fun Q q => by
  subst hx hy
  exact ⟨rfl, by rw [decide_eq_true rfl]; exact q _ _ xid rfl⟩
theorem ex_neB (h : EX ta σ H (isV (.bl a))) (g : ∀ H1, Ext H H1 → EX tb σ H1 (isV (.bl a))) : EX (tOp rNe ta tb) σ H (isV (.bl false)) := ex_op h (fun _ H1 e _ => g H1 e) fun _ _ _ _ _ h1 _ h2 => rx_neB h1 h2
theorem ex_isN (h : σ[i]? = some (some v)) (g : VN K H v o) : EX (tOp (fun x y H Q => y = .non ∧ Q (.bl (decide (x = .non))) H) (tVar i) (tC .non)) σ H (isV (.bl (decide (o = none)))) := fun Q q => rd_isN h g (q _ _ xid rfl)
theorem ex_notN (h : σ[i]? = some (some v)) (g : VN K H v o) : EX (tOp (fun x y H Q => y = .non ∧ Q (.bl (!decide (x = .non))) H) (tVar i) (tC .non)) σ H (isV (.bl (!decide (o = none)))) := fun Q q => rd_notN h g (q _ _ xid rfl)
theorem ex_orN {va vb : V} {oa ob : Option (List Int)} (hi : σ[i]? = some (some va)) (hj : σ[j]? = some (some vb)) (ha : VN K H va oa) (hb : VN K H vb ob) :
    EX (tOrV (tOp (fun x y H Q => y = .non ∧ Q (.bl (decide (x = .non))) H) (tVar i) (tC .non)) (tOrV (tOp (fun x y H Q => y = .non ∧ Q (.bl (decide (x = .non))) H) (tVar j) (tC .non)) (tOp (rEqD K) (tVar i) (tVar j)))) σ H (isV (.bl (decide (oa = none ∨ ob = none ∨ oa = ob)))) := fun Q q => rd_or hi hj ha hb (q _ _ xid rfl)
end
section
variable {P : Program} {w : World} {K : PySem.W.Frag} {mg : Str → Option Value} {base : Heap} {f CC CM CP CL CB CU : Addr} {fd : FuncData}
theorem ok_right (F : FnP K "_law_right" "_law_right" sRight f fd) (T : RiT P w K mg base CC CM CP CL CB CU) : FnOk P w K mg base CX0 8 f fd ["_law_one", "_law_two", "_law_first", "_law_second", "_law_char"] (spRight K CP CM) := by
  obtain ⟨gE, e1, e2, e3⟩ := T.meq.ex
  obtain ⟨gI, i1, i2, i3⟩ := T.cin.ex
  refine F.ok sc_right (fun vs H Q E h => ?_) (fun cdv A outer s H vs Q E hr h => have hu65 := (show (A.deeper (envOfC "_law_right" (defScope sRight) s.heap.objs.size f cdv)).units + 65 < cLine by have := hr.un; omega); ⟨_, PSs.nox (pss_cons (ps_par (i := 5) (j := 6) rfl sc_right.nd rfl rfl (by decide) rfl rfl (pa_cons (pe_c T.ln hr (by decide) rfl pass0 (pa_cons (pv 2) (pa_cons (pv 4) pa_nil))) (pa_cons (pe_c T.ln hr (by decide) rfl pass0 (pa_cons (pv 3) (pa_cons (pv 4) pa_nil))) pa_nil)) (by rfl))
    (pss_cons (ps_if (PW.pt (pw_or (pt_cmpR (op_neD hr.units) (pe_mn T.sP hr (by decide) passL (pv 0) (pa_cons pe_dnewK pa_nil) (pk_cons (pv 4) pk_nil)) (pv 5) (nomark _)) (pw_or (pt_cmpR (op_neD hr.units) (pe_mn T.sP hr (by decide) passL (pv 1) (pa_cons pe_dnewK pa_nil) (pk_cons (pv 4) pk_nil)) (pv 6) (nomark _))
        (pw_or1 (pt_cmpR (op_neD hr.units) (pe_cn T.nm hr (by decide) rfl pass0 (pa_cons (pv 2) pa_nil) (pk_cons (pv 4) pk_nil)) (pv 5) (nomark _)))))) (pss_one (ps_ret pe_bl)) pss_nil)
    (pss_cons (ps_set (i := 7) sc_right.nd rfl (Or.inl rfl) (pe_m T.lt hr (by decide) pass0 (pv 0) (pa_cons (pv 1) pa_nil)))
    (pss_cons (ps_if (PW.pt (pw_or (pt_not (pt_val (pe_callB call_isi (by rfl) T.isi boot_isinstance (pa_cons (pv 7) (pa_cons (pe_glob (v := V.ref CL) rfl T.mL rfl) pa_nil))))) (pw_or (pt_not (pt_cmpR (op_eqOwn e1 e2 e3 (hr.mono (by decide)) pass0) (pe_m T.off hr (by decide) pass0 (pv 0) (pa_cons (pv 7) pa_nil)) (pe_cm T.num hr (by decide) pass0 (pe_glob (v := V.ref CM) rfl T.mM rfl) (pa_cons pe_int pa_nil)) (nomark _)))
        (pw_or1 (pt_not (pt_cmpR (op_eqOwn e1 e2 e3 (hr.mono (by decide)) pass0) (pe_m T.off hr (by decide) pass0 (pv 1) (pa_cons (pv 7) pa_nil)) (pe_cm T.num hr (by decide) pass0 (pe_glob (v := V.ref CM) rfl T.mM rfl) (pa_cons pe_int pa_nil)) (nomark _))))))) (pss_one (ps_ret pe_bl)) pss_nil)
    (pss_cons (ps_set (i := 8) sc_right.nd rfl (Or.inl rfl) (pe_mn T.sL hr (by decide) passL (pv 7) (pa_cons pe_dnewK pa_nil) (pk_cons (pv 4) pk_nil)))
    (pss_cons (ps_if (PW.pt (pw_or (pt_cmpR op_ne (pe_cmpR op_isN (pv 8) pe_non (nomark _)) (pe_or (pe_cmpR op_isN (pv 5) pe_non (nomark _)) (pe_or (pe_cmpR op_isN (pv 6) pe_non (nomark _)) (pe_one (pe_cmpR (op_eqD hr.units) (pv 5) (pv 6) (nomark _))))) (nomark _))
        (pw_or1 (pt_cmpR op_ne (pe_cmpR (op_inOwn i1 i2 i3 (hr.mono (by decide)) pass0) (pv 4) (pe_m0 T.lp hr (by decide) pass0 (pv 7)) rfl) (pe_cmpR op_notN (pv 8) pe_non (nomark _)) (nomark _))))) (pss_one (ps_ret pe_bl)) pss_nil)
    (pss_cons (ps_if (PW.pt (pw_and (pt_cmpR op_notN (pv 8) pe_non (nomark _)) (pw_and1 (pt_cmpR op_gt (pv 4) pe_int (nomark _)))))
        (pss_cons (ps_set (i := 9) sc_right.nd rfl (Or.inl rfl) (pe_c T.on hr (by decide) rfl pass0 (pa_cons (pv 8) (pa_cons (pv 4) pa_nil))))
          (pss_one (ps_ret (pe_and (pe_cmpR (op_inD hu65) (pv 5) (pv 9) rfl) (pe_and (pe_cmpR (op_inD hu65) (pv 6) (pv 9) rfl) (pe_one (pe_cmpR op_eq (pe_callB call_len_seq (by rfl) T.len boot_len (pa_cons (pv 9) pa_nil)) (pe_op op_add (pv 4) pe_int) (nomark _)))))))) pss_nil)
    (pss_one (ps_ret pe_bl))))))))), ?_⟩)
  · obtain ⟨o1, o2, l1, l2, p, _, _, _, _, _, _, rfl, _⟩ := h
    rfl
  · obtain ⟨o1, o2, l1, l2, p, x1, y1, z1, x2, y2, z2, rfl, hP1, hP2, hl1, hl2, hp, hQ⟩ := h
    have hp' : p = 0 ∨ IsPi p := hp.imp id And.left
    obtain ⟨gA1, gB1, gD1⟩ := hP1.num
    obtain ⟨gA2, gB2, gD2⟩ := hP2.num
    have ax1 := num_le gA1
    have ay1 := num_le gB1
    have az1 := num_le gD1
    have ax2 := num_le gA2
    have ay2 := num_le gB2
    have az2 := num_le gD2
    have s1 : Sml p x1 y1 z1 := ⟨by omega, by omega, by omega, hp⟩
    have s2 : Sml p x2 y2 z2 := ⟨by omega, by omega, by omega, hp⟩
    refine sx_par (ex_norm rfl rfl hl1 s1) (fun va H1 k1 hva => ex_norm rfl rfl (hl2.ext k1) s2) fun va vb H1 H2 k1 hva k2 hvb => ?_
    have k12 := ext_trans k1 k2
    have hva2 := hva.ext k2
    refine sx_if (tx_or (tx_test (ex_neV (ex_seen rfl rfl (hP1.ext k12) s1) rfl hva2)) fun H3 k3 => tx_or (tx_test (ex_neV (ex_seen rfl rfl (hP2.ext (ext_trans k12 k3)) s2) rfl (hvb.ext k3))) fun H4 k4 => tx_test (ex_neV (ex_normK rfl rfl (hl1.ext (ext_trans k12 (ext_trans k3 k4))) s1) rfl (hva2.ext (ext_trans k3 k4)))) fun H5 k5 => ?_
    have k15 := ext_trans k12 k5
    refine sx_set (ex_lt (ex_var rfl) (fun _ _ => ex_var rfl) (hP1.ext k15) (hP2.ext k15) (by decide) (by decide) (by decide) (fun _ => rfl)) fun vl H6 k6 hvl => ?_
    obtain ⟨X, Y, Z, hc, l, rfl, hL⟩ := hvl
    obtain ⟨gX, gY, gZ⟩ := hL.num
    obtain ⟨rfl, rfl, rfl⟩ := crs_num hc gX gY gZ
    have cx := num_le gX
    have cy := num_le gY
    have cz := num_le gZ
    have s3 : Sml p (y1 * z2 - z1 * y2) (z1 * x2 - x1 * z2) (x1 * y2 - y1 * x2) := ⟨by omega, by omega, by omega, hp⟩
    have k16 := ext_trans k15 k6
    refine sx_if (tx_or (tx_notF (tx_B (ex_isi rfl hL T.tl.is T.tl.cl T.tl.kt))) fun H7 k7 => tx_or (tx_notF (tx_test (ex_off0 (ex_var rfl) (fun _ _ => ex_var rfl) (hP1.ext (ext_trans k16 k7)) (hL.ext k7) (by decide) (by decide) (by decide) (fun φ hφ => crs_first hc hφ) T.mnf))) fun H8 k8 => tx_notF (tx_test (ex_off0 (ex_var rfl) (fun _ _ => ex_var rfl) (hP2.ext (ext_trans k16 (ext_trans k7 k8))) (hL.ext (ext_trans k7 k8)) (by decide) (by decide) (by decide) (fun φ hφ => crs_second hc hφ) T.mnf))) fun H9 k9 => ?_
    refine sx_set (ex_seen rfl rfl (hL.ext k9) s3) fun vf H10 k10 hvf => ?_
    have k9t := ext_trans k6 (ext_trans k9 k10)
    have hva10 := hva2.ext (ext_trans k5 k9t)
    have hvb10 := hvb.ext (ext_trans k5 k9t)
    have hL10 := hL.ext (ext_trans k9 k10)
    have k110 := ext_trans k16 (ext_trans k9 k10)
    have hcr := nz_cross (x1 := x1) (y1 := y1) (z1 := z1) (x2 := x2) (y2 := y2) (z2 := z2) hp'
    refine sx_if (tx_or (tx_test (ex_neB (ex_isN rfl hvf) fun H11 k11 => (ex_orN rfl rfl (hva10.ext k11) (hvb10.ext k11)).of fun v _ _ e => by rw [e]; exact congrArg V.bl (decide_eq_decide.mpr hcr.symm))) fun H11 k11 => tx_test (ex_neB (ex_poss rfl rfl (hL10.ext k11) (by decide) hp') fun H12 k12 => ex_notN rfl (hvf.ext (ext_trans k11 k12)))) fun H13 k13 => ?_
    have fin : ∀ H', Ext H13 H' → Q (.bl true) H' := fun H' e => hQ H' (ext_trans k110 (ext_trans k13 e))
    rcases hvf with ⟨rfl, hf⟩ | ⟨t, ys, rfl, hys, hf⟩
    · exact sx_if (tx_andF (tx_test ((ex_notN (K := K) rfl (.inl ⟨rfl, hf⟩)).cast (by rw [hf]; rfl)))) fun H14 k14 => sx_ret ex_c fun v H' e hv => by subst hv; exact fin H' (ext_trans k14 e)
    · by_cases hp0 : 0 < p
      · have hpi : IsPi p ∧ p < 1000 := hp.resolve_left (by omega)
        obtain ⟨q, rfl⟩ : ∃ q : Nat, p = q := ⟨p.toNat, by omega⟩
        have na : nZ q [x1, y1, z1] ≠ none := fun z => by
          have := hcr.mpr (.inl z)
          rw [hf] at this
          cases this
        have nb : nZ q [x2, y2, z2] ≠ none := fun z => by
          have := hcr.mpr (.inr (.inl z))
          rw [hf] at this
          cases this
        rcases hva10 with ⟨-, z⟩ | ⟨ta, xs, rfl, hxs, hfa⟩
        · exact absurd z na
        rcases hvb10 with ⟨-, z⟩ | ⟨tb, zs, rfl, hzs, hfb⟩
        · exact absurd z nb
        obtain ⟨a', b', c', rfl, m1, m2, ra, rb, rc⟩ := nz_on hpi.1 hfa hf (by grind)
        obtain ⟨a2, b2, c2, e2', m3, _, _⟩ := nz_on hpi.1 hfb hf (by grind)
        simp only [List.cons.injEq, and_true] at e2'
        obtain ⟨rfl, rfl, rfl⟩ := e2'
        have hq1 := hpi.2
        refine sx_ifT (tx_and (tx_test ((ex_notN (K := K) rfl (.inr ⟨t, _, rfl, hys.ext k13, hf⟩)).cast (by rw [hf]; rfl))) fun H14 k14 => tx_test ((ex_gt0 rfl).cast (decide_eq_true hp0))) fun H14 k14 => ?_
        refine sx_set (ex_on rfl rfl (hys.ext (ext_trans k13 k14)) hpi.1 hpi.2 (by omega) (by omega) (by omega)) fun vr H15 k15 hvr => ?_
        obtain ⟨lr, rfl, hlr⟩ := hvr
        rw [Int.toNat_natCast] at hlr
        have k1315 := ext_trans k13 (ext_trans k14 k15)
        obtain ⟨ts, ht1, ht2⟩ := hlr.ext (xid (H := H15))
        have hlen : (ts.map V.ref).length = q + 1 := by rw [List.length_map, paired_len ht2, m2]
        refine sx_ret (P := isV (.bl true)) (ex_and (ex_in rfl rfl (hxs.ext k1315) hlr m1) fun H16 k16 => ex_and (ex_in rfl rfl (hzs.ext (ext_trans k1315 k16)) (hlr.ext k16) m3) fun H17 k17 => ?_) fun v H' e hv => by subst hv; exact fin H' (ext_trans k14 (ext_trans k15 e))
        intro Q' q'
        refine ⟨_, rfl, lr, _, rfl, .inl (SqL.of ((ext_trans k16 k17) _ _ ht1)), _, rfl, _, _, rfl, rfl, rfl, ?_⟩
        rw [hlen]
        refine q' _ H17 xid (congrArg V.bl (decide_eq_true ?_))
        exact congrArg V.int (by omega)
      · have hp00 : p = 0 := hp.resolve_right fun z => by have := z.1.1; omega
        exact sx_if (tx_and (tx_test ((ex_notN (K := K) rfl (.inr ⟨t, _, rfl, hys.ext k13, hf⟩)).cast (by rw [hf]; rfl))) fun H14 k14 => tx_test ((ex_gt0 rfl).cast (decide_eq_false hp0))) fun H14 k14 => sx_ret ex_c fun v H' e hv => by subst hv; exact fin H' (ext_trans k14 e)
end
end K75
set_option Elab.async false
set_option linter.all false
set_option maxRecDepth 100000
set_option maxHeartbeats 4000000
namespace K75
open PySem PySem.Spec PyProof.Rows L2
/-! data -/
abbrev dpP (K : PySem.W.Frag) (d : PyData) : VP := fun v H' => Dp K H' v d
mutual
theorem dp_ext {K : PySem.W.Frag} {H H' : Hp} (x : Ext H H') : ∀ {v : V} {d : PyData}, Dp K H v d → Dp K H' v d
  | _, _, .non => .non
  | _, _, .bl b => .bl b
  | _, _, .int i => .int i
  | _, _, .str s => .str s
  | _, _, .lst h1 h2 => .lst (h1.ext x) (dpAll_ext x h2)
  | _, _, .tup h1 h2 => .tup (h1.ext x) (dpAll_ext x h2)
theorem dpAll_ext {K : PySem.W.Frag} {H H' : Hp} (x : Ext H H') : ∀ {vs : List V} {ds : List PyData}, DpAll K H vs ds → DpAll K H' vs ds
  | _, _, .nil => .nil
  | _, _, .cons h1 h2 => .cons (dp_ext x h1) (dpAll_ext x h2)
end
theorem dpAll_len {K : PySem.W.Frag} {H : Hp} : ∀ {vs : List V} {ds : List PyData}, DpAll K H vs ds → vs.length = ds.length
  | _, _, .nil => rfl
  | _, _, .cons _ h2 => by rw [List.length_cons, List.length_cons, dpAll_len h2]
section
variable {K : PySem.W.Frag} {H : Hp} {E : XK} {p x y z : Int} {n d n1 d1 n2 d2 : Nat} {C C1 C2 C3 CP CL CB CU CM CC : Addr} {σ : L2.St} {i j k : Nat} {A B D' A' B' E' : Tm} {b : Bool} {ta tb : TE} {t : TA} {dd de : PyData} {ds : List PyData} {v u : V}
theorem exd_int (i : Int) : EX (tC (.int i)) σ H (dpP K (.int i)) := fun Q q => q _ _ xid (.int i)
theorem exd_str (s : Str) : EX (tC (.str s)) σ H (dpP K (.str s)) := fun Q q => q _ _ xid (.str s)
theorem axd_nil : AX tNil σ H fun us H' => DpAll K H' us [] := fun Q q => q _ _ xid .nil
theorem axd_cons (ha : EX ta σ H (dpP K dd)) (hb : ∀ H1, Ext H H1 → AX t σ H1 fun us H' => DpAll K H' us ds) : AX (tCons ta t) σ H fun us H' => DpAll K H' us (dd :: ds) :=
  fun Q q => ha _ fun u H1 e h1 => hb H1 e _ fun us H2 e2 h2 => q _ H2 (ext_trans e e2) (.cons (dp_ext e2 h1) h2)
theorem exd_lst (h : AX t σ H fun us H' => DpAll K H' us ds) (hl : ds.length ≤ 1000) : EX (tLst t) σ H (dpP K (.list ds)) := fun Q q => h _ fun us H1 e h1 => ⟨by rw [dpAll_len h1, sizeLine_eq]; omega, fun l hl' => by
  have x : Ext H1 (upd H1 l (.lst us)) := Ext.upd hl'
  exact q _ _ (ext_trans e x) (.lst (SqL.of upd_same) (dpAll_ext x h1))⟩
theorem exd_tup (h : AX t σ H fun us H' => DpAll K H' us ds) (hl : ds.length ≤ 1000) : EX (tTup t) σ H (dpP K (.tuple ds)) := fun Q q => h _ fun us H1 e h1 => ⟨by rw [dpAll_len h1, sizeLine_eq]; omega, fun l hl' => by
  have x : Ext H1 (upd H1 l (.tup us)) := Ext.upd hl'
  exact q _ _ (ext_trans e x) (.tup (SqT.of upd_same) (dpAll_ext x h1))⟩
theorem ex_neD (h : EX ta σ H (dpP K dd)) (g : ∀ H1, Ext H H1 → EX tb σ H1 (dpP K de)) (s1 : SeqAt.shaped dd = true) (s2 : SeqAt.shaped de = true) (he : PyData.eqv dd de = true) : EX (tOp (rNeD K) ta tb) σ H (isV (.bl false)) :=
  ex_op h (fun _ H1 e _ => g H1 e) fun x y H1 H2 e h1 e2 h2 => fun Q q => ⟨dd, de, dp_ext e2 h1, h2, s1, s2, by rw [he]; exact q _ _ xid rfl⟩
theorem ex_eqD (h : EX ta σ H (dpP K dd)) (g : ∀ H1, Ext H H1 → EX tb σ H1 (dpP K de)) (s1 : SeqAt.shaped dd = true) (s2 : SeqAt.shaped de = true) (he : PyData.eqv dd de = b) : EX (tOp (rEqD K) ta tb) σ H (isV (.bl b)) :=
  ex_op h (fun _ H1 e _ => g H1 e) fun x y H1 H2 e h1 e2 h2 => fun Q q => ⟨dd, de, dp_ext e2 h1, h2, s1, s2, by rw [he]; exact q _ _ xid rfl⟩
theorem exd_var (h : σ[i]? = some (some v)) (g : Dp K H v dd) : EX (tVar i) σ H (dpP K dd) := fun Q q => ⟨v, h, q _ _ xid g⟩
/-! items of a list -/
theorem ex_ixl {l : Addr} {xs : List V} {m : Nat} (h : σ[i]? = some (some (.ref l))) (hl : SqL K H l xs) (hm : xs[m]? = some v) : EX (tOp (rIxL K) (tVar i) (tC (.int (m : Nat)))) σ H (isV v) := fun Q q => ⟨_, h, l, xs, _, v, rfl, rfl, hl, atI_nat hm, q _ _ xid rfl⟩
/-! points and lines -/
theorem ex_loose : EX (ClX.tCMeth CP (spLoose K CP CM) E (tC (.ref CP)) (tCons (tC (.str "b7")) tNil)) σ H (mkP K CP CM (ukL "b7x") (ukL "b7y") (ukL "b7z") 1 1) :=
  ex_cm (A := fun us _ => us = [.str "b7"]) (fun Q q => q _ _ xid rfl) fun us H1 e hu => by subst hu; exact fun Q q => ⟨rfl, fun o H' e' ho => q _ H' e' ⟨o, rfl, ho⟩⟩
theorem ex_lst2 {P1 P2 : VP} (u1 : Up P1) (u2 : Up P2) (ha : EX ta σ H P1) (hb : ∀ H1, Ext H H1 → EX tb σ H1 P2) : EX (tLst (tCons ta (tCons tb tNil))) σ H fun v H' => ∃ l u w, v = .ref l ∧ H' l = some (.lst [u, w]) ∧ P1 u H' ∧ P2 w H' :=
  fun Q q => ha _ fun u H1 e h1 => hb H1 e _ fun w H2 e2 h2 => ⟨by show 2 ≤ sizeLine; decide, fun l hl => by
    have x : Ext H2 (upd H2 l (.lst [u, w])) := Ext.upd hl
    exact q _ _ (ext_trans e (ext_trans e2 x)) ⟨l, u, w, rfl, upd_same, u1 _ _ _ (ext_trans e2 x) h1, u2 _ _ _ x h2⟩⟩
theorem rx_eqP {a c : Addr} (h : PtO K C CM H a A B D' n d) (g : PtO K C CM H c A' B' E' n1 d1) (nf : PySem.W.notFirst K C (.ref C) = true) (hb : b = true ↔ EqT A A' ∧ EqT B B' ∧ EqT D' E') : RX (rEqO K C (spPEq K C CM) E0) (.ref a) (.ref c) H (isV (.bl b)) := fun Q q => by
  obtain ⟨dx, s, h1⟩ := h.at_
  obtain ⟨dy, s', g1⟩ := g.at_
  refine ⟨a, dx, _, .ref C, rfl, h1, .inl ⟨c, C, dy, _, rfl, g1, rfl⟩, nf, a, .ref c, A, B, D', n, d, rfl, h, .inl ⟨c, A', B', E', n1, d1, rfl, g, fun r hr => ?_⟩⟩
  have e : r = b := Bool.eq_iff_iff.mpr (hr.trans hb.symm)
  subst e
  exact q _ _ xid rfl
theorem ex_eqP {a c : Addr} (ha : EX ta σ H (isV (.ref a))) (hc : ∀ H1, Ext H H1 → EX tb σ H1 (isV (.ref c))) (h : PtO K C CM H a A B D' n d) (g : PtO K C CM H c A' B' E' n1 d1) (nf : PySem.W.notFirst K C (.ref C) = true) (hb : b = true ↔ EqT A A' ∧ EqT B B' ∧ EqT D' E') : EX (tOp (rEqO K C (spPEq K C CM) E0) ta tb) σ H (isV (.bl b)) :=
  ex_op ha (fun _ H1 e _ => hc H1 e) fun x y H1 H2 e h1 e2 h2 => by subst h1 h2; exact rx_eqP (h.ext (ext_trans e e2)) (g.ext (ext_trans e e2)) nf hb
/-- the same, the second just made -/
theorem ex_eqN {a : Addr} {S : Tm → Tm → Tm → Prop} (ha : EX ta σ H (isV (.ref a))) (hc : ∀ H1, Ext H H1 → EX tb σ H1 fun v H' => ∃ X Y Z, S X Y Z ∧ mkP K C CM X Y Z n1 d1 v H') (h : PtO K C CM H a A B D' n d) (nf : PySem.W.notFirst K C (.ref C) = true) (hb : ∀ X Y Z, S X Y Z → GM n1 d1 X → GM n1 d1 Y → GM n1 d1 Z → (b = true ↔ EqT A X ∧ EqT B Y ∧ EqT D' Z)) : EX (tOp (rEqO K C (spPEq K C CM) E0) ta tb) σ H (isV (.bl b)) :=
  ex_op ha (fun _ H1 e _ => hc H1 e) fun x y H1 H2 e h1 e2 h2 => by
    subst h1
    obtain ⟨X, Y, Z, hS, c, rfl, hc'⟩ := h2
    obtain ⟨gX, gY, gZ⟩ := hc'.num
    exact rx_eqP (h.ext (ext_trans e e2)) hc' nf (hb X Y Z hS gX gY gZ)
theorem ex_whole {tx ty tz : TE} (hx : EX tx σ H (isV (.int x))) (hy : ∀ H1, Ext H H1 → EX ty σ H1 (isV (.int y))) (hz : ∀ H1, Ext H H1 → EX tz σ H1 (isV (.int z))) (bx : x.natAbs ≤ n) (by' : y.natAbs ≤ n) (bz : z.natAbs ≤ n) :
    EX (ClX.tCMeth CP (spWhole K CP CM) E (tC (.ref CP)) (tCons tx (tCons ty (tCons tz tNil)))) σ H (mkP K CP CM (numL x) (numL y) (numL z) n 0) :=
  ex_cm (A := fun us _ => us = [.int x, .int y, .int z]) (fun Q q => hx _ fun u H1 e h1 => hy H1 e _ fun w H2 e2 h2 => hz H2 (ext_trans e e2) _ fun s H3 e3 h3 => q _ H3 (ext_trans e (ext_trans e2 e3)) (by subst h1 h2 h3; rfl)) fun us H1 e hu => by
    subst hu
    exact fun Q q => ⟨x, y, z, n, rfl, bx, by', bz, fun o H' e' ho => q _ H' e' ⟨o, rfl, ho⟩⟩
end
end K75
set_option Elab.async false
set_option linter.all false
set_option maxRecDepth 100000
set_option maxHeartbeats 4000000
namespace K75
open PySem PySem.Spec PyProof.Rows L2
/-- a list of lists of one text each, all apart from the list -/
def NmsAt (H : Hp) (D : Addr) (ss : List Str) : Prop := ∃ ts : List Addr, H D = some (.lst (ts.map V.ref)) ∧ Paired (fun t s => t ≠ D ∧ H t = some (.lst [.str s])) ts ss
theorem nms_dp {K : PySem.W.Frag} {H : Hp} {D : Addr} {ss : List Str} (h : NmsAt H D ss) : Dp K H (.ref D) (.list (ss.map fun s => .list [.str s])) := by
  obtain ⟨ts, h1, h2⟩ := h
  refine .lst (SqL.of h1) ?_
  clear h1
  induction h2 with
  | nil => exact .nil
  | cons r _ ih => exact .cons (.lst (SqL.of r.2) (.cons (.str _) .nil)) ih
theorem nms_snoc {H H3 : Hp} {D l : Addr} {ss : List Str} {s : Str} (h : NmsAt H D ss) (x : Ext H H3) (hl : H3 l = some (.lst [.str s])) : ∃ us, H3 D = some (.lst us) ∧ us.length = ss.length ∧ NmsAt (upd H3 D (.lst (us ++ [.ref l]))) D (ss ++ [s]) := by
  obtain ⟨ts, h1, h2⟩ := h
  have hD := x _ _ h1
  have hne : l ≠ D := fun z => by
    rw [z, hD] at hl
    have e := HO.lst.inj (Option.some.inj hl)
    cases ts with
    | nil => cases e
    | cons t ts => cases (List.cons.inj e).1
  refine ⟨_, hD, by rw [List.length_map]; exact paired_len h2, ts ++ [l], by rw [upd_same, List.map_append]; rfl, paired_append (paired_mono (fun t s q => ⟨q.1, (upd_ne q.1).trans (x _ _ q.2)⟩) h2) (.cons ⟨hne, (upd_ne hne).trans hl⟩ .nil)⟩
section
variable {K : PySem.W.Frag} {H : Hp} {E : XK} {p x y z : Int} {n d : Nat} {CP CB CU CM CC : Addr} {σ : L2.St} {i j k : Nat} {ta tb : TE} {v : V} {a b c : Str}
/-- [part.names() for part in o.coordinates] -/
theorem ex_names {o : Addr} (hi : σ[i]? = some (some (.ref o))) (hk : (σ.length = k + 1)) (h : PtO K CP CM H o (ukL a) (ukL b) (ukL c) n d) (cl : Cls K CP) (nc : NoAttr K CP "coordinates") :
    EX (tLc (iTup K (tFld K (tVar i) "coordinates")) (gName k) tYes (tM0 CM "names" (spMNames CM) E0 (tVar k)) [k]) σ H (dpP K (.list ([a, b, c].map fun s => .list [.str s]))) := fun Q q => by
  obtain ⟨dx, t, ho, r1, r2, r3, ht, hA, hB, hC, _⟩ := h
  refine ⟨_, hi, o, CP, dx, _, _, rfl, ho, cl, nc, ptF_c _, t, rfl, ⟨_, ht⟩, fun D hD => ?_⟩
  have x0 : Ext H (upd H D (.lst [])) := Ext.upd hD
  refine ⟨fun m r H' => r = 3 - m ∧ m ≤ 3 ∧ Ext H H' ∧ NmsAt H' D ([a, b, c].take m), ⟨3, rfl, by decide, x0, [], upd_same, .nil⟩, ?_⟩
  rintro m r H' ⟨rfl, hm, hE, hN⟩
  by_cases hlt : m < 3
  · refine .inr ⟨⟨_, ([.ref r1, .ref r2, .ref r3] : List V)[m], ht.ext hE, by simp [hlt]⟩, fun H2 => m + 1 ≤ 3 ∧ Ext H H2 ∧ NmsAt H2 D ([a, b, c].take (m + 1)), fun H2 q => ⟨3 - (m + 1), by omega, rfl, q⟩, ?_⟩
    rintro u H2 ⟨rfl, hu⟩
    have hu2 := hu _ (ht.ext hE)
    have step : ∀ (q : Addr) (s : Str), u = .ref q → MnO CM H q (ukL s) → [a, b, c][m]? = some s →
        gName k u (wipe σ [k]) H2 fun σ2 H3 => wipe σ2 [k] = wipe σ [k] ∧ tYes σ2 H3 fun bb H4 => if bb = true then tM0 CM "names" (spMNames CM) E0 (tVar k) σ2 H4 fun yy H5 => ∃ acc, H5 D = some (.lst acc) ∧ acc.length < sizeLine ∧
          (fun H2 => m + 1 ≤ 3 ∧ Ext H H2 ∧ NmsAt H2 D ([a, b, c].take (m + 1))) (upd H5 D (.lst (acc ++ [yy]))) else (fun H2 => m + 1 ≤ 3 ∧ Ext H H2 ∧ NmsAt H2 D ([a, b, c].take (m + 1))) H4 := by
      rintro q s rfl hq hg
      have hq2 := hq.ext hE
      have hq3 := hq2
      obtain ⟨dq, _, _, hqi, _⟩ := hq3
      refine ⟨wipe_set (by simp), ?_⟩
      dsimp only [tYes]
      rw [if_pos rfl]
      refine ⟨_, ?_, q, dq, _, rfl, hqi, rfl, q, ukL s, [s], rfl, hq2, sm_uk, fun l H3 x3 hl => ?_⟩
      · rw [List.getElem?_set_self (by rw [wipe_length, hk]; omega)]
      · obtain ⟨us, h1, h2, h3⟩ := nms_snoc hN x3 hl
        refine ⟨us, h1, ?_, hlt, ext_at hD (ext_trans hE x3), ?_⟩
        · rw [h2, List.length_take, sizeLine_eq]
          have : min m ([a, b, c].length) ≤ 3 := Nat.min_le_right _ _
          omega
        · rw [take_succ hg]
          exact h3
    match m, hlt, hu2, step with
    | 0, _, hu2, step => exact step r1 a (by simpa using hu2.symm) hA rfl
    | 1, _, hu2, step => exact step r2 b (by simpa using hu2.symm) hB rfl
    | 2, _, hu2, step => exact step r3 c (by simpa using hu2.symm) hC rfl
    | m + 3, h, _, _ => omega
  · have e : m = 3 := by omega
    subst e
    exact .inl ⟨⟨_, ht.ext hE, Nat.le_refl _⟩, q _ H' hE (nms_dp hN)⟩
/-- o.possible(), the set's fields -/
theorem ex_pos {o : Addr} {A B D' : Tm} (h : σ[i]? = some (some (.ref o))) (hP : PtO K CP CM H o A B D' n d) (bA : (gcdL A).natAbs < 2 ^ 50) (bB : (gcdL B).natAbs < 2 ^ 50) (bD : (gcdL D').natAbs < 2 ^ 50) :
    EX (tM0 CP "possible" (spPos K CP CC CM) E (tVar i)) σ H fun v H' => ∃ a e ps, v = .ref a ∧ ChO K CC H' a (!e) ps ∧ Miss [gcdL A, gcdL B, gcdL D'] e ps :=
  ex_m0 (ex_var h) fun w H1 e hw => by
    subst hw
    obtain ⟨dx, t, ho⟩ := hP.at_
    exact ⟨o, dx, _, rfl, e _ _ ho, rfl, fun Q q => ⟨o, A, B, D', n, d, rfl, hP.ext e, bA, bB, bD, fun a H' e' ps x' hc hm => q _ H' x' ⟨a, e', ps, rfl, hc, hm⟩⟩⟩
theorem ex_ukE {o : Addr} (h : σ[i]? = some (some (.ref o))) (hP : PtO K CP CM H o (ukL a) (ukL b) (ukL c) n d) (T : Cls K CC) (nE : NoAttr K CC "endless") : EX (tFld K (tM0 CP "possible" (spPos K CP CC CM) E (tVar i)) "endless") σ H (isV (.bl true)) :=
  ex_fld (ex_pos h hP (by rw [gcdL_uk]; decide) (by rw [gcdL_uk]; decide) (by rw [gcdL_uk]; decide)) fun w H1 x1 ⟨r, e, ps, e1, hc, hm⟩ => by
    rw [gcdL_uk, gcdL_uk, gcdL_uk] at hm
    obtain ⟨rfl, rfl⟩ := miss_uk hm
    obtain ⟨dx, t, h1, h2⟩ := hc
    exact ⟨r, CC, dx, _, _, e1, h1, T, nE, chF_e _ _, rfl⟩
theorem ex_ukP {o : Addr} (h : σ[i]? = some (some (.ref o))) (hP : PtO K CP CM H o (ukL a) (ukL b) (ukL c) n d) (T : Cls K CC) (nE : NoAttr K CC "primes") : EX (tFld K (tM0 CP "possible" (spPos K CP CC CM) E (tVar i)) "primes") σ H (dpP K (.tuple [])) :=
  ex_fld (ex_pos h hP (by rw [gcdL_uk]; decide) (by rw [gcdL_uk]; decide) (by rw [gcdL_uk]; decide)) fun w H1 x1 ⟨r, e, ps, e1, hc, hm⟩ => by
    rw [gcdL_uk, gcdL_uk, gcdL_uk] at hm
    obtain ⟨rfl, rfl⟩ := miss_uk hm
    obtain ⟨dx, t, h1, h2⟩ := hc
    exact ⟨r, CC, dx, _, _, e1, h1, T, nE, chF_p _ _, dp_tup h2⟩
/-! _law_seen of the loose point -/
/-- a written dict -/
def dkP (kvs : List (Key × V)) : VP := fun v H' => ∃ q, v = .ref q ∧ H' q = some (.dK kvs)
theorem ex_dis3 {i1 i2 i3 : Int} : EX (tDisp [(tC (.str a), tC (.int i1)), (tC (.str b), tC (.int i2)), (tC (.str c), tC (.int i3))]) σ H (dkP (mergeK [] [(.inr a, .int i1), (.inr b, .int i2), (.inr c, .int i3)])) := fun Q q l hl =>
  ⟨upd_same, [(.inr a, .int i1), (.inr b, .int i2), (.inr c, .int i3)], rfl, (by show 3 ≤ 15; decide), q _ _ (ext_at hl (Ext.upd hl)) ⟨l, rfl, upd_same⟩⟩
theorem ex_dis1 {i1 : Int} : EX (tDisp [(tC (.str a), tC (.int i1))]) σ H (dkP (mergeK [] [(.inr a, .int i1)])) := fun Q q l hl =>
  ⟨upd_same, [(.inr a, .int i1)], rfl, (by show 1 ≤ 15; decide), q _ _ (ext_at hl (Ext.upd hl)) ⟨l, rfl, upd_same⟩⟩
theorem ex_dis0 : EX tDNewK σ H (dkP []) := fun Q q l hl => q _ _ (Ext.upd hl) ⟨l, rfl, upd_same⟩
/-- the call -/
theorem ex_lseen {o : Addr} {kvs : List (Key × V)} {dd : PyData} {td : TE} (h : σ[i]? = some (some (.ref o))) (hd : EX td σ H (dkP kvs)) (hs : ∀ dv H1, Ext H H1 → H1 dv = some (.dK kvs) → SX (spLSeen K CP CB CU CM) [.ref o, .ref dv, .int p] H1 E (dpP K dd)) :
    EX (tCl (spLSeen K CP CB CU CM) E (tCons (tVar i) (tCons td (tCons (tC (.int p)) tNil)))) σ H (dpP K dd) := fun Q q => ⟨_, h, hd _ fun v H1 e ⟨l, e1, hl⟩ => by
  subst e1
  exact hs l H1 e hl Q fun u H2 e2 h2 => q u H2 (ext_trans e e2) h2⟩
theorem seen1_sx {o dv : Addr} {kvs : List (Key × V)} {ys : List Int} (hP : PtO K CP CM H o (ukL a) (ukL b) (ukL c) n d) (hd : H dv = some (.dK kvs)) (hp : p = 0 ∨ IsPi p ∧ p < 1000) (va : valV kvs (.inr a) = some (.int x)) (vb : valV kvs (.inr b) = some (.int y)) (vc : valV kvs (.inr c) = some (.int z)) (bx : x.natAbs < 2 ^ 29) (by' : y.natAbs < 2 ^ 29) (bz : z.natAbs < 2 ^ 29)
    (hn : nZ p [md p x, md p y, md p z] = some ys) : SX (spLSeen K CP CB CU CM) [.ref o, .ref dv, .int p] H E (dpP K (.tuple (iD ys))) := fun Q q =>
  ⟨o, dv, p, _, _, _, n, d, kvs, rfl, hP, .inl hd, .inl ⟨x, y, z, ys, hp, vo_uk va, vo_uk vb, vo_uk vc, bx, by', bz, hn, fun t H' e ht => q _ H' e (dp_tup ht)⟩⟩
theorem seen2_sx {o dv : Addr} {kvs : List (Key × V)} (hP : PtO K CP CM H o (ukL a) (ukL "b7y") (ukL c) n d) (hd : H dv = some (.dK kvs)) (hp : p = 0 ∨ IsPi p ∧ p < 1000) (va : valV kvs (.inr a) = some (.int x)) (vb : valV kvs (.inr "b7y") = none) : SX (spLSeen K CP CB CU CM) [.ref o, .ref dv, .int p] H E (dpP K (.list [.str "name", .str "b7y"])) := fun Q q =>
  ⟨o, dv, p, _, _, _, n, d, kvs, rfl, hP, .inl hd, .inr (.inl ⟨x, hp, vo_uk va, sm_uk, uk_cb, vb, fun l H' e hl => q _ H' e (.lst (SqL.of hl) (.cons (.str _) (.cons (.str _) .nil)))⟩)⟩
theorem seen3_sx {o dv : Addr} {kvs : List (Key × V)} (hP : PtO K CP CM H o (ukL a) (ukL b) (ukL c) n d) (hd : H dv = some (.dK kvs)) : SX (spLSeen K CP CB CU CM) [.ref o, .ref dv, .int 4] H E (dpP K (.list [.str "bad", .int 4])) := fun Q q =>
  ⟨o, dv, 4, _, _, _, n, d, kvs, rfl, hP, .inl hd, .inr (.inr ⟨[a], rfl, sm_uk, uk_cb, fun l H' e hl => q _ H' e (.lst (SqL.of hl) (.cons (.str _) (.cons (.int _) .nil)))⟩)⟩
end
end K75
set_option Elab.async false
set_option linter.all false
set_option maxRecDepth 100000
set_option maxHeartbeats 4000000
namespace K75
open PySem PySem.Spec PyProof.Rows L2
abbrev sLF : Stmt := top 42
abbrev nLF : List Str := ["_law_one", "_law_two", "_law_first", "_law_second", "_law_third", "_law_lines", "_law_corner", "_law_names", "_law_part"]
theorem sc_LF : FnScope nLF ["_law_one", "_law_two", "_law_first", "_law_second"] (defScope sLF) := ⟨rfl, rfl, rfl, by decide +kernel, rfl, by decide +kernel, by decide +kernel⟩
/-- what _law_loose_fits leans on -/
structure LoT (P : Program) (w : World) (K : PySem.W.Frag) (mg : Str → Option Value) (base : Heap) (CC CM CP CL CB CU : Addr) : Prop where
  lo : ClM P w K mg base CX0 5 CP "loose" (spLoose K CP CM)
  wh : ClM P w K mg base CX0 5 CP "whole" (spWhole K CP CM)
  lt : Met P w K mg base CX0 7 CP "line_to" (spLT K CP CP CL CM)
  crg : Met P w K mg base CX0 7 CL "crossing" (spLT K CL CL CP CM)
  off : Met P w K mg base CX0 7 CP "off" (spOff K CP CL CM)
  num : ClM P w K mg base CX0 4 CM "number" (spMNum CM)
  meq : Opr P w K mg base CX0 1 CM "__eq__" (spMEq CM)
  mnf : PySem.W.notFirst K CM (.ref CM) = true
  leq : Opr P w K mg base CX0 3 CL "__eq__" (spPEq K CL CM)
  lnf : PySem.W.notFirst K CL (.ref CL) = true
  peq : Opr P w K mg base CX0 3 CP "__eq__" (spPEq K CP CM)
  pnf : PySem.W.notFirst K CP (.ref CP) = true
  nam : Met P w K mg base CX0 1 CM "names" (spMNames CM)
  pp : Met P w K mg base CX0 7 CP "possible" (spPos K CP CC CM)
  sn : Cal P w K mg base CX0 8 "_law_seen" (spLSeen K CP CB CU CM)
  mM : mg "Many" = some (.ref CM)
  mP : mg "Point" = some (.ref CP)
  isi : mg "isinstance" = none
  tp : PtT K mg "Point" CP
  tc : ChT K mg CC
/-- it answers True -/
def spLF (K : PySem.W.Frag) (CP CM : Addr) : Sp := fun vs H Q _ => ∃ (o1 o2 l1 l2 : Addr) (x1 y1 z1 x2 y2 z2 : Int), vs = [.ref o1, .ref o2, .ref l1, .ref l2] ∧ PtO K CP CM H o1 (numL x1) (numL y1) (numL z1) 36 0 ∧ PtO K CP CM H o2 (numL x2) (numL y2) (numL z2) 72 0 ∧
  SqL K H l1 (iV [x1, y1, z1]) ∧ SqL K H l2 (iV [x2, y2, z2]) ∧ ∀ H', Ext H H' → Q (.bl true) H'
section
variable {K : PySem.W.Frag} {H : Hp} {C CM : Addr} {σ : L2.St} {A B C' D' E' F A' B' : Tm} {n d n1 d1 : Nat} {b : Bool} {ta tb : TE}
theorem up_crP : Up (crP K C CM A B C' D' E' F n d) := fun v H H' e ⟨X, Y, Z, hc, hm⟩ => ⟨X, Y, Z, hc, up_mkP _ _ _ e hm⟩
theorem ex_eqM {a : Addr} (ha : EX ta σ H (isV (.ref a))) (hc : ∀ H1, Ext H H1 → EX tb σ H1 (mkP K C CM A' B' E' n1 d1)) (h : PtO K C CM H a A B D' n d) (nf : PySem.W.notFirst K C (.ref C) = true) (hb : b = true ↔ EqT A A' ∧ EqT B B' ∧ EqT D' E') : EX (tOp (rEqO K C (spPEq K C CM) E0) ta tb) σ H (isV (.bl b)) :=
  ex_op ha (fun _ H1 e _ => hc H1 e) fun x y H1 H2 e h1 e2 h2 => by
    subst h1
    obtain ⟨c, rfl, hc'⟩ := h2
    exact rx_eqP (h.ext (ext_trans e e2)) hc' nf hb
theorem eqT_rfl {L : Tm} : EqT L L := fun _ => rfl
theorem isPi2 : IsPi 2 := ⟨by decide, fun d h1 h2 h3 => by have := Int.mul_le_mul h1 h1 (by decide) (by omega); omega⟩
theorem isPi3 : IsPi 3 := ⟨by decide, fun d h1 h2 h3 => by have := Int.mul_le_mul h1 h1 (by decide) (by omega); omega⟩
theorem isPi5 : IsPi 5 := ⟨by decide, fun d h1 h2 h3 => by
  by_cases h : d = 2
  · subst h; revert h3; decide
  · have := Int.mul_le_mul (show 3 ≤ d by omega) (show 3 ≤ d by omega) (by decide) (by omega); omega⟩
theorem dp_l3 {a : Addr} {ns : List Int} (h : SqL K H a (iV ns)) : Dp K H (.ref a) (.list (iD ns)) := .lst h (dpAll_iV ns)
theorem eqv_l3 (ns ms : List Int) : PyData.eqv (.list (iD ns)) (.list (iD ms)) = decide (ns = ms) := eqvAll_iD ns ms
end
section
variable {P : Program} {w : World} {K : PySem.W.Frag} {mg : Str → Option Value} {base : Heap} {f CC CM CP CL CB CU : Addr} {fd : FuncData}
theorem ok_LF (F : FnP K "_law_loose_fits" "_law_loose_fits" sLF f fd) (T : LoT P w K mg base CC CM CP CL CB CU) : FnOk P w K mg base CX0 9 f fd ["_law_one", "_law_two", "_law_first", "_law_second"] (spLF K CP CM) := by
  obtain ⟨gE, e1, e2, e3⟩ := T.meq.ex
  obtain ⟨gL, q1, q2, q3⟩ := T.leq.ex
  obtain ⟨gP, p1, p2, p3⟩ := T.peq.ex
  refine F.ok sc_LF (fun vs H Q E h => ?_) (fun cdv A outer s H vs Q E hr h => ⟨_, PSs.nox (pss_cons (ps_set (i := 4) sc_LF.nd rfl (Or.inl rfl) (pe_cm T.lo hr (by decide) pass0 (pe_glob (v := V.ref CP) rfl T.mP rfl) (pa_cons pe_str pa_nil)))
    (pss_cons (ps_set (i := 5) sc_LF.nd rfl (Or.inl rfl) (pe_lst (pa_cons (pe_m T.lt hr (by decide) pass0 (pv 0) (pa_cons (pv 4) pa_nil)) (pa_cons (pe_m T.lt hr (by decide) pass0 (pv 1) (pa_cons (pv 4) pa_nil)) pa_nil))))
    (pss_cons (ps_if (PW.pt (pw_or (pt_cmpR op_ne (pe_cmpR (op_eqOwn q1 q2 q3 (hr.mono (by decide)) pass0) (pe_ix ix_list (pv 5) pe_int (fun _ _ => rfl)) (pe_ix ix_list (pv 5) pe_int (fun _ _ => rfl)) (nomark _)) (pe_cmpR (op_eqD hr.units) (pv 2) (pv 3) (nomark _)) (nomark _))
        (pw_or1 (pt_not (pt_cmpR (op_eqOwn q1 q2 q3 (hr.mono (by decide)) pass0) (pe_ix ix_list (pv 5) pe_int (fun _ _ => rfl)) (pe_m T.lt hr (by decide) pass0 (pv 0) (pa_cons (pv 4) pa_nil)) (nomark _)))))) (pss_one (ps_ret pe_bl)) pss_nil)
    (pss_cons (ps_set (i := 6) sc_LF.nd rfl (Or.inl rfl) (pe_m T.crg hr (by decide) pass0 (pe_ix ix_list (pv 5) pe_int (fun _ _ => rfl)) (pa_cons (pe_ix ix_list (pv 5) pe_int (fun _ _ => rfl)) pa_nil)))
    (pss_cons (ps_if (PW.pt (pw_or (pt_not (pt_val (pe_callB call_isi (by rfl) T.isi boot_isinstance (pa_cons (pv 6) (pa_cons (pe_glob (v := V.ref CP) rfl T.mP rfl) pa_nil)))))
        (pw_or1 (pt_not (pt_cmpR (op_eqOwn e1 e2 e3 (hr.mono (by decide)) pass0) (pe_m T.off hr (by decide) pass0 (pv 6) (pa_cons (pe_ix ix_list (pv 5) pe_int (fun _ _ => rfl)) pa_nil)) (pe_cm T.num hr (by decide) pass0 (pe_glob (v := V.ref CM) rfl T.mM rfl) (pa_cons pe_int pa_nil)) (nomark _)))))) (pss_one (ps_ret pe_bl)) pss_nil)
    (pss_cons (ps_if (pt_not (pt_cmpR (op_eqOwn e1 e2 e3 (hr.mono (by decide)) pass0) (pe_m T.off hr (by decide) pass0 (pv 6) (pa_cons (pe_ix ix_list (pv 5) pe_int (fun _ _ => rfl)) pa_nil)) (pe_cm T.num hr (by decide) pass0 (pe_glob (v := V.ref CM) rfl T.mM rfl) (pa_cons pe_int pa_nil)) (nomark _))) (pss_one (ps_ret pe_bl)) pss_nil)
    (pss_cons (ps_setLc (i := 7) (own := [("_law_part", 8)]) (g := gName 8) (tt := tYes) rfl sc_LF.nd rfl rfl (sw_true rfl rfl rfl (by decide +kernel)) (pi_tup (pe_fld (pv 4) rfl)) (blkOk_by (own := [("_law_part", 8)]) (N := nLF) (sc := defScope sLF) (by decide +kernel)) (fun _ _ _ _ _ => pg_name (i := 8) sc_LF.nd rfl (Or.inl rfl)) (fun _ _ _ _ _ => pts_nil)
        (fun _ _ _ _ _ => pe_m0 T.nam hr (by decide) pass0 (pv 8)))
    (pss_cons (ps_if (PW.pt (pw_or (pt_cmpR (op_neD hr.units) (pv 7) (pe_lst (pa_cons (pe_lst (pa_cons pe_str pa_nil)) (pa_cons (pe_lst (pa_cons pe_str pa_nil)) (pa_cons (pe_lst (pa_cons pe_str pa_nil)) pa_nil)))) (nomark _)) (pw_or (pt_not (pt_val (pe_fld (pe_m0 T.pp hr (by decide) pass0 (pv 4)) rfl)))
        (pw_or1 (pt_cmpR (op_neD hr.units) (pe_fld (pe_m0 T.pp hr (by decide) pass0 (pv 4)) rfl) (pe_tup pa_nil) (nomark _)))))) (pss_one (ps_ret pe_bl)) pss_nil)
    (pss_cons (ps_if (pt_cmpR (op_neD hr.units) (pe_c T.sn hr (by decide) rfl pass0 (pa_cons (pv 4) (pa_cons (pe_disp (pps_cons pe_str pe_int (pps_cons pe_str pe_int (pps_cons pe_str pe_int pps_nil))) (by rfl) (by rfl) (fun z => by cases z) (by decide)) (pa_cons pe_int pa_nil)))) (pe_tup (pa_cons pe_int (pa_cons pe_int (pa_cons pe_int pa_nil)))) (nomark _)) (pss_one (ps_ret pe_bl)) pss_nil)
    (pss_cons (ps_if (pt_cmpR (op_neD hr.units) (pe_c T.sn hr (by decide) rfl pass0 (pa_cons (pv 4) (pa_cons (pe_disp (pps_cons pe_str pe_int pps_nil) (by rfl) (by rfl) (fun z => by cases z) (by decide)) (pa_cons pe_int pa_nil)))) (pe_lst (pa_cons pe_str (pa_cons pe_str pa_nil))) (nomark _)) (pss_one (ps_ret pe_bl)) pss_nil)
    (pss_cons (ps_if (PW.pt (pw_or (pt_cmpR (op_neD hr.units) (pe_c T.sn hr (by decide) rfl pass0 (pa_cons (pv 4) (pa_cons pe_dnewK (pa_cons pe_int pa_nil)))) (pe_lst (pa_cons pe_str (pa_cons pe_int pa_nil))) (nomark _))
        (pw_or1 (pt_not (pt_cmpR (op_eqOwn p1 p2 p3 (hr.mono (by decide)) pass0) (pv 0) (pe_cm T.wh hr (by decide) pass0 (pe_glob (v := V.ref CP) rfl T.mP rfl) (pa_cons (pe_ix ix_list (pv 2) pe_int (fun _ _ => rfl)) (pa_cons (pe_ix ix_list (pv 2) pe_int (fun _ _ => rfl)) (pa_cons (pe_ix ix_list (pv 2) pe_int (fun _ _ => rfl)) pa_nil)))) (nomark _)))))) (pss_one (ps_ret pe_bl)) pss_nil)
    (pss_one (ps_ret pe_bl))))))))))))), ?_⟩)
  · obtain ⟨o1, o2, l1, l2, _, _, _, _, _, _, rfl, _⟩ := h
    rfl
  · obtain ⟨o1, o2, l1, l2, x1, y1, z1, x2, y2, z2, rfl, hP1, hP2, hl1, hl2, hQ⟩ := h
    obtain ⟨gA1, gB1, gD1⟩ := hP1.num
    have ax1 := num_le gA1
    have ay1 := num_le gB1
    have az1 := num_le gD1
    refine sx_set ex_loose fun v3 H1 k1 hv3 => ?_
    obtain ⟨o3, rfl, hP3⟩ := hv3
    refine sx_set (ex_lst2 up_crP up_crP (ex_lt (ex_var rfl) (fun _ _ => ex_var rfl) (hP1.ext k1) hP3 (by decide) (by decide) (by decide) (fun _ => rfl)) fun H1' e => ex_lt (ex_var rfl) (fun _ _ => ex_var rfl) (hP2.ext (ext_trans k1 e)) (hP3.ext e) (by decide) (by decide) (by decide) (fun _ => rfl)) fun v5 H2 k2 hv5 => ?_
    obtain ⟨l, u, w', rfl, hl, ⟨X, Y, Z, hc, la, rfl, hA⟩, ⟨X', Y', Z', hc', lb, rfl, hB⟩⟩ := hv5
    obtain ⟨gX, gY, gZ⟩ := hA.num
    obtain ⟨gX', gY', gZ'⟩ := hB.num
    have k12 := ext_trans k1 k2
    have hS : SqL K H2 l [.ref la, .ref lb] := SqL.of hl
    have hP3' := hP3.ext k2
    refine sx_if (tx_or (tx_test (ex_neB (a := decide ([x1, y1, z1] = [x2, y2, z2])) (ex_eqP (ex_ixl (m := 0) rfl hS rfl) (fun _ e => ex_ixl (m := 1) rfl (hS.ext e) rfl) hA hB T.lnf ?c1) fun H3 e3 => ex_eqD (exd_var rfl (dp_l3 (hl1.ext (ext_trans k12 e3)))) (fun H4 e4 => exd_var rfl (dp_l3 (hl2.ext (ext_trans k12 (ext_trans e3 e4))))) (sh_lst _) (sh_lst _) (eqv_l3 _ _))) fun H4 k4 => tx_notF (tx_test (ex_eqN (S := fun X Y Z => Crs (numL x1) (numL y1) (numL z1) (ukL "b7x") (ukL "b7y") (ukL "b7z") X Y Z) (ex_ixl (m := 0) rfl (hS.ext k4) rfl) (fun H5 k5 => ex_lt (ex_var rfl) (fun _ _ => ex_var rfl) (hP1.ext (ext_trans k12 (ext_trans k4 k5))) (hP3'.ext (ext_trans k4 k5)) (by decide) (by decide) (by decide) (fun _ => rfl)) (hA.ext k4) T.lnf ?c2))) fun H5 k5 => ?_
    case c1 =>
      rw [decide_eq_true_eq]
      have := loose_eq (by decide) (by decide) (by decide) hc hc' gX gY gZ gX' gY' gZ'
      rw [this]
      simp
    case c2 =>
      intro X2 Y2 Z2 hS2 g1 g2 g3
      exact ⟨fun _ => (loose_eq (by decide) (by decide) (by decide) hc hS2 gX gY gZ g1 g2 g3).mpr ⟨rfl, rfl, rfl⟩, fun _ => rfl⟩
    have hA5 := hA.ext k5
    have hB5 := hB.ext k5
    have hS5 := hS.ext k5
    refine sx_set (ex_lt (ex_ixl (m := 0) rfl hS5 rfl) (fun _ e => ex_ixl (m := 1) rfl (hS5.ext e) rfl) hA5 hB5 (by decide) (by decide) (by decide) (fun _ => rfl)) fun v6 H6 k6 hv6 => ?_
    obtain ⟨U, V', W, hk, co, rfl, hC⟩ := hv6
    have k16 := ext_trans k12 (ext_trans k5 k6)
    have z1' : ∀ φ, Inva φ → PP U X φ + PP V' Y φ + PP W Z φ = 0 := fun φ hφ => by
      have := crs_first hk hφ
      rw [PP_comm (L := X) (M := U) hφ, PP_comm (L := Y) (M := V') hφ, PP_comm (L := Z) (M := W) hφ] at this
      exact this
    have z2' : ∀ φ, Inva φ → PP U X' φ + PP V' Y' φ + PP W Z' φ = 0 := fun φ hφ => by
      have := crs_second hk hφ
      rw [PP_comm (L := X') (M := U) hφ, PP_comm (L := Y') (M := V') hφ, PP_comm (L := Z') (M := W) hφ] at this
      exact this
    have hS6 := hS5.ext k6
    refine sx_if (tx_or (tx_notF (tx_B (ex_isi rfl hC T.tp.is T.tp.cl T.tp.kt))) fun H7 k7 => tx_notF (tx_test (ex_off0 (ex_var rfl) (fun _ e => ex_ixl (m := 0) rfl (hS6.ext (ext_trans k7 e)) rfl) (hC.ext k7) (hA5.ext (ext_trans k6 k7)) (by decide) (by decide) (by decide) z1' T.mnf))) fun H8 k8 => ?_
    refine sx_if (tx_notF (tx_test (ex_off0 (ex_var rfl) (fun _ e => ex_ixl (m := 1) rfl (hS6.ext (ext_trans k8 e)) rfl) (hC.ext k8) (hB5.ext (ext_trans k6 k8)) (by decide) (by decide) (by decide) z2' T.mnf))) fun H9 k9 => ?_
    have hP39 := hP3'.ext (ext_trans k5 (ext_trans k6 (ext_trans k8 k9)))
    have k19 := ext_trans k16 (ext_trans k8 k9)
    refine sx_set (ex_names rfl rfl hP39 T.tp.cl T.tp.nC) fun v7 H10 k10 hv7 => ?_
    have hP310 := hP39.ext k10
    have nmd : ∀ {H' : Hp} (e : Ext H10 H'), EX (tVar 7) ((((((L2.start nLF [.ref o1, .ref o2, .ref l1, .ref l2]).set 4 (some (.ref o3))).set 5 (some (.ref l))).set 6 (some (.ref co))).set 7 (some v7))) H' (dpP K (.list ((["b7x", "b7y", "b7z"] : List Str).map fun s => .list [.str s]))) := fun e => exd_var rfl (dp_ext e hv7)
    refine sx_if (tx_or (tx_test (ex_neD (nmd xid) (fun _ _ => exd_lst (axd_cons (exd_lst (axd_cons (exd_str _) fun _ _ => axd_nil) (by decide)) fun _ _ => axd_cons (exd_lst (axd_cons (exd_str _) fun _ _ => axd_nil) (by decide)) fun _ _ => axd_cons (exd_lst (axd_cons (exd_str _) fun _ _ => axd_nil) (by decide)) fun _ _ => axd_nil) (by decide)) (by decide +kernel) (by decide +kernel) (by decide +kernel))) fun H11 k11 => tx_or (tx_notF (tx_B (ex_ukE rfl (hP310.ext k11) T.tc.cl T.tc.nE))) fun H12 k12' => tx_test (ex_neD (ex_ukP rfl (hP310.ext (ext_trans k11 k12')) T.tc.cl T.tc.nP) (fun _ _ => exd_tup axd_nil (by decide)) (by decide +kernel) (by decide +kernel) (by decide +kernel))) fun H13 k13 => ?_
    have hP313 := hP310.ext k13
    refine sx_if (tx_test (ex_neD (ex_lseen rfl ex_dis3 fun dv H14 e14 hd => seen1_sx (ys := [1, 2, 3]) (hP313.ext e14) hd (.inl rfl) rfl rfl rfl (by decide) (by decide) (by decide) (by decide +kernel)) (fun _ _ => exd_tup (axd_cons (exd_int _) fun _ _ => axd_cons (exd_int _) fun _ _ => axd_cons (exd_int _) fun _ _ => axd_nil) (by decide)) (by decide +kernel) (by decide +kernel) (by decide +kernel))) fun H14 k14 => ?_
    refine sx_if (tx_test (ex_neD (ex_lseen rfl ex_dis1 fun dv H15 e15 hd => seen2_sx (x := 1) (hP313.ext (ext_trans k14 e15)) hd (.inr ⟨isPi2, by decide⟩) rfl rfl) (fun _ _ => exd_lst (axd_cons (exd_str _) fun _ _ => axd_cons (exd_str _) fun _ _ => axd_nil) (by decide)) (by decide +kernel) (by decide +kernel) (by decide +kernel))) fun H15 k15 => ?_
    have k1315 := ext_trans k14 k15
    have k115 := ext_trans k19 (ext_trans k10 (ext_trans k13 k1315))
    have hl15 := hl1.ext k115
    refine sx_if (tx_or (tx_test (ex_neD (ex_lseen rfl ex_dis0 fun dv H16 e16 hd => seen3_sx (hP313.ext (ext_trans k1315 e16)) hd) (fun _ _ => exd_lst (axd_cons (exd_str _) fun _ _ => axd_cons (exd_int _) fun _ _ => axd_nil) (by decide)) (by decide +kernel) (by decide +kernel) (by decide +kernel))) fun H16 k16' => tx_notF (tx_test (ex_eqM (ex_var rfl) (fun H17 e17 => ex_whole (ex_ixl (m := 0) rfl (hl15.ext (ext_trans k16' e17)) rfl) (fun H18 e18 => ex_ixl (m := 1) rfl (hl15.ext (ext_trans k16' (ext_trans e17 e18))) rfl) (fun H18 e18 => ex_ixl (m := 2) rfl (hl15.ext (ext_trans k16' (ext_trans e17 e18))) rfl) ax1 ay1 az1) (hP1.ext (ext_trans k115 k16')) T.pnf ⟨fun _ => ⟨eqT_rfl, eqT_rfl, eqT_rfl⟩, fun _ => rfl⟩))) fun H17 k17 => ?_
    exact sx_ret ex_c fun v H' e hv => by subst hv; exact hQ H' (ext_trans k115 (ext_trans k17 e))
end
end K75
set_option Elab.async false
set_option linter.all false
set_option maxRecDepth 100000
set_option maxHeartbeats 4000000
namespace K75
open PySem PySem.Spec PyProof.Rows L2
/-! readings for law itself -/
abbrev teA (K : PySem.W.Frag) : TE := tOp (rI CMul fun i j => .int (i * j)) (tVar 8) (tOp (rI0 fun i j => .int (i + j)) (tC (.int 1)) (tOp (rIxL K) (tVar 1) (tC (.int 1))))
abbrev teB (K : PySem.W.Frag) : TE := tOp (rI CMul fun i j => .int (i * j)) (tVar 8) (tOp (rI0 fun i j => .int (i - j)) (tOp (rIxL K) (tVar 1) (tC (.int 2))) (tC (.int 2)))
/-- a list of these ints -/
def lsP (K : PySem.W.Frag) (ns : List Int) : VP := fun v H' => ∃ l, v = .ref l ∧ SqL K H' l (iV ns)
theorem len11 : ∀ {ds : List Int}, ds.length = 11 → ∃ a b c d e f g h i j k, ds = [a, b, c, d, e, f, g, h, i, j, k]
  | [a, b, c, d, e, f, g, h, i, j, k], _ => ⟨a, b, c, d, e, f, g, h, i, j, k, rfl⟩
theorem mul_abs {a b : Int} {m n : Nat} (h : a.natAbs ≤ m) (k : b.natAbs ≤ n) : (a * b).natAbs ≤ m * n := by
  rw [Int.natAbs_mul]
  exact Nat.mul_le_mul h k
section
variable {K : PySem.W.Frag} {H : Hp} {E : XK} {p x y z : Int} {n d n1 d1 n2 d2 : Nat} {C CP CL CB CU CM CC : Addr} {σ : L2.St} {i j k : Nat} {ta tb tl te : TE} {v : V} {ns : List Int} {D : Ends} {st rest body : TS} {c : TT} {b : Bool}
theorem ex_lcI (f : Int → Int) (hl : EX tl σ H (lsP K ns)) (hlen : ns.length < 1000) (he : ∀ n ∈ ns, ∀ H' K', Ext H H' → K' (.int (f n)) H' → te ((wipe σ [k]).set k (some (.int n))) H' K') : EX (tLc (iList K tl) (gName k) tYes te [k]) σ H (lsP K (ns.map f)) :=
  fun Q q => hl _ fun v H1 e ⟨l, e1, hs⟩ => ⟨l, e1, ⟨_, hs⟩, fun D hD => by
    have x : ∀ acc, Ext H1 (upd H1 D (.lst acc)) := fun acc => Ext.upd hD
    refine lcI_list (fun _ => true) (fun n => V.int (f n)) (by simp) hs hD (by rw [sizeLine_eq]; omega) (fun n _ acc K' hK => hK) (fun n hn _ acc K' hK => he n hn _ K' (ext_trans e (x acc)) hK) (q _ _ (ext_trans e (x _)) ⟨D, rfl, SqL.of ?_⟩)
    rw [upd_same, lcV_all]
    simp [iV]⟩
theorem sx_if1 (h : TX c σ H false) (k : ∀ H', Ext H H' → D.nx σ H') : tIfS c st tNext D σ H := h _ fun H1 e => iteF (k H1 e)
theorem sx_for {G : V → Prop} (hl : EX tl σ H fun v H' => ∃ l, v = .ref l ∧ ∃ xs, SqL K H' l xs ∧ ∀ x ∈ xs, G x) (h0 : σ = σ.set j none) (hb : ∀ x, G x → ∀ H' (D' : Ends), Ext H H' → (∀ H'', Ext H' H'' → D'.nx (σ.set j (some x)) H'') → body D' (σ.set j (some x)) H') (k : ∀ u H', Ext H H' → rest D (σ.set j u) H') :
    tSeq (tFor (iList K tl) (gName j) body) rest D σ H := hl _ fun v H1 e ⟨l, e1, xs, hs, hG⟩ => ⟨l, e1, ⟨_, hs⟩, for_list (xs := xs) (fun i σ' H' => (∃ u, σ' = σ.set j u) ∧ Ext H1 H') ⟨⟨none, h0⟩, xid⟩ (fun i σ' H' _ h => hs.ext h.2)
    (fun i x σ' H' hi ⟨⟨u, eu⟩, x1⟩ => by
      subst eu
      have e2 : (σ.set j u).set j (some x) = σ.set j (some x) := List.set_set ..
      show body _ ((σ.set j u).set j (some x)) H'
      rw [e2]
      exact hb x (hG x (List.mem_of_getElem? hi)) H' _ (ext_trans e x1) fun H'' x2 => ⟨⟨_, rfl⟩, ext_trans x1 x2⟩)
    fun σ' H' ⟨⟨u, eu⟩, x1⟩ => by subst eu; exact k u H' (ext_trans e x1)⟩
theorem ex_draws {a : Addr} {ns : List Int} (hi : σ[i]? = some (some (.ref a))) (hs : SqL K H a (iV ns)) :
    EX (tCl (spDraws K) E (tCons (tCl (spCell K) E (tCons (tVar i) (tCons (tC (.int 0)) tNil))) (tCons (tLst (tCons (tC (.int 28)) (tCons (tC (.int 6)) (tCons (tC (.int 5)) (tCons (tC (.int 3)) (tCons (tC (.int 13)) (tCons (tC (.int 13)) (tCons (tC (.int 13)) (tCons (tC (.int 13)) (tCons (tC (.int 13)) (tCons (tC (.int 13)) (tCons (tC (.int 6)) tNil)))))))))))) tNil))) σ H
      fun v H' => ∃ l ds, v = .ref l ∧ SqL K H' l (iV ds) ∧ ds.length = 11 ∧ InB ds [28, 6, 5, 3, 13, 13, 13, 13, 13, 13, 6] := fun Q q =>
  ⟨_, hi, a, ns, rfl, hs, fun c => ⟨by show 11 ≤ sizeLine; decide, fun s hs' => ⟨c, s, [28, 6, 5, 3, 13, 13, 13, 13, 13, 13, 6], rfl, SqL.of upd_same, by decide, by decide, fun l H' ds e hl hlen hin => q _ H' (ext_trans (Ext.upd hs') e) ⟨l, ds, rfl, SqL.of hl, hlen, hin⟩⟩⟩⟩
/-- xs[lo:hi] -/
theorem ex_sl {l : Addr} {xs ys : List Int} {lo hi : Int} (hi' : σ[i]? = some (some (.ref l))) (hl : SqL K H l (iV xs)) (hc : cutV (iV xs) (some lo) (some hi) = iV ys) : EX (tSl (rSlL K) (tVar i) (tPart (tC (.int lo))) (tPart (tC (.int hi)))) σ H (lsP K ys) := fun Q q =>
  ⟨_, hi', lo, rfl, hi, rfl, l, iV xs, rfl, hl, fun t ht => q _ _ (Ext.upd ht) ⟨t, rfl, SqL.of (by rw [upd_same, hc])⟩⟩
theorem ex_right {a1 a2 l1 l2 : Addr} {x1 y1 z1 x2 y2 z2 : Int} (s4 : σ[4]? = some (some (.ref a1))) (s5 : σ[5]? = some (some (.ref a2))) (s2 : σ[2]? = some (some (.ref l1))) (s3 : σ[3]? = some (some (.ref l2))) (s6 : σ[6]? = some (some (.int p)))
    (h1 : PtO K CP CM H a1 (numL x1) (numL y1) (numL z1) 36 0) (h2 : PtO K CP CM H a2 (numL x2) (numL y2) (numL z2) 72 0) (h3 : SqL K H l1 (iV [x1, y1, z1])) (h4 : SqL K H l2 (iV [x2, y2, z2])) (hp : p = 0 ∨ IsPi p ∧ p < 1000) :
    EX (tCl (spRight K CP CM) E (tCons (tVar 4) (tCons (tVar 5) (tCons (tVar 2) (tCons (tVar 3) (tCons (tVar 6) tNil)))))) σ H (isV (.bl true)) := fun Q q => ⟨_, s4, _, s5, _, s2, _, s3, _, s6, a1, a2, l1, l2, p, x1, y1, z1, x2, y2, z2, rfl, h1, h2, h3, h4, hp, fun H' e => q _ H' e rfl⟩
theorem ex_LF {a1 a2 l1 l2 : Addr} {x1 y1 z1 x2 y2 z2 : Int} (s4 : σ[4]? = some (some (.ref a1))) (s5 : σ[5]? = some (some (.ref a2))) (s2 : σ[2]? = some (some (.ref l1))) (s3 : σ[3]? = some (some (.ref l2)))
    (h1 : PtO K CP CM H a1 (numL x1) (numL y1) (numL z1) 36 0) (h2 : PtO K CP CM H a2 (numL x2) (numL y2) (numL z2) 72 0) (h3 : SqL K H l1 (iV [x1, y1, z1])) (h4 : SqL K H l2 (iV [x2, y2, z2])) :
    EX (tCl (spLF K CP CM) E (tCons (tVar 4) (tCons (tVar 5) (tCons (tVar 2) (tCons (tVar 3) tNil))))) σ H (isV (.bl true)) := fun Q q => ⟨_, s4, _, s5, _, s2, _, s3, a1, a2, l1, l2, x1, y1, z1, x2, y2, z2, rfl, h1, h2, h3, h4, fun H' e => q _ H' e rfl⟩
theorem ex_notNE {o : Option (List Int)} (h : EX te σ H fun v H' => VN K H' v o) : EX (tOp (fun x y H Q => y = .non ∧ Q (.bl (!decide (x = .non))) H) te (tC .non)) σ H (isV (.bl (!decide (o = none)))) :=
  ex_op h (fun _ _ _ _ => ex_c) fun x y H1 H2 e h1 e2 h2 => by
    subst h2
    exact fun Q q => ⟨rfl, by rw [(h1.ext e2).non]; exact q _ _ xid rfl⟩
/-- the list of characteristics -/
theorem ex_chars {lh : Addr} {d0 : Int} {r : List Int} (h1 : σ[1]? = some (some (.ref lh))) (hh : SqL K H lh (iV (d0 :: r))) (b0 : 0 ≤ d0 ∧ d0 < 28) :
    EX (tLst (tCons (tC (.int 0)) (tCons (tC (.int 2)) (tCons (tC (.int 3)) (tCons (tC (.int 5)) (tCons (tCl spPF E (tCons (tOp (rI0 fun i j => .int (i + j)) (tC (.int 3)) (tOp (rIxL K) (tVar 1) (tC (.int 0)))) tNil)) (tCons (tC (.int 2)) tNil))))))) σ H
      fun v H' => ∃ l, v = .ref l ∧ ∃ xs, SqL K H' l xs ∧ ∀ x ∈ xs, ∃ c : Int, x = .int c ∧ (c = 0 ∨ IsPi c ∧ c < 1000) := fun Q q => by
  refine ⟨_, h1, lh, _, _, _, rfl, rfl, hh, atI_nat (j := 0) rfl, _, _, rfl, rfl, 3 + d0, rfl, by omega, by omega, fun t ht1 ht2 ht3 => ?_⟩
  refine ⟨by show 6 ≤ sizeLine; decide, fun l hl => q _ _ (Ext.upd hl) ⟨l, rfl, _, SqL.of upd_same, fun x hx => ?_⟩⟩
  have hx' : x = .int 0 ∨ x = .int 2 ∨ x = .int 3 ∨ x = .int 5 ∨ x = .int t ∨ x = .int 2 := by simpa using hx
  rcases hx' with rfl | rfl | rfl | rfl | rfl | rfl
  · exact ⟨_, rfl, .inl rfl⟩
  · exact ⟨_, rfl, .inr ⟨isPi2, by decide⟩⟩
  · exact ⟨_, rfl, .inr ⟨isPi3, by decide⟩⟩
  · exact ⟨_, rfl, .inr ⟨isPi5, by decide⟩⟩
  · exact ⟨_, rfl, .inr ⟨ht1, by omega⟩⟩
  · exact ⟨_, rfl, .inr ⟨isPi2, by decide⟩⟩
/-- the drawn rows, made longer where the draw says so -/
theorem law_if {a lh lf ls : Addr} {d0 d1 d2 d3 x y z u v w : Int} {r : List Int} (hh : SqL K H lh (iV (d0 :: d1 :: d2 :: d3 :: r))) (hf : SqL K H lf (iV [x, y, z])) (hs : SqL K H ls (iV [u, v, w])) (b1 : 0 ≤ d1 ∧ d1 < 6) (b2 : 0 ≤ d2 ∧ d2 < 5)
    (bx : x.natAbs ≤ 6) (by' : y.natAbs ≤ 6) (bz : z.natAbs ≤ 6) (bu : u.natAbs ≤ 6) (bv : v.natAbs ≤ 6) (bw : w.natAbs ≤ 6)
    (k : ∀ l1 l2 x1 y1 z1 x2 y2 z2 H', Ext H H' → SqL K H' l1 (iV [x1, y1, z1]) → SqL K H' l2 (iV [x2, y2, z2]) → x1.natAbs ≤ 36 → y1.natAbs ≤ 36 → z1.natAbs ≤ 36 → x2.natAbs ≤ 72 → y2.natAbs ≤ 72 → z2.natAbs ≤ 72 →
      D.nx [some (.ref a), some (.ref lh), some (.ref l1), some (.ref l2), none, none, none, none, none] H') :
    tIfS (tTest (tOp rEq (tOp (rIxL K) (tVar 1) (tC (.int 3))) (tC (.int 0)))) (tSeq (tAsg (tLc (iList K (tVar 2)) (gName 8) tYes (teA K) [8]) (gName 2)) (tAsg (tLc (iList K (tVar 2)) (gName 8) tYes (teB K) [8]) (gName 3))) tNext D
      [some (.ref a), some (.ref lh), some (.ref lf), some (.ref ls), none, none, none, none, none] H := by
  refine ⟨_, rfl, lh, _, _, _, rfl, rfl, hh, atI_nat (j := 3) rfl, rfl, _, rfl, ifb (fun h => ?_) fun h => ?_⟩
  · have pr : ∀ {m n : Int}, -(2 ^ 64) < m → m < 2 ^ 64 → CMul m n := fun h1 h2 => .inl ⟨h1, h2⟩
    have hv2 : ∀ {t : V} {H'}, EX (tVar 2) [some (.ref a), some (.ref lh), some t, some (.ref ls), none, none, none, none, none] H' (isV t) := fun {t H'} => ex_var rfl
    refine sx_set (P := lsP K ([x, y, z].map fun n => n * (1 + d1))) (ex_lcI (fun n => n * (1 + d1)) (fun Q q => ⟨_, rfl, q _ _ xid ⟨lf, rfl, hf⟩⟩) (by show 3 < 1000; decide) fun n hn H' K' e hK => ?_) fun v1 H1 e1 hv1 => ?_
    · refine ⟨_, rfl, _, rfl, lh, _, _, _, rfl, rfl, hh.ext e, atI_nat (j := 1) rfl, _, _, rfl, rfl, _, _, rfl, rfl, ?_, hK⟩
      have : n.natAbs ≤ 6 := by
        rcases List.mem_cons.mp hn with rfl | hn
        · exact bx
        rcases List.mem_cons.mp hn with rfl | hn
        · exact by'
        rw [List.mem_singleton.mp hn]; exact bz
      exact pr (by omega) (by omega)
    · obtain ⟨l1, rfl, h1⟩ := hv1
      have c1 : (1 + d1).natAbs ≤ 6 := by omega
      have e1x : (x * (1 + d1)).natAbs ≤ 36 := mul_abs bx c1
      have e1y : (y * (1 + d1)).natAbs ≤ 36 := mul_abs by' c1
      have e1z : (z * (1 + d1)).natAbs ≤ 36 := mul_abs bz c1
      have h1' : SqL K H1 l1 (iV [x * (1 + d1), y * (1 + d1), z * (1 + d1)]) := h1
      refine (ex_lcI (k := 8) (ns := [x * (1 + d1), y * (1 + d1), z * (1 + d1)]) (fun n => n * (d2 - 2)) (fun Q q => ⟨_, rfl, q _ _ xid ⟨l1, rfl, h1'⟩⟩) (by show 3 < 1000; decide) fun n hn H' K' e hK => ?_) _ fun v2 H2 e2 hv2 => ?_
      · refine ⟨_, rfl, _, rfl, lh, _, _, _, rfl, rfl, hh.ext (ext_trans e1 e), atI_nat (j := 2) rfl, _, _, rfl, rfl, _, _, rfl, rfl, ?_, hK⟩
        have : n.natAbs ≤ 36 := by
          rcases List.mem_cons.mp hn with rfl | hn
          · exact e1x
          rcases List.mem_cons.mp hn with rfl | hn
          · exact e1y
          rw [List.mem_singleton.mp hn]; exact e1z
        exact pr (by omega) (by omega)
      · obtain ⟨l2, rfl, h2⟩ := hv2
        have c2 : (d2 - 2).natAbs ≤ 2 := by omega
        exact k l1 l2 _ _ _ _ _ _ H2 (ext_trans e1 e2) (h1'.ext e2) h2 e1x e1y e1z (mul_abs e1x c2) (mul_abs e1y c2) (mul_abs e1z c2)
  · exact k lf ls x y z u v w H xid hf hs (by omega) (by omega) (by omega) (by omega) (by omega) (by omega)
theorem law_ifS {a lh lf ls : Addr} {d0 d1 d2 d3 x y z u v w : Int} {r : List Int} (hh : SqL K H lh (iV (d0 :: d1 :: d2 :: d3 :: r))) (hf : SqL K H lf (iV [x, y, z])) (hs : SqL K H ls (iV [u, v, w])) (b1 : 0 ≤ d1 ∧ d1 < 6) (b2 : 0 ≤ d2 ∧ d2 < 5)
    (bx : x.natAbs ≤ 6) (by' : y.natAbs ≤ 6) (bz : z.natAbs ≤ 6) (bu : u.natAbs ≤ 6) (bv : v.natAbs ≤ 6) (bw : w.natAbs ≤ 6)
    (k : ∀ l1 l2 x1 y1 z1 x2 y2 z2 H', Ext H H' → SqL K H' l1 (iV [x1, y1, z1]) → SqL K H' l2 (iV [x2, y2, z2]) → x1.natAbs ≤ 36 → y1.natAbs ≤ 36 → z1.natAbs ≤ 36 → x2.natAbs ≤ 72 → y2.natAbs ≤ 72 → z2.natAbs ≤ 72 →
      rest D [some (.ref a), some (.ref lh), some (.ref l1), some (.ref l2), none, none, none, none, none] H') :
    tSeq (tIfS (tTest (tOp rEq (tOp (rIxL K) (tVar 1) (tC (.int 3))) (tC (.int 0)))) (tSeq (tAsg (tLc (iList K (tVar 2)) (gName 8) tYes (teA K) [8]) (gName 2)) (tAsg (tLc (iList K (tVar 2)) (gName 8) tYes (teB K) [8]) (gName 3))) tNext) rest D
      [some (.ref a), some (.ref lh), some (.ref lf), some (.ref ls), none, none, none, none, none] H := law_if (D := { D with nx := rest D }) hh hf hs b1 b2 bx by' bz bu bv bw k
end
end K75
set_option Elab.async false
set_option linter.all false
set_option maxRecDepth 100000
set_option maxHeartbeats 4000000
namespace K75
open PySem PySem.Spec PyProof.Rows L2
section
variable {K : PySem.W.Frag} {H : Hp} {E : XK} {p x y z : Int} {n d n1 d1 : Nat} {C CP CL CM CC : Addr} {σ : L2.St} {i j k : Nat} {ta tb te : TE} {v : V} {A B D' : Tm} {b : Bool}
theorem ex_notV (h : EX te σ H (isV (.bl b))) : EX (tNotV te) σ H (isV (.bl (!b))) := fun Q q => h _ fun v H1 e p => ⟨b, p, q _ H1 e rfl⟩
/-- o.possible() == Chars.none() -/
theorem ex_posNo {o : Addr} (h : σ[i]? = some (some (.ref o))) (hP : PtO K CL CM H o (numL x) (numL y) (numL z) n d) (hn : n < 2 ^ 50) (nf : PySem.W.notFirst K CC (.ref CC) = true) (hb : b = true ↔ x = 0 ∧ y = 0 ∧ z = 0) :
    EX (tOp (rEqO K CC (spChE K CC) E0) (tM0 CL "possible" (spPos K CL CC CM) E0 (tVar i)) (ClX.tCMeth CC (spNew K CC false) E0 (tC (.ref CC)) tNil)) σ H (isV (.bl b)) := by
  obtain ⟨gA, gB, gD⟩ := hP.num
  have bd : ∀ {c : Int}, GM n d (numL c) → (gcdL (numL c)).natAbs < 2 ^ 50 := fun {c} g => by
    rw [gcdL_num]
    have := num_le g
    omega
  refine ex_op (P2 := fun _ v H' => ∃ a, v = .ref a ∧ ChO K CC H' a false []) (ex_pos h hP (bd gA) (bd gB) (bd gD)) (fun u H1 e _ => ex_cm (A := fun us _ => us = []) ax_nil fun us H2 e2 h2 => ?_) fun u w H1 H2 e h1 e2 h2 => ?_
  · subst h2
    exact fun Q q => ⟨rfl, fun a H3 ps e3 hc _ hm => q _ H3 e3 ⟨a, rfl, by rw [mem_nil_of hm rfl] at hc; exact hc⟩⟩
  · obtain ⟨r, e', ps, rfl, hc, hm⟩ := h1
    obtain ⟨s, rfl, hc'⟩ := h2
    have hc2 := hc.ext e2
    have k1 := hc2
    have k2 := hc'
    obtain ⟨dx, t, a1, _⟩ := k1
    obtain ⟨dy, t', a2, _⟩ := k2
    intro Q q
    refine ⟨r, dx, _, .ref CC, rfl, a1, .inl ⟨s, CC, dy, _, rfl, a2, rfl⟩, nf, r, s, !e', false, ps, [], rfl, hc2, hc', q _ _ xid (congrArg V.bl ?_)⟩
    rw [gcdL_num, gcdL_num, gcdL_num] at hm
    have hm' := miss_none hm
    rw [Bool.eq_iff_iff, decide_eq_true_eq, hm', hb]
    constructor
    · intro q
      have q1 := q _ (show (x.natAbs : Int) ∈ [(x.natAbs : Int), (y.natAbs : Int), (z.natAbs : Int)] by simp)
      have q2 := q _ (show (y.natAbs : Int) ∈ [(x.natAbs : Int), (y.natAbs : Int), (z.natAbs : Int)] by simp)
      have q3 := q _ (show (z.natAbs : Int) ∈ [(x.natAbs : Int), (y.natAbs : Int), (z.natAbs : Int)] by simp)
      omega
    · rintro ⟨rfl, rfl, rfl⟩ g hg
      simpa using hg
/-- an own == with a thing of another kind -/
theorem rx_eqX {a : Addr} {u : V} {tb t : Value} (h : PtO K C CM H a A B D' n d) (hy : OfTy K H u tb) (nf : PySem.W.notFirst K C tb = true) (ht : TyX K H u t) (kt : PySem.W.kitOne K t (.ref C) = some false) : RX (rEqO K C (spPEq K C CM) E0) (.ref a) u H (isV (.bl false)) := fun Q q => by
  obtain ⟨dx, s, h1⟩ := h.at_
  exact ⟨a, dx, _, tb, rfl, h1, hy, nf, a, u, A, B, D', n, d, rfl, h, .inr ⟨t, ht, kt, q _ _ xid rfl⟩⟩
theorem ex_eqPt {a c : Addr} {A' B' E' : Tm} (ha : σ[i]? = some (some (.ref a))) (hc : σ[j]? = some (some (.ref c))) (h : PtO K C CM H a A B D' n d) (g : PtO K CP CM H c A' B' E' n1 d1) (nf : PySem.W.notFirst K C (.ref CP) = true) (is : IsI K CP) (cl : Cls K CP) (kt : PySem.W.kitOne K (.ref CP) (.ref C) = some false) :
    EX (tOp (rEqO K C (spPEq K C CM) E0) (tVar i) (tVar j)) σ H (isV (.bl false)) :=
  ex_op (ex_var ha) (fun _ _ _ _ => ex_var hc) fun u w H1 H2 e h1 e2 h2 => by
    subst h1 h2
    have g2 := g.ext (ext_trans e e2)
    obtain ⟨dy, s', g3⟩ := g2.at_
    exact rx_eqX (h.ext (ext_trans e e2)) (.inl ⟨c, CP, dy, _, rfl, g3, rfl⟩) nf (is.ty cl g3) kt
theorem tyT {a : Addr} {xs : List V} (h : SqT K H a xs) : TyX K H (.ref a) (.type "tuple") := by
  rcases h with (h | ⟨o, h⟩) | ⟨o, its, m, h1, h2, _⟩
  · exact .base (.tup h)
  · exact .fTuple h
  · exact .kTuple h1 h2
/-- one == one.coordinates -/
theorem ex_eqTup {a : Addr} (ha : σ[i]? = some (some (.ref a))) (h : PtO K C CM H a A B D' n d) (cl : Cls K C) (nc : NoAttr K C "coordinates") (nf : PySem.W.notFirst K C (.type "tuple") = true) (kt : PySem.W.kitOne K (.type "tuple") (.ref C) = some false) :
    EX (tOp (rEqO K C (spPEq K C CM) E0) (tVar i) (tFld K (tVar i) "coordinates")) σ H (isV (.bl false)) := by
  have h' := h
  obtain ⟨dx, t, ho, r1, r2, r3, ht, _⟩ := h'
  exact ex_op (ex_var ha) (fun _ H1 e _ => ex_fld (P := isV (.ref t)) (ex_var ha) fun w H2 e2 hw => by subst hw; exact ⟨a, C, dx, _, _, rfl, (ext_trans e e2) _ _ ho, cl, nc, ptF_c _, rfl⟩) fun u w H1 H2 e h1 e2 h2 => by
    subst h1 h2
    have ht2 := ht.ext (ext_trans e e2)
    exact rx_eqX (h.ext (ext_trans e e2)) (.inr ⟨t, _, rfl, ht2, rfl⟩) nf (tyT ht2) kt
/-- one == Line(one.coordinates[0], ..) -/
theorem ex_eqLn {a : Addr} (ha : σ[i]? = some (some (.ref a))) (h : PtO K C CM H a A B D' n d) (cl : Cls K C) (nc : NoAttr K C "coordinates") (nf : PySem.W.notFirst K C (.ref CL) = true) (is : IsI K CL) (clL : Cls K CL) (kt : PySem.W.kitOne K (.ref CL) (.ref C) = some false) :
    EX (tOp (rEqO K C (spPEq K C CM) E0) (tVar i) (StX.tMakeR CL (spTI CL) E0 (tCons (tOp (rIxT K) (tFld K (tVar i) "coordinates") (tC (.int 0))) (tCons (tOp (rIxT K) (tFld K (tVar i) "coordinates") (tC (.int 1))) (tCons (tOp (rIxT K) (tFld K (tVar i) "coordinates") (tC (.int 2))) tNil))))) σ H (isV (.bl false)) := by
  have h' := h
  obtain ⟨dx, t, ho, r1, r2, r3, ht, hA, hB, hD, gA, gB, gD⟩ := h'
  have it : ∀ {H1 : Hp} {m : Nat} {u : V}, Ext H H1 → ([.ref r1, .ref r2, .ref r3] : List V)[m]? = some u → EX (tOp (rIxT K) (tFld K (tVar i) "coordinates") (tC (.int (m : Nat)))) σ H1 (isV u) := fun {H1 m u} e hu Q q => ⟨_, ha, a, C, dx, _, _, rfl, e _ _ ho, cl, nc, ptF_c _, t, _, _, u, rfl, rfl, ht.ext e, atI_nat hu, q _ _ xid rfl⟩
  refine ex_op (P2 := fun _ => mkP K CL CM A B D' n d) (ex_var ha) (fun _ H1 e _ => fun Q q => it (m := 0) e rfl _ fun u1 H2 e2 p1 => it (m := 1) (ext_trans e e2) rfl _ fun u2 H3 e3 p2 => it (m := 2) (ext_trans e (ext_trans e2 e3)) rfl _ fun u3 H4 e4 p3 => fun s ds hs hds hne => ?_) fun u w H1 H2 e h1 e2 h2 => ?_
  · subst p1 p2 p3
    have e14 := ext_trans e2 (ext_trans e3 e4)
    have e04 := ext_trans e e14
    exact mk_pt (hA.ext e04) (hB.ext e04) (hD.ext e04) gA gB gD (fun o H' e' ho' => q _ H' (ext_trans e14 e') ⟨o, rfl, ho'⟩) s ds hs hds hne
  · subst h1
    obtain ⟨c, rfl, g⟩ := h2
    obtain ⟨dy, s', g3⟩ := g.at_
    exact rx_eqX (h.ext (ext_trans e e2)) (.inl ⟨c, CL, dy, _, rfl, g3, rfl⟩) nf (is.ty clL g3) kt
end
end K75
set_option Elab.async false
set_option linter.all false
set_option maxRecDepth 100000
set_option maxHeartbeats 4000000
namespace K75
open PySem PySem.Spec PyProof.Rows L2
abbrev sLaw : Stmt := top 43
abbrev nLaw : List Str := ["_law_script", "_law_head", "_law_first", "_law_second", "_law_one", "_law_two", "_law_char", "_law_line", "_law_k"]
theorem sc_law : FnScope nLaw ["_law_script"] (defScope sLaw) := ⟨rfl, rfl, rfl, by decide +kernel, rfl, by decide +kernel, by decide +kernel⟩
/-- what law leans on -/
structure LaT (P : Program) (w : World) (K : PySem.W.Frag) (mg : Str → Option Value) (base : Heap) (CC CM CP CL CB CU : Addr) : Prop where
  dr : Cal P w K mg base CX0 1 "_law_draws" (spDraws K)
  ce : Cal P w K mg base CX0 1 "_law_cell" (spCell K)
  pf : Cal P w K mg base CX0 2 "_law_prime_from" spPF
  ri : Cal P w K mg base CX0 8 "_law_right" (spRight K CP CM)
  ln : Cal P w K mg base CX0 1 "_law_normal" (spNorm K)
  lf : Cal P w K mg base CX0 9 "_law_loose_fits" (spLF K CP CM)
  wh : ClM P w K mg base CX0 5 CP "whole" (spWhole K CP CM)
  lt : Met P w K mg base CX0 7 CP "line_to" (spLT K CP CP CL CM)
  leq : Opr P w K mg base CX0 3 CL "__eq__" (spPEq K CL CM)
  lnf : PySem.W.notFirst K CL (.ref CL) = true
  lnp : PySem.W.notFirst K CL (.ref CP) = true
  peq : Opr P w K mg base CX0 3 CP "__eq__" (spPEq K CP CM)
  pnf : PySem.W.notFirst K CP (.ref CP) = true
  pnl : PySem.W.notFirst K CP (.ref CL) = true
  pnt : PySem.W.notFirst K CP (.type "tuple") = true
  kpl : PySem.W.kitOne K (.ref CP) (.ref CL) = some false
  klp : PySem.W.kitOne K (.ref CL) (.ref CP) = some false
  ktp : PySem.W.kitOne K (.type "tuple") (.ref CP) = some false
  ceq : Opr P w K mg base CX0 1 CC "__eq__" (spChE K CC)
  cnf : PySem.W.notFirst K CC (.ref CC) = true
  cin : Opr P w K mg base CX0 1 CC "__contains__" (spChC K CC)
  no : ClM P w K mg base CX0 4 CC "none" (spNew K CC false)
  pp : Met P w K mg base CX0 7 CP "possible" (spPos K CP CC CM)
  lp : Met P w K mg base CX0 7 CL "possible" (spPos K CL CC CM)
  mkL : Mak P w K mg base CX0 1 CL (spTI CL)
  mP : mg "Point" = some (.ref CP)
  mL : mg "Line" = some (.ref CL)
  mC : mg "Chars" = some (.ref CC)
  tp : PtT K mg "Point" CP
  tl : PtT K mg "Line" CL
def spLaw (K : PySem.W.Frag) : Sp := fun vs H Q _ => ∃ (a : Addr) (ns : List Int), vs = [.ref a] ∧ SqL K H a (iV ns) ∧ ∀ H', Q (.bl true) H'
section
variable {P : Program} {w : World} {K : PySem.W.Frag} {mg : Str → Option Value} {base : Heap} {f CC CM CP CL CB CU : Addr} {fd : FuncData}
theorem ok_law (F : FnP K "law" "law" sLaw f fd) (T : LaT P w K mg base CC CM CP CL CB CU) : FnOk P w K mg base CX0 10 f fd ["_law_script"] (spLaw K) := by
  obtain ⟨gL, q1, q2, q3⟩ := T.leq.ex
  obtain ⟨gP, p1, p2, p3⟩ := T.peq.ex
  obtain ⟨gC, c1, c2, c3⟩ := T.ceq.ex
  obtain ⟨gI, i1, i2, i3⟩ := T.cin.ex
  refine F.ok sc_law (fun vs H Q E h => ?_) (fun cdv A outer s H vs Q E hr h => ⟨_, PSs.nox (pss_cons (ps_set (i := 1) sc_law.nd rfl (Or.inr rfl) (pe_c T.dr hr (by decide) rfl pass0 (pa_cons (pe_c T.ce hr (by decide) rfl pass0 (pa_cons (pv 0) (pa_cons pe_int pa_nil)))
        (pa_cons (pe_lst (pa_cons pe_int (pa_cons pe_int (pa_cons pe_int (pa_cons pe_int (pa_cons pe_int (pa_cons pe_int (pa_cons pe_int (pa_cons pe_int (pa_cons pe_int (pa_cons pe_int (pa_cons pe_int pa_nil)))))))))))) pa_nil))))
    (pss_cons (ps_setLc (i := 2) (own := [("_law_k", 8)]) (g := gName 8) (tt := tYes) rfl sc_law.nd rfl rfl (sw_true rfl rfl rfl (by decide +kernel)) (pi_list (pe_slice sl_list (pv 1) (po_some pe_int) (po_some pe_int))) (blkOk_by (own := [("_law_k", 8)]) (N := nLaw) (sc := defScope sLaw) (by decide +kernel)) (fun _ _ _ _ _ => pg_name (i := 8) sc_law.nd rfl (Or.inl rfl)) (fun _ _ _ _ _ => pts_nil) (fun _ _ _ _ _ => pe_op op_sub (pv 8) pe_int))
    (pss_cons (ps_setLc (i := 3) (own := [("_law_k", 8)]) (g := gName 8) (tt := tYes) rfl sc_law.nd rfl rfl (sw_true rfl rfl rfl (by decide +kernel)) (pi_list (pe_slice sl_list (pv 1) (po_some pe_int) (po_some pe_int))) (blkOk_by (own := [("_law_k", 8)]) (N := nLaw) (sc := defScope sLaw) (by decide +kernel)) (fun _ _ _ _ _ => pg_name (i := 8) sc_law.nd rfl (Or.inl rfl)) (fun _ _ _ _ _ => pts_nil) (fun _ _ _ _ _ => pe_op op_sub (pv 8) pe_int))
    (pss_cons (ps_if (pt_cmpR op_eq (pe_ix ix_list (pv 1) pe_int (fun _ _ => rfl)) pe_int (nomark _))
        (pss_cons (ps_setLc (i := 2) (own := [("_law_k", 8)]) (g := gName 8) (tt := tYes) (te := teA K) rfl sc_law.nd rfl rfl (sw_true rfl rfl rfl (by decide +kernel)) (pi_list (pv 2)) (blkOk_by (own := [("_law_k", 8)]) (N := nLaw) (sc := defScope sLaw) (by decide +kernel)) (fun _ _ _ _ _ => pg_name (i := 8) sc_law.nd rfl (Or.inl rfl)) (fun _ _ _ _ _ => pts_nil) (fun _ _ _ _ _ => pe_op op_mul (pv 8) (pe_op op_add pe_int (pe_ix ix_list (pv 1) pe_int (fun _ _ => rfl)))))
          (pss_one (ps_setLc (i := 3) (own := [("_law_k", 8)]) (g := gName 8) (tt := tYes) (te := teB K) rfl sc_law.nd rfl rfl (sw_true rfl rfl rfl (by decide +kernel)) (pi_list (pv 2)) (blkOk_by (own := [("_law_k", 8)]) (N := nLaw) (sc := defScope sLaw) (by decide +kernel)) (fun _ _ _ _ _ => pg_name (i := 8) sc_law.nd rfl (Or.inl rfl)) (fun _ _ _ _ _ => pts_nil) (fun _ _ _ _ _ => pe_op op_mul (pv 8) (pe_op op_sub (pe_ix ix_list (pv 1) pe_int (fun _ _ => rfl)) pe_int))))) pss_nil)
    (pss_cons (ps_set (i := 4) sc_law.nd rfl (Or.inl rfl) (pe_cm T.wh hr (by decide) pass0 (pe_glob (v := V.ref CP) rfl T.mP rfl) (pa_cons (pe_ix ix_list (pv 2) pe_int (fun _ _ => rfl)) (pa_cons (pe_ix ix_list (pv 2) pe_int (fun _ _ => rfl)) (pa_cons (pe_ix ix_list (pv 2) pe_int (fun _ _ => rfl)) pa_nil)))))
    (pss_cons (ps_set (i := 5) sc_law.nd rfl (Or.inl rfl) (pe_cm T.wh hr (by decide) pass0 (pe_glob (v := V.ref CP) rfl T.mP rfl) (pa_cons (pe_ix ix_list (pv 3) pe_int (fun _ _ => rfl)) (pa_cons (pe_ix ix_list (pv 3) pe_int (fun _ _ => rfl)) (pa_cons (pe_ix ix_list (pv 3) pe_int (fun _ _ => rfl)) pa_nil)))))
    (pss_cons (ps_for (fun _ _ h => h.elim) rfl (pi_list (pe_lst (pa_cons pe_int (pa_cons pe_int (pa_cons pe_int (pa_cons pe_int (pa_cons (pe_c T.pf hr (by decide) rfl pass0 (pa_cons (pe_op op_add pe_int (pe_ix ix_list (pv 1) pe_int (fun _ _ => rfl))) pa_nil)) (pa_cons pe_int pa_nil)))))))) (pg_name (i := 6) sc_law.nd rfl (Or.inl rfl))
        (pss_cons (ps_if (pt_not (pt_val (pe_c T.ri hr (by decide) rfl pass0 (pa_cons (pv 4) (pa_cons (pv 5) (pa_cons (pv 2) (pa_cons (pv 3) (pa_cons (pv 6) pa_nil)))))))) (pss_one (ps_ret pe_bl)) pss_nil)
          (pss_one (ps_if (pt_cmpR op_ne (pe_cmpR (op_inOwn i1 i2 i3 (hr.mono (by decide)) pass0) (pv 6) (pe_m0 T.pp hr (by decide) pass0 (pv 4)) rfl) (pe_cmpR op_notN (pe_c T.ln hr (by decide) rfl pass0 (pa_cons (pv 2) (pa_cons (pv 6) pa_nil))) pe_non (nomark _)) (nomark _)) (pss_one (ps_ret pe_bl)) pss_nil))))
    (pss_cons (ps_set (i := 7) sc_law.nd rfl (Or.inl rfl) (pe_m T.lt hr (by decide) pass0 (pv 4) (pa_cons (pv 5) pa_nil)))
    (pss_cons (ps_if (PW.pt (pw_or (pt_cmpR op_ne (pe_cmpR (op_eqOwn q1 q2 q3 (hr.mono (by decide)) pass0) (pv 7) (pe_m T.lt hr (by decide) pass0 (pv 5) (pa_cons (pv 4) pa_nil)) (nomark _)) (pe_cmpR (op_eqOwn c1 c2 c3 (hr.mono (by decide)) pass0) (pe_m0 T.lp hr (by decide) pass0 (pv 7)) (pe_cm0 T.no hr (by decide) pass0 (pe_glob (v := V.ref CC) rfl T.mC rfl)) (nomark _)) (nomark _))
        (pw_or1 (pt_not (pt_cmpR (op_eqOwn q1 q2 q3 (hr.mono (by decide)) pass0) (pv 7) (pe_m T.lt hr (by decide) pass0 (pv 4) (pa_cons (pv 5) pa_nil)) (nomark _)))))) (pss_one (ps_ret pe_bl)) pss_nil)
    (pss_cons (ps_if (PW.pt (pw_or (pt_cmpR (op_eqOwn p1 p2 p3 (hr.mono (by decide)) pass0) (pv 4) (pe_cm T.wh hr (by decide) pass0 (pe_glob (v := V.ref CP) rfl T.mP rfl) (pa_cons (pe_ix ix_list (pv 2) pe_int (fun _ _ => rfl)) (pa_cons (pe_ix ix_list (pv 2) pe_int (fun _ _ => rfl)) (pa_cons (pe_op op_add (pe_ix ix_list (pv 2) pe_int (fun _ _ => rfl)) pe_int) pa_nil)))) (nomark _))
        (pw_or1 (pt_cmpR (op_eqOwn q1 q2 q3 (hr.mono (by decide)) pass0) (pv 7) (pv 4) (nomark _))))) (pss_one (ps_ret pe_bl)) pss_nil)
    (pss_cons (ps_if (pt_not (pt_val (pe_c T.lf hr (by decide) rfl pass0 (pa_cons (pv 4) (pa_cons (pv 5) (pa_cons (pv 2) (pa_cons (pv 3) pa_nil))))))) (pss_one (ps_ret pe_bl)) pss_nil)
    (pss_one (ps_ret (pe_and (pe_not (pe_cmpR (op_eqOwn p1 p2 p3 (hr.mono (by decide)) pass0) (pv 4) (pe_mk T.mkL hr (by decide) rfl T.mL pass0 (pa_cons (pe_ix ix_tup (pe_fld (pv 4) rfl) pe_int (fun _ _ => rfl)) (pa_cons (pe_ix ix_tup (pe_fld (pv 4) rfl) pe_int (fun _ _ => rfl)) (pa_cons (pe_ix ix_tup (pe_fld (pv 4) rfl) pe_int (fun _ _ => rfl)) pa_nil)))) (nomark _)))
        (pe_one (pe_not (pe_cmpR (op_eqOwn p1 p2 p3 (hr.mono (by decide)) pass0) (pv 4) (pe_fld (pv 4) rfl) (nomark _)))))))))))))))))), ?_⟩)
  · obtain ⟨a, _, rfl, _⟩ := h
    rfl
  · obtain ⟨a, ns, rfl, hs, hQ⟩ := h
    refine sx_set (ex_draws rfl hs) fun vh H1 k1 hvh => ?_
    obtain ⟨lh, ds, rfl, hlh, h11, hin⟩ := hvh
    obtain ⟨d0, d1, d2, d3, d4, d5, d6, d7, d8, d9, d10, rfl⟩ := len11 h11
    have b0 := hin 0 d0 28 rfl rfl
    have b1 := hin 1 d1 6 rfl rfl
    have b2 := hin 2 d2 5 rfl rfl
    have b4 := hin 4 d4 13 rfl rfl
    have b5 := hin 5 d5 13 rfl rfl
    have b6 := hin 6 d6 13 rfl rfl
    have b7 := hin 7 d7 13 rfl rfl
    have b8 := hin 8 d8 13 rfl rfl
    have b9 := hin 9 d9 13 rfl rfl
    refine sx_set (ex_lcI (fun n => n - 6) (ex_sl (ys := [d4, d5, d6]) rfl hlh rfl) (by show 3 < 1000; decide) (fun n hn H' K' e hK => ⟨_, rfl, _, _, rfl, rfl, hK⟩)) fun vf H2 k2 hvf => ?_
    obtain ⟨lf, rfl, hf⟩ := hvf
    refine sx_set (ex_lcI (fun n => n - 6) (ex_sl (ys := [d7, d8, d9]) rfl (hlh.ext k2) rfl) (by show 3 < 1000; decide) (fun n hn H' K' e hK => ⟨_, rfl, _, _, rfl, rfl, hK⟩)) fun vs H3 k3 hvs => ?_
    obtain ⟨ls, rfl, hls⟩ := hvs
    have hlh3 := hlh.ext (ext_trans k2 k3)
    refine law_ifS (x := d4 - 6) (y := d5 - 6) (z := d6 - 6) (u := d7 - 6) (v := d8 - 6) (w := d9 - 6) hlh3 (hf.ext k3) hls b1 b2 (by omega) (by omega) (by omega) (by omega) (by omega) (by omega) fun l1 l2 x1 y1 z1 x2 y2 z2 H4 k4 h1 h2 ax1 ay1 az1 ax2 ay2 az2 => ?_
    refine sx_set (ex_whole (n := 36) (ex_ixl (m := 0) rfl h1 rfl) (fun _ e => ex_ixl (m := 1) rfl (h1.ext e) rfl) (fun _ e => ex_ixl (m := 2) rfl (h1.ext e) rfl) ax1 ay1 az1) fun v4 H5 k5 hv4 => ?_
    obtain ⟨o1, rfl, hP1⟩ := hv4
    have h25 := h2.ext k5
    refine sx_set (ex_whole (n := 72) (ex_ixl (m := 0) rfl h25 rfl) (fun _ e => ex_ixl (m := 1) rfl (h25.ext e) rfl) (fun _ e => ex_ixl (m := 2) rfl (h25.ext e) rfl) ax2 ay2 az2) fun v5 H6 k6 hv5 => ?_
    obtain ⟨o2, rfl, hP2⟩ := hv5
    have hP16 := hP1.ext k6
    have h16 := h1.ext (ext_trans k5 k6)
    have h26 := h25.ext k6
    have hlh6 := hlh3.ext (ext_trans k4 (ext_trans k5 k6))
    refine sx_for (G := fun x => ∃ c : Int, x = .int c ∧ (c = 0 ∨ IsPi c ∧ c < 1000)) (ex_chars rfl hlh6 b0) rfl (fun x hx H7 D' e7 nx => ?_) fun u6 H7 k7 => ?_
    · obtain ⟨c, rfl, hc⟩ := hx
      refine sx_if (tx_notF (tx_B (ex_right rfl rfl rfl rfl rfl (hP16.ext e7) (hP2.ext e7) (h16.ext e7) (h26.ext e7) hc))) fun H8 e8 => ?_
      have e78 := ext_trans e7 e8
      exact sx_if1 (tx_test (ex_neB (ex_poss rfl rfl (hP16.ext e78) (by decide) (hc.imp id And.left)) fun H9 e9 => ex_notNE (ex_norm rfl rfl (h16.ext (ext_trans e78 e9)) ⟨by omega, by omega, by omega, hc⟩))) fun H9 e9 => nx H9 (ext_trans e8 e9)
    have hP17 := hP16.ext k7
    have hP27 := hP2.ext k7
    have h17 := h16.ext k7
    have h27 := h26.ext k7
    refine sx_set (ex_lt (ex_var rfl) (fun _ _ => ex_var rfl) hP17 hP27 (by decide) (by decide) (by decide) (fun _ => rfl)) fun v7 H8 k8 hv7 => ?_
    obtain ⟨X, Y, Z, hc, l, rfl, hL⟩ := hv7
    obtain ⟨gX, gY, gZ⟩ := hL.num
    obtain ⟨rfl, rfl, rfl⟩ := crs_num hc gX gY gZ
    have hP18 := hP17.ext k8
    have hP28 := hP27.ext k8
    refine sx_if (tx_or (tx_test (ex_neB (a := decide (y1 * z2 - z1 * y2 = 0 ∧ z1 * x2 - x1 * z2 = 0 ∧ x1 * y2 - y1 * x2 = 0)) (ex_eqN (S := fun X Y Z => Crs (numL x2) (numL y2) (numL z2) (numL x1) (numL y1) (numL z1) X Y Z) (ex_var rfl) (fun H9 e9 => ex_lt (ex_var rfl) (fun _ _ => ex_var rfl) (hP28.ext e9) (hP18.ext e9) (by decide) (by decide) (by decide) (fun _ => rfl)) hL T.lnf ?c1) fun H9 e9 => ex_posNo rfl (hL.ext e9) (by decide) T.cnf (by rw [decide_eq_true_eq]))) fun H9 e9 => tx_notF (tx_test (ex_eqN (S := fun X Y Z => Crs (numL x1) (numL y1) (numL z1) (numL x2) (numL y2) (numL z2) X Y Z) (ex_var rfl) (fun H10 e10 => ex_lt (ex_var rfl) (fun _ _ => ex_var rfl) (hP18.ext (ext_trans e9 e10)) (hP28.ext (ext_trans e9 e10)) (by decide) (by decide) (by decide) (fun _ => rfl)) (hL.ext e9) T.lnf ?c2))) fun H9 k9 => ?_
    case c1 =>
      intro X2 Y2 Z2 hS2 g1 g2 g3
      obtain ⟨rfl, rfl, rfl⟩ := crs_num hS2 g1 g2 g3
      rw [decide_eq_true_eq, eqT_num, eqT_num, eqT_num]
      have f1 : y2 * z1 - z2 * y1 = -(y1 * z2 - z1 * y2) := by grind
      have f2 : z2 * x1 - x2 * z1 = -(z1 * x2 - x1 * z2) := by grind
      have f3 : x2 * y1 - y2 * x1 = -(x1 * y2 - y1 * x2) := by grind
      rw [f1, f2, f3]
      omega
    case c2 =>
      intro X2 Y2 Z2 hS2 g1 g2 g3
      obtain ⟨rfl, rfl, rfl⟩ := crs_num hS2 g1 g2 g3
      exact ⟨fun _ => ⟨eqT_rfl, eqT_rfl, eqT_rfl⟩, fun _ => rfl⟩
    have hL9 := hL.ext k9
    have hP19 := hP18.ext k9
    have hP29 := hP28.ext k9
    have h19 := h17.ext (ext_trans k8 k9)
    have h29 := h27.ext (ext_trans k8 k9)
    refine sx_if (tx_or (tx_test (ex_eqM (b := false) (ex_var rfl) (fun H10 e10 => ex_whole (n := 100) (z := z1 + 1) (ex_ixl (m := 0) rfl (h19.ext e10) rfl) (fun H11 e11 => ex_ixl (m := 1) rfl (h19.ext (ext_trans e10 e11)) rfl) (fun H11 e11 => ex_op (ex_ixl (m := 2) rfl (h19.ext (ext_trans e10 e11)) rfl) (fun _ _ _ _ => ex_c) fun x y _ _ _ q1 _ q2 => by subst q1 q2; exact fun Q q => ⟨_, _, rfl, rfl, q _ _ xid rfl⟩) (by omega) (by omega) (by omega)) hP19 T.pnf ⟨fun z => (by cases z), fun z => absurd (eqT_num.mp z.2.2) (by omega)⟩)) fun H10 k10 => tx_test (ex_eqPt rfl rfl (hL9.ext k10) (hP19.ext k10) T.lnp T.tp.is T.tp.cl T.kpl)) fun H10 k10 => ?_
    refine sx_if (tx_notF (tx_B (ex_LF rfl rfl rfl rfl (hP19.ext k10) (hP29.ext k10) (h19.ext k10) (h29.ext k10)))) fun H11 k11 => ?_
    have hP111 := hP19.ext (ext_trans k10 k11)
    exact sx_ret (P := isV (.bl true)) (ex_and (ex_notV (ex_eqLn rfl hP111 T.tp.cl T.tp.nC T.pnl T.tl.is T.tl.cl T.klp)) fun H12 e12 => ex_notV (ex_eqTup rfl (hP111.ext e12) T.tp.cl T.tp.nC T.pnt T.ktp)) fun v H' e hv => by subst hv; exact hQ H'
end
end K75
set_option Elab.async false
set_option linter.all false
set_option maxRecDepth 100000
set_option maxHeartbeats 4000000
namespace K75
open PySem PySem.Spec PyProof.Rows L2
/-! what the head tells of the defs -/
/-- where a def stands: a name of the module's, a class's method, a classmethod's own def -/
inductive Pl where
  | glo (x : Str)
  | met (x m : Str)
  | cme (x m : Str)
def recG (K : PySem.W.Frag) (p : Addr) : Addr := match PySem.W.recIn K p "classmethod" with
  | some (.ref g :: _) => g
  | _ => 0
abbrev cA (K : PySem.W.Frag) (x : Str) : Addr := He.ga K x
abbrev mA (K : PySem.W.Frag) (x m : Str) : Addr := He.ma K (He.ga K x) m
def Pl.a (K : PySem.W.Frag) : Pl → Addr
  | .glo x => He.ga K x
  | .met x m => mA K x m
  | .cme x m => recG K (mA K x m)
structure DefE where
  pl : Pl
  name : Str
  qual : Str
  st : Stmt
  cl : List Str
abbrev SeenE : Type := Option (Str × Str × Arguments × FuncBody × Scope × Addr × List Str × Addr)
def seenAt (K : PySem.W.Frag) (a : Addr) : SeenE := match K.lookup a with
  | some ⟨_, _, .func u, _⟩ => some (u.name, u.qualname, u.params, u.body, u.scope, u.globals, u.closure.map (·.1), u.builtins)
  | _ => none
def DefE.val (d : DefE) : SeenE := some (d.name, d.qual, defArgs d.st, .stmts (defBody d.st), defScope d.st, mainGlobals, d.cl, builtinsNs)
def noneB : Value → Bool
  | .none => true
  | _ => false
def DefE.ok (K : PySem.W.Frag) (d : DefE) : Bool := PySem.W.keepIn K (.ref (d.pl.a K)) && match K.lookup (d.pl.a K) with
  | some ⟨_, _, .func u, _⟩ => PySem.W.codeIn K u.code d.qual && noneB u.defaults
  | _ => false
theorem noneB_ok {v : Value} (h : noneB v = true) : v = .none := by
  cases v with
  | none => rfl
  | _ => cases h
theorem DefE.funD {K : PySem.W.Frag} {d : DefE} (e : seenAt K (d.pl.a K) = d.val) (hcl : d.cl = []) (c : d.ok K = true) : ∃ u, FunD K d.name d.qual (defArgs d.st) (defBody d.st) (defScope d.st) [] [] (d.pl.a K) u := by
  obtain ⟨kp, c2⟩ := Bool.and_eq_true_iff.mp c
  unfold seenAt at e
  cases q : K.lookup (d.pl.a K) with
  | none => rw [q] at c2; cases c2
  | some o =>
    obtain ⟨oc, od, dt, osl⟩ := o
    rw [q] at c2 e
    cases dt with
    | func u =>
      obtain ⟨m1, m2, m3, m4, m5, m6, m7, m8, m9, m10, m11, m12, m13, m14, m15⟩ := u
      have e2 : (some (m1, m2, m3, m4, m5, m6, m7.map (·.1), m15) : SeenE) = d.val := e
      unfold DefE.val at e2
      rw [hcl] at e2
      simp only [Option.some.injEq, Prod.mk.injEq] at e2
      obtain ⟨h1, h2, h3, h4, h5, h6, h7, h8⟩ := e2
      have h7' : m7 = [] := List.map_eq_nil_iff.mp h7
      subst h1 h2 h3 h4 h5 h6 h7' h8
      obtain ⟨k1, k2⟩ := Bool.and_eq_true_iff.mp (show (PySem.W.codeIn K m13 d.qual && noneB m8) = true from c2)
      obtain rfl := noneB_ok k2
      exact ⟨_, ⟨oc, od, .none, m9, m10, m11, m12, m13, m14, osl, rfl, q, k1, .inl ⟨rfl, rfl⟩, .inl rfl⟩, kp⟩
    | _ => cases c2
def cellB (C : Addr) : Option Obj → Bool
  | some ⟨_, _, .cell (some (.ref D)), _⟩ => decide (D = C)
  | _ => false
def strB (file : Str) : Option Value → Bool
  | some (.str fl _) => file == fl
  | _ => false
def fileB (file : Str) : Option Obj → Bool
  | some ⟨_, _, .fields vs, _⟩ => strB file (vs[2]?)
  | _ => false
theorem cellB_ok {C : Addr} {o : Option Obj} (h : cellB C o = true) : ∃ oc od osl, o = some ⟨oc, od, .cell (some (.ref C)), osl⟩ := by
  unfold cellB at h
  split at h
  · rename_i oc od D osl
    rw [of_decide_eq_true h]
    exact ⟨_, _, _, rfl⟩
  · cases h
theorem strB_ok {file : Str} {o : Option Value} (h : strB file o = true) : ∃ fl tf, o = some (.str fl tf) ∧ (file == fl) = true := by
  unfold strB at h
  split at h
  · exact ⟨_, _, rfl, h⟩
  · cases h
theorem fileB_ok {file : Str} {o : Option Obj} (h : fileB file o = true) : ∃ oc od osl vs fl tf, o = some ⟨oc, od, .fields vs, osl⟩ ∧ vs[2]? = some (.str fl tf) ∧ (file == fl) = true := by
  unfold fileB at h
  split at h
  · obtain ⟨fl, tf, h1, h2⟩ := strB_ok h
    exact ⟨_, _, _, _, fl, tf, rfl, h1, h2⟩
  · cases h
/-- a def that says super(): its cell holds the class C -/
def supB (K : PySem.W.Frag) (C : Addr) (file q : Str) (u : FuncData) : Bool := match u.closure, u.code with
  | [(_, cc)], .ref c => cellB C (K.lookup cc) && (fileB file (K.lookup c) && (PySem.W.codeIn K (.ref c) q && (noneB u.defaults && (noneB u.kwdefaults && u.annotations.isNone))))
  | _, _ => false
theorem supB_ok {K : PySem.W.Frag} {C : Addr} {file q : Str} {u : FuncData} (h : supB K C file q u = true) : ∃ y cc c, u.closure = [(y, cc)] ∧ u.code = .ref c ∧ cellB C (K.lookup cc) = true ∧ fileB file (K.lookup c) = true ∧ PySem.W.codeIn K (.ref c) q = true ∧ u.defaults = .none ∧ u.kwdefaults = .none ∧ u.annotations = none := by
  unfold supB at h
  split at h
  · rename_i y cc c e1 e2
    obtain ⟨c1, h⟩ := Bool.and_eq_true_iff.mp h
    obtain ⟨c2, h⟩ := Bool.and_eq_true_iff.mp h
    obtain ⟨c3, h⟩ := Bool.and_eq_true_iff.mp h
    obtain ⟨c4, h⟩ := Bool.and_eq_true_iff.mp h
    obtain ⟨c5, c6⟩ := Bool.and_eq_true_iff.mp h
    exact ⟨y, cc, c, e1, e2, c1, c2, c3, noneB_ok c4, noneB_ok c5, Option.isNone_iff_eq_none.mp c6⟩
  · cases h
def DefE.okS (K : PySem.W.Frag) (d : DefE) (C : Addr) (file : Str) : Bool := match K.lookup (d.pl.a K) with
  | some ⟨_, _, .func u, _⟩ => supB K C file d.qual u
  | _ => false
theorem DefE.sup {P : Program} {K : PySem.W.Frag} {mg : Str → Option Value} {d : DefE} {C : Addr} (e : seenAt K (d.pl.a K) = d.val) (hcl : d.cl = [("__class__" : Str)]) (c : d.okS K C P.main.file = true)
    (hC : ∃ cd, PySem.W.clsIn K C = some cd) (hs : mg "super" = none) (hf : ((defArgs d.st).posonlyargs ++ (defArgs d.st).args).head?.map (·.arg) = some ("self" : Str)) (ht : (P.main.scope.names.lookup ("super" : Str)).isSome = false)
    (ho : PySem.W.nsIn K cStatics "thirdparty.any" = some none) (k1 : (defScope d.st).names.lookup ("super" : Str) = some .globalImplicit) (k2 : (defScope d.st).names.lookup ("__class__" : Str) = some .free) (k3 : (defScope d.st).names.lookup ("self" : Str) = some .local) :
    ∃ cc cd doc pm ctv, SupD P K mg (nfX d.name d.qual d.st cc cd) (d.pl.a K) cc C "self" doc pm ctv := by
  unfold DefE.okS at c
  unfold seenAt at e
  cases q : K.lookup (d.pl.a K) with
  | none => rw [q] at c; cases c
  | some o =>
    obtain ⟨oc, od, dt, osl⟩ := o
    rw [q] at c e
    cases dt with
    | func u =>
      obtain ⟨y, cc, cd, e1, e2, c1, c2, c3, e4, e5, e6⟩ := supB_ok (u := u) c
      obtain ⟨m1, m2, m3, m4, m5, m6, m7, m8, m9, m10, m11, m12, m13, m14, m15⟩ := u
      dsimp only at e1 e2 e4 e5 e6
      subst e1 e2 e4 e5 e6
      have e2 : (some (m1, m2, m3, m4, m5, m6, [y], m15) : SeenE) = d.val := e
      unfold DefE.val at e2
      rw [hcl] at e2
      simp only [Option.some.injEq, Prod.mk.injEq, List.cons.injEq, and_true] at e2
      obtain ⟨h1, h2, h3, h4, h5, h6, h7, h8⟩ := e2
      subst h1 h2 h3 h4 h5 h6 h7 h8
      obtain ⟨oc2, od2, osl2, e7⟩ := cellB_ok c1
      exact ⟨cc, cd, m10, m11, m14, ⟨⟨oc, od, osl, q⟩, c3, rfl, ⟨oc2, od2, osl2, e7⟩, fileB_ok c2, hC, hs, hf, ht, ho, k1, k2, k3⟩⟩
    | _ => cases c
/-! what it tells of the classes -/
abbrev vT : Value := .type "type"
/-- an own class with plain instances -/
abbrev ClsF (K : PySem.W.Frag) (C : Addr) : Prop := PySem.W.plainGet K C Str.empty = true ∧ PySem.W.hasDictIn K C = true ∧ PySem.W.plainOver K C = true ∧ PySem.W.findIn K (.ref C) "__setattr__" = some (some (.builtin "object.__setattr__")) ∧
  PySem.W.findIn K (.ref C) "__class__" = some (some (.builtin "object.__class__")) ∧ PySem.W.specialIn K (.builtin "object.__class__") "__get__" = some (some (.builtin "getset_descriptor.__get__")) ∧ PySem.W.takesIn K (.builtin "object.__class__") = some true ∧
  PySem.W.mroIn K C (.type "object") = some true ∧ PySem.W.kitOne K (.ref C) (.ref C) = some true ∧ PySem.W.notFirst K C (.ref C) = true ∧ PySem.W.keepIn K (.ref C) = true ∧ PySem.W.selfFirst K C = true ∧
  PySem.W.readsIn K C vT = true ∧ PySem.W.specialIn K (.ref C) "__getattribute__" = some (some (.builtin "type.__getattribute__")) ∧
  PySem.W.makesIn K C = true ∧ PySem.W.findIn K (.ref C) "__init__" = some (some (.ref (He.ma K C "__init__"))) ∧ PySem.W.isFn K (.ref (He.ma K C "__init__")) = true ∧ PySem.W.mroIn K C (.ref C) = some true
theorem ClsF.cls {K : PySem.W.Frag} {C : Addr} (h : ClsF K C) : Cls K C := ⟨h.1, h.2.1, h.2.2.1, h.2.2.2.1⟩
theorem ClsF.is {K : PySem.W.Frag} {C : Addr} (h : ClsF K C) : IsI K C := ⟨h.2.2.2.2.1, h.2.2.2.2.2.1, h.2.2.2.2.2.2.1, h.2.2.2.2.2.2.2.1⟩
theorem ClsF.kt {K : PySem.W.Frag} {C : Addr} (h : ClsF K C) : PySem.W.kitOne K (.ref C) (.ref C) = some true := h.2.2.2.2.2.2.2.2.1
theorem ClsF.nf {K : PySem.W.Frag} {C : Addr} (h : ClsF K C) : PySem.W.notFirst K C (.ref C) = true := h.2.2.2.2.2.2.2.2.2.1
theorem ClsF.kp {K : PySem.W.Frag} {C : Addr} (h : ClsF K C) : PySem.W.keepIn K (.ref C) = true := h.2.2.2.2.2.2.2.2.2.2.1
theorem ClsF.sf {K : PySem.W.Frag} {C : Addr} (h : ClsF K C) : PySem.W.selfFirst K C = true := h.2.2.2.2.2.2.2.2.2.2.2.1
theorem ClsF.rd {K : PySem.W.Frag} {C : Addr} (h : ClsF K C) : ClX.CRead K C vT := ⟨h.2.2.2.2.2.2.2.2.2.2.2.2.1, h.2.2.2.2.2.2.2.2.2.2.2.2.2.1⟩
theorem ClsF.mk {K : PySem.W.Frag} {C : Addr} (h : ClsF K C) : Mk K C (He.ma K C "__init__") := ⟨h.2.2.2.2.2.2.2.2.2.2.2.2.2.2.1, h.2.2.2.2.2.2.2.2.2.2.2.2.2.2.2.1, h.2.2.2.2.2.2.2.2.2.2.2.2.2.2.2.2.1, h.kp⟩
theorem ClsF.mro {K : PySem.W.Frag} {C : Addr} (h : ClsF K C) : PySem.W.mroIn K C (.ref C) = some true := h.2.2.2.2.2.2.2.2.2.2.2.2.2.2.2.2.2
abbrev MetF (K : PySem.W.Frag) (C : Addr) (m : Str) : Prop := PySem.W.findIn K (.ref C) m = some (some (.ref (He.ma K C m))) ∧ PySem.W.isFn K (.ref (He.ma K C m)) = true ∧ PySem.W.keepIn K (.ref (He.ma K C m)) = true
theorem MetF.met {K : PySem.W.Frag} {C : Addr} {m : Str} (h : MetF K C m) : Meth K C m (He.ma K C m) := ⟨h.1, h.2.1, h.2.2⟩
/-- a classmethod -/
def fndB (p C : Addr) : Option PySem.W.CFound → Bool
  | some (.get (.builtin b) (.ref q) .none (.ref D)) => decide (b = "classmethod.__get__") && (decide (q = p) && decide (D = C))
  | _ => false
def hdB : Option (List Value) → Bool
  | some (.ref _ :: _) => true
  | _ => false
def cmB (K : PySem.W.Frag) (C : Addr) (m : Str) : Bool := fndB (He.ma K C m) C (PySem.W.findCls K (.ref C) vT m) && (hdB (PySem.W.recIn K (He.ma K C m) "classmethod") && PySem.W.fnIn K (recG K (He.ma K C m)))
theorem fndB_ok {p C : Addr} {o : Option PySem.W.CFound} (h : fndB p C o = true) : o = some (.get (.builtin "classmethod.__get__") (.ref p) .none (.ref C)) := by
  unfold fndB at h
  split at h
  · obtain ⟨a1, a2⟩ := Bool.and_eq_true_iff.mp h
    obtain ⟨a2, a3⟩ := Bool.and_eq_true_iff.mp a2
    rw [of_decide_eq_true a1, of_decide_eq_true a2, of_decide_eq_true a3]
  · cases h
theorem recG_ok {K : PySem.W.Frag} {p : Addr} (h : hdB (PySem.W.recIn K p "classmethod") = true) : ∃ rest, PySem.W.recIn K p "classmethod" = some (.ref (recG K p) :: rest) := by
  unfold recG
  unfold hdB at h
  split at h
  · rename_i g rest e
    exact ⟨rest, by rw [e]⟩
  · cases h
theorem cmB_ok {K : PySem.W.Frag} {C : Addr} {m : Str} (h : cmB K C m = true) : ClX.CMet K C vT m (He.ma K C m) (recG K (He.ma K C m)) := by
  obtain ⟨h1, h⟩ := Bool.and_eq_true_iff.mp h
  obtain ⟨h2, h3⟩ := Bool.and_eq_true_iff.mp h
  exact ⟨fndB_ok h1, recG_ok h2, h3⟩
/-- an own exception class with an own __init__ -/
def mroB (C : Addr) : List Value → Bool
  | .ref D :: bm => decide (D = C) && PySem.HandSPX.refsVE bm
  | _ => false
def sltB : List (Option Value) → Bool
  | [_, _, _, _, some (.builtin n), _] => decide (n = "ValueError.__new__")
  | _ => false
def ecdB (C : Addr) (cd : ClassData) : Bool := mroB C cd.mro && (!cd.hasDel && cd.hasDict)
def typB : Value → Bool
  | .type t => decide (t = "type")
  | _ => false
def excB (K : PySem.W.Frag) (C : Addr) : Bool := match K.lookup C with
  | some ⟨t, _, .cls cd, sl⟩ => typB t && (ecdB C cd && sltB sl.toList)
  | _ => false
theorem mroB_ok {C : Addr} {l : List Value} (h : mroB C l = true) : ∃ bm, l = .ref C :: bm ∧ PySem.HandSPX.refsVE bm = true := by
  unfold mroB at h
  split at h
  · rename_i D bm
    obtain ⟨h1, h2⟩ := Bool.and_eq_true_iff.mp h
    rw [of_decide_eq_true h1]
    exact ⟨bm, rfl, h2⟩
  · cases h
theorem sltB_ok {l : List (Option Value)} (h : sltB l = true) : ∃ k0 k1 k2 k3 k5, l = [k0, k1, k2, k3, some (.builtin "ValueError.__new__"), k5] := by
  unfold sltB at h
  split at h
  · rename_i k0 k1 k2 k3 n k5
    rw [of_decide_eq_true h]
    exact ⟨k0, k1, k2, k3, k5, rfl⟩
  · cases h
theorem typB_ok {v : Value} (h : typB v = true) : v = .type "type" := by
  unfold typB at h
  split at h
  · rw [of_decide_eq_true h]
  · cases h
abbrev ExcF (K : PySem.W.Frag) (C : Addr) (fl : Str) : Prop := excB K C = true ∧ PySem.W.findIn K (.ref C) "__setattr__" = some (some (.builtin "object.__setattr__")) ∧ PySem.W.subIn K (.ref C) (.type "BaseException") = some true ∧ PySem.W.typeIn K (.ref C) = some (.type "type") ∧ PySem.W.keepIn K (.ref C) = true ∧
  xfB K C = true ∧ PySem.W.findIn K (.ref C) fl = some none ∧ PySem.W.mroIn K C (.ref C) = some true ∧ PySem.W.ks_superIn K C C "__init__" = some (some (.builtin "ValueError.__init__")) ∧ PySem.W.subIn K (.ref C) (.type "ValueError") = some true ∧
  PySem.W.findIn K (.ref C) "__init__" = some (some (.ref (He.ma K C "__init__"))) ∧ PySem.W.typeIn K (.ref (He.ma K C "__init__")) = some (.type "function") ∧ (PySem.W.clsIn K C).isSome = true
theorem excB_ok {K : PySem.W.Frag} {C : Addr} (h : excB K C = true) : ∃ nm q N bs bm sn sub ab col dd k0 k1 k2 k3 k5, K.lookup C = some (excClassObj nm q C N bs bm true sn sub ab col dd k0 k1 k2 k3 k5 "ValueError.__new__") ∧ PySem.HandSPX.refsVE bm = true := by
  unfold excB at h
  split at h
  · rename_i t dd cd sl ql
    obtain ⟨h0, h⟩ := Bool.and_eq_true_iff.mp h
    obtain ⟨h1, h2⟩ := Bool.and_eq_true_iff.mp h
    obtain rfl := typB_ok h0
    obtain ⟨k0, k1, k2, k3, k5, e2⟩ := sltB_ok h2
    have e2' : sl = #[k0, k1, k2, k3, some (.builtin "ValueError.__new__"), k5] := by rw [← e2, Array.toArray_toList]
    subst e2'
    obtain ⟨nm, bs, mro, ns, qn, hd, sn, sub, ab, col, del⟩ := cd
    unfold ecdB at h1
    dsimp only at h1
    obtain ⟨h3, h4⟩ := Bool.and_eq_true_iff.mp h1
    obtain ⟨h5, h6⟩ := Bool.and_eq_true_iff.mp h4
    obtain ⟨bm, rfl, h7⟩ := mroB_ok h3
    have e3 : del = false := by
      cases del with
      | false => rfl
      | true => cases h5
    subst e3 h6
    exact ⟨nm, qn, ns, bs, bm, sn, sub, ab, col, dd, k0, k1, k2, k3, k5, ql, h7⟩
  · cases h
theorem ExcF.oex {K : PySem.W.Frag} {C : Addr} {fl : Str} (h : ExcF K C fl) : OexC K C := ⟨excB_ok h.1, h.2.1, h.2.2.1, h.2.2.2.1, h.2.2.2.2.1⟩
theorem ExcF.xf {K : PySem.W.Frag} {C : Addr} {fl : Str} (h : ExcF K C fl) : XfC K C := xfB_ok h.2.2.2.2.2.1
end K75
set_option Elab.async false
set_option linter.all false
set_option maxRecDepth 100000
set_option maxHeartbeats 4000000
namespace K75
open PySem PySem.Spec PyProof.Rows L2
/-! the lists of what is told -/
def plainD0 : List DefE := [⟨.glo "common", "common", "common", sCommon, []⟩, ⟨.glo "combination", "combination", "combination", sComb, []⟩, ⟨.glo "prime_divisors", "prime_divisors", "prime_divisors", sPD, []⟩, ⟨.glo "is_prime", "is_prime", "is_prime", sIsP, []⟩, ⟨.glo "checked", "checked", "checked", sChk, []⟩, ⟨.met "Chars" "__init__", "__init__", "Chars.__init__", sChI, []⟩, ⟨.cme "Chars" "every", "every", "Chars.every", sChEv, []⟩, ⟨.cme "Chars" "none", "none", "Chars.none", sChNo, []⟩, ⟨.cme "Chars" "zero_of", "zero_of", "Chars.zero_of", sChZ, []⟩, ⟨.met "Chars" "__contains__", "__contains__", "Chars.__contains__", sChC, []⟩, ⟨.met "Chars" "__invert__", "__invert__", "Chars.__invert__", sChV, []⟩, ⟨.met "Chars" "__and__", "__and__", "Chars.__and__", sChA, []⟩]
def plainD1 : List DefE := [⟨.met "Chars" "__eq__", "__eq__", "Chars.__eq__", sChE, []⟩, ⟨.glo "shared", "shared", "shared", sSh, []⟩, ⟨.glo "gathered", "gathered", "gathered", sGa, []⟩, ⟨.met "Many" "__init__", "__init__", "Many.__init__", sMI, []⟩, ⟨.cme "Many" "number", "number", "Many.number", sMNum, []⟩, ⟨.cme "Many" "unknown", "unknown", "Many.unknown", sMUnk, []⟩, ⟨.met "Many" "__add__", "__add__", "Many.__add__", sMAdd, []⟩, ⟨.met "Many" "__neg__", "__neg__", "Many.__neg__", sMNeg, []⟩, ⟨.met "Many" "__sub__", "__sub__", "Many.__sub__", sMSub, []⟩, ⟨.met "Many" "__mul__", "__mul__", "Many.__mul__", sMMul, []⟩, ⟨.met "Many" "__eq__", "__eq__", "Many.__eq__", sMEq, []⟩, ⟨.met "Many" "names", "names", "Many.names", sMNames, []⟩]
def plainD2 : List DefE := [⟨.met "Many" "content", "content", "Many.content", sMCont, []⟩, ⟨.met "Many" "vanishing", "vanishing", "Many.vanishing", sMVan, []⟩, ⟨.met "Many" "put", "put", "Many.put", sMPut, []⟩, ⟨.met "Many" "value", "value", "Many.value", sMVal, []⟩, ⟨.glo "product_terms", "product_terms", "product_terms", sPT, []⟩, ⟨.glo "cross", "cross", "cross", sCross, []⟩, ⟨.glo "dot", "dot", "dot", sDot, []⟩, ⟨.glo "there", "there", "there", sThere, []⟩, ⟨.met "Point" "__init__", "__init__", "Triple.__init__", sTI, []⟩, ⟨.met "Line" "__init__", "__init__", "Triple.__init__", sTI, []⟩, ⟨.met "Triple" "seen", "seen", "Triple.seen", sSeenT, []⟩, ⟨.cme "Point" "whole", "whole", "Point.whole", sWhole, []⟩]
def plainD3 : List DefE := [⟨.cme "Point" "loose", "loose", "Point.loose", sLoose, []⟩, ⟨.met "Point" "__eq__", "__eq__", "Point.__eq__", sPEq, []⟩, ⟨.met "Point" "possible", "possible", "Point.possible", sPPos, []⟩, ⟨.met "Point" "line_to", "line_to", "Point.line_to", sLT, []⟩, ⟨.met "Point" "off", "off", "Point.off", sOff, []⟩, ⟨.met "Line" "__eq__", "__eq__", "Line.__eq__", sLEq, []⟩, ⟨.met "Line" "possible", "possible", "Line.possible", sLPos, []⟩, ⟨.met "Line" "crossing", "crossing", "Line.crossing", sCrg, []⟩, ⟨.glo "normal", "normal", "normal", sNorm, []⟩, ⟨.glo "points_of", "points_of", "points_of", sPts, []⟩, ⟨.glo "points_on", "points_on", "points_on", sOn, []⟩, ⟨.glo "_law_cell", "_law_cell", "_law_cell", sCell, []⟩]
def plainD4 : List DefE := [⟨.glo "_law_draws", "_law_draws", "_law_draws", sDraws, []⟩, ⟨.glo "_law_is_prime", "_law_is_prime", "_law_is_prime", sLIsP, []⟩, ⟨.glo "_law_prime_from", "_law_prime_from", "_law_prime_from", sPF, []⟩, ⟨.glo "_law_normal", "_law_normal", "_law_normal", sLN, []⟩, ⟨.glo "_law_seen", "_law_seen", "_law_seen", sLSeen, []⟩, ⟨.glo "_law_right", "_law_right", "_law_right", sRight, []⟩, ⟨.glo "_law_loose_fits", "_law_loose_fits", "_law_loose_fits", sLF, []⟩, ⟨.glo "law", "law", "law", sLaw, []⟩]
def plainD : List DefE := plainD0 ++ plainD1 ++ plainD2 ++ plainD3 ++ plainD4
def superD0 : List DefE := [⟨.met "BadCharacteristic" "__init__", "__init__", "BadCharacteristic.__init__", sBad, ["__class__"]⟩, ⟨.met "UnknownName" "__init__", "__init__", "UnknownName.__init__", sUnk, ["__class__"]⟩, ⟨.met "Point" "seen", "seen", "Point.seen", sSeenP, ["__class__"]⟩, ⟨.met "Line" "seen", "seen", "Line.seen", sSeenL, ["__class__"]⟩]
def superD : List DefE := superD0
def gloN0 : List Str := ["common", "combination", "prime_divisors", "is_prime", "checked", "shared", "gathered", "product_terms", "cross", "dot", "there", "normal", "points_of", "points_on", "_law_cell"]
def gloN1 : List Str := ["_law_draws", "_law_is_prime", "_law_prime_from", "_law_normal", "_law_seen", "_law_right", "_law_loose_fits", "law", "Chars", "Many", "Point", "Line", "BadCharacteristic", "UnknownName"]
def gloN : List Str := gloN0 ++ gloN1
def freeN0 : List Str := ["abs", "tuple", "zip", "max", "len", "range", "int", "set", "sorted", "isinstance", "list", "super"]
def freeN : List Str := freeN0
def metN0 : List (Str × Str) := [("Chars", "__contains__"), ("Chars", "__invert__"), ("Chars", "__and__"), ("Chars", "__eq__"), ("Many", "__add__"), ("Many", "__neg__"), ("Many", "__sub__"), ("Many", "__mul__"), ("Many", "__eq__"), ("Many", "names"), ("Many", "content"), ("Many", "vanishing")]
def metN1 : List (Str × Str) := [("Many", "put"), ("Many", "value"), ("Point", "__eq__"), ("Point", "possible"), ("Point", "seen"), ("Point", "line_to"), ("Point", "off"), ("Line", "__eq__"), ("Line", "possible"), ("Line", "seen"), ("Line", "crossing")]
def metN : List (Str × Str) := metN0 ++ metN1
def cmeN0 : List (Str × Str) := [("Chars", "every"), ("Chars", "none"), ("Chars", "zero_of"), ("Many", "number"), ("Many", "unknown"), ("Point", "whole"), ("Point", "loose")]
def cmeN : List (Str × Str) := cmeN0
def noaN0 : List (Str × Str) := [("Chars", "endless"), ("Chars", "primes"), ("Many", "terms"), ("Point", "coordinates"), ("Line", "coordinates")]
def noaN : List (Str × Str) := noaN0
/-- a few more -/
abbrev MoreF (K : PySem.W.Frag) : Prop := PySem.W.exmOne K (.ref (cA K "UnknownName")) (.ref (cA K "UnknownName")) = some true ∧ PySem.W.exmOne K (.ref (cA K "BadCharacteristic")) (.ref (cA K "UnknownName")) = some false ∧ PySem.W.exmOne K (.ref (cA K "BadCharacteristic")) (.ref (cA K "BadCharacteristic")) = some true ∧
  PySem.W.notFirst K (cA K "Line") (.ref (cA K "Point")) = true ∧ PySem.W.notFirst K (cA K "Point") (.ref (cA K "Line")) = true ∧ PySem.W.notFirst K (cA K "Point") (.type "tuple") = true ∧
  PySem.W.kitOne K (.ref (cA K "Point")) (.ref (cA K "Line")) = some false ∧ PySem.W.kitOne K (.ref (cA K "Line")) (.ref (cA K "Point")) = some false ∧ PySem.W.kitOne K (.type "tuple") (.ref (cA K "Point")) = some false ∧
  PySem.W.ks_superIn K (cA K "Point") (cA K "Point") "seen" = some (some (.ref (mA K "Triple" "seen"))) ∧ PySem.W.ks_superIn K (cA K "Line") (cA K "Line") "seen" = some (some (.ref (mA K "Triple" "seen"))) ∧
  PySem.W.typeIn K (.ref (mA K "Triple" "seen")) = some (.type "function") ∧ PySem.W.fnIn K (mA K "Triple" "seen") = true ∧ PySem.W.nsIn K cStatics "thirdparty.any" = some none ∧ (PySem.W.clsIn K (cA K "Point")).isSome = true ∧ (PySem.W.clsIn K (cA K "Line")).isSome = true
def factB (K : PySem.W.Frag) (file : Str) : List Bool := [gloN.all fun x => decide (PySem.W.nsIn K mainGlobals x = some (some (.ref (He.ga K x)))), freeN.all fun x => decide (PySem.W.nsIn K mainGlobals x = some none),
  decide (ClsF K (cA K "Chars")), decide (ClsF K (cA K "Many")), decide (ClsF K (cA K "Point")), decide (ClsF K (cA K "Line")), decide (ExcF K (cA K "BadCharacteristic") "p"), decide (ExcF K (cA K "UnknownName") "name"), decide (MoreF K),
  metN.all fun q => decide (MetF K (cA K q.1) q.2), cmeN.all fun q => cmB K (cA K q.1) q.2, noaN.all fun q => decide (PySem.W.findIn K (.ref (cA K q.1)) q.2 = some none), plainD.all fun d => d.ok K,
  superD.all fun d => d.okS K (match d.pl with | .met x _ => cA K x | _ => 0) file]
/-- the objects that are looked at -/
def adrL0 : List Addr := [3, 2, 310, 309, 437, 436, 498, 497, 569, 568, 611, 610, 74, 73, 116, 115, 31, 30, 59, 70, 71, 101, 112, 113, 169, 170, 176, 177, 179, 186]
def adrL1 : List Addr := [187, 189, 216, 217, 219, 244, 245, 251, 252, 258, 259, 279, 280, 337, 338, 344, 345, 347, 354, 355, 357, 364, 365, 369, 370, 376, 377, 383, 384, 390]
def adrL2 : List Addr := [391, 400, 401, 414, 415, 421, 422, 426, 427, 433, 434, 482, 483, 494, 495, 506, 516, 517, 519, 526, 527, 529, 536, 537, 543, 544, 551, 552, 558, 559]
def adrL3 : List Addr := [565, 566, 575, 585, 586, 592, 593, 600, 601, 607, 608, 124, 125, 129, 130, 136, 137, 143, 144, 150, 151, 318, 319, 323, 324, 447, 448, 454, 455, 461]
def adrL4 : List Addr := [462, 468, 469, 617, 618, 624, 625, 629, 630, 636, 637, 643, 644, 657, 658, 664, 665, 669, 670, 676, 677, 683, 684, 688, 689, 693, 694]
def adrL : List Addr := adrL0 ++ adrL1 ++ adrL2 ++ adrL3 ++ adrL4
def frK (g : Addr → Option Obj) : PySem.W.Frag := He.frG g adrL
abbrev AlK : Type := Bool × List SeenE
def obsK (K : PySem.W.Frag) (file : Str) : AlK := ((factB K file).all id, (plainD ++ superD).map fun d => seenAt K (d.pl.a K))
def valK : AlK := (true, (plainD ++ superD).map DefE.val)
def hookK (file : Str) : PySem.W.Hook where
  α := AlK
  obs := fun s => obsK (frK s.heap.get?) file
  val := fun _ => valK
  says := fun _ h => ∃ K : PySem.W.Frag, K.In h ∧ obsK K file = valK
  of := fun _ _ e => ⟨_, He.frG_in, e⟩
  keeps := fun _ _ _ ⟨K, hK, c⟩ k => ⟨K, PySem.W.Frag.In.keeps hK k, c⟩
theorem obsK_eq {file : Str} {g : Addr → Option Obj} {s : Shared} (h : ∀ a, g a = s.heap.get? a) : obsK (frK g) file = (hookK file).obs s := by
  have e : g = s.heap.get? := funext h
  rw [e]
  rfl
end K75
set_option Elab.async false
set_option linter.all false
set_option maxRecDepth 100000
set_option maxHeartbeats 0
namespace K75
open PySem PySem.W PySem.Calls PyProof.Rows
abbrev R : OpenRow := OpenLaw.row PySem.Challenge.rw_everyfield_k75_whole_points_and_lines
abbrev cutF : PySem.Str := "/claim/cut.py"
def names1 : List PySem.Str := ["_wall", "FieldError", "BadNumber", "BadCharacteristic", "BadText", "UnknownName", "common", "combination", "prime_divisors", "is_prime", "checked"]
def names2 : List PySem.Str := ["MOST_PRIME", "MOST_DIGITS", "is_number", "Chars", "shared", "gathered", "Many", "product_terms", "cross", "dot", "there", "Triple"]
def names3 : List PySem.Str := ["Point", "Line", "normal", "points_of", "points_on", "_law_cell", "_law_draws", "_law_is_integer", "_law_is_prime", "_law_prime_from", "_law_normal", "_law_seen", "_law_right", "_law_loose_fits"]
def names : List PySem.Str := names1 ++ names2 ++ names3
def obT (s : SharedT) : AlK := obsK (frK (HandSHeadRun.getT s)) cutF
theorem obT_eq (s : SharedT) : obT s = (hookK cutF).obs s.abs := obsK_eq (HandSHeadRun.getT_eq s)
theorem run (w : World) : HandSHeadRun.RunEq R (view R.prog [43]) (hookK cutF) obT 7000 names w := by
  intro os
  kernel_rfl
end K75
set_option Elab.async false
set_option linter.all false
set_option maxRecDepth 100000
set_option maxHeartbeats 4000000
namespace K75
open PySem PySem.Spec PyProof.Rows L2
/-! from what is told to what law leans on -/
section
variable {P : Program} {w : World} {K : PySem.W.Frag} {mg : Str → Option Value} {base : Heap} {file : Str}
theorem tell (c : obsK K file = valK) (i : Nat) {b : Bool} (h : (factB K file)[i]? = some b := by rfl) : b = true := by
  have e : (factB K file).all id = true := congrArg (fun z : AlK => z.1) c
  exact List.all_eq_true.mp e b (List.mem_of_getElem? h)
theorem tellD (c : obsK K file = valK) {d : DefE} (h : d ∈ plainD ++ superD) : seenAt K (d.pl.a K) = d.val := by
  have e : (plainD ++ superD).map (fun d => seenAt K (d.pl.a K)) = (plainD ++ superD).map DefE.val := congrArg (fun z : AlK => z.2) c
  exact List.map_inj_left.mp e d h
theorem fnD (c : obsK K file = valK) (i : Nat) {d : DefE} (h : plainD[i]? = some d := by rfl) (hcl : d.cl = [] := by rfl) : ∃ u, FunD K d.name d.qual (defArgs d.st) (defBody d.st) (defScope d.st) [] [] (d.pl.a K) u := by
  have hm := List.mem_of_getElem? h
  exact DefE.funD (tellD c (List.mem_append_left _ hm)) hcl (List.all_eq_true.mp (tell c 12) d hm)
theorem supD (c : obsK K file = valK) (hf : P.main.file = file) (ht : (P.main.scope.names.lookup ("super" : Str)).isSome = false) (i : Nat) {d : DefE} {C : Addr} (h : superD[i]? = some d) (hcl : d.cl = [("__class__" : Str)]) (hp : (match d.pl with | .met x _ => cA K x | _ => 0) = C)
    (hC : ∃ cd, PySem.W.clsIn K C = some cd) (hs : mg "super" = none) (hfi : ((defArgs d.st).posonlyargs ++ (defArgs d.st).args).head?.map (·.arg) = some ("self" : Str))
    (ho : PySem.W.nsIn K cStatics "thirdparty.any" = some none) (k1 : (defScope d.st).names.lookup ("super" : Str) = some .globalImplicit) (k2 : (defScope d.st).names.lookup ("__class__" : Str) = some .free) (k3 : (defScope d.st).names.lookup ("self" : Str) = some .local) :
    ∃ cc cd doc pm ctv, SupD P K mg (nfX d.name d.qual d.st cc cd) (d.pl.a K) cc C "self" doc pm ctv := by
  have hm := List.mem_of_getElem? h
  have h2 := List.all_eq_true.mp (tell c 13) d hm
  have h3 : d.okS K C P.main.file = true := by rw [hf, ← hp]; exact h2
  exact DefE.sup (tellD c (List.mem_append_right _ hm)) hcl h3 hC hs hfi ht ho k1 k2 k3
variable {CX : CXT} {k n : Nat} {f C : Addr} {fd : FuncData} {ps ks : List Str} {sp : Sp} {x m q : Str} {st : Stmt}
theorem fnr_of (F : FnOk P w K mg base CX k f fd ps sp) (hb : Binds K fd ps []) : FnR P w K mg base CX k f sp := (F.raw hb .nil).imp fun vs H Q E h => by rw [List.append_nil]; exact h
theorem cal_of (hm : mg x = some (.ref f)) (kp : PySem.W.keepIn K (.ref f) = true) (F : FnOk P w K mg base CX k f fd ps sp) (hb : Binds K fd ps []) : Cal P w K mg base CX k x sp := ⟨_, hm, kp, fnr_of F hb⟩
theorem met_of (h : MetF K C m) (cl : Cls K C) (F : FnOk P w K mg base CX k (He.ma K C m) fd ps sp) (hb : Binds K fd ps []) : Met P w K mg base CX k C m sp := ⟨cl, _, h.met, fnr_of F hb⟩
theorem opr_of (h : MetF K C m) (F : FnOk P w K mg base CX k (He.ma K C m) fd ps sp) (hb : Binds K fd ps []) : Opr P w K mg base CX k C m sp := ⟨_, h.1, h.2.1, fnr_of F hb⟩
theorem clm_of (hC : ClsF K C) (h : cmB K C m = true) (F : FnOk P w K mg base CX k (recG K (He.ma K C m)) fd ps sp) (hb : Binds K fd ps []) : ClM P w K mg base CX k C m sp := ⟨vT, _, _, hC.rd, cmB_ok h, fnr_of F hb⟩
theorem mak_of (hC : ClsF K C) (F : FnOk P w K mg base CX k (He.ma K C "__init__") fd ps sp) (hb : Binds K fd ps []) : Mak P w K mg base CX k C sp := ⟨_, hC.mk, fnr_of F hb⟩
theorem kbn_raw (h : ∀ us ws : List Value, us.length = n → ws.length = ks.length → bindArgs fd ⟨us, ks.zip ws⟩ = pure (ps.zip (us ++ ws))) : KBn K fd ps n ks (fun us ws => us ++ ws) (fun vs zs => vs ++ zs) := ⟨fun s us ws _ l1 l2 => .of_eq (h us ws l1 l2), fun r1 r2 => r1.append r2⟩
theorem kbn_of (F : FnP K x q st f fd) (h : ∀ (kV doc pm : Value) (an : Option Addr) (cdv ct : Value) (us ws : List Value), us.length = n → ws.length = ks.length → bindArgs (PySem.W.fnOf x q (defArgs st) (defBody st) (defScope st) .none kV doc pm an cdv ct) ⟨us, ks.zip ws⟩ = pure (ps.zip (us ++ ws))) :
    KBn K fd ps n ks (fun us ws => us ++ ws) (fun vs zs => vs ++ zs) := by
  obtain ⟨oc, od, dV, kV, doc, pm, an, cdv, ct, osl, rfl, lk, hcd, hD, hK⟩ := F.ex
  rcases hD with ⟨_, rfl⟩ | ⟨e, _⟩
  · exact kbn_raw (h kV doc pm an cdv ct)
  · exact absurd rfl e
set_option maxHeartbeats 0 in
theorem all_ok (c : obsK K file = valK) (hf : P.main.file = file) (ht : (P.main.scope.names.lookup ("super" : Str)).isSome = false) (gl : ∀ x ∈ gloN, mg x = some (.ref (He.ga K x))) (fr : ∀ x ∈ freeN, mg x = none) :
    LaT P w K mg base (cA K "Chars") (cA K "Many") (cA K "Point") (cA K "Line") (cA K "BadCharacteristic") (cA K "UnknownName") := by
  have hCC : ClsF K (cA K "Chars") := of_decide_eq_true (tell c 2)
  have hCM : ClsF K (cA K "Many") := of_decide_eq_true (tell c 3)
  have hCP : ClsF K (cA K "Point") := of_decide_eq_true (tell c 4)
  have hCL : ClsF K (cA K "Line") := of_decide_eq_true (tell c 5)
  have hB : ExcF K (cA K "BadCharacteristic") "p" := of_decide_eq_true (tell c 6)
  have hU : ExcF K (cA K "UnknownName") "name" := of_decide_eq_true (tell c 7)
  have hM : MoreF K := of_decide_eq_true (tell c 8)
  have mt : ∀ (x m : Str), (x, m) ∈ metN → MetF K (cA K x) m := fun x m h => of_decide_eq_true (List.all_eq_true.mp (tell c 9) (x, m) h)
  have cm : ∀ (x m : Str), (x, m) ∈ cmeN → cmB K (cA K x) m = true := fun x m h => List.all_eq_true.mp (tell c 10) (x, m) h
  have na : ∀ (x m : Str), (x, m) ∈ noaN → NoAttr K (cA K x) m := fun x m h => (of_decide_eq_true (List.all_eq_true.mp (tell c 11) (x, m) h) : PySem.W.findIn K (.ref (cA K x)) m = some none)
  have gA := fr "abs" (by decide +kernel)
  have gTu := fr "tuple" (by decide +kernel)
  have gZ := fr "zip" (by decide +kernel)
  have gMx := fr "max" (by decide +kernel)
  have gLe := fr "len" (by decide +kernel)
  have gRa := fr "range" (by decide +kernel)
  have gIn := fr "int" (by decide +kernel)
  have gSe := fr "set" (by decide +kernel)
  have gSo := fr "sorted" (by decide +kernel)
  have gIs := fr "isinstance" (by decide +kernel)
  have gLs := fr "list" (by decide +kernel)
  have gCh := gl "Chars" (by decide +kernel)
  have gMa := gl "Many" (by decide +kernel)
  have gPo := gl "Point" (by decide +kernel)
  have gLi := gl "Line" (by decide +kernel)
  have TC : ChT K mg (cA K "Chars") := ⟨hCC.cls, na "Chars" "endless" (by decide +kernel), na "Chars" "primes" (by decide +kernel), hCC.is, hCC.kt, gCh, gSe, gSo, gTu, gIs, hCC.kp⟩
  have TM : MnT K mg (cA K "Many") := ⟨hCM.cls, na "Many" "terms" (by decide +kernel), hCM.is, hCM.kt, gMa, gLs, gIs, gSo, gTu, hCM.sf⟩
  have TP : PtT K mg "Point" (cA K "Point") := ⟨hCP.cls, na "Point" "coordinates" (by decide +kernel), hCP.is, hCP.kt, gPo, gIs⟩
  have TL : PtT K mg "Line" (cA K "Line") := ⟨hCL.cls, na "Line" "coordinates" (by decide +kernel), hCL.is, hCL.kt, gLi, gIs⟩
  obtain ⟨u_common, F_common⟩ := fnD c 0 (d := ⟨.glo "common", "common", "common", sCommon, []⟩)
  have F_common : FnP K "common" "common" sCommon (He.ga K "common") u_common := F_common
  have k_common := ok_common (P := P) (w := w) (mg := mg) (base := base) F_common gA
  have b_common : Binds K u_common ["a", "b"] [] := FunD.bindsN F_common (fun _ _ _ _ _ _ us hl => match us, hl with | [_, _], _ => rfl)
  have c_common : Cal P w K mg base CX0 1 "common" spCommon := cal_of (gl "common" (by decide +kernel)) F_common.kp k_common b_common
  obtain ⟨u_comb, F_comb⟩ := fnD c 1 (d := ⟨.glo "combination", "combination", "combination", sComb, []⟩)
  have F_comb : FnP K "combination" "combination" sComb (He.ga K "combination") u_comb := F_comb
  have k_comb := ok_comb (P := P) (w := w) (mg := mg) (base := base) F_comb gTu gZ
  have b_comb : Binds K u_comb ["a", "b"] [] := FunD.bindsN F_comb (fun _ _ _ _ _ _ us hl => match us, hl with | [_, _], _ => rfl)
  have c_comb : Cal P w K mg base CX0 1 "combination" (spComb K) := cal_of (gl "combination" (by decide +kernel)) F_comb.kp k_comb b_comb
  obtain ⟨u_pd, F_pd⟩ := fnD c 2 (d := ⟨.glo "prime_divisors", "prime_divisors", "prime_divisors", sPD, []⟩)
  have F_pd : FnP K "prime_divisors" "prime_divisors" sPD (He.ga K "prime_divisors") u_pd := F_pd
  have k_pd := ok_pd (P := P) (w := w) (mg := mg) (base := base) F_pd gA
  have b_pd : Binds K u_pd ["n"] [] := FunD.bindsN F_pd (fun _ _ _ _ _ _ us hl => match us, hl with | [_], _ => rfl)
  have c_pd : Cal P w K mg base CX0 1 "prime_divisors" spPD := cal_of (gl "prime_divisors" (by decide +kernel)) F_pd.kp k_pd b_pd
  obtain ⟨u_isP, F_isP⟩ := fnD c 3 (d := ⟨.glo "is_prime", "is_prime", "is_prime", sIsP, []⟩)
  have F_isP : FnP K "is_prime" "is_prime" sIsP (He.ga K "is_prime") u_isP := F_isP
  have k_isP := ok_isP (P := P) (w := w) (mg := mg) (base := base) F_isP
  have b_isP : Binds K u_isP ["n"] [] := FunD.bindsN F_isP (fun _ _ _ _ _ _ us hl => match us, hl with | [_], _ => rfl)
  have c_isP : Cal P w K mg base CX0 1 "is_prime" spIsP := cal_of (gl "is_prime" (by decide +kernel)) F_isP.kp k_isP b_isP
  obtain ⟨cc1, cd1, doc1, pm1, ctv1, S1⟩ := supD c hf ht 0 (d := ⟨.met "BadCharacteristic" "__init__", "__init__", "BadCharacteristic.__init__", sBad, ["__class__"]⟩) (C := (cA K "BadCharacteristic")) rfl rfl rfl (Option.isSome_iff_exists.mp hB.2.2.2.2.2.2.2.2.2.2.2.2) (fr "super" (by decide +kernel)) (by rfl) hM.2.2.2.2.2.2.2.2.2.2.2.2.2.1 (by decide +kernel) (by decide +kernel) (by decide +kernel)
  have k_bad := ok_bad (P := P) (w := w) (mg := mg) (base := base) S1 hB.2.2.2.2.2.2.2.1 hB.oex hB.2.2.2.2.2.2.2.2.1 hB.2.2.2.2.2.2.2.2.2.1 hB.2.2.2.2.2.2.1
  have x_B : Exk P w K mg base 1 "BadCharacteristic" (cA K "BadCharacteristic") (spXI (cA K "BadCharacteristic") "p" (.int 4)) := ⟨hB.oex, gl "BadCharacteristic" (by decide +kernel), _, _, _, hB.2.2.2.2.2.2.2.2.2.2.1, hB.2.2.2.2.2.2.2.2.2.2.2.1, k_bad, .all fun us hl => match us, hl with | [_, _], _ => rfl⟩
  obtain ⟨cc2, cd2, doc2, pm2, ctv2, S2⟩ := supD c hf ht 1 (d := ⟨.met "UnknownName" "__init__", "__init__", "UnknownName.__init__", sUnk, ["__class__"]⟩) (C := (cA K "UnknownName")) rfl rfl rfl (Option.isSome_iff_exists.mp hU.2.2.2.2.2.2.2.2.2.2.2.2) (fr "super" (by decide +kernel)) (by rfl) hM.2.2.2.2.2.2.2.2.2.2.2.2.2.1 (by decide +kernel) (by decide +kernel) (by decide +kernel)
  have k_unk := ok_unk (P := P) (w := w) (mg := mg) (base := base) S2 hU.2.2.2.2.2.2.2.1 hU.oex hU.2.2.2.2.2.2.2.2.1 hU.2.2.2.2.2.2.2.2.2.1 hU.2.2.2.2.2.2.1
  have x_U : Exk P w K mg base 1 "UnknownName" (cA K "UnknownName") (spXI (cA K "UnknownName") "name" (.str "b7y")) := ⟨hU.oex, gl "UnknownName" (by decide +kernel), _, _, _, hU.2.2.2.2.2.2.2.2.2.2.1, hU.2.2.2.2.2.2.2.2.2.2.2.1, k_unk, .all fun us hl => match us, hl with | [_, _], _ => rfl⟩
  obtain ⟨u_chk, F_chk⟩ := fnD c 4 (d := ⟨.glo "checked", "checked", "checked", sChk, []⟩)
  have F_chk : FnP K "checked" "checked" sChk (He.ga K "checked") u_chk := F_chk
  have k_chk := ok_chk (P := P) (w := w) (mg := mg) (base := base) F_chk c_isP x_B
  have b_chk : Binds K u_chk ["p"] [] := FunD.bindsN F_chk (fun _ _ _ _ _ _ us hl => match us, hl with | [_], _ => rfl)
  have c_chk : Cal P w K mg base (L2.CX P w) 3 "checked" (spChk (cA K "BadCharacteristic")) := cal_of (gl "checked" (by decide +kernel)) F_chk.kp k_chk b_chk
  obtain ⟨u_chI, F_chI⟩ := fnD c 5 (d := ⟨.met "Chars" "__init__", "__init__", "Chars.__init__", sChI, []⟩)
  have F_chI : FnP K "__init__" "Chars.__init__" sChI (mA K "Chars" "__init__") u_chI := F_chI
  have k_chI := ok_chI (P := P) (w := w) (mg := mg) (base := base) F_chI TC c_isP
  have b_chI : Binds K u_chI ["self", "endless", "primes"] [] := FunD.bindsN F_chI (fun _ _ _ _ _ _ us hl => match us, hl with | [_, _, _], _ => rfl)
  have c_chI : Mak P w K mg base CX0 2 (cA K "Chars") (spChI K (cA K "Chars")) := mak_of hCC k_chI b_chI
  obtain ⟨u_chEv, F_chEv⟩ := fnD c 6 (d := ⟨.cme "Chars" "every", "every", "Chars.every", sChEv, []⟩)
  have F_chEv : FnP K "every" "Chars.every" sChEv (recG K (mA K "Chars" "every")) u_chEv := F_chEv
  have k_chEv := ok_chEv (P := P) (w := w) (mg := mg) (base := base) F_chEv c_chI
  have b_chEv : Binds K u_chEv ["cls"] [] := FunD.bindsN F_chEv (fun _ _ _ _ _ _ us hl => match us, hl with | [_], _ => rfl)
  have c_chEv : ClM P w K mg base CX0 4 (cA K "Chars") "every" (spNew K (cA K "Chars") true) := clm_of hCC (cm "Chars" "every" (by decide +kernel)) k_chEv b_chEv
  obtain ⟨u_chNo, F_chNo⟩ := fnD c 7 (d := ⟨.cme "Chars" "none", "none", "Chars.none", sChNo, []⟩)
  have F_chNo : FnP K "none" "Chars.none" sChNo (recG K (mA K "Chars" "none")) u_chNo := F_chNo
  have k_chNo := ok_chNo (P := P) (w := w) (mg := mg) (base := base) F_chNo c_chI
  have b_chNo : Binds K u_chNo ["cls"] [] := FunD.bindsN F_chNo (fun _ _ _ _ _ _ us hl => match us, hl with | [_], _ => rfl)
  have c_chNo : ClM P w K mg base CX0 4 (cA K "Chars") "none" (spNew K (cA K "Chars") false) := clm_of hCC (cm "Chars" "none" (by decide +kernel)) k_chNo b_chNo
  obtain ⟨u_chZ, F_chZ⟩ := fnD c 8 (d := ⟨.cme "Chars" "zero_of", "zero_of", "Chars.zero_of", sChZ, []⟩)
  have F_chZ : FnP K "zero_of" "Chars.zero_of" sChZ (recG K (mA K "Chars" "zero_of")) u_chZ := F_chZ
  have k_chZ := ok_chZ (P := P) (w := w) (mg := mg) (base := base) F_chZ c_chI c_pd
  have b_chZ : Binds K u_chZ ["cls", "n"] [] := FunD.bindsN F_chZ (fun _ _ _ _ _ _ us hl => match us, hl with | [_, _], _ => rfl)
  have c_chZ : ClM P w K mg base CX0 4 (cA K "Chars") "zero_of" (spChZ K (cA K "Chars")) := clm_of hCC (cm "Chars" "zero_of" (by decide +kernel)) k_chZ b_chZ
  obtain ⟨u_chC, F_chC⟩ := fnD c 9 (d := ⟨.met "Chars" "__contains__", "__contains__", "Chars.__contains__", sChC, []⟩)
  have F_chC : FnP K "__contains__" "Chars.__contains__" sChC (mA K "Chars" "__contains__") u_chC := F_chC
  have k_chC := ok_chC (P := P) (w := w) (mg := mg) (base := base) F_chC TC
  have b_chC : Binds K u_chC ["self", "p"] [] := FunD.bindsN F_chC (fun _ _ _ _ _ _ us hl => match us, hl with | [_, _], _ => rfl)
  have c_chC : Opr P w K mg base CX0 1 (cA K "Chars") "__contains__" (spChC K (cA K "Chars")) := opr_of (mt "Chars" "__contains__" (by decide +kernel)) k_chC b_chC
  obtain ⟨u_chV, F_chV⟩ := fnD c 10 (d := ⟨.met "Chars" "__invert__", "__invert__", "Chars.__invert__", sChV, []⟩)
  have F_chV : FnP K "__invert__" "Chars.__invert__" sChV (mA K "Chars" "__invert__") u_chV := F_chV
  have k_chV := ok_chV (P := P) (w := w) (mg := mg) (base := base) F_chV TC c_chI
  have b_chV : Binds K u_chV ["self"] [] := FunD.bindsN F_chV (fun _ _ _ _ _ _ us hl => match us, hl with | [_], _ => rfl)
  have c_chV : Opr P w K mg base CX0 4 (cA K "Chars") "__invert__" (spChV K (cA K "Chars")) := opr_of (mt "Chars" "__invert__" (by decide +kernel)) k_chV b_chV
  obtain ⟨u_sh, F_sh⟩ := fnD c 13 (d := ⟨.glo "shared", "shared", "shared", sSh, []⟩)
  have F_sh : FnP K "shared" "shared" sSh (He.ga K "shared") u_sh := F_sh
  have k_sh := ok_sh (P := P) (w := w) (mg := mg) (base := base) F_sh TC
  have b_sh : Binds K u_sh ["first", "second"] [] := FunD.bindsN F_sh (fun _ _ _ _ _ _ us hl => match us, hl with | [_, _], _ => rfl)
  have c_sh : Cal P w K mg base CX0 1 "shared" (spSh K (cA K "Chars")) := cal_of (gl "shared" (by decide +kernel)) F_sh.kp k_sh b_sh
  obtain ⟨u_chA, F_chA⟩ := fnD c 11 (d := ⟨.met "Chars" "__and__", "__and__", "Chars.__and__", sChA, []⟩)
  have F_chA : FnP K "__and__" "Chars.__and__" sChA (mA K "Chars" "__and__") u_chA := F_chA
  have k_chA := ok_chA (P := P) (w := w) (mg := mg) (base := base) F_chA TC c_chI c_sh
  have b_chA : Binds K u_chA ["self", "other"] [] := FunD.bindsN F_chA (fun _ _ _ _ _ _ us hl => match us, hl with | [_, _], _ => rfl)
  have c_chA : Opr P w K mg base CX0 4 (cA K "Chars") "__and__" (spChA K (cA K "Chars")) := opr_of (mt "Chars" "__and__" (by decide +kernel)) k_chA b_chA
  obtain ⟨u_chE, F_chE⟩ := fnD c 12 (d := ⟨.met "Chars" "__eq__", "__eq__", "Chars.__eq__", sChE, []⟩)
  have F_chE : FnP K "__eq__" "Chars.__eq__" sChE (mA K "Chars" "__eq__") u_chE := F_chE
  have k_chE := ok_chE (P := P) (w := w) (mg := mg) (base := base) F_chE TC
  have b_chE : Binds K u_chE ["self", "other"] [] := FunD.bindsN F_chE (fun _ _ _ _ _ _ us hl => match us, hl with | [_, _], _ => rfl)
  have c_chE : Opr P w K mg base CX0 1 (cA K "Chars") "__eq__" (spChE K (cA K "Chars")) := opr_of (mt "Chars" "__eq__" (by decide +kernel)) k_chE b_chE
  obtain ⟨u_ga, F_ga⟩ := fnD c 14 (d := ⟨.glo "gathered", "gathered", "gathered", sGa, []⟩)
  have F_ga : FnP K "gathered" "gathered" sGa (He.ga K "gathered") u_ga := F_ga
  have k_ga := ok_ga (P := P) (w := w) (mg := mg) (base := base) F_ga
  have b_ga : Binds K u_ga ["terms"] [] := FunD.bindsN F_ga (fun _ _ _ _ _ _ us hl => match us, hl with | [_], _ => rfl)
  have c_ga : Cal P w K mg base CX0 1 "gathered" spGa := cal_of (gl "gathered" (by decide +kernel)) F_ga.kp k_ga b_ga
  obtain ⟨u_mI, F_mI⟩ := fnD c 15 (d := ⟨.met "Many" "__init__", "__init__", "Many.__init__", sMI, []⟩)
  have F_mI : FnP K "__init__" "Many.__init__" sMI (mA K "Many" "__init__") u_mI := F_mI
  have k_mI := ok_MI (P := P) (w := w) (mg := mg) (base := base) F_mI TM c_ga
  have b_mI : Binds K u_mI ["self", "terms"] [] := FunD.bindsN F_mI (fun _ _ _ _ _ _ us hl => match us, hl with | [_, _], _ => rfl)
  have c_mI : Mak P w K mg base CX0 2 (cA K "Many") (spMI (cA K "Many")) := mak_of hCM k_mI b_mI
  obtain ⟨u_mNum, F_mNum⟩ := fnD c 16 (d := ⟨.cme "Many" "number", "number", "Many.number", sMNum, []⟩)
  have F_mNum : FnP K "number" "Many.number" sMNum (recG K (mA K "Many" "number")) u_mNum := F_mNum
  have k_mNum := ok_MNum (P := P) (w := w) (mg := mg) (base := base) F_mNum c_mI
  have b_mNum : Binds K u_mNum ["cls", "n"] [] := FunD.bindsN F_mNum (fun _ _ _ _ _ _ us hl => match us, hl with | [_, _], _ => rfl)
  have c_mNum : ClM P w K mg base CX0 4 (cA K "Many") "number" (spMNum (cA K "Many")) := clm_of hCM (cm "Many" "number" (by decide +kernel)) k_mNum b_mNum
  obtain ⟨u_mUnk, F_mUnk⟩ := fnD c 17 (d := ⟨.cme "Many" "unknown", "unknown", "Many.unknown", sMUnk, []⟩)
  have F_mUnk : FnP K "unknown" "Many.unknown" sMUnk (recG K (mA K "Many" "unknown")) u_mUnk := F_mUnk
  have k_mUnk := ok_MUnk (P := P) (w := w) (mg := mg) (base := base) F_mUnk c_mI
  have b_mUnk : Binds K u_mUnk ["cls", "name"] [] := FunD.bindsN F_mUnk (fun _ _ _ _ _ _ us hl => match us, hl with | [_, _], _ => rfl)
  have c_mUnk : ClM P w K mg base CX0 4 (cA K "Many") "unknown" (spMUnk (cA K "Many")) := clm_of hCM (cm "Many" "unknown" (by decide +kernel)) k_mUnk b_mUnk
  obtain ⟨u_mAdd, F_mAdd⟩ := fnD c 18 (d := ⟨.met "Many" "__add__", "__add__", "Many.__add__", sMAdd, []⟩)
  have F_mAdd : FnP K "__add__" "Many.__add__" sMAdd (mA K "Many" "__add__") u_mAdd := F_mAdd
  have k_mAdd := ok_MAdd (P := P) (w := w) (mg := mg) (base := base) F_mAdd TM c_mI
  have b_mAdd : Binds K u_mAdd ["self", "other"] [] := FunD.bindsN F_mAdd (fun _ _ _ _ _ _ us hl => match us, hl with | [_, _], _ => rfl)
  have c_mAdd : Opr P w K mg base CX0 4 (cA K "Many") "__add__" (spMAdd (cA K "Many")) := opr_of (mt "Many" "__add__" (by decide +kernel)) k_mAdd b_mAdd
  obtain ⟨u_mNeg, F_mNeg⟩ := fnD c 19 (d := ⟨.met "Many" "__neg__", "__neg__", "Many.__neg__", sMNeg, []⟩)
  have F_mNeg : FnP K "__neg__" "Many.__neg__" sMNeg (mA K "Many" "__neg__") u_mNeg := F_mNeg
  have k_mNeg := ok_MNeg (P := P) (w := w) (mg := mg) (base := base) F_mNeg TM c_mI
  have b_mNeg : Binds K u_mNeg ["self"] [] := FunD.bindsN F_mNeg (fun _ _ _ _ _ _ us hl => match us, hl with | [_], _ => rfl)
  have c_mNeg : Opr P w K mg base CX0 4 (cA K "Many") "__neg__" (spMNeg (cA K "Many")) := opr_of (mt "Many" "__neg__" (by decide +kernel)) k_mNeg b_mNeg
  obtain ⟨u_mSub, F_mSub⟩ := fnD c 20 (d := ⟨.met "Many" "__sub__", "__sub__", "Many.__sub__", sMSub, []⟩)
  have F_mSub : FnP K "__sub__" "Many.__sub__" sMSub (mA K "Many" "__sub__") u_mSub := F_mSub
  have k_mSub := ok_MSub (P := P) (w := w) (mg := mg) (base := base) F_mSub TM c_mAdd c_mNeg
  have b_mSub : Binds K u_mSub ["self", "other"] [] := FunD.bindsN F_mSub (fun _ _ _ _ _ _ us hl => match us, hl with | [_, _], _ => rfl)
  have c_mSub : Opr P w K mg base CX0 5 (cA K "Many") "__sub__" (spMSub (cA K "Many")) := opr_of (mt "Many" "__sub__" (by decide +kernel)) k_mSub b_mSub
  obtain ⟨u_pt, F_pt⟩ := fnD c 28 (d := ⟨.glo "product_terms", "product_terms", "product_terms", sPT, []⟩)
  have F_pt : FnP K "product_terms" "product_terms" sPT (He.ga K "product_terms") u_pt := F_pt
  have k_pt := ok_PT (P := P) (w := w) (mg := mg) (base := base) F_pt gSo gTu
  have b_pt : Binds K u_pt ["first", "second"] [] := FunD.bindsN F_pt (fun _ _ _ _ _ _ us hl => match us, hl with | [_, _], _ => rfl)
  have c_pt : Cal P w K mg base CX0 1 "product_terms" spPT := cal_of (gl "product_terms" (by decide +kernel)) F_pt.kp k_pt b_pt
  obtain ⟨u_mMul, F_mMul⟩ := fnD c 21 (d := ⟨.met "Many" "__mul__", "__mul__", "Many.__mul__", sMMul, []⟩)
  have F_mMul : FnP K "__mul__" "Many.__mul__" sMMul (mA K "Many" "__mul__") u_mMul := F_mMul
  have k_mMul := ok_MMul (P := P) (w := w) (mg := mg) (base := base) F_mMul TM c_mI c_pt
  have b_mMul : Binds K u_mMul ["self", "other"] [] := FunD.bindsN F_mMul (fun _ _ _ _ _ _ us hl => match us, hl with | [_, _], _ => rfl)
  have c_mMul : Opr P w K mg base CX0 4 (cA K "Many") "__mul__" (spMMul (cA K "Many")) := opr_of (mt "Many" "__mul__" (by decide +kernel)) k_mMul b_mMul
  obtain ⟨u_mEq, F_mEq⟩ := fnD c 22 (d := ⟨.met "Many" "__eq__", "__eq__", "Many.__eq__", sMEq, []⟩)
  have F_mEq : FnP K "__eq__" "Many.__eq__" sMEq (mA K "Many" "__eq__") u_mEq := F_mEq
  have k_mEq := ok_MEq (P := P) (w := w) (mg := mg) (base := base) F_mEq TM
  have b_mEq : Binds K u_mEq ["self", "other"] [] := FunD.bindsN F_mEq (fun _ _ _ _ _ _ us hl => match us, hl with | [_, _], _ => rfl)
  have c_mEq : Opr P w K mg base CX0 1 (cA K "Many") "__eq__" (spMEq (cA K "Many")) := opr_of (mt "Many" "__eq__" (by decide +kernel)) k_mEq b_mEq
  obtain ⟨u_mNames, F_mNames⟩ := fnD c 23 (d := ⟨.met "Many" "names", "names", "Many.names", sMNames, []⟩)
  have F_mNames : FnP K "names" "Many.names" sMNames (mA K "Many" "names") u_mNames := F_mNames
  have k_mNames := ok_MNames (P := P) (w := w) (mg := mg) (base := base) F_mNames TM
  have b_mNames : Binds K u_mNames ["self"] [] := FunD.bindsN F_mNames (fun _ _ _ _ _ _ us hl => match us, hl with | [_], _ => rfl)
  have c_mNames : Met P w K mg base CX0 1 (cA K "Many") "names" (spMNames (cA K "Many")) := met_of (mt "Many" "names" (by decide +kernel)) hCM.cls k_mNames b_mNames
  obtain ⟨u_mCont, F_mCont⟩ := fnD c 24 (d := ⟨.met "Many" "content", "content", "Many.content", sMCont, []⟩)
  have F_mCont : FnP K "content" "Many.content" sMCont (mA K "Many" "content") u_mCont := F_mCont
  have k_mCont := ok_MCont (P := P) (w := w) (mg := mg) (base := base) F_mCont TM c_common
  have b_mCont : Binds K u_mCont ["self"] [] := FunD.bindsN F_mCont (fun _ _ _ _ _ _ us hl => match us, hl with | [_], _ => rfl)
  have c_mCont : Met P w K mg base CX0 2 (cA K "Many") "content" (spMCont (cA K "Many")) := met_of (mt "Many" "content" (by decide +kernel)) hCM.cls k_mCont b_mCont
  obtain ⟨u_mVan, F_mVan⟩ := fnD c 25 (d := ⟨.met "Many" "vanishing", "vanishing", "Many.vanishing", sMVan, []⟩)
  have F_mVan : FnP K "vanishing" "Many.vanishing" sMVan (mA K "Many" "vanishing") u_mVan := F_mVan
  have k_mVan := ok_MVan (P := P) (w := w) (mg := mg) (base := base) F_mVan gCh c_chZ c_mCont
  have b_mVan : Binds K u_mVan ["self"] [] := FunD.bindsN F_mVan (fun _ _ _ _ _ _ us hl => match us, hl with | [_], _ => rfl)
  have c_mVan : Met P w K mg base CX0 5 (cA K "Many") "vanishing" (spMVan K (cA K "Chars") (cA K "Many")) := met_of (mt "Many" "vanishing" (by decide +kernel)) hCM.cls k_mVan b_mVan
  obtain ⟨u_mPut, F_mPut⟩ := fnD c 26 (d := ⟨.met "Many" "put", "put", "Many.put", sMPut, []⟩)
  have F_mPut : FnP K "put" "Many.put" sMPut (mA K "Many" "put") u_mPut := F_mPut
  have k_mPut := ok_MPut (P := P) (w := w) (mg := mg) (base := base) F_mPut TM c_mI
  have b_mPut : Binds K u_mPut ["self", "values"] [] := FunD.bindsN F_mPut (fun _ _ _ _ _ _ us hl => match us, hl with | [_, _], _ => rfl)
  have c_mPut : Met P w K mg base CX0 4 (cA K "Many") "put" (spMPut (cA K "Many")) := met_of (mt "Many" "put" (by decide +kernel)) hCM.cls k_mPut b_mPut
  obtain ⟨u_mVal, F_mVal⟩ := fnD c 27 (d := ⟨.met "Many" "value", "value", "Many.value", sMVal, []⟩)
  have F_mVal : FnP K "value" "Many.value" sMVal (mA K "Many" "value") u_mVal := F_mVal
  have k_mVal := ok_MVal (P := P) (w := w) (mg := mg) (base := base) F_mVal TM c_chk x_U c_mNames c_mPut
  have q_mVal : KBn K u_mVal ["self", "values", "p"] 2 ["p"] (fun us ws => us ++ ws) (fun vs zs => vs ++ zs) := kbn_of F_mVal fun _ _ _ _ _ _ us ws hl hw => match us, ws, hl, hw with | [_, _], [_], _, _ => rfl
  have c_mVal : MetN P w K mg base (L2.CX P w) 5 1 (cA K "Many") "value" ["p"] (spMVal (cA K "BadCharacteristic") (cA K "UnknownName") (cA K "Many")) := ⟨hCM.cls, _, _, _, (mt "Many" "value" (by decide +kernel)).met, k_mVal, q_mVal⟩
  have O : MnOp P w K mg base (cA K "Many") := ⟨hCM.sf, c_mAdd, c_mSub, c_mMul⟩
  obtain ⟨u_cross, F_cross⟩ := fnD c 29 (d := ⟨.glo "cross", "cross", "cross", sCross, []⟩)
  have F_cross : FnP K "cross" "cross" sCross (He.ga K "cross") u_cross := F_cross
  have k_cross := ok_cross (P := P) (w := w) (mg := mg) (base := base) F_cross O
  have b_cross : Binds K u_cross ["first", "second"] [] := FunD.bindsN F_cross (fun _ _ _ _ _ _ us hl => match us, hl with | [_, _], _ => rfl)
  have c_cross : Cal P w K mg base CX0 6 "cross" (spCross K (cA K "Many")) := cal_of (gl "cross" (by decide +kernel)) F_cross.kp k_cross b_cross
  obtain ⟨u_dot, F_dot⟩ := fnD c 30 (d := ⟨.glo "dot", "dot", "dot", sDot, []⟩)
  have F_dot : FnP K "dot" "dot" sDot (He.ga K "dot") u_dot := F_dot
  have k_dot := ok_dot (P := P) (w := w) (mg := mg) (base := base) F_dot O
  have b_dot : Binds K u_dot ["first", "second"] [] := FunD.bindsN F_dot (fun _ _ _ _ _ _ us hl => match us, hl with | [_, _], _ => rfl)
  have c_dot : Cal P w K mg base CX0 6 "dot" (spDot K (cA K "Many")) := cal_of (gl "dot" (by decide +kernel)) F_dot.kp k_dot b_dot
  obtain ⟨u_there, F_there⟩ := fnD c 31 (d := ⟨.glo "there", "there", "there", sThere, []⟩)
  have F_there : FnP K "there" "there" sThere (He.ga K "there") u_there := F_there
  have k_there := ok_there (P := P) (w := w) (mg := mg) (base := base) F_there TC hCC.sf c_chEv c_chA c_chV c_mVan
  have b_there : Binds K u_there ["triple"] [] := FunD.bindsN F_there (fun _ _ _ _ _ _ us hl => match us, hl with | [_], _ => rfl)
  have c_there : Cal P w K mg base CX0 6 "there" (spThere K (cA K "Chars") (cA K "Many")) := cal_of (gl "there" (by decide +kernel)) F_there.kp k_there b_there
  obtain ⟨u_pI, F_pI⟩ := fnD c 32 (d := ⟨.met "Point" "__init__", "__init__", "Triple.__init__", sTI, []⟩)
  have F_pI : FnP K "__init__" "Triple.__init__" sTI (mA K "Point" "__init__") u_pI := F_pI
  have k_pI := ok_TI (P := P) (w := w) (mg := mg) (base := base) F_pI hCP.cls (na "Point" "coordinates" (by decide +kernel))
  have b_pI : Binds K u_pI ["self", "x", "y", "z"] [] := FunD.bindsN F_pI (fun _ _ _ _ _ _ us hl => match us, hl with | [_, _, _, _], _ => rfl)
  have c_pI : Mak P w K mg base CX0 1 (cA K "Point") (spTI (cA K "Point")) := mak_of hCP k_pI b_pI
  obtain ⟨u_lI, F_lI⟩ := fnD c 33 (d := ⟨.met "Line" "__init__", "__init__", "Triple.__init__", sTI, []⟩)
  have F_lI : FnP K "__init__" "Triple.__init__" sTI (mA K "Line" "__init__") u_lI := F_lI
  have k_lI := ok_TI (P := P) (w := w) (mg := mg) (base := base) F_lI hCL.cls (na "Line" "coordinates" (by decide +kernel))
  have b_lI : Binds K u_lI ["self", "x", "y", "z"] [] := FunD.bindsN F_lI (fun _ _ _ _ _ _ us hl => match us, hl with | [_, _, _, _], _ => rfl)
  have c_lI : Mak P w K mg base CX0 1 (cA K "Line") (spTI (cA K "Line")) := mak_of hCL k_lI b_lI
  obtain ⟨u_whole, F_whole⟩ := fnD c 35 (d := ⟨.cme "Point" "whole", "whole", "Point.whole", sWhole, []⟩)
  have F_whole : FnP K "whole" "Point.whole" sWhole (recG K (mA K "Point" "whole")) u_whole := F_whole
  have k_whole := ok_whole (P := P) (w := w) (mg := mg) (base := base) F_whole c_pI gMa c_mNum
  have b_whole : Binds K u_whole ["cls", "x", "y", "z"] [] := FunD.bindsN F_whole (fun _ _ _ _ _ _ us hl => match us, hl with | [_, _, _, _], _ => rfl)
  have c_whole : ClM P w K mg base CX0 5 (cA K "Point") "whole" (spWhole K (cA K "Point") (cA K "Many")) := clm_of hCP (cm "Point" "whole" (by decide +kernel)) k_whole b_whole
  obtain ⟨u_loose, F_loose⟩ := fnD c 36 (d := ⟨.cme "Point" "loose", "loose", "Point.loose", sLoose, []⟩)
  have F_loose : FnP K "loose" "Point.loose" sLoose (recG K (mA K "Point" "loose")) u_loose := F_loose
  have k_loose := ok_loose (P := P) (w := w) (mg := mg) (base := base) F_loose c_pI gMa c_mUnk
  have b_loose : Binds K u_loose ["cls", "name"] [] := FunD.bindsN F_loose (fun _ _ _ _ _ _ us hl => match us, hl with | [_, _], _ => rfl)
  have c_loose : ClM P w K mg base CX0 5 (cA K "Point") "loose" (spLoose K (cA K "Point") (cA K "Many")) := clm_of hCP (cm "Point" "loose" (by decide +kernel)) k_loose b_loose
  obtain ⟨u_lt, F_lt⟩ := fnD c 39 (d := ⟨.met "Point" "line_to", "line_to", "Point.line_to", sLT, []⟩)
  have F_lt : FnP K "line_to" "Point.line_to" sLT (mA K "Point" "line_to") u_lt := F_lt
  have k_lt := ok_LT (P := P) (w := w) (mg := mg) (base := base) F_lt TP TL c_lI c_cross
  have b_lt : Binds K u_lt ["self", "other"] [] := FunD.bindsN F_lt (fun _ _ _ _ _ _ us hl => match us, hl with | [_, _], _ => rfl)
  have c_lt : Met P w K mg base CX0 7 (cA K "Point") "line_to" (spLT K (cA K "Point") (cA K "Point") (cA K "Line") (cA K "Many")) := met_of (mt "Point" "line_to" (by decide +kernel)) hCP.cls k_lt b_lt
  obtain ⟨u_crg, F_crg⟩ := fnD c 43 (d := ⟨.met "Line" "crossing", "crossing", "Line.crossing", sCrg, []⟩)
  have F_crg : FnP K "crossing" "Line.crossing" sCrg (mA K "Line" "crossing") u_crg := F_crg
  have k_crg := ok_Crg (P := P) (w := w) (mg := mg) (base := base) F_crg TP TL c_pI c_cross
  have b_crg : Binds K u_crg ["self", "other"] [] := FunD.bindsN F_crg (fun _ _ _ _ _ _ us hl => match us, hl with | [_, _], _ => rfl)
  have c_crg : Met P w K mg base CX0 7 (cA K "Line") "crossing" (spLT K (cA K "Line") (cA K "Line") (cA K "Point") (cA K "Many")) := met_of (mt "Line" "crossing" (by decide +kernel)) hCL.cls k_crg b_crg
  obtain ⟨u_off, F_off⟩ := fnD c 40 (d := ⟨.met "Point" "off", "off", "Point.off", sOff, []⟩)
  have F_off : FnP K "off" "Point.off" sOff (mA K "Point" "off") u_off := F_off
  have k_off := ok_Off (P := P) (w := w) (mg := mg) (base := base) F_off TP TL c_dot
  have b_off : Binds K u_off ["self", "line"] [] := FunD.bindsN F_off (fun _ _ _ _ _ _ us hl => match us, hl with | [_, _], _ => rfl)
  have c_off : Met P w K mg base CX0 7 (cA K "Point") "off" (spOff K (cA K "Point") (cA K "Line") (cA K "Many")) := met_of (mt "Point" "off" (by decide +kernel)) hCP.cls k_off b_off
  obtain ⟨u_pEq, F_pEq⟩ := fnD c 37 (d := ⟨.met "Point" "__eq__", "__eq__", "Point.__eq__", sPEq, []⟩)
  have F_pEq : FnP K "__eq__" "Point.__eq__" sPEq (mA K "Point" "__eq__") u_pEq := F_pEq
  have k_pEq := ok_PEq (P := P) (w := w) (mg := mg) (base := base) F_pEq TP c_mEq hCM.nf
  have b_pEq : Binds K u_pEq ["self", "other"] [] := FunD.bindsN F_pEq (fun _ _ _ _ _ _ us hl => match us, hl with | [_, _], _ => rfl)
  have c_pEq : Opr P w K mg base CX0 3 (cA K "Point") "__eq__" (spPEq K (cA K "Point") (cA K "Many")) := opr_of (mt "Point" "__eq__" (by decide +kernel)) k_pEq b_pEq
  obtain ⟨u_lEq, F_lEq⟩ := fnD c 41 (d := ⟨.met "Line" "__eq__", "__eq__", "Line.__eq__", sLEq, []⟩)
  have F_lEq : FnP K "__eq__" "Line.__eq__" sLEq (mA K "Line" "__eq__") u_lEq := F_lEq
  have k_lEq := ok_LEq (P := P) (w := w) (mg := mg) (base := base) F_lEq TL c_mEq hCM.nf
  have b_lEq : Binds K u_lEq ["self", "other"] [] := FunD.bindsN F_lEq (fun _ _ _ _ _ _ us hl => match us, hl with | [_, _], _ => rfl)
  have c_lEq : Opr P w K mg base CX0 3 (cA K "Line") "__eq__" (spPEq K (cA K "Line") (cA K "Many")) := opr_of (mt "Line" "__eq__" (by decide +kernel)) k_lEq b_lEq
  obtain ⟨u_pPos, F_pPos⟩ := fnD c 38 (d := ⟨.met "Point" "possible", "possible", "Point.possible", sPPos, []⟩)
  have F_pPos : FnP K "possible" "Point.possible" sPPos (mA K "Point" "possible") u_pPos := F_pPos
  have k_pPos := ok_PPos (P := P) (w := w) (mg := mg) (base := base) F_pPos TP c_there
  have b_pPos : Binds K u_pPos ["self"] [] := FunD.bindsN F_pPos (fun _ _ _ _ _ _ us hl => match us, hl with | [_], _ => rfl)
  have c_pPos : Met P w K mg base CX0 7 (cA K "Point") "possible" (spPos K (cA K "Point") (cA K "Chars") (cA K "Many")) := met_of (mt "Point" "possible" (by decide +kernel)) hCP.cls k_pPos b_pPos
  obtain ⟨u_lPos, F_lPos⟩ := fnD c 42 (d := ⟨.met "Line" "possible", "possible", "Line.possible", sLPos, []⟩)
  have F_lPos : FnP K "possible" "Line.possible" sLPos (mA K "Line" "possible") u_lPos := F_lPos
  have k_lPos := ok_LPos (P := P) (w := w) (mg := mg) (base := base) F_lPos TL c_there
  have b_lPos : Binds K u_lPos ["self"] [] := FunD.bindsN F_lPos (fun _ _ _ _ _ _ us hl => match us, hl with | [_], _ => rfl)
  have c_lPos : Met P w K mg base CX0 7 (cA K "Line") "possible" (spPos K (cA K "Line") (cA K "Chars") (cA K "Many")) := met_of (mt "Line" "possible" (by decide +kernel)) hCL.cls k_lPos b_lPos
  obtain ⟨u_norm, F_norm⟩ := fnD c 44 (d := ⟨.glo "normal", "normal", "normal", sNorm, []⟩)
  have F_norm : FnP K "normal" "normal" sNorm (He.ga K "normal") u_norm := F_norm
  have k_norm := ok_norm (P := P) (w := w) (mg := mg) (base := base) F_norm c_chk c_comb c_common gTu
  have q_norm : KBn K u_norm ["triple", "p"] 1 ["p"] (fun us ws => us ++ ws) (fun vs zs => vs ++ zs) := kbn_of F_norm fun _ _ _ _ _ _ us ws hl hw => match us, ws, hl, hw with | [_], [_], _, _ => rfl
  have c_norm : CalN P w K mg base CX0 4 1 "normal" ["p"] (spNorm K) := ⟨_, _, _, gl "normal" (by decide +kernel), F_norm.kp, k_norm, q_norm⟩
  obtain ⟨u_pts, F_pts⟩ := fnD c 45 (d := ⟨.glo "points_of", "points_of", "points_of", sPts, []⟩)
  have F_pts : FnP K "points_of" "points_of" sPts (He.ga K "points_of") u_pts := F_pts
  have k_pts := ok_pts (P := P) (w := w) (mg := mg) (base := base) F_pts c_chk gRa
  have b_pts : Binds K u_pts ["p"] [] := FunD.bindsN F_pts (fun _ _ _ _ _ _ us hl => match us, hl with | [_], _ => rfl)
  obtain ⟨u_on, F_on⟩ := fnD c 46 (d := ⟨.glo "points_on", "points_on", "points_on", sOn, []⟩)
  have F_on : FnP K "points_on" "points_on" sOn (He.ga K "points_on") u_on := F_on
  have k_on := ok_on (P := P) (w := w) (mg := mg) (base := base) F_on k_pts (gl "points_of" (by decide +kernel)) F_pts.kp b_pts
  have b_on : Binds K u_on ["triple", "p"] [] := FunD.bindsN F_on (fun _ _ _ _ _ _ us hl => match us, hl with | [_, _], _ => rfl)
  have c_on : Cal P w K mg base CX0 6 "points_on" (spOn K) := cal_of (gl "points_on" (by decide +kernel)) F_on.kp k_on b_on
  obtain ⟨u_sTP, F_sTP⟩ := fnD c 34 (d := ⟨.met "Triple" "seen", "seen", "Triple.seen", sSeenT, []⟩)
  have F_sTP : FnP K "seen" "Triple.seen" sSeenT (mA K "Triple" "seen") u_sTP := F_sTP
  have k_sTP := ok_seenT (P := P) (w := w) (mg := mg) (base := base) F_sTP (C := (cA K "Point")) (CB := (cA K "BadCharacteristic")) (CU := (cA K "UnknownName")) hCP.cls (na "Point" "coordinates" (by decide +kernel)) c_norm c_mVal
  have q_sTP : KBn K u_sTP ["self", "values", "p"] 2 ["p"] (fun us ws => us ++ ws) (fun vs zs => vs ++ zs) := kbn_of F_sTP fun _ _ _ _ _ _ us ws hl hw => match us, ws, hl, hw with | [_, _], [_], _, _ => rfl
  obtain ⟨cc3, cd3, doc3, pm3, ctv3, S3⟩ := supD c hf ht 2 (d := ⟨.met "Point" "seen", "seen", "Point.seen", sSeenP, ["__class__"]⟩) (C := (cA K "Point")) rfl rfl rfl (Option.isSome_iff_exists.mp hM.2.2.2.2.2.2.2.2.2.2.2.2.2.2.1) (fr "super" (by decide +kernel)) (by rfl) hM.2.2.2.2.2.2.2.2.2.2.2.2.2.1 (by decide +kernel) (by decide +kernel) (by decide +kernel)
  have k_seenP := ok_seenP (P := P) (w := w) (mg := mg) (base := base) S3 hCP.mro hM.2.2.2.2.2.2.2.2.2.1 hM.2.2.2.2.2.2.2.2.2.2.2.1 hM.2.2.2.2.2.2.2.2.2.2.2.2.1 k_sTP q_sTP
  have c_seenP : MetN P w K mg base (L2.CX P w) 7 1 (cA K "Point") "seen" ["p"] (spSeen K (cA K "Point") (cA K "BadCharacteristic") (cA K "UnknownName") (cA K "Many")) := ⟨hCP.cls, _, _, _, (mt "Point" "seen" (by decide +kernel)).met, k_seenP, kbn_raw fun us ws hl hw => match us, ws, hl, hw with | [_, _], [_], _, _ => rfl⟩
  obtain ⟨u_sTL, F_sTL⟩ := fnD c 34 (d := ⟨.met "Triple" "seen", "seen", "Triple.seen", sSeenT, []⟩)
  have F_sTL : FnP K "seen" "Triple.seen" sSeenT (mA K "Triple" "seen") u_sTL := F_sTL
  have k_sTL := ok_seenT (P := P) (w := w) (mg := mg) (base := base) F_sTL (C := (cA K "Line")) (CB := (cA K "BadCharacteristic")) (CU := (cA K "UnknownName")) hCL.cls (na "Line" "coordinates" (by decide +kernel)) c_norm c_mVal
  have q_sTL : KBn K u_sTL ["self", "values", "p"] 2 ["p"] (fun us ws => us ++ ws) (fun vs zs => vs ++ zs) := kbn_of F_sTL fun _ _ _ _ _ _ us ws hl hw => match us, ws, hl, hw with | [_, _], [_], _, _ => rfl
  obtain ⟨cc4, cd4, doc4, pm4, ctv4, S4⟩ := supD c hf ht 3 (d := ⟨.met "Line" "seen", "seen", "Line.seen", sSeenL, ["__class__"]⟩) (C := (cA K "Line")) rfl rfl rfl (Option.isSome_iff_exists.mp hM.2.2.2.2.2.2.2.2.2.2.2.2.2.2.2) (fr "super" (by decide +kernel)) (by rfl) hM.2.2.2.2.2.2.2.2.2.2.2.2.2.1 (by decide +kernel) (by decide +kernel) (by decide +kernel)
  have k_seenL := ok_seenL (P := P) (w := w) (mg := mg) (base := base) S4 hCL.mro hM.2.2.2.2.2.2.2.2.2.2.1 hM.2.2.2.2.2.2.2.2.2.2.2.1 hM.2.2.2.2.2.2.2.2.2.2.2.2.1 k_sTL q_sTL
  have c_seenL : MetN P w K mg base (L2.CX P w) 7 1 (cA K "Line") "seen" ["p"] (spSeen K (cA K "Line") (cA K "BadCharacteristic") (cA K "UnknownName") (cA K "Many")) := ⟨hCL.cls, _, _, _, (mt "Line" "seen" (by decide +kernel)).met, k_seenL, kbn_raw fun us ws hl hw => match us, ws, hl, hw with | [_, _], [_], _, _ => rfl⟩
  obtain ⟨u_lc, F_lc⟩ := fnD c 47 (d := ⟨.glo "_law_cell", "_law_cell", "_law_cell", sCell, []⟩)
  have F_lc : FnP K "_law_cell" "_law_cell" sCell (He.ga K "_law_cell") u_lc := F_lc
  have k_lc := ok_cell (P := P) (w := w) (mg := mg) (base := base) F_lc gLe
  have b_lc : Binds K u_lc ["_law_script", "_law_k"] [] := FunD.bindsN F_lc (fun _ _ _ _ _ _ us hl => match us, hl with | [_, _], _ => rfl)
  have c_lc : Cal P w K mg base CX0 1 "_law_cell" (spCell K) := cal_of (gl "_law_cell" (by decide +kernel)) F_lc.kp k_lc b_lc
  obtain ⟨u_ld, F_ld⟩ := fnD c 48 (d := ⟨.glo "_law_draws", "_law_draws", "_law_draws", sDraws, []⟩)
  have F_ld : FnP K "_law_draws" "_law_draws" sDraws (He.ga K "_law_draws") u_ld := F_ld
  have k_ld := ok_draws (P := P) (w := w) (mg := mg) (base := base) F_ld gA gLe gRa gIn
  have b_ld : Binds K u_ld ["_law_cell_here", "_law_sizes"] [] := FunD.bindsN F_ld (fun _ _ _ _ _ _ us hl => match us, hl with | [_, _], _ => rfl)
  have c_ld : Cal P w K mg base CX0 1 "_law_draws" (spDraws K) := cal_of (gl "_law_draws" (by decide +kernel)) F_ld.kp k_ld b_ld
  obtain ⟨u_lip, F_lip⟩ := fnD c 49 (d := ⟨.glo "_law_is_prime", "_law_is_prime", "_law_is_prime", sLIsP, []⟩)
  have F_lip : FnP K "_law_is_prime" "_law_is_prime" sLIsP (He.ga K "_law_is_prime") u_lip := F_lip
  have k_lip := ok_lisP (P := P) (w := w) (mg := mg) (base := base) F_lip
  have b_lip : Binds K u_lip ["_law_n"] [] := FunD.bindsN F_lip (fun _ _ _ _ _ _ us hl => match us, hl with | [_], _ => rfl)
  have c_lip : Cal P w K mg base CX0 1 "_law_is_prime" spLIsP := cal_of (gl "_law_is_prime" (by decide +kernel)) F_lip.kp k_lip b_lip
  obtain ⟨u_lpf, F_lpf⟩ := fnD c 50 (d := ⟨.glo "_law_prime_from", "_law_prime_from", "_law_prime_from", sPF, []⟩)
  have F_lpf : FnP K "_law_prime_from" "_law_prime_from" sPF (He.ga K "_law_prime_from") u_lpf := F_lpf
  have k_lpf := ok_PF (P := P) (w := w) (mg := mg) (base := base) F_lpf gMx c_lip
  have b_lpf : Binds K u_lpf ["_law_n"] [] := FunD.bindsN F_lpf (fun _ _ _ _ _ _ us hl => match us, hl with | [_], _ => rfl)
  have c_lpf : Cal P w K mg base CX0 2 "_law_prime_from" spPF := cal_of (gl "_law_prime_from" (by decide +kernel)) F_lpf.kp k_lpf b_lpf
  obtain ⟨u_ln, F_ln⟩ := fnD c 51 (d := ⟨.glo "_law_normal", "_law_normal", "_law_normal", sLN, []⟩)
  have F_ln : FnP K "_law_normal" "_law_normal" sLN (He.ga K "_law_normal") u_ln := F_ln
  have k_ln := ok_LN (P := P) (w := w) (mg := mg) (base := base) F_ln gIn gRa gTu gMx gA
  have b_ln : Binds K u_ln ["_law_row", "_law_char"] [] := FunD.bindsN F_ln (fun _ _ _ _ _ _ us hl => match us, hl with | [_, _], _ => rfl)
  have c_ln : Cal P w K mg base CX0 1 "_law_normal" (spNorm K) := cal_of (gl "_law_normal" (by decide +kernel)) F_ln.kp k_ln b_ln
  have TX : ExT K mg (cA K "BadCharacteristic") (cA K "UnknownName") := ⟨gl "UnknownName" (by decide +kernel), gl "BadCharacteristic" (by decide +kernel), hU.xf, hB.xf, hU.2.2.2.2.2.2.1, hB.2.2.2.2.2.2.1, hM.1, hM.2.1, hM.2.2.1⟩
  obtain ⟨u_ls, F_ls⟩ := fnD c 52 (d := ⟨.glo "_law_seen", "_law_seen", "_law_seen", sLSeen, []⟩)
  have F_ls : FnP K "_law_seen" "_law_seen" sLSeen (He.ga K "_law_seen") u_ls := F_ls
  have k_ls := ok_LSeen (P := P) (w := w) (mg := mg) (base := base) F_ls TX c_seenP
  have b_ls : Binds K u_ls ["_law_thing", "_law_values", "_law_char"] [] := FunD.bindsN F_ls (fun _ _ _ _ _ _ us hl => match us, hl with | [_, _, _], _ => rfl)
  have c_ls : Cal P w K mg base CX0 8 "_law_seen" (spLSeen K (cA K "Point") (cA K "BadCharacteristic") (cA K "UnknownName") (cA K "Many")) := cal_of (gl "_law_seen" (by decide +kernel)) F_ls.kp k_ls b_ls
  have TR : RiT P w K mg base (cA K "Chars") (cA K "Many") (cA K "Point") (cA K "Line") (cA K "BadCharacteristic") (cA K "UnknownName") := ⟨c_ln, c_seenP, c_seenL, c_norm, c_lt, c_off, c_mNum, c_mEq, hCM.nf, c_lPos, c_chC, c_on, gMa, gLi, gIs, gLe, TL⟩
  obtain ⟨u_lr, F_lr⟩ := fnD c 53 (d := ⟨.glo "_law_right", "_law_right", "_law_right", sRight, []⟩)
  have F_lr : FnP K "_law_right" "_law_right" sRight (He.ga K "_law_right") u_lr := F_lr
  have k_lr := ok_right (P := P) (w := w) (mg := mg) (base := base) F_lr TR
  have b_lr : Binds K u_lr ["_law_one", "_law_two", "_law_first", "_law_second", "_law_char"] [] := FunD.bindsN F_lr (fun _ _ _ _ _ _ us hl => match us, hl with | [_, _, _, _, _], _ => rfl)
  have c_lr : Cal P w K mg base CX0 8 "_law_right" (spRight K (cA K "Point") (cA K "Many")) := cal_of (gl "_law_right" (by decide +kernel)) F_lr.kp k_lr b_lr
  have TF : LoT P w K mg base (cA K "Chars") (cA K "Many") (cA K "Point") (cA K "Line") (cA K "BadCharacteristic") (cA K "UnknownName") := ⟨c_loose, c_whole, c_lt, c_crg, c_off, c_mNum, c_mEq, hCM.nf, c_lEq, hCL.nf, c_pEq, hCP.nf, c_mNames, c_pPos, c_ls, gMa, gPo, gIs, TP, TC⟩
  obtain ⟨u_lf, F_lf⟩ := fnD c 54 (d := ⟨.glo "_law_loose_fits", "_law_loose_fits", "_law_loose_fits", sLF, []⟩)
  have F_lf : FnP K "_law_loose_fits" "_law_loose_fits" sLF (He.ga K "_law_loose_fits") u_lf := F_lf
  have k_lf := ok_LF (P := P) (w := w) (mg := mg) (base := base) F_lf TF
  have b_lf : Binds K u_lf ["_law_one", "_law_two", "_law_first", "_law_second"] [] := FunD.bindsN F_lf (fun _ _ _ _ _ _ us hl => match us, hl with | [_, _, _, _], _ => rfl)
  have c_lf : Cal P w K mg base CX0 9 "_law_loose_fits" (spLF K (cA K "Point") (cA K "Many")) := cal_of (gl "_law_loose_fits" (by decide +kernel)) F_lf.kp k_lf b_lf
  exact ⟨c_ld, c_lc, c_lpf, c_lr, c_ln, c_lf, c_whole, c_lt, c_lEq, hCL.nf, hM.2.2.2.1, c_pEq, hCP.nf, hM.2.2.2.2.1, hM.2.2.2.2.2.1, hM.2.2.2.2.2.2.1, hM.2.2.2.2.2.2.2.1, hM.2.2.2.2.2.2.2.2.1, c_chE, hCC.nf, c_chC, c_chNo, c_pPos, c_lPos, c_lI, gPo, gLi, gCh, TP, TL⟩
end
end K75
set_option Elab.async false
set_option linter.all false
set_option maxRecDepth 100000
set_option maxHeartbeats 0
namespace K75
open PySem PySem.Spec PyProof.Rows L2
theorem law_end {P : Program} {w : World} {K : PySem.W.Frag} {h : Heap} {mg : Str → Option Value} {fa : Addr} (hfile : P.main.file = cutF) (ht : (P.main.scope.names.lookup ("super" : Str)).isSome = false) (G : h.Ns mainGlobals mg) (X : K.In h) (c : obsK K cutF = valK) (hfa : mg ("law" : Str) = some (.ref fa)) :
    ∃ fd : FuncData, (∀ (s : Shared) (v : Value), BindsTo s fd ⟨[v], []⟩ [("_law_script", v)]) ∧ ∀ base : Heap, K.In base → base.Ns mainGlobals mg → FnOk P w K mg base CX0 10 fa fd ["_law_script"] (spLaw K) := by
  have gl : ∀ x ∈ gloN, mg x = some (.ref (He.ga K x)) := fun x hx => PySem.W.mg_of X G (of_decide_eq_true (List.all_eq_true.mp (tell c 0) x hx))
  have fr : ∀ x ∈ freeN, mg x = none := fun x hx => PySem.W.mg_none_of X G (of_decide_eq_true (List.all_eq_true.mp (tell c 1) x hx))
  obtain ⟨fd, F⟩ := fnD c 55 (d := ⟨.glo "law", "law", "law", sLaw, []⟩)
  have F' : FnP K "law" "law" sLaw (He.ga K "law") fd := F
  have e := hfa.symm.trans (gl "law" (by decide +kernel))
  cases e
  have b := FunD.bindsA (ps := ["_law_script"]) F' fun _ _ _ _ _ _ us hl => match us, hl with | [_], _ => rfl
  exact ⟨fd, fun s v => b s [v] rfl, fun base _ _ => ok_law F' (all_ok c hfile ht gl fr)⟩
end K75
open PySem PySem.W PySem.Calls PyProof.Rows
theorem PySem.Challenge.cw_everyfield_k75_whole_points_and_lines_holds : PySem.Challenge.rw_everyfield_k75_whole_points_and_lines.Holds := by
  w_on; o_law
  refine HandSHeadRun.head_any (r := OpenLaw.row PySem.Challenge.rw_everyfield_k75_whole_points_and_lines) (q := view (OpenLaw.row PySem.Challenge.rw_everyfield_k75_whole_points_and_lines).prog [43]) (H := K75.hookK K75.cutF) (ob := K75.obT) (M := 7000) (loose := K75.names) (d := HandSHeadRun.topDef (OpenLaw.row PySem.Challenge.rw_everyfield_k75_whole_points_and_lines).prog 43) (kwd := []) K75.obT_eq
    (by kernel_rfl) (fun s => by kernel_rfl) K75.run (by kernel_rfl) (by kernel_rfl) (by kernel_rfl) (by rfl) (by first | assumption | decide +kernel) (by decide +kernel) ⟨rfl, rfl, rfl, rfl, rfl, by decide +kernel⟩ ?hw ?hc
  case hw => w_witness2
  case hc =>
    refine L2.walk_ofE (l := PySem.Challenge.rw_everyfield_k75_whole_points_and_lines) (n := 63) (k := 10) (x := "_law_script") (CX := L2.CX0) rfl (by decide) (by kernel_rfl) ⟨rfl, by decide, by decide⟩ ?F (fun _ _ _ _ z => z)
    intro w mg fa h Y G hmg0
    obtain ⟨K, KX, c⟩ := Y
    have hmg : mg ("law" : PySem.Str) = some (.ref fa) := by
      have e : (HandSHeadRun.topDef (OpenLaw.row PySem.Challenge.rw_everyfield_k75_whole_points_and_lines).prog 43).name = ("law" : PySem.Str) := by kernel_rfl
      rw [← e]
      exact hmg0
    obtain ⟨fd, hb, hF⟩ := K75.law_end (P := (PySem.Challenge.rw_everyfield_k75_whole_points_and_lines).prog) (w := w) (by kernel_rfl) (by kernel_rfl) G KX c hmg
    exact ⟨K, fd, K75.spLaw K, KX, hb, fun H a ns hl _ hS => ⟨a, ns, rfl, hS, fun _ => rfl⟩, hF⟩
