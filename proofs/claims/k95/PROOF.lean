import PyProof.Rows.All
import Wide.All
import OpenK.AllK
import Wide.FinOn
import HandS.HotCalls
import HandS.ExcIs
import HandS.List
import HandS.Comp
import HandS.Lambda
import HandS.ForMost
import HandS.Exc
import HandS.ExcOwn
import HandS.ExcCtx
import HandS.WordsExc
import HandS.Wide
import HandS.IsInst
import HandS.Steps
import HandS.Deep
import HandS.TupAny
import HandS.Codes
import HandS.Style
import HandS.Replace
import HandS.EndOwn
import HandS.NestedK
import KE.KNestM
import PyProof.StrBlock2
import KE.SortData
import KE.SortKeyHeap
import HandS.SortKw
import KE.GoesMore
import KE.GoesZip
import HandS.Conv
import KE.KDictZip
import HandS.ListItems
import PyProof.ListNew
import PyProof.EnumMake
import HandS.WordsDict
import HandS.Small
import PySem.Challenge.RW_letterfinds_k95_whole_pickers
set_option Elab.async false
set_option linter.all false
set_option maxRecDepth 100000
set_option maxHeartbeats 4000000
namespace Lf
open PySem PySem.Spec PyProof.Rows L2 L2H HotX
section
variable {prog : Program} {w : World} {A : Around} {E : Value → Shared → Prop} {s : Shared}
theorem lh_end {it l x1 : Addr} {i : Nat} {items : Array Value} {Q : Option Value → Shared → Prop} (hot : HotAt A x1 s.heap) (hit : s.heap.IsListIter it l i) (hl : s.heap.IsList l items) (hx : items[i]? = none)
    (hQ : ∀ h', (∀ b o, b ≠ it → s.heap.get? b = some o → h'.get? b = some o) → Q none { s with heap := h' }) : wpAny (model prog w) A (pyNext (.ref it)) Q E s := by
  obtain ⟨o, ho, hc, hd⟩ := id hit
  obtain ⟨ol, hol, _, nl, hdl⟩ := hl
  obtain ⟨hh, o1, vs1, h1, d1, c1⟩ := hot
  have nx : x1 ≠ it := fun z => by
    rw [z, ho] at h1
    cases h1
    rw [hd] at d1
    cases d1
    simp at c1
  unfold pyNext
  refine wpAny_bind (wpAny_attempt (wpAny_callSpecial?_slot (name := Str.ofString "__next__") hit.typeIs slot_listiter_next (wpAny_call_entry slot_listiter_next hit.typeIs entry_listiter_next ?_ (args_listiter_next _))))
  show wpAny _ _ (field (.ref it) 0 >>= _) _ _ s
  refine wpAny_bind (wpAny_field ho hd (x := .ref l) rfl ?_)
  show wpAny _ _ (if (Value.ref l == Value.none) = true then _ else _) _ _ s
  rw [if_neg (show ¬ ((Value.ref l == Value.none) = true) from Bool.false_ne_true)]
  show wpAny _ _ (field (.ref it) 1 >>= _) _ _ s
  refine wpAny_bind (wpAny_field ho hd (x := .int i 0) rfl ?_)
  show wpAny _ _ (seqItems? (.ref l) >>= _) _ _ s
  refine wpAny_bind (wpAny_seqItems hol hdl ?_)
  simp only [Int.toNat_natCast, hx]
  refine wpAny_bind (wpAny_rule (wpAny_bind (wpAny_setField ho hd (by simp) ?_)))
  show wpAny _ _ (newExc (.type "StopIteration") [] >>= _) _ _ _
  refine wpAny_bind ?_
  simp only [newExc, newTuple]
  refine wpAny_bind (wpAny_newObj_type ?_ (by size_fits))
  refine wpAny_bind (m := firstArgMember _ _) (wpAny_of_eq (a := Value.none) (by first | rfl | (simp only [firstArgMember]; rfl)) ?_)
  refine wpAny_newObj_type ?_ (by size_fits)
  have keep1 : ∀ b o, b ≠ it → s.heap.get? b = some o → (s.heap.update it (Obj.mapFields (·.setIfInBounds 0 Value.none))).get? b = some o := fun b o hb e => by
    rw [Heap.get?_update_other _ _ (Ne.symm hb)]
    exact e
  have h1' := keep1 x1 o1 nx h1
  refine raiseNew_hot ⟨hh, o1, vs1, Heap.get?_push_of_some _ (Heap.get?_push_of_some _ h1'), d1, c1⟩ (Nat.ne_of_lt (Heap.lt_size (Heap.get?_push_of_some _ h1'))) (Heap.get?_push_size _ rfl) rfl (by first | (simp; done) | (simp; omega)) ?_
  refine wpAny_bind (wpAny_isInstance (T := "StopIteration") (b := true) ⟨_, Heap.get?_update_self _ (Heap.get?_push_size _ rfl) rfl, rfl⟩ isSubtype_stop ?_)
  refine wpAny_pure (hQ _ fun b o hb e => ?_)
  have e1 := keep1 b o hb e
  rw [Heap.get?_update_other _ _ (Nat.ne_of_gt (Heap.lt_size (Heap.get?_push_of_some _ e1)))]
  exact Heap.get?_push_of_some _ (Heap.get?_push_of_some _ e1)
/-- a list's walk -/
theorem lh_walk {x1 : Addr} (hh : A.handled = some (.ref x1)) (I ax : Addr) (hne : ax ≠ I) (hx : x1 ≠ I) (items : Array Value) :
    Walks prog w A I [I, ax, x1] [I] items.size (fun i v => items[i]? = some v) (fun i h => h.IsListIter I ax i ∧ h.IsList ax items ∧ ∃ (o : Obj) (vs : Array Value), h.get? x1 = some o ∧ o.data = .fields vs ∧ vs[2]? = some .none) where
  sub := fun b hb => by simp at hb; simp [hb]
  frame := fun _ _ _ st hk => by
    obtain ⟨a, b, o, vs, e, r⟩ := st
    exact ⟨a.at fun o e => hk I (by simp) o e, b.at fun o e => hk ax (by simp) o e, o, vs, hk x1 (by simp) o e, r⟩
  item := fun i s Q E hi st hQ => by
    obtain ⟨a, b, o, vs, e, r⟩ := st
    refine wpAny_pyNext_list_item a b (x := items[i]) (by simp [hi]) fun h' hit' hs' => ?_
    exact hQ _ h' s.toks (by simp [hi]) ⟨hit', b.extBut hs'.extBut hne, o, vs, hs'.extBut _ _ hx e, r⟩ fun b o hb e => hs'.extBut b o (fun z => hb (by simp [z])) e
  done := fun s Q E st hQ => by
    obtain ⟨a, b, o, vs, e, r⟩ := st
    exact lh_end ⟨hh, o, vs, e, r⟩ a b (by simp) fun h' he' => hQ h' s.toks fun b o hb e => he' b o (fun z => hb (by simp [z])) e
  self := fun _ _ _ _ st hQ => wpAny_pyIter_listiter st.1 hQ
/-- sum(list of ints) -/
theorem lh_sum {l x1 : Addr} {its : List Value} {ns : List Int} {Q : Value → Shared → Prop} (hot : HotAt A x1 s.heap) (hl : s.heap.IsList l its.toArray) (hi : IntsAre its ns)
    (h : ∀ h' tk t', (∀ b o, s.heap.get? b = some o → h'.get? b = some o) → Q (.int ns.sum t') { s with heap := h', toks := tk }) : wpAny (model prog w) A (call (.builtin "sum") [.ref l]) Q E s := by
  obtain ⟨xs, e⟩ := hi.allInts.items
  have hn : numsOf (intItems xs).toList = ns := by rw [← e]; exact hi.numsOf
  rw [nums_intItems] at hn
  rw [e] at hl
  obtain ⟨hh, o1, vs1, g1, d1, c1⟩ := hot
  have nx : x1 ≠ s.heap.objs.size := Nat.ne_of_lt (Heap.lt_size g1)
  refine call_sum_walkG (iter_intList hl fun s2 es st hfp hlI => ?_)
  subst es
  refine ⟨_, _, _, _, _, _, numAt xs, rfl, lh_walk (A := A.in1) (x1 := x1) hh _ l hlI nx (intItems xs), ⟨st.1, st.2, o1, vs1, Heap.get?_push_of_some _ g1, d1, c1⟩, fun b hb => ?_, (fun _ _ => intItems_at), fun h' tk t' hk => ?_⟩
  · simp only [List.mem_cons, List.not_mem_nil, or_false] at hb
    rcases hb with z | z | z
    · exact hfp b (by simp [z])
    · exact hfp b (by simp [z])
    · rw [z]
      exact Heap.lt_size (Heap.get?_push_of_some _ g1)
  · have q := h h' tk t' fun b o e => hk b o (fun z => by
      rw [List.mem_singleton.mp z] at e
      exact Nat.lt_irrefl _ (Heap.lt_size e)) (Heap.get?_push_of_some _ e)
    rw [show ns.sum = preSum (numAt xs) (intItems xs).size from ?_] at q
    · exact q
    · rw [← hn]
      have : (intItems xs).size = xs.size := by simp [intItems]
      rw [this, preSum_eq, List.take_of_length_le (by simp)]
end
section
variable {X : Cx}
theorem cr_sumH (hc : HotC X) : CallR X (.builtin "sum") (rSum X.K) := by
  intro pins s σ H vs us Q I r h
  obtain ⟨a, ns, rfl, hs, q⟩ := h
  rw [Vals.ref1 r]
  obtain ⟨its, rv, p, hz⟩ := I.list hs
  obtain ⟨x1, hot⟩ := hc.at I
  exact lh_sum hot p.isList rv.ints fun h' tk t' hk => ⟨.int ns.sum, H, I.kept (t' := tk) hk, ⟨t', rfl⟩, q⟩
/-- isinstance of the handled exception -/
theorem call_isP {a D : Addr} {oe : Obj} (C : ExcC X.K D) (hp : (a, oe) ∈ X.pn) (hz : Zc (.ref D) none oe) (hf : ∃ vs, oe.data = .fields vs) : CallR X (.builtin "isinstance") (rIsE X.K D a) := by
  intro pins s σ H xs us Q I r h
  obtain ⟨c, cv, b, rfl, hcv, e, q⟩ := h
  cases r with
  | cons rx rr =>
    cases rr with
    | cons rt rr =>
      cases rr
      cases rx
      have ec := hcv _ rt
      subst ec
      obtain ⟨hget, _⟩ := I.pin (a, oe) (List.mem_append_left _ hp)
      obtain ⟨vs, hv⟩ := hf
      have J : PySem.W.InstAt s.heap a oe D none := by
        obtain ⟨oc, od, oda, osl⟩ := oe
        obtain ⟨h1, h2⟩ := hz
        dsimp only at h1 h2 hv
        subst h1 h2 hv
        exact ⟨hget, rfl, rfl, trivial⟩
      exact PySem.W.kia_one (PySem.W.handS_kitx_exc C.hg C.hk C.hs C.hd C.ha C.hn C.ht C.hm) I.kIn J e (fun z => nomatch z) fun tk => ⟨.bl b, H, I.kept (t' := tk) fun _ _ z => z, rfl, q⟩
end
end Lf
set_option Elab.async false
set_option linter.all false
set_option maxRecDepth 100000
set_option maxHeartbeats 4000000
namespace Lf
open PySem PySem.Spec PyProof.Rows L2 L2H HotX
section
variable {X : Cx}
/-- a new object, at an address where nothing stands -/
theorem laid_none {pins : List (Addr × Obj)} {σ : L2.St} {H : Hp} {s : Shared} {h' : Heap} {a : Addr} {o : HO} {t' : Nat} (I : Inv X pins σ H s) (k : ∀ b u, s.heap.get? b = some u → h'.get? b = some u) (hp : s.heap.get? a = none) (new : ObjOk X.prog X.w (upd H a o) h' a o) :
    Inv X pins σ (upd H a o) { s with heap := h', toks := t' } := by
  have hn : H a = none := I.hok.gone hp
  have ne : ∀ b u, s.heap.get? b = some u → b ≠ a := fun b u e z => by rw [z, hp] at e; cases e
  refine I.un ⟨fun b u q _ _ _ => k b u q, fun b u q _ _ _ => ⟨u.slots, k b u q⟩, fun b u q n _ => by rw [upd_ne (ne b u q)]; exact n, fun b u q _ => ⟨u, k b u q⟩, fun b xs q => by rw [upd_ne (ne_of_none q hn)]; exact q, fun b u xs q => by rw [upd_ne (ne_of_none q hn)]; exact q, fun b ps q => ⟨#[], by rw [upd_ne (ne_of_none q hn), q]; simp⟩⟩ fun b u e => ?_
  by_cases hb : b = a
  · subst hb
    rw [upd_same] at e
    cases e
    exact new
  · rw [upd_ne hb] at e
    exact (I.hok b u e).stay (fun c v _ q => k c v q) (fun c q => by rw [upd_ne (ne_of_none q hn)]; exact q) fun c xs q => by rw [upd_ne (ne_of_none q hn)]; exact q
/-- [int(x) for x in e], e a list of truths, while an exception is handled -/
def tBits (K : PySem.W.Frag) (te : TE) : TE := fun σ H Q => te σ H fun x H1 => ∃ (a : Addr) (bs : List Bool), x = .ref a ∧ SqL K H1 a (bs.map V.bl) ∧ bs.length ≤ 1000 ∧ ∀ p, H1 p = none → Q (.ref p) (upd H1 p (.lst (bs.map fun b => V.int (if b then 1 else 0))))
theorem pe_bits {e : Expr} {te : TE} {x : Str} {scope : Scope} {p1 p2 p3 p4 pos : Pos} (hc : HotC X) (hm : X.mg "int" = none) (he : PE X e te) (hkd : scope.kind = .function) (hx : scope.names.lookup x = some .local) (hi : scope.names.lookup ("int" : Str) = some .globalImplicit) (hcell : ∀ y ∈ scope.names, y.2 ≠ .cell ∧ y.2 ≠ .free)
    (hn : ∀ y ∈ scope.names, y.2 = .local → scope.names.lookup y.1 = some .local) (hxd : (x == ("__debug__" : Str)) = false) (hf : ∀ x, foldedSetIterable e X.env x = pure x := by intro _; rfl) :
    PE X (.ListComp (.Call (.Name "int" p1) [.Name x p2] [] p3) [⟨.Name x p4, e, [], 0⟩] scope pos) (tBits X.K te) := by
  refine ⟨fun pins s σ H Q I h => ?_⟩
  refine wpAny_ListComp_free (fun _ => true) (fun v y => ∃ b t, v = .bool b ∧ y = .int (if b then 1 else 0) t) (closure_ok fun y hy z => absurd z (hcell y hy).2) (fun y hy => (hcell y hy).1) hkd hn hx (thn (he.run pins s σ H _ I h) fun v s1 hv => ?_) hf
  obtain ⟨xv, H1, I1, r1, a, bs, rfl, hs, hz, q⟩ := hv
  obtain rfl : v = Value.ref a := r1
  obtain ⟨its, rv, p, hzz⟩ := I1.list hs
  have hbl := rv.bls
  obtain ⟨x1, hot⟩ := hc.at I1
  obtain ⟨hh, o1, vs1, g1, d1, c1⟩ := hot
  have la : a < s1.heap.objs.size := by
    obtain ⟨o, n, e, _⟩ := p
    exact Heap.lt_size e
  refine wpAny_pyIter_list p.isList ⟨s1.heap.objs.size, [s1.heap.objs.size, a, x1], [s1.heap.objs.size], its.toArray.size, _, _, rfl, lh_walk (x1 := x1) hh _ a (Nat.ne_of_lt la) (Nat.ne_of_lt (Heap.lt_size g1)) its.toArray, ?_, ⟨⟨_, Heap.get?_push_size _ rfl, rfl, rfl⟩, p.isList.push _, o1, vs1, Heap.get?_push_of_some _ g1, d1, c1⟩, fun b hb => ?_, ⟨fun C i v s3 m3 E' hC hP hns hmx hk htk => ?_, fun C i v s3 m3 E' hC hP _ hns hmx hk htk => ?_⟩, fun D h' tk ys vs hD hl hpl hlen hPs hF hk => ?_⟩
  · rw [hbl, List.size_toArray, List.length_map]
    exact Nat.le_trans hz (by decide)
  · show b < (s1.heap.push _).objs.size
    rw [Heap.size_push]
    simp only [List.mem_cons, List.not_mem_nil, or_false] at hb
    rcases hb with z | z | z
    · rw [z]; exact Nat.lt_succ_self _
    · rw [z]; exact Nat.lt_succ_of_lt la
    · rw [z]; exact Nat.lt_succ_of_lt (Heap.lt_size g1)
  · exact wpAny_tests_nil ⟨rfl, s3.heap, s3.toks, rfl, fun _ _ z => z⟩
  · have hb : ∃ b, v = .bool b := by
      rw [hbl] at hP
      have hP : ((bs.map Value.bool).toArray)[i]? = some v := hP
      rw [List.getElem?_toArray, List.getElem?_map] at hP
      cases q : bs[i]? with
      | none => rw [q] at hP; cases hP
      | some b => rw [q] at hP; exact ⟨b, (Option.some.inj hP).symm⟩
    obtain ⟨b, rfl⟩ := hb
    have kp : ∀ b o, X.base.get? b = some o → s3.heap.get? b = some o := fun b o e => by
      have e1 := I1.bk b o e
      exact hk b o (fun z => by
        rw [List.mem_singleton.mp z] at e1
        exact Nat.lt_irrefl _ (Heap.lt_size e1)) (Heap.get?_push_of_some _ e1)
    obtain ⟨mb, b1, b2⟩ := I1.mod.blt
    have hkf : (compEnvC scope (cloFrom X.env.cells scope.names []) C X.env).scope.kind = .function := hkd
    have lk : ∀ {y : Str} {kd : NameKind}, scope.names.lookup y = some kd → kd ≠ .free → (compEnvC scope (cloFrom X.env.cells scope.names []) C X.env).kindOf y = some kd := fun {y kd} e hne => by
      have rel : (relabel scope X.env).names = scope.names := by
        unfold relabel
        show scope.names.map _ = scope.names
        refine (List.map_congr_left fun z hz => ?_).trans (List.map_id _)
        obtain ⟨zn, zk⟩ := z
        have : zk ≠ .free := (hcell _ hz).2
        have e2 : (zk == NameKind.free) = false := by cases zk <;> first | rfl | exact absurd rfl this
        simp [e2]
      show (relabel scope X.env).names.lookup y = some kd
      rw [rel]
      exact e
    refine Call_ (Calls.Name_function_global hkf (lk hi (by decide)) (Calls.loadGlobal_builtin (mg := X.mg) (mb := mb) ?_ hm ?_ ((b2 "int" (by decide)).trans (by decide +kernel : bootBuiltins "int" = some (.type "int"))) ?_) (by decide))
    · show s3.heap.Ns X.env.globals X.mg
      rw [I1.ok.glob]
      exact I1.mod.glob.keeps kp
    · show s3.heap.Ns X.env.builtins mb
      rw [I1.ok.blt]
      exact b1.keeps kp
    · refine PyProof.Rows.callWith_type1 ?_ rfl rfl
      show wpAny _ _ (spliced [(false, eval (.Name x p2) _)]) _ _ _
      refine Calls.spliced_cons (wpAny_Name (wpAny_loadName_local hkf (lk hx (by decide)) hns hmx (Calls.spliced_nil ?_)) hxd)
      exact call_int_bool ⟨⟨b, _, rfl, rfl⟩, s3.heap, _, rfl, fun _ _ z => z⟩
  · have hv : vs = its := by
      refine List.ext_getElem? fun j => ?_
      by_cases hj : j < vs.length
      · have e1 : vs[j]? = some vs[j] := List.getElem?_eq_getElem hj
        rw [e1]
        have := hPs j vs[j] e1
        have this : its.toArray[j]? = some vs[j] := this
        rw [List.getElem?_toArray] at this
        exact this.symm
      · rw [List.getElem?_eq_none (by omega), List.getElem?_eq_none (by simp at hlen; omega)]
    subst hv
    rw [List.filter_eq_self.mpr (fun _ _ => rfl)] at hF
    have hys : Vals (bs.map fun b => V.int (if b then 1 else 0)) ys.toList := by
      have conv : ∀ (bs : List Bool) (us ws : List Value), us = bs.map Value.bool → Paired (fun v y => ∃ b t, v = Value.bool b ∧ y = Value.int (if b then 1 else 0) t) us ws → Vals (bs.map fun b => V.int (if b then 1 else 0)) ws := by
        intro bs
        induction bs with
        | nil =>
          intro us ws e pr
          subst e
          cases pr
          exact .nil
        | cons b bs ih =>
          intro us ws e pr
          subst e
          cases pr with
          | cons h t =>
            obtain ⟨b', t', e1, e2⟩ := h
            cases e1
            exact .cons ⟨t', e2⟩ (ih _ _ rfl t)
      exact conv bs vs ys.toList hbl hF
    have hkk : ∀ b o, s1.heap.get? b = some o → h'.get? b = some o := fun b o e => hk b o (fun z => by
      rw [List.mem_singleton.mp z] at e
      exact Nat.lt_irrefl _ (Heap.lt_size e)) (Heap.get?_push_of_some _ e)
    have hD1 : s1.heap.get? D = none := by
      cases z : s1.heap.get? D with
      | none => rfl
      | some o =>
        have z2 := Heap.get?_push_of_some { cls := .type "list_iterator", data := .fields #[.ref a, .int 0 0] } z
        have hD : (s1.heap.push { cls := .type "list_iterator", data := .fields #[.ref a, .int 0 0] }).get? D = none := hD
        rw [hD] at z2
        cases z2
    obtain ⟨n, hpl⟩ := hpl
    have new : ObjOk X.prog X.w (upd H1 D (.lst (bs.map fun b => V.int (if b then 1 else 0)))) h' D (.lst (bs.map fun b => V.int (if b then 1 else 0))) := by
      refine ⟨?_, ys.toList, n, hys, ?_⟩
      · rw [List.length_map]
        exact Nat.le_trans hz (by decide)
      · rw [hpl]
    exact ⟨.ref D, _, laid_none (s := s1) (t' := tk) I1 hkk hD1 new, rfl, q D (I1.hok.gone hD1)⟩
end
end Lf
set_option Elab.async false
set_option linter.all false
set_option maxRecDepth 100000
set_option maxHeartbeats 4000000
namespace Lf
open PySem PySem.Spec PyProof.Rows L2 LamX
mutual
def Dt (O : Addr → Prop) (H : Hp) : PyData → V → Prop
  | .none, v => v = .non
  | .bool b, v => v = .bl b
  | .int i, v => v = .int i
  | .str s, v => v = .str s
  | .list ds, v => ∃ a xs, v = .ref a ∧ ¬ O a ∧ H a = some (.lst xs) ∧ DtAll O H ds xs
  | .tuple ds, v => ∃ a xs, v = .ref a ∧ ¬ O a ∧ H a = some (.tup xs) ∧ DtAll O H ds xs
  | .dict kvs, v => ∃ p : Addr, kvs = [(PyData.int (p : Int), PyData.none)] ∧ v = .ref p
def DtAll (O : Addr → Prop) (H : Hp) : List PyData → List V → Prop
  | [], xs => xs = []
  | d :: ds, xs => ∃ x r, xs = x :: r ∧ Dt O H d x ∧ DtAll O H ds r
end
mutual
theorem Dt.imp {O O' : Addr → Prop} {H H' : Hp} (k : ∀ a o, ¬ O a → H a = some o → (∀ ps, o ≠ .tbl ps) → ¬ O' a ∧ H' a = some o) : ∀ (d : PyData) (v : V), Dt O H d v → Dt O' H' d v
  | .none, _, h => h
  | .bool _, _, h => h
  | .int _, _, h => h
  | .str _, _, h => h
  | .list ds, _, h => by
    obtain ⟨a, xs, e, n, g, r⟩ := h
    obtain ⟨n', g'⟩ := k a _ n g (fun _ z => by cases z)
    exact ⟨a, xs, e, n', g', DtAll.imp k ds xs r⟩
  | .tuple ds, _, h => by
    obtain ⟨a, xs, e, n, g, r⟩ := h
    obtain ⟨n', g'⟩ := k a _ n g (fun _ z => by cases z)
    exact ⟨a, xs, e, n', g', DtAll.imp k ds xs r⟩
  | .dict _, _, h => h
theorem DtAll.imp {O O' : Addr → Prop} {H H' : Hp} (k : ∀ a o, ¬ O a → H a = some o → (∀ ps, o ≠ .tbl ps) → ¬ O' a ∧ H' a = some o) : ∀ (ds : List PyData) (xs : List V), DtAll O H ds xs → DtAll O' H' ds xs
  | [], _, h => h
  | d :: ds, _, h => by
    obtain ⟨x, r, e, h1, h2⟩ := h
    exact ⟨x, r, e, Dt.imp k d x h1, DtAll.imp k ds r h2⟩
end
section
variable {O O' : Addr → Prop} {H H' : Hp} {d : PyData} {ds es : List PyData} {v : V} {vs us : List V} {p : Addr} {o : HO}
theorem Dt.grow (h : Dt O H d v) (e : ExtN H H') : Dt O H' d v := Dt.imp (fun a o n g t => ⟨n, e a o g t⟩) d v h
theorem DtAll.grow (h : DtAll O H ds vs) (e : ExtN H H') : DtAll O H' ds vs := DtAll.imp (fun a o n g t => ⟨n, e a o g t⟩) ds vs h
/-- fewer addresses are shut -/
theorem Dt.open_ (h : Dt O H d v) (e : ∀ a, O' a → O a) : Dt O' H d v := Dt.imp (fun a o n g t => ⟨fun z => n (e a z), g⟩) d v h
theorem DtAll.open_ (h : DtAll O H ds vs) (e : ∀ a, O' a → O a) : DtAll O' H ds vs := DtAll.imp (fun a o n g t => ⟨fun z => n (e a z), g⟩) ds vs h
/-- what is shut may change -/
theorem Dt.turn (h : Dt O H d v) (hp : O p) : Dt O (upd H p o) d v := Dt.imp (fun a u n g t => ⟨n, by rw [upd_ne (fun z => n (by rw [z]; exact hp))]; exact g⟩) d v h
theorem DtAll.turn (h : DtAll O H ds vs) (hp : O p) : DtAll O (upd H p o) ds vs := DtAll.imp (fun a u n g t => ⟨n, by rw [upd_ne (fun z => n (by rw [z]; exact hp))]; exact g⟩) ds vs h
/-- a new address is shut -/
def Shut (O : Addr → Prop) (p : Addr) : Addr → Prop := fun a => O a ∨ a = p
theorem Dt.shut (h : Dt O H d v) (hp : H p = none) : Dt (Shut O p) H d v := Dt.imp (fun a u n g t => ⟨fun z => z.elim n (fun e => by rw [e, hp] at g; cases g), g⟩) d v h
theorem DtAll.shut (h : DtAll O H ds vs) (hp : H p = none) : DtAll (Shut O p) H ds vs := DtAll.imp (fun a u n g t => ⟨fun z => z.elim n (fun e => by rw [e, hp] at g; cases g), g⟩) ds vs h
theorem DtAll.len : ∀ {ds : List PyData} {vs : List V}, DtAll O H ds vs → vs.length = ds.length
  | [], _, h => by cases h; rfl
  | d :: ds, _, h => by
    obtain ⟨x, r, rfl, _, h2⟩ := h
    rw [List.length_cons, List.length_cons, DtAll.len h2]
theorem DtAll.get : ∀ {ds : List PyData} {vs : List V} {i : Nat} {d : PyData}, DtAll O H ds vs → ds[i]? = some d → ∃ v, vs[i]? = some v ∧ Dt O H d v
  | [], _, _, _, _, e => by simp at e
  | d :: ds, _, 0, _, h, e => by
    obtain ⟨x, r, rfl, h1, _⟩ := h
    cases e
    exact ⟨x, rfl, h1⟩
  | d :: ds, _, i + 1, _, h, e => by
    obtain ⟨x, r, rfl, _, h2⟩ := h
    obtain ⟨v, e1, e2⟩ := DtAll.get (i := i) h2 (by simpa using e)
    exact ⟨v, by simpa using e1, e2⟩
theorem DtAll.of : ∀ {ds : List PyData} {vs : List V}, vs.length = ds.length → (∀ (i : Nat) d v, ds[i]? = some d → vs[i]? = some v → Dt O H d v) → DtAll O H ds vs
  | [], vs, e, _ => List.length_eq_zero_iff.mp e
  | d :: ds, [], e, _ => by simp at e
  | d :: ds, v :: vs, e, h => ⟨v, vs, rfl, h 0 d v rfl rfl, DtAll.of (by simpa using e) fun i d' v' a b => h (i + 1) d' v' (by simpa using a) (by simpa using b)⟩
theorem DtAll.at_ (h : DtAll O H ds vs) {i : Nat} (a : ds[i]? = some d) (b : vs[i]? = some v) : Dt O H d v := by
  obtain ⟨v', e, q⟩ := h.get a
  rw [b] at e
  cases e
  exact q
theorem DtAll.app (h : DtAll O H ds vs) (g : DtAll O H es us) : DtAll O H (ds ++ es) (vs ++ us) := by
  refine .of (by rw [List.length_append, List.length_append, h.len, g.len]) fun i d v a b => ?_
  have hl := h.len
  by_cases q : i < ds.length
  · rw [List.getElem?_append_left q] at a
    rw [List.getElem?_append_left (by omega)] at b
    exact h.at_ a b
  · rw [List.getElem?_append_right (by omega)] at a
    rw [List.getElem?_append_right (by omega), hl] at b
    exact g.at_ a b
theorem DtAll.one (h : Dt O H d v) : DtAll O H [d] [v] := ⟨v, [], rfl, h, rfl⟩
theorem DtAll.drop (h : DtAll O H ds vs) (n : Nat) : DtAll O H (ds.drop n) (vs.drop n) := by
  refine .of (by rw [List.length_drop, List.length_drop, h.len]) fun i d v a b => ?_
  rw [List.getElem?_drop] at a b
  exact h.at_ a b
theorem DtAll.take (h : DtAll O H ds vs) (n : Nat) : DtAll O H (ds.take n) (vs.take n) := by
  refine .of (by rw [List.length_take, List.length_take, h.len]) fun i d v a b => ?_
  rw [List.getElem?_take] at a b
  split at a
  · rename_i q
    rw [if_pos q] at b
    exact h.at_ a b
  · cases a
theorem DtAll.set (h : DtAll O H ds vs) (g : Dt O H d v) (j : Nat) : DtAll O H (ds.set j d) (vs.set j v) := by
  refine .of (by rw [List.length_set, List.length_set, h.len]) fun i d' v' a b => ?_
  by_cases e : j = i
  · subst e
    have hj : j < ds.length := by
      have := (List.getElem?_eq_some_iff.mp a).1
      simpa using this
    rw [List.getElem?_set_self hj] at a
    rw [List.getElem?_set_self (by rw [h.len]; exact hj)] at b
    cases a
    cases b
    exact g
  · rw [List.getElem?_set_ne e] at a b
    exact h.at_ a b
theorem DtAll.rep (h : DtAll O H ds vs) : ∀ k : Nat, DtAll O H (List.replicate k ds).flatten (List.replicate k vs).flatten
  | 0 => rfl
  | k + 1 => by
    rw [List.replicate_succ, List.replicate_succ, List.flatten_cons, List.flatten_cons]
    exact h.app (DtAll.rep h k)
theorem DtAll.ints : ∀ {ns : List Int} {vs : List V}, DtAll O H (ns.map PyData.int) vs → vs = ns.map V.int
  | [], _, h => h
  | n :: ns, _, h => by
    obtain ⟨x, r, rfl, h1, h2⟩ := h
    rw [DtAll.ints h2, show x = V.int n from h1]
    rfl
theorem DtAll.of_ints : ∀ (ns : List Int), DtAll O H (ns.map PyData.int) (ns.map V.int)
  | [] => rfl
  | n :: ns => ⟨_, _, rfl, rfl, DtAll.of_ints ns⟩
theorem DtAll.bls : ∀ {ns : List Bool} {vs : List V}, DtAll O H (ns.map PyData.bool) vs → vs = ns.map V.bl
  | [], _, h => h
  | n :: ns, _, h => by
    obtain ⟨x, r, rfl, h1, h2⟩ := h
    rw [DtAll.bls h2, show x = V.bl n from h1]
    rfl
theorem DtAll.txts : ∀ {ns : List Str} {vs : List V}, DtAll O H (ns.map PyData.str) vs → vs = ns.map V.str
  | [], _, h => h
  | n :: ns, _, h => by
    obtain ⟨x, r, rfl, h1, h2⟩ := h
    rw [DtAll.txts h2, show x = V.str n from h1]
    rfl
end
/-- a pointer, as data -/
def ptrD (p : Addr) : PyData := .dict [(.int (p : Int), .none)]
theorem dt_ptr {O : Addr → Prop} {H : Hp} {p : Addr} : Dt O H (ptrD p) (.ref p) := ⟨p, rfl, rfl⟩
theorem dt_ptr_eq {O : Addr → Prop} {H : Hp} {p : Addr} {v : V} (h : Dt O H (ptrD p) v) : v = .ref p := by
  obtain ⟨q, e, rfl⟩ := h
  have e2 : (p : Int) = (q : Int) := by
    have := (List.cons.inj e).1
    have := (Prod.mk.inj this).1
    exact PyData.int.inj this
  rw [Int.ofNat.inj e2]
mutual
def noP : PyData → Bool
  | .list ds => noPs ds
  | .tuple ds => noPs ds
  | .dict _ => false
  | _ => true
def noPs : List PyData → Bool
  | [] => true
  | d :: ds => noP d && noPs ds
end
mutual
theorem noP_lay : ∀ (d : PyData), d.canLay0 = true → noP d = true
  | .none, _ => rfl
  | .bool _, _ => rfl
  | .int _, _ => rfl
  | .str _, _ => rfl
  | .list ds, h => noPs_lay ds h
  | .tuple ds, h => noPs_lay ds h
  | .dict _, h => by cases h
theorem noPs_lay : ∀ (ds : List PyData), PyData.canLayAll0 ds = true → noPs ds = true
  | [], _ => rfl
  | d :: ds, h => by
    have h : (d.canLay0 && PyData.canLayAll0 ds) = true := h
    rw [Bool.and_eq_true] at h
    show (noP d && noPs ds) = true
    rw [noP_lay d h.1, noPs_lay ds h.2]
    rfl
end
theorem noPs_ints : ∀ ns : List Int, noPs (ns.map PyData.int) = true
  | [] => rfl
  | _ :: ns => noPs_ints ns
mutual
theorem Dt.dp {K : PySem.W.Frag} {O : Addr → Prop} {H : Hp} : ∀ (d : PyData) (v : V), noP d = true → Dt O H d v → Dp K H v d
  | .none, _, _, h => by rw [show _ = V.non from h]; exact .non
  | .bool b, _, _, h => by rw [show _ = V.bl b from h]; exact .bl b
  | .int i, _, _, h => by rw [show _ = V.int i from h]; exact .int i
  | .str s, _, _, h => by rw [show _ = V.str s from h]; exact .str s
  | .list ds, _, n, h => by
    obtain ⟨a, xs, e, _, g, r⟩ := h
    rw [e]
    exact .lst (SqL.of g) (DtAll.dp ds xs n r)
  | .tuple ds, _, n, h => by
    obtain ⟨a, xs, e, _, g, r⟩ := h
    rw [e]
    exact .tup (SqT.of g) (DtAll.dp ds xs n r)
  | .dict _, _, n, _ => by cases n
theorem DtAll.dp {K : PySem.W.Frag} {O : Addr → Prop} {H : Hp} : ∀ (ds : List PyData) (xs : List V), noPs ds = true → DtAll O H ds xs → DpAll K H xs ds
  | [], _, _, h => by rw [show _ = ([] : List V) from h]; exact .nil
  | d :: ds, _, n, h => by
    obtain ⟨x, r, e, h1, h2⟩ := h
    have n : (noP d && noPs ds) = true := n
    rw [Bool.and_eq_true] at n
    rw [e]
    exact .cons (Dt.dp d x n.1 h1) (DtAll.dp ds r n.2 h2)
end
/-- what needs no address -/
def flatD : PyData → Bool
  | .none => true
  | .bool _ => true
  | .int _ => true
  | .str _ => true
  | _ => false
theorem Dt.flat {O O' : Addr → Prop} {H H' : Hp} {d : PyData} {v : V} (f : flatD d = true) (h : Dt O H d v) : Dt O' H' d v := by
  cases d with
  | none => exact h
  | bool _ => exact h
  | int _ => exact h
  | str _ => exact h
  | list _ => cases f
  | tuple _ => cases f
  | dict _ => cases f
/-- something that is no table stands there -/
def Lives (H : Hp) (a : Addr) : Prop := ∃ o, H a = some o ∧ ∀ ps, o ≠ .tbl ps
theorem Lives.grow {H H' : Hp} {a : Addr} (h : Lives H a) (e : ExtN H H') : Lives H' a := let ⟨o, g, t⟩ := h; ⟨o, e a o g t, t⟩
theorem Lives.ne {H : Hp} {a p : Addr} (h : Lives H a) (hp : H p = none) : a ≠ p := fun z => by
  obtain ⟨o, g, _⟩ := h
  rw [z, hp] at g
  cases g
theorem Lives.turn {H : Hp} {a p : Addr} {o : HO} (h : Lives H a) (t : ∀ ps, o ≠ .tbl ps) : Lives (upd H p o) a := by
  by_cases e : a = p
  · rw [e]; exact ⟨o, upd_same, t⟩
  · obtain ⟨u, g, q⟩ := h
    exact ⟨u, by rw [upd_ne e]; exact g, q⟩
/-- what is fixed while a def runs: the written part, the tables of code objects, what is shut from outside, the heap at the entry, what is wanted of an exception -/
structure Fx (Kf : PySem.W.Frag) (Tf : List (Addr × Str)) where
  O0 : Addr → Prop
  Hin : Hp
  E : XK
  h0 : ∀ a, O0 a → Lives Hin a
abbrev Fx.K {Kf : PySem.W.Frag} {Tf : List (Addr × Str)} (_ : Fx Kf Tf) : PySem.W.Frag := Kf
abbrev Fx.T {Kf : PySem.W.Frag} {Tf : List (Addr × Str)} (_ : Fx Kf Tf) : List (Addr × Str) := Tf
/-- what is told of an object of one's own: the addresses it is made of, and how it is -/
structure Rsc where
  as : List Addr
  φ : (Addr → Prop) → Hp → Option V → Prop
  /-- read alone -/
  ro : Bool
  keep : ∀ (O O' : Addr → Prop) (H H' : Hp) (o : Option V), φ O H o → (∀ a ∈ as, H' a = H a) → (∀ d v, Dt O H d v → Dt O' H' d v) → φ O' H' o
/-- what a name holds -/
inductive Slot where
  | non
  | dat (d : PyData)
  /-- a list of one's own, that may be changed -/
  | own (ds : List PyData)
  /-- a dict of one's own -/
  | odk (kvs : List (Key × PyData))
  /-- an object of one's own -/
  | res (R : Rsc)
  /-- the script -/
  | scr (ns : List Int)
  /-- anything else, by what is true of its value for good -/
  | any (φ : V → Prop)
def Slot.mine : Slot → Bool
  | .own _ => true
  | .odk _ => true
  | .res _ => true
  | _ => false
/-- what stands at one address -/
def Slot.lone : Slot → Bool
  | .own _ => true
  | .odk _ => true
  | _ => false
/-- the addresses of what is one's own -/
def Slot.has : Slot → Option V → Addr → Prop
  | .own _, o, p => o = some (.ref p)
  | .odk _, o, p => o = some (.ref p)
  | .res R, _, p => p ∈ R.as
  | _, _, _ => False
/-- objects of one's own share no address with what else is one's own -/
def Afar (σ : L2.St) (δ : List Slot) : Prop := ∀ (i j : Nat) (R : Rsc) (u : Slot), i ≠ j → δ[i]? = some (.res R) → δ[j]? = some u → ∀ p ∈ R.as, ¬ u.has (σ[j]?.getD none) p
def KvAll (O : Addr → Prop) (H : Hp) (kvs : List (Key × PyData)) (vs : List (Key × V)) : Prop := vs.map (·.1) = kvs.map (·.1) ∧ DtAll O H (kvs.map (·.2)) (vs.map (·.2))
def SlotOk {Kf : PySem.W.Frag} {Tf : List (Addr × Str)} (F : Fx Kf Tf) (O : Addr → Prop) (H : Hp) (o : Option V) : Slot → Prop
  | .non => True
  | .dat d => ∃ v, o = some v ∧ Dt O H d v
  | .own ds => ∃ p vs, o = some (.ref p) ∧ O p ∧ ¬ Lives F.Hin p ∧ H p = some (.lst vs) ∧ DtAll O H ds vs
  | .odk kvs => ∃ p vs, o = some (.ref p) ∧ O p ∧ ¬ Lives F.Hin p ∧ H p = some (.dK vs) ∧ KvAll O H kvs vs
  | .res R => o = none ∧ R.φ O H o ∧ ∀ a ∈ R.as, O a ∧ ((R.ro = true → Lives F.Hin a) ∧ (R.ro = false → ¬ Lives F.Hin a)) ∧ Lives H a
  | .scr ns => ∃ a, o = some (.ref a) ∧ SqL F.K F.Hin a (ns.map V.int)
  | .any φ => ∃ v, o = some v ∧ φ v
/-- the state, told by data -/
structure StAt {Kf : PySem.W.Frag} {Tf : List (Addr × Str)} (F : Fx Kf Tf) (O : Addr → Prop) (H : Hp) (σ : L2.St) (δ : List Slot) : Prop where
  len : σ.length = δ.length
  o0 : ∀ a, F.O0 a → O a
  dom : ∀ a, O a → Lives H a
  tabs : Tabs F.T H
  ext : ExtN F.Hin H
  slot : ∀ (i : Nat) s, δ[i]? = some s → SlotOk F O H (σ[i]?.getD none) s
  apart : ∀ (i j : Nat) s u p, i ≠ j → δ[i]? = some s → δ[j]? = some u → s.mine = true → u.mine = true → σ[i]? = some (some (.ref p)) → σ[j]? ≠ some (some (.ref p))
  afar : Afar σ δ
section
variable {Kf : PySem.W.Frag} {Tf : List (Addr × Str)} {F : Fx Kf Tf} {O : Addr → Prop} {H H' : Hp} {σ : L2.St} {δ : List Slot} {d : PyData} {v : V} {p : Addr}
theorem KvAll.imp {O' : Addr → Prop} {kvs : List (Key × PyData)} {vs : List (Key × V)} (h : KvAll O H kvs vs) (k : ∀ ds us, DtAll O H ds us → DtAll O' H' ds us) : KvAll O' H' kvs vs := ⟨h.1, k _ _ h.2⟩
theorem sq_grow {K : PySem.W.Frag} {a : Addr} {xs : List V} (e : ExtN H H') (h : SqL K H a xs) : SqL K H' a xs := by
  rcases h with (h | ⟨o, h⟩) | h
  · exact .inl (.inl (e _ _ h (fun _ z => by cases z)))
  · exact .inl (.inr ⟨o, e _ _ h (fun _ z => by cases z)⟩)
  · exact .inr h
theorem Lives.same {a : Addr} (h : Lives H a) (e : ExtN H H') : H' a = H a := by
  obtain ⟨o, g, t⟩ := h
  rw [g, e a o g t]
/-- an object stays as it is -/
theorem res_keep {O' : Addr → Prop} {R : Rsc} {o : Option V} (h : SlotOk F O H o (.res R)) (hs : ∀ a ∈ R.as, H' a = H a) (hO : ∀ a ∈ R.as, O' a) (hd : ∀ d v, Dt O H d v → Dt O' H' d v) : SlotOk F O' H' o (.res R) := by
  obtain ⟨h1, h2, h3⟩ := h
  refine ⟨h1, R.keep _ _ _ _ _ h2 hs hd, fun a ha => ⟨hO a ha, (h3 a ha).2.1, ?_⟩⟩
  obtain ⟨u, g, t⟩ := (h3 a ha).2.2
  exact ⟨u, by rw [hs a ha]; exact g, t⟩
/-- the heap grows -/
theorem SlotOk.grow {o : Option V} {s : Slot} (h : SlotOk F O H o s) (e : ExtN H H') : SlotOk F O H' o s := by
  cases s with
  | non => trivial
  | dat d => obtain ⟨v, a, b⟩ := h; exact ⟨v, a, b.grow e⟩
  | own ds => obtain ⟨p, vs, a, b, c, g, r⟩ := h; exact ⟨p, vs, a, b, c, e _ _ g (fun _ z => by cases z), r.grow e⟩
  | odk kvs => obtain ⟨p, vs, a, b, c, g, r⟩ := h; exact ⟨p, vs, a, b, c, e _ _ g (fun _ z => by cases z), r.imp fun _ _ q => q.grow e⟩
  | res R => exact res_keep h (fun a ha => (h.2.2 a ha).2.2.same e) (fun a ha => (h.2.2 a ha).1) fun d v q => q.grow e
  | scr ns => exact h
  | any φ => exact h
theorem StAt.grow (h : StAt F O H σ δ) (e : ExtN H H') (t : Tabs F.T H') : StAt F O H' σ δ :=
  ⟨h.len, h.o0, fun a oa => (h.dom a oa).grow e, t, h.ext.trans e, fun i s q => (h.slot i s q).grow e, h.apart, h.afar⟩
theorem no_has {s : Slot} (h : s.mine = false) (o : Option V) (p : Addr) : ¬ s.has o p := by
  cases s with
  | own _ => cases h
  | odk _ => cases h
  | res _ => cases h
  | _ => exact fun z => z
/-- another thing is put into a name -/
theorem Afar.set (h : Afar σ δ) (hl : σ.length = δ.length) (i : Nat) (o : Option V) (s : Slot) (hs : ∀ R, s = .res R → ∀ j u, j ≠ i → δ[j]? = some u → ∀ p ∈ R.as, ¬ u.has (σ[j]?.getD none) p) (hx : ∀ j R, j ≠ i → δ[j]? = some (.res R) → ∀ p ∈ R.as, ¬ s.has o p) : Afar (σ.set i o) (δ.set i s) := fun k j R u hkj h1 h2 p hp => by
  by_cases e1 : i = k
  · subst e1
    have hi : i < δ.length := by
      have := (List.getElem?_eq_some_iff.mp h1).1
      simpa using this
    rw [List.getElem?_set_self hi] at h1
    rw [List.getElem?_set_ne hkj] at h2 ⊢
    exact hs R (Option.some.inj h1) j u (fun z => hkj z.symm) h2 p hp
  · rw [List.getElem?_set_ne e1] at h1
    by_cases e2 : i = j
    · subst e2
      have hi : i < δ.length := by
        have := (List.getElem?_eq_some_iff.mp h2).1
        simpa using this
      rw [List.getElem?_set_self hi] at h2
      rw [List.getElem?_set_self (by rw [hl]; exact hi)]
      cases h2
      exact hx k R (fun z => e1 z.symm) h1 p hp
    · rw [List.getElem?_set_ne e2] at h2 ⊢
      exact h k j R u hkj h1 h2 p hp
/-- the same value, told otherwise -/
theorem Afar.turn (h : Afar σ δ) (hl : σ.length = δ.length) (i : Nat) (s : Slot) (hs : ∀ R, s = .res R → ∀ j u, j ≠ i → δ[j]? = some u → ∀ p ∈ R.as, ¬ u.has (σ[j]?.getD none) p) (hx : ∀ j R, j ≠ i → δ[j]? = some (.res R) → ∀ p ∈ R.as, ¬ s.has (σ[i]?.getD none) p) : Afar σ (δ.set i s) := by
  by_cases hi : i < σ.length
  · have e : σ.set i (σ[i]?.getD none) = σ := by
      rw [List.getElem?_eq_getElem hi]
      exact List.set_getElem_self hi
    have := h.set hl i (σ[i]?.getD none) s hs hx
    rwa [e] at this
  · rw [List.set_eq_of_length_le (by omega)]
    exact h
/-- a new object -/
theorem ext_new {o : HO} (hp : H p = none) : ExtN H (upd H p o) := fun b u g _ => by
  rw [upd_ne (ne_of_none g hp)]
  exact g
theorem tabs_new {T : List (Addr × Str)} {o : HO} (t : Tabs T H) (hp : H p = none) : Tabs T (upd H p o) := t.ext fun b u g => by
  rw [upd_ne (ne_of_none g hp)]
  exact g
/-- what is shut is changed: the tables stay -/
theorem tabs_turn {T : List (Addr × Str)} {o : HO} {xs : List V} (t : Tabs T H) (hp : H p = some (.lst xs)) : Tabs T (upd H p o) := fun q hq => by
  obtain ⟨ps, g, a, b⟩ := t q hq
  have n1 : q.1 ≠ p := fun z => by rw [z, hp] at g; cases g
  refine ⟨ps, by rw [upd_ne n1]; exact g, a, fun pos cv hc => ?_⟩
  obtain ⟨c, e1, e2⟩ := b pos cv hc
  have n2 : c ≠ p := fun z => by
    rw [z, hp] at e2
    unfold CodeO at e2
    cases e2
  exact ⟨c, e1, by rw [upd_ne n2]; exact e2⟩
theorem tabs_turnK {T : List (Addr × Str)} {o : HO} {xs : List (Key × V)} (t : Tabs T H) (hp : H p = some (.dK xs)) : Tabs T (upd H p o) := fun q hq => by
  obtain ⟨ps, g, a, b⟩ := t q hq
  have n1 : q.1 ≠ p := fun z => by rw [z, hp] at g; cases g
  refine ⟨ps, by rw [upd_ne n1]; exact g, a, fun pos cv hc => ?_⟩
  obtain ⟨c, e1, e2⟩ := b pos cv hc
  have n2 : c ≠ p := fun z => by
    rw [z, hp] at e2
    unfold CodeO at e2
    cases e2
  exact ⟨c, e1, by rw [upd_ne n2]; exact e2⟩
end
section
variable {Kf : PySem.W.Frag} {Tf : List (Addr × Str)} (F : Fx Kf Tf) (δ : List Slot)
/-- an expression that gives d -/
def tD (d : PyData) : TE := fun σ H Q => ∃ O, StAt F O H σ δ ∧ ∀ v H', ExtN H H' → Tabs F.T H' → Dt O H' d v → Q v H'
/-- one that gives a new list of one's own -/
def tDL (ds : List PyData) : TE := fun σ H Q => ∃ O, StAt F O H σ δ ∧ ∀ p xs H', ExtN H H' → Tabs F.T H' → (∀ a, Lives H a → a ≠ p) → H' p = some (.lst xs) → DtAll (Shut O p) H' ds xs → Q (.ref p) H'
/-- one that raises the class at c -/
def tDX (c : Addr) : TE := fun σ H Q => ∃ O, StAt F O H σ δ ∧ ∀ H', ExtN H H' → Tabs F.T H' → F.E (.ref c) none H'
def aD (ds : List PyData) : TA := fun σ H Q => ∃ O, StAt F O H σ δ ∧ ∀ vs H', ExtN H H' → Tabs F.T H' → DtAll O H' ds vs → Q vs H'
def cD (b : Bool) : TT := fun σ H Q => ∃ O, StAt F O H σ δ ∧ ∀ H', ExtN H H' → Tabs F.T H' → Q b H'
def oD (o : Option Int) : TO := fun σ H Q => ∃ O, StAt F O H σ δ ∧ ∀ H', ExtN H H' → Tabs F.T H' → Q o H'
end
/-- what may be behind a statement -/
structure Post where
  nx : List Slot → Prop
  rt : PyData → Prop
  bk : List Slot → Prop := fun _ => False
  ct : List Slot → Prop := fun _ => False
  ex : Addr → Prop := fun _ => False
  rts : List Slot → PyData → Prop := fun _ _ => False
  exs : List Slot → Addr → Prop := fun _ _ => False
def Tm (O : Addr → Prop) (H : Hp) (τ : List (PyData × V)) : Prop := ∀ q ∈ τ, Dt O H q.1 q.2
/-- P holds behind the statement -/
structure Wants {Kf : PySem.W.Frag} {Tf : List (Addr × Str)} (F : Fx Kf Tf) (τ : List (PyData × V)) (P : Post) (D : Ends) : Prop where
  nx : ∀ δ O σ H, P.nx δ → StAt F O H σ δ → Tm O H τ → D.nx σ H
  rt : ∀ d v H, P.rt d → ExtN F.Hin H → Tabs F.T H → Dt F.O0 H d v → D.rt v H
  bk : ∀ δ O σ H, P.bk δ → StAt F O H σ δ → Tm O H τ → D.bk σ H
  ct : ∀ δ O σ H, P.ct δ → StAt F O H σ δ → Tm O H τ → D.ct σ H
  ex : ∀ c H, P.ex c → ExtN F.Hin H → Tabs F.T H → F.E (.ref c) none H
  rts : ∀ δ d v O σ H, P.rts δ d → StAt F O H σ δ → Dt O H d v → D.rt v H
  exs : ∀ δ c O σ H, P.exs δ c → StAt F O H σ δ → F.E (.ref c) none H
def sD {Kf : PySem.W.Frag} {Tf : List (Addr × Str)} (F : Fx Kf Tf) (δ : List Slot) (P : Post) : TS := fun D σ H => ∃ O τ, StAt F O H σ δ ∧ Tm O H τ ∧ Wants F τ P D
section
variable {X : Cx} {e : Expr} {st : Stmt} {sts : List Stmt}
theorem wkE {t t' : TE} (h : PE X e t) (k : ∀ σ H Q, t' σ H Q → t σ H Q) : PE X e t' := ⟨fun pins s σ H Q I q => h.run pins s σ H Q I (k σ H Q q)⟩
theorem wkT {t t' : TT} (h : PT X e t) (k : ∀ σ H Q, t' σ H Q → t σ H Q) : PT X e t' := ⟨fun pins s σ H Q I q => h.run pins s σ H Q I (k σ H Q q)⟩
theorem wkA {es : List Expr} {t t' : TA} (h : PA X es t) (k : ∀ σ H Q, t' σ H Q → t σ H Q) : PA X es t' := ⟨fun pos pins s σ H Q I q => h.run pos pins s σ H Q I (k σ H Q q)⟩
theorem wkO {o : Option Expr} {t t' : TO} (h : PO X o t) (k : ∀ σ H Q, t' σ H Q → t σ H Q) : PO X o t' := ⟨fun pins s σ H Q I q => h.run pins s σ H Q I (k σ H Q q)⟩
theorem wkS {t t' : TS} (h : PS X st t) (k : ∀ D σ H, t' D σ H → t D σ H) : PS X st t' := ⟨fun pins s σ H D I q => h.run pins s σ H D I (k D σ H q)⟩
theorem wkSs {t t' : TS} (h : PSs X sts t) (k : ∀ D σ H, t' D σ H → t D σ H) : PSs X sts t' := ⟨fun pins s σ H D I q => h.run pins s σ H D I (k D σ H q)⟩
/-- one of several -/
theorem exE {ι : Sort _} {t : ι → TE} (h : ∀ i, PE X e (t i)) : PE X e (fun σ H Q => ∃ i, t i σ H Q) := ⟨fun pins s σ H Q I q => let ⟨i, g⟩ := q; (h i).run pins s σ H Q I g⟩
theorem exSs {ι : Sort _} {t : ι → TS} (h : ∀ i, PSs X sts (t i)) : PSs X sts (fun D σ H => ∃ i, t i D σ H) := ⟨fun pins s σ H D I q => let ⟨i, g⟩ := q; (h i).run pins s σ H D I g⟩
end
end Lf
set_option Elab.async false
set_option linter.all false
set_option maxRecDepth 100000
set_option maxHeartbeats 4000000
namespace Lf
open PySem PySem.Spec PyProof.Rows L2 LamX
structure Ctx (X : Cx) (N : List Str) (sc : Scope) : Prop where
  n : X.N = N
  s : X.env.scope = sc
  nd : N.Nodup
  calm : X.calm = true
/-- a def's body -/
structure CtD (X : Cx) (N : List Str) (sc : Scope) (E : XK) : Prop extends Ctx X N sc where
  fn : ∀ x, X.fn x = true
  po : PassesOwn (model X.prog X.w) X.A X.env X.xe
  tk : L2N.Takes X (fun cls d _ H => E cls d H)
  stk : X.stack = X.env :: X.outer
  frm : X.env.frame = some X.env.locals
section
variable {X : Cx} {N : List Str} {sc : Scope}
theorem Ctx.gl (c : Ctx X N sc) {x : Str} (h : sc.names.lookup x = some .globalImplicit) : Gl X x := by
  show X.env.scope.names.lookup x = _
  rw [c.s]
  exact h
theorem Ctx.vis (c : Ctx X N sc) {x : Str} (h : Vis sc x) : Vis X.env.scope x := by
  rw [c.s]
  exact h
theorem Ctx.loc (c : Ctx X N sc) {x : Str} (h : Loc sc x) : Loc X.env.scope x := by
  rw [c.s]
  exact h
theorem Ctx.at_ (c : Ctx X N sc) {i : Nat} {x : Str} (h : N[i]? = some x) : X.N[i]? = some x := by
  rw [c.n]
  exact h
theorem Ctx.nd' (c : Ctx X N sc) : X.N.Nodup := by
  rw [c.n]
  exact c.nd
/-- a block's names, as the def around it has them -/
def reSc (sc scope : Scope) : Scope := { scope with names := scope.names.map fun (n, k) => if (k == .free && sc.kind == .function && sc.names.lookup n == some .cell) then (n, .cell) else (n, k) }
theorem Ctx.blk (c : Ctx X N sc) (s : Shared) (H : Hp) (scope : Scope) (C : Addr) (cl : List (Str × Addr)) (fp : List Addr) : Ctx (X.blk s H scope (compEnvC scope cl C X.env) fp) N (reSc sc scope) := ⟨c.n, by rw [← c.s]; rfl, c.nd, c.calm⟩
end
section
variable {Kf : PySem.W.Frag} {Tf : List (Addr × Str)} (F : Fx Kf Tf)
def OpD (r : R2) (d e z : PyData) : Prop := ∀ (O : Addr → Prop) (H : Hp) (x y : V) (Q : VK), (∀ a, O a → Lives H a) → Tabs F.T H → Dt O H d x → Dt O H e y → (∀ v H', ExtN H H' → Tabs F.T H' → Dt O H' z v → Q v H') → r x y H Q
def UnD (r : V → Hp → VK → Prop) (d z : PyData) : Prop := ∀ (O : Addr → Prop) (H : Hp) (x : V) (Q : VK), (∀ a, O a → Lives H a) → Tabs F.T H → Dt O H d x → (∀ v H', ExtN H H' → Tabs F.T H' → Dt O H' z v → Q v H') → r x H Q
def ClD (r : List V → Hp → VK → Prop) (ds : List PyData) (z : PyData) : Prop := ∀ (O : Addr → Prop) (H : Hp) (xs : List V) (Q : VK), (∀ a, O a → Lives H a) → Tabs F.T H → DtAll O H ds xs → (∀ v H', ExtN H H' → Tabs F.T H' → Dt O H' z v → Q v H') → r xs H Q
def MtD (r : V → List V → Hp → VK → Prop) (d : PyData) (ds : List PyData) (z : PyData) : Prop := ∀ (O : Addr → Prop) (H : Hp) (x : V) (xs : List V) (Q : VK), (∀ a, O a → Lives H a) → Tabs F.T H → Dt O H d x → DtAll O H ds xs → (∀ v H', ExtN H H' → Tabs F.T H' → Dt O H' z v → Q v H') → r x xs H Q
def SlD (r : V → Option Int → Option Int → Hp → VK → Prop) (d : PyData) (lo hi : Option Int) (z : PyData) : Prop := ∀ (O : Addr → Prop) (H : Hp) (x : V) (Q : VK), (∀ a, O a → Lives H a) → Tabs F.T H → Dt O H d x → (∀ v H', ExtN H H' → Tabs F.T H' → Dt O H' z v → Q v H') → r x lo hi H Q
end
theorem fresh_ok {O : Addr → Prop} {H : Hp} {p : Addr} (dom : ∀ a, O a → Lives H a) (hp : H p = none) : ¬ O p := fun z => (dom p z).ne hp rfl
section
variable {Kf : PySem.W.Frag} {Tf : List (Addr × Str)} {F : Fx Kf Tf} {δ : List Slot} {X : Cx} {N : List Str} {sc : Scope} {pos apos : Pos} {a b c e : Expr} {es : List Expr} {d d1 d2 d3 z : PyData} {ds : List PyData}
theorem x_var (i : Nat) {x : Str} (cx : Ctx X N sc) (hs : δ[i]? = some (.dat d)) (hN : N[i]? = some x := by rfl) (hv : Vis sc x := by first | exact Or.inl rfl | exact Or.inr (Or.inl rfl) | exact Or.inr (Or.inr rfl)) (hd : (x == ("__debug__" : Str)) = false := by decide)
    (hcd : (x == ("__classdict__" : Str)) = false := by decide) : PE X (.Name x pos) (tD F δ d) :=
  wkE (pe_var (i := i) (cx.at_ hN) (cx.vis hv) hd hcd) fun σ H Q h => by
    obtain ⟨O, st, k⟩ := h
    obtain ⟨v, e1, e2⟩ := st.slot i _ hs
    have e3 : σ[i]? = some (some v) := by
      cases q : σ[i]? with
      | none => rw [q] at e1; cases e1
      | some o => rw [q] at e1; rw [show o = some v from e1]
    exact ⟨v, e3, k v H (ExtN.refl H) st.tabs e2⟩
theorem x_k {v : V} {u : Value} {x : Str} (cx : Ctx X N sc) (hm : X.mg x = some u) (r : RelV v u) (hf : ∀ O H, Dt O H d v) (hg : sc.names.lookup x = some .globalImplicit := by rfl) (hd : (x == ("__debug__" : Str)) = false := by decide) : PE X (.Name x pos) (tD F δ d) :=
  wkE (pe_glob (v := v) (cx.gl hg) hm r hd) fun σ H Q h => let ⟨O, st, k⟩ := h; k v H (ExtN.refl H) st.tabs (hf O H)
theorem x_int {i : Int} {j : Nat} : PE X (.Constant (.int i) j pos) (tD F δ (.int i)) := wkE pe_int fun σ H Q h => let ⟨O, st, k⟩ := h; k _ H (ExtN.refl H) st.tabs rfl
theorem x_bool {i : Bool} {j : Nat} : PE X (.Constant (.bool i) j pos) (tD F δ (.bool i)) := wkE pe_bl fun σ H Q h => let ⟨O, st, k⟩ := h; k _ H (ExtN.refl H) st.tabs rfl
theorem x_none {j : Nat} : PE X (.Constant .none j pos) (tD F δ .none) := wkE pe_non fun σ H Q h => let ⟨O, st, k⟩ := h; k _ H (ExtN.refl H) st.tabs rfl
theorem x_str {i : Str} {j : Nat} : PE X (.Constant (.str i) j pos) (tD F δ (.str i)) := wkE pe_str fun σ H Q h => let ⟨O, st, k⟩ := h; k _ H (ExtN.refl H) st.tabs rfl
theorem x_is (h : PE X e (tD F δ d)) (q : d = d1) : PE X e (tD F δ d1) := by
  rw [← q]
  exact h
/-- two values in a row, then r -/
theorem op_run {r : R2} (q : OpD F r d1 d2 z) {σ : L2.St} {H : Hp} {Q : VK} (h : tD F δ z σ H Q) : tOp r (tD F δ d1) (tD F δ d2) σ H Q := by
  obtain ⟨O, st, k⟩ := h
  refine ⟨O, st, fun x H1 e1 t1 g1 => ⟨O, st.grow e1 t1, fun y H2 e2 t2 g2 => ?_⟩⟩
  have s2 := (st.grow e1 t1).grow e2 t2
  exact q O H2 x y Q s2.dom t2 (g1.grow e2) g2 fun v H3 e3 t3 g3 => k v H3 ((e1.trans e2).trans e3) t3 g3
theorem x_op {op : Operator} {r : R2} (ho : OpR X (binaryOp op) r) (q : OpD F r d1 d2 z) (ha : PE X a (tD F δ d1)) (hb : PE X b (tD F δ d2)) : PE X (.BinOp a op b pos) (tD F δ z) :=
  wkE (pe_op ho ha hb) fun σ H Q h => op_run q h
theorem x_ix {r : R2} (ho : IxR X r) (q : OpD F r d1 d2 z) (ha : PE X a (tD F δ d1)) (hb : PE X b (tD F δ d2)) (hs : PlainIx b := by exact fun _ _ => rfl) : PE X (.Subscript a b pos) (tD F δ z) :=
  wkE (pe_ix ho ha hb hs) fun σ H Q h => op_run q h
theorem x_un {op : UnaryOp} {r : V → Hp → VK → Prop} (ho : UnR X (unaryOp op) r) (q : UnD F r d1 z) (ha : PE X a (tD F δ d1)) : PE X (.UnaryOp op a pos) (tD F δ z) :=
  wkE (pe_un ho ha) fun σ H Q h => by
    obtain ⟨O, st, k⟩ := h
    refine ⟨O, st, fun x H1 e1 t1 g1 => ?_⟩
    exact q O H1 x Q (st.grow e1 t1).dom t1 g1 fun v H3 e3 t3 g3 => k v H3 (e1.trans e3) t3 g3
theorem x_cmp {op : CmpOp} {r : R2} (ho : OpR X (compareOp op) r) (q : OpD F r d1 d2 z) (ha : PE X a (tD F δ d1)) (hb : PE X b (tD F δ d2)) (hm : behindInMarks op b = false := by first | exact nomark _ | rfl) : PE X (.Compare a [op] [b] pos) (tD F δ z) :=
  wkE (pe_cmpR ho ha hb hm) fun σ H Q h => op_run q h
theorem c_cmp {op : CmpOp} {r : R2} {k : Bool} (ho : OpR X (compareOp op) r) (q : OpD F r d1 d2 (.bool k)) (ha : PE X a (tD F δ d1)) (hb : PE X b (tD F δ d2)) (hm : behindInMarks op b = false := by first | exact nomark _ | rfl) : PT X (.Compare a [op] [b] pos) (cD F δ k) :=
  wkT (pt_cmpR ho ha hb hm) fun σ H Q h => by
    obtain ⟨O, st, g⟩ := h
    exact op_run (F := F) (δ := δ) q ⟨O, st, fun v H' e t r => ⟨k, r, g H' e t⟩⟩
theorem c_val {k : Bool} (h : PE X e (tD F δ (.bool k))) (he : ∀ whole, isTrue e X.env whole = (do let v ← whole; standAt e.pos; holding [v] (truthy v)) := by intro _; rfl) : PT X e (cD F δ k) :=
  wkT (pt_val h he) fun σ H Q h => by
    obtain ⟨O, st, g⟩ := h
    exact ⟨O, st, fun v H' e t r => ⟨k, r, g H' e t⟩⟩
theorem c_not {k : Bool} (h : PT X a (cD F δ k)) : PT X (.UnaryOp .Not a pos) (cD F δ (!k)) := wkT (pt_not h) fun σ H Q h => h
theorem c_is {k k' : Bool} (h : PT X a (cD F δ k)) (q : k = k') : PT X a (cD F δ k') := by
  rw [← q]
  exact h
/-- and, or, as tests: the right one only where it is come to -/
theorem w_one {op : BoolOp} {k : Bool} (h : PT X a (cD F δ k)) : PW X (.BoolOp op [a] pos) (cD F δ k) := by
  cases op with
  | And => exact pw_and1 h
  | Or => exact pw_or1 h
theorem wkW {t t' : TT} (h : PW X e t) (k : ∀ σ H Q, t' σ H Q → t σ H Q) : PW X e t' := ⟨fun wh pins s σ H Q I q => h.run wh pins s σ H Q I (k σ H Q q)⟩
theorem ifW {q : Prop} {t : TT} (h : q → PW X e t) : PW X e (fun σ H Q => q ∧ t σ H Q) := ⟨fun wh pins s σ H Q I g => (h g.1).run wh pins s σ H Q I g.2⟩
theorem ifE {q : Prop} {t : TE} (h : q → PE X e t) : PE X e (fun σ H Q => q ∧ t σ H Q) := ⟨fun pins s σ H Q I g => (h g.1).run pins s σ H Q I g.2⟩
theorem ifSs {q : Prop} {t : TS} {sts : List Stmt} (h : q → PSs X sts t) : PSs X sts (fun D σ H => q ∧ t D σ H) := ⟨fun pins s σ H D I g => (h g.1).run pins s σ H D I g.2⟩
theorem w_and {k j : Bool} (h : PT X a (cD F δ k)) (g : k = true → PW X (.BoolOp .And (b :: es) pos) (cD F δ j)) : PW X (.BoolOp .And (a :: b :: es) pos) (cD F δ (k && j)) :=
  wkW (pw_and h (ifW g)) fun σ H Q h => by
    obtain ⟨O, st, w⟩ := h
    refine ⟨O, st, fun H1 e1 t1 => ?_⟩
    cases k with
    | true => exact iteT ⟨rfl, O, st.grow e1 t1, fun H2 e2 t2 => w H2 (e1.trans e2) t2⟩
    | false => exact iteF (w H1 e1 t1)
theorem w_or {k j : Bool} (h : PT X a (cD F δ k)) (g : k = false → PW X (.BoolOp .Or (b :: es) pos) (cD F δ j)) : PW X (.BoolOp .Or (a :: b :: es) pos) (cD F δ (k || j)) :=
  wkW (pw_or h (ifW g)) fun σ H Q h => by
    obtain ⟨O, st, w⟩ := h
    refine ⟨O, st, fun H1 e1 t1 => ?_⟩
    cases k with
    | true => exact iteT (w H1 e1 t1)
    | false => exact iteF ⟨rfl, O, st.grow e1 t1, fun H2 e2 t2 => w H2 (e1.trans e2) t2⟩
/-- .. as values -/
theorem x_one {op : BoolOp} (h : PE X a (tD F δ d)) : PE X (.BoolOp op [a] pos) (tD F δ d) := pe_one h
theorem x_and {k j : Bool} (h : PE X a (tD F δ (.bool k))) (g : k = true → PE X (.BoolOp .And (b :: es) pos) (tD F δ (.bool j))) : PE X (.BoolOp .And (a :: b :: es) pos) (tD F δ (.bool (k && j))) :=
  wkE (pe_and h (ifE g)) fun σ H Q h => by
    obtain ⟨O, st, w⟩ := h
    refine ⟨O, st, fun v H1 e1 t1 r => ⟨k, r, ?_⟩⟩
    cases k with
    | true => exact iteT ⟨rfl, O, st.grow e1 t1, fun v H2 e2 t2 r2 => w v H2 (e1.trans e2) t2 r2⟩
    | false => exact iteF (w _ H1 e1 t1 rfl)
theorem x_or {k j : Bool} (h : PE X a (tD F δ (.bool k))) (g : k = false → PE X (.BoolOp .Or (b :: es) pos) (tD F δ (.bool j))) : PE X (.BoolOp .Or (a :: b :: es) pos) (tD F δ (.bool (k || j))) :=
  wkE (pe_or h (ifE g)) fun σ H Q h => by
    obtain ⟨O, st, w⟩ := h
    refine ⟨O, st, fun v H1 e1 t1 r => ⟨k, r, ?_⟩⟩
    cases k with
    | true => exact iteT (w _ H1 e1 t1 rfl)
    | false => exact iteF ⟨rfl, O, st.grow e1 t1, fun v H2 e2 t2 r2 => w v H2 (e1.trans e2) t2 r2⟩
theorem x_not {k : Bool} (h : PE X a (tD F δ (.bool k))) : PE X (.UnaryOp .Not a pos) (tD F δ (.bool (!k))) :=
  wkE (pe_not h) fun σ H Q h => by
    obtain ⟨O, st, w⟩ := h
    exact ⟨O, st, fun v H1 e1 t1 r => ⟨k, r, w _ H1 e1 t1 rfl⟩⟩
/-- a if c else b -/
theorem x_if {k : Bool} (h : PT X c (cD F δ k)) (g1 : k = true → PE X a (tD F δ d)) (g2 : k = false → PE X b (tD F δ d)) : PE X (.IfExp c a b pos) (tD F δ d) :=
  wkE (pe_ifExp h (ifE g1) (ifE g2)) fun σ H Q h => by
    obtain ⟨O, st, w⟩ := h
    refine ⟨O, st, fun H1 e1 t1 => ?_⟩
    cases k with
    | true => exact iteT ⟨rfl, O, st.grow e1 t1, fun v H2 e2 t2 r2 => w v H2 (e1.trans e2) t2 r2⟩
    | false => exact iteF ⟨rfl, O, st.grow e1 t1, fun v H2 e2 t2 r2 => w v H2 (e1.trans e2) t2 r2⟩
/-- a op b op' c -/
theorem c_chain {op op' : CmpOp} {r r' : R2} {k j : Bool} (ho : OpR X (compareOp op) r) (ho' : OpR X (compareOp op') r') (q : OpD F r d1 d2 (.bool k)) (q' : k = true → OpD F r' d2 d3 (.bool j)) (ha : PE X a (tD F δ d1)) (hb : PE X b (tD F δ d2)) (hc : PE X c (tD F δ d3)) (hm : lastMarks [op, op'] [b, c] = false := by with_unfolding_all rfl) :
    PT X (.Compare a [op, op'] [b, c] pos) (cD F δ (k && j)) :=
  wkT (pt_chain ho ho' ha hb hc hm) fun σ H Q h => by
    obtain ⟨O, st, w⟩ := h
    refine ⟨O, st, fun x H1 e1 t1 g1 => ⟨O, st.grow e1 t1, fun y H2 e2 t2 g2 => ?_⟩⟩
    have s2 := (st.grow e1 t1).grow e2 t2
    refine q O H2 x y _ s2.dom t2 (g1.grow e2) g2 fun v H3 e3 t3 g3 => ⟨k, g3, ?_⟩
    cases k with
    | true =>
      refine iteT ⟨O, s2.grow e3 t3, fun u H4 e4 t4 g4 => ?_⟩
      exact q' rfl O H4 y u _ ((s2.grow e3 t3).grow e4 t4).dom t4 ((g2.grow e3).grow e4) g4 fun v5 H5 e5 t5 g5 => ⟨j, g5, w H5 ((((e1.trans e2).trans e3).trans e4).trans e5) t5⟩
    | false => exact iteF ⟨false, rfl, w H3 ((e1.trans e2).trans e3) t3⟩
/-- arguments -/
theorem a_nil : PA X [] (aD F δ []) := wkA pa_nil fun σ H Q h => let ⟨O, st, k⟩ := h; k [] H (ExtN.refl H) st.tabs rfl
theorem a_cons (h : PE X e (tD F δ d)) (g : PA X es (aD F δ ds)) (hs : starEach (e :: es) X.env = (false, eval e X.env) :: starEach es X.env := by rfl) : PA X (e :: es) (aD F δ (d :: ds)) :=
  wkA (pa_cons h g hs) fun σ H Q h => by
    obtain ⟨O, st, w⟩ := h
    refine ⟨O, st, fun x H1 e1 t1 g1 => ⟨O, st.grow e1 t1, fun xs H2 e2 t2 g2 => ?_⟩⟩
    exact w (x :: xs) H2 (e1.trans e2) t2 ⟨x, xs, rfl, g1.grow e2, g2⟩
/-- displays -/
theorem x_lst (h : PA X es (aD F δ ds)) (hz : ds.length ≤ 1000 := by first | decide | (simp; done) | omega) : PE X (.List es pos) (tD F δ (.list ds)) :=
  wkE (pe_lst h) fun σ H Q h => by
    obtain ⟨O, st, w⟩ := h
    refine ⟨O, st, fun xs H1 e1 t1 g1 => ⟨by rw [g1.len]; exact Nat.le_trans hz (by decide), fun p hp => ?_⟩⟩
    exact w _ _ (e1.trans (ext_new hp)) (tabs_new t1 hp) ⟨p, xs, rfl, fresh_ok (st.grow e1 t1).dom hp, upd_same, g1.grow (ext_new hp)⟩
theorem x_lstN (h : PA X es (aD F δ ds)) (hz : ds.length ≤ 1000 := by first | decide | (simp; done) | omega) : PE X (.List es pos) (tDL F δ ds) :=
  wkE (pe_lst h) fun σ H Q h => by
    obtain ⟨O, st, w⟩ := h
    refine ⟨O, st, fun xs H1 e1 t1 g1 => ⟨by rw [g1.len]; exact Nat.le_trans hz (by decide), fun p hp => ?_⟩⟩
    exact w p xs _ (e1.trans (ext_new hp)) (tabs_new t1 hp) (fun a l => (l.grow e1).ne hp) upd_same ((g1.shut hp).grow (ext_new hp))
theorem x_tup {m : Nat} (h : PA X es (aD F δ ds)) (hz : ds.length ≤ 1000 := by first | decide | (simp; done) | omega) : PE X (.Tuple es m pos) (tD F δ (.tuple ds)) :=
  wkE (pe_tup h) fun σ H Q h => by
    obtain ⟨O, st, w⟩ := h
    refine ⟨O, st, fun xs H1 e1 t1 g1 => ⟨by rw [g1.len]; exact Nat.le_trans hz (by decide), fun p hp => ?_⟩⟩
    exact w _ _ (e1.trans (ext_new hp)) (tabs_new t1 hp) ⟨p, xs, rfl, fresh_ok (st.grow e1 t1).dom hp, upd_same, g1.grow (ext_new hp)⟩
/-- parts of a slice -/
theorem o_none : PO X none (oD F δ none) := wkO po_none fun σ H Q h => let ⟨O, st, k⟩ := h; k H (ExtN.refl H) st.tabs
theorem o_some {i : Int} (h : PE X e (tD F δ (.int i))) : PO X (some e) (oD F δ (some i)) := wkO (po_some h) fun σ H Q h => by
  obtain ⟨O, st, k⟩ := h
  exact ⟨O, st, fun v H' e t g => ⟨i, g, k H' e t⟩⟩
theorem x_sl {lo hi : Option Expr} {l u : Option Int} {p2 : Pos} {r : V → Option Int → Option Int → Hp → VK → Prop} (hr : SlR X r) (q : SlD F r d l u z) (he : PE X e (tD F δ d)) (hl : PO X lo (oD F δ l)) (hu : PO X hi (oD F δ u)) :
    PE X (.Subscript e (.Slice lo hi none p2) pos) (tD F δ z) :=
  wkE (pe_slice hr he hl hu) fun σ H Q h => by
    obtain ⟨O, st, k⟩ := h
    refine ⟨O, st, fun x H1 e1 t1 g1 => ⟨O, st.grow e1 t1, fun H2 e2 t2 => ⟨O, (st.grow e1 t1).grow e2 t2, fun H3 e3 t3 => ?_⟩⟩⟩
    have s3 := ((st.grow e1 t1).grow e2 t2).grow e3 t3
    exact q O H3 x Q s3.dom t3 ((g1.grow e2).grow e3) fun v H4 e4 t4 g4 => k v H4 (((e1.trans e2).trans e3).trans e4) t4 g4
/-- built-ins -/
theorem cb_run {r : List V → Hp → VK → Prop} (q : ClD F r ds z) {σ : L2.St} {H : Hp} {Q : VK} (h : tD F δ z σ H Q) : tCB r (aD F δ ds) σ H Q := by
  obtain ⟨O, st, k⟩ := h
  exact ⟨O, st, fun xs H1 e1 t1 g1 => q O H1 xs Q (st.grow e1 t1).dom t1 g1 fun v H3 e3 t3 g3 => k v H3 (e1.trans e3) t3 g3⟩
theorem x_bi {x : Str} {id : String} {p : Pos} {r : List V → Hp → VK → Prop} (cx : Ctx X N sc) (hc : CallR X (.builtin id) r) (q : ClD F r ds z) (hm : X.mg x = none) (hv : bootBuiltins x = some (.builtin id)) (ha : PA X (e :: es) (aD F δ ds)) (hg : sc.names.lookup x = some .globalImplicit := by rfl)
    (hn : x ≠ "__name__" := by decide) (hdb : (x == ("__debug__" : Str)) = false := by decide) (he : starEach (e :: es) X.env = (false, eval e X.env) :: starEach es X.env := by rfl) (hpl : (backTo pos (starEach es X.env)).any (·.1) = false := by rfl) :
    PE X (.Call (.Name x p) (e :: es) [] pos) (tD F δ z) := wkE (pe_callB hc (cx.gl hg) hm hv ha hn hdb he hpl) fun σ H Q h => cb_run q h
theorem x_ty {x : Str} {id : String} {p : Pos} {r : List V → Hp → VK → Prop} (cx : Ctx X N sc) (hc : CallR X (.type id) r) (q : ClD F r ds z) (hm : X.mg x = none) (hv : bootBuiltins x = some (.type id)) (ha : PA X (e :: es) (aD F δ ds)) (hg : sc.names.lookup x = some .globalImplicit := by rfl)
    (hn : x ≠ "__name__" := by decide) (hdb : (x == ("__debug__" : Str)) = false := by decide) (he : starEach (e :: es) X.env = (false, eval e X.env) :: starEach es X.env := by rfl) (hpl : (backTo pos (starEach es X.env)).any (·.1) = false := by rfl) :
    PE X (.Call (.Name x p) (e :: es) [] pos) (tD F δ z) := wkE (pe_callTy hc (cx.gl hg) hm hv ha hn hdb he hpl) fun σ H Q h => cb_run q h
end
end Lf
set_option Elab.async false
set_option linter.all false
set_option maxRecDepth 100000
set_option maxHeartbeats 4000000
namespace Lf
open PySem PySem.Spec PyProof.Rows L2 LamX
section
variable {Kf : PySem.W.Frag} {Tf : List (Addr × Str)} {F : Fx Kf Tf} {K : PySem.W.Frag} {i j : Int} {s t : Str} {d e : PyData} {ds es : List PyData}
theorem od_i0 {g : Int → Int → Int} : OpD F (rI0 fun i j => .int (g i j)) (.int i) (.int j) (.int (g i j)) := fun O H x y Q _ t hx hy k => ⟨i, j, hx, hy, k _ H (ExtN.refl H) t rfl⟩
theorem od_b0 {g : Int → Int → Bool} : OpD F (rI0 fun i j => .bl (g i j)) (.int i) (.int j) (.bool (g i j)) := fun O H x y Q _ t hx hy k => ⟨i, j, hx, hy, k _ H (ExtN.refl H) t rfl⟩
theorem od_iC {C : Int → Int → Prop} {g : Int → Int → Int} (hc : C i j) : OpD F (rI C fun i j => .int (g i j)) (.int i) (.int j) (.int (g i j)) := fun O H x y Q _ t hx hy k => ⟨i, j, hx, hy, hc, k _ H (ExtN.refl H) t rfl⟩
/-- a text by its codes -/
def tx (l : List Nat) : PyData := .str ⟨l.toArray⟩
theorem tx_len (l : List Nat) : (⟨l.toArray⟩ : Str).length = l.length := by simp [Str.length]
theorem tx_app (l m : List Nat) : (⟨l.toArray⟩ : Str) ++ ⟨m.toArray⟩ = ⟨(l ++ m).toArray⟩ := by
  refine Str.ext' ?_
  show l.toArray ++ m.toArray = (l ++ m).toArray
  simp
theorem od_catS {l m : List Nat} (hz : l.length + m.length ≤ sizeLine) : OpD F (fun x y H Q => ∃ i j, x = .str i ∧ y = .str j ∧ i.length + j.length ≤ sizeLine ∧ Q (.str (i ++ j)) H) (tx l) (tx m) (tx (l ++ m)) :=
  fun O H x y Q _ w hx hy k => ⟨_, _, hx, hy, by rw [tx_len, tx_len]; exact hz, k _ H (ExtN.refl H) w (by rw [tx_app]; rfl)⟩
theorem od_catL (hz : ds.length + es.length ≤ sizeLine) : OpD F rCat (.list ds) (.list es) (.list (ds ++ es)) := fun O H x y Q dom w hx hy k => by
  obtain ⟨a, xs, ex, na, ga, ra⟩ := hx
  obtain ⟨b, ys, ey, nb, gb, rb⟩ := hy
  refine ⟨a, b, xs, ys, ex, ey, ga, gb, by rw [ra.len, rb.len]; exact hz, fun p hp => ?_⟩
  exact k _ _ (ext_new hp) (tabs_new w hp) ⟨p, _, rfl, fresh_ok dom hp, upd_same, (ra.app rb).grow (ext_new hp)⟩
theorem od_repL (h1 : -(2 ^ 63) ≤ i) (h2 : i < 2 ^ 63) (hz : ds.length * i.toNat ≤ sizeLine) : OpD F rRep (.list ds) (.int i) (.list (List.replicate i.toNat ds).flatten) := fun O H x y Q dom w hx hy k => by
  obtain ⟨a, xs, ex, na, ga, ra⟩ := hx
  refine ⟨a, i, xs, ex, hy, ga, h1, h2, by rw [ra.len]; exact hz, fun p hp => ?_⟩
  exact k _ _ (ext_new hp) (tabs_new w hp) ⟨p, _, rfl, fresh_ok dom hp, upd_same, (ra.rep _).grow (ext_new hp)⟩
theorem od_catT (hz : ds.length + es.length ≤ sizeLine) : OpD F (rCatA K) (.tuple ds) (.tuple es) (.tuple (ds ++ es)) := fun O H x y Q dom w hx hy k => by
  obtain ⟨a, xs, ex, na, ga, ra⟩ := hx
  obtain ⟨b, ys, ey, nb, gb, rb⟩ := hy
  refine ⟨a, b, xs, ys, ex, ey, SqT.of ga, SqT.of gb, by rw [ra.len, rb.len]; exact hz, fun e => ?_, fun e1 e2 => ?_, fun e1 e2 p hp => ?_⟩
  · subst e
    have : ds = [] := List.length_eq_zero_iff.mp ra.len.symm
    subst this
    exact k _ H (ExtN.refl H) w ⟨b, ys, rfl, nb, gb, rb⟩
  · subst e2
    have : es = [] := List.length_eq_zero_iff.mp rb.len.symm
    subst this
    rw [List.append_nil] at k
    exact k _ H (ExtN.refl H) w ⟨a, xs, rfl, na, ga, ra⟩
  · exact k _ _ (ext_new hp) (tabs_new w hp) ⟨p, _, rfl, fresh_ok dom hp, upd_same, (ra.app rb).grow (ext_new hp)⟩
def Lay (n : Nat) (d : PyData) : Prop := d.canLay0 = true ∧ d.depth ≤ n
theorem Lay.ok {n : Nat} (h : Lay n d) (hn : n ≤ 64 := by decide) : SeqAt.shaped d = true := by
  unfold SeqAt.shaped
  rw [h.1, decide_eq_true (Nat.le_trans h.2 hn)]
  rfl
theorem lay_none {n : Nat} : Lay n .none := ⟨rfl, Nat.zero_le _⟩
theorem lay_bool {n : Nat} {b : Bool} : Lay n (.bool b) := ⟨rfl, Nat.zero_le _⟩
theorem lay_int {n : Nat} {b : Int} : Lay n (.int b) := ⟨rfl, Nat.zero_le _⟩
theorem lay_tx {n : Nat} {l : List Nat} (h : ∀ c ∈ l, c < 1114112) : Lay n (tx l) := by
  refine ⟨?_, Nat.zero_le _⟩
  show PyData.strOk ⟨l.toArray⟩ = true
  unfold PyData.strOk
  simp only [List.all_toArray, List.all_eq_true, decide_eq_true_eq]
  exact h
theorem lay_all {n : Nat} : ∀ {ds : List PyData}, (∀ d ∈ ds, Lay n d) → PyData.canLayAll0 ds = true ∧ PyData.depthAll ds ≤ n
  | [], _ => ⟨rfl, Nat.zero_le _⟩
  | d :: ds, h => by
    obtain ⟨h1, h2⟩ := h d List.mem_cons_self
    obtain ⟨g1, g2⟩ := lay_all (ds := ds) fun e he => h e (List.mem_cons_of_mem _ he)
    refine ⟨?_, Nat.max_le.mpr ⟨h2, g2⟩⟩
    show (d.canLay0 && PyData.canLayAll0 ds) = true
    rw [h1, g1]
    rfl
theorem lay_list {n : Nat} (h : ∀ d ∈ ds, Lay n d) : Lay (n + 1) (.list ds) := ⟨(lay_all h).1, Nat.succ_le_succ (lay_all h).2⟩
theorem lay_tuple {n : Nat} (h : ∀ d ∈ ds, Lay n d) : Lay (n + 1) (.tuple ds) := ⟨(lay_all h).1, Nat.succ_le_succ (lay_all h).2⟩
theorem Lay.mono {n m : Nat} (h : Lay n d) (q : n ≤ m) : Lay m d := ⟨h.1, Nat.le_trans h.2 q⟩
theorem od_eqD {n m : Nat} (h : Lay n d) (g : Lay m e) (hn : n ≤ 64 := by decide) (hm : m ≤ 64 := by decide) : OpD F (rEqD K) d e (.bool (PyData.eqv d e)) := fun O H x y Q _ w hx hy k => ⟨d, e, Dt.dp d x (noP_lay _ h.1) hx, Dt.dp e y (noP_lay _ g.1) hy, h.ok hn, g.ok hm, k _ H (ExtN.refl H) w rfl⟩
theorem od_neD {n m : Nat} (h : Lay n d) (g : Lay m e) (hn : n ≤ 64 := by decide) (hm : m ≤ 64 := by decide) : OpD F (rNeD K) d e (.bool (!PyData.eqv d e)) := fun O H x y Q _ w hx hy k => ⟨d, e, Dt.dp d x (noP_lay _ h.1) hx, Dt.dp e y (noP_lay _ g.1) hy, h.ok hn, g.ok hm, k _ H (ExtN.refl H) w rfl⟩
/-- == of ints, of texts, of bools -/
theorem od_eqI : OpD F rEq (.int i) (.int j) (.bool (decide (i = j))) := fun O H x y Q _ w hx hy k => by
  rw [show x = V.int i from hx, show y = V.int j from hy]
  exact ⟨rfl, by rw [show decide (V.int i = V.int j) = decide (i = j) by simp]; exact k _ H (ExtN.refl H) w rfl⟩
theorem od_neI : OpD F rNe (.int i) (.int j) (.bool (!decide (i = j))) := fun O H x y Q _ w hx hy k => by
  rw [show x = V.int i from hx, show y = V.int j from hy]
  exact ⟨rfl, by rw [show decide (V.int i = V.int j) = decide (i = j) by simp]; exact k _ H (ExtN.refl H) w rfl⟩
theorem od_neB {i j : Bool} : OpD F rNe (.bool i) (.bool j) (.bool (!decide (i = j))) := fun O H x y Q _ w hx hy k => by
  rw [show x = V.bl i from hx, show y = V.bl j from hy]
  exact ⟨rfl, by rw [show decide (V.bl i = V.bl j) = decide (i = j) by simp]; exact k _ H (ExtN.refl H) w rfl⟩
theorem tx_inj {l m : List Nat} : (⟨l.toArray⟩ : Str) = ⟨m.toArray⟩ ↔ l = m := ⟨fun h => by
  have := congrArg (fun s : Str => s.cps.toList) h
  simpa using this, fun h => by rw [h]⟩
theorem od_eqS {l m : List Nat} : OpD F rEq (tx l) (tx m) (.bool (decide (l = m))) := fun O H x y Q _ w hx hy k => by
  rw [show x = V.str ⟨l.toArray⟩ from hx, show y = V.str ⟨m.toArray⟩ from hy]
  exact ⟨rfl, by rw [show decide (V.str ⟨l.toArray⟩ = V.str ⟨m.toArray⟩) = decide (l = m) by simp [tx_inj]]; exact k _ H (ExtN.refl H) w rfl⟩
theorem od_neS {l m : List Nat} : OpD F rNe (tx l) (tx m) (.bool (!decide (l = m))) := fun O H x y Q _ w hx hy k => by
  rw [show x = V.str ⟨l.toArray⟩ from hx, show y = V.str ⟨m.toArray⟩ from hy]
  exact ⟨rfl, by rw [show decide (V.str ⟨l.toArray⟩ = V.str ⟨m.toArray⟩) = decide (l = m) by simp [tx_inj]]; exact k _ H (ExtN.refl H) w rfl⟩
/-- is None -/
def isN : PyData → Bool
  | .none => true
  | _ => false
theorem isN_of {O : Addr → Prop} {H : Hp} {x : V} (h : Dt O H d x) : decide (x = V.non) = isN d := by
  cases d with
  | none => rw [show x = V.non from h]; rfl
  | bool b => rw [show x = V.bl b from h]; rfl
  | int b => rw [show x = V.int b from h]; rfl
  | str b => rw [show x = V.str b from h]; rfl
  | list b => obtain ⟨a, _, e, _⟩ := h; rw [e]; rfl
  | tuple b => obtain ⟨a, _, e, _⟩ := h; rw [e]; rfl
  | dict b => obtain ⟨p, _, e⟩ := h; rw [e]; rfl
theorem od_isN : OpD F (fun x y H Q => y = .non ∧ Q (.bl (decide (x = .non))) H) d .none (.bool (isN d)) := fun O H x y Q _ w hx hy k => ⟨hy, k _ H (ExtN.refl H) w (by rw [isN_of hx]; rfl)⟩
theorem od_notN : OpD F (fun x y H Q => y = .non ∧ Q (.bl (!decide (x = .non))) H) d .none (.bool (!isN d)) := fun O H x y Q _ w hx hy k => ⟨hy, k _ H (ExtN.refl H) w (by rw [isN_of hx]; rfl)⟩
/-- one sign in a text -/
theorem od_inS {c : Nat} {m : List Nat} : OpD F rInS (tx [c]) (tx m) (.bool (decide (c ∈ m))) := fun O H x y Q _ w hx hy k => ⟨c, _, hx, hy, k _ H (ExtN.refl H) w (by simp [Dt])⟩
theorem od_ninS {c : Nat} {m : List Nat} : OpD F rNotInS (tx [c]) (tx m) (.bool (!decide (c ∈ m))) := fun O H x y Q _ w hx hy k => ⟨c, _, hx, hy, k _ H (ExtN.refl H) w (by simp [Dt])⟩
/-- data in a list -/
theorem od_inD {n m : Nat} (h : Lay n d) (g : Lay m (.list ds)) (hn : n ≤ 64 := by decide) (hm : m ≤ 64 := by decide) : OpD F (rInD K) d (.list ds) (.bool (ds.any fun z => PyData.eqv z d)) := fun O H x y Q _ w hx hy k => ⟨d, ds, Dt.dp d x (noP_lay _ h.1) hx, Dt.dp _ y (noP_lay _ g.1) hy, h.ok hn, g.ok hm, k _ H (ExtN.refl H) w rfl⟩
theorem od_ninD {n m : Nat} (h : Lay n d) (g : Lay m (.list ds)) (hn : n ≤ 64 := by decide) (hm : m ≤ 64 := by decide) : OpD F (rNotInD K) d (.list ds) (.bool (!ds.any fun z => PyData.eqv z d)) := fun O H x y Q _ w hx hy k => ⟨d, ds, Dt.dp d x (noP_lay _ h.1) hx, Dt.dp _ y (noP_lay _ g.1) hy, h.ok hn, g.ok hm, k _ H (ExtN.refl H) w rfl⟩
/-- items -/
theorem at_data {O : Addr → Prop} {H : Hp} {vs : List V} (h : DtAll O H ds vs) (e : atI ds i = some d) : ∃ v, atI vs i = some v ∧ Dt O H d v := by
  unfold atI at e ⊢
  rw [h.len]
  cases q : ixN ds.length i with
  | none => rw [q] at e; cases e
  | some j =>
    rw [q] at e
    exact h.get e
theorem od_ixL (h : atI ds i = some d) : OpD F (rIxL K) (.list ds) (.int i) d := fun O H x y Q _ w hx hy k => by
  obtain ⟨a, xs, ex, _, ga, ra⟩ := hx
  obtain ⟨v, e, g⟩ := at_data ra h
  exact ⟨a, xs, i, v, ex, hy, SqL.of ga, e, k v H (ExtN.refl H) w g⟩
theorem od_ixT (h : atI ds i = some d) : OpD F (rIxT K) (.tuple ds) (.int i) d := fun O H x y Q _ w hx hy k => by
  obtain ⟨a, xs, ex, _, ga, ra⟩ := hx
  obtain ⟨v, e, g⟩ := at_data ra h
  exact ⟨a, xs, i, v, ex, hy, SqT.of ga, e, k v H (ExtN.refl H) w g⟩
theorem od_ixS {l : List Nat} {c : Nat} (hz : l.length ≤ sizeLine) (h : atI l i = some c) : OpD F rIxS (tx l) (.int i) (tx [c]) := fun O H x y Q _ w hx hy k =>
  ⟨_, i, c, hx, hy, by rw [tx_len]; exact hz, by simpa using h, k _ H (ExtN.refl H) w rfl⟩
/-- slices -/
def cutL {α : Type} (xs : List α) (lo hi : Option Int) : List α := (xs.drop (HT.sIx xs.length 0 lo)).take (HT.sIx xs.length xs.length hi - HT.sIx xs.length 0 lo)
theorem sd_str {l : List Nat} {lo hi : Option Int} (hz : l.length ≤ sizeLine) : SlD F rSlS (tx l) lo hi (tx (cutL l lo hi)) := fun O H x Q dom w hx k => ⟨_, hx, by rw [tx_len]; exact hz, k _ H (ExtN.refl H) w (by unfold cutS cutL; simp [tx, Dt, tx_len])⟩
/-- len, max, min .. -/
theorem cd_lenL : ClD F (fun xs H Q => ∃ x n, xs = [x] ∧ LenV K x H n ∧ Q (.int n) H) [.list ds] (.int ds.length) := fun O H xs Q _ w h k => by
  obtain ⟨x, r, e, ⟨a, ys, ex, _, ga, ra⟩, rfl⟩ := h
  subst ex
  exact ⟨_, ds.length, e, .inl ⟨ys, SqL.of ga, ra.len.symm⟩, k _ H (ExtN.refl H) w rfl⟩
theorem cd_lenT : ClD F (fun xs H Q => ∃ x n, xs = [x] ∧ LenV K x H n ∧ Q (.int n) H) [.tuple ds] (.int ds.length) := fun O H xs Q _ w h k => by
  obtain ⟨x, r, e, ⟨a, ys, ex, _, ga, ra⟩, rfl⟩ := h
  subst ex
  exact ⟨_, ds.length, e, .inr ⟨ys, SqT.of ga, ra.len.symm⟩, k _ H (ExtN.refl H) w rfl⟩
theorem cd_lenS {l : List Nat} (hz : l.length ≤ sizeLine) : ClD F (fun xs H Q => ∃ x n, xs = [x] ∧ LenV K x H n ∧ Q (.int n) H) [tx l] (.int l.length) := fun O H xs Q _ w h k => by
  obtain ⟨x, r, e, ex, rfl⟩ := h
  rw [show x = V.str ⟨l.toArray⟩ from ex] at e
  exact ⟨_, l.length, e, ⟨by rw [tx_len]; exact hz, by rw [tx_len]⟩, k _ H (ExtN.refl H) w rfl⟩
theorem cd_max2 : ClD F (fun xs H Q => ∃ i j, xs = [.int i, .int j] ∧ Q (.int (if j > i then j else i)) H) [.int i, .int j] (.int (if j > i then j else i)) := fun O H xs Q _ w h k => by
  obtain ⟨x, r, rfl, ex, y, r', rfl, ey, rfl⟩ := h
  rw [show x = V.int i from ex, show y = V.int j from ey]
  exact ⟨i, j, rfl, k _ H (ExtN.refl H) w rfl⟩
theorem cd_min2 : ClD F (fun xs H Q => ∃ i j, xs = [.int i, .int j] ∧ Q (.int (if j < i then j else i)) H) [.int i, .int j] (.int (if j < i then j else i)) := fun O H xs Q _ w h k => by
  obtain ⟨x, r, rfl, ex, y, r', rfl, ey, rfl⟩ := h
  rw [show x = V.int i from ex, show y = V.int j from ey]
  exact ⟨i, j, rfl, k _ H (ExtN.refl H) w rfl⟩
theorem cd_all {bs : List Bool} : ClD F (rAll K) [.list (bs.map PyData.bool)] (.bool (bs.all id)) := fun O H xs Q _ w h k => by
  obtain ⟨x, r, rfl, ⟨a, ys, ex, _, ga, ra⟩, rfl⟩ := h
  subst ex
  exact ⟨a, bs, rfl, SqL.of (by rw [ga, ra.bls]), k _ H (ExtN.refl H) w rfl⟩
/-- isinstance -/
def tyN : PyData → String
  | .none => "NoneType"
  | .bool _ => "bool"
  | .int _ => "int"
  | .str _ => "str"
  | .list _ => "list"
  | .tuple _ => "tuple"
  | .dict _ => "dict"
theorem ty_of {O : Addr → Prop} {H : Hp} {x : V} (n : ∀ b, d ≠ .dict b) (h : Dt O H d x) : TyX K H x (.type (tyN d)) := by
  cases d with
  | none => rw [show x = V.non from h]; exact .base .non
  | bool b => rw [show x = V.bl b from h]; exact .base (.bl b)
  | int b => rw [show x = V.int b from h]; exact .base (.int b)
  | str b => rw [show x = V.str b from h]; exact .base (.str b)
  | list b => obtain ⟨a, _, e, _, g, _⟩ := h; rw [e]; exact .base (.lst g)
  | tuple b => obtain ⟨a, _, e, _, g, _⟩ := h; rw [e]; exact .base (.tup g)
  | dict b => exact absurd rfl (n b)
/-- a pointer -/
def isP : PyData → Bool
  | .dict _ => true
  | _ => false
theorem no_ptr {d : PyData} (h : isP d = false) : ∀ b, d ≠ .dict b := fun k z => by
  subst z
  cases h
theorem cd_join {ls : List (List Nat)} {m : List Nat} (hz : (ls.map (·.length)).sum + ls.length * m.length ≤ 16777216) : MtD F (fun x xs H Q => ∃ a p, ∃ ys : List Str, x = .str a ∧ xs = [.ref p] ∧ (SqL K H p (ys.map V.str) ∨ SqT K H p (ys.map V.str)) ∧ (ys.map (·.length)).sum + ys.length * a.length ≤ 16777216 ∧ Q (.str (Txt.join a ys)) H)
    (tx m) [.list (ls.map tx)] (tx (TL.joinL m ls)) := fun O H x xs Q _ w hx h k => by
  obtain ⟨y, r, rfl, ⟨a, ys, ey, _, ga, ra⟩, rfl⟩ := h
  subst ey
  have e1 : ls.map tx = (ls.map fun l => (⟨l.toArray⟩ : Str)).map PyData.str := by rw [List.map_map]; rfl
  rw [e1] at ra
  have e2 := ra.txts
  refine ⟨⟨m.toArray⟩, a, ls.map fun l => ⟨l.toArray⟩, hx, rfl, .inl (SqL.of (by rw [ga, e2])), ?_, k _ H (ExtN.refl H) w ?_⟩
  · rw [List.map_map, List.length_map, tx_len]
    have e3 : (ls.map ((fun s : Str => s.length) ∘ fun l => (⟨l.toArray⟩ : Str))) = ls.map (·.length) := List.map_congr_left fun l _ => tx_len l
    rw [e3]
    exact hz
  · show V.str (Txt.join ⟨m.toArray⟩ _) = V.str ⟨(TL.joinL m ls).toArray⟩
    rw [TL.join_eq]
    refine congrArg V.str (TL.ext_tl ?_)
    rw [TL.tl_join, List.map_map]
    have e4 : (ls.map (TL.tl ∘ fun l => (⟨l.toArray⟩ : Str))) = ls := by
      rw [show (TL.tl ∘ fun l => (⟨l.toArray⟩ : Str)) = id from funext fun l => by simp [TL.tl]]
      exact List.map_id ls
    rw [e4]
end
/-- the last law's end: isinstance(e, T), T a built-in class -/
theorem x_isi {Kf : PySem.W.Frag} {Tf : List (Addr × Str)} {F : Fx Kf Tf} {δ : List Slot} {X : Cx} {N : List Str} {sc : Scope} {pos p p2 : Pos} {e : Expr} {d : PyData} {T : String} {x : Str} {b : Bool} (cx : Ctx X N sc) (he : PE X e (tD F δ d)) (hm : X.mg "isinstance" = none) (hm2 : X.mg x = none) (hv : bootBuiltins x = some (.type T)) (hb : kitB (tyN d) T = some b) (hT : isP d = false := by first | rfl | assumption)
    (hg : sc.names.lookup ("isinstance" : Str) = some .globalImplicit := by rfl) (hg2 : sc.names.lookup x = some .globalImplicit := by rfl) (hn : x ≠ "__name__" := by decide) (hd : (x == ("__debug__" : Str)) = false := by decide)
    (hs : starEach (e :: [.Name x p2]) X.env = (false, eval e X.env) :: starEach [.Name x p2] X.env := by rfl) : PE X (.Call (.Name "isinstance" p) [e, .Name x p2] [] pos) (tD F δ (.bool b)) :=
  wkE (pe_callB call_isi (cx.gl hg) hm (by decide +kernel) (pa_cons he (pa_cons (pe_bltn (v := .ty T) (cx.gl hg2) hm2 hv rfl hn hd) pa_nil) hs) (by decide) (by decide) hs) fun σ H Q h => by
    obtain ⟨O, st, k⟩ := h
    exact ⟨O, st, fun v H1 e1 t1 g1 => ⟨v, .ty T, _, _, b, rfl, .ty T, ty_of (no_ptr hT) g1, kit_ty hb, k _ H1 e1 t1 rfl⟩⟩
end Lf
set_option Elab.async false
set_option linter.all false
set_option maxRecDepth 100000
set_option maxHeartbeats 4000000
namespace Lf
open PySem PySem.Spec PyProof.Rows L2 LamX
structure Pg where
  prog : Program
  w : World
  K : PySem.W.Frag
  mg : Str → Option Value
  base : Heap
structure Rest where
  A : Around
  s0 : Shared
  H0 : Hp
  env : Env
  outer : List Env
  stack : List Env
  ex : List Addr
  fn : Str → Bool
  calm : Bool
  pn : List (Addr × Obj)
  xe : Value → Shared → Prop
abbrev Pg.cx (G : Pg) (N : List Str) (r : Rest) : Cx := ⟨G.prog, G.w, G.K, G.mg, G.base, r.A, N, r.s0, r.H0, r.env, r.outer, r.stack, r.ex, r.fn, r.calm, r.pn, r.xe⟩
abbrev Res := Except Addr PyData
def spD (T : List (Addr × Str)) (R : List PyData → Res → Prop) : Sp := fun vs H Q E => ∃ O ds r, (∀ a, O a → Lives H a) ∧ Tabs T H ∧ DtAll O H ds vs ∧ R ds r ∧
  (∀ d, r = .ok d → ∀ v H', ExtN H H' → Tabs T H' → Dt O H' d v → Q v H') ∧ (∀ c, r = .error c → ∀ H', ExtN H H' → Tabs T H' → E (.ref c) none H')
/-- a def by its name -/
structure Fd (P : Program) (w : World) (K : PySem.W.Frag) (mg : Str → Option Value) (base : Heap) (x : Str) (k : Nat) (ps : List Str) (sp : Sp) : Prop where
  ex : ∃ f fd, FnOk P w K mg base (L2N.CX P w) k f fd ps sp ∧ mg x = some (.ref f) ∧ PySem.W.keepIn K (.ref f) = true ∧ Binds K fd ps []
theorem passN {X : Cx} : Passes (L2N.CX X.prog X.w) X E0 := fun _ _ _ _ _ _ _ h => by
  obtain ⟨_, _, _, _, _, _, _, _, _, _, _, _, z⟩ := h
  exact z.elim
def start0 (N : List Str) (ds : List PyData) : List Slot := ds.map .dat ++ List.replicate (N.length - ds.length) .non
def postOf (r : Res) : Post := { nx := fun _ => r = .ok .none, rt := fun d => r = .ok d, ex := fun c => r = .error c }
section
variable {Kf : PySem.W.Frag} {Tf : List (Addr × Str)} {F : Fx Kf Tf} {δ : List Slot} {X : Cx} {N : List Str} {sc : Scope} {pos p : Pos} {a b c e : Expr} {es : List Expr} {d z : PyData} {ds : List PyData} {R : List PyData → Res → Prop} {x : Str} {k : Nat} {ps : List Str}
theorem x_call (cx : Ctx X N sc) (h : Fd X.prog X.w X.K X.mg X.base x k ps (spD Tf R)) (hr : Room k X.A) (ha : PA X (e :: es) (aD F δ ds)) (hR : R ds (.ok d)) (hg : sc.names.lookup x = some .globalImplicit := by rfl) (hdb : (x == ("__debug__" : Str)) = false := by decide)
    (he : starEach (e :: es) X.env = (false, eval e X.env) :: starEach es X.env := by rfl) (hpl : (backTo pos (starEach es X.env)).any (·.1) = false := by rfl) : PE X (.Call (.Name x p) (e :: es) [] pos) (tD F δ d) := by
  obtain ⟨f, fd, G, m, kp, b⟩ := h.ex
  refine wkE (pe_call G hr (cx.gl hg) m kp b .nil passN ha hdb he hpl) fun σ H Q h => ?_
  obtain ⟨O, st, w⟩ := h
  refine ⟨O, st, fun vs H1 e1 t1 g1 => ?_⟩
  show spD Tf R (vs ++ []) H1 Q _
  rw [List.append_nil]
  exact ⟨O, ds, .ok d, (st.grow e1 t1).dom, t1, g1, hR, fun d' q v H' e2 t2 g2 => by cases q; exact w v H' (e1.trans e2) t2 g2, fun c q => by cases q⟩
variable {O : Addr → Prop} {H : Hp} {σ : L2.St} {v : V}
theorem get_some {i : Nat} (h : σ[i]?.getD none = some v) : σ[i]? = some (some v) := by
  cases q : σ[i]? with
  | none => rw [q] at h; cases h
  | some o => rw [q] at h; rw [show o = some v from h]
theorem StAt.set {s : Slot} (st : StAt F O H σ δ) (i : Nat) (h : SlotOk F O H (some v) s) (hs : s.mine = false) : StAt F O H (σ.set i (some v)) (δ.set i s) := by
  refine ⟨by rw [List.length_set, List.length_set, st.len], st.o0, st.dom, st.tabs, st.ext, fun j u q => ?_, fun j l s' u' q' hjl h1 h2 m1 m2 e1 e2 => ?_, ?_⟩
  · by_cases e : i = j
    · subst e
      have hi : i < δ.length := by
        have := (List.getElem?_eq_some_iff.mp q).1
        simpa using this
      rw [List.getElem?_set_self hi] at q
      cases q
      rw [List.getElem?_set_self (by rw [st.len]; exact hi)]
      exact h
    · rw [List.getElem?_set_ne e] at q ⊢
      exact st.slot j u q
  · have no : ∀ {j : Nat} {u : Slot}, (δ.set i s)[j]? = some u → u.mine = true → i ≠ j := fun {j u} q m e => by
      subst e
      have hi : i < δ.length := by
        have := (List.getElem?_eq_some_iff.mp q).1
        simpa using this
      rw [List.getElem?_set_self hi] at q
      cases q
      rw [hs] at m
      cases m
    have n1 := no h1 m1
    have n2 := no h2 m2
    rw [List.getElem?_set_ne n1] at h1 e1
    rw [List.getElem?_set_ne n2] at h2 e2
    exact st.apart j l s' u' q' hjl h1 h2 m1 m2 e1 e2
  · exact st.afar.set st.len i _ _ (fun R e => by rw [e] at hs; cases hs) fun j R _ _ p _ => no_has hs _ p
theorem StAt.setD (st : StAt F O H σ δ) (i : Nat) (h : Dt O H d v) : StAt F O H (σ.set i (some v)) (δ.set i (.dat d)) := st.set i ⟨v, rfl, h⟩ rfl
/-- a new list is put into a name -/
theorem own_out {τ : List (PyData × V)} {H' : Hp} {q : Addr} {xs : List V} (st : StAt F O H σ δ) (tm : Tm O H τ) (i : Nat) (e : ExtN H H') (t : Tabs F.T H') (hn : ∀ a, Lives H a → a ≠ q) (hq : H' q = some (.lst xs)) (hds : DtAll (Shut O q) H' ds xs) :
    StAt F (Shut O q) H' (σ.set i (some (.ref q))) (δ.set i (.own ds)) ∧ Tm (Shut O q) H' τ := by
  have kp : ∀ d v, Dt O H d v → Dt (Shut O q) H' d v := fun d v g => Dt.imp (fun a o n r w => ⟨fun z => z.elim n (fun z => hn a ⟨o, r, w⟩ z), e a o r w⟩) d v g
  have kpA : ∀ d v, DtAll O H d v → DtAll (Shut O q) H' d v := fun d v g => DtAll.imp (fun a o n r w => ⟨fun z => z.elim n (fun z => hn a ⟨o, r, w⟩ z), e a o r w⟩) d v g
  have sl : ∀ o s, SlotOk F O H o s → SlotOk F (Shut O q) H' o s := fun o s g => by
    cases s with
    | non => trivial
    | dat d => obtain ⟨v, a, b⟩ := g; exact ⟨v, a, kp _ _ b⟩
    | own ds => obtain ⟨p, vs, a, b, c, g, r⟩ := g; exact ⟨p, vs, a, .inl b, c, e _ _ g (fun _ z => by cases z), kpA _ _ r⟩
    | odk kvs => obtain ⟨p, vs, a, b, c, g, r⟩ := g; exact ⟨p, vs, a, .inl b, c, e _ _ g (fun _ z => by cases z), r.imp kpA⟩
    | res R => exact res_keep g (fun a ha => (g.2.2 a ha).2.2.same e) (fun a ha => .inl (g.2.2 a ha).1) kp
    | scr ns => exact g
    | any φ => exact g
  have nq : ∀ (j : Nat) (s : Slot), δ[j]? = some s → s.mine = true → σ[j]? ≠ some (some (V.ref q)) := fun j s a m z => by
    have g := st.slot j s a
    rw [z] at g
    cases s with
    | own ds =>
      obtain ⟨p, vs, e1, o1, _⟩ := g
      cases e1
      exact hn q (st.dom q o1) rfl
    | odk ds =>
      obtain ⟨p, vs, e1, o1, _⟩ := g
      cases e1
      exact hn q (st.dom q o1) rfl
    | res R =>
      obtain ⟨e1, _, _⟩ := g
      cases e1
    | non => cases m
    | dat _ => cases m
    | scr _ => cases m
    | any _ => cases m
  refine ⟨⟨by rw [List.length_set, List.length_set, st.len], fun a z => .inl (st.o0 a z), fun a z => ?_, t, st.ext.trans e, fun j s r => ?_, fun j l s' u' q' hjl h1 h2 m1 m2 e1 e2 => ?_, st.afar.set st.len i _ _ (fun R z => by cases z) fun j R _ hj p hp z => ?_⟩, fun w hw => kp _ _ (tm w hw)⟩
  rotate_right
  · cases (show some (V.ref q) = some (V.ref p) from z)
    exact hn q ((st.slot j _ hj).2.2 q hp).2.2 rfl
  · rcases z with z | z
    · exact (st.dom a z).grow e
    · rw [z]; exact ⟨_, hq, fun _ z => by cases z⟩
  · by_cases ej : i = j
    · subst ej
      have hi : i < δ.length := by
        have := (List.getElem?_eq_some_iff.mp r).1
        simpa using this
      rw [List.getElem?_set_self hi] at r
      cases r
      rw [List.getElem?_set_self (by rw [st.len]; exact hi)]
      exact ⟨q, xs, rfl, .inr rfl, fun z => hn q (z.grow st.ext) rfl, hq, hds⟩
    · rw [List.getElem?_set_ne ej] at r ⊢
      exact sl _ _ (st.slot j s r)
  · by_cases ej : i = j
    · by_cases el : i = l
      · exact hjl (ej.symm.trans el)
      · rw [List.getElem?_set_ne el] at h2 e2
        subst ej
        have hi : i < σ.length := by
          have := (List.getElem?_eq_some_iff.mp e1).1
          simpa using this
        rw [List.getElem?_set_self hi] at e1
        cases e1
        exact nq l u' h2 m2 e2
    · rw [List.getElem?_set_ne ej] at h1 e1
      by_cases el : i = l
      · subst el
        have hi : i < σ.length := by
          have := (List.getElem?_eq_some_iff.mp e2).1
          simpa using this
        rw [List.getElem?_set_self hi] at e2
        cases e2
        exact nq j s' h1 m1 e1
      · rw [List.getElem?_set_ne el] at h2 e2
        exact st.apart j l s' u' q' hjl h1 h2 m1 m2 e1 e2
/-- a list of one's own is changed -/
theorem own_turn {τ : List (PyData × V)} {q : Addr} {xs ys : List V} {es : List PyData} {i : Nat} (st : StAt F O H σ δ) (tm : Tm O H τ) (hi : δ[i]? = some (.own ds)) (hv : σ[i]? = some (some (.ref q))) (hq : H q = some (.lst xs)) (h : DtAll O H es ys) :
    StAt F O (upd H q (.lst ys)) σ (δ.set i (.own es)) ∧ Tm O (upd H q (.lst ys)) τ := by
  have g := st.slot i _ hi
  rw [hv] at g
  obtain ⟨p, vs, e1, o1, nl, gp, _⟩ := g
  cases e1
  have kp : ∀ d v, Dt O H d v → Dt O (upd H q (.lst ys)) d v := fun d v g => g.turn o1
  have kpA : ∀ d v, DtAll O H d v → DtAll O (upd H q (.lst ys)) d v := fun d v g => g.turn o1
  have hil : i < δ.length := (List.getElem?_eq_some_iff.mp hi).1
  have mineset : ∀ {j : Nat} {s : Slot}, (δ.set i (.own es))[j]? = some s → s.mine = true → ∃ s', δ[j]? = some s' ∧ s'.mine = true := fun {j s} a m => by
    by_cases e : i = j
    · subst e
      exact ⟨_, hi, rfl⟩
    · rw [List.getElem?_set_ne e] at a
      exact ⟨s, a, m⟩
  refine ⟨⟨by rw [List.length_set, st.len], st.o0, fun a z => (st.dom a z).turn (fun _ z => by cases z), tabs_turn st.tabs hq, fun b o g t => ?_, fun j s r => ?_, fun j l s' u' q' hjl h1 h2 m1 m2 => ?_, st.afar.turn st.len i _ (fun R z => by cases z) fun j R hji hj p hp z => st.afar j i R _ hji hj hi p hp z⟩, fun w hw => kp _ _ (tm w hw)⟩
  · rw [upd_ne (fun z => nl (by rw [← z]; exact ⟨o, g, t⟩))]
    exact st.ext b o g t
  · by_cases e : i = j
    · subst e
      rw [List.getElem?_set_self hil] at r
      cases r
      rw [hv]
      exact ⟨q, ys, rfl, o1, nl, upd_same, kpA _ _ h⟩
    · rw [List.getElem?_set_ne e] at r
      have g := st.slot j s r
      cases s with
      | non => trivial
      | dat d => obtain ⟨v, a, b⟩ := g; exact ⟨v, a, kp _ _ b⟩
      | own ds' =>
        obtain ⟨p, vs', a, b, c, g, r'⟩ := g
        have ne : p ≠ q := fun z => st.apart i j _ _ q e hi r rfl rfl hv (by rw [← z]; exact get_some a)
        exact ⟨p, vs', a, b, c, by rw [upd_ne ne]; exact g, kpA _ _ r'⟩
      | odk kvs =>
        obtain ⟨p, vs', a, b, c, g, r'⟩ := g
        have ne : p ≠ q := fun z => st.apart i j _ _ q e hi r rfl rfl hv (by rw [← z]; exact get_some a)
        exact ⟨p, vs', a, b, c, by rw [upd_ne ne]; exact g, r'.imp kpA⟩
      | res R => exact res_keep g (fun a ha => upd_ne fun z => st.afar j i R _ (fun y => e y.symm) r hi a ha (by rw [hv, z]; rfl)) (fun a ha => (g.2.2 a ha).1) kp
      | scr ns => exact g
      | any φ => exact g
  · obtain ⟨s1, a1, b1⟩ := mineset h1 m1
    obtain ⟨s2, a2, b2⟩ := mineset h2 m2
    exact st.apart j l s1 s2 q' hjl a1 a2 b1 b2
/-- a list of one's own is one's own no more -/
theorem own_freeze {τ : List (PyData × V)} {i : Nat} (st : StAt F O H σ δ) (tm : Tm O H τ) (hi : δ[i]? = some (.own ds)) : ∃ O', StAt F O' H σ (δ.set i (.dat (.list ds))) ∧ Tm O' H τ := by
  obtain ⟨q, xs, e1, o1, nl, gq, r⟩ := st.slot i _ hi
  have hv := get_some e1
  have hil : i < δ.length := (List.getElem?_eq_some_iff.mp hi).1
  refine ⟨fun a => O a ∧ a ≠ q, ?_, fun w hw => (tm w hw).open_ fun a z => z.1⟩
  have kpA : ∀ d v, DtAll O H d v → DtAll (fun a => O a ∧ a ≠ q) H d v := fun d v g => g.open_ fun a z => z.1
  refine ⟨by rw [List.length_set, st.len], fun a z => ⟨st.o0 a z, fun e => nl (by rw [← e]; exact F.h0 a z)⟩, fun a z => st.dom a z.1, st.tabs, st.ext, fun j s r' => ?_, fun j l s' u' q' hjl h1 h2 m1 m2 e1 e2 => ?_, st.afar.turn st.len i _ (fun R z => by cases z) fun j R _ _ p _ z => z⟩
  · by_cases e : i = j
    · subst e
      rw [List.getElem?_set_self hil] at r'
      cases r'
      rw [hv]
      exact ⟨.ref q, rfl, q, xs, rfl, fun z => z.2 rfl, gq, kpA _ _ r⟩
    · rw [List.getElem?_set_ne e] at r'
      have g := st.slot j s r'
      cases s with
      | non => trivial
      | dat d => obtain ⟨v, a, b⟩ := g; exact ⟨v, a, b.open_ fun a z => z.1⟩
      | own ds' =>
        obtain ⟨p, vs', a, b, c, g, r2⟩ := g
        have ne : p ≠ q := fun z => st.apart i j _ _ q e hi r' rfl rfl hv (by rw [← z]; exact get_some a)
        exact ⟨p, vs', a, ⟨b, ne⟩, c, g, kpA _ _ r2⟩
      | odk kvs =>
        obtain ⟨p, vs', a, b, c, g, r2⟩ := g
        have ne : p ≠ q := fun z => st.apart i j _ _ q e hi r' rfl rfl hv (by rw [← z]; exact get_some a)
        exact ⟨p, vs', a, ⟨b, ne⟩, c, g, r2.imp kpA⟩
      | res R => exact res_keep g (fun a ha => rfl) (fun a ha => ⟨(g.2.2 a ha).1, fun z => st.afar j i R _ (fun y => e y.symm) r' hi a ha (by rw [hv, z]; rfl)⟩) fun d v q => q.open_ fun a z => z.1
      | scr ns => exact g
      | any φ => exact g
  · have no : ∀ {j : Nat} {u : Slot}, (δ.set i (.dat (.list ds)))[j]? = some u → u.mine = true → i ≠ j := fun {j u} q m e => by
      subst e
      rw [List.getElem?_set_self hil] at q
      cases q
      cases m
    have n1 := no h1 m1
    have n2 := no h2 m2
    rw [List.getElem?_set_ne n1] at h1
    rw [List.getElem?_set_ne n2] at h2
    exact st.apart j l s' u' q' hjl h1 h2 m1 m2 e1 e2
end
end Lf
set_option Elab.async false
set_option linter.all false
set_option maxRecDepth 100000
set_option maxHeartbeats 4000000
namespace Lf
open PySem PySem.Spec PyProof.Rows L2 LamX
section
variable {Kf : PySem.W.Frag} {Tf : List (Addr × Str)} {F : Fx Kf Tf} {δ : List Slot} {X : Cx} {N : List Str} {sc : Scope} {pos p pos' : Pos} {a b c e : Expr} {es : List Expr} {d z : PyData} {ds : List PyData} {x : Str} {st : Stmt} {rest body els : List Stmt} {P : Post}
theorem Tm.grow {O : Addr → Prop} {H H' : Hp} {τ : List (PyData × V)} (h : Tm O H τ) (e : ExtN H H') : Tm O H' τ := fun w hw => (h w hw).grow e
theorem s_nil (h : P.nx δ) : PSs X [] (sD F δ P) := wkSs pss_nil fun D σ H h' => by
  obtain ⟨O, τ, st, tm, w⟩ := h'
  exact w.nx δ O σ H h st tm
/-- a block in two -/
theorem s_seq {M : List Slot → Prop} (h : PS X st (sD F δ { P with nx := M })) (g : ∀ δ', M δ' → PSs X rest (sD F δ' P)) : PSs X (st :: rest) (sD F δ P) :=
  wkSs (pss_cons h (exSs fun δ' => ifSs (g δ'))) fun D σ H h' => by
    obtain ⟨O, τ, s0, tm, w⟩ := h'
    exact ⟨O, τ, s0, tm, ⟨fun δ' O' σ' H' m s1 t1 => ⟨δ', m, O', τ, s1, t1, w⟩, w.rt, w.bk, w.ct, w.ex, w.rts, w.exs⟩⟩
theorem s_set (i : Nat) (cx : CtD X N sc F.E) (h : PE X e (tD F δ d)) (g : PSs X rest (sD F (δ.set i (.dat d)) P)) (hi : N[i]? = some x := by rfl) (hx : Loc sc x := by first | exact Or.inl rfl | exact Or.inr rfl)
    (hs : swapsWith e (some (.Name x pos')) pos.line X.env = pure false := by rfl) : PSs X (.Assign [.Name x pos'] e pos :: rest) (sD F δ P) :=
  wkSs (pss_cons (ps_set (cx.nd') (cx.at_ hi) (cx.loc hx) h hs (.inl (cx.fn x))) g) fun D σ H h' => by
    obtain ⟨O, τ, s0, tm, w⟩ := h'
    exact ⟨O, s0, fun v H' e' t' g' => ⟨O, τ, (s0.grow e' t').setD i g', tm.grow e', w⟩⟩
/-- a new list of one's own -/
theorem s_own (i : Nat) (cx : CtD X N sc F.E) (h : PE X e (tDL F δ ds)) (g : PSs X rest (sD F (δ.set i (.own ds)) P)) (hi : N[i]? = some x := by rfl) (hx : Loc sc x := by first | exact Or.inl rfl | exact Or.inr rfl)
    (hs : swapsWith e (some (.Name x pos')) pos.line X.env = pure false := by rfl) : PSs X (.Assign [.Name x pos'] e pos :: rest) (sD F δ P) :=
  wkSs (pss_cons (ps_set (cx.nd') (cx.at_ hi) (cx.loc hx) h hs (.inl (cx.fn x))) g) fun D σ H h' => by
    obtain ⟨O, τ, s0, tm, w⟩ := h'
    refine ⟨O, s0, fun q xs H' e' t' n' g' a' => ?_⟩
    obtain ⟨s1, t1⟩ := own_out s0 tm i e' t' n' g' a'
    exact ⟨Shut O q, τ, s1, t1, w⟩
theorem s_ret (h : PE X e (tD F δ d)) (g : P.rt d) : PSs X (.Return (some e) pos :: rest) (sD F δ P) :=
  wkSs (pss_cons (ps_ret h) (pss_never (sts := rest))) fun D σ H h' => by
    obtain ⟨O, τ, s0, tm, w⟩ := h'
    exact ⟨O, s0, fun v H' e' t' g' => w.rt d v H' g (s0.ext.trans e') t' (g'.open_ s0.o0)⟩
theorem s_freeze (i : Nat) (hi : δ[i]? = some (.own ds)) (g : PSs X rest (sD F (δ.set i (.dat (.list ds))) P)) : PSs X rest (sD F δ P) := wkSs g fun D σ H h' => by
  obtain ⟨O, τ, s0, tm, w⟩ := h'
  obtain ⟨O', s1, t1⟩ := own_freeze s0 tm hi
  exact ⟨O', τ, s1, t1, w⟩
theorem s_if {k : Bool} (h : PT X c (cD F δ k)) (g1 : k = true → PSs X (body) (sD F δ { P with nx := fun δ' => PSs X rest (sD F δ' P) })) (g2 : k = false → PSs X els (sD F δ { P with nx := fun δ' => PSs X rest (sD F δ' P) })) : PSs X (.If c body els pos :: rest) (sD F δ P) :=
  s_seq (M := fun δ' => PSs X rest (sD F δ' P)) (wkS (ps_if h (ifSs g1) (ifSs g2)) fun D σ H h' => by
    obtain ⟨O, τ, s0, tm, w⟩ := h'
    refine ⟨O, s0, fun H' e' t' => ?_⟩
    cases k with
    | true => exact iteT ⟨rfl, O, τ, s0.grow e' t', tm.grow e', w⟩
    | false => exact iteF ⟨rfl, O, τ, s0.grow e' t', tm.grow e', w⟩) fun δ' h => h
/-- an if whose body leaves (returns, raises ..) -/
theorem s_when {k : Bool} (h : PT X c (cD F δ k)) (g1 : k = true → PSs X body (sD F δ { P with nx := fun δ' => PSs X rest (sD F δ' P) })) (g2 : k = false → PSs X rest (sD F δ P)) : PSs X (.If c body [] pos :: rest) (sD F δ P) :=
  s_if h g1 fun q => s_nil (g2 q)
theorem s_expr (h : PE X e (tD F δ d)) (g : PSs X rest (sD F δ P)) (hs : swapsWith e none pos.line X.env = pure false := by rfl) : PSs X (.Expr e pos :: rest) (sD F δ P) :=
  wkSs (pss_cons (ps_expr h hs) g) fun D σ H h' => by
    obtain ⟨O, τ, s0, tm, w⟩ := h'
    exact ⟨O, s0, fun v H' e' t' g' => ⟨O, τ, s0.grow e' t', tm.grow e', w⟩⟩
/-- what is told, and how all stands then -/
theorem s_retS (h : PE X e (tD F δ d)) (g : P.rts δ d) : PSs X (.Return (some e) pos :: rest) (sD F δ P) :=
  wkSs (pss_cons (ps_ret h) (pss_never (sts := rest))) fun D σ H h' => by
    obtain ⟨O, τ, s0, tm, w⟩ := h'
    exact ⟨O, s0, fun v H' e' t' g' => w.rts δ d v O σ H' g (s0.grow e' t') g'⟩
theorem s_raise {C : Addr} {m : Str} {j : Nat} {p2 : Pos} (cx : CtD X N sc F.E) (q : PySem.W.excIn X.K C [.type "ValueError", .type "Exception", .type "BaseException", .type "object"] "ValueError.__new__" = true) (gC : X.mg x = some (.ref C)) (kC : PySem.W.keepIn X.K (.ref C) = true) (r : Raises X (.ref C)) (g : P.ex C) (hg : sc.names.lookup x = some .globalImplicit := by rfl)
    (hdb : (x == ("__debug__" : Str)) = false := by decide) : PSs X (.Raise (some (.Call (.Name x p) [.Constant (.str m) j p2] [] pos')) none pos :: rest) (sD F δ P) :=
  wkSs (pss_cons (L2N.ps_raise cx.calm cx.tk (L2N.pmk_own PySem.F.excBase_ValueError q gC kC r (cx.gl hg) hdb)) (pss_never (sts := rest))) fun D σ H h' => by
    obtain ⟨O, τ, s0, tm, w⟩ := h'
    exact w.ex C H g s0.ext s0.tabs
theorem s_app (i : Nat) (cx : Ctx X N sc) (hi : δ[i]? = some (.own ds)) (h : PE X e (tD F δ d)) (hz : ds.length < 100000) (g : PSs X rest (sD F (δ.set i (.own (ds ++ [d]))) P)) (hN : N[i]? = some x := by rfl) (hv : Vis sc x := by first | exact Or.inl rfl | exact Or.inr (Or.inl rfl) | exact Or.inr (Or.inr rfl))
    (hd : (x == ("__debug__" : Str)) = false := by decide) (hcd : (x == ("__classdict__" : Str)) = false := by decide) {px pa pc : Pos} (q : PE X (.Call (.Attribute (.Name x px) "append" pa) [e] [] pc) (tBM X.K "list" rAppend (tVar i) (tCons (tD F δ d) tNil)) := by exact pe_bm PySem.F.plainAttrs_list PySem.F.slot_list_append PySem.F.type_list_append mt_append (pe_var (by first | assumption | rfl) (by first | assumption | rfl)) (pa_cons (by assumption) pa_nil)) (hs : swapsWith (.Call (.Attribute (.Name x px) "append" pa) [e] [] pc) none pos.line X.env = pure false := by rfl) :
    PSs X (.Expr (.Call (.Attribute (.Name x px) "append" pa) [e] [] pc) pos :: rest) (sD F δ P) :=
  wkSs (pss_cons (ps_expr q hs) g) fun D σ H h' => by
    obtain ⟨O, τ, s0, tm, w⟩ := h'
    obtain ⟨q, xs, e1, o1, nl, gq, r⟩ := s0.slot i _ hi
    have hv := get_some e1
    refine ⟨.ref q, hv, .inl ⟨rfl, _, SqL.of gq⟩, O, s0, fun v H1 e' t' g' => ?_⟩
    have gq1 := e' _ _ gq (fun _ z => by cases z)
    refine ⟨q, xs, v, rfl, rfl, gq1, by rw [r.len]; exact Nat.lt_of_lt_of_le hz (by decide), ?_⟩
    obtain ⟨s1, t1⟩ := own_turn (s0.grow e' t') (tm.grow e') hi hv gq1 ((r.grow e').app (.one g'))
    exact ⟨O, τ, s1, t1, w⟩
end
end Lf
set_option Elab.async false
set_option linter.all false
set_option maxRecDepth 100000
set_option maxHeartbeats 4000000
namespace Lf
open PySem PySem.Spec PyProof.Rows L2 LamX
def iD {Kf : PySem.W.Frag} {Tf : List (Addr × Str)} (F : Fx Kf Tf) (δ : List Slot) (ds : List PyData) : TI := fun σ H R => ∃ O, StAt F O H σ δ ∧ ∀ (J : It) (ss : List (PyData × V)) (H' : Hp), ExtN H H' → Tabs F.T H' → Tm O H' ss →
  (∀ (O1 : Addr → Prop) (H1 : Hp) (i : Nat) (d : PyData), Tm O1 H1 ss → (∀ a, O1 a → Lives H1 a) → Tabs F.T H1 → ds[i]? = some d → J.go i H1 ∧ ∀ x H2, J.yld i H1 x H2 → ExtN H1 H2 ∧ Tabs F.T H2 ∧ Dt O1 H2 d x) →
  (∀ (O1 : Addr → Prop) (H1 : Hp), Tm O1 H1 ss → J.stop ds.length H1) → R J H'
/-- one thing is walked -/
theorem iD_one {Kf : PySem.W.Frag} {Tf : List (Addr × Str)} {F : Fx Kf Tf} {ds : List PyData} {O : Addr → Prop} {H : Hp} {R : It → Hp → Prop}
    (k : ∀ (J : It) (ss : List (PyData × V)) (H' : Hp), ExtN H H' → Tabs F.T H' → Tm O H' ss →
  (∀ (O1 : Addr → Prop) (H1 : Hp) (i : Nat) (d : PyData), Tm O1 H1 ss → (∀ a, O1 a → Lives H1 a) → Tabs F.T H1 → ds[i]? = some d → J.go i H1 ∧ ∀ x H2, J.yld i H1 x H2 → ExtN H1 H2 ∧ Tabs F.T H2 ∧ Dt O1 H2 d x) →
  (∀ (O1 : Addr → Prop) (H1 : Hp), Tm O1 H1 ss → J.stop ds.length H1) → R J H') :
    ∀ (J : It) (src : PyData) (v : V) (H' : Hp), ExtN H H' → Tabs F.T H' → Dt O H' src v →
  (∀ (O1 : Addr → Prop) (H1 : Hp) (i : Nat) (d : PyData), Dt O1 H1 src v → (∀ a, O1 a → Lives H1 a) → Tabs F.T H1 → ds[i]? = some d → J.go i H1 ∧ ∀ x H2, J.yld i H1 x H2 → ExtN H1 H2 ∧ Tabs F.T H2 ∧ Dt O1 H2 d x) →
  (∀ (O1 : Addr → Prop) (H1 : Hp), Dt O1 H1 src v → J.stop ds.length H1) → R J H' :=
  fun J src v H' e t g a b => k J [(src, v)] H' e t (fun w hw => by rw [List.mem_singleton.mp hw]; exact g) (fun O1 H1 i d tm => a O1 H1 i d (tm (src, v) (List.mem_singleton.mpr rfl))) (fun O1 H1 tm => b O1 H1 (tm (src, v) (List.mem_singleton.mpr rfl)))
/-- a target takes d -/
def Tgt {Kf : PySem.W.Frag} {Tf : List (Addr × Str)} (F : Fx Kf Tf) (g : TG) (d : PyData) (δ δ' : List Slot) : Prop := ∀ (O : Addr → Prop) (H : Hp) (σ : L2.St) (v : V) (Q : L2.St → Hp → Prop), StAt F O H σ δ → Dt O H d v → (∀ σ', StAt F O H σ' δ' → Q σ' H) → g v σ H Q
def TgtS {Kf : PySem.W.Frag} {Tf : List (Addr × Str)} (F : Fx Kf Tf) (g : TGs) (ds : List PyData) (δ δ' : List Slot) : Prop := ∀ (O : Addr → Prop) (H : Hp) (σ : L2.St) (vs : List V) (Q : L2.St → Hp → Prop), StAt F O H σ δ → DtAll O H ds vs → (∀ σ', StAt F O H σ' δ' → Q σ' H) → g vs σ H Q
section
variable {Kf : PySem.W.Frag} {Tf : List (Addr × Str)} {F : Fx Kf Tf} {δ δ1 δ2 : List Slot} {X : Cx} {N : List Str} {sc : Scope} {pos p pos' : Pos} {a b c e tg : Expr} {es : List Expr} {d z : PyData} {ds : List PyData} {x : Str} {st : Stmt} {rest body els : List Stmt} {P : Post}
theorem wkI {iter : Expr} {t t' : TI} (h : PI X tg iter t) (k : ∀ σ H R, t' σ H R → t σ H R) : PI X tg iter t' := ⟨fun pins s σ H R I q => h.run pins s σ H R I (k σ H R q)⟩
theorem tg_name {i : Nat} : Tgt F (gName i) d δ (δ.set i (.dat d)) := fun O H σ v Q st h k => k _ (st.setD i h)
theorem tg_tup {K : PySem.W.Frag} {n : Nat} {t : TGs} (hn : ds.length = n) (h : TgtS F t ds δ δ1) : Tgt F (gTup K n t) (.tuple ds) δ δ1 := fun O H σ v Q st hd k => by
  obtain ⟨a, xs, e, _, g, r⟩ := hd
  exact ⟨a, xs, e, SqT.of g, by rw [r.len, hn], h O H σ xs Q st r k⟩
theorem tg_nil : TgtS F gNil [] δ δ := fun O H σ vs Q st h k => ⟨h, k σ st⟩
theorem tg_cons {g : TG} {t : TGs} (h : Tgt F g d δ δ1) (q : TgtS F t ds δ1 δ2) : TgtS F (gCons g t) (d :: ds) δ δ2 := fun O H σ vs Q st hd k => by
  obtain ⟨v, r, e, h1, h2⟩ := hd
  exact ⟨v, r, e, h O H σ v _ st h1 fun σ' s' => q O H σ' r Q s' h2 k⟩
theorem g_name (i : Nat) (cx : CtD X N sc F.E) (hi : N[i]? = some x := by rfl) (hx : Loc sc x := by first | exact Or.inl rfl | exact Or.inr rfl) : PG X (.Name x pos) (gName i) := pg_name cx.nd' (cx.at_ hi) (cx.loc hx) (.inl (cx.fn x))
theorem i_list {l : Expr} (h : PE X l (tD F δ (.list ds))) : PI X tg l (iD F δ ds) := wkI (pi_list h) fun σ H R q => by
  obtain ⟨O, st, k⟩ := q
  replace k := iD_one k
  refine ⟨O, st, fun v H1 e1 t1 g1 => ?_⟩
  obtain ⟨a, xs, ev, na, ga, ra⟩ := id g1
  refine ⟨a, ev, ⟨xs, SqL.of ga⟩, k (Itl X.K a) (.list ds) v H1 e1 t1 g1 (fun O1 H2 i d g2 dom t2 hd => ?_) fun O1 H2 g2 => ?_⟩
  · obtain ⟨b, ys, eb, nb, gb, rb⟩ := g2
    rw [ev] at eb
    cases eb
    obtain ⟨y, hy, dy⟩ := rb.get hd
    refine ⟨⟨ys, y, SqL.of gb, hy⟩, fun x H3 hyld => ?_⟩
    obtain ⟨rfl, hx⟩ := hyld
    have := hx ys (SqL.of gb)
    rw [hy] at this
    cases this
    exact ⟨ExtN.refl _, t2, dy⟩
  · obtain ⟨b, ys, eb, nb, gb, rb⟩ := g2
    rw [ev] at eb
    cases eb
    exact ⟨ys, SqL.of gb, by rw [rb.len]; exact Nat.le_refl _⟩
theorem i_tup {l : Expr} (h : PE X l (tD F δ (.tuple ds))) : PI X tg l (iD F δ ds) := wkI (pi_tup h) fun σ H R q => by
  obtain ⟨O, st, k⟩ := q
  replace k := iD_one k
  refine ⟨O, st, fun v H1 e1 t1 g1 => ?_⟩
  obtain ⟨a, xs, ev, na, ga, ra⟩ := id g1
  refine ⟨a, ev, ⟨xs, SqT.of ga⟩, k (Itt X.K a) (.tuple ds) v H1 e1 t1 g1 (fun O1 H2 i d g2 dom t2 hd => ?_) fun O1 H2 g2 => ?_⟩
  · obtain ⟨b, ys, eb, nb, gb, rb⟩ := g2
    rw [ev] at eb
    cases eb
    obtain ⟨y, hy, dy⟩ := rb.get hd
    refine ⟨⟨ys, y, SqT.of gb, hy⟩, fun x H3 hyld => ?_⟩
    obtain ⟨rfl, hx⟩ := hyld
    have := hx ys (SqT.of gb)
    rw [hy] at this
    cases this
    exact ⟨ExtN.refl _, t2, dy⟩
  · obtain ⟨b, ys, eb, nb, gb, rb⟩ := g2
    rw [ev] at eb
    cases eb
    exact ⟨ys, SqT.of gb, by rw [rb.len]; exact Nat.le_refl _⟩
/-- 0, 1, .. -/
def upTo (n : Nat) : List PyData := (List.range n).map fun (i : Nat) => PyData.int (i : Int)
def between (lo : Int) (n : Nat) : List PyData := (List.range n).map fun (i : Nat) => PyData.int (lo + (i : Int))
theorem i_range1 {n : Int} (cx : Ctx X N sc) (hm : X.mg "range" = none) (h : PA X [a] (aD F δ [.int n])) (h1 : -(2 ^ 62) ≤ n) (h2 : n < 2 ^ 62) (hg : sc.names.lookup ("range" : Str) = some .globalImplicit := by rfl) (hs : starEach [a] X.env = [(false, eval a X.env)] := by rfl) :
    PI X tg (.Call (.Name "range" p) [a] [] pos) (iD F δ (upTo n.toNat)) := wkI (pi_range1 (cx.gl hg) hm h hs) fun σ H R q => by
  obtain ⟨O, st, k⟩ := q
  replace k := iD_one k
  refine ⟨O, st, fun vs H1 e1 t1 g1 => ?_⟩
  obtain ⟨v, r, rfl, ev, rfl⟩ := g1
  rw [show v = V.int n from ev]
  refine ⟨n, rfl, h1, h2, k (Itr 0 n.toNat) .none .non H1 e1 t1 rfl (fun O1 H2 i d g2 dom t2 hd => ?_) fun O1 H2 g2 => ?_⟩
  · have hi : i < n.toNat := by
      have := (List.getElem?_eq_some_iff.mp hd).1
      simpa [upTo] using this
    refine ⟨hi, fun x H3 hy => ?_⟩
    obtain ⟨rfl, rfl⟩ := hy
    refine ⟨ExtN.refl _, t2, ?_⟩
    have : d = .int (i : Int) := by
      unfold upTo at hd
      rw [List.getElem?_map, List.getElem?_range hi] at hd
      exact (Option.some.inj hd).symm
    rw [this]
    show V.int (0 + (i : Int)) = V.int (i : Int)
    rw [Int.zero_add]
  · show n.toNat ≤ (upTo n.toNat).length
    simp [upTo]
theorem i_range2 {lo n : Int} (cx : Ctx X N sc) (hm : X.mg "range" = none) (h : PA X [a, b] (aD F δ [.int lo, .int n])) (h0 : -(2 ^ 62) ≤ lo ∧ lo < 2 ^ 62) (h1 : -(2 ^ 62) ≤ n) (h2 : n < 2 ^ 62) (hg : sc.names.lookup ("range" : Str) = some .globalImplicit := by rfl)
    (hs : starEach [a, b] X.env = [(false, eval a X.env), (false, eval b X.env)] := by rfl) (hs2 : starEach [b] X.env = [(false, eval b X.env)] := by rfl) :
    PI X tg (.Call (.Name "range" p) [a, b] [] pos) (iD F δ (between lo (n - lo).toNat)) := wkI (pi_range2 (cx.gl hg) hm h hs hs2) fun σ H R q => by
  obtain ⟨O, st, k⟩ := q
  replace k := iD_one k
  refine ⟨O, st, fun vs H1 e1 t1 g1 => ?_⟩
  obtain ⟨v, r, rfl, ev, u, r', rfl, eu, rfl⟩ := g1
  rw [show v = V.int lo from ev, show u = V.int n from eu]
  refine ⟨lo, n, rfl, ⟨h0.1, h0.2, h1, h2⟩, k (Itr lo (n - lo).toNat) .none .non H1 e1 t1 rfl (fun O1 H2 i d g2 dom t2 hd => ?_) fun O1 H2 g2 => ?_⟩
  · have hi : i < (n - lo).toNat := by
      have := (List.getElem?_eq_some_iff.mp hd).1
      simpa [between] using this
    refine ⟨hi, fun x H3 hy => ?_⟩
    obtain ⟨rfl, rfl⟩ := hy
    refine ⟨ExtN.refl _, t2, ?_⟩
    have : d = .int (lo + (i : Int)) := by
      unfold between at hd
      rw [List.getElem?_map, List.getElem?_range hi] at hd
      exact (Option.some.inj hd).symm
    rw [this]
    rfl
  · show (n - lo).toNat ≤ (between lo (n - lo).toNat).length
    simp [between]
theorem i_str {l : List Nat} (h : PE X e (tD F δ (tx l))) : PI X tg e (iD F δ (l.map fun c => tx [c])) := wkI (pi_str h) fun σ H R q => by
  obtain ⟨O, st, k⟩ := q
  replace k := iD_one k
  refine ⟨O, st, fun v H1 e1 t1 g1 => ⟨⟨l.toArray⟩, g1, k (Its ⟨l.toArray⟩) .none .non H1 e1 t1 rfl (fun O1 H2 i d g2 dom t2 hd => ?_) fun O1 H2 g2 => ?_⟩⟩
  · rw [List.getElem?_map] at hd
    cases q : l[i]? with
    | none => rw [q] at hd; cases hd
    | some c =>
      rw [q] at hd
      cases hd
      have hi := (List.getElem?_eq_some_iff.mp q).1
      refine ⟨by show i < (⟨l.toArray⟩ : Str).cps.size; simpa using hi, fun x H3 hy => ?_⟩
      obtain ⟨rfl, c', hc, rfl⟩ := hy
      have : l[i]? = some c' := by simpa using hc
      rw [q] at this
      cases this
      exact ⟨ExtN.refl _, t2, rfl⟩
  · show (⟨l.toArray⟩ : Str).cps.size ≤ (l.map fun c => tx [c]).length
    simp
end
end Lf
set_option Elab.async false
set_option linter.all false
set_option maxRecDepth 100000
set_option maxHeartbeats 4000000
namespace Lf
open PySem PySem.Spec PyProof.Rows L2 LamX
section
variable {Kf : PySem.W.Frag} {Tf : List (Addr × Str)} {F : Fx Kf Tf} {δ δ1 δ2 : List Slot} {X : Cx} {N : List Str} {sc : Scope} {pos p pos' : Pos} {a b c e tg iter elt : Expr} {es ifs : List Expr} {d z : PyData} {ds : List PyData} {x : Str} {st : Stmt} {rest body els : List Stmt} {P : Post} {α : Type}
/-- whatever is known of the block -/
theorem anyS : PSs X body (fun D σ H => ∃ δ P, PSs X body (sD F δ P) ∧ sD F δ P D σ H) := ⟨fun pins s σ H D I q => let ⟨_, _, h, g⟩ := q; h.run pins s σ H D I g⟩
/-- for: I tells of the items taken -/
theorem s_for {g : TG} (xs : List α) (enc : α → PyData) (I : List α → List Slot → Prop) (cx : CtD X N sc F.E) (hi : PI X tg iter (iD F δ (xs.map enc))) (hg : PG X tg g) (h0 : I [] δ)
    (hs : ∀ pre x post δ', xs = pre ++ x :: post → I pre δ' → ∃ δ'', Tgt F g (enc x) δ' δ'' ∧ PSs X body (sD F δ'' { nx := I (pre ++ [x]), ct := I (pre ++ [x]), bk := fun δ => PSs X rest (sD F δ P), rt := P.rt, ex := P.ex, rts := P.rts, exs := P.exs }))
    (hd : ∀ δ', I xs δ' → PSs X rest (sD F δ' P)) (hf : ∀ x, foldedSetIterable iter X.env x = pure x := by intro _; rfl) : PSs X (.For tg iter body [] pos :: rest) (sD F δ P) :=
  s_seq (M := fun δ' => PSs X rest (sD F δ' P)) (wkS (ps_for cx.po cx.calm hi hg (anyS (F := F)) hf) fun D σ H h' => by
    obtain ⟨O, τ, s0, tm, w⟩ := h'
    refine ⟨O, s0, fun J ss H1 e1 t1 g1 item done => ?_⟩
    refine ⟨fun i m σ' H' => m = xs.length - i ∧ i ≤ xs.length ∧ ∃ δ' O', I (xs.take i) δ' ∧ StAt F O' H' σ' δ' ∧ Tm O' H' (ss ++ τ), ⟨xs.length, by omega, Nat.zero_le _, δ, O, h0, s0.grow e1 t1, fun q hq => ?_⟩, fun i m σ' H' hW => ?_⟩
    · rcases List.mem_append.mp hq with hq | hq
      · exact g1 q hq
      · exact (tm.grow e1) q hq
    · obtain ⟨rfl, hle, δ', O', hI, s1, tm1⟩ := hW
      have gs : Tm O' H' ss := fun q hq => tm1 q (List.mem_append_left _ hq)
      have tmr : Tm O' H' τ := fun q hq => tm1 q (List.mem_append_right _ hq)
      by_cases hlt : i < xs.length
      · have hx : xs[i]? = some xs[i] := List.getElem?_eq_getElem hlt
        have hdd : (xs.map enc)[i]? = some (enc xs[i]) := by rw [List.getElem?_map, hx]; rfl
        obtain ⟨go, yl⟩ := item O' H' i (enc xs[i]) gs s1.dom s1.tabs hdd
        have sp : xs = xs.take i ++ xs[i] :: xs.drop (i + 1) := by
          rw [List.getElem_cons_drop]
          exact (List.take_append_drop i xs).symm
        have tk1 : xs.take i ++ [xs[i]] = xs.take (i + 1) := (List.take_succ_eq_append_getElem hlt).symm
        obtain ⟨δ'', ht, hb⟩ := hs _ _ _ δ' sp hI
        refine .inr ⟨go, fun σ2 H2 => ∃ δ' O', I (xs.take (i + 1)) δ' ∧ StAt F O' H2 σ2 δ' ∧ Tm O' H2 (ss ++ τ), fun σ2 H2 hN => ⟨xs.length - (i + 1), by omega, rfl, hlt, hN⟩, fun y H2 hy => ?_⟩
        obtain ⟨e2, t2, gy⟩ := yl y H2 hy
        refine ht O' H2 σ' y _ (s1.grow e2 t2) gy fun σ3 s3 => ⟨δ'', _, hb, O', ss ++ τ, s3, tm1.grow e2, ⟨fun δ3 O3 σ4 H4 m s4 t4 => ⟨δ3, O3, by rw [← tk1]; exact m, s4, t4⟩, w.rt, fun δ3 O3 σ4 H4 m s4 t4 => w.nx δ3 O3 σ4 H4 m s4 fun q hq => t4 q (List.mem_append_right _ hq), fun δ3 O3 σ4 H4 m s4 t4 => ⟨δ3, O3, by rw [← tk1]; exact m, s4, t4⟩, w.ex, w.rts, w.exs⟩⟩
      · have e : i = xs.length := by omega
        subst e
        rw [List.take_length] at hI
        have dn := done O' H' gs
        rw [List.length_map] at dn
        exact .inl ⟨dn, w.nx δ' O' σ' H' (hd δ' hI) s1 tmr⟩) fun δ' h => h
/-- while, by a number that falls -/
theorem s_while {t : Expr} (I : Nat → List Slot → Prop) (m0 : Nat) (cx : CtD X N sc F.E) (h0 : I m0 δ)
    (hs : ∀ m δ', I m δ' → ∃ k, PT X t (cD F δ' k) ∧ (k = true → PSs X body (sD F δ' { nx := fun δ2 => ∃ m', m' < m ∧ I m' δ2, ct := fun δ2 => ∃ m', m' < m ∧ I m' δ2, bk := fun δ => PSs X rest (sD F δ P), rt := P.rt, ex := P.ex, rts := P.rts, exs := P.exs })) ∧ (k = false → PSs X rest (sD F δ' P))) :
    PSs X (.While t body [] pos :: rest) (sD F δ P) :=
  s_seq (M := fun δ' => PSs X rest (sD F δ' P)) (wkS (ps_while cx.po (tc := fun σ H Q => ∃ δ k, PT X t (cD F δ k) ∧ cD F δ k σ H Q) ⟨fun pins s σ H Q I q => let ⟨_, _, h, g⟩ := q; h.run pins s σ H Q I g⟩ (anyS (F := F))) fun D σ H h' => by
    obtain ⟨O, τ, s0, tm, w⟩ := h'
    refine ⟨fun m σ' H' => ∃ δ' O', I m δ' ∧ StAt F O' H' σ' δ' ∧ Tm O' H' τ, ⟨m0, δ, O, h0, s0, tm⟩, fun m σ' H' hW => ?_⟩
    obtain ⟨δ', O', hI, s1, t1⟩ := hW
    obtain ⟨k, ht, h1, h2⟩ := hs m δ' hI
    refine ⟨δ', k, ht, O', s1, fun H2 e2 tt2 => ?_⟩
    cases k with
    | true =>
      refine iteT ⟨fun σ2 H2 => ∃ m', m' < m ∧ ∃ δ' O', I m' δ' ∧ StAt F O' H2 σ2 δ' ∧ Tm O' H2 τ, fun σ2 H2 hN => hN, δ', _, h1 rfl, O', τ, s1.grow e2 tt2, t1.grow e2, ?_⟩
      exact ⟨fun δ3 O3 σ4 H4 m s4 t4 => let ⟨m', lt, q⟩ := m; ⟨m', lt, δ3, O3, q, s4, t4⟩, w.rt, fun δ3 O3 σ4 H4 m s4 t4 => w.nx δ3 O3 σ4 H4 m s4 t4, fun δ3 O3 σ4 H4 m s4 t4 => let ⟨m', lt, q⟩ := m; ⟨m', lt, δ3, O3, q, s4, t4⟩, w.ex, w.rts, w.exs⟩
    | false => exact iteF (w.nx δ' O' σ' H2 (h2 rfl) (s1.grow e2 tt2) (t1.grow e2))) fun δ' h => h
variable {O : Addr → Prop} {H : Hp} {σ : L2.St}
theorem StAt.unset (st : StAt F O H σ δ) (i : Nat) : StAt F O H (σ.set i none) (δ.set i .non) := by
  refine ⟨by rw [List.length_set, List.length_set, st.len], st.o0, st.dom, st.tabs, st.ext, fun j u q => ?_, fun j l s' u' q' hjl h1 h2 m1 m2 e1 e2 => ?_, ?_⟩
  · by_cases e : i = j
    · subst e
      have hi : i < δ.length := by
        have := (List.getElem?_eq_some_iff.mp q).1
        simpa using this
      rw [List.getElem?_set_self hi] at q
      cases q
      trivial
    · rw [List.getElem?_set_ne e] at q ⊢
      exact st.slot j u q
  · have no : ∀ {j : Nat} {u : Slot}, (δ.set i .non)[j]? = some u → u.mine = true → i ≠ j := fun {j u} q m e => by
      subst e
      have hi : i < δ.length := by
        have := (List.getElem?_eq_some_iff.mp q).1
        simpa using this
      rw [List.getElem?_set_self hi] at q
      cases q
      cases m
    have n1 := no h1 m1
    have n2 := no h2 m2
    rw [List.getElem?_set_ne n1] at h1 e1
    rw [List.getElem?_set_ne n2] at h2 e2
    exact st.apart j l s' u' q' hjl h1 h2 m1 m2 e1 e2
  · exact st.afar.set st.len i _ _ (fun R e => by cases e) fun j R _ _ p _ z => z
def wipeD (δ : List Slot) : List Nat → List Slot
  | [] => δ
  | v :: vs => (wipeD δ vs).set v .non
theorem StAt.wiped (st : StAt F O H σ δ) : ∀ vs : List Nat, StAt F O H (wipe σ vs) (wipeD δ vs)
  | [] => st
  | v :: vs => (StAt.wiped st vs).unset v
theorem StAt.snoc (st : StAt F O H σ δ) : StAt F O H (σ ++ [none]) (δ ++ [.non]) := by
  refine ⟨by rw [List.length_append, List.length_append, st.len]; rfl, st.o0, st.dom, st.tabs, st.ext, fun j u q => ?_, fun j l s' u' q' hjl h1 h2 m1 m2 e1 e2 => ?_, fun i j R u hij h1 h2 p hp => ?_⟩
  rotate_right
  · have no : ∀ {j : Nat} {u : Slot}, (δ ++ [Slot.non])[j]? = some u → u ≠ .non → j < δ.length := fun {j u} q n => by
      by_cases hj : j < δ.length
      · exact hj
      · rw [List.getElem?_append_right (by omega)] at q
        cases hq : j - δ.length with
        | zero => rw [hq] at q; cases q; exact absurd rfl n
        | succ n => rw [hq] at q; simp at q
    have n1 := no h1 (fun z => by cases z)
    rw [List.getElem?_append_left n1] at h1
    intro hu
    have n2 := no h2 (fun z => by rw [z] at hu; exact hu)
    rw [List.getElem?_append_left n2] at h2
    rw [List.getElem?_append_left (by rw [st.len]; exact n2)] at hu
    exact st.afar i j R u hij h1 h2 p hp hu
  · by_cases hj : j < δ.length
    · rw [List.getElem?_append_left hj] at q
      rw [List.getElem?_append_left (by rw [st.len]; exact hj)]
      exact st.slot j u q
    · rw [List.getElem?_append_right (by omega)] at q
      cases hq : j - δ.length with
      | zero => rw [hq] at q; cases q; trivial
      | succ n => rw [hq] at q; simp at q
  · have no : ∀ {j : Nat} {v : V}, (σ ++ [none])[j]? = some (some v) → j < δ.length := fun {j v} q => by
      by_cases hj : j < σ.length
      · rw [← st.len]; exact hj
      · rw [List.getElem?_append_right (by omega)] at q
        cases hq : j - σ.length with
        | zero => rw [hq] at q; cases q
        | succ n => rw [hq] at q; simp at q
    have n1 := no e1
    have n2 := no e2
    rw [List.getElem?_append_left n1] at h1
    rw [List.getElem?_append_left n2] at h2
    rw [List.getElem?_append_left (by rw [st.len]; exact n1)] at e1
    rw [List.getElem?_append_left (by rw [st.len]; exact n2)] at e2
    exact st.apart j l s' u' q' hjl h1 h2 m1 m2 e1 e2
theorem StAt.init {o : Option V} {s : Slot} (st : StAt F O H (σ ++ [o]) (δ ++ [s])) : StAt F O H σ δ := by
  have hl : σ.length = δ.length := by
    have := st.len
    rw [List.length_append, List.length_append] at this
    simpa using this
  refine ⟨hl, st.o0, st.dom, st.tabs, st.ext, fun j u q => ?_, fun j l s' u' q' hjl h1 h2 m1 m2 e1 e2 => ?_, fun i j R u hij h1 h2 p hp hu => ?_⟩
  rotate_right
  · have j1 := (List.getElem?_eq_some_iff.mp h1).1
    have j2 := (List.getElem?_eq_some_iff.mp h2).1
    exact st.afar i j R u hij (by rw [List.getElem?_append_left j1]; exact h1) (by rw [List.getElem?_append_left j2]; exact h2) p hp (by rw [List.getElem?_append_left (by omega)]; exact hu)
  · have hj := (List.getElem?_eq_some_iff.mp q).1
    have := st.slot j u (by rw [List.getElem?_append_left hj]; exact q)
    rw [List.getElem?_append_left (by omega)] at this
    exact this
  · have j1 := (List.getElem?_eq_some_iff.mp h1).1
    have j2 := (List.getElem?_eq_some_iff.mp h2).1
    exact st.apart j l s' u' q' hjl (by rw [List.getElem?_append_left j1]; exact h1) (by rw [List.getElem?_append_left j2]; exact h2) m1 m2 (by rw [List.getElem?_append_left (by omega)]; exact e1) (by rw [List.getElem?_append_left (by omega)]; exact e2)
/-- the tests of a clause -/
theorem ts_nil : PTs X [] (cD F δ true) := ⟨fun pins s σ H Q I q => pts_nil.run pins s σ H Q I (let ⟨O, st, k⟩ := q; k H (ExtN.refl H) st.tabs)⟩
theorem ts_one {k : Bool} (h : PT X c (cD F δ k)) : PTs X [c] (cD F δ k) := pts_one h
theorem wipe_get (σ : L2.St) (i : Nat) : ∀ vs : List Nat, (wipe σ vs)[i]? = if i ∈ vs then σ[i]?.map (fun _ => none) else σ[i]?
  | [] => by simp [wipe]
  | v :: vs => by
    unfold wipe
    by_cases e : v = i
    · subst e
      rw [if_pos List.mem_cons_self]
      by_cases h : v < (wipe σ vs).length
      · rw [List.getElem?_set_self h]
        rw [wipe_length] at h
        rw [List.getElem?_eq_getElem h]
        rfl
      · rw [List.getElem?_eq_none (by rw [List.length_set]; omega)]
        rw [wipe_length] at h
        rw [List.getElem?_eq_none (by omega)]
        rfl
    · rw [List.getElem?_set_ne e, wipe_get σ i vs]
      have : (i ∈ v :: vs) ↔ i ∈ vs := ⟨fun h => (List.mem_cons.mp h).resolve_left fun z => e z.symm, fun h => List.mem_cons_of_mem _ h⟩
      simp [this]
def Wg (g : TG) (vs : List Nat) : Prop := ∀ (σ : L2.St) (v : V) (H : Hp) (Q : L2.St → Hp → Prop), wipe σ vs = σ → g v σ H Q → g v σ H fun σ2 H2 => wipe σ2 vs = σ ∧ Q σ2 H2
def WgS (g : TGs) (vs : List Nat) : Prop := ∀ (σ : L2.St) (ws : List V) (H : Hp) (σ0 : L2.St) (Q : L2.St → Hp → Prop), wipe σ vs = σ0 → g ws σ H Q → g ws σ H fun σ2 H2 => wipe σ2 vs = σ0 ∧ Q σ2 H2
theorem wipe_wipe (vs : List Nat) : wipe (wipe σ vs) vs = wipe σ vs := by
  refine List.ext_getElem? fun i => ?_
  rw [wipe_get, wipe_get]
  by_cases hi : i ∈ vs
  · rw [if_pos hi, if_pos hi]
    cases σ[i]? <;> rfl
  · rw [if_neg hi, if_neg hi]
theorem wipe_set2 {j : Nat} {vs : List Nat} {σ0 : L2.St} (h : j ∈ vs) (o : Option V) (e : wipe σ vs = σ0) : wipe (σ.set j o) vs = σ0 := by
  rw [← e]
  refine List.ext_getElem? fun i => ?_
  rw [wipe_get, wipe_get σ i vs]
  by_cases hi : i ∈ vs
  · rw [if_pos hi, if_pos hi]
    by_cases e : j = i
    · subst e
      by_cases hl : j < σ.length
      · rw [List.getElem?_set_self hl, List.getElem?_eq_getElem hl]
        rfl
      · rw [List.getElem?_eq_none (by rw [List.length_set]; omega), List.getElem?_eq_none (by omega)]
    · rw [List.getElem?_set_ne e]
  · rw [if_neg hi, if_neg hi, List.getElem?_set_ne (fun z => hi (by rw [← z]; exact h))]
theorem wg_name {j : Nat} {vs : List Nat} (h : j ∈ vs) : Wg (gName j) vs := fun σ v H Q e q => ⟨wipe_set2 h _ e, q⟩
theorem wgs_nil {vs : List Nat} : WgS gNil vs := fun σ ws H σ0 Q e q => ⟨q.1, e, q.2⟩
theorem wgs_cons {j : Nat} {t : TGs} {vs : List Nat} (h : j ∈ vs) (g : WgS t vs) : WgS (gCons (gName j) t) vs := fun σ ws H σ0 Q e q => by
  obtain ⟨v, r, e1, q⟩ := q
  exact ⟨v, r, e1, g _ r H σ0 Q (wipe_set2 h _ e) q⟩
theorem wg_tup {K : PySem.W.Frag} {n : Nat} {t : TGs} {vs : List Nat} (h : WgS t vs) : Wg (gTup K n t) vs := fun σ v H Q e q => by
  obtain ⟨a, xs, e1, e2, e3, q⟩ := q
  exact ⟨a, xs, e1, e2, e3, h σ xs H σ Q e q⟩
/-- the new list, its own as yet -/
theorem lc_run {wi : TI} {g : TG} {tt : TT} {te : TE} (xs : List α) (enc f : α → PyData) (q : α → Bool) (vs : List Nat) (tgt : α → List Slot) (hz : xs.length ≤ 100000) (hw : ∀ x ∈ xs, Tgt F g (enc x) (wipeD δ vs) (tgt x)) (hww : Wg g vs)
    (hwi : wi = iD F δ (xs.map enc)) (ht : ∀ x ∈ xs, ∀ σ H Q, cD F (tgt x) (q x) σ H Q → tt σ H Q) (he : ∀ x ∈ xs, q x = true → ∀ σ H Q, tD F (tgt x) (f x) σ H Q → te σ H Q) {Q : VK} (h : tDL F δ ((xs.filter q).map f) σ H Q) : tLc wi g tt te vs σ H Q := by
  subst hwi
  obtain ⟨O, s0, k⟩ := h
  refine ⟨O, s0, fun J ss H1 e1 t1 g1 item done L hL => ?_⟩
  have s1 := s0.grow e1 t1
  have lv : ∀ a, Lives H1 a → a ≠ L := fun a l => l.ne hL
  have tm1 : Tm O H1 ss := g1
  have hend : (δ ++ [Slot.non]).set δ.length (.own []) = δ ++ [.own []] := by simp
  have hend2 : (σ ++ [none]).set δ.length (some (V.ref L)) = σ ++ [some (.ref L)] := by rw [← s0.len]; simp
  obtain ⟨o1, o2⟩ := own_out (ds := []) (xs := []) s1.snoc tm1 δ.length (ext_new (o := .lst []) hL) (tabs_new t1 hL) lv upd_same rfl
  rw [hend, hend2] at o1
  refine ⟨fun i m H' => m = xs.length - i ∧ i ≤ xs.length ∧ ExtN H1 H' ∧ StAt F (Shut O L) H' (σ ++ [some (.ref L)]) (δ ++ [.own (((xs.take i).filter q).map f)]) ∧ Tm (Shut O L) H' ss, ⟨xs.length, by omega, Nat.zero_le _, ext_new hL, o1, o2⟩, fun i m H' hW => ?_⟩
  obtain ⟨rfl, hle, ex, s2, tm2⟩ := hW
  have gs : Tm (Shut O L) H' ss := tm2
  have hlast : (δ ++ [Slot.own (((xs.take i).filter q).map f)])[δ.length]? = some (.own (((xs.take i).filter q).map f)) := by simp
  have hlv : (σ ++ [some (V.ref L)])[δ.length]? = some (some (.ref L)) := by rw [← s0.len]; simp
  by_cases hlt : i < xs.length
  · have hx : xs[i]? = some xs[i] := List.getElem?_eq_getElem hlt
    have hm : xs[i] ∈ xs := List.getElem_mem hlt
    obtain ⟨go, yl⟩ := item (Shut O L) H' i (enc xs[i]) gs s2.dom s2.tabs (by rw [List.getElem?_map, hx]; rfl)
    have tk1 : xs.take (i + 1) = xs.take i ++ [xs[i]] := List.take_succ_eq_append_getElem hlt
    refine .inr ⟨go, fun H2 => ExtN H1 H2 ∧ StAt F (Shut O L) H2 (σ ++ [some (.ref L)]) (δ ++ [.own (((xs.take (i + 1)).filter q).map f)]) ∧ Tm (Shut O L) H2 ss, fun H2 hN => ⟨xs.length - (i + 1), by omega, rfl, hlt, hN⟩, fun y H2 hy => ?_⟩
    obtain ⟨e2, t2, gy⟩ := yl y H2 hy
    have s3 := s2.grow e2 t2
    refine hww _ _ _ _ (wipe_wipe vs) (hw _ hm (Shut O L) H2 (wipe σ vs) y _ (s3.init.wiped vs) gy fun σ3 s4 => ?_)
    refine ht _ hm σ3 H2 _ ⟨Shut O L, s4, fun H3 e3 t3 => ?_⟩
    have s5 := s3.grow e3 t3
    have tm3 := (tm2.grow e2).grow e3
    cases hq : q xs[i] with
    | false =>
      refine iteF ⟨(ex.trans e2).trans e3, ?_, tm3⟩
      rw [tk1, List.filter_append, List.filter_cons, if_neg (by rw [hq]; decide), List.filter_nil, List.append_nil]
      exact s5
    | true =>
      refine iteT (he _ hm hq σ3 H3 _ ⟨Shut O L, s4.grow e3 t3, fun yv H4 e4 t4 g4 => ?_⟩)
      have s6 := s5.grow e4 t4
      obtain ⟨L', acc, eL, oL, nL, gL, rL⟩ := s6.slot δ.length _ hlast
      rw [hlv] at eL
      cases eL
      refine ⟨acc, gL, ?_, fun b o gb tb => ?_, ?_⟩
      · rw [rL.len, List.length_map]
        have h1 := List.length_filter_le q (xs.take i)
        have h2 : (xs.take i).length ≤ xs.length := by rw [List.length_take]; omega
        exact Nat.lt_of_le_of_lt (Nat.le_trans h1 (Nat.le_trans h2 hz)) (by decide)
      · rw [upd_ne (lv b ⟨o, gb, tb⟩)]
        exact ((ex.trans e2).trans (e3.trans e4)) b o gb tb
      · obtain ⟨u1, u2⟩ := own_turn s6 (tm3.grow e4) hlast hlv gL (rL.app (.one g4))
        refine ⟨?_, u2⟩
        rw [tk1, List.filter_append, List.filter_cons, if_pos hq, List.filter_nil, List.map_append]
        have e9 : (δ ++ [Slot.own (((xs.take i).filter q).map f)]).set δ.length (.own (((xs.take i).filter q).map f ++ [f xs[i]])) = δ ++ [.own (((xs.take i).filter q).map f ++ [f xs[i]])] := by simp
        rw [e9] at u1
        exact u1
  · have e : i = xs.length := by omega
    subst e
    have dn := done (Shut O L) H' gs
    rw [List.length_map] at dn
    obtain ⟨L', acc, eL, oL, nL, gL, rL⟩ := s2.slot δ.length _ hlast
    rw [hlv] at eL
    cases eL
    rw [List.take_length] at rL
    exact .inl ⟨dn, k L acc H' (e1.trans ex) s2.tabs (fun a l => lv a (l.grow e1)) gL rL⟩
theorem dl_d (h : tD F δ (.list ds) σ H Q) : tDL F δ ds σ H Q := by
  obtain ⟨O, st, k⟩ := h
  exact ⟨O, st, fun p xs H' e t n g r => k _ H' e t ⟨p, xs, rfl, fun z => n p (st.dom p z) rfl, g, r.open_ fun a z => .inl z⟩⟩
abbrev Blk (X : Cx) (scope : Scope) (φ : Cx → Prop) : Prop := ∀ (s : Shared) (H : Hp) (C : Addr) (cl : List (Str × Addr)) (fp : List Addr), φ (X.blk s H scope (compEnvC scope cl C X.env) fp)
theorem blk_ok {scope : Scope} {own : List (Str × Nat)} (cx : Ctx X N sc) (h : blkC N sc scope own = true) : BlkOk X.N X.env.scope scope own := by
  rw [cx.n, cx.s]
  exact blkOk_by h
/-- [elt for target in iter if ..] -/
theorem x_lc {scope : Scope} {g : TG} (own : List (Str × Nat)) (xs : List α) (enc f : α → PyData) (q : α → Bool) (tgt : α → List Slot) (cx : Ctx X N sc) (hi : PI X tg iter (iD F δ (xs.map enc))) (hz : xs.length ≤ 100000) (hok : blkC N sc scope own = true) (hg : Blk X scope fun Y => PG Y tg g) (hw : ∀ x ∈ xs, Tgt F g (enc x) (wipeD δ (own.map (·.2))) (tgt x)) (hww : Wg g (own.map (·.2)))
    (ht : ∀ x ∈ xs, Blk X scope fun Y => PTs Y ifs (cD F (tgt x) (q x))) (he : ∀ x ∈ xs, q x = true → Blk X scope fun Y => PE Y elt (tD F (tgt x) (f x))) (hs : ∀ x, foldedSetIterable iter X.env x = pure x := by intro _; rfl) :
    PE X (.ListComp elt [⟨tg, iter, ifs, 0⟩] scope pos) (tDL F δ ((xs.filter q).map f)) :=
  wkE (pe_lc (own := own) (tt := fun σ H Q => ∃ x, x ∈ xs ∧ cD F (tgt x) (q x) σ H Q) (te := fun σ H Q => ∃ x, (x ∈ xs ∧ q x = true) ∧ tD F (tgt x) (f x) σ H Q) cx.calm cx.nd' hi (blk_ok cx hok) hg
    (fun s H C cl fp => ⟨fun pins s' σ H Q I q => let ⟨x, hx, g⟩ := q; (ht x hx s _ C cl fp).run pins s' σ H Q I g⟩) (fun s H C cl fp => exE fun x => ifE fun hx => he x hx.1 hx.2 s H C cl fp) hs)
    fun σ H Q h => lc_run xs enc f q _ tgt hz hw hww rfl (fun x hx σ H Q g => ⟨x, hx, g⟩) (fun x hx hq σ H Q g => ⟨x, ⟨hx, hq⟩, g⟩) h
end
end Lf
set_option Elab.async false
set_option linter.all false
set_option maxRecDepth 100000
set_option maxHeartbeats 4000000
namespace Lf
open PySem PySem.Spec PyProof.Rows L2 LamX
section
variable {Kf : PySem.W.Frag} {Tf : List (Addr × Str)} {F : Fx Kf Tf} {δ δ1 δ2 : List Slot} {X : Cx} {N : List Str} {sc : Scope} {pos p pos' py spos : Pos} {a b c e tg iter elt : Expr} {es ifs : List Expr} {d z : PyData} {ds : List PyData} {x y : Str} {st : Stmt} {rest body els : List Stmt} {P : Post} {α : Type}
theorem x_dl (h : PE X e (tDL F δ ds)) : PE X e (tD F δ (.list ds)) := wkE h fun σ H Q q => dl_d q
abbrev envS (sc : Scope) : Env := ⟨sc, 0, 0, [], Str.empty, none, .none, none, 0⟩
theorem sw_eq {ts : List Expr} {v : Expr} (cx : Ctx X N sc) {o : Option (List Str)} (h : swappedStores ts v (envS sc) = pure o) : swappedStores ts v X.env = pure o := by
  rw [← cx.s] at h
  generalize X.env = en at h ⊢
  cases en
  exact h
/-- a, b = x, y -/
theorem s_par {i j : Nat} {d1 d2 : PyData} {px pt pt2 : Pos} {kt k2 : Nat} (cx : CtD X N sc F.E) (ha : PA X [a, b] (aD F δ [d1, d2])) (g : PSs X rest (sD F ((δ.set i (.dat d1)).set j (.dat d2)) P)) (hi : N[i]? = some x := by rfl) (hj : N[j]? = some y := by rfl) (hij : i ≠ j := by decide) (hx : sc.names.lookup x = some .local := by rfl) (hy : sc.names.lookup y = some .local := by rfl)
    (hw : swappedStores [.Tuple [.Name x px, .Name y py] kt pt] (.Tuple [a, b] k2 pt2) (envS sc) = pure (some [x, y]) := by rfl) (hs : swapsWithSole [.Tuple [.Name x px, .Name y py] kt pt] (.Tuple [a, b] k2 pt2) pos.line X.env = pure false := by rfl) :
    PSs X (.Assign [.Tuple [.Name x px, .Name y py] kt pt] (.Tuple [a, b] k2 pt2) pos :: rest) (sD F δ P) :=
  wkSs (pss_cons (ps_par cx.calm cx.nd' (cx.at_ hi) (cx.at_ hj) hij (by rw [cx.s]; exact hx) (by rw [cx.s]; exact hy) ha (sw_eq cx.toCtx hw) hs) g) fun D σ H h' => by
    obtain ⟨O, τ, s0, tm, w⟩ := h'
    refine ⟨O, s0, fun vs H1 e' t' g' => ?_⟩
    obtain ⟨v, r, rfl, h1, u, r', rfl, h2, rfl⟩ := g'
    exact ⟨v, u, rfl, O, τ, ((s0.grow e' t').setD i h1).setD j h2, tm.grow e', w⟩
/-- target = value, the target of any form -/
theorem s_asg {g : TG} (cx : CtD X N sc F.E) (h : PE X e (tD F δ d)) (hg : PG X tg g) (ht : Tgt F g d δ δ1) (hr : PSs X rest (sD F δ1 P)) (hs : swapsWithSole [tg] e pos.line X.env = pure false := by rfl) (hw : swappedStores [tg] e (envS sc) = pure none := by rfl) (h1 : (assignEach [tg] X.env).map (·.2) = [assign tg X.env] := by rfl) :
    PSs X (.Assign [tg] e pos :: rest) (sD F δ P) := wkSs (pss_cons (ps_asg h hg hs (sw_eq cx.toCtx hw) h1) hr) fun D σ H h' => by
  obtain ⟨O, τ, s0, tm, w⟩ := h'
  exact ⟨O, s0, fun v H' e' t' g' => ht O H' σ v _ (s0.grow e' t') g' fun σ' s' => ⟨O, τ, s', tm.grow e', w⟩⟩
end
theorem fn_data {G : Pg} {st : Stmt} {x qual : Str} {f : Addr} {fd : FuncData} {N ps : List Str} {k : Nat} {T : List (Addr × Str)} {R : List PyData → Res → Prop} (Fn : Fun G.K x qual st f fd) (S : FnScope N ps (defScope st)) (len : ∀ ds r, R ds r → ds.length = ps.length)
    (body : ∀ (r : Rest) (F : Fx G.K T) (ds : List PyData) (res : Res), CtD (G.cx N r) N (defScope st) F.E → Room k r.A → R ds res → PSs (G.cx N r) (defBody st) (sD F (start0 N ds) (postOf res))) :
    FnOk G.prog G.w G.K G.mg G.base (L2N.CX G.prog G.w) (k + 1) f fd ps (spD T R) := by
  obtain ⟨oc, od, kV, doc, pm, an, cdv, ct, osl, rfl, lk, hcd⟩ := Fn.ex
  refine fn_of lk hcd S (fun vs H Q E h => ?_) fun A outer s H vs Q E hr h => ?_
  · obtain ⟨O, ds, r, _, _, hd, hR, _⟩ := h
    rw [hd.len]
    exact len ds r hR
  · obtain ⟨O, ds, r, dom, tb, hd, hR, ok, er⟩ := h
    refine ⟨_, body ⟨A.deeper (envOfC qual (defScope st) s.heap.objs.size f cdv), s, H, envOfC qual (defScope st) s.heap.objs.size f cdv, outer, envOfC qual (defScope st) s.heap.objs.size f cdv :: outer, [], fun _ => true, true, [], _⟩ ⟨O, H, E, dom⟩ ds r ⟨⟨rfl, rfl, S.nd, rfl⟩, fun _ => rfl, passes_of rfl, L2N.takes_of rfl rfl rfl rfl, rfl, rfl⟩ hr hR, O, [], ?_, (fun _ z => by cases z), ?_⟩
    · have hl := len ds r hR
      have hp : ps.length ≤ N.length := by
        have := congrArg List.length S.pre
        rw [List.length_take] at this
        omega
      have hv := hd.len
      refine ⟨?_, fun a z => z, dom, tb, ExtN.refl H, fun i u q => ?_, fun i j u w q n h1 h2 m1 m2 => ?_, fun i j R u n h1 h2 p hp => ?_⟩
      rotate_right
      · unfold start0 at h1
        by_cases hi : i < ds.length
        · rw [List.getElem?_append_left (by simpa using hi), List.getElem?_map] at h1
          cases e : ds[i]? with
          | none => rw [e] at h1; cases h1
          | some d => rw [e] at h1; cases h1
        · rw [List.getElem?_append_right (by simpa using hi), List.getElem?_replicate] at h1
          split at h1 <;> cases h1
      · simp [start0, L2.start, hv]
      · unfold start0 at q
        unfold L2.start
        by_cases hi : i < ds.length
        · rw [List.getElem?_append_left (by simpa using hi), List.getElem?_map] at q
          rw [List.getElem?_append_left (by simpa [hv] using hi), List.getElem?_map]
          cases e : ds[i]? with
          | none => rw [e] at q; cases q
          | some d =>
            rw [e] at q
            cases q
            obtain ⟨v, e1, e2⟩ := hd.get e
            rw [e1]
            exact ⟨v, rfl, e2⟩
        · rw [List.getElem?_append_right (by simpa using hi), List.getElem?_replicate] at q
          split at q
          · cases q; trivial
          · cases q
      · have no : ∀ {i : Nat} {u : Slot}, (start0 N ds)[i]? = some u → u.mine = false := fun {i u} q => by
          unfold start0 at q
          by_cases hi : i < ds.length
          · rw [List.getElem?_append_left (by simpa using hi), List.getElem?_map] at q
            cases e : ds[i]? with
            | none => rw [e] at q; cases q
            | some d => rw [e] at q; cases q; rfl
          · rw [List.getElem?_append_right (by simpa using hi), List.getElem?_replicate] at q
            split at q
            · cases q; rfl
            · cases q
        rw [no h1] at m1
        cases m1
    · exact ⟨fun δ O' σ' H' m s1 t1 => ok .none m .non H' s1.ext s1.tabs rfl, fun d v H' m e t g => ok d m v H' e t g, fun δ O' σ' H' m => m.elim, fun δ O' σ' H' m => m.elim, fun c H' m e t => er c m H' e t, fun _ _ _ _ _ _ m => m.elim, fun _ _ _ _ _ m => m.elim⟩
end Lf
set_option Elab.async false
set_option linter.all false
set_option maxRecDepth 100000
set_option maxHeartbeats 4000000
namespace Lf
open PySem PySem.Spec PyProof.Rows L2 LamX
section
variable {Kf : PySem.W.Frag} {Tf : List (Addr × Str)} {F : Fx Kf Tf} {δ δ1 δ2 : List Slot} {X : Cx} {N : List Str} {sc : Scope} {pos apos p pos' py spos : Pos} {a b c e o tg iter elt : Expr} {es ifs : List Expr} {d z : PyData} {ds : List PyData} {x y : Str} {st : Stmt} {rest body els : List Stmt} {P : Post} {α : Type}
theorem x_txt (l : List Nat) {i : Str} {j : Nat} (h : i = ⟨l.toArray⟩ := by rfl) : PE X (.Constant (.str i) j pos) (tD F δ (tx l)) := by
  subst h
  exact x_str
theorem x_kS {l : List Nat} (cx : Ctx X N sc) (hm : ∃ t, X.mg x = some (.str ⟨l.toArray⟩ t)) (hg : sc.names.lookup x = some .globalImplicit := by rfl) (hd : (x == ("__debug__" : Str)) = false := by decide) : PE X (.Name x pos) (tD F δ (tx l)) := by
  obtain ⟨t, hm⟩ := hm
  exact x_k (v := .str ⟨l.toArray⟩) cx hm ⟨t, rfl⟩ (fun _ _ => rfl) hg hd
theorem x_kI {i : Int} (cx : Ctx X N sc) (hm : ∃ t, X.mg x = some (.int i t)) (hg : sc.names.lookup x = some .globalImplicit := by rfl) (hd : (x == ("__debug__" : Str)) = false := by decide) : PE X (.Name x pos) (tD F δ (.int i)) := by
  obtain ⟨t, hm⟩ := hm
  exact x_k (v := .int i) cx hm ⟨t, rfl⟩ (fun _ _ => rfl) hg hd
theorem g_nameB (i : Nat) (cx : Ctx X N sc) (hi : N[i]? = some x := by rfl) (hx : sc.names.lookup x = some .local := by rfl) : PG X (.Name x pos) (gName i) := pg_name cx.nd' (cx.at_ hi) (cx.loc (.inl hx)) (.inr (by rw [cx.s]; exact hx))
/-- methods of texts -/
theorem x_m0 {id : String} {name : Str} {r : V → List V → Hp → VK → Prop} {s : Str} (slot : PySem.Slot "str" name id) (ty : typeOf (.builtin id) = pure (.type "method_descriptor")) (rule : MtR X id r) (q : MtD F r (.str s) [] z) (ho : PE X o (tD F δ (.str s)))
    (hbase : attributeBase o name X.env (eval o X.env) = eval o X.env := by rfl) (hline : (apos.endLine == pos.line) = true := by rfl) : PE X (.Call (.Attribute o name apos) [] [] pos) (tD F δ z) :=
  wkE (pe_m0 slot ty rule ho hbase hline) fun σ H Q h => by
    obtain ⟨O, st, k⟩ := h
    exact ⟨O, st, fun v H1 e1 t1 g1 => ⟨⟨s, g1⟩, q O H1 v [] Q (st.grow e1 t1).dom t1 g1 rfl fun v2 H2 e2 t2 g2 => k v2 H2 (e1.trans e2) t2 g2⟩⟩
theorem x_m1 {id : String} {name : Str} {r : V → List V → Hp → VK → Prop} {s : Str} (slot : PySem.Slot "str" name id) (ty : typeOf (.builtin id) = pure (.type "method_descriptor")) (rule : MtR X id r) (q : MtD F r (.str s) [d] z) (ho : PE X o (tD F δ (.str s))) (he : PE X e (tD F δ d)) (hs : starEach [e] X.env = [(false, eval e X.env)] := by rfl)
    (hbase : attributeBase o name X.env (eval o X.env) = eval o X.env := by rfl) (hline : (apos.endLine == pos.line) = true := by rfl) : PE X (.Call (.Attribute o name apos) [e] [] pos) (tD F δ z) :=
  wkE (pe_m1 slot ty rule ho he hs hbase hline) fun σ H Q h => by
    obtain ⟨O, st, k⟩ := h
    exact ⟨O, st, fun v H1 e1 t1 g1 => ⟨⟨s, g1⟩, O, st.grow e1 t1, fun y H2 e2 t2 g2 => q O H2 v [y] Q ((st.grow e1 t1).grow e2 t2).dom t2 (g1.grow e2) (.one g2) fun v3 H3 e3 t3 g3 => k v3 H3 ((e1.trans e2).trans e3) t3 g3⟩⟩
theorem hu65 {k : Nat} {A : Around} (hr : Room k A) : A.units + 65 < cLine := by
  have := hr.un
  omega
end
section
variable {Kf : PySem.W.Frag} {Tf : List (Addr × Str)} {F : Fx Kf Tf} {K : PySem.W.Frag} {l m : List Nat} {d : PyData}
theorem str_tx (s : Str) : PyData.str s = tx s.cps.toList := by
  unfold tx
  rw [show (⟨s.cps.toList.toArray⟩ : Str) = s from by simp]
theorem ud_neg {i : Int} : UnD F (rU fun i => .int (-i)) (.int i) (.int (-i)) := fun O H x Q _ w hx k => ⟨i, hx, k _ H (ExtN.refl H) w rfl⟩
theorem cd_intB {b : Bool} : ClD F (fun xs H Q => (∃ i, xs = [.int i] ∧ Q (.int i) H) ∨ ∃ k, xs = [.bl k] ∧ Q (.int (if k then 1 else 0)) H) [.bool b] (.int (if b then 1 else 0)) := fun O H xs Q _ w h k => by
  obtain ⟨x, r, rfl, ex, rfl⟩ := h
  exact .inr ⟨b, by rw [show x = V.bl b from ex], k _ H (ExtN.refl H) w rfl⟩
theorem cd_tuple {ds : List PyData} : ClD F (fun xs H Q => ∃ p ys, xs = [.ref p] ∧ ((SqL K H p ys ∧ ∀ l, H l = none → Q (.ref l) (upd H l (.tup ys))) ∨ (SqT K H p ys ∧ Q (.ref p) H))) [.list ds] (.tuple ds) := fun O H xs Q dom w h k => by
  obtain ⟨x, r, rfl, ⟨a, ys, rfl, _, ga, ra⟩, rfl⟩ := h
  exact ⟨a, ys, rfl, .inl ⟨SqL.of ga, fun q hq => k _ _ (ext_new hq) (tabs_new w hq) ⟨q, ys, rfl, fresh_ok dom hq, upd_same, ra.grow (ext_new hq)⟩⟩⟩
/-- small letters of signs below 128 -/
def lowC (c : Nat) : Nat := if 65 ≤ c ∧ c ≤ 90 then c + 32 else c
theorem md_sindex {i : Nat} {rest : List Nat} (h : Builtin.Str.occurrences ⟨l.toArray⟩ ⟨m.toArray⟩ 0 l.length 1 = i :: rest) : MtD F (fun x xs H Q => ∃ a b i rest, x = .str a ∧ xs = [.str b] ∧ Builtin.Str.occurrences a b 0 a.length 1 = i :: rest ∧ Q (.int (i : Nat)) H) (tx l) [tx m] (.int (i : Nat)) := fun O H x xs Q _ w hx h2 k => by
  obtain ⟨y, r, rfl, ey, rfl⟩ := h2
  exact ⟨_, ⟨m.toArray⟩, i, rest, hx, by rw [show y = V.str ⟨m.toArray⟩ from ey], by rw [tx_len]; exact h, k _ H (ExtN.refl H) w rfl⟩
end
structure Df (G : Pg) (x : Str) (st : Stmt) (ps : List Str) : Prop where
  ex : ∃ f fd, Fun G.K x x st f fd ∧ G.mg x = some (.ref f) ∧ Binds G.K fd ps []
theorem fd_data {G : Pg} {st : Stmt} {x : Str} {N ps : List Str} {k : Nat} {T : List (Addr × Str)} {R : List PyData → Res → Prop} (D : Df G x st ps) (S : FnScope N ps (defScope st)) (len : ∀ ds r, R ds r → ds.length = ps.length)
    (body : ∀ (r : Rest) (F : Fx G.K T) (ds : List PyData) (res : Res), CtD (G.cx N r) N (defScope st) F.E → Room k r.A → R ds res → PSs (G.cx N r) (defBody st) (sD F (start0 N ds) (postOf res))) :
    Fd G.prog G.w G.K G.mg G.base x (k + 1) ps (spD T R) := by
  obtain ⟨f, fd, Fn, m, b⟩ := D.ex
  exact ⟨f, fd, fn_data Fn S len body, m, Fn.kp, b⟩
end Lf
set_option Elab.async false
set_option linter.all false
set_option maxRecDepth 100000
set_option maxHeartbeats 4000000
namespace Lf
open PySem PySem.Spec PyProof.Rows L2 L2H HotX LamX
abbrev SpE := (Addr × Obj) → Hp → VK → Prop
structure FnE (P : Program) (w : World) (K : PySem.W.Frag) (mg : Str → Option Value) (base : Heap) (k : Nat) (f : Addr) (fd : FuncData) (x : Str) (sp : SpE) : Prop where
  run : ∀ (A : Around) (outer : List Env) (s : Shared) (H : Hp) (args : Args) (Q : VK) (p : Addr × Obj), RoomH k A → Hot1 A p → PinOk outer H s p → Env0 P w K mg base A outer s H → BindsTo s fd args [(x, .ref p.1)] → sp p H Q →
    codeAny (model P w) A (.call (.ref f) args) (CR L2.CX0 outer P w H s Q L2.E0) s
theorem fe_of {P : Program} {w : World} {K : PySem.W.Frag} {mg : Str → Option Value} {base : Heap} {k : Nat} {f : Addr} {name qual x : Str} {params : Arguments} {body : List Stmt} {scope : Scope} {dV kV doc pm cdv ct oc : Value} {an od : Option Addr} {osl : Array (Option Value)} {N : List Str} {sp : SpE}
    (lk : K.lookup f = some ⟨oc, od, .func (PySem.W.fnOf name qual params body scope dV kV doc pm an cdv ct), osl⟩) (hcd : PySem.W.codeIn K cdv qual = true) (S : FnScope N [x] scope)
    (hb : ∀ (A : Around) (outer : List Env) (s : Shared) (H : Hp) (Q : VK) (p : Addr × Obj), Hot1 A p → RoomH k (A.deeper (envOfC qual scope s.heap.objs.size f cdv)) → sp p H Q →
      ∃ t, PSs (cxH L2.CX0 P w K mg base N qual scope f cdv A outer s H L2.E0 p) body t ∧ t { nx := fun _ H' => Q .non H', rt := Q } (L2.start N [.ref p.1]) H) :
    FnE P w K mg base (k + 1) f (PySem.W.fnOf name qual params body scope dV kV doc pm an cdv ct) x sp := by
  refine ⟨fun A outer s H args Q p hr hot hpin e0 hbd hsp => ?_⟩
  have KX : K.In s.heap := e0.mod.kin.keeps fun b o e => (e0.bs b o e).1
  have lim : s.heap.NoLimit := e0.mod.nolimit.keeps fun b o e => (e0.bs b o e).1
  have hk : ∀ y ∈ ([x].zip [Value.ref p.1]), scope.names.lookup y.1 = some .local ∨ (scope.names.lookup y.1 = some .cell ∧ ((cellsFrom (s.heap.objs.size + 1) scope.names []).lookup y.1).isSome = true) := fun ⟨n, v⟩ hy => by
    rcases S.par n (List.of_mem_zip hy).1 with q | q
    · exact .inl q
    · exact .inr ⟨q, PySem.W.cellsFrom_some _ _ _ (.inl q)⟩
  refine codeAny_call_function hr.depth (KX _ _ lk) rfl S.co S.gen rfl (PySem.W.codeRec_of KX hcd) (hbd _ _ _ _ ?_)
  refine wpAny_newFunctionEnv_cells S.kind hk fun env he s1 z => ?_
  subst he
  refine ⟨lim.keeps z.toInCall.keep, codeAny_func ?_⟩
  obtain ⟨t, ht, hq⟩ := hb A outer s H Q p hot (hr.deeper _) hsp
  have I : Inv (cxH L2.CX0 P w K mg base N qual scope f cdv A outer s H L2.E0 p) [] (L2.start N [.ref p.1]) H s1 := inv_startH (ps := [x]) (us := [.ref p.1]) S hpin e0 rfl (.cons rfl .nil) z
  refine wpAny_mono (ht.run [] s1 _ H _ I hq) (fun fl s' hs => ?_) fun e s' hs => hs
  cases fl with
  | ret u =>
    obtain ⟨v, σ', H', J, rv, q⟩ := hs
    exact ⟨v, H', J.os, J.bare, J.base, J.hok, rv, q⟩
  | next =>
    obtain ⟨σ', H', J, q⟩ := hs
    exact ⟨V.non, H', J.os, J.bare, J.base, J.hok, (rfl : (Value.none) = Value.none), q⟩
  | brk =>
    obtain ⟨_, _, _, q⟩ := hs
    exact False.elim q
  | cont =>
    obtain ⟨_, _, _, q⟩ := hs
    exact False.elim q
/-- f(e), e the exception that the suite holds -/
theorem pe_callE {X : Cx} {k i : Nat} {f a : Addr} {oe : Obj} {fd : FuncData} {x y z : Str} {sp : SpE} {q q2 pos : Pos} (F : FnE X.prog X.w X.K X.mg X.base k f fd z sp) (hr : RoomH k X.A) (hot : Hot1 X.A (a, oe)) (hp : (a, oe) ∈ X.pn) (hg : Gl X x) (hm : X.mg x = some (.ref f)) (hk : PySem.W.keepIn X.K (.ref f) = true) (hb : Binds X.K fd [z] [])
    (hN : X.N[i]? = some y) (hv : Vis X.env.scope y) (hdb : (x == ("__debug__" : Str)) = false := by decide) (hd : (y == ("__debug__" : Str)) = false := by decide) (hcd : (y == ("__classdict__" : Str)) = false := by decide) :
    PE X (.Call (.Name x q) [.Name y q2] [] pos) (fun σ H Q => σ[i]? = some (some (.ref a)) ∧ sp (a, oe) H Q) := by
  refine ⟨fun pins s σ H Q I h => ?_⟩
  obtain ⟨hs, hq⟩ := h
  refine wpAny_Call_Name_kw (ld_glob I hg hm ?_ hdb)
  have ha : PA X [.Name y q2] (tCons (tVar i) tNil) := pa_cons (pe_var hN hv hd hcd) pa_nil
  refine PySem.W.callWith_K (h₀ := X.base) I.ok.mod.kin hk (thn (ha.run pos pins s σ H (fun vs H1 => vs = [V.ref a] ∧ H1 = H) I ⟨_, hs, rfl, rfl⟩) fun us s1 hh => ?_) rfl rfl
  obtain ⟨vs, H1, I1, r, ev, eH⟩ := hh
  subst ev
  subst eH
  refine ⟨I1.kIn, ?_⟩
  obtain rfl := Vals.ref1 r
  have b := hb s1 [.ref a] I1.kIn rfl
  have P1 := I1.pin (a, oe) (List.mem_append_left _ hp)
  have hpin : PinOk X.stack H1 s1 (a, oe) := ⟨P1.1, P1.2.1, fun hm => (List.mem_cons.mp (I1.stkSub a hm)).elim P1.2.2.1 P1.2.2.2.1, P1.2.2.2.2⟩
  refine wpAny_call (codeAny_mono (F.run X.A X.stack s1 H1 ⟨[.ref a], []⟩ Q (a, oe) hr hot hpin I1.env0 (by simpa using b) hq) fun r s' hq => ?_)
  cases r with
  | error e => exact (show False from hq).elim
  | ok fl =>
    cases fl with
    | ret u => exact I1.after hq
    | next => exact False.elim hq
    | brk => exact False.elim hq
    | cont => exact False.elim hq
/-- what is known of the eight classes of errors and of the one at C, the j-th -/
structure Ew (K : PySem.W.Frag) (cs : List Addr) (C : Addr) (j : Nat) : Prop where
  len : cs.length = 8
  at_ : cs[j]? = some C
  exc : ExcC K C
  kit : ∀ (i : Nat) D, cs[i]? = some D → PySem.W.kitOne K (.ref C) (.ref D) = some (decide (i = j))
  kv : PySem.W.kitOne K (.ref C) (.type "ValueError") = some true
/-- the j-th word -/
def ewords : List Str := ["BadName", "BadAsk", "BadMarks", "BadPlaces", "BadNumber", "NoName", "Nothing", "BadText"]
def bits (j : Nat) : List Bool := (List.range 8).map fun i => decide (i = j)
def spWord (K : PySem.W.Frag) (cs : List Addr) : SpE := fun p H Q => ∃ C j w, Zc (.ref C) none p.2 ∧ (∃ vs, p.2.data = .fields vs) ∧ Ew K cs C j ∧ ewords[j]? = some w ∧ ∀ H', (∀ b o, H b = some o → H' b = some o) → Q (.str w) H'
end Lf
set_option Elab.async false
set_option linter.all false
set_option maxRecDepth 100000
set_option maxHeartbeats 4000000
namespace Lf
open PySem PySem.Spec PyProof.Rows L2 L2H HotX LamX
abbrev lamN (X : Cx) (A : Around) (outer : List Env) (s : Shared) (H : Hp) (E : XK) (scope : Scope) (f c' : Addr) : Cx :=
  (lamCx X A outer s H E scope f c').wish fun e s' => wpAny (model X.prog X.w) (A.deeper (lamEnv X scope s.heap.objs.size f c')) (leaving (lamEnv X scope s.heap.objs.size f c') e) (fun _ s'' => L2N.CX X.prog X.w outer H s E e s'') (fun e' s'' => L2N.CX X.prog X.w outer H s E e' s'') s'
section
variable {X : Cx} {pins : List (Addr × Obj)} {σ : L2.St} {H HZ : Hp} {s s1 : Shared}
theorem act_n {CXg : CXT} {Eg : XK} {Ng : List Str} {qg : Str} {sg : Scope} {g f c' : Addr} {cdg pm ctv : Value} {params : Arguments} {body : Expr} {scope : Scope} {k i : Nat} {a : Str} {pn : List (Addr × Obj)} {xe : Value → Shared → Prop} {W : WX} {E : XK} {tb : TE} {p1 p2 : Pos}
    (I : Inv X pins σ H s) (L : LamS X.env.scope scope) (hf : s.heap.get? f = some (PySem.W.kla_obj "<lambda>" (X.env.qual ++ "<lambda>") params body scope (cloFrom X.env.cells scope.names []) pm c' ctv)) (hfn : H f = none) (hfr : f ∉ frs X.stack)
    (hbind : bindArgs (PySem.W.kla_fn "<lambda>" (X.env.qual ++ "<lambda>") params body scope (cloFrom X.env.cells scope.names []) pm (.ref c') ctv) ⟨[], []⟩ = pure [])
    (tk : L2N.Takes ((cxOf CXg X.prog X.w X.K X.mg X.base Ng qg sg g cdg X.A X.stack s H Eg).tr pn xe) W) (hW : ∀ cls d (σ' : L2.St) H', σ'.length = Ng.length → E cls d H' → W cls d σ' H') (hr : Room (k + 1) (X.A.deeper (envOfC qg sg s.heap.objs.size g cdg)))
    (hbody : ∀ (A : Around) (outer : List Env) (s : Shared) (H : Hp), Room k (A.deeper (lamEnv X scope s.heap.objs.size f c')) → PE (lamN X A outer s H E scope f c') body tb)
    (hN : Ng[i]? = some a) (hv : Vis sg a) (hd : (a == ("__debug__" : Str)) = false) (hcd : (a == ("__classdict__" : Str)) = false) :
    PE ((cxOf CXg X.prog X.w X.K X.mg X.base Ng qg sg g cdg X.A X.stack s H Eg).tr pn xe) (.Call (.Name a p1) [] [] p2)
      (fun σZ HZ Q => σZ[i]? = some (some (.ref f)) ∧ HZ c' = some (CodeO c' (X.env.qual ++ "<lambda>")) ∧ tb σ HZ Q) := by
  refine ⟨fun pinsZ sZ σZ HZ Q IZ h => ?_⟩
  obtain ⟨hs, hc, ht⟩ := h
  refine wpAny_Call_Name_kw (thn ((pe_var (pos := p1) (i := i) hN hv hd hcd).run pinsZ sZ σZ HZ (fun v H1 => v = .ref f ∧ H1 = HZ) IZ ⟨.ref f, hs, rfl, rfl⟩) fun u s1 hu => ?_)
  obtain ⟨v, H1, I1, r1, rfl, rfl⟩ := hu
  obtain rfl : u = Value.ref f := r1
  have of1 := I1.base.keep f _ hf hfn hfr (fun z => nomatch (show f ∈ ([] : List Addr) from z))
  refine PySem.W.callWith_F0 ⟨_, _, _, _, of1⟩ ?_
  have un : Un (frs X.stack) [] H H1 s.heap s1.heap := I1.base
  obtain ⟨⟨oc, vs, t, hoc, hdc, hvc⟩, _, _⟩ := I1.hok c' _ hc
  have rc : codeAny (model X.prog X.w) (X.A.deeper (envOfC qg sg s.heap.objs.size g cdg)) (.call (.ref f) ⟨[], []⟩) (CR (L2N.CX X.prog X.w) (envOfC qg sg s.heap.objs.size g cdg :: X.stack) X.prog X.w H1 s1 Q E) s1 := by
    refine PySem.W.kla_callFunE hr.depth of1 rfl L.co L.gen rfl ⟨c', oc, vs, t, rfl, hoc, hdc, hvc⟩ ?_
    rw [hbind]
    refine wpAny_pure (wpAny_newFunctionEnv (fun y hy => (L.own y hy).2) (fun y hy => absurd hy (by simp)) (fun h1 hns hsb => ⟨I1.nolimit.fresh _ hsb, ?_⟩) L.kind)
    show codeAny _ _ (.expr body (lamEnv X scope s1.heap.objs.size f c')) _ _
    have kp : ∀ b o, s1.heap.get? b = some o → h1.get? b = some o := fun b o e => hsb.extBut b o (Nat.ne_of_lt (Heap.lt_size e)) (Heap.get?_push_of_some _ e)
    have J0 : Inv (lamCx X (X.A.deeper (envOfC qg sg s.heap.objs.size g cdg)) (envOfC qg sg s.heap.objs.size g cdg :: X.stack) s1 H1 E scope f c') [] σ H1 { s1 with heap := h1, toks := s1.toks + ([] : List (Str × Value)).length } :=
      lam_start2 I L I1.env0 hr.hd un hns kp
    have J : Inv (lamN X (X.A.deeper (envOfC qg sg s.heap.objs.size g cdg)) (envOfC qg sg s.heap.objs.size g cdg :: X.stack) s1 H1 E scope f c') [] σ H1 { s1 with heap := h1, toks := s1.toks + ([] : List (Str × Value)).length } := J0.wish _
    refine PySem.W.kla_codeExpr (wpAny_mono ((hbody _ _ s1 H1 (hr.deeper _)).run [] _ _ H1 Q J ht) (fun v s' hq => ?_) fun e s' hq => hq)
    obtain ⟨w', H', J', rv, q⟩ := hq
    exact ⟨w', H', J'.os, J'.bare, J'.base, J'.hok, rv, q⟩
  have hx : Passes (L2N.CX X.prog X.w) ((cxOf CXg X.prog X.w X.K X.mg X.base Ng qg sg g cdg X.A X.stack s H Eg).tr pn xe) E := fun _ σ' _ _ e s' I' c => tk e s' (L2N.XE.of_call I' (fun cls d H' h => hW cls d σ' H' I'.len h) c)
  refine wpAny_call (codeAny_mono rc fun r s' hq => ?_)
  cases r with
  | error e => exact hx pinsZ σZ H1 s1 e s' I1 hq
  | ok fl =>
    cases fl with
    | ret u => exact I1.after hq
    | next => exact False.elim hq
    | brk => exact False.elim hq
    | cont => exact False.elim hq
end
/-- the def that calls what it got -/
def GivesN (X : Cx) (Ng : List Str) (x : Str) (sg : Scope) (g : Addr) (cdg : Value) (bg : List Stmt) (a : Str) (q : Str) (TT : (XK → Hp → VK → Prop) → Hp → VK → Prop) : Prop :=
  ∀ (f c' : Addr) (s : Shared) (H : Hp) (Q : VK) (tl : XK → Hp → VK → Prop), RoomH 2 (X.A.deeper (envOfC x sg s.heap.objs.size g cdg)) →
    (∀ (W : WX) (pn : List (Addr × Obj)) (xe : Value → Shared → Prop) (E : XK) (p1 p2 : Pos), L2N.Takes ((cxOf L2.CX0 X.prog X.w X.K X.mg X.base Ng x sg g cdg X.A X.stack s H L2.E0).tr pn xe) W → (∀ cls d (σ' : L2.St) H', σ'.length = Ng.length → E cls d H' → W cls d σ' H') →
      PE ((cxOf L2.CX0 X.prog X.w X.K X.mg X.base Ng x sg g cdg X.A X.stack s H L2.E0).tr pn xe) (.Call (.Name a p1) [] [] p2) (fun σZ HZ Q => σZ[0]? = some (some (.ref f)) ∧ HZ c' = some (CodeO c' q) ∧ tl E HZ Q)) →
    H c' = some (CodeO c' q) → TT tl H Q →
    ∃ t, PSs (cxOf L2.CX0 X.prog X.w X.K X.mg X.base Ng x sg g cdg X.A X.stack s H L2.E0).nox bg t ∧ t { nx := fun _ H' => Q .non H', rt := Q } (L2.start Ng [.ref f]) H
section
variable {X : Cx}
/-- x(lambda: body) -/
theorem lamcall_n {T : List (Addr × Str)} {TT : (XK → Hp → VK → Prop) → Hp → VK → Prop} {x a : Str} {g c P : Addr} {k : Nat} {pg : Arguments} {bg : List Stmt} {sg : Scope} {dV kV doc pm cdv ct oc : Value} {an od : Option Addr} {osl : Array (Option Value)} {Ng : List Str}
    {params : Arguments} {body : Expr} {scope : Scope} {t : XK → TE} {p lpos pos : Pos} (hg : Gl X x) (hm : X.mg x = some (.ref g)) (hk : PySem.W.keepIn X.K (.ref g) = true)
    (lk : X.K.lookup g = some ⟨oc, od, .func (PySem.W.fnOf x x pg bg sg dV kV doc pm an cdv ct), osl⟩) (hcg : PySem.W.codeIn X.K cdv x = true) (hb : L2.Binds X.K (PySem.W.fnOf x x pg bg sg dV kV doc pm an cdv ct) [a] []) (Sg : FnScope Ng [a] sg) (hNg : Ng[0]? = some a) (hva : Vis sg a)
    (hG : GivesN X Ng x sg g cdv bg a (X.env.qual ++ "<lambda>") TT) (TB : TabB X.base X.mg c P) (hcode : X.env.code = .ref c) (hmT : (P, X.env.qual ++ "<lambda>") ∈ T) (hu : ∀ p ∈ T, p.1 = P → p.2 = X.env.qual ++ "<lambda>") (hr : Room (k + 3) X.A) (L : LamS X.env.scope scope) (hdef : defaultsOf params X.env = ([], []))
    (hbind : ∀ (q : Str) (cl : List (Str × Addr)) (pm cv ctv : Value), bindArgs (PySem.W.kla_fn "<lambda>" q params body scope cl pm cv ctv) ⟨[], []⟩ = pure [])
    (hbody : ∀ (A : Around) (outer : List Env) (s : Shared) (H : Hp) (E : XK) (f c' : Addr), Room (k + 1) (A.deeper (lamEnv X scope s.heap.objs.size f c')) → PE (lamN X A outer s H E scope f c') body (t E))
    (hdb : (x == ("__debug__" : Str)) = false := by decide) (hd : (a == ("__debug__" : Str)) = false := by decide) (hcd : (a == ("__classdict__" : Str)) = false := by decide) :
    PE X (.Call (.Name x p) [.Lambda params body scope lpos] [] pos) (tLam T TT t) := by
  refine ⟨fun pins s σ H Q I h => ?_⟩
  obtain ⟨hT, h⟩ := h
  refine wpAny_Call_Name_kw (ld_glob I hg hm ?_ hdb)
  refine PySem.W.callWith_K (h₀ := X.base) I.ok.mod.kin hk ?_ (by rfl) (by rfl)
  show wpAny _ _ (spliced ((false, eval (.Lambda params body scope lpos) X.env) :: backTo pos (starEach [] X.env))) _ _ s
  refine Calls.spliced_cons (lam_make2 I TB hcode hmT hu hT hdef (L.has I.ok) fun f c' pm' ctv H1 s' I1 eN T1 hf hfn hfr hco => ?_)
  refine Calls.spliced_nil ⟨I1.kIn, ?_⟩
  have rc : codeAny (model X.prog X.w) X.A (.call (.ref g) ⟨[.ref f], []⟩) (CR L2.CX0 X.stack X.prog X.w H1 s' Q L2.E0) s' := by
    refine run_ofS (k := k + 2) (N := Ng) (ps := [a]) (us := [.ref f]) (vs := [.ref f]) lk hcg Sg hr I1.env0 (hb s' [.ref f] I1.kIn rfl) (.cons rfl .nil) rfl fun hr' => ?_
    obtain ⟨t', ht', hq'⟩ := hG f c' s' H1 Q (fun E H' Q' => t E σ H' Q') (roomH_of (hr'.mono (by omega))) (fun W pn xe E p1 p2 tk hW => act_n (k := k + 1) (i := 0) I1 L hf hfn hfr (hbind _ _ _ _ _) tk hW hr' (fun A outer s H hr2 => hbody A outer s H E f c' hr2) hNg hva hd hcd) hco (h H1 eN T1)
    exact ⟨t', ht'.nox, hq'⟩
  refine wpAny_call (codeAny_mono rc fun r s2 hq => ?_)
  cases r with
  | error e => exact (show False from hq).elim
  | ok fl =>
    cases fl with
    | ret u => exact I1.after hq
    | next => exact False.elim hq
    | brk => exact False.elim hq
    | cont => exact False.elim hq
theorem takesN0 {X : Cx} : L2N.Takes X (fun _ _ _ _ => False) := fun _ _ x => by
  obtain ⟨_, _, _, _, _, _, _, _, _, _, _, _, _, _, _, _, z⟩ := x
  exact z.elim
/-- try: return a() / except x as e: return f(e) -/
def TTw (K : PySem.W.Frag) (CS : Addr) (sp : Value → Hp → VK → Prop) : (XK → Hp → VK → Prop) → Hp → VK → Prop := fun tl H Q => tl (fun cls d H' => d = none ∧ PySem.W.exmOne K cls (.ref CS) = some true ∧ sp cls H' Q) H Q
theorem word_gives {Ng : List Str} {x a e n y z q : Str} {sg : Scope} {g CS fw : Addr} {fdw : FuncData} {cdg : Value} {spw : SpE} {sp : Value → Hp → VK → Prop} {p1 p2 p3 p4 p5 p6 p7 p8 p9 p10 p11 : Pos} (hk : sg.kind = .function) (hge : sg.names.lookup e = some .globalImplicit) (hme : X.mg e = some (.ref CS)) (hde : (e == ("__debug__" : Str)) = false) (h0 : ∀ f : Addr, (L2.start Ng [V.ref f])[0]? = some (some (V.ref f)))
    (hN : Ng.Nodup) (hn : Ng[1]? = some n) (hln : sg.names.lookup n = some .local) (h1 : ∀ (f a : Addr), ((L2.start Ng [V.ref f]).set 1 (some (.ref a)))[1]? = some (some (V.ref a))) (hnd : (n == ("__debug__" : Str)) = false) (hncd : (n == ("__classdict__" : Str)) = false)
    (Fw : FnE X.prog X.w X.K X.mg X.base 1 fw fdw z spw) (hgw : sg.names.lookup y = some .globalImplicit) (hmw : X.mg y = some (.ref fw)) (hkw : PySem.W.keepIn X.K (.ref fw) = true) (hbw : Binds X.K fdw [z] []) (hyd : (y == ("__debug__" : Str)) = false)
    (hsp : ∀ cls a oe H Q, L2N.Zn cls none oe → (∃ vs, oe.data = .fields vs) → sp cls H Q → spw (a, oe) H Q) :
    GivesN X Ng x sg g cdg [.Try [.Return (some (.Call (.Name a p1) [] [] p2)) p3] [.ExceptHandler (some (.Name e p4)) (some n) [.Return (some (.Call (.Name y p5) [.Name n p6] [] p9)) p10] p7] [] [] p8] a q (TTw X.K CS sp) := by
  intro f c' s H Q tl hr act hc h
  have hgl : Gl (cxOf L2.CX0 X.prog X.w X.K X.mg X.base Ng x sg g cdg X.A X.stack s H L2.E0).nox e := hge
  refine ⟨_, pss_one (L2N.ps_try_as (X := (cxOf L2.CX0 X.prog X.w X.K X.mg X.base Ng x sg g cdg X.A X.stack s H L2.E0).nox) (i := 1) (n := n) (c := .ref CS) (Wout := fun _ _ _ _ => False)
      (tb := fun W D σ H => ∃ Ech : XK, (∀ cls d (σ' : L2.St) H', σ'.length = Ng.length → Ech cls d H' → W cls d σ' H') ∧ σ[0]? = some (some (.ref f)) ∧ H c' = some (CodeO c' q) ∧ tl Ech H D.rt)
      (ts := fun a cls d D σ H => d = none ∧ σ[1]? = some (some (.ref a)) ∧ sp cls H D.rt)
      rfl rfl hN hn hln ⟨hgl, hde, .inl hme⟩ takesN0 (fun W pn xe tk _ => ?_) (fun ea oe cls d pn hz hf => ?_)), ?_⟩
  · refine ⟨fun pins s' σ H' D I h' => ?_⟩
    obtain ⟨Ech, hW, e1, e2, e3⟩ := h'
    exact (pss_one (ps_ret (pos := p3) (act W pn xe Ech p1 p2 tk hW))).run pins s' σ H' D I ⟨e1, e2, e3⟩
  · refine ⟨fun pins s' σ H' D I h' => ?_⟩
    obtain ⟨rfl, e1, e2⟩ := h'
    obtain ⟨vs, hv⟩ := hf
    have hot : Hot1 ((cxOf L2.CX0 X.prog X.w X.K X.mg X.base Ng x sg g cdg X.A X.stack s H L2.E0).nox.suite ea ((ea, oe) :: pn)).A (ea, oe) := ⟨rfl, vs, hv, hz.2.2 vs hv⟩
    have hrm : RoomH 1 ((cxOf L2.CX0 X.prog X.w X.K X.mg X.base Ng x sg g cdg X.A X.stack s H L2.E0).nox.suite ea ((ea, oe) :: pn)).A := ⟨(hr.mono (show 1 ≤ 2 by decide)).dp, (hr.mono (show 1 ≤ 2 by decide)).un⟩
    exact (pss_one (ps_ret (pos := p10) (pe_callE (X := (cxOf L2.CX0 X.prog X.w X.K X.mg X.base Ng x sg g cdg X.A X.stack s H L2.E0).nox.suite ea ((ea, oe) :: pn)) (q := p5) (q2 := p6) (pos := p9) (i := 1) Fw hrm hot List.mem_cons_self hgw hmw hkw hbw hn (.inl hln) hyd hnd hncd))).run pins s' σ H' D I ⟨e1, hsp cls ea oe H' _ hz ⟨vs, hv⟩ e2⟩
  · refine ⟨fun cls d H' => d = none ∧ PySem.W.exmOne X.K cls (.ref CS) = some true ∧ sp cls H' Q, fun cls d σ' H' hl hE => ?_, h0 f, hc, h⟩
    obtain ⟨rfl, e1, e2⟩ := hE
    exact ⟨true, e1, fun _ ea _ => ⟨rfl, by rw [List.getElem?_set_self (by rw [hl]; exact List.getElem?_eq_some_iff.mp hn |>.1)], e2⟩, fun z => by cases z⟩
end
end Lf
set_option Elab.async false
set_option linter.all false
set_option maxRecDepth 100000
set_option maxHeartbeats 4000000
namespace Lf
open PySem PySem.Spec PyProof.Rows L2 L2H HotX LamX
def tRes {Kf : PySem.W.Frag} {Tf : List (Addr × Str)} (F : Fx Kf Tf) (δ : List Slot) : Res → TE
  | .ok d => tD F δ d
  | .error C => tDX F δ C
abbrev Fx.at_ {Kf : PySem.W.Frag} {Tf : List (Addr × Str)} (F : Fx Kf Tf) (E : XK) : Fx Kf Tf := ⟨F.O0, F.Hin, E, F.h0⟩
theorem StAt.reE {Kf : PySem.W.Frag} {Tf : List (Addr × Str)} {F : Fx Kf Tf} {O : Addr → Prop} {H : Hp} {σ : L2.St} {δ : List Slot} (E : XK) (h : StAt F O H σ δ) : StAt (F.at_ E) O H σ δ :=
  ⟨h.len, h.o0, h.dom, h.tabs, h.ext, fun i s q => by
    have g := h.slot i s q
    cases s <;> exact g, h.apart, h.afar⟩
/-- what is told of a result -/
def ToldIs (K : PySem.W.Frag) (cs : List Addr) (CS : Addr) (z : PyData) : Res → Prop
  | .ok d => z = d
  | .error C => ∃ j w, Ew K cs C j ∧ PySem.W.exmOne K (.ref C) (.ref CS) = some true ∧ ewords[j]? = some w ∧ z = .str w
structure ToldG (P : Program) (w : World) (K : PySem.W.Frag) (mg : Str → Option Value) (base : Heap) (cs : List Addr) (CS : Addr) (st : Stmt) : Prop where
  d : ∃ g fd, Fun K "_law_told" "_law_told" st g fd ∧ mg "_law_told" = some (.ref g) ∧ Binds K fd ["deed"] []
  sc : FnScope ["deed", "e"] ["deed"] (defScope st)
  bd : ∃ p1 p2 p3 p4 p5 p6 p7 p8 p9 p10, defBody st = [.Try [.Return (some (.Call (.Name "deed" p1) [] [] p2)) p3] [.ExceptHandler (some (.Name "FindError" p4)) (some "e") [.Return (some (.Call (.Name "_law_word" p5) [.Name "e" p6] [] p9)) p10] p7] [] [] p8]
  s1 : (defScope st).names.lookup ("FindError" : Str) = some .globalImplicit
  s2 : (defScope st).names.lookup ("_law_word" : Str) = some .globalImplicit
  s3 : (defScope st).names.lookup ("e" : Str) = some .local
  s4 : (defScope st).names.lookup ("deed" : Str) = some .local
  cls : mg "FindError" = some (.ref CS)
  word : ∃ fw fdw, FnE P w K mg base 1 fw fdw "e" (spWord K cs) ∧ mg "_law_word" = some (.ref fw) ∧ PySem.W.keepIn K (.ref fw) = true ∧ Binds K fdw ["e"] []
structure Co (X : Cx) (c : Addr) (q : Str) : Prop where
  code : X.env.code = .ref c
  qual : X.env.qual = q
abbrev Lamb (X : Cx) (N : List Str) {Kf : PySem.W.Frag} {Tf : List (Addr × Str)} (F : Fx Kf Tf) (scope : Scope) (k : Nat) (φ : Cx → Fx Kf Tf → Prop) : Prop :=
  ∀ (A : Around) (outer : List Env) (s : Shared) (H : Hp) (E : XK) (f c' : Addr), Ctx (lamN X A outer s H E scope f c') N scope → L2N.Takes (lamN X A outer s H E scope f c') (fun cls d _ H => (F.at_ E).E cls d H) → Room (k + 1) (lamN X A outer s H E scope f c').A → φ (lamN X A outer s H E scope f c') (F.at_ E)
section
variable {Kf : PySem.W.Frag} {Tf : List (Addr × Str)} {F : Fx Kf Tf} {δ : List Slot} {X : Cx} {N : List Str} {sc : Scope} {pos p lpos : Pos}
theorem x_told {cs : List Addr} {CS c P : Addr} {q : Str} {st : Stmt} {k : Nat} {z : PyData} {r : Res} {params : Arguments} {body : Expr} {scope : Scope} (cx : Ctx X N sc) (co : Co X c q) (Z : ToldG X.prog X.w X.K X.mg X.base cs CS st) (TB : TabB X.base X.mg c P) (hm : (P, q ++ "<lambda>") ∈ Tf) (hu : ∀ p ∈ Tf, p.1 = P → p.2 = q ++ "<lambda>")
    (hr : Room (k + 3) X.A) (hz : ToldIs X.K cs CS z r) (hb : Lamb X N F scope k fun Y F' => PE Y body (tRes F' δ r)) (L : lamSB sc scope = true := by decide +kernel) (hg : sc.names.lookup ("_law_told" : Str) = some .globalImplicit := by rfl) (hdef : defaultsOf params X.env = ([], []) := by rfl)
    (hbind : ∀ (q : Str) (cl : List (Str × Addr)) (pm cv ctv : Value), bindArgs (PySem.W.kla_fn "<lambda>" q params body scope cl pm cv ctv) ⟨[], []⟩ = pure [] := by intros; rfl) :
    PE X (.Call (.Name "_law_told" p) [.Lambda params body scope lpos] [] pos) (tD F δ z) := by
  obtain ⟨g, fd, Fn, gm, gb⟩ := Z.d
  obtain ⟨oc, od, kV, doc, pm, an, cdv, ct, osl, rfl, lk, hcd⟩ := Fn.ex
  obtain ⟨p1, p2, p3, p4, p5, p6, p7, p8, p9, p10, eb⟩ := Z.bd
  obtain ⟨fw, fdw, Fw, wm, wk, wb⟩ := Z.word
  have hG : GivesN X ["deed", "e"] "_law_told" (defScope st) g cdv (defBody st) "deed" (X.env.qual ++ "<lambda>") (TTw X.K CS fun cls H Q => ∃ C j w, cls = .ref C ∧ Ew X.K cs C j ∧ ewords[j]? = some w ∧ ∀ H', (∀ b o, H b = some o → H' b = some o) → Q (.str w) H') := by
    rw [eb]
    refine word_gives (p11 := p1) Z.sc.kind Z.s1 Z.cls (by decide) (fun f => rfl) Z.sc.nd rfl Z.s3 (fun f a => rfl) (by decide) (by decide) Fw Z.s2 wm wk wb (by decide) fun cls a oe H Q zn hf h => ?_
    obtain ⟨C, j, w, rfl, ew, hw, hq⟩ := h
    exact ⟨C, j, w, zn.zc, hf, ew, hw, hq⟩
  refine wkE (lamcall_n (T := Tf) (k := k) (Ng := ["deed", "e"]) (t := fun E => tRes (F.at_ E) δ r) (cx.gl hg) gm Fn.kp lk hcd gb Z.sc rfl (.inl Z.s4) hG TB co.code (by rw [co.qual]; exact hm) (by rw [co.qual]; exact hu) hr (by rw [cx.s]; exact lamS_by L) hdef hbind
    (fun A outer s H E f c' hr' => hb A outer s H E f c' ⟨cx.n, rfl, cx.nd, rfl⟩ (L2N.takes_of rfl rfl rfl rfl) hr')) fun σ H Q h => ?_
  obtain ⟨O, st, w⟩ := h
  refine ⟨st.tabs, fun H1 e1 t1 => ?_⟩
  show tRes (F.at_ _) δ r σ H1 Q
  cases r with
  | ok d =>
    cases (show z = d from hz)
    exact ⟨O, (st.grow e1 t1).reE _, fun v H2 e2 t2 g2 => w v H2 (e1.trans e2) t2 g2⟩
  | error C =>
    obtain ⟨j, wd, ew, exm, hw, rfl⟩ := hz
    refine ⟨O, (st.grow e1 t1).reE _, fun H2 e2 t2 => ⟨rfl, exm, C, j, wd, rfl, ew, hw, fun H3 k3 => ?_⟩⟩
    exact w _ _ ((e1.trans e2).trans fun a o g _ => k3 a o g) (t2.ext k3) rfl
end
def spLaw (T : List (Addr × Str)) (K : PySem.W.Frag) (R : List Int → Prop) : Sp := fun vs H Q _ => ∃ a ns, vs = [.ref a] ∧ SqL K H a (ns.map V.int) ∧ Tabs T H ∧ R ns ∧ ∀ H', Q (.bl true) H'
end Lf
set_option Elab.async false
set_option linter.all false
set_option maxRecDepth 100000
set_option maxHeartbeats 4000000
namespace Lf
open PySem PySem.Spec PyProof.Rows L2 L2H HotX LamX
section
variable {Kf : PySem.W.Frag} {Tf : List (Addr × Str)} {F : Fx Kf Tf} {K : PySem.W.Frag} {ds : List PyData} {α : Type}
theorem mp_b {l : List α} {g : α → Bool} : (l.map fun x => PyData.bool (g x)) = (l.map g).map PyData.bool := by rw [List.map_map]; rfl
theorem mp_i {l : List α} {g : α → Int} : (l.map fun x => PyData.int (g x)) = (l.map g).map PyData.int := by rw [List.map_map]; rfl
theorem mp_t {l : List α} {g : α → List Nat} : (l.map fun x => tx (g x)) = (l.map g).map tx := by rw [List.map_map]; rfl
theorem cd_allD {bs : List Bool} (h : ds = bs.map PyData.bool) : ClD F (rAll K) [.list ds] (.bool (bs.all id)) := by subst h; exact cd_all
theorem cd_joinD {ls : List (List Nat)} {m : List Nat} (h : ds = ls.map tx) (hz : (ls.map (·.length)).sum + ls.length * m.length ≤ 16777216) : MtD F (fun x xs H Q => ∃ a p, ∃ ys : List Str, x = .str a ∧ xs = [.ref p] ∧ (SqL K H p (ys.map V.str) ∨ SqT K H p (ys.map V.str)) ∧ (ys.map (·.length)).sum + ys.length * a.length ≤ 16777216 ∧ Q (.str (Txt.join a ys)) H)
    (tx m) [.list ds] (tx (TL.joinL m ls)) := by subst h; exact cd_join hz
end
def lSmall : List Nat := [97, 98, 99, 100, 101, 102, 103, 104, 105, 106, 107, 108, 109, 110, 111, 112, 113, 114, 115, 116, 117, 118, 119, 120, 121, 122]
def lGreat : List Nat := [65, 66, 67, 68, 69, 70, 71, 72, 73, 74, 75, 76, 77, 78, 79, 80, 81, 82, 83, 84, 85, 86, 87, 88, 89, 90]
def lFig : List Nat := [48, 49, 50, 51, 52, 53, 54, 55, 56, 57]
def lOth : List Nat := [95, 45, 47, 46, 32]
def isNm (l : List Nat) : Bool := decide (1 ≤ l.length) && decide (l.length ≤ 30) && l.all fun c => decide (c ∈ lSmall ++ lGreat ++ lFig ++ lOth)
def isAs (l : List Nat) : Bool := decide (l.length ≤ 8) && l.all fun c => decide (c ∈ lSmall ++ lGreat ++ lFig)
def cod : PyData → List Nat
  | .str s => s.cps.toList
  | .dict _ => List.replicate 10001 0
  | _ => []
def isTx : PyData → Bool
  | .str _ => true
  | _ => false
def isName (d : PyData) : Bool := isTx d && isNm (cod d)
def isAsk (d : PyData) : Bool := isTx d && isAs (cod d)
def okd (d : PyData) : Prop := (cod d).length ≤ 10000
theorem cod_tx (l : List Nat) : cod (tx l) = l := by simp [cod, tx]
theorem isTx_tx (l : List Nat) : isTx (tx l) = true := rfl
theorem tx_of {d : PyData} (h : isTx d = true) : d = tx (cod d) := by
  cases d <;> first | exact str_tx _ | cases h
theorem okd_np {d : PyData} (h : okd d) : isP d = false := by
  cases d with
  | dict k =>
    have h : (List.replicate 10001 0).length ≤ 10000 := h
    rw [List.length_replicate] at h
    omega
  | _ => rfl
theorem okd_tx {l : List Nat} (h : l.length ≤ 10000) : okd (tx l) := by
  unfold okd
  rw [cod_tx]
  exact h
theorem isName_tx (l : List Nat) : isName (tx l) = isNm l := by simp [isName, isTx_tx, cod_tx]
theorem isAsk_tx (l : List Nat) : isAsk (tx l) = isAs l := by simp [isAsk, isTx_tx, cod_tx]
theorem kit_str {d : PyData} (h : isTx d = false) : kitB (tyN d) "str" = some false := by
  cases d <;> first | rfl | decide | cases h
def begins (l : List Nat) (i : Nat) : Bool :=
  let c := l.getD i 0
  let b := l.getD (i - 1) 0
  if c ∈ lOth then false else if i = 0 ∨ b ∈ lOth then true else if c ∈ lGreat then !decide (b ∈ lGreat) else !decide (decide (c ∈ lFig) = decide (b ∈ lFig))
def smallC (c : Nat) : Nat := if c ∈ lGreat then c + 32 else c
def startsL (l : List Nat) : List Nat := (List.range l.length).filter (begins l)
def natI (i : Nat) : PyData := .int (i : Int)
theorem sm_idx {c : Nat} (h : c ∈ lGreat) : Builtin.Str.occurrences ⟨lGreat.toArray⟩ ⟨[c].toArray⟩ 0 lGreat.length 1 = (c - 65) :: [] := by
  simp only [lGreat, List.mem_cons, List.not_mem_nil, or_false] at h
  rcases h with rfl | rfl | rfl | rfl | rfl | rfl | rfl | rfl | rfl | rfl | rfl | rfl | rfl | rfl | rfl | rfl | rfl | rfl | rfl | rfl | rfl | rfl | rfl | rfl | rfl | rfl <;> decide +kernel
theorem sm_at {c : Nat} (h : c ∈ lGreat) : atI lSmall ((c - 65 : Nat) : Int) = some (smallC c) := by
  unfold smallC
  rw [if_pos h]
  simp only [lGreat, List.mem_cons, List.not_mem_nil, or_false] at h
  rcases h with rfl | rfl | rfl | rfl | rfl | rfl | rfl | rfl | rfl | rfl | rfl | rfl | rfl | rfl | rfl | rfl | rfl | rfl | rfl | rfl | rfl | rfl | rfl | rfl | rfl | rfl <;> decide +kernel
def R_is_name (ds : List PyData) (r : Res) : Prop := ∃ d, ds = [d] ∧ okd d ∧ r = .ok (.bool (isName d))
def R_is_ask (ds : List PyData) (r : Res) : Prop := ∃ d, ds = [d] ∧ okd d ∧ r = .ok (.bool (isAsk d))
def R_small (ds : List PyData) (r : Res) : Prop := ∃ c, ds = [tx [c]] ∧ r = .ok (tx [smallC c])
def R_begins (ds : List PyData) (r : Res) : Prop := ∃ l i, ds = [tx l, natI i] ∧ i < l.length ∧ l.length ≤ 10000 ∧ r = .ok (.bool (begins l i))
theorem getD_at {l : List Nat} {i : Nat} (h : i < l.length) : atI l ((i : Nat) : Int) = some (l.getD i 0) := atI_nat (by rw [List.getElem?_eq_getElem h]; simp [h])
theorem filter_tt {α : Type} (l : List α) : (l.filter fun _ => true) = l := List.filter_eq_self.mpr fun _ _ => rfl
theorem joinL_nil (ls : List (List Nat)) : TL.joinL [] ls = ls.flatten := by
  induction ls with
  | nil => rfl
  | cons a r ih =>
    cases r with
    | nil => simp [TL.joinL]
    | cons b t => simp [TL.joinL] at ih ⊢; exact ih
theorem join1 {α : Type} (l : List α) (g : α → Nat) : TL.joinL [] (l.map fun x => [g x]) = l.map g := by
  rw [joinL_nil]
  induction l with
  | nil => rfl
  | cons a r ih => simp [ih]
theorem sum1 {α : Type} (l : List α) (g : α → Nat) : (((l.map fun x => [g x]).map (·.length)).sum) = l.length := by
  induction l with
  | nil => rfl
  | cons a r ih => simp at ih ⊢; omega
theorem join1_sz {α : Type} {l : List α} {g : α → Nat} (h : (l.map fun x => [g x]).length ≤ 10000) : ((l.map fun x => [g x]).map (·.length)).sum + (l.map fun x => [g x]).length * ([] : List Nat).length ≤ 16777216 := by
  rw [sum1]
  rw [List.length_map] at h ⊢
  simp
  omega
def drawn (c k : Int) : Int :=
  let a := (c * 6364136223846793005 + (k + 1) * 1442695040888963407) % 340282366920938463463374607431768211507
  let b := a * a % 340282366920938463463374607431768211297
  (b % 18446744073709551557 + 1) * (b / 18446744073709551557 + 1) * b % 340282366920938463463374607431768211507
def R_law_drawn (ds : List PyData) (r : Res) : Prop := ∃ c k, ds = [.int c, .int k] ∧ r = .ok (.int (drawn c k))
theorem rem_abs {x m : Int} (h : 0 < m) : (x % m).natAbs < m.natAbs := by
  have := Int.emod_nonneg x (show m ≠ 0 by omega)
  have := Int.emod_lt_of_pos x h
  omega
def lSig1 : List Nat := [100, 101, 102, 103, 120, 121, 122, 68, 69, 70, 71, 88, 89, 90]
def lSig2 : List Nat := [97, 97, 97, 98, 98, 98, 99, 65, 66, 67, 49, 50, 95, 45, 47, 46, 32]
def signC (m : Int) : Nat := if m % 11 = 0 then lSig1.getD (m / 16 % 14).toNat 0 else lSig2.getD (m / 16 % 17).toNat 0
def nameL (m n : Int) : List Nat := (List.range (1 + m % n).toNat).map fun (j : Nat) => signC (drawn m (j : Int))
def R_law_sign (ds : List PyData) (r : Res) : Prop := ∃ m, ds = [.int m] ∧ r = .ok (tx [signC m])
def R_law_name (ds : List PyData) (r : Res) : Prop := ∃ m n, ds = [.int m, .int n] ∧ 0 < n ∧ n ≤ 1000 ∧ r = .ok (tx (nameL m n))
/-- an item by a remainder -/
theorem at_rem {l : List Nat} {x n : Int} (hn : (l.length : Int) = n) (h0 : 0 < n) : atI l (x % n) = some (l.getD (x % n).toNat 0) := by
  have h1 := Int.emod_nonneg x (show n ≠ 0 by omega)
  have h2 := Int.emod_lt_of_pos x h0
  have e : x % n = ((x % n).toNat : Int) := by omega
  rw [e]
  exact getD_at (by omega)
theorem cmul_sq {a b : Int} (ha : a.natAbs < 2 ^ 200) (hb : b.natAbs < 2 ^ 200) : CMulW a b := wide_mul ha hb (by decide) (by decide) (by decide)
theorem drawn_m1 (a : Int) : CMulW (a % 340282366920938463463374607431768211507) (a % 340282366920938463463374607431768211507) :=
  have h := rem_abs (x := a) (m := 340282366920938463463374607431768211507) (by decide)
  wide_mul (a := 130) (b := 130) (Nat.lt_trans h (by decide)) (Nat.lt_trans h (by decide)) (by decide) (by decide) (by decide)
theorem drawn_b (x : Int) : 0 ≤ x % 340282366920938463463374607431768211297 ∧ x % 340282366920938463463374607431768211297 < 340282366920938463463374607431768211297 := ⟨Int.emod_nonneg _ (by decide), Int.emod_lt_of_pos _ (by decide)⟩
theorem drawn_f1 {b : Int} : 1 ≤ b % 18446744073709551557 + 1 ∧ b % 18446744073709551557 + 1 ≤ 18446744073709551557 := by
  have h1 := Int.emod_nonneg b (show (18446744073709551557 : Int) ≠ 0 by decide)
  have h2 := Int.emod_lt_of_pos b (show (0 : Int) < 18446744073709551557 by decide)
  omega
theorem drawn_f2 {b : Int} (h0 : 0 ≤ b) (h : b < 340282366920938463463374607431768211297) : 1 ≤ b / 18446744073709551557 + 1 ∧ b / 18446744073709551557 + 1 ≤ 36893488147419103232 := by
  have h1 := Int.ediv_nonneg h0 (show (0 : Int) ≤ 18446744073709551557 by decide)
  omega
theorem drawn_m2 {x : Int} : CMulW ((x % 340282366920938463463374607431768211297) % 18446744073709551557 + 1) ((x % 340282366920938463463374607431768211297) / 18446744073709551557 + 1) := by
  have hb := drawn_b x
  have f1 := drawn_f1 (b := x % 340282366920938463463374607431768211297)
  have f2 := drawn_f2 hb.1 hb.2
  exact wide_mul (a := 70) (b := 70) (by omega) (by omega) (by decide) (by decide) (by decide)
theorem drawn_m3 {x : Int} : CMulW (((x % 340282366920938463463374607431768211297) % 18446744073709551557 + 1) * ((x % 340282366920938463463374607431768211297) / 18446744073709551557 + 1)) (x % 340282366920938463463374607431768211297) := by
  have hb := drawn_b x
  have f1 := drawn_f1 (b := x % 340282366920938463463374607431768211297)
  have f2 := drawn_f2 hb.1 hb.2
  exact wide_mul (a := 140) (b := 140) (wide_lt (a := 70) (b := 70) (by omega) (by omega)) (by omega) (by decide) (by decide) (by decide)
theorem div_big {i : Int} : CDivW i 18446744073709551557 := wide_div (b := 70) (by decide) (by decide) (by decide) (by decide)
theorem div_sm {i j : Int} (h0 : 0 < j) (h : j.natAbs < 2 ^ 100) : CDivW i j := wide_div (b := 100) h0 h (by decide) (by decide)
/-- the script's number -/
def cell (ns : List Int) (k : Nat) : Int := if ns = [] then (k : Int) * 7919 else ns.getD (k % ns.length) 0 + ((k : Int) / (ns.length : Int)) * 104729
def spCell (K : PySem.W.Frag) : Sp := fun vs H Q _ => ∃ a ns k, vs = [.ref a, .int ((k : Nat) : Int)] ∧ SqL K H a (ns.map V.int) ∧ ns.length ≤ 100000 ∧ k < 1000 ∧ ∀ H', (∀ b o, H b = some o → H' b = some o) → Q (.int (cell ns k)) H'
section
variable {Kf : PySem.W.Frag} {Tf : List (Addr × Str)} {F : Fx Kf Tf} {δ : List Slot} {X : Cx} {N : List Str} {sc : Scope} {pos p px : Pos} {x : Str} {e : Expr} {ns : List Int}
/-- the script, read -/
theorem scr_at {O : Addr → Prop} {H : Hp} {σ : L2.St} {i : Nat} (st : StAt F O H σ δ) (hs : δ[i]? = some (.scr ns)) : ∃ a, σ[i]? = some (some (.ref a)) ∧ SqL Kf H a (ns.map V.int) := by
  obtain ⟨a, e, g⟩ := st.slot i _ hs
  exact ⟨a, get_some e, sq_grow st.ext g⟩
theorem x_slen (i : Nat) {y : Str} (cx : Ctx X N sc) (hK : X.K = Kf) (hs : δ[i]? = some (.scr ns)) (hm : X.mg "len" = none) (hN : N[i]? = some y := by rfl) (hv : Vis sc y := by first | exact Or.inl rfl | exact Or.inr (Or.inl rfl) | exact Or.inr (Or.inr rfl)) (hg : sc.names.lookup ("len" : Str) = some .globalImplicit := by rfl) (hd : (y == ("__debug__" : Str)) = false := by decide) (hcd : (y == ("__classdict__" : Str)) = false := by decide) :
    PE X (.Call (.Name "len" p) [.Name y px] [] pos) (tD F δ (.int ns.length)) :=
  wkE (pe_callB call_len (cx.gl hg) hm PySem.boot_len (pa_cons (pe_var (i := i) (cx.at_ hN) (cx.vis hv) hd hcd) pa_nil)) fun σ H Q h => by
    obtain ⟨O, st, k⟩ := h
    obtain ⟨a, e, g⟩ := scr_at st hs
    subst hK
    exact ⟨.ref a, e, _, ns.length, rfl, .inl ⟨_, g, by rw [List.length_map]⟩, k _ H (ExtN.refl H) st.tabs rfl⟩
theorem x_cell (i : Nat) {y : Str} {k : Nat} {kk : Nat} (cx : Ctx X N sc) (hK : X.K = Kf) (hs : δ[i]? = some (.scr ns)) (h : Fd X.prog X.w X.K X.mg X.base "_law_cell" k ["script", "k"] (spCell X.K)) (hr : Room k X.A) (he : PE X e (tD F δ (.int ((kk : Nat) : Int)))) (hz : ns.length ≤ 100000) (hkk : kk < 1000) (hN : N[i]? = some y := by rfl)
    (hv : Vis sc y := by first | exact Or.inl rfl | exact Or.inr (Or.inl rfl) | exact Or.inr (Or.inr rfl)) (hg : sc.names.lookup ("_law_cell" : Str) = some .globalImplicit := by rfl) (hd : (y == ("__debug__" : Str)) = false := by decide) (hcd : (y == ("__classdict__" : Str)) = false := by decide)
    (hse : starEach [e] X.env = [(false, eval e X.env)] := by rfl) (h1 : starEach (.Name y px :: [e]) X.env = (false, eval (.Name y px) X.env) :: starEach [e] X.env := by rfl) (hpl : (backTo pos (starEach [e] X.env)).any (·.1) = false := by rfl) :
    PE X (.Call (.Name "_law_cell" p) [.Name y px, e] [] pos) (tD F δ (.int (cell ns kk))) := by
  obtain ⟨f, fd, G, m, kp, b⟩ := h.ex
  refine wkE (pe_call G hr (cx.gl hg) m kp b .nil passN (pa_cons (pe_var (i := i) (cx.at_ hN) (cx.vis hv) hd hcd) (pa_cons he pa_nil hse) h1) (by decide) h1 hpl) fun σ H Q h => ?_
  obtain ⟨O, st, w⟩ := h
  obtain ⟨a, e1, g⟩ := scr_at st hs
  subst hK
  refine ⟨.ref a, e1, O, st, fun v H1 e2 t1 g1 => ?_⟩
  rw [show v = V.int _ from g1]
  exact ⟨a, ns, kk, rfl, sq_grow e2 g, hz, hkk, fun H3 k3 => w _ H3 (e2.trans fun a o g _ => k3 a o g) (t1.ext k3) rfl⟩
end
end Lf
set_option Elab.async false
set_option linter.all false
set_option maxRecDepth 100000
set_option maxHeartbeats 4000000
namespace Lf
open PySem PySem.Spec PyProof.Rows L2 L2H HotX LamX
structure ErrOk (K : PySem.W.Frag) (C : Addr) : Prop where
  x : PySem.W.excIn K C [.type "ValueError", .type "Exception", .type "BaseException", .type "object"] "ValueError.__new__" = true
  k : PySem.W.keepIn K (.ref C) = true
  e : PySem.W.subIn K (.ref C) (.type "BaseException") = some true
  t : PySem.W.typeIn K (.ref C) = some (.type "type")
structure EwX (K : PySem.W.Frag) (cs : List Addr) (CS C : Addr) (j : Nat) : Prop extends Ew K cs C j where
  ok : ErrOk K C
  exm : PySem.W.exmOne K (.ref C) (.ref CS) = some true
theorem told_w {K : PySem.W.Frag} {cs : List Addr} {CS C : Addr} {j : Nat} {w : Str} {l : List Nat} (h : EwX K cs CS C j) (hw : ewords[j]? = some w) (e : PyData.str w = tx l) : ToldIs K cs CS (tx l) (.error C) := ⟨j, w, h.toEw, h.exm, hw, e.symm⟩
def wBadAsk : List Nat := [66, 97, 100, 65, 115, 107]
def wNoName : List Nat := [78, 111, 78, 97, 109, 101]
def wNothing : List Nat := [78, 111, 116, 104, 105, 110, 103]
def ewB (K : PySem.W.Frag) (cs : List Addr) (CS C : Addr) (j : Nat) : Bool :=
  decide (cs.length = 8) && decide (cs[j]? = some C) && (List.range 8).all (fun i => decide (PySem.W.kitOne K (.ref C) (.ref (cs.getD i 0)) = some (decide (i = j)))) && decide (PySem.W.kitOne K (.ref C) (.type "ValueError") = some true)
  && decide (PySem.W.exmOne K (.ref C) (.ref CS) = some true)
  && (PySem.W.excIn K C [.type "ValueError", .type "Exception", .type "BaseException", .type "object"] "ValueError.__new__" && PySem.W.keepIn K (.ref C) && decide (PySem.W.subIn K (.ref C) (.type "BaseException") = some true) && (PySem.W.typeIn K (.ref C) == some (.type "type")))
  && ((PySem.W.findIn K (.ref C) "__getattribute__" == some (some (.builtin "BaseException.__getattribute__"))) && (PySem.W.findIn K (.ref C) "__getattr__" == some none) && PySem.W.hasDictIn K C && (PySem.W.findIn K (.ref C) "__class__" == some (some (.builtin "object.__class__")))
    && (PySem.W.specialIn K (.builtin "object.__class__") "__get__" == some (some (.builtin "getset_descriptor.__get__"))) && decide (PySem.W.takesIn K (.builtin "object.__class__") = some true) && decide (PySem.W.mroIn K C (.type "object") = some true))
theorem ew_of {K : PySem.W.Frag} {cs : List Addr} {CS C : Addr} {j : Nat} (h : ewB K cs CS C j = true) : EwX K cs CS C j := by
  unfold ewB at h
  simp only [Bool.and_eq_true, decide_eq_true_eq, beq_iff_eq, List.all_eq_true, List.mem_range] at h
  obtain ⟨⟨⟨⟨⟨⟨h1, h2⟩, h3⟩, h4⟩, h5⟩, ⟨⟨h6, h7⟩, h8⟩, h9⟩, ⟨⟨⟨⟨⟨g1, g2⟩, g3⟩, g4⟩, g5⟩, g6⟩, g7⟩ := h
  refine ⟨⟨h1, h2, ⟨g1, g2, h8, g3, g4, g5, g6, g7⟩, fun i D e => ?_, h4⟩, ⟨h6, h7, h8, h9⟩, h5⟩
  have hi : i < 8 := by
    have := (List.getElem?_eq_some_iff.mp e).1
    omega
  have := h3 i hi
  rw [show cs.getD i 0 = D by simp [e]] at this
  exact this
theorem df_mk {G : Pg} {x : Str} {st : Stmt} {f : Addr} {h : Heap} {ps : List Str} {od an : Option Addr} {sl : Array (Option Value)} {oc kV dc pm cd ct : Value} (X : G.K.In h) (N : h.Ns mainGlobals G.mg) (a : PySem.W.nsIn G.K mainGlobals x = some (some (.ref f)))
    (l : G.K.lookup f = some ⟨oc, od, .func (PySem.W.fnOf x x (defArgs st) (defBody st) (defScope st) .none kV dc pm an cd ct), sl⟩) (c : PySem.W.codeIn G.K cd x = true) (k : PySem.W.keepIn G.K (.ref f) = true)
    (hb : ∀ fd, Fun G.K x x st f fd → Binds G.K fd ps []) : Df G x st ps :=
  let F := fun_mk (st := st) l c k
  ⟨_, _, F, PySem.W.mg_of X N a, hb _ F⟩
theorem tabs_empty {H : Hp} {P : Addr} {q : Str} (h : H P = some (.tbl #[])) : Tabs [(P, q)] H := fun p hp => by
  cases List.mem_singleton.mp hp
  exact ⟨#[], h, by trivial, fun pos cv hc => by cases hc⟩
theorem tabs_nil {H : Hp} : Tabs [] H := fun p hp => by cases hp
theorem tabs_cons {H : Hp} {P : Addr} {q : Str} {T : List (Addr × Str)} (h : H P = some (.tbl #[])) (g : Tabs T H) : Tabs ((P, q) :: T) H := fun p hp => by
  rcases List.mem_cons.mp hp with e | hp
  · rw [e]; exact tabs_empty h _ List.mem_cons_self
  · exact g p hp
/-- a def that makes lambdas, by its name -/
structure DfL (G : Pg) (x : Str) (st : Stmt) (ps : List Str) (c : Addr) : Prop where
  ex : ∃ f fd, Fun G.K x x st f fd ∧ G.mg x = some (.ref f) ∧ Binds G.K fd ps [] ∧ fd.code = .ref c
theorem dfl_mk {G : Pg} {x : Str} {st : Stmt} {f c0 : Addr} {h : Heap} {ps : List Str} {od an : Option Addr} {sl : Array (Option Value)} {oc kV dc pm ct : Value} (X : G.K.In h) (N : h.Ns mainGlobals G.mg) (a : PySem.W.nsIn G.K mainGlobals x = some (some (.ref f)))
    (l : G.K.lookup f = some ⟨oc, od, .func (PySem.W.fnOf x x (defArgs st) (defBody st) (defScope st) .none kV dc pm an (.ref c0) ct), sl⟩) (c : PySem.W.codeIn G.K (.ref c0) x = true) (k : PySem.W.keepIn G.K (.ref f) = true)
    (hb : ∀ fd, Fun G.K x x st f fd → Binds G.K fd ps []) : DfL G x st ps c0 :=
  let F := fun_mk (st := st) l c k
  ⟨_, _, F, PySem.W.mg_of X N a, hb _ F, rfl⟩
theorem fn_dataL {c : Addr} {G : Pg} {st : Stmt} {x qual : Str} {f : Addr} {fd : FuncData} {N ps : List Str} {k : Nat} {T : List (Addr × Str)} {R : List PyData → Res → Prop} (Fn : Fun G.K x qual st f fd) (S : FnScope N ps (defScope st)) (hc : fd.code = .ref c) (len : ∀ ds r, R ds r → ds.length = ps.length)
    (body : ∀ (r : Rest) (F : Fx G.K T) (ds : List PyData) (res : Res), CtD (G.cx N r) N (defScope st) F.E → Co (G.cx N r) c (qual ++ ".<locals>.") → Room k r.A → R ds res → PSs (G.cx N r) (defBody st) (sD F (start0 N ds) (postOf res))) :
    FnOk G.prog G.w G.K G.mg G.base (L2N.CX G.prog G.w) (k + 1) f fd ps (spD T R) := by
  obtain ⟨oc, od, kV, doc, pm, an, cdv, ct, osl, rfl, lk, hcd⟩ := Fn.ex
  obtain rfl : cdv = .ref c := hc
  refine fn_of lk hcd S (fun vs H Q E h => ?_) fun A outer s H vs Q E hr h => ?_
  · obtain ⟨O, ds, r, _, _, hd, hR, _⟩ := h
    rw [hd.len]
    exact len ds r hR
  · obtain ⟨O, ds, r, dom, tb, hd, hR, ok, er⟩ := h
    refine ⟨_, body ⟨A.deeper (envOfC qual (defScope st) s.heap.objs.size f (.ref c)), s, H, envOfC qual (defScope st) s.heap.objs.size f (.ref c), outer, envOfC qual (defScope st) s.heap.objs.size f (.ref c) :: outer, [], fun _ => true, true, [], _⟩ ⟨O, H, E, dom⟩ ds r ⟨⟨rfl, rfl, S.nd, rfl⟩, fun _ => rfl, passes_of rfl, L2N.takes_of rfl rfl rfl rfl, rfl, rfl⟩ ⟨rfl, rfl⟩ hr hR, O, [], ?_, (fun _ z => by cases z), ?_⟩
    · have hl := len ds r hR
      have hp : ps.length ≤ N.length := by
        have := congrArg List.length S.pre
        rw [List.length_take] at this
        omega
      have hv := hd.len
      refine ⟨?_, fun a z => z, dom, tb, ExtN.refl H, fun i u q => ?_, fun i j u w q n h1 h2 m1 m2 => ?_, fun i j R u n h1 h2 p hp => ?_⟩
      rotate_right
      · unfold start0 at h1
        by_cases hi : i < ds.length
        · rw [List.getElem?_append_left (by simpa using hi), List.getElem?_map] at h1
          cases e : ds[i]? with
          | none => rw [e] at h1; cases h1
          | some d => rw [e] at h1; cases h1
        · rw [List.getElem?_append_right (by simpa using hi), List.getElem?_replicate] at h1
          split at h1 <;> cases h1
      · simp [start0, L2.start, hv]
      · unfold start0 at q
        unfold L2.start
        by_cases hi : i < ds.length
        · rw [List.getElem?_append_left (by simpa using hi), List.getElem?_map] at q
          rw [List.getElem?_append_left (by simpa [hv] using hi), List.getElem?_map]
          cases e : ds[i]? with
          | none => rw [e] at q; cases q
          | some d =>
            rw [e] at q
            cases q
            obtain ⟨v, e1, e2⟩ := hd.get e
            rw [e1]
            exact ⟨v, rfl, e2⟩
        · rw [List.getElem?_append_right (by simpa using hi), List.getElem?_replicate] at q
          split at q
          · cases q; trivial
          · cases q
      · have no : ∀ {i : Nat} {u : Slot}, (start0 N ds)[i]? = some u → u.mine = false := fun {i u} q => by
          unfold start0 at q
          by_cases hi : i < ds.length
          · rw [List.getElem?_append_left (by simpa using hi), List.getElem?_map] at q
            cases e : ds[i]? with
            | none => rw [e] at q; cases q
            | some d => rw [e] at q; cases q; rfl
          · rw [List.getElem?_append_right (by simpa using hi), List.getElem?_replicate] at q
            split at q
            · cases q; rfl
            · cases q
        rw [no h1] at m1
        cases m1
    · exact ⟨fun δ O' σ' H' m s1 t1 => ok .none m .non H' s1.ext s1.tabs rfl, fun d v H' m e t g => ok d m v H' e t g, fun δ O' σ' H' m => m.elim, fun δ O' σ' H' m => m.elim, fun c H' m e t => er c m H' e t, fun _ _ _ _ _ _ m => m.elim, fun _ _ _ _ _ m => m.elim⟩
theorem fd_dataL {G : Pg} {st : Stmt} {x : Str} {N ps : List Str} {c : Addr} {k : Nat} {T : List (Addr × Str)} {R : List PyData → Res → Prop} (D : DfL G x st ps c) (S : FnScope N ps (defScope st)) (len : ∀ ds r, R ds r → ds.length = ps.length)
    (body : ∀ (r : Rest) (F : Fx G.K T) (ds : List PyData) (res : Res), CtD (G.cx N r) N (defScope st) F.E → Co (G.cx N r) c (x ++ ".<locals>.") → Room k r.A → R ds res → PSs (G.cx N r) (defBody st) (sD F (start0 N ds) (postOf res))) :
    Fd G.prog G.w G.K G.mg G.base x (k + 1) ps (spD T R) := by
  obtain ⟨f, fd, Fn, m, b, hc⟩ := D.ex
  exact ⟨f, fd, fn_dataL Fn S hc len body, m, Fn.kp, b⟩
theorem noCX {P : Program} {w : World} {st : List Env} {H : Hp} {s : Shared} {e : Value} {s' : Shared} (h : L2N.CX P w st H s (fun _ _ _ => False) e s') : False := by
  obtain ⟨_, _, _, _, _, _, _, _, _, _, _, _, z⟩ := h
  exact z.elim
end Lf
set_option Elab.async false
set_option linter.all false
set_option maxRecDepth 100000
set_option maxHeartbeats 4000000
namespace Lf
open PySem PySem.Spec PyProof.Rows L2 L2H HotX LamX
end Lf
set_option Elab.async false
set_option linter.all false
set_option maxRecDepth 100000
set_option maxHeartbeats 4000000
namespace Lf
open PySem PySem.Spec PyProof.Rows L2 L2H HotX LamX
def IteS (x : Str) : It :=
  ⟨fun i H => i < x.cps.size, fun i H v H' => ∃ T c, v = .ref T ∧ H T = none ∧ H' = upd H T (.tup [.int (i : Nat), .str ⟨#[c]⟩]) ∧ x.cps[i]? = some c, fun i H => x.cps.size = i⟩
theorem drawsS {P : Program} {w : World} {A : Around} (hh : A.handled = none) (it : Addr) (x : Str) (t : Tok) (ty : String) (hty : ty = "str_ascii_iterator" ∨ ty = "str_iterator") :
    Draws P w A it [it] x.cps.size (fun i v => ∃ c u, x.cps[i]? = some c ∧ v = .str ⟨#[c]⟩ u) (fun i h => h.IsStrIter it ty x t i) := by
  rcases hty with e | e
  · rw [e]; exact Draws.strAscii hh it x t
  · rw [e]; exact Draws.strWide hh it x t
theorem turn_enumS {P : Program} {w : World} {K : PySem.W.Frag} {elts : List Expr} {kk : Nat} {tpos : Pos} (e it : Addr) (x : Str) (t : Tok) (ty : String) (hty : ty = "str_ascii_iterator" ∨ ty = "str_iterator") :
    Turn P w K (.Tuple elts kk tpos) (IteS x) [e, it] e (fun i h => (∃ old, IsEnum h e it ((i : Nat) : Int) old) ∧ h.IsStrIter it ty x t i ∧ e ≠ it) where
  mem := by simp
  obj := fun i h st b hb => by
    obtain ⟨⟨old, he⟩, ⟨o, ho, hc, hd⟩, _⟩ := st
    have e' : b = e ∨ b = it := by simpa using hb
    rcases e' with z | z
    · rw [z]; exact ⟨_, he, fun v q => nomatch q⟩
    · rw [z]; exact ⟨o, ho, fun v q => by rw [hd] at q; cases q⟩
  keep := fun i h h' st k => let ⟨⟨old, he⟩, ⟨o, ho, r⟩, hne⟩ := st; ⟨⟨old, k e (by simp) _ he⟩, ⟨o, k it (by simp) o ho, r⟩, hne⟩
  item := by
    intro X hP hw hK hc i pins s σ H E I hf st hg
    subst hP hw hK
    obtain ⟨⟨old, he⟩, hit, hne⟩ := st
    have hel : e < s.heap.objs.size := Heap.lt_size he
    have hil : it < s.heap.objs.size := by obtain ⟨_, q, _⟩ := hit; exact Heap.lt_size q
    have D := drawsS (P := X.prog) (w := X.w) (A := X.A.in1) (I.ok.hd hc) it x t ty hty
    refine wpAny_pyNext_enum_itemD D he hit hg hne (by simpa using hne) fun u h' tk hu ho hit' hT hsz hk => ?_
    obtain ⟨c, t2, hcx, rfl⟩ := hu
    refine ⟨_, rfl, wpAny_letOwnedTupleGo_enum (s := { s with heap := h', toks := tk + 1 }) ho fun h'' he' sb => ?_⟩
    have hT2 : h''.get? s.heap.objs.size = some { cls := .type "tuple", data := .seq #[.int i tk, .str ⟨#[c]⟩ t2] } := (sb.2 _ (Nat.ne_of_gt hel)).trans hT
    have new : ObjOk X.prog X.w (upd H s.heap.objs.size (.tup [.int (i : Nat), .str ⟨#[c]⟩])) h'' s.heap.objs.size (.tup [.int (i : Nat), .str ⟨#[c]⟩]) :=
      ⟨by show 2 ≤ sizeLine; decide, [.int i tk, .str ⟨#[c]⟩ t2], .cons ⟨_, rfl⟩ (.cons ⟨_, rfl⟩ .nil), ⟨_, hT2, rfl, _, rfl⟩⟩
    have I1 : Inv X pins σ (upd H s.heap.objs.size (.tup [.int (i : Nat), .str ⟨#[c]⟩])) { s with heap := h'', toks := tk + 1 } :=
      I.turnedNew (ch := [e, it]) (fun b ob hb q => (sb.2 b (fun z => hb (by simp [z]))).trans (hk b ob (fun z => hb (by simp [z])) (fun z => hb (by simp [z])) q)) hf (Nat.le_refl _) new
    obtain ⟨oi, q1, q2⟩ := hit'
    refine ⟨.ref s.heap.objs.size, _, I1, rfl, ⟨_, c, rfl, I.hok.fresh (Nat.le_refl _), rfl, hcx⟩, ⟨⟨.str ⟨#[c]⟩ t2, ?_⟩, ⟨oi, (sb.2 it (Ne.symm hne)).trans q1, q2⟩, hne⟩, fun b hb => ?_⟩
    · have e1 : ((i + 1 : Nat) : Int) = (i : Int) + 1 := by omega
      rw [e1]; exact he'
    · have hb' : b < s.heap.objs.size := by
        have e' : b = e ∨ b = it := by simpa using hb
        rcases e' with z | z
        · rw [z]; exact hel
        · rw [z]; exact hil
      rw [upd_ne (Nat.ne_of_lt hb')]
      exact (hf b hb).1
  done := by
    intro X hP hw hK hc i pins s σ H E I hf st hg
    subst hP hw hK
    obtain ⟨⟨old, he⟩, hit, hne⟩ := st
    obtain ⟨f0, f1, f2, f3, f4, f5⟩ := hf it (by simp)
    have hg' : x.cps.size = i := hg
    subst hg'
    have D := drawsS (P := X.prog) (w := X.w) (A := X.A.in1) (I.ok.hd hc) it x t ty hty
    exact wpAny_pyNext_enum_endD D he hit fun h' eb => ⟨rfl, I.turned (t' := s.toks) (fun b o hb q => eb b o hb q) f0 f1 f3 f4 f5⟩
  self := fun A i s Q E st h => let ⟨⟨_, he⟩, _⟩ := st; wpAny_pyIter_enum he h
def iEnumS (ta : TA) : TI := fun σ H R => ta σ H fun vs H1 => ∃ x, vs = [.str x] ∧ R (IteS x) H1
theorem pi_enumS {X : Cx} {e : Expr} {ta : TA} {p pos tpos : Pos} {elts : List Expr} {kk : Nat} (hg : Gl X "enumerate") (hm : X.mg "enumerate" = none) (ha : PA X [e] ta) (hs : starEach [e] X.env = [(false, eval e X.env)] := by rfl) :
    PI X (.Tuple elts kk tpos) (.Call (.Name "enumerate" p) [e] [] pos) (iEnumS ta) := by
  refine ⟨fun pins s σ H R I h => ?_⟩
  refine Call_ (ld_blt I hg hm boot_enumerate (PyProof.Rows.callWith_type1 (thn (ha.run pos pins s σ H _ I h) fun us s1 hh => ?_) hs rfl))
  obtain ⟨vs, H1, I1, r1, x, ex, q⟩ := hh
  subst ex
  cases r1 with
  | cons r rr =>
    cases rr
    obtain ⟨t, rfl⟩ := r
    refine call_enumerate_str fun h' he hit hsz hk => wpAny_pyIter_enum he ?_
    have I2 : Inv X pins σ H1 { s1 with heap := h' } := I1.kept (t' := s1.toks) hk
    have hty : strIterType x = "str_ascii_iterator" ∨ strIterType x = "str_iterator" := by
      unfold strIterType
      split
      · exact .inl rfl
      · exact .inr rfl
    refine ⟨s1.heap.objs.size + 1, [s1.heap.objs.size + 1, s1.heap.objs.size], _, _, H1, rfl, I2, turn_enumS (s1.heap.objs.size + 1) s1.heap.objs.size x t _ hty, ⟨⟨.none, he⟩, hit, Nat.succ_ne_self _⟩, fun b hb => ?_, q⟩
    have e' : b = s1.heap.objs.size + 1 ∨ b = s1.heap.objs.size := by simpa using hb
    have hle : s1.heap.objs.size ≤ b := by
      rcases e' with z | z
      · rw [z]; exact Nat.le_add_right _ _
      · rw [z]; exact Nat.le_refl _
    exact I1.fpOk hle (I1.hok.fresh hle)
section
variable {Kf : PySem.W.Frag} {Tf : List (Addr × Str)} {F : Fx Kf Tf} {δ : List Slot} {X : Cx} {N : List Str} {sc : Scope} {pos p tpos : Pos} {e : Expr} {elts : List Expr} {kk : Nat} {l : List Nat} {ds : List PyData}
def enumT (l : List Nat) : List (Nat × Nat) := (List.range l.length).map fun i => (i, l.getD i 0)
def encT (x : Nat × Nat) : PyData := .tuple [natI x.1, tx [x.2]]
theorem i_enumS (cx : Ctx X N sc) (hm : X.mg "enumerate" = none) (h : PA X [e] (aD F δ [tx l])) (hg : sc.names.lookup ("enumerate" : Str) = some .globalImplicit := by rfl) (hs : starEach [e] X.env = [(false, eval e X.env)] := by rfl) :
    PI X (.Tuple elts kk tpos) (.Call (.Name "enumerate" p) [e] [] pos) (iD F δ ((enumT l).map encT)) := wkI (pi_enumS (cx.gl hg) hm h hs) fun σ H R q => by
  obtain ⟨O, st, k⟩ := q
  replace k := iD_one k
  refine ⟨O, st, fun vs H1 e1 t1 g1 => ?_⟩
  obtain ⟨v, r, rfl, ev, rfl⟩ := g1
  refine ⟨⟨l.toArray⟩, by rw [show v = V.str ⟨l.toArray⟩ from ev], k (IteS ⟨l.toArray⟩) .none .non H1 e1 t1 rfl (fun O1 H2 i d g2 dom t2 hd => ?_) fun O1 H2 g2 => ?_⟩
  · have hi : i < l.length := by
      have := (List.getElem?_eq_some_iff.mp hd).1
      simpa [enumT] using this
    have hd' : d = encT (i, l.getD i 0) := by
      unfold enumT at hd
      rw [List.getElem?_map, List.getElem?_map, List.getElem?_range hi] at hd
      exact (Option.some.inj hd).symm
    refine ⟨by show i < (⟨l.toArray⟩ : Str).cps.size; simpa using hi, fun x H3 hy => ?_⟩
    obtain ⟨T, c, rfl, hT, rfl, hc⟩ := hy
    have : l[i]? = some c := by simpa using hc
    have hc2 : l.getD i 0 = c := by simp [this]
    refine ⟨ext_new hT, tabs_new t2 hT, ?_⟩
    rw [hd']
    refine ⟨T, _, rfl, fresh_ok dom hT, upd_same, _, _, rfl, rfl, _, _, rfl, ?_, rfl⟩
    show V.str ⟨#[c]⟩ = V.str ⟨[l.getD i 0].toArray⟩
    rw [hc2]
  · show (⟨l.toArray⟩ : Str).cps.size = ((enumT l).map encT).length
    simp [enumT]
/-- enumerate(list) -/
def enumL (ds : List PyData) : List (Nat × PyData) := (List.range ds.length).map fun i => (i, ds.getD i .none)
def encL (x : Nat × PyData) : PyData := .tuple [natI x.1, x.2]
theorem i_enumL (cx : Ctx X N sc) (hm : X.mg "enumerate" = none) (h : PA X [e] (aD F δ [.list ds])) (hg : sc.names.lookup ("enumerate" : Str) = some .globalImplicit := by rfl) (hs : starEach [e] X.env = [(false, eval e X.env)] := by rfl) :
    PI X (.Tuple elts kk tpos) (.Call (.Name "enumerate" p) [e] [] pos) (iD F δ ((enumL ds).map encL)) := wkI (pi_enum (cx.gl hg) hm h hs) fun σ H R q => by
  obtain ⟨O, st, k⟩ := q
  replace k := iD_one k
  refine ⟨O, st, fun vs H1 e1 t1 g1 => ?_⟩
  obtain ⟨v, r, rfl, ev, rfl⟩ := g1
  obtain ⟨a, xs, rfl, na, ga, ra⟩ := id ev
  refine ⟨a, xs, rfl, SqL.of ga, k (Ite X.K a) (.list ds) (.ref a) H1 e1 t1 ev (fun O1 H2 i d g2 dom t2 hd => ?_) fun O1 H2 g2 => ?_⟩
  · have hi : i < ds.length := by
      have := (List.getElem?_eq_some_iff.mp hd).1
      simpa [enumL] using this
    have hx : ds[i]? = some (ds.getD i .none) := by rw [List.getD_eq_getElem?_getD, List.getElem?_eq_getElem hi]; rfl
    have hd' : d = encL (i, ds.getD i .none) := by
      unfold enumL at hd
      rw [List.getElem?_map, List.getElem?_map, List.getElem?_range hi] at hd
      exact (Option.some.inj hd).symm
    obtain ⟨b, ys, eb, nb, gb, rb⟩ := g2
    cases eb
    obtain ⟨y, hy, dy⟩ := rb.get hx
    refine ⟨⟨ys, y, SqL.of gb, hy⟩, fun x H3 hyld => ?_⟩
    obtain ⟨T, x', rfl, hT, rfl, hx'⟩ := hyld
    have := hx' ys (SqL.of gb)
    rw [hy] at this
    cases this
    refine ⟨ext_new hT, tabs_new t2 hT, ?_⟩
    rw [hd']
    exact ⟨T, _, rfl, fresh_ok dom hT, upd_same, _, _, rfl, rfl, _, _, rfl, dy.grow (ext_new hT), rfl⟩
  · obtain ⟨b, ys, eb, nb, gb, rb⟩ := g2
    cases eb
    refine ⟨ys, SqL.of gb, ?_⟩
    rw [rb.len]
    simp [enumL]
end
section
variable {Kf : PySem.W.Frag} {Tf : List (Addr × Str)} {F : Fx Kf Tf} {δ : List Slot} {X : Cx} {N : List Str} {sc : Scope} {pos px py pt pt2 : Pos} {a b : Expr} {x y : Str} {ds : List PyData} {d : PyData} {rest : List Stmt} {P : Post} {O : Addr → Prop} {H H' : Hp} {σ : L2.St} {q : Addr} {xs : List V}
theorem own_mid (st : StAt F O H σ δ) (e : ExtN H H') (t : Tabs F.T H') (hn : ∀ a, Lives H a → a ≠ q) (hq : H' q = some (.lst xs)) : StAt F (Shut O q) H' σ δ := by
  have kp : ∀ d v, Dt O H d v → Dt (Shut O q) H' d v := fun d v g => Dt.imp (fun a u n g t => ⟨fun z => z.elim n (fun e => hn a ⟨u, g, t⟩ e), e a u g t⟩) d v g
  have kpA : ∀ d v, DtAll O H d v → DtAll (Shut O q) H' d v := fun d v g => DtAll.imp (fun a u n g t => ⟨fun z => z.elim n (fun e => hn a ⟨u, g, t⟩ e), e a u g t⟩) d v g
  refine ⟨st.len, fun a z => .inl (st.o0 a z), fun a z => ?_, t, st.ext.trans e, fun i s r => ?_, st.apart, st.afar⟩
  · rcases z with z | z
    · exact (st.dom a z).grow e
    · rw [z]; exact ⟨_, hq, fun _ z => by cases z⟩
  · have g := st.slot i s r
    cases s with
    | non => trivial
    | dat d => obtain ⟨v, a, b⟩ := g; exact ⟨v, a, kp _ _ b⟩
    | own ds' => obtain ⟨p, vs', a, b, c, g, r'⟩ := g; exact ⟨p, vs', a, .inl b, c, e _ _ g (fun _ z => by cases z), kpA _ _ r'⟩
    | odk kvs => obtain ⟨p, vs', a, b, c, g, r'⟩ := g; exact ⟨p, vs', a, .inl b, c, e _ _ g (fun _ z => by cases z), r'.imp kpA⟩
    | res R => exact res_keep g (fun a ha => (g.2.2 a ha).2.2.same e) (fun a ha => .inl (g.2.2 a ha).1) kp
    | scr ns => exact g
    | any φ => exact g
theorem s_parO (i j : Nat) {kt k2 : Nat} (cx : CtD X N sc F.E) (ha : PE X a (tDL F δ ds)) (hb : PE X b (tD F δ d)) (g : PSs X rest (sD F ((δ.set i (.own ds)).set j (.dat d)) P)) (hi : N[i]? = some x := by rfl) (hj : N[j]? = some y := by rfl) (hij : i ≠ j := by decide) (hx : sc.names.lookup x = some .local := by rfl) (hy : sc.names.lookup y = some .local := by rfl)
    (hw : swappedStores [.Tuple [.Name x px, .Name y py] kt pt] (.Tuple [a, b] k2 pt2) (envS sc) = pure (some [x, y]) := by rfl) (hs : swapsWithSole [.Tuple [.Name x px, .Name y py] kt pt] (.Tuple [a, b] k2 pt2) pos.line X.env = pure false := by rfl)
    (h1 : starEach (a :: [b]) X.env = (false, eval a X.env) :: starEach [b] X.env := by rfl) (h2 : starEach [b] X.env = (false, eval b X.env) :: starEach [] X.env := by rfl) :
    PSs X (.Assign [.Tuple [.Name x px, .Name y py] kt pt] (.Tuple [a, b] k2 pt2) pos :: rest) (sD F δ P) :=
  wkSs (pss_cons (ps_par cx.calm cx.nd' (cx.at_ hi) (cx.at_ hj) hij (by rw [cx.s]; exact hx) (by rw [cx.s]; exact hy) (pa_cons ha (pa_cons hb pa_nil h2) h1) (sw_eq cx.toCtx hw) hs) g) fun D σ H h' => by
    obtain ⟨O, τ, s0, tm, w⟩ := h'
    refine ⟨O, s0, fun p xs H1 e1 t1 n1 g1 a1 => ?_⟩
    refine ⟨Shut O p, own_mid s0 e1 t1 n1 g1, fun v H2 e2 t2 g2 => ?_⟩
    obtain ⟨s3, t3⟩ := own_out s0 tm i (e1.trans e2) t2 n1 (e2 _ _ g1 (fun _ z => by cases z)) (a1.grow e2)
    exact ⟨_, _, rfl, Shut O p, τ, s3.setD j g2, t3, w⟩
end
end Lf
set_option Elab.async false
set_option linter.all false
set_option maxRecDepth 100000
set_option maxHeartbeats 4000000
namespace Lf
open PySem PySem.Spec PyProof.Rows L2 L2H HotX LamX
section
variable {Kf : PySem.W.Frag} {Tf : List (Addr × Str)} {F : Fx Kf Tf} {δ : List Slot} {X : Cx} {N : List Str} {sc : Scope} {pos p px tpos : Pos} {a b e : Expr} {es : List Expr} {x : Str} {ds : List PyData} {d : PyData} {rest : List Stmt} {P : Post} {R : List PyData → Res → Prop} {k : Nat} {ps : List Str} {r : Res}
def rMulS : R2 := fun x y H Q => ∃ s n, x = .str s ∧ y = .int n ∧ MulOk s n ∧ Q (.str (Txt.mul s n)) H
theorem op_repS : OpR X (binaryOp .Mult) rMulS := by
  intro pins s σ H x y v u Q I rx ry h
  obtain ⟨a, n, rfl, rfl, hok, q⟩ := h
  obtain ⟨t, rfl⟩ := rx
  obtain ⟨t', rfl⟩ := ry
  exact PySem.SB.mul hok fun t2 k2 => ⟨.str (Txt.mul a n), H, I.kept (t' := k2) (fun _ _ e => e), ⟨t2, rfl⟩, q⟩
theorem mul_tx (l : List Nat) {n : Nat} (hn : 1 ≤ n) : Txt.mul ⟨l.toArray⟩ (n : Int) = ⟨(List.replicate n l).flatten.toArray⟩ := by
  unfold Txt.mul
  rw [if_neg (by omega)]
  have key : ∀ (k : Nat) (acc : Array Nat), ((List.replicate k l.toArray).foldl (· ++ ·) acc) = acc ++ (List.replicate k l).flatten.toArray := fun k => by
    induction k with
    | zero => intro acc; simp
    | succ k ih => intro acc; rw [List.replicate_succ, List.foldl_cons, ih, List.replicate_succ, List.flatten_cons]; simp
  split
  · rename_i h
    simp at h
    rcases h with h | h
    · have : n = 1 := by omega
      subst this
      simp
    · have : l = [] := by simpa [Str.length] using h
      subst this
      simp
  · rw [Int.toNat_natCast]
    show (⟨(List.replicate n l.toArray).foldl (· ++ ·) #[]⟩ : Str) = _
    rw [key]
    simp
theorem od_repS {l : List Nat} {n : Nat} (hn : 1 ≤ n) (hn2 : n ≤ 100000) (hz : l.length * n ≤ 100000) : OpD F rMulS (tx l) (.int (n : Int)) (tx (List.replicate n l).flatten) := fun O H x y Q _ w hx hy k => by
  refine ⟨_, _, hx, hy, ⟨?_, fun _ _ => ?_, fun _ _ => ?_⟩, k _ H (ExtN.refl H) w (by rw [mul_tx l hn]; rfl)⟩
  · simp
    omega
  · rw [tx_len]
    refine Int.not_lt.mpr (Int.le_ediv_of_mul_le (by omega) ?_)
    have : ((l.length : Int) * (n : Int)) = ((l.length * n : Nat) : Int) := by simp
    rw [this]
    omega
  · rw [tx_len, Int.toNat_natCast]
    unfold Builtin.Str.tooLong
    refine decide_eq_false ?_
    have : (100000 : Nat) ≤ sizeLine := by decide
    omega
theorem low1 : ∀ c, c < 128 → Txt.lower ⟨#[c]⟩ = ⟨#[lowC c]⟩ := by
  have h : (List.range 128).all (fun c => (Txt.lower ⟨#[c]⟩).cps == #[lowC c]) = true := by decide +kernel
  intro c hc
  have := List.all_eq_true.mp h c (List.mem_range.mpr hc)
  exact Str.ext' (by simpa using this)
theorem md_low1 {c : Nat} (hc : c < 128) : MtD F (fun x xs H Q => ∃ a, x = .str a ∧ xs = [] ∧ a.length ≤ 5592405 ∧ Q (.str (Txt.lower a)) H) (tx [c]) [] (tx [lowC c]) := fun O H x xs Q _ w hx h k => by
  cases (show xs = [] from h)
  exact ⟨_, hx, rfl, by rw [tx_len]; simp, k _ H (ExtN.refl H) w (by show V.str (Txt.lower ⟨#[c]⟩) = _; rw [low1 c hc])⟩
/-- x.append(e) -/
theorem s_appN (i : Nat) {pa pc : Pos} (cx : Ctx X N sc) (hi : δ[i]? = some (.own ds)) (h : PE X e (tD F δ d)) (hz : ds.length < 100000) (g : PSs X rest (sD F (δ.set i (.own (ds ++ [d]))) P)) (hN : N[i]? = some x := by rfl) (hv : Vis sc x := by first | exact Or.inl rfl | exact Or.inr (Or.inl rfl) | exact Or.inr (Or.inr rfl))
    (hd : (x == ("__debug__" : Str)) = false := by decide) (hcd : (x == ("__classdict__" : Str)) = false := by decide) (hbase : attributeBase (.Name x px) "append" X.env (eval (.Name x px) X.env) = eval (.Name x px) X.env := by rfl)
    (hfew : ((backTo pc (starEach [e] X.env)).all (fun x => !x.1) && (backToKw pc (keywordEach [] X.env)).all (fun x => x.1.isSome)
      && decide ([e].length + ([] : List Keyword).length + (if ([] : List Keyword).isEmpty then 0 else 1) < 30)) = true := by rfl)
    (hline : (pa.endLine == pc.line) = true := by rfl) (hse : starEach [e] X.env = (false, eval e X.env) :: starEach [] X.env := by rfl) (hs : swapsWith (.Call (.Attribute (.Name x px) "append" pa) [e] [] pc) none pos.line X.env = pure false := by rfl) :
    PSs X (.Expr (.Call (.Attribute (.Name x px) "append" pa) [e] [] pc) pos :: rest) (sD F δ P) :=
  s_app i cx hi h hz g hN hv hd hcd (pe_bm PySem.F.plainAttrs_list PySem.F.slot_list_append PySem.F.type_list_append mt_append (pe_var (i := i) (cx.at_ hN) (cx.vis hv) hd hcd) (pa_cons h pa_nil hse) hbase hfew hline hse rfl) hs
end
end Lf
set_option Elab.async false
set_option linter.all false
set_option maxRecDepth 100000
set_option maxHeartbeats 4000000
namespace Lf
open PySem PySem.Spec PyProof.Rows L2 L2H HotX LamX
def kNone : List Nat := [110, 111, 110, 101]
def kSmall : List Nat := [115, 109, 97, 108, 108]
def kGreat : List Nat := [103, 114, 101, 97, 116]
def kFig : List Nat := [102, 105, 103, 117, 114, 101]
def kindL (c : Nat) : List Nat := if c ∈ lSmall then kSmall else if c ∈ lFig then kFig else if c ∈ lGreat then kGreat else kNone
theorem kd1 {c : Nat} (h : decide (c ∈ lSmall) = true) : tx kSmall = tx (kindL c) := by
  unfold kindL
  rw [if_pos (by simpa using h)]
theorem kd2 {c : Nat} (h : decide (c ∈ lSmall) = false) (h2 : decide (c ∈ lFig) = true) : tx kFig = tx (kindL c) := by
  unfold kindL
  rw [if_neg (by simpa using h), if_pos (by simpa using h2)]
theorem kd3 {c : Nat} (h : decide (c ∈ lSmall) = false) (h2 : decide (c ∈ lFig) = false) (h3 : decide (c ∈ lGreat) = true) : tx kGreat = tx (kindL c) := by
  unfold kindL
  rw [if_neg (by simpa using h), if_neg (by simpa using h2), if_pos (by simpa using h3)]
theorem kd4 {c : Nat} (h : decide (c ∈ lSmall) = false) (h2 : decide (c ∈ lFig) = false) (h3 : decide (c ∈ lGreat) = false) : tx kNone = tx (kindL c) := by
  unfold kindL
  rw [if_neg (by simpa using h), if_neg (by simpa using h2), if_neg (by simpa using h3)]
def R_law_kind (ds : List PyData) (r : Res) : Prop := ∃ c, ds = [tx [c]] ∧ r = .ok (tx (kindL c))
def pairsD : List PyData := [.tuple [tx [110, 111, 110, 101], tx [115, 109, 97, 108, 108]], .tuple [tx [110, 111, 110, 101], tx [103, 114, 101, 97, 116]], .tuple [tx [110, 111, 110, 101], tx [102, 105, 103, 117, 114, 101]], .tuple [tx [115, 109, 97, 108, 108], tx [103, 114, 101, 97, 116]], .tuple [tx [102, 105, 103, 117, 114, 101], tx [103, 114, 101, 97, 116]]] ++ [.tuple [tx [115, 109, 97, 108, 108], tx [102, 105, 103, 117, 114, 101]], .tuple [tx [103, 114, 101, 97, 116], tx [102, 105, 103, 117, 114, 101]], .tuple [tx [102, 105, 103, 117, 114, 101], tx [115, 109, 97, 108, 108]]]
def hitK (b k : List Nat) : Bool := pairsD.any fun z => PyData.eqv z (.tuple [tx b, tx k])
def stepK (s : List Nat × List Nat) (x : Nat × Nat) : List Nat × List Nat := (if hitK s.2 (kindL x.2) = true then s.1 ++ [x.1] else s.1, kindL x.2)
def foldK (pre : List (Nat × Nat)) : List Nat × List Nat := pre.foldl stepK ([], kNone)
theorem foldK_snoc (pre : List (Nat × Nat)) (x : Nat × Nat) : foldK (pre ++ [x]) = stepK (foldK pre) x := by
  unfold foldK
  rw [List.foldl_append]
  rfl
def lawStarts (l : List Nat) : List Nat := (foldK (enumT l)).1
def R_law_starts (ds : List PyData) (r : Res) : Prop := ∃ l, ds = [tx l] ∧ l.length ≤ 10000 ∧ r = .ok (.list ((lawStarts l).map natI))
theorem kind_ok (c : Nat) : ∀ x ∈ kindL c, x < 1114112 := by
  unfold kindL
  split
  · decide
  · split
    · decide
    · split
      · decide
      · decide
theorem snd_ok (pre : List (Nat × Nat)) : ∀ x ∈ (foldK pre).2, x < 1114112 := by
  rcases List.eq_nil_or_concat pre with h | ⟨q, y, h⟩
  · subst h
    decide
  · rw [h, List.concat_eq_append, foldK_snoc]
    exact kind_ok _
theorem lay2 {a b : List Nat} (ha : ∀ x ∈ a, x < 1114112) (hb : ∀ x ∈ b, x < 1114112) : Lay 1 (.tuple [tx a, tx b]) := lay_tuple (n := 0) fun d hd => by
  rcases List.mem_cons.mp hd with h | hd
  · rw [h]; exact lay_tx ha
  · rcases List.mem_cons.mp hd with h | hd
    · rw [h]; exact lay_tx hb
    · cases hd
theorem pairs_lay : Lay 2 (.list pairsD) := ⟨by decide +kernel, by decide +kernel⟩
theorem foldK_len (pre : List (Nat × Nat)) : (foldK pre).1.length ≤ pre.length := by
  unfold foldK
  suffices h : ∀ s : List Nat × List Nat, (pre.foldl stepK s).1.length ≤ s.1.length + pre.length by simpa using h ([], kNone)
  induction pre with
  | nil => intro s; simp
  | cons x r ih =>
    intro s
    rw [List.foldl_cons]
    refine Nat.le_trans (ih _) ?_
    unfold stepK
    dsimp only
    split
    · simp
      omega
    · simp
def alpha : List Nat := lSmall ++ lGreat ++ lFig ++ lOth
def kinds : List (List Nat) := [kNone, kSmall, kGreat, kFig]
theorem kind_tab : ∀ c ∈ alpha, (decide (c ∈ lOth) = decide (kindL c = kNone)) ∧ (decide (c ∈ lGreat) = decide (kindL c = kGreat)) ∧ (decide (c ∈ lFig) = decide (kindL c = kFig)) ∧ kindL c ∈ kinds := by decide +kernel
theorem hit_tab : ∀ b ∈ kinds, ∀ k ∈ kinds, hitK b k = (if k = kNone then false else if b = kNone then true else if k = kGreat then !decide (b = kGreat) else !decide (decide (k = kFig) = decide (b = kFig))) := by decide +kernel
theorem begins_kind {l : List Nat} {i : Nat} (hc : l.getD i 0 ∈ alpha) (hb : i ≠ 0 → l.getD (i - 1) 0 ∈ alpha) : begins l i = hitK (if i = 0 then kNone else kindL (l.getD (i - 1) 0)) (kindL (l.getD i 0)) := by
  obtain ⟨c1, c2, c3, c4⟩ := kind_tab _ hc
  unfold begins
  generalize l.getD i 0 = c at *
  by_cases h0 : i = 0
  · subst h0
    rw [if_pos rfl, hit_tab kNone (by decide) _ c4]
    by_cases h : c ∈ lOth
    · have : kindL c = kNone := by simpa [h] using c1
      simp [h, this]
    · have : ¬ kindL c = kNone := by simpa [h] using c1
      simp [h, this]
  · have hb := hb h0
    obtain ⟨b1, b2, b3, b4⟩ := kind_tab _ hb
    generalize l.getD (i - 1) 0 = b at *
    rw [if_neg h0, hit_tab _ b4 _ c4]
    simp only [h0, false_or]
    have e1 : (c ∈ lOth) = (kindL c = kNone) := propext (decide_eq_decide.mp c1)
    have e2 : (c ∈ lGreat) = (kindL c = kGreat) := propext (decide_eq_decide.mp c2)
    have e4 : (b ∈ lOth) = (kindL b = kNone) := propext (decide_eq_decide.mp b1)
    rw [c3, b3, b2]
    simp only [e1, e2, e4]
theorem fold_upto {l : List Nat} (ha : ∀ c ∈ l, c ∈ alpha) : ∀ n, n ≤ l.length → foldK ((List.range n).map fun i => (i, l.getD i 0)) = ((List.range n).filter (begins l), if n = 0 then kNone else kindL (l.getD (n - 1) 0))
  | 0, _ => rfl
  | n + 1, h => by
    have hin : ∀ i, i < l.length → l.getD i 0 ∈ alpha := fun i hi => by
      rw [List.getD_eq_getElem?_getD, List.getElem?_eq_getElem hi]
      exact ha _ (List.getElem_mem hi)
    rw [List.range_succ, List.map_append, List.map_singleton, foldK_snoc, fold_upto ha n (by omega), List.filter_append]
    unfold Lf.stepK
    dsimp only
    rw [← begins_kind (hin n (by omega)) (fun h0 => hin _ (by omega))]
    by_cases hb : begins l n = true
    · simp [hb]
    · simp [hb]
theorem starts_same {l : List Nat} (ha : ∀ c ∈ l, c ∈ alpha) : lawStarts l = startsL l := by
  unfold lawStarts startsL enumT
  rw [fold_upto ha _ (Nat.le_refl _)]
theorem isNm_alpha {l : List Nat} (h : isNm l = true) : ∀ c ∈ l, c ∈ alpha := by
  unfold isNm at h
  simp only [Bool.and_eq_true, List.all_eq_true, decide_eq_true_eq] at h
  exact h.2
theorem alpha_low : ∀ c ∈ alpha, c < 128 ∧ smallC c = lowC c := by decide +kernel
theorem sign_alpha (m : Int) : signC m ∈ alpha := by
  unfold signC
  have key : ∀ (l : List Nat) (n : Nat), l.all (fun c => decide (c ∈ alpha)) = true → n < l.length → l.getD n 0 ∈ alpha := fun l n h hn => by
    rw [List.getD_eq_getElem?_getD, List.getElem?_eq_getElem hn]
    exact of_decide_eq_true (List.all_eq_true.mp h _ (List.getElem_mem hn))
  split
  · exact key lSig1 _ (by decide) (by have := Int.emod_lt_of_pos (m / 16) (show (0 : Int) < 14 by decide); have : lSig1.length = 14 := rfl; omega)
  · exact key lSig2 _ (by decide) (by have := Int.emod_lt_of_pos (m / 16) (show (0 : Int) < 17 by decide); have : lSig2.length = 17 := rfl; omega)
def alnum : List Nat := lSmall ++ lGreat ++ lFig
theorem nameL_len (m n : Int) (h0 : 0 < n) : 1 ≤ (nameL m n).length ∧ ((nameL m n).length : Int) ≤ n := by
  unfold nameL
  rw [List.length_map, List.length_range]
  have h1 := Int.emod_nonneg m (show n ≠ 0 by omega)
  have h2 := Int.emod_lt_of_pos m h0
  omega
theorem nameL_ok {m n : Int} (h0 : 0 < n) (h : n ≤ 30) : isNm (nameL m n) = true := by
  have hl := nameL_len m n h0
  unfold isNm
  simp only [Bool.and_eq_true, List.all_eq_true, decide_eq_true_eq]
  refine ⟨⟨hl.1, by omega⟩, fun c hc => ?_⟩
  unfold nameL at hc
  obtain ⟨j, _, rfl⟩ := List.mem_map.mp hc
  exact sign_alpha _
theorem R_law_starts_ok {l : List Nat} (hz : l.length ≤ 10000) (hn : isNm l = true) : R_law_starts [tx l] (.ok (.list ((startsL l).map natI))) := ⟨_, rfl, hz, by rw [starts_same (isNm_alpha hn)]⟩
theorem lay_ints {α : Type} {l : List α} {g : α → Int} : Lay 1 (.list (l.map fun x => .int (g x))) := lay_list (n := 0) fun d hd => by
  obtain ⟨i, _, rfl⟩ := List.mem_map.mp hd
  exact lay_int
theorem lay_nats {l : List Nat} : Lay 1 (.list (l.map natI)) := lay_ints
theorem eqv_self {n : Nat} {d : PyData} (h : Lay n d) : PyData.eqv d d = true := PySem.SeqAt.eqv_refl d h.1
end Lf
set_option Elab.async false
set_option linter.all false
set_option maxRecDepth 100000
set_option maxHeartbeats 4000000
namespace Lf
open PySem PySem.Spec PyProof.Rows L2 L2H HotX LamX
section
variable {Kf : PySem.W.Frag} {Tf : List (Addr × Str)} {F : Fx Kf Tf} {δ : List Slot} {X : Cx} {N : List Str} {sc : Scope} {pos p px pa pc p1 p2 p3 : Pos} {a b c e tg : Expr} {x : Str} {ds es : List PyData} {d : PyData} {rest : List Stmt} {P : Post}
/-- range(i, j, -1) -/
def downFrom (i : Int) (n : Nat) : List PyData := (List.range n).map fun (k : Nat) => PyData.int (i - (k : Int))
theorem i_rangeD {i j : Int} (cx : Ctx X N sc) (hm : X.mg "range" = none) (h : PA X [a, b, c] (aD F δ [.int i, .int j, .int (-1)])) (h0 : -(2 ^ 62) ≤ i ∧ i < 2 ^ 62) (h1 : -(2 ^ 62) ≤ j ∧ j < 2 ^ 62) (hg : sc.names.lookup ("range" : Str) = some .globalImplicit := by rfl)
    (hs : starEach [a, b, c] X.env = (false, eval a X.env) :: starEach [b, c] X.env := by rfl) (hpl : (backTo pos (starEach [b, c] X.env)).any (·.1) = false := by rfl) :
    PI X tg (.Call (.Name "range" p) [a, b, c] [] pos) (iD F δ (downFrom i (i - j).toNat)) := wkI (pi_range3 (cx.gl hg) hm h hs hpl) fun σ H R q => by
  obtain ⟨O, st, k⟩ := q
  replace k := iD_one k
  refine ⟨O, st, fun vs H1 e1 t1 g1 => ?_⟩
  obtain ⟨v, r, rfl, ev, u, r', rfl, eu, w, r'', rfl, ew, rfl⟩ := g1
  rw [show v = V.int i from ev, show u = V.int j from eu, show w = V.int (-1) from ew]
  refine ⟨i, j, -1, (i - j).toNat, rfl, RgC.neg h0.1 h0.2 h1.1 h1.2, k (Itc i (-1) (i - j).toNat) .none .non H1 e1 t1 rfl (fun O1 H2 n d g2 dom t2 hd => ?_) fun O1 H2 g2 => ?_⟩
  · have hi : n < (i - j).toNat := by
      have := (List.getElem?_eq_some_iff.mp hd).1
      simpa [downFrom] using this
    refine ⟨hi, fun y H3 hy => ?_⟩
    obtain ⟨rfl, rfl⟩ := hy
    refine ⟨ExtN.refl _, t2, ?_⟩
    have : d = .int (i - (n : Int)) := by
      unfold downFrom at hd
      rw [List.getElem?_map, List.getElem?_range hi] at hd
      exact (Option.some.inj hd).symm
    rw [this]
    show V.int (i + (n : Int) * -1) = V.int (i - (n : Int))
    congr 1
    omega
  · show (i - j).toNat ≤ (downFrom i (i - j).toNat).length
    simp [downFrom]
/-- x.extend(e) -/
theorem s_ext (i : Nat) (cx : Ctx X N sc) (hi : δ[i]? = some (.own ds)) (h : PE X e (tD F δ (.list es))) (hz : ds.length + es.length ≤ sizeLine) (g : PSs X rest (sD F (δ.set i (.own (ds ++ es))) P)) (hN : N[i]? = some x := by rfl) (hv : Vis sc x := by first | exact Or.inl rfl | exact Or.inr (Or.inl rfl) | exact Or.inr (Or.inr rfl))
    (hd : (x == ("__debug__" : Str)) = false := by decide) (hcd : (x == ("__classdict__" : Str)) = false := by decide) (hbase : attributeBase (.Name x px) "extend" X.env (eval (.Name x px) X.env) = eval (.Name x px) X.env := by rfl)
    (hfew : ((backTo pc (starEach [e] X.env)).all (fun x => !x.1) && (backToKw pc (keywordEach [] X.env)).all (fun x => x.1.isSome)
      && decide ([e].length + ([] : List Keyword).length + (if ([] : List Keyword).isEmpty then 0 else 1) < 30)) = true := by rfl)
    (hline : (pa.endLine == pc.line) = true := by rfl) (hse : starEach [e] X.env = (false, eval e X.env) :: starEach [] X.env := by rfl) (hs : swapsWith (.Call (.Attribute (.Name x px) "extend" pa) [e] [] pc) none pos.line X.env = pure false := by rfl) :
    PSs X (.Expr (.Call (.Attribute (.Name x px) "extend" pa) [e] [] pc) pos :: rest) (sD F δ P) :=
  wkSs (pss_cons (ps_expr (pe_bm PySem.F.plainAttrs_list PySem.F.slot_list_extend PySem.F.type_list_extend mt_extend (pe_var (i := i) (cx.at_ hN) (cx.vis hv) hd hcd) (pa_cons h pa_nil hse) hbase hfew hline hse rfl) hs) g) fun D σ H h' => by
    obtain ⟨O, τ, s0, tm, w⟩ := h'
    obtain ⟨q, xs, e1, o1, nl, gq, r⟩ := s0.slot i _ hi
    have hv := get_some e1
    refine ⟨.ref q, hv, .inl ⟨rfl, _, SqL.of gq⟩, O, s0, fun v H1 e' t' g' => ?_⟩
    have gq1 := e' _ _ gq (fun _ z => by cases z)
    obtain ⟨q2, ys, rfl, n2, h2, r2⟩ := g'
    refine ⟨q, q2, xs, ys, rfl, rfl, gq1, h2, by rw [r.len, r2.len]; exact hz, ?_⟩
    obtain ⟨s1, t1⟩ := own_turn (s0.grow e' t') (tm.grow e') hi hv gq1 ((r.grow e').app r2)
    exact ⟨O, τ, s1, t1, w⟩
end
end Lf
set_option Elab.async false
set_option linter.all false
set_option maxRecDepth 100000
set_option maxHeartbeats 4000000
namespace Lf
open PySem PySem.Spec PyProof.Rows L2 L2H HotX LamX
def hitC (o s : Nat) : Bool := decide (s = o) || (decide (o ∈ lSmall) && decide (smallC s = o))
def hitL (o s : Nat) : Bool := decide (o = s) || (decide (o ∈ lSmall) && decide (o = lowC s))
theorem hit_same {o s : Nat} (h : s ∈ alpha) : hitL o s = hitC o s := by
  unfold hitL hitC
  rw [(alpha_low s h).2]
  simp only [eq_comm]
/-- the first row -/
def gr : List Nat → List Nat → Nat → Option (List Nat)
  | [], _, _ => some []
  | _ :: _, [], _ => none
  | o :: a, c :: n, k => if hitC o c = true then (gr a n (k + 1)).map (k :: ·) else gr (o :: a) n (k + 1)
/-- all rows -/
def rowsS : List Nat → List Nat → Nat → List (List Nat)
  | [], _, _ => [[]]
  | _ :: _, [], _ => []
  | o :: a, c :: n, k => (if hitC o c = true then (rowsS a n (k + 1)).map (k :: ·) else []) ++ rowsS (o :: a) n (k + 1)
/-- how many -/
def rc : List Nat → List Nat → Nat
  | [], _ => 1
  | _ :: _, [] => 0
  | o :: a, c :: n => (if hitC o c = true then rc a n else 0) + rc (o :: a) n
def ch : Nat → Nat → Nat
  | _, 0 => 1
  | 0, _ + 1 => 0
  | n + 1, m + 1 => ch n m + ch n (m + 1)
theorem rows_len : ∀ (a n : List Nat) (k : Nat), (rowsS a n k).length = rc a n
  | [], n, _ => by cases n <;> rfl
  | _ :: _, [], _ => rfl
  | o :: a, c :: n, k => by
    unfold rowsS rc
    rw [List.length_append, rows_len (o :: a) n]
    split
    · rw [List.length_map, rows_len a n]
    · rfl
theorem rc_ch : ∀ (a n : List Nat), rc a n ≤ ch n.length a.length
  | [], n => by cases n <;> exact Nat.le_refl _
  | _ :: _, [] => Nat.le_refl _
  | o :: a, c :: n => by
    show (if hitC o c = true then rc a n else 0) + rc (o :: a) n ≤ ch n.length a.length + ch n.length (a.length + 1)
    have h1 := rc_ch a n
    have h2 : rc (o :: a) n ≤ ch n.length (a.length + 1) := rc_ch (o :: a) n
    split <;> omega
theorem ch_small : ∀ n, n ≤ 12 → ∀ m, m ≤ 8 → ch n m ≤ 924 := by decide +kernel
theorem rc_zero (o : Nat) : ∀ (a n : List Nat), rc a n = 0 → rc (o :: a) n = 0
  | a, [], _ => rfl
  | a, c :: n, h => by
    have h1 : rc a n = 0 := by
      cases a with
      | nil => cases h
      | cons x a =>
        have h : (if hitC x c = true then rc a n else 0) + rc (x :: a) n = 0 := h
        omega
    show (if hitC o c = true then rc a n else 0) + rc (o :: a) n = 0
    rw [h1, rc_zero o a n h1]
    split <;> rfl
theorem gr_head : ∀ (a n : List Nat) (k : Nat), gr a n k = (rowsS a n k).head?
  | [], n, _ => by cases n <;> rfl
  | _ :: _, [], _ => rfl
  | o :: a, c :: n, k => by
    unfold gr rowsS
    by_cases h : hitC o c = true
    · rw [if_pos h, if_pos h, gr_head a n]
      cases q : rowsS a n (k + 1) with
      | nil =>
        have z : rowsS (o :: a) n (k + 1) = [] := by
          refine List.length_eq_zero_iff.mp ?_
          rw [rows_len]
          refine rc_zero o a n ?_
          rw [← rows_len a n (k + 1), q]
          rfl
        rw [z]
        rfl
      | cons r rs => rfl
    · rw [if_neg h, if_neg h, gr_head (o :: a) n]
      rfl
theorem gr_none : ∀ (a n : List Nat) (k : Nat), gr a n k = none ↔ rowsS a n k = [] := fun a n k => by
  rw [gr_head]
  exact List.head?_eq_none_iff
def rowD (r : List Nat) : PyData := .list (r.map natI)
def optD : Option (List Nat) → PyData
  | none => .none
  | some r => rowD r
def R_is_hit (ds : List PyData) (r : Res) : Prop := ∃ o s, ds = [tx [o], tx [s]] ∧ r = .ok (.bool (hitC o s))
def R_greedy (ds : List PyData) (r : Res) : Prop := ∃ a n, ds = [tx a, tx n] ∧ a.length ≤ 10000 ∧ n.length ≤ 10000 ∧ r = .ok (optD (gr a n 0))
theorem isAs_len {l : List Nat} (h : isAs l = true) : l.length ≤ 8 := by
  unfold isAs at h
  simp only [Bool.and_eq_true, decide_eq_true_eq] at h
  exact h.1
theorem isNm_len {l : List Nat} (h : isNm l = true) : 1 ≤ l.length ∧ l.length ≤ 30 := by
  unfold isNm at h
  simp only [Bool.and_eq_true, decide_eq_true_eq] at h
  exact h.1
theorem take_snoc {a : List Nat} {i : Nat} (h : i < a.length) : a.take (i + 1) = a.take i ++ [a.getD i 0] := by
  rw [List.take_succ_eq_append_getElem h, List.getD_eq_getElem?_getD, List.getElem?_eq_getElem h]
  rfl
theorem drop_at {n : List Nat} {b : Nat} (h : b < n.length) : n.drop b = n.getD b 0 :: n.drop (b + 1) := by
  rw [List.drop_eq_getElem_cons h, List.getD_eq_getElem?_getD, List.getElem?_eq_getElem h]
  rfl
theorem gr_hit {o b : Nat} {p n : List Nat} (h : b < n.length) (hh : hitC o (n.getD b 0) = true) : gr (o :: p) (n.drop b) b = (gr p (n.drop (b + 1)) (b + 1)).map (b :: ·) := by
  rw [drop_at h]
  show (if _ then _ else _) = _
  rw [if_pos hh]
theorem gr_miss {o b : Nat} {p n : List Nat} (h : b < n.length) (hh : hitC o (n.getD b 0) = false) : gr (o :: p) (n.drop b) b = gr (o :: p) (n.drop (b + 1)) (b + 1) := by
  rw [drop_at h]
  show (if _ then _ else _) = _
  rw [hh]
  rfl
theorem gr_end {o : Nat} {p n : List Nat} : gr (o :: p) (n.drop n.length) n.length = none := by
  rw [List.drop_length]
  rfl
theorem dec_lt {a b : Nat} (h : decide ((a : Int) < (b : Int)) = true) : a < b := by
  have := of_decide_eq_true h
  omega
theorem rows_hit {o b : Nat} {p n : List Nat} (h : b < n.length) (hh : hitC o (n.getD b 0) = true) : rowsS (o :: p) (n.drop b) b = (rowsS p (n.drop (b + 1)) (b + 1)).map (b :: ·) ++ rowsS (o :: p) (n.drop (b + 1)) (b + 1) := by
  rw [drop_at h]
  show (if _ then _ else _) ++ _ = _
  rw [if_pos hh]
theorem rows_miss {o b : Nat} {p n : List Nat} (h : b < n.length) (hh : hitC o (n.getD b 0) = false) : rowsS (o :: p) (n.drop b) b = rowsS (o :: p) (n.drop (b + 1)) (b + 1) := by
  rw [drop_at h]
  show (if _ then _ else _) ++ _ = _
  rw [hh]
  rfl
theorem gr_len : ∀ (a n : List Nat) (k : Nat) (q : List Nat), gr a n k = some q → q.length = a.length
  | [], n, k, q, h => by cases n <;> (cases h; rfl)
  | _ :: _, [], _, _, h => by cases h
  | o :: a, c :: n, k, q, h => by
    unfold gr at h
    split at h
    · obtain ⟨r, hr, rfl⟩ := Option.map_eq_some_iff.mp h
      rw [List.length_cons, List.length_cons, gr_len a n _ r hr]
    · exact gr_len (o :: a) n _ q h
theorem gr_lt : ∀ (a n : List Nat) (k : Nat) (q : List Nat), gr a n k = some q → ∀ i ∈ q, i < k + n.length
  | [], n, k, q, h, i, hi => by cases n <;> (cases h; cases hi)
  | _ :: _, [], _, _, h, _, _ => by cases h
  | o :: a, c :: n, k, q, h, i, hi => by
    unfold gr at h
    rw [List.length_cons]
    split at h
    · obtain ⟨r, hr, rfl⟩ := Option.map_eq_some_iff.mp h
      rcases List.mem_cons.mp hi with rfl | hi
      · omega
      · have := gr_lt a n _ r hr i hi
        omega
    · have := gr_lt (o :: a) n _ q h i hi
      omega
theorem at_of {l : List Nat} {i : Int} {j : Nat} (e : i = ((j : Nat) : Int)) (h : j < l.length) : atI l i = some (l.getD j 0) := by
  rw [e]
  exact getD_at h
theorem rows_nil (n : List Nat) (k : Nat) : rowsS [] n k = [[]] := by cases n <;> rfl
theorem rows_mem : ∀ {a n : List Nat} {k : Nat} {r : List Nat}, r ∈ rowsS a n k → r.length = a.length
  | [], n, k, r, h => by
    rw [rows_nil] at h
    rw [List.mem_singleton.mp h]
  | _ :: _, [], _, _, h => by cases h
  | o :: a, c :: n, k, r, h => by
    unfold rowsS at h
    rcases List.mem_append.mp h with h | h
    · split at h
      · obtain ⟨q, hq, rfl⟩ := List.mem_map.mp h
        rw [List.length_cons, List.length_cons, rows_mem hq]
      · cases h
    · exact rows_mem h
end Lf
set_option Elab.async false
set_option linter.all false
set_option maxRecDepth 100000
set_option maxHeartbeats 4000000
namespace Lf
open PySem PySem.Spec PyProof.Rows L2 L2H HotX LamX
def posL (o : Nat) (n : List Nat) (k : Nat) : List Nat := ((List.range (n.length - k)).filter fun i => hitC o (n.getD (k + i) 0)).map fun i => k + i
theorem pos_step {o k : Nat} {n : List Nat} (h : k < n.length) : posL o n k = (if hitC o (n.getD k 0) = true then [k] else []) ++ posL o n (k + 1) := by
  unfold posL
  rw [show n.length - k = (n.length - (k + 1)) + 1 by omega, List.range_succ_eq_map, List.filter_cons, List.filter_map]
  have e : ((fun i => hitC o (n.getD (k + i) 0)) ∘ Nat.succ) = fun i => hitC o (n.getD (k + 1 + i) 0) := by
    funext i
    show hitC o (n.getD (k + (i + 1)) 0) = _
    rw [show k + (i + 1) = k + 1 + i by omega]
  rw [e]
  have e2 : ∀ l : List Nat, (l.map Nat.succ).map (fun i => k + i) = l.map fun i => k + 1 + i := fun l => by
    rw [List.map_map]
    refine List.map_congr_left fun i _ => ?_
    show k + (i + 1) = k + 1 + i
    omega
  rw [Nat.add_zero]
  split
  · rw [List.map_cons, e2]
    rfl
  · rw [e2]
    rfl
theorem rows_pos (o : Nat) (a n : List Nat) : ∀ (j k : Nat), n.length - k = j → k ≤ n.length → rowsS (o :: a) (n.drop k) k = (posL o n k).flatMap fun p => (rowsS a (n.drop (p + 1)) (p + 1)).map (p :: ·)
  | 0, k, h, hk => by
    have : k = n.length := by omega
    subst this
    rw [List.drop_length]
    unfold posL
    simp [rowsS]
  | j + 1, k, h, hk => by
    have hlt : k < n.length := by omega
    rw [pos_step hlt, List.flatMap_append, ← rows_pos o a n j (k + 1) (by omega) (by omega)]
    by_cases hh : hitC o (n.getD k 0) = true
    · rw [rows_hit hlt hh, if_pos hh]
      simp
    · rw [rows_miss hlt (by simpa using hh), if_neg hh]
      simp
/-- where a row goes on -/
def nx : List Nat → Nat
  | [] => 0
  | r => r.getLastD 0 + 1
theorem nx_snoc (r : List Nat) (p : Nat) : nx (r ++ [p]) = p + 1 := by
  cases r with
  | nil => rfl
  | cons x r =>
    show (x :: r ++ [p]).getLastD 0 + 1 = p + 1
    rw [List.getLastD_eq_getLast?, List.getLast?_append]
    rfl
theorem fm_congr {α β : Type} {f g : α → List β} : ∀ {l : List α}, (∀ x ∈ l, f x = g x) → l.flatMap f = l.flatMap g
  | [], _ => rfl
  | x :: l, h => by rw [List.flatMap_cons, List.flatMap_cons, h x List.mem_cons_self, fm_congr fun y hy => h y (List.mem_cons_of_mem _ hy)]
def extR (o : Nat) (n : List Nat) (r : List Nat) : List (List Nat) := (posL o n (nx r)).map fun p => r ++ [p]
def lev (n : List Nat) (a : List Nat) (rs : List (List Nat)) : List (List Nat) := a.foldl (fun rs o => rs.flatMap (extR o n)) rs
def okR (n r : List Nat) : Prop := nx r ≤ n.length
theorem lev_rows (n : List Nat) : ∀ (a : List Nat) (rs : List (List Nat)), (∀ r ∈ rs, okR n r) → lev n a rs = rs.flatMap fun r => (rowsS a (n.drop (nx r)) (nx r)).map (r ++ ·)
  | [], rs, _ => by
    unfold lev
    simp [rows_nil]
  | o :: a, rs, hrs => by
    show lev n a (rs.flatMap (extR o n)) = _
    rw [lev_rows n a _ fun r hr => ?_, List.flatMap_assoc]
    · refine fm_congr fun r hr => ?_
      unfold extR
      rw [rows_pos o a n _ (nx r) rfl (hrs r hr), List.flatMap_map, List.map_flatMap]
      refine fm_congr fun p _ => ?_
      rw [nx_snoc, List.map_map]
      refine List.map_congr_left fun q _ => ?_
      show r ++ [p] ++ q = r ++ (p :: q)
      rw [List.append_assoc]
      rfl
    · obtain ⟨r0, h0, h1⟩ := List.mem_flatMap.mp hr
      obtain ⟨p, hp, rfl⟩ := List.mem_map.mp h1
      unfold okR
      rw [nx_snoc]
      unfold posL at hp
      obtain ⟨i, hi, rfl⟩ := List.mem_map.mp hp
      have := List.mem_range.mp (List.mem_filter.mp hi).1
      omega
theorem lev_all (n a : List Nat) : lev n a [[]] = rowsS a n 0 := by
  rw [lev_rows n a _ fun r hr => ?_]
  · simp [nx]
  · cases List.mem_singleton.mp hr
    exact Nat.zero_le _
theorem lev_snoc (n a : List Nat) (o : Nat) (rs : List (List Nat)) : lev n (a ++ [o]) rs = (lev n a rs).flatMap (extR o n) := by
  unfold lev
  rw [List.foldl_append]
  rfl
theorem lev_ok (n a : List Nat) : ∀ r ∈ lev n a [[]], okR n r ∧ r.length = a.length := fun r hr => by
  refine ⟨?_, ?_⟩
  · rcases List.eq_nil_or_concat a with rfl | ⟨b, o, rfl⟩
    · cases List.mem_singleton.mp hr
      exact Nat.zero_le _
    · rw [List.concat_eq_append, lev_snoc] at hr
      obtain ⟨r0, h0, h1⟩ := List.mem_flatMap.mp hr
      obtain ⟨p, hp, rfl⟩ := List.mem_map.mp h1
      unfold okR
      rw [nx_snoc]
      unfold posL at hp
      obtain ⟨i, hi, rfl⟩ := List.mem_map.mp hp
      have := List.mem_range.mp (List.mem_filter.mp hi).1
      omega
  · rw [lev_all] at hr
    exact rows_mem hr
def R_law_hit (ds : List PyData) (r : Res) : Prop := ∃ o s, ds = [tx [o], tx [s]] ∧ s < 128 ∧ r = .ok (.bool (hitL o s))
def R_law_every (ds : List PyData) (r : Res) : Prop := ∃ a n, ds = [tx a, tx n] ∧ a.length ≤ 8 ∧ n.length ≤ 12 ∧ (∀ c ∈ n, c ∈ alpha) ∧ r = .ok (.list ((rowsS a n 0).map rowD))
def l4 : List Nat := [97, 98, 65, 49]
theorem row_ne {row : List Nat} : PyData.eqv (rowD row) (.list []) = decide (row = []) := by
  cases row <;> rfl
theorem row_last {row : List Nat} (hb : (!PyData.eqv (rowD row) (.list [])) = true) : atI (row.map natI) (-1) = some (.int ((row.getLastD 0 : Nat) : Int)) := by
  rw [row_ne] at hb
  rcases List.eq_nil_or_concat row with rfl | ⟨b, o, rfl⟩
  · cases hb
  · rw [List.concat_eq_append, List.map_append, List.map_singleton, atI_last, List.getLastD_eq_getLast?, List.getLast?_append]
    rfl
theorem row_nx1 {row : List Nat} (hb : (!PyData.eqv (rowD row) (.list [])) = true) : PyData.int (((row.getLastD 0 : Nat) : Int) + 1) = natI (nx row) := by
  rw [row_ne] at hb
  cases row with
  | nil => cases hb
  | cons x r => rfl
theorem row_nx0 {row : List Nat} (hb : (!PyData.eqv (rowD row) (.list [])) = false) : PyData.int 0 = natI (nx row) := by
  rw [row_ne] at hb
  cases row with
  | nil => rfl
  | cons x r => simp at hb
theorem lay_emp : Lay 1 (.list []) := lay_list (n := 0) fun d hd => by cases hd
theorem ext_data {o : Nat} {n row : List Nat} (hn : ∀ c ∈ n, c ∈ alpha) (h : nx row ≤ n.length) : (((List.range ((n.length : Int) - (nx row : Int)).toNat).filter fun i => hitL o (n.getD (nx row + i) 0)).map fun i => PyData.list (row.map natI ++ [natI (nx row + i)])) = (extR o n row).map rowD := by
  unfold extR posL
  rw [List.map_map, List.map_map, show ((n.length : Int) - (nx row : Int)).toNat = n.length - nx row by omega]
  have e : (List.range (n.length - nx row)).filter (fun i => hitL o (n.getD (nx row + i) 0)) = (List.range (n.length - nx row)).filter (fun i => hitC o (n.getD (nx row + i) 0)) := by
    refine List.filter_congr fun i hi => ?_
    have := List.mem_range.mp hi
    refine hit_same ?_
    rw [List.getD_eq_getElem?_getD, List.getElem?_eq_getElem (by omega)]
    exact hn _ (List.getElem_mem _)
  rw [e]
  refine List.map_congr_left fun i _ => ?_
  show _ = rowD (row ++ [nx row + i])
  unfold rowD
  rw [List.map_append]
  rfl
end Lf
set_option Elab.async false
set_option linter.all false
set_option maxRecDepth 100000
set_option maxHeartbeats 4000000
namespace Lf
open PySem PySem.Spec PyProof.Rows L2 L2H HotX LamX
mutual
theorem noP_alike : ∀ (d : PyData), PySem.W.alike d d = true → noP d = true
  | .none, _ => rfl
  | .bool _, _ => rfl
  | .int _, _ => rfl
  | .str _, _ => rfl
  | .list ds, h => noPs_alike ds h
  | .tuple ds, h => noPs_alike ds h
  | .dict _, h => by cases h
theorem noPs_alike : ∀ (ds : List PyData), PySem.W.alikeAll ds ds = true → noPs ds = true
  | [], _ => rfl
  | d :: ds, h => by
    have h : (PySem.W.alike d d && PySem.W.alikeAll ds ds) = true := h
    rw [Bool.and_eq_true] at h
    show (noP d && noPs ds) = true
    rw [noP_alike d h.1, noPs_alike ds h.2]
    rfl
end
theorem each_dt {X : Cx} {pins : List (Addr × Obj)} {σ : L2.St} {H : Hp} {s : Shared} {O : Addr → Prop} (I : Inv X pins σ H s) : ∀ {ds : List PyData} {xs : List V} {us : List Value}, (∀ d ∈ ds, noP d = true) → DtAll O H ds xs → Vals xs us →
    PySem.W.EachIs (fun u d => ∃ x, RelV x u ∧ Dt O H d x) us ds ∧ PySem.W.EachIs (fun u d => ∃ as, Reads s.heap u d as) us ds
  | [], _, _, _, h, r => by
    cases (show _ = ([] : List V) from h)
    cases r
    exact ⟨.nil, .nil⟩
  | d :: ds, _, _, n, h, r => by
    obtain ⟨x, xs, rfl, h1, h2⟩ := h
    cases r with
    | cons rx rr =>
      obtain ⟨a, b⟩ := each_dt I (fun d hd => n d (List.mem_cons_of_mem _ hd)) h2 rr
      exact ⟨.cons ⟨x, rx, h1⟩ a, .cons (Dp.reads I d x _ (Dt.dp d x (n d List.mem_cons_self) h1) rx) b⟩
theorem of_each {O : Addr → Prop} {H : Hp} : ∀ {ds : List PyData} {us : List Value}, PySem.W.EachIs (fun u d => ∃ x, RelV x u ∧ Dt O H d x) us ds → ∃ xs, Vals xs us ∧ DtAll O H ds xs
  | _, _, .nil => ⟨[], .nil, rfl⟩
  | _, _, .cons ⟨x, r, h⟩ t => by
    obtain ⟨xs, a, b⟩ := of_each t
    exact ⟨x :: xs, .cons r a, x, xs, rfl, h, b⟩
def sortD (ds : List PyData) : List PyData := ds.mergeSort (PySem.W.dataLe false fun d => d)
def rSortD (K : PySem.W.Frag) : List V → Hp → VK → Prop := fun vs H Q => ∃ (O : Addr → Prop) (a : Addr) (xs : List V) (ds : List PyData), vs = [V.ref a] ∧ SqL K H a xs ∧ DtAll O H ds xs ∧ PySem.W.AllAlike ds ∧ PySem.W.Sortable ds ∧ (∀ d ∈ ds, d.depth ≤ 30) ∧
  ∀ (ys : List V) (p : Addr), DtAll O H (sortD ds) ys → H p = none → Q (.ref p) (upd H p (.lst ys))
theorem cr_sortD {X : Cx} (hu : X.A.units + 65 < cLine) : CallR X (.builtin "sorted") (rSortD X.K) := by
  intro pins s σ H vs us Q I r h
  obtain ⟨O, a, xs, ds, rfl, hs, hd, al, so, dp, q⟩ := h
  obtain ⟨its, rv, hl, hz⟩ := I.list hs
  rw [Vals.ref1 r]
  obtain ⟨e1, e2⟩ := each_dt I (fun d hb => noP_alike d (al d hb d hb)) hd rv
  have hln := hd.len
  refine PySem.W.sorted_data (enc := fun d => d) hl.isList e1 e2 (by simpa using al) (by simpa using so) (by rw [← hln]; exact hz) (fun d hb => ?_) fun out ho eo => ?_
  · have := dp d hb
    omega
  · obtain ⟨ys, r1, d1⟩ := of_each eo
    obtain ⟨ep, he'⟩ := PyProof.Rows.sortedAll_at s.heap its out.toArray
    have hlen : ys.length ≤ sizeLine := by
      rw [r1.length, ho, ← hln]
      exact hz
    exact ⟨.ref _, upd H (s.heap.objs.size + 1) (.lst ys), I.laid (t' := s.toks) (fun _ _ => PyProof.Rows.sortedAll_old) (Nat.le_succ _) ⟨hlen, out, ep, r1, he'⟩, rfl, q ys _ d1 (I.hok.fresh (Nat.le_succ _))⟩
section
variable {Kf : PySem.W.Frag} {Tf : List (Addr × Str)} {F : Fx Kf Tf} {K : PySem.W.Frag} {ds : List PyData}
theorem cd_sortD (al : PySem.W.AllAlike ds) (so : PySem.W.Sortable ds) (dp : ∀ d ∈ ds, d.depth ≤ 30) : ClD F (rSortD K) [.list ds] (.list (sortD ds)) := fun O H xs Q dom w h k => by
  obtain ⟨x, r, rfl, ⟨a, ys, rfl, _, ga, ra⟩, rfl⟩ := h
  refine ⟨O, a, ys, ds, rfl, SqL.of ga, ra, al, so, dp, fun zs p hd hp => ?_⟩
  exact k _ _ (ext_new hp) (tabs_new w hp) ⟨p, zs, rfl, fresh_ok dom hp, upd_same, hd.grow (ext_new hp)⟩
end
/-- rows of numbers -/
def ci (r : List Nat) : List Int := r.map fun (i : Nat) => (i : Int)
theorem rows_ge : ∀ {a n : List Nat} {k : Nat} {r : List Nat}, r ∈ rowsS a n k → ∀ i ∈ r, k ≤ i
  | [], n, k, r, h, i, hi => by
    rw [rows_nil] at h
    rw [List.mem_singleton.mp h] at hi
    cases hi
  | _ :: _, [], _, _, h, _, _ => by cases h
  | o :: a, c :: n, k, r, h, i, hi => by
    unfold rowsS at h
    rcases List.mem_append.mp h with h | h
    · split at h
      · obtain ⟨q, hq, rfl⟩ := List.mem_map.mp h
        rcases List.mem_cons.mp hi with rfl | hi
        · exact Nat.le_refl _
        · have := rows_ge hq i hi
          omega
      · cases h
    · have := rows_ge h i hi
      omega
end Lf
set_option Elab.async false
set_option linter.all false
set_option maxRecDepth 100000
set_option maxHeartbeats 4000000
namespace Lf
open PySem PySem.Spec PyProof.Rows L2 L2H HotX LamX
section
variable {Kf : PySem.W.Frag} {Tf : List (Addr × Str)} {F : Fx Kf Tf}
theorem od_repSi {l : List Nat} {i : Int} (hn : 1 ≤ i) (hn2 : i ≤ 100000) (hz : l.length * i.toNat ≤ 100000) : OpD F rMulS (tx l) (.int i) (tx (List.replicate i.toNat l).flatten) := by
  have e : i = ((i.toNat : Nat) : Int) := by omega
  have := od_repS (F := F) (l := l) (n := i.toNat) (by omega) (by omega) hz
  rw [← e] at this
  exact this
end
theorem lay_rows {R : List (List Nat)} : Lay 2 (.list (R.map rowD)) := lay_list (n := 1) fun d hd => by
  obtain ⟨r, _, rfl⟩ := List.mem_map.mp hd
  exact lay_nats
theorem rows_ne {R : List (List Nat)} : PyData.eqv (.list (R.map rowD)) (.list []) = decide (R = []) := by cases R <;> rfl
end Lf
set_option Elab.async false
set_option linter.all false
set_option maxRecDepth 100000
set_option maxHeartbeats 4000000
namespace Lf
open PySem PySem.Spec PyProof.Rows L2 L2H HotX LamX
end Lf
set_option Elab.async false
set_option linter.all false
set_option maxRecDepth 100000
set_option maxHeartbeats 4000000
namespace Lf
open PySem PySem.Spec PyProof.Rows L2 L2H HotX LamX
section
variable {Kf : PySem.W.Frag} {Tf : List (Addr × Str)} {F : Fx Kf Tf} {K : PySem.W.Frag} {δ : List Slot} {X : Cx} {N : List Str} {sc : Scope} {pos p tpos px py pz pt pt2 : Pos} {a b c e tg it : Expr} {elts : List Expr} {kk : Nat} {ds es : List PyData} {x y z : Str} {rest : List Stmt} {P : Post} {d d1 d2 d3 : PyData}
theorem i_is (h : PI X tg it (iD F δ ds)) (q : ds = es) : PI X tg it (iD F δ es) := by rw [← q]; exact h
/-- a op b op' c, a value -/
theorem x_chain {op op' : CmpOp} {r r' : R2} {k j : Bool} (ho : OpR X (compareOp op) r) (ho' : OpR X (compareOp op') r') (q : OpD F r d1 d2 (.bool k)) (q' : k = true → OpD F r' d2 d3 (.bool j)) (ha : PE X a (tD F δ d1)) (hb : PE X b (tD F δ d2)) (hc : PE X c (tD F δ d3)) (hm : lastMarks [op, op'] [b, c] = false := by with_unfolding_all rfl) :
    PE X (.Compare a [op, op'] [b, c] pos) (tD F δ (.bool (k && j))) :=
  wkE (pe_chain ho ho' ha hb hc hm) fun σ H Q h => by
    obtain ⟨O, st, w⟩ := h
    refine ⟨O, st, fun x H1 e1 t1 g1 => ⟨O, st.grow e1 t1, fun y H2 e2 t2 g2 => ?_⟩⟩
    have s2 := (st.grow e1 t1).grow e2 t2
    refine q O H2 x y _ s2.dom t2 (g1.grow e2) g2 fun v H3 e3 t3 g3 => ⟨k, g3, ?_⟩
    cases k with
    | true =>
      refine iteT ⟨O, s2.grow e3 t3, fun u H4 e4 t4 g4 => ?_⟩
      exact q' rfl O H4 y u _ ((s2.grow e3 t3).grow e4 t4).dom t4 ((g2.grow e3).grow e4) g4 fun v5 H5 e5 t5 g5 => w v5 H5 ((((e1.trans e2).trans e3).trans e4).trans e5) t5 (by cases j <;> exact g5)
    | false => exact iteF (w _ H3 ((e1.trans e2).trans e3) t3 rfl)
/-- a, b, c = x, y, z -/
theorem s_par3 (i j l : Nat) {kt k2 : Nat} (cx : CtD X N sc F.E) (ha : PA X [a, b, c] (aD F δ [d1, d2, d3])) (g : PSs X rest (sD F (((δ.set i (.dat d1)).set j (.dat d2)).set l (.dat d3)) P)) (hi : N[i]? = some x := by rfl) (hj : N[j]? = some y := by rfl) (hl : N[l]? = some z := by rfl) (hij : i ≠ j := by decide) (hil : i ≠ l := by decide) (hjl : j ≠ l := by decide)
    (hx : sc.names.lookup x = some .local := by rfl) (hy : sc.names.lookup y = some .local := by rfl) (hz : sc.names.lookup z = some .local := by rfl)
    (hw : swappedStores [.Tuple [.Name x px, .Name y py, .Name z pz] kt pt] (.Tuple [a, b, c] k2 pt2) (envS sc) = pure (some [x, y, z]) := by rfl) (hs : swapsWithSole [.Tuple [.Name x px, .Name y py, .Name z pz] kt pt] (.Tuple [a, b, c] k2 pt2) pos.line X.env = pure false := by rfl) :
    PSs X (.Assign [.Tuple [.Name x px, .Name y py, .Name z pz] kt pt] (.Tuple [a, b, c] k2 pt2) pos :: rest) (sD F δ P) :=
  wkSs (pss_cons (ps_par3 cx.calm cx.nd' (cx.at_ hi) (cx.at_ hj) (cx.at_ hl) hij hil hjl (by rw [cx.s]; exact hx) (by rw [cx.s]; exact hy) (by rw [cx.s]; exact hz) ha (sw_eq cx.toCtx hw) hs) g) fun D σ H h' => by
    obtain ⟨O, τ, s0, tm, w⟩ := h'
    refine ⟨O, s0, fun vs H1 e1 t1 g1 => ?_⟩
    obtain ⟨v, r, rfl, h1, u, r', rfl, h2, q, r'', rfl, h3, rfl⟩ := g1
    exact ⟨v, u, q, rfl, O, τ, (((s0.grow e1 t1).setD i h1).setD j h2).setD l h3, tm.grow e1, w⟩
/-- x in (..), of flat data -/
theorem flatV_of {O : Addr → Prop} {H : Hp} {v : V} (f : flatD d = true) (h : Dt O H d v) : flatV v = true := by
  cases d with
  | none => rw [show v = V.non from h]; rfl
  | bool b => rw [show v = V.bl b from h]; rfl
  | int b => rw [show v = V.int b from h]; rfl
  | str b => rw [show v = V.str b from h]; rfl
  | list b => cases f
  | tuple b => cases f
  | dict b => cases f
theorem eqV_of {O : Addr → Prop} {H : Hp} {v u : V} (f : flatD d1 = true) (g : flatD d2 = true) (h : Dt O H d1 v) (k : Dt O H d2 u) : eqV v u = PyData.eqv d1 d2 := by
  cases d1 <;> cases f <;> cases d2 <;> cases g <;> (rw [show v = _ from h, show u = _ from k]; simp [eqV, PyData.eqv])
theorem inV_of {O : Addr → Prop} {H : Hp} {v : V} (f : flatD d = true) (h : Dt O H d v) : ∀ {ds : List PyData} {vs : List V}, ds.all flatD = true → DtAll O H ds vs → vs.all flatV = true ∧ inV v vs = ds.any fun z => PyData.eqv z d
  | [], _, _, k => by cases k; exact ⟨rfl, rfl⟩
  | e :: ds, _, g, k => by
    obtain ⟨u, r, rfl, k1, k2⟩ := k
    rw [List.all_cons, Bool.and_eq_true] at g
    obtain ⟨i1, i2⟩ := inV_of f h g.2 k2
    refine ⟨by rw [List.all_cons, i1, flatV_of g.1 k1]; rfl, ?_⟩
    unfold inV at i2 ⊢
    rw [List.any_cons, List.any_cons, i2, eqV_of g.1 f k1 h]
theorem od_inT (f : flatD d = true) (g : ds.all flatD = true) : OpD F (rIn K false) d (.tuple ds) (.bool (ds.any fun z => PyData.eqv z d)) := fun O H x y Q _ w hx hy k => by
  obtain ⟨a, xs, ex, _, ga, ra⟩ := hy
  obtain ⟨i1, i2⟩ := inV_of f hx g ra
  exact ⟨a, xs, ex, .inr (SqT.of ga), flatV_of f hx, i1, by rw [i2]; exact k _ H (ExtN.refl H) w rfl⟩
theorem cd_listT : ClD F (fun xs H Q => ∃ p ys, xs = [.ref p] ∧ (SqL K H p ys ∨ SqT K H p ys) ∧ ∀ l, H l = none → Q (.ref l) (upd H l (.lst ys))) [.tuple ds] (.list ds) := fun O H xs Q dom w h k => by
  obtain ⟨x, r, rfl, ⟨a, ys, rfl, _, ga, ra⟩, rfl⟩ := h
  exact ⟨a, ys, rfl, .inr (SqT.of ga), fun q hq => k _ _ (ext_new hq) (tabs_new w hq) ⟨q, ys, rfl, fresh_ok dom hq, upd_same, ra.grow (ext_new hq)⟩⟩
end
end Lf
set_option Elab.async false
set_option linter.all false
set_option maxRecDepth 100000
set_option maxHeartbeats 4000000
namespace Lf
open PySem PySem.Spec PyProof.Rows L2 L2H HotX LamX
inductive MO where
  /-- an instance: its class, the names of its attributes, what they hold -/
  | ins (C : Addr) (ns : List Str) (ds : List PyData)
  | lst (ds : List PyData)
  | dic (kvs : List (Key × PyData))
  /-- a dict that is walked: locked -/
  | dfz (o : Obj) (vs : List (Key × V)) (kvs : List (Key × PyData))
abbrev Wd := List (Addr × MO)
abbrev wAs (W : Wd) : List Addr := W.map (·.1)
def FsAll (O : Addr → Prop) (H : Hp) (ns : List Str) (ds : List PyData) (vs : List (Str × V)) : Prop := vs.map (·.1) = ns ∧ DtAll O H ds (vs.map (·.2))
def MoOk (O : Addr → Prop) (H : Hp) (p : Addr) : MO → Prop
  | .ins C ns ds => ∃ dx vs, H p = some (.ins C dx vs) ∧ FsAll O H ns ds vs
  | .lst ds => ∃ vs, H p = some (.lst vs) ∧ DtAll O H ds vs
  | .dic kvs => ∃ vs, H p = some (.dK vs) ∧ KvAll O H kvs vs
  | .dfz o vs kvs => H p = some (.frz o (.dK vs)) ∧ KvAll O H kvs vs
def Kp (O : Addr → Prop) (H : Hp) (O' : Addr → Prop) (H' : Hp) : Prop := ∀ d v, Dt O H d v → Dt O' H' d v
section
variable {O O' O2 : Addr → Prop} {H H' H2 : Hp} {p : Addr} {mo : MO} {W W' : Wd}
theorem DtAll.kp (k : Kp O H O' H') : ∀ {ds : List PyData} {vs : List V}, DtAll O H ds vs → DtAll O' H' ds vs
  | [], _, h => h
  | _ :: _, _, h => let ⟨x, r, e, h1, h2⟩ := h; ⟨x, r, e, k _ _ h1, DtAll.kp k h2⟩
theorem Kp.trans (h : Kp O H O' H') (g : Kp O' H' O2 H2) : Kp O H O2 H2 := fun d v q => g d v (h d v q)
theorem Kp.grow (h : Kp O H O' H') (e : ExtN H' H2) : Kp O H O' H2 := fun d v q => (h d v q).grow e
theorem Kp.ext (e : ExtN H H') : Kp O H O H' := fun d v q => q.grow e
theorem MoOk.keep (h : MoOk O H p mo) (e : H' p = H p) (k : Kp O H O' H') : MoOk O' H' p mo := by
  cases mo with
  | ins C ns ds => obtain ⟨dx, vs, a, b, c⟩ := h; exact ⟨dx, vs, by rw [e]; exact a, b, c.kp k⟩
  | lst ds => obtain ⟨vs, a, c⟩ := h; exact ⟨vs, by rw [e]; exact a, c.kp k⟩
  | dic kvs => obtain ⟨vs, a, b, c⟩ := h; exact ⟨vs, by rw [e]; exact a, b, c.kp k⟩
  | dfz o vs kvs => obtain ⟨a, b, c⟩ := h; exact ⟨by rw [e]; exact a, b, c.kp k⟩
theorem MoOk.lives (h : MoOk O H p mo) : Lives H p := by
  cases mo with
  | ins C ns ds => obtain ⟨dx, vs, a, _⟩ := h; exact ⟨_, a, fun _ z => by cases z⟩
  | lst ds => obtain ⟨vs, a, _⟩ := h; exact ⟨_, a, fun _ z => by cases z⟩
  | dic kvs => obtain ⟨vs, a, _⟩ := h; exact ⟨_, a, fun _ z => by cases z⟩
  | dfz o vs kvs => obtain ⟨a, _⟩ := h; exact ⟨_, a, fun _ z => by cases z⟩
end
def Laid (O : Addr → Prop) (H : Hp) (W : Wd) : Prop := (wAs W).Nodup ∧ ∀ q ∈ W, MoOk O H q.1 q.2
def wR (ro : Bool) (W : Wd) : Rsc := ⟨wAs W, fun O H _ => Laid O H W, ro, fun O O' H H' o h e k => ⟨h.1, fun q hq => (h.2 q hq).keep (e q.1 (List.mem_map.mpr ⟨q, hq, rfl⟩)) k⟩⟩
abbrev Slot.wd (ro : Bool) (W : Wd) : Slot := .res (wR ro W)
/-- what is shut behind a change of the world -/
def OW (O : Addr → Prop) (W W' : Wd) : Addr → Prop := fun a => (O a ∧ a ∉ wAs W) ∨ a ∈ wAs W'
/-- the world W becomes W', all else stays -/
structure Aft (T : List (Addr × Str)) (O : Addr → Prop) (H : Hp) (W : Wd) (H' : Hp) (W' : Wd) : Prop where
  t : Tabs T H'
  ext : ∀ a o, H a = some o → (∀ ps, o ≠ .tbl ps) → a ∉ wAs W → H' a = some o
  laid : Laid (OW O W W') H' W'
  new : ∀ a ∈ wAs W', a ∈ wAs W ∨ ¬ Lives H a
theorem Aft.kp {T : List (Addr × Str)} {O : Addr → Prop} {H H' : Hp} {W W' : Wd} (h : Aft T O H W H' W') (hO : ∀ a ∈ wAs W, O a) : Kp O H (OW O W W') H' := fun d v g =>
  Dt.imp (fun a o n r t => ⟨fun z => z.elim (fun z => n z.1) (fun z => (h.new a z).elim (fun y => n (hO a y)) (fun y => y ⟨o, r, t⟩)), h.ext a o r t (fun y => n (hO a y))⟩) d v g
section
variable {Kf : PySem.W.Frag} {Tf : List (Addr × Str)} {F : Fx Kf Tf} {O : Addr → Prop} {H H' : Hp} {σ : L2.St} {δ : List Slot} {W W' : Wd} {g : Nat} {ro : Bool}
structure WAt (F : Fx Kf Tf) (O : Addr → Prop) (H : Hp) (W : Wd) (ro : Bool) : Prop where
  laid : Laid O H W
  sh : ∀ a ∈ wAs W, O a
  rd : ro = true → ∀ a ∈ wAs W, Lives F.Hin a
  wr : ro = false → ∀ a ∈ wAs W, ¬ Lives F.Hin a
  lv : ∀ a ∈ wAs W, Lives H a
theorem StAt.w (st : StAt F O H σ δ) (hg : δ[g]? = some (.wd ro W)) : WAt F O H W ro := by
  obtain ⟨_, h2, h3⟩ := st.slot g _ hg
  exact ⟨h2, fun a ha => (h3 a ha).1, fun e a ha => (h3 a ha).2.1.1 e, fun e a ha => (h3 a ha).2.1.2 e, fun a ha => (h3 a ha).2.2⟩
theorem StAt.w0 (st : StAt F O H σ δ) (hg : δ[g]? = some (.wd ro W)) : σ[g]?.getD none = none := (st.slot g _ hg).1
/-- what is one's own lives -/
theorem has_lives {o : Option V} {u : Slot} {p : Addr} (h : SlotOk F O H o u) (hp : u.has o p) : Lives H p ∧ O p := by
  cases u with
  | own ds =>
    obtain ⟨q, vs, e, oq, _, g, _⟩ := h
    rw [e] at hp
    cases (show some (V.ref q) = some (V.ref p) from hp)
    exact ⟨⟨_, g, fun _ z => by cases z⟩, oq⟩
  | odk ds =>
    obtain ⟨q, vs, e, oq, _, g, _⟩ := h
    rw [e] at hp
    cases (show some (V.ref q) = some (V.ref p) from hp)
    exact ⟨⟨_, g, fun _ z => by cases z⟩, oq⟩
  | res R => exact ⟨(h.2.2 p hp).2.2, (h.2.2 p hp).1⟩
  | non => exact hp.elim
  | dat _ => exact hp.elim
  | scr _ => exact hp.elim
  | any _ => exact hp.elim
theorem w_after (st : StAt F O H σ δ) (hg : δ[g]? = some (.wd false W)) (h : Aft F.T O H W H' W') : StAt F (OW O W W') H' σ (δ.set g (.wd false W')) := by
  have hw := st.w hg
  have kp := h.kp hw.sh
  have hgl : g < δ.length := (List.getElem?_eq_some_iff.mp hg).1
  have far : ∀ j u, j ≠ g → δ[j]? = some u → ∀ p, u.has (σ[j]?.getD none) p → p ∉ wAs W ∧ p ∉ wAs W' := fun j u hj hu p hp => by
    have n1 : p ∉ wAs W := fun z => st.afar g j _ u (fun e => hj e.symm) hg hu p z hp
    exact ⟨n1, fun z => (h.new p z).elim n1 (fun y => y (has_lives (st.slot j u hu) hp).1)⟩
  have hn : ∀ p, Lives H p → p ∉ wAs W → H' p = H p := fun p ⟨o, e, t⟩ n => by rw [e, h.ext p o e t n]
  refine ⟨by rw [List.length_set, st.len], fun a z => .inl ⟨st.o0 a z, fun y => hw.wr rfl a y (F.h0 a z)⟩, fun a z => ?_, h.t, fun a o e t => ?_, fun j s r => ?_, fun j l s u q hjl h1 h2 m1 m2 e1 e2 => ?_, ?_⟩
  · rcases z with ⟨z, n⟩ | z
    · obtain ⟨o, e, t⟩ := st.dom a z
      exact ⟨o, h.ext a o e t n, t⟩
    · obtain ⟨q, hq, rfl⟩ := List.mem_map.mp z
      exact (h.laid.2 q hq).lives
  · exact h.ext a o (st.ext a o e t) t (fun y => hw.wr rfl a y ⟨o, e, t⟩)
  · by_cases ej : g = j
    · subst ej
      rw [List.getElem?_set_self hgl] at r
      cases r
      refine ⟨st.w0 hg, h.laid, fun a ha => ⟨.inr ha, ⟨fun z => (by cases z), fun _ z => ?_⟩, ?_⟩⟩
      · rcases h.new a ha with y | y
        · exact hw.wr rfl a y z
        · exact y (z.grow st.ext)
      · obtain ⟨q, hq, rfl⟩ := List.mem_map.mp ha
        exact (h.laid.2 q hq).lives
    · rw [List.getElem?_set_ne ej] at r
      have gs := st.slot j s r
      have fr := far j s (fun z => ej z.symm) r
      cases s with
      | non => trivial
      | dat d => obtain ⟨v, a, b⟩ := gs; exact ⟨v, a, kp _ _ b⟩
      | own ds =>
        obtain ⟨p, vs, a, b, c, e, q⟩ := gs
        have n := fr p a
        exact ⟨p, vs, a, .inl ⟨b, n.1⟩, c, h.ext p _ e (fun _ z => by cases z) n.1, q.kp kp⟩
      | odk kvs =>
        obtain ⟨p, vs, a, b, c, e, q⟩ := gs
        have n := fr p a
        exact ⟨p, vs, a, .inl ⟨b, n.1⟩, c, h.ext p _ e (fun _ z => by cases z) n.1, q.imp fun _ _ z => z.kp kp⟩
      | res R => exact res_keep gs (fun a ha => hn a (gs.2.2 a ha).2.2 (fr a ha).1) (fun a ha => .inl ⟨(gs.2.2 a ha).1, (fr a ha).1⟩) kp
      | scr ns => exact gs
      | any φ => exact gs
  · have back : ∀ {j : Nat} {s : Slot}, (δ.set g (.wd false W'))[j]? = some s → s.mine = true → ∃ s', δ[j]? = some s' ∧ s'.mine = true := fun {j s} a m => by
      by_cases e : g = j
      · subst e; exact ⟨_, hg, rfl⟩
      · rw [List.getElem?_set_ne e] at a; exact ⟨s, a, m⟩
    obtain ⟨s1, a1, b1⟩ := back h1 m1
    obtain ⟨s2, a2, b2⟩ := back h2 m2
    exact st.apart j l s1 s2 q hjl a1 a2 b1 b2 e1 e2
  · refine st.afar.turn st.len g _ (fun R e j u hj hu p hp z => ?_) fun j R hj hR p hp z => ?_
    · cases e
      exact (far j u hj hu p z).2 hp
    · exact (far j _ hj hR p hp).2 z
theorem OW_self (hO : ∀ a ∈ wAs W, O a) (e : wAs W' = wAs W) (a : Addr) : OW O W W' a ↔ O a := by
  unfold OW
  rw [e]
  exact ⟨fun z => z.elim (fun z => z.1) (hO a), fun z => (Classical.em (a ∈ wAs W)).elim .inr fun n => .inl ⟨z, n⟩⟩
theorem as_set {i : Nat} {p : Addr} {mo mo' : MO} (hi : W[i]? = some (p, mo)) : wAs (W.set i (p, mo')) = wAs W := by
  show (W.set i (p, mo')).map (·.1) = W.map (·.1)
  rw [List.map_set]
  have hl := (List.getElem?_eq_some_iff.mp hi).1
  have e : (W.map (·.1))[i]? = some p := by rw [List.getElem?_map, hi]; rfl
  refine List.ext_getElem? fun j => ?_
  by_cases ej : i = j
  · subst ej
    rw [List.getElem?_set_self (by simpa using hl), e]
  · rw [List.getElem?_set_ne ej]
/-- one of the world is changed -/
theorem aft_turn {T : List (Addr × Str)} {i : Nat} {p : Addr} {mo mo' : MO} {o : HO} (hw : WAt F O H W ro) (hi : W[i]? = some (p, mo)) (tt : Tabs T (upd H p o)) (hm : O p → MoOk O (upd H p o) p mo') : Aft T O H W (upd H p o) (W.set i (p, mo')) := by
  have es := as_set (mo' := mo') hi
  have hp : p ∈ wAs W := List.mem_map.mpr ⟨_, List.mem_of_getElem? hi, rfl⟩
  have ow := OW_self (W' := W.set i (p, mo')) hw.sh es
  have kop : Kp O (upd H p o) (OW O W (W.set i (p, mo'))) (upd H p o) := fun d v g => g.open_ fun a z => (ow a).mp z
  refine ⟨tt, fun a u e t n => ?_, ⟨by rw [es]; exact hw.laid.1, fun q hq => ?_⟩, fun a ha => .inl (by rw [← es]; exact ha)⟩
  · rw [upd_ne (fun z => n (by rw [z]; exact hp))]
    exact e
  · obtain ⟨j, hj⟩ := List.mem_iff_getElem?.mp hq
    by_cases ej : i = j
    · subst ej
      rw [List.getElem?_set_self (List.getElem?_eq_some_iff.mp hi).1] at hj
      cases hj
      exact (hm (hw.sh p hp)).keep rfl kop
    · rw [List.getElem?_set_ne ej] at hj
      have ne : q.1 ≠ p := fun z => ej (by
        have nd := hw.laid.1
        have e1 : (wAs W)[i]? = some p := by rw [List.getElem?_map, hi]; rfl
        have e2 : (wAs W)[j]? = some p := by rw [List.getElem?_map, hj, ← z]; rfl
        exact (List.getElem?_inj (List.getElem?_eq_some_iff.mp e1).1 nd).mp (e1.trans e2.symm))
      refine (hw.laid.2 q (List.mem_of_getElem? hj)).keep (upd_ne ne) (Kp.trans (fun d v g => g.turn (hw.sh p hp)) kop)
/-- something new is put to the world -/
theorem aft_new {T : List (Addr × Str)} {p : Addr} {mo : MO} {o : HO} (hw : WAt F O H W ro) (t : Tabs T H) (hp : H p = none) (hm : MoOk (Shut O p) (upd H p o) p mo) : Aft T O H W (upd H p o) (W ++ [(p, mo)]) := by
  have np : p ∉ wAs W := fun z => (hw.lv p z).ne hp rfl
  have es : wAs (W ++ [(p, mo)]) = wAs W ++ [p] := by simp [wAs]
  have ow : ∀ a, OW O W (W ++ [(p, mo)]) a → Shut O p a := fun a z => by
    rcases z with z | z
    · exact .inl z.1
    · rw [es] at z
      rcases List.mem_append.mp z with z | z
      · exact .inl (hw.sh a z)
      · exact .inr (List.mem_singleton.mp z)
  have kop : Kp (Shut O p) (upd H p o) (OW O W (W ++ [(p, mo)])) (upd H p o) := fun d v g => g.open_ ow
  refine ⟨tabs_new t hp, fun a u e t n => ext_new hp a u e t, ⟨?_, fun q hq => ?_⟩, fun a ha => ?_⟩
  · rw [es]
    exact List.nodup_append.mpr ⟨hw.laid.1, List.nodup_cons.mpr ⟨by simp, List.nodup_nil⟩, fun a ha b hb z => np (by rw [← List.mem_singleton.mp hb, ← z]; exact ha)⟩
  · rcases List.mem_append.mp hq with hq | hq
    · have hm := hw.laid.2 q hq
      exact hm.keep (upd_ne (hm.lives.ne hp)) (Kp.trans (fun d v g => (g.shut hp).grow (ext_new hp)) kop)
    · cases List.mem_singleton.mp hq
      exact hm.keep rfl kop
  · rw [es] at ha
    rcases List.mem_append.mp ha with z | z
    · exact .inl z
    · rw [List.mem_singleton.mp z]
      exact .inr fun y => y.ne hp rfl
theorem WAt.grow (hw : WAt F O H W ro) (e : ExtN H H') : WAt F O H' W ro := ⟨⟨hw.laid.1, fun q hq => (hw.laid.2 q hq).keep ((hw.laid.2 q hq).lives.same e) (Kp.ext e)⟩, hw.sh, hw.rd, hw.wr, fun a ha => (hw.lv a ha).grow e⟩
theorem wd_self (hg : δ[g]? = some (.wd ro W)) : δ.set g (.wd ro W) = δ := by
  have hl := (List.getElem?_eq_some_iff.mp hg).1
  have e := (List.getElem?_eq_some_iff.mp hg).2
  rw [← e]
  exact List.set_getElem_self hl
end
section
variable {Kf : PySem.W.Frag} {Tf : List (Addr × Str)} (F : Fx Kf Tf) (δ : List Slot) (g : Nat)
/-- a value, or what is raised, and the world then -/
def tR (Ω : Res → Wd → Prop) : TE := fun σ H Q => ∃ O, StAt F O H σ δ ∧ (∀ d W' v O' H', Ω (.ok d) W' → StAt F O' H' σ (δ.set g (.wd false W')) → Kp O H O' H' → Dt O' H' d v → Q v H') ∧
  (∀ c W' O' H', Ω (.error c) W' → StAt F O' H' σ (δ.set g (.wd false W')) → Kp O H O' H' → F.E (.ref c) none H')
/-- a value, and the world then -/
def tW (Ω : PyData → Wd → Prop) : TE := fun σ H Q => ∃ O, StAt F O H σ δ ∧ ∀ d W' v O' H', Ω d W' → StAt F O' H' σ (δ.set g (.wd false W')) → Kp O H O' H' → Dt O' H' d v → Q v H'
def aW (Ω : List PyData → Wd → Prop) : TA := fun σ H Q => ∃ O, StAt F O H σ δ ∧ ∀ ds W' vs O' H', Ω ds W' → StAt F O' H' σ (δ.set g (.wd false W')) → Kp O H O' H' → DtAll O' H' ds vs → Q vs H'
def cW (Ω : Bool → Wd → Prop) : TT := fun σ H Q => ∃ O, StAt F O H σ δ ∧ ∀ b W' O' H', Ω b W' → StAt F O' H' σ (δ.set g (.wd false W')) → Kp O H O' H' → Q b H'
end
/-- W is read -/
def spR (T : List (Addr × Str)) (R : List PyData → Wd → Res → Prop) : Sp := fun vs H Q E => ∃ O ds W r, (∀ a, O a → Lives H a) ∧ Tabs T H ∧ DtAll O H ds vs ∧ Laid O H W ∧ (∀ a ∈ wAs W, O a) ∧ R ds W r ∧
  (∀ d, r = .ok d → ∀ v H', ExtN H H' → Tabs T H' → Dt O H' d v → Q v H') ∧ (∀ c, r = .error c → ∀ H', ExtN H H' → Tabs T H' → E (.ref c) none H')
/-- W is changed -/
def spW (T : List (Addr × Str)) (R : List PyData → Wd → (PyData → Wd → Prop) → Prop) : Sp := fun vs H Q E => ∃ O ds W Ω, (∀ a, O a → Lives H a) ∧ Tabs T H ∧ DtAll O H ds vs ∧ Laid O H W ∧ (∀ a ∈ wAs W, O a) ∧ R ds W Ω ∧
  (∀ d W' v H', Ω d W' → Aft T O H W H' W' → Dt (OW O W W') H' d v → Q v H')
def startW (N : List Str) (ds : List PyData) (ro : Bool) (W : Wd) : List Slot := ds.map .dat ++ (List.replicate (N.length - 1 - ds.length) .non ++ [.wd ro W])
def postW (g : Nat) (Ω : PyData → Wd → Prop) : Post := { nx := fun δ => ∃ W', δ[g]? = some (.wd false W') ∧ Ω .none W', rt := fun _ => False, rts := fun δ d => ∃ W', δ[g]? = some (.wd false W') ∧ Ω d W' }
theorem startW_get {N : List Str} {ds : List PyData} {ro : Bool} {W : Wd} {i : Nat} {u : Slot} (hl : ds.length + 1 ≤ N.length) (q : (startW N ds ro W)[i]? = some u) : (∃ d, ds[i]? = some d ∧ u = .dat d) ∨ (u = .non ∧ ds.length ≤ i) ∨ (i = N.length - 1 ∧ u = .wd ro W) := by
  unfold startW at q
  by_cases hi : i < ds.length
  · rw [List.getElem?_append_left (by simpa using hi), List.getElem?_map] at q
    cases e : ds[i]? with
    | none => rw [e] at q; cases q
    | some d => rw [e] at q; cases q; exact .inl ⟨d, rfl, rfl⟩
  · rw [List.getElem?_append_right (by simpa using hi), List.length_map] at q
    by_cases h2 : i - ds.length < N.length - 1 - ds.length
    · rw [List.getElem?_append_left (by simpa using h2), List.getElem?_replicate, if_pos h2] at q
      cases q
      exact .inr (.inl ⟨rfl, by omega⟩)
    · rw [List.getElem?_append_right (by simpa using h2), List.length_replicate] at q
      cases hq : i - ds.length - (N.length - 1 - ds.length) with
      | zero => rw [hq] at q; cases q; exact .inr (.inr ⟨by omega, rfl⟩)
      | succ n => rw [hq] at q; simp at q
theorem startW_len {N : List Str} {ds : List PyData} {ro : Bool} {W : Wd} (hl : ds.length + 1 ≤ N.length) : (startW N ds ro W).length = N.length := by
  simp [startW]
  omega
/-- the state at a def's head -/
theorem st_start {Kf : PySem.W.Frag} {Tf : List (Addr × Str)} {F : Fx Kf Tf} {O : Addr → Prop} {H : Hp} {N : List Str} {ds : List PyData} {vs : List V} {ro : Bool} {W : Wd} (hl : ds.length + 1 ≤ N.length) (o0 : ∀ a, F.O0 a → O a) (dom : ∀ a, O a → Lives H a) (tb : Tabs Tf H) (ex : ExtN F.Hin H) (hd : DtAll O H ds vs) (hw : WAt F O H W ro) :
    StAt F O H (L2.start N vs) (startW N ds ro W) := by
  have hv := hd.len
  have sg : ∀ i, ds.length ≤ i → (L2.start N vs)[i]?.getD none = none := fun i hi => by
    unfold L2.start
    rw [List.getElem?_append_right (by simp [hv]; exact hi), List.getElem?_replicate]
    split <;> rfl
  have sl : ∀ i u, (startW N ds ro W)[i]? = some u → SlotOk F O H ((L2.start N vs)[i]?.getD none) u := fun i u q => by
    rcases startW_get hl q with ⟨d, hq, rfl⟩ | ⟨rfl, _⟩ | ⟨hi, rfl⟩
    · obtain ⟨v, e1, e2⟩ := hd.get hq
      have hi : i < vs.length := (List.getElem?_eq_some_iff.mp e1).1
      unfold L2.start
      rw [List.getElem?_append_left (by simpa using hi), List.getElem?_map, e1]
      exact ⟨v, rfl, e2⟩
    · trivial
    · exact ⟨sg i (by omega), hw.laid, fun a ha => ⟨hw.sh a ha, ⟨fun z => hw.rd z a ha, fun z => hw.wr z a ha⟩, hw.lv a ha⟩⟩
  refine ⟨?_, o0, dom, tb, ex, sl, fun i j s u p n h1 h2 m1 m2 e1 e2 => ?_, fun i j R u n h1 h2 p hp hu => ?_⟩
  · rw [startW_len hl]
    unfold L2.start
    rw [List.length_append, List.length_map, List.length_replicate, hv]
    omega
  · rcases startW_get hl h1 with ⟨d, _, rfl⟩ | ⟨rfl, _⟩ | ⟨hi, rfl⟩
    · cases m1
    · cases m1
    · have := (sl i _ h1).1
      rw [e1] at this
      cases this
  · rcases startW_get hl h1 with ⟨d, _, e⟩ | ⟨e, _⟩ | ⟨hi, e⟩
    · cases e
    · cases e
    · rcases startW_get hl h2 with ⟨d, _, rfl⟩ | ⟨rfl, _⟩ | ⟨hj, _⟩
      · exact hu
      · exact hu
      · exact n (hi.trans hj.symm)
section
variable {G : Pg} {st : Stmt} {x qual : Str} {f : Addr} {fd : FuncData} {N ps : List Str} {k : Nat} {T : List (Addr × Str)}
/-- a def that reads the world keeps its promise -/
theorem fn_dataR {R : List PyData → Wd → Res → Prop} (Fn : Fun G.K x qual st f fd) (S : FnScope N ps (defScope st)) (hN : ps.length + 1 ≤ N.length) (len : ∀ ds W r, R ds W r → ds.length = ps.length)
    (body : ∀ (r : Rest) (F : Fx G.K T) (ds : List PyData) (W : Wd) (res : Res), CtD (G.cx N r) N (defScope st) F.E → (∀ c, fd.code = .ref c → Co (G.cx N r) c (qual ++ ".<locals>.")) → Room k r.A → R ds W res → PSs (G.cx N r) (defBody st) (sD F (startW N ds true W) (postOf res))) :
    FnOk G.prog G.w G.K G.mg G.base (L2N.CX G.prog G.w) (k + 1) f fd ps (spR T R) := by
  obtain ⟨oc, od, kV, doc, pm, an, cdv, ct, osl, rfl, lk, hcd⟩ := Fn.ex
  refine fn_of lk hcd S (fun vs H Q E h => ?_) fun A outer s H vs Q E hr h => ?_
  · obtain ⟨O, ds, W, r, _, _, hd, _, _, hR, _⟩ := h
    rw [hd.len]
    exact len ds W r hR
  · obtain ⟨O, ds, W, r, dom, tb, hd, hL, hO, hR, ok, er⟩ := h
    refine ⟨_, body ⟨A.deeper (envOfC qual (defScope st) s.heap.objs.size f cdv), s, H, envOfC qual (defScope st) s.heap.objs.size f cdv, outer, envOfC qual (defScope st) s.heap.objs.size f cdv :: outer, [], fun _ => true, true, [], _⟩ ⟨O, H, E, dom⟩ ds W r ⟨⟨rfl, rfl, S.nd, rfl⟩, fun _ => rfl, passes_of rfl, L2N.takes_of rfl rfl rfl rfl, rfl, rfl⟩ (fun c hc => by cases (show cdv = .ref c from hc); exact ⟨rfl, rfl⟩) hr hR, O, [], ?_, (fun _ z => by cases z), ?_⟩
    · exact st_start (by have := len ds W r hR; omega) (fun a z => z) dom tb (ExtN.refl H) hd ⟨hL, hO, fun _ a ha => dom a (hO a ha), fun z => (by cases z), fun a ha => dom a (hO a ha)⟩
    · exact ⟨fun δ O' σ' H' m s1 t1 => ok .none m .non H' s1.ext s1.tabs rfl, fun d v H' m e t g => ok d m v H' e t g, fun δ O' σ' H' m => m.elim, fun δ O' σ' H' m => m.elim, fun c H' m e t => er c m H' e t, fun _ _ _ _ _ _ m => m.elim, fun _ _ _ _ _ m => m.elim⟩
/-- a heap without the world -/
def lessW (H : Hp) (W : Wd) : Hp := fun a => if a ∈ wAs W then none else H a
theorem lessW_get {H : Hp} {W : Wd} {a : Addr} {o : HO} (h : lessW H W a = some o) : a ∉ wAs W ∧ H a = some o := by
  unfold lessW at h
  split at h
  · cases h
  · rename_i n; exact ⟨n, h⟩
theorem lessW_ne {H : Hp} {W : Wd} {a : Addr} (n : a ∉ wAs W) : lessW H W a = H a := if_neg n
/-- the world at the end, told from outside -/
theorem aft_end {Kf : PySem.W.Frag} {T : List (Addr × Str)} {O O' : Addr → Prop} {H H' : Hp} {W W' : Wd} {E : XK} {h0 : ∀ a, (O a ∧ a ∉ wAs W) → Lives (lessW H W) a} {σ' : L2.St} {δ' : List Slot} {g : Nat} (s1 : StAt (⟨fun a => O a ∧ a ∉ wAs W, lessW H W, E, h0⟩ : Fx Kf T) O' H' σ' δ') (hg : δ'[g]? = some (.wd false W')) :
    Aft T O H W H' W' ∧ ∀ a, OW O W W' a → O' a := by
  have hw := s1.w hg
  have hO : ∀ a, OW O W W' a → O' a := fun a z => z.elim (fun z => s1.o0 a z) (hw.sh a)
  refine ⟨⟨s1.tabs, fun a o e t n => s1.ext a o (by show lessW H W a = some o; rw [lessW_ne n]; exact e) t, ⟨hw.laid.1, fun q hq => (hw.laid.2 q hq).keep rfl fun d v z => z.open_ hO⟩, fun a ha => ?_⟩, hO⟩
  by_cases n : a ∈ wAs W
  · exact .inl n
  · refine .inr fun ⟨o, e, t⟩ => hw.wr rfl a ha ⟨o, ?_, t⟩
    show lessW H W a = some o
    rw [lessW_ne n]
    exact e
/-- a def that changes the world keeps its promise -/
theorem fn_dataW {R : List PyData → Wd → (PyData → Wd → Prop) → Prop} (Fn : Fun G.K x qual st f fd) (S : FnScope N ps (defScope st)) (hN : ps.length + 1 ≤ N.length) (len : ∀ ds W Ω, R ds W Ω → ds.length = ps.length)
    (body : ∀ (r : Rest) (F : Fx G.K T) (ds : List PyData) (W : Wd) (Ω : PyData → Wd → Prop), CtD (G.cx N r) N (defScope st) F.E → (∀ c, fd.code = .ref c → Co (G.cx N r) c (qual ++ ".<locals>.")) → Room k r.A → R ds W Ω → PSs (G.cx N r) (defBody st) (sD F (startW N ds false W) (postW (N.length - 1) Ω))) :
    FnOk G.prog G.w G.K G.mg G.base (L2N.CX G.prog G.w) (k + 1) f fd ps (spW T R) := by
  obtain ⟨oc, od, kV, doc, pm, an, cdv, ct, osl, rfl, lk, hcd⟩ := Fn.ex
  refine fn_of lk hcd S (fun vs H Q E h => ?_) fun A outer s H vs Q E hr h => ?_
  · obtain ⟨O, ds, W, Ω, _, _, hd, _, _, hR, _⟩ := h
    rw [hd.len]
    exact len ds W Ω hR
  · obtain ⟨O, ds, W, Ω, dom, tb, hd, hL, hO, hR, ok⟩ := h
    have h0 : ∀ a, (O a ∧ a ∉ wAs W) → Lives (lessW H W) a := fun a ⟨z, n⟩ => by
      obtain ⟨o, e, t⟩ := dom a z
      exact ⟨o, by rw [lessW_ne n]; exact e, t⟩
    refine ⟨_, body ⟨A.deeper (envOfC qual (defScope st) s.heap.objs.size f cdv), s, H, envOfC qual (defScope st) s.heap.objs.size f cdv, outer, envOfC qual (defScope st) s.heap.objs.size f cdv :: outer, [], fun _ => true, true, [], _⟩ ⟨fun a => O a ∧ a ∉ wAs W, lessW H W, E, h0⟩ ds W Ω ⟨⟨rfl, rfl, S.nd, rfl⟩, fun _ => rfl, passes_of rfl, L2N.takes_of rfl rfl rfl rfl, rfl, rfl⟩ (fun c hc => by cases (show cdv = .ref c from hc); exact ⟨rfl, rfl⟩) hr hR, O, [], ?_, (fun _ z => by cases z), ?_⟩
    · exact st_start (by have := len ds W Ω hR; omega) (fun a z => z.1) dom tb (fun a o e t => (lessW_get e).2) hd ⟨hL, hO, fun z => (by cases z), fun _ a ha z => (by obtain ⟨o, e, _⟩ := z; exact (lessW_get e).1 ha), fun a ha => dom a (hO a ha)⟩
    · refine ⟨fun δ O' σ' H' m s1 t1 => ?_, fun d v H' m => m.elim, fun δ O' σ' H' m => m.elim, fun δ O' σ' H' m => m.elim, fun c H' m => m.elim, fun δ d v O' σ' H' m s1 g1 => ?_, fun _ _ _ _ _ m => m.elim⟩
      · obtain ⟨W', hg, hΩ⟩ := m
        exact ok .none W' .non H' hΩ (aft_end s1 hg).1 rfl
      · obtain ⟨W', hg, hΩ⟩ := m
        have := aft_end s1 hg
        exact ok d W' v H' hΩ this.1 (g1.open_ this.2)
end
end Lf
set_option Elab.async false
set_option linter.all false
set_option maxRecDepth 100000
set_option maxHeartbeats 4000000
namespace Lf
open PySem PySem.Spec PyProof.Rows L2 L2H HotX LamX
/-- f is the i-th of the names, for the first time -/
def fldAt (ns : List Str) (f : Str) (i : Nat) : Bool := decide (ns[i]? = some f) && !(ns.take i).contains f
theorem fld_lookup {f : Str} : ∀ {vs : List (Str × V)} {i : Nat} {v : V}, fldAt (vs.map (·.1)) f i = true → (vs.map (·.2))[i]? = some v → vs.lookup f = some v
  | [], i, v, _, e => by simp at e
  | (g, x) :: vs, 0, v, h, e => by
    unfold fldAt at h
    simp only [List.map_cons, List.getElem?_cons_zero, Bool.and_eq_true, decide_eq_true_eq, Option.some.injEq] at h e
    rw [List.lookup, show (f == g) = true by rw [h.1]; exact beq_self_eq_true f, e]
  | (g, x) :: vs, i + 1, v, h, e => by
    unfold fldAt at h
    simp only [List.map_cons, List.getElem?_cons_succ, List.take_succ_cons, Bool.and_eq_true, decide_eq_true_eq, Bool.not_eq_true', List.contains_cons, Bool.or_eq_false_iff] at h e
    rw [List.lookup, h.2.1]
    exact fld_lookup (i := i) (by unfold fldAt; simp only [Bool.and_eq_true, decide_eq_true_eq, Bool.not_eq_true']; exact ⟨h.1, h.2.2⟩) e
theorem fld_putF {f : Str} {y : V} : ∀ {vs : List (Str × V)} {i : Nat}, fldAt (vs.map (·.1)) f i = true → (putF f y vs).map (·.1) = vs.map (·.1) ∧ (putF f y vs).map (·.2) = (vs.map (·.2)).set i y
  | [], i, h => by unfold fldAt at h; simp at h
  | (g, x) :: vs, 0, h => by
    unfold fldAt at h
    simp only [List.map_cons, List.getElem?_cons_zero, Bool.and_eq_true, decide_eq_true_eq, Option.some.injEq] at h
    rw [putF, if_pos h.1]
    exact ⟨rfl, rfl⟩
  | (g, x) :: vs, i + 1, h => by
    unfold fldAt at h
    simp only [List.map_cons, List.getElem?_cons_succ, List.take_succ_cons, Bool.and_eq_true, decide_eq_true_eq, Bool.not_eq_true', List.contains_cons, Bool.or_eq_false_iff] at h
    have hn : ¬ g = f := fun z => by
      have := h.2.1
      rw [z, beq_self_eq_true] at this
      cases this
    rw [putF, if_neg hn]
    obtain ⟨a, b⟩ := fld_putF (y := y) (vs := vs) (i := i) (by unfold fldAt; simp only [Bool.and_eq_true, decide_eq_true_eq, Bool.not_eq_true']; exact ⟨h.1, h.2.2⟩)
    simp [a, b]
theorem fld_putN {f : Str} {y : V} : ∀ {vs : List (Str × V)}, (vs.map (·.1)).contains f = false → putF f y vs = vs ++ [(f, y)]
  | [], _ => rfl
  | (g, x) :: vs, h => by
    simp only [List.map_cons, List.contains_cons, Bool.or_eq_false_iff] at h
    have hn : ¬ g = f := fun z => by
      have := h.1
      rw [z, beq_self_eq_true] at this
      cases this
    rw [putF, if_neg hn, fld_putN h.2]
    rfl
theorem fld_none {f : Str} : ∀ {vs : List (Str × V)}, (vs.map (·.1)).contains f = false → vs.lookup f = none
  | [], _ => rfl
  | (g, x) :: vs, h => by
    simp only [List.map_cons, List.contains_cons, Bool.or_eq_false_iff] at h
    rw [List.lookup, h.1]
    exact fld_none h.2
/-- what the walk asks of a class -/
structure ClsX (K : PySem.W.Frag) (mg : Str → Option Value) (x : Str) (C : Addr) (ns : List Str) : Prop where
  cl : Cls K C
  na : ∀ f ∈ ns, NoAttr K C f
  mg : mg x = some (.ref C)
/-- a method by its name -/
structure Mt (G : Pg) (C : Addr) (m qual : Str) (st : Stmt) (ps : List Str) : Prop where
  ex : ∃ f fd, Fun G.K m qual st f fd ∧ Meth G.K C m f ∧ Binds G.K fd ps []
/-- __init__ -/
structure MtI (G : Pg) (C : Addr) (qual : Str) (st : Stmt) (ps : List Str) : Prop where
  ex : ∃ f fd, Fun G.K "__init__" qual st f fd ∧ L2.Mk G.K C f ∧ Binds G.K fd ps []
structure Md (P : Program) (w : World) (K : PySem.W.Frag) (mg : Str → Option Value) (base : Heap) (C : Addr) (m : Str) (k : Nat) (ps : List Str) (sp : Sp) : Prop where
  ex : ∃ f fd, FnOk P w K mg base (L2N.CX P w) k f fd ps sp ∧ Meth K C m f ∧ Binds K fd ps []
structure MdI (P : Program) (w : World) (K : PySem.W.Frag) (mg : Str → Option Value) (base : Heap) (C : Addr) (k : Nat) (ps : List Str) (sp : Sp) : Prop where
  ex : ∃ f fd, FnOk P w K mg base (L2N.CX P w) k f fd ps sp ∧ L2.Mk K C f ∧ Binds K fd ps []
section
variable {G : Pg} {st : Stmt} {x m qual : Str} {C : Addr} {N ps : List Str} {k : Nat} {T : List (Addr × Str)}
theorem md_R {R : List PyData → Wd → Res → Prop} (D : Mt G C m qual st ps) (S : FnScope N ps (defScope st)) (hN : ps.length + 1 ≤ N.length) (len : ∀ ds W r, R ds W r → ds.length = ps.length)
    (body : ∀ (r : Rest) (F : Fx G.K T) (ds : List PyData) (W : Wd) (res : Res), CtD (G.cx N r) N (defScope st) F.E → Room k r.A → R ds W res → PSs (G.cx N r) (defBody st) (sD F (startW N ds true W) (postOf res))) :
    Md G.prog G.w G.K G.mg G.base C m (k + 1) ps (spR T R) := by
  obtain ⟨f, fd, Fn, m, b⟩ := D.ex
  exact ⟨f, fd, fn_dataR Fn S hN len fun r F ds W res cd _ hr h => body r F ds W res cd hr h, m, b⟩
theorem md_W {R : List PyData → Wd → (PyData → Wd → Prop) → Prop} (D : Mt G C m qual st ps) (S : FnScope N ps (defScope st)) (hN : ps.length + 1 ≤ N.length) (len : ∀ ds W Ω, R ds W Ω → ds.length = ps.length)
    (body : ∀ (r : Rest) (F : Fx G.K T) (ds : List PyData) (W : Wd) (Ω : PyData → Wd → Prop), CtD (G.cx N r) N (defScope st) F.E → Room k r.A → R ds W Ω → PSs (G.cx N r) (defBody st) (sD F (startW N ds false W) (postW (N.length - 1) Ω))) :
    Md G.prog G.w G.K G.mg G.base C m (k + 1) ps (spW T R) := by
  obtain ⟨f, fd, Fn, m, b⟩ := D.ex
  exact ⟨f, fd, fn_dataW Fn S hN len fun r F ds W Ω cd _ hr h => body r F ds W Ω cd hr h, m, b⟩
theorem mdi_W {R : List PyData → Wd → (PyData → Wd → Prop) → Prop} (D : MtI G C qual st ps) (S : FnScope N ps (defScope st)) (hN : ps.length + 1 ≤ N.length) (len : ∀ ds W Ω, R ds W Ω → ds.length = ps.length)
    (body : ∀ (r : Rest) (F : Fx G.K T) (ds : List PyData) (W : Wd) (Ω : PyData → Wd → Prop), CtD (G.cx N r) N (defScope st) F.E → Room k r.A → R ds W Ω → PSs (G.cx N r) (defBody st) (sD F (startW N ds false W) (postW (N.length - 1) Ω))) :
    MdI G.prog G.w G.K G.mg G.base C (k + 1) ps (spW T R) := by
  obtain ⟨f, fd, Fn, m, b⟩ := D.ex
  exact ⟨f, fd, fn_dataW Fn S hN len fun r F ds W Ω cd _ hr h => body r F ds W Ω cd hr h, m, b⟩
/-- defs of the law's own -/
theorem fd_R {R : List PyData → Wd → Res → Prop} (D : Df G x st ps) (S : FnScope N ps (defScope st)) (hN : ps.length + 1 ≤ N.length) (len : ∀ ds W r, R ds W r → ds.length = ps.length)
    (body : ∀ (r : Rest) (F : Fx G.K T) (ds : List PyData) (W : Wd) (res : Res), CtD (G.cx N r) N (defScope st) F.E → Room k r.A → R ds W res → PSs (G.cx N r) (defBody st) (sD F (startW N ds true W) (postOf res))) :
    Fd G.prog G.w G.K G.mg G.base x (k + 1) ps (spR T R) := by
  obtain ⟨f, fd, Fn, m, b⟩ := D.ex
  exact ⟨f, fd, fn_dataR Fn S hN len fun r F ds W res cd _ hr h => body r F ds W res cd hr h, m, Fn.kp, b⟩
theorem fd_W {R : List PyData → Wd → (PyData → Wd → Prop) → Prop} (D : Df G x st ps) (S : FnScope N ps (defScope st)) (hN : ps.length + 1 ≤ N.length) (len : ∀ ds W Ω, R ds W Ω → ds.length = ps.length)
    (body : ∀ (r : Rest) (F : Fx G.K T) (ds : List PyData) (W : Wd) (Ω : PyData → Wd → Prop), CtD (G.cx N r) N (defScope st) F.E → Room k r.A → R ds W Ω → PSs (G.cx N r) (defBody st) (sD F (startW N ds false W) (postW (N.length - 1) Ω))) :
    Fd G.prog G.w G.K G.mg G.base x (k + 1) ps (spW T R) := by
  obtain ⟨f, fd, Fn, m, b⟩ := D.ex
  exact ⟨f, fd, fn_dataW Fn S hN len fun r F ds W Ω cd _ hr h => body r F ds W Ω cd hr h, m, Fn.kp, b⟩
theorem fd_LW {c : Addr} {R : List PyData → Wd → (PyData → Wd → Prop) → Prop} (D : DfL G x st ps c) (S : FnScope N ps (defScope st)) (hN : ps.length + 1 ≤ N.length) (len : ∀ ds W Ω, R ds W Ω → ds.length = ps.length)
    (body : ∀ (r : Rest) (F : Fx G.K T) (ds : List PyData) (W : Wd) (Ω : PyData → Wd → Prop), CtD (G.cx N r) N (defScope st) F.E → Co (G.cx N r) c (x ++ ".<locals>.") → Room k r.A → R ds W Ω → PSs (G.cx N r) (defBody st) (sD F (startW N ds false W) (postW (N.length - 1) Ω))) :
    Fd G.prog G.w G.K G.mg G.base x (k + 1) ps (spW T R) := by
  obtain ⟨f, fd, Fn, m, b, hc⟩ := D.ex
  exact ⟨f, fd, fn_dataW Fn S hN len fun r F ds W Ω cd co hr h => body r F ds W Ω cd (co c hc) hr h, m, Fn.kp, b⟩
end
section
variable {Kf : PySem.W.Frag} {Tf : List (Addr × Str)} {F : Fx Kf Tf} {δ : List Slot} {X : Cx} {N ns : List Str} {sc : Scope} {pos apos pos' p2 : Pos} {a b c e o value : Expr} {es : List Expr} {d z : PyData} {ds fs : List PyData} {x f m : Str} {k : Nat} {ps : List Str} {W : Wd} {ro : Bool} {p C : Addr} {rest body els : List Stmt} {P : Post}
/-- o.f -/
theorem x_fld (g i : Nat) (cl : Cls X.K C) (na : NoAttr X.K C f) (hg : δ[g]? = some (.wd ro W)) (ho : PE X o (tD F δ (ptrD p))) (hp : (p, .ins C ns fs) ∈ W) (hd : fs[i]? = some d) (hf : fldAt ns f i = true := by decide +kernel) (hb : attributeBase o f X.env (eval o X.env) = eval o X.env := by rfl) : PE X (.Attribute o f pos) (tD F δ d) :=
  wkE (pe_fld ho hb) fun σ H Q h => by
    obtain ⟨O, st, k⟩ := h
    refine ⟨O, st, fun v H1 e1 t1 g1 => ?_⟩
    rw [dt_ptr_eq g1]
    obtain ⟨dx, vs, hH, en, fa⟩ := ((st.grow e1 t1).w hg).laid.2 _ hp
    obtain ⟨v, hv, dv⟩ := fa.get hd
    exact ⟨p, C, dx, vs, v, rfl, hH, cl, na, fld_lookup (by rw [en]; exact hf) hv, k v H1 e1 t1 dv⟩
theorem tabs_turnI {T : List (Addr × Str)} {H : Hp} {o : HO} {C dx : Addr} {fs : List (Str × V)} (t : Tabs T H) (hp : H p = some (.ins C dx fs)) : Tabs T (upd H p o) := fun q hq => by
  obtain ⟨ps, g, a, b⟩ := t q hq
  have n1 : q.1 ≠ p := fun z => by rw [z, hp] at g; cases g
  refine ⟨ps, by rw [upd_ne n1]; exact g, a, fun pos cv hc => ?_⟩
  obtain ⟨c, e1, e2⟩ := b pos cv hc
  have n2 : c ≠ p := fun z => by
    rw [z, hp] at e2
    unfold CodeO at e2
    cases e2
  exact ⟨c, e1, by rw [upd_ne n2]; exact e2⟩
/-- the state behind a change, with what is kept aside -/
theorem w_out {O : Addr → Prop} {H H' : Hp} {σ : L2.St} {W' : Wd} {τ : List (PyData × V)} {g : Nat} (st : StAt F O H σ δ) (tm : Tm O H τ) (hg : δ[g]? = some (.wd false W)) (h : Aft F.T O H W H' W') : StAt F (OW O W W') H' σ (δ.set g (.wd false W')) ∧ Tm (OW O W W') H' τ :=
  ⟨w_after st hg h, fun q hq => h.kp (st.w hg).sh _ _ (tm q hq)⟩
/-- o.f = value, f is there -/
theorem s_fld (g j i : Nat) (cl : Cls X.K C) (na : NoAttr X.K C f) (hg : δ[g]? = some (.wd false W)) (hj : W[j]? = some (p, .ins C ns fs)) (ho : PE X o (tD F δ (ptrD p))) (hv : PE X value (tD F δ d)) (hr : PSs X rest (sD F (δ.set g (.wd false (W.set j (p, .ins C ns (fs.set i d))))) P)) (hl : ns.length < 1000 := by decide) (hf : fldAt ns f i = true := by decide +kernel)
    (hs : swapsWith value (some (.Attribute o f pos')) pos.line X.env = pure false := by rfl) : PSs X (.Assign [.Attribute o f pos'] value pos :: rest) (sD F δ P) :=
  wkSs (pss_cons (ps_fld ho hv hs) hr) fun D σ H h' => by
    obtain ⟨O, τ, s0, tm, w⟩ := h'
    refine ⟨O, s0, fun y H1 e1 t1 g1 => ⟨O, s0.grow e1 t1, fun x H2 e2 t2 g2 => ?_⟩⟩
    rw [dt_ptr_eq g2]
    have s2 := (s0.grow e1 t1).grow e2 t2
    have hw := s2.w hg
    obtain ⟨dx, vs, hH, en, fa⟩ := hw.laid.2 _ (List.mem_of_getElem? hj)
    refine ⟨p, C, dx, vs, rfl, hH, cl, na, by rw [← List.length_map (f := (·.1)), en]; exact hl, ?_⟩
    obtain ⟨q1, q2⟩ := fld_putF (y := y) (vs := vs) (i := i) (f := f) (by rw [en]; exact hf)
    obtain ⟨s3, t3⟩ := w_out s2 ((tm.grow e1).grow e2) hg (aft_turn (mo' := .ins C ns (fs.set i d)) hw hj (tabs_turnI t2 hH) fun hO => ⟨dx, _, upd_same, by rw [q1, en], by rw [q2]; exact (fa.turn hO).set ((g1.grow e2).turn hO) i⟩)
    exact ⟨_, τ, s3, t3, w⟩
/-- .. f is new -/
theorem s_fldN (g j : Nat) (cl : Cls X.K C) (na : NoAttr X.K C f) (hg : δ[g]? = some (.wd false W)) (hj : W[j]? = some (p, .ins C ns fs)) (ho : PE X o (tD F δ (ptrD p))) (hv : PE X value (tD F δ d)) (hr : PSs X rest (sD F (δ.set g (.wd false (W.set j (p, .ins C (ns ++ [f]) (fs ++ [d]))))) P)) (hl : ns.length < 1000 := by decide) (hf : ns.contains f = false := by decide +kernel)
    (hs : swapsWith value (some (.Attribute o f pos')) pos.line X.env = pure false := by rfl) : PSs X (.Assign [.Attribute o f pos'] value pos :: rest) (sD F δ P) :=
  wkSs (pss_cons (ps_fld ho hv hs) hr) fun D σ H h' => by
    obtain ⟨O, τ, s0, tm, w⟩ := h'
    refine ⟨O, s0, fun y H1 e1 t1 g1 => ⟨O, s0.grow e1 t1, fun x H2 e2 t2 g2 => ?_⟩⟩
    rw [dt_ptr_eq g2]
    have s2 := (s0.grow e1 t1).grow e2 t2
    have hw := s2.w hg
    obtain ⟨dx, vs, hH, en, fa⟩ := hw.laid.2 _ (List.mem_of_getElem? hj)
    refine ⟨p, C, dx, vs, rfl, hH, cl, na, by rw [← List.length_map (f := (·.1)), en]; exact hl, ?_⟩
    have q1 := fld_putN (y := y) (vs := vs) (f := f) (by rw [en]; exact hf)
    rw [q1]
    obtain ⟨s3, t3⟩ := w_out s2 ((tm.grow e1).grow e2) hg (aft_turn (o := .ins C dx (vs ++ [(f, y)])) (mo' := .ins C (ns ++ [f]) (fs ++ [d])) hw hj (tabs_turnI t2 hH) fun hO => ⟨dx, _, upd_same, by simp [en], by rw [List.map_append]; exact (fa.turn hO).app (.one ((g1.grow e2).turn hO))⟩)
    exact ⟨_, τ, s3, t3, w⟩
theorem rd_run {R : List PyData → Wd → Res → Prop} {O : Addr → Prop} {H : Hp} {σ : L2.St} {vs : List V} {Q : VK} {E : XK} {g : Nat} (st : StAt F O H σ δ) (hg : δ[g]? = some (.wd ro W)) (hd : DtAll O H ds vs) (hR : R ds W (.ok d)) (w : ∀ v H', ExtN H H' → Tabs F.T H' → Dt O H' d v → Q v H') : spR Tf R vs H Q E :=
  ⟨O, ds, W, .ok d, st.dom, st.tabs, hd, (st.w hg).laid, (st.w hg).sh, hR, fun d' q v H' e2 t2 g2 => by cases q; exact w v H' e2 t2 g2, fun c q => by cases q⟩
theorem rd_runX {R : List PyData → Wd → Res → Prop} {O : Addr → Prop} {H : Hp} {σ : L2.St} {vs : List V} {Q : VK} {E : XK} {g : Nat} {A : Addr} (st : StAt F O H σ δ) (hg : δ[g]? = some (.wd ro W)) (hd : DtAll O H ds vs) (hR : R ds W (.error A)) (w : ∀ H', ExtN H H' → Tabs F.T H' → E (.ref A) none H') : spR Tf R vs H Q E :=
  ⟨O, ds, W, .error A, st.dom, st.tabs, hd, (st.w hg).laid, (st.w hg).sh, hR, fun d' q => (by cases q), fun c q H' e2 t2 => (by cases q; exact w H' e2 t2)⟩
theorem lk_none {O : Addr → Prop} {H : Hp} {vs : List (Str × V)} (en : vs.map (·.1) = ns) (hm : ns.contains m = false) : vs.lookup m = none := fld_none (by rw [en]; exact hm)
theorem x_mrd0 {pl : Sem Bool} {R : List PyData → Wd → Res → Prop} (g : Nat) (cl : Cls X.K C) (h : Md X.prog X.w X.K X.mg X.base C m k ps (spR Tf R)) (hr : Room k X.A) (hg : δ[g]? = some (.wd ro W)) (hp : (p, .ins C ns fs) ∈ W) (ho : PE X o (tD F δ (ptrD p))) (hR : R [ptrD p] W (.ok d)) (hm : ns.contains m = false := by decide +kernel)
    (ht : eval (.Call (.Attribute o m apos) [] [] pos) X.env = (do
      let ov ← eval o X.env
      standAt apos.atName
      let (f, first) ← holding [ov] (getMethod ov m pl)
      callWith pos f first (backTo pos (starEach [] X.env)) (backToKw pos (keywordEach [] X.env))) := by rfl) : PE X (.Call (.Attribute o m apos) [] [] pos) (tD F δ d) := by
  obtain ⟨f, fd, Fk, mt, bi⟩ := h.ex
  refine wkE (pe_meth0 ho cl mt Fk hr bi .nil passN ht) fun σ H Q h => ?_
  obtain ⟨O, st, w⟩ := h
  refine ⟨O, st, fun v H1 e1 t1 g1 => ?_⟩
  have ev := dt_ptr_eq g1
  subst ev
  have s1 := st.grow e1 t1
  obtain ⟨dx, vs, hH, en, fa⟩ := (s1.w hg).laid.2 _ hp
  exact ⟨p, dx, vs, rfl, hH, lk_none (O := O) (H := H) en hm, rd_run (ds := [ptrD p]) s1 hg ⟨_, _, rfl, dt_ptr, rfl⟩ hR fun v H' e3 t3 g3 => w v H' (e1.trans e3) t3 g3⟩
theorem x_mrdX {pl : Sem Bool} {A : Addr} {R : List PyData → Wd → Res → Prop} (g : Nat) (tk : L2N.Takes X (fun cls d _ H => F.E cls d H)) (cl : Cls X.K C) (h : Md X.prog X.w X.K X.mg X.base C m k ps (spR Tf R)) (hr : Room k X.A) (hg : δ[g]? = some (.wd ro W)) (hp : (p, .ins C ns fs) ∈ W) (ho : PE X o (tD F δ (ptrD p))) (ha : PA X (e :: es) (aD F δ ds)) (hR : R (ptrD p :: ds) W (.error A)) (hm : ns.contains m = false := by decide +kernel)
    (hst : starEach (e :: es) X.env = (false, eval e X.env) :: starEach es X.env := by rfl) (hpl : (backTo pos (starEach es X.env)).any (·.1) = false := by rfl)
    (ht : eval (.Call (.Attribute o m apos) (e :: es) [] pos) X.env = (do
      let ov ← eval o X.env
      standAt apos.atName
      let (f, first) ← holding [ov] (getMethod ov m pl)
      callWith pos f first (backTo pos (starEach (e :: es) X.env)) (backToKw pos (keywordEach [] X.env))) := by rfl) : PE X (.Call (.Attribute o m apos) (e :: es) [] pos) (tDX F δ A) := by
  obtain ⟨f, fd, Fk, mt, bi⟩ := h.ex
  refine wkE (pe_meth ho cl mt Fk hr bi .nil (E := F.E) (L2N.passes_call tk fun _ _ _ _ z => z) ha hst hpl ht) fun σ H Q h => ?_
  obtain ⟨O, st, w⟩ := h
  refine ⟨O, st, fun v H1 e1 t1 g1 => ?_⟩
  have ev := dt_ptr_eq g1
  subst ev
  have s1 := st.grow e1 t1
  obtain ⟨dx, vs, hH, en, fa⟩ := (s1.w hg).laid.2 _ hp
  refine ⟨p, dx, vs, rfl, hH, lk_none (O := O) (H := H) en hm, O, s1, fun us H2 e2 t2 g2 => ?_⟩
  show spR Tf R (_ :: (us ++ [])) H2 Q _
  rw [List.append_nil]
  exact rd_runX (ds := ptrD p :: ds) (s1.grow e2 t2) hg ⟨_, _, rfl, dt_ptr, g2⟩ hR fun H' e3 t3 => w H' ((e1.trans e2).trans e3) t3
theorem x_mrdX0 {pl : Sem Bool} {A : Addr} {R : List PyData → Wd → Res → Prop} (g : Nat) (tk : L2N.Takes X (fun cls d _ H => F.E cls d H)) (cl : Cls X.K C) (h : Md X.prog X.w X.K X.mg X.base C m k ps (spR Tf R)) (hr : Room k X.A) (hg : δ[g]? = some (.wd ro W)) (hp : (p, .ins C ns fs) ∈ W) (ho : PE X o (tD F δ (ptrD p))) (hR : R [ptrD p] W (.error A)) (hm : ns.contains m = false := by decide +kernel)
    (ht : eval (.Call (.Attribute o m apos) [] [] pos) X.env = (do
      let ov ← eval o X.env
      standAt apos.atName
      let (f, first) ← holding [ov] (getMethod ov m pl)
      callWith pos f first (backTo pos (starEach [] X.env)) (backToKw pos (keywordEach [] X.env))) := by rfl) : PE X (.Call (.Attribute o m apos) [] [] pos) (tDX F δ A) := by
  obtain ⟨f, fd, Fk, mt, bi⟩ := h.ex
  refine wkE (pe_meth0 ho cl mt Fk hr bi .nil (E := F.E) (L2N.passes_call tk fun _ _ _ _ z => z) ht) fun σ H Q h => ?_
  obtain ⟨O, st, w⟩ := h
  refine ⟨O, st, fun v H1 e1 t1 g1 => ?_⟩
  have ev := dt_ptr_eq g1
  subst ev
  have s1 := st.grow e1 t1
  obtain ⟨dx, vs, hH, en, fa⟩ := (s1.w hg).laid.2 _ hp
  exact ⟨p, dx, vs, rfl, hH, lk_none (O := O) (H := H) en hm, rd_runX (ds := [ptrD p]) s1 hg ⟨_, _, rfl, dt_ptr, rfl⟩ hR fun H' e3 t3 => w H' (e1.trans e3) t3⟩
/-- a def that reads the world is called -/
theorem x_crd {R : List PyData → Wd → Res → Prop} (g : Nat) (cx : Ctx X N sc) (h : Fd X.prog X.w X.K X.mg X.base x k ps (spR Tf R)) (hr : Room k X.A) (hw : δ[g]? = some (.wd ro W)) (ha : PA X (e :: es) (aD F δ ds)) (hR : R ds W (.ok d)) (hg : sc.names.lookup x = some .globalImplicit := by rfl) (hdb : (x == ("__debug__" : Str)) = false := by decide)
    (he : starEach (e :: es) X.env = (false, eval e X.env) :: starEach es X.env := by rfl) (hpl : (backTo pos (starEach es X.env)).any (·.1) = false := by rfl) : PE X (.Call (.Name x p2) (e :: es) [] pos) (tD F δ d) := by
  obtain ⟨f, fd, G, m, kp, b⟩ := h.ex
  refine wkE (pe_call G hr (cx.gl hg) m kp b .nil passN ha hdb he hpl) fun σ H Q h => ?_
  obtain ⟨O, st, w⟩ := h
  refine ⟨O, st, fun vs H1 e1 t1 g1 => ?_⟩
  show spR Tf R (vs ++ []) H1 Q _
  rw [List.append_nil]
  exact rd_run (st.grow e1 t1) hw g1 hR fun v H' e2 t2 g2 => w v H' (e1.trans e2) t2 g2
theorem wr_run {R : List PyData → Wd → (PyData → Wd → Prop) → Prop} {Ω : PyData → Wd → Prop} {O : Addr → Prop} {H : Hp} {σ : L2.St} {vs : List V} {Q : VK} {E : XK} {g : Nat} (st : StAt F O H σ δ) (hg : δ[g]? = some (.wd false W)) (hd : DtAll O H ds vs) (hR : R ds W Ω)
    (w : ∀ d W' v O' H', Ω d W' → StAt F O' H' σ (δ.set g (.wd false W')) → Kp O H O' H' → Dt O' H' d v → Q v H') : spW Tf R vs H Q E :=
  ⟨O, ds, W, Ω, st.dom, st.tabs, hd, (st.w hg).laid, (st.w hg).sh, hR, fun d W' v H' hΩ af g1 => w d W' v _ H' hΩ (w_after st hg af) (af.kp (st.w hg).sh) g1⟩
theorem x_mwr {pl : Sem Bool} {R : List PyData → Wd → (PyData → Wd → Prop) → Prop} {Ω : PyData → Wd → Prop} (g : Nat) (cl : Cls X.K C) (h : Md X.prog X.w X.K X.mg X.base C m k ps (spW Tf R)) (hr : Room k X.A) (hg : δ[g]? = some (.wd false W)) (hp : (p, .ins C ns fs) ∈ W) (ho : PE X o (tD F δ (ptrD p))) (ha : PA X (e :: es) (aD F δ ds)) (hR : R (ptrD p :: ds) W Ω) (hm : ns.contains m = false := by decide +kernel)
    (hst : starEach (e :: es) X.env = (false, eval e X.env) :: starEach es X.env := by rfl) (hpl : (backTo pos (starEach es X.env)).any (·.1) = false := by rfl)
    (ht : eval (.Call (.Attribute o m apos) (e :: es) [] pos) X.env = (do
      let ov ← eval o X.env
      standAt apos.atName
      let (f, first) ← holding [ov] (getMethod ov m pl)
      callWith pos f first (backTo pos (starEach (e :: es) X.env)) (backToKw pos (keywordEach [] X.env))) := by rfl) : PE X (.Call (.Attribute o m apos) (e :: es) [] pos) (tW F δ g Ω) := by
  obtain ⟨f, fd, Fk, mt, bi⟩ := h.ex
  refine wkE (pe_meth ho cl mt Fk hr bi .nil passN ha hst hpl ht) fun σ H Q h => ?_
  obtain ⟨O, st, w⟩ := h
  refine ⟨O, st, fun v H1 e1 t1 g1 => ?_⟩
  have ev := dt_ptr_eq g1
  subst ev
  have s1 := st.grow e1 t1
  obtain ⟨dx, vs, hH, en, fa⟩ := (s1.w hg).laid.2 _ hp
  refine ⟨p, dx, vs, rfl, hH, lk_none (O := O) (H := H) en hm, O, s1, fun us H2 e2 t2 g2 => ?_⟩
  show spW Tf R (_ :: (us ++ [])) H2 Q _
  rw [List.append_nil]
  exact wr_run (ds := ptrD p :: ds) (s1.grow e2 t2) hg ⟨_, _, rfl, dt_ptr, g2⟩ hR fun d W' v O' H' hΩ s' kp g3 => w d W' v O' H' hΩ s' (Kp.trans (Kp.ext (e1.trans e2)) kp) g3
theorem x_mwr0 {pl : Sem Bool} {R : List PyData → Wd → (PyData → Wd → Prop) → Prop} {Ω : PyData → Wd → Prop} (g : Nat) (cl : Cls X.K C) (h : Md X.prog X.w X.K X.mg X.base C m k ps (spW Tf R)) (hr : Room k X.A) (hg : δ[g]? = some (.wd false W)) (hp : (p, .ins C ns fs) ∈ W) (ho : PE X o (tD F δ (ptrD p))) (hR : R [ptrD p] W Ω) (hm : ns.contains m = false := by decide +kernel)
    (ht : eval (.Call (.Attribute o m apos) [] [] pos) X.env = (do
      let ov ← eval o X.env
      standAt apos.atName
      let (f, first) ← holding [ov] (getMethod ov m pl)
      callWith pos f first (backTo pos (starEach [] X.env)) (backToKw pos (keywordEach [] X.env))) := by rfl) : PE X (.Call (.Attribute o m apos) [] [] pos) (tW F δ g Ω) := by
  obtain ⟨f, fd, Fk, mt, bi⟩ := h.ex
  refine wkE (pe_meth0 ho cl mt Fk hr bi .nil passN ht) fun σ H Q h => ?_
  obtain ⟨O, st, w⟩ := h
  refine ⟨O, st, fun v H1 e1 t1 g1 => ?_⟩
  have ev := dt_ptr_eq g1
  subst ev
  have s1 := st.grow e1 t1
  obtain ⟨dx, vs, hH, en, fa⟩ := (s1.w hg).laid.2 _ hp
  refine ⟨p, dx, vs, rfl, hH, lk_none (O := O) (H := H) en hm, ?_⟩
  show spW Tf R [V.ref p] H1 Q E0
  exact wr_run (ds := [ptrD p]) s1 hg ⟨_, _, rfl, dt_ptr, rfl⟩ hR fun d W' v O' H' hΩ s' kp g3 => w d W' v O' H' hΩ s' (Kp.trans (Kp.ext e1) kp) g3
theorem x_cwr {R : List PyData → Wd → (PyData → Wd → Prop) → Prop} {Ω : PyData → Wd → Prop} (g : Nat) (cx : Ctx X N sc) (h : Fd X.prog X.w X.K X.mg X.base x k ps (spW Tf R)) (hr : Room k X.A) (hw : δ[g]? = some (.wd false W)) (ha : PA X (e :: es) (aD F δ ds)) (hR : R ds W Ω) (hg : sc.names.lookup x = some .globalImplicit := by rfl) (hdb : (x == ("__debug__" : Str)) = false := by decide)
    (he : starEach (e :: es) X.env = (false, eval e X.env) :: starEach es X.env := by rfl) (hpl : (backTo pos (starEach es X.env)).any (·.1) = false := by rfl) : PE X (.Call (.Name x p2) (e :: es) [] pos) (tW F δ g Ω) := by
  obtain ⟨f, fd, G, m, kp, b⟩ := h.ex
  refine wkE (pe_call G hr (cx.gl hg) m kp b .nil passN ha hdb he hpl) fun σ H Q h => ?_
  obtain ⟨O, st, w⟩ := h
  refine ⟨O, st, fun vs H1 e1 t1 g1 => ?_⟩
  show spW Tf R (vs ++ []) H1 Q _
  rw [List.append_nil]
  exact wr_run (st.grow e1 t1) hw g1 hR fun d W' v O' H' hΩ s' kp g3 => w d W' v O' H' hΩ s' (Kp.trans (Kp.ext e1) kp) g3
theorem wr_make {R : List PyData → Wd → (PyData → Wd → Prop) → Prop} {Ω : PyData → Wd → Prop} {O : Addr → Prop} {H : Hp} {σ : L2.St} {vs : List V} {Q : VK} {E : XK} {g : Nat} {q dx : Addr} (st : StAt F O H σ δ) (hg : δ[g]? = some (.wd false W)) (hd : DtAll O H ds vs) (h1 : H q = none) (h2 : H dx = none) (ne : dx ≠ q)
    (hR : R (ptrD q :: ds) (W ++ [(q, .ins C [] [])]) Ω)
    (w : ∀ d W' v O' H', Ω d W' → StAt F O' H' σ (δ.set g (.wd false W')) → Kp O H O' H' → Dt O' H' d v → Q v H') : spW Tf R (.ref q :: vs) (upd (upd H dx (.own q)) q (.ins C dx [])) Q E := by
  have h3 : (upd H dx (.own q)) q = none := by rw [upd_ne ne.symm]; exact h1
  have s1 := st.grow (ext_new (o := .own q) h2) (tabs_new st.tabs h2)
  have hw := s1.w hg
  have af := aft_new (o := .ins C dx []) (mo := .ins C [] []) hw s1.tabs h3 ⟨dx, [], upd_same, rfl, rfl⟩
  have s2 := w_after s1 hg af
  have kp := Kp.trans (Kp.ext (ext_new (o := .own q) h2)) (af.kp hw.sh)
  have hgl : g < δ.length := (List.getElem?_eq_some_iff.mp hg).1
  refine wr_run (ds := ptrD q :: ds) (g := g) s2 (by rw [List.getElem?_set_self hgl]) ⟨_, _, rfl, dt_ptr, hd.kp kp⟩ hR fun d W' v O' H' hΩ s' kp' g3 => ?_
  rw [List.set_set] at s'
  exact w d W' v O' H' hΩ s' (kp.trans kp') g3
theorem new_out {O : Addr → Prop} {H : Hp} {σ : L2.St} {g : Nat} {q : Addr} (st : StAt F O H σ δ) (hg : δ[g]? = some (.wd ro W)) (h1 : H q = none) : q ∉ wAs W := fun z => ((st.w hg).lv q z).ne h1 rfl
/-- C(..) -/
theorem x_make {R : List PyData → Wd → (PyData → Wd → Prop) → Prop} {Ω : Addr → Wd → Prop} (g : Nat) (cx : Ctx X N sc) (hC : X.mg x = some (.ref C)) (h : MdI X.prog X.w X.K X.mg X.base C k ps (spW Tf R)) (hr : Room (k + 1) X.A) (hw : δ[g]? = some (.wd false W)) (ha : PA X (e :: es) (aD F δ ds)) (hR : ∀ q, q ∉ wAs W → R (ptrD q :: ds) (W ++ [(q, .ins C [] [])]) (fun d W' => d = .none ∧ Ω q W')) (hg : sc.names.lookup x = some .globalImplicit := by rfl) (hdb : (x == ("__debug__" : Str)) = false := by decide)
    (he : starEach (e :: es) X.env = (false, eval e X.env) :: starEach es X.env := by rfl) (hpl : (backTo pos (starEach es X.env)).any (·.1) = false := by rfl) : PE X (.Call (.Name x p2) (e :: es) [] pos) (tW F δ g fun d W' => ∃ q, q ∉ wAs W ∧ d = ptrD q ∧ Ω q W') := by
  obtain ⟨f, fd, G, m, b⟩ := h.ex
  refine wkE (pe_make m G hr (cx.gl hg) hC b .nil passN ha hdb he hpl) fun σ H Q h => ?_
  obtain ⟨O, st, w⟩ := h
  refine ⟨O, st, fun vs H1 e1 t1 g1 q dx h1 h2 ne => ?_⟩
  show spW Tf R (_ :: (vs ++ [])) _ _ _
  rw [List.append_nil]
  have s1 := st.grow e1 t1
  have hq := new_out s1 hw h1
  refine wr_make s1 hw g1 h1 h2 ne (hR q hq) fun d W' v O' H' hΩ s' kp g3 => ?_
  obtain ⟨rfl, hΩ⟩ := hΩ
  exact ⟨g3, w (ptrD q) W' (.ref q) O' H' ⟨q, hq, rfl, hΩ⟩ s' (Kp.trans (Kp.ext e1) kp) dt_ptr⟩
variable {Ω : PyData → Wd → Prop} {g : Nat}
theorem w_pure (hg : δ[g]? = some (.wd false W)) (h : PE X e (tD F δ d)) : PE X e (tW F δ g fun d' W' => d' = d ∧ W' = W) := wkE h fun σ H Q q => by
  obtain ⟨O, st, w⟩ := q
  exact ⟨O, st, fun v H' e1 t1 g1 => w d W v O H' ⟨rfl, rfl⟩ (by rw [wd_self hg]; exact st.grow e1 t1) (Kp.ext e1) g1⟩
theorem w_imp {Ω' : PyData → Wd → Prop} (h : PE X e (tW F δ g Ω)) (k : ∀ d W, Ω d W → Ω' d W) : PE X e (tW F δ g Ω') := wkE h fun σ H Q q => by
  obtain ⟨O, st, w⟩ := q
  exact ⟨O, st, fun d W' v O' H' hΩ => w d W' v O' H' (k d W' hΩ)⟩
theorem s_setW (i : Nat) (cx : CtD X N sc F.E) (h : PE X e (tW F δ g Ω)) (hr : ∀ d W', Ω d W' → PSs X rest (sD F ((δ.set g (.wd false W')).set i (.dat d)) P)) (hi : N[i]? = some x := by rfl) (hx : Loc sc x := by first | exact Or.inl rfl | exact Or.inr rfl)
    (hs : swapsWith e (some (.Name x pos')) pos.line X.env = pure false := by rfl) : PSs X (.Assign [.Name x pos'] e pos :: rest) (sD F δ P) :=
  wkSs (pss_cons (ps_set (cx.nd') (cx.at_ hi) (cx.loc hx) h hs (.inl (cx.fn x))) (exSs fun q : PyData × Wd => ifSs (hr q.1 q.2))) fun D σ H h' => by
    obtain ⟨O, τ, s0, tm, w⟩ := h'
    exact ⟨O, s0, fun d W' v O' H' hΩ s' kp g' => ⟨(d, W'), hΩ, O', τ, s'.setD i g', fun q hq => kp _ _ (tm q hq), w⟩⟩
theorem s_exprW (h : PE X e (tW F δ g Ω)) (hr : ∀ d W', Ω d W' → PSs X rest (sD F (δ.set g (.wd false W')) P)) (hs : swapsWith e none pos.line X.env = pure false := by rfl) : PSs X (.Expr e pos :: rest) (sD F δ P) :=
  wkSs (pss_cons (ps_expr h hs) (exSs fun q : PyData × Wd => ifSs (hr q.1 q.2))) fun D σ H h' => by
    obtain ⟨O, τ, s0, tm, w⟩ := h'
    exact ⟨O, s0, fun d W' v O' H' hΩ s' kp g' => ⟨(d, W'), hΩ, O', τ, s', fun q hq => kp _ _ (tm q hq), w⟩⟩
theorem s_retW (h : PE X e (tW F δ g Ω)) (hr : ∀ d W', Ω d W' → P.rts (δ.set g (.wd false W')) d) : PSs X (.Return (some e) pos :: rest) (sD F δ P) :=
  wkSs (pss_cons (ps_ret h) (pss_never (sts := rest))) fun D σ H h' => by
    obtain ⟨O, τ, s0, tm, w⟩ := h'
    exact ⟨O, s0, fun d W' v O' H' hΩ s' kp g' => w.rts _ d v O' σ H' (hr d W' hΩ) s' g'⟩
theorem s_ifW {Ωb : Bool → Wd → Prop} (h : PT X c (cW F δ g Ωb)) (g1 : ∀ W', Ωb true W' → PSs X body (sD F (δ.set g (.wd false W')) { P with nx := fun δ' => PSs X rest (sD F δ' P) })) (g2 : ∀ W', Ωb false W' → PSs X els (sD F (δ.set g (.wd false W')) { P with nx := fun δ' => PSs X rest (sD F δ' P) })) : PSs X (.If c body els pos :: rest) (sD F δ P) :=
  s_seq (M := fun δ' => PSs X rest (sD F δ' P)) (wkS (ps_if h (exSs fun W' => ifSs (g1 W')) (exSs fun W' => ifSs (g2 W'))) fun D σ H h' => by
    obtain ⟨O, τ, s0, tm, w⟩ := h'
    refine ⟨O, s0, fun b W' O' H' hΩ s' kp => ?_⟩
    cases b with
    | true => exact iteT ⟨W', hΩ, O', τ, s', fun q hq => kp _ _ (tm q hq), w⟩
    | false => exact iteF ⟨W', hΩ, O', τ, s', fun q hq => kp _ _ (tm q hq), w⟩) fun δ' h => h
theorem s_whenW {Ωb : Bool → Wd → Prop} (h : PT X c (cW F δ g Ωb)) (g1 : ∀ W', Ωb true W' → PSs X body (sD F (δ.set g (.wd false W')) { P with nx := fun δ' => PSs X rest (sD F δ' P) })) (g2 : ∀ W', Ωb false W' → PSs X rest (sD F (δ.set g (.wd false W')) P)) : PSs X (.If c body [] pos :: rest) (sD F δ P) :=
  s_ifW h g1 fun W' q => s_nil (g2 W' q)
theorem cw_pure {k : Bool} (hg : δ[g]? = some (.wd false W)) (h : PT X e (cD F δ k)) : PT X e (cW F δ g fun b W' => b = k ∧ W' = W) := wkT h fun σ H Q q => by
  obtain ⟨O, st, w⟩ := q
  exact ⟨O, st, fun H' e1 t1 => w k W O H' ⟨rfl, rfl⟩ (by rw [wd_self hg]; exact st.grow e1 t1) (Kp.ext e1)⟩
theorem cw_not {Ωb : Bool → Wd → Prop} (h : PT X a (cW F δ g Ωb)) : PT X (.UnaryOp .Not a pos) (cW F δ g fun b W' => Ωb (!b) W') := wkT (pt_not h) fun σ H Q q => by
  obtain ⟨O, st, w⟩ := q
  exact ⟨O, st, fun b W' O' H' hΩ => w (!b) W' O' H' (by show Ωb (!!b) W'; rw [Bool.not_not]; exact hΩ)⟩
theorem cw_val {Ωb : Bool → Wd → Prop} (h : PE X e (tW F δ g fun d W' => ∃ b, d = .bool b ∧ Ωb b W')) (he : ∀ whole, isTrue e X.env whole = (do let v ← whole; standAt e.pos; holding [v] (truthy v)) := by intro _; rfl) : PT X e (cW F δ g Ωb) :=
  wkT (pt_val h he) fun σ H Q q => by
    obtain ⟨O, st, w⟩ := q
    refine ⟨O, st, fun d W' v O' H' hΩ s' kp g' => ?_⟩
    obtain ⟨b, rfl, hΩ⟩ := hΩ
    exact ⟨b, g', w b W' O' H' hΩ s' kp⟩
/-- e in the world that a leaves -/
theorem anyW {Ω1 : PyData → Wd → Prop} {Ω2 : PyData → Wd → PyData → Wd → Prop} (hb : ∀ d W', Ω1 d W' → PE X b (tW F (δ.set g (.wd false W')) g (Ω2 d W'))) : PE X b (fun σ H Q => ∃ d W', Ω1 d W' ∧ tW F (δ.set g (.wd false W')) g (Ω2 d W') σ H Q) := ⟨fun pins s σ H Q I q => let ⟨d, W', h, t⟩ := q; (hb d W' h).run pins s σ H Q I t⟩
theorem opW_run {r : R2} {Ω1 : PyData → Wd → Prop} {Ω2 : PyData → Wd → PyData → Wd → Prop} {z : PyData → PyData → PyData} (q : ∀ d1 W1 d2 W2, Ω1 d1 W1 → Ω2 d1 W1 d2 W2 → OpD F r d1 d2 (z d1 d2)) {σ : L2.St} {H : Hp} {Q : VK} (hgl : g < δ.length) (h : tW F δ g (fun d W' => ∃ d1 W1 d2, Ω1 d1 W1 ∧ Ω2 d1 W1 d2 W' ∧ d = z d1 d2) σ H Q) :
    tOp r (tW F δ g Ω1) (fun σ H Q => ∃ d W', Ω1 d W' ∧ tW F (δ.set g (.wd false W')) g (Ω2 d W') σ H Q) σ H Q := by
  obtain ⟨O, st, k⟩ := h
  refine ⟨O, st, fun d1 W1 x O1 H1 h1 s1 kp1 g1 => ⟨d1, W1, h1, O1, s1, fun d2 W2 y O2 H2 h2 s2 kp2 g2 => ?_⟩⟩
  rw [List.set_set] at s2
  exact q d1 W1 d2 W2 h1 h2 O2 H2 x y Q s2.dom s2.tabs (kp2 _ _ g1) g2 fun v H3 e3 t3 g3 => k _ W2 v O2 H3 ⟨d1, W1, d2, h1, h2, rfl⟩ (s2.grow e3 t3) ((kp1.trans kp2).grow e3) g3
end
end Lf
set_option Elab.async false
set_option linter.all false
set_option maxRecDepth 100000
set_option maxHeartbeats 4000000
namespace Lf
open PySem PySem.Spec PyProof.Rows L2 L2H HotX LamX
section
variable {Kf : PySem.W.Frag} {Tf : List (Addr × Str)} {F : Fx Kf Tf} {δ : List Slot} {X : Cx} {N : List Str} {sc : Scope} {pos p lpos : Pos} {e : Expr} {W : Wd} {g : Nat} {d : PyData} {C : Addr}
theorem r_ok {Ω : PyData → Wd → Prop} (h : PE X e (tW F δ g Ω)) : PE X e (tR F δ g fun r W' => ∃ d, r = .ok d ∧ Ω d W') := wkE h fun σ H Q q => by
  obtain ⟨O, st, w, _⟩ := q
  exact ⟨O, st, fun d W' v O' H' hΩ => w d W' v O' H' ⟨d, rfl, hΩ⟩⟩
theorem Kp.up {O O' : Addr → Prop} {H H1 H' : Hp} (e : ExtN H H1) (k : Kp O H1 O' H') : Kp O H O' H' := Kp.trans (Kp.ext e) k
/-- _law_told(lambda: ..), the deed changes the world -/
theorem x_toldW {cs : List Addr} {CS c P : Addr} {q : Str} {st : Stmt} {k : Nat} {Ω : Res → Wd → Prop} {params : Arguments} {body : Expr} {scope : Scope} (cx : Ctx X N sc) (co : Co X c q) (Z : ToldG X.prog X.w X.K X.mg X.base cs CS st) (TB : TabB X.base X.mg c P) (hm : (P, q ++ "<lambda>") ∈ Tf) (hu : ∀ p ∈ Tf, p.1 = P → p.2 = q ++ "<lambda>")
    (hr : Room (k + 3) X.A) (zf : Addr → PyData) (hz : ∀ C W', Ω (.error C) W' → ToldIs X.K cs CS (zf C) (.error C)) (hb : Lamb X N F scope k fun Y F' => PE Y body (tR F' δ g Ω)) (L : lamSB sc scope = true := by decide +kernel) (hg : sc.names.lookup ("_law_told" : Str) = some .globalImplicit := by rfl) (hdef : defaultsOf params X.env = ([], []) := by rfl)
    (hbind : ∀ (q : Str) (cl : List (Str × Addr)) (pm cv ctv : Value), bindArgs (PySem.W.kla_fn "<lambda>" q params body scope cl pm cv ctv) ⟨[], []⟩ = pure [] := by intros; rfl) :
    PE X (.Call (.Name "_law_told" p) [.Lambda params body scope lpos] [] pos) (tW F δ g fun z W' => Ω (.ok z) W' ∨ ∃ C, Ω (.error C) W' ∧ z = zf C) := by
  obtain ⟨gg, fd, Fn, gm, gb⟩ := Z.d
  obtain ⟨oc, od, kV, doc, pm, an, cdv, ct, osl, rfl, lk, hcd⟩ := Fn.ex
  obtain ⟨p1, p2, p3, p4, p5, p6, p7, p8, p9, p10, eb⟩ := Z.bd
  obtain ⟨fw, fdw, Fw, wm, wk, wb⟩ := Z.word
  have hG : GivesN X ["deed", "e"] "_law_told" (defScope st) gg cdv (defBody st) "deed" (X.env.qual ++ "<lambda>") (TTw X.K CS fun cls H Q => ∃ C j w, cls = .ref C ∧ Ew X.K cs C j ∧ ewords[j]? = some w ∧ ∀ H', (∀ b o, H b = some o → H' b = some o) → Q (.str w) H') := by
    rw [eb]
    refine word_gives (p11 := p1) Z.sc.kind Z.s1 Z.cls (by decide) (fun f => rfl) Z.sc.nd rfl Z.s3 (fun f a => rfl) (by decide) (by decide) Fw Z.s2 wm wk wb (by decide) fun cls a oe H Q zn hf h => ?_
    obtain ⟨C, j, w, rfl, ew, hw, hq⟩ := h
    exact ⟨C, j, w, zn.zc, hf, ew, hw, hq⟩
  refine wkE (lamcall_n (T := Tf) (k := k) (Ng := ["deed", "e"]) (t := fun E => tR (F.at_ E) δ g Ω) (cx.gl hg) gm Fn.kp lk hcd gb Z.sc rfl (.inl Z.s4) hG TB co.code (by rw [co.qual]; exact hm) (by rw [co.qual]; exact hu) hr (by rw [cx.s]; exact lamS_by L) hdef hbind
    (fun A outer s H E f c' hr' => hb A outer s H E f c' ⟨cx.n, rfl, cx.nd, rfl⟩ (L2N.takes_of rfl rfl rfl rfl) hr')) fun σ H Q h => ?_
  obtain ⟨O, st, w⟩ := h
  refine ⟨st.tabs, fun H1 e1 t1 => ?_⟩
  show tR (F.at_ _) δ g Ω σ H1 Q
  refine ⟨O, (st.grow e1 t1).reE _, fun d W' v O' H' hΩ s' kp g' => w d W' v O' H' (.inl hΩ) (s'.reE F.E) (kp.up e1) g', fun C W' O' H' hΩ s' kp => ?_⟩
  obtain ⟨j, wd, ew, exm, hw, hzf⟩ := hz C W' hΩ
  refine ⟨rfl, exm, C, j, wd, rfl, ew, hw, fun H3 k3 => ?_⟩
  have e3 : ExtN H' H3 := fun a o g _ => k3 a o g
  exact w (zf C) W' (.str wd) O' H3 (.inr ⟨C, hΩ, rfl⟩) ((s'.reE F.E).grow e3 (s'.tabs.ext k3)) ((kp.up e1).grow e3) (by rw [hzf]; rfl)
end
def startLW (N : List Str) (ns : List Int) : List Slot := .scr ns :: (List.replicate (N.length - 2) .non ++ [.wd false []])
theorem startLW_get {N : List Str} {ns : List Int} {i : Nat} {u : Slot} (q : (startLW N ns)[i]? = some u) : (i = 0 ∧ u = .scr ns) ∨ (u = .non ∧ 0 < i) ∨ (i = N.length - 2 + 1 ∧ u = .wd false []) := by
  unfold startLW at q
  cases i with
  | zero => cases q; exact .inl ⟨rfl, rfl⟩
  | succ i =>
    rw [List.getElem?_cons_succ] at q
    by_cases h2 : i < N.length - 2
    · rw [List.getElem?_append_left (by simpa using h2), List.getElem?_replicate, if_pos h2] at q
      cases q
      exact .inr (.inl ⟨rfl, by omega⟩)
    · rw [List.getElem?_append_right (by simpa using h2), List.length_replicate] at q
      cases hq : i - (N.length - 2) with
      | zero => rw [hq] at q; cases q; exact .inr (.inr ⟨by omega, rfl⟩)
      | succ n => rw [hq] at q; simp at q
theorem fn_lawW {G : Pg} {st : Stmt} {x : Str} {f c : Addr} {N : List Str} {p0 : Str} {k : Nat} {T : List (Addr × Str)} {R : List Int → Prop} {oc kV doc pm ct : Value} {od an : Option Addr} {osl : Array (Option Value)}
    (lk : G.K.lookup f = some ⟨oc, od, .func (PySem.W.fnOf x x (defArgs st) (defBody st) (defScope st) .none kV doc pm an (.ref c) ct), osl⟩) (hcd : PySem.W.codeIn G.K (.ref c) x = true) (S : FnScope N [p0] (defScope st)) (hN : 2 ≤ N.length)
    (body : ∀ (r : Rest) (F : Fx G.K T) (ns : List Int), CtD (G.cx N r) N (defScope st) F.E → Co (G.cx N r) c (x ++ ".<locals>.") → Room k r.A → R ns → PSs (G.cx N r) (defBody st) (sD F (startLW N ns) { nx := fun _ => False, rt := fun d => d = .bool true })) :
    FnOk G.prog G.w G.K G.mg G.base (L2N.CX G.prog G.w) (k + 1) f (PySem.W.fnOf x x (defArgs st) (defBody st) (defScope st) .none kV doc pm an (.ref c) ct) [p0] (spLaw T G.K R) := by
  refine fn_of lk hcd S (fun vs H Q E h => ?_) fun A outer s H vs Q E hr h => ?_
  · obtain ⟨a, ns, rfl, _⟩ := h
    rfl
  · obtain ⟨a, ns, rfl, hs, tb, hR, q⟩ := h
    refine ⟨_, body ⟨A.deeper (envOfC x (defScope st) s.heap.objs.size f (.ref c)), s, H, envOfC x (defScope st) s.heap.objs.size f (.ref c), outer, envOfC x (defScope st) s.heap.objs.size f (.ref c) :: outer, [], fun _ => true, true, [], _⟩ ⟨fun _ => False, H, E, fun _ z => z.elim⟩ ns ⟨⟨rfl, rfl, S.nd, rfl⟩, fun _ => rfl, passes_of rfl, L2N.takes_of rfl rfl rfl rfl, rfl, rfl⟩ ⟨rfl, rfl⟩ hr hR, fun _ => False, [], ?_, (fun _ z => by cases z), ?_⟩
    · have sg : ∀ i, 0 < i → (L2.start N [V.ref a])[i]?.getD none = none := fun i hi => by
        unfold L2.start
        rw [List.getElem?_append_right (by simp; omega), List.getElem?_replicate]
        split <;> rfl
      have sl : ∀ i u, (startLW N ns)[i]? = some u → SlotOk (⟨fun _ => False, H, E, fun _ z => z.elim⟩ : Fx G.K T) (fun _ => False) H ((L2.start N [V.ref a])[i]?.getD none) u := fun i u q => by
        rcases startLW_get q with ⟨hi, rfl⟩ | ⟨rfl, _⟩ | ⟨hi, rfl⟩
        · cases i with
          | zero => exact ⟨a, show (some (some (V.ref a))).getD none = some (V.ref a) from rfl, hs⟩
          | succ i => cases hi
        · trivial
        · exact ⟨sg i (by omega), ⟨List.nodup_nil, fun q hq => by cases hq⟩, fun a ha => by cases ha⟩
      refine ⟨?_, fun a z => z, fun _ z => z.elim, tb, ExtN.refl H, sl, fun i j u w q n h1 h2 m1 m2 e1 e2 => ?_, fun i j R u n h1 h2 p hp => ?_⟩
      · simp [startLW, L2.start]
        omega
      · rcases startLW_get h1 with ⟨_, rfl⟩ | ⟨rfl, _⟩ | ⟨hi, rfl⟩
        · cases m1
        · cases m1
        · have := (sl i _ h1).1
          rw [e1] at this
          cases this
      · rcases startLW_get h1 with ⟨_, e⟩ | ⟨e, _⟩ | ⟨hi, e⟩
        · cases e
        · cases e
        · cases e
          cases hp
    · exact ⟨fun δ O' σ' H' m => m.elim, fun d v H' m e t g => (by cases (show d = .bool true from m); rw [show v = V.bl true from g]; exact q H'), fun δ O' σ' H' m => m.elim, fun δ O' σ' H' m => m.elim, fun c H' m => m.elim, fun _ _ _ _ _ _ m => m.elim, fun _ _ _ _ _ m => m.elim⟩
def clsB (K : PySem.W.Frag) (C : Addr) (ns : List Str) : Bool :=
  PySem.W.plainGet K C Str.empty && PySem.W.hasDictIn K C && PySem.W.plainOver K C && (PySem.W.findIn K (.ref C) "__setattr__" == some (some (.builtin "object.__setattr__"))) && ns.all fun f => PySem.W.findIn K (.ref C) f == some none
theorem cls_mk {K : PySem.W.Frag} {mg : Str → Option Value} {x : Str} {C : Addr} {ns : List Str} (h : clsB K C ns = true) (m : mg x = some (.ref C)) : ClsX K mg x C ns := by
  unfold clsB at h
  simp only [Bool.and_eq_true, beq_iff_eq, List.all_eq_true] at h
  obtain ⟨⟨⟨⟨h1, h2⟩, h3⟩, h4⟩, h5⟩ := h
  exact ⟨⟨h1, h2, h3, h4⟩, fun f hf => h5 f hf, m⟩
theorem mt_mk {G : Pg} {m qual : Str} {C : Addr} {st : Stmt} {f : Addr} {ps : List Str} {od an : Option Addr} {sl : Array (Option Value)} {oc kV dc pm cd ct : Value} (a : PySem.W.findIn G.K (.ref C) m = some (some (.ref f))) (i : PySem.W.isFn G.K (.ref f) = true)
    (l : G.K.lookup f = some ⟨oc, od, .func (PySem.W.fnOf m qual (defArgs st) (defBody st) (defScope st) .none kV dc pm an cd ct), sl⟩) (c : PySem.W.codeIn G.K cd qual = true) (k : PySem.W.keepIn G.K (.ref f) = true) (hb : ∀ fd, Fun G.K m qual st f fd → Binds G.K fd ps []) : Mt G C m qual st ps :=
  let F := fun_mk (st := st) l c k
  ⟨_, _, F, ⟨a, i, k⟩, hb _ F⟩
theorem mti_mk {G : Pg} {qual : Str} {C : Addr} {st : Stmt} {f : Addr} {ps : List Str} {od an : Option Addr} {sl : Array (Option Value)} {oc kV dc pm cd ct : Value} (mk : PySem.W.makesIn G.K C = true) (kc : PySem.W.keepIn G.K (.ref C) = true) (a : PySem.W.findIn G.K (.ref C) "__init__" = some (some (.ref f))) (i : PySem.W.isFn G.K (.ref f) = true)
    (l : G.K.lookup f = some ⟨oc, od, .func (PySem.W.fnOf "__init__" qual (defArgs st) (defBody st) (defScope st) .none kV dc pm an cd ct), sl⟩) (c : PySem.W.codeIn G.K cd qual = true) (k : PySem.W.keepIn G.K (.ref f) = true) (hb : ∀ fd, Fun G.K "__init__" qual st f fd → Binds G.K fd ps []) : MtI G C qual st ps :=
  let F := fun_mk (st := st) l c k
  ⟨_, _, F, ⟨mk, a, i, kc⟩, hb _ F⟩
end Lf
set_option Elab.async false
set_option linter.all false
set_option maxRecDepth 100000
set_option maxHeartbeats 4000000
namespace Lf
open PySem PySem.Spec PyProof.Rows L2 L2H HotX LamX
section
variable {Kf : PySem.W.Frag} {Tf : List (Addr × Str)} {F : Fx Kf Tf} {δ : List Slot} {X : Cx} {N : List Str} {sc : Scope} {pos p p2 px py pz pt pt2 pos' : Pos} {a b c e : Expr} {es : List Expr} {W : Wd} {g : Nat} {d d1 d2 d3 : PyData} {ds : List PyData} {C : Addr} {x y z : Str} {rest : List Stmt} {P : Post}
theorem Co.blk {q : Str} {c0 : Addr} (co : Co X c0 q) (s : Shared) (H : Hp) (scope : Scope) (C : Addr) (cl : List (Str × Addr)) (fp : List Addr) : Co (X.blk s H scope (compEnvC scope cl C X.env) fp) c0 q := ⟨co.code, co.qual⟩
theorem aw_nil (hg : δ[g]? = some (.wd false W)) : PA X [] (aW F δ g fun ds W' => ds = [] ∧ W' = W) := wkA pa_nil fun σ H Q h => by
  obtain ⟨O, st, k⟩ := h
  exact k [] W [] O H ⟨rfl, rfl⟩ (by rw [wd_self hg]; exact st) (fun _ _ z => z) rfl
theorem anyA {Ω1 : PyData → Wd → Prop} {Ω2 : PyData → Wd → List PyData → Wd → Prop} (hb : ∀ d W', Ω1 d W' → PA X es (aW F (δ.set g (.wd false W')) g (Ω2 d W'))) : PA X es (fun σ H Q => ∃ d W', Ω1 d W' ∧ aW F (δ.set g (.wd false W')) g (Ω2 d W') σ H Q) := ⟨fun pos pins s σ H Q I q => let ⟨d, W', h, t⟩ := q; (hb d W' h).run pos pins s σ H Q I t⟩
theorem aw_cons {Ω1 : PyData → Wd → Prop} {Ω2 : PyData → Wd → List PyData → Wd → Prop} (h : PE X e (tW F δ g Ω1)) (hb : ∀ d W', Ω1 d W' → PA X es (aW F (δ.set g (.wd false W')) g (Ω2 d W'))) (hs : starEach (e :: es) X.env = (false, eval e X.env) :: starEach es X.env := by rfl) :
    PA X (e :: es) (aW F δ g fun ds W' => ∃ d1 W1 es, Ω1 d1 W1 ∧ Ω2 d1 W1 es W' ∧ ds = d1 :: es) := wkA (pa_cons h (anyA hb) hs) fun σ H Q q => by
  obtain ⟨O, st, k⟩ := q
  refine ⟨O, st, fun d1 W1 v O1 H1 h1 s1 kp1 g1 => ⟨d1, W1, h1, O1, s1, fun es W2 vs O2 H2 h2 s2 kp2 g2 => ?_⟩⟩
  rw [List.set_set] at s2
  exact k _ W2 (v :: vs) O2 H2 ⟨d1, W1, es, h1, h2, rfl⟩ s2 (kp1.trans kp2) ⟨v, vs, rfl, kp2 _ _ g1, g2⟩
/-- a, b, c = x, y, z -/
theorem s_par3W (i j l : Nat) {kt k2 : Nat} {Ω : List PyData → Wd → Prop} (cx : CtD X N sc F.E) (ha : PA X [a, b, c] (aW F δ g Ω)) (hr : ∀ ds W', Ω ds W' → ∃ d1 d2 d3, ds = [d1, d2, d3] ∧ PSs X rest (sD F ((((δ.set g (.wd false W')).set i (.dat d1)).set j (.dat d2)).set l (.dat d3)) P)) (hi : N[i]? = some x := by rfl) (hj : N[j]? = some y := by rfl) (hl : N[l]? = some z := by rfl) (hij : i ≠ j := by decide) (hil : i ≠ l := by decide) (hjl : j ≠ l := by decide)
    (hx : sc.names.lookup x = some .local := by rfl) (hy : sc.names.lookup y = some .local := by rfl) (hz : sc.names.lookup z = some .local := by rfl)
    (hw : swappedStores [.Tuple [.Name x px, .Name y py, .Name z pz] kt pt] (.Tuple [a, b, c] k2 pt2) (envS sc) = pure (some [x, y, z]) := by rfl) (hs : swapsWithSole [.Tuple [.Name x px, .Name y py, .Name z pz] kt pt] (.Tuple [a, b, c] k2 pt2) pos.line X.env = pure false := by rfl) :
    PSs X (.Assign [.Tuple [.Name x px, .Name y py, .Name z pz] kt pt] (.Tuple [a, b, c] k2 pt2) pos :: rest) (sD F δ P) :=
  wkSs (pss_cons (ps_par3 cx.calm cx.nd' (cx.at_ hi) (cx.at_ hj) (cx.at_ hl) hij hil hjl (by rw [cx.s]; exact hx) (by rw [cx.s]; exact hy) (by rw [cx.s]; exact hz) ha (sw_eq cx.toCtx hw) hs) (anyS (F := F))) fun D σ H h' => by
    obtain ⟨O, τ, s0, tm, w⟩ := h'
    refine ⟨O, s0, fun ds W' vs O' H' hΩ s' kp g' => ?_⟩
    obtain ⟨d1, d2, d3, rfl, hb⟩ := hr ds W' hΩ
    obtain ⟨v, r, rfl, h1, u, r', rfl, h2, q, r'', rfl, h3, rfl⟩ := g'
    exact ⟨v, u, q, rfl, _, P, hb, O', τ, ((s'.setD i h1).setD j h2).setD l h3, fun q hq => kp _ _ (tm q hq), w⟩
theorem cw_one {op : BoolOp} {Ωb : Bool → Wd → Prop} (h : PT X a (cW F δ g Ωb)) : PW X (.BoolOp op [a] pos) (cW F δ g Ωb) := by
  cases op with
  | And => exact pw_and1 h
  | Or => exact pw_or1 h
theorem anyPW {Ω1 : Bool → Wd → Prop} {Ω2 : Wd → Bool → Wd → Prop} {k : Bool} (hb : ∀ W', Ω1 k W' → PW X e (cW F (δ.set g (.wd false W')) g (Ω2 W'))) : PW X e (fun σ H Q => ∃ W', Ω1 k W' ∧ cW F (δ.set g (.wd false W')) g (Ω2 W') σ H Q) := ⟨fun wh pins s σ H Q I q => let ⟨W', h, t⟩ := q; (hb W' h).run wh pins s σ H Q I t⟩
theorem cw_or {Ω1 : Bool → Wd → Prop} {Ω2 : Wd → Bool → Wd → Prop} (h : PT X a (cW F δ g Ω1)) (hb : ∀ W', Ω1 false W' → PW X (.BoolOp .Or (b :: es) pos) (cW F (δ.set g (.wd false W')) g (Ω2 W'))) : PW X (.BoolOp .Or (a :: b :: es) pos) (cW F δ g fun k W' => (k = true ∧ Ω1 true W') ∨ ∃ W1, Ω1 false W1 ∧ Ω2 W1 k W') :=
  wkW (pw_or h (anyPW hb)) fun σ H Q q => by
    obtain ⟨O, st, w⟩ := q
    refine ⟨O, st, fun k W' O' H' hΩ s' kp => ?_⟩
    cases k with
    | true => exact iteT (w true W' O' H' (.inl ⟨rfl, hΩ⟩) s' kp)
    | false => exact iteF ⟨W', hΩ, O', s', fun k2 W2 O2 H2 h2 s2 kp2 => w k2 W2 O2 H2 (.inr ⟨W', hΩ, h2⟩) (by rw [List.set_set] at s2; exact s2) (kp.trans kp2)⟩
theorem cw_imp {Ω Ω' : Bool → Wd → Prop} (h : PT X e (cW F δ g Ω)) (k : ∀ d W, Ω d W → Ω' d W) : PT X e (cW F δ g Ω') := wkT h fun σ H Q q => by
  obtain ⟨O, st, w⟩ := q
  exact ⟨O, st, fun d W' O' H' hΩ => w d W' O' H' (k d W' hΩ)⟩
end
end Lf
namespace Lf
open PySem PySem.Spec PyProof.Rows L2 L2H HotX LamX
section
variable {Kf : PySem.W.Frag} {Tf : List (Addr × Str)} {F : Fx Kf Tf} {δ : List Slot} {X : Cx} {N : List Str} {sc : Scope} {pos : Pos} {c : Expr} {W W' : Wd} {rest body els : List Stmt} {P : Post}
theorem od_is {r : R2} {d e z z' : PyData} (h : OpD F r d e z) (q : z = z') : OpD F r d e z' := by
  rw [← q]
  exact h
/-- some of the world is let go, or told in another turn -/
theorem s_wsub (g : Nat) (hg : δ[g]? = some (.wd false W)) (hs : ∀ q ∈ W', q ∈ W) (hn : (wAs W).Nodup → (wAs W').Nodup) (h : PSs X rest (sD F (δ.set g (.wd false W')) P)) : PSs X rest (sD F δ P) := wkSs h fun D σ H h' => by
  obtain ⟨O, τ, s0, tm, w⟩ := h'
  have hw := s0.w hg
  have hm : ∀ a ∈ wAs W', a ∈ wAs W := fun a ha => by
    obtain ⟨q, hq, rfl⟩ := List.mem_map.mp ha
    exact List.mem_map.mpr ⟨q, hs q hq, rfl⟩
  have hO : ∀ a, OW O W W' a → O a := fun a z => z.elim (fun z => z.1) (fun z => hw.sh a (hm a z))
  obtain ⟨s1, t1⟩ := w_out s0 tm hg (W' := W') (H' := H) ⟨s0.tabs, fun a o e t n => e, ⟨hn hw.laid.1, fun q hq => (hw.laid.2 q (hs q hq)).keep rfl fun d v z => z.open_ hO⟩, fun a ha => .inl (hm a ha)⟩
  exact ⟨_, τ, s1, t1, w⟩
theorem s_wdrop (g : Nat) (hg : δ[g]? = some (.wd false W)) (h : PSs X rest (sD F (δ.set g (.wd false [])) P)) : PSs X rest (sD F δ P) := s_wsub (W' := []) g hg (fun q hq => by cases hq) (fun _ => List.nodup_nil) h
/-- an if, and what is true behind it -/
theorem s_ifM {k : Bool} (M : List Slot → Prop) (h : PT X c (cD F δ k)) (g1 : k = true → PSs X body (sD F δ { P with nx := M })) (g2 : k = false → PSs X els (sD F δ { P with nx := M })) (g3 : ∀ δ', M δ' → PSs X rest (sD F δ' P)) : PSs X (.If c body els pos :: rest) (sD F δ P) :=
  s_seq (M := M) (wkS (ps_if h (ifSs g1) (ifSs g2)) fun D σ H h' => by
    obtain ⟨O, τ, s0, tm, w⟩ := h'
    refine ⟨O, s0, fun H' e' t' => ?_⟩
    cases k with
    | true => exact iteT ⟨rfl, O, τ, s0.grow e' t', tm.grow e', w⟩
    | false => exact iteF ⟨rfl, O, τ, s0.grow e' t', tm.grow e', w⟩) g3
end
end Lf
set_option Elab.async false
set_option linter.all false
set_option maxRecDepth 100000
set_option maxHeartbeats 4000000
namespace Lf
open PySem PySem.Spec PyProof.Rows L2 L2H HotX LamX
theorem mem_at {W : Wd} {j : Nat} {q : Addr × MO} (h : W[j]? = some q) : q ∈ W := List.mem_of_getElem? h
theorem wset {W : Wd} {j : Nat} {q r : Addr × MO} (h : W[j]? = some q) : (W.set j r)[j]? = some r := List.getElem?_set_self (List.getElem?_eq_some_iff.mp h).1
theorem w_last {W : Wd} {q : Addr × MO} : (W ++ [q])[W.length]? = some q := by simp
theorem wapp {W V : Wd} {j : Nat} {q : Addr × MO} (h : W[j]? = some q) : (W ++ V)[j]? = some q := by
  rw [List.getElem?_append_left (List.getElem?_eq_some_iff.mp h).1]
  exact h
theorem wset_ne {W : Wd} {i j : Nat} {q r : Addr × MO} (h : W[j]? = some q) (n : i ≠ j) : (W.set i r)[j]? = some q := by
  rw [List.getElem?_set_ne n]
  exact h
theorem wlt {W : Wd} {j : Nat} {q : Addr × MO} (h : W[j]? = some q) : j < W.length := (List.getElem?_eq_some_iff.mp h).1
section
variable {Kf : PySem.W.Frag} {Tf : List (Addr × Str)} {F : Fx Kf Tf} {δ : List Slot} {X : Cx} {N ns : List Str} {sc : Scope} {pos apos pos' cpos : Pos} {a b c e o value : Expr} {es : List Expr} {d z : PyData} {ds fs : List PyData} {x f m : Str} {W : Wd} {ro : Bool} {p C : Addr} {rest body els : List Stmt} {P : Post} {g j : Nat} {Ω : PyData → Wd → Prop}
/-- a new list becomes one of the world -/
theorem w_new (hg : δ[g]? = some (.wd false W)) (h : PE X e (tDL F δ ds)) : PE X e (tW F δ g fun d W' => ∃ q, q ∉ wAs W ∧ d = ptrD q ∧ W' = W ++ [(q, .lst ds)]) := wkE h fun σ H Q k => by
  obtain ⟨O, st, w⟩ := k
  refine ⟨O, st, fun q xs H' e1 t1 hn hq hd => ?_⟩
  have hw := st.w hg
  have np : q ∉ wAs W := fun z => hn q (hw.lv q z) rfl
  have es : wAs (W ++ [(q, .lst ds)]) = wAs W ++ [q] := by simp [wAs]
  have ow : ∀ a, OW O W (W ++ [(q, .lst ds)]) a → Shut O q a := fun a z => by
    rcases z with z | z
    · exact .inl z.1
    · rw [es] at z
      rcases List.mem_append.mp z with z | z
      · exact .inl (hw.sh a z)
      · exact .inr (List.mem_singleton.mp z)
  have kop : Kp (Shut O q) H' (OW O W (W ++ [(q, .lst ds)])) H' := fun d v g => g.open_ ow
  have ks : Kp O H (Shut O q) H' := fun d v g => Dt.imp (fun a o n r w => ⟨fun z => z.elim n (fun z => hn a ⟨o, r, w⟩ z), e1 a o r w⟩) d v g
  have af : Aft F.T O H W H' (W ++ [(q, .lst ds)]) := by
    refine ⟨t1, fun a u e t n => e1 a u e t, ⟨?_, fun r hr => ?_⟩, fun a ha => ?_⟩
    · rw [es]
      exact List.nodup_append.mpr ⟨hw.laid.1, List.nodup_cons.mpr ⟨by simp, List.nodup_nil⟩, fun a ha b hb z => np (by rw [← List.mem_singleton.mp hb, ← z]; exact ha)⟩
    · rcases List.mem_append.mp hr with hr | hr
      · have hm := hw.laid.2 r hr
        exact hm.keep (hm.lives.same e1) (ks.trans kop)
      · cases List.mem_singleton.mp hr
        exact ⟨xs, hq, hd.kp kop⟩
    · rw [es] at ha
      rcases List.mem_append.mp ha with z | z
      · exact .inl z
      · rw [List.mem_singleton.mp z]
        exact .inr fun y => hn q y rfl
  exact w (ptrD q) _ (.ref q) _ H' ⟨q, np, rfl, rfl⟩ (w_after st hg af) (af.kp hw.sh) dt_ptr
/-- o.f = value, the value changes the world -/
theorem s_fldW (i : Nat) (cl : Cls X.K C) (na : NoAttr X.K C f) (hgl : g < δ.length) (hv : PE X value (tW F δ g Ω)) (ho : ∀ d W', Ω d W' → PE X o (tD F (δ.set g (.wd false W')) (ptrD p))) (hj : ∀ d W', Ω d W' → W'[j]? = some (p, .ins C ns fs)) (hr : ∀ d W', Ω d W' → PSs X rest (sD F (δ.set g (.wd false (W'.set j (p, .ins C ns (fs.set i d))))) P)) (hl : ns.length < 1000 := by decide) (hf : fldAt ns f i = true := by decide +kernel)
    (hs : swapsWith value (some (.Attribute o f pos')) pos.line X.env = pure false := by rfl) : PSs X (.Assign [.Attribute o f pos'] value pos :: rest) (sD F δ P) :=
  wkSs (pss_cons (ps_fld (ta := fun σ H Q => ∃ d W', Ω d W' ∧ tD F (δ.set g (.wd false W')) (ptrD p) σ H Q) ⟨fun pins s σ H Q I q => let ⟨d, W', h, t⟩ := q; (ho d W' h).run pins s σ H Q I t⟩ hv hs) (anyS (F := F))) fun D σ H h' => by
    obtain ⟨O, τ, s0, tm, w⟩ := h'
    refine ⟨O, s0, fun d W' y O' H1 hΩ s1 kp g1 => ⟨d, W', hΩ, O', s1, fun x H2 e2 t2 g2 => ?_⟩⟩
    rw [dt_ptr_eq g2]
    have hg : (δ.set g (.wd false W'))[g]? = some (.wd false W') := List.getElem?_set_self hgl
    have s2 := s1.grow e2 t2
    have hw := s2.w hg
    have hjj := hj d W' hΩ
    obtain ⟨dx, vs, hH, en, fa⟩ := hw.laid.2 _ (List.mem_of_getElem? hjj)
    refine ⟨p, C, dx, vs, rfl, hH, cl, na, by rw [← List.length_map (f := (·.1)), en]; exact hl, ?_⟩
    obtain ⟨q1, q2⟩ := fld_putF (y := y) (vs := vs) (i := i) (f := f) (by rw [en]; exact hf)
    obtain ⟨s3, t3⟩ := w_out s2 (τ := τ) (fun q hq => (kp _ _ (tm q hq)).grow e2) hg (aft_turn (mo' := .ins C ns (fs.set i d)) hw hjj (tabs_turnI t2 hH) fun hO => ⟨dx, _, upd_same, by rw [q1, en], by rw [q2]; exact (fa.turn hO).set ((g1.grow e2).turn hO) i⟩)
    rw [List.set_set] at s3
    exact ⟨_, P, hr d W' hΩ, _, τ, s3, t3, w⟩
theorem s_fldNW (cl : Cls X.K C) (na : NoAttr X.K C f) (hgl : g < δ.length) (hv : PE X value (tW F δ g Ω)) (ho : ∀ d W', Ω d W' → PE X o (tD F (δ.set g (.wd false W')) (ptrD p))) (hj : ∀ d W', Ω d W' → W'[j]? = some (p, .ins C ns fs)) (hr : ∀ d W', Ω d W' → PSs X rest (sD F (δ.set g (.wd false (W'.set j (p, .ins C (ns ++ [f]) (fs ++ [d]))))) P)) (hl : ns.length < 1000 := by decide) (hf : ns.contains f = false := by decide +kernel)
    (hs : swapsWith value (some (.Attribute o f pos')) pos.line X.env = pure false := by rfl) : PSs X (.Assign [.Attribute o f pos'] value pos :: rest) (sD F δ P) :=
  wkSs (pss_cons (ps_fld (ta := fun σ H Q => ∃ d W', Ω d W' ∧ tD F (δ.set g (.wd false W')) (ptrD p) σ H Q) ⟨fun pins s σ H Q I q => let ⟨d, W', h, t⟩ := q; (ho d W' h).run pins s σ H Q I t⟩ hv hs) (anyS (F := F))) fun D σ H h' => by
    obtain ⟨O, τ, s0, tm, w⟩ := h'
    refine ⟨O, s0, fun d W' y O' H1 hΩ s1 kp g1 => ⟨d, W', hΩ, O', s1, fun x H2 e2 t2 g2 => ?_⟩⟩
    rw [dt_ptr_eq g2]
    have hg : (δ.set g (.wd false W'))[g]? = some (.wd false W') := List.getElem?_set_self hgl
    have s2 := s1.grow e2 t2
    have hw := s2.w hg
    have hjj := hj d W' hΩ
    obtain ⟨dx, vs, hH, en, fa⟩ := hw.laid.2 _ (List.mem_of_getElem? hjj)
    refine ⟨p, C, dx, vs, rfl, hH, cl, na, by rw [← List.length_map (f := (·.1)), en]; exact hl, ?_⟩
    have q1 := fld_putN (y := y) (vs := vs) (f := f) (by rw [en]; exact hf)
    rw [q1]
    obtain ⟨s3, t3⟩ := w_out s2 (τ := τ) (fun q hq => (kp _ _ (tm q hq)).grow e2) hg (aft_turn (o := .ins C dx (vs ++ [(f, y)])) (mo' := .ins C (ns ++ [f]) (fs ++ [d])) hw hjj (tabs_turnI t2 hH) fun hO => ⟨dx, _, upd_same, by simp [en], by rw [List.map_append]; exact (fa.turn hO).app (.one ((g1.grow e2).turn hO))⟩)
    rw [List.set_set] at s3
    exact ⟨_, P, hr d W' hΩ, _, τ, s3, t3, w⟩
/-- o.append(e) -/
theorem x_wapp (j : Nat) (hg : δ[g]? = some (.wd false W)) (hj : W[j]? = some (p, .lst ds)) (ho : PE X o (tD F δ (ptrD p))) (he : PE X e (tD F δ d)) (hz : ds.length < 100000) (hbase : attributeBase o "append" X.env (eval o X.env) = eval o X.env := by rfl)
    (hfew : ((backTo cpos (starEach [e] X.env)).all (fun x => !x.1) && (backToKw cpos (keywordEach [] X.env)).all (fun x => x.1.isSome) && decide (([e] : List Expr).length + ([] : List Keyword).length + (if ([] : List Keyword).isEmpty then 0 else 1) < 30)) = true := by rfl)
    (hline : (apos.endLine == cpos.line) = true := by rfl) (hs : starEach [e] X.env = (false, eval e X.env) :: starEach [] X.env := by rfl) : PE X (.Call (.Attribute o "append" apos) [e] [] cpos) (tW F δ g fun d' W' => d' = .none ∧ W' = W.set j (p, .lst (ds ++ [d]))) :=
  wkE (pe_bm PySem.F.plainAttrs_list PySem.F.slot_list_append PySem.F.type_list_append mt_append ho (pa_cons he pa_nil hs) hbase hfew hline hs (by rfl)) fun σ H Q k => by
    obtain ⟨O, st, w⟩ := k
    refine ⟨O, st, fun v H1 e1 t1 g1 => ?_⟩
    rw [dt_ptr_eq g1]
    have s1 := st.grow e1 t1
    obtain ⟨vs, hH, fa⟩ := (s1.w hg).laid.2 _ (List.mem_of_getElem? hj)
    refine ⟨.inl ⟨rfl, _, SqL.of hH⟩, O, s1, fun y H2 e2 t2 g2 => ?_⟩
    have s2 := s1.grow e2 t2
    have hw := s2.w hg
    obtain ⟨vs, hH, fa⟩ := hw.laid.2 _ (List.mem_of_getElem? hj)
    refine ⟨p, vs, y, rfl, rfl, hH, by rw [fa.len]; exact Nat.lt_of_lt_of_le hz (by decide), ?_⟩
    have af : Aft F.T O H2 W (upd H2 p (.lst (vs ++ [y]))) (W.set j (p, .lst (ds ++ [d]))) := aft_turn hw hj (tabs_turn t2 hH) fun hO => ⟨_, upd_same, (fa.turn hO).app (.one (g2.turn hO))⟩
    exact w .none _ .non _ _ ⟨rfl, rfl⟩ (w_after s2 hg af) (Kp.up (e1.trans e2) (af.kp hw.sh)) rfl
/-- o.pop() -/
theorem x_wpop (j : Nat) (hg : δ[g]? = some (.wd false W)) (hj : W[j]? = some (p, .lst (ds ++ [d]))) (ho : PE X o (tD F δ (ptrD p))) (hbase : attributeBase o "pop" X.env (eval o X.env) = eval o X.env := by rfl) (hline : (apos.endLine == cpos.line) = true := by rfl) :
    PE X (.Call (.Attribute o "pop" apos) [] [] cpos) (tW F δ g fun d' W' => d' = d ∧ W' = W.set j (p, .lst ds)) :=
  wkE (pe_bm0 PySem.F.plainAttrs_list PySem.F.slot_list_pop PySem.F.type_list_pop mt_pop ho hbase hline) fun σ H Q k => by
    obtain ⟨O, st, w⟩ := k
    refine ⟨O, st, fun v H1 e1 t1 g1 => ?_⟩
    rw [dt_ptr_eq g1]
    have s1 := st.grow e1 t1
    have hw := s1.w hg
    obtain ⟨vs, hH, fa⟩ := hw.laid.2 _ (List.mem_of_getElem? hj)
    have hl := fa.len
    rw [List.length_append, List.length_cons, List.length_nil] at hl
    obtain ⟨y, hy, dy⟩ := fa.get (i := ds.length) (d := d) (by simp)
    refine ⟨.inl ⟨rfl, _, SqL.of hH⟩, p, vs, y, rfl, rfl, hH, by rw [hl]; exact hy, ?_⟩
    have hdl : DtAll O H1 ds vs.dropLast := by
      have := fa.take ds.length
      rw [List.take_left] at this
      rwa [List.dropLast_eq_take, hl]
    have af : Aft F.T O H1 W (upd H1 p (.lst vs.dropLast)) (W.set j (p, .lst ds)) := aft_turn hw hj (tabs_turn t1 hH) fun hO => ⟨_, upd_same, hdl.turn hO⟩
    exact w d _ y _ _ ⟨rfl, rfl⟩ (w_after s1 hg af) (Kp.up e1 (af.kp hw.sh)) (af.kp hw.sh _ _ dy)
/-- a list of the world, for what looks at its data -/
theorem wl_dp {O : Addr → Prop} {H : Hp} {σ : L2.St} {K : PySem.W.Frag} {n : Nat} (st : StAt F O H σ δ) (hg : δ[g]? = some (.wd ro W)) (hp : (p, .lst ds) ∈ W) (hL : Lay n (.list ds)) : Dp K H (.ref p) (.list ds) := by
  obtain ⟨vs, hH, fa⟩ := (st.w hg).laid.2 _ hp
  exact .lst (SqL.of hH) (DtAll.dp ds vs (noPs_lay ds hL.1) fa)
theorem c_weq {n m : Nat} (hu : X.A.units + 64 < cLine) (hg : δ[g]? = some (.wd ro W)) (hp : (p, .lst ds) ∈ W) (hL : Lay n (.list ds)) (hM : Lay m d) (ha : PE X a (tD F δ (ptrD p))) (hb : PE X b (tD F δ d)) (hn : n ≤ 64 := by decide) (hm : m ≤ 64 := by decide) (hk : behindInMarks .Eq b = false := by first | exact nomark _ | rfl) : PT X (.Compare a [.Eq] [b] pos) (cD F δ (PyData.eqv (.list ds) d)) :=
  wkT (pt_cmpR (op_eqD hu) ha hb hk) fun σ H Q h => by
    obtain ⟨O, st, w⟩ := h
    refine ⟨O, st, fun v H1 e1 t1 g1 => ⟨O, st.grow e1 t1, fun y H2 e2 t2 g2 => ?_⟩⟩
    rw [dt_ptr_eq g1]
    exact ⟨.list ds, d, wl_dp ((st.grow e1 t1).grow e2 t2) hg hp hL, Dt.dp d y (noP_lay _ hM.1) g2, hL.ok hn, hM.ok hm, _, rfl, w H2 (e1.trans e2) t2⟩
end
end Lf
namespace Lf
open PySem PySem.Spec PyProof.Rows L2 L2H HotX LamX
end Lf
set_option Elab.async false
set_option linter.all false
set_option maxRecDepth 100000
set_option maxHeartbeats 1000000
namespace Lf
open PySem PySem.Spec PyProof.Rows L2 L2H HotX LamX
section
variable {prog : Program} {w : World} {A : Around} {E : Value → Shared → Prop} {s : Shared} {env : Env} {m mg mb : Str → Option Value} {t : Addr}
theorem sk_row {Q : Value → Shared → Prop} {x : Str} {p pos pc : Pos} {j : Int} {i kd : Nat} {its : List Value} {v : Value} (hk : env.scope.kind = .function) (hl : env.kindOf x = some .local) (hn : s.heap.Ns env.locals m) (hv : m x = some (.ref t)) (ht : IsTup s.heap t its.toArray) (hz : its.length ≤ 64) (hi : its[i]? = some v) (hj : j = (i : Int))
    (h : ∀ tk, Q v { s with toks := tk }) (hdb : (x == ("__debug__" : Str)) = false := by decide) : wpAny (model prog w) A (eval (.Subscript (.Name x p) (.Constant (.int j) kd pc) pos) env) Q E s := by
  subst hj
  refine Subscript_ (wpAny_Name (wpAny_loadName_local hk hl hn hv (wpAny_Constant_int ?_)) hdb)
  have h2 : i < its.length := (List.getElem?_eq_some_iff.mp hi).1
  refine subscriptTail_builtinR (x := v) (IsTup.typeIs (s := { s with toks := s.toks + 1 }) ht) slot_tuple_getitem.lookup (getItem_tuple (j := i) ht (by omega) (by omega) ?_ (by simpa using hi) ⟨rfl, h _⟩)
  rw [List.size_toArray]
  unfold seqIndex?
  simp
  omega
theorem sk_body {x : Str} {a0 wv : Int} {t0 t1 t2 : Tok} {nm : Str} {pl : Value} {x1 : Nat} {k1 k2 k3 k4 : Nat} {p1 p2 p3 p4 p5 p6 p7 p8 p9 p10 p11 p12 p13 p14 : Pos} (hk : env.scope.kind = .function) (hl : env.kindOf x = some .local) (hg : env.kindOf "len" = some .globalImplicit) (hG : s.heap.Ns env.globals mg) (hmg : mg "len" = none)
    (hB : s.heap.Ns env.builtins mb) (hmb : mb "len" = some (.builtin "len")) (hn : s.heap.Ns env.locals m) (hv : m x = some (.ref t)) (ht : IsTup s.heap t [.int a0 t0, .str nm t1, .int wv t2, pl].toArray) (hz : nm.length ≤ sizeLine) (hdb : (x == ("__debug__" : Str)) = false := by decide) :
    wpAny (model prog w) A (eval (.Tuple [.BinOp (.Constant (.int 0) k1 p1) .Sub (.Subscript (.Name x p2) (.Constant (.int 2) k2 p3) p4) p5, .Call (.Name "len" p6) [.Subscript (.Name x p7) (.Constant (.int 1) k3 p8) p9] [] p10, .Subscript (.Name x p11) (.Constant (.int 0) k4 p12) p13] x1 p14) env)
      (PySem.W.KeyPure (.tuple [.int (0 - wv), .int nm.length, .int a0]) s) E s := by
  have hl63 := line63
  refine wpAny_Tuple_spliced ?_
  refine args_cons (wpAny_BinOp (wpAny_Constant_int (sk_row (i := 2) hk hl hn hv ht (by simp) rfl rfl (fun tk => sub_int ?_) hdb))) rfl
  refine args_cons (Call_ (Calls.Name_function_global hk hg (Calls.loadGlobal_builtin hG hmg hB hmb (PyProof.Rows.callWith_builtin1 (args_cons (sk_row (i := 1) hk hl hn hv ht (by simp) rfl rfl (fun tk => args_nil (len_str (by omega) ?_)) hdb) rfl) rfl rfl)))) rfl
  refine args_cons (sk_row (i := 0) hk hl hn hv ht (by simp) rfl rfl (fun tk => args_nil ⟨(by show 3 ≤ sizeLine; rw [sizeLine_eq]; decide), ?_⟩) hdb) rfl
  exact ⟨_, _, rfl, fun b o e => Heap.get?_push_of_some _ e, .tuple (as := []) (Heap.get?_push_size _ rfl) rfl rfl (.cons (.int _ _) (.cons (.int _ _) (.cons (.int _ _) .nil)))⟩
abbrev skBody (x : Str) (x1 : Nat) (k1 k2 k3 k4 : Nat) (p1 p2 p3 p4 p5 p6 p7 p8 p9 p10 p11 p12 p13 p14 : Pos) : Expr :=
  .Tuple [.BinOp (.Constant (.int 0) k1 p1) .Sub (.Subscript (.Name x p2) (.Constant (.int 2) k2 p3) p4) p5, .Call (.Name "len" p6) [.Subscript (.Name x p7) (.Constant (.int 1) k3 p8) p9] [] p10, .Subscript (.Name x p11) (.Constant (.int 0) k4 p12) p13] x1 p14
theorem sk_call {x q : Str} {f c' : Addr} {params : Arguments} {scope : Scope} {cl : List (Str × Addr)} {pm ctv : Value} {a0 wv : Int} {t0 t1 t2 : Tok} {nm : Str} {pl : Value} {x1 : Nat} {k1 k2 k3 k4 : Nat} {p1 p2 p3 p4 p5 p6 p7 p8 p9 p10 p11 p12 p13 p14 : Pos}
    (hd : A.depth < recursionLimit) (of : s.heap.get? f = some (PySem.W.kla_obj "<lambda>" q params (skBody x x1 k1 k2 k3 k4 p1 p2 p3 p4 p5 p6 p7 p8 p9 p10 p11 p12 p13 p14) scope cl pm c' ctv)) (hco : scope.isCoroutine = false) (hgen : scope.isGenerator = false) (hk : scope.kind = .function) (own : ∀ y ∈ scope.names, y.2 ≠ .cell)
    (hl : scope.names.lookup x = some .local) (hg : scope.names.lookup ("len" : Str) = some .globalImplicit) (hcode : s.heap.CodeRec (.ref c') q) (hlim : s.heap.NoLimit)
    (hbind : ∀ v, bindArgs (PySem.W.kla_fn "<lambda>" q params (skBody x x1 k1 k2 k3 k4 p1 p2 p3 p4 p5 p6 p7 p8 p9 p10 p11 p12 p13 p14) scope cl pm (.ref c') ctv) ⟨[v], []⟩ = pure [(x, v)])
    (hG : s.heap.Ns mainGlobals mg) (hmg : mg "len" = none) (hB : s.heap.Ns builtinsNs mb) (hmb : mb "len" = some (.builtin "len")) (ht : IsTup s.heap t [.int a0 t0, .str nm t1, .int wv t2, pl].toArray) (hz : nm.length ≤ sizeLine) (hdb : (x == ("__debug__" : Str)) = false := by decide) :
    wpAny (model prog w) A (call (.ref f) [.ref t]) (PySem.W.KeyPure (.tuple [.int (0 - wv), .int nm.length, .int a0]) s) (fun _ _ => False) s := by
  refine wpAny_call (PySem.W.kla_callFunE hd of rfl hco hgen rfl hcode ?_)
  rw [hbind]
  refine wpAny_pure (wpAny_newFunctionEnv own (fun y hy => ?_) (fun h1 hns hsb => ⟨hlim.fresh _ hsb, ?_⟩) hk)
  · obtain rfl : y = (x, Value.ref t) := by simpa using hy
    exact hl
  have kp : ∀ b o, s.heap.get? b = some o → h1.get? b = some o := fun b o e => hsb.extBut b o (Nat.ne_of_lt (Heap.lt_size e)) (Heap.get?_push_of_some _ e)
  refine PySem.W.kla_codeExpr (wpAny_mono (sk_body (s := { s with heap := h1, toks := s.toks + [(x, Value.ref t)].length }) (m := fun y => [(x, Value.ref t)].reverse.lookup y) hk hl hg (hG.keeps kp) hmg (hB.keeps kp) hmb hns (by simp) (ht.keeps kp) hz hdb) (fun v s' hq => ?_) fun e s' hq => hq)
  obtain ⟨h', tk, rfl, k2, r⟩ := hq
  exact ⟨h', tk, rfl, fun b o e => k2 b o (kp b o e), r⟩
end
/-- a row: number, name, worth, places -/
abbrev Rk := Int × Str × Int × PyData
def rkD (b : Rk) : PyData := .tuple [.int b.1, .str b.2.1, .int b.2.2.1, b.2.2.2]
def rkK (b : Rk) : PyData := .tuple [.int (0 - b.2.2.1), .int b.2.1.length, .int b.1]
def rkS (bs : List Rk) : List Rk := bs.mergeSort (PySem.W.dataLe false rkK)
theorem each_rk {O : Addr → Prop} {H : Hp} : ∀ {bs : List Rk} {xs : List V} {us : List Value}, DtAll O H (bs.map rkD) xs → Vals xs us → PySem.W.EachIs (fun u b => ∃ x, RelV x u ∧ Dt O H (rkD b) x) us bs
  | [], _, _, h, r => by
    cases (show _ = ([] : List V) from h)
    cases r
    exact .nil
  | b :: bs, _, _, h, r => by
    obtain ⟨x, xs, rfl, h1, h2⟩ := h
    cases r with
    | cons rx rr => exact .cons ⟨x, rx, h1⟩ (each_rk h2 rr)
theorem of_each_rk {O : Addr → Prop} {H : Hp} : ∀ {bs : List Rk} {us : List Value}, PySem.W.EachIs (fun u b => ∃ x, RelV x u ∧ Dt O H (rkD b) x) us bs → ∃ xs, Vals xs us ∧ DtAll O H (bs.map rkD) xs
  | _, _, .nil => ⟨[], .nil, rfl⟩
  | _, _, .cons ⟨x, r, h⟩ t => by
    obtain ⟨xs, a, b⟩ := of_each_rk t
    exact ⟨x :: xs, .cons r a, x, xs, rfl, h, b⟩
theorem rk_alike (bs : List Rk) : PySem.W.AllAlike (bs.map rkK) := PySem.W.AllAlike.of fun _ _ => by simp [PySem.W.alike, PySem.W.alikeAll, rkK]
theorem rk_sortable (bs : List Rk) : PySem.W.Sortable (bs.map rkK) := PySem.W.Sortable.tuples fun _ => ⟨_, _, rfl⟩
section
variable {Kf : PySem.W.Frag} {Tf : List (Addr × Str)} {F : Fx Kf Tf} {δ : List Slot} {X : Cx} {N : List Str} {sc : Scope} {pos p lpos kpos : Pos}
theorem x_ranked {e : Expr} {bs : List Rk} {c P : Addr} {q x : Str} {params : Arguments} {scope : Scope} {x1 k1 k2 k3 k4 : Nat} {p1 p2 p3 p4 p5 p6 p7 p8 p9 p10 p11 p12 p13 p14 : Pos} (cx : Ctx X N sc) (co : Co X c q) (TB : TabB X.base X.mg c P) (hm : (P, q ++ "<lambda>") ∈ Tf) (hu : ∀ p ∈ Tf, p.1 = P → p.2 = q ++ "<lambda>")
    (hr : Room 2 X.A) (hms : X.mg "sorted" = none) (hml : X.mg "len" = none) (ha : PE X e (tD F δ (.list (bs.map rkD)))) (hz : ∀ b ∈ bs, b.2.1.length ≤ sizeLine)
    (hk : scope.kind = .function := by rfl) (hco : scope.isCoroutine = false := by rfl) (hgen : scope.isGenerator = false := by rfl) (hnf : ∀ y ∈ scope.names, y.2 ≠ .free := by decide +kernel) (hlc : ∀ y ∈ scope.names, y.2 ≠ .cell := by decide +kernel) (hlx : scope.names.lookup x = some .local := by decide +kernel) (hll : scope.names.lookup ("len" : Str) = some .globalImplicit := by decide +kernel) (hg : sc.names.lookup ("sorted" : Str) = some .globalImplicit := by rfl) (hdef : defaultsOf params X.env = ([], []) := by rfl)
    (hbind : ∀ (q : Str) (cl : List (Str × Addr)) (pm cv ctv v : Value), bindArgs (PySem.W.kla_fn "<lambda>" q params (skBody x x1 k1 k2 k3 k4 p1 p2 p3 p4 p5 p6 p7 p8 p9 p10 p11 p12 p13 p14) scope cl pm cv ctv) ⟨[v], []⟩ = pure [(x, v)] := by intros; rfl) (hdb : (x == ("__debug__" : Str)) = false := by decide)
    (he : ∀ pos, backTo pos (starEach [e] X.env) = (false, eval e X.env) :: backTo pos (starEach [] X.env) := by intros; rfl) :
    PE X (.Call (.Name "sorted" p) [e] [⟨some "key", .Lambda params (skBody x x1 k1 k2 k3 k4 p1 p2 p3 p4 p5 p6 p7 p8 p9 p10 p11 p12 p13 p14) scope lpos, kpos⟩] pos) (tD F δ (.list ((rkS bs).map rkD))) := by
  refine ⟨fun pins s σ H Q I h => ?_⟩
  obtain ⟨O, st, w⟩ := h
  refine wpAny_Call_Name_kw (ld_blt I (cx.gl hg) hms PyProof.Rows.boot_sorted ?_)
  refine PyProof.Rows.callWith_kw (?_) (he pos) (by rw [he]; rfl) rfl rfl
  rw [he]
  refine Calls.spliced_cons (thn (ha.run pins s σ H _ I ⟨O, st, fun v H1 e1 t1 d1 => (show (∃ O, StAt F O H σ δ ∧ Dt O H1 (.list (bs.map rkD)) v ∧ ExtN H H1 ∧ Tabs F.T H1 ∧ ∀ v H', ExtN H H' → Tabs F.T H' → Dt O H' (.list ((rkS bs).map rkD)) v → Q v H') from ⟨O, st, d1, e1, t1, w⟩)⟩) fun u s1 hq => ?_)
  obtain ⟨v, H1, I1, r1, O, st, d1, e1, t1, w⟩ := hq
  refine Calls.spliced_nil ?_
  show wpAny _ _ (evalAll ((do let v ← eval (.Lambda params _ scope lpos) X.env; standAt pos; pure v) :: [])) _ _ s1
  refine wpAny_evalAll_cons (wpAny_bind (lam_make2 (T := Tf) I1 TB co.code (by rw [co.qual]; exact hm) (by rw [co.qual]; exact hu) t1 hdef (fun y hy e => absurd e (hnf y hy)) fun f c' pm ctv H2 s2 I2 e2 t2 hf hfn hfr hcc => wpAny_bind (wpAny_standAt (wpAny_pure (wpAny_evalAll_nil ?_)))))
  obtain ⟨a, xs, rfl, na, ga, da⟩ := d1
  obtain rfl : u = Value.ref a := r1
  have ga2 : H2 a = some (.lst xs) := e2 _ _ ga (fun ps z => by cases z)
  have da2 : DtAll O H2 (bs.map rkD) xs := da.grow e2
  obtain ⟨its, rv, hl, hzl⟩ := I2.list (SqL.of ga2)
  have hln : bs.length = xs.length := by
    have := da2.len
    rw [List.length_map] at this
    omega
  obtain ⟨⟨oc, vs, tq, hoc, hdc, hvc⟩, _, _⟩ := I2.hok c' _ hcc
  obtain ⟨mb, hB1, hB2⟩ := I2.mod.blt
  show wpAny _ _ (call (.builtin "sorted") [.ref a] [(Str.ofString "key", .ref f)]) _ _ _
  refine PySem.W.sorted_key_data (b := false) (R := fun u b => ∃ x, RelV x u ∧ Dt O H2 (rkD b) x) rkK hl.isList (each_rk da2 rv) (rk_alike bs) (rk_sortable bs) (by omega) (fun b hb => ?_) (PyProof.Rows.ksk_s1 _ _) (fun _ => PyProof.Rows.ksk_l1 _ _) (fun _ => PyProof.Rows.ksk_t1 _ _) (fun v b hR hb h tk kp => ?_) fun out cc h' tk kp hnone hD ho eo => ?_
  · have hd : (rkK b).depth = 1 := by simp [rkK, PyData.depth, PyData.depthAll]
    have := hr.un
    omega
  · obtain ⟨x0, rx, dx⟩ := hR
    obtain ⟨t, ys, rfl, nt, gt, dt⟩ := dx
    obtain ⟨y0, _, rfl, h0, y1, _, rfl, h1, y2, _, rfl, h2, y3, _, rfl, h3, hnil⟩ := dt
    cases hnil
    obtain rfl : y0 = .int b.1 := h0
    obtain rfl : y1 = .str b.2.1 := h1
    obtain rfl : y2 = .int b.2.2.1 := h2
    obtain rfl : v = Value.ref t := rx
    obtain ⟨its', r', pl, _⟩ := I2.tuple (SqT.of gt)
    cases r' with
    | cons r0 r' => cases r' with
      | cons r1 r' => cases r' with
        | cons r2 r' => cases r' with
          | cons r3 r' =>
            cases r'
            obtain ⟨t0, rfl⟩ := r0
            obtain ⟨t1, rfl⟩ := r1
            obtain ⟨t2, rfl⟩ := r2
            refine sk_call (s := { s2 with heap := h, toks := tk }) (mg := X.mg) (mb := mb) ?_ (kp _ _ hf) hco hgen hk hlc hlx hll ⟨c', oc, vs, tq, rfl, kp _ _ hoc, hdc, hvc⟩ (I2.nolimit.keeps kp) (fun v => hbind _ _ _ _ _ v) ((I2.mod.glob.keeps I2.bk).keeps kp) hml ((hB1.keeps I2.bk).keeps kp) ((hB2 _ (by decide)).trans PySem.boot_len) (pl.keeps kp) (hz b hb) hdb
            have := hr.dp
            show X.A.depth < recursionLimit
            omega
  · obtain ⟨ys, r1, d1⟩ := of_each_rk eo
    have hlen : ys.length ≤ sizeLine := by
      rw [r1.length, ho, hln]
      exact hzl
    have hp : H2 (s2.heap.objs.size + 1) = none := I2.hok.fresh (Nat.le_succ _)
    refine ⟨.ref _, upd H2 (s2.heap.objs.size + 1) (.lst ys), I2.laid (t' := tk) kp (Nat.le_succ _) ⟨hlen, out, cc, r1, hD⟩, rfl, w _ _ ((e1.trans e2).trans (ext_new hp)) (tabs_new t2 hp) ?_⟩
    exact ⟨_, ys, rfl, fresh_ok (st.grow (e1.trans e2) t2).dom hp, upd_same, d1.grow (ext_new hp)⟩
end
end Lf
set_option Elab.async false
set_option linter.all false
set_option maxRecDepth 100000
set_option maxHeartbeats 4000000
namespace Lf
open PySem PySem.Spec PyProof.Rows L2 L2H HotX LamX
end Lf
set_option Elab.async false
set_option linter.all false
set_option maxRecDepth 100000
set_option maxHeartbeats 1000000
namespace Lf
open PySem PySem.Spec PySem.W PyProof.Rows
def EnHd (S e it l : Addr) (items : Array Value) (i : Nat) (h : Heap) : Prop :=
  h.IsListIter it l i ∧ h.IsList l items ∧ ((∃ old, IsEnum h e it i old) ∨ ∃ old T f oT, IsEnumHeld h e it i old T f ∧ h.get? T = some oT ∧ T ≠ e ∧ T ≠ it ∧ T ≠ S)
structure EnAcc (S : Addr) (items : Array Value) (h : Heap) (as : List Addr) : Prop where
  above : ∀ a ∈ as, S < a
  lt : ∀ a ∈ as, a < h.objs.size
  rise : as.Pairwise (· < ·)
  pairs : ∀ (j : Nat) (a : Addr), as[j]? = some a → ∃ t x, items[j]? = some x ∧ h.get? a = some { cls := .type "tuple", data := .seq #[.int (j : Int) t, x] }
theorem EnAcc.keep {S : Addr} {items : Array Value} {h h' : Heap} {as : List Addr} (x : EnAcc S items h as) (k : ∀ b o, S < b → h.get? b = some o → h'.get? b = some o) : EnAcc S items h' as where
  above := x.above
  lt := fun a ha => by
    obtain ⟨j, hj⟩ := List.getElem?_of_mem ha
    obtain ⟨t, y, _, e⟩ := x.pairs j a hj
    exact Heap.lt_size (k a _ (x.above a ha) e)
  rise := x.rise
  pairs := fun j a hj => by
    obtain ⟨t, y, e1, e2⟩ := x.pairs j a hj
    exact ⟨t, y, e1, k a _ (x.above a (List.mem_of_getElem? hj)) e2⟩
theorem EnAcc.nil {S : Addr} {items : Array Value} {h : Heap} : EnAcc S items h [] := ⟨(fun a ha => absurd ha (by simp)), (fun a ha => absurd ha (by simp)), List.Pairwise.nil, (fun j a hj => by simp at hj)⟩
theorem EnAcc.snoc {S T : Addr} {items : Array Value} {h : Heap} {as : List Addr} {t : Tok} {x : Value} (y : EnAcc S items h as) (hS : S < T) (hT : ∀ a ∈ as, a < T) (hx : items[as.length]? = some x) (ho : h.get? T = some { cls := .type "tuple", data := .seq #[.int (as.length : Int) t, x] }) : EnAcc S items h (as ++ [T]) where
  above := fun a ha => by
    rcases List.mem_append.mp ha with z | z
    · exact y.above a z
    · rw [List.mem_singleton.mp z]; exact hS
  lt := fun a ha => by
    rcases List.mem_append.mp ha with z | z
    · exact y.lt a z
    · rw [List.mem_singleton.mp z]; exact Heap.lt_size ho
  rise := List.pairwise_append.mpr ⟨y.rise, List.pairwise_singleton _ _, fun a ha b hb => by rw [List.mem_singleton.mp hb]; exact hT a ha⟩
  pairs := fun j a hj => by
    by_cases hl : j < as.length
    · rw [List.getElem?_append_left hl] at hj
      exact y.pairs j a hj
    · rw [List.getElem?_append_right (by omega)] at hj
      have : j - as.length = 0 := by
        have := (List.getElem?_eq_some_iff.mp hj).1
        simp at this
        omega
      rw [this] at hj
      have e : T = a := by simpa using hj
      have e2 : j = as.length := by omega
      subst e2
      rw [← e]
      exact ⟨t, x, hx, ho⟩
section
variable {prog : Program} {w : World} {A : Around} {R : Result → Shared → Prop} {S e it l : Addr} {items : Array Value}
theorem en_loop (hA : A.in1.handled = none) (hei : e ≠ it) (he : e < S) (hit : it < S) (hl : l < S) (hle : l ≠ e) (hli : l ≠ it) (hn : items.size ≤ sizeLine) (res : Value) :
    ∀ (k i : Nat) (s : Shared) (acc : Array Value) (c : Nat) (as : List Addr), items.size - i = k → i ≤ items.size → EnHd S e it l items i s.heap → s.heap.get? S = some { cls := .type "list", dict := none, data := .seq acc c, slots := #[] } → EnAcc S items s.heap as → acc.toList = as.map Value.ref → as.length = i →
    (∀ h' tk acc' c' as', (∀ b o, b ≠ S → b ≠ e → b ≠ it → s.heap.get? b = some o → h'.get? b = some o) → h'.get? S = some { cls := .type "list", dict := none, data := .seq acc' c', slots := #[] } → EnAcc S items h' as' → acc'.toList = as'.map Value.ref → as'.length = items.size → R (.ok (.ret res)) { s with heap := h', toks := tk }) →
    codeAny (model prog w) A (.builtin "list.extend.loop" ⟨[.ref S, .ref e, res], []⟩) R s := by
  intro k
  induction k with
  | zero =>
    intro i s acc c as hk hi hst hS ha hc hlen hR
    have hin : i = items.size := by omega
    subst hin
    refine codeAny_builtin F.entry_extend_loop ?_
    rw [Around.under_plainId F.plain_extend_loop _]
    show wpAny _ A.in1 (pyNext (.ref e) >>= _) _ _ s
    obtain ⟨h1, h2, h3⟩ := hst
    have hx : items[items.size]? = none := Array.getElem?_eq_none (Nat.le_refl _)
    have fin : ∀ h', Heap.ExtBut it s.heap h' → R (.ok (.ret res)) { s with heap := h' } := fun h' hk => hR h' s.toks acc c as (fun b o _ _ hb q => hk b o hb q) (hk S _ (Nat.ne_of_gt hit) hS) (ha.keep fun b o hb q => hk b o (Nat.ne_of_gt (Nat.lt_trans hit hb)) q) hc hlen
    rcases h3 with ⟨old, h3⟩ | ⟨old, T, f, oT, h3, hT, r1, r2, r3⟩
    · exact wpAny_bind (wpAny_pyNext_enum_end hA h3 h1 h2 hx fun h' hk => wpAny_pure (fin h' hk))
    · exact wpAny_bind (wpAny_pyNext_enum_end_held hA h3 h1 h2 hx fun h' hk => wpAny_pure (fin h' hk))
  | succ k ih =>
    intro i s acc c as hk hi hst hS ha hc hlen hR
    have hlt : i < items.size := by omega
    refine codeAny_builtin F.entry_extend_loop ?_
    rw [Around.under_plainId F.plain_extend_loop _]
    show wpAny _ A.in1 (pyNext (.ref e) >>= _) _ _ s
    obtain ⟨h1, h2, h3⟩ := hst
    have ex := Array.getElem?_eq_getElem hlt
    have hSs : S < s.heap.objs.size := Heap.lt_size hS
    have ec : ((i + 1 : Nat) : Int) = (i : Int) + 1 := by omega
    have hacc : acc.size = i := by
      have := congrArg List.length hc
      rw [Array.length_toList, List.length_map] at this
      omega
    -- what is common: the tuple at T is put behind the list
    have go : ∀ h', h'.IsListIter it l (i + 1) → (∃ old T f oT, IsEnumHeld h' e it ((i : Int) + 1) old T f ∧ h'.get? T = some oT ∧ T ≠ e ∧ T ≠ it ∧ T ≠ S) → h'.get? s.heap.objs.size = some { cls := .type "tuple", data := .seq #[.int (i : Int) s.toks, items[i]] } → (∀ b o, b ≠ e → b ≠ it → s.heap.get? b = some o → h'.get? b = some o) →
        wpAny (model prog w) A.in1 (updateSeq S (·.push (.ref s.heap.objs.size)) >>= fun _ => again (.builtin "list.extend.loop" ⟨[.ref S, .ref e, res], []⟩))
          (fun fin s' => match fin with | .done f => R (.ok f) s' | .again c' => c'.quiet = true ∧ codeAny (model prog w) A c' R s') (fun e s' => R (.error e) s') { s with heap := h', toks := s.toks + 1 } := by
      intro h' q1 ⟨old, T, f, oT, q2, qT, r1, r2, r3⟩ q3 q4
      have hS' : h'.get? S = some { cls := .type "list", dict := none, data := .seq acc c, slots := #[] } := q4 S _ (Nat.ne_of_gt he) (Nat.ne_of_gt hit) hS
      have up : ∀ b o, b ≠ S → h'.get? b = some o → (h'.update S (Obj.mapSeq (·.push (.ref s.heap.objs.size)))).get? b = some o := fun b o hb q => (Heap.get?_update_other _ _ (Ne.symm hb)).trans q
      refine wpAny_bind (wpAny_updateSeq hS' rfl (wpAny_pure ⟨plainId_quiet F.plain_extend_loop _, ih (i + 1) _ (acc.push (.ref s.heap.objs.size)) _ (as ++ [s.heap.objs.size]) (by omega) hlt ⟨?_, ?_, .inr ⟨old, T, f, oT, ?_, up T _ r3 qT, r1, r2, r3⟩⟩ (Heap.get?_update_self _ hS' rfl) ?_ ?_ ?_ fun h'' tk acc' c' as' k2 a1 a2 a3 a4 => ?_⟩) (by rw [hacc]; omega) (by show (acc.push _).size ≤ sizeLine + 1; rw [Array.size_push, hacc]; omega))
      · exact q1.at fun o q => up _ _ (Nat.ne_of_lt hit) q
      · exact h2.at fun o q => up _ _ (Nat.ne_of_lt hl) (q4 _ _ hle hli q)
      · rw [ec]
        exact up _ _ (Nat.ne_of_lt he) q2
      · refine EnAcc.snoc (t := s.toks) (x := items[i]) (ha.keep fun b o hb q => up b o (Nat.ne_of_gt hb) (q4 b o (Nat.ne_of_gt (Nat.lt_trans he hb)) (Nat.ne_of_gt (Nat.lt_trans hit hb)) q)) hSs ha.lt (by rw [hlen]; exact ex) ?_
        rw [hlen]
        exact up _ _ (Nat.ne_of_gt hSs) q3
      · simp [hc]
      · simp [hlen]
      · exact hR h'' tk acc' c' as' (fun b o b1 b2 b3 q => k2 b o b1 b2 b3 (up b o b1 (q4 b o b2 b3 q))) a1 a2 a3 a4
    rcases h3 with ⟨old, h3⟩ | ⟨old, T, f, oT, h3, hT, r1, r2, r3⟩
    · refine wpAny_bind (wpAny_pyNext_enum_item h3 h1 h2 ex hei fun h' ho hit' hT hsz hk => ?_)
      exact go h' hit' ⟨_, s.heap.objs.size, false, _, ho, hT, Nat.ne_of_gt (Nat.lt_trans he hSs), Nat.ne_of_gt (Nat.lt_trans hit hSs), Nat.ne_of_gt hSs⟩ hT hk
    · refine wpAny_bind (wpAny_pyNext_enum_item_held h3 hT r1 r2 h1 h2 ex hei fun h' ho hit' hT' hsz hk => ?_)
      exact go h' hit' ⟨old, T, true, oT, ho, hk _ _ r1 r2 hT, r1, r2, r3⟩ hT' hk
theorem en_no_len : typeLookup (.type "enumerate") "__len__" = pure none := by rw [typeLookup_type, builtinLookup_eq_fast]; kernel_rfl
theorem en_no_hint : typeLookup (.type "enumerate") "__length_hint__" = pure none := by rw [typeLookup_type, builtinLookup_eq_fast]; kernel_rfl
abbrev lstO (acc : Array Value) (c : Nat) : Obj := { cls := .type "list", dict := none, data := .seq acc c, slots := #[] }
theorem EnHd.upd {i : Nat} {h h' : Heap} (x : EnHd S e it l items i h) (he : e ≠ S) (hit : it ≠ S) (hl : l ≠ S) (k : ∀ b o, b ≠ S → h.get? b = some o → h'.get? b = some o) : EnHd S e it l items i h' := by
  obtain ⟨h1, h2, h3⟩ := x
  refine ⟨h1.at fun o q => k _ o hit q, h2.at fun o q => k _ o hl q, ?_⟩
  rcases h3 with ⟨old, h3⟩ | ⟨old, T, f, oT, h3, hT, r1, r2, r3⟩
  · exact .inl ⟨old, k _ _ he h3⟩
  · exact .inr ⟨old, T, f, oT, k _ _ he h3, k _ _ r3 hT, r1, r2, r3⟩
theorem en_extend {s : Shared} {old : Value} (hA : A.in1.handled = none) (hei : e ≠ it) (he : e < S) (hit : it < S) (hl : l < S) (hle : l ≠ e) (hli : l ≠ it) (hn : items.size ≤ sizeLine) (res : Value) (hst : EnHd S e it l items 0 s.heap) (hE : IsEnum s.heap e it 0 old) {c : Nat} (hS : s.heap.get? S = some (lstO #[] c))
    (hR : ∀ h' tk acc' c' as', (∀ b o, b ≠ S → b ≠ e → b ≠ it → s.heap.get? b = some o → h'.get? b = some o) → h'.get? S = some (lstO acc' c') → EnAcc S items h' as' → acc'.toList = as'.map Value.ref → as'.length = items.size → R (.ok (.ret res)) { s with heap := h', toks := tk }) :
    wpAny (model prog w) A.in1 (Builtin.List.listExtendWith (.ref S) (.ref e) res)
      (fun fin s' => match fin with | .done f => R (.ok f) s' | .again c' => c'.quiet = true ∧ codeAny (model prog w) A c' R s') (fun e s' => R (.error e) s') s := by
  have hT : s.TypeIs (.ref e) "enumerate" := ⟨_, hE, rfl⟩
  have hSI : S ≠ e := Nat.ne_of_gt he
  unfold Builtin.List.listExtendWith
  refine wpAny_bind (wpAny_typeOf hT ?_)
  have h1 : Builtin.List.listSameRef (.ref S) (.ref e) = false := by simp [Builtin.List.listSameRef, hSI]
  have h2 : (Value.type "enumerate" == Value.type "list") = false := by decide
  have h3 : (Value.type "enumerate" == Value.type "tuple") = false := by decide
  simp only [h1, h2, h3, Bool.or_false, Bool.false_eq_true, if_false]
  refine wpAny_bind (wpAny_pyIter_enum hE ?_)
  refine wpAny_bind (wpAny_holding ?_)
  unfold Builtin.List.listLengthHint
  refine wpAny_bind (wpAny_specialOf hT en_no_len ?_)
  show wpAny _ A.in1 (specialOf (Value.ref e) (Str.ofString "__length_hint__") >>= _) _ _ _
  refine wpAny_bind (wpAny_specialOf hT en_no_hint ?_)
  refine wpAny_pure ?_
  show wpAny _ A.in1 (rule "list.extend.makes-room" >>= fun _ => Builtin.List.listTouch (.ref S) >>= fun _ =>
    again (.builtin "list.extend.loop" ⟨[.ref S, .ref e, res], []⟩)) _ _ _
  refine wpAny_bind (wpAny_rule ?_)
  refine wpAny_bind ?_
  show wpAny _ A.in1 (updateSeq S (·.push .none) >>= fun _ => updateSeq S (·.pop)) _ _ _
  refine wpAny_bind (wpAny_updateSeq hS rfl ?_)
  have hS₂ := Heap.get?_update_self (Obj.mapSeq (·.push Value.none)) hS rfl
  refine wpAny_updateSeq (hz := by seq_fits) hS₂ rfl ?_
  have hS₃ := Heap.get?_update_self (Obj.mapSeq (·.pop)) hS₂ rfl
  have oth : ∀ b o, b ≠ S → s.heap.get? b = some o → ((s.heap.update S (Obj.mapSeq (·.push Value.none))).update S (Obj.mapSeq (·.pop))).get? b = some o :=
    fun b o hb e => (Heap.get?_update_other _ _ (Ne.symm hb)).trans ((Heap.get?_update_other _ _ (Ne.symm hb)).trans e)
  refine wpAny_pure ⟨plainId_quiet F.plain_extend_loop _, en_loop hA hei he hit hl hle hli hn res items.size 0 _ _ _ [] rfl (Nat.zero_le _) (hst.upd (Nat.ne_of_lt he) (Nat.ne_of_lt hit) (Nat.ne_of_lt hl) oth) hS₃ EnAcc.nil rfl rfl fun h' tk acc' c' as' k2 a1 a2 a3 a4 => ?_⟩
  exact hR h' tk acc' c' as' (fun b o b1 b2 b3 q => k2 b o b1 b2 b3 (oth b o b1 q)) a1 a2 a3 a4
theorem en_init {s : Shared} {old : Value} (hA : A.in1.handled = none) (hei : e ≠ it) (he : e < S) (hit : it < S) (hl : l < S) (hle : l ≠ e) (hli : l ≠ it) (hn : items.size ≤ sizeLine) (hst : EnHd S e it l items 0 s.heap) (hE : IsEnum s.heap e it 0 old) (hS : s.heap.get? S = some { cls := .type "list", data := .seq #[] })
    (hR : ∀ h' tk acc' c' as', (∀ b o, b ≠ S → b ≠ e → b ≠ it → s.heap.get? b = some o → h'.get? b = some o) → h'.get? S = some (lstO acc' c') → EnAcc S items h' as' → acc'.toList = as'.map Value.ref → as'.length = items.size → R (.ok (.ret .none)) { s with heap := h', toks := tk }) :
    wpAny (model prog w) A.in1 (Builtin.«list.__init__» ⟨[.ref S, .ref e], []⟩)
      (fun fin s' => match fin with | .done f => R (.ok f) s' | .again c' => c'.quiet = true ∧ codeAny (model prog w) A c' R s') (fun e s' => R (.error e) s') s := by
  show wpAny _ A.in1 (do let old ← Builtin.List.listItems (.ref S); Builtin.List.listUpdate (.ref S) (fun _ => #[]); letGo old.toList.reverse; Builtin.List.listExtendWith (.ref S) (.ref e) .none) _ _ s
  refine wpAny_bind ?_
  unfold Builtin.List.listItems
  refine wpAny_bind (wpAny_seqItems hS rfl (wpAny_pure ?_))
  show wpAny _ A.in1 (updateSeq S (fun _ => #[]) >>= fun _ => letGo (#[] : Array Value).toList.reverse >>= fun _ => Builtin.List.listExtendWith (.ref S) (.ref e) .none) _ _ s
  refine wpAny_bind (wpAny_updateSeq hS rfl ?_)
  have hS₂ := Heap.get?_update_self (Obj.mapSeq (fun _ => (#[] : Array Value))) hS rfl
  have oth : ∀ b o, b ≠ S → s.heap.get? b = some o → (s.heap.update S (Obj.mapSeq (fun _ => (#[] : Array Value)))).get? b = some o :=
    fun b o hb e => (Heap.get?_update_other _ _ (Ne.symm hb)).trans e
  refine wpAny_bind (wpAny_letGo ?_)
  refine en_extend (old := old) hA hei he hit hl hle hli hn .none (hst.upd (Nat.ne_of_lt he) (Nat.ne_of_lt hit) (Nat.ne_of_lt hl) oth) (oth _ _ (Nat.ne_of_lt he) hE) hS₂ fun h' tk acc' c' as' k2 a1 a2 a3 a4 => ?_
  exact hR h' tk acc' c' as' (fun b o b1 b2 b3 q => k2 b o b1 b2 b3 (oth b o b1 q)) a1 a2 a3 a4
theorem en_call {s : Shared} {E : Value → Shared → Prop} {Q : Value → Shared → Prop} {old : Value} (hA : A.handled = none) (hei : e ≠ it) (he : e < s.heap.objs.size) (hit : it < s.heap.objs.size) (hl : l < s.heap.objs.size) (hle : l ≠ e) (hli : l ≠ it) (hn : items.size ≤ sizeLine) (h1 : s.heap.IsListIter it l 0) (h2 : s.heap.IsList l items) (hE : IsEnum s.heap e it 0 old)
    (hQ : ∀ h' tk acc' c' as', (∀ b o, b ≠ e → b ≠ it → s.heap.get? b = some o → h'.get? b = some o) → h'.get? s.heap.objs.size = some (lstO acc' c') → EnAcc s.heap.objs.size items h' as' → acc'.toList = as'.map Value.ref → as'.length = items.size → Q (.ref s.heap.objs.size) { s with heap := h', toks := tk }) :
    wpAny (model prog w) A (call (.type "list") [.ref e]) Q E s := by
  refine callType_codes (Q₁ := fun obj s₁ => obj = .ref s.heap.objs.size ∧ s₁ = { s with heap := s.heap.push { cls := .type "list", data := .seq #[] } }) F.called_list (F.typeCall_list_1 _) F.entry_list_init
    (code_list_new _ ⟨rfl, rfl⟩) fun obj s₁ h₁ => ?_
  obtain ⟨rfl, rfl⟩ := h₁
  have hS : (s.heap.push { cls := .type "list", data := .seq #[] }).get? s.heap.objs.size = some { cls := .type "list", data := .seq #[] } := Heap.get?_push_size _ rfl
  have oth : ∀ b o, s.heap.get? b = some o → (s.heap.push { cls := .type "list", data := .seq #[] }).get? b = some o := fun b o q => Heap.get?_push_of_some _ q
  refine ⟨⟨_, hS, rfl⟩, F.args_list_init_2 _ _, en_init (old := old) (s := { s with heap := s.heap.push { cls := .type "list", data := .seq #[] } }) (A := A.in1) hA hei he hit hl hle hli hn ⟨h1.at fun o q => oth _ o q, h2.at fun o q => oth _ o q, .inl ⟨old, oth _ _ hE⟩⟩ (oth _ _ hE) hS fun h' tk acc' c' as' k2 a1 a2 a3 a4 => ?_⟩
  exact ⟨rfl, hQ h' tk acc' c' as' (fun b o b1 b2 q => k2 b o (Nat.ne_of_lt (Heap.lt_size q)) b1 b2 (oth b o q)) a1 a2 a3 a4⟩
end
section
open L2 L2H HotX LamX LiI
variable {X : Cx}
theorem en_laid {pins : List (Addr × Obj)} {σ : L2.St} {H : Hp} {s : Shared} {h' : Heap} {tk : Nat} {xs : List V} {its : List Value} {S : Addr} {acc : Array Value} {c : Nat} {as : List Addr} (I : Inv X pins σ H s) (rv : Vals xs its) (hz : xs.length ≤ sizeLine) (hSz : s.heap.objs.size ≤ S)
    (hk : ∀ b o, s.heap.get? b = some o → h'.get? b = some o) (hS : h'.get? S = some (lstO acc c)) (ha : EnAcc S its.toArray h' as) (hacc : acc.toList = as.map Value.ref) (hl : as.length = its.length) :
    ∃ H' : Hp, (∀ b o, H b = some o → H' b = some o) ∧ H S = none ∧ (∀ t ∈ as, H t = none) ∧ H' S = some (.lst (as.map V.ref)) ∧ (∀ (j : Nat) (t : Addr), as[j]? = some t → ∃ x, xs[j]? = some x ∧ H' t = some (.tup [.int (j : Int), x])) ∧ Inv X pins σ H' { s with heap := h', toks := tk } := by
  have lx : xs.length = its.length := rv.length
  obtain ⟨kvs, hkv⟩ : ∃ kvs : List (Key × V), kvs = (List.range xs.length).map fun (j : Nat) => ((Sum.inl (j : Int) : Key), xs.getD j .non) := ⟨_, rfl⟩
  have lk : as.length = kvs.length := by rw [hkv, List.length_map, List.length_range]; omega
  have kat : ∀ (j : Nat) (p : Key × V), kvs[j]? = some p → ∃ x, xs[j]? = some x ∧ p = ((Sum.inl (j : Int) : Key), x) := fun j p hp => by
    have hj : j < xs.length := by
      have := (List.getElem?_eq_some_iff.mp hp).1
      rw [hkv, List.length_map, List.length_range] at this
      exact this
    rw [hkv, List.getElem?_map, List.getElem?_range hj] at hp
    have e := (Option.some.inj hp).symm
    refine ⟨xs.getD j .non, ?_, e⟩
    rw [List.getD_eq_getElem?_getD, List.getElem?_eq_getElem hj]
    rfl
  have hSn : S ∉ as := fun z => Nat.lt_irrefl _ (ha.above _ z)
  have nd : as.Nodup := List.Pairwise.imp (fun {a b} (h : a < b) => Nat.ne_of_lt h) ha.rise
  have new : ∀ t ∈ as, H t = none := fun t ht => I.hok.fresh (Nat.le_of_lt (Nat.lt_of_le_of_lt hSz (ha.above t ht)))
  have newS : H S = none := I.hok.fresh hSz
  have atP := putT_at as kvs (upd H S (.lst (as.map V.ref))) lk nd
  have off : ∀ b, b ∉ as → b ≠ S → putT (upd H S (.lst (as.map V.ref))) as kvs b = H b := fun b h1 h2 => by rw [putT_off as kvs _ h1, upd_ne h2]
  have low : ∀ b o, s.heap.get? b = some o → b ∉ as ∧ b ≠ S := fun b o e => ⟨fun z => absurd (Heap.lt_size e) (Nat.not_lt.mpr (Nat.le_of_lt (Nat.lt_of_le_of_lt hSz (ha.above b z)))), Nat.ne_of_lt (Nat.lt_of_lt_of_le (Heap.lt_size e) hSz)⟩
  have kp : ∀ b u, H b = some u → (putT (upd H S (.lst (as.map V.ref))) as kvs) b = some u := fun b u e => by
    rw [off b (fun z => by rw [new b z] at e; cases e) (fun z => by rw [z, newS] at e; cases e)]
    exact e
  have eS : putT (upd H S (.lst (as.map V.ref))) as kvs S = some (.lst (as.map V.ref)) := by rw [putT_off as kvs _ hSn, upd_same]
  have eT : ∀ (j : Nat) (t : Addr), as[j]? = some t → ∃ x, xs[j]? = some x ∧ putT (upd H S (.lst (as.map V.ref))) as kvs t = some (.tup [.int (j : Int), x]) := fun j t hj => by
    obtain ⟨p, e2, e3⟩ := LiI.paired_get atP hj
    obtain ⟨x, f1, rfl⟩ := kat j p e2
    exact ⟨x, f1, e3⟩
  refine ⟨putT (upd H S (.lst (as.map V.ref))) as kvs, kp, newS, new, eS, eT, ?_⟩
  refine I.un ⟨fun b o q _ _ _ => hk b o q, fun b o q _ _ _ => ⟨o.slots, hk b o q⟩, fun b o q n _ => ?_, fun b o q _ => ⟨o, hk b o q⟩, fun b xs q => kp b _ q, fun b o u q => kp b _ q, fun b ps q => ⟨#[], by rw [kp b _ q]; simp⟩⟩ (fun b u q => ?_)
  · obtain ⟨z1, z2⟩ := low b o q
    rw [off b z1 z2]
    exact n
  · by_cases hb : b ∈ as
    · obtain ⟨j, hj⟩ := List.getElem?_of_mem hb
      obtain ⟨x, e1, e2⟩ := eT j b hj
      rw [e2] at q
      cases q
      obtain ⟨t, y, f1, f2⟩ := ha.pairs j b hj
      obtain ⟨y', g1, g2⟩ := rv.get e1
      have f1 : its[j]? = some y := by simpa using f1
      rw [f1] at g1
      cases g1
      exact ⟨by show 2 ≤ sizeLine; decide, [.int (j : Int) t, y], .cons ⟨t, rfl⟩ (.cons g2 .nil), ⟨_, f2, rfl, _, rfl⟩⟩
    · by_cases hb2 : b = S
      · rw [hb2] at q ⊢
        rw [eS] at q
        cases q
        refine ⟨by rw [List.length_map]; omega, acc.toList, c, by rw [hacc]; exact LiI.vals_refs as, ?_⟩
        rw [Array.toArray_toList]
        exact hS
      · rw [off b hb hb2] at q
        exact (I.hok b u q).stay (fun d v _ y => hk d v y) (fun d y => kp d _ y) fun d xs y => kp d _ y
variable {Kf : PySem.W.Frag} {Tf : List (Addr × Str)} {F : Fx Kf Tf} {δ : List Slot} {N : List Str} {sc : Scope} {pos p p2 pos2 : Pos} {e : Expr} {ds : List PyData}
end
end Lf
set_option Elab.async false
set_option linter.all false
set_option maxRecDepth 100000
set_option maxHeartbeats 4000000
namespace Lf
open PySem PySem.Spec PyProof.Rows L2 L2H HotX LamX
def keyD : Key → PyData
  | .inl i => .int i
  | .inr s => .str s
def getK {α : Type} (kvs : List (Key × α)) (k : Key) : Option α := (kvs.find? fun q => decide (q.1 = k)).map (·.2)
def putD {α : Type} (kvs : List (Key × α)) (k : Key) (d : α) : List (Key × α) := if (kvs.any fun q => decide (q.1 = k)) = true then kvs.map (fun q => if q.1 = k then (q.1, d) else q) else kvs ++ [(k, d)]
section
variable {O O' : Addr → Prop} {H H' : Hp} {kvs : List (Key × PyData)} {vs : List (Key × V)} {k : Key} {d : PyData} {x v : V}
theorem kv_cons {p : Key × PyData} {q : Key × V} : KvAll O H (p :: kvs) (q :: vs) ↔ q.1 = p.1 ∧ Dt O H p.2 q.2 ∧ KvAll O H kvs vs := by
  unfold KvAll
  simp only [List.map_cons, List.cons.injEq]
  constructor
  · rintro ⟨⟨h1, h2⟩, x, r, e, h3, h4⟩
    cases e
    exact ⟨h1, h3, h2, h4⟩
  · rintro ⟨h1, h3, h2, h4⟩
    exact ⟨⟨h1, h2⟩, _, _, rfl, h3, h4⟩
theorem kv_nil : KvAll O H [] [] := ⟨rfl, rfl⟩
theorem kv_len (h : KvAll O H kvs vs) : vs.length = kvs.length := by
  have := congrArg List.length h.1
  simpa using this
theorem kv_get {k : Key} : ∀ {kvs : List (Key × PyData)} {vs : List (Key × V)}, KvAll O H kvs vs → (∀ d, getK kvs k = some d → ∃ x, valV vs k = some x ∧ Dt O H d x) ∧ (getK kvs k = none → valV vs k = none)
  | [], [], _ => ⟨fun d h => (by cases h), fun _ => rfl⟩
  | [], q :: vs, h => by have := kv_len h; simp at this
  | p :: kvs, [], h => by have := kv_len h; simp at this
  | p :: kvs, q :: vs, h => by
    obtain ⟨h1, h2, h3⟩ := kv_cons.mp h
    obtain ⟨g1, g2⟩ := kv_get (k := k) h3
    by_cases e : p.1 = k
    · have e1 : getK (p :: kvs) k = some p.2 := by simp [getK, List.find?_cons, e]
      have e2 : valV (q :: vs) k = some q.2 := valV_pos (h1.trans e)
      rw [e1, e2]
      exact ⟨fun d z => by cases z; exact ⟨_, rfl, h2⟩, fun z => by cases z⟩
    · have e1 : getK (p :: kvs) k = getK kvs k := by simp [getK, List.find?_cons, e]
      have e2 : valV (q :: vs) k = valV vs k := valV_neg (fun z => e (h1.symm.trans z))
      rw [e1, e2]
      exact ⟨g1, g2⟩
theorem kv_any : ∀ {kvs : List (Key × PyData)} {vs : List (Key × V)}, KvAll O H kvs vs → (vs.any fun q => decide (q.1 = k)) = (kvs.any fun q => decide (q.1 = k))
  | [], [], _ => rfl
  | [], q :: vs, h => by have := kv_len h; simp at this
  | p :: kvs, [], h => by have := kv_len h; simp at this
  | p :: kvs, q :: vs, h => by
    obtain ⟨h1, h2, h3⟩ := kv_cons.mp h
    rw [List.any_cons, List.any_cons, kv_any h3, h1]
theorem kv_map (g : Dt O H d x) : ∀ {kvs : List (Key × PyData)} {vs : List (Key × V)}, KvAll O H kvs vs → KvAll O H (kvs.map fun q => if q.1 = k then (q.1, d) else q) (vs.map fun q => if q.1 = k then (q.1, x) else q)
  | [], [], _ => kv_nil
  | [], q :: vs, h => by have := kv_len h; simp at this
  | p :: kvs, [], h => by have := kv_len h; simp at this
  | p :: kvs, q :: vs, h => by
    obtain ⟨h1, h2, h3⟩ := kv_cons.mp h
    rw [List.map_cons, List.map_cons]
    refine kv_cons.mpr ⟨?_, ?_, kv_map g h3⟩
    · rw [h1]; split <;> first | rfl | exact h1
    · rw [h1]; split <;> assumption
theorem kv_app {kvs' : List (Key × PyData)} {vs' : List (Key × V)} (h : KvAll O H kvs vs) (g : KvAll O H kvs' vs') : KvAll O H (kvs ++ kvs') (vs ++ vs') := by
  unfold KvAll
  rw [List.map_append, List.map_append, List.map_append, List.map_append, h.1, g.1]
  exact ⟨rfl, h.2.app g.2⟩
theorem kv_put (h : KvAll O H kvs vs) (g : Dt O H d x) : KvAll O H (putD kvs k d) (putK vs k x) := by
  unfold putD putK
  rw [kv_any h]
  split
  · exact kv_map g h
  · exact kv_app h (kv_cons.mpr ⟨rfl, g, kv_nil⟩)
end
section
variable {Kf : PySem.W.Frag} {Tf : List (Addr × Str)} {F : Fx Kf Tf} {O : Addr → Prop} {H H' : Hp} {σ : L2.St} {δ : List Slot} {d : PyData} {v : V} {q : Addr} {τ : List (PyData × V)} {s s' : Slot} {i : Nat}
theorem SlotOk.out {o : Option V} (g : SlotOk F O H o s) (e : ExtN H H') (hn : ∀ a, Lives H a → a ≠ q) : SlotOk F (Shut O q) H' o s := by
  have kp : ∀ d v, Dt O H d v → Dt (Shut O q) H' d v := fun d v g => Dt.imp (fun a o n r w => ⟨fun z => z.elim n (fun z => hn a ⟨o, r, w⟩ z), e a o r w⟩) d v g
  have kpA : ∀ d v, DtAll O H d v → DtAll (Shut O q) H' d v := fun d v g => DtAll.imp (fun a o n r w => ⟨fun z => z.elim n (fun z => hn a ⟨o, r, w⟩ z), e a o r w⟩) d v g
  cases s with
  | non => trivial
  | dat d => obtain ⟨v, a, b⟩ := g; exact ⟨v, a, kp _ _ b⟩
  | own ds => obtain ⟨p, vs, a, b, c, g, r⟩ := g; exact ⟨p, vs, a, .inl b, c, e _ _ g (fun _ z => by cases z), kpA _ _ r⟩
  | odk kvs => obtain ⟨p, vs, a, b, c, g, r⟩ := g; exact ⟨p, vs, a, .inl b, c, e _ _ g (fun _ z => by cases z), r.imp kpA⟩
  | res R => exact res_keep g (fun a ha => (g.2.2 a ha).2.2.same e) (fun a ha => .inl (g.2.2 a ha).1) kp
  | scr ns => exact g
  | any φ => exact g
/-- the address of what is one's own -/
theorem own_at (st : StAt F O H σ δ) (hi : δ[i]? = some s) (hm : s.lone = true) : ∃ q, σ[i]? = some (some (.ref q)) ∧ O q ∧ ¬ Lives F.Hin q := by
  have g := st.slot i _ hi
  cases s with
  | own ds => obtain ⟨q, xs, e1, o1, nl, _⟩ := g; exact ⟨q, get_some e1, o1, nl⟩
  | odk ds => obtain ⟨q, xs, e1, o1, nl, _⟩ := g; exact ⟨q, get_some e1, o1, nl⟩
  | res R => cases hm
  | non => cases hm
  | dat _ => cases hm
  | scr _ => cases hm
  | any _ => cases hm
theorem own_outG (st : StAt F O H σ δ) (tm : Tm O H τ) (i : Nat) (e : ExtN H H') (t : Tabs F.T H') (hn : ∀ a, Lives H a → a ≠ q) (hq : Lives H' q) (hs : ¬ Lives F.Hin q → SlotOk F (Shut O q) H' (some (.ref q)) s) (hl1 : s.lone = true := by rfl) :
    StAt F (Shut O q) H' (σ.set i (some (.ref q))) (δ.set i s) ∧ Tm (Shut O q) H' τ := by
  have hh : ∀ p, s.has (some (.ref q)) p → p = q := fun p z => by
    cases s with
    | own _ => cases (show some (V.ref q) = some (V.ref p) from z); rfl
    | odk _ => cases (show some (V.ref q) = some (V.ref p) from z); rfl
    | _ => cases hl1
  have kp : ∀ d v, Dt O H d v → Dt (Shut O q) H' d v := fun d v g => Dt.imp (fun a o n r w => ⟨fun z => z.elim n (fun z => hn a ⟨o, r, w⟩ z), e a o r w⟩) d v g
  have nq : ∀ (j : Nat) (s : Slot), δ[j]? = some s → s.mine = true → σ[j]? ≠ some (some (V.ref q)) := fun j s a m z => by
    have hlo : s.lone = true := by
      have g := st.slot j s a
      rw [z] at g
      cases s with
      | res R => obtain ⟨e1, _, _⟩ := g; cases e1
      | own _ => rfl
      | odk _ => rfl
      | non => cases m
      | dat _ => cases m
      | scr _ => cases m
      | any _ => cases m
    obtain ⟨p, e1, o1, _⟩ := own_at st a hlo
    rw [z] at e1
    cases e1
    exact hn q (st.dom q o1) rfl
  refine ⟨⟨by rw [List.length_set, List.length_set, st.len], fun a z => .inl (st.o0 a z), fun a z => ?_, t, st.ext.trans e, fun j s r => ?_, fun j l s' u' q' hjl h1 h2 m1 m2 e1 e2 => ?_, st.afar.set st.len i _ _ (fun R z => by rw [z] at hl1; cases hl1) fun j R _ hj p hp z => ?_⟩, fun w hw => kp _ _ (tm w hw)⟩
  rotate_right
  · rw [hh p z] at hp
    exact hn q ((st.slot j _ hj).2.2 q hp).2.2 rfl
  · rcases z with z | z
    · exact (st.dom a z).grow e
    · rw [z]; exact hq
  · by_cases ej : i = j
    · subst ej
      have hi : i < δ.length := by
        have := (List.getElem?_eq_some_iff.mp r).1
        simpa using this
      rw [List.getElem?_set_self hi] at r
      cases r
      rw [List.getElem?_set_self (by rw [st.len]; exact hi)]
      exact hs fun z => hn q (z.grow st.ext) rfl
    · rw [List.getElem?_set_ne ej] at r ⊢
      exact (st.slot j s r).out e hn
  · by_cases ej : i = j
    · by_cases el : i = l
      · exact hjl (ej.symm.trans el)
      · rw [List.getElem?_set_ne el] at h2 e2
        subst ej
        have hi : i < σ.length := by
          have := (List.getElem?_eq_some_iff.mp e1).1
          simpa using this
        rw [List.getElem?_set_self hi] at e1
        cases e1
        exact nq l u' h2 m2 e2
    · rw [List.getElem?_set_ne ej] at h1 e1
      by_cases el : i = l
      · subst el
        have hi : i < σ.length := by
          have := (List.getElem?_eq_some_iff.mp e2).1
          simpa using this
        rw [List.getElem?_set_self hi] at e2
        cases e2
        exact nq j s' h1 m1 e1
      · rw [List.getElem?_set_ne el] at h2 e2
        exact st.apart j l s' u' q' hjl h1 h2 m1 m2 e1 e2
theorem own_turnG {o : HO} (st : StAt F O H σ δ) (tm : Tm O H τ) (hi : δ[i]? = some s) (hm : s.mine = true) (hv : σ[i]? = some (some (.ref q))) (ht : ∀ ps, o ≠ .tbl ps) (tt : Tabs F.T (upd H q o)) (hs : O q → ¬ Lives F.Hin q → SlotOk F O (upd H q o) (some (.ref q)) s') (hl1 : s.lone = true := by rfl) (hl2 : s'.lone = true := by rfl) :
    StAt F O (upd H q o) σ (δ.set i s') ∧ Tm O (upd H q o) τ := by
  have hh : ∀ {s : Slot} p, s.lone = true → (s.has (some (.ref q)) p ↔ p = q) := fun {s} p hl => by
    cases s with
    | own _ => exact ⟨fun z => by cases (show some (V.ref q) = some (V.ref p) from z); rfl, fun z => by rw [z]; rfl⟩
    | odk _ => exact ⟨fun z => by cases (show some (V.ref q) = some (V.ref p) from z); rfl, fun z => by rw [z]; rfl⟩
    | _ => cases hl
  obtain ⟨p, e1, o1, nl⟩ := own_at st hi hl1
  rw [hv] at e1
  cases e1
  have kp : ∀ d v, Dt O H d v → Dt O (upd H q o) d v := fun d v g => g.turn o1
  have kpA : ∀ d v, DtAll O H d v → DtAll O (upd H q o) d v := fun d v g => g.turn o1
  have hil : i < δ.length := (List.getElem?_eq_some_iff.mp hi).1
  have mineset : ∀ {j : Nat} {u : Slot}, (δ.set i s')[j]? = some u → u.mine = true → ∃ u', δ[j]? = some u' ∧ u'.mine = true := fun {j u} a m => by
    by_cases e : i = j
    · subst e
      exact ⟨_, hi, hm⟩
    · rw [List.getElem?_set_ne e] at a
      exact ⟨u, a, m⟩
  refine ⟨⟨by rw [List.length_set, st.len], st.o0, fun a z => (st.dom a z).turn ht, tt, fun b u g t => ?_, fun j s r => ?_, fun j l s' u' q' hjl h1 h2 m1 m2 => ?_, st.afar.turn st.len i _ (fun R z => by rw [z] at hl2; cases hl2) fun j R hji hj p hp z => ?_⟩, fun w hw => kp _ _ (tm w hw)⟩
  rotate_right
  · rw [hv] at z
    exact st.afar j i R _ hji hj hi p hp (by rw [hv]; exact (hh p hl1).mpr ((hh p hl2).mp z))
  · rw [upd_ne (fun z => nl (by rw [← z]; exact ⟨u, g, t⟩))]
    exact st.ext b u g t
  · by_cases e : i = j
    · subst e
      rw [List.getElem?_set_self hil] at r
      cases r
      rw [hv]
      exact hs o1 nl
    · rw [List.getElem?_set_ne e] at r
      have g := st.slot j s r
      cases s with
      | non => trivial
      | dat d => obtain ⟨v, a, b⟩ := g; exact ⟨v, a, kp _ _ b⟩
      | own ds' =>
        obtain ⟨p, vs', a, b, c, g, r'⟩ := g
        have ne : p ≠ q := fun z => st.apart i j _ _ q e hi r hm rfl hv (by rw [← z]; exact get_some a)
        exact ⟨p, vs', a, b, c, by rw [upd_ne ne]; exact g, kpA _ _ r'⟩
      | odk kvs =>
        obtain ⟨p, vs', a, b, c, g, r'⟩ := g
        have ne : p ≠ q := fun z => st.apart i j _ _ q e hi r hm rfl hv (by rw [← z]; exact get_some a)
        exact ⟨p, vs', a, b, c, by rw [upd_ne ne]; exact g, r'.imp kpA⟩
      | res R => exact res_keep g (fun a ha => upd_ne fun z => st.afar j i R _ (fun y => e y.symm) r hi a ha (by rw [hv, z]; exact (hh q hl1).mpr rfl)) (fun a ha => (g.2.2 a ha).1) kp
      | scr ns => exact g
      | any φ => exact g
  · obtain ⟨s1, a1, b1⟩ := mineset h1 m1
    obtain ⟨s2, a2, b2⟩ := mineset h2 m2
    exact st.apart j l s1 s2 q' hjl a1 a2 b1 b2
/-- what is one's own goes to another name -/
theorem own_move {j : Nat} {v : V} (st : StAt F O H σ δ) (hi : δ[i]? = some s) (hv : σ[i]? = some (some v)) (hij : i ≠ j) : StAt F O H (σ.set j (some v)) ((δ.set i .non).set j s) := by
  have hil : i < δ.length := (List.getElem?_eq_some_iff.mp hi).1
  have back : ∀ {l : Nat} {u : Slot} {p : Addr}, ((δ.set i .non).set j s)[l]? = some u → u.mine = true → (σ.set j (some v))[l]? = some (some (.ref p)) → ∃ m, δ[m]? = some u ∧ σ[m]? = some (some (.ref p)) ∧ (m = if l = j then i else l) ∧ l ≠ i := fun {l u p} a m b => by
    by_cases e : j = l
    · subst e
      have hj : j < (δ.set i .non).length := by
        have := (List.getElem?_eq_some_iff.mp a).1
        simpa using this
      rw [List.getElem?_set_self hj] at a
      cases a
      rw [List.getElem?_set_self (by rw [st.len]; simpa using hj)] at b
      cases b
      exact ⟨i, hi, hv, by rw [if_pos rfl], fun z => hij z.symm⟩
    · rw [List.getElem?_set_ne e] at a b
      by_cases e2 : i = l
      · subst e2
        rw [List.getElem?_set_self hil] at a
        cases a
        cases m
      · rw [List.getElem?_set_ne e2] at a
        exact ⟨l, a, b, by rw [if_neg fun z => e z.symm], fun z => e2 z.symm⟩
  refine ⟨by rw [List.length_set, List.length_set, List.length_set, st.len], st.o0, st.dom, st.tabs, st.ext, fun l u r => ?_, fun l m s' u' q' hjl h1 h2 m1 m2 e1 e2 => ?_, ?_⟩
  rotate_right
  · have a1 : Afar σ (δ.set i .non) := st.afar.turn st.len i _ (fun R z => by cases z) fun j R _ _ p _ z => z
    have hsl := st.slot i _ hi
    rw [hv] at hsl
    refine a1.set (by rw [List.length_set, st.len]) j _ _ (fun R eR l u hl hu p hp z => ?_) fun l R hl hR p hp z => ?_
    · by_cases hli : i = l
      · subst hli
        rw [List.getElem?_set_self hil] at hu
        cases hu
        exact z
      · rw [List.getElem?_set_ne hli] at hu
        exact st.afar i l R u hli (by rw [hi, eR]) hu p hp z
    · by_cases hli : i = l
      · subst hli
        rw [List.getElem?_set_self hil] at hR
        cases hR
      · rw [List.getElem?_set_ne hli] at hR
        exact st.afar l i R s (fun y => hli y.symm) hR hi p hp (by rw [hv]; exact z)
  · by_cases e : j = l
    · subst e
      have hj : j < (δ.set i .non).length := by
        have := (List.getElem?_eq_some_iff.mp r).1
        simpa using this
      rw [List.getElem?_set_self hj] at r
      cases r
      rw [List.getElem?_set_self (by rw [st.len]; simpa using hj)]
      have := st.slot i _ hi
      rw [hv] at this
      exact this
    · rw [List.getElem?_set_ne e] at r ⊢
      by_cases e2 : i = l
      · subst e2
        rw [List.getElem?_set_self hil] at r
        cases r
        trivial
      · rw [List.getElem?_set_ne e2] at r
        exact st.slot l u r
  · obtain ⟨a, a1, a2, a3, a4⟩ := back h1 m1 e1
    obtain ⟨b, b1, b2, b3, b4⟩ := back h2 m2 e2
    refine st.apart a b s' u' q' (fun z => hjl ?_) a1 b1 m1 m2 a2 b2
    rw [a3, b3] at z
    split at z <;> split at z
    · rename_i x y; rw [x, y]
    · exact absurd z.symm b4
    · exact absurd z a4
    · exact z
end
section
variable {Kf : PySem.W.Frag} {Tf : List (Addr × Str)} {F : Fx Kf Tf} {δ : List Slot} {X : Cx} {N : List Str} {sc : Scope} {pos apos p px py tpos pos' : Pos} {a b c e o tg it : Expr} {ds es : List PyData} {x y : Str} {rest : List Stmt} {P : Post} {d d1 : PyData} {kvs : List (Key × PyData)} {k : Key} {i j : Nat}
theorem kV_of {O : Addr → Prop} {H : Hp} {v : V} (h : Dt O H (keyD k) v) : v = kV k := by
  cases k with
  | inl i => exact h
  | inr s => exact h
theorem dk_slot {O : Addr → Prop} {H : Hp} {σ : L2.St} (st : StAt F O H σ δ) (hi : δ[i]? = some (.odk kvs)) : ∃ q vs, σ[i]? = some (some (.ref q)) ∧ H q = some (.dK vs) ∧ KvAll O H kvs vs := by
  obtain ⟨q, vs, e1, o1, nl, gq, r⟩ := st.slot i _ hi
  exact ⟨q, vs, get_some e1, gq, r⟩
/-- d[k] -/
theorem x_dget (i : Nat) (cx : Ctx X N sc) (hu : X.A.units + 1 < cLine) (hi : δ[i]? = some (.odk kvs)) (hk : PE X b (tD F δ d1)) (hkk : d1 = keyD k) (hv : getK kvs k = some d) (hN : N[i]? = some x := by rfl) (hvis : Vis sc x := by first | exact Or.inl rfl | exact Or.inr (Or.inl rfl) | exact Or.inr (Or.inr rfl)) (hd : (x == ("__debug__" : Str)) = false := by decide)
    (hcd : (x == ("__classdict__" : Str)) = false := by decide) (hs : NoSl b := by exact fun _ _ => rfl) : PE X (.Subscript (.Name x px) b pos) (tD F δ d) :=
  wkE (pe_dget hu (pe_var (i := i) (cx.at_ hN) (cx.vis hvis) hd hcd) hk hs) fun σ H Q h => by
    obtain ⟨O, st, w⟩ := h
    obtain ⟨q, vs, e1, gq, r⟩ := dk_slot st hi
    refine ⟨.ref q, e1, O, st, fun y H1 e' t' g' => ?_⟩
    obtain ⟨q2, vs2, e2, gq2, r2⟩ := dk_slot (st.grow e' t') hi
    rw [e1] at e2
    cases e2
    obtain ⟨z, z1, z2⟩ := (kv_get r2).1 d hv
    subst hkk
    rw [kV_of g']
    refine ⟨q, z, rfl, ?_, w z H1 e' t' z2⟩
    have := DGet.k (k := k) gq2
    rw [z1] at this
    exact this
theorem dget_of {O : Addr → Prop} {H : Hp} {vs : List (Key × V)} {q : Addr} (gq : H q = some (.dK vs)) (r : KvAll O H kvs vs) : ∃ ov, DGet H q (kV k) ov ∧ ov.isSome = (getK kvs k).isSome := by
  refine ⟨_, DGet.k gq, ?_⟩
  cases e : getK kvs k with
  | none => rw [(kv_get r).2 e]; rfl
  | some d => obtain ⟨z, z1, _⟩ := (kv_get r).1 d e; rw [z1]; rfl
/-- k in d -/
theorem c_din (i : Nat) (cx : Ctx X N sc) (hu : X.A.units + 1 < cLine) (hi : δ[i]? = some (.odk kvs)) (hk : PE X b (tD F δ d1)) (hkk : d1 = keyD k) (hN : N[i]? = some x := by rfl) (hvis : Vis sc x := by first | exact Or.inl rfl | exact Or.inr (Or.inl rfl) | exact Or.inr (Or.inr rfl)) (hd : (x == ("__debug__" : Str)) = false := by decide)
    (hcd : (x == ("__classdict__" : Str)) = false := by decide) (hm : behindInMarks .In (.Name x px) = false := by rfl) : PT X (.Compare b [.In] [.Name x px] pos) (cD F δ (getK kvs k).isSome) :=
  wkT (pt_cmp (pc_din hu hk (pe_var (i := i) (cx.at_ hN) (cx.vis hvis) hd hcd)) hm) fun σ H Q h => by
    obtain ⟨O, st, w⟩ := h
    refine ⟨O, st, fun y H1 e' t' g' => ?_⟩
    obtain ⟨q, vs, e1, gq, r⟩ := dk_slot (st.grow e' t') hi
    subst hkk
    rw [kV_of g']
    obtain ⟨ov, g1, g2⟩ := dget_of (k := k) gq r
    exact ⟨.ref q, e1, q, ov, rfl, g1, _, rfl, by rw [g2]; exact w H1 e' t'⟩
/-- x = {} -/
theorem s_dnew (i : Nat) (cx : CtD X N sc F.E) (g : PSs X rest (sD F (δ.set i (.odk [])) P)) (hi : N[i]? = some x := by rfl) (hx : Loc sc x := by first | exact Or.inl rfl | exact Or.inr rfl)
    (hs : swapsWith (.Dict [] [] p) (some (.Name x pos')) pos.line X.env = pure false := by rfl) : PSs X (.Assign [.Name x pos'] (.Dict [] [] p) pos :: rest) (sD F δ P) :=
  wkSs (pss_cons (ps_set (cx.nd') (cx.at_ hi) (cx.loc hx) pe_dnewK hs (.inl (cx.fn x))) g) fun D σ H h' => by
    obtain ⟨O, τ, s0, tm, w⟩ := h'
    intro q hq
    obtain ⟨s1, t1⟩ := own_outG (s := .odk []) s0 tm i (ext_new (o := .dK []) hq) (tabs_new s0.tabs hq) (fun a l => l.ne hq) ⟨_, upd_same, fun _ z => by cases z⟩ fun nl => ⟨q, [], rfl, .inr rfl, nl, upd_same, kv_nil⟩
    exact ⟨Shut O q, τ, s1, t1, w⟩
/-- d[k] = v -/
theorem s_dput (i : Nat) (cx : CtD X N sc F.E) (hu : X.A.units + 1 < cLine) (hi : δ[i]? = some (.odk kvs)) (h : PE X e (tD F δ d)) (hn : PE X b (tD F δ d1)) (hkk : d1 = keyD k) (hz : kvs.length < 100000) (g : PSs X rest (sD F (δ.set i (.odk (putD kvs k d))) P)) (hN : N[i]? = some x := by rfl) (hv : Vis sc x := by first | exact Or.inl rfl | exact Or.inr (Or.inl rfl) | exact Or.inr (Or.inr rfl))
    (hd : (x == ("__debug__" : Str)) = false := by decide) (hcd : (x == ("__classdict__" : Str)) = false := by decide) (hs : swapsWithSole [.Subscript (.Name x px) b tpos] e pos.line X.env = pure false := by rfl) (hw : swappedStores [.Subscript (.Name x px) b tpos] e (envS sc) = pure none := by rfl) (h1 : (assignEach [.Subscript (.Name x px) b tpos] X.env).map (·.2) = [assign (.Subscript (.Name x px) b tpos) X.env] := by rfl)
    (ha : ∀ v, assign (.Subscript (.Name x px) b tpos) X.env v = (do
      let ov ← holding [v] (eval (.Name x px) X.env)
      let iv ← holding [v, ov] (eval b X.env)
      standAt tpos
      holding [v, ov, iv] (setItem ov iv v)
      release [v, ov, iv] []) := by intro _; rfl) :
    PSs X (.Assign [.Subscript (.Name x px) b tpos] e pos :: rest) (sD F δ P) :=
  wkSs (pss_cons (ps_asg h (pg_sub (pe_var (i := i) (cx.at_ hN) (cx.vis hv) hd hcd) hn (set_dict hu) ha) hs (sw_eq cx.toCtx hw) h1) g) fun D σ H h' => by
    obtain ⟨O, τ, s0, tm, w⟩ := h'
    obtain ⟨q, vs, e1, gq, r⟩ := dk_slot s0 hi
    refine ⟨O, s0, fun v H1 ex1 t1 g1 => ⟨.ref q, e1, O, s0.grow ex1 t1, fun y H2 ex2 t2 g2 => ?_⟩⟩
    obtain ⟨q2, vs2, e2, gq2, r2⟩ := dk_slot ((s0.grow ex1 t1).grow ex2 t2) hi
    rw [e1] at e2
    cases e2
    subst hkk
    rw [kV_of g2]
    have ho : O q := by
      obtain ⟨p, e3, o1, _⟩ := own_at s0 hi rfl
      rw [e1] at e3
      cases e3
      exact o1
    obtain ⟨s1, tm1⟩ := own_turnG (s' := .odk (putD kvs k d)) ((s0.grow ex1 t1).grow ex2 t2) ((tm.grow ex1).grow ex2) hi rfl e1 (fun _ z => by cases z) (tabs_turnK t2 gq2) fun o1 nl => ⟨q, putK vs2 k v, rfl, o1, nl, upd_same, (kv_put r2 (g1.grow ex2)).imp fun _ _ z => z.turn ho⟩
    exact ⟨q, _, rfl, DPut.k gq2 (by rw [kv_len r2]; exact Nat.lt_of_lt_of_le hz (by decide)), O, τ, s1, tm1, w⟩
/-- y = x, and x is let go -/
theorem s_move (i j : Nat) {s : Slot} (cx : CtD X N sc F.E) (hi : δ[i]? = some s) (hm : s.lone = true) (g : PSs X rest (sD F ((δ.set i .non).set j s) P)) (hij : i ≠ j := by decide) (hN : N[i]? = some x := by rfl) (hv : Vis sc x := by first | exact Or.inl rfl | exact Or.inr (Or.inl rfl) | exact Or.inr (Or.inr rfl))
    (hd : (x == ("__debug__" : Str)) = false := by decide) (hcd : (x == ("__classdict__" : Str)) = false := by decide) (hj : N[j]? = some y := by rfl) (hy : Loc sc y := by first | exact Or.inl rfl | exact Or.inr rfl)
    (hs : swapsWith (.Name x px) (some (.Name y pos')) pos.line X.env = pure false := by rfl) : PSs X (.Assign [.Name y pos'] (.Name x px) pos :: rest) (sD F δ P) :=
  wkSs (pss_cons (ps_set (cx.nd') (cx.at_ hj) (cx.loc hy) (pe_var (i := i) (cx.at_ hN) (cx.vis hv) hd hcd) hs (.inl (cx.fn y))) g) fun D σ H h' => by
    obtain ⟨O, τ, s0, tm, w⟩ := h'
    obtain ⟨q, e1, _, _⟩ := own_at s0 hi hm
    exact ⟨.ref q, e1, O, τ, own_move s0 hi e1 hij, tm, w⟩
end
def rSortK : List V → Hp → VK → Prop := fun vs H Q => ∃ (a : Addr) (kvs : List (Key × V)), vs = [V.ref a] ∧ H a = some (.dK kvs) ∧ PySem.W.AllAlike (kvs.map fun q => keyD q.1) ∧ PySem.W.Sortable (kvs.map fun q => keyD q.1) ∧
  ∀ (ys : List V) (p : Addr), DtAll (fun _ => False) H (sortD (kvs.map fun q => keyD q.1)) ys → H p = none → Q (.ref p) (upd H p (.lst ys))
theorem key_rel {k : Key} {v : Value} (h : keyIs k v = true) : RelV (kV k) v := by
  rcases keyIs_shape h with ⟨i, t, ek, ev⟩ | ⟨z, t, ek, ev⟩
  · subst ek; exact ⟨t, ev⟩
  · subst ek; exact ⟨t, ev⟩
theorem key_dt {O : Addr → Prop} {H : Hp} {k : Key} : Dt O H (keyD k) (kV k) := by
  cases k with
  | inl i => rfl
  | inr s => rfl
theorem each_of {R : Value → PyData → Prop} : ∀ {us : List Value} {ds : List PyData}, us.length = ds.length → (∀ (j : Nat) (u : Value) (d : PyData), us[j]? = some u → ds[j]? = some d → R u d) → PySem.W.EachIs R us ds
  | [], [], _, _ => .nil
  | [], _ :: _, e, _ => by simp at e
  | _ :: _, [], e, _ => by simp at e
  | u :: us, d :: ds, e, h => .cons (h 0 u d rfl rfl) (each_of (by simpa using e) fun j u' d' a b => h (j + 1) u' d' (by simpa using a) (by simpa using b))
theorem cr_sortK {X : Cx} (hcalm : X.calm = true) (hu : X.A.units + 65 < cLine) : CallR X (.builtin "sorted") rSortK := by
  intro pins s σ H xs us Q I r q
  obtain ⟨a, kvs, rfl, hd, al, so, q⟩ := q
  obtain ⟨u, eu, rx⟩ := vals1 r
  subst eu
  cases rx
  obtain ⟨z, lo, vs, rel, dd⟩ := dk_rd I.hok (.inl hd)
  obtain ⟨ep, hat⟩ := dd.dictAt
  have hkeys : vs.map (·.1) = kvs.map (·.1) := rel.keys.symm
  have hl : vs.length = kvs.length := by
    have e := congrArg List.length hkeys
    rw [List.length_map, List.length_map] at e
    exact e
  have h16 : vs.length ≤ sizeLine := by rw [hl]; exact z
  refine Calls.call_function_entry PyProof.Rows.kind_sorted PyProof.Rows.plain_sorted PyProof.Rows.entry_sorted (PyProof.Rows.args_sorted1 _) ?_
  unfold Builtin.«sorted»
  refine wpAny_bind (m := checkCount "sorted" 1 1 _) (wpAny_pure ?_)
  refine wpAny_bind (PySem.W.kdu_collect (A := X.A.in1) (PySem.W.kdl_dict (knd := mixKind X.prog X.w) (kvs := vs) (ep := ep) lo) (I.ok.hd hcalm) hat h16 fun h' tk acc hk hacc => ?_)
  have hal : acc.toList.length = kvs.length := by rw [Array.length_toList, hacc.1, hl]
  have hS : ∀ (j : Nat) (v : Value) (d : PyData), acc.toList[j]? = some v → (kvs.map fun q => keyD q.1)[j]? = some d → ∃ x, RelV x v ∧ Dt (fun _ => False) H d x := fun j v d e ed => by
    obtain ⟨k, x, e1, e2⟩ := hacc.2 j v (by rw [← Array.getElem?_toList]; exact e)
    have e3 : (vs.map (·.1))[j]? = some k := by rw [List.getElem?_map, e1]; rfl
    rw [hkeys, List.getElem?_map] at e3
    rw [List.getElem?_map] at ed
    cases e4 : kvs[j]? with
    | none => rw [e4] at e3; cases e3
    | some y =>
      rw [e4] at e3 ed
      cases e3
      cases ed
      exact ⟨kV y.1, key_rel e2, key_dt⟩
  have I1 : Inv X pins σ H { s with heap := h', toks := tk } := I.kept hk
  have hlenK : (kvs.map fun q => keyD q.1).length = acc.toList.length := by rw [List.length_map, hal]
  refine wpAny_bind (wpAny_newList ?_ (by rw [hal]; exact z))
  have hoL : (h'.push (seqObj "list" acc.toList.toArray 0)).get? h'.objs.size = some (seqObj "list" acc.toList.toArray 0) := Heap.get?_push_size _ rfl
  show wpAny _ _ _ _ _ { s with heap := h'.push (seqObj "list" acc.toList.toArray 0), toks := tk }
  have flatR : ∀ (hh : Heap) (v : Value) (d : PyData) (k : Key) (x : V), d = keyD k → RelV x v → Dt (fun _ => False) H d x → ∃ as, Reads hh v d as ∧ h'.objs.size ∉ as := fun hh v d k x ed rx dx => by
    subst ed
    rw [kV_of dx] at rx
    cases k with
    | inl i => obtain ⟨t, rfl⟩ := rx; exact ⟨[], .int _ _, by simp⟩
    | inr i => obtain ⟨t, rfl⟩ := rx; exact ⟨[], .str _ _, by simp⟩
  refine wpAny_bind (wpAny_holding (PySem.W.list_sort_data (enc := fun d => d) (R := fun u d => ∃ x, RelV x u ∧ Dt (fun _ => False) H d x) hoL (each_of hlenK.symm hS) (each_of hlenK.symm fun j v d e1 e2 => ?_) (by rw [List.map_id']; exact al) (by rw [List.map_id']; exact so) (by rw [hlenK, hal]; exact z) (fun d hb => ?_) fun out ho eo => ?_))
  · obtain ⟨x, rx, dx⟩ := hS j v d e1 e2
    obtain ⟨y, _, ey⟩ := List.mem_map.mp (List.mem_of_getElem? e2)
    exact flatR _ v d y.1 x ey.symm rx dx
  · obtain ⟨y, _, ey⟩ := List.mem_map.mp hb
    have : d.depth = 0 := by rw [← ey]; cases y.1 <;> rfl
    rw [this]
    have e : X.A.in1.units ≤ X.A.units + 1 := by show X.A.units + 1 ≤ _; omega
    omega
  · obtain ⟨ys, r1, d1⟩ := of_each eo
    obtain ⟨e', he'⟩ := PyProof.Rows.sortedHeap_at (vs := acc.toList) (out := out.toArray) hoL
    have hlen : ys.length ≤ sizeLine := by
      rw [r1.length, ho, hlenK, hal]
      exact z
    refine wpAny_pure ⟨_, rfl, .ref h'.objs.size, upd H h'.objs.size (.lst ys), I1.laid (t' := tk) (fun b u e => ?_) (Nat.le_refl _)
      (show ObjOk X.prog X.w _ _ _ (.lst ys) from ⟨hlen, out, e', r1, he'⟩), rfl, q ys _ d1 (I1.hok.fresh (Nat.le_refl _))⟩
    have hb : b < h'.objs.size := Heap.lt_size e
    rw [PyProof.Rows.sortedHeap_old (Nat.ne_of_lt hb) (by rw [size_push']; exact Nat.lt_succ_of_lt hb)]
    exact Heap.get?_push_of_some _ e
section
variable {Kf : PySem.W.Frag} {Tf : List (Addr × Str)} {F : Fx Kf Tf} {δ : List Slot} {X : Cx} {N : List Str} {sc : Scope} {pos p px : Pos} {x : Str} {kvs : List (Key × PyData)}
theorem x_sortK (i : Nat) (cx : Ctx X N sc) (hm : X.mg "sorted" = none) (hu : X.A.units + 65 < cLine) (hi : δ[i]? = some (.odk kvs)) (al : PySem.W.AllAlike (kvs.map fun q => keyD q.1)) (so : PySem.W.Sortable (kvs.map fun q => keyD q.1)) (hN : N[i]? = some x := by rfl) (hv : Vis sc x := by first | exact Or.inl rfl | exact Or.inr (Or.inl rfl) | exact Or.inr (Or.inr rfl))
    (hd : (x == ("__debug__" : Str)) = false := by decide) (hcd : (x == ("__classdict__" : Str)) = false := by decide) (hg : sc.names.lookup ("sorted" : Str) = some .globalImplicit := by rfl) (hs : starEach [.Name x px] X.env = [(false, eval (.Name x px) X.env)] := by rfl) :
    PE X (.Call (.Name "sorted" p) [.Name x px] [] pos) (tD F δ (.list (sortD (kvs.map fun q => keyD q.1)))) :=
  wkE (pe_callB (cr_sortK cx.calm hu) (cx.gl hg) hm (by decide +kernel) (pa_cons (pe_var (i := i) (cx.at_ hN) (cx.vis hv) hd hcd) pa_nil hs) (by decide) (by decide) hs) fun σ H Q h => by
    obtain ⟨O, st, k⟩ := h
    obtain ⟨q, vs, e1, gq, r⟩ := dk_slot st hi
    have ek : (vs.map fun q => keyD q.1) = kvs.map fun q => keyD q.1 := by
      have := congrArg (List.map keyD) r.1
      rwa [List.map_map, List.map_map] at this
    refine ⟨.ref q, e1, q, vs, rfl, gq, by rw [ek]; exact al, by rw [ek]; exact so, fun ys p hy hp => ?_⟩
    refine k _ _ (ext_new hp) (tabs_new st.tabs hp) ⟨p, ys, rfl, fresh_ok st.dom hp, upd_same, ?_⟩
    rw [ek] at hy
    refine DtAll.of hy.len fun i d v a b => ?_
    have hdv := hy.at_ a b
    have hm : d ∈ kvs.map fun q => keyD q.1 := (List.mergeSort_perm _ _).mem_iff.mp (List.mem_of_getElem? a)
    obtain ⟨y, _, rfl⟩ := List.mem_map.mp hm
    exact hdv.flat (by cases y.1 <;> rfl)
end
end Lf
set_option Elab.async false
set_option linter.all false
set_option maxRecDepth 100000
set_option maxHeartbeats 4000000
namespace Lf
open PySem PySem.Spec PyProof.Rows L2 LamX
def isCnt (d : PyData) (lo hi : Int) : Bool :=
  match d with
  | .int i => decide (lo ≤ i) && decide (i ≤ hi)
  | _ => false
def R_is_count (ds : List PyData) (r : Res) : Prop := ∃ d lo hi, ds = [d, .int lo, .int hi] ∧ isP d = false ∧ r = .ok (.bool (isCnt d lo hi))
def lsOf : PyData → List PyData
  | .list ds => ds
  | .dict _ => List.replicate 10001 .none
  | _ => []
def intOf : PyData → Int
  | .int i => i
  | _ => 0
theorem cut_init {α : Type} (l : List α) : cutL l none (some (-1)) = l.dropLast := by
  unfold cutL HT.sIx
  cases l with
  | nil => rfl
  | cons a l => simp [List.dropLast_eq_take]; try omega
def inI (ps : List Nat) (i : Int) : Bool := (ps.map natI).any fun z => PyData.eqv z (.int i)
def ahd (ps : List Nat) (i : Nat) : List Nat := if (inI ps (i : Int) && !inI ps ((i : Int) - 1)) = true then [91] else []
def bhd (ps : List Nat) (i : Nat) : List Nat := if (inI ps (i : Int) && !inI ps ((i : Int) + 1)) = true then [93] else []
def shAt (ps : List Nat) (x : Nat × Nat) : List Nat := ahd ps x.1 ++ [x.2] ++ bhd ps x.1
def shL (ps : List Nat) (xs : List (Nat × Nat)) : List Nat := xs.flatMap (shAt ps)
def shownL (n ps : List Nat) : List Nat := shL ps (enumT n)
def R_shown_text (ds : List PyData) (r : Res) : Prop := ∃ n ps, ds = [tx n, .list (ps.map natI)] ∧ n.length ≤ 10000 ∧ r = .ok (tx (shownL n ps))
theorem sh_len (ps : List Nat) : ∀ xs : List (Nat × Nat), (shL ps xs).length ≤ 3 * xs.length
  | [] => Nat.le_refl _
  | x :: xs => by
    have ih := sh_len ps xs
    unfold shL at ih ⊢
    rw [List.flatMap_cons, List.length_append, List.length_cons]
    have : (shAt ps x).length ≤ 3 := by
      unfold shAt ahd bhd
      repeat' split
      all_goals simp
    omega
theorem sh_snoc (ps : List Nat) (xs : List (Nat × Nat)) (x : Nat × Nat) : shL ps (xs ++ [x]) = shL ps xs ++ ahd ps x.1 ++ [x.2] ++ bhd ps x.1 := by
  unfold shL
  rw [List.flatMap_append, List.flatMap_cons, List.flatMap_nil, List.append_nil]
  unfold shAt
  simp only [List.append_assoc]
theorem snocRec {α : Type} {P : List α → Prop} (h0 : P []) (hs : ∀ l a, P l → P (l ++ [a])) (l : List α) : P l := by
  have : ∀ m : List α, P m.reverse := fun m => by
    induction m with
    | nil => exact h0
    | cons a m ih => rw [List.reverse_cons]; exact hs _ _ ih
  have h := this l.reverse
  rw [List.reverse_reverse] at h
  exact h
end Lf
namespace Lf
open PySem PySem.Spec PyProof.Rows L2 LamX
end Lf
set_option Elab.async false
set_option linter.all false
set_option maxRecDepth 100000
set_option maxHeartbeats 4000000
namespace Lf
open PySem PySem.Spec PyProof.Rows L2 LamX
section
variable {Kf : PySem.W.Frag} {Tf : List (Addr × Str)} {F : Fx Kf Tf}
theorem od_repSz {l : List Nat} {i : Int} (hn : 0 ≤ i) (hn2 : i ≤ 100000) (hz : l.length * i.toNat ≤ 100000) : OpD F rMulS (tx l) (.int i) (tx (List.replicate i.toNat l).flatten) := by
  by_cases h : 1 ≤ i
  · exact od_repSi h hn2 hz
  · have e : i = 0 := by omega
    subst e
    exact fun O H x y Q _ w hx hy k => ⟨_, _, hx, hy, ⟨by decide, fun z => absurd (by decide) z, fun z => absurd (by decide) z⟩, k _ H (ExtN.refl H) w rfl⟩
end
def bk2 (b : Bool) : Nat := if b then 93 else 91
def lsStep (ps : List Nat) (s : List Nat × Bool) (x : Nat × Nat) : List Nat × Bool := if (!decide (inI ps (x.1 : Int) = s.2)) = true then (s.1 ++ [bk2 s.2] ++ [x.2], !s.2) else (s.1 ++ [x.2], s.2)
def lsF (ps : List Nat) (xs : List (Nat × Nat)) : List Nat × Bool := xs.foldl (lsStep ps) ([], false)
theorem lsF_snoc (ps : List Nat) (xs : List (Nat × Nat)) (x : Nat × Nat) : lsF ps (xs ++ [x]) = lsStep ps (lsF ps xs) x := by
  unfold lsF
  rw [List.foldl_append]
  rfl
theorem lsF_len (ps : List Nat) (xs : List (Nat × Nat)) : (lsF ps xs).1.length ≤ 2 * xs.length := by
  induction xs using snocRec with
  | h0 => exact Nat.le_refl _
  | hs q c ih =>
    rw [lsF_snoc, List.length_append, List.length_singleton]
    unfold lsStep
    split <;> (simp; omega)
def lawSh (n ps : List Nat) : List Nat := (lsF ps (enumT n)).1 ++ (List.replicate (if (lsF ps (enumT n)).2 then (1 : Int) else 0).toNat [93]).flatten
def R_law_shown (ds : List PyData) (r : Res) : Prop := ∃ n ps, ds = [tx n, .list (ps.map natI)] ∧ n.length ≤ 10000 ∧ r = .ok (tx (lawSh n ps))
theorem bk_at (b : Bool) : atI [91, 93] (if b then (1 : Int) else 0) = some (bk2 b) := by cases b <;> rfl
def stB (b : Bool) (c : Nat) : Option Bool := if c = 91 then (if b then none else some true) else if c = 93 then (if b then some false else none) else some b
def brk (pre : List Nat) : Option Bool := pre.foldl (fun o c => o.bind fun b => stB b c) (some false)
theorem any_nat (ps : List Nat) (i : Nat) : inI ps (i : Int) = decide (i ∈ ps) := by
  unfold inI
  rw [List.any_map]
  induction ps with
  | nil => rfl
  | cons p ps ih =>
    rw [List.any_cons, ih]
    by_cases e : p = i
    · subst e; simp [natI, PyData.eqv, Function.comp]
    · have : ¬ i = p := fun z => e z.symm
      have e2 : ¬ (p : Int) = (i : Int) := by omega
      simp [natI, PyData.eqv, Function.comp, this, e2]
theorem any_neg (ps : List Nat) : inI ps (-1) = false := by
  unfold inI
  rw [List.any_map]
  induction ps with
  | nil => rfl
  | cons p ps ih =>
    rw [List.any_cons, ih]
    have e2 : ¬ (p : Int) = -1 := by omega
    simp [natI, PyData.eqv, Function.comp, e2]
def En (n : List Nat) (m : Nat) : List (Nat × Nat) := (List.range m).map fun i => (i, n.getD i 0)
theorem En_succ (n : List Nat) (m : Nat) : En n (m + 1) = En n m ++ [(m, n.getD m 0)] := by
  unfold En
  rw [List.range_succ, List.map_append]
  rfl
theorem ls_sh (n ps : List Nat) : ∀ m, (lsF ps (En n m)).2 = inI ps ((m : Int) - 1) ∧ shL ps (En n m) = (lsF ps (En n m)).1 ++ (if (inI ps ((m : Int) - 1) && !inI ps (m : Int)) = true then [93] else [])
  | 0 => by
    refine ⟨(any_neg ps).symm, ?_⟩
    show [] = [] ++ (if (inI ps (0 - 1) && !inI ps _) = true then [93] else [])
    rw [show (0 - 1 : Int) = -1 from rfl, any_neg]
    rfl
  | m + 1 => by
    obtain ⟨h1, h2⟩ := ls_sh n ps m
    rw [En_succ, lsF_snoc, sh_snoc, h2]
    have e1 : (((m + 1 : Nat) : Int) - 1) = (m : Int) := by omega
    have e2 : (((m + 1 : Nat) : Int)) = (m : Int) + 1 := by omega
    rw [e1, e2]
    unfold lsStep ahd bhd
    simp only
    rw [h1]
    cases inI ps (m : Int) <;> cases inI ps ((m : Int) - 1) <;> cases inI ps ((m : Int) + 1) <;> simp [bk2]
theorem lawSh_eq {n ps : List Nat} (h : ∀ i ∈ ps, i < n.length) : lawSh n ps = shownL n ps := by
  obtain ⟨h1, h2⟩ := ls_sh n ps n.length
  unfold lawSh shownL
  show (lsF ps (En n n.length)).1 ++ (List.replicate (if (lsF ps (En n n.length)).2 then (1 : Int) else 0).toNat [93]).flatten = shL ps (En n n.length)
  rw [h2, h1]
  have : inI ps (n.length : Int) = false := by
    rw [any_nat]
    exact decide_eq_false fun z => Nat.lt_irrefl _ (h _ z)
  rw [this]
  cases inI ps ((n.length : Int) - 1) <;> rfl
theorem law_low {n ps : List Nat} (h : ∀ c ∈ n, c < 128) : ∀ c ∈ lawSh n ps, c < 128 := by
  have k : ∀ xs : List (Nat × Nat), (∀ x ∈ xs, x.2 < 128) → ∀ c ∈ (lsF ps xs).1, c < 128 := fun xs => by
    induction xs using snocRec with
    | h0 => intro _ c hc; cases hc
    | hs q x ih =>
      intro hq c hc
      have ih := ih fun y hy => hq y (List.mem_append_left _ hy)
      have hx := hq x (List.mem_append_right _ List.mem_cons_self)
      rw [lsF_snoc] at hc
      unfold lsStep at hc
      split at hc
      · rcases List.mem_append.mp hc with z | z
        · rcases List.mem_append.mp z with z | z
          · exact ih c z
          · rw [List.mem_singleton.mp z]; unfold bk2; split <;> decide
        · rw [List.mem_singleton.mp z]; exact hx
      · rcases List.mem_append.mp hc with z | z
        · exact ih c z
        · rw [List.mem_singleton.mp z]; exact hx
  intro c hc
  unfold lawSh at hc
  rcases List.mem_append.mp hc with z | z
  · refine k (enumT n) (fun x hx => ?_) c z
    obtain ⟨i, hi, rfl⟩ := List.mem_map.mp hx
    have hi : i < n.length := by simpa using hi
    refine h _ ?_
    show n.getD i 0 ∈ n
    rw [List.getD_eq_getElem?_getD, List.getElem?_eq_getElem hi]
    exact List.getElem_mem hi
  · revert z
    cases (lsF ps (enumT n)).2
    · intro z; cases z
    · intro z
      have : c ∈ [93] := z
      rw [List.mem_singleton.mp this]; decide
end Lf
set_option Elab.async false
set_option linter.all false
set_option maxRecDepth 100000
set_option maxHeartbeats 4000000
namespace Lf
open PySem PySem.Spec PyProof.Rows L2 LamX
section
variable {α : Type} {kvs : List (Key × α)} {k j : Key} {d : α}
theorem getK_nil : getK ([] : List (Key × α)) k = none := rfl
theorem getK_cons {q : Key × α} : getK (q :: kvs) k = if q.1 = k then some q.2 else getK kvs k := by
  by_cases e : q.1 = k
  · simp [getK, List.find?_cons, e]
  · simp [getK, List.find?_cons, e]
theorem getK_app (l m : List (Key × α)) : getK (l ++ m) k = (getK l k).or (getK m k) := by
  induction l with
  | nil => rfl
  | cons q l ih =>
    rw [List.cons_append, getK_cons, getK_cons, ih]
    split <;> rfl
theorem getK_any : (kvs.any fun q => decide (q.1 = k)) = (getK kvs k).isSome := by
  induction kvs with
  | nil => rfl
  | cons q l ih =>
    rw [List.any_cons, getK_cons, ih]
    by_cases e : q.1 = k
    · simp [e]
    · simp [e]
theorem getK_mem : getK kvs k ≠ none ↔ k ∈ kvs.map (·.1) := by
  have h := getK_any (kvs := kvs) (k := k)
  constructor
  · intro hn
    have : (kvs.any fun q => decide (q.1 = k)) = true := by
      rw [h]
      exact Option.isSome_iff_ne_none.mpr hn
    obtain ⟨q, hq, e⟩ := List.any_eq_true.mp this
    exact List.mem_map.mpr ⟨q, hq, of_decide_eq_true e⟩
  · intro hm
    obtain ⟨q, hq, e⟩ := List.mem_map.mp hm
    have : (kvs.any fun q => decide (q.1 = k)) = true := List.any_eq_true.mpr ⟨q, hq, decide_eq_true e⟩
    rw [h] at this
    exact Option.isSome_iff_ne_none.mp this
end
def allW (A : List Nat) : Nat → List (List Nat)
  | 0 => [[]]
  | k + 1 => (allW A k).flatMap fun w => A.map fun c => w ++ [c]
theorem allW_mem (A : List Nat) : ∀ (k : Nat) (w : List Nat), w ∈ allW A k ↔ w.length = k ∧ ∀ c ∈ w, c ∈ A
  | 0, w => by
    rw [show allW A 0 = [[]] from rfl, List.mem_singleton]
    constructor
    · rintro rfl; exact ⟨rfl, fun c h => by cases h⟩
    · rintro ⟨h, _⟩; exact List.length_eq_zero_iff.mp h
  | k + 1, w => by
    rw [show allW A (k + 1) = (allW A k).flatMap fun w => A.map fun c => w ++ [c] from rfl, List.mem_flatMap]
    constructor
    · rintro ⟨u, hu, hw⟩
      obtain ⟨c, hc, rfl⟩ := List.mem_map.mp hw
      obtain ⟨h1, h2⟩ := (allW_mem A k u).mp hu
      refine ⟨by rw [List.length_append, h1]; rfl, fun x hx => ?_⟩
      rcases List.mem_append.mp hx with z | z
      · exact h2 x z
      · rw [List.mem_singleton.mp z]; exact hc
    · rintro ⟨h1, h2⟩
      have hne : w ≠ [] := fun z => by rw [z] at h1; cases h1
      refine ⟨w.dropLast, (allW_mem A k _).mpr ⟨by rw [List.length_dropLast, h1]; rfl, fun c hc => h2 c ((List.dropLast_subset _) hc)⟩, List.mem_map.mpr ⟨w.getLast hne, h2 _ (List.getLast_mem hne), List.dropLast_concat_getLast hne⟩⟩
theorem allW_len (A : List Nat) : ∀ k, (allW A k).length = A.length ^ k
  | 0 => rfl
  | k + 1 => by
    rw [show allW A (k + 1) = (allW A k).flatMap fun w => A.map fun c => w ++ [c] from rfl, List.length_flatMap]
    simp only [List.length_map]
    rw [List.map_const', List.sum_replicate_nat, allW_len A k, Nat.pow_succ]
/-- figures and small letters, in order -/
def lFS : List Nat := lFig ++ lSmall
def fitB (n a : List Nat) : Bool := (gr a n 0).isSome
def asksOf (n : List Nat) (k : Nat) : List (List Nat) := (allW lFS k).filter (fitB n)
theorem asks_mem (n : List Nat) (k : Nat) (w : List Nat) : w ∈ asksOf n k ↔ w.length = k ∧ (∀ c ∈ w, c ∈ lFS) ∧ gr w n 0 ≠ none := by
  unfold asksOf
  rw [List.mem_filter, allW_mem]
  unfold fitB
  rw [Option.isSome_iff_ne_none, and_assoc]
theorem txs_alike {α : Type} (l : List α) (f : α → List Nat) : PySem.W.AllAlike (l.map fun x => tx (f x)) ∧ PySem.W.Sortable (l.map fun x => tx (f x)) :=
  ⟨PySem.W.AllAlike.of (enc := fun x => tx (f x)) fun _ _ => rfl, PySem.W.Sortable.others (enc := fun x => tx (f x)) fun _ => ⟨(fun z => by cases z), fun _ z => by cases z⟩⟩
def kx (w : List Nat) : Key := .inr ⟨w.toArray⟩
theorem kx_inj {u w : List Nat} : kx u = kx w ↔ u = w := by
  unfold kx
  rw [Sum.inr.injEq, tx_inj]
/-- one behind the last of the first places -/
def gN (w n : List Nat) : Option Nat := (gr w n 0).map nx
def nxS (s : Nat) (r : List Nat) : Nat := match r.getLast? with | none => s | some l => l + 1
theorem nxS0 (r : List Nat) : nxS 0 r = nx r := by
  unfold nxS nx
  cases r with
  | nil => rfl
  | cons a l => simp [List.getLast?_cons, List.getLastD_cons]
theorem pos_end (c : Nat) (n : List Nat) : posL c n n.length = [] := by simp [posL]
theorem gr_snoc (c : Nat) (n : List Nat) : ∀ (m s : Nat) (a : List Nat), n.length - s = m → s ≤ n.length → gr (a ++ [c]) (n.drop s) s = (gr a (n.drop s) s).bind fun r => ((posL c n (nxS s r)).head?).map fun p => r ++ [p]
  | 0, s, a, hm, hs => by
    have e : s = n.length := by omega
    subst e
    rw [List.drop_length]
    cases a with
    | nil => show none = _; rw [show gr [] [] n.length = some [] from rfl]; simp [nxS, pos_end]
    | cons o a => rfl
  | m + 1, s, [], hm, hs => by
    have hlt : s < n.length := by omega
    have ih := gr_snoc c n m (s + 1) [] (by omega) (by omega)
    have e0 : ∀ k, gr [] (n.drop k) k = some [] := fun k => by cases n.drop k <;> rfl
    rw [e0] at ih ⊢
    simp only [Option.bind_some, nxS, List.getLast?_nil, List.nil_append] at ih ⊢
    by_cases hh : hitC c (n.getD s 0) = true
    · rw [gr_hit hlt hh, e0, pos_step hlt, if_pos hh]
      rfl
    · have hh : hitC c (n.getD s 0) = false := by simpa using hh
      rw [gr_miss hlt hh, pos_step hlt, hh]
      exact ih
  | m + 1, s, o :: a, hm, hs => by
    have hlt : s < n.length := by omega
    rw [List.cons_append]
    by_cases hh : hitC o (n.getD s 0) = true
    · rw [gr_hit hlt hh, gr_hit hlt hh, gr_snoc c n m (s + 1) a (by omega) (by omega)]
      cases gr a (n.drop (s + 1)) (s + 1) with
      | none => rfl
      | some r =>
        simp only [Option.bind_some, Option.map_some]
        have : nxS s (s :: r) = nxS (s + 1) r := by
          unfold nxS
          cases r with
          | nil => rfl
          | cons x l => simp [List.getLast?_cons]
        rw [this]
        cases (posL c n (nxS (s + 1) r)).head? <;> rfl
    · have hh : hitC o (n.getD s 0) = false := by simpa using hh
      rw [gr_miss hlt hh, gr_miss hlt hh]
      have := gr_snoc c n m (s + 1) (o :: a) (by omega) (by omega)
      rw [List.cons_append] at this
      rw [this]
      cases e : gr (o :: a) (n.drop (s + 1)) (s + 1) with
      | none => rfl
      | some r =>
        have hl := gr_len _ _ _ _ e
        simp only [Option.bind_some]
        have : nxS s r = nxS (s + 1) r := by
          unfold nxS
          cases r with
          | nil => simp at hl
          | cons x l => simp [List.getLast?_cons]
        rw [this]
theorem gN_snoc (c : Nat) (n a : List Nat) : gN (a ++ [c]) n = (gN a n).bind fun s => ((posL c n s).head?).map (· + 1) := by
  have := gr_snoc c n n.length 0 a (by omega) (by omega)
  rw [List.drop_zero] at this
  unfold gN
  rw [this]
  cases gr a n 0 with
  | none => rfl
  | some r =>
    simp only [Option.bind_some, Option.map_some, nxS0]
    cases (posL c n (nx r)).head? with
    | none => rfl
    | some p => simp [nx_snoc]
theorem gN_nil (n : List Nat) : gN [] n = some 0 := by
  unfold gN
  cases n <;> rfl
theorem gN_le {a n : List Nat} {s : Nat} (h : gN a n = some s) : s ≤ n.length := by
  unfold gN at h
  obtain ⟨r, h1, h2⟩ := Option.map_eq_some_iff.mp h
  have := gr_lt _ _ _ _ h1
  rw [← nxS0] at h2
  unfold nxS at h2
  cases e : r.getLast? with
  | none => rw [e] at h2; simp at h2; omega
  | some l =>
    rw [e] at h2
    have := this l (List.mem_of_getLast? e)
    simp at h2
    omega
def okc (c x : Nat) : Bool := decide (x ∈ alnum) && decide (smallC x = c)
def fpre (n : List Nat) (s c : Nat) (pre : List Nat) : Option Nat := (pre.find? fun i => okc c (n.getD (s + i) 0)).map (s + ·)
def fullP (n a : List Nat) (c : Nat) : Option Nat := (gN a n).bind fun s => fpre n s c (List.range (n.length - s))
theorem okc_hit : ∀ x ∈ alpha, ∀ c ∈ lFS, okc c x = hitC c x := by decide +kernel
theorem full_gN {n : List Nat} (hn : ∀ c ∈ n, c ∈ alpha) {a : List Nat} {c : Nat} (hc : c ∈ lFS) : (fullP n a c).map (· + 1) = gN (a ++ [c]) n := by
  rw [gN_snoc]
  unfold fullP
  cases e : gN a n with
  | none => rfl
  | some s =>
    simp only [Option.bind_some]
    have : fpre n s c (List.range (n.length - s)) = (posL c n s).head? := by
      unfold fpre posL
      rw [List.head?_map, List.head?_filter]
      congr 1
      have hle := gN_le e
      have key : ∀ l : List Nat, (∀ i ∈ l, s + i < n.length) → l.find? (fun i => okc c (n.getD (s + i) 0)) = l.find? fun i => hitC c (n.getD (s + i) 0) := fun l => by
        induction l with
        | nil => intro _; rfl
        | cons i l ih =>
          intro h
          have hi := h i List.mem_cons_self
          have hx : n.getD (s + i) 0 ∈ alpha := by
            rw [List.getD_eq_getElem?_getD, List.getElem?_eq_getElem hi]
            exact hn _ (List.getElem_mem hi)
          rw [List.find?_cons, List.find?_cons, okc_hit _ hx _ hc, ih fun j hj => h j (List.mem_cons_of_mem _ hj)]
      exact key _ fun i hi => by have := List.mem_range.mp hi; omega
    rw [this]
structure DF (n : List Nat) (t : Nat) (kvs : List (Key × PyData)) : Prop where
  nd : (kvs.map (·.1)).Nodup
  ky : ∀ k ∈ kvs.map (·.1), ∃ w ∈ allW lFS t, k = kx w
  va : ∀ w ∈ allW lFS t, getK kvs (kx w) = (gN w n).map fun s => .int ((s : Int) - 1)
structure DI (n : List Nat) (t : Nat) (G : List Nat → Nat → Option Nat) (kvs : List (Key × PyData)) : Prop where
  nd : (kvs.map (·.1)).Nodup
  ky : ∀ k ∈ kvs.map (·.1), ∃ w ∈ allW lFS (t + 1), k = kx w
  va : ∀ a ∈ allW lFS t, ∀ c ∈ lFS, getK kvs (kx (a ++ [c])) = (G a c).map natI
def gDone (n : List Nat) (done : List (List Nat)) (a : List Nat) (c : Nat) : Option Nat := if a ∈ done then fullP n a c else none
def gAt (n : List Nat) (done : List (List Nat)) (a0 : List Nat) (s : Nat) (pre : List Nat) (a : List Nat) (c : Nat) : Option Nat := if a = a0 then fpre n s c pre else gDone n done a c
theorem DF.start (n : List Nat) : DF n 0 [(kx [], .int (-1))] where
  nd := by simp
  ky := fun k hk => by
    have : k = kx [] := by simpa using hk
    exact ⟨[], by simp [allW], this⟩
  va := fun w hw => by
    have : w = [] := by simpa [allW] using hw
    subst this
    rw [gN_nil, getK_cons, if_pos rfl]
    rfl
theorem DI.start (n : List Nat) (t : Nat) : DI n t (gDone n []) [] where
  nd := by simp
  ky := fun k hk => by cases hk
  va := fun a _ c _ => by simp [gDone, getK_nil]
theorem DI.same {n : List Nat} {t : Nat} {G G' : List Nat → Nat → Option Nat} {kvs : List (Key × PyData)} (h : DI n t G kvs) (e : ∀ a ∈ allW lFS t, ∀ c ∈ lFS, G a c = G' a c) : DI n t G' kvs where
  nd := h.nd
  ky := h.ky
  va := fun a ha c hc => by rw [← e a ha c hc]; exact h.va a ha c hc
theorem DI.len {n : List Nat} {t : Nat} {G : List Nat → Nat → Option Nat} {kvs : List (Key × PyData)} (h : DI n t G kvs) (ht : t + 1 ≤ 3) : kvs.length < 100000 := by
  have h1 : (kvs.map (·.1)).length ≤ ((allW lFS (t + 1)).map kx).length := List.Nodup.length_le_of_subset h.nd fun k hk => by
    obtain ⟨w, hw, e⟩ := h.ky k hk
    exact List.mem_map.mpr ⟨w, hw, e.symm⟩
  rw [List.length_map, List.length_map, allW_len] at h1
  have h2 : t = 0 ∨ t = 1 ∨ t = 2 := by omega
  refine Nat.lt_of_le_of_lt h1 ?_
  rcases h2 with rfl | rfl | rfl <;> decide
theorem DI.get {n : List Nat} {t : Nat} {done : List (List Nat)} {a0 : List Nat} {s : Nat} {pre : List Nat} {kvs : List (Key × PyData)} (h : DI n t (gAt n done a0 s pre) kvs) (ha : a0 ∈ allW lFS t) {c : Nat} (hc : c ∈ lFS) : getK kvs (kx (a0 ++ [c])) = (fpre n s c pre).map natI := by
  rw [h.va a0 ha c hc]
  unfold gAt
  rw [if_pos rfl]
theorem DI.done {n : List Nat} {t : Nat} {done : List (List Nat)} {a0 : List Nat} {s : Nat} {kvs : List (Key × PyData)} (h : DI n t (gAt n done a0 s (List.range (n.length - s))) kvs) (hs : gN a0 n = some s) : DI n t (gDone n (done ++ [a0])) kvs := h.same fun a _ c _ => by
  unfold gAt gDone
  by_cases e : a = a0
  · subst e
    rw [if_pos rfl, if_pos (by simp)]
    unfold fullP
    rw [hs]
    rfl
  · rw [if_neg e]
    have : a ∈ done ++ [a0] ↔ a ∈ done := by simp [e]
    simp [this]
theorem DI.all {n : List Nat} {t : Nat} {kvs : List (Key × PyData)} (hn : ∀ c ∈ n, c ∈ alpha) (h : DI n t (gDone n (asksOf n t)) kvs) : DF n (t + 1) kvs where
  nd := h.nd
  ky := h.ky
  va := fun w hw => by
    obtain ⟨a, ha, hx⟩ := List.mem_flatMap.mp (show w ∈ (allW lFS t).flatMap fun w => lFS.map fun c => w ++ [c] from hw)
    obtain ⟨c, hc, rfl⟩ := List.mem_map.mp hx
    rw [h.va a ha c hc, ← full_gN hn hc]
    unfold gDone
    by_cases e : a ∈ asksOf n t
    · rw [if_pos e]
      cases fullP n a c with
      | none => rfl
      | some p => simp [natI]
    · rw [if_neg e]
      have : gN a n = none := by
        unfold gN
        cases e2 : gr a n 0 with
        | none => rfl
        | some r => exact absurd ((asks_mem n t a).mpr ⟨((allW_mem lFS t a).mp ha).1, ((allW_mem lFS t a).mp ha).2, by rw [e2]; exact fun z => by cases z⟩) e
      unfold fullP
      rw [this]
      rfl
theorem DF.keys {n : List Nat} {t : Nat} {kvs : List (Key × PyData)} (h : DF n t kvs) : ∃ ws : List (List Nat), kvs.map (·.1) = ws.map kx ∧ ws.Nodup ∧ ∀ w, w ∈ ws ↔ w ∈ asksOf n t := by
  obtain ⟨ws, hw⟩ : ∃ ws : List (List Nat), kvs.map (·.1) = ws.map kx := by
    have hk := h.ky
    generalize kvs.map (·.1) = ks at hk
    induction ks with
    | nil => exact ⟨[], rfl⟩
    | cons k ks ih =>
      obtain ⟨ws, e⟩ := ih fun j hj => hk j (List.mem_cons_of_mem _ hj)
      obtain ⟨w, _, e2⟩ := hk k List.mem_cons_self
      exact ⟨w :: ws, by rw [List.map_cons, e, e2]⟩
  refine ⟨ws, hw, ?_, fun w => ?_⟩
  · have := h.nd
    rw [hw] at this
    exact List.Pairwise.of_map kx (fun a b hab z => hab (by rw [z])) this
  · have e1 : w ∈ ws ↔ kx w ∈ kvs.map (·.1) := by
      rw [hw, List.mem_map]
      exact ⟨fun z => ⟨w, z, rfl⟩, fun ⟨u, hu, e⟩ => kx_inj.mp e ▸ hu⟩
    rw [e1, ← getK_mem, asks_mem, ← and_assoc, ← allW_mem]
    constructor
    · intro hk
      have hm : w ∈ allW lFS t := by
        obtain ⟨u, hu, e⟩ := h.ky _ (getK_mem.mp hk)
        rw [kx_inj.mp e]
        exact hu
      refine ⟨hm, fun z => hk ?_⟩
      rw [h.va w hm]
      unfold gN
      rw [z]
      rfl
    · rintro ⟨hm, hg⟩ hk
      rw [h.va w hm] at hk
      unfold gN at hk
      cases e : gr w n 0 with
      | none => exact hg e
      | some r => rw [e] at hk; cases hk
theorem DF.alike {n : List Nat} {t : Nat} {kvs : List (Key × PyData)} (h : DF n t kvs) : PySem.W.AllAlike (kvs.map fun q => keyD q.1) ∧ PySem.W.Sortable (kvs.map fun q => keyD q.1) := by
  obtain ⟨ws, h1, h2, h3⟩ := h.keys
  have : (kvs.map fun q => keyD q.1) = ws.map tx := by
    have := congrArg (List.map keyD) h1
    rw [List.map_map, List.map_map] at this
    exact this
  rw [this]
  exact txs_alike ws fun w => w
theorem DF.get {n : List Nat} {t : Nat} {kvs : List (Key × PyData)} (h : DF n t kvs) {w : List Nat} (hw : w ∈ asksOf n t) : ∃ s, gN w n = some s ∧ getK kvs (kx w) = some (.int ((s : Int) - 1)) := by
  obtain ⟨h1, h2, h3⟩ := (asks_mem n t w).mp hw
  cases e : gr w n 0 with
  | none => exact absurd e h3
  | some r =>
    have e2 : gN w n = some (nx r) := by unfold gN; rw [e]; rfl
    refine ⟨nx r, e2, ?_⟩
    rw [h.va w ((allW_mem lFS t w).mpr ⟨h1, h2⟩), e2]
    rfl
end Lf
set_option Elab.async false
set_option linter.all false
set_option maxRecDepth 100000
set_option maxHeartbeats 4000000
namespace Lf
open PySem PySem.Spec PyProof.Rows L2 LamX
theorem hu1 {k : Nat} {A : Around} (hr : Room k A) : A.units + 1 < cLine := by
  have := hr.un
  omega
theorem range_at {m : Nat} {pre post : List Nat} {x : Nat} (h : List.range m = pre ++ x :: post) : x = pre.length := by
  have hl : pre.length < m := by
    have := congrArg List.length h
    simp at this
    omega
  have h1 : (List.range m)[pre.length]? = some x := by rw [h]; simp
  rw [List.getElem?_range hl] at h1
  exact (Option.some.inj h1).symm
theorem getD_mem {ls : List (List Nat)} {i : Nat} (h : i < ls.length) : ls.getD i [] ∈ ls := by
  rw [List.getD_eq_getElem?_getD, List.getElem?_eq_getElem h]
  exact List.getElem_mem h
end Lf
set_option Elab.async false
set_option linter.all false
set_option maxRecDepth 100000
set_option maxHeartbeats 4000000
namespace Lf
open PySem PySem.Spec PyProof.Rows L2 LamX
structure Mk where
  h : Int
  hd : Int
  st : Int
  rn : Int
  sm : Int
  sk : Int
def mkD (M : Mk) : PyData := .tuple [.int M.h, .int M.hd, .int M.st, .int M.rn, .int M.sm, .int M.sk]
structure okM (M : Mk) : Prop where
  h : 0 ≤ M.h ∧ M.h ≤ 50
  hd : 0 ≤ M.hd ∧ M.hd ≤ 50
  st : 0 ≤ M.st ∧ M.st ≤ 50
  rn : 0 ≤ M.rn ∧ M.rn ≤ 50
  sm : 0 ≤ M.sm ∧ M.sm ≤ 50
  sk : 0 ≤ M.sk ∧ M.sk ≤ 50
def isTp : PyData → Bool
  | .tuple _ => true
  | _ => false
def tpOf : PyData → List PyData
  | .tuple ds => ds
  | .dict _ => List.replicate 10001 .none
  | _ => []
def okT (d : PyData) : Prop := (tpOf d).length ≤ 10000 ∧ ∀ e ∈ tpOf d, isP e = false
theorem okT_np {d : PyData} (h : okT d) : isP d = false := by
  cases d with
  | dict k =>
    have h : (List.replicate 10001 PyData.none).length ≤ 10000 := h.1
    rw [List.length_replicate] at h
    omega
  | _ => rfl
def isMarks (d : PyData) : Bool := isTp d && decide ((tpOf d).length = 6) && (tpOf d).all fun e => isCnt e 0 50
theorem marks_ok {M : Mk} (h : okM M) : isMarks (mkD M) = true := by
  have h1 := h.h; have h2 := h.hd; have h3 := h.st; have h4 := h.rn; have h5 := h.sm; have h6 := h.sk
  simp [isMarks, mkD, isTp, tpOf, isCnt]
  omega
theorem okT_mk (M : Mk) : okT (mkD M) := ⟨by show 6 ≤ 10000; decide, fun e he => by simp only [mkD, tpOf, List.mem_cons, List.not_mem_nil, or_false] at he; rcases he with rfl | rfl | rfl | rfl | rfl | rfl <;> rfl⟩
def R_need_marks (C : Addr) (ds : List PyData) (r : Res) : Prop := ∃ d, ds = [d] ∧ okT d ∧ r = if isMarks d = true then .ok .none else .error C
theorem R_need_marks_ok {C : Addr} {M : Mk} (h : okM M) : R_need_marks C [mkD M] (.ok .none) := ⟨_, rfl, okT_mk M, by rw [if_pos (marks_ok h)]⟩
theorem kit_tup {d : PyData} (h : isTp d = false) : kitB (tyN d) "tuple" = some false := by
  cases d with
  | tuple _ => cases h
  | _ => rfl
theorem tp_of {d : PyData} (h : isTp d = true) : d = .tuple (tpOf d) := by
  cases d with
  | tuple _ => rfl
  | _ => cases h
structure KTp (K : PySem.W.Frag) (mg : Str → Option Value) (x : Str) (n : Nat) : Prop where
  ex : ∃ (a : Addr) (o : Obj) (its : Array Value) (m : Nat) (xs : List V), mg x = some (.ref a) ∧ K.lookup a = some o ∧ o.cls = .type "tuple" ∧ o.data = .seq its m ∧ its.size ≤ sizeLine ∧ Vals xs its.toList ∧ xs.length = n
theorem rel_abs {u : Value} {v : V} (h : absV u = some v) : RelV v u := by
  cases u <;> simp [absV] at h <;> subst h <;> first | rfl | exact ⟨_, rfl⟩
theorem vals_abs : ∀ {us : List Value}, (us.all fun u => (absV u).isSome) = true → ∃ xs, Vals xs us
  | [], _ => ⟨[], .nil⟩
  | u :: us, h => by
    rw [List.all_cons, Bool.and_eq_true] at h
    obtain ⟨v, hv⟩ := Option.isSome_iff_exists.mp h.1
    obtain ⟨xs, hx⟩ := vals_abs h.2
    exact ⟨v :: xs, .cons (rel_abs hv) hx⟩
theorem ktp_mk {K : PySem.W.Frag} {mg : Str → Option Value} {x : Str} {h : Heap} {a : Addr} {od : Option Addr} {its : Array Value} {m n : Nat} {sl : Array (Option Value)} (X : K.In h) (N : h.Ns mainGlobals mg) (c : PySem.W.nsIn K mainGlobals x = some (some (.ref a))) (l : K.lookup a = some ⟨.type "tuple", od, .seq its m, sl⟩)
    (z : (decide (its.size = n) && decide (n ≤ 1000) && its.toList.all fun u => (absV u).isSome) = true) : KTp K mg x n := by
  rw [Bool.and_eq_true, Bool.and_eq_true] at z
  obtain ⟨⟨z1, z2⟩, z3⟩ := z
  have z1 : its.size = n := of_decide_eq_true z1
  have z2 : n ≤ 1000 := of_decide_eq_true z2
  obtain ⟨xs, hx⟩ := vals_abs z3
  refine ⟨a, _, its, m, xs, PySem.W.mg_of X N c, l, rfl, rfl, ?_, hx, ?_⟩
  · rw [z1]
    exact Nat.le_trans z2 (by decide)
  · rw [hx.length, Array.length_toList, z1]
section
variable {Kf : PySem.W.Frag} {Tf : List (Addr × Str)} {F : Fx Kf Tf} {δ : List Slot} {X : Cx} {N : List Str} {sc : Scope} {pos p px : Pos} {x : Str} {n : Nat}
theorem x_lenK (cx : Ctx X N sc) (hT : KTp X.K X.mg x n) (hm : X.mg "len" = none) (hg : sc.names.lookup ("len" : Str) = some .globalImplicit := by rfl) (hg2 : sc.names.lookup x = some .globalImplicit := by rfl) (hd : (x == ("__debug__" : Str)) = false := by decide) (hs : starEach [.Name x px] X.env = [(false, eval (.Name x px) X.env)] := by rfl) :
    PE X (.Call (.Name "len" p) [.Name x px] [] pos) (tD F δ (.int (n : Nat))) := by
  obtain ⟨a, o, its, m, xs, h1, h2, h3, h4, h5, h6, h7⟩ := hT.ex
  refine wkE (pe_callB call_len (cx.gl hg) hm PySem.boot_len (pa_cons (pe_glob (v := .ref a) (cx.gl hg2) h1 rfl hd) pa_nil hs) (by decide) (by decide) hs) fun σ H Q h => ?_
  obtain ⟨O, st, k⟩ := h
  exact ⟨.ref a, n, rfl, .inr ⟨xs, .inr ⟨o, its, m, h2, h3, h4, h5, h6⟩, h7.symm⟩, k _ H (ExtN.refl H) st.tabs rfl⟩
end
def ow (M : Mk) (c : Nat) (n : List Nat) (p : Nat) : Int := M.h + (if p = 0 then M.hd else 0) + (if begins n p = true then M.st else 0) + (if n.getD p 0 = c then M.sm else 0)
def gw (M : Mk) (i j : Nat) : Int := if j = i + 1 then M.rn else 0 - M.sk * ((j : Int) - (i : Int) - 1)
def gp (M : Mk) (p : Nat) : List Nat → Int
  | [] => 0
  | q :: _ => gw M p q
def wr (M : Mk) (n : List Nat) : List Nat → List Nat → Int
  | c :: a, p :: r => ow M c n p + gp M p r + wr M n a r
  | _, _ => 0
def R_own_worth (ds : List PyData) (r : Res) : Prop := ∃ M c n p, ds = [mkD M, tx [c], tx n, natI p] ∧ p < n.length ∧ n.length ≤ 10000 ∧ r = .ok (.int (ow M c n p))
def R_gap_worth (ds : List PyData) (r : Res) : Prop := ∃ M i j, ds = [mkD M, natI i, natI j] ∧ okM M ∧ i ≤ 10000 ∧ j ≤ 10000 ∧ r = .ok (.int (gw M i j))
abbrev Bst := Option (Int × List Nat)
def cmb : Bst → Bst → Bst
  | a, none => a
  | none, some x => some x
  | some y, some x => if x.1 > y.1 then some x else some y
theorem cmb_none (a : Bst) : cmb a none = a := by cases a <;> rfl
theorem none_cmb (a : Bst) : cmb none a = a := by cases a <;> rfl
theorem cmb_assoc (a b c : Bst) : cmb (cmb a b) c = cmb a (cmb b c) := by
  cases c with
  | none => rw [cmb_none, cmb_none]
  | some z =>
    cases b with
    | none => rw [cmb_none, none_cmb]
    | some y =>
      cases a with
      | none => rw [none_cmb, none_cmb]
      | some x =>
        simp only [cmb]
        by_cases h1 : y.1 > x.1
        · rw [if_pos h1]
          by_cases h2 : z.1 > y.1
          · simp only [cmb, if_pos h2]
            rw [if_pos (by omega)]
          · simp only [cmb, if_neg h2, if_pos h1]
        · rw [if_neg h1]
          by_cases h2 : z.1 > y.1
          · simp only [cmb, if_pos h2]
          · simp only [cmb, if_neg h2, if_neg h1]
            rw [if_neg (by omega)]
def fmL (w : List Nat → Int) (l : List (List Nat)) : Bst := l.foldl (fun acc r => cmb acc (some (w r, r))) none
theorem fold_cmb {α : Type} (f : α → Bst) : ∀ (l : List α) (a : Bst), l.foldl (fun acc x => cmb acc (f x)) a = cmb a (l.foldl (fun acc x => cmb acc (f x)) none)
  | [], a => (cmb_none a).symm
  | x :: l, a => by
    rw [List.foldl_cons, List.foldl_cons, fold_cmb f l (cmb a (f x)), fold_cmb f l (cmb none (f x)), none_cmb, cmb_assoc]
theorem fm_app (w : List Nat → Int) (l m : List (List Nat)) : fmL w (l ++ m) = cmb (fmL w l) (fmL w m) := by
  unfold fmL
  rw [List.foldl_append, fold_cmb (fun r => some (w r, r)) m]
theorem fm_cons (w : List Nat → Int) (r : List Nat) (l : List (List Nat)) : fmL w (r :: l) = cmb (some (w r, r)) (fmL w l) := by
  rw [show r :: l = [r] ++ l from rfl, fm_app]
  rfl
theorem fm_flat {α : Type} (w : List Nat → Int) (f : α → List (List Nat)) : ∀ l : List α, fmL w (l.flatMap f) = l.foldl (fun acc x => cmb acc (fmL w (f x))) none
  | [] => rfl
  | x :: l => by
    rw [List.flatMap_cons, fm_app, fm_flat w f l, List.foldl_cons, none_cmb, fold_cmb (fun x => fmL w (f x)) l (fmL w (f x))]
theorem fm_map {w w' : List Nat → Int} {p : Nat} {K : Int} : ∀ {l : List (List Nat)}, (∀ r ∈ l, w (p :: r) = K + w' r) → fmL w (l.map (p :: ·)) = (fmL w' l).map fun q => (K + q.1, p :: q.2)
  | [], _ => rfl
  | r :: l, h => by
    rw [List.map_cons, fm_cons, fm_cons, fm_map fun s hs => h s (List.mem_cons_of_mem _ hs), h r List.mem_cons_self]
    cases fmL w' l with
    | none => rfl
    | some q =>
      simp only [Option.map_some, cmb]
      by_cases e : q.1 > w' r
      · rw [if_pos e, if_pos (by omega)]; rfl
      · rw [if_neg e, if_neg (by omega)]; rfl
def RB (n : List Nat) : List Nat → Nat → List (List Nat)
  | [], _ => []
  | c :: a, p => if hitC c (n.getD p 0) = true then (rowsS a (n.drop (p + 1)) (p + 1)).map (p :: ·) else []
theorem RB_hit {n : List Nat} {c : Nat} {a : List Nat} {p : Nat} (h : hitC c (n.getD p 0) = true) : RB n (c :: a) p = (rowsS a (n.drop (p + 1)) (p + 1)).map (p :: ·) := if_pos h
theorem RB_miss {n : List Nat} {c : Nat} {a : List Nat} {p : Nat} (h : hitC c (n.getD p 0) = false) : RB n (c :: a) p = [] := if_neg (by rw [h]; decide)
theorem rows_RB (n : List Nat) (c : Nat) (a : List Nat) : ∀ (m k : Nat), n.length - k = m → k ≤ n.length → rowsS (c :: a) (n.drop k) k = (List.range (n.length - k)).flatMap fun i => RB n (c :: a) (k + i)
  | 0, k, hm, hk => by
    rw [hm]
    have e : k = n.length := by omega
    rw [e, List.drop_length]
    rfl
  | m + 1, k, hm, hk => by
    have hlt : k < n.length := by omega
    have ih := rows_RB n c a m (k + 1) (by omega) (by omega)
    have hl : n.length - k = (n.length - (k + 1)) + 1 := by omega
    rw [hl, List.range_succ_eq_map, List.flatMap_cons, List.flatMap_map]
    have e2 : ((List.range (n.length - (k + 1))).flatMap fun i => RB n (c :: a) (k + (i + 1))) = rowsS (c :: a) (n.drop (k + 1)) (k + 1) := by
      rw [ih]
      exact fm_congr fun i _ => by rw [show k + (i + 1) = k + 1 + i by omega]
    show _ = RB n (c :: a) (k + 0) ++ ((List.range (n.length - (k + 1))).flatMap fun i => RB n (c :: a) (k + (i + 1)))
    rw [e2, Nat.add_zero]
    by_cases hh : hitC c (n.getD k 0) = true
    · rw [rows_hit hlt hh, RB_hit hh]
    · have hh' : hitC c (n.getD k 0) = false := by simpa using hh
      rw [rows_miss hlt hh', RB_miss hh', List.nil_append]
def bAt (M : Mk) (n a : List Nat) (p : Nat) : Bst := fmL (wr M n a) (RB n a p)
def bestL (M : Mk) (a n : List Nat) : Bst := fmL (wr M n a) (rowsS a n 0)
/-- the start of a search at a place, and a step of it -/
def b0 (M : Mk) (n : List Nat) (c : Nat) (a : List Nat) (p : Nat) : Bst := if a = [] then some (ow M c n p, [p]) else none
def bSt (M : Mk) (n : List Nat) (c : Nat) (a : List Nat) (p i : Nat) : Bst := (bAt M n a (p + 1 + i)).map fun q => (ow M c n p + gw M p (p + 1 + i) + q.1, p :: q.2)
def bF (M : Mk) (n : List Nat) (c : Nat) (a : List Nat) (p : Nat) (pre : List Nat) : Bst := pre.foldl (fun acc i => cmb acc (bSt M n c a p i)) (b0 M n c a p)
theorem bF_snoc (M : Mk) (n : List Nat) (c : Nat) (a : List Nat) (p i : Nat) (pre : List Nat) : bF M n c a p (pre ++ [i]) = cmb (bF M n c a p pre) (bSt M n c a p i) := by
  unfold bF
  rw [List.foldl_append]
  rfl
theorem RB_head {n a : List Nat} {p : Nat} {r : List Nat} (h : r ∈ RB n a p) : ∃ t, r = p :: t := by
  cases a with
  | nil => cases h
  | cons c a =>
    by_cases hh : hitC c (n.getD p 0) = true
    · rw [RB_hit hh] at h
      obtain ⟨t, _, rfl⟩ := List.mem_map.mp h
      exact ⟨t, rfl⟩
    · rw [RB_miss (by simpa using hh)] at h
      cases h
theorem bAt_miss {M : Mk} {n : List Nat} {c : Nat} {a : List Nat} {p : Nat} (h : hitC c (n.getD p 0) = false) : bAt M n (c :: a) p = none := by
  unfold bAt
  rw [RB_miss h]
  rfl
theorem bAt_hit {M : Mk} {n : List Nat} {c : Nat} {a : List Nat} {p : Nat} (hp : p < n.length) (h : hitC c (n.getD p 0) = true) : bAt M n (c :: a) p = bF M n c a p (List.range (n.length - (p + 1))) := by
  unfold bAt
  rw [RB_hit h]
  cases a with
  | nil =>
    rw [rows_nil]
    have e : ∀ l : List Nat, l.foldl (fun acc i => cmb acc (bSt M n c [] p i)) (b0 M n c [] p) = b0 M n c [] p := fun l => by
      induction l with
      | nil => rfl
      | cons i l ih => rw [List.foldl_cons]; exact ih
    unfold bF
    rw [e]
    show some (ow M c n p + 0 + 0, [p]) = some (ow M c n p, [p])
    rw [Int.add_zero, Int.add_zero]
  | cons c' a =>
    rw [rows_RB n c' a _ (p + 1) rfl (by omega), List.map_flatMap, fm_flat]
    unfold bF
    rw [show b0 M n c (c' :: a) p = none from if_neg (by simp)]
    congr 1
    funext acc i
    congr 1
    unfold bSt bAt
    refine (fm_map (w' := wr M n (c' :: a)) (K := ow M c n p + gw M p (p + 1 + i)) fun r hr => ?_).trans ?_
    · obtain ⟨t, rfl⟩ := RB_head hr
      show ow M c n p + gw M p (p + 1 + i) + wr M n (c' :: a) ((p + 1 + i) :: t) = _
      rfl
    · rfl
theorem best_fold (M : Mk) (c : Nat) (a n : List Nat) : bestL M (c :: a) n = (List.range n.length).foldl (fun acc p => cmb acc (bAt M n (c :: a) p)) none := by
  unfold bestL
  have := rows_RB n c a n.length 0 rfl (Nat.zero_le _)
  rw [List.drop_zero] at this
  rw [this, fm_flat]
  simp only [Nat.sub_zero, Nat.zero_add]
  rfl
theorem best_nil (M : Mk) (n : List Nat) : bestL M [] n = some (0, []) := by
  unfold bestL
  rw [rows_nil]
  rfl
theorem fm_none {w : List Nat → Int} : ∀ {l : List (List Nat)}, fmL w l = none ↔ l = []
  | [] => ⟨fun _ => rfl, fun _ => rfl⟩
  | r :: l => by
    rw [fm_cons]
    cases fmL w l with
    | none => simp [cmb]
    | some q =>
      simp only [cmb]
      split <;> simp
theorem best_none {M : Mk} {a n : List Nat} : bestL M a n = none ↔ gr a n 0 = none := by
  unfold bestL
  rw [fm_none, gr_none]
def bD (q : Int × List Nat) : PyData := .tuple [.int q.1, rowD q.2]
def optB : Bst → PyData
  | none => .none
  | some q => bD q
def dOf (G : Nat → Bst) (m : Nat) : List (Key × PyData) := (List.range m).filterMap fun p => (G p).map fun q => (Sum.inl (p : Int), bD q)
theorem dOf_succ (G : Nat → Bst) (m : Nat) : dOf G (m + 1) = dOf G m ++ (match G m with | none => [] | some q => [(Sum.inl (m : Int), bD q)]) := by
  unfold dOf
  rw [List.range_succ, List.filterMap_append]
  congr 1
  cases h : G m <;> simp [h]
theorem dOf_get (G : Nat → Bst) : ∀ (m p : Nat), getK (dOf G m) (Sum.inl (p : Int)) = if p < m then (G p).map bD else none
  | 0, p => by simp [dOf, getK_nil]
  | m + 1, p => by
    rw [dOf_succ, getK_app, dOf_get G m p]
    by_cases h1 : p < m
    · rw [if_pos h1, if_pos (by omega)]
      cases e : G p with
      | some q => rfl
      | none =>
        show getK _ _ = none
        cases e2 : G m with
        | none => rfl
        | some q =>
          rw [getK_cons, if_neg]
          · rfl
          · intro z
            have : (m : Int) = (p : Int) := Sum.inl.inj z
            omega
    · rw [if_neg h1]
      by_cases h2 : p = m
      · subst h2
        rw [if_pos (by omega)]
        cases e2 : G p with
        | none => rfl
        | some q => rw [getK_cons, if_pos rfl]; rfl
      · rw [if_neg (by omega)]
        cases e2 : G m with
        | none => rfl
        | some q =>
          rw [getK_cons, if_neg]
          · rfl
          · intro z
            have : (m : Int) = (p : Int) := Sum.inl.inj z
            omega
theorem dOf_put {G : Nat → Bst} {m : Nat} {q : Int × List Nat} (h : G m = some q) : putD (dOf G m) (Sum.inl (m : Int)) (bD q) = dOf G (m + 1) := by
  unfold putD
  rw [getK_any, dOf_get, if_neg (Nat.lt_irrefl m), dOf_succ, h]
  rfl
theorem dOf_skip {G : Nat → Bst} {m : Nat} (h : G m = none) : dOf G m = dOf G (m + 1) := by
  rw [dOf_succ, h, List.append_nil]
theorem dOf_len (G : Nat → Bst) (m : Nat) : (dOf G m).length ≤ m := by
  unfold dOf
  refine Nat.le_trans (List.length_filterMap_le _ _) ?_
  rw [List.length_range]
  exact Nat.le_refl _
theorem dOf_none {G : Nat → Bst} (h : ∀ p, G p = none) (m : Nat) : dOf G m = [] := by
  unfold dOf
  rw [List.filterMap_eq_nil_iff]
  intro p _
  rw [h p]
  rfl
/-- the places of a level -/
def dPs (G : Nat → Bst) (m : Nat) : List Nat := (List.range m).filter fun p => (G p).isSome
theorem dOf_keys (G : Nat → Bst) (m : Nat) : ((dOf G m).map fun q => keyD q.1) = (dPs G m).map natI := by
  induction m with
  | zero => rfl
  | succ m ih =>
    rw [dOf_succ, List.map_append, ih]
    unfold dPs
    rw [List.range_succ, List.filter_append, List.map_append]
    congr 1
    cases h : G m <;> simp [h, natI, keyD]
theorem le_nats (p q : Nat) : PySem.W.dataLe false (fun d => d) (natI p) (natI q) = decide ((p : Int) ≤ (q : Int)) := congrFun (congrFun (PySem.W.dataLe_int (β := Nat) fun l => (l : Int)) p) q
theorem sort_nats {l : List Nat} (h : l.Pairwise (· < ·)) : sortD (l.map natI) = l.map natI := by
  unfold sortD
  refine List.mergeSort_of_pairwise ?_
  rw [List.pairwise_map]
  exact h.imp fun {a b} hab => by rw [le_nats]; exact decide_eq_true (by omega)
theorem nats_alike (l : List Nat) : PySem.W.AllAlike (l.map natI) ∧ PySem.W.Sortable (l.map natI) :=
  ⟨PySem.W.AllAlike.of (enc := natI) fun _ _ => rfl, PySem.W.Sortable.others (enc := natI) fun _ => ⟨(fun z => by cases z), fun _ z => by cases z⟩⟩
theorem dPs_rise (G : Nat → Bst) (m : Nat) : (dPs G m).Pairwise (· < ·) := List.Pairwise.filter _ List.pairwise_lt_range
theorem dOf_sort (G : Nat → Bst) (m : Nat) : sortD ((dOf G m).map fun q => keyD q.1) = (dPs G m).map natI := by rw [dOf_keys, sort_nats (dPs_rise G m)]
theorem fold_ps (G : Nat → Bst) : ∀ (l : List Nat) (acc : Bst), (l.filter fun p => (G p).isSome).foldl (fun acc p => cmb acc (G p)) acc = l.foldl (fun acc p => cmb acc (G p)) acc
  | [], acc => rfl
  | p :: l, acc => by
    cases e : G p with
    | none =>
      rw [List.filter_cons_of_neg (by rw [e]; decide), List.foldl_cons, e, cmb_none]
      exact fold_ps G l acc
    | some q =>
      rw [List.filter_cons_of_pos (by rw [e]; rfl), List.foldl_cons, List.foldl_cons]
      exact fold_ps G l _
def bFin (G : Nat → Bst) (pre : List Nat) : Bst := pre.foldl (fun acc p => cmb acc (G p)) none
theorem bFin_snoc (G : Nat → Bst) (pre : List Nat) (p : Nat) : bFin G (pre ++ [p]) = cmb (bFin G pre) (G p) := by
  unfold bFin
  rw [List.foldl_append]
  rfl
theorem best_fin (M : Mk) (c : Nat) (a n : List Nat) : bFin (bAt M n (c :: a)) (dPs (bAt M n (c :: a)) n.length) = bestL M (c :: a) n := by
  rw [best_fold]
  exact fold_ps _ _ none
def R_best_of (ds : List PyData) (r : Res) : Prop := ∃ M a n, ds = [mkD M, tx a, tx n] ∧ okM M ∧ a.length ≤ 100 ∧ n.length ≤ 1000 ∧ r = .ok (optB (bestL M a n))
theorem map_selfT (l : List PyData) : PyData.tuple l = PyData.tuple (l.map fun d => d) := by rw [List.map_id']
theorem cm_small {a b : Int} (ha : -1000000 ≤ a ∧ a ≤ 1000000) (hb : -1000000 ≤ b ∧ b ≤ 1000000) : CMulW a b := by
  have h1 : a.natAbs ≤ 1000000 := by omega
  have h2 : b.natAbs ≤ 1000000 := by omega
  exact cmul_sq (Nat.lt_of_le_of_lt h1 (by decide)) (Nat.lt_of_le_of_lt h2 (by decide))
theorem fm_mem {w : List Nat → Int} : ∀ {l : List (List Nat)} {q : Int × List Nat}, fmL w l = some q → q.2 ∈ l ∧ q.1 = w q.2
  | [], q, h => by cases h
  | r :: l, q, h => by
    rw [fm_cons] at h
    cases e : fmL w l with
    | none =>
      rw [e] at h
      cases h
      exact ⟨List.mem_cons_self, rfl⟩
    | some q' =>
      rw [e] at h
      simp only [cmb] at h
      split at h
      · cases h
        exact ⟨List.mem_cons_of_mem _ (fm_mem e).1, (fm_mem e).2⟩
      · cases h
        exact ⟨List.mem_cons_self, rfl⟩
theorem bAt_len {M : Mk} {n a : List Nat} {p : Nat} {q : Int × List Nat} (h : bAt M n a p = some q) : q.2.length = a.length := by
  have hm := (fm_mem h).1
  cases a with
  | nil => cases hm
  | cons c a =>
    by_cases hh : hitC c (n.getD p 0) = true
    · rw [RB_hit hh] at hm
      obtain ⟨t, ht, e⟩ := List.mem_map.mp hm
      rw [← e, List.length_cons, List.length_cons, rows_mem ht]
    · rw [RB_miss (by simpa using hh)] at hm
      cases hm
end Lf
set_option Elab.async false
set_option linter.all false
set_option maxRecDepth 100000
set_option maxHeartbeats 4000000
namespace Lf
open PySem PySem.Spec PyProof.Rows L2 LamX
def bo (M : Mk) (a : List Nat) : Int := if a = [] then 0 else (a.length : Int) * (M.h + M.st + M.sm) + M.hd + ((a.length : Int) - 1) * M.rn
def hdH (M : Mk) (a n : List Nat) : Int := if (!decide (a = []) && hitC (a.getD 0 0) (n.getD 0 0)) = true then M.hd else 0
def hdL (M : Mk) (a n : List Nat) : Int := if (!decide (a = [])) = true then M.hd - hdH M a n else 0
def lessB (a n : List Nat) : Int := if (a.length : Int) - ((startsL n).length : Int) > 0 then (a.length : Int) - ((startsL n).length : Int) else 0
def bd (M : Mk) (a n : List Nat) : Int := bo M a - lessB a n * M.st - hdL M a n
theorem rows_rise : ∀ {a n : List Nat} {k : Nat} {r : List Nat}, r ∈ rowsS a n k → r.Pairwise (· < ·) ∧ ∀ i ∈ r, i < k + n.length
  | [], n, k, r, h => by
    rw [rows_nil] at h
    rw [List.mem_singleton.mp h]
    exact ⟨.nil, fun i hi => by cases hi⟩
  | o :: a, [], k, r, h => by cases h
  | o :: a, c :: n, k, r, h => by
    unfold rowsS at h
    have rest : r ∈ rowsS (o :: a) n (k + 1) → r.Pairwise (· < ·) ∧ ∀ i ∈ r, i < k + (c :: n).length := fun hr => by
      obtain ⟨h1, h2⟩ := rows_rise hr
      exact ⟨h1, fun i hi => by have := h2 i hi; rw [List.length_cons]; omega⟩
    split at h
    · rcases List.mem_append.mp h with z | z
      · obtain ⟨t, ht, rfl⟩ := List.mem_map.mp z
        obtain ⟨h1, h2⟩ := rows_rise ht
        have h3 := rows_ge ht
        refine ⟨List.pairwise_cons.mpr ⟨fun i hi => by have := h3 i hi; omega, h1⟩, fun i hi => ?_⟩
        rcases List.mem_cons.mp hi with e | hi
        · rw [e, List.length_cons]; omega
        · have := h2 i hi; rw [List.length_cons]; omega
      · exact rest z
    · exact rest h
def mkC (h : Int) : Int := ([0, 1, 3, 10, 50, h / 8 % 51] : List Int).getD (h % 6).toNat 0
def mkL (m : Int) : Mk := ⟨mkC (drawn m 0), mkC (drawn m 1), mkC (drawn m 2), mkC (drawn m 3), mkC (drawn m 4), mkC (drawn m 5)⟩
theorem mkC_at (h : Int) : atI [PyData.int 0, .int 1, .int 3, .int 10, .int 50, .int (h / 8 % 51)] (h % 6) = some (.int (mkC h)) := by
  unfold mkC
  have h1 : h % 6 = 0 ∨ h % 6 = 1 ∨ h % 6 = 2 ∨ h % 6 = 3 ∨ h % 6 = 4 ∨ h % 6 = 5 := by omega
  rcases h1 with e | e | e | e | e | e <;> rw [e] <;> rfl
theorem mkC_ok (h : Int) : 0 ≤ mkC h ∧ mkC h ≤ 50 := by
  unfold mkC
  have h1 : h % 6 = 0 ∨ h % 6 = 1 ∨ h % 6 = 2 ∨ h % 6 = 3 ∨ h % 6 = 4 ∨ h % 6 = 5 := by omega
  have h2 : 0 ≤ h / 8 % 51 ∧ h / 8 % 51 ≤ 50 := by omega
  rcases h1 with e | e | e | e | e | e <;> rw [e] <;> first | exact h2 | exact (by decide : (0 : Int) ≤ 0 ∧ (0 : Int) ≤ 50) | exact (by decide : (0 : Int) ≤ 1 ∧ (1 : Int) ≤ 50) | exact (by decide : (0 : Int) ≤ 3 ∧ (3 : Int) ≤ 50) | exact (by decide : (0 : Int) ≤ 10 ∧ (10 : Int) ≤ 50) | exact (by decide : (0 : Int) ≤ 50 ∧ (50 : Int) ≤ 50)
theorem mkL_ok (m : Int) : okM (mkL m) := ⟨mkC_ok _, mkC_ok _, mkC_ok _, mkC_ok _, mkC_ok _, mkC_ok _⟩
def R_law_marks (ds : List PyData) (r : Res) : Prop := ∃ m, ds = [.int m] ∧ r = .ok (mkD (mkL m))
end Lf
set_option Elab.async false
set_option linter.all false
set_option maxRecDepth 100000
set_option maxHeartbeats 4000000
namespace Lf
open PySem PySem.Spec PyProof.Rows L2 LamX
section
variable {Kf : PySem.W.Frag} {Tf : List (Addr × Str)} {F : Fx Kf Tf} {K : PySem.W.Frag} {ds : List PyData}
theorem cd_maxM {ns : List Int} {m : Int} (h : ds = ns.map PyData.int) (hm : m ∈ ns) (hu : ∀ y ∈ ns, y ≤ m) : ClD F (rMax K) [.list ds] (.int m) := fun O H xs Q _ w h2 k => by
  subst h
  obtain ⟨x, r, rfl, ⟨a, ys, ex, _, ga, ra⟩, rfl⟩ := h2
  subst ex
  refine ⟨a, ns, rfl, SqL.of (by rw [ga, ra.ints]), List.length_pos_of_mem hm, fun m' h1 h2 => ?_⟩
  have : m' = m := Int.le_antisymm (hu m' h1) (h2 m hm)
  rw [this]
  exact k _ H (ExtN.refl H) w rfl
end
def hitsB (a n r : List Nat) : Bool := (a.zip r).all fun q => hitC q.1 (n.getD q.2 0)
theorem rows_iff (n : List Nat) : ∀ (a : List Nat) (k : Nat) (r : List Nat), k ≤ n.length → (r ∈ rowsS a (n.drop k) k ↔ r.length = a.length ∧ (∀ i ∈ r, k ≤ i ∧ i < n.length) ∧ r.Pairwise (· < ·) ∧ hitsB a n r = true)
  | [], k, r, hk => by
    rw [rows_nil, List.mem_singleton]
    constructor
    · rintro rfl; exact ⟨rfl, (fun i h => by cases h), .nil, rfl⟩
    · rintro ⟨h, _⟩; exact List.length_eq_zero_iff.mp h
  | c :: a, k, r, hk => by
    rw [rows_RB n c a _ k rfl hk, List.mem_flatMap]
    constructor
    · rintro ⟨i, hi, hr⟩
      have hi := List.mem_range.mp hi
      by_cases hh : hitC c (n.getD (k + i) 0) = true
      · rw [RB_hit hh] at hr
        obtain ⟨t, ht, rfl⟩ := List.mem_map.mp hr
        obtain ⟨g1, g2, g3, g4⟩ := (rows_iff n a (k + i + 1) t (by omega)).mp ht
        refine ⟨by rw [List.length_cons, List.length_cons, g1], fun j hj => ?_, List.pairwise_cons.mpr ⟨fun j hj => by have := (g2 j hj).1; omega, g3⟩, ?_⟩
        · rcases List.mem_cons.mp hj with e | hj
          · rw [e]; omega
          · have := g2 j hj; omega
        · unfold hitsB at g4 ⊢
          rw [List.zip_cons_cons, List.all_cons, g4, Bool.and_true]
          exact hh
      · rw [RB_miss (by simpa using hh)] at hr
        cases hr
    · rintro ⟨g1, g2, g3, g4⟩
      cases r with
      | nil => simp at g1
      | cons p t =>
        have hp := g2 p List.mem_cons_self
        have g3 := List.pairwise_cons.mp g3
        unfold hitsB at g4
        rw [List.zip_cons_cons, List.all_cons, Bool.and_eq_true] at g4
        refine ⟨p - k, List.mem_range.mpr (by omega), ?_⟩
        rw [show k + (p - k) = p by omega, RB_hit g4.1]
        refine List.mem_map.mpr ⟨t, (rows_iff n a (p + 1) t (by omega)).mpr ⟨by simpa using g1, fun j hj => ⟨g3.1 j hj, (g2 j (List.mem_cons_of_mem _ hj)).2⟩, g3.2, g4.2⟩, rfl⟩
theorem rows_iff0 (a n r : List Nat) : r ∈ rowsS a n 0 ↔ r.length = a.length ∧ (∀ i ∈ r, i < n.length) ∧ r.Pairwise (· < ·) ∧ hitsB a n r = true := by
  have := rows_iff n a 0 r (Nat.zero_le _)
  rw [List.drop_zero] at this
  rw [this]
  simp
def gl (M : Mk) (p : Nat) : Option Nat → Int
  | none => 0
  | some q => gw M q p
theorem wr_snoc (M : Mk) (n : List Nat) (c p : Nat) : ∀ (a r : List Nat), r.length = a.length → wr M n (a ++ [c]) (r ++ [p]) = wr M n a r + gl M p r.getLast? + ow M c n p
  | [], r, h => by
    have : r = [] := List.length_eq_zero_iff.mp h
    subst this
    simp [wr, gp, gl]
  | d :: a, [], h => by simp at h
  | d :: a, [q], h => by
    have : a = [] := List.length_eq_zero_iff.mp (by simpa using h.symm)
    subst this
    show ow M d n q + gw M q p + (ow M c n p + 0 + 0) = ow M d n q + 0 + 0 + gw M q p + ow M c n p
    omega
  | d :: a, q :: s :: r, h => by
    have ih := wr_snoc M n c p a (s :: r) (by simpa using h)
    show ow M d n q + gw M q s + wr M n (a ++ [c]) (s :: r ++ [p]) = ow M d n q + gw M q s + wr M n a (s :: r) + gl M p (q :: s :: r).getLast? + ow M c n p
    rw [ih, List.getLast?_cons_cons]
    omega
def R_law_worth (ds : List PyData) (r : Res) : Prop := ∃ M a n q, ds = [mkD M, tx a, tx n, rowD q] ∧ okM M ∧ isNm n = true ∧ a.length ≤ 100 ∧ q ∈ rowsS a n 0 ∧ r = .ok (.int (wr M n a q))
theorem enum_split {ds : List PyData} {pre post : List (Nat × PyData)} {x : Nat × PyData} (h : enumL ds = pre ++ x :: post) : pre.length < ds.length ∧ x = (pre.length, ds.getD pre.length .none) := by
  have hl : pre.length < ds.length := by
    have := congrArg List.length h
    unfold enumL at this
    simp at this
    omega
  refine ⟨hl, ?_⟩
  have h1 : (enumL ds)[pre.length]? = some x := by rw [h]; simp
  unfold enumL at h1
  rw [List.getElem?_map, List.getElem?_range hl] at h1
  exact (Option.some.inj h1).symm
theorem starts_in {n : List Nat} {p : Nat} (h : p < n.length) : inI (startsL n) (p : Int) = begins n p := by
  rw [any_nat]
  unfold startsL
  cases e : begins n p with
  | true => exact decide_eq_true (List.mem_filter.mpr ⟨List.mem_range.mpr h, e⟩)
  | false => exact decide_eq_false fun z => by rw [(List.mem_filter.mp z).2] at e; cases e
def R_law_best (ds : List PyData) (r : Res) : Prop := ∃ M a n, ds = [mkD M, tx a, tx n] ∧ okM M ∧ isNm n = true ∧ a.length ≤ 8 ∧ n.length ≤ 12 ∧ r = .ok (optB (bestL M a n))
theorem fm_spec {w : List Nat → Int} : ∀ {l : List (List Nat)}, l ≠ [] → ∃ m r, fmL w l = some (m, r) ∧ m ∈ l.map w ∧ (∀ y ∈ l.map w, y ≤ m) ∧ (l.filter fun x => decide (w x = m)).head? = some r
  | [], h => absurd rfl h
  | r :: l, _ => by
    rw [fm_cons]
    by_cases hl : l = []
    · subst hl
      refine ⟨w r, r, rfl, by simp, fun y hy => ?_, by simp⟩
      have : y = w r := by simpa using hy
      rw [this]
      exact Int.le_refl _
    · obtain ⟨m, q, h1, h2, h3, h4⟩ := fm_spec (w := w) hl
      rw [h1]
      simp only [cmb]
      by_cases hm : m > w r
      · rw [if_pos hm]
        refine ⟨m, q, rfl, List.mem_cons_of_mem _ h2, fun y hy => ?_, ?_⟩
        · rcases List.mem_cons.mp hy with e | hy
          · rw [e]; omega
          · exact h3 y hy
        · rw [List.filter_cons_of_neg (by simp; omega)]
          exact h4
      · rw [if_neg hm]
        refine ⟨w r, r, rfl, List.mem_cons_self, fun y hy => ?_, ?_⟩
        · rcases List.mem_cons.mp hy with e | hy
          · rw [e]; exact Int.le_refl _
          · have := h3 y hy; omega
        · rw [List.filter_cons_of_pos (by simp)]
          rfl
theorem at_head {α : Type} {f : α → PyData} {l : List α} {x : α} (h : l.head? = some x) : atI (l.map f) 0 = some (f x) := by
  cases l with
  | nil => cases h
  | cons a l => cases h; exact atI_nat (j := 0) rfl
theorem at_prev {q : List Nat} {k : Nat} (h : k < q.length) (h0 : 0 < k) : atI (q.map natI) ((k : Int) - 1) = some (natI (q.getD (k - 1) 0)) := by
  rw [show ((k : Int) - 1) = ((k - 1 : Nat) : Int) by omega]
  refine atI_nat ?_
  have hk1 : k - 1 < q.length := by omega
  rw [List.getElem?_map, List.getElem?_eq_getElem hk1, List.getD_eq_getElem?_getD, List.getElem?_eq_getElem hk1]
  rfl
theorem gw_at0 {M : Mk} {s p : Nat} (h : decide ((p : Int) - (s : Int) - 1 = 0) = true) : gw M s p = M.rn := by
  have := of_decide_eq_true h
  exact if_pos (by omega)
theorem gw_at1 {M : Mk} {s p : Nat} (h : decide ((p : Int) - (s : Int) - 1 = 0) = false) : gw M s p = 0 - M.sk * ((p : Int) - (s : Int) - 1) := by
  have := of_decide_eq_false h
  exact if_neg (by omega)
end Lf
set_option Elab.async false
set_option linter.all false
set_option maxRecDepth 100000
set_option maxHeartbeats 1000000
namespace Lf
open PySem PySem.Spec PySem.W PyProof.Rows L2 LamX
def nnD (p : Nat × List Nat) : PyData := .tuple [natI p.1, tx p.2]
def rkOf (M : Mk) (a : List Nat) (p : Nat × List Nat) : Option Rk := (bestL M a p.2).map fun b => ((p.1 : Int), (⟨p.2.toArray⟩ : Str), b.1, rowD b.2)
def rowsOf (M : Mk) (a : List Nat) (ps : List (Nat × List Nat)) : List Rk := ps.filterMap (rkOf M a)
def R_ranked (ds : List PyData) (r : Res) : Prop := ∃ bs : List Rk, ds = [.list (bs.map rkD)] ∧ (∀ b ∈ bs, b.2.1.length ≤ 10000) ∧ r = .ok (.list ((rkS bs).map rkD))
def R_hits_of (ds : List PyData) (r : Res) : Prop := ∃ M a ps, ds = [mkD M, tx a, .list (ps.map nnD)] ∧ okM M ∧ a.length ≤ 100 ∧ (∀ p ∈ ps, p.2.length ≤ 1000) ∧ ps.length ≤ 10000 ∧ r = .ok (.list ((rkS (rowsOf M a ps)).map rkD))
theorem rows_snoc (M : Mk) (a : List Nat) (ps : List (Nat × List Nat)) (p : Nat × List Nat) : rowsOf M a (ps ++ [p]) = rowsOf M a ps ++ (rkOf M a p).toList := by
  unfold rowsOf
  rw [List.filterMap_append]
  cases h : rkOf M a p <;> simp [h]
theorem rkr_len (M : Mk) (a : List Nat) (ps : List (Nat × List Nat)) : (rowsOf M a ps).length ≤ ps.length := List.length_filterMap_le _ _
theorem rk_mem {M : Mk} {a : List Nat} {ps : List (Nat × List Nat)} {b : Rk} (h : b ∈ rowsOf M a ps) : ∃ p ∈ ps, ∃ q, bestL M a p.2 = some q ∧ b = ((p.1 : Int), (⟨p.2.toArray⟩ : Str), q.1, rowD q.2) := by
  unfold rowsOf at h
  obtain ⟨p, hp, e⟩ := List.mem_filterMap.mp h
  unfold rkOf at e
  cases hq : bestL M a p.2 with
  | none => rw [hq] at e; cases e
  | some q =>
    rw [hq] at e
    exact ⟨p, hp, q, hq, (Option.some.inj e).symm⟩
theorem rk_short {M : Mk} {a : List Nat} {ps : List (Nat × List Nat)} (hp : ∀ p ∈ ps, p.2.length ≤ 1000) : ∀ b ∈ rowsOf M a ps, b.2.1.length ≤ 10000 := fun b hb => by
  obtain ⟨p, h1, q, _, rfl⟩ := rk_mem hb
  have := hp p h1
  show p.2.toArray.size ≤ 10000
  simp
  omega
/-- the law's own row -/
def lrD (b : Rk) : PyData := .tuple [.int (0 - b.2.2.1), .int b.2.1.length, .int b.1, b.2.2.2]
theorem lt_self (d : PyData) : PySem.W.dataLt d d = false := lex_irrefl _
theorem lt_cI (x y : Int) (r r' : List PyData) : PyProof.Rows.lexLt itemOrd (PySem.W.keyToksAll (.int x :: r)) (PySem.W.keyToksAll (.int y :: r')) = if x = y then PyProof.Rows.lexLt itemOrd (PySem.W.keyToksAll r) (PySem.W.keyToksAll r') else decide (x < y) := by
  rw [PySem.W.dataLt_cons (by simp [PySem.W.alike]), PySem.W.dataLt_int]
  by_cases h : x = y <;> simp [PyData.eqv, h]
theorem lt_lr {b b' : Rk} (h : b.1 = b'.1 → b = b') : PySem.W.dataLt (lrD b) (lrD b') = PySem.W.dataLt (rkK b) (rkK b') := by
  by_cases e : b.1 = b'.1
  · rw [h e, lt_self, lt_self]
  · unfold lrD rkK
    rw [PySem.W.dataLt_tuple, PySem.W.dataLt_tuple]
    simp only [lt_cI, if_neg e]
theorem lr_sort {bs : List Rk} (h : ∀ b ∈ bs, ∀ b' ∈ bs, b.1 = b'.1 → b = b') : sortD (bs.map lrD) = (rkS bs).map lrD := by
  unfold sortD rkS
  refine (List.map_mergeSort fun b hb b' hb' => ?_).symm
  show (!PySem.W.dataLt (rkK b') (rkK b)) = (!PySem.W.dataLt (lrD b') (lrD b))
  rw [lt_lr (h b' hb' b hb)]
end Lf
set_option Elab.async false
set_option linter.all false
set_option maxRecDepth 100000
set_option maxHeartbeats 1000000
namespace Lf
open PySem PySem.Spec PyProof.Rows L2 LamX
def enumN (ls : List (List Nat)) : List (Nat × List Nat) := (List.range ls.length).map fun i => (i, ls.getD i [])
theorem enum_nn (ls : List (List Nat)) : (enumL (ls.map tx)).map encL = (enumN ls).map nnD := by
  unfold enumL enumN
  rw [List.map_map, List.map_map, List.length_map]
  refine List.map_congr_left fun i hi => ?_
  have hi : i < ls.length := List.mem_range.mp hi
  show encL (i, (ls.map tx).getD i .none) = nnD (i, ls.getD i [])
  unfold encL nnD
  simp only [List.getD_eq_getElem?_getD, List.getElem?_map, List.getElem?_eq_getElem hi, Option.map_some, Option.getD_some]
theorem enumN_len (ls : List (List Nat)) : (enumN ls).length = ls.length := by unfold enumN; rw [List.length_map, List.length_range]
theorem enumN_mem {ls : List (List Nat)} {p : Nat × List Nat} (h : p ∈ enumN ls) : p.2 ∈ ls := by
  unfold enumN at h
  obtain ⟨i, hi, rfl⟩ := List.mem_map.mp h
  have hi : i < ls.length := List.mem_range.mp hi
  show ls.getD i [] ∈ ls
  rw [List.getD_eq_getElem?_getD, List.getElem?_eq_getElem hi]
  exact List.getElem_mem hi
theorem enumN_fst {ls : List (List Nat)} {p q : Nat × List Nat} (h : p ∈ enumN ls) (h' : q ∈ enumN ls) (e : p.1 = q.1) : p = q := by
  unfold enumN at h h'
  obtain ⟨i, _, rfl⟩ := List.mem_map.mp h
  obtain ⟨j, _, rfl⟩ := List.mem_map.mp h'
  obtain rfl : i = j := e
  rfl
theorem rows_num {M : Mk} {a : List Nat} {ls : List (List Nat)} : ∀ b ∈ rowsOf M a (enumN ls), ∀ b' ∈ rowsOf M a (enumN ls), b.1 = b'.1 → b = b' := fun b hb b' hb' e => by
  obtain ⟨p, h1, q, h2, rfl⟩ := rk_mem hb
  obtain ⟨p', h1', q', h2', rfl⟩ := rk_mem hb'
  have : p = p' := enumN_fst h1 h1' (Int.ofNat.inj e)
  subst this
  rw [h2] at h2'
  cases h2'
  rfl
def rkT (b : Rk) : PyData := .tuple [.int b.1, .int b.2.2.1, b.2.2.2]
def hitsL (M : Mk) (a : List Nat) (ls : List (List Nat)) : List PyData := (rkS (rowsOf M a (enumN ls))).map rkT
theorem rkS_perm (bs : List Rk) : (rkS bs).Perm bs := List.mergeSort_perm _ _
end Lf
set_option Elab.async false
set_option linter.all false
set_option maxRecDepth 100000
set_option maxHeartbeats 1000000
namespace Lf
open PySem PySem.Spec PyProof.Rows L2 LamX
def namesM (more many most : Int) : List (List Nat) := (List.range (more % (many + 1)).toNat).map fun (j : Nat) => nameL (drawn more (20 + (j : Int))) most
theorem namesM_len {more many most : Int} (h : 0 ≤ many) : ((namesM more many most).length : Int) ≤ many := by
  unfold namesM
  rw [List.length_map, List.length_range]
  have h1 := Int.emod_nonneg more (show many + 1 ≠ 0 by omega)
  have h2 := Int.emod_lt_of_pos more (show 0 < many + 1 by omega)
  omega
theorem namesM_ok {more many most : Int} (h0 : 0 < most) (h : most ≤ 30) : ∀ l ∈ namesM more many most, isNm l = true ∧ (l.length : Int) ≤ most := fun l hl => by
  unfold namesM at hl
  obtain ⟨j, _, rfl⟩ := List.mem_map.mp hl
  exact ⟨nameL_ok h0 h, (nameL_len _ _ h0).2⟩
def R_law_rows (ds : List PyData) (r : Res) : Prop := ∃ M a ls, ds = [mkD M, tx a, .list (ls.map tx)] ∧ okM M ∧ a.length ≤ 8 ∧ (∀ l ∈ ls, isNm l = true ∧ l.length ≤ 12) ∧ ls.length ≤ 1000 ∧ r = .ok (.list (hitsL M a ls))
theorem alike_nats : ∀ p q : List Nat, PySem.W.alikeAll (p.map natI) (q.map natI) = true
  | [], q => by cases q <;> rfl
  | x :: p, [] => rfl
  | x :: p, y :: q => alike_nats p q
theorem lr_alike {bs : List Rk} (h : ∀ b ∈ bs, ∃ q, b.2.2.2 = rowD q) : PySem.W.AllAlike (bs.map lrD) ∧ PySem.W.Sortable (bs.map lrD) ∧ ∀ d ∈ bs.map lrD, d.depth ≤ 30 := by
  refine ⟨fun d hd d' hd' => ?_, PySem.W.Sortable.tuples fun _ => ⟨_, _, rfl⟩, fun d hd => ?_⟩
  · obtain ⟨b, hb, rfl⟩ := List.mem_map.mp hd
    obtain ⟨b', hb', rfl⟩ := List.mem_map.mp hd'
    obtain ⟨q, e⟩ := h b hb
    obtain ⟨q', e'⟩ := h b' hb'
    unfold lrD
    rw [e, e']
    have := alike_nats q q'
    unfold rowD
    simp only [PySem.W.alike, PySem.W.alikeAll, this, Bool.and_true]
  · obtain ⟨b, hb, rfl⟩ := List.mem_map.mp hd
    obtain ⟨q, e⟩ := h b hb
    have : Lay 2 (lrD b) := by
      unfold lrD
      rw [e]
      refine lay_tuple (n := 1) fun d hd => ?_
      simp only [List.mem_cons, List.not_mem_nil, or_false] at hd
      rcases hd with rfl | rfl | rfl | rfl
      · exact lay_int
      · exact lay_int
      · exact lay_int
      · exact lay_nats
    exact Nat.le_trans this.2 (by decide)
theorem rows_pl4 {M : Mk} {a : List Nat} {ps : List (Nat × List Nat)} : ∀ b ∈ rowsOf M a ps, ∃ q, b.2.2.2 = rowD q := fun b hb => by
  obtain ⟨p, h1, q, _, rfl⟩ := rk_mem hb
  exact ⟨_, rfl⟩
theorem rkS_mem {bs : List Rk} {b : Rk} (h : b ∈ rkS bs) : b ∈ bs := (rkS_perm bs).mem_iff.mp h
theorem rkS_len (bs : List Rk) : (rkS bs).length = bs.length := List.length_mergeSort _
end Lf
set_option Elab.async false
set_option linter.all false
set_option maxRecDepth 100000
set_option maxHeartbeats 1000000
namespace Lf
open PySem PySem.Spec PyProof.Rows L2 LamX
abbrev Nw := List Nat × Int × Int × List Nat
def nowD (s : Nw) : PyData := .tuple [tx s.1, .int s.2.1, .int s.2.2.1, .tuple (s.2.2.2.map natI)]
structure PSt where
  M : Mk
  ls : List (List Nat)
  tall : Int
  now : Nw
  past : List Nw
  ahead : List Nw
def rowsA (M : Mk) (ls : List (List Nat)) (a : List Nat) : List Rk := rkS (rowsOf M a (enumN ls))
structure okN (M : Mk) (ls : List (List Nat)) (s : Nw) : Prop where
  a : isAs s.1 = true
  c0 : 0 ≤ s.2.1
  t0 : 0 ≤ s.2.2.1
  c : rowsA M ls s.1 = [] ∨ s.2.1 < ((rowsA M ls s.1).length : Int)
  c1 : s.2.1 ≤ 60
  t1 : s.2.2.1 ≤ 60
  m : ∀ x ∈ s.2.2.2, x < ls.length
  n : s.2.2.2.Nodup
structure okP (S : PSt) : Prop where
  M : okM S.M
  l : S.ls.length ≤ 60
  n : ∀ l ∈ S.ls, isNm l = true
  t0 : 1 ≤ S.tall
  t1 : S.tall ≤ 20
  now : okN S.M S.ls S.now
  past : ∀ s ∈ S.past, okN S.M S.ls s
  ahead : ∀ s ∈ S.ahead, okN S.M S.ls s
theorem nd_le : ∀ (n : Nat) (l : List Nat), l.Nodup → (∀ x ∈ l, x < n) → l.length ≤ n
  | 0, l, _, h => by
    cases l with
    | nil => exact Nat.le_refl _
    | cons a l => exact absurd (h a List.mem_cons_self) (by omega)
  | n + 1, l, hd, h => by
    have ih := nd_le n (l.erase n) (hd.erase n) (fun x hx => by
      have h1 := h x (List.mem_of_mem_erase hx)
      have h2 : x ≠ n := fun z => by
        rw [z] at hx
        exact hd.not_mem_erase hx
      omega)
    have : l.length ≤ (l.erase n).length + 1 := by
      rw [List.length_erase]
      split <;> omega
    omega
theorem okN.some_le {M : Mk} {ls : List (List Nat)} {s : Nw} (h : okN M ls s) : s.2.2.2.length ≤ ls.length := nd_le _ _ h.n h.m
theorem rowsA_len (M : Mk) (ls : List (List Nat)) (a : List Nat) : (rowsA M ls a).length ≤ ls.length := by
  unfold rowsA
  rw [rkS_len]
  have := rkr_len M a (enumN ls)
  rwa [enumN_len] at this
abbrev fPicker : List Str := ["marks", "pairs", "tall", "now", "past", "ahead"]
def pickerO (C : Addr) (M : Mk) (ls : List (List Nat)) (tall : Int) (now : Nw) (q1 q2 : Addr) : MO := .ins C fPicker [mkD M, .list ((enumN ls).map nnD), .int tall, nowD now, ptrD q1, ptrD q2]
abbrev J3 := Nat × Nat × Nat
structure PkAt (C : Addr) (W : Wd) (J : J3) (p : Addr) (S : PSt) : Prop where
  o : ∃ q1 q2, W[J.1]? = some (p, pickerO C S.M S.ls S.tall S.now q1 q2) ∧ W[J.2.1]? = some (q1, .lst (S.past.map nowD)) ∧ W[J.2.2]? = some (q2, .lst (S.ahead.map nowD))
  n1 : J.1 ≠ J.2.1
  n2 : J.1 ≠ J.2.2
  n3 : J.2.1 ≠ J.2.2
/-- all else is as it was -/
structure Kps (J : J3) (W W' : Wd) : Prop where
  l : W.length ≤ W'.length
  k : ∀ (i : Nat) x, W[i]? = some x → i ≠ J.1 → i ≠ J.2.1 → i ≠ J.2.2 → W'[i]? = some x
def mxI (i j : Int) : Int := if j > i then j else i
def mnI (i j : Int) : Int := if j < i then j else i
def PSt.did (S : PSt) (s : Nw) : PSt := { S with now := s, past := S.past ++ [S.now], ahead := [] }
def PSt.pressed (S : PSt) (c : Nat) : Nw := (S.now.1 ++ [c], 0, 0, S.now.2.2.2)
def PSt.rubbed (S : PSt) : Nw := (S.now.1.dropLast, 0, 0, S.now.2.2.2)
def PSt.rows (S : PSt) : List Rk := rowsA S.M S.ls S.now.1
def PSt.cur (S : PSt) (by_ : Int) : Int := mxI 0 (mnI ((S.rows.length : Int) - 1) (S.now.2.1 + by_))
def PSt.stepped (S : PSt) (by_ : Int) : Nw := (S.now.1, S.cur by_, mnI (S.cur by_) (mxI S.now.2.2.1 (S.cur by_ - S.tall + 1)), S.now.2.2.2)
/-- the place at the cursor -/
def PSt.at_ (S : PSt) : Option Nat := if S.rows = [] then none else some ((S.rows.getD S.now.2.1.toNat (0, ⟨#[]⟩, 0, .none)).1.toNat)
def mark1 (l : List Nat) (x : Nat) : List Nat := if x ∈ l then l.filter (fun y => !decide (y = x)) else l ++ [x]
def PSt.marked (S : PSt) (x : Nat) : Nw := (S.now.1, S.now.2.1, S.now.2.2.1, mark1 S.now.2.2.2 x)
def optN : Option Nat → PyData
  | none => .none
  | some i => natI i
def PSt.seen (S : PSt) : List PyData := ((List.range S.rows.length).filter fun (i : Nat) => decide (S.now.2.2.1 ≤ (i : Int)) && decide ((i : Int) < S.now.2.2.1 + S.tall)).map fun (i : Nat) =>
  let b := S.rows.getD i (0, ⟨#[]⟩, 0, .none)
  .tuple [.bool (decide ((i : Int) = S.now.2.1)), .bool (decide (b.1.toNat ∈ S.now.2.2.2)), tx (shownL b.2.1.cps.toList ((lsOf b.2.2.2).map fun d => (intOf d).toNat))]
def PSt.doneL (S : PSt) : List Nat := if S.now.2.2.2 = [] then (match S.at_ with | none => [] | some i => [i]) else S.now.2.2.2
/-- a sign that can't be typed -/
def badSign (a : List Nat) (d : PyData) : Bool := !(isTx d && decide ((cod d).length = 1) && isAs (a ++ cod d))
section
variable (C C0 C1 C2 C4 C5 C6 : Addr)
def RW_Picker_become (ds : List PyData) (W : Wd) (Ω : PyData → Wd → Prop) : Prop := ∃ J p S s, ds = [ptrD p, nowD s] ∧ PkAt C W J p S ∧ S.past.length < 50000 ∧ Ω = fun d W' => d = .none ∧ PkAt C W' (J.1, J.2.1, W.length) p (S.did s) ∧ Kps J W W'
def R_Picker_in_turn (ds : List PyData) (W : Wd) (r : Res) : Prop := ∃ J p S, ds = [ptrD p] ∧ PkAt C W J p S ∧ okP S ∧ r = .ok (.list (S.rows.map rkD))
def RX_Picker_press (ds : List PyData) (W : Wd) (r : Res) : Prop := ∃ J p S d, ds = [ptrD p, d] ∧ PkAt C W J p S ∧ okP S ∧ okd d ∧ badSign S.now.1 d = true ∧ r = .error C1
def RW_Picker_press (ds : List PyData) (W : Wd) (Ω : PyData → Wd → Prop) : Prop := ∃ J p S c, ds = [ptrD p, tx [c]] ∧ PkAt C W J p S ∧ okP S ∧ S.past.length < 50000 ∧ isAs (S.now.1 ++ [c]) = true ∧ Ω = fun d W' => d = .none ∧ PkAt C W' (J.1, J.2.1, W.length) p (S.did (S.pressed c)) ∧ Kps J W W'
def RX_Picker_rub (ds : List PyData) (W : Wd) (r : Res) : Prop := ∃ J p S, ds = [ptrD p] ∧ PkAt C W J p S ∧ okP S ∧ S.now.1 = [] ∧ r = .error C6
def RW_Picker_rub (ds : List PyData) (W : Wd) (Ω : PyData → Wd → Prop) : Prop := ∃ J p S, ds = [ptrD p] ∧ PkAt C W J p S ∧ okP S ∧ S.past.length < 50000 ∧ S.now.1 ≠ [] ∧ Ω = fun d W' => d = .none ∧ PkAt C W' (J.1, J.2.1, W.length) p (S.did S.rubbed) ∧ Kps J W W'
def RW_Picker_step (ds : List PyData) (W : Wd) (Ω : PyData → Wd → Prop) : Prop := ∃ J p S i, ds = [ptrD p, .int i] ∧ PkAt C W J p S ∧ okP S ∧ S.past.length < 50000 ∧ -60 ≤ i ∧ i ≤ 60 ∧ Ω = fun d W' => d = .none ∧ PkAt C W' (J.1, J.2.1, W.length) p (S.did (S.stepped i)) ∧ Kps J W W'
def R_Picker_at (ds : List PyData) (W : Wd) (r : Res) : Prop := ∃ J p S, ds = [ptrD p] ∧ PkAt C W J p S ∧ okP S ∧ r = .ok (optN S.at_)
def RX_Picker_mark (ds : List PyData) (W : Wd) (r : Res) : Prop := ∃ J p S, ds = [ptrD p] ∧ PkAt C W J p S ∧ okP S ∧ S.at_ = none ∧ r = .error C5
def RW_Picker_mark (ds : List PyData) (W : Wd) (Ω : PyData → Wd → Prop) : Prop := ∃ J p S x, ds = [ptrD p] ∧ PkAt C W J p S ∧ okP S ∧ S.past.length < 50000 ∧ S.at_ = some x ∧ Ω = fun d W' => d = .none ∧ PkAt C W' (J.1, J.2.1, W.length) p (S.did (S.marked x)) ∧ Kps J W W'
def RX_Picker_undo (ds : List PyData) (W : Wd) (r : Res) : Prop := ∃ J p S, ds = [ptrD p] ∧ PkAt C W J p S ∧ okP S ∧ S.past = [] ∧ r = .error C6
def RW_Picker_undo (ds : List PyData) (W : Wd) (Ω : PyData → Wd → Prop) : Prop := ∃ J p S l s, ds = [ptrD p] ∧ PkAt C W J p S ∧ okP S ∧ S.ahead.length < 50000 ∧ S.past.length < 50000 ∧ S.past = l ++ [s] ∧ Ω = fun d W' => d = .none ∧ PkAt C W' J p { S with now := s, past := l, ahead := S.ahead ++ [S.now] } ∧ Kps J W W'
def RX_Picker_redo (ds : List PyData) (W : Wd) (r : Res) : Prop := ∃ J p S, ds = [ptrD p] ∧ PkAt C W J p S ∧ okP S ∧ S.ahead = [] ∧ r = .error C6
def RW_Picker_redo (ds : List PyData) (W : Wd) (Ω : PyData → Wd → Prop) : Prop := ∃ J p S l s, ds = [ptrD p] ∧ PkAt C W J p S ∧ okP S ∧ S.ahead.length < 50000 ∧ S.past.length < 50000 ∧ S.ahead = l ++ [s] ∧ Ω = fun d W' => d = .none ∧ PkAt C W' J p { S with now := s, past := S.past ++ [S.now], ahead := l } ∧ Kps J W W'
def R_Picker_ask (ds : List PyData) (W : Wd) (r : Res) : Prop := ∃ J p S, ds = [ptrD p] ∧ PkAt C W J p S ∧ r = .ok (tx S.now.1)
def R_Picker_chosen (ds : List PyData) (W : Wd) (r : Res) : Prop := ∃ J p S, ds = [ptrD p] ∧ PkAt C W J p S ∧ r = .ok (.list (S.now.2.2.2.map natI))
def R_Picker_seen (ds : List PyData) (W : Wd) (r : Res) : Prop := ∃ J p S, ds = [ptrD p] ∧ PkAt C W J p S ∧ okP S ∧ r = .ok (.list S.seen)
def R_Picker_done (ds : List PyData) (W : Wd) (r : Res) : Prop := ∃ J p S, ds = [ptrD p] ∧ PkAt C W J p S ∧ okP S ∧ r = .ok (.list (S.doneL.map fun i => tx (S.ls.getD i [])))
end
theorem okN.start {M : Mk} {ls : List (List Nat)} {s : Nw} (h : okN M ls s) {a : List Nat} (ha : isAs a = true) : okN M ls (a, 0, 0, s.2.2.2) := ⟨ha, Int.le_refl _, Int.le_refl _, by
  cases e : rowsA M ls a with
  | nil => exact .inl rfl
  | cons b l => exact .inr (by show (0 : Int) < _; rw [List.length_cons]; omega), by show (0 : Int) ≤ 60; decide, by show (0 : Int) ≤ 60; decide, h.m, h.n⟩
theorem okP.did {S : PSt} {s : Nw} (h : okP S) (g : okN S.M S.ls s) : okP (S.did s) := ⟨h.M, h.l, h.n, h.t0, h.t1, g, fun x hx => by
  rcases List.mem_append.mp (show x ∈ S.past ++ [S.now] from hx) with z | z
  · exact h.past x z
  · rw [List.mem_singleton.mp z]; exact h.now, fun x hx => by cases hx⟩
theorem isAs_dropL {a : List Nat} (h : isAs a = true) : isAs a.dropLast = true := by
  unfold isAs at h ⊢
  simp only [Bool.and_eq_true, List.all_eq_true, decide_eq_true_eq] at h ⊢
  refine ⟨by rw [List.length_dropLast]; omega, fun c hc => h.2 c (List.dropLast_subset _ hc)⟩
theorem okP.pressed {S : PSt} {c : Nat} (h : okP S) (g : isAs (S.now.1 ++ [c]) = true) : okP (S.did (S.pressed c)) := h.did (h.now.start g)
theorem okP.rubbed {S : PSt} (h : okP S) : okP (S.did S.rubbed) := h.did (h.now.start (isAs_dropL h.now.a))
theorem okP.stepped {S : PSt} (h : okP S) (i : Int) : okP (S.did (S.stepped i)) := by
  refine h.did ?_
  have hl := rowsA_len S.M S.ls S.now.1
  have hl2 := h.l
  have e : S.rows = rowsA S.M S.ls S.now.1 := rfl
  have hc : 0 ≤ S.cur i ∧ S.cur i ≤ 60 ∧ (rowsA S.M S.ls S.now.1 = [] ∨ S.cur i < ((rowsA S.M S.ls S.now.1).length : Int)) := by
    unfold PSt.cur mxI mnI
    rw [e]
    cases e2 : rowsA S.M S.ls S.now.1 with
    | nil =>
      refine ⟨?_, ?_, .inl rfl⟩
      · split <;> split <;> omega
      · simp only [List.length_nil]
        split <;> split <;> omega
    | cons b l =>
      rw [e2] at hl
      refine ⟨?_, ?_, .inr ?_⟩
      · split <;> split <;> omega
      · split <;> split <;> omega
      · rw [List.length_cons] at *
        split <;> split <;> omega
  have ht := h.now.t0
  have ht1 := h.now.t1
  exact ⟨h.now.a, hc.1, (by show 0 ≤ mnI (S.cur i) (mxI S.now.2.2.1 (S.cur i - S.tall + 1)); unfold mnI mxI; split <;> split <;> omega), hc.2.2, hc.2.1, (by show mnI (S.cur i) (mxI S.now.2.2.1 (S.cur i - S.tall + 1)) ≤ 60; unfold mnI mxI; split <;> split <;> omega), h.now.m, h.now.n⟩
theorem row_num {M : Mk} {ls : List (List Nat)} {a : List Nat} {b : Rk} (h : b ∈ rowsA M ls a) : ∃ (i : Nat), ∃ q : Int × List Nat, i < ls.length ∧ b = ((i : Int), (⟨(ls.getD i []).toArray⟩ : Str), q.1, rowD q.2) := by
  obtain ⟨p, hp, q, hq, e⟩ := rk_mem (rkS_mem h)
  unfold enumN at hp
  obtain ⟨i, hi, rfl⟩ := List.mem_map.mp hp
  exact ⟨i, q, List.mem_range.mp hi, e⟩
theorem at_lt {S : PSt} (h : okP S) {x : Nat} (e : S.at_ = some x) : x < S.ls.length ∧ ∃ q : Int × List Nat, S.rows[S.now.2.1.toNat]? = some ((x : Int), (⟨(S.ls.getD x []).toArray⟩ : Str), q.1, rowD q.2) := by
  unfold PSt.at_ at e
  split at e
  · cases e
  · rename_i hn
    have hc := (h.now.c.resolve_left hn)
    have h0 := h.now.c0
    have hlt : S.now.2.1.toNat < S.rows.length := by
      have : S.rows = rowsA S.M S.ls S.now.1 := rfl
      rw [this]
      omega
    have hg : S.rows[S.now.2.1.toNat]? = some S.rows[S.now.2.1.toNat] := List.getElem?_eq_getElem hlt
    obtain ⟨i, q, hi, eb⟩ := row_num (List.getElem_mem hlt)
    rw [List.getD_eq_getElem?_getD, hg, Option.getD_some, eb] at e
    have ex : i = x := by simpa using e
    subst ex
    exact ⟨hi, q, by rw [hg, eb]⟩
theorem mark1_ok {n x : Nat} {l : List Nat} (hn : l.Nodup) (hm : ∀ y ∈ l, y < n) (hx : x < n) : (mark1 l x).Nodup ∧ ∀ y ∈ mark1 l x, y < n := by
  unfold mark1
  split
  · exact ⟨hn.filter _, fun y hy => hm y (List.mem_filter.mp hy).1⟩
  · rename_i h
    refine ⟨List.nodup_append.mpr ⟨hn, List.nodup_cons.mpr ⟨by simp, List.nodup_nil⟩, fun a ha b hb z => h (by rw [← List.mem_singleton.mp hb, ← z]; exact ha)⟩, fun y hy => ?_⟩
    rcases List.mem_append.mp hy with z | z
    · exact hm y z
    · rw [List.mem_singleton.mp z]; exact hx
theorem okP.marked {S : PSt} (h : okP S) {x : Nat} (e : S.at_ = some x) : okP (S.did (S.marked x)) := by
  refine h.did ?_
  obtain ⟨k1, k2⟩ := mark1_ok h.now.n h.now.m (at_lt h e).1
  exact ⟨h.now.a, h.now.c0, h.now.t0, h.now.c, h.now.c1, h.now.t1, k2, k1⟩
theorem Kps.trans {J : J3} {j : Nat} {W W1 W2 : Wd} (h : Kps J W W1) (g : Kps (J.1, J.2.1, j) W1 W2) (hj : W.length ≤ j) : Kps J W W2 := ⟨Nat.le_trans h.l g.l, fun i x e n1 n2 n3 => g.k i x (h.k i x e n1 n2 n3) n1 n2 (fun z => by have := wlt e; have z : i = j := z; omega)⟩
end Lf
set_option Elab.async false
set_option linter.all false
set_option maxRecDepth 100000
set_option maxHeartbeats 1000000
namespace Lf
open PySem PySem.Spec PyProof.Rows L2 LamX
theorem as_lowP {a : List Nat} (h : isAs a = true) : ∀ c ∈ a, c < 128 := fun c hc => by
  unfold isAs at h
  simp only [Bool.and_eq_true, List.all_eq_true, decide_eq_true_eq] at h
  have : ∀ c ∈ lSmall ++ lGreat ++ lFig, c < 128 := by decide +kernel
  exact this c (h.2 c hc)
theorem range_atx {n x : Nat} {pre post : List Nat} (h : List.range n = pre ++ x :: post) : x = pre.length ∧ x < n := by
  have e : (List.range n)[pre.length]? = some x := by rw [h]; simp
  have hl := (List.getElem?_eq_some_iff.mp e).1
  rw [List.length_range] at hl
  rw [List.getElem?_range hl] at e
  cases e
  exact ⟨rfl, hl⟩
theorem rk_lay (S : PSt) (h : okP S) : ∀ d ∈ S.rows.map rkD, Lay 2 d := fun d hd => by
  obtain ⟨b, hb, rfl⟩ := List.mem_map.mp hd
  obtain ⟨i, q, hi, rfl⟩ := row_num hb
  unfold rkD
  refine lay_tuple (n := 1) fun d hd => ?_
  simp only [List.mem_cons, List.not_mem_nil, or_false] at hd
  have hn := h.n _ (getD_mem hi)
  rcases hd with rfl | rfl | rfl | rfl
  · exact lay_int
  · exact lay_tx (n := 1) fun c hc => by
      have := (alpha_low c (isNm_alpha hn c hc)).1
      omega
  · exact lay_int
  · exact lay_nats
theorem at_none {S : PSt} (e : S.at_ = none) : S.rows = [] := by
  unfold PSt.at_ at e
  split at e
  · rename_i h; exact h
  · cases e
theorem row_at {S : PSt} (h : okP S) {b : Rk} (e : S.rows[S.now.2.1.toNat]? = some b) : atI (S.rows.map rkD) S.now.2.1 = some (rkD b) := by
  have h0 := h.now.c0
  rw [show S.now.2.1 = ((S.now.2.1.toNat : Nat) : Int) by omega]
  exact atI_nat (by rw [List.getElem?_map, e]; rfl)
theorem rowsP_ne {S : PSt} (h : S.rows ≠ []) : (!PyData.eqv (.list (S.rows.map rkD)) (.list [])) = true := by
  cases e : S.rows with
  | nil => exact absurd e h
  | cons b l => rfl
theorem lay_nows {M : Mk} {ls : List (List Nat)} {l : List Nw} (h : ∀ s ∈ l, okN M ls s) : Lay 3 (.list (l.map nowD)) := lay_list (n := 2) fun d hd => by
  obtain ⟨s, hs, rfl⟩ := List.mem_map.mp hd
  unfold nowD
  refine lay_tuple (n := 1) fun d hd => ?_
  simp only [List.mem_cons, List.not_mem_nil, or_false] at hd
  rcases hd with rfl | rfl | rfl | rfl
  · exact lay_tx (n := 1) fun c hc => by
      have := as_lowP (h s hs).a c hc
      omega
  · exact lay_int
  · exact lay_int
  · exact lay_tuple (n := 0) fun d hd => by obtain ⟨i, _, rfl⟩ := List.mem_map.mp hd; exact lay_int
theorem nows_ne (l : List Nw) (s : Nw) : PyData.eqv (.list ((l ++ [s]).map nowD)) (.list []) = false := by
  cases l <;> rfl
theorem getD_row {l : List Rk} {i : Nat} (h : i < l.length) : l.getD i (0, ⟨#[]⟩, 0, .none) ∈ l := by
  rw [List.getD_eq_getElem?_getD, List.getElem?_eq_getElem h]
  exact List.getElem_mem h
def seenB (S : PSt) (i : Nat) : Bool := decide (S.now.2.2.1 ≤ (i : Int)) && decide ((i : Int) < S.now.2.2.1 + S.tall)
def seen1 (S : PSt) (i : Nat) : PyData := let b := S.rows.getD i (0, ⟨#[]⟩, 0, .none)
  .tuple [.bool (decide ((i : Int) = S.now.2.1)), .bool (decide (b.1.toNat ∈ S.now.2.2.2)), tx (shownL b.2.1.cps.toList ((lsOf b.2.2.2).map fun d => (intOf d).toNat))]
def seenP (S : PSt) (l : List Nat) : List PyData := (l.filter (seenB S)).map (seen1 S)
theorem seen_is (S : PSt) : S.seen = seenP S (List.range S.rows.length) := rfl
theorem seen_le (S : PSt) (l : List Nat) : (seenP S l).length ≤ l.length := by
  unfold seenP
  rw [List.length_map]
  exact List.length_filter_le _ _
theorem seen_snoc (S : PSt) (l : List Nat) (i : Nat) : seenP S (l ++ [i]) = seenP S l ++ (if seenB S i = true then [seen1 S i] else []) := by
  unfold seenP
  rw [List.filter_append, List.map_append]
  by_cases h : seenB S i = true
  · rw [if_pos h]; simp [h]
  · rw [if_neg h]; simp [h]
theorem any_natI (l : List Nat) (x : Nat) : ((l.map natI).any fun z => PyData.eqv z (natI x)) = decide (x ∈ l) := by
  induction l with
  | nil => simp
  | cons a l ih =>
    rw [List.map_cons, List.any_cons, ih]
    have : PyData.eqv (natI a) (natI x) = decide (a = x) := by
      show (((a : Nat) : Int) == ((x : Nat) : Int)) = decide (a = x)
      by_cases h : a = x
      · simp [h]
      · have : ¬ ((a : Int) = (x : Int)) := by omega
        simp [h, this]
    rw [this]
    by_cases h : a = x
    · simp [h]
    · have h2 : ¬ x = a := fun z => h z.symm
      simp [h, h2]
theorem row_back (r : List Nat) : (lsOf (rowD r)).map (fun d => (intOf d).toNat) = r := by
  unfold rowD
  show (r.map natI).map (fun d => (intOf d).toNat) = r
  rw [List.map_map]
  conv => rhs; rw [← List.map_id r]
  exact List.map_congr_left fun i _ => by simp [natI, intOf]
/-- rows, numbered -/
def nrD (S : PSt) (i : Nat) : PyData := .tuple [natI i, rkD (S.rows.getD i (0, ⟨#[]⟩, 0, .none))]
theorem enum_rows (S : PSt) : (enumL (S.rows.map rkD)).map encL = (List.range S.rows.length).map (nrD S) := by
  unfold enumL
  rw [List.map_map, List.length_map]
  refine List.map_congr_left fun i hi => ?_
  have hi : i < S.rows.length := List.mem_range.mp hi
  show encL (i, (S.rows.map rkD).getD i .none) = nrD S i
  unfold encL nrD
  simp only [List.getD_eq_getElem?_getD, List.getElem?_map, List.getElem?_eq_getElem hi, Option.map_some, Option.getD_some]
theorem nats_emp (l : List Nat) : PyData.eqv (.list (l.map natI)) (.list []) = decide (l = []) := by
  cases l <;> rfl
theorem pair_at {ls : List (List Nat)} {i : Nat} (h : i < ls.length) : atI ((enumN ls).map nnD) ((i : Nat) : Int) = some (.tuple [natI i, tx (ls.getD i [])]) := by
  refine atI_nat ?_
  rw [List.getElem?_map]
  unfold enumN
  rw [List.getElem?_map, List.getElem?_range h]
  rfl
end Lf
namespace Lf
open PySem PySem.Spec PyProof.Rows L2 LamX
theorem set_app {W V : Wd} {j : Nat} {a b : Addr × MO} (h : j < W.length) : (W.set j a ++ V).set j b = W.set j b ++ V := by
  rw [List.set_append_left _ _ (by rw [List.length_set]; exact h), List.set_set]
theorem nat_filter (l : List Nat) (x : Nat) : ((l.filter fun (y : Nat) => !decide ((y : Int) = (x : Int))).map fun (y : Nat) => PyData.int (y : Int)) = (l.filter fun y => !decide (y = x)).map natI := by
  have : (fun y : Nat => !decide ((y : Int) = (x : Int))) = fun y => !decide (y = x) := by
    funext y
    by_cases h : y = x
    · simp [h]
    · have : ¬ ((y : Int) = (x : Int)) := by omega
      simp [h, this]
  rw [this]
  rfl
theorem mark_in {l : List Nat} {x : Nat} (h : x ∈ l) : PyData.tuple ((l.filter fun (y : Nat) => !decide ((y : Int) = (x : Int))).map fun (y : Nat) => PyData.int (y : Int)) = .tuple ((mark1 l x).map natI) := by
  rw [nat_filter]
  unfold mark1
  rw [if_pos h]
theorem mark_out {l : List Nat} {x : Nat} (h : ¬ x ∈ l) : PyData.tuple (l.map natI ++ [natI x]) = .tuple ((mark1 l x).map natI) := by
  unfold mark1
  rw [if_neg h, List.map_append]
  rfl
end Lf
set_option Elab.async false
set_option linter.all false
set_option maxRecDepth 100000
set_option maxHeartbeats 1000000
namespace Lf
open PySem PySem.Spec PyProof.Rows L2 LamX
theorem at_rows {S : PSt} (h : S.rows = []) : S.at_ = none := by
  unfold PSt.at_
  rw [if_pos h]
theorem okP_start {M : Mk} {ls : List (List Nat)} {tall : Int} (hM : okM M) (hl : ls.length ≤ 60) (hn : ∀ l ∈ ls, isNm l = true) (h0 : 1 ≤ tall) (h1 : tall ≤ 20) : okP ⟨M, ls, tall, ([], 0, 0, []), [], []⟩ := ⟨hM, hl, hn, h0, h1, ⟨(by show isAs [] = true; decide), Int.le_refl _, Int.le_refl _, by
  cases e : rowsA M ls [] with
  | nil => exact .inl rfl
  | cons b l => exact .inr (by show (0 : Int) < _; rw [List.length_cons]; omega), (by show (0 : Int) ≤ 60; decide), (by show (0 : Int) ≤ 60; decide), (fun x hx => by cases hx), List.nodup_nil⟩, (fun s hs => by cases hs), (fun s hs => by cases hs)⟩
theorem PkAt.app {C : Addr} {W V : Wd} {J : J3} {p : Addr} {S : PSt} (h : PkAt C W J p S) : PkAt C (W ++ V) J p S := by
  obtain ⟨q1, q2, a, b, c⟩ := h.o
  exact ⟨⟨q1, q2, wapp a, wapp b, wapp c⟩, h.n1, h.n2, h.n3⟩
theorem PkAt.lt {C : Addr} {W : Wd} {J : J3} {p : Addr} {S : PSt} (h : PkAt C W J p S) : J.1 < W.length ∧ J.2.1 < W.length ∧ J.2.2 < W.length := by
  obtain ⟨q1, q2, a, b, c⟩ := h.o
  exact ⟨wlt a, wlt b, wlt c⟩
end Lf
namespace Lf
open PySem PySem.Spec PyProof.Rows L2 LamX
end Lf
namespace Lf
open PySem PySem.Spec PyProof.Rows L2 LamX
end Lf
namespace Lf
open PySem PySem.Spec PyProof.Rows L2 LamX
end Lf
set_option Elab.async false
set_option linter.all false
set_option maxRecDepth 100000
set_option maxHeartbeats 4000000
namespace Lf
open PySem PySem.Spec PyProof.Rows L2 L2H HotX LamX
section
variable {Kf : PySem.W.Frag} {Tf : List (Addr × Str)} {F : Fx Kf Tf} {δ : List Slot} {X : Cx} {N ns : List Str} {sc : Scope} {pos apos pos' cpos tpos p1 : Pos} {a b c e o value : Expr} {es : List Expr} {d d1 z : PyData} {ds fs : List PyData} {x f m : Str} {W : Wd} {ro : Bool} {p C : Addr} {rest body els : List Stmt} {P : Post} {g j : Nat} {Ω : PyData → Wd → Prop} {kvs : List (Key × PyData)} {k : Key}
theorem wd_at {O : Addr → Prop} {H : Hp} {σ : L2.St} (st : StAt F O H σ δ) (hg : δ[g]? = some (.wd ro W)) (hp : (p, .dic kvs) ∈ W) : ∃ vs, H p = some (.dK vs) ∧ KvAll O H kvs vs := (st.w hg).laid.2 _ hp
theorem wl_at {O : Addr → Prop} {H : Hp} {σ : L2.St} (st : StAt F O H σ δ) (hg : δ[g]? = some (.wd ro W)) (hp : (p, .lst ds) ∈ W) : ∃ vs, H p = some (.lst vs) ∧ DtAll O H ds vs := (st.w hg).laid.2 _ hp
/-- o[k], a dict -/
theorem x_wget (g : Nat) (hu : X.A.units + 1 < cLine) (hg : δ[g]? = some (.wd ro W)) (hp : (p, .dic kvs) ∈ W) (ho : PE X o (tD F δ (ptrD p))) (hk : PE X b (tD F δ d1)) (hkk : d1 = keyD k) (hv : getK kvs k = some d) (hs : NoSl b := by exact fun _ _ => rfl) : PE X (.Subscript o b pos) (tD F δ d) :=
  wkE (pe_dget hu ho hk hs) fun σ H Q h => by
    obtain ⟨O, st, w⟩ := h
    refine ⟨O, st, fun x H0 e0 t0 g0 => ⟨O, st.grow e0 t0, fun y H1 e' t' g' => ?_⟩⟩
    rw [dt_ptr_eq g0]
    obtain ⟨vs2, gq2, r2⟩ := wd_at ((st.grow e0 t0).grow e' t') hg hp
    obtain ⟨z, z1, z2⟩ := (kv_get r2).1 d hv
    subst hkk
    rw [kV_of g']
    refine ⟨p, z, rfl, ?_, w z H1 (e0.trans e') t' z2⟩
    have := DGet.k (k := k) gq2
    rw [z1] at this
    exact this
theorem x_wlenL (g : Nat) (cx : Ctx X N sc) (hm : X.mg "len" = none) (hg : δ[g]? = some (.wd ro W)) (hp : (p, .lst ds) ∈ W) (ho : PE X o (tD F δ (ptrD p))) (hgl : sc.names.lookup ("len" : Str) = some .globalImplicit := by rfl) (hs : starEach [o] X.env = (false, eval o X.env) :: starEach [] X.env := by rfl) : PE X (.Call (.Name "len" p1) [o] [] pos) (tD F δ (.int ds.length)) :=
  wkE (pe_callB call_len (cx.gl hgl) hm PySem.boot_len (pa_cons ho pa_nil hs) (by decide) (by decide) hs (by rfl)) fun σ H Q h => by
    obtain ⟨O, st, w⟩ := h
    refine ⟨O, st, fun x H0 e0 t0 g0 => ?_⟩
    rw [dt_ptr_eq g0]
    obtain ⟨vs, gq, r⟩ := wl_at (st.grow e0 t0) hg hp
    exact ⟨_, ds.length, rfl, .inl ⟨vs, SqL.of gq, r.len.symm⟩, w _ H0 e0 t0 rfl⟩
/-- o[k] = v -/
theorem s_wput (g j : Nat) (cx : CtD X N sc F.E) (hu : X.A.units + 1 < cLine) (hg : δ[g]? = some (.wd false W)) (hj : W[j]? = some (p, .dic kvs)) (h : PE X e (tD F δ d)) (ho : PE X o (tD F δ (ptrD p))) (hn : PE X b (tD F δ d1)) (hkk : d1 = keyD k) (hz : kvs.length < 100000) (hr : PSs X rest (sD F (δ.set g (.wd false (W.set j (p, .dic (putD kvs k d))))) P))
    (hs : swapsWithSole [.Subscript o b tpos] e pos.line X.env = pure false := by rfl) (hw : swappedStores [.Subscript o b tpos] e (envS sc) = pure none := by rfl) (h1 : (assignEach [.Subscript o b tpos] X.env).map (·.2) = [assign (.Subscript o b tpos) X.env] := by rfl)
    (ha : ∀ v, assign (.Subscript o b tpos) X.env v = (do
      let ov ← holding [v] (eval o X.env)
      let iv ← holding [v, ov] (eval b X.env)
      standAt tpos
      holding [v, ov, iv] (setItem ov iv v)
      release [v, ov, iv] []) := by intro _; rfl) :
    PSs X (.Assign [.Subscript o b tpos] e pos :: rest) (sD F δ P) :=
  wkSs (pss_cons (ps_asg h (pg_sub ho hn (set_dict hu) ha) hs (sw_eq cx.toCtx hw) h1) hr) fun D σ H h' => by
    obtain ⟨O, τ, s0, tm, w⟩ := h'
    refine ⟨O, s0, fun v H1 ex1 t1 g1 => ⟨O, s0.grow ex1 t1, fun x H0 e0 t0 g0 => ⟨O, (s0.grow ex1 t1).grow e0 t0, fun y H2 ex2 t2 g2 => ?_⟩⟩⟩
    rw [dt_ptr_eq g0]
    have s2 := ((s0.grow ex1 t1).grow e0 t0).grow ex2 t2
    have hwa := s2.w hg
    obtain ⟨vs2, gq2, r2⟩ := wd_at s2 hg (List.mem_of_getElem? hj)
    subst hkk
    rw [kV_of g2]
    have ho' : O p := hwa.sh p (List.mem_map.mpr ⟨_, List.mem_of_getElem? hj, rfl⟩)
    obtain ⟨s3, t3⟩ := w_out s2 (((tm.grow ex1).grow e0).grow ex2) hg (aft_turn (o := .dK (putK vs2 k v)) (mo' := .dic (putD kvs k d)) hwa hj (tabs_turnK t2 gq2) fun hO => ⟨putK vs2 k v, upd_same, (kv_put r2 ((g1.grow e0).grow ex2)).imp fun _ _ z => z.turn ho'⟩)
    exact ⟨p, _, rfl, DPut.k gq2 (by rw [kv_len r2]; exact Nat.lt_of_lt_of_le hz (by decide)), _, τ, s3, t3, w⟩
/-- o.clear() -/
theorem x_wclear (j : Nat) (hg : δ[g]? = some (.wd false W)) (hj : W[j]? = some (p, .lst ds)) (ho : PE X o (tD F δ (ptrD p))) (hbase : attributeBase o "clear" X.env (eval o X.env) = eval o X.env := by rfl) (hline : (apos.endLine == cpos.line) = true := by rfl) :
    PE X (.Call (.Attribute o "clear" apos) [] [] cpos) (tW F δ g fun d' W' => d' = .none ∧ W' = W.set j (p, .lst [])) :=
  wkE (pe_bm0 PySem.F.plainAttrs_list PySem.F.slot_list_clear PySem.F.type_list_clear mt_clear ho hbase hline) fun σ H Q k => by
    obtain ⟨O, st, w⟩ := k
    refine ⟨O, st, fun v H1 e1 t1 g1 => ?_⟩
    rw [dt_ptr_eq g1]
    have s1 := st.grow e1 t1
    have hw := s1.w hg
    obtain ⟨vs, hH, fa⟩ := wl_at s1 hg (List.mem_of_getElem? hj)
    have af : Aft F.T O H1 W (upd H1 p (.lst [])) (W.set j (p, .lst [])) := aft_turn hw hj (tabs_turn t1 hH) fun hO => ⟨[], upd_same, rfl⟩
    exact ⟨.inl ⟨rfl, _, SqL.of hH⟩, p, vs, rfl, rfl, hH, w .none _ .non _ _ ⟨rfl, rfl⟩ (w_after s1 hg af) (Kp.up e1 (af.kp hw.sh)) rfl⟩
end
end Lf
set_option Elab.async false
set_option linter.all false
set_option maxRecDepth 100000
set_option maxHeartbeats 4000000
namespace Lf
open PySem PySem.Spec PyProof.Rows L2 L2H HotX LamX
/-- what is walked, while K is true -/
def iX {Kf : PySem.W.Frag} {Tf : List (Addr × Str)} (F : Fx Kf Tf) (δ : List Slot) (K : (Addr → Prop) → Hp → Prop) (ds : List PyData) : TI := fun σ H R => ∃ O, StAt F O H σ δ ∧ ∀ (J : It) (H' : Hp), ExtN H H' → Tabs F.T H' →
  (∀ (O1 : Addr → Prop) (H1 : Hp) (i : Nat) (d : PyData), K O1 H1 → (∀ a, O1 a → Lives H1 a) → Tabs F.T H1 → ds[i]? = some d → J.go i H1 ∧ ∀ x H2, J.yld i H1 x H2 → ExtN H1 H2 ∧ Tabs F.T H2 ∧ Dt O1 H2 d x) →
  (∀ (O1 : Addr → Prop) (H1 : Hp), K O1 H1 → J.stop ds.length H1) → R J H'
/-- a list of the world stands there -/
def LsAt (p : Addr) (ds : List PyData) (O : Addr → Prop) (H : Hp) : Prop := ∃ vs, H p = some (.lst vs) ∧ DtAll O H ds vs
section
variable {Kf : PySem.W.Frag} {Tf : List (Addr × Str)} {F : Fx Kf Tf} {δ : List Slot} {X : Cx} {N : List Str} {sc : Scope} {pos tpos p1 : Pos} {e l tg iter elt : Expr} {elts ifs : List Expr} {kk : Nat} {ds : List PyData} {W : Wd} {ro : Bool} {p : Addr} {g : Nat} {rest body : List Stmt} {P : Post} {α : Type} {K : (Addr → Prop) → Hp → Prop}
theorem ls_at {O : Addr → Prop} {H : Hp} {σ : L2.St} (st : StAt F O H σ δ) (hg : δ[g]? = some (.wd ro W)) (hp : (p, .lst ds) ∈ W) : LsAt p ds O H := wl_at st hg hp
theorem i_wl (g : Nat) (hg : δ[g]? = some (.wd ro W)) (hp : (p, .lst ds) ∈ W) (h : PE X l (tD F δ (ptrD p))) : PI X tg l (iX F δ (LsAt p ds) ds) := wkI (pi_list h) fun σ H R q => by
  obtain ⟨O, st, k⟩ := q
  refine ⟨O, st, fun v H1 e1 t1 g1 => ?_⟩
  obtain ⟨vs, gq, r⟩ := wl_at (st.grow e1 t1) hg hp
  refine ⟨p, dt_ptr_eq g1, ⟨vs, SqL.of gq⟩, k (Itl X.K p) H1 e1 t1 (fun O1 H2 i d g2 dom t2 hd => ?_) fun O1 H2 g2 => ?_⟩
  · obtain ⟨ys, gb, rb⟩ := g2
    obtain ⟨y, hy, dy⟩ := rb.get hd
    refine ⟨⟨ys, y, SqL.of gb, hy⟩, fun x H3 hyld => ?_⟩
    obtain ⟨rfl, hx⟩ := hyld
    have := hx ys (SqL.of gb)
    rw [hy] at this
    cases this
    exact ⟨ExtN.refl _, t2, dy⟩
  · obtain ⟨ys, gb, rb⟩ := g2
    exact ⟨ys, SqL.of gb, by rw [rb.len]; exact Nat.le_refl _⟩
variable {O : Addr → Prop} {H : Hp} {σ : L2.St}
/-- [elt for ..], nothing is changed -/
theorem lcP_run {wi : TI} {gt : TG} {tt : TT} {te : TE} (xs : List α) (enc f : α → PyData) (q : α → Bool) (vs : List Nat) (tgt : α → List Slot) (hz : xs.length ≤ 100000) (hK : ∀ O H σ, StAt F O H σ δ → K O H) (hw : ∀ x ∈ xs, Tgt F gt (enc x) (wipeD δ vs) (tgt x)) (hww : Wg gt vs)
    (hwi : wi = iX F δ K (xs.map enc)) (ht : ∀ x ∈ xs, ∀ σ H Q, cD F (tgt x) (q x) σ H Q → tt σ H Q) (he : ∀ x ∈ xs, q x = true → ∀ σ H Q, tD F (tgt x) (f x) σ H Q → te σ H Q) {Q : VK} (h : tDL F δ ((xs.filter q).map f) σ H Q) : tLc wi gt tt te vs σ H Q := by
  subst hwi
  obtain ⟨O, s0, k⟩ := h
  refine ⟨O, s0, fun J H1 e1 t1 item done L hL => ?_⟩
  have s1 := s0.grow e1 t1
  have lv : ∀ a, Lives H1 a → a ≠ L := fun a l => l.ne hL
  have hend : (δ ++ [Slot.non]).set δ.length (.own []) = δ ++ [.own []] := by simp
  have hend2 : (σ ++ [none]).set δ.length (some (V.ref L)) = σ ++ [some (.ref L)] := by rw [← s0.len]; simp
  obtain ⟨o1, o2⟩ := own_out (τ := []) (ds := []) (xs := []) s1.snoc (fun _ z => by cases z) δ.length (ext_new (o := .lst []) hL) (tabs_new t1 hL) lv upd_same rfl
  rw [hend, hend2] at o1
  refine ⟨fun i m H' => m = xs.length - i ∧ i ≤ xs.length ∧ ExtN H1 H' ∧ StAt F (Shut O L) H' (σ ++ [some (.ref L)]) (δ ++ [.own (((xs.take i).filter q).map f)]), ⟨xs.length, by omega, Nat.zero_le _, ext_new hL, o1⟩, fun i m H' hW => ?_⟩
  obtain ⟨rfl, hle, ex, s2⟩ := hW
  have gs : K (Shut O L) H' := hK _ _ _ s2.init
  have hlast : (δ ++ [Slot.own (((xs.take i).filter q).map f)])[δ.length]? = some (.own (((xs.take i).filter q).map f)) := by simp
  have hlv : (σ ++ [some (V.ref L)])[δ.length]? = some (some (.ref L)) := by rw [← s0.len]; simp
  by_cases hlt : i < xs.length
  · have hx : xs[i]? = some xs[i] := List.getElem?_eq_getElem hlt
    have hm : xs[i] ∈ xs := List.getElem_mem hlt
    obtain ⟨go, yl⟩ := item (Shut O L) H' i (enc xs[i]) gs s2.dom s2.tabs (by rw [List.getElem?_map, hx]; rfl)
    have tk1 : xs.take (i + 1) = xs.take i ++ [xs[i]] := List.take_succ_eq_append_getElem hlt
    refine .inr ⟨go, fun H2 => ExtN H1 H2 ∧ StAt F (Shut O L) H2 (σ ++ [some (.ref L)]) (δ ++ [.own (((xs.take (i + 1)).filter q).map f)]), fun H2 hN => ⟨xs.length - (i + 1), by omega, rfl, hlt, hN⟩, fun y H2 hy => ?_⟩
    obtain ⟨e2, t2, gy⟩ := yl y H2 hy
    have s3 := s2.grow e2 t2
    refine hww _ _ _ _ (wipe_wipe vs) (hw _ hm (Shut O L) H2 (wipe σ vs) y _ (s3.init.wiped vs) gy fun σ3 s4 => ?_)
    refine ht _ hm σ3 H2 _ ⟨Shut O L, s4, fun H3 e3 t3 => ?_⟩
    have s5 := s3.grow e3 t3
    cases hq : q xs[i] with
    | false =>
      refine iteF ⟨(ex.trans e2).trans e3, ?_⟩
      rw [tk1, List.filter_append, List.filter_cons, if_neg (by rw [hq]; decide), List.filter_nil, List.append_nil]
      exact s5
    | true =>
      refine iteT (he _ hm hq σ3 H3 _ ⟨Shut O L, s4.grow e3 t3, fun yv H4 e4 t4 g4 => ?_⟩)
      have s6 := s5.grow e4 t4
      obtain ⟨L', acc, eL, oL, nL, gL, rL⟩ := s6.slot δ.length _ hlast
      rw [hlv] at eL
      cases eL
      refine ⟨acc, gL, ?_, fun b o gb tb => ?_, ?_⟩
      · rw [rL.len, List.length_map]
        have h1 := List.length_filter_le q (xs.take i)
        have h2 : (xs.take i).length ≤ xs.length := by rw [List.length_take]; omega
        exact Nat.lt_of_le_of_lt (Nat.le_trans h1 (Nat.le_trans h2 hz)) (by decide)
      · rw [upd_ne (lv b ⟨o, gb, tb⟩)]
        exact ((ex.trans e2).trans (e3.trans e4)) b o gb tb
      · obtain ⟨u1, _⟩ := own_turn (τ := []) s6 (fun _ z => by cases z) hlast hlv gL (rL.app (.one g4))
        rw [tk1, List.filter_append, List.filter_cons, if_pos hq, List.filter_nil, List.map_append]
        have e9 : (δ ++ [Slot.own (((xs.take i).filter q).map f)]).set δ.length (.own (((xs.take i).filter q).map f ++ [f xs[i]])) = δ ++ [.own (((xs.take i).filter q).map f ++ [f xs[i]])] := by simp
        rw [e9] at u1
        exact u1
  · have e : i = xs.length := by omega
    subst e
    have dn := done (Shut O L) H' gs
    rw [List.length_map] at dn
    obtain ⟨L', acc, eL, oL, nL, gL, rL⟩ := s2.slot δ.length _ hlast
    rw [hlv] at eL
    cases eL
    rw [List.take_length] at rL
    exact .inl ⟨dn, k L acc H' (e1.trans ex) s2.tabs (fun a l => lv a (l.grow e1)) gL rL⟩
theorem x_lcP {scope : Scope} {gt : TG} (own : List (Str × Nat)) (xs : List α) (enc f : α → PyData) (q : α → Bool) (tgt : α → List Slot) (cx : Ctx X N sc) (hi : PI X tg iter (iX F δ K (xs.map enc))) (hK : ∀ O H σ, StAt F O H σ δ → K O H) (hz : xs.length ≤ 100000) (hok : blkC N sc scope own = true) (hg : Blk X scope fun Y => PG Y tg gt) (hw : ∀ x ∈ xs, Tgt F gt (enc x) (wipeD δ (own.map (·.2))) (tgt x)) (hww : Wg gt (own.map (·.2)))
    (ht : ∀ x ∈ xs, Blk X scope fun Y => PTs Y ifs (cD F (tgt x) (q x))) (he : ∀ x ∈ xs, q x = true → Blk X scope fun Y => PE Y elt (tD F (tgt x) (f x))) (hs : ∀ x, foldedSetIterable iter X.env x = pure x := by intro _; rfl) :
    PE X (.ListComp elt [⟨tg, iter, ifs, 0⟩] scope pos) (tDL F δ ((xs.filter q).map f)) :=
  wkE (pe_lc (own := own) (tt := fun σ H Q => ∃ x, x ∈ xs ∧ cD F (tgt x) (q x) σ H Q) (te := fun σ H Q => ∃ x, (x ∈ xs ∧ q x = true) ∧ tD F (tgt x) (f x) σ H Q) cx.calm cx.nd' hi (blk_ok cx hok) hg
    (fun s H C cl fp => ⟨fun pins s' σ H Q I q => let ⟨x, hx, g⟩ := q; (ht x hx s _ C cl fp).run pins s' σ H Q I g⟩) (fun s H C cl fp => exE fun x => ifE fun hx => he x hx.1 hx.2 s H C cl fp) hs)
    fun σ H Q h => lcP_run xs enc f q _ tgt hz hK hw hww rfl (fun x hx σ H Q g => ⟨x, hx, g⟩) (fun x hx hq σ H Q g => ⟨x, ⟨hx, hq⟩, g⟩) h
end
end Lf
set_option Elab.async false
set_option linter.all false
set_option maxRecDepth 100000
set_option maxHeartbeats 4000000
namespace Lf
open PySem PySem.Spec PyProof.Rows L2 L2H HotX LamX
end Lf
set_option Elab.async false
set_option linter.all false
set_option maxRecDepth 100000
set_option maxHeartbeats 1000000
namespace Lf
open PySem PySem.Spec PyProof.Rows L2 L2H HotX LamX
section
variable {Kf : PySem.W.Frag} {Tf : List (Addr × Str)} {F : Fx Kf Tf} {δ : List Slot} {X : Cx} {N : List Str} {sc : Scope} {pos : Pos} {a b e : Expr} {es : List Expr} {W : Wd} {g : Nat} {d : PyData} {Ω : PyData → Wd → Prop}
/-- a comparison as a value -/
theorem w_cmp {op : CmpOp} {r : R2} {Ω1 : PyData → Wd → Prop} {Ω2 : PyData → Wd → PyData → Wd → Prop} {z : PyData → PyData → PyData} (ho : OpR X (compareOp op) r) (hgl : g < δ.length) (q : ∀ d1 W1 d2 W2, Ω1 d1 W1 → Ω2 d1 W1 d2 W2 → OpD F r d1 d2 (z d1 d2)) (ha : PE X a (tW F δ g Ω1)) (hb : ∀ d W', Ω1 d W' → PE X b (tW F (δ.set g (.wd false W')) g (Ω2 d W')))
    (hm : behindInMarks op b = false := by first | exact nomark _ | rfl) : PE X (.Compare a [op] [b] pos) (tW F δ g fun d W' => ∃ d1 W1 d2, Ω1 d1 W1 ∧ Ω2 d1 W1 d2 W' ∧ d = z d1 d2) :=
  wkE (pe_cmpR ho ha (anyW hb) hm) fun σ H Q h => opW_run q hgl h
/-- .. what is told is known, the right one changes nothing -/
theorem w_cmpL {op : CmpOp} {r : R2} {Ω1 : Wd → Prop} {d1 d2 z : PyData} (ho : OpR X (compareOp op) r) (hgl : g < δ.length) (q : OpD F r d1 d2 z) (ha : PE X a (tW F δ g fun d W' => d = d1 ∧ Ω1 W')) (hb : ∀ W', PE X b (tD F (δ.set g (.wd false W')) d2))
    (hm : behindInMarks op b = false := by first | exact nomark _ | rfl) : PE X (.Compare a [op] [b] pos) (tW F δ g fun d W' => d = z ∧ Ω1 W') :=
  w_imp (w_cmp (z := fun _ _ => z) ho hgl (fun d1' W1 d2' W2 h1 h2 => by rw [h1.1, h2.1]; exact q) ha (fun d W' _ => w_pure (W := W') (by rw [List.getElem?_set_self hgl]) (hb W')) hm) fun d W' h => by
    obtain ⟨d1', W1, d2', h1, ⟨_, e2⟩, rfl⟩ := h
    exact ⟨rfl, by rw [e2]; exact h1.2⟩
end
end Lf
set_option Elab.async false
set_option linter.all false
set_option maxRecDepth 100000
set_option maxHeartbeats 1000000
namespace Lf
open PySem PySem.Spec PyProof.Rows L2 L2H HotX LamX
section
variable {Kf : PySem.W.Frag} {Tf : List (Addr × Str)} {F : Fx Kf Tf} {δ : List Slot} {X : Cx} {N : List Str} {sc : Scope} {pos tpos : Pos} {a b e o tg : Expr} {es : List Expr} {W : Wd} {ro : Bool} {g : Nat} {d d1 : PyData} {p : Addr} {kvs : List (Key × PyData)} {vs : List (Key × V)} {od : Obj} {k : Key} {Ω : PyData → Wd → Prop}
def PvAll (O : Addr → Prop) (H : Hp) (kvs : List (Key × PyData)) (ps : List (V × V)) : Prop := ∃ vs, ps = vs.map (fun kv => (kV kv.1, kv.2)) ∧ KvAll O H kvs vs
def pW {Kf : PySem.W.Frag} {Tf : List (Addr × Str)} (F : Fx Kf Tf) (δ : List Slot) (g : Nat) (Ω : List (Key × PyData) → Wd → Prop) (σ : L2.St) (H : Hp) (Q : List (V × V) → Hp → Prop) : Prop :=
  ∃ O, StAt F O H σ δ ∧ ∀ kvs W' ps O' H', Ω kvs W' → StAt F O' H' σ (δ.set g (.wd false W')) → Kp O H O' H' → PvAll O' H' kvs ps → Q ps H'
structure PPw (X : Cx) (pos : Pos) (keys : List (Option Expr)) (values : List Expr) (t : L2.St → Hp → (List (V × V) → Hp → Prop) → Prop) : Prop where
  run : ∀ (pins : List (Addr × Obj)) (s : Shared) (σ : L2.St) (H : Hp) (Q : List (V × V) → Hp → Prop), Inv X pins σ H s → t σ H Q →
    wpAny (model X.prog X.w) X.A (evalPairs (pairTrees keys values X.env pos)) (fun vs s' => ∃ ps H', Inv X pins σ H' s' ∧ VV ps vs ∧ Q ps H') X.xe s
theorem ppw_nil (hg : δ[g]? = some (.wd false W)) : PPw X pos [] [] (pW F δ g fun kvs W' => kvs = [] ∧ W' = W) := ⟨fun pins s σ H Q I h => by
  obtain ⟨O, st, w⟩ := h
  exact pairTrees_nil_walk ⟨[], H, I, .nil, w [] W [] O H ⟨rfl, rfl⟩ (by rw [wd_self hg]; exact st) (fun _ _ z => z) ⟨[], rfl, kv_nil⟩⟩⟩
theorem ppw_cons {kx v : Expr} {ks : List (Option Expr)} {ws : List Expr} {Ω1 : PyData → Wd → Prop} {Ω2 : PyData → Wd → List (Key × PyData) → Wd → Prop} (hk : PE X kx (tD F δ d1)) (hkk : d1 = keyD k) (hv : PE X v (tW F δ g Ω1)) (hr : ∀ d W', Ω1 d W' → PPw X pos ks ws (pW F (δ.set g (.wd false W')) g (Ω2 d W'))) :
    PPw X pos (some kx :: ks) (v :: ws) (pW F δ g fun kvs W' => ∃ d W1 r, Ω1 d W1 ∧ Ω2 d W1 r W' ∧ kvs = (k, d) :: r) := ⟨fun pins s σ H Q I h => by
  obtain ⟨O, st, w⟩ := h
  subst hkk
  refine pairTrees_cons_walk (thn (hk.run pins s σ H (fun x H1 => x = kV k ∧ ExtN H H1 ∧ Tabs F.T H1) I ⟨O, st, fun x H1 e1 t1 g1 => ⟨kV_of g1, e1, t1⟩⟩) fun u s1 ⟨x, H1, I1, rx, ex, e1, t1⟩ => ?_)
  have st1 := st.grow e1 t1
  refine thn (hv.run pins s1 σ H1 (fun y H2 => ∃ d W1 O2, Ω1 d W1 ∧ StAt F O2 H2 σ (δ.set g (.wd false W1)) ∧ Kp O H O2 H2 ∧ Dt O2 H2 d y) I1 ⟨O, st1, fun d W1 y O2 H2 hΩ s2 kp g2 => ⟨d, W1, O2, hΩ, s2, Kp.up e1 kp, g2⟩⟩) fun w2 s2 ⟨y, H2, I2, ry, d, W1, O2, hΩ, st2, kp2, g2⟩ => ?_
  refine thn ((hr d W1 hΩ).run pins s2 σ H2 (fun ps H3 => Q ((x, y) :: ps) H3) I2 ⟨O2, st2, fun r W' ps O3 H3 h2 s3 kp3 hp => ?_⟩) fun ws s3 ⟨ps, H3, I3, rel, q3⟩ => ⟨(x, y) :: ps, H3, I3, .cons ⟨rx, ry⟩ rel, q3⟩
  rw [List.set_set] at s3
  obtain ⟨vs, rfl, hkv⟩ := hp
  exact w ((k, d) :: r) W' _ O3 H3 ⟨d, W1, r, hΩ, h2, rfl⟩ s3 (kp2.trans kp3) ⟨(k, y) :: vs, by rw [ex]; rfl, by
    refine ⟨?_, ⟨y, _, rfl, kp3 _ _ g2, hkv.2⟩⟩
    show k :: vs.map (·.1) = k :: r.map (·.1)
    rw [hkv.1]⟩⟩
theorem mergeK_self : ∀ (vs acc : List (Key × V)), (acc.map (·.1) ++ vs.map (·.1)).Nodup → mergeK acc vs = acc ++ vs
  | [], acc, _ => by show acc = acc ++ []; rw [List.append_nil]
  | q :: r, acc, h => by
    have e : L2.putK acc q.1 q.2 = acc ++ [q] := by
      unfold L2.putK
      rw [if_neg]
      intro z
      obtain ⟨y, hy, e⟩ := List.any_eq_true.mp z
      exact (List.nodup_append.mp h).2.2 y.1 (List.mem_map.mpr ⟨y, hy, rfl⟩) q.1 (by simp) (of_decide_eq_true e)
    show mergeK (L2.putK acc q.1 q.2) r = _
    rw [e, mergeK_self r (acc ++ [q]) (by rw [List.map_append, List.append_assoc]; exact h), List.append_assoc]
    rfl
/-- {k: v, ..}: a new dict of the world -/
theorem w_disp {keys : List (Option Expr)} {values : List Expr} {Ω : Addr → List (Key × PyData) → Wd → Prop} (hg : δ[g]? = some (.wd false W)) (h : ∀ q, q ∉ wAs W → PPw X pos keys values (pW F (δ.set g (.wd false (W ++ [(q, .dic [])]))) g (Ω q))) (hΩ : ∀ q kvs W', Ω q kvs W' → W'[W.length]? = some (q, .dic []) ∧ (kvs.map (·.1)).Nodup ∧ kvs.length ≤ 15)
    (hall : keys.all (·.isSome) = true := by rfl) (hl : keys.length = values.length := by rfl) (h0 : keys ≠ [] := by simp) (h15 : keys.length ≤ 15 := by decide) :
    PE X (.Dict keys values pos) (tW F δ g fun d W' => ∃ q kvs W1, q ∉ wAs W ∧ Ω q kvs W1 ∧ d = ptrD q ∧ W' = W1.set W.length (q, .dic kvs)) := by
  refine ⟨fun pins s σ H Q I q => ?_⟩
  obtain ⟨O, st, w⟩ := q
  have hn := I.hok.fresh (Nat.le_refl s.heap.objs.size)
  have I1 := I.laid (a := s.heap.objs.size) (o := .dK []) (h' := s.heap.push { cls := .type "dict", data := .dict #[] }) (t' := s.toks) (fun _ _ q => Heap.get?_push_of_some _ q) (Nat.le_refl _) (dk_empty s.heap I.big)
  have hw := st.w hg
  have hgl : g < δ.length := (List.getElem?_eq_some_iff.mp hg).1
  have hq := new_out st hg hn
  have af := aft_new (T := F.T) (o := .dK []) (mo := .dic []) hw st.tabs hn ⟨[], upd_same, kv_nil⟩
  have st1 := w_after st hg af
  refine wpAny_Dict_walk (knd := mixKind X.prog X.w) hall hl h0 h15 (thn ((h _ hq).run pins _ σ _ (fun ps H2 => H2 s.heap.objs.size = some (.dK []) ∧ ∃ kvs : List (Key × V), ps = kvs.map (fun kv => (kV kv.1, kv.2)) ∧ kvs.length ≤ 15 ∧ Q (.ref s.heap.objs.size) (upd H2 s.heap.objs.size (.dK (mergeK [] kvs)))) I1 ⟨_, st1, fun kvs W' ps O' H' h1 s' kp hp => ?_⟩) fun ws s2 ⟨ps, H2, I2, rel, e, kvs, ep, lk, q2⟩ => ?_)
  · rw [List.set_set] at s'
    obtain ⟨hj, hnd, hlen⟩ := hΩ _ _ _ h1
    have hg' : (δ.set g (.wd false W'))[g]? = some (.wd false W') := List.getElem?_set_self hgl
    have hw' := s'.w hg'
    obtain ⟨vs0, gq, r0⟩ := wd_at s' hg' (List.mem_of_getElem? hj)
    have e0 : vs0 = [] := by
      have := congrArg List.length r0.1
      simp at this
      exact this
    subst e0
    obtain ⟨vs, rfl, r⟩ := hp
    have ho2 : O' s.heap.objs.size := hw'.sh _ (List.mem_map.mpr ⟨_, List.mem_of_getElem? hj, rfl⟩)
    have em : mergeK [] vs = vs := by
      rw [mergeK_self vs [] (by rw [r.1]; exact hnd)]
      rfl
    have hvl : vs.length = kvs.length := by have := congrArg List.length r.1; simpa using this
    refine ⟨gq, vs, rfl, by omega, ?_⟩
    rw [em]
    have af' := aft_turn (T := F.T) (o := .dK vs) (mo' := .dic kvs) hw' hj (tabs_turnK s'.tabs gq) fun hO => ⟨vs, upd_same, r.imp fun _ _ z => z.turn ho2⟩
    have s2 := w_after s' hg' af'
    rw [List.set_set] at s2
    exact w (ptrD _) _ (.ref _) _ _ ⟨_, kvs, W', hq, h1, rfl, rfl⟩ s2 ((Kp.trans (af.kp hw.sh) kp).trans (af'.kp hw'.sh)) dt_ptr
  · subst ep
    obtain ⟨rs, c, rk⟩ := carries_of (P := X.prog) (w := X.w) rel
    obtain ⟨z, hd, vs0, r0, dd⟩ := dk_of I2.hok e
    cases r0
    refine ⟨rs, c, dd, fun h' dd' hs => ⟨.ref s.heap.objs.size, _, ?_, rfl, q2⟩⟩
    have hz : (mergeK [] kvs).length ≤ sizeLine := by
      have h1 := length_mergeK kvs []
      rw [List.length_nil] at h1
      rw [sizeLine_eq]; omega
    have he : ∃ q, h'.get? s.heap.objs.size = some q := let ⟨q, _, _, hq, _⟩ := dd'; ⟨q, hq⟩
    exact d_write I2 (by rw [e]; exact True.intro) hs he (dk_new hz hd (rk.merge .nil) dd')
end
end Lf
set_option Elab.async false
set_option linter.all false
set_option maxRecDepth 100000
set_option maxHeartbeats 1000000
namespace Lf
open PySem PySem.Spec PyProof.Rows L2 L2H HotX LamX
section
variable {Kf : PySem.W.Frag} {Tf : List (Addr × Str)} {F : Fx Kf Tf} {δ : List Slot} {N : List Str} {sc : Scope} {pos p p2 pos2 : Pos} {e : Expr} {ds : List PyData}
variable {W : Wd} {ro : Bool} {q0 : Addr}
theorem x_wlistEnum (g : Nat) (hgw : δ[g]? = some (.wd ro W)) (hpw : (q0, .lst ds) ∈ W) (cx : Ctx X N sc) (hm : X.mg "list" = none) (hm2 : X.mg "enumerate" = none) (h : PE X e (tD F δ (ptrD q0))) (hg : sc.names.lookup ("list" : Str) = some .globalImplicit := by rfl) (hg2 : sc.names.lookup ("enumerate" : Str) = some .globalImplicit := by rfl)
    (hs : starEach [e] X.env = (false, eval e X.env) :: starEach [] X.env := by rfl) (hs2 : starEach [.Call (.Name "enumerate" p2) [e] [] pos2] X.env = (false, eval (.Call (.Name "enumerate" p2) [e] [] pos2) X.env) :: starEach [] X.env := by rfl) :
    PE X (.Call (.Name "list" p) [.Call (.Name "enumerate" p2) [e] [] pos2] [] pos) (tD F δ (.list ((enumL ds).map encL))) := by
  refine ⟨fun pins s σ H Q I hq => ?_⟩
  obtain ⟨O, st, w⟩ := hq
  refine Call_ (ld_blt I (cx.gl hg) hm boot_list (PyProof.Rows.callWith_type1 (args_cons (Call_ (ld_blt I (cx.gl hg2) hm2 boot_enumerate (PyProof.Rows.callWith_type1 (args_cons (thn (h.run pins s σ H (fun v H1 => Dt O H1 (ptrD q0) v ∧ ExtN H H1 ∧ Tabs F.T H1) I ⟨O, st, fun v H1 e1 t1 d1 => ?_⟩) fun u s1 hq => args_nil ?_) hs) hs rfl))) hs2) hs2 rfl))
  · exact ⟨d1, e1, t1⟩
  · obtain ⟨v, H1, I1, r1, d1, e1, t1⟩ := hq
    obtain ⟨xs, ga, da⟩ := wl_at (st.grow e1 t1) hgw hpw
    have ev := dt_ptr_eq d1
    subst ev
    obtain ⟨a, rfl⟩ : ∃ a, a = q0 := ⟨_, rfl⟩
    obtain rfl : u = Value.ref a := r1
    obtain ⟨its, rv, hl, hzl⟩ := I1.list (SqL.of ga)
    refine call_enumerate_list hl.isList fun h' he hit hsz hk => args_nil ?_
    have hal : a < s1.heap.objs.size := by
      obtain ⟨o, ho, _⟩ := hl.isList
      exact Heap.lt_size ho
    have lx := rv.length
    have hli : h'.IsList a its.toArray := by
      obtain ⟨o, ho, r⟩ := hl.isList
      exact ⟨o, hk _ _ ho, r⟩
    refine en_call (s := { s1 with heap := h' }) (e := s1.heap.objs.size + 1) (it := s1.heap.objs.size) (l := a) (items := its.toArray) (old := .none) (I1.ok.hd cx.calm) (Nat.succ_ne_self _) (by show s1.heap.objs.size + 1 < h'.objs.size; rw [hsz]; exact Nat.lt_succ_self _) (by show s1.heap.objs.size < h'.objs.size; rw [hsz]; exact Nat.lt_add_of_pos_right (by decide)) (by show a < h'.objs.size; rw [hsz]; exact Nat.lt_add_right 2 hal) (Nat.ne_of_lt (Nat.lt_succ_of_lt hal)) (Nat.ne_of_lt hal) (by rw [List.size_toArray, ← lx]; exact hzl) hit hli he fun h2 tk acc c as k2 a1 a2 a3 a4 => ?_
    have k3 : ∀ b o, s1.heap.get? b = some o → h2.get? b = some o := fun b o q => k2 b o (Nat.ne_of_lt (Nat.lt_succ_of_lt (Heap.lt_size q))) (Nat.ne_of_lt (Heap.lt_size q)) (hk b o q)
    obtain ⟨H', x1, x2, x3, x4, x5, J⟩ := en_laid (tk := tk) I1 rv hzl (show s1.heap.objs.size ≤ h'.objs.size by rw [hsz]; exact Nat.le_add_right _ 2) k3 a1 a2 a3 (by rw [a4, List.size_toArray])
    have eE : ExtN H1 H' := ExtN.of x1
    have t2 : Tabs F.T H' := t1.ext x1
    have dom := (st.grow e1 t1).dom
    have ln : as.length = ds.length := by
      have := da.len
      rw [a4, List.size_toArray]
      omega
    refine ⟨.ref _, H', J, rfl, w _ H' (e1.trans eE) t2 ⟨_, _, rfl, fresh_ok dom x2, x4, DtAll.of ?_ fun j d v hd hv => ?_⟩⟩
    · rw [List.length_map, List.length_map]
      unfold enumL
      rw [List.length_map, List.length_range]
      exact ln
    · have hj : j < ds.length := by
        have := (List.getElem?_eq_some_iff.mp hd).1
        simpa [enumL] using this
      have hx : ds[j]? = some (ds.getD j .none) := by rw [List.getD_eq_getElem?_getD, List.getElem?_eq_getElem hj]; rfl
      have hd' : d = encL (j, ds.getD j .none) := by
        unfold enumL at hd
        rw [List.getElem?_map, List.getElem?_map, List.getElem?_range hj] at hd
        exact (Option.some.inj hd).symm
      rw [List.getElem?_map] at hv
      cases et : as[j]? with
      | none => rw [et] at hv; cases hv
      | some t =>
        rw [et] at hv
        obtain rfl : V.ref t = v := Option.some.inj hv
        obtain ⟨x, f1, f2⟩ := x5 j t et
        subst hd'
        exact ⟨t, _, rfl, fresh_ok dom (x3 t (List.mem_of_getElem? et)), f2, _, _, rfl, rfl, _, _, rfl, (da.at_ hx f1).grow eE, rfl⟩
theorem x_wlist (g : Nat) (hgw : δ[g]? = some (.wd ro W)) (hpw : (q0, .lst ds) ∈ W) (cx : Ctx X N sc) (hm : X.mg "list" = none) (h : PE X e (tD F δ (ptrD q0))) (hg : sc.names.lookup ("list" : Str) = some .globalImplicit := by rfl) (he : starEach [e] X.env = (false, eval e X.env) :: starEach [] X.env := by rfl) :
    PE X (.Call (.Name "list" p) [e] [] pos) (tD F δ (.list ds)) := wkE (pe_callTy call_list_of (cx.gl hg) hm (by decide +kernel) (pa_cons h pa_nil he) (by decide) (by decide) he (by rfl)) fun σ H Q h => by
  obtain ⟨O, st, w⟩ := h
  refine ⟨O, st, fun x H0 e0 t0 g0 => ?_⟩
  rw [dt_ptr_eq g0]
  have s1 := st.grow e0 t0
  obtain ⟨vs, gq, r⟩ := wl_at s1 hgw hpw
  exact ⟨q0, vs, rfl, .inl (SqL.of gq), fun l hl => w _ _ (e0.trans (ext_new hl)) (tabs_new t0 hl) ⟨l, vs, rfl, fresh_ok s1.dom hl, upd_same, r.grow (ext_new hl)⟩⟩
theorem x_wisi {p2 : Pos} (g : Nat) (hgw : δ[g]? = some (.wd ro W)) (hpw : (q0, .lst ds) ∈ W) (cx : Ctx X N sc) (hm : X.mg "isinstance" = none) (hm2 : X.mg "list" = none) (he : PE X e (tD F δ (ptrD q0)))
    (hg : sc.names.lookup ("isinstance" : Str) = some .globalImplicit := by rfl) (hg2 : sc.names.lookup ("list" : Str) = some .globalImplicit := by rfl)
    (hs : starEach (e :: [.Name "list" p2]) X.env = (false, eval e X.env) :: starEach [.Name "list" p2] X.env := by rfl) : PE X (.Call (.Name "isinstance" p) [e, .Name "list" p2] [] pos) (tD F δ (.bool true)) :=
  wkE (pe_callB call_isi (cx.gl hg) hm (by decide +kernel) (pa_cons he (pa_cons (pe_bltn (v := .ty "list") (cx.gl hg2) hm2 (by decide +kernel) rfl (by decide) (by decide)) pa_nil) hs) (by decide) (by decide) hs) fun σ H Q h => by
    obtain ⟨O, st, k⟩ := h
    refine ⟨O, st, fun v H1 e1 t1 g1 => ?_⟩
    rw [dt_ptr_eq g1]
    obtain ⟨vs, gq, r⟩ := wl_at (st.grow e1 t1) hgw hpw
    exact ⟨_, .ty "list", _, _, true, rfl, .ty "list", .base (.lst gq), kit_ty (by decide +kernel), k _ H1 e1 t1 rfl⟩
end
end Lf
namespace Lf
open PySem PySem.Spec PyProof.Rows L2 L2H HotX LamX
section
variable {Kf : PySem.W.Frag} {Tf : List (Addr × Str)} {F : Fx Kf Tf} {δ : List Slot} {X : Cx} {N : List Str} {sc : Scope} {pos tpos : Pos} {a b e o : Expr} {W : Wd} {ro : Bool} {g : Nat} {d d1 : PyData} {p : Addr} {ds : List PyData} {kvs : List (Key × PyData)} {k : Key} {rest : List Stmt} {P : Post} {Ω : PyData → Wd → Prop}
theorem c_wne {n m : Nat} (hu : X.A.units + 64 < cLine) (hg : δ[g]? = some (.wd ro W)) (hp : (p, .lst ds) ∈ W) (hL : Lay n (.list ds)) (hM : Lay m d) (ha : PE X a (tD F δ (ptrD p))) (hb : PE X b (tD F δ d)) (hn : n ≤ 64 := by decide) (hm : m ≤ 64 := by decide) (hk : behindInMarks .NotEq b = false := by first | exact nomark _ | rfl) : PT X (.Compare a [.NotEq] [b] pos) (cD F δ (!PyData.eqv (.list ds) d)) :=
  wkT (pt_cmpR (op_neD hu) ha hb hk) fun σ H Q h => by
    obtain ⟨O, st, w⟩ := h
    refine ⟨O, st, fun v H1 e1 t1 g1 => ⟨O, st.grow e1 t1, fun y H2 e2 t2 g2 => ?_⟩⟩
    rw [dt_ptr_eq g1]
    exact ⟨.list ds, d, wl_dp ((st.grow e1 t1).grow e2 t2) hg hp hL, Dt.dp d y (noP_lay _ hM.1) g2, hL.ok hn, hM.ok hm, _, rfl, w H2 (e1.trans e2) t2⟩
/-- o[k] = value, the value changes the world -/
theorem s_wputW (j : Nat) (cx : CtD X N sc F.E) (hu : X.A.units + 1 < cLine) (hgl : g < δ.length) (h : PE X e (tW F δ g Ω)) (ho : ∀ d W', Ω d W' → PE X o (tD F (δ.set g (.wd false W')) (ptrD p))) (hn : ∀ d W', Ω d W' → PE X b (tD F (δ.set g (.wd false W')) d1)) (hkk : d1 = keyD k) (hj : ∀ d W', Ω d W' → W'[j]? = some (p, .dic kvs)) (hz : kvs.length < 100000) (hr : ∀ d W', Ω d W' → PSs X rest (sD F (δ.set g (.wd false (W'.set j (p, .dic (putD kvs k d))))) P))
    (hs : swapsWithSole [.Subscript o b tpos] e pos.line X.env = pure false := by rfl) (hw : swappedStores [.Subscript o b tpos] e (envS sc) = pure none := by rfl) (h1 : (assignEach [.Subscript o b tpos] X.env).map (·.2) = [assign (.Subscript o b tpos) X.env] := by rfl)
    (ha : ∀ v, assign (.Subscript o b tpos) X.env v = (do
      let ov ← holding [v] (eval o X.env)
      let iv ← holding [v, ov] (eval b X.env)
      standAt tpos
      holding [v, ov, iv] (setItem ov iv v)
      release [v, ov, iv] []) := by intro _; rfl) :
    PSs X (.Assign [.Subscript o b tpos] e pos :: rest) (sD F δ P) :=
  wkSs (pss_cons (ps_asg h (pg_sub (to := fun σ H Q => ∃ d W', Ω d W' ∧ tD F (δ.set g (.wd false W')) (ptrD p) σ H Q) (ti := fun σ H Q => ∃ d W', Ω d W' ∧ tD F (δ.set g (.wd false W')) d1 σ H Q) ⟨fun pins s σ H Q I q => let ⟨d, W', h, t⟩ := q; (ho d W' h).run pins s σ H Q I t⟩ ⟨fun pins s σ H Q I q => let ⟨d, W', h, t⟩ := q; (hn d W' h).run pins s σ H Q I t⟩ (set_dict hu) ha) hs (sw_eq cx.toCtx hw) h1) (anyS (F := F))) fun D σ H h' => by
    obtain ⟨O, τ, s0, tm, w⟩ := h'
    refine ⟨O, s0, fun d W' v O' H1 hΩ s1 kp g1 => ⟨d, W', hΩ, O', s1, fun x H0 e0 t0 g0 => ⟨d, W', hΩ, O', s1.grow e0 t0, fun y H2 ex2 t2 g2 => ?_⟩⟩⟩
    rw [dt_ptr_eq g0]
    have hg : (δ.set g (.wd false W'))[g]? = some (.wd false W') := List.getElem?_set_self hgl
    have s2 := (s1.grow e0 t0).grow ex2 t2
    have hwa := s2.w hg
    have hjj := hj d W' hΩ
    obtain ⟨vs2, gq2, r2⟩ := wd_at s2 hg (List.mem_of_getElem? hjj)
    subst hkk
    rw [kV_of g2]
    have ho' : O' p := hwa.sh p (List.mem_map.mpr ⟨_, List.mem_of_getElem? hjj, rfl⟩)
    obtain ⟨s3, t3⟩ := w_out s2 (τ := τ) (fun q hq => ((kp _ _ (tm q hq)).grow e0).grow ex2) hg (aft_turn (o := .dK (putK vs2 k v)) (mo' := .dic (putD kvs k d)) hwa hjj (tabs_turnK t2 gq2) fun hO => ⟨putK vs2 k v, upd_same, (kv_put r2 ((g1.grow e0).grow ex2)).imp fun _ _ z => z.turn ho'⟩)
    rw [List.set_set] at s3
    exact ⟨p, _, rfl, DPut.k gq2 (by rw [kv_len r2]; exact Nat.lt_of_lt_of_le hz (by decide)), _, P, hr d W' hΩ, _, τ, s3, t3, w⟩
end
end Lf
set_option Elab.async false
set_option linter.all false
set_option maxRecDepth 100000
set_option maxHeartbeats 1000000
namespace Lf
open PySem PySem.Spec PyProof.Rows L2 LamX
def R_need_namesW (ds : List PyData) (W : Wd) (r : Res) : Prop := ∃ q, ∃ ls : List (List Nat), ds = [ptrD q] ∧ (q, .lst (ls.map tx)) ∈ W ∧ ls.length ≤ 60 ∧ (∀ l ∈ ls, isNm l = true) ∧ r = .ok .none
def RW_law_names (ds : List PyData) (W : Wd) (Ω : PyData → Wd → Prop) : Prop := ∃ more many most, ds = [.int more, .int many, .int most] ∧ 0 ≤ many ∧ many ≤ 1000 ∧ 0 < most ∧ most ≤ 1000 ∧ Ω = fun d W' => ∃ q, q ∉ wAs W ∧ d = ptrD q ∧ W' = W ++ [(q, .lst ((namesM more many most).map tx))]
def RW_Picker_initW (C : Addr) (ds : List PyData) (W : Wd) (Ω : PyData → Wd → Prop) : Prop := ∃ (j l : Nat), ∃ p qn M, ∃ ls : List (List Nat), ∃ tall, ds = [ptrD p, mkD M, ptrD qn, .int tall] ∧ okM M ∧ ls.length ≤ 60 ∧ (∀ l ∈ ls, isNm l = true) ∧ 1 ≤ tall ∧ tall ≤ 20 ∧ W[j]? = some (p, .ins C [] []) ∧ W[l]? = some (qn, .lst (ls.map tx)) ∧ j ≠ l ∧
  Ω = fun d W' => d = .none ∧ PkAt C W' (j, W.length, W.length + 1) p ⟨M, ls, tall, ([], 0, 0, []), [], []⟩ ∧ Kps (j, W.length, W.length + 1) W W'
def lnD (s : Nw) : PyData := .tuple [tx s.1, .int s.2.1, .int s.2.2.1, .list (s.2.2.2.map natI)]
abbrev kMarks : List Nat := [109, 97, 114, 107, 115]
abbrev kNames : List Nat := [110, 97, 109, 101, 115]
abbrev kTall : List Nat := [116, 97, 108, 108]
abbrev kNow : List Nat := [110, 111, 119]
abbrev kPast : List Nat := [112, 97, 115, 116]
abbrev kAhead : List Nat := [97, 104, 101, 97, 100]
def ownP (S : PSt) (qa qb : Addr) : List (Key × PyData) := [(kx kMarks, mkD S.M), (kx kNames, .list (S.ls.map tx)), (kx kTall, .int S.tall), (kx kNow, lnD S.now), (kx kPast, ptrD qa), (kx kAhead, ptrD qb)]
theorem own_marks (S : PSt) (qa qb : Addr) : getK (ownP S qa qb) (kx kMarks) = some (mkD S.M) := rfl
theorem own_names (S : PSt) (qa qb : Addr) : getK (ownP S qa qb) (kx kNames) = some (.list (S.ls.map tx)) := rfl
theorem own_tall (S : PSt) (qa qb : Addr) : getK (ownP S qa qb) (kx kTall) = some (.int S.tall) := rfl
theorem own_now (S : PSt) (qa qb : Addr) : getK (ownP S qa qb) (kx kNow) = some (lnD S.now) := rfl
theorem own_past (S : PSt) (qa qb : Addr) : getK (ownP S qa qb) (kx kPast) = some (ptrD qa) := rfl
theorem own_ahead (S : PSt) (qa qb : Addr) : getK (ownP S qa qb) (kx kAhead) = some (ptrD qb) := rfl
theorem own_putN (S : PSt) (qa qb : Addr) (s : Nw) (l r : List Nw) : putD (ownP S qa qb) (kx kNow) (lnD s) = ownP { S with now := s, past := l, ahead := r } qa qb := rfl
/-- the cursor is seen -/
def tkN (tall : Int) (s : Nw) : Prop := s.2.2.1 ≤ s.2.1 ∧ s.2.1 < s.2.2.1 + tall
structure P9 (C : Addr) (W : Wd) (J : J3) (p : Addr) (S : PSt) (o a b : Nat) (qo qa qb : Addr) (n : Nat) : Prop where
  f : PkAt C W J p S
  ok : okP S
  tk : tkN S.tall S.now
  tp : ∀ s ∈ S.past, tkN S.tall s
  ta : ∀ s ∈ S.ahead, tkN S.tall s
  n7 : ∀ l ∈ S.ls, l.length ≤ 12
  wo : W[o]? = some (qo, .dic (ownP S qa qb))
  wa : W[a]? = some (qa, .lst (S.past.map lnD))
  wb : W[b]? = some (qb, .lst (S.ahead.map lnD))
  oa : o ≠ a
  ob : o ≠ b
  ab : a ≠ b
  jo : o ≠ J.1 ∧ o ≠ J.2.1 ∧ o ≠ J.2.2
  ja : a ≠ J.1 ∧ a ≠ J.2.1 ∧ a ≠ J.2.2
  jb : b ≠ J.1 ∧ b ≠ J.2.1 ∧ b ≠ J.2.2
  z : S.past.length + S.ahead.length ≤ n
  b0 : (S.past ++ [S.now]).head? = some ([], 0, 0, [])
def R_law_fit (ds : List PyData) (W : Wd) (r : Res) : Prop := ∃ qo S qa qb, ds = [ptrD qo] ∧ (qo, .dic (ownP S qa qb)) ∈ W ∧ okP S ∧ (∀ l ∈ S.ls, l.length ≤ 12) ∧ r = .ok (.list (S.rows.map rkT))
def R_law_stepped (ds : List PyData) (W : Wd) (r : Res) : Prop := ∃ qo S qa qb i, ds = [ptrD qo, .int i] ∧ (qo, .dic (ownP S qa qb)) ∈ W ∧ okP S ∧ (∀ l ∈ S.ls, l.length ≤ 12) ∧ r = .ok (lnD (S.stepped i))
theorem PkAt.keep {C : Addr} {W W' : Wd} {J : J3} {p : Addr} {S : PSt} (h : PkAt C W J p S) (k : ∀ i, (i = J.1 ∨ i = J.2.1 ∨ i = J.2.2) → ∀ x, W[i]? = some x → W'[i]? = some x) : PkAt C W' J p S := by
  obtain ⟨q1, q2, h1, h2, h3⟩ := h.o
  exact ⟨⟨q1, q2, k _ (.inl rfl) _ h1, k _ (.inr (.inl rfl)) _ h2, k _ (.inr (.inr rfl)) _ h3⟩, h.n1, h.n2, h.n3⟩
theorem j3_ne {J : J3} {x k : Nat} (h : x ≠ J.1 ∧ x ≠ J.2.1 ∧ x ≠ J.2.2) (hk : k = J.1 ∨ k = J.2.1 ∨ k = J.2.2) : x ≠ k := fun e => by
  subst e
  rcases hk with z | z | z
  · exact h.1 z
  · exact h.2.1 z
  · exact h.2.2 z
theorem step_top {cur top tall t1 t : Int} (h0 : 1 ≤ tall) (e1 : t1 = if cur < top then cur else top) (h1 : t1 ≤ t) (h2 : t = t1 ∨ t ≤ cur - tall + 1) (h3 : ¬ cur ≥ t + tall) : t = mnI cur (mxI top (cur - tall + 1)) := by
  unfold mnI mxI
  subst e1
  split at h1 <;> split at h2 <;> repeat' split
  all_goals omega
theorem lay_ln {M : Mk} {ls : List (List Nat)} {s : Nw} (h : okN M ls s) : Lay 2 (lnD s) := by
  refine lay_tuple (n := 1) fun d hd => ?_
  simp only [List.mem_cons, List.not_mem_nil, or_false] at hd
  rcases hd with rfl | rfl | rfl | rfl
  · exact lay_tx fun c hc => by have := as_lowP h.a c hc; omega
  · exact lay_int
  · exact lay_int
  · exact lay_nats
theorem lay_lns {M : Mk} {ls : List (List Nat)} {l : List Nw} (h : ∀ s ∈ l, okN M ls s) : Lay 3 (.list (l.map lnD)) := lay_list (n := 2) fun d hd => by
  obtain ⟨s, hs, rfl⟩ := List.mem_map.mp hd
  exact lay_ln (h s hs)
theorem lns_ne (l : List Nw) (s : Nw) : PyData.eqv (.list ((l ++ [s]).map lnD)) (.list []) = false := by
  cases l <;> simp [PyData.eqv, PyData.eqvAll]
def RW_law_back (C : Addr) (ds : List PyData) (W : Wd) (Ω : PyData → Wd → Prop) : Prop := ∃ J p S, ∃ (o a b : Nat), ∃ qo qa qb, ∃ (n : Nat), ∃ (i : Int), ds = [ptrD p, ptrD qo, .int i] ∧ (i = 0 ∨ i = 1) ∧ P9 C W J p S o a b qo qa qb n ∧ n ≤ 5000 ∧ Ω = fun d W' => d = .bool true ∧ ∃ S', P9 C W' J p S' o a b qo qa qb n ∧ (i = 0 → S'.past.length = S.past.length - 1)
end Lf
set_option Elab.async false
set_option linter.all false
set_option maxRecDepth 100000
set_option maxHeartbeats 1000000
namespace K95
open PySem PySem.Spec PyProof.Rows L2 LamX Lf
def topS (i : Nat) : Stmt := PySem.Challenge.pw_letterfinds_k95_whole_pickers.main.body.getD i (.Pass ⟨0, 0, 0, 0⟩)
abbrev st_is_count : Stmt := topS 17
abbrev nm_is_count : List Str := ["thing", "low", "high"]
theorem sc_is_count : FnScope nm_is_count ["thing", "low", "high"] (defScope st_is_count) := ⟨rfl, rfl, rfl, by decide +kernel, rfl, by decide +kernel, by decide +kernel⟩
abbrev st_is_name : Stmt := topS 18
abbrev nm_is_name : List Str := ["thing", "sign"]
theorem sc_is_name : FnScope nm_is_name ["thing"] (defScope st_is_name) := ⟨rfl, rfl, rfl, by decide +kernel, rfl, by decide +kernel, by decide +kernel⟩
abbrev st_is_ask : Stmt := topS 19
abbrev nm_is_ask : List Str := ["thing", "sign"]
theorem sc_is_ask : FnScope nm_is_ask ["thing"] (defScope st_is_ask) := ⟨rfl, rfl, rfl, by decide +kernel, rfl, by decide +kernel, by decide +kernel⟩
abbrev st_small : Stmt := topS 20
abbrev nm_small : List Str := ["sign"]
theorem sc_small : FnScope nm_small ["sign"] (defScope st_small) := ⟨rfl, rfl, rfl, by decide +kernel, rfl, by decide +kernel, by decide +kernel⟩
abbrev st_is_hit : Stmt := topS 21
abbrev nm_is_hit : List Str := ["own", "sign"]
theorem sc_is_hit : FnScope nm_is_hit ["own", "sign"] (defScope st_is_hit) := ⟨rfl, rfl, rfl, by decide +kernel, rfl, by decide +kernel, by decide +kernel⟩
abbrev st_begins : Stmt := topS 22
abbrev nm_begins : List Str := ["name", "at"]
theorem sc_begins : FnScope nm_begins ["name", "at"] (defScope st_begins) := ⟨rfl, rfl, rfl, by decide +kernel, rfl, by decide +kernel, by decide +kernel⟩
abbrev st_greedy : Stmt := topS 24
abbrev nm_greedy : List Str := ["ask", "name", "found", "at", "own"]
theorem sc_greedy : FnScope nm_greedy ["ask", "name"] (defScope st_greedy) := ⟨rfl, rfl, rfl, by decide +kernel, rfl, by decide +kernel, by decide +kernel⟩
abbrev st_need_marks : Stmt := topS 28
abbrev nm_need_marks : List Str := ["marks", "good", "one"]
theorem sc_need_marks : FnScope nm_need_marks ["marks"] (defScope st_need_marks) := ⟨rfl, rfl, rfl, by decide +kernel, rfl, by decide +kernel, by decide +kernel⟩
abbrev st_own_worth : Stmt := topS 29
abbrev nm_own_worth : List Str := ["marks", "own", "name", "at", "found"]
theorem sc_own_worth : FnScope nm_own_worth ["marks", "own", "name", "at"] (defScope st_own_worth) := ⟨rfl, rfl, rfl, by decide +kernel, rfl, by decide +kernel, by decide +kernel⟩
abbrev st_gap_worth : Stmt := topS 30
abbrev nm_gap_worth : List Str := ["marks", "one", "other"]
theorem sc_gap_worth : FnScope nm_gap_worth ["marks", "one", "other"] (defScope st_gap_worth) := ⟨rfl, rfl, rfl, by decide +kernel, rfl, by decide +kernel, by decide +kernel⟩
abbrev st_best_of : Stmt := topS 31
abbrev nm_best_of : List Str := ["marks", "ask", "name", "rows", "number", "found", "at", "later", "own", "place", "more"]
theorem sc_best_of : FnScope nm_best_of ["marks", "ask", "name"] (defScope st_best_of) := ⟨rfl, rfl, rfl, by decide +kernel, rfl, by decide +kernel, by decide +kernel⟩
abbrev st_need_names : Stmt := topS 34
abbrev st_ranked : Stmt := topS 35
abbrev nm_ranked : List Str := ["rows"]
theorem sc_ranked : FnScope nm_ranked ["rows"] (defScope st_ranked) := ⟨rfl, rfl, rfl, by decide +kernel, rfl, by decide +kernel, by decide +kernel⟩
abbrev st_hits_of : Stmt := topS 36
abbrev nm_hits_of : List Str := ["marks", "ask", "pairs", "rows", "number", "name", "own"]
theorem sc_hits_of : FnScope nm_hits_of ["marks", "ask", "pairs"] (defScope st_hits_of) := ⟨rfl, rfl, rfl, by decide +kernel, rfl, by decide +kernel, by decide +kernel⟩
abbrev st_shown_text : Stmt := topS 38
abbrev nm_shown_text : List Str := ["name", "places", "found", "at", "sign", "ahead", "behind"]
theorem sc_shown_text : FnScope nm_shown_text ["name", "places"] (defScope st_shown_text) := ⟨rfl, rfl, rfl, by decide +kernel, rfl, by decide +kernel, by decide +kernel⟩
abbrev st_Picker_init : Stmt := inClass (topS 41) 0
abbrev nm_Picker_init : List Str := ["self", "marks", "names", "tall", "%w"]
theorem sc_Picker_init : FnScope nm_Picker_init ["self", "marks", "names", "tall"] (defScope st_Picker_init) := ⟨rfl, rfl, rfl, by decide +kernel, rfl, by decide +kernel, by decide +kernel⟩
abbrev st_Picker_become : Stmt := inClass (topS 41) 1
abbrev nm_Picker_become : List Str := ["self", "state", "%w"]
theorem sc_Picker_become : FnScope nm_Picker_become ["self", "state"] (defScope st_Picker_become) := ⟨rfl, rfl, rfl, by decide +kernel, rfl, by decide +kernel, by decide +kernel⟩
abbrev st_Picker_in_turn : Stmt := inClass (topS 41) 2
abbrev nm_Picker_in_turn : List Str := ["self", "%w"]
theorem sc_Picker_in_turn : FnScope nm_Picker_in_turn ["self"] (defScope st_Picker_in_turn) := ⟨rfl, rfl, rfl, by decide +kernel, rfl, by decide +kernel, by decide +kernel⟩
abbrev st_Picker_press : Stmt := inClass (topS 41) 3
abbrev nm_Picker_press : List Str := ["self", "sign", "typed", "%w"]
theorem sc_Picker_press : FnScope nm_Picker_press ["self", "sign"] (defScope st_Picker_press) := ⟨rfl, rfl, rfl, by decide +kernel, rfl, by decide +kernel, by decide +kernel⟩
abbrev st_Picker_rub : Stmt := inClass (topS 41) 4
abbrev nm_Picker_rub : List Str := ["self", "typed", "%w"]
theorem sc_Picker_rub : FnScope nm_Picker_rub ["self"] (defScope st_Picker_rub) := ⟨rfl, rfl, rfl, by decide +kernel, rfl, by decide +kernel, by decide +kernel⟩
abbrev st_Picker_step : Stmt := inClass (topS 41) 5
abbrev nm_Picker_step : List Str := ["self", "by", "typed", "cursor", "top", "some", "%w"]
theorem sc_Picker_step : FnScope nm_Picker_step ["self", "by"] (defScope st_Picker_step) := ⟨rfl, rfl, rfl, by decide +kernel, rfl, by decide +kernel, by decide +kernel⟩
abbrev st_Picker_at : Stmt := inClass (topS 41) 6
abbrev nm_Picker_at : List Str := ["self", "rows", "%w"]
theorem sc_Picker_at : FnScope nm_Picker_at ["self"] (defScope st_Picker_at) := ⟨rfl, rfl, rfl, by decide +kernel, rfl, by decide +kernel, by decide +kernel⟩
abbrev st_Picker_mark : Stmt := inClass (topS 41) 7
abbrev nm_Picker_mark : List Str := ["self", "own", "typed", "cursor", "top", "some", "rest", "one", "%w"]
theorem sc_Picker_mark : FnScope nm_Picker_mark ["self"] (defScope st_Picker_mark) := ⟨rfl, rfl, rfl, by decide +kernel, rfl, by decide +kernel, by decide +kernel⟩
abbrev st_Picker_undo : Stmt := inClass (topS 41) 8
abbrev nm_Picker_undo : List Str := ["self", "%w"]
theorem sc_Picker_undo : FnScope nm_Picker_undo ["self"] (defScope st_Picker_undo) := ⟨rfl, rfl, rfl, by decide +kernel, rfl, by decide +kernel, by decide +kernel⟩
abbrev st_Picker_redo : Stmt := inClass (topS 41) 9
abbrev nm_Picker_redo : List Str := ["self", "%w"]
theorem sc_Picker_redo : FnScope nm_Picker_redo ["self"] (defScope st_Picker_redo) := ⟨rfl, rfl, rfl, by decide +kernel, rfl, by decide +kernel, by decide +kernel⟩
abbrev st_Picker_ask : Stmt := inClass (topS 41) 10
abbrev nm_Picker_ask : List Str := ["self", "%w"]
theorem sc_Picker_ask : FnScope nm_Picker_ask ["self"] (defScope st_Picker_ask) := ⟨rfl, rfl, rfl, by decide +kernel, rfl, by decide +kernel, by decide +kernel⟩
abbrev st_Picker_chosen : Stmt := inClass (topS 41) 11
abbrev nm_Picker_chosen : List Str := ["self", "%w"]
theorem sc_Picker_chosen : FnScope nm_Picker_chosen ["self"] (defScope st_Picker_chosen) := ⟨rfl, rfl, rfl, by decide +kernel, rfl, by decide +kernel, by decide +kernel⟩
abbrev st_Picker_seen : Stmt := inClass (topS 41) 12
abbrev nm_Picker_seen : List Str := ["self", "typed", "cursor", "top", "some", "found", "at", "number", "name", "own", "places", "%w"]
theorem sc_Picker_seen : FnScope nm_Picker_seen ["self"] (defScope st_Picker_seen) := ⟨rfl, rfl, rfl, by decide +kernel, rfl, by decide +kernel, by decide +kernel⟩
abbrev st_Picker_done : Stmt := inClass (topS 41) 13
abbrev nm_Picker_done : List Str := ["self", "some", "number", "%w"]
theorem sc_Picker_done : FnScope nm_Picker_done ["self"] (defScope st_Picker_done) := ⟨rfl, rfl, rfl, by decide +kernel, rfl, by decide +kernel, by decide +kernel⟩
abbrev st_law_cell : Stmt := topS 43
abbrev nm_law_cell : List Str := ["script", "k"]
theorem sc_law_cell : FnScope nm_law_cell ["script", "k"] (defScope st_law_cell) := ⟨rfl, rfl, rfl, by decide +kernel, rfl, by decide +kernel, by decide +kernel⟩
abbrev st_law_drawn : Stmt := topS 44
abbrev nm_law_drawn : List Str := ["cell", "k", "more"]
theorem sc_law_drawn : FnScope nm_law_drawn ["cell", "k"] (defScope st_law_drawn) := ⟨rfl, rfl, rfl, by decide +kernel, rfl, by decide +kernel, by decide +kernel⟩
abbrev st_law_word : Stmt := topS 45
abbrev nm_law_word : List Str := ["e", "flags", "words_here", "flag"]
theorem sc_law_word : FnScope nm_law_word ["e"] (defScope st_law_word) := ⟨rfl, rfl, rfl, by decide +kernel, rfl, by decide +kernel, by decide +kernel⟩
abbrev st_law_told : Stmt := topS 46
abbrev nm_law_told : List Str := ["deed", "e"]
theorem sc_law_told : FnScope nm_law_told ["deed"] (defScope st_law_told) := ⟨rfl, rfl, rfl, by decide +kernel, rfl, by decide +kernel, by decide +kernel⟩
abbrev st_law_sign : Stmt := topS 47
abbrev nm_law_sign : List Str := ["more"]
theorem sc_law_sign : FnScope nm_law_sign ["more"] (defScope st_law_sign) := ⟨rfl, rfl, rfl, by decide +kernel, rfl, by decide +kernel, by decide +kernel⟩
abbrev st_law_name : Stmt := topS 48
abbrev nm_law_name : List Str := ["more", "most", "j"]
theorem sc_law_name : FnScope nm_law_name ["more", "most"] (defScope st_law_name) := ⟨rfl, rfl, rfl, by decide +kernel, rfl, by decide +kernel, by decide +kernel⟩
abbrev st_law_kind : Stmt := topS 49
abbrev nm_law_kind : List Str := ["sign"]
theorem sc_law_kind : FnScope nm_law_kind ["sign"] (defScope st_law_kind) := ⟨rfl, rfl, rfl, by decide +kernel, rfl, by decide +kernel, by decide +kernel⟩
abbrev st_law_starts : Stmt := topS 50
abbrev nm_law_starts : List Str := ["name", "found", "before", "at", "sign", "kind", "pairs"]
theorem sc_law_starts : FnScope nm_law_starts ["name"] (defScope st_law_starts) := ⟨rfl, rfl, rfl, by decide +kernel, rfl, by decide +kernel, by decide +kernel⟩
abbrev st_law_hit : Stmt := topS 51
abbrev nm_law_hit : List Str := ["own", "sign"]
theorem sc_law_hit : FnScope nm_law_hit ["own", "sign"] (defScope st_law_hit) := ⟨rfl, rfl, rfl, by decide +kernel, rfl, by decide +kernel, by decide +kernel⟩
abbrev st_law_every : Stmt := topS 52
abbrev nm_law_every : List Str := ["ask", "name", "found", "own", "later", "row", "first_here", "at"]
theorem sc_law_every : FnScope nm_law_every ["ask", "name"] (defScope st_law_every) := ⟨rfl, rfl, rfl, by decide +kernel, rfl, by decide +kernel, by decide +kernel⟩
abbrev st_law_marks : Stmt := topS 53
abbrev nm_law_marks : List Str := ["more", "here", "j"]
theorem sc_law_marks : FnScope nm_law_marks ["more"] (defScope st_law_marks) := ⟨rfl, rfl, rfl, by decide +kernel, rfl, by decide +kernel, by decide +kernel⟩
abbrev st_law_names : Stmt := topS 54
abbrev st_law_worth : Stmt := topS 55
abbrev nm_law_worth : List Str := ["marks", "ask", "name", "spots", "hit", "head", "start", "run", "same", "skip", "found", "begun", "n", "at", "gap"]
theorem sc_law_worth : FnScope nm_law_worth ["marks", "ask", "name", "spots"] (defScope st_law_worth) := ⟨rfl, rfl, rfl, by decide +kernel, rfl, by decide +kernel, by decide +kernel⟩
abbrev st_law_best : Stmt := topS 56
abbrev nm_law_best : List Str := ["marks", "ask", "name", "every_one", "most", "row"]
theorem sc_law_best : FnScope nm_law_best ["marks", "ask", "name"] (defScope st_law_best) := ⟨rfl, rfl, rfl, by decide +kernel, rfl, by decide +kernel, by decide +kernel⟩
abbrev st_law_rows : Stmt := topS 57
abbrev nm_law_rows : List Str := ["marks", "ask", "names", "rows", "number", "name", "own", "less", "long", "spots"]
theorem sc_law_rows : FnScope nm_law_rows ["marks", "ask", "names"] (defScope st_law_rows) := ⟨rfl, rfl, rfl, by decide +kernel, rfl, by decide +kernel, by decide +kernel⟩
abbrev st_law_shown : Stmt := topS 58
abbrev nm_law_shown : List Str := ["name", "spots", "found", "is_in", "at", "sign"]
theorem sc_law_shown : FnScope nm_law_shown ["name", "spots"] (defScope st_law_shown) := ⟨rfl, rfl, rfl, by decide +kernel, rfl, by decide +kernel, by decide +kernel⟩
abbrev st_law_fit : Stmt := topS 59
abbrev nm_law_fit : List Str := ["own", "%w"]
theorem sc_law_fit : FnScope nm_law_fit ["own"] (defScope st_law_fit) := ⟨rfl, rfl, rfl, by decide +kernel, rfl, by decide +kernel, by decide +kernel⟩
abbrev st_law_stepped : Stmt := topS 60
abbrev nm_law_stepped : List Str := ["own", "by", "typed", "cursor", "top", "some", "many", "tall", "goal", "%w"]
theorem sc_law_stepped : FnScope nm_law_stepped ["own", "by"] (defScope st_law_stepped) := ⟨rfl, rfl, rfl, by decide +kernel, rfl, by decide +kernel, by decide +kernel⟩
abbrev st_law_picker_step : Stmt := topS 61
abbrev nm_law_picker_step : List Str := ["picker", "own", "here", "typed", "cursor", "top", "some", "word", "due", "later", "sign", "told", "by", "rows", "number", "one", "%w"]
theorem sc_law_picker_step : FnScope nm_law_picker_step ["picker", "own", "here"] (defScope st_law_picker_step) := ⟨rfl, rfl, rfl, by decide +kernel, rfl, by decide +kernel, by decide +kernel⟩
abbrev st_law_back : Stmt := topS 62
abbrev nm_law_back : List Str := ["picker", "own", "side", "pair", "due", "%w"]
theorem sc_law_back : FnScope nm_law_back ["picker", "own", "side"] (defScope st_law_back) := ⟨rfl, rfl, rfl, by decide +kernel, rfl, by decide +kernel, by decide +kernel⟩
abbrev st_law_picker_like : Stmt := topS 63
abbrev nm_law_picker_like : List Str := ["picker", "own", "typed", "cursor", "top", "some", "rows", "due", "n", "number", "price", "spots", "here", "whole", "row", "%w"]
theorem sc_law_picker_like : FnScope nm_law_picker_like ["picker", "own"] (defScope st_law_picker_like) := ⟨rfl, rfl, rfl, by decide +kernel, rfl, by decide +kernel, by decide +kernel⟩
abbrev st_law : Stmt := topS 64
abbrev nm_law : List Str := ["script", "k", "more", "names", "marks", "tall", "kept", "picker", "own", "j", "deeds", "turn", "%w"]
theorem sc_law : FnScope nm_law ["script"] (defScope st_law) := ⟨rfl, rfl, rfl, by decide +kernel, rfl, by decide +kernel, by decide +kernel⟩
structure Tx (G : Pg) (T : List (Addr × Str)) (c0 c1 c2 c3 c4 c5 c6 c7 cS cL kPicker PL cM0 PM0 cM1 PM1 cM2 PM2 : Addr) : Prop where
  c_SMALL : ∃ t, G.mg "SMALL" = some (.str ⟨lSmall.toArray⟩ t)
  c_GREAT : ∃ t, G.mg "GREAT" = some (.str ⟨lGreat.toArray⟩ t)
  c_FIGURES : ∃ t, G.mg "FIGURES" = some (.str ⟨lFig.toArray⟩ t)
  c_OTHERS : ∃ t, G.mg "OTHERS" = some (.str ⟨lOth.toArray⟩ t)
  c_MOST_NAME : ∃ t, G.mg "MOST_NAME" = some (.int 30 t)
  c_MOST_ASK : ∃ t, G.mg "MOST_ASK" = some (.int 8 t)
  c_MOST_NAMES : ∃ t, G.mg "MOST_NAMES" = some (.int 60 t)
  c_MOST_MARK : ∃ t, G.mg "MOST_MARK" = some (.int 50 t)
  c_NAMES : KTp G.K G.mg "NAMES" 6
  c_MOST_TALL : ∃ t, G.mg "MOST_TALL" = some (.int 20 t)
  b_isinstance : G.mg "isinstance" = none
  b_int : G.mg "int" = none
  b_bool : G.mg "bool" = none
  b_all : G.mg "all" = none
  b_str : G.mg "str" = none
  b_len : G.mg "len" = none
  b_tuple : G.mg "tuple" = none
  b_range : G.mg "range" = none
  b_sorted : G.mg "sorted" = none
  b_list : G.mg "list" = none
  b_enumerate : G.mg "enumerate" = none
  b_max : G.mg "max" = none
  b_min : G.mg "min" = none
  b_sum : G.mg "sum" = none
  b_ValueError : G.mg "ValueError" = none
  d_is_count : Df G "is_count" st_is_count ["thing", "low", "high"]
  d_is_name : Df G "is_name" st_is_name ["thing"]
  d_is_ask : Df G "is_ask" st_is_ask ["thing"]
  d_small : Df G "small" st_small ["sign"]
  d_is_hit : Df G "is_hit" st_is_hit ["own", "sign"]
  d_begins : Df G "begins" st_begins ["name", "at"]
  d_greedy : Df G "greedy" st_greedy ["ask", "name"]
  d_need_marks : Df G "need_marks" st_need_marks ["marks"]
  d_own_worth : Df G "own_worth" st_own_worth ["marks", "own", "name", "at"]
  d_gap_worth : Df G "gap_worth" st_gap_worth ["marks", "one", "other"]
  d_best_of : Df G "best_of" st_best_of ["marks", "ask", "name"]
  d_need_names : Df G "need_names" st_need_names ["names"]
  d_ranked : DfL G "ranked" st_ranked ["rows"] cM0
  d_hits_of : Df G "hits_of" st_hits_of ["marks", "ask", "pairs"]
  d_shown_text : Df G "shown_text" st_shown_text ["name", "places"]
  m_Picker_init : MtI G kPicker "Picker.__init__" st_Picker_init ["self", "marks", "names", "tall"]
  m_Picker_become : Mt G kPicker "become" "Picker.become" st_Picker_become ["self", "state"]
  m_Picker_in_turn : Mt G kPicker "in_turn" "Picker.in_turn" st_Picker_in_turn ["self"]
  m_Picker_press : Mt G kPicker "press" "Picker.press" st_Picker_press ["self", "sign"]
  m_Picker_rub : Mt G kPicker "rub" "Picker.rub" st_Picker_rub ["self"]
  m_Picker_step : Mt G kPicker "step" "Picker.step" st_Picker_step ["self", "by"]
  m_Picker_at : Mt G kPicker "at" "Picker.at" st_Picker_at ["self"]
  m_Picker_mark : Mt G kPicker "mark" "Picker.mark" st_Picker_mark ["self"]
  m_Picker_undo : Mt G kPicker "undo" "Picker.undo" st_Picker_undo ["self"]
  m_Picker_redo : Mt G kPicker "redo" "Picker.redo" st_Picker_redo ["self"]
  m_Picker_ask : Mt G kPicker "ask" "Picker.ask" st_Picker_ask ["self"]
  m_Picker_chosen : Mt G kPicker "chosen" "Picker.chosen" st_Picker_chosen ["self"]
  m_Picker_seen : Mt G kPicker "seen" "Picker.seen" st_Picker_seen ["self"]
  m_Picker_done : Mt G kPicker "done" "Picker.done" st_Picker_done ["self"]
  d_law_cell : Df G "_law_cell" st_law_cell ["script", "k"]
  d_law_drawn : Df G "_law_drawn" st_law_drawn ["cell", "k"]
  d_law_word : Df G "_law_word" st_law_word ["e"]
  d_law_told : Df G "_law_told" st_law_told ["deed"]
  d_law_sign : Df G "_law_sign" st_law_sign ["more"]
  d_law_name : Df G "_law_name" st_law_name ["more", "most"]
  d_law_kind : Df G "_law_kind" st_law_kind ["sign"]
  d_law_starts : Df G "_law_starts" st_law_starts ["name"]
  d_law_hit : Df G "_law_hit" st_law_hit ["own", "sign"]
  d_law_every : Df G "_law_every" st_law_every ["ask", "name"]
  d_law_marks : Df G "_law_marks" st_law_marks ["more"]
  d_law_names : Df G "_law_names" st_law_names ["more", "many", "most"]
  d_law_worth : Df G "_law_worth" st_law_worth ["marks", "ask", "name", "spots"]
  d_law_best : Df G "_law_best" st_law_best ["marks", "ask", "name"]
  d_law_rows : Df G "_law_rows" st_law_rows ["marks", "ask", "names"]
  d_law_shown : Df G "_law_shown" st_law_shown ["name", "spots"]
  d_law_fit : Df G "_law_fit" st_law_fit ["own"]
  d_law_stepped : Df G "_law_stepped" st_law_stepped ["own", "by"]
  d_law_picker_step : DfL G "_law_picker_step" st_law_picker_step ["picker", "own", "here"] cM1
  d_law_back : DfL G "_law_back" st_law_back ["picker", "own", "side"] cM2
  d_law_picker_like : Df G "_law_picker_like" st_law_picker_like ["picker", "own"]
  k_Picker : ClsX G.K G.mg "Picker" kPicker ["marks", "pairs", "tall", "now", "past", "ahead"]
  g_BadName : G.mg "BadName" = some (.ref c0)
  g_BadAsk : G.mg "BadAsk" = some (.ref c1)
  g_BadMarks : G.mg "BadMarks" = some (.ref c2)
  g_BadPlaces : G.mg "BadPlaces" = some (.ref c3)
  g_BadNumber : G.mg "BadNumber" = some (.ref c4)
  g_NoName : G.mg "NoName" = some (.ref c5)
  g_Nothing : G.mg "Nothing" = some (.ref c6)
  g_BadText : G.mg "BadText" = some (.ref c7)
  g_FindError : G.mg "FindError" = some (.ref cS)
  w_BadName : EwX G.K [c0, c1, c2, c3, c4, c5, c6, c7] cS c0 0
  w_BadAsk : EwX G.K [c0, c1, c2, c3, c4, c5, c6, c7] cS c1 1
  w_BadMarks : EwX G.K [c0, c1, c2, c3, c4, c5, c6, c7] cS c2 2
  w_BadNumber : EwX G.K [c0, c1, c2, c3, c4, c5, c6, c7] cS c4 4
  w_NoName : EwX G.K [c0, c1, c2, c3, c4, c5, c6, c7] cS c5 5
  w_Nothing : EwX G.K [c0, c1, c2, c3, c4, c5, c6, c7] cS c6 6
  tb_law : TabB G.base G.mg cL PL
  hm_law : (PL, ("law" : Str) ++ ".<locals>." ++ "<lambda>") ∈ T
  hu_law : ∀ p ∈ T, p.1 = PL → p.2 = ("law" : Str) ++ ".<locals>." ++ "<lambda>"
  tb_ranked : TabB G.base G.mg cM0 PM0
  hm_ranked : (PM0, ("ranked" : Str) ++ ".<locals>." ++ "<lambda>") ∈ T
  hu_ranked : ∀ p ∈ T, p.1 = PM0 → p.2 = ("ranked" : Str) ++ ".<locals>." ++ "<lambda>"
  tb_law_picker_step : TabB G.base G.mg cM1 PM1
  hm_law_picker_step : (PM1, ("_law_picker_step" : Str) ++ ".<locals>." ++ "<lambda>") ∈ T
  hu_law_picker_step : ∀ p ∈ T, p.1 = PM1 → p.2 = ("_law_picker_step" : Str) ++ ".<locals>." ++ "<lambda>"
  tb_law_back : TabB G.base G.mg cM2 PM2
  hm_law_back : (PM2, ("_law_back" : Str) ++ ".<locals>." ++ "<lambda>") ∈ T
  hu_law_back : ∀ p ∈ T, p.1 = PM2 → p.2 = ("_law_back" : Str) ++ ".<locals>." ++ "<lambda>"
/-- the eight classes, as the module holds them -/
structure ErrG (mg : Str → Option Value) (c0 c1 c2 c3 c4 c5 c6 c7 : Addr) : Prop where
  g0 : mg "BadName" = some (.ref c0)
  g1 : mg "BadAsk" = some (.ref c1)
  g2 : mg "BadMarks" = some (.ref c2)
  g3 : mg "BadPlaces" = some (.ref c3)
  g4 : mg "BadNumber" = some (.ref c4)
  g5 : mg "NoName" = some (.ref c5)
  g6 : mg "Nothing" = some (.ref c6)
  g7 : mg "BadText" = some (.ref c7)
section
open L2H HotX
variable {P : Program} {w : World} {K : PySem.W.Frag} {mg : Str → Option Value} {base : Heap}
theorem ok_word {c0 c1 c2 c3 c4 c5 c6 c7 f : Addr} {fd : FuncData} (Fn : Fun K "_law_word" "_law_word" st_law_word f fd) (G : ErrG mg c0 c1 c2 c3 c4 c5 c6 c7) (b1 : mg "isinstance" = none) (b2 : mg "sum" = none) (b3 : mg "int" = none) (b4 : mg "ValueError" = none) :
    FnE P w K mg base 1 f fd "e" (spWord K [c0, c1, c2, c3, c4, c5, c6, c7]) := by
  obtain ⟨oc, od, kV, doc, pm, an, cdv, ct, osl, rfl, lk, hcd⟩ := Fn.ex
  refine fe_of lk hcd sc_law_word fun A outer s H Q p hot hr h => ?_
  obtain ⟨C, j, wd, hz, hf, ew, hw, q⟩ := h
  obtain ⟨a, oe⟩ := p
  have hc : HotC (cxH L2.CX0 P w K mg base nm_law_word "_law_word" (defScope st_law_word) f cdv A outer s H L2.E0 (a, oe)) := ⟨(a, oe), ⟨hot.1, hot.2⟩, List.mem_cons_self⟩
  have ci : CallR (cxH L2.CX0 P w K mg base nm_law_word "_law_word" (defScope st_law_word) f cdv A outer s H L2.E0 (a, oe)) (.builtin "isinstance") (rIsE K C a) := call_isP ew.exc List.mem_cons_self hz hf
  have hj : j < 8 := by
    have := (List.getElem?_eq_some_iff.mp ew.at_).1
    simpa using this
  refine ⟨_, pss_cons (ps_set (i := 1) sc_law_word.nd rfl (Or.inl rfl) (pe_lst (pa_cons (pe_callB ci rfl b1 (by decide +kernel) (pa_cons (pv 0) (pa_cons (pe_glob (v := .ref c0) rfl G.g0 rfl) pa_nil))) (pa_cons (pe_callB ci rfl b1 (by decide +kernel) (pa_cons (pv 0) (pa_cons (pe_glob (v := .ref c1) rfl G.g1 rfl) pa_nil))) (pa_cons (pe_callB ci rfl b1 (by decide +kernel) (pa_cons (pv 0) (pa_cons (pe_glob (v := .ref c2) rfl G.g2 rfl) pa_nil))) (pa_cons (pe_callB ci rfl b1 (by decide +kernel) (pa_cons (pv 0) (pa_cons (pe_glob (v := .ref c3) rfl G.g3 rfl) pa_nil))) pa_nil))))))
    (pss_cons (ps_set (i := 1) sc_law_word.nd rfl (Or.inl rfl) (pe_op op_cat (pv 1) (pe_lst (pa_cons (pe_callB ci rfl b1 (by decide +kernel) (pa_cons (pv 0) (pa_cons (pe_glob (v := .ref c4) rfl G.g4 rfl) pa_nil))) (pa_cons (pe_callB ci rfl b1 (by decide +kernel) (pa_cons (pv 0) (pa_cons (pe_glob (v := .ref c5) rfl G.g5 rfl) pa_nil))) (pa_cons (pe_callB ci rfl b1 (by decide +kernel) (pa_cons (pv 0) (pa_cons (pe_glob (v := .ref c6) rfl G.g6 rfl) pa_nil))) (pa_cons (pe_callB ci rfl b1 (by decide +kernel) (pa_cons (pv 0) (pa_cons (pe_glob (v := .ref c7) rfl G.g7 rfl) pa_nil))) pa_nil)))))))
    (pss_cons (ps_if (PW.pt (pw_or (pt_cmpR op_ne (pe_callB (cr_sumH hc) rfl b2 (by decide +kernel) (pa_cons (pe_bits hc b3 (pv 1) rfl rfl rfl (by decide) (by decide) (by decide)) pa_nil)) pe_int (nomark _)) (pw_or1 (pt_not (pt_val (pe_callB ci rfl b1 (by decide +kernel) (pa_cons (pv 0) (pa_cons (pe_bltn (v := .ty "ValueError") rfl b4 (by decide +kernel) rfl) pa_nil)))))))) (pss_one (ps_ret pe_str)) pss_nil)
    (pss_cons (ps_set (i := 2) sc_law_word.nd rfl (Or.inl rfl) (pe_lst (pa_cons pe_str (pa_cons pe_str (pa_cons pe_str (pa_cons pe_str (pa_cons pe_str (pa_cons pe_str (pa_cons pe_str (pa_cons pe_str pa_nil))))))))))
    (pss_one (ps_ret (pe_ix ix_list (pv 2) (pe_bm PySem.F.plainAttrs_list PySem.F.slot_list_index PySem.F.type_list_index mt_index (pv 1) (pa_cons pe_bl pa_nil)) (fun _ _ => rfl))))))), ?_⟩
  refine ⟨_, rfl, .ref c0, .ref c0, _, rfl, fun u r => r, ew.kit 0 c0 rfl, _, rfl, .ref c1, .ref c1, _, rfl, fun u r => r, ew.kit 1 c1 rfl, _, rfl, .ref c2, .ref c2, _, rfl, fun u r => r, ew.kit 2 c2 rfl, _, rfl, .ref c3, .ref c3, _, rfl, fun u r => r, ew.kit 3 c3 rfl, by show 4 ≤ sizeLine; decide, fun l1 n1 => ?_⟩
  refine ⟨_, rfl, _, rfl, .ref c4, .ref c4, _, rfl, fun u r => r, ew.kit 4 c4 rfl, _, rfl, .ref c5, .ref c5, _, rfl, fun u r => r, ew.kit 5 c5 rfl, _, rfl, .ref c6, .ref c6, _, rfl, fun u r => r, ew.kit 6 c6 rfl, _, rfl, .ref c7, .ref c7, _, rfl, fun u r => r, ew.kit 7 c7 rfl, by show 4 ≤ sizeLine; decide, fun l2 n2 => ?_⟩
  have n21 : l2 ≠ l1 := fun z => by rw [z, upd_same] at n2; cases n2
  refine ⟨l1, l2, _, _, rfl, rfl, by rw [upd_ne n21.symm, upd_same], upd_same, by show 4 + 4 ≤ sizeLine; decide, fun l3 n3 => ?_⟩
  have h3 : ∀ (bs : List V), (upd (upd (upd H l1 (.lst [V.bl (decide (0 = j)), V.bl (decide (1 = j)), V.bl (decide (2 = j)), V.bl (decide (3 = j))])) l2 (.lst [V.bl (decide (4 = j)), V.bl (decide (5 = j)), V.bl (decide (6 = j)), V.bl (decide (7 = j))])) l3 (.lst bs)) l3 = some (.lst bs) := fun bs => upd_same
  refine ⟨_, rfl, l3, bits j, rfl, SqL.of (h3 _), by show (List.map _ (List.range 8)).length ≤ 1000; rw [List.length_map, List.length_range]; decide, fun l4 n4 => ?_⟩
  have n43 : l3 ≠ l4 := fun z => by rw [← z, h3] at n4; cases n4
  refine ⟨l4, (bits j).map fun b => if b then 1 else 0, rfl, SqL.of (by rw [List.map_map]; exact upd_same), rfl, _, rfl, ?_⟩
  have hsum : ((bits j).map fun b => if b then (1 : Int) else 0).sum = 1 := by
    have hh : j = 0 ∨ j = 1 ∨ j = 2 ∨ j = 3 ∨ j = 4 ∨ j = 5 ∨ j = 6 ∨ j = 7 := by omega
    rcases hh with rfl | rfl | rfl | rfl | rfl | rfl | rfl | rfl <;> rfl
  rw [hsum]
  refine iteF ⟨_, rfl, .ty "ValueError", .type "ValueError", _, rfl, fun u r => r, ew.kv, _, rfl, iteF ?_⟩
  refine ⟨by show 8 ≤ sizeLine; decide, fun l5 n5 => ?_⟩
  have n53 : l3 ≠ l5 := fun z => by rw [← z, upd_ne n43, h3] at n5; cases n5
  have g3 : ∀ (o4 o5 : HO) (bs : List V), (upd (upd (upd (upd (upd H l1 (.lst [V.bl (decide (0 = j)), V.bl (decide (1 = j)), V.bl (decide (2 = j)), V.bl (decide (3 = j))])) l2 (.lst [V.bl (decide (4 = j)), V.bl (decide (5 = j)), V.bl (decide (6 = j)), V.bl (decide (7 = j))])) l3 (.lst bs)) l4 o4) l5 o5) l3 = some (.lst bs) := fun o4 o5 bs => by
    rw [upd_ne n53, upd_ne n43, upd_same]
  refine ⟨_, rfl, _, rfl, .inl ⟨rfl, _, SqL.of (g3 _ _ _)⟩, l3, (bits j).map V.bl, .bl true, j, .bl true, rfl, rfl, SqL.of (g3 _ _ _), rfl, ?_, ?_, rfl, ?_, l5, _, ((j : Nat) : Int), .str wd, rfl, rfl, SqL.of upd_same, atI_nat ?_, ?_⟩
  · simp [bits, flatV]
  · rw [List.getElem?_map]
    simp [bits, hj]
  · intro m z' hm hz'
    rw [List.getElem?_map] at hz'
    have hm8 : m < 8 := by omega
    simp [bits, hm8] at hz'
    rw [← hz']
    have : ¬ m = j := by omega
    simp [this, eqV]
  · have hh : j = 0 ∨ j = 1 ∨ j = 2 ∨ j = 3 ∨ j = 4 ∨ j = 5 ∨ j = 6 ∨ j = 7 := by omega
    rcases hh with rfl | rfl | rfl | rfl | rfl | rfl | rfl | rfl <;> (cases hw; rfl)
  · refine q _ fun b o e => ?_
    have f1 : b ≠ l1 := ne_of_none e n1
    have f2 : b ≠ l2 := fun z => by rw [← z, upd_ne f1, e] at n2; cases n2
    have f3 : b ≠ l3 := fun z => by rw [← z, upd_ne f2, upd_ne f1, e] at n3; cases n3
    have f4 : b ≠ l4 := fun z => by rw [← z, upd_ne f3, upd_ne f2, upd_ne f1, e] at n4; cases n4
    have f5 : b ≠ l5 := fun z => by rw [← z, upd_ne f4, upd_ne f3, upd_ne f2, upd_ne f1, e] at n5; cases n5
    rw [upd_ne f5, upd_ne f4, upd_ne f3, upd_ne f2, upd_ne f1]
    exact e
end
theorem p_told {G : Pg} {T : List (Addr × Str)} {c0 c1 c2 c3 c4 c5 c6 c7 cS cL PL : Addr} (Z : Tx G T c0 c1 c2 c3 c4 c5 c6 c7 cS cL kPicker PL cM0 PM0 cM1 PM1 cM2 PM2) : ToldG G.prog G.w G.K G.mg G.base [c0, c1, c2, c3, c4, c5, c6, c7] cS st_law_told where
  d := Z.d_law_told.ex
  sc := sc_law_told
  bd := ⟨_, _, _, _, _, _, _, _, _, _, rfl⟩
  s1 := rfl
  s2 := rfl
  s3 := rfl
  s4 := rfl
  cls := Z.g_FindError
  word := by
    obtain ⟨f, fd, Fn, m, b⟩ := Z.d_law_word.ex
    exact ⟨f, fd, ok_word Fn ⟨Z.g_BadName, Z.g_BadAsk, Z.g_BadMarks, Z.g_BadPlaces, Z.g_BadNumber, Z.g_NoName, Z.g_Nothing, Z.g_BadText⟩ Z.b_isinstance Z.b_sum Z.b_int Z.b_ValueError, m, Fn.kp, b⟩
section
variable {G : Pg} {T : List (Addr × Str)} {c0 c1 c2 c3 c4 c5 c6 c7 cS cL kPicker PL cM0 PM0 cM1 PM1 cM2 PM2 : Addr}
theorem p_is_count (Z : Tx G T c0 c1 c2 c3 c4 c5 c6 c7 cS cL kPicker PL cM0 PM0 cM1 PM1 cM2 PM2) : Fd G.prog G.w G.K G.mg G.base "is_count" 1 ["thing", "low", "high"] (spD T R_is_count) := by
  refine fd_data Z.d_is_count sc_is_count (fun ds r h => by obtain ⟨d, lo, hi, rfl, _⟩ := h; rfl) fun r F ds res cd hr h => ?_
  have cx := cd.toCtx
  obtain ⟨d, lo, hi, rfl, hnp, rfl⟩ := h
  have no : kitB (tyN d) "int" = some false → isCnt d lo hi = false → PSs (G.cx nm_is_count r) (defBody st_is_count) (sD F (start0 nm_is_count [d, .int lo, .int hi]) (postOf (.ok (.bool (isCnt d lo hi))))) := fun h0 h1 => by
    rw [h1]
    exact s_ret (x_and (j := true) (x_isi (T := "int") cx (x_var 0 cx rfl) Z.b_isinstance Z.b_int (by decide +kernel) h0) fun hb => by cases hb) rfl
  cases d with
  | int i =>
    refine (s_ret (x_and (x_isi (T := "int") cx (x_var 0 cx rfl) Z.b_isinstance Z.b_int (by decide +kernel) (show kitB (tyN (.int i)) _ = some true from rfl)) fun hb => (x_and (x_not (x_isi (T := "bool") cx (x_var 0 cx rfl) Z.b_isinstance Z.b_bool (by decide +kernel) (show kitB (tyN (.int i)) _ = some false from rfl))) fun hb => (x_one (x_chain op_le op_le od_b0 (fun hb => od_b0) (x_var 1 cx rfl) (x_var 0 cx rfl) (x_var 2 cx rfl))))) ?_)
    rfl
  | bool b =>
    exact s_ret (x_and (x_isi (T := "int") cx (x_var 0 cx rfl) Z.b_isinstance Z.b_int (by decide +kernel) (show kitB (tyN (.bool b)) _ = some true from rfl)) fun _ => x_and (j := true) (x_not (x_isi (T := "bool") cx (x_var 0 cx rfl) Z.b_isinstance Z.b_bool (by decide +kernel) (show kitB (tyN (.bool b)) _ = some true from rfl))) fun hb => by cases hb) rfl
  | none => exact no rfl rfl
  | str _ => exact no rfl rfl
  | list _ => exact no rfl rfl
  | tuple _ => exact no rfl rfl
  | dict _ => cases hnp
theorem p_is_name (Z : Tx G T c0 c1 c2 c3 c4 c5 c6 c7 cS cL kPicker PL cM0 PM0 cM1 PM1 cM2 PM2) : Fd G.prog G.w G.K G.mg G.base "is_name" 1 ["thing"] (spD T R_is_name) := by
  refine fd_data Z.d_is_name sc_is_name (fun ds r h => by obtain ⟨d, rfl, _⟩ := h; rfl) fun r F ds res cd hr h => ?_
  have cx := cd.toCtx
  obtain ⟨d, rfl, hz, rfl⟩ := h
  have hnp := okd_np hz
  by_cases ht : isTx d = true
  · obtain ⟨l, rfl⟩ : ∃ l, d = tx l := ⟨_, tx_of ht⟩
    rw [isName_tx]
    unfold okd at hz
    rw [cod_tx] at hz
    have hz2 : l.length ≤ sizeLine := Nat.le_trans hz (by decide)
    have hz3 : l.length ≤ 100000 := Nat.le_trans hz (by decide)
    refine (s_when (PW.pt (w_or (c_not (c_val (x_isi (T := "str") cx (x_var 0 cx rfl) Z.b_isinstance Z.b_str (by decide +kernel) (show kitB (tyN (tx l)) _ = some true from rfl)))) fun hb => (w_one (c_not (c_chain op_le op_le od_b0 (fun hb => od_b0) x_int (x_bi cx call_len (cd_lenS (by first | omega | decide | (simp; omega) | assumption)) Z.b_len PySem.boot_len (a_cons (x_var 0 cx rfl) a_nil)) (x_kI cx Z.c_MOST_NAME)))))) (fun hc1 => (s_ret x_bool ?_)) (fun hc1 => (s_ret (x_bi cx (cr_all cx.calm) (cd_allD mp_b) Z.b_all (by decide +kernel) (a_cons (x_dl (x_lc [("sign", 1)] (_) (fun (c : Nat) => tx [c]) _ _ _ cx (i_str (x_var 0 cx rfl)) (by first | omega | decide | (simp; omega) | assumption) (by decide +kernel) (fun s H C cl fp => g_nameB 1 (cx.blk s H _ C cl fp)) (fun x hx => tg_name) (wg_name (by decide)) (fun x hx s H C cl fp => ts_nil) (fun x hx hq s H C cl fp => (x_cmp op_inS od_inS (x_var 1 (cx.blk s H _ C cl fp) rfl) (x_op op_add_str (od_catS (by first | omega | decide | (simp; omega) | assumption)) (x_op op_add_str (od_catS (by first | omega | decide | (simp; omega) | assumption)) (x_op op_add_str (od_catS (by first | omega | decide | (simp; omega) | assumption)) (x_kS (cx.blk s H _ C cl fp) Z.c_SMALL) (x_kS (cx.blk s H _ C cl fp) Z.c_GREAT)) (x_kS (cx.blk s H _ C cl fp) Z.c_FIGURES)) (x_kS (cx.blk s H _ C cl fp) Z.c_OTHERS)))))) a_nil)) ?_)))
    · show Except.ok _ = Except.ok _
      refine congrArg (fun b => Except.ok (PyData.bool b)) ?_
      unfold isNm
      simp at hc1
      simp
      omega
    · show Except.ok _ = Except.ok _
      refine congrArg (fun b => Except.ok (PyData.bool b)) ?_
      unfold isNm
      simp at hc1
      simp [hc1, Function.comp_def, lSmall, lGreat, lFig, lOth]
      omega
  · have ht : isTx d = false := by simpa using ht
    refine (s_when (PW.pt (w_or (j := true) (c_not (c_val (x_isi cx (x_var 0 cx rfl) Z.b_isinstance Z.b_str (by decide +kernel) (kit_str ht)))) fun hb => (by cases hb))) (fun hc => (s_ret x_bool ?_)) (fun hc => (by cases hc)))
    show Except.ok _ = Except.ok _
    simp [isName, ht]
theorem p_is_ask (Z : Tx G T c0 c1 c2 c3 c4 c5 c6 c7 cS cL kPicker PL cM0 PM0 cM1 PM1 cM2 PM2) : Fd G.prog G.w G.K G.mg G.base "is_ask" 1 ["thing"] (spD T R_is_ask) := by
  refine fd_data Z.d_is_ask sc_is_ask (fun ds r h => by obtain ⟨d, rfl, _⟩ := h; rfl) fun r F ds res cd hr h => ?_
  have cx := cd.toCtx
  obtain ⟨d, rfl, hz, rfl⟩ := h
  have hnp := okd_np hz
  by_cases ht : isTx d = true
  · obtain ⟨l, rfl⟩ : ∃ l, d = tx l := ⟨_, tx_of ht⟩
    rw [isAsk_tx]
    unfold okd at hz
    rw [cod_tx] at hz
    have hz2 : l.length ≤ sizeLine := Nat.le_trans hz (by decide)
    have hz3 : l.length ≤ 100000 := Nat.le_trans hz (by decide)
    refine (s_when (PW.pt (w_or (c_not (c_val (x_isi (T := "str") cx (x_var 0 cx rfl) Z.b_isinstance Z.b_str (by decide +kernel) (show kitB (tyN (tx l)) _ = some true from rfl)))) fun hb => (w_one (c_cmp op_gt od_b0 (x_bi cx call_len (cd_lenS (by first | omega | decide | (simp; omega) | assumption)) Z.b_len PySem.boot_len (a_cons (x_var 0 cx rfl) a_nil)) (x_kI cx Z.c_MOST_ASK))))) (fun hc1 => (s_ret x_bool ?_)) (fun hc1 => (s_ret (x_bi cx (cr_all cx.calm) (cd_allD mp_b) Z.b_all (by decide +kernel) (a_cons (x_dl (x_lc [("sign", 1)] (_) (fun (c : Nat) => tx [c]) _ _ _ cx (i_str (x_var 0 cx rfl)) (by first | omega | decide | (simp; omega) | assumption) (by decide +kernel) (fun s H C cl fp => g_nameB 1 (cx.blk s H _ C cl fp)) (fun x hx => tg_name) (wg_name (by decide)) (fun x hx s H C cl fp => ts_nil) (fun x hx hq s H C cl fp => (x_cmp op_inS od_inS (x_var 1 (cx.blk s H _ C cl fp) rfl) (x_op op_add_str (od_catS (by first | omega | decide | (simp; omega) | assumption)) (x_op op_add_str (od_catS (by first | omega | decide | (simp; omega) | assumption)) (x_kS (cx.blk s H _ C cl fp) Z.c_SMALL) (x_kS (cx.blk s H _ C cl fp) Z.c_GREAT)) (x_kS (cx.blk s H _ C cl fp) Z.c_FIGURES)))))) a_nil)) ?_)))
    · show Except.ok _ = Except.ok _
      refine congrArg (fun b => Except.ok (PyData.bool b)) ?_
      unfold isAs
      simp at hc1
      simp
      omega
    · show Except.ok _ = Except.ok _
      refine congrArg (fun b => Except.ok (PyData.bool b)) ?_
      unfold isAs
      simp at hc1
      simp [hc1, Function.comp_def, lSmall, lGreat, lFig]
      omega
  · have ht : isTx d = false := by simpa using ht
    refine (s_when (PW.pt (w_or (j := true) (c_not (c_val (x_isi cx (x_var 0 cx rfl) Z.b_isinstance Z.b_str (by decide +kernel) (kit_str ht)))) fun hb => (by cases hb))) (fun hc => (s_ret x_bool ?_)) (fun hc => (by cases hc)))
    show Except.ok _ = Except.ok _
    simp [isAsk, ht]
theorem p_small (Z : Tx G T c0 c1 c2 c3 c4 c5 c6 c7 cS cL kPicker PL cM0 PM0 cM1 PM1 cM2 PM2) : Fd G.prog G.w G.K G.mg G.base "small" 1 ["sign"] (spD T R_small) := by
  refine fd_data Z.d_small sc_small (fun ds r h => by obtain ⟨c, rfl, _⟩ := h; rfl) fun r F ds res cd hr h => ?_
  have cx := cd.toCtx
  obtain ⟨c, rfl, rfl⟩ := h
  refine s_ret (d := tx [smallC c]) (x_if (c_cmp op_inS od_inS (x_var 0 cx rfl) (x_kS cx Z.c_GREAT)) (fun hb => (x_is (x_ix ix_str (od_ixS (by first | omega | decide | (simp; omega) | assumption) (sm_at (by simpa using hb))) (x_kS cx Z.c_SMALL) (x_m1 PySem.F.slot_str_index PySem.F.type_str_index mt_sindex (md_sindex (sm_idx (by simpa using hb))) (x_kS cx Z.c_GREAT) (x_var 0 cx rfl))) (by first | rfl | (simp_all [smallC]; done)))) (fun hb => (x_is (x_var 0 cx rfl) (by first | rfl | (simp_all [smallC]; done))))) rfl
theorem p_is_hit (Z : Tx G T c0 c1 c2 c3 c4 c5 c6 c7 cS cL kPicker PL cM0 PM0 cM1 PM1 cM2 PM2) : Fd G.prog G.w G.K G.mg G.base "is_hit" 2 ["own", "sign"] (spD T R_is_hit) := by
  refine fd_data Z.d_is_hit sc_is_hit (fun ds r h => by obtain ⟨o, s, rfl, _⟩ := h; rfl) fun r F ds res cd hr h => ?_
  have cx := cd.toCtx
  obtain ⟨o, s, rfl, rfl⟩ := h
  refine (s_ret (x_or (x_cmp op_eq od_eqS (x_var 1 cx rfl) (x_var 0 cx rfl)) fun hb => (x_one (x_and (x_cmp op_inS od_inS (x_var 0 cx rfl) (x_kS cx Z.c_SMALL)) fun hb => (x_one (x_cmp op_eq od_eqS (x_call cx (p_small Z) (hr.mono (by omega)) (a_cons (x_var 1 cx rfl) a_nil) ⟨_, rfl, rfl⟩) (x_var 0 cx rfl)))))) ?_)
  show Except.ok _ = Except.ok _
  simp [hitC]
theorem p_begins (Z : Tx G T c0 c1 c2 c3 c4 c5 c6 c7 cS cL kPicker PL cM0 PM0 cM1 PM1 cM2 PM2) : Fd G.prog G.w G.K G.mg G.base "begins" 1 ["name", "at"] (spD T R_begins) := by
  refine fd_data Z.d_begins sc_begins (fun ds r h => by obtain ⟨l, i, rfl, _⟩ := h; rfl) fun r F ds res cd hr h => ?_
  have cx := cd.toCtx
  obtain ⟨l, i, rfl, hi, hz, rfl⟩ := h
  have e1 : atI l ((i : Nat) : Int) = some (l.getD i 0) := atI_nat (by rw [List.getElem?_eq_getElem hi]; simp [hi])
  have e2 : i ≠ 0 → atI l (((i : Nat) : Int) - 1) = some (l.getD (i - 1) 0) := fun h => by
    have : ((i : Nat) : Int) - 1 = ((i - 1 : Nat) : Int) := by omega
    rw [this]
    exact atI_nat (by rw [List.getElem?_eq_getElem (by omega)]; simp [show i - 1 < l.length by omega])
  have hz2 : l.length ≤ sizeLine := Nat.le_trans hz (by decide)
  refine (s_when (c_cmp op_inS od_inS (x_ix ix_str (od_ixS (by first | omega | decide | (simp; omega) | assumption) (by first | exact e1 | (refine e2 ?_; rintro rfl; simp_all))) (x_var 0 cx rfl) (x_var 1 cx rfl)) (x_kS cx Z.c_OTHERS)) (fun hc1 => (s_ret x_bool ?_)) (fun hc1 => (s_when (PW.pt (w_or (c_cmp op_eq od_eqI (x_var 1 cx rfl) x_int) fun hb => (w_one (c_cmp op_inS od_inS (x_ix ix_str (od_ixS (by first | omega | decide | (simp; omega) | assumption) (by first | exact e1 | (refine e2 ?_; rintro rfl; simp_all))) (x_var 0 cx rfl) (x_op op_sub od_i0 (x_var 1 cx rfl) x_int)) (x_kS cx Z.c_OTHERS))))) (fun hc2 => (s_ret x_bool ?_)) (fun hc2 => (s_when (c_cmp op_inS od_inS (x_ix ix_str (od_ixS (by first | omega | decide | (simp; omega) | assumption) (by first | exact e1 | (refine e2 ?_; rintro rfl; simp_all))) (x_var 0 cx rfl) (x_var 1 cx rfl)) (x_kS cx Z.c_GREAT)) (fun hc3 => (s_ret (x_cmp op_notInS od_ninS (x_ix ix_str (od_ixS (by first | omega | decide | (simp; omega) | assumption) (by first | exact e1 | (refine e2 ?_; rintro rfl; simp_all))) (x_var 0 cx rfl) (x_op op_sub od_i0 (x_var 1 cx rfl) x_int)) (x_kS cx Z.c_GREAT)) ?_)) (fun hc3 => (s_ret (x_cmp op_ne od_neB (x_cmp op_inS od_inS (x_ix ix_str (od_ixS (by first | omega | decide | (simp; omega) | assumption) (by first | exact e1 | (refine e2 ?_; rintro rfl; simp_all))) (x_var 0 cx rfl) (x_var 1 cx rfl)) (x_kS cx Z.c_FIGURES)) (x_cmp op_inS od_inS (x_ix ix_str (od_ixS (by first | omega | decide | (simp; omega) | assumption) (by first | exact e1 | (refine e2 ?_; rintro rfl; simp_all))) (x_var 0 cx rfl) (x_op op_sub od_i0 (x_var 1 cx rfl) x_int)) (x_kS cx Z.c_FIGURES))) ?_)))))))
  all_goals show Except.ok _ = Except.ok _
  all_goals refine congrArg (fun b => Except.ok (PyData.bool b)) ?_
  all_goals (unfold begins; simp_all)
theorem p_greedy (Z : Tx G T c0 c1 c2 c3 c4 c5 c6 c7 cS cL kPicker PL cM0 PM0 cM1 PM1 cM2 PM2) : Fd G.prog G.w G.K G.mg G.base "greedy" 3 ["ask", "name"] (spD T R_greedy) := by
  refine fd_data Z.d_greedy sc_greedy (fun ds r h => by obtain ⟨a, n, rfl, _⟩ := h; rfl) fun r F ds res cd hr h => ?_
  have cx := cd.toCtx
  obtain ⟨a, n, rfl, hla, hln, rfl⟩ := h
  refine (s_own 2 cd (x_lstN a_nil) (s_set 3 cd x_int (s_for (a) (fun (c : Nat) => tx [c]) (fun pre δ => ∃ fs at_ s4, at_ ≤ n.length ∧ fs.length = pre.length ∧ (∀ post, gr (pre ++ post) n 0 = (gr post (n.drop at_) at_).map (fs ++ ·)) ∧ δ = [.dat (tx a), .dat (tx n), .own (fs.map natI), .dat (natI at_), s4]) cd (i_str (x_var 0 cx rfl)) (g_name 4 cd) ?_ ?_ ?_)))
  · exact ⟨[], 0, _, Nat.zero_le _, rfl, fun post => by simp, rfl⟩
  · intro pre x post δ' hx hI
    obtain ⟨fs, at_, s4, hat, hfl, hg, rfl⟩ := hI
    have hsl : n.length ≤ sizeLine := Nat.le_trans hln (by decide)
    have hpl : pre.length < a.length := by
      rw [hx]
      simp
    have hfz : (fs.map natI).length < 100000 := by
      rw [List.length_map]
      omega
    refine ⟨_, tg_name, ?_⟩
    refine (s_while (fun m δ => ∃ b, b ≤ n.length ∧ m = n.length - b ∧ (∀ post, gr (x :: post) (n.drop at_) at_ = gr (x :: post) (n.drop b) b) ∧ δ = [.dat (tx a), .dat (tx n), .own (fs.map natI), .dat (natI b), .dat (tx [x])]) (n.length - at_) cd ?_ ?_)
    · exact ⟨at_, hat, rfl, fun post => rfl, rfl⟩
    · intro m δ1 hI1
      obtain ⟨b, hb, rfl, hw, rfl⟩ := hI1
      refine ⟨_, (PW.pt (w_and (c_cmp op_lt od_b0 (x_var 3 cx rfl) (x_bi cx call_len (cd_lenS (by first | omega | decide | (simp; omega) | assumption)) Z.b_len PySem.boot_len (a_cons (x_var 1 cx rfl) a_nil))) fun hb => (w_one (c_not (c_val (x_call cx (p_is_hit Z) (hr.mono (by omega)) (a_cons (x_var 4 cx rfl) (a_cons (x_ix ix_str (od_ixS (by first | omega | decide | (simp; omega) | assumption) (getD_at (dec_lt hb))) (x_var 1 cx rfl) (x_var 3 cx rfl)) a_nil)) ⟨_, _, rfl, rfl⟩)))))), fun hk => ?_, fun hk => ?_⟩
      · have hk : b < n.length ∧ hitC x (n.getD b 0) = false := by simpa using hk
        refine (s_set 3 cd (x_op op_add od_i0 (x_var 3 cx rfl) x_int) (s_nil ?_))
        refine ⟨n.length - (b + 1), by omega, b + 1, by omega, rfl, fun post => ?_, rfl⟩
        rw [hw, gr_miss hk.1 hk.2]
      · have hk : b < n.length → hitC x (n.getD b 0) = true := by simpa using hk
        refine (s_when (c_cmp op_eq od_eqI (x_var 3 cx rfl) (x_bi cx call_len (cd_lenS (by first | omega | decide | (simp; omega) | assumption)) Z.b_len PySem.boot_len (a_cons (x_var 1 cx rfl) a_nil))) (fun hc1 => (s_ret x_none ?_)) (fun hc1 => (s_appN 2 cx rfl (x_var 3 cx rfl) (by first | omega | decide | (simp; omega) | assumption) (s_set 3 cd (x_op op_add od_i0 (x_var 3 cx rfl) x_int) (s_nil ?_)))))
        · have e : b = n.length := by
            have := of_decide_eq_true hc1
            omega
          show Except.ok _ = Except.ok _
          rw [hx, hg, hw, e, gr_end]
          rfl
        · have e : b < n.length := by
            have := of_decide_eq_false hc1
            omega
          show ∃ fs at_ s4, _
          refine ⟨fs ++ [b], b + 1, .dat (tx [x]), e, by simp [hfl], fun post => ?_, ?_⟩
          · rw [List.append_assoc, List.singleton_append, hg, hw, gr_hit e (hk e)]
            cases gr post (n.drop (b + 1)) (b + 1) <;> simp
          · rw [List.map_append]
            rfl
  · intro δ' hI
    obtain ⟨fs, at_, s4, hat, hfl, hg, rfl⟩ := hI
    refine (s_freeze 2 rfl (s_ret (x_var 2 cx rfl) ?_))
    have := hg []
    rw [List.append_nil] at this
    show Except.ok _ = Except.ok _
    rw [this]
    cases n.drop at_ <;> simp [gr, optD, rowD]
theorem p_need_marks (Z : Tx G T c0 c1 c2 c3 c4 c5 c6 c7 cS cL kPicker PL cM0 PM0 cM1 PM1 cM2 PM2) : Fd G.prog G.w G.K G.mg G.base "need_marks" 2 ["marks"] (spD T (R_need_marks c2)) := by
  refine fd_data Z.d_need_marks sc_need_marks (fun ds r h => by obtain ⟨d, rfl, _⟩ := h; rfl) fun r F ds res cd hr h => ?_
  have cx := cd.toCtx
  obtain ⟨d, rfl, hz, rfl⟩ := h
  have hnp := okT_np hz
  by_cases ht : isTp d = true
  · obtain ⟨ds, rfl⟩ : ∃ ds, d = .tuple ds := ⟨_, tp_of ht⟩
    have hel : ∀ e ∈ ds, isP e = false := hz.2
    have hz : ds.length ≤ 10000 := hz.1
    refine (s_set 1 cd (x_and (x_isi (T := "tuple") cx (x_var 0 cx rfl) Z.b_isinstance Z.b_tuple (by decide +kernel) (show kitB (tyN (.tuple _)) _ = some true from rfl)) fun hb => (x_one (x_cmp op_eq od_eqI (x_bi cx call_len cd_lenT Z.b_len PySem.boot_len (a_cons (x_var 0 cx rfl) a_nil)) (x_lenK cx Z.c_NAMES Z.b_len)))) (s_when (PW.pt (w_or (c_not (c_val (x_var 1 cx rfl))) fun hb => (w_one (c_not (c_val (x_bi cx (cr_all cx.calm) (cd_allD mp_b) Z.b_all (by decide +kernel) (a_cons (x_dl (x_lc [("one", 2)] (_) (fun (d : PyData) => d) _ _ _ cx (i_tup (x_is (x_var 0 cx rfl) (map_selfT _))) (by first | omega | decide | (simp; omega) | assumption) (by decide +kernel) (fun s H C cl fp => g_nameB 2 (cx.blk s H _ C cl fp)) (fun x hx => tg_name) (wg_name (by decide)) (fun x hx s H C cl fp => ts_nil) (fun x hx hq s H C cl fp => (x_call (cx.blk s H _ C cl fp) (p_is_count Z) (hr.mono (by omega)) (a_cons (x_var 2 (cx.blk s H _ C cl fp) rfl) (a_cons x_int (a_cons (x_kI (cx.blk s H _ C cl fp) Z.c_MOST_MARK) a_nil))) ⟨_, _, _, rfl, by first | rfl | assumption | solve_by_elim, rfl⟩)))) a_nil))))))) (fun hc1 => (s_raise cd Z.w_BadMarks.ok.x Z.g_BadMarks Z.w_BadMarks.ok.k (raises_own Z.w_BadMarks.ok.e Z.w_BadMarks.ok.t) ?_)) (fun hc1 => (s_nil ?_))))
    · show (if _ then _ else _) = _
      rw [if_neg]
      show ¬ (isTp (.tuple ds) && decide (ds.length = 6) && ds.all fun e => isCnt e 0 50) = true
      simp [Function.comp_def, isTp] at hc1 ⊢
      intro h1
      rcases hc1 with h | h
      · omega
      · exact h
    · show (if _ then _ else _) = _
      rw [if_pos]
      show (isTp (.tuple ds) && decide (ds.length = 6) && ds.all fun e => isCnt e 0 50) = true
      simp [Function.comp_def, isTp] at hc1 ⊢
      exact ⟨by omega, hc1.2⟩
  · have ht : isTp d = false := by simpa using ht
    refine s_set 1 cd (x_and (j := true) (x_isi (T := "tuple") cx (x_var 0 cx rfl) Z.b_isinstance Z.b_tuple (by decide +kernel) (kit_tup ht)) fun hb => (by cases hb)) (s_when (PW.pt (w_or (j := true) (c_not (c_val (x_var 1 cx rfl))) fun hb => (by cases hb))) (fun hc => (s_raise cd Z.w_BadMarks.ok.x Z.g_BadMarks Z.w_BadMarks.ok.k (raises_own Z.w_BadMarks.ok.e Z.w_BadMarks.ok.t) ?_)) (fun hc => (by cases hc)))
    show (if _ then _ else _) = _
    rw [if_neg]
    unfold isMarks
    rw [ht]
    simp
theorem p_own_worth (Z : Tx G T c0 c1 c2 c3 c4 c5 c6 c7 cS cL kPicker PL cM0 PM0 cM1 PM1 cM2 PM2) : Fd G.prog G.w G.K G.mg G.base "own_worth" 2 ["marks", "own", "name", "at"] (spD T R_own_worth) := by
  refine fd_data Z.d_own_worth sc_own_worth (fun ds r h => by obtain ⟨M, c, n, p, rfl, _⟩ := h; rfl) fun r F ds res cd hr h => ?_
  have cx := cd.toCtx
  obtain ⟨M, c, n, p, rfl, hp, hn, rfl⟩ := h
  have hS : 100000 ≤ sizeLine := by decide
  refine (s_set 4 cd (x_ix ix_tup (od_ixT (by first | rfl | exact getD_at hp)) (x_var 0 cx rfl) x_int) (s_when (c_cmp op_eq od_eqI (x_var 3 cx rfl) x_int) (fun hc1 => (s_set 4 cd (x_op op_add od_i0 (x_var 4 cx rfl) (x_ix ix_tup (od_ixT (by first | rfl | exact getD_at hp)) (x_var 0 cx rfl) x_int)) (s_nil (s_when (c_val (x_call cx (p_begins Z) (hr.mono (by omega)) (a_cons (x_var 2 cx rfl) (a_cons (x_var 3 cx rfl) a_nil)) ⟨_, _, rfl, hp, hn, rfl⟩)) (fun hc2 => (s_set 4 cd (x_op op_add od_i0 (x_var 4 cx rfl) (x_ix ix_tup (od_ixT (by first | rfl | exact getD_at hp)) (x_var 0 cx rfl) x_int)) (s_nil (s_ret (x_if (d := .int (ow M c n p)) (c_cmp op_eq od_eqS (x_ix ix_str (od_ixS (by first | omega | decide | (simp; omega) | assumption) (by first | rfl | exact getD_at hp)) (x_var 2 cx rfl) (x_var 3 cx rfl)) (x_var 1 cx rfl)) (fun hb => (x_is (x_op op_add od_i0 (x_var 4 cx rfl) (x_ix ix_tup (od_ixT (by first | rfl | exact getD_at hp)) (x_var 0 cx rfl) x_int)) (congrArg PyData.int (by unfold ow; simp_all)))) (fun hb => (x_is (x_var 4 cx rfl) (congrArg PyData.int (by unfold ow; simp_all))))) ?_)))) (fun hc2 => (s_ret (x_if (d := .int (ow M c n p)) (c_cmp op_eq od_eqS (x_ix ix_str (od_ixS (by first | omega | decide | (simp; omega) | assumption) (by first | rfl | exact getD_at hp)) (x_var 2 cx rfl) (x_var 3 cx rfl)) (x_var 1 cx rfl)) (fun hb => (x_is (x_op op_add od_i0 (x_var 4 cx rfl) (x_ix ix_tup (od_ixT (by first | rfl | exact getD_at hp)) (x_var 0 cx rfl) x_int)) (congrArg PyData.int (by unfold ow; simp_all)))) (fun hb => (x_is (x_var 4 cx rfl) (congrArg PyData.int (by unfold ow; simp_all))))) ?_)))))) (fun hc1 => (s_when (c_val (x_call cx (p_begins Z) (hr.mono (by omega)) (a_cons (x_var 2 cx rfl) (a_cons (x_var 3 cx rfl) a_nil)) ⟨_, _, rfl, hp, hn, rfl⟩)) (fun hc3 => (s_set 4 cd (x_op op_add od_i0 (x_var 4 cx rfl) (x_ix ix_tup (od_ixT (by first | rfl | exact getD_at hp)) (x_var 0 cx rfl) x_int)) (s_nil (s_ret (x_if (d := .int (ow M c n p)) (c_cmp op_eq od_eqS (x_ix ix_str (od_ixS (by first | omega | decide | (simp; omega) | assumption) (by first | rfl | exact getD_at hp)) (x_var 2 cx rfl) (x_var 3 cx rfl)) (x_var 1 cx rfl)) (fun hb => (x_is (x_op op_add od_i0 (x_var 4 cx rfl) (x_ix ix_tup (od_ixT (by first | rfl | exact getD_at hp)) (x_var 0 cx rfl) x_int)) (congrArg PyData.int (by unfold ow; simp_all)))) (fun hb => (x_is (x_var 4 cx rfl) (congrArg PyData.int (by unfold ow; simp_all))))) ?_)))) (fun hc3 => (s_ret (x_if (d := .int (ow M c n p)) (c_cmp op_eq od_eqS (x_ix ix_str (od_ixS (by first | omega | decide | (simp; omega) | assumption) (by first | rfl | exact getD_at hp)) (x_var 2 cx rfl) (x_var 3 cx rfl)) (x_var 1 cx rfl)) (fun hb => (x_is (x_op op_add od_i0 (x_var 4 cx rfl) (x_ix ix_tup (od_ixT (by first | rfl | exact getD_at hp)) (x_var 0 cx rfl) x_int)) (congrArg PyData.int (by unfold ow; simp_all)))) (fun hb => (x_is (x_var 4 cx rfl) (congrArg PyData.int (by unfold ow; simp_all))))) ?_))))))
  all_goals rfl
theorem p_gap_worth (Z : Tx G T c0 c1 c2 c3 c4 c5 c6 c7 cS cL kPicker PL cM0 PM0 cM1 PM1 cM2 PM2) : Fd G.prog G.w G.K G.mg G.base "gap_worth" 1 ["marks", "one", "other"] (spD T R_gap_worth) := by
  refine fd_data Z.d_gap_worth sc_gap_worth (fun ds r h => by obtain ⟨M, i, j, rfl, _⟩ := h; rfl) fun r F ds res cd hr h => ?_
  have cx := cd.toCtx
  obtain ⟨M, i, j, rfl, hM, hi, hj, rfl⟩ := h
  have hsk := hM.sk
  refine (s_ret (x_if (d := .int (gw M i j)) (c_cmp op_eq od_eqI (x_var 2 cx rfl) (x_op op_add od_i0 (x_var 1 cx rfl) x_int)) (fun hb => (x_is (x_ix ix_tup (od_ixT rfl) (x_var 0 cx rfl) x_int) (congrArg PyData.int (by unfold gw; simp at hb; split <;> omega)))) (fun hb => (x_is (x_op op_sub od_i0 x_int (x_op op_mulW (od_iC (cm_small (by omega) (by omega))) (x_ix ix_tup (od_ixT rfl) (x_var 0 cx rfl) x_int) (x_op op_sub od_i0 (x_op op_sub od_i0 (x_var 2 cx rfl) (x_var 1 cx rfl)) x_int))) (congrArg PyData.int (by unfold gw; simp at hb; split <;> omega))))) ?_)
  rfl
theorem p_best_of (Z : Tx G T c0 c1 c2 c3 c4 c5 c6 c7 cS cL kPicker PL cM0 PM0 cM1 PM1 cM2 PM2) : Fd G.prog G.w G.K G.mg G.base "best_of" 4 ["marks", "ask", "name"] (spD T R_best_of) := by
  refine fd_data Z.d_best_of sc_best_of (fun ds r h => by obtain ⟨M, a, n, rfl, _⟩ := h; rfl) fun r F ds res cd hr h => ?_
  have cx := cd.toCtx
  obtain ⟨M, a, n, rfl, hM, hal, hnl, rfl⟩ := h
  have hS : 100000 ≤ sizeLine := by decide
  refine (s_when (c_cmp op_isN od_isN (x_call cx (p_greedy Z) (hr.mono (by omega)) (a_cons (x_var 1 cx rfl) (a_cons (x_var 2 cx rfl) a_nil)) ⟨_, _, rfl, by omega, by omega, rfl⟩) x_none) (fun hc1 => (s_ret x_none ?_)) (fun hc1 => (s_when (c_cmp op_eq od_eqS (x_var 1 cx rfl) (x_txt [])) (fun hc2 => (s_ret (x_tup (a_cons x_int (a_cons (x_lst a_nil) a_nil))) ?_)) (fun hc2 => (s_dnew 3 cd (s_for (List.range _) (fun (i : Nat) => PyData.int ((a.length : Int) - 1 - (i : Int))) (fun pre δ => ∃ s4 s5 s6 s7 s8 s9 s10, δ = [.dat (mkD M), .dat (tx a), .dat (tx n), .odk (dOf (bAt M n (a.drop (a.length - pre.length))) n.length), s4, s5, s6, s7, s8, s9, s10]) cd (i_rangeD cx Z.b_range (a_cons (x_op op_sub od_i0 (x_bi cx call_len (cd_lenS (by first | omega | decide | (simp; omega) | assumption)) Z.b_len PySem.boot_len (a_cons (x_var 1 cx rfl) a_nil)) x_int) (a_cons (x_un un_neg ud_neg x_int) (a_cons (x_un un_neg ud_neg x_int) a_nil))) ⟨by omega, by omega⟩ ⟨by omega, by omega⟩) (g_name 4 cd) ?_ ?_ ?_))))))
  · show Except.ok _ = Except.ok _
    have : gr a n 0 = none := by
      cases e : gr a n 0 with
      | none => rfl
      | some q => rw [e] at hc1; cases hc1
    rw [best_none.mpr this]
    rfl
  · show Except.ok _ = Except.ok _
    have : a = [] := of_decide_eq_true hc2
    subst this
    rw [best_nil]
    rfl
  · have : bAt M n (a.drop (a.length - ([] : List Nat).length)) = fun _ => none := by
      funext p
      rw [show a.drop (a.length - ([] : List Nat).length) = [] by simp]
      rfl
    rw [this, dOf_none (fun _ => rfl)]
    exact ⟨_, _, _, _, _, _, _, rfl⟩
  · intro pre k post δ' hx hI
    obtain ⟨s4, s5, s6, s7, s8, s9, s10, rfl⟩ := hI
    have hk : k = pre.length := range_at hx
    have hkl : pre.length < a.length := by
      have := congrArg List.length hx
      simp at this
      omega
    subst hk
    obtain ⟨m, hm⟩ : ∃ m, m = a.length - 1 - pre.length := ⟨_, rfl⟩
    have e1 : ((a.length : Int) - 1 - (pre.length : Int)) = ((m : Nat) : Int) := by omega
    have hma : m < a.length := by omega
    have ed : a.drop m = a.getD m 0 :: a.drop (a.length - pre.length) := by
      rw [drop_at hma, show m + 1 = a.length - pre.length by omega]
    have hdr : (a.drop (a.length - pre.length) = []) ↔ pre.length = 0 := by
      rw [List.drop_eq_nil_iff]
      omega
    generalize a.drop (a.length - pre.length) = rs at ed hdr ⊢
    refine ⟨_, tg_name, ?_⟩
    rw [e1]
    refine (s_dnew 7 cd (s_for (List.range _) (natI) (fun pre1 δ => ∃ s6 s7 s8 s9 s10, δ = [.dat (mkD M), .dat (tx a), .dat (tx n), .odk (dOf (bAt M n rs) n.length), .dat (natI m), s6, s7, .odk (dOf (bAt M n (a.getD m 0 :: rs)) pre1.length), s8, s9, s10]) cd (i_range1 cx Z.b_range (a_cons (x_bi cx call_len (cd_lenS (by first | omega | decide | (simp; omega) | assumption)) Z.b_len PySem.boot_len (a_cons (x_var 2 cx rfl) a_nil)) a_nil) (by first | omega | decide | (simp; omega) | assumption) (by first | omega | decide | (simp; omega) | assumption)) (g_name 6 cd) ?_ ?_ ?_))
    · show ∃ s6 s7 s8 s9 s10, _
      exact ⟨_, _, _, _, _, rfl⟩
    · intro pre1 p post1 δ1 hx1 hI1
      obtain ⟨s6, s7, s8, s9, s10, rfl⟩ := hI1
      have hp : p = pre1.length := range_at hx1
      have hpl : pre1.length < n.length := by
        have := congrArg List.length hx1
        simp at this
        omega
      subst hp
      have hlen := dOf_len (bAt M n (a.getD m 0 :: rs)) pre1.length
      have nxt : (pre1 ++ [pre1.length]).length = pre1.length + 1 := by simp
      refine ⟨_, tg_name, ?_⟩
      by_cases hh : hitC (a.getD m 0) (n.getD pre1.length 0) = true
      · have hbh := bAt_hit (M := M) (a := rs) hpl hh
        have hb0 : decide (((m : Nat) : Int) = (a.length : Int) - 1) = decide (rs = []) := by
          simp only [decide_eq_decide]
          rw [hdr]
          omega
        refine (s_when (c_val (x_call cx (p_is_hit Z) (hr.mono (by omega)) (a_cons (x_ix ix_str (od_ixS (by first | omega | decide | (simp; omega) | assumption) (getD_at hma)) (x_var 1 cx rfl) (x_var 4 cx rfl)) (a_cons (x_ix ix_str (od_ixS (by first | omega | decide | (simp; omega) | assumption) (getD_at hpl)) (x_var 2 cx rfl) (x_var 6 cx rfl)) a_nil)) ⟨_, _, rfl, rfl⟩)) (fun hc1 => (s_set 8 cd (x_call cx (p_own_worth Z) (hr.mono (by omega)) (a_cons (x_var 0 cx rfl) (a_cons (x_ix ix_str (od_ixS (by first | omega | decide | (simp; omega) | assumption) (getD_at hma)) (x_var 1 cx rfl) (x_var 4 cx rfl)) (a_cons (x_var 2 cx rfl) (a_cons (x_var 6 cx rfl) a_nil)))) ⟨_, _, _, _, rfl, hpl, by omega, rfl⟩) (s_set 5 cd (x_if (d := optB (b0 M n (a.getD m 0) rs pre1.length)) (c_cmp op_eq od_eqI (x_var 4 cx rfl) (x_op op_sub od_i0 (x_bi cx call_len (cd_lenS (by first | omega | decide | (simp; omega) | assumption)) Z.b_len PySem.boot_len (a_cons (x_var 1 cx rfl) a_nil)) x_int)) (fun hb => (x_is (x_tup (a_cons (x_var 8 cx rfl) (a_cons (x_lst (a_cons (x_var 6 cx rfl) a_nil)) a_nil))) (by unfold b0; rw [if_pos (of_decide_eq_true (hb0.symm.trans hb))]; rfl))) (fun hb => (x_is x_none (by unfold b0; rw [if_neg (of_decide_eq_false (hb0.symm.trans hb))]; rfl)))) (s_for (List.range _) (_) (fun pre2 δ => ∃ s8 s10, δ = [.dat (mkD M), .dat (tx a), .dat (tx n), .odk (dOf (bAt M n rs) n.length), .dat (natI m), .dat (optB (bF M n (a.getD m 0) rs pre1.length pre2)), .dat (natI pre1.length), .odk (dOf (bAt M n (a.getD m 0 :: rs)) pre1.length), .dat (.int (ow M (a.getD m 0) n pre1.length)), s8, s10]) cd (i_range2 cx Z.b_range (a_cons (x_op op_add od_i0 (x_var 6 cx rfl) x_int) (a_cons (x_bi cx call_len (cd_lenS (by first | omega | decide | (simp; omega) | assumption)) Z.b_len PySem.boot_len (a_cons (x_var 2 cx rfl) a_nil)) a_nil)) (by first | omega | decide | (simp; omega) | assumption) (by first | omega | decide | (simp; omega) | assumption) (by first | omega | decide | (simp; omega) | assumption)) (g_name 9 cd) ?_ ?_ ?_)))) (fun hc1 => (s_nil ?_)))
        · show ∃ s7 s10, _
          exact ⟨_, _, rfl⟩
        · intro pre2 i post2 δ2 hx2 hI2
          obtain ⟨s7, s10, rfl⟩ := hI2
          have hi : i = pre2.length := range_at hx2
          have hil : pre2.length < n.length - (pre1.length + 1) := by
            have := congrArg List.length hx2
            simp at this
            omega
          subst hi
          have e2 : ((pre1.length : Int) + 1 + (pre2.length : Int)) = ((pre1.length + 1 + pre2.length : Nat) : Int) := by omega
          refine ⟨_, tg_name, ?_⟩
          rw [e2]
          have hget : getK (dOf (bAt M n rs) n.length) (Sum.inl ((pre1.length + 1 + pre2.length : Nat) : Int)) = (bAt M n rs (pre1.length + 1 + pre2.length)).map bD := by
            rw [dOf_get, if_pos (by omega)]
          cases hq : bAt M n rs (pre1.length + 1 + pre2.length) with
          | none =>
            rw [hq] at hget
            refine s_when (k := false) (c_is (c_din 3 cx (hu1 hr) rfl (x_var 9 cx rfl) (show PyData.int _ = keyD (.inl _) from rfl)) (by rw [hget]; rfl)) (fun h => by cases h) (fun _ => s_nil ?_)
            show ∃ s7 s10, _
            rw [bF_snoc, show bSt M n (a.getD m 0) rs pre1.length pre2.length = none by unfold bSt; rw [hq]; rfl, cmb_none]
            exact ⟨_, _, rfl⟩
          | some q =>
            rw [hq] at hget
            have hget : getK (dOf (bAt M n rs) n.length) (Sum.inl ((pre1.length + 1 + pre2.length : Nat) : Int)) = some (bD q) := hget
            have hst : bSt M n (a.getD m 0) rs pre1.length pre2.length = some (ow M (a.getD m 0) n pre1.length + gw M pre1.length (pre1.length + 1 + pre2.length) + q.1, pre1.length :: q.2) := by
              unfold bSt
              rw [hq]
              rfl
            have hcat : [natI pre1.length].length + (q.2.map natI).length ≤ sizeLine := by
              have hql : q.2.length ≤ 1000 := by
                have h1 := bAt_len hq
                have h2 := congrArg List.length ed
                rw [List.length_drop, List.length_cons] at h2
                omega
              rw [List.length_map]
              simp only [List.length_cons, List.length_nil]
              omega
            refine s_when (k := true) (c_is (c_din 3 cx (hu1 hr) rfl (x_var 9 cx rfl) (show PyData.int _ = keyD (.inl _) from rfl)) (by rw [hget]; rfl)) (fun _ => ?_) (fun h => by cases h)
            refine (s_set 10 cd (x_op op_add od_i0 (x_op op_add od_i0 (x_var 8 cx rfl) (x_call cx (p_gap_worth Z) (hr.mono (by omega)) (a_cons (x_var 0 cx rfl) (a_cons (x_var 6 cx rfl) (a_cons (x_var 9 cx rfl) a_nil))) ⟨_, _, _, rfl, hM, by omega, by omega, rfl⟩)) (x_ix ix_tup (od_ixT rfl) (x_dget 3 cx (hu1 hr) rfl (x_var 9 cx rfl) (show PyData.int _ = keyD (.inl _) from rfl) hget) x_int)) ?_)
            cases hf : bF M n (a.getD m 0) rs pre1.length pre2 with
            | none =>
              refine s_when (k := true) (c_is (PW.pt (w_or (j := true) (c_cmp op_isN od_isN (x_var 5 cx rfl) x_none) fun hb => by cases hb)) rfl) (fun _ => ?_) (fun h => by cases h)
              refine (s_set 5 cd (x_tup (a_cons (x_var 10 cx rfl) (a_cons (x_op op_cat (od_catL hcat) (x_lst (a_cons (x_var 6 cx rfl) a_nil)) (x_ix ix_tup (od_ixT rfl) (x_dget 3 cx (hu1 hr) rfl (x_var 9 cx rfl) (show PyData.int _ = keyD (.inl _) from rfl) hget) x_int)) a_nil))) (s_nil (s_nil (s_nil ?_))))
              show ∃ s7 s10, _
              rw [bF_snoc, hst, hf]
              exact ⟨_, _, rfl⟩
            | some q0 =>
              refine (s_when (PW.pt (w_or (c_cmp op_isN od_isN (x_var 5 cx rfl) x_none) fun hb => (w_one (c_cmp op_gt od_b0 (x_var 10 cx rfl) (x_ix ix_tup (od_ixT rfl) (x_var 5 cx rfl) x_int))))) (fun hc1 => ?_) (fun hc1 => (s_nil (s_nil ?_))))
              · refine (s_set 5 cd (x_tup (a_cons (x_var 10 cx rfl) (a_cons (x_op op_cat (od_catL hcat) (x_lst (a_cons (x_var 6 cx rfl) a_nil)) (x_ix ix_tup (od_ixT rfl) (x_dget 3 cx (hu1 hr) rfl (x_var 9 cx rfl) (show PyData.int _ = keyD (.inl _) from rfl) hget) x_int)) a_nil))) (s_nil (s_nil (s_nil ?_))))
                show ∃ s7 s10, _
                rw [bF_snoc, hst, hf]
                have : cmb (some q0) (some (ow M (a.getD m 0) n pre1.length + gw M pre1.length (pre1.length + 1 + pre2.length) + q.1, pre1.length :: q.2)) = some (ow M (a.getD m 0) n pre1.length + gw M pre1.length (pre1.length + 1 + pre2.length) + q.1, pre1.length :: q.2) := by
                  simp only [cmb]
                  exact if_pos (by simpa [isN, optB, bD] using hc1)
                rw [this]
                exact ⟨_, _, rfl⟩
              · show ∃ s7 s10, _
                rw [bF_snoc, hst, hf]
                have : cmb (some q0) (some (ow M (a.getD m 0) n pre1.length + gw M pre1.length (pre1.length + 1 + pre2.length) + q.1, pre1.length :: q.2)) = some q0 := by
                  simp only [cmb]
                  exact if_neg (by simpa [isN, optB, bD] using hc1)
                rw [this]
                exact ⟨_, _, rfl⟩
        · intro δ2 hI2
          obtain ⟨s7, s10, rfl⟩ := hI2
          have e3 : ((n.length : Int) - ((pre1.length : Int) + 1)).toNat = n.length - (pre1.length + 1) := by omega
          rw [e3, ← hbh]
          cases hf : bAt M n (a.getD m 0 :: rs) pre1.length with
          | none =>
            refine s_when (k := false) (c_is (c_cmp op_notN od_notN (x_var 5 cx rfl) x_none) rfl) (fun h => by cases h) (fun _ => s_nil (s_nil ?_))
            show ∃ s6 s7 s8 s9 s10, _
            rw [nxt, ← dOf_skip hf]
            exact ⟨_, _, _, _, _, rfl⟩
          | some q =>
            refine s_when (k := true) (c_is (c_cmp op_notN od_notN (x_var 5 cx rfl) x_none) rfl) (fun _ => ?_) (fun h => by cases h)
            refine s_dput 7 cd (hu1 hr) rfl (x_var 5 cx rfl) (x_var 6 cx rfl) (show PyData.int _ = keyD (.inl _) from rfl) (by omega) (s_nil (s_nil (s_nil ?_)))
            show ∃ s6 s7 s8 s9 s10, _
            rw [nxt, ← dOf_put hf]
            exact ⟨_, _, _, _, _, rfl⟩
        · exact absurd (hc1.symm.trans hh) (by decide)
      · have hh : hitC (a.getD m 0) (n.getD pre1.length 0) = false := by simpa using hh
        refine s_when (k := false) (c_is (c_val (x_call cx (p_is_hit Z) (hr.mono (by omega)) (a_cons (x_ix ix_str (od_ixS (by omega) (getD_at hma)) (x_var 1 cx rfl) (x_var 4 cx rfl)) (a_cons (x_ix ix_str (od_ixS (by omega) (getD_at hpl)) (x_var 2 cx rfl) (x_var 6 cx rfl)) a_nil)) ⟨_, _, rfl, rfl⟩)) hh) (fun h => by cases h) (fun _ => s_nil ?_)
        show ∃ s6 s7 s8 s9 s10, _
        rw [nxt, ← dOf_skip (bAt_miss hh)]
        exact ⟨_, _, _, _, _, rfl⟩
    · intro δ1 hI1
      obtain ⟨s6, s7, s8, s9, s10, rfl⟩ := hI1
      rw [List.length_range, Int.toNat_natCast]
      refine (s_move 7 3 cd rfl rfl (s_nil ?_))
      show ∃ s4 s5 s6 s7 s8 s9 s10, _
      have e4 : a.drop (a.length - (pre ++ [pre.length]).length) = a.getD m 0 :: rs := by
        rw [← ed]
        congr 1
        rw [List.length_append, List.length_singleton]
        omega
      rw [e4]
      exact ⟨_, _, _, _, _, _, _, rfl⟩
  · intro δ' hI
    obtain ⟨s4, s5, s6, s7, s8, s9, s10, rfl⟩ := hI
    have e5 : ((a.length : Int) - 1 - -1).toNat = a.length := by omega
    rw [List.length_range, e5, Nat.sub_self, List.drop_zero]
    refine (s_set 5 cd x_none (s_for (dPs (bAt M n a) n.length) (natI) (fun pre3 δ => ∃ s4 s5 s6 s8 s9 s10, δ = [.dat (mkD M), .dat (tx a), .dat (tx n), .odk (dOf (bAt M n a) n.length), s4, .dat (optB (bFin (bAt M n a) pre3)), s5, s6, s8, s9, s10]) cd (i_list (x_is (x_sortK 3 cx Z.b_sorted (hu65 hr) rfl (by rw [dOf_keys]; exact (nats_alike _).1) (by rw [dOf_keys]; exact (nats_alike _).2)) (congrArg PyData.list (dOf_sort _ _)))) (g_name 6 cd) ?_ ?_ ?_))
    · exact ⟨_, _, _, _, _, _, rfl⟩
    · intro pre3 p post3 δ3 hx3 hI3
      obtain ⟨s4, s5, s6, s8, s9, s10, rfl⟩ := hI3
      have hpm : p ∈ dPs (bAt M n a) n.length := by rw [hx3]; simp
      have hps := List.mem_filter.mp hpm
      have hpl : p < n.length := by simpa using hps.1
      obtain ⟨q, hq⟩ := Option.isSome_iff_exists.mp hps.2
      have hget : getK (dOf (bAt M n a) n.length) (Sum.inl (p : Int)) = some (bD q) := by
        rw [dOf_get, if_pos hpl, hq]
        rfl
      refine ⟨_, tg_name, ?_⟩
      cases hf : bFin (bAt M n a) pre3 with
      | none =>
        refine s_when (k := true) (c_is (PW.pt (w_or (j := true) (c_cmp op_isN od_isN (x_var 5 cx rfl) x_none) fun hb => by cases hb)) rfl) (fun _ => ?_) (fun h => by cases h)
        refine s_set 5 cd (x_dget 3 cx (hu1 hr) rfl (x_var 6 cx rfl) (show PyData.int _ = keyD (.inl _) from rfl) hget) (s_nil (s_nil ?_))
        show ∃ s4 s5 s6 s8 s9 s10, _
        rw [bFin_snoc, hf, hq]
        exact ⟨_, _, _, _, _, _, rfl⟩
      | some q0 =>
        refine (s_when (PW.pt (w_or (c_cmp op_isN od_isN (x_var 5 cx rfl) x_none) fun hb => (w_one (c_cmp op_gt od_b0 (x_ix ix_tup (od_ixT rfl) (x_dget 3 cx (hu1 hr) rfl (x_var 6 cx rfl) (show PyData.int _ = keyD (.inl _) from rfl) hget) x_int) (x_ix ix_tup (od_ixT rfl) (x_var 5 cx rfl) x_int))))) (fun hc1 => (s_set 5 cd (x_dget 3 cx (hu1 hr) rfl (x_var 6 cx rfl) (show PyData.int _ = keyD (.inl _) from rfl) hget) (s_nil (s_nil ?_)))) (fun hc1 => (s_nil ?_)))
        · show ∃ s4 s5 s6 s8 s9 s10, _
          rw [bFin_snoc, hf, hq]
          have : cmb (some q0) (some q) = some q := if_pos (by simpa [isN, optB, bD] using hc1)
          rw [this]
          exact ⟨_, _, _, _, _, _, rfl⟩
        · show ∃ s4 s5 s6 s8 s9 s10, _
          rw [bFin_snoc, hf, hq]
          have : cmb (some q0) (some q) = some q0 := if_neg (by simpa [isN, optB, bD] using hc1)
          rw [this]
          exact ⟨_, _, _, _, _, _, rfl⟩
    · intro δ3 hI3
      obtain ⟨s4, s5, s6, s8, s9, s10, rfl⟩ := hI3
      refine (s_ret (x_var 5 cx rfl) ?_)
      show Except.ok _ = Except.ok _
      cases a with
      | nil => cases hc2
      | cons c a' => rw [best_fin]
theorem p_ranked (Z : Tx G T c0 c1 c2 c3 c4 c5 c6 c7 cS cL kPicker PL cM0 PM0 cM1 PM1 cM2 PM2) : Fd G.prog G.w G.K G.mg G.base "ranked" 4 ["rows"] (spD T R_ranked) := by
  refine fd_dataL Z.d_ranked sc_ranked (fun ds r h => by obtain ⟨bs, rfl, _⟩ := h; rfl) fun r F ds res cd co hr h => ?_
  have cx := cd.toCtx
  obtain ⟨bs, rfl, hb, rfl⟩ := h
  refine (s_ret (x_ranked cx co Z.tb_ranked Z.hm_ranked Z.hu_ranked (hr.mono (by omega)) Z.b_sorted Z.b_len (x_var 0 cx rfl) (fun b h => Nat.le_trans (hb b h) (by decide))) ?_)
  rfl
theorem p_hits_of (Z : Tx G T c0 c1 c2 c3 c4 c5 c6 c7 cS cL kPicker PL cM0 PM0 cM1 PM1 cM2 PM2) : Fd G.prog G.w G.K G.mg G.base "hits_of" 6 ["marks", "ask", "pairs"] (spD T R_hits_of) := by
  refine fd_data Z.d_hits_of sc_hits_of (fun ds r h => by obtain ⟨M, a, ps, rfl, _⟩ := h; rfl) fun r F ds res cd hr h => ?_
  have cx := cd.toCtx
  obtain ⟨M, a, ps, rfl, hM, hal, hps, hpl, rfl⟩ := h
  have hS : 100000 ≤ sizeLine := by decide
  refine (s_own 3 cd (x_lstN a_nil) (s_for (ps) (nnD) (fun pre δ => ∃ s4 s5 s6, δ = [.dat (mkD M), .dat (tx a), .dat (.list (ps.map nnD)), .own ((rowsOf M a pre).map rkD), s4, s5, s6]) cd (i_list (x_var 2 cx rfl)) (pg_tup cx.calm (pgs_cons (g_name 4 cd) (pgs_cons (g_name 5 cd) pgs_nil))) ?_ ?_ ?_))
  · exact ⟨_, _, _, rfl⟩
  · intro pre p post δ' hx hI
    obtain ⟨s4, s5, s6, rfl⟩ := hI
    have hpm : p ∈ ps := by rw [hx]; simp
    have hp2 := hps p hpm
    have hrl := rkr_len M a pre
    have hpr : pre.length ≤ ps.length := by rw [hx]; simp
    refine ⟨_, tg_tup rfl (tg_cons tg_name (tg_cons tg_name tg_nil)), ?_⟩
    refine (s_set 6 cd (x_call cx (p_best_of Z) (hr.mono (by omega)) (a_cons (x_var 0 cx rfl) (a_cons (x_var 1 cx rfl) (a_cons (x_var 5 cx rfl) a_nil))) ⟨_, _, _, rfl, hM, hal, hp2, rfl⟩) ?_)
    have hsn := rows_snoc M a pre p
    unfold rkOf at hsn
    cases hq : bestL M a p.2 with
    | none =>
      rw [hq] at hsn
      refine s_when (k := false) (c_is (c_cmp op_notN od_notN (x_var 6 cx rfl) x_none) rfl) (fun h => by cases h) (fun _ => s_nil ?_)
      show ∃ s4 s5 s6, _
      rw [hsn]
      simp only [Option.map_none, Option.toList_none, List.append_nil]
      exact ⟨_, _, _, rfl⟩
    | some q =>
      rw [hq] at hsn
      refine (s_when (c_cmp op_notN od_notN (x_var 6 cx rfl) x_none) (fun hc1 => (s_appN 3 cx rfl (x_tup (a_cons (x_var 4 cx rfl) (a_cons (x_var 5 cx rfl) (a_cons (x_ix ix_tup (od_ixT rfl) (x_var 6 cx rfl) x_int) (a_cons (x_ix ix_tup (od_ixT rfl) (x_var 6 cx rfl) x_int) a_nil))))) (by rw [List.length_map]; omega) (s_nil (s_nil ?_)))) (fun hc1 => (s_nil ?_)))
      · show ∃ s4 s5 s6, _
        rw [hsn]
        simp only [Option.map_some, Option.toList_some, List.map_append, List.map_cons, List.map_nil]
        exact ⟨_, _, _, rfl⟩
      · cases hc1
  · intro δ' hI
    obtain ⟨s4, s5, s6, rfl⟩ := hI
    refine (s_freeze 3 rfl (s_ret (x_call cx (p_ranked Z) (hr.mono (by omega)) (a_cons (x_var 3 cx rfl) a_nil) ⟨_, rfl, rk_short hps, rfl⟩) ?_))
    rfl
theorem p_shown_text (Z : Tx G T c0 c1 c2 c3 c4 c5 c6 c7 cS cL kPicker PL cM0 PM0 cM1 PM1 cM2 PM2) : Fd G.prog G.w G.K G.mg G.base "shown_text" 1 ["name", "places"] (spD T R_shown_text) := by
  refine fd_data Z.d_shown_text sc_shown_text (fun ds r h => by obtain ⟨n, ps, rfl, _⟩ := h; rfl) fun r F ds res cd hr h => ?_
  have cx := cd.toCtx
  obtain ⟨n, ps, rfl, hn, rfl⟩ := h
  have hS : 100000 ≤ sizeLine := by decide
  refine (s_set 2 cd (x_txt []) (s_for (enumT n) (encT) (fun pre δ => ∃ s3 s4 s5 s6, δ = [.dat (tx n), .dat (.list (ps.map natI)), .dat (tx (shL ps pre)), s3, s4, s5, s6]) cd (i_enumS cx Z.b_enumerate (a_cons (x_var 0 cx rfl) a_nil)) (pg_tup cx.calm (pgs_cons (g_name 3 cd) (pgs_cons (g_name 4 cd) pgs_nil))) ?_ ?_ ?_))
  · exact ⟨_, _, _, _, rfl⟩
  · intro pre x post δ' hx hI
    obtain ⟨s3, s4, s5, s6, rfl⟩ := hI
    have hl := sh_len ps pre
    have hpl : pre.length < n.length := by
      have := congrArg List.length hx
      simp [enumT] at this
      omega
    have ha : (ahd ps x.1).length ≤ 1 := by unfold ahd; split <;> simp
    have hb : (bhd ps x.1).length ≤ 1 := by unfold bhd; split <;> simp
    refine ⟨_, tg_tup rfl (tg_cons tg_name (tg_cons tg_name tg_nil)), ?_⟩
    refine (s_set 5 cd (x_if (d := tx (ahd ps x.1)) (PW.pt (w_and (c_cmp (op_inD (hu65 hr)) (od_inD (lay_int (n := 0)) lay_nats) (x_var 3 cx rfl) (x_var 1 cx rfl)) fun hb => (w_one (c_cmp (op_notInD (hu65 hr)) (od_ninD (lay_int (n := 0)) lay_nats) (x_op op_sub od_i0 (x_var 3 cx rfl) x_int) (x_var 1 cx rfl))))) (fun hb => (x_is (x_txt [91]) (congrArg tx (if_pos hb).symm))) (fun hb => (x_is (x_txt []) (congrArg tx (if_neg (Bool.eq_false_iff.mp hb)).symm)))) (s_set 6 cd (x_if (d := tx (bhd ps x.1)) (PW.pt (w_and (c_cmp (op_inD (hu65 hr)) (od_inD (lay_int (n := 0)) lay_nats) (x_var 3 cx rfl) (x_var 1 cx rfl)) fun hb => (w_one (c_cmp (op_notInD (hu65 hr)) (od_ninD (lay_int (n := 0)) lay_nats) (x_op op_add od_i0 (x_var 3 cx rfl) x_int) (x_var 1 cx rfl))))) (fun hb => (x_is (x_txt [93]) (congrArg tx (if_pos hb).symm))) (fun hb => (x_is (x_txt []) (congrArg tx (if_neg (Bool.eq_false_iff.mp hb)).symm)))) (s_set 2 cd (x_op op_add_str (od_catS (by first | omega | (simp only [List.length_append, List.length_cons, List.length_nil]; omega))) (x_op op_add_str (od_catS (by first | omega | (simp only [List.length_append, List.length_cons, List.length_nil]; omega))) (x_op op_add_str (od_catS (by first | omega | (simp only [List.length_append, List.length_cons, List.length_nil]; omega))) (x_var 2 cx rfl) (x_var 5 cx rfl)) (x_var 4 cx rfl)) (x_var 6 cx rfl)) (s_nil ?_))))
    show ∃ s3 s4 s5 s6, _
    rw [sh_snoc]
    exact ⟨_, _, _, _, rfl⟩
  · intro δ' hI
    obtain ⟨s3, s4, s5, s6, rfl⟩ := hI
    refine (s_ret (x_var 2 cx rfl) ?_)
    rfl
abbrev nm_need_namesW : List Str := ["names", "name", "%w"]
theorem sc_need_namesW : FnScope nm_need_namesW ["names"] (defScope st_need_names) := ⟨rfl, rfl, rfl, by decide +kernel, rfl, by decide +kernel, by decide +kernel⟩
abbrev nm_law_namesW : List Str := ["more", "many", "most", "j", "%w"]
theorem sc_law_namesW : FnScope nm_law_namesW ["more", "many", "most"] (defScope st_law_names) := ⟨rfl, rfl, rfl, by decide +kernel, rfl, by decide +kernel, by decide +kernel⟩
theorem p_need_namesW (Z : Tx G T c0 c1 c2 c3 c4 c5 c6 c7 cS cL kPicker PL cM0 PM0 cM1 PM1 cM2 PM2) : Fd G.prog G.w G.K G.mg G.base "need_names" 2 ["names"] (spR T R_need_namesW) := by
  refine fd_R Z.d_need_names sc_need_namesW (by decide) (fun ds W r h => by obtain ⟨q, ls, rfl, _⟩ := h; rfl) fun r F ds W res cd hr h => ?_
  have cx := cd.toCtx
  obtain ⟨q, ls, rfl, hq, hl, hn, rfl⟩ := h
  refine s_when (k := false) (c_is (PW.pt (w_or (c_not (c_val (x_wisi 2 rfl hq cx Z.b_isinstance Z.b_list (x_var 0 cx rfl)))) fun hb => (w_or (c_cmp op_gt od_b0 (x_wlenL 2 cx Z.b_len rfl hq (x_var 0 cx rfl)) (x_kI cx Z.c_MOST_NAMES)) fun hb => (w_one (c_not (c_val (x_bi cx (cr_all cx.calm) (cd_allD mp_b) Z.b_all (by decide +kernel) (a_cons (x_dl (x_lcP [("name", 1)] ls tx _ (fun _ => true) _ cx (i_wl 2 rfl hq (x_var 0 cx rfl)) (fun O H σ st => ls_at (g := 2) st rfl hq) (by omega) (by decide +kernel) (fun s H C cl fp => g_nameB 1 (cx.blk s H _ C cl fp)) (fun x hx => tg_name) (wg_name (by decide)) (fun x hx s H C cl fp => ts_nil) (fun x hx hq s H C cl fp => (x_call (cx.blk s H _ C cl fp) (p_is_name Z) (hr.mono (by omega)) (a_cons (x_var 1 (cx.blk s H _ C cl fp) rfl) a_nil) (show R_is_name [tx x] (.ok (.bool (isNm x))) from by
    obtain ⟨h1, h2⟩ := isNm_len (hn x hx)
    exact ⟨_, rfl, okd_tx (by omega), by rw [isName_tx]⟩))))) a_nil)))))))) ?_) (fun hc => by cases hc) (fun _ => s_nil rfl)
  rw [filter_tt, List.length_map]
  have h1 : decide ((ls.length : Int) > 60) = false := decide_eq_false (by omega)
  have h2 : ((ls.map isNm).all id) = true := by
    rw [List.all_map]
    exact List.all_eq_true.mpr hn
  simp only [h1, Bool.not_true, Bool.false_or]
  exact congrArg (!·) h2
theorem pw_Picker_init (Z : Tx G T c0 c1 c2 c3 c4 c5 c6 c7 cS cL kPicker PL cM0 PM0 cM1 PM1 cM2 PM2) : MdI G.prog G.w G.K G.mg G.base kPicker 3 ["self", "marks", "names", "tall"] (spW T (RW_Picker_initW kPicker)) := by
  refine mdi_W Z.m_Picker_init sc_Picker_init (by decide) (fun ds W Ω h => by obtain ⟨j, l, p, qn, M, ls, tall, rfl, _⟩ := h; rfl) fun r F ds W Ω cd hr h => ?_
  have cx := cd.toCtx
  obtain ⟨j, l, p, qn, M, ls, tall, rfl, hM, hl, hn, h0, h1, hj, hln, hjn, rfl⟩ := h
  have hS : 100000 ≤ sizeLine := by decide
  have hjl := wlt hj
  refine (s_expr (x_call cx (p_need_marks Z) (hr.mono (by omega)) (a_cons (x_var 1 cx rfl) a_nil) (R_need_marks_ok hM)) (s_expr (x_crd 4 cx (p_need_namesW Z) (hr.mono (by omega)) rfl (a_cons (x_var 2 cx rfl) a_nil) ⟨_, _, rfl, mem_at hln, hl, hn, rfl⟩) (s_when (c_not (c_val (x_call cx (p_is_count Z) (hr.mono (by omega)) (a_cons (x_var 3 cx rfl) (a_cons x_int (a_cons (x_kI cx Z.c_MOST_TALL) a_nil))) ⟨_, _, _, rfl, by first | rfl | assumption | solve_by_elim, rfl⟩))) (fun hc1 => (s_raise cd Z.w_BadNumber.ok.x Z.g_BadNumber Z.w_BadNumber.ok.k (raises_own Z.w_BadNumber.ok.e Z.w_BadNumber.ok.t) ?_)) (fun hc1 => (s_fldN 4 _ Z.k_Picker.cl (Z.k_Picker.na _ (by decide +kernel)) rfl hj (x_var 0 cx rfl) (x_var 1 cx rfl) (s_fldN 4 _ Z.k_Picker.cl (Z.k_Picker.na _ (by decide +kernel)) rfl (wset hj) (x_var 0 cx rfl) (x_wlistEnum 4 rfl (mem_at (wset_ne hln hjn)) cx Z.b_list Z.b_enumerate (x_var 2 cx rfl)) (s_fldN 4 _ Z.k_Picker.cl (Z.k_Picker.na _ (by decide +kernel)) rfl (wset (wset hj)) (x_var 0 cx rfl) (x_var 3 cx rfl) (s_fldN 4 _ Z.k_Picker.cl (Z.k_Picker.na _ (by decide +kernel)) rfl (wset (wset (wset hj))) (x_var 0 cx rfl) (x_tup (a_cons (x_txt []) (a_cons x_int (a_cons x_int (a_cons (x_tup a_nil) a_nil))))) ?_))))))))
  · simp [isCnt, h0, h1] at hc1
  simp only [List.set_set]
  rw [enum_nn]
  refine s_fldNW (g := 4) Z.k_Picker.cl (Z.k_Picker.na _ (by decide +kernel)) (by show 4 < 5; decide) (w_new rfl (x_lstN a_nil)) (fun d W' h => x_var 0 cx rfl) (fun d W' h => by obtain ⟨q, _, rfl, rfl⟩ := h; exact wapp (wset hj)) fun d W' h => ?_
  obtain ⟨q1, _, rfl, rfl⟩ := h
  rw [set_app hjl]
  refine s_fldNW (g := 4) Z.k_Picker.cl (Z.k_Picker.na _ (by decide +kernel)) (by show 4 < 5; decide) (w_new rfl (x_lstN a_nil)) (fun d W' h => x_var 0 cx rfl) (fun d W' h => by obtain ⟨q, _, rfl, rfl⟩ := h; exact wapp (wapp (wset hj))) fun d W' h => ?_
  obtain ⟨q2, _, rfl, rfl⟩ := h
  refine s_nil ⟨_, rfl, rfl, ⟨⟨q1, q2, wset (wapp (wapp (wset hj))), ?_, ?_⟩, by show j ≠ W.length; omega, by show j ≠ W.length + 1; omega, by show W.length ≠ W.length + 1; omega⟩, ⟨by simp, fun i x e n1 _ _ => ?_⟩⟩
  · refine wset_ne (wapp ?_) (by show j ≠ W.length; omega)
    simp
  · refine wset_ne ?_ (by show j ≠ W.length + 1; omega)
    simp
  · exact wset_ne (wapp (wapp (wset_ne e (fun z => n1 z.symm)))) (fun z => n1 z.symm)
theorem pw_Picker_become (Z : Tx G T c0 c1 c2 c3 c4 c5 c6 c7 cS cL kPicker PL cM0 PM0 cM1 PM1 cM2 PM2) : Md G.prog G.w G.K G.mg G.base kPicker "become" 1 ["self", "state"] (spW T (RW_Picker_become kPicker)) := by
  refine md_W Z.m_Picker_become sc_Picker_become (by decide) (fun ds W Ω h => by obtain ⟨J, p, S, s, rfl, _⟩ := h; rfl) fun r F ds W Ω cd hr h => ?_
  have cx := cd.toCtx
  obtain ⟨J, p, S, s, rfl, hP, hpl, rfl⟩ := h
  obtain ⟨q1, q2, hj, h1, h2⟩ := hP.o
  have n1 := hP.n1
  have n2 := hP.n2
  have n3 := hP.n3
  refine s_exprW (g := 2) (x_wapp J.2.1 rfl h1 (x_fld 2 4 Z.k_Picker.cl (Z.k_Picker.na _ (by decide +kernel)) rfl (x_var 0 cx rfl) (mem_at hj) rfl) (x_fld 2 3 Z.k_Picker.cl (Z.k_Picker.na _ (by decide +kernel)) rfl (x_var 0 cx rfl) (mem_at hj) rfl) (by rw [List.length_map]; omega)) fun d W' h => ?_
  obtain ⟨rfl, rfl⟩ := h
  have hj1 := wset_ne (i := J.2.1) (r := (q1, .lst (S.past.map nowD ++ [nowD S.now]))) hj (fun z => n1 z.symm)
  have h11 := wset (r := (q1, .lst (S.past.map nowD ++ [nowD S.now]))) h1
  refine s_fldW (g := 2) 5 Z.k_Picker.cl (Z.k_Picker.na _ (by decide +kernel)) (by show 2 < 3; decide) (w_new rfl (x_lstN a_nil)) (fun d W' h => x_var 0 cx rfl) (fun d W' h => by obtain ⟨q, _, rfl, rfl⟩ := h; exact wapp hj1) fun d W' h => ?_
  obtain ⟨q3, _, rfl, rfl⟩ := h
  refine s_fld 2 _ 3 Z.k_Picker.cl (Z.k_Picker.na _ (by decide +kernel)) rfl (wset (wapp hj1)) (x_var 0 cx rfl) (x_var 1 cx rfl) ?_
  have hl1 := wlt h1
  have hl0 := wlt hj
  refine s_nil ⟨_, rfl, rfl, ⟨⟨q1, q3, wset (wset (wapp hj1)), ?_, ?_⟩, n1, by show J.1 ≠ W.length; omega, by show J.2.1 ≠ W.length; omega⟩, ⟨by simp, fun i x e m1 m2 m3 => ?_⟩⟩
  · show _ = some (q1, MO.lst ((S.past ++ [S.now]).map nowD))
    rw [List.map_append]
    exact wset_ne (wset_ne (wapp h11) n1) n1
  · refine wset_ne (wset_ne ?_ (by show J.1 ≠ W.length; omega)) (by show J.1 ≠ W.length; omega)
    simp [PSt.did]
  · exact wset_ne (wset_ne (wapp (wset_ne e (fun z => m2 z.symm))) (fun z => m1 z.symm)) (fun z => m1 z.symm)
theorem p_Picker_in_turn (Z : Tx G T c0 c1 c2 c3 c4 c5 c6 c7 cS cL kPicker PL cM0 PM0 cM1 PM1 cM2 PM2) : Md G.prog G.w G.K G.mg G.base kPicker "in_turn" 7 ["self"] (spR T (R_Picker_in_turn kPicker)) := by
  refine md_R Z.m_Picker_in_turn sc_Picker_in_turn (by decide) (fun ds W r h => by obtain ⟨J, p, S, rfl, _⟩ := h; rfl) fun r F ds W res cd hr h => ?_
  have cx := cd.toCtx
  obtain ⟨J, p, S, rfl, hP, hS, rfl⟩ := h
  obtain ⟨q1, q2, hj, _⟩ := hP.o
  have hal := isAs_len hS.now.a
  have hl := hS.l
  have hps : ∀ p ∈ enumN S.ls, p.2.length ≤ 1000 := fun p hp => by
    have := isNm_len (hS.n _ (enumN_mem hp))
    omega
  refine (s_ret (x_call cx (p_hits_of Z) (hr.mono (by omega)) (a_cons (x_fld 1 0 Z.k_Picker.cl (Z.k_Picker.na _ (by decide +kernel)) rfl (x_var 0 cx rfl) (mem_at hj) rfl) (a_cons (x_ix ix_tup (od_ixT (show _ = some (tx S.now.1) from rfl)) (x_fld 1 3 Z.k_Picker.cl (Z.k_Picker.na _ (by decide +kernel)) rfl (x_var 0 cx rfl) (mem_at hj) rfl) x_int) (a_cons (x_fld 1 1 Z.k_Picker.cl (Z.k_Picker.na _ (by decide +kernel)) rfl (x_var 0 cx rfl) (mem_at hj) rfl) a_nil))) ⟨_, _, _, rfl, hS.M, by omega, hps, by rw [enumN_len]; omega, rfl⟩) ?_)
  rfl
theorem px_Picker_press (Z : Tx G T c0 c1 c2 c3 c4 c5 c6 c7 cS cL kPicker PL cM0 PM0 cM1 PM1 cM2 PM2) : Md G.prog G.w G.K G.mg G.base kPicker "press" 2 ["self", "sign"] (spR T (RX_Picker_press kPicker c1)) := by
  refine md_R Z.m_Picker_press sc_Picker_press (by decide) (fun ds W r h => by obtain ⟨J, p, S, d, rfl, _⟩ := h; rfl) fun r F ds W res cd hr h => ?_
  have cx := cd.toCtx
  obtain ⟨J, p, S, d, rfl, hP, hS, hz, hb, rfl⟩ := h
  obtain ⟨q1, q2, hj, _⟩ := hP.o
  have hnp := okd_np hz
  have hal := isAs_len hS.now.a
  have hSz : 100000 ≤ sizeLine := by decide
  by_cases ht : isTx d = true
  · obtain ⟨l, rfl⟩ : ∃ l, d = tx l := ⟨_, tx_of ht⟩
    have hzl : l.length ≤ 10000 := by
      have : (cod (tx l)).length ≤ 10000 := hz
      rwa [cod_tx] at this
    unfold badSign at hb
    rw [cod_tx, ht] at hb
    refine s_set 2 cd (x_ix ix_tup (od_ixT (show _ = some (tx S.now.1) from rfl)) (x_fld 3 3 Z.k_Picker.cl (Z.k_Picker.na _ (by decide +kernel)) rfl (x_var 0 cx rfl) (mem_at hj) rfl) x_int) (s_when (PW.pt (w_or (c_not (c_val (x_isi (T := "str") cx (x_var 1 cx rfl) Z.b_isinstance Z.b_str (by decide +kernel) (show kitB (tyN (tx l)) _ = some true from rfl)))) fun hb => (w_or (c_cmp op_ne od_neI (x_bi cx call_len (cd_lenS (by omega)) Z.b_len PySem.boot_len (a_cons (x_var 1 cx rfl) a_nil)) x_int) fun hb => (w_one (c_not (c_val (x_call cx (p_is_ask Z) (hr.mono (by omega)) (a_cons (x_op op_add_str (od_catS (by omega)) (x_var 2 cx rfl) (x_var 1 cx rfl)) a_nil) ⟨_, rfl, okd_tx (by rw [List.length_append]; simp at hb; omega), rfl⟩))))))) (fun hc => (s_raise cd Z.w_BadAsk.ok.x Z.g_BadAsk Z.w_BadAsk.ok.k (raises_own Z.w_BadAsk.ok.e Z.w_BadAsk.ok.t) rfl)) (fun hc1 => ?_))
    exfalso
    rw [isAsk_tx] at hc1
    simp at hb hc1
    rcases hb with z | z
    · exact z (by omega)
    · rw [hc1.2] at z
      cases z
  · have ht : isTx d = false := by simpa using ht
    refine s_set 2 cd (x_ix ix_tup (od_ixT (show _ = some (tx S.now.1) from rfl)) (x_fld 3 3 Z.k_Picker.cl (Z.k_Picker.na _ (by decide +kernel)) rfl (x_var 0 cx rfl) (mem_at hj) rfl) x_int) (s_when (PW.pt (w_or (j := true) (c_not (c_val (x_isi cx (x_var 1 cx rfl) Z.b_isinstance Z.b_str (by decide +kernel) (kit_str ht)))) fun hb => (by cases hb))) (fun hc => (s_raise cd Z.w_BadAsk.ok.x Z.g_BadAsk Z.w_BadAsk.ok.k (raises_own Z.w_BadAsk.ok.e Z.w_BadAsk.ok.t) rfl)) (fun hc => (by cases hc)))
theorem pw_Picker_press (Z : Tx G T c0 c1 c2 c3 c4 c5 c6 c7 cS cL kPicker PL cM0 PM0 cM1 PM1 cM2 PM2) : Md G.prog G.w G.K G.mg G.base kPicker "press" 2 ["self", "sign"] (spW T (RW_Picker_press kPicker)) := by
  refine md_W Z.m_Picker_press sc_Picker_press (by decide) (fun ds W Ω h => by obtain ⟨J, p, S, c, rfl, _⟩ := h; rfl) fun r F ds W Ω cd hr h => ?_
  have cx := cd.toCtx
  obtain ⟨J, p, S, c, rfl, hP, hS, hpl, ha, rfl⟩ := h
  obtain ⟨q1, q2, hj, _⟩ := hP.o
  have hal := isAs_len hS.now.a
  have hSz : 100000 ≤ sizeLine := by decide
  obtain ⟨l, hl⟩ : ∃ l, l = [c] := ⟨_, rfl⟩
  have hzl : l.length ≤ 10000 := by rw [hl]; show 1 ≤ 10000; decide
  rw [← hl]
  refine (s_set 2 cd (x_ix ix_tup (od_ixT (show _ = some (tx S.now.1) from rfl)) (x_fld 3 3 Z.k_Picker.cl (Z.k_Picker.na _ (by decide +kernel)) rfl (x_var 0 cx rfl) (mem_at hj) rfl) x_int) (s_when (PW.pt (w_or (c_not (c_val (x_isi (T := "str") cx (x_var 1 cx rfl) Z.b_isinstance Z.b_str (by decide +kernel) (show kitB (tyN (tx l)) _ = some true from rfl)))) fun hb => (w_or (c_cmp op_ne od_neI (x_bi cx call_len (cd_lenS (by omega)) Z.b_len PySem.boot_len (a_cons (x_var 1 cx rfl) a_nil)) x_int) fun hb => (w_one (c_not (c_val (x_call cx (p_is_ask Z) (hr.mono (by omega)) (a_cons (x_op op_add_str (od_catS (by omega)) (x_var 2 cx rfl) (x_var 1 cx rfl)) a_nil) ⟨_, rfl, okd_tx (by rw [List.length_append]; simp at hb; omega), rfl⟩))))))) (fun hc1 => (s_raise cd Z.w_BadAsk.ok.x Z.g_BadAsk Z.w_BadAsk.ok.k (raises_own Z.w_BadAsk.ok.e Z.w_BadAsk.ok.t) ?_)) (fun hc1 => (s_exprW (x_mwr 3 Z.k_Picker.cl (pw_Picker_become Z) (hr.mono (by omega)) rfl (mem_at hj) (x_var 0 cx rfl) (a_cons (x_tup (a_cons (x_op op_add_str (od_catS (by omega)) (x_var 2 cx rfl) (x_var 1 cx rfl)) (a_cons x_int (a_cons x_int (a_cons (x_ix ix_tup (od_ixT (show _ = some (PyData.tuple (S.now.2.2.2.map natI)) from rfl)) (x_fld 3 3 Z.k_Picker.cl (Z.k_Picker.na _ (by decide +kernel)) rfl (x_var 0 cx rfl) (mem_at hj) rfl) x_int) a_nil))))) a_nil) ⟨J, _, S, (S.now.1 ++ l, 0, 0, S.now.2.2.2), rfl, hP, hpl, rfl⟩) (fun d_ W_ hW_ => ?_)))))
  · exfalso
    rw [hl] at hc1
    simp [isAsk_tx, ha] at hc1
  · obtain ⟨rfl, h1, h2⟩ := hW_
    refine s_nil ⟨_, rfl, rfl, ?_, h2⟩
    rw [hl] at h1
    exact h1
theorem px_Picker_rub (Z : Tx G T c0 c1 c2 c3 c4 c5 c6 c7 cS cL kPicker PL cM0 PM0 cM1 PM1 cM2 PM2) : Md G.prog G.w G.K G.mg G.base kPicker "rub" 2 ["self"] (spR T (RX_Picker_rub kPicker c6)) := by
  refine md_R Z.m_Picker_rub sc_Picker_rub (by decide) (fun ds W r h => by obtain ⟨J, p, S, rfl, _⟩ := h; rfl) fun r F ds W res cd hr h => ?_
  have cx := cd.toCtx
  obtain ⟨J, p, S, rfl, hP, hS, hb, rfl⟩ := h
  obtain ⟨q1, q2, hj, _⟩ := hP.o
  exact s_set 1 cd (x_ix ix_tup (od_ixT (show _ = some (tx S.now.1) from rfl)) (x_fld 2 3 Z.k_Picker.cl (Z.k_Picker.na _ (by decide +kernel)) rfl (x_var 0 cx rfl) (mem_at hj) rfl) x_int) (s_when (k := true) (c_is (c_cmp op_eq od_eqS (x_var 1 cx rfl) (x_txt [])) (by rw [hb]; rfl)) (fun hc => (s_raise cd Z.w_Nothing.ok.x Z.g_Nothing Z.w_Nothing.ok.k (raises_own Z.w_Nothing.ok.e Z.w_Nothing.ok.t) rfl)) (fun hc => (by cases hc)))
theorem pw_Picker_rub (Z : Tx G T c0 c1 c2 c3 c4 c5 c6 c7 cS cL kPicker PL cM0 PM0 cM1 PM1 cM2 PM2) : Md G.prog G.w G.K G.mg G.base kPicker "rub" 2 ["self"] (spW T (RW_Picker_rub kPicker)) := by
  refine md_W Z.m_Picker_rub sc_Picker_rub (by decide) (fun ds W Ω h => by obtain ⟨J, p, S, rfl, _⟩ := h; rfl) fun r F ds W Ω cd hr h => ?_
  have cx := cd.toCtx
  obtain ⟨J, p, S, rfl, hP, hS, hpl, ha, rfl⟩ := h
  obtain ⟨q1, q2, hj, _⟩ := hP.o
  have hal := isAs_len hS.now.a
  have hSz : 100000 ≤ sizeLine := by decide
  refine (s_set 1 cd (x_ix ix_tup (od_ixT (show _ = some (tx S.now.1) from rfl)) (x_fld 2 3 Z.k_Picker.cl (Z.k_Picker.na _ (by decide +kernel)) rfl (x_var 0 cx rfl) (mem_at hj) rfl) x_int) (s_when (c_cmp op_eq od_eqS (x_var 1 cx rfl) (x_txt [])) (fun hc1 => (s_raise cd Z.w_Nothing.ok.x Z.g_Nothing Z.w_Nothing.ok.k (raises_own Z.w_Nothing.ok.e Z.w_Nothing.ok.t) ?_)) (fun hc1 => (s_exprW (x_mwr 2 Z.k_Picker.cl (pw_Picker_become Z) (hr.mono (by omega)) rfl (mem_at hj) (x_var 0 cx rfl) (a_cons (x_tup (a_cons (x_sl sl_str (sd_str (by omega)) (x_var 1 cx rfl) o_none (o_some (x_un un_neg ud_neg x_int))) (a_cons x_int (a_cons x_int (a_cons (x_ix ix_tup (od_ixT (show _ = some (PyData.tuple (S.now.2.2.2.map natI)) from rfl)) (x_fld 2 3 Z.k_Picker.cl (Z.k_Picker.na _ (by decide +kernel)) rfl (x_var 0 cx rfl) (mem_at hj) rfl) x_int) a_nil))))) a_nil) ⟨J, _, S, (cutL S.now.1 none (some (-1)), 0, 0, S.now.2.2.2), rfl, hP, hpl, rfl⟩) (fun d_ W_ hW_ => ?_)))))
  · exact absurd (of_decide_eq_true hc1) ha
  · obtain ⟨rfl, h1, h2⟩ := hW_
    refine s_nil ⟨_, rfl, rfl, ?_, h2⟩
    unfold PSt.rubbed
    rw [← cut_init]
    exact h1
theorem pw_Picker_step (Z : Tx G T c0 c1 c2 c3 c4 c5 c6 c7 cS cL kPicker PL cM0 PM0 cM1 PM1 cM2 PM2) : Md G.prog G.w G.K G.mg G.base kPicker "step" 8 ["self", "by"] (spW T (RW_Picker_step kPicker)) := by
  refine md_W Z.m_Picker_step sc_Picker_step (by decide) (fun ds W Ω h => by obtain ⟨J, p, S, i, rfl, _⟩ := h; rfl) fun r F ds W Ω cd hr h => ?_
  have cx := cd.toCtx
  obtain ⟨J, p, S, i, rfl, hP, hS, hpl, h0, h1, rfl⟩ := h
  obtain ⟨q1, q2, hj, _⟩ := hP.o
  refine (s_when (c_not (c_val (x_call cx (p_is_count Z) (hr.mono (by omega)) (a_cons (x_var 1 cx rfl) (a_cons (x_op op_sub od_i0 x_int (x_kI cx Z.c_MOST_NAMES)) (a_cons (x_kI cx Z.c_MOST_NAMES) a_nil))) ⟨_, _, _, rfl, by first | rfl | assumption | solve_by_elim, rfl⟩))) (fun hc1 => (s_raise cd Z.w_BadNumber.ok.x Z.g_BadNumber Z.w_BadNumber.ok.k (raises_own Z.w_BadNumber.ok.e Z.w_BadNumber.ok.t) ?_)) (fun hc1 => (s_asg cd (x_fld 6 3 Z.k_Picker.cl (Z.k_Picker.na _ (by decide +kernel)) rfl (x_var 0 cx rfl) (mem_at hj) rfl) (pg_tup cx.calm (pgs_cons (g_name 2 cd) (pgs_cons (g_name 3 cd) (pgs_cons (g_name 4 cd) (pgs_cons (g_name 5 cd) pgs_nil))))) (tg_tup rfl (tg_cons tg_name (tg_cons tg_name (tg_cons tg_name (tg_cons tg_name tg_nil))))) (s_set 3 cd (x_bi cx (call_max2 cx.calm) cd_max2 Z.b_max (by decide +kernel) (a_cons x_int (a_cons (x_bi cx (call_min2 cx.calm) cd_min2 Z.b_min (by decide +kernel) (a_cons (x_op op_sub od_i0 (x_bi cx call_len cd_lenL Z.b_len PySem.boot_len (a_cons (x_mrd0 6 Z.k_Picker.cl (p_Picker_in_turn Z) (hr.mono (by omega)) rfl (mem_at hj) (x_var 0 cx rfl) ⟨_, _, _, rfl, hP, hS, rfl⟩) a_nil)) x_int) (a_cons (x_op op_add od_i0 (x_var 3 cx rfl) (x_var 1 cx rfl)) a_nil))) a_nil))) (s_set 4 cd (x_bi cx (call_min2 cx.calm) cd_min2 Z.b_min (by decide +kernel) (a_cons (x_var 3 cx rfl) (a_cons (x_bi cx (call_max2 cx.calm) cd_max2 Z.b_max (by decide +kernel) (a_cons (x_var 4 cx rfl) (a_cons (x_op op_add od_i0 (x_op op_sub od_i0 (x_var 3 cx rfl) (x_fld 6 2 Z.k_Picker.cl (Z.k_Picker.na _ (by decide +kernel)) rfl (x_var 0 cx rfl) (mem_at hj) rfl)) x_int) a_nil))) a_nil))) (s_exprW (x_mwr 6 Z.k_Picker.cl (pw_Picker_become Z) (hr.mono (by omega)) rfl (mem_at hj) (x_var 0 cx rfl) (a_cons (x_tup (a_cons (x_var 2 cx rfl) (a_cons (x_var 3 cx rfl) (a_cons (x_var 4 cx rfl) (a_cons (x_var 5 cx rfl) a_nil))))) a_nil) ⟨J, _, S, (S.now.1, mxI 0 (mnI (((S.rows.map rkD).length : Int) - 1) (S.now.2.1 + i)), mnI (mxI 0 (mnI (((S.rows.map rkD).length : Int) - 1) (S.now.2.1 + i))) (mxI S.now.2.2.1 (mxI 0 (mnI (((S.rows.map rkD).length : Int) - 1) (S.now.2.1 + i)) - S.tall + 1)), S.now.2.2.2), rfl, hP, hpl, rfl⟩) (fun d_ W_ hW_ => ?_)))))))
  · exfalso
    simp [isCnt] at hc1
    omega
  · obtain ⟨rfl, h1, h2⟩ := hW_
    refine s_nil ⟨_, rfl, rfl, ?_, h2⟩
    rw [List.length_map] at h1
    exact h1
theorem p_Picker_at (Z : Tx G T c0 c1 c2 c3 c4 c5 c6 c7 cS cL kPicker PL cM0 PM0 cM1 PM1 cM2 PM2) : Md G.prog G.w G.K G.mg G.base kPicker "at" 8 ["self"] (spR T (R_Picker_at kPicker)) := by
  refine md_R Z.m_Picker_at sc_Picker_at (by decide) (fun ds W r h => by obtain ⟨J, p, S, rfl, _⟩ := h; rfl) fun r F ds W res cd hr h => ?_
  have cx := cd.toCtx
  obtain ⟨J, p, S, rfl, hP, hS, rfl⟩ := h
  obtain ⟨q1, q2, hj, _⟩ := hP.o
  have hry := rk_lay S hS
  cases e : S.at_ with
  | none =>
    have er := at_none e
    refine s_set 1 cd (x_mrd0 2 Z.k_Picker.cl (p_Picker_in_turn Z) (hr.mono (by omega)) rfl (mem_at hj) (x_var 0 cx rfl) ⟨_, _, _, rfl, hP, hS, rfl⟩) ?_
    exact s_ret (x_if (k := false) (d := .none) (c_is (c_cmp (op_neD hr.units) (od_neD (lay_list hry) lay_emp) (x_var 1 cx rfl) (x_lst a_nil)) (by rw [er]; rfl)) (fun hb => by cases hb) (fun hb => x_none)) rfl
  | some x =>
    obtain ⟨hx, q, hq⟩ := at_lt hS e
    have hat := row_at hS hq
    have hne : S.rows ≠ [] := fun z => by rw [z] at hq; cases hq
    refine s_set 1 cd (x_mrd0 2 Z.k_Picker.cl (p_Picker_in_turn Z) (hr.mono (by omega)) rfl (mem_at hj) (x_var 0 cx rfl) ⟨_, _, _, rfl, hP, hS, rfl⟩) ?_
    exact s_ret (x_if (k := true) (d := natI x) (c_is (c_cmp (op_neD hr.units) (od_neD (lay_list hry) lay_emp) (x_var 1 cx rfl) (x_lst a_nil)) (rowsP_ne hne)) (fun hb => (x_ix ix_tup (od_ixT (show _ = some (natI x) from rfl)) (x_ix ix_list (od_ixL hat) (x_var 1 cx rfl) (x_ix ix_tup (od_ixT (show _ = some (PyData.int S.now.2.1) from rfl)) (x_fld 2 3 Z.k_Picker.cl (Z.k_Picker.na _ (by decide +kernel)) rfl (x_var 0 cx rfl) (mem_at hj) rfl) x_int)) x_int)) (fun hb => by cases hb)) rfl
theorem px_Picker_mark (Z : Tx G T c0 c1 c2 c3 c4 c5 c6 c7 cS cL kPicker PL cM0 PM0 cM1 PM1 cM2 PM2) : Md G.prog G.w G.K G.mg G.base kPicker "mark" 9 ["self"] (spR T (RX_Picker_mark kPicker c5)) := by
  refine md_R Z.m_Picker_mark sc_Picker_mark (by decide) (fun ds W r h => by obtain ⟨J, p, S, rfl, _⟩ := h; rfl) fun r F ds W res cd hr h => ?_
  have cx := cd.toCtx
  obtain ⟨J, p, S, rfl, hP, hS, he, rfl⟩ := h
  obtain ⟨q1, q2, hj, _⟩ := hP.o
  exact s_set 1 cd (x_mrd0 8 Z.k_Picker.cl (p_Picker_at Z) (hr.mono (by omega)) rfl (mem_at hj) (x_var 0 cx rfl) (show R_Picker_at kPicker [ptrD p] W (.ok .none) from ⟨_, _, _, rfl, hP, hS, by rw [he]; rfl⟩)) (s_when (k := true) (c_is (c_cmp op_isN od_isN (x_var 1 cx rfl) x_none) rfl) (fun _ => (s_raise cd Z.w_NoName.ok.x Z.g_NoName Z.w_NoName.ok.k (raises_own Z.w_NoName.ok.e Z.w_NoName.ok.t) rfl)) (fun h => by cases h))
theorem pw_Picker_mark (Z : Tx G T c0 c1 c2 c3 c4 c5 c6 c7 cS cL kPicker PL cM0 PM0 cM1 PM1 cM2 PM2) : Md G.prog G.w G.K G.mg G.base kPicker "mark" 9 ["self"] (spW T (RW_Picker_mark kPicker)) := by
  refine md_W Z.m_Picker_mark sc_Picker_mark (by decide) (fun ds W Ω h => by obtain ⟨J, p, S, x, rfl, _⟩ := h; rfl) fun r F ds W Ω cd hr h => ?_
  have cx := cd.toCtx
  obtain ⟨J, p, S, x, rfl, hP, hS, hpl, he, rfl⟩ := h
  obtain ⟨q1, q2, hj, _⟩ := hP.o
  have hsl := hS.now.some_le
  have hl60 := hS.l
  have hSz : 100000 ≤ sizeLine := by decide
  have hfl : ∀ l : List Nat, (l.map natI).all flatD = true := fun l => by simp [natI, flatD, Function.comp_def]
  refine (s_set 1 cd (x_mrd0 8 Z.k_Picker.cl (p_Picker_at Z) (hr.mono (by omega)) rfl (mem_at hj) (x_var 0 cx rfl) (show R_Picker_at kPicker [ptrD p] W (.ok (.int (x : Int))) from ⟨_, _, _, rfl, hP, hS, by rw [he]; rfl⟩)) (s_when (c_cmp op_isN od_isN (x_var 1 cx rfl) x_none) (fun hc1 => (s_raise cd Z.w_NoName.ok.x Z.g_NoName Z.w_NoName.ok.k (raises_own Z.w_NoName.ok.e Z.w_NoName.ok.t) ?_)) (fun hc1 => (s_asg cd (x_fld 8 3 Z.k_Picker.cl (Z.k_Picker.na _ (by decide +kernel)) rfl (x_var 0 cx rfl) (mem_at hj) rfl) (pg_tup cx.calm (pgs_cons (g_name 2 cd) (pgs_cons (g_name 3 cd) (pgs_cons (g_name 4 cd) (pgs_cons (g_name 5 cd) pgs_nil))))) (tg_tup rfl (tg_cons tg_name (tg_cons tg_name (tg_cons tg_name (tg_cons tg_name tg_nil))))) (s_set 6 cd (x_ty cx call_tuple_of cd_tuple Z.b_tuple (by decide +kernel) (a_cons (x_dl (x_lc [("one", 7)] (_) (_) _ _ _ cx (i_tup (x_is (x_var 5 cx rfl) rfl)) (by first | omega | (rw [List.length_map]; simp only [List.length_cons, List.length_nil]; omega)) (by decide +kernel) (fun s H C cl fp => g_nameB 7 (cx.blk s H _ C cl fp)) (fun x hx => tg_name) (wg_name (by decide)) (fun x hx s H C cl fp => ts_one (c_cmp op_ne od_neI (x_var 7 (cx.blk s H _ C cl fp) rfl) (x_var 1 (cx.blk s H _ C cl fp) rfl))) (fun x hx hq s H C cl fp => (x_var 7 (cx.blk s H _ C cl fp) rfl)))) a_nil)) (s_exprW (x_mwr 8 Z.k_Picker.cl (pw_Picker_become Z) (hr.mono (by omega)) rfl (mem_at hj) (x_var 0 cx rfl) (a_cons (x_tup (a_cons (x_var 2 cx rfl) (a_cons (x_var 3 cx rfl) (a_cons (x_var 4 cx rfl) (a_cons (x_if (d := .tuple ((mark1 S.now.2.2.2 x).map natI)) (c_cmp op_in_seq (od_inT rfl (hfl _)) (x_var 1 cx rfl) (x_var 5 cx rfl)) (fun hb => (x_is (x_var 6 cx rfl) (mark_in (of_decide_eq_true ((any_natI _ _).symm.trans hb))))) (fun hb => (x_is (x_op op_catA (od_catT (by first | omega | (rw [List.length_map]; simp only [List.length_cons, List.length_nil]; omega))) (x_var 5 cx rfl) (x_tup (a_cons (x_var 1 cx rfl) a_nil))) (mark_out (of_decide_eq_false ((any_natI _ _).symm.trans hb)))))) a_nil))))) a_nil) ⟨J, _, S, S.marked x, rfl, hP, hpl, rfl⟩) (fun d_ W_ hW_ => ?_)))))))
  · cases hc1
  · obtain ⟨rfl, h1, h2⟩ := hW_
    exact s_nil ⟨_, rfl, rfl, h1, h2⟩
theorem px_Picker_undo (Z : Tx G T c0 c1 c2 c3 c4 c5 c6 c7 cS cL kPicker PL cM0 PM0 cM1 PM1 cM2 PM2) : Md G.prog G.w G.K G.mg G.base kPicker "undo" 1 ["self"] (spR T (RX_Picker_undo kPicker c6)) := by
  refine md_R Z.m_Picker_undo sc_Picker_undo (by decide) (fun ds W r h => by obtain ⟨J, p, S, rfl, _⟩ := h; rfl) fun r F ds W res cd hr h => ?_
  have cx := cd.toCtx
  obtain ⟨J, p, S, rfl, hP, hS, he, rfl⟩ := h
  obtain ⟨q1, q2, hj, h1, h2⟩ := hP.o
  rw [he] at h1
  exact s_when (k := true) (c_is (c_weq (g := 1) hr.units rfl (mem_at h1) lay_emp lay_emp (x_fld 1 4 Z.k_Picker.cl (Z.k_Picker.na _ (by decide +kernel)) rfl (x_var 0 cx rfl) (mem_at hj) rfl) (x_lst a_nil)) rfl) (fun _ => (s_raise cd Z.w_Nothing.ok.x Z.g_Nothing Z.w_Nothing.ok.k (raises_own Z.w_Nothing.ok.e Z.w_Nothing.ok.t) rfl)) (fun h => by cases h)
theorem pw_Picker_undo (Z : Tx G T c0 c1 c2 c3 c4 c5 c6 c7 cS cL kPicker PL cM0 PM0 cM1 PM1 cM2 PM2) : Md G.prog G.w G.K G.mg G.base kPicker "undo" 1 ["self"] (spW T (RW_Picker_undo kPicker)) := by
  refine md_W Z.m_Picker_undo sc_Picker_undo (by decide) (fun ds W Ω h => by obtain ⟨J, p, S, l, s, rfl, _⟩ := h; rfl) fun r F ds W Ω cd hr h => ?_
  have cx := cd.toCtx
  obtain ⟨J, p, S, l, s, rfl, hP, hS, hal, hpl, he, rfl⟩ := h
  obtain ⟨q1, q2, hj, h1, h2⟩ := hP.o
  have n1 := hP.n1
  have n2 := hP.n2
  have n3 := hP.n3
  refine s_when (k := false) (c_is (c_weq (g := 1) hr.units rfl (mem_at h1) (lay_nows hS.past) lay_emp (x_fld 1 4 Z.k_Picker.cl (Z.k_Picker.na _ (by decide +kernel)) rfl (x_var 0 cx rfl) (mem_at hj) rfl) (x_lst a_nil)) (by rw [he]; exact nows_ne l s)) (fun h => by cases h) fun _ => ?_
  refine s_exprW (g := 1) (x_wapp J.2.2 rfl h2 (x_fld 1 5 Z.k_Picker.cl (Z.k_Picker.na _ (by decide +kernel)) rfl (x_var 0 cx rfl) (mem_at hj) rfl) (x_fld 1 3 Z.k_Picker.cl (Z.k_Picker.na _ (by decide +kernel)) rfl (x_var 0 cx rfl) (mem_at hj) rfl) (by rw [List.length_map]; omega)) fun d W' h => ?_
  obtain ⟨rfl, rfl⟩ := h
  have hj1 := wset_ne (i := J.2.2) (r := (q2, .lst (S.ahead.map nowD ++ [nowD S.now]))) hj (fun z => n2 z.symm)
  have h11 : (W.set J.2.2 (q2, .lst (S.ahead.map nowD ++ [nowD S.now])))[J.2.1]? = some (q1, .lst (l.map nowD ++ [nowD s])) := by
    have := wset_ne (i := J.2.2) (r := (q2, .lst (S.ahead.map nowD ++ [nowD S.now]))) h1 (fun z => n3 z.symm)
    rw [he, List.map_append] at this
    exact this
  have h22 := wset (r := (q2, .lst (S.ahead.map nowD ++ [nowD S.now]))) h2
  refine s_fldW (g := 1) 3 Z.k_Picker.cl (Z.k_Picker.na _ (by decide +kernel)) (by show 1 < 2; decide) (x_wpop J.2.1 rfl h11 (x_fld 1 4 Z.k_Picker.cl (Z.k_Picker.na _ (by decide +kernel)) rfl (x_var 0 cx rfl) (mem_at hj1) rfl)) (fun d W' h => x_var 0 cx rfl) (fun d W' h => by obtain ⟨rfl, rfl⟩ := h; exact wset_ne hj1 (fun z => n1 z.symm)) fun d W' h => ?_
  obtain ⟨rfl, rfl⟩ := h
  refine s_nil ⟨_, rfl, rfl, ⟨⟨q1, q2, wset (wset_ne hj1 (fun z => n1 z.symm)), ?_, ?_⟩, n1, n2, n3⟩, ⟨by simp, fun i x e m1 m2 m3 => ?_⟩⟩
  · exact wset_ne (wset h11) n1
  · show _ = some (q2, MO.lst ((S.ahead ++ [S.now]).map nowD))
    rw [List.map_append]
    exact wset_ne (wset_ne h22 n3) n2
  · exact wset_ne (wset_ne (wset_ne e (fun z => m3 z.symm)) (fun z => m2 z.symm)) (fun z => m1 z.symm)
theorem px_Picker_redo (Z : Tx G T c0 c1 c2 c3 c4 c5 c6 c7 cS cL kPicker PL cM0 PM0 cM1 PM1 cM2 PM2) : Md G.prog G.w G.K G.mg G.base kPicker "redo" 1 ["self"] (spR T (RX_Picker_redo kPicker c6)) := by
  refine md_R Z.m_Picker_redo sc_Picker_redo (by decide) (fun ds W r h => by obtain ⟨J, p, S, rfl, _⟩ := h; rfl) fun r F ds W res cd hr h => ?_
  have cx := cd.toCtx
  obtain ⟨J, p, S, rfl, hP, hS, he, rfl⟩ := h
  obtain ⟨q1, q2, hj, h1, h2⟩ := hP.o
  rw [he] at h2
  exact s_when (k := true) (c_is (c_weq (g := 1) hr.units rfl (mem_at h2) lay_emp lay_emp (x_fld 1 5 Z.k_Picker.cl (Z.k_Picker.na _ (by decide +kernel)) rfl (x_var 0 cx rfl) (mem_at hj) rfl) (x_lst a_nil)) rfl) (fun _ => (s_raise cd Z.w_Nothing.ok.x Z.g_Nothing Z.w_Nothing.ok.k (raises_own Z.w_Nothing.ok.e Z.w_Nothing.ok.t) rfl)) (fun h => by cases h)
theorem pw_Picker_redo (Z : Tx G T c0 c1 c2 c3 c4 c5 c6 c7 cS cL kPicker PL cM0 PM0 cM1 PM1 cM2 PM2) : Md G.prog G.w G.K G.mg G.base kPicker "redo" 1 ["self"] (spW T (RW_Picker_redo kPicker)) := by
  refine md_W Z.m_Picker_redo sc_Picker_redo (by decide) (fun ds W Ω h => by obtain ⟨J, p, S, l, s, rfl, _⟩ := h; rfl) fun r F ds W Ω cd hr h => ?_
  have cx := cd.toCtx
  obtain ⟨J, p, S, l, s, rfl, hP, hS, hal, hpl, he, rfl⟩ := h
  obtain ⟨q1, q2, hj, h1, h2⟩ := hP.o
  have n1 := hP.n1
  have n2 := hP.n2
  have n3 := hP.n3
  refine s_when (k := false) (c_is (c_weq (g := 1) hr.units rfl (mem_at h2) (lay_nows hS.ahead) lay_emp (x_fld 1 5 Z.k_Picker.cl (Z.k_Picker.na _ (by decide +kernel)) rfl (x_var 0 cx rfl) (mem_at hj) rfl) (x_lst a_nil)) (by rw [he]; exact nows_ne l s)) (fun h => by cases h) fun _ => ?_
  refine s_exprW (g := 1) (x_wapp J.2.1 rfl h1 (x_fld 1 4 Z.k_Picker.cl (Z.k_Picker.na _ (by decide +kernel)) rfl (x_var 0 cx rfl) (mem_at hj) rfl) (x_fld 1 3 Z.k_Picker.cl (Z.k_Picker.na _ (by decide +kernel)) rfl (x_var 0 cx rfl) (mem_at hj) rfl) (by rw [List.length_map]; omega)) fun d W' h => ?_
  obtain ⟨rfl, rfl⟩ := h
  have hj1 := wset_ne (i := J.2.1) (r := (q1, .lst (S.past.map nowD ++ [nowD S.now]))) hj (fun z => n1 z.symm)
  have h22 : (W.set J.2.1 (q1, .lst (S.past.map nowD ++ [nowD S.now])))[J.2.2]? = some (q2, .lst (l.map nowD ++ [nowD s])) := by
    have := wset_ne (i := J.2.1) (r := (q1, .lst (S.past.map nowD ++ [nowD S.now]))) h2 n3
    rw [he, List.map_append] at this
    exact this
  have h11 := wset (r := (q1, .lst (S.past.map nowD ++ [nowD S.now]))) h1
  refine s_fldW (g := 1) 3 Z.k_Picker.cl (Z.k_Picker.na _ (by decide +kernel)) (by show 1 < 2; decide) (x_wpop J.2.2 rfl h22 (x_fld 1 5 Z.k_Picker.cl (Z.k_Picker.na _ (by decide +kernel)) rfl (x_var 0 cx rfl) (mem_at hj1) rfl)) (fun d W' h => x_var 0 cx rfl) (fun d W' h => by obtain ⟨rfl, rfl⟩ := h; exact wset_ne hj1 (fun z => n2 z.symm)) fun d W' h => ?_
  obtain ⟨rfl, rfl⟩ := h
  refine s_nil ⟨_, rfl, rfl, ⟨⟨q1, q2, wset (wset_ne hj1 (fun z => n2 z.symm)), ?_, ?_⟩, n1, n2, n3⟩, ⟨by simp, fun i x e m1 m2 m3 => ?_⟩⟩
  · show _ = some (q1, MO.lst ((S.past ++ [S.now]).map nowD))
    rw [List.map_append]
    exact wset_ne (wset_ne h11 (fun z => n3 z.symm)) n1
  · exact wset_ne (wset h22) n2
  · exact wset_ne (wset_ne (wset_ne e (fun z => m2 z.symm)) (fun z => m3 z.symm)) (fun z => m1 z.symm)
theorem p_Picker_ask (Z : Tx G T c0 c1 c2 c3 c4 c5 c6 c7 cS cL kPicker PL cM0 PM0 cM1 PM1 cM2 PM2) : Md G.prog G.w G.K G.mg G.base kPicker "ask" 1 ["self"] (spR T (R_Picker_ask kPicker)) := by
  refine md_R Z.m_Picker_ask sc_Picker_ask (by decide) (fun ds W r h => by obtain ⟨J, p, S, rfl, _⟩ := h; rfl) fun r F ds W res cd hr h => ?_
  have cx := cd.toCtx
  obtain ⟨J, p, S, rfl, hP, rfl⟩ := h
  obtain ⟨q1, q2, hj, _⟩ := hP.o
  refine (s_ret (x_ix ix_tup (od_ixT (show _ = some (tx S.now.1) from rfl)) (x_fld 1 3 Z.k_Picker.cl (Z.k_Picker.na _ (by decide +kernel)) rfl (x_var 0 cx rfl) (mem_at hj) rfl) x_int) ?_)
  rfl
theorem p_Picker_chosen (Z : Tx G T c0 c1 c2 c3 c4 c5 c6 c7 cS cL kPicker PL cM0 PM0 cM1 PM1 cM2 PM2) : Md G.prog G.w G.K G.mg G.base kPicker "chosen" 1 ["self"] (spR T (R_Picker_chosen kPicker)) := by
  refine md_R Z.m_Picker_chosen sc_Picker_chosen (by decide) (fun ds W r h => by obtain ⟨J, p, S, rfl, _⟩ := h; rfl) fun r F ds W res cd hr h => ?_
  have cx := cd.toCtx
  obtain ⟨J, p, S, rfl, hP, rfl⟩ := h
  obtain ⟨q1, q2, hj, _⟩ := hP.o
  refine (s_ret (x_ty cx call_list_of cd_listT Z.b_list (by decide +kernel) (a_cons (x_ix ix_tup (od_ixT (show _ = some (PyData.tuple (S.now.2.2.2.map natI)) from rfl)) (x_fld 1 3 Z.k_Picker.cl (Z.k_Picker.na _ (by decide +kernel)) rfl (x_var 0 cx rfl) (mem_at hj) rfl) x_int) a_nil)) ?_)
  rfl
theorem p_Picker_seen (Z : Tx G T c0 c1 c2 c3 c4 c5 c6 c7 cS cL kPicker PL cM0 PM0 cM1 PM1 cM2 PM2) : Md G.prog G.w G.K G.mg G.base kPicker "seen" 8 ["self"] (spR T (R_Picker_seen kPicker)) := by
  refine md_R Z.m_Picker_seen sc_Picker_seen (by decide) (fun ds W r h => by obtain ⟨J, p, S, rfl, _⟩ := h; rfl) fun r F ds W res cd hr h => ?_
  have cx := cd.toCtx
  obtain ⟨J, p, S, rfl, hP, hS, rfl⟩ := h
  obtain ⟨q1, q2, hj, _⟩ := hP.o
  have hrl := rowsA_len S.M S.ls S.now.1
  have hl60 := hS.l
  have hSz : 100000 ≤ sizeLine := by decide
  have hfl : ∀ l : List Nat, (l.map natI).all flatD = true := fun l => by simp [natI, flatD, Function.comp_def]
  refine (s_asg cd (x_fld 11 3 Z.k_Picker.cl (Z.k_Picker.na _ (by decide +kernel)) rfl (x_var 0 cx rfl) (mem_at hj) rfl) (pg_tup cx.calm (pgs_cons (g_name 1 cd) (pgs_cons (g_name 2 cd) (pgs_cons (g_name 3 cd) (pgs_cons (g_name 4 cd) pgs_nil))))) (tg_tup rfl (tg_cons tg_name (tg_cons tg_name (tg_cons tg_name (tg_cons tg_name tg_nil))))) (s_own 5 cd (x_lstN a_nil) (s_for (List.range S.rows.length) (nrD S) (fun pre_ δ => ∃ s6 s7 s8 s9 s10, δ = [.dat (ptrD p), .dat (tx S.now.1), .dat (.int S.now.2.1), .dat (.int S.now.2.2.1), .dat (.tuple (S.now.2.2.2.map natI)), .own (seenP S pre_), s6, s7, s8, s9, s10, .wd true W]) cd (i_is (i_enumL cx Z.b_enumerate (a_cons (x_mrd0 11 Z.k_Picker.cl (p_Picker_in_turn Z) (hr.mono (by omega)) rfl (mem_at hj) (x_var 0 cx rfl) ⟨_, _, _, rfl, hP, hS, rfl⟩) a_nil)) (enum_rows S)) (pg_tup cx.calm (pgs_cons (g_name 6 cd) (pgs_cons (pg_tup cx.calm (pgs_cons (g_name 7 cd) (pgs_cons (g_name 8 cd) (pgs_cons (g_name 9 cd) (pgs_cons (g_name 10 cd) pgs_nil))))) pgs_nil))) ?_ ?_ ?_)))
  · exact ⟨_, _, _, _, _, rfl⟩
  · intro pre i post δ' hx hI
    obtain ⟨s6, s7, s8, s9, s10, rfl⟩ := hI
    obtain ⟨hi, hin⟩ := range_atx hx
    obtain ⟨n, q, hn, eb⟩ := row_num (getD_row hin)
    have eb : S.rows.getD i (0, ⟨#[]⟩, 0, .none) = _ := eb
    have e0 : S.rows.length = (rowsA S.M S.ls S.now.1).length := rfl
    have hnm := isNm_len (hS.n _ (getD_mem hn))
    have hsl := seen_le S pre
    have hpl : pre.length ≤ 60 := by omega
    refine ⟨_, tg_tup rfl (tg_cons tg_name (tg_cons (tg_tup rfl (tg_cons tg_name (tg_cons tg_name (tg_cons tg_name (tg_cons tg_name tg_nil))))) tg_nil)), ?_⟩
    rw [eb]
    have hsn := seen_snoc S pre i
    refine (s_when (c_chain op_le op_lt od_b0 (fun hb => od_b0) (x_var 3 cx rfl) (x_var 6 cx rfl) (x_op op_add od_i0 (x_var 3 cx rfl) (x_fld 11 2 Z.k_Picker.cl (Z.k_Picker.na _ (by decide +kernel)) rfl (x_var 0 cx rfl) (mem_at hj) rfl))) (fun hc1 => (s_appN 5 cx rfl (x_tup (a_cons (x_cmp op_eq od_eqI (x_var 6 cx rfl) (x_var 2 cx rfl)) (a_cons (x_cmp op_in_seq (od_inT rfl (hfl _)) (x_var 7 cx rfl) (x_var 4 cx rfl)) (a_cons (x_call cx (p_shown_text Z) (hr.mono (by omega)) (a_cons (x_var 8 cx rfl) (a_cons (x_var 10 cx rfl) a_nil)) ⟨_, _, rfl, by omega, rfl⟩) a_nil)))) (by omega) (s_nil (s_nil ?_)))) (fun hc1 => (s_nil ?_)))
    · show ∃ s6 s7 s8 s9 s10, _
      have hc1 : seenB S i = true := hc1
      rw [hsn, if_pos hc1]
      have e1 : seen1 S i = .tuple [.bool (decide ((i : Int) = S.now.2.1)), .bool ((S.now.2.2.2.map natI).any fun z => PyData.eqv z (natI n)), tx (shownL (S.ls.getD n []) q.2)] := by
        unfold seen1
        rw [eb, any_natI]
        show PyData.tuple [_, .bool (decide ((n : Int).toNat ∈ S.now.2.2.2)), tx (shownL ((S.ls.getD n []).toArray.toList) ((lsOf (rowD q.2)).map fun d => (intOf d).toNat))] = _
        rw [row_back, Int.toNat_natCast]
      rw [e1]
      exact ⟨_, _, _, _, _, rfl⟩
    · show ∃ s6 s7 s8 s9 s10, _
      have hc1 : seenB S i = false := hc1
      rw [hsn, if_neg (by rw [hc1]; decide), List.append_nil]
      exact ⟨_, _, _, _, _, rfl⟩
  · intro δ' hI
    obtain ⟨s6, s7, s8, s9, s10, rfl⟩ := hI
    refine (s_freeze 5 rfl (s_ret (x_var 5 cx rfl) ?_))
    rfl
theorem p_Picker_done (Z : Tx G T c0 c1 c2 c3 c4 c5 c6 c7 cS cL kPicker PL cM0 PM0 cM1 PM1 cM2 PM2) : Md G.prog G.w G.K G.mg G.base kPicker "done" 9 ["self"] (spR T (R_Picker_done kPicker)) := by
  refine md_R Z.m_Picker_done sc_Picker_done (by decide) (fun ds W r h => by obtain ⟨J, p, S, rfl, _⟩ := h; rfl) fun r F ds W res cd hr h => ?_
  have cx := cd.toCtx
  obtain ⟨J, p, S, rfl, hP, hS, rfl⟩ := h
  obtain ⟨q1, q2, hj, _⟩ := hP.o
  have hsl := hS.now.some_le
  have hl60 := hS.l
  have hSz : 100000 ≤ sizeLine := by decide
  obtain ⟨l, hl, hll, hlm⟩ : ∃ l, S.doneL = l ∧ l.length ≤ 60 ∧ ∀ x ∈ l, x < S.ls.length := by
    refine ⟨_, rfl, ?_⟩
    unfold PSt.doneL
    split
    · cases e : S.at_ with
      | none => exact ⟨by decide, fun x hx => by cases hx⟩
      | some x => exact ⟨by show 1 ≤ 60; decide, fun y hy => by rw [List.mem_singleton.mp hy]; exact (at_lt hS e).1⟩
    · exact ⟨by omega, hS.now.m⟩
  refine (s_set 1 cd (x_mrd0 3 Z.k_Picker.cl (p_Picker_chosen Z) (hr.mono (by omega)) rfl (mem_at hj) (x_var 0 cx rfl) ⟨_, _, _, rfl, hP, rfl⟩) (s_ifM (fun δ => ∃ s2, δ = [.dat (ptrD p), .dat (.list (l.map natI)), s2, .wd true W]) (PW.pt (w_and (c_cmp (op_eqD hr.units) (od_eqD lay_nats lay_emp) (x_var 1 cx rfl) (x_lst a_nil)) fun hb => (w_one (c_cmp op_notN od_notN (x_mrd0 3 Z.k_Picker.cl (p_Picker_at Z) (hr.mono (by omega)) rfl (mem_at hj) (x_var 0 cx rfl) ⟨_, _, _, rfl, hP, hS, rfl⟩) x_none)))) (fun hc1 => ?_) (fun hc1 => ?_) ?_))
  · refine (s_set 1 cd (x_lst (a_cons (x_mrd0 3 Z.k_Picker.cl (p_Picker_at Z) (hr.mono (by omega)) rfl (mem_at hj) (x_var 0 cx rfl) ⟨_, _, _, rfl, hP, hS, rfl⟩) a_nil)) (s_nil ?_))
    rw [nats_emp] at hc1
    simp only [Bool.and_eq_true, decide_eq_true_eq] at hc1
    cases e : S.at_ with
    | none => rw [e] at hc1; cases hc1.2
    | some x =>
      have : l = [x] := by
        rw [← hl]
        unfold PSt.doneL
        rw [if_pos hc1.1, e]
      show ∃ s2, _
      rw [this]
      exact ⟨_, rfl⟩
  · refine s_nil ?_
    rw [nats_emp] at hc1
    have : l = S.now.2.2.2 := by
      rw [← hl]
      unfold PSt.doneL
      split
      · rename_i h
        cases e : S.at_ with
        | none => exact h.symm
        | some x => rw [e, h] at hc1; cases hc1
      · rfl
    show ∃ s2, _
    rw [this]
    exact ⟨_, rfl⟩
  · intro δ' hI
    obtain ⟨s2, rfl⟩ := hI
    refine (s_ret (x_dl (x_lc [("number", 2)] (_) (_) _ _ _ cx (i_list (x_var 1 cx rfl)) (by omega) (by decide +kernel) (fun s H C cl fp => g_nameB 2 (cx.blk s H _ C cl fp)) (fun x hx => tg_name) (wg_name (by decide)) (fun x hx s H C cl fp => ts_nil) (fun x hx hq s H C cl fp => (x_ix ix_tup (od_ixT rfl) (x_ix ix_list (od_ixL (pair_at (hlm x hx))) (x_fld 3 1 Z.k_Picker.cl (Z.k_Picker.na _ (by decide +kernel)) rfl (x_var 0 (cx.blk s H _ C cl fp) rfl) (mem_at hj) rfl) (x_var 2 (cx.blk s H _ C cl fp) rfl)) x_int)))) ?_)
    rw [hl]
    show Except.ok _ = Except.ok _
    rw [filter_tt]
theorem p_law_cell (Z : Tx G T c0 c1 c2 c3 c4 c5 c6 c7 cS cL kPicker PL cM0 PM0 cM1 PM1 cM2 PM2) : Fd G.prog G.w G.K G.mg G.base "_law_cell" 1 ["script", "k"] (Lf.spCell G.K) := by
  obtain ⟨f, fd, Fn, m, b⟩ := Z.d_law_cell.ex
  refine ⟨f, fd, ?_, m, Fn.kp, b⟩
  obtain ⟨oc, od, kV, doc, pm, an, cdv, ct, osl, rfl, lk, hcd⟩ := Fn.ex
  refine fn_of lk hcd sc_law_cell (fun vs H Q E h => by obtain ⟨a, ns, k, rfl, _⟩ := h; rfl) fun A outer s H vs Q E hr h => ⟨_, (pss_cons (ps_if (pt_cmpR (op_eqD hr.units) (pv 0) (pe_lst pa_nil) (nomark _)) (pss_one (ps_ret (pe_op op_mul (pv 1) pe_int))) pss_nil)
    (pss_one (ps_ret (pe_op op_add (pe_ix ix_list (pv 0) (pe_op op_mod (pv 1) (pe_callB call_len rfl Z.b_len PySem.boot_len (pa_cons (pv 0) pa_nil))) (fun _ _ => rfl)) (pe_op op_mul (pe_op op_fdivW (pv 1) (pe_callB call_len rfl Z.b_len PySem.boot_len (pa_cons (pv 0) pa_nil))) pe_int))))), ?_⟩
  obtain ⟨a, ns, k, rfl, hs, hl, hk, q⟩ := h
  refine ⟨.ref a, rfl, by decide, fun p hp => ⟨.list (ns.map PyData.int), .list [], .lst (sq_grow (ext_new hp) hs) (DtAll.dp _ _ (noPs_ints ns) (DtAll.of_ints (O := fun _ => False) (H := upd H p (.lst [])) ns)), .lst (SqL.of upd_same) .nil, (lay_list (n := 0) fun d hd => ?_).ok, by decide, PyData.eqv (.list (ns.map PyData.int)) (.list []), rfl, ?_⟩⟩
  · obtain ⟨i, _, rfl⟩ := List.mem_map.mp hd
    exact lay_int
  · cases ns with
    | nil => exact iteT ⟨_, rfl, _, _, rfl, rfl, .inr (by decide), q _ fun b o e => by rw [upd_ne (ne_of_none e hp)]; exact e⟩
    | cons n r =>
      have hs' := sq_grow (ext_new (o := .lst []) hp) hs
      refine iteF ⟨_, rfl, _, rfl, _, rfl, _, (n :: r).length, rfl, .inl ⟨_, hs', by rw [List.length_map]⟩, _, _, rfl, rfl, by show (0 : Int) < (((n :: r).length : Nat) : Int); simp, a, _, _, .int ((n :: r).getD (k % (n :: r).length) 0), rfl, rfl, hs', ?_, ?_⟩
      · show atI ((n :: r).map V.int) (((k : Nat) : Int) % (((n :: r).length : Nat) : Int)) = _
        rw [← Int.natCast_emod]
        refine atI_nat ?_
        have hlt : k % (n :: r).length < (n :: r).length := Nat.mod_lt _ (by simp)
        rw [List.getElem?_map, List.getElem?_eq_getElem hlt]
        rw [List.getD_eq_getElem?_getD, List.getElem?_eq_getElem hlt]
        rfl
      · refine ⟨_, rfl, _, rfl, _, (n :: r).length, rfl, .inl ⟨_, hs', by rw [List.length_map]⟩, _, _, rfl, rfl, ?_, _, _, rfl, rfl, .inr (by decide), _, _, rfl, rfl, ?_⟩
        · refine wide_div (b := 20) (by show (0 : Int) < (((n :: r).length : Nat) : Int); simp) ?_ (by decide) (by decide)
          show (((n :: r).length : Nat) : Int).natAbs < 2 ^ 20
          rw [Int.natAbs_natCast]
          omega
        · have e : cell (n :: r) k = (n :: r).getD (k % (n :: r).length) 0 + ((k : Int) / ((n :: r).length : Int)) * 104729 := by
            unfold cell
            rw [if_neg (by simp)]
          rw [e] at q
          exact q _ fun b o e => by rw [upd_ne (ne_of_none e hp)]; exact e
theorem p_law_drawn (Z : Tx G T c0 c1 c2 c3 c4 c5 c6 c7 cS cL kPicker PL cM0 PM0 cM1 PM1 cM2 PM2) : Fd G.prog G.w G.K G.mg G.base "_law_drawn" 1 ["cell", "k"] (spD T R_law_drawn) := by
  refine fd_data Z.d_law_drawn sc_law_drawn (fun ds r h => by obtain ⟨c, k, rfl, _⟩ := h; rfl) fun r F ds res cd hr h => ?_
  have cx := cd.toCtx
  obtain ⟨c, k, rfl, rfl⟩ := h
  refine (s_set 2 cd (x_op op_mod (od_iC (by decide)) (x_op op_add od_i0 (x_op op_mul (od_iC (.inr (by decide))) (x_var 0 cx rfl) x_int) (x_op op_mul (od_iC (.inr (by decide))) (x_op op_add od_i0 (x_var 1 cx rfl) x_int) x_int)) x_int) (s_set 2 cd (x_op op_mod (od_iC (by decide)) (x_op op_mulW (od_iC (drawn_m1 _)) (x_var 2 cx rfl) (x_var 2 cx rfl)) x_int) (s_set 2 cd (x_op op_mulW (od_iC drawn_m3) (x_op op_mulW (od_iC drawn_m2) (x_op op_add od_i0 (x_op op_mod (od_iC (by decide)) (x_var 2 cx rfl) x_int) x_int) (x_op op_add od_i0 (x_op op_fdivW (od_iC div_big) (x_var 2 cx rfl) x_int) x_int)) (x_var 2 cx rfl)) (s_ret (x_op op_mod (od_iC (by decide)) (x_var 2 cx rfl) x_int) ?_))))
  rfl
theorem p_law_sign (Z : Tx G T c0 c1 c2 c3 c4 c5 c6 c7 cS cL kPicker PL cM0 PM0 cM1 PM1 cM2 PM2) : Fd G.prog G.w G.K G.mg G.base "_law_sign" 1 ["more"] (spD T R_law_sign) := by
  refine fd_data Z.d_law_sign sc_law_sign (fun ds r h => by obtain ⟨m, rfl, _⟩ := h; rfl) fun r F ds res cd hr h => ?_
  have cx := cd.toCtx
  obtain ⟨m, rfl, rfl⟩ := h
  refine (s_when (c_cmp op_eq od_eqI (x_op op_mod (od_iC (by first | decide | omega)) (x_var 0 cx rfl) x_int) x_int) (fun hc1 => (s_ret (x_ix ix_str (od_ixS (by first | omega | decide | (simp; omega) | assumption) (at_rem rfl (by decide))) (x_txt [100, 101, 102, 103, 120, 121, 122, 68, 69, 70, 71, 88, 89, 90]) (x_op op_mod (od_iC (by first | decide | omega)) (x_op op_fdivW (od_iC (div_sm (by decide) (by decide))) (x_var 0 cx rfl) x_int) x_int)) ?_)) (fun hc1 => (s_ret (x_ix ix_str (od_ixS (by first | omega | decide | (simp; omega) | assumption) (at_rem rfl (by decide))) (x_txt [97, 97, 97, 98, 98, 98, 99, 65, 66, 67, 49, 50, 95, 45, 47, 46, 32]) (x_op op_mod (od_iC (by first | decide | omega)) (x_op op_fdivW (od_iC (div_sm (by decide) (by decide))) (x_var 0 cx rfl) x_int) x_int)) ?_)))
  · show Except.ok _ = Except.ok _
    unfold signC
    rw [if_pos (by simpa using hc1)]
    rfl
  · show Except.ok _ = Except.ok _
    unfold signC
    rw [if_neg (by simpa using hc1)]
    rfl
theorem p_law_name (Z : Tx G T c0 c1 c2 c3 c4 c5 c6 c7 cS cL kPicker PL cM0 PM0 cM1 PM1 cM2 PM2) : Fd G.prog G.w G.K G.mg G.base "_law_name" 2 ["more", "most"] (spD T R_law_name) := by
  refine fd_data Z.d_law_name sc_law_name (fun ds r h => by obtain ⟨m, n, rfl, _⟩ := h; rfl) fun r F ds res cd hr h => ?_
  have cx := cd.toCtx
  obtain ⟨m, n, rfl, h1, h2, rfl⟩ := h
  have b1 := Int.emod_nonneg m (show n ≠ 0 by omega)
  have b2 := Int.emod_lt_of_pos m h1
  have b3 : (List.range (1 + m % n).toNat).length ≤ 100000 := by rw [List.length_range]; omega
  have hj : (((List.range (1 + m % n).toNat).filter fun _ => true).map fun (j : Nat) => [signC (drawn m (j : Int))]).length ≤ 10000 := by
    rw [List.length_map, filter_tt, List.length_range]
    omega
  refine (s_ret (x_m1 PySem.F.slot_str_join PySem.F.type_str_join mt_join (cd_joinD mp_t (join1_sz hj)) (x_txt []) (x_dl (x_lc [("j", 2)] (List.range _) (fun (i : Nat) => PyData.int (i : Int)) _ _ _ cx (i_range1 cx Z.b_range (a_cons (x_op op_add od_i0 x_int (x_op op_mod (od_iC (by first | decide | omega)) (x_var 0 cx rfl) (x_var 1 cx rfl))) a_nil) (by first | omega | decide | (simp; omega) | assumption) (by first | omega | decide | (simp; omega) | assumption)) (by first | omega | decide | (simp; omega) | assumption) (by decide +kernel) (fun s H C cl fp => g_nameB 2 (cx.blk s H _ C cl fp)) (fun x hx => tg_name) (wg_name (by decide)) (fun x hx s H C cl fp => ts_nil) (fun x hx hq s H C cl fp => (x_call (cx.blk s H _ C cl fp) (p_law_sign Z) (hr.mono (by omega)) (a_cons (x_call (cx.blk s H _ C cl fp) (p_law_drawn Z) (hr.mono (by omega)) (a_cons (x_var 0 (cx.blk s H _ C cl fp) rfl) (a_cons (x_var 2 (cx.blk s H _ C cl fp) rfl) a_nil)) ⟨_, _, rfl, rfl⟩) a_nil) ⟨_, rfl, rfl⟩))))) ?_)
  show Except.ok _ = Except.ok _
  rw [filter_tt, join1]
  rfl
theorem p_law_kind (Z : Tx G T c0 c1 c2 c3 c4 c5 c6 c7 cS cL kPicker PL cM0 PM0 cM1 PM1 cM2 PM2) : Fd G.prog G.w G.K G.mg G.base "_law_kind" 1 ["sign"] (spD T R_law_kind) := by
  refine fd_data Z.d_law_kind sc_law_kind (fun ds r h => by obtain ⟨c, rfl, _⟩ := h; rfl) fun r F ds res cd hr h => ?_
  have cx := cd.toCtx
  obtain ⟨c, rfl, rfl⟩ := h
  refine (s_when (c_cmp op_inS od_inS (x_var 0 cx rfl) (x_txt [97, 98, 99, 100, 101, 102, 103, 104, 105, 106, 107, 108, 109, 110, 111, 112, 113, 114, 115, 116, 117, 118, 119, 120, 121, 122])) (fun hc1 => (s_ret (x_txt [115, 109, 97, 108, 108]) ?_)) (fun hc1 => (s_when (c_cmp op_inS od_inS (x_var 0 cx rfl) (x_txt [48, 49, 50, 51, 52, 53, 54, 55, 56, 57])) (fun hc2 => (s_ret (x_txt [102, 105, 103, 117, 114, 101]) ?_)) (fun hc2 => (s_ret (d := tx (kindL c)) (x_if (c_cmp op_inS od_inS (x_var 0 cx rfl) (x_txt [65, 66, 67, 68, 69, 70, 71, 72, 73, 74, 75, 76, 77, 78, 79, 80, 81, 82, 83, 84, 85, 86, 87, 88, 89, 90])) (fun hb => (x_is (x_txt [103, 114, 101, 97, 116]) (kd3 hc1 hc2 hb))) (fun hb => (x_is (x_txt [110, 111, 110, 101]) (kd4 hc1 hc2 hb)))) ?_)))))
  · exact congrArg Except.ok (kd1 hc1).symm
  · exact congrArg Except.ok (kd2 hc1 hc2).symm
  · rfl
theorem p_law_starts (Z : Tx G T c0 c1 c2 c3 c4 c5 c6 c7 cS cL kPicker PL cM0 PM0 cM1 PM1 cM2 PM2) : Fd G.prog G.w G.K G.mg G.base "_law_starts" 2 ["name"] (spD T R_law_starts) := by
  refine fd_data Z.d_law_starts sc_law_starts (fun ds r h => by obtain ⟨l, rfl, _⟩ := h; rfl) fun r F ds res cd hr h => ?_
  have cx := cd.toCtx
  obtain ⟨l, rfl, hz, rfl⟩ := h
  refine (s_parO 1 2 cd (x_lstN a_nil) (x_txt [110, 111, 110, 101]) (s_for (enumT l) (encT) (fun pre δ => ∃ s3 s4 s5 s6, δ = [.dat (tx l), .own ((foldK pre).1.map natI), .dat (tx (foldK pre).2), s3, s4, s5, s6]) cd (i_enumS cx Z.b_enumerate (a_cons (x_var 0 cx rfl) a_nil)) (pg_tup cx.calm (pgs_cons (g_name 3 cd) (pgs_cons (g_name 4 cd) pgs_nil))) ?_ ?_ ?_))
  · exact ⟨_, _, _, _, rfl⟩
  · intro pre x post δ' hx hI
    obtain ⟨s3, s4, s5, s6, rfl⟩ := hI
    have hp : pre.length < l.length := by
      have := congrArg List.length hx
      simp [enumT] at this
      omega
    have hl := foldK_len pre
    have hb := snd_ok pre
    have hq := kind_ok x.2
    have ha : ((foldK pre).1.map natI).length < 100000 := by rw [List.length_map]; omega
    refine ⟨_, tg_tup rfl (tg_cons tg_name (tg_cons tg_name tg_nil)), ?_⟩
    refine (s_set 5 cd (x_call cx (p_law_kind Z) (hr.mono (by omega)) (a_cons (x_var 4 cx rfl) a_nil) ⟨_, rfl, rfl⟩) (s_set 6 cd (x_lst (a_cons (x_tup (a_cons (x_txt [110, 111, 110, 101]) (a_cons (x_txt [115, 109, 97, 108, 108]) a_nil))) (a_cons (x_tup (a_cons (x_txt [110, 111, 110, 101]) (a_cons (x_txt [103, 114, 101, 97, 116]) a_nil))) (a_cons (x_tup (a_cons (x_txt [110, 111, 110, 101]) (a_cons (x_txt [102, 105, 103, 117, 114, 101]) a_nil))) (a_cons (x_tup (a_cons (x_txt [115, 109, 97, 108, 108]) (a_cons (x_txt [103, 114, 101, 97, 116]) a_nil))) (a_cons (x_tup (a_cons (x_txt [102, 105, 103, 117, 114, 101]) (a_cons (x_txt [103, 114, 101, 97, 116]) a_nil))) a_nil)))))) (s_set 6 cd (x_op op_cat (od_catL (by decide)) (x_var 6 cx rfl) (x_lst (a_cons (x_tup (a_cons (x_txt [115, 109, 97, 108, 108]) (a_cons (x_txt [102, 105, 103, 117, 114, 101]) a_nil))) (a_cons (x_tup (a_cons (x_txt [103, 114, 101, 97, 116]) (a_cons (x_txt [102, 105, 103, 117, 114, 101]) a_nil))) (a_cons (x_tup (a_cons (x_txt [102, 105, 103, 117, 114, 101]) (a_cons (x_txt [115, 109, 97, 108, 108]) a_nil))) a_nil))))) (s_when (c_cmp (op_inD (hu65 hr)) (od_inD (lay2 hb hq) pairs_lay) (x_tup (a_cons (x_var 2 cx rfl) (a_cons (x_var 5 cx rfl) a_nil))) (x_var 6 cx rfl)) (fun hc1 => (s_appN 1 cx rfl (x_var 3 cx rfl) (by first | omega | decide | (simp; omega) | assumption) (s_nil (s_set 2 cd (x_var 5 cx rfl) (s_nil ?_))))) (fun hc1 => (s_set 2 cd (x_var 5 cx rfl) (s_nil ?_)))))))
    · show ∃ s3 s4 s5 s6, _ = [Lf.Slot.dat (tx l), .own ((foldK (pre ++ [x])).1.map natI), .dat (tx (foldK (pre ++ [x])).2), s3, s4, s5, s6]
      have e : foldK (pre ++ [x]) = ((foldK pre).1 ++ [x.1], kindL x.2) := by
        rw [foldK_snoc]
        unfold Lf.stepK
        rw [if_pos (show hitK _ _ = true from hc1)]
      rw [e, List.map_append]
      exact ⟨_, _, _, _, rfl⟩
    · show ∃ s3 s4 s5 s6, _ = [Lf.Slot.dat (tx l), .own ((foldK (pre ++ [x])).1.map natI), .dat (tx (foldK (pre ++ [x])).2), s3, s4, s5, s6]
      have e : foldK (pre ++ [x]) = ((foldK pre).1, kindL x.2) := by
        rw [foldK_snoc]
        unfold Lf.stepK
        rw [if_neg (fun z => by rw [show hitK _ _ = false from hc1] at z; cases z)]
      rw [e]
      exact ⟨_, _, _, _, rfl⟩
  · intro δ' hI
    obtain ⟨s3, s4, s5, s6, rfl⟩ := hI
    refine (s_freeze 1 rfl (s_ret (x_var 1 cx rfl) ?_))
    rfl
theorem p_law_hit (Z : Tx G T c0 c1 c2 c3 c4 c5 c6 c7 cS cL kPicker PL cM0 PM0 cM1 PM1 cM2 PM2) : Fd G.prog G.w G.K G.mg G.base "_law_hit" 1 ["own", "sign"] (spD T R_law_hit) := by
  refine fd_data Z.d_law_hit sc_law_hit (fun ds r h => by obtain ⟨o, s, rfl, _⟩ := h; rfl) fun r F ds res cd hr h => ?_
  have cx := cd.toCtx
  obtain ⟨o, s, rfl, hs, rfl⟩ := h
  refine (s_ret (x_or (x_cmp op_eq od_eqS (x_var 0 cx rfl) (x_var 1 cx rfl)) fun hb => (x_one (x_and (x_cmp op_inS od_inS (x_var 0 cx rfl) (x_txt [97, 98, 99, 100, 101, 102, 103, 104, 105, 106, 107, 108, 109, 110, 111, 112, 113, 114, 115, 116, 117, 118, 119, 120, 121, 122])) fun hb => (x_one (x_cmp op_eq od_eqS (x_var 0 cx rfl) (x_m0 PySem.F.slot_str_lower PySem.F.type_str_lower mt_lower (md_low1 hs) (x_var 1 cx rfl))))))) ?_)
  show Except.ok _ = Except.ok _
  simp [hitL, lSmall]
theorem p_law_every (Z : Tx G T c0 c1 c2 c3 c4 c5 c6 c7 cS cL kPicker PL cM0 PM0 cM1 PM1 cM2 PM2) : Fd G.prog G.w G.K G.mg G.base "_law_every" 2 ["ask", "name"] (spD T R_law_every) := by
  refine fd_data Z.d_law_every sc_law_every (fun ds r h => by obtain ⟨a, n, rfl, _⟩ := h; rfl) fun r F ds res cd hr h => ?_
  have cx := cd.toCtx
  obtain ⟨a, n, rfl, hal, hnl, hna, rfl⟩ := h
  have hS : 10000 ≤ sizeLine := by decide
  have cnt : ∀ b : List Nat, b.length ≤ 8 → (lev n b [[]]).length ≤ 924 := fun b hb => by
    rw [lev_all, rows_len]
    exact Nat.le_trans (rc_ch b n) (ch_small _ hnl _ hb)
  refine (s_set 2 cd (x_lst (a_cons (x_lst a_nil) a_nil)) (s_for (a) (fun (c : Nat) => tx [c]) (fun pre δ => ∃ s3 s4 s5 s6 s7, δ = [.dat (tx a), .dat (tx n), .dat (.list ((lev n pre [[]]).map rowD)), s3, s4, s5, s6, s7]) cd (i_str (x_var 0 cx rfl)) (g_name 3 cd) ?_ ?_ ?_))
  · exact ⟨_, _, _, _, _, rfl⟩
  · intro pre o post δ' hx hI
    obtain ⟨s3, s4, s5, s6, s7, rfl⟩ := hI
    have hpl : pre.length < a.length := by
      rw [hx]
      simp
    refine ⟨_, tg_name, ?_⟩
    refine (s_own 4 cd (x_lstN a_nil) (s_for (lev n pre [[]]) (rowD) (fun pre1 δ => ∃ s5 s6 s7, δ = [.dat (tx a), .dat (tx n), .dat (.list ((lev n pre [[]]).map rowD)), .dat (tx [o]), .own ((pre1.flatMap (extR o n)).map rowD), s5, s6, s7]) cd (i_list (x_var 2 cx rfl)) (g_name 5 cd) ?_ ?_ ?_))
    · exact ⟨_, _, _, rfl⟩
    · intro pre1 row post1 δ1 hx1 hI1
      obtain ⟨s5, s6, s7, rfl⟩ := hI1
      have hrow := lev_ok n pre row (by rw [hx1]; simp)
      have htot : (pre1.flatMap (extR o n)).length + (extR o n row).length ≤ 924 := by
        have h1 := cnt (pre ++ [o]) (by rw [List.length_append, List.length_singleton]; omega)
        rw [lev_snoc, hx1, List.flatMap_append, List.flatMap_cons, List.length_append, List.length_append] at h1
        omega
      refine ⟨_, tg_name, ?_⟩
      refine (s_set 6 cd (x_if (d := natI (nx row)) (c_cmp (op_neD hr.units) (od_neD lay_nats lay_emp) (x_var 5 cx rfl) (x_lst a_nil)) (fun hb => (x_is (x_op op_add od_i0 (x_ix ix_list (od_ixL (row_last hb)) (x_var 5 cx rfl) (x_un un_neg ud_neg x_int)) x_int) (row_nx1 hb))) (fun hb => (x_is x_int (row_nx0 hb)))) ?_)
      have hok : nx row ≤ n.length := hrow.1
      have hrl : row.length ≤ 8 := by
        have := hrow.2
        omega
      have hl0 : ∀ x ∈ List.range ((n.length : Int) - (nx row : Int)).toNat, nx row + x < n.length := fun x hx => by
        have := List.mem_range.mp hx
        omega
      have hl : ∀ x ∈ List.range ((n.length : Int) - (nx row : Int)).toNat, n.getD (nx row + x) 0 < 128 := fun x hx => by
        have h := hl0 x hx
        rw [List.getD_eq_getElem?_getD, List.getElem?_eq_getElem h]
        exact (alpha_low _ (hna _ (List.getElem_mem h))).1
      have hed := ext_data (o := o) hna hok
      have hez : ((pre1.flatMap (extR o n)).map rowD).length + (((List.range ((n.length : Int) - (nx row : Int)).toNat).filter fun i => hitL o (n.getD (nx row + i) 0)).map fun (i : Nat) => PyData.list (row.map natI ++ [PyData.int ((nx row : Int) + (i : Int))])).length ≤ sizeLine := by
        have h2 : (((List.range ((n.length : Int) - (nx row : Int)).toNat).filter fun i => hitL o (n.getD (nx row + i) 0)).map fun (i : Nat) => PyData.list (row.map natI ++ [PyData.int ((nx row : Int) + (i : Int))])) = (extR o n row).map rowD := hed
        rw [h2, List.length_map, List.length_map]
        omega
      refine (s_ext 4 cx rfl (x_dl (x_lc [("at", 7)] (List.range _) (_) _ _ _ cx (i_range2 cx Z.b_range (a_cons (x_var 6 cx rfl) (a_cons (x_bi cx call_len (cd_lenS (by first | omega | (simp only [List.length_range]; omega) | (rw [List.length_map]; simp only [List.length_cons, List.length_nil]; omega))) Z.b_len PySem.boot_len (a_cons (x_var 1 cx rfl) a_nil)) a_nil)) (by first | omega | (simp only [List.length_range]; omega) | (rw [List.length_map]; simp only [List.length_cons, List.length_nil]; omega)) (by first | omega | (simp only [List.length_range]; omega) | (rw [List.length_map]; simp only [List.length_cons, List.length_nil]; omega)) (by first | omega | (simp only [List.length_range]; omega) | (rw [List.length_map]; simp only [List.length_cons, List.length_nil]; omega))) (by first | omega | (simp only [List.length_range]; omega) | (rw [List.length_map]; simp only [List.length_cons, List.length_nil]; omega)) (by decide +kernel) (fun s H C cl fp => g_nameB 7 (cx.blk s H _ C cl fp)) (fun x hx => tg_name) (wg_name (by decide)) (fun x hx s H C cl fp => ts_one (c_val (x_call (cx.blk s H _ C cl fp) (p_law_hit Z) (hr.mono (by omega)) (a_cons (x_var 3 (cx.blk s H _ C cl fp) rfl) (a_cons (x_ix ix_str (od_ixS (by first | omega | (simp only [List.length_range]; omega) | (rw [List.length_map]; simp only [List.length_cons, List.length_nil]; omega)) (at_of (j := nx row + x) (by omega) (hl0 x hx))) (x_var 1 (cx.blk s H _ C cl fp) rfl) (x_var 7 (cx.blk s H _ C cl fp) rfl)) a_nil)) ⟨_, _, rfl, hl x hx, rfl⟩))) (fun x hx hq s H C cl fp => (x_op op_cat (od_catL (by first | omega | (simp only [List.length_range]; omega) | (rw [List.length_map]; simp only [List.length_cons, List.length_nil]; omega))) (x_var 5 (cx.blk s H _ C cl fp) rfl) (x_lst (a_cons (x_var 7 (cx.blk s H _ C cl fp) rfl) a_nil)))))) hez (s_nil ?_))
      show ∃ s5 s6 s7, _ = [_, _, _, _, Lf.Slot.own (((pre1 ++ [row]).flatMap (extR o n)).map rowD), s5, s6, s7]
      rw [List.flatMap_append, List.flatMap_singleton, List.map_append, ← hed]
      exact ⟨_, _, _, rfl⟩
    · intro δ1 hI1
      obtain ⟨s5, s6, s7, rfl⟩ := hI1
      rw [← lev_snoc]
      refine (s_freeze 4 rfl (s_set 2 cd (x_var 4 cx rfl) (s_nil ?_)))
      exact ⟨_, _, _, _, _, rfl⟩
  · intro δ' hI
    obtain ⟨s3, s4, s5, s6, s7, rfl⟩ := hI
    refine (s_ret (x_var 2 cx rfl) ?_)
    rw [lev_all]
    rfl
theorem p_law_marks (Z : Tx G T c0 c1 c2 c3 c4 c5 c6 c7 cS cL kPicker PL cM0 PM0 cM1 PM1 cM2 PM2) : Fd G.prog G.w G.K G.mg G.base "_law_marks" 2 ["more"] (spD T R_law_marks) := by
  refine fd_data Z.d_law_marks sc_law_marks (fun ds r h => by obtain ⟨m, rfl, _⟩ := h; rfl) fun r F ds res cd hr h => ?_
  have cx := cd.toCtx
  obtain ⟨m, rfl, rfl⟩ := h
  refine (s_ret (x_ty cx call_tuple_of cd_tuple Z.b_tuple (by decide +kernel) (a_cons (x_dl (x_lc [("here", 1)] (_) (_) _ _ _ cx (i_list (x_dl (x_lc [("j", 2)] (List.range _) (fun (i : Nat) => PyData.int (i : Int)) _ _ _ cx (i_range1 cx Z.b_range (a_cons x_int a_nil) (by first | decide | omega | (simp; done)) (by first | decide | omega | (simp; done))) (by first | decide | omega | (simp; done)) (by decide +kernel) (fun s H C cl fp => g_nameB 2 (cx.blk s H _ C cl fp)) (fun x hx => tg_name) (wg_name (by decide)) (fun x hx s H C cl fp => ts_nil) (fun x hx hq s H C cl fp => (x_call (cx.blk s H _ C cl fp) (p_law_drawn Z) (hr.mono (by omega)) (a_cons (x_var 0 (cx.blk s H _ C cl fp) rfl) (a_cons (x_var 2 (cx.blk s H _ C cl fp) rfl) a_nil)) ⟨_, _, rfl, rfl⟩))))) (by first | decide | omega | (simp; done)) (by decide +kernel) (fun s H C cl fp => g_nameB 1 (cx.blk s H _ C cl fp)) (fun x hx => tg_name) (wg_name (by decide)) (fun x hx s H C cl fp => ts_nil) (fun x hx hq s H C cl fp => (x_ix ix_list (od_ixL (mkC_at _)) (x_lst (a_cons x_int (a_cons x_int (a_cons x_int (a_cons x_int (a_cons x_int (a_cons (x_op op_mod (od_iC (by first | decide | omega)) (x_op op_fdivW (od_iC (div_sm (by decide) (by decide))) (x_var 1 (cx.blk s H _ C cl fp) rfl) x_int) x_int) a_nil))))))) (x_op op_mod (od_iC (by first | decide | omega)) (x_var 1 (cx.blk s H _ C cl fp) rfl) x_int))))) a_nil)) ?_)
  rfl
theorem p_law_worth (Z : Tx G T c0 c1 c2 c3 c4 c5 c6 c7 cS cL kPicker PL cM0 PM0 cM1 PM1 cM2 PM2) : Fd G.prog G.w G.K G.mg G.base "_law_worth" 4 ["marks", "ask", "name", "spots"] (spD T R_law_worth) := by
  refine fd_data Z.d_law_worth sc_law_worth (fun ds r h => by obtain ⟨M, a, n, q, rfl, _⟩ := h; rfl) fun r F ds res cd hr h => ?_
  have cx := cd.toCtx
  obtain ⟨M, a, n, q, rfl, hM, hn, hal, hq, rfl⟩ := h
  obtain ⟨g1, g2, g3, g4⟩ := (rows_iff0 a n q).mp hq
  have hnl := isNm_len hn
  have hS : 100000 ≤ sizeLine := by decide
  have h1 := hM.h; have h2 := hM.hd; have h3 := hM.st; have h4 := hM.rn; have h5 := hM.sm; have h6 := hM.sk
  refine (s_asg cd (x_var 0 cx rfl) (pg_tup cx.calm (pgs_cons (g_name 4 cd) (pgs_cons (g_name 5 cd) (pgs_cons (g_name 6 cd) (pgs_cons (g_name 7 cd) (pgs_cons (g_name 8 cd) (pgs_cons (g_name 9 cd) pgs_nil))))))) (tg_tup rfl (tg_cons tg_name (tg_cons tg_name (tg_cons tg_name (tg_cons tg_name (tg_cons tg_name (tg_cons tg_name tg_nil))))))) (s_par (i := 10) (j := 11) cd (a_cons x_int (a_cons (x_call cx (p_law_starts Z) (hr.mono (by omega)) (a_cons (x_var 2 cx rfl) a_nil) (R_law_starts_ok (by omega) hn)) a_nil)) (s_for (enumL (q.map natI)) (encL) (fun pre δ => ∃ s8 s9 s10, δ = [.dat (mkD M), .dat (tx a), .dat (tx n), .dat (rowD q), .dat (.int M.h), .dat (.int M.hd), .dat (.int M.st), .dat (.int M.rn), .dat (.int M.sm), .dat (.int M.sk), .dat (.int (wr M n (a.take pre.length) (q.take pre.length))), .dat (.list ((startsL n).map natI)), s8, s9, s10]) cd (i_enumL cx Z.b_enumerate (a_cons (x_var 3 cx rfl) a_nil)) (pg_tup cx.calm (pgs_cons (g_name 12 cd) (pgs_cons (g_name 13 cd) pgs_nil))) ?_ ?_ ?_)))
  · exact ⟨_, _, _, rfl⟩
  · intro pre x post δ' hx hI
    obtain ⟨s8, s9, s10, rfl⟩ := hI
    obtain ⟨hpl, rfl⟩ := enum_split hx
    rw [List.length_map] at hpl
    have hka : pre.length < a.length := by omega
    have ep : (q.map natI).getD pre.length .none = natI (q.getD pre.length 0) := by
      rw [List.getD_eq_getElem?_getD, List.getElem?_map, List.getElem?_eq_getElem hpl, List.getD_eq_getElem?_getD, List.getElem?_eq_getElem hpl]
      rfl
    rw [ep]
    have hpm : q.getD pre.length 0 ∈ q := by
      rw [List.getD_eq_getElem?_getD, List.getElem?_eq_getElem hpl]
      exact List.getElem_mem hpl
    have hpn := g2 _ hpm
    have nxt : (pre ++ [(pre.length, natI (q.getD pre.length 0))]).length = pre.length + 1 := by simp
    have es : wr M n (a.take (pre.length + 1)) (q.take (pre.length + 1)) = wr M n (a.take pre.length) (q.take pre.length) + gl M (q.getD pre.length 0) (q.take pre.length).getLast? + ow M (a.getD pre.length 0) n (q.getD pre.length 0) := by
      rw [take_snoc hka, take_snoc hpl, wr_snoc M n _ _ _ _ (by rw [List.length_take, List.length_take, g1])]
    have hin : ((startsL n).map natI).any (fun z => PyData.eqv z (.int ((q.getD pre.length 0 : Nat) : Int))) = begins n (q.getD pre.length 0) := starts_in hpn
    have hsb : q.getD (pre.length - 1) 0 < n.length := by
      have hk1 : pre.length - 1 < q.length := by omega
      rw [List.getD_eq_getElem?_getD, List.getElem?_eq_getElem hk1]
      exact g2 _ (List.getElem_mem hk1)
    have hlast : ∀ s, (q.take pre.length).getLast? = some s → s < q.getD pre.length 0 ∧ pre.length ≠ 0 ∧ q.getD (pre.length - 1) 0 = s := fun s hs => by
      have h0 : pre.length ≠ 0 := fun z => by rw [z] at hs; cases hs
      have hs' : q.getD (pre.length - 1) 0 = s := by
        rw [List.getLast?_eq_getElem?, List.length_take, Nat.min_eq_left (by omega), List.getElem?_take, if_pos (by omega)] at hs
        rw [List.getD_eq_getElem?_getD, hs]
        rfl
      refine ⟨?_, h0, hs'⟩
      have hk1 : pre.length - 1 < q.length := by omega
      have := List.pairwise_iff_getElem.mp g3 (pre.length - 1) pre.length hk1 hpl (by omega)
      rw [← hs', List.getD_eq_getElem?_getD, List.getElem?_eq_getElem hk1, List.getD_eq_getElem?_getD, List.getElem?_eq_getElem hpl]
      exact this
    generalize hp : q.getD pre.length 0 = p at *
    have eow : M.h + M.hd * (if decide ((p : Int) = 0) = true then (1 : Int) else 0) + M.st * (if begins n p = true then (1 : Int) else 0) + M.sm * (if decide ([n.getD p 0] = [a.getD pre.length 0]) = true then (1 : Int) else 0) = ow M (a.getD pre.length 0) n p := by
      unfold ow
      have e1 : (if decide ((p : Int) = 0) = true then (1 : Int) else 0) = if p = 0 then 1 else 0 := by simp
      have e2 : (if decide ([n.getD p 0] = [a.getD pre.length 0]) = true then (1 : Int) else 0) = if n.getD p 0 = a.getD pre.length 0 then 1 else 0 := by simp
      rw [e1, e2]
      split <;> split <;> split <;> simp
    refine ⟨_, tg_tup rfl (tg_cons tg_name (tg_cons tg_name tg_nil)), ?_⟩
    refine (s_set 10 cd (x_op op_add od_i0 (x_op op_add od_i0 (x_var 10 cx rfl) (x_var 4 cx rfl)) (x_op op_mulW (od_iC (cm_small (by omega) (by first | omega | (split <;> omega)))) (x_var 5 cx rfl) (x_ty cx call_int1 cd_intB Z.b_int (by decide +kernel) (a_cons (x_cmp op_eq od_eqI (x_var 13 cx rfl) x_int) a_nil)))) (s_set 10 cd (x_op op_add od_i0 (x_var 10 cx rfl) (x_op op_mulW (od_iC (cm_small (by omega) (by first | omega | (split <;> omega)))) (x_var 6 cx rfl) (x_ty cx call_int1 cd_intB Z.b_int (by decide +kernel) (a_cons (x_cmp (op_inD (hu65 hr)) (od_inD (lay_int (n := 0)) lay_nats) (x_var 13 cx rfl) (x_var 11 cx rfl)) a_nil)))) ?_))
    rw [hin]
    refine (s_set 10 cd (x_op op_add od_i0 (x_var 10 cx rfl) (x_op op_mulW (od_iC (cm_small (by omega) (by first | omega | (split <;> omega)))) (x_var 8 cx rfl) (x_ty cx call_int1 cd_intB Z.b_int (by decide +kernel) (a_cons (x_cmp op_eq od_eqS (x_ix ix_str (od_ixS (by first | omega | decide | (simp; omega) | assumption) (getD_at hpn)) (x_var 2 cx rfl) (x_var 13 cx rfl)) (x_ix ix_str (od_ixS (by first | omega | decide | (simp; omega) | assumption) (getD_at hka)) (x_var 1 cx rfl) (x_var 12 cx rfl))) a_nil)))) (s_when (c_cmp op_gt od_b0 (x_var 12 cx rfl) x_int) (fun hc1 => (s_set 14 cd (x_op op_sub od_i0 (x_op op_sub od_i0 (x_var 13 cx rfl) (x_ix ix_list (od_ixL (at_prev hpl (by have := of_decide_eq_true hc1; omega))) (x_var 3 cx rfl) (x_op op_sub od_i0 (x_var 12 cx rfl) x_int))) x_int) (s_set 10 cd (x_op op_add od_i0 (x_var 10 cx rfl) (x_if (d := .int (gw M (q.getD (pre.length - 1) 0) p)) (c_cmp op_eq od_eqI (x_var 14 cx rfl) x_int) (fun hb => (x_is (x_var 7 cx rfl) (congrArg PyData.int (gw_at0 hb).symm))) (fun hb => (x_is (x_op op_sub od_i0 x_int (x_op op_mulW (od_iC (cm_small (by omega) (by first | omega | (split <;> omega)))) (x_var 9 cx rfl) (x_var 14 cx rfl))) (congrArg PyData.int (gw_at1 hb).symm))))) (s_nil (s_nil ?_))))) (fun hc1 => (s_nil ?_))))
    · show ∃ s8 s9 s10, _
      rw [nxt, es]
      have hk0 : 0 < pre.length := by
        have := of_decide_eq_true hc1
        omega
      obtain ⟨s, hs⟩ : ∃ s, (q.take pre.length).getLast? = some s := by
        cases e : (q.take pre.length).getLast? with
        | none =>
          have := List.getLast?_eq_none_iff.mp e
          have := congrArg List.length this
          rw [List.length_take, List.length_nil, Nat.min_eq_left (by omega)] at this
          omega
        | some s => exact ⟨s, rfl⟩
      obtain ⟨_, _, hs2⟩ := hlast s hs
      rw [hs, ← eow, hs2, show gl M p (some s) = gw M s p from rfl]
      exact ⟨_, _, _, congrArg (fun i => [Lf.Slot.dat (mkD M), .dat (tx a), .dat (tx n), .dat (rowD q), .dat (.int M.h), .dat (.int M.hd), .dat (.int M.st), .dat (.int M.rn), .dat (.int M.sm), .dat (.int M.sk), .dat (.int i), .dat (.list ((startsL n).map natI)), .dat (natI pre.length), .dat (natI p), .dat (.int ((p : Int) - (s : Int) - 1))]) (by omega)⟩
    · show ∃ s8 s9 s10, _
      rw [nxt, es]
      have hk0 : pre.length = 0 := by
        have := of_decide_eq_false hc1
        omega
      have e0 : (q.take pre.length).getLast? = none := by rw [hk0]; rfl
      rw [e0, ← eow, show gl M p none = 0 from rfl]
      exact ⟨_, _, _, congrArg (fun i => [Lf.Slot.dat (mkD M), .dat (tx a), .dat (tx n), .dat (rowD q), .dat (.int M.h), .dat (.int M.hd), .dat (.int M.st), .dat (.int M.rn), .dat (.int M.sm), .dat (.int M.sk), .dat (.int i), .dat (.list ((startsL n).map natI)), .dat (natI pre.length), .dat (natI p), s10]) (by omega)⟩
  · intro δ' hI
    obtain ⟨s8, s9, s10, rfl⟩ := hI
    refine (s_ret (x_var 10 cx rfl) ?_)
    show Except.ok _ = Except.ok _
    have hl : (enumL (q.map natI)).length = q.length := by unfold enumL; simp
    rw [hl, List.take_length, g1, List.take_length]
theorem p_law_best (Z : Tx G T c0 c1 c2 c3 c4 c5 c6 c7 cS cL kPicker PL cM0 PM0 cM1 PM1 cM2 PM2) : Fd G.prog G.w G.K G.mg G.base "_law_best" 5 ["marks", "ask", "name"] (spD T R_law_best) := by
  refine fd_data Z.d_law_best sc_law_best (fun ds r h => by obtain ⟨M, a, n, rfl, _⟩ := h; rfl) fun r F ds res cd hr h => ?_
  have cx := cd.toCtx
  obtain ⟨M, a, n, rfl, hM, hn, hal, hnl, rfl⟩ := h
  have hna := isNm_alpha hn
  have hrc : (rowsS a n 0).length ≤ 924 := by
    rw [rows_len]
    exact Nat.le_trans (rc_ch a n) (ch_small _ (by omega) _ (by omega))
  refine (s_set 3 cd (x_call cx (p_law_every Z) (hr.mono (by omega)) (a_cons (x_var 1 cx rfl) (a_cons (x_var 2 cx rfl) a_nil)) ⟨_, _, rfl, hal, hnl, hna, rfl⟩) (s_when (c_cmp (op_eqD hr.units) (od_eqD lay_rows lay_emp) (x_var 3 cx rfl) (x_lst a_nil)) (fun hc1 => (s_ret x_none ?_)) (fun hc1 => ?_)))
  · show Except.ok _ = Except.ok _
    rw [rows_ne] at hc1
    have : rowsS a n 0 = [] := of_decide_eq_true hc1
    unfold bestL
    rw [this]
    rfl
  · rw [rows_ne] at hc1
    obtain ⟨m, q, hf, hm1, hm2, hm3⟩ := fm_spec (w := wr M n a) (of_decide_eq_false hc1)
    have hm1' : m ∈ ((rowsS a n 0).filter fun _ => true).map fun r => wr M n a r := by rw [filter_tt]; exact hm1
    have hm2' : ∀ y ∈ ((rowsS a n 0).filter fun _ => true).map fun r => wr M n a r, y ≤ m := by rw [filter_tt]; exact hm2
    refine (s_set 4 cd (x_bi cx (cr_max cx.calm) (cd_maxM mp_i hm1' hm2' ) Z.b_max (by decide +kernel) (a_cons (x_dl (x_lc [("row", 5)] (_) (_) _ _ _ cx (i_list (x_var 3 cx rfl)) (by omega) (by decide +kernel) (fun s H C cl fp => g_nameB 5 (cx.blk s H _ C cl fp)) (fun x hx => tg_name) (wg_name (by decide)) (fun x hx s H C cl fp => ts_nil) (fun x hx hq s H C cl fp => (x_call (cx.blk s H _ C cl fp) (p_law_worth Z) (hr.mono (by omega)) (a_cons (x_var 0 (cx.blk s H _ C cl fp) rfl) (a_cons (x_var 1 (cx.blk s H _ C cl fp) rfl) (a_cons (x_var 2 (cx.blk s H _ C cl fp) rfl) (a_cons (x_var 5 (cx.blk s H _ C cl fp) rfl) a_nil)))) ⟨_, _, _, _, rfl, hM, hn, by omega, hx, rfl⟩)))) a_nil)) (s_ret (x_tup (a_cons (x_var 4 cx rfl) (a_cons (x_ix ix_list (od_ixL (at_head hm3)) (x_dl (x_lc [("row", 5)] (_) (_) _ _ _ cx (i_list (x_var 3 cx rfl)) (by omega) (by decide +kernel) (fun s H C cl fp => g_nameB 5 (cx.blk s H _ C cl fp)) (fun x hx => tg_name) (wg_name (by decide)) (fun x hx s H C cl fp => ts_one (c_cmp op_eq od_eqI (x_call (cx.blk s H _ C cl fp) (p_law_worth Z) (hr.mono (by omega)) (a_cons (x_var 0 (cx.blk s H _ C cl fp) rfl) (a_cons (x_var 1 (cx.blk s H _ C cl fp) rfl) (a_cons (x_var 2 (cx.blk s H _ C cl fp) rfl) (a_cons (x_var 5 (cx.blk s H _ C cl fp) rfl) a_nil)))) ⟨_, _, _, _, rfl, hM, hn, by omega, hx, rfl⟩) (x_var 4 (cx.blk s H _ C cl fp) rfl))) (fun x hx hq s H C cl fp => (x_var 5 (cx.blk s H _ C cl fp) rfl)))) x_int) a_nil))) ?_))
    show Except.ok _ = Except.ok _
    unfold bestL
    rw [hf]
    rfl
theorem p_law_rows (Z : Tx G T c0 c1 c2 c3 c4 c5 c6 c7 cS cL kPicker PL cM0 PM0 cM1 PM1 cM2 PM2) : Fd G.prog G.w G.K G.mg G.base "_law_rows" 7 ["marks", "ask", "names"] (spD T R_law_rows) := by
  refine fd_data Z.d_law_rows sc_law_rows (fun ds r h => by obtain ⟨M, a, ls, rfl, _⟩ := h; rfl) fun r F ds res cd hr h => ?_
  have cx := cd.toCtx
  obtain ⟨M, a, ls, rfl, hM, hal, hls, hll, rfl⟩ := h
  have hS : 100000 ≤ sizeLine := by decide
  refine (s_own 3 cd (x_lstN a_nil) (s_for (enumN ls) (nnD) (fun pre δ => ∃ s4 s5 s6 s7 s8 s9, δ = [.dat (mkD M), .dat (tx a), .dat (.list (ls.map tx)), .own ((rowsOf M a pre).map lrD), s4, s5, s6, s7, s8, s9]) cd (i_is (i_enumL cx Z.b_enumerate (a_cons (x_var 2 cx rfl) a_nil)) (enum_nn ls)) (pg_tup cx.calm (pgs_cons (g_name 4 cd) (pgs_cons (g_name 5 cd) pgs_nil))) ?_ ?_ ?_))
  · exact ⟨_, _, _, _, _, _, rfl⟩
  · intro pre p post δ' hx hI
    obtain ⟨s4, s5, s6, s7, s8, s9, rfl⟩ := hI
    have hpm : p ∈ enumN ls := by rw [hx]; simp
    obtain ⟨hp1, hp2⟩ := hls _ (enumN_mem hpm)
    have hrl := rkr_len M a pre
    have hpr : pre.length ≤ ls.length := by
      have := congrArg List.length hx
      rw [enumN_len, List.length_append, List.length_cons] at this
      omega
    refine ⟨_, tg_tup rfl (tg_cons tg_name (tg_cons tg_name tg_nil)), ?_⟩
    refine (s_set 6 cd (x_call cx (p_law_best Z) (hr.mono (by omega)) (a_cons (x_var 0 cx rfl) (a_cons (x_var 1 cx rfl) (a_cons (x_var 5 cx rfl) a_nil))) ⟨_, _, _, rfl, hM, hp1, hal, hp2, rfl⟩) ?_)
    have hsn := rows_snoc M a pre p
    unfold rkOf at hsn
    cases hq : bestL M a p.2 with
    | none =>
      rw [hq] at hsn
      refine s_when (k := false) (c_is (c_cmp op_notN od_notN (x_var 6 cx rfl) x_none) rfl) (fun h => by cases h) (fun _ => s_nil ?_)
      show ∃ s4 s5 s6 s7 s8 s9, _
      rw [hsn]
      simp only [Option.map_none, Option.toList_none, List.append_nil]
      exact ⟨_, _, _, _, _, _, rfl⟩
    | some q =>
      rw [hq] at hsn
      refine (s_when (c_cmp op_notN od_notN (x_var 6 cx rfl) x_none) (fun hc1 => (s_appN 3 cx rfl (x_tup (a_cons (x_op op_sub od_i0 x_int (x_ix ix_tup (od_ixT rfl) (x_var 6 cx rfl) x_int)) (a_cons (x_bi cx call_len (cd_lenS (by first | omega | (rw [List.length_map]; omega))) Z.b_len PySem.boot_len (a_cons (x_var 5 cx rfl) a_nil)) (a_cons (x_var 4 cx rfl) (a_cons (x_ix ix_tup (od_ixT rfl) (x_var 6 cx rfl) x_int) a_nil))))) (by first | omega | (rw [List.length_map]; omega)) (s_nil (s_nil ?_)))) (fun hc1 => (s_nil ?_)))
      · show ∃ s4 s5 s6 s7 s8 s9, _
        rw [hsn]
        simp only [Option.map_some, Option.toList_some, List.map_append, List.map_cons, List.map_nil, lrD, tx_len]
        exact ⟨_, _, _, _, _, _, rfl⟩
      · cases hc1
  · intro δ' hI
    obtain ⟨s4, s5, s6, s7, s8, s9, rfl⟩ := hI
    have hla := lr_alike (rows_pl4 (M := M) (a := a) (ps := enumN ls))
    have hlz : (rkS (rowsOf M a (enumN ls))).length ≤ 1000 := by
      rw [rkS_len]
      have := rkr_len M a (enumN ls)
      rw [enumN_len] at this
      omega
    refine (s_freeze 3 rfl (s_ret (x_dl (x_lc [("less", 7), ("long", 8), ("number", 4), ("spots", 9)] (_) (_) _ _ _ cx (i_list (x_is (x_bi cx (cr_sortD (hu65 hr)) (cd_sortD hla.1 hla.2.1 hla.2.2) Z.b_sorted (by decide +kernel) (a_cons (x_var 3 cx rfl) a_nil)) (congrArg PyData.list (lr_sort rows_num)))) (by omega) (by decide +kernel) (fun s H C cl fp => pg_tup (n := 4) (cx.blk s H _ C cl fp).calm (pgs_cons (g_nameB 7 (cx.blk s H _ C cl fp)) (pgs_cons (g_nameB 8 (cx.blk s H _ C cl fp)) (pgs_cons (g_nameB 4 (cx.blk s H _ C cl fp)) (pgs_cons (g_nameB 9 (cx.blk s H _ C cl fp)) pgs_nil))))) (fun x hx => tg_tup (n := 4) rfl (tg_cons tg_name (tg_cons tg_name (tg_cons tg_name (tg_cons tg_name tg_nil))))) (wg_tup (wgs_cons (by decide) (wgs_cons (by decide) (wgs_cons (by decide) (wgs_cons (by decide) wgs_nil))))) (fun x hx s H C cl fp => ts_nil) (fun x hx hq s H C cl fp => (x_tup (a_cons (x_var 4 (cx.blk s H _ C cl fp) rfl) (a_cons (x_op op_sub od_i0 x_int (x_var 7 (cx.blk s H _ C cl fp) rfl)) (a_cons (x_var 9 (cx.blk s H _ C cl fp) rfl) a_nil))))))) ?_))
    show Except.ok _ = Except.ok _
    rw [filter_tt]
    unfold hitsL
    refine congrArg (fun z => Except.ok (PyData.list z)) (List.map_congr_left fun b hb => ?_)
    unfold rkT
    rw [show (0 : Int) - (0 - b.2.2.1) = b.2.2.1 by omega]
theorem p_law_shown (Z : Tx G T c0 c1 c2 c3 c4 c5 c6 c7 cS cL kPicker PL cM0 PM0 cM1 PM1 cM2 PM2) : Fd G.prog G.w G.K G.mg G.base "_law_shown" 1 ["name", "spots"] (spD T R_law_shown) := by
  refine fd_data Z.d_law_shown sc_law_shown (fun ds r h => by obtain ⟨n, ps, rfl, _⟩ := h; rfl) fun r F ds res cd hr h => ?_
  have cx := cd.toCtx
  obtain ⟨n, ps, rfl, hn, rfl⟩ := h
  have hS : 100000 ≤ sizeLine := by decide
  refine (s_asg cd (x_tup (a_cons (x_txt []) (a_cons x_bool a_nil))) (pg_tup cx.calm (pgs_cons (g_name 2 cd) (pgs_cons (g_name 3 cd) pgs_nil))) (tg_tup rfl (tg_cons tg_name (tg_cons tg_name tg_nil))) (s_for (enumT n) (encT) (fun pre δ => ∃ s4 s5, δ = [.dat (tx n), .dat (.list (ps.map natI)), .dat (tx (lsF ps pre).1), .dat (.bool (lsF ps pre).2), s4, s5]) cd (i_enumS cx Z.b_enumerate (a_cons (x_var 0 cx rfl) a_nil)) (pg_tup cx.calm (pgs_cons (g_name 4 cd) (pgs_cons (g_name 5 cd) pgs_nil))) ?_ ?_ ?_))
  · exact ⟨_, _, rfl⟩
  · intro pre x post δ' hx hI
    obtain ⟨s4, s5, rfl⟩ := hI
    have hl := lsF_len ps pre
    have hpl : pre.length < n.length := by
      have := congrArg List.length hx
      simp [enumT] at this
      omega
    refine ⟨_, tg_tup rfl (tg_cons tg_name (tg_cons tg_name tg_nil)), ?_⟩
    refine (s_when (c_cmp op_ne od_neB (x_cmp (op_inD (hu65 hr)) (od_inD (lay_int (n := 0)) lay_nats) (x_var 4 cx rfl) (x_var 1 cx rfl)) (x_var 3 cx rfl)) (fun hc1 => (s_set 2 cd (x_op op_add_str (od_catS (by first | omega | decide | (simp only [List.length_append, List.length_cons, List.length_nil]; omega))) (x_var 2 cx rfl) (x_ix ix_str (od_ixS (by first | omega | decide | (simp only [List.length_append, List.length_cons, List.length_nil]; omega)) (bk_at _)) (x_txt [91, 93]) (x_ty cx call_int1 cd_intB Z.b_int (by decide +kernel) (a_cons (x_var 3 cx rfl) a_nil)))) (s_set 3 cd (x_not (x_var 3 cx rfl)) (s_nil (s_set 2 cd (x_op op_add_str (od_catS (by first | omega | decide | (simp only [List.length_append, List.length_cons, List.length_nil]; omega))) (x_var 2 cx rfl) (x_var 5 cx rfl)) (s_nil ?_)))))) (fun hc1 => (s_set 2 cd (x_op op_add_str (od_catS (by first | omega | decide | (simp only [List.length_append, List.length_cons, List.length_nil]; omega))) (x_var 2 cx rfl) (x_var 5 cx rfl)) (s_nil ?_))))
    · show ∃ s4 s5, _
      rw [lsF_snoc, show lsStep ps (lsF ps pre) x = ((lsF ps pre).1 ++ [bk2 (lsF ps pre).2] ++ [x.2], !(lsF ps pre).2) from if_pos hc1]
      exact ⟨_, _, rfl⟩
    · show ∃ s4 s5, _
      rw [lsF_snoc, show lsStep ps (lsF ps pre) x = ((lsF ps pre).1 ++ [x.2], (lsF ps pre).2) from if_neg (Bool.eq_false_iff.mp hc1)]
      exact ⟨_, _, rfl⟩
  · intro δ' hI
    obtain ⟨s4, s5, rfl⟩ := hI
    have hl := lsF_len ps (enumT n)
    have hel : (enumT n).length = n.length := by simp [enumT]
    have hb1 : (if (lsF ps (enumT n)).2 then (1 : Int) else 0) = 0 ∨ (if (lsF ps (enumT n)).2 then (1 : Int) else 0) = 1 := by cases (lsF ps (enumT n)).2 <;> simp
    have hb2 : (List.replicate (if (lsF ps (enumT n)).2 then (1 : Int) else 0).toNat ([93] : List Nat)).flatten.length ≤ 1 := by cases (lsF ps (enumT n)).2 <;> simp
    refine (s_ret (x_op op_add_str (od_catS (by first | omega | decide | (simp only [List.length_append, List.length_cons, List.length_nil]; omega))) (x_var 2 cx rfl) (x_op op_repS (od_repSz (by first | omega | decide | (simp only [List.length_append, List.length_cons, List.length_nil]; omega)) (by first | omega | decide | (simp only [List.length_append, List.length_cons, List.length_nil]; omega)) (by first | omega | decide | (simp only [List.length_append, List.length_cons, List.length_nil]; omega))) (x_txt [93]) (x_ty cx call_int1 cd_intB Z.b_int (by decide +kernel) (a_cons (x_var 3 cx rfl) a_nil)))) ?_)
    rfl
end
end K95
set_option Elab.async false
set_option linter.all false
set_option maxRecDepth 100000
set_option maxHeartbeats 4000000
namespace K95
open PySem PySem.Spec PyProof.Rows L2 LamX Lf
section
variable {G : Pg} {T : List (Addr × Str)} {c0 c1 c2 c3 c4 c5 c6 c7 cS cL kPicker PL cM0 PM0 cM1 PM1 cM2 PM2 : Addr}
theorem pw_law_names (Z : Tx G T c0 c1 c2 c3 c4 c5 c6 c7 cS cL kPicker PL cM0 PM0 cM1 PM1 cM2 PM2) : Fd G.prog G.w G.K G.mg G.base "_law_names" 4 ["more", "many", "most"] (spW T RW_law_names) := by
  refine fd_W Z.d_law_names sc_law_namesW (by decide) (fun ds W Ω h => by obtain ⟨m, n, k, rfl, _⟩ := h; rfl) fun r F ds W Ω cd hr h => ?_
  have cx := cd.toCtx
  obtain ⟨more, many, most, rfl, h1, h2, h3, h4, rfl⟩ := h
  have b1 := Int.emod_nonneg more (show many + 1 ≠ 0 by omega)
  have b2 := Int.emod_lt_of_pos more (show 0 < many + 1 by omega)
  have b3 : (List.range (more % (many + 1)).toNat).length ≤ 100000 := by rw [List.length_range]; omega
  refine s_retW (g := 4) (w_new rfl (x_lc [("j", 3)] (List.range _) (fun (i : Nat) => PyData.int (i : Int)) _ _ _ cx (i_range1 cx Z.b_range (a_cons (x_op op_mod (od_iC (by first | decide | omega)) (x_var 0 cx rfl) (x_op op_add od_i0 (x_var 1 cx rfl) x_int)) a_nil) (by first | omega | decide | (simp; omega) | assumption) (by first | omega | decide | (simp; omega) | assumption)) (by first | omega | decide | (simp; omega) | assumption) (by decide +kernel) (fun s H C cl fp => g_nameB 3 (cx.blk s H _ C cl fp)) (fun x hx => tg_name) (wg_name (by decide)) (fun x hx s H C cl fp => ts_nil) (fun x hx hq s H C cl fp => (x_call (cx.blk s H _ C cl fp) (p_law_name Z) (hr.mono (by omega)) (a_cons (x_call (cx.blk s H _ C cl fp) (p_law_drawn Z) (hr.mono (by omega)) (a_cons (x_var 0 (cx.blk s H _ C cl fp) rfl) (a_cons (x_op op_add od_i0 x_int (x_var 3 (cx.blk s H _ C cl fp) rfl)) a_nil)) ⟨_, _, rfl, rfl⟩) (a_cons (x_var 2 (cx.blk s H _ C cl fp) rfl) a_nil)) ⟨_, _, rfl, by omega, by omega, rfl⟩)))) fun d W' h => ?_
  obtain ⟨q, hq, rfl, rfl⟩ := h
  refine ⟨_, rfl, q, hq, rfl, ?_⟩
  rw [filter_tt]
  unfold namesM
  rw [List.map_map]
  rfl
theorem p_law_fit (Z : Tx G T c0 c1 c2 c3 c4 c5 c6 c7 cS cL kPicker PL cM0 PM0 cM1 PM1 cM2 PM2) : Fd G.prog G.w G.K G.mg G.base "_law_fit" 8 ["own"] (spR T R_law_fit) := by
  refine fd_R Z.d_law_fit sc_law_fit (by decide) (fun ds W r h => by obtain ⟨qo, S, qa, qb, rfl, _⟩ := h; rfl) fun r F ds W res cd hr h => ?_
  have cx := cd.toCtx
  obtain ⟨qo, S, qa, qb, rfl, hq, hS, h7, rfl⟩ := h
  have hal := isAs_len hS.now.a
  have hll := hS.l
  exact s_ret (x_call cx (p_law_rows Z) (hr.mono (by omega)) (a_cons (x_wget 1 (hu1 hr) rfl hq (x_var 0 cx rfl) (x_txt kMarks) (show tx _ = keyD (kx _) from rfl) (own_marks S qa qb)) (a_cons (x_ix ix_tup (od_ixT (show atI _ 0 = some (tx S.now.1) from rfl)) (x_wget 1 (hu1 hr) rfl hq (x_var 0 cx rfl) (x_txt kNow) (show tx _ = keyD (kx _) from rfl) (own_now S qa qb)) x_int) (a_cons (x_wget 1 (hu1 hr) rfl hq (x_var 0 cx rfl) (x_txt kNames) (show tx _ = keyD (kx _) from rfl) (own_names S qa qb)) a_nil))) ⟨_, _, _, rfl, hS.M, by omega, fun l hl => ⟨hS.n l hl, h7 l hl⟩, by omega, rfl⟩) rfl
theorem p_law_stepped (Z : Tx G T c0 c1 c2 c3 c4 c5 c6 c7 cS cL kPicker PL cM0 PM0 cM1 PM1 cM2 PM2) : Fd G.prog G.w G.K G.mg G.base "_law_stepped" 10 ["own", "by"] (spR T R_law_stepped) := by
  refine fd_R Z.d_law_stepped sc_law_stepped (by decide) (fun ds W r h => by obtain ⟨qo, S, qa, qb, i, rfl, _⟩ := h; rfl) fun r F ds W res cd hr h => ?_
  have cx := cd.toCtx
  obtain ⟨qo, S, qa, qb, i, rfl, hq, hS, h7, rfl⟩ := h
  have hrl := rowsA_len S.M S.ls S.now.1
  have ht0 := hS.t0
  refine s_asg cd (x_is (x_wget 9 (hu1 hr) rfl hq (x_var 0 cx rfl) (x_txt kNow) (show tx _ = keyD (kx _) from rfl) (own_now S qa qb)) (show lnD S.now = .tuple [tx S.now.1, .int S.now.2.1, .int S.now.2.2.1, .list (S.now.2.2.2.map natI)] from rfl)) (pg_tup cx.calm (pgs_cons (g_name 2 cd) (pgs_cons (g_name 3 cd) (pgs_cons (g_name 4 cd) (pgs_cons (g_name 5 cd) pgs_nil))))) (tg_tup rfl (tg_cons tg_name (tg_cons tg_name (tg_cons tg_name (tg_cons tg_name tg_nil))))) ?_
  refine s_par (i := 6) (j := 7) cd (a_cons (x_is (x_bi cx call_len cd_lenL Z.b_len PySem.boot_len (a_cons (x_crd 9 cx (p_law_fit Z) (hr.mono (by omega)) rfl (a_cons (x_var 0 cx rfl) a_nil) ⟨_, S, qa, qb, rfl, hq, hS, h7, rfl⟩) a_nil)) (show PyData.int _ = .int (S.rows.length : Int) from by rw [List.length_map])) (a_cons (x_wget 9 (hu1 hr) rfl hq (x_var 0 cx rfl) (x_txt kTall) (show tx _ = keyD (kx _) from rfl) (own_tall S qa qb)) a_nil)) ?_
  refine s_set 8 cd (x_is (x_bi cx (call_min2 cx.calm) cd_min2 Z.b_min (by decide +kernel) (a_cons (x_op op_sub od_i0 (x_var 6 cx rfl) x_int) (a_cons (x_op op_add od_i0 (x_var 3 cx rfl) (x_var 1 cx rfl)) a_nil))) (show _ = PyData.int (mnI ((S.rows.length : Int) - 1) (S.now.2.1 + i)) from rfl)) ?_
  refine s_set 8 cd (x_if (d := .int (S.cur i)) (c_cmp op_gt od_b0 (x_var 8 cx rfl) x_int) (fun hb => x_is (x_var 8 cx rfl) (by unfold PSt.cur mxI; rw [if_pos (of_decide_eq_true hb)])) (fun hb => x_is x_int (by unfold PSt.cur mxI; rw [if_neg (of_decide_eq_false hb)]))) ?_
  obtain ⟨t1, et1⟩ : ∃ t1 : Int, t1 = if S.cur i < S.now.2.2.1 then S.cur i else S.now.2.2.1 := ⟨_, rfl⟩
  refine s_ifM (fun δ => δ = [.dat (ptrD qo), .dat (.int i), .dat (tx S.now.1), .dat (.int S.now.2.1), .dat (.int t1), .dat (.list (S.now.2.2.2.map natI)), .dat (.int (S.rows.length : Int)), .dat (.int S.tall), .dat (.int (S.cur i)), .wd true W]) (c_cmp op_lt od_b0 (x_var 8 cx rfl) (x_var 4 cx rfl)) (fun hc => ?_) (fun hc => ?_) fun δ' h => ?_
  · refine s_set 4 cd (x_var 8 cx rfl) (s_nil ?_)
    rw [et1, if_pos (of_decide_eq_true hc)]
    rfl
  · refine s_nil ?_
    rw [et1, if_neg (of_decide_eq_false hc)]
    rfl
  subst h
  refine s_while (fun m δ => ∃ t : Int, (t1 ≤ t ∧ (t = t1 ∨ t ≤ S.cur i - S.tall + 1) ∧ m = (S.cur i - t).toNat) ∧ δ = [.dat (ptrD qo), .dat (.int i), .dat (tx S.now.1), .dat (.int S.now.2.1), .dat (.int t), .dat (.list (S.now.2.2.2.map natI)), .dat (.int (S.rows.length : Int)), .dat (.int S.tall), .dat (.int (S.cur i)), .wd true W]) _ cd ⟨t1, ⟨Int.le_refl _, .inl rfl, rfl⟩, rfl⟩ ?_
  intro m δ' hI
  obtain ⟨t, ⟨ht1, ht2, rfl⟩, rfl⟩ := hI
  refine ⟨_, c_cmp op_ge od_b0 (x_var 8 cx rfl) (x_op op_add od_i0 (x_var 4 cx rfl) (x_var 7 cx rfl)), fun hc => ?_, fun hc => ?_⟩
  · have hc : S.cur i ≥ t + S.tall := of_decide_eq_true hc
    exact s_set 4 cd (x_op op_add od_i0 (x_var 4 cx rfl) x_int) (s_nil ⟨_, by omega, t + 1, ⟨by omega, .inr (by omega), rfl⟩, rfl⟩)
  · have hc : ¬ S.cur i ≥ t + S.tall := of_decide_eq_false hc
    refine s_ret (x_tup (a_cons (x_var 2 cx rfl) (a_cons (x_var 8 cx rfl) (a_cons (x_var 4 cx rfl) (a_cons (x_var 5 cx rfl) a_nil))))) ?_
    show Except.ok (lnD (S.stepped i)) = _
    rw [step_top ht0 et1 ht1 ht2 hc]
    rfl
theorem pw_law_back (Z : Tx G T c0 c1 c2 c3 c4 c5 c6 c7 cS cL kPicker PL cM0 PM0 cM1 PM1 cM2 PM2) : Fd G.prog G.w G.K G.mg G.base "_law_back" 18 ["picker", "own", "side"] (spW T (RW_law_back kPicker)) := by
  refine fd_LW Z.d_law_back sc_law_back (by decide) (fun ds W Ω h => by obtain ⟨J, p, S, o, a, b, qo, qa, qb, n, i, rfl, _⟩ := h; rfl) fun r F ds W Ω cd co hr h => ?_
  have cx := cd.toCtx
  obtain ⟨J, p, S, o, a, b, qo, qa, qb, n, i, rfl, hi, hP, hn, rfl⟩ := h
  obtain ⟨q1, q2, hj, _⟩ := hP.f.o
  have hz := hP.z
  have hlp := lay_lns hP.ok.past
  have hla := lay_lns hP.ok.ahead
  rcases hi with rfl | rfl
  · refine s_par (i := 3) (j := 4) cd (a_cons (x_ix ix_list (od_ixL (d := .tuple [tx kPast, tx kAhead]) (by rfl)) (x_lst (a_cons (x_tup (a_cons (x_txt kPast) (a_cons (x_txt kAhead) a_nil))) (a_cons (x_tup (a_cons (x_txt kAhead) (a_cons (x_txt kPast) a_nil))) a_nil))) (x_var 2 cx rfl)) (a_cons (x_txt [78, 111, 116, 104, 105, 110, 103]) a_nil)) ?_
    rcases List.eq_nil_or_concat S.past with he | ⟨l, s, he⟩
    · refine s_when (k := false) (c_is (c_wne (g := 5) hr.units rfl (mem_at hP.wa) hlp lay_emp (x_wget 5 (hu1 hr) rfl (mem_at hP.wo) (x_var 1 cx rfl) (x_ix ix_tup (od_ixT (d := tx kPast) (by rfl)) (x_var 3 cx rfl) x_int) (show tx _ = keyD (kx _) from rfl) (own_past S qa qb)) (x_lst a_nil)) (by rw [he]; rfl)) (fun hc => by cases hc) fun _ => ?_
      exact s_when (k := true) (c_is (c_cmp op_eq od_eqI (x_var 2 cx rfl) x_int) (by decide)) (fun _ => s_retS (x_is (x_cmp op_eq od_eqS (x_told (k := 12) (r := .error _) cx co (p_told Z) Z.tb_law_back Z.hm_law_back Z.hu_law_back (hr.mono (by omega)) (told_w (l := wNothing) Z.w_Nothing rfl rfl) (fun A outer s H E f c' cy ty hy => (x_mrdX0 5 ty Z.k_Picker.cl (px_Picker_undo Z) (hy.mono (by omega)) rfl (mem_at hj) (x_var 0 cy rfl) ⟨_, _, _, rfl, hP.f, hP.ok, he, rfl⟩))) (x_var 4 cx rfl)) (show PyData.bool _ = .bool true from congrArg PyData.bool (by decide))) ⟨_, rfl, rfl, S, hP, fun _ => by first | (rw [he]; rfl) | contradiction⟩) (fun hc => by cases hc)
    · have he : S.past = l ++ [s] := by rw [he]; simp
      refine s_when (k := true) (c_is (c_wne (g := 5) hr.units rfl (mem_at hP.wa) hlp lay_emp (x_wget 5 (hu1 hr) rfl (mem_at hP.wo) (x_var 1 cx rfl) (x_ix ix_tup (od_ixT (d := tx kPast) (by rfl)) (x_var 3 cx rfl) x_int) (show tx _ = keyD (kx _) from rfl) (own_past S qa qb)) (x_lst a_nil)) (by rw [he, lns_ne]; rfl)) (fun _ => ?_) (fun hc => by cases hc)
      refine s_set 4 cd x_none ?_
      refine s_exprW (g := 5) (x_wapp b rfl hP.wb (x_wget 5 (hu1 hr) rfl (mem_at hP.wo) (x_var 1 cx rfl) (x_ix ix_tup (od_ixT (d := tx kAhead) (by rfl)) (x_var 3 cx rfl) x_int) (show tx _ = keyD (kx _) from rfl) (own_ahead S qa qb)) (x_wget 5 (hu1 hr) rfl (mem_at hP.wo) (x_var 1 cx rfl) (x_txt kNow) (show tx _ = keyD (kx _) from rfl) (own_now S qa qb)) (by rw [List.length_map]; omega)) fun d1 W1 h1 => ?_
      obtain ⟨rfl, rfl⟩ := h1
      have wo1 := wset_ne (r := (qb, .lst (S.ahead.map lnD ++ [lnD S.now]))) hP.wo (fun z => hP.ob z.symm)
      have wx1 := wset_ne (r := (qb, .lst (S.ahead.map lnD ++ [lnD S.now]))) hP.wa (fun z => hP.ab z.symm)
      have wy1 := wset (r := (qb, .lst (S.ahead.map lnD ++ [lnD S.now]))) hP.wb
      rw [he, List.map_append] at wx1
      have hP1 := hP.f.keep (W' := W.set b (qb, .lst (S.ahead.map lnD ++ [lnD S.now]))) fun k hk z e => wset_ne e (j3_ne hP.jb hk)
      generalize W.set b (qb, .lst (S.ahead.map lnD ++ [lnD S.now])) = W1 at wo1 wx1 wy1 hP1 ⊢
      refine s_wputW (g := 5) (Ω := fun d W' => d = lnD s ∧ W' = W1.set a (qa, .lst (l.map lnD))) o cd (hu1 hr) (by show 5 < 6; decide) (x_wpop a rfl wx1 (x_wget 5 (hu1 hr) rfl (mem_at wo1) (x_var 1 cx rfl) (x_ix ix_tup (od_ixT (d := tx kPast) (by rfl)) (x_var 3 cx rfl) x_int) (show tx _ = keyD (kx _) from rfl) (own_past S qa qb))) (fun d W' h => x_var 1 cx rfl) (fun d W' h => x_txt kNow) (show tx _ = keyD (kx _) from rfl) (fun d W' h => by rw [h.2]; exact wset_ne wo1 (fun z => hP.oa z.symm)) (by show 6 < 100000; decide) fun d W' h => ?_
      obtain ⟨rfl, rfl⟩ := h
      rw [own_putN S qa qb s ({ S with now := s, past := l, ahead := S.ahead ++ [S.now] } : PSt).past ({ S with now := s, past := l, ahead := S.ahead ++ [S.now] } : PSt).ahead]
      have wo2 := wset (r := (qo, .dic (ownP { S with now := s, past := l, ahead := S.ahead ++ [S.now] } qa qb))) (wset_ne (r := (qa, .lst (l.map lnD))) wo1 (fun z => hP.oa z.symm))
      have wx2 := wset_ne (r := (qo, .dic (ownP { S with now := s, past := l, ahead := S.ahead ++ [S.now] } qa qb))) (wset (r := (qa, .lst (l.map lnD))) wx1) hP.oa
      have wy2 := wset_ne (r := (qo, .dic (ownP { S with now := s, past := l, ahead := S.ahead ++ [S.now] } qa qb))) (wset_ne (r := (qa, .lst (l.map lnD))) wy1 hP.ab) hP.ob
      have hP2 := hP1.keep (W' := (W1.set a (qa, .lst (l.map lnD))).set o (qo, .dic (ownP { S with now := s, past := l, ahead := S.ahead ++ [S.now] } qa qb))) fun k hk z e => wset_ne (wset_ne e (j3_ne hP.ja hk)) (j3_ne hP.jo hk)
      change PSs _ _ (sD F (List.set _ 5 (.wd false ((W1.set a (qa, .lst (l.map lnD))).set o (qo, .dic (ownP { S with now := s, past := l, ahead := S.ahead ++ [S.now] } qa qb))))) _)
      generalize (W1.set a (qa, .lst (l.map lnD))).set o (qo, .dic (ownP { S with now := s, past := l, ahead := S.ahead ++ [S.now] } qa qb)) = W2 at wo2 wx2 wy2 hP2 ⊢
      obtain ⟨q3, q4, hj2, _⟩ := hP2.o
      have hs := hP.ok.past s (by rw [he]; simp)
      have hS2 : okP { S with now := s, past := l, ahead := S.ahead ++ [S.now] } := ⟨hP.ok.M, hP.ok.l, hP.ok.n, hP.ok.t0, hP.ok.t1, hs, fun z hz => hP.ok.past z (by rw [he]; simp [hz]), fun z hz => (List.mem_append.mp hz).elim (hP.ok.ahead z) fun z' => by rw [List.mem_singleton.mp z']; exact hP.ok.now⟩
      have hZZ : S.past.length + S.ahead.length ≤ n := hP.z
      refine s_nil (s_when (k := true) (c_is (c_cmp op_eq od_eqI (x_var 2 cx rfl) x_int) (by decide)) (fun _ => s_retW (g := 5) (w_cmpL (op_eqD hr.units) (by show 5 < 6; decide) (od_is (od_eqD (lay_none (n := 1)) (lay_none (n := 1))) (show PyData.bool _ = .bool true from rfl)) (w_imp (x_toldW (g := 5) (k := 12) (Ω := fun r W' => ∃ d, r = .ok d ∧ (d = .none ∧ PkAt kPicker W' J p { S with now := s, past := l, ahead := S.ahead ++ [S.now] } ∧ Kps J W2 W')) cx co (p_told Z) Z.tb_law_back Z.hm_law_back Z.hu_law_back (hr.mono (by omega)) (fun _ => .none) (fun C W' h => by obtain ⟨d, z, _⟩ := h; cases z) (fun A outer s' H E f c' cy ty hy => r_ok (x_mwr0 5 Z.k_Picker.cl (pw_Picker_undo Z) (hy.mono (by omega)) rfl (mem_at hj2) (x_var 0 cy rfl) ⟨J, p, S, l, s, rfl, hP2, hP.ok, by omega, by omega, he, rfl⟩))) (Ω' := fun d W' => d = .none ∧ (PkAt kPicker W' J p { S with now := s, past := l, ahead := S.ahead ++ [S.now] } ∧ Kps J W2 W')) fun d W' h => by
        rcases h with ⟨d', e, h⟩ | ⟨C, ⟨d', e, _⟩, _⟩
        · cases e; exact h
        · cases e) (fun W' => x_var 4 cx rfl)) fun d W' h => ?_) (fun hc => by cases hc))
      obtain ⟨rfl, hP3, hk⟩ := h
      refine ⟨W', rfl, rfl, { S with now := s, past := l, ahead := S.ahead ++ [S.now] }, ⟨hP3, hS2, hP.tp s (by rw [he]; simp), fun z hz => hP.tp z (by rw [he]; simp [hz]), fun z hz => (List.mem_append.mp hz).elim (hP.ta z) fun z' => by rw [List.mem_singleton.mp z']; exact hP.tk, hP.n7, hk.k _ _ wo2 hP.jo.1 hP.jo.2.1 hP.jo.2.2, hk.k _ _ wx2 hP.ja.1 hP.ja.2.1 hP.ja.2.2, hk.k _ _ (by show W2[b]? = some (qb, .lst ((S.ahead ++ [S.now]).map lnD)); rw [List.map_append]; exact wy2) hP.jb.1 hP.jb.2.1 hP.jb.2.2, hP.oa, hP.ob, hP.ab, hP.jo, hP.ja, hP.jb, ?_, ?_⟩, ?_⟩
      · show l.length + (S.ahead ++ [S.now]).length ≤ n
        rw [he] at hZZ
        rw [List.length_append, List.length_singleton] at hZZ ⊢
        omega
      · show (l ++ [s]).head? = _
        have := hP.b0
        rw [he] at this
        cases l <;> exact this
      · intro _
        show l.length = S.past.length - 1
        rw [he, List.length_append, List.length_singleton]
        omega
  · refine s_par (i := 3) (j := 4) cd (a_cons (x_ix ix_list (od_ixL (d := .tuple [tx kAhead, tx kPast]) (by rfl)) (x_lst (a_cons (x_tup (a_cons (x_txt kPast) (a_cons (x_txt kAhead) a_nil))) (a_cons (x_tup (a_cons (x_txt kAhead) (a_cons (x_txt kPast) a_nil))) a_nil))) (x_var 2 cx rfl)) (a_cons (x_txt [78, 111, 116, 104, 105, 110, 103]) a_nil)) ?_
    rcases List.eq_nil_or_concat S.ahead with he | ⟨l, s, he⟩
    · refine s_when (k := false) (c_is (c_wne (g := 5) hr.units rfl (mem_at hP.wb) hla lay_emp (x_wget 5 (hu1 hr) rfl (mem_at hP.wo) (x_var 1 cx rfl) (x_ix ix_tup (od_ixT (d := tx kAhead) (by rfl)) (x_var 3 cx rfl) x_int) (show tx _ = keyD (kx _) from rfl) (own_ahead S qa qb)) (x_lst a_nil)) (by rw [he]; rfl)) (fun hc => by cases hc) fun _ => ?_
      exact s_when (k := false) (c_is (c_cmp op_eq od_eqI (x_var 2 cx rfl) x_int) (by decide)) (fun hc => by cases hc) (fun _ => s_retS (x_is (x_cmp op_eq od_eqS (x_told (k := 12) (r := .error _) cx co (p_told Z) Z.tb_law_back Z.hm_law_back Z.hu_law_back (hr.mono (by omega)) (told_w (l := wNothing) Z.w_Nothing rfl rfl) (fun A outer s H E f c' cy ty hy => (x_mrdX0 5 ty Z.k_Picker.cl (px_Picker_redo Z) (hy.mono (by omega)) rfl (mem_at hj) (x_var 0 cy rfl) ⟨_, _, _, rfl, hP.f, hP.ok, he, rfl⟩))) (x_var 4 cx rfl)) (show PyData.bool _ = .bool true from congrArg PyData.bool (by decide))) ⟨_, rfl, rfl, S, hP, fun z => by cases z⟩)
    · have he : S.ahead = l ++ [s] := by rw [he]; simp
      refine s_when (k := true) (c_is (c_wne (g := 5) hr.units rfl (mem_at hP.wb) hla lay_emp (x_wget 5 (hu1 hr) rfl (mem_at hP.wo) (x_var 1 cx rfl) (x_ix ix_tup (od_ixT (d := tx kAhead) (by rfl)) (x_var 3 cx rfl) x_int) (show tx _ = keyD (kx _) from rfl) (own_ahead S qa qb)) (x_lst a_nil)) (by rw [he, lns_ne]; rfl)) (fun _ => ?_) (fun hc => by cases hc)
      refine s_set 4 cd x_none ?_
      refine s_exprW (g := 5) (x_wapp a rfl hP.wa (x_wget 5 (hu1 hr) rfl (mem_at hP.wo) (x_var 1 cx rfl) (x_ix ix_tup (od_ixT (d := tx kPast) (by rfl)) (x_var 3 cx rfl) x_int) (show tx _ = keyD (kx _) from rfl) (own_past S qa qb)) (x_wget 5 (hu1 hr) rfl (mem_at hP.wo) (x_var 1 cx rfl) (x_txt kNow) (show tx _ = keyD (kx _) from rfl) (own_now S qa qb)) (by rw [List.length_map]; omega)) fun d1 W1 h1 => ?_
      obtain ⟨rfl, rfl⟩ := h1
      have wo1 := wset_ne (r := (qa, .lst (S.past.map lnD ++ [lnD S.now]))) hP.wo (fun z => hP.oa z.symm)
      have wx1 := wset_ne (r := (qa, .lst (S.past.map lnD ++ [lnD S.now]))) hP.wb hP.ab
      have wy1 := wset (r := (qa, .lst (S.past.map lnD ++ [lnD S.now]))) hP.wa
      rw [he, List.map_append] at wx1
      have hP1 := hP.f.keep (W' := W.set a (qa, .lst (S.past.map lnD ++ [lnD S.now]))) fun k hk z e => wset_ne e (j3_ne hP.ja hk)
      generalize W.set a (qa, .lst (S.past.map lnD ++ [lnD S.now])) = W1 at wo1 wx1 wy1 hP1 ⊢
      refine s_wputW (g := 5) (Ω := fun d W' => d = lnD s ∧ W' = W1.set b (qb, .lst (l.map lnD))) o cd (hu1 hr) (by show 5 < 6; decide) (x_wpop b rfl wx1 (x_wget 5 (hu1 hr) rfl (mem_at wo1) (x_var 1 cx rfl) (x_ix ix_tup (od_ixT (d := tx kAhead) (by rfl)) (x_var 3 cx rfl) x_int) (show tx _ = keyD (kx _) from rfl) (own_ahead S qa qb))) (fun d W' h => x_var 1 cx rfl) (fun d W' h => x_txt kNow) (show tx _ = keyD (kx _) from rfl) (fun d W' h => by rw [h.2]; exact wset_ne wo1 (fun z => hP.ob z.symm)) (by show 6 < 100000; decide) fun d W' h => ?_
      obtain ⟨rfl, rfl⟩ := h
      rw [own_putN S qa qb s ({ S with now := s, past := S.past ++ [S.now], ahead := l } : PSt).past ({ S with now := s, past := S.past ++ [S.now], ahead := l } : PSt).ahead]
      have wo2 := wset (r := (qo, .dic (ownP { S with now := s, past := S.past ++ [S.now], ahead := l } qa qb))) (wset_ne (r := (qb, .lst (l.map lnD))) wo1 (fun z => hP.ob z.symm))
      have wx2 := wset_ne (r := (qo, .dic (ownP { S with now := s, past := S.past ++ [S.now], ahead := l } qa qb))) (wset (r := (qb, .lst (l.map lnD))) wx1) hP.ob
      have wy2 := wset_ne (r := (qo, .dic (ownP { S with now := s, past := S.past ++ [S.now], ahead := l } qa qb))) (wset_ne (r := (qb, .lst (l.map lnD))) wy1 (fun z => hP.ab z.symm)) hP.oa
      have hP2 := hP1.keep (W' := (W1.set b (qb, .lst (l.map lnD))).set o (qo, .dic (ownP { S with now := s, past := S.past ++ [S.now], ahead := l } qa qb))) fun k hk z e => wset_ne (wset_ne e (j3_ne hP.jb hk)) (j3_ne hP.jo hk)
      change PSs _ _ (sD F (List.set _ 5 (.wd false ((W1.set b (qb, .lst (l.map lnD))).set o (qo, .dic (ownP { S with now := s, past := S.past ++ [S.now], ahead := l } qa qb))))) _)
      generalize (W1.set b (qb, .lst (l.map lnD))).set o (qo, .dic (ownP { S with now := s, past := S.past ++ [S.now], ahead := l } qa qb)) = W2 at wo2 wx2 wy2 hP2 ⊢
      obtain ⟨q3, q4, hj2, _⟩ := hP2.o
      have hs := hP.ok.ahead s (by rw [he]; simp)
      have hS2 : okP { S with now := s, past := S.past ++ [S.now], ahead := l } := ⟨hP.ok.M, hP.ok.l, hP.ok.n, hP.ok.t0, hP.ok.t1, hs, fun z hz => (List.mem_append.mp hz).elim (hP.ok.past z) fun z' => by rw [List.mem_singleton.mp z']; exact hP.ok.now, fun z hz => hP.ok.ahead z (by rw [he]; simp [hz])⟩
      have hZZ : S.past.length + S.ahead.length ≤ n := hP.z
      refine s_nil (s_when (k := false) (c_is (c_cmp op_eq od_eqI (x_var 2 cx rfl) x_int) (by decide)) (fun hc => by cases hc) (fun _ => s_retW (g := 5) (w_cmpL (op_eqD hr.units) (by show 5 < 6; decide) (od_is (od_eqD (lay_none (n := 1)) (lay_none (n := 1))) (show PyData.bool _ = .bool true from rfl)) (w_imp (x_toldW (g := 5) (k := 12) (Ω := fun r W' => ∃ d, r = .ok d ∧ (d = .none ∧ PkAt kPicker W' J p { S with now := s, past := S.past ++ [S.now], ahead := l } ∧ Kps J W2 W')) cx co (p_told Z) Z.tb_law_back Z.hm_law_back Z.hu_law_back (hr.mono (by omega)) (fun _ => .none) (fun C W' h => by obtain ⟨d, z, _⟩ := h; cases z) (fun A outer s' H E f c' cy ty hy => r_ok (x_mwr0 5 Z.k_Picker.cl (pw_Picker_redo Z) (hy.mono (by omega)) rfl (mem_at hj2) (x_var 0 cy rfl) ⟨J, p, S, l, s, rfl, hP2, hP.ok, by omega, by omega, he, rfl⟩))) (Ω' := fun d W' => d = .none ∧ (PkAt kPicker W' J p { S with now := s, past := S.past ++ [S.now], ahead := l } ∧ Kps J W2 W')) fun d W' h => by
        rcases h with ⟨d', e, h⟩ | ⟨C, ⟨d', e, _⟩, _⟩
        · cases e; exact h
        · cases e) (fun W' => x_var 4 cx rfl)) fun d W' h => ?_))
      obtain ⟨rfl, hP3, hk⟩ := h
      refine ⟨W', rfl, rfl, { S with now := s, past := S.past ++ [S.now], ahead := l }, ⟨hP3, hS2, hP.ta s (by rw [he]; simp), fun z hz => (List.mem_append.mp hz).elim (hP.tp z) fun z' => by rw [List.mem_singleton.mp z']; exact hP.tk, fun z hz => hP.ta z (by rw [he]; simp [hz]), hP.n7, hk.k _ _ wo2 hP.jo.1 hP.jo.2.1 hP.jo.2.2, hk.k _ _ (by show W2[a]? = some (qa, .lst ((S.past ++ [S.now]).map lnD)); rw [List.map_append]; exact wy2) hP.ja.1 hP.ja.2.1 hP.ja.2.2, hk.k _ _ wx2 hP.jb.1 hP.jb.2.1 hP.jb.2.2, hP.oa, hP.ob, hP.ab, hP.jo, hP.ja, hP.jb, ?_, ?_⟩, ?_⟩
      · show (S.past ++ [S.now]).length + l.length ≤ n
        rw [he] at hZZ
        rw [List.length_append, List.length_singleton] at hZZ ⊢
        omega
      · show ((S.past ++ [S.now]) ++ [s]).head? = _
        have := hP.b0
        rw [List.head?_append, this]
        rfl
      · intro z
        cases z
end
end K95
set_option Elab.async false
set_option linter.all false
set_option maxRecDepth 100000
set_option maxHeartbeats 1000000
namespace Lf
open PySem PySem.Spec PyProof.Rows L2 LamX
def RW_law_picker_step (C : Addr) (ds : List PyData) (W : Wd) (Ω : PyData → Wd → Prop) : Prop := ∃ J p S, ∃ (o a b : Nat), ∃ qo qa qb, ∃ (n : Nat), ∃ (m : Int), ds = [ptrD p, ptrD qo, .int m] ∧ P9 C W J p S o a b qo qa qb n ∧ n ≤ 1000 ∧ Ω = fun d W' => d = .bool true ∧ ∃ J' S', P9 C W' J' p S' o a b qo qa qb (n + 1)
theorem P9.more {C : Addr} {W : Wd} {J : J3} {p : Addr} {S : PSt} {o a b : Nat} {qo qa qb : Addr} {n : Nat} (h : P9 C W J p S o a b qo qa qb n) : P9 C W J p S o a b qo qa qb (n + 1) := { h with z := Nat.le_trans h.z (Nat.le_succ _) }
/-- a deed is done, the law's own has it too -/
theorem P9.did {C : Addr} {W W1 : Wd} {J : J3} {p : Addr} {S : PSt} {o a b : Nat} {qo qa qb : Addr} {n : Nat} {s : Nw} (h : P9 C W J p S o a b qo qa qb n) (f : PkAt C W1 (J.1, J.2.1, W.length) p (S.did s)) (k : Kps J W W1) (ok : okP (S.did s)) (tk : tkN S.tall s) :
    P9 C (((W1.set a (qa, .lst (S.past.map lnD ++ [lnD S.now]))).set b (qb, .lst [])).set o (qo, .dic (ownP (S.did s) qa qb))) (J.1, J.2.1, W.length) p (S.did s) o a b qo qa qb (n + 1) := by
  have wo1 := k.k _ _ h.wo h.jo.1 h.jo.2.1 h.jo.2.2
  have wa1 := k.k _ _ h.wa h.ja.1 h.ja.2.1 h.ja.2.2
  have wb1 := k.k _ _ h.wb h.jb.1 h.jb.2.1 h.jb.2.2
  have lo := wlt h.wo
  have la := wlt h.wa
  have lb := wlt h.wb
  have jo : o ≠ J.1 ∧ o ≠ J.2.1 ∧ o ≠ W.length := ⟨h.jo.1, h.jo.2.1, by omega⟩
  have ja : a ≠ J.1 ∧ a ≠ J.2.1 ∧ a ≠ W.length := ⟨h.ja.1, h.ja.2.1, by omega⟩
  have jb : b ≠ J.1 ∧ b ≠ J.2.1 ∧ b ≠ W.length := ⟨h.jb.1, h.jb.2.1, by omega⟩
  refine ⟨f.keep fun i hi x e => wset_ne (wset_ne (wset_ne e (j3_ne ja hi)) (j3_ne jb hi)) (j3_ne jo hi), ok, tk, fun z hz => (List.mem_append.mp hz).elim (h.tp z) fun z' => by rw [List.mem_singleton.mp z']; exact h.tk, (fun z hz => by cases hz), h.n7, wset (wset_ne (wset_ne wo1 (fun z => h.oa z.symm)) (fun z => h.ob z.symm)), ?_, wset_ne (wset (wset_ne wb1 h.ab)) h.ob, h.oa, h.ob, h.ab, jo, ja, jb, ?_, ?_⟩
  · have := wset_ne (r := (qo, MO.dic (ownP (S.did s) qa qb))) (wset_ne (r := (qb, MO.lst [])) (wset (r := (qa, MO.lst (S.past.map lnD ++ [lnD S.now]))) wa1) (fun z => h.ab z.symm)) h.oa
    rw [this]
    show some (qa, MO.lst _) = some (qa, MO.lst ((S.past ++ [S.now]).map lnD))
    rw [List.map_append]
    rfl
  · have := h.z
    show (S.past ++ [S.now]).length + 0 ≤ n + 1
    rw [List.length_append, List.length_singleton]
    omega
  · have := h.b0
    show ((S.past ++ [S.now]) ++ [s]).head? = _
    rw [List.head?_append, this]
    rfl
theorem tk_zero {tall : Int} (h : 1 ≤ tall) (a : List Nat) (l : List Nat) : tkN tall (a, 0, 0, l) := ⟨Int.le_refl _, by show (0 : Int) < 0 + tall; omega⟩
theorem tk_step {S : PSt} (h : 1 ≤ S.tall) (i : Int) : tkN S.tall (S.stepped i) := by
  unfold PSt.stepped tkN mnI mxI
  simp only
  repeat' split
  all_goals omega
theorem at_sev (m : Int) : ∃ i : Int, atI [PyData.int 1, .int (-1), .int 2, .int 5, .int (-4), .int 60, .int (-60)] (m % 7) = some (.int i) ∧ -60 ≤ i ∧ i ≤ 60 := by
  have h1 := Int.emod_nonneg m (show (7 : Int) ≠ 0 by decide)
  have h2 := Int.emod_lt_of_pos m (show (0 : Int) < 7 by decide)
  obtain ⟨k, hk⟩ : ∃ k : Nat, m % 7 = (k : Int) := ⟨(m % 7).toNat, by omega⟩
  rw [hk]
  have : k = 0 ∨ k = 1 ∨ k = 2 ∨ k = 3 ∨ k = 4 ∨ k = 5 ∨ k = 6 := by omega
  rcases this with rfl | rfl | rfl | rfl | rfl | rfl | rfl
  · exact ⟨1, rfl, by decide, by decide⟩
  · exact ⟨-1, rfl, by decide, by decide⟩
  · exact ⟨2, rfl, by decide, by decide⟩
  · exact ⟨5, rfl, by decide, by decide⟩
  · exact ⟨-4, rfl, by decide, by decide⟩
  · exact ⟨60, rfl, by decide, by decide⟩
  · exact ⟨-60, rfl, by decide, by decide⟩
theorem at_sixP (m : Int) : ∃ c, atI [97, 98, 99, 49, 66, 95] (m % 6) = some c ∧ (c = 95 ∨ isAs [c] = true) := by
  refine ⟨_, at_rem (l := [97, 98, 99, 49, 66, 95]) rfl (by decide), ?_⟩
  have h1 := Int.emod_nonneg m (show (6 : Int) ≠ 0 by decide)
  have h2 := Int.emod_lt_of_pos m (show (0 : Int) < 6 by decide)
  have : (m % 6).toNat < 6 := by omega
  generalize (m % 6).toNat = k at this
  exact (show ∀ k, k < 6 → ([97, 98, 99, 49, 66, 95].getD k 0 = 95 ∨ isAs [[97, 98, 99, 49, 66, 95].getD k 0] = true) by decide) k this
theorem bad_signP {a : List Nat} {c : Nat} (h : c = 95 ∨ a.length = 8) : badSign a (tx [c]) = true := by
  unfold badSign
  rw [show isAs (a ++ cod (tx [c])) = false from by
    rw [cod_tx]
    unfold isAs
    rcases h with rfl | h
    · simp only [List.all_append, Bool.and_eq_false_iff]
      exact .inr (.inr (by decide))
    · rw [List.length_append, List.length_singleton, h]
      rfl]
  simp
theorem isAs_moreP {a : List Nat} {c : Nat} (h : isAs a = true) (hl : a.length < 8) (hc : isAs [c] = true) : isAs (a ++ [c]) = true := by
  unfold isAs at h hc ⊢
  simp only [Bool.and_eq_true, List.all_eq_true, decide_eq_true_eq] at h hc ⊢
  refine ⟨by rw [List.length_append, List.length_singleton]; omega, fun x hx => ?_⟩
  rcases List.mem_append.mp hx with z | z
  · exact h.2 x z
  · exact hc.2 x z
theorem rep_lo (k : Bool) : -(2 ^ 63) ≤ (if k = true then (1 : Int) else 0) := by cases k <;> decide
theorem rep_hi (k : Bool) : (if k = true then (1 : Int) else 0) < 2 ^ 63 := by cases k <;> decide
theorem rep_sz (k : Bool) (d : PyData) : [d].length * (if k = true then (1 : Int) else 0).toNat ≤ sizeLine := by
  have : 100000 ≤ sizeLine := by decide
  cases k
  · show 1 * 0 ≤ _
    omega
  · show 1 * 1 ≤ _
    omega
theorem cat_sz {l : List Nat} {q : Nat → Bool} {f : Nat → PyData} {k : Bool} {d : PyData} (h : l.length ≤ 60) : ((l.filter q).map f).length + (List.replicate (if k = true then (1 : Int) else 0).toNat [d]).flatten.length ≤ sizeLine := by
  have h1 : 100000 ≤ sizeLine := by decide
  have h2 := List.length_filter_le q l
  rw [List.length_map]
  cases k
  · show _ + 0 ≤ _
    omega
  · show _ + 1 ≤ _
    omega
/-- the law's own marking -/
theorem mark_ln (l : List Nat) (x : Nat) : (l.filter fun (y : Nat) => !decide ((y : Int) = (x : Int))).map natI ++ (List.replicate (if (!(l.map natI).any fun z => PyData.eqv z (natI x)) = true then (1 : Int) else 0).toNat [natI x]).flatten = (mark1 l x).map natI := by
  rw [any_natI, show (l.filter fun (y : Nat) => !decide ((y : Int) = (x : Int))) = l.filter fun y => !decide (y = x) from List.filter_congr fun y _ => by
    by_cases h : y = x
    · simp [h]
    · rw [decide_eq_false h, decide_eq_false (by omega)]]
  unfold mark1
  by_cases h : x ∈ l
  · rw [if_pos h, decide_eq_true h]
    simp
  · rw [if_neg h, decide_eq_false h]
    have : (l.filter fun y => !decide (y = x)) = l := List.filter_eq_self.mpr fun y hy => by
      have : y ≠ x := fun z => h (by rw [← z]; exact hy)
      simp [this]
    rw [this, List.map_append]
    simp
theorem row_cur {S : PSt} (h : okP S) {x : Nat} (e : S.at_ = some x) : ∃ ds, atI (S.rows.map rkT) S.now.2.1 = some (.tuple (natI x :: ds)) := by
  obtain ⟨_, q, hq⟩ := at_lt h e
  refine ⟨[.int q.1, rowD q.2], ?_⟩
  rw [show S.now.2.1 = ((S.now.2.1.toNat : Nat) : Int) from (Int.toNat_of_nonneg h.now.c0).symm]
  refine atI_nat ?_
  rw [List.getElem?_map, hq]
  rfl
theorem at_some {S : PSt} (h : S.rows ≠ []) : ∃ x, S.at_ = some x := by
  unfold PSt.at_
  rw [if_neg h]
  exact ⟨_, rfl⟩
theorem rkT_ne {S : PSt} (h : S.rows ≠ []) : PyData.eqv (.list (S.rows.map rkT)) (.list []) = false := by
  cases e : S.rows with
  | nil => exact absurd e h
  | cons b l => simp [PyData.eqv, PyData.eqvAll]
theorem rkT_lay (S : PSt) (h : okP S) : Lay 3 (.list (S.rows.map rkT)) := lay_list (n := 2) fun d hd => by
  obtain ⟨b, hb, rfl⟩ := List.mem_map.mp hd
  obtain ⟨i, q, _, rfl⟩ := row_num hb
  refine lay_tuple (n := 1) fun d hd => ?_
  simp only [List.mem_cons, List.not_mem_nil, or_false] at hd
  rcases hd with rfl | rfl | rfl
  · exact lay_int
  · exact lay_int
  · exact lay_nats
end Lf
set_option Elab.async false
set_option linter.all false
set_option maxRecDepth 100000
set_option maxHeartbeats 40000000
namespace K95
open PySem PySem.Spec PyProof.Rows L2 LamX Lf
section
variable {G : Pg} {T : List (Addr × Str)} {c0 c1 c2 c3 c4 c5 c6 c7 cS cL kPicker PL cM0 PM0 cM1 PM1 cM2 PM2 : Addr}
theorem pw_law_picker_step (Z : Tx G T c0 c1 c2 c3 c4 c5 c6 c7 cS cL kPicker PL cM0 PM0 cM1 PM1 cM2 PM2) : Fd G.prog G.w G.K G.mg G.base "_law_picker_step" 22 ["picker", "own", "here"] (spW T (RW_law_picker_step kPicker)) := by
  refine fd_LW Z.d_law_picker_step sc_law_picker_step (by decide) (fun ds W Ω h => by obtain ⟨J, p, S, o, a, b, qo, qa, qb, n, m, rfl, _⟩ := h; rfl) fun r F ds W Ω cd co hr h => ?_
  have cx := cd.toCtx
  obtain ⟨J, p, S, o, a, b, qo, qa, qb, n, m, rfl, hP, hn, rfl⟩ := h
  obtain ⟨q1, q2, hj, _⟩ := hP.f.o
  have hz := hP.z
  have hS := hP.ok
  have hal := isAs_len hS.now.a
  have hsl := hS.now.some_le
  have hll := hS.l
  have hSz : 100000 ≤ sizeLine := by decide
  refine s_asg cd (x_is (x_wget 16 (hu1 hr) rfl (mem_at hP.wo) (x_var 1 cx rfl) (x_txt kNow) (show tx _ = keyD (kx _) from rfl) (own_now S qa qb)) (show lnD S.now = .tuple [tx S.now.1, .int S.now.2.1, .int S.now.2.2.1, .list (S.now.2.2.2.map natI)] from rfl)) (pg_tup cx.calm (pgs_cons (g_name 3 cd) (pgs_cons (g_name 4 cd) (pgs_cons (g_name 5 cd) (pgs_cons (g_name 6 cd) pgs_nil))))) (tg_tup rfl (tg_cons tg_name (tg_cons tg_name (tg_cons tg_name (tg_cons tg_name tg_nil))))) ?_
  refine s_par3 7 8 9 cd (a_cons (x_op op_mod (od_iC (by decide)) (x_var 2 cx rfl) x_int) (a_cons x_none (a_cons x_none a_nil))) ?_
  obtain ⟨M, eM⟩ : ∃ M : List Slot → Prop, M = fun δ => (∃ s' W1 s7 s10 s12 s13 s14 s15, (PkAt kPicker W1 (J.1, J.2.1, W.length) p (S.did s') ∧ Kps J W W1 ∧ okP (S.did s') ∧ tkN S.tall s') ∧ δ = [.dat (ptrD p), .dat (ptrD qo), .dat (.int m), .dat (tx S.now.1), .dat (.int S.now.2.1), .dat (.int S.now.2.2.1), .dat (.list (S.now.2.2.2.map natI)), s7, .dat .none, .dat (lnD s'), s10, .dat .none, s12, s13, s14, s15, .wd false W1]) ∨ (∃ w s7 s9 s10 s12 s13 s14 s15, δ = [.dat (ptrD p), .dat (ptrD qo), .dat (.int m), .dat (tx S.now.1), .dat (.int S.now.2.1), .dat (.int S.now.2.2.1), .dat (.list (S.now.2.2.2.map natI)), s7, .dat (tx w), s9, s10, .dat (tx w), s12, s13, s14, s15, .wd false W]) := ⟨_, rfl⟩
  refine s_ifM M (c_cmp op_lt od_b0 (x_var 7 cx rfl) x_int) (fun _ => ?_) (fun _ => s_ifM M (c_cmp op_lt od_b0 (x_var 7 cx rfl) x_int) (fun _ => ?_) (fun _ => s_ifM M (c_cmp op_lt od_b0 (x_var 7 cx rfl) x_int) (fun _ => ?_) (fun _ => s_ifM M (c_cmp op_lt od_b0 (x_var 7 cx rfl) x_int) (fun _ => ?_) (fun _ => ?_) fun δ' h => s_nil h) fun δ' h => s_nil h) fun δ' h => s_nil h) fun δ' h => ?_
  · subst eM
    obtain ⟨c, ec, hc⟩ := at_sixP (m / 64)
    refine s_set 10 cd (x_ix ix_str (od_ixS (by decide) ec) (x_txt [97, 98, 99, 49, 66, 95]) (x_op op_mod (od_iC (by decide)) (x_op op_fdivW (od_iC (div_sm (by decide) (by decide))) (x_var 2 cx rfl) x_int) x_int)) ?_
    by_cases hb : c = 95 ∨ S.now.1.length = 8
    · have hk : (decide ([c] = [95]) || decide ((S.now.1.length : Int) = 8)) = true := by
        rcases hb with rfl | hb
        · rfl
        · rw [hb]; simp
      refine s_set 8 cd (x_if (d := tx wBadAsk) (c_is (k' := true) (PW.pt (w_or (c_cmp op_eq od_eqS (x_var 10 cx rfl) (x_txt [95])) fun hb => (w_one (c_cmp op_eq od_eqI (x_bi cx call_len (cd_lenS (by omega)) Z.b_len PySem.boot_len (a_cons (x_var 3 cx rfl) a_nil)) x_int)))) hk) (fun _ => x_is (x_txt [66, 97, 100, 65, 115, 107]) rfl) (fun h => by cases h)) ?_
      show PSs _ _ (sD F [_, _, _, _, _, _, _, _, _, _, _, _, _, _, _, _, _] _)
      refine s_set 9 cd (x_tup (a_cons (x_op op_add_str (od_catS (by rw [List.length_singleton]; omega)) (x_var 3 cx rfl) (x_var 10 cx rfl)) (a_cons x_int (a_cons x_int (a_cons (x_var 6 cx rfl) a_nil))))) ?_
      show PSs _ _ (sD F [_, _, _, _, _, _, _, _, _, _, _, _, _, _, _, _, _] _)
      refine s_set 11 cd (x_told (k := 12) (r := .error _) cx co (p_told Z) Z.tb_law_picker_step Z.hm_law_picker_step Z.hu_law_picker_step (hr.mono (by omega)) (told_w (l := wBadAsk) Z.w_BadAsk rfl rfl) (fun A outer s H E f c' cy ty hy => (x_mrdX 16 ty Z.k_Picker.cl (px_Picker_press Z) (hy.mono (by omega)) rfl (mem_at hj) (x_var 0 cy rfl) (a_cons (x_var 10 cy rfl) a_nil) ⟨_, _, _, _, rfl, hP.f, hS, okd_tx (by show 1 ≤ _; decide), bad_signP hb, rfl⟩))) ?_
      exact s_nil (.inr ⟨_, _, _, _, _, _, _, _, rfl⟩)
    · have hc : isAs [c] = true := hc.elim (fun z => absurd (.inl z) hb) id
      have h8 : S.now.1.length < 8 := by
        have : ¬ S.now.1.length = 8 := fun z => hb (.inr z)
        omega
      have hs0 := isAs_moreP hS.now.a h8 hc
      have hk : (decide ([c] = [95]) || decide ((S.now.1.length : Int) = 8)) = false := by
        rw [decide_eq_false (fun z => hb (.inl (by simpa using z))), decide_eq_false (by omega)]
        rfl
      refine s_set 8 cd (x_if (d := .none) (c_is (k' := false) (PW.pt (w_or (c_cmp op_eq od_eqS (x_var 10 cx rfl) (x_txt [95])) fun hb => (w_one (c_cmp op_eq od_eqI (x_bi cx call_len (cd_lenS (by omega)) Z.b_len PySem.boot_len (a_cons (x_var 3 cx rfl) a_nil)) x_int)))) hk) (fun h => by cases h) (fun _ => x_none)) ?_
      show PSs _ _ (sD F [_, _, _, _, _, _, _, _, _, _, _, _, _, _, _, _, _] _)
      refine s_set 9 cd (x_is (x_tup (a_cons (x_op op_add_str (od_catS (by rw [List.length_singleton]; omega)) (x_var 3 cx rfl) (x_var 10 cx rfl)) (a_cons x_int (a_cons x_int (a_cons (x_var 6 cx rfl) a_nil))))) (show _ = lnD (S.pressed c) from rfl)) ?_
      show PSs _ _ (sD F [_, _, _, _, _, _, _, _, _, _, _, _, _, _, _, _, _] _)
      refine s_setW (g := 16) 11 cd (w_imp (x_toldW (k := 12) (Ω := fun r W' => ∃ d, r = .ok d ∧ (d = .none ∧ PkAt kPicker W' (J.1, J.2.1, W.length) p (S.did (S.pressed c)) ∧ Kps J W W')) cx co (p_told Z) Z.tb_law_picker_step Z.hm_law_picker_step Z.hu_law_picker_step (hr.mono (by omega)) (fun _ => .none) (fun C W' h => by obtain ⟨d, z, _⟩ := h; cases z) (fun A outer s H E f c' cy ty hy => r_ok (x_mwr 16 Z.k_Picker.cl (pw_Picker_press Z) (hy.mono (by omega)) rfl (mem_at hj) (x_var 0 cy rfl) (a_cons (x_var 10 cy rfl) a_nil) ⟨_, _, _, _, rfl, hP.f, hS, by omega, hs0, rfl⟩))) (Ω' := fun d W' => d = .none ∧ PkAt kPicker W' (J.1, J.2.1, W.length) p (S.did (S.pressed c)) ∧ Kps J W W') fun d W' h => by
        rcases h with ⟨d', e, h⟩ | ⟨C, ⟨d', e, _⟩, _⟩
        · cases e; exact h
        · cases e) fun d1 W1 h1 => ?_
      obtain ⟨rfl, hP1, hk1⟩ := h1
      exact s_nil (.inl ⟨S.pressed c, W1, _, _, _, _, _, _, ⟨hP1, hk1, hS.pressed hs0, tk_zero hS.t0 _ _⟩, rfl⟩)
  · subst eM
    by_cases hb : S.now.1 = []
    · refine s_set 8 cd (x_if (d := tx wNothing) (c_is (k' := true) (c_cmp op_eq od_eqS (x_var 3 cx rfl) (x_txt [])) (decide_eq_true hb)) (fun _ => x_is (x_txt [78, 111, 116, 104, 105, 110, 103]) rfl) (fun h => by cases h)) ?_
      show PSs _ _ (sD F [_, _, _, _, _, _, _, _, _, _, _, _, _, _, _, _, _] _)
      refine s_set 9 cd (x_tup (a_cons (x_sl sl_str (sd_str (by omega)) (x_var 3 cx rfl) o_none (o_some (x_un un_neg ud_neg x_int))) (a_cons x_int (a_cons x_int (a_cons (x_var 6 cx rfl) a_nil))))) ?_
      show PSs _ _ (sD F [_, _, _, _, _, _, _, _, _, _, _, _, _, _, _, _, _] _)
      refine s_set 11 cd (x_told (k := 12) (r := .error _) cx co (p_told Z) Z.tb_law_picker_step Z.hm_law_picker_step Z.hu_law_picker_step (hr.mono (by omega)) (told_w (l := wNothing) Z.w_Nothing rfl rfl) (fun A outer s H E f c' cy ty hy => (x_mrdX0 16 ty Z.k_Picker.cl (px_Picker_rub Z) (hy.mono (by omega)) rfl (mem_at hj) (x_var 0 cy rfl) ⟨_, _, _, rfl, hP.f, hS, hb, rfl⟩))) ?_
      exact s_nil (.inr ⟨_, _, _, _, _, _, _, _, rfl⟩)
    · refine s_set 8 cd (x_if (d := .none) (c_is (k' := false) (c_cmp op_eq od_eqS (x_var 3 cx rfl) (x_txt [])) (decide_eq_false hb)) (fun h => by cases h) (fun _ => x_none)) ?_
      show PSs _ _ (sD F [_, _, _, _, _, _, _, _, _, _, _, _, _, _, _, _, _] _)
      refine s_set 9 cd (x_is (x_tup (a_cons (x_sl sl_str (sd_str (by omega)) (x_var 3 cx rfl) o_none (o_some (x_un un_neg ud_neg x_int))) (a_cons x_int (a_cons x_int (a_cons (x_var 6 cx rfl) a_nil))))) (show _ = lnD S.rubbed from by rw [show (-1 : Int) = -1 from rfl, cut_init]; rfl)) ?_
      show PSs _ _ (sD F [_, _, _, _, _, _, _, _, _, _, _, _, _, _, _, _, _] _)
      refine s_setW (g := 16) 11 cd (w_imp (x_toldW (k := 12) (Ω := fun r W' => ∃ d, r = .ok d ∧ (d = .none ∧ PkAt kPicker W' (J.1, J.2.1, W.length) p (S.did S.rubbed) ∧ Kps J W W')) cx co (p_told Z) Z.tb_law_picker_step Z.hm_law_picker_step Z.hu_law_picker_step (hr.mono (by omega)) (fun _ => .none) (fun C W' h => by obtain ⟨d, z, _⟩ := h; cases z) (fun A outer s H E f c' cy ty hy => r_ok (x_mwr0 16 Z.k_Picker.cl (pw_Picker_rub Z) (hy.mono (by omega)) rfl (mem_at hj) (x_var 0 cy rfl) ⟨_, _, _, rfl, hP.f, hS, by omega, hb, rfl⟩))) (Ω' := fun d W' => d = .none ∧ PkAt kPicker W' (J.1, J.2.1, W.length) p (S.did S.rubbed) ∧ Kps J W W') fun d W' h => by
        rcases h with ⟨d', e, h⟩ | ⟨C, ⟨d', e, _⟩, _⟩
        · cases e; exact h
        · cases e) fun d1 W1 h1 => ?_
      obtain ⟨rfl, hP1, hk1⟩ := h1
      exact s_nil (.inl ⟨S.rubbed, W1, _, _, _, _, _, _, ⟨hP1, hk1, hS.rubbed, tk_zero hS.t0 _ _⟩, rfl⟩)
  · subst eM
    obtain ⟨i, ei, hi0, hi1⟩ := at_sev (m / 64)
    refine s_set 12 cd (x_ix ix_list (od_ixL (d := .int i) ei) (x_lst (a_cons x_int (a_cons (x_un un_neg ud_neg x_int) (a_cons x_int (a_cons x_int (a_cons (x_un un_neg ud_neg x_int) (a_cons x_int (a_cons (x_un un_neg ud_neg x_int) a_nil)))))))) (x_op op_mod (od_iC (by decide)) (x_op op_fdivW (od_iC (div_sm (by decide) (by decide))) (x_var 2 cx rfl) x_int) x_int)) ?_
    show PSs _ _ (sD F [_, _, _, _, _, _, _, _, _, _, _, _, _, _, _, _, _] _)
    refine s_set 9 cd (x_crd 16 cx (p_law_stepped Z) (hr.mono (by omega)) rfl (a_cons (x_var 1 cx rfl) (a_cons (x_var 12 cx rfl) a_nil)) ⟨_, S, qa, qb, i, rfl, mem_at hP.wo, hS, hP.n7, rfl⟩) ?_
    show PSs _ _ (sD F [_, _, _, _, _, _, _, _, _, _, _, _, _, _, _, _, _] _)
    refine s_setW (g := 16) 11 cd (w_imp (x_toldW (k := 12) (Ω := fun r W' => ∃ d, r = .ok d ∧ (d = .none ∧ PkAt kPicker W' (J.1, J.2.1, W.length) p (S.did (S.stepped i)) ∧ Kps J W W')) cx co (p_told Z) Z.tb_law_picker_step Z.hm_law_picker_step Z.hu_law_picker_step (hr.mono (by omega)) (fun _ => .none) (fun C W' h => by obtain ⟨d, z, _⟩ := h; cases z) (fun A outer s H E f c' cy ty hy => r_ok (x_mwr 16 Z.k_Picker.cl (pw_Picker_step Z) (hy.mono (by omega)) rfl (mem_at hj) (x_var 0 cy rfl) (a_cons (x_var 12 cy rfl) a_nil) ⟨_, _, _, _, rfl, hP.f, hS, by omega, hi0, hi1, rfl⟩))) (Ω' := fun d W' => d = .none ∧ PkAt kPicker W' (J.1, J.2.1, W.length) p (S.did (S.stepped i)) ∧ Kps J W W') fun d W' h => by
        rcases h with ⟨d', e, h⟩ | ⟨C, ⟨d', e, _⟩, _⟩
        · cases e; exact h
        · cases e) fun d1 W1 h1 => ?_
    obtain ⟨rfl, hP1, hk1⟩ := h1
    exact s_nil (.inl ⟨S.stepped i, W1, _, _, _, _, _, _, ⟨hP1, hk1, hS.stepped i, tk_step hS.t0 i⟩, rfl⟩)
  · subst eM
    show PSs _ _ (sD F [_, _, _, _, _, _, _, _, _, _, _, _, _, _, _, _, _] _)
    refine s_set 13 cd (x_crd 16 cx (p_law_fit Z) (hr.mono (by omega)) rfl (a_cons (x_var 1 cx rfl) a_nil) ⟨_, S, qa, qb, rfl, mem_at hP.wo, hS, hP.n7, rfl⟩) ?_
    have hrL := rkT_lay S hS
    have h60 : S.now.2.2.2.length ≤ 60 := by omega
    by_cases hb : S.rows = []
    · refine s_set 8 cd (x_if (d := tx wNoName) (c_is (k' := true) (c_cmp (op_eqD hr.units) (od_eqD hrL lay_emp) (x_var 13 cx rfl) (x_lst a_nil)) (by rw [hb]; rfl)) (fun _ => x_is (x_txt [78, 111, 78, 97, 109, 101]) rfl) (fun h => by cases h)) ?_
      show PSs _ _ (sD F [_, _, _, _, _, _, _, _, _, _, _, _, _, _, _, _, _] _)
      refine s_set 14 cd (x_if (d := .none) (c_is (k' := false) (c_cmp (op_neD hr.units) (od_neD hrL lay_emp) (x_var 13 cx rfl) (x_lst a_nil)) (by rw [hb]; rfl)) (fun h => by cases h) (fun _ => x_none)) ?_
      show PSs _ _ (sD F [_, _, _, _, _, _, _, _, _, _, _, _, _, _, _, _, _] _)
      refine s_set 9 cd (x_tup (a_cons (x_var 3 cx rfl) (a_cons (x_var 4 cx rfl) (a_cons (x_var 5 cx rfl) (a_cons (x_op op_cat (od_catL (by exact cat_sz h60)) (x_dl (x_lc [("one", 15)] S.now.2.2.2 natI natI (fun (y : Nat) => !PyData.eqv (natI y) .none) _ cx (i_list (x_var 6 cx rfl)) (Nat.le_trans h60 (by decide)) (by decide +kernel) (fun s H C cl fp => g_nameB 15 (cx.blk s H _ C cl fp)) (fun x hx => tg_name) (wg_name (by decide)) (fun x hx s H C cl fp => ts_one (c_cmp (op_neD hr.units) (od_neD (lay_int (n := 1)) (lay_none (n := 1))) (x_var 15 (cx.blk s H _ C cl fp) rfl) (x_var 14 (cx.blk s H _ C cl fp) rfl))) (fun x hx hq s H C cl fp => (x_var 15 (cx.blk s H _ C cl fp) rfl)))) (x_op op_rep (od_repL (by exact rep_lo _) (by exact rep_hi _) (by exact rep_sz _ _)) (x_lst (a_cons (x_var 14 cx rfl) a_nil)) (x_ty cx call_int1 cd_intB Z.b_int (by decide +kernel) (a_cons (x_cmp (op_notInD (hu65 hr)) (od_ninD (lay_none (n := 1)) lay_nats) (x_var 14 cx rfl) (x_var 6 cx rfl)) a_nil)))) a_nil))))) ?_
      show PSs _ _ (sD F [_, _, _, _, _, _, _, _, _, _, _, _, _, _, _, _, _] _)
      refine s_set 11 cd (x_told (k := 12) (r := .error _) cx co (p_told Z) Z.tb_law_picker_step Z.hm_law_picker_step Z.hu_law_picker_step (hr.mono (by omega)) (told_w (l := wNoName) Z.w_NoName rfl rfl) (fun A outer s H E f c' cy ty hy => (x_mrdX0 16 ty Z.k_Picker.cl (px_Picker_mark Z) (hy.mono (by omega)) rfl (mem_at hj) (x_var 0 cy rfl) ⟨_, _, _, rfl, hP.f, hS, at_rows hb, rfl⟩))) ?_
      exact s_nil (.inr ⟨_, _, _, _, _, _, _, _, rfl⟩)
    · obtain ⟨x, ex⟩ := at_some hb
      obtain ⟨ds, eds⟩ := row_cur hS ex
      refine s_set 8 cd (x_if (d := .none) (c_is (k' := false) (c_cmp (op_eqD hr.units) (od_eqD hrL lay_emp) (x_var 13 cx rfl) (x_lst a_nil)) (rkT_ne hb)) (fun h => by cases h) (fun _ => x_none)) ?_
      show PSs _ _ (sD F [_, _, _, _, _, _, _, _, _, _, _, _, _, _, _, _, _] _)
      refine s_set 14 cd (x_if (d := natI x) (c_is (k' := true) (c_cmp (op_neD hr.units) (od_neD hrL lay_emp) (x_var 13 cx rfl) (x_lst a_nil)) (by rw [rkT_ne hb]; rfl)) (fun _ => (x_ix ix_tup (od_ixT (d := natI x) (show atI (natI x :: ds) 0 = some (natI x) from atI_nat (j := 0) rfl)) (x_ix ix_list (od_ixL eds) (x_var 13 cx rfl) (x_var 4 cx rfl)) x_int)) (fun h => by cases h)) ?_
      show PSs _ _ (sD F [_, _, _, _, _, _, _, _, _, _, _, _, _, _, _, _, _] _)
      refine s_set 9 cd (x_tup (a_cons (x_var 3 cx rfl) (a_cons (x_var 4 cx rfl) (a_cons (x_var 5 cx rfl) (a_cons (x_is (d1 := PyData.list ((mark1 S.now.2.2.2 x).map natI)) (x_op op_cat (od_catL (by exact cat_sz h60)) (x_dl (x_lc [("one", 15)] S.now.2.2.2 natI natI (fun (y : Nat) => !decide ((y : Int) = (x : Int))) _ cx (i_list (x_var 6 cx rfl)) (Nat.le_trans h60 (by decide)) (by decide +kernel) (fun s H C cl fp => g_nameB 15 (cx.blk s H _ C cl fp)) (fun x hx => tg_name) (wg_name (by decide)) (fun x hx s H C cl fp => ts_one (c_cmp op_ne od_neI (x_var 15 (cx.blk s H _ C cl fp) rfl) (x_var 14 (cx.blk s H _ C cl fp) rfl))) (fun x hx hq s H C cl fp => (x_var 15 (cx.blk s H _ C cl fp) rfl)))) (x_op op_rep (od_repL (by exact rep_lo _) (by exact rep_hi _) (by exact rep_sz _ _)) (x_lst (a_cons (x_var 14 cx rfl) a_nil)) (x_ty cx call_int1 cd_intB Z.b_int (by decide +kernel) (a_cons (x_cmp (op_notInD (hu65 hr)) (od_ninD (lay_int (n := 1)) lay_nats) (x_var 14 cx rfl) (x_var 6 cx rfl)) a_nil)))) (by exact congrArg PyData.list (mark_ln S.now.2.2.2 x))) a_nil))))) ?_
      show PSs _ _ (sD F [_, _, _, _, _, _, _, _, _, _, _, _, _, _, _, _, _] _)
      refine s_setW (g := 16) 11 cd (w_imp (x_toldW (k := 12) (Ω := fun r W' => ∃ d, r = .ok d ∧ (d = .none ∧ PkAt kPicker W' (J.1, J.2.1, W.length) p (S.did (S.marked x)) ∧ Kps J W W')) cx co (p_told Z) Z.tb_law_picker_step Z.hm_law_picker_step Z.hu_law_picker_step (hr.mono (by omega)) (fun _ => .none) (fun C W' h => by obtain ⟨d, z, _⟩ := h; cases z) (fun A outer s H E f c' cy ty hy => r_ok (x_mwr0 16 Z.k_Picker.cl (pw_Picker_mark Z) (hy.mono (by omega)) rfl (mem_at hj) (x_var 0 cy rfl) ⟨_, _, _, _, rfl, hP.f, hS, by omega, ex, rfl⟩))) (Ω' := fun d W' => d = .none ∧ PkAt kPicker W' (J.1, J.2.1, W.length) p (S.did (S.marked x)) ∧ Kps J W W') fun d W' h => by
        rcases h with ⟨d', e, h⟩ | ⟨C, ⟨d', e, _⟩, _⟩
        · cases e; exact h
        · cases e) fun d1 W1 h1 => ?_
      obtain ⟨rfl, hP1, hk1⟩ := h1
      exact s_nil (.inl ⟨S.marked x, W1, _, _, _, _, _, _, ⟨hP1, hk1, hS.marked ex, hP.tk⟩, rfl⟩)
  · have hi : m % 2 = 0 ∨ m % 2 = 1 := by omega
    refine s_retW (g := 16) (x_cwr 16 cx (pw_law_back Z) (hr.mono (by omega)) rfl (a_cons (x_var 0 cx rfl) (a_cons (x_var 1 cx rfl) (a_cons (x_op op_mod (od_iC (by decide)) (x_var 2 cx rfl) x_int) a_nil))) ⟨_, _, _, _, _, _, _, _, _, _, _, rfl, hi, hP, by omega, rfl⟩) fun d W' h => ?_
    obtain ⟨rfl, S', hP', _⟩ := h
    exact ⟨W', rfl, rfl, _, S', hP'.more⟩
  · subst eM
    rcases h with ⟨s', W1, s7, s10, s12, s13, s14, s15, ⟨hP1, hk1, hok, htk⟩, rfl⟩ | ⟨w, s7, s9, s10, s12, s13, s14, s15, rfl⟩
    · have wo1 := hk1.k _ _ hP.wo hP.jo.1 hP.jo.2.1 hP.jo.2.2
      have wa1 := hk1.k _ _ hP.wa hP.ja.1 hP.ja.2.1 hP.ja.2.2
      have wb1 := hk1.k _ _ hP.wb hP.jb.1 hP.jb.2.1 hP.jb.2.2
      refine s_when (k := true) (c_is (c_cmp op_isN od_isN (x_var 8 cx rfl) x_none) rfl) (fun _ => ?_) (fun h => by cases h)
      refine s_exprW (g := 16) (x_wapp a rfl wa1 (x_wget 16 (hu1 hr) rfl (mem_at wo1) (x_var 1 cx rfl) (x_txt kPast) (show tx _ = keyD (kx _) from rfl) (own_past S qa qb)) (x_wget 16 (hu1 hr) rfl (mem_at wo1) (x_var 1 cx rfl) (x_txt kNow) (show tx _ = keyD (kx _) from rfl) (own_now S qa qb)) (by rw [List.length_map]; omega)) fun d2 W2 h2 => ?_
      obtain ⟨rfl, rfl⟩ := h2
      have wo2 := wset_ne (r := (qa, .lst (S.past.map lnD ++ [lnD S.now]))) wo1 (fun z => hP.oa z.symm)
      have wb2 := wset_ne (r := (qa, .lst (S.past.map lnD ++ [lnD S.now]))) wb1 hP.ab
      refine s_exprW (g := 16) (x_wclear b rfl wb2 (x_wget 16 (hu1 hr) rfl (mem_at wo2) (x_var 1 cx rfl) (x_txt kAhead) (show tx _ = keyD (kx _) from rfl) (own_ahead S qa qb))) fun d3 W3 h3 => ?_
      obtain ⟨rfl, rfl⟩ := h3
      have wo3 := wset_ne (r := (qb, .lst [])) wo2 (fun z => hP.ob z.symm)
      refine s_wput 16 o cd (hu1 hr) rfl wo3 (x_var 9 cx rfl) (x_var 1 cx rfl) (x_txt kNow) (show tx _ = keyD (kx _) from rfl) (by show 6 < 100000; decide) ?_
      rw [own_putN S qa qb s' (S.did s').past (S.did s').ahead]
      exact s_nil (s_retS (x_is (x_cmp (op_eqD hr.units) (od_eqD (lay_none (n := 1)) (lay_none (n := 1))) (x_var 11 cx rfl) (x_var 8 cx rfl)) (show PyData.bool _ = .bool true from rfl)) ⟨_, rfl, rfl, _, _, hP.did hP1 hk1 hok htk⟩)
    · refine s_when (k := false) (c_is (c_cmp op_isN od_isN (x_var 8 cx rfl) x_none) rfl) (fun h => by cases h) (fun _ => ?_)
      exact s_retS (x_is (x_cmp op_eq od_eqS (x_var 11 cx rfl) (x_var 8 cx rfl)) (show PyData.bool _ = .bool true from congrArg PyData.bool (decide_eq_true rfl))) ⟨_, rfl, rfl, _, _, hP.more⟩
end
end K95
set_option Elab.async false
set_option linter.all false
set_option maxRecDepth 100000
set_option maxHeartbeats 1000000
namespace Lf
open PySem PySem.Spec PyProof.Rows L2 L2H HotX LamX
section
variable {Kf : PySem.W.Frag} {Tf : List (Addr × Str)} {F : Fx Kf Tf} {δ : List Slot} {X : Cx} {N : List Str} {sc : Scope} {pos px py pt pt2 : Pos} {a b : Expr} {x y : Str} {ds : List PyData} {d : PyData} {rest : List Stmt} {P : Post} {O : Addr → Prop} {H H' : Hp} {σ : L2.St} {q : Addr} {xs : List V}
/-- a, b = x, [..] -/
theorem s_parB (i j : Nat) {kt k2 : Nat} (cx : CtD X N sc F.E) (ha : PE X a (tD F δ d)) (hb : PE X b (tDL F δ ds)) (g : PSs X rest (sD F ((δ.set i (.dat d)).set j (.own ds)) P)) (hi : N[i]? = some x := by rfl) (hj : N[j]? = some y := by rfl) (hij : i ≠ j := by decide) (hx : sc.names.lookup x = some .local := by rfl) (hy : sc.names.lookup y = some .local := by rfl)
    (hw : swappedStores [.Tuple [.Name x px, .Name y py] kt pt] (.Tuple [a, b] k2 pt2) (envS sc) = pure (some [x, y]) := by rfl) (hs : swapsWithSole [.Tuple [.Name x px, .Name y py] kt pt] (.Tuple [a, b] k2 pt2) pos.line X.env = pure false := by rfl)
    (h1 : starEach (a :: [b]) X.env = (false, eval a X.env) :: starEach [b] X.env := by rfl) (h2 : starEach [b] X.env = (false, eval b X.env) :: starEach [] X.env := by rfl) :
    PSs X (.Assign [.Tuple [.Name x px, .Name y py] kt pt] (.Tuple [a, b] k2 pt2) pos :: rest) (sD F δ P) :=
  wkSs (pss_cons (ps_par cx.calm cx.nd' (cx.at_ hi) (cx.at_ hj) hij (by rw [cx.s]; exact hx) (by rw [cx.s]; exact hy) (pa_cons ha (pa_cons hb pa_nil h2) h1) (sw_eq cx.toCtx hw) hs) g) fun D σ H h' => by
    obtain ⟨O, τ, s0, tm, w⟩ := h'
    refine ⟨O, s0, fun v H0 e0 t0 g0 => ⟨O, s0.grow e0 t0, fun p xs H1 e1 t1 n1 g1 a1 => ?_⟩⟩
    obtain ⟨s3, t3⟩ := own_out ((s0.grow e0 t0).setD i g0) (tm.grow e0) j e1 t1 n1 g1 a1
    exact ⟨_, _, rfl, Shut O p, τ, s3, t3, w⟩
end
def nrT (S : PSt) (i : Nat) : PyData := .tuple [natI i, rkT (S.rows.getD i (0, ⟨#[]⟩, 0, .none))]
theorem enum_rowsT (S : PSt) : (enumL (S.rows.map rkT)).map encL = (List.range S.rows.length).map (nrT S) := by
  unfold enumL
  rw [List.map_map, List.length_map]
  refine List.map_congr_left fun i hi => ?_
  have hi : i < S.rows.length := List.mem_range.mp hi
  show encL (i, (S.rows.map rkT).getD i .none) = nrT S i
  unfold encL nrT
  simp only [List.getD_eq_getElem?_getD, List.getElem?_map, List.getElem?_eq_getElem hi, Option.map_some, Option.getD_some]
def R_law_picker_like (C : Addr) (ds : List PyData) (W : Wd) (r : Res) : Prop := ∃ J p S, ∃ (o a b : Nat), ∃ qo qa qb, ∃ (n : Nat), ds = [ptrD p, ptrD qo] ∧ P9 C W J p S o a b qo qa qb n ∧ r = .ok (.bool true)
theorem names_at {ls : List (List Nat)} {k : Nat} (h : k < ls.length) : atI (ls.map tx) ((k : Nat) : Int) = some (tx (ls.getD k [])) := by
  refine atI_nat ?_
  rw [List.getElem?_map, List.getD_eq_getElem?_getD, List.getElem?_eq_getElem h]
  rfl
theorem row_ok {S : PSt} (h : okP S) {b : Rk} (hb : b ∈ S.rows) {k : Nat} {q : Int × List Nat} (e : b = ((k : Int), (⟨(S.ls.getD k []).toArray⟩ : Str), q.1, rowD q.2)) : (S.ls.getD k []).length ≤ 10000 ∧ ∀ i ∈ q.2, i < (S.ls.getD k []).length := by
  obtain ⟨p, h1, q', h2, e'⟩ := rk_mem (rkS_mem hb)
  rw [e] at e'
  have e2 : S.ls.getD k [] = p.2 := by
    have := congrArg (fun z : Rk => z.2.1.cps.toList) e'
    simpa using this
  have e3 : q.2 = q'.2 := by
    have := congrArg (fun z : Rk => (lsOf z.2.2.2).map fun d => (intOf d).toNat) e'
    simp only [row_back] at this
    exact this
  rw [e2, e3]
  have hn := isNm_len (h.n p.2 (enumN_mem h1))
  have hr := (rows_rise (fm_mem (show fmL (wr S.M p.2 S.now.1) (rowsS S.now.1 p.2 0) = some q' from h2)).1).2
  exact ⟨by omega, fun i hi => by have := hr i hi; omega⟩
theorem seen1_is {S : PSt} (h : okP S) {i k : Nat} {q : Int × List Nat} (e : S.rows.getD i (0, ⟨#[]⟩, 0, .none) = ((k : Int), (⟨(S.ls.getD k []).toArray⟩ : Str), q.1, rowD q.2)) (hq : ∀ j ∈ q.2, j < (S.ls.getD k []).length) : PyData.tuple [.bool (decide ((i : Int) = S.now.2.1)), .bool ((S.now.2.2.2.map natI).any fun z => PyData.eqv z (natI k)), tx (lawSh (S.ls.getD k []) q.2)] = seen1 S i := by
  unfold seen1
  rw [e, any_natI, lawSh_eq hq]
  simp only [row_back]
  simp
theorem seen1_lay {S : PSt} (h : okP S) {i : Nat} (hi : i < S.rows.length) : Lay 1 (seen1 S i) := by
  have hb := getD_row hi
  obtain ⟨k, q, hkl, eb⟩ := row_num hb
  obtain ⟨h1, h2⟩ := row_ok h hb eb
  rw [← seen1_is h eb h2]
  refine lay_tuple (n := 0) fun d hd => ?_
  simp only [List.mem_cons, List.not_mem_nil, or_false] at hd
  rcases hd with rfl | rfl | rfl
  · exact lay_bool
  · exact lay_bool
  · refine lay_tx fun c hc => ?_
    have := law_low (n := S.ls.getD k []) (ps := q.2) (fun c hc => (alpha_low c (isNm_alpha (h.n _ (by
      rw [List.getD_eq_getElem?_getD, List.getElem?_eq_getElem hkl]
      exact List.getElem_mem hkl)) c hc)).1) c hc
    omega
theorem seenP_lay {S : PSt} (h : okP S) {l : List Nat} (hl : ∀ i ∈ l, i < S.rows.length) : Lay 2 (.list (seenP S l)) := lay_list (n := 1) fun d hd => by
  obtain ⟨i, hi, rfl⟩ := List.mem_map.mp hd
  exact seen1_lay h (hl i (List.mem_filter.mp hi).1)
theorem seen_lay {S : PSt} (h : okP S) : Lay 2 (.list S.seen) := by
  rw [seen_is]
  exact seenP_lay h fun i hi => List.mem_range.mp hi
theorem optN_lay (o : Option Nat) : Lay 1 (optN o) := by
  cases o with
  | none => exact lay_none
  | some x => exact lay_int
theorem done_lt {S : PSt} (h : okP S) : ∀ i ∈ S.doneL, i < S.ls.length := fun i hi => by
  unfold PSt.doneL at hi
  split at hi
  · cases e : S.at_ with
    | none => rw [e] at hi; cases hi
    | some x =>
      rw [e] at hi
      rw [List.mem_singleton.mp hi]
      exact (at_lt h e).1
  · exact h.now.m i hi
theorem done_lay {S : PSt} (h : okP S) : Lay 1 (.list (S.doneL.map fun i => tx (S.ls.getD i []))) := lay_list (n := 0) fun d hd => by
  obtain ⟨i, hi, rfl⟩ := List.mem_map.mp hd
  have hk := done_lt h i hi
  refine lay_tx fun c hc => ?_
  have := (alpha_low c (isNm_alpha (h.n _ (by
      rw [List.getD_eq_getElem?_getD, List.getElem?_eq_getElem hk]
      exact List.getElem_mem hk)) c hc)).1
  omega
/-- the name at the cursor is seen -/
theorem cur_seen {S : PSt} (h : okP S) (t : tkN S.tall S.now) (hr : S.rows ≠ []) : (((List.range S.rows.length).filter (seenB S)).filter fun (i : Nat) => decide ((i : Int) = S.now.2.1)) ≠ [] := by
  have hc := h.now.c.elim (fun z => absurd z hr) id
  have h0 := h.now.c0
  have hl : S.now.2.1.toNat < S.rows.length := by
    have : S.now.2.1 < ((rowsA S.M S.ls S.now.1).length : Int) := hc
    show _ < (rowsA S.M S.ls S.now.1).length
    omega
  have he : ((S.now.2.1.toNat : Nat) : Int) = S.now.2.1 := Int.toNat_of_nonneg h0
  refine List.ne_nil_of_mem (a := S.now.2.1.toNat) (List.mem_filter.mpr ⟨List.mem_filter.mpr ⟨List.mem_range.mpr hl, ?_⟩, decide_eq_true he⟩)
  unfold seenB
  rw [he, decide_eq_true t.1, decide_eq_true t.2]
  rfl
theorem eqv_ne_nil {l : List PyData} (h : l ≠ []) : PyData.eqv (.list l) (.list []) = false := by
  cases l with
  | nil => exact absurd rfl h
  | cons a l => simp [PyData.eqv, PyData.eqvAll]
theorem done_a {S : PSt} (h : (!PyData.eqv (.list (S.now.2.2.2.map natI)) (.list []) || isN (optN S.at_)) = true) : PyData.list (S.now.2.2.2.map natI) = .list (S.doneL.map natI) := by
  rw [nats_emp] at h
  unfold PSt.doneL
  by_cases z : S.now.2.2.2 = []
  · rw [if_pos z]
    cases e : S.at_ with
    | none => rw [z]
    | some x =>
      rw [e, decide_eq_true z] at h
      exact absurd h (by simp [optN, isN, natI])
  · rw [if_neg z]
theorem done_b {S : PSt} (h : (!PyData.eqv (.list (S.now.2.2.2.map natI)) (.list []) || isN (optN S.at_)) = false) : PyData.list [optN S.at_] = .list (S.doneL.map natI) := by
  rw [nats_emp] at h
  unfold PSt.doneL
  by_cases z : S.now.2.2.2 = []
  · rw [if_pos z]
    cases e : S.at_ with
    | none =>
      rw [e, decide_eq_true z] at h
      exact absurd h (by simp [optN, isN])
    | some x => rfl
  · rw [decide_eq_false z] at h
    cases h
end Lf
set_option Elab.async false
set_option linter.all false
set_option maxRecDepth 100000
set_option maxHeartbeats 4000000
namespace K95
open PySem PySem.Spec PyProof.Rows L2 LamX Lf
section
variable {G : Pg} {T : List (Addr × Str)} {c0 c1 c2 c3 c4 c5 c6 c7 cS cL kPicker PL cM0 PM0 cM1 PM1 cM2 PM2 : Addr}
theorem p_law_picker_like (Z : Tx G T c0 c1 c2 c3 c4 c5 c6 c7 cS cL kPicker PL cM0 PM0 cM1 PM1 cM2 PM2) : Fd G.prog G.w G.K G.mg G.base "_law_picker_like" 16 ["picker", "own"] (spR T (R_law_picker_like kPicker)) := by
  refine fd_R Z.d_law_picker_like sc_law_picker_like (by decide) (fun ds W r h => by obtain ⟨J, p, S, o, a, b, qo, qa, qb, n, rfl, _⟩ := h; rfl) fun r F ds W res cd hr h => ?_
  have cx := cd.toCtx
  obtain ⟨J, p, S, o, a, b, qo, qa, qb, n, rfl, hP, rfl⟩ := h
  obtain ⟨q1, q2, hj, _⟩ := hP.f.o
  have hS := hP.ok
  have hal := isAs_len hS.now.a
  have hsl := hS.now.some_le
  have hll := hS.l
  have hrl : S.rows.length ≤ S.ls.length := rowsA_len S.M S.ls S.now.1
  have hSz : 100000 ≤ sizeLine := by decide
  refine s_asg cd (x_is (x_wget 15 (hu1 hr) rfl (mem_at hP.wo) (x_var 1 cx rfl) (x_txt kNow) (show tx _ = keyD (kx _) from rfl) (own_now S qa qb)) (show lnD S.now = .tuple [tx S.now.1, .int S.now.2.1, .int S.now.2.2.1, .list (S.now.2.2.2.map natI)] from rfl)) (pg_tup cx.calm (pgs_cons (g_name 2 cd) (pgs_cons (g_name 3 cd) (pgs_cons (g_name 4 cd) (pgs_cons (g_name 5 cd) pgs_nil))))) (tg_tup rfl (tg_cons tg_name (tg_cons tg_name (tg_cons tg_name (tg_cons tg_name tg_nil))))) ?_
  refine s_parB 6 7 cd (x_crd 15 cx (p_law_fit Z) (hr.mono (by omega)) rfl (a_cons (x_var 1 cx rfl) a_nil) ⟨_, S, qa, qb, rfl, mem_at hP.wo, hS, hP.n7, rfl⟩) (x_lstN a_nil) ?_
  refine s_for (List.range S.rows.length) (nrT S) (fun pre δ => ∃ s8 s9 s10 s11, δ = [.dat (ptrD p), .dat (ptrD qo), .dat (tx S.now.1), .dat (.int S.now.2.1), .dat (.int S.now.2.2.1), .dat (.list (S.now.2.2.2.map natI)), .dat (.list (S.rows.map rkT)), .own (seenP S pre), s8, s9, s10, s11, .non, .non, .non, .wd true W]) cd (i_is (i_enumL cx Z.b_enumerate (a_cons (x_var 6 cx rfl) a_nil)) (enum_rowsT S)) (pg_tup cx.calm (pgs_cons (g_name 8 cd) (pgs_cons (pg_tup cx.calm (pgs_cons (g_name 9 cd) (pgs_cons (g_name 10 cd) (pgs_cons (g_name 11 cd) pgs_nil)))) pgs_nil))) ⟨_, _, _, _, rfl⟩ ?_ ?_
  · intro pre i post δ' hx hI
    obtain ⟨s8, s9, s10, s11, rfl⟩ := hI
    obtain ⟨rfl, hil⟩ := range_atx hx
    have hb := getD_row hil
    obtain ⟨k, q, hkl, eb⟩ := row_num hb
    have e1 := seen_snoc S pre pre.length
    have hpl := seen_le S pre
    have enr : nrT S pre.length = .tuple [natI pre.length, .tuple [natI k, .int q.1, rowD q.2]] := by
      unfold nrT
      rw [eb]
      rfl
    have hq := row_ok hS hb eb
    refine ⟨_, by rw [enr]; exact tg_tup rfl (tg_cons tg_name (tg_cons (tg_tup rfl (tg_cons tg_name (tg_cons tg_name (tg_cons tg_name tg_nil)))) tg_nil)), ?_⟩
    refine s_when (k := seenB S pre.length) (c_chain op_le op_lt od_b0 (fun hb => od_b0) (x_var 4 cx rfl) (x_var 8 cx rfl) (x_op op_add od_i0 (x_var 4 cx rfl) (x_wget 15 (hu1 hr) rfl (mem_at hP.wo) (x_var 1 cx rfl) (x_txt kTall) (show tx _ = keyD (kx _) from rfl) (own_tall S qa qb)))) (fun hc => ?_) (fun hc => ?_)
    · refine s_appN 7 cx rfl (x_is (d1 := seen1 S pre.length) (x_tup (a_cons (x_cmp op_eq od_eqI (x_var 8 cx rfl) (x_var 3 cx rfl)) (a_cons (x_cmp (op_inD (hu65 hr)) (od_inD (lay_int (n := 1)) lay_nats) (x_var 9 cx rfl) (x_var 5 cx rfl)) (a_cons (x_call cx (p_law_shown Z) (hr.mono (by omega)) (a_cons (x_ix ix_list (od_ixL (d := tx (S.ls.getD k [])) (names_at hkl)) (x_wget 15 (hu1 hr) rfl (mem_at hP.wo) (x_var 1 cx rfl) (x_txt kNames) (show tx _ = keyD (kx _) from rfl) (own_names S qa qb)) (x_var 9 cx rfl)) (a_cons (x_var 11 cx rfl) a_nil)) ⟨_, _, rfl, hq.1, rfl⟩) a_nil)))) (by exact seen1_is hS eb hq.2)) (by omega) (s_nil (s_nil ?_))
      rw [e1, if_pos hc]
      exact ⟨_, _, _, _, rfl⟩
    · refine s_nil ?_
      rw [e1, if_neg (by rw [hc]; decide), List.append_nil]
      exact ⟨_, _, _, _, rfl⟩
  · intro δ' hI
    obtain ⟨s8, s9, s10, s11, rfl⟩ := hI
    refine s_freeze 7 rfl ?_
    rw [← seen_is]
    have hrL := rkT_lay S hS
    have hsL := seen_lay hS
    have hoL := optN_lay S.at_
    have hdL := done_lay hS
    have hdz : S.doneL.length ≤ 100000 := by
      unfold PSt.doneL
      split
      · cases S.at_ <;> simp
      · omega
    have hcl := seen_le S (List.range S.rows.length)
    by_cases hb : S.rows = []
    · have hat := at_rows hb
      refine s_set 12 cd (x_if (d := optN S.at_) (c_is (k' := false) (c_cmp (op_neD hr.units) (od_neD hrL lay_emp) (x_var 6 cx rfl) (x_lst a_nil)) (by rw [hb]; rfl)) (fun h => by cases h) (fun _ => x_is x_none (by rw [hat]; rfl))) ?_
      refine s_when (k := false) (c_is (PW.pt (w_or (c_cmp op_ne od_neS (x_mrd0 15 Z.k_Picker.cl (p_Picker_ask Z) (hr.mono (by omega)) rfl (mem_at hj) (x_var 0 cx rfl) ⟨_, _, _, rfl, hP.f, rfl⟩) (x_var 2 cx rfl)) fun hb => (w_or (c_cmp (op_neD hr.units) (od_neD lay_nats lay_nats) (x_mrd0 15 Z.k_Picker.cl (p_Picker_chosen Z) (hr.mono (by omega)) rfl (mem_at hj) (x_var 0 cx rfl) ⟨_, _, _, rfl, hP.f, rfl⟩) (x_var 5 cx rfl)) fun hb => (w_or (c_cmp (op_neD hr.units) (od_neD hsL hsL) (x_mrd0 15 Z.k_Picker.cl (p_Picker_seen Z) (hr.mono (by omega)) rfl (mem_at hj) (x_var 0 cx rfl) ⟨_, _, _, rfl, hP.f, hS, rfl⟩) (x_var 7 cx rfl)) fun hb => (w_one (c_cmp (op_neD hr.units) (od_neD hoL hoL) (x_mrd0 15 Z.k_Picker.cl (p_Picker_at Z) (hr.mono (by omega)) rfl (mem_at hj) (x_var 0 cx rfl) ⟨_, _, _, rfl, hP.f, hS, rfl⟩) (x_var 12 cx rfl))))))) (by rw [eqv_self lay_nats, eqv_self hsL, eqv_self hoL, decide_eq_true rfl]; rfl)) (fun hc => by cases hc) fun _ => ?_
      refine s_set 13 cd (x_if (d := .list (S.doneL.map natI)) (PW.pt (w_or (c_cmp (op_neD hr.units) (od_neD lay_nats lay_emp) (x_var 5 cx rfl) (x_lst a_nil)) fun hb => (w_one (c_cmp op_isN od_isN (x_var 12 cx rfl) x_none)))) (fun h => x_is (x_var 5 cx rfl) (done_a h)) (fun h => x_is (x_lst (a_cons (x_var 12 cx rfl) a_nil)) (done_b h))) ?_
      refine s_when (k := false) (c_is (PW.pt (w_and (k := false) (j := true) (c_is (c_cmp (op_neD hr.units) (od_neD hrL lay_emp) (x_var 6 cx rfl) (x_lst a_nil)) (by rw [hb]; rfl)) (fun h => by cases h))) rfl) (fun hc => by cases hc) fun _ => ?_
      refine s_ret (x_is (x_cmp (op_eqD hr.units) (od_eqD hdL hdL) (x_mrd0 15 Z.k_Picker.cl (p_Picker_done Z) (hr.mono (by omega)) rfl (mem_at hj) (x_var 0 cx rfl) ⟨_, _, _, rfl, hP.f, hS, rfl⟩) (x_is (x_dl (x_lc [("number", 9)] S.doneL natI (fun i => tx (S.ls.getD i [])) (fun _ => true) _ cx (i_list (x_var 13 cx rfl)) hdz (by decide +kernel) (fun s H C cl fp => g_nameB 9 (cx.blk s H _ C cl fp)) (fun x hx => tg_name) (wg_name (by decide)) (fun x hx s H C cl fp => ts_nil) (fun x hx hq s H C cl fp => (x_ix ix_list (od_ixL (names_at (done_lt hS x hx))) (x_wget 15 (hu1 hr) rfl (mem_at hP.wo) (x_var 1 (cx.blk s H _ C cl fp) rfl) (x_txt kNames) (show tx _ = keyD (kx _) from rfl) (own_names S qa qb)) (x_var 9 (cx.blk s H _ C cl fp) rfl))))) (by rw [filter_tt]))) (show PyData.bool _ = .bool true from congrArg PyData.bool (eqv_self hdL))) rfl
    · obtain ⟨x, ex⟩ := at_some hb
      obtain ⟨ds, eds⟩ := row_cur hS ex
      refine s_set 12 cd (x_if (d := optN S.at_) (c_is (k' := true) (c_cmp (op_neD hr.units) (od_neD hrL lay_emp) (x_var 6 cx rfl) (x_lst a_nil)) (by rw [rkT_ne hb]; rfl)) (fun _ => x_is (x_ix ix_tup (od_ixT (d := natI x) (show atI (natI x :: ds) 0 = some (natI x) from atI_nat (j := 0) rfl)) (x_ix ix_list (od_ixL eds) (x_var 6 cx rfl) (x_var 3 cx rfl)) x_int) (by rw [ex]; rfl)) (fun h => by cases h)) ?_
      refine s_when (k := false) (c_is (PW.pt (w_or (c_cmp op_ne od_neS (x_mrd0 15 Z.k_Picker.cl (p_Picker_ask Z) (hr.mono (by omega)) rfl (mem_at hj) (x_var 0 cx rfl) ⟨_, _, _, rfl, hP.f, rfl⟩) (x_var 2 cx rfl)) fun hb => (w_or (c_cmp (op_neD hr.units) (od_neD lay_nats lay_nats) (x_mrd0 15 Z.k_Picker.cl (p_Picker_chosen Z) (hr.mono (by omega)) rfl (mem_at hj) (x_var 0 cx rfl) ⟨_, _, _, rfl, hP.f, rfl⟩) (x_var 5 cx rfl)) fun hb => (w_or (c_cmp (op_neD hr.units) (od_neD hsL hsL) (x_mrd0 15 Z.k_Picker.cl (p_Picker_seen Z) (hr.mono (by omega)) rfl (mem_at hj) (x_var 0 cx rfl) ⟨_, _, _, rfl, hP.f, hS, rfl⟩) (x_var 7 cx rfl)) fun hb => (w_one (c_cmp (op_neD hr.units) (od_neD hoL hoL) (x_mrd0 15 Z.k_Picker.cl (p_Picker_at Z) (hr.mono (by omega)) rfl (mem_at hj) (x_var 0 cx rfl) ⟨_, _, _, rfl, hP.f, hS, rfl⟩) (x_var 12 cx rfl))))))) (by rw [eqv_self lay_nats, eqv_self hsL, eqv_self hoL, decide_eq_true rfl]; rfl)) (fun hc => by cases hc) fun _ => ?_
      refine s_set 13 cd (x_if (d := .list (S.doneL.map natI)) (PW.pt (w_or (c_cmp (op_neD hr.units) (od_neD lay_nats lay_emp) (x_var 5 cx rfl) (x_lst a_nil)) fun hb => (w_one (c_cmp op_isN od_isN (x_var 12 cx rfl) x_none)))) (fun h => x_is (x_var 5 cx rfl) (done_a h)) (fun h => x_is (x_lst (a_cons (x_var 12 cx rfl) a_nil)) (done_b h))) ?_
      have hcs := cur_seen hS hP.tk hb
      have hLL : Lay 2 (.list ((((List.range S.rows.length).filter (seenB S)).filter fun (i : Nat) => decide ((i : Int) = S.now.2.1)).map (seen1 S))) := lay_list (n := 1) fun d hd => by
        obtain ⟨i, hi, rfl⟩ := List.mem_map.mp hd
        exact seen1_lay hS (List.mem_range.mp (List.mem_filter.mp (List.mem_filter.mp hi).1).1)
      have hfl : ((List.range S.rows.length).filter (seenB S)).length ≤ 100000 := by
        have := List.length_filter_le (seenB S) (List.range S.rows.length)
        rw [List.length_range] at this
        omega
      refine s_when (k := false) (c_is (PW.pt (w_and (k := true) (j := false) (c_is (c_cmp (op_neD hr.units) (od_neD hrL lay_emp) (x_var 6 cx rfl) (x_lst a_nil)) (by rw [rkT_ne hb]; rfl)) (fun _ => (w_one (c_is (c_cmp (op_eqD hr.units) (od_eqD hLL lay_emp) (x_dl (x_lc [("row", 14)] ((List.range S.rows.length).filter (seenB S)) (seen1 S) (seen1 S) (fun (i : Nat) => decide ((i : Int) = S.now.2.1)) _ cx (i_list (x_is (x_var 7 cx rfl) (show PyData.list S.seen = .list (((List.range S.rows.length).filter (seenB S)).map (seen1 S)) from rfl))) hfl (by decide +kernel) (fun s H C cl fp => g_nameB 14 (cx.blk s H _ C cl fp)) (fun x hx => tg_name) (wg_name (by decide)) (fun x hx s H C cl fp => ts_one (c_val (x_ix ix_tup (od_ixT (d := .bool (decide ((x : Int) = S.now.2.1))) (by rfl)) (x_is (x_var 14 (cx.blk s H _ C cl fp) rfl) (show seen1 S x = .tuple [.bool (decide ((x : Int) = S.now.2.1)), _, _] from rfl)) x_int))) (fun x hx hq s H C cl fp => (x_var 14 (cx.blk s H _ C cl fp) rfl)))) (x_lst a_nil)) (eqv_ne_nil (by simpa using hcs))))))) rfl) (fun hc => by cases hc) fun _ => ?_
      refine s_ret (x_is (x_cmp (op_eqD hr.units) (od_eqD hdL hdL) (x_mrd0 15 Z.k_Picker.cl (p_Picker_done Z) (hr.mono (by omega)) rfl (mem_at hj) (x_var 0 cx rfl) ⟨_, _, _, rfl, hP.f, hS, rfl⟩) (x_is (x_dl (x_lc [("number", 9)] S.doneL natI (fun i => tx (S.ls.getD i [])) (fun _ => true) _ cx (i_list (x_var 13 cx rfl)) hdz (by decide +kernel) (fun s H C cl fp => g_nameB 9 (cx.blk s H _ C cl fp)) (fun x hx => tg_name) (wg_name (by decide)) (fun x hx s H C cl fp => ts_nil) (fun x hx hq s H C cl fp => (x_ix ix_list (od_ixL (names_at (done_lt hS x hx))) (x_wget 15 (hu1 hr) rfl (mem_at hP.wo) (x_var 1 (cx.blk s H _ C cl fp) rfl) (x_txt kNames) (show tx _ = keyD (kx _) from rfl) (own_names S qa qb)) (x_var 9 (cx.blk s H _ C cl fp) rfl))))) (by rw [filter_tt]))) (show PyData.bool _ = .bool true from congrArg PyData.bool (eqv_self hdL))) rfl
end
end K95
set_option Elab.async false
set_option linter.all false
set_option maxRecDepth 100000
set_option maxHeartbeats 1000000
namespace Lf
open PySem PySem.Spec PyProof.Rows L2 L2H HotX LamX
section
variable {Kf : PySem.W.Frag} {Tf : List (Addr × Str)} {F : Fx Kf Tf} {δ : List Slot} {X : Cx} {N : List Str} {sc : Scope} {pos p1 apos cpos : Pos} {e o : Expr} {W : Wd} {g : Nat} {ds : List PyData} {d : PyData} {rest : List Stmt} {P : Post} {Ω : PyData → Wd → Prop}
/-- list(tuple): a new list -/
theorem x_listTN (cx : Ctx X N sc) (hm : X.mg "list" = none) (h : PE X e (tD F δ (.tuple ds))) (hg : sc.names.lookup ("list" : Str) = some .globalImplicit := by rfl) (he : starEach [e] X.env = (false, eval e X.env) :: starEach [] X.env := by rfl) :
    PE X (.Call (.Name "list" p1) [e] [] pos) (tDL F δ ds) := wkE (pe_callTy call_list_of (cx.gl hg) hm (by decide +kernel) (pa_cons h pa_nil he) (by decide) (by decide) he (by rfl)) fun σ H Q h => by
  obtain ⟨O, st, w⟩ := h
  refine ⟨O, st, fun x H0 e0 t0 g0 => ?_⟩
  obtain ⟨a, ys, rfl, na, ga, ra⟩ := g0
  exact ⟨a, ys, rfl, .inr (SqT.of ga), fun l hl => w l ys _ (e0.trans (ext_new hl)) (tabs_new t0 hl) (fun b lb => (lb.grow e0).ne hl) upd_same ((ra.shut hl).grow (ext_new hl))⟩
/-- o.append(e), o made just now -/
theorem x_wappO (j : Nat) (hgl : g < δ.length) (ho : PE X o (tW F δ g Ω)) (hj : ∀ d' W', Ω d' W' → ∃ q, ∃ ds : List PyData, d' = ptrD q ∧ W'[j]? = some (q, MO.lst ds) ∧ ds.length < 100000) (he : ∀ W', PE X e (tD F (δ.set g (.wd false W')) d)) (hbase : attributeBase o "append" X.env (eval o X.env) = eval o X.env := by rfl)
    (hfew : ((backTo cpos (starEach [e] X.env)).all (fun x => !x.1) && (backToKw cpos (keywordEach [] X.env)).all (fun x => x.1.isSome) && decide (([e] : List Expr).length + ([] : List Keyword).length + (if ([] : List Keyword).isEmpty then 0 else 1) < 30)) = true := by rfl)
    (hline : (apos.endLine == cpos.line) = true := by rfl) (hs : starEach [e] X.env = (false, eval e X.env) :: starEach [] X.env := by rfl) : PE X (.Call (.Attribute o "append" apos) [e] [] cpos) (tW F δ g fun d' W' => d' = .none ∧ ∃ q W1, ∃ ds : List PyData, Ω (ptrD q) W1 ∧ W1[j]? = some (q, MO.lst ds) ∧ W' = W1.set j (q, MO.lst (ds ++ [d]))) :=
  wkE (pe_bm PySem.F.plainAttrs_list PySem.F.slot_list_append PySem.F.type_list_append mt_append ho (pa_cons (te := fun σ H Q => ∃ W', tD F (δ.set g (.wd false W')) d σ H Q) ⟨fun pins s σ H Q I q => let ⟨W', t⟩ := q; (he W').run pins s σ H Q I t⟩ pa_nil hs) hbase hfew hline hs (by rfl)) fun σ H Q k => by
    obtain ⟨O, st, w⟩ := k
    refine ⟨O, st, fun d0 W1 v O1 H1 hΩ s1 kp1 g1 => ?_⟩
    obtain ⟨q, ds, rfl, hjj, hz⟩ := hj d0 W1 hΩ
    rw [dt_ptr_eq g1]
    have hg : (δ.set g (.wd false W1))[g]? = some (.wd false W1) := List.getElem?_set_self hgl
    obtain ⟨vs0, hH0, _⟩ := wl_at s1 hg (List.mem_of_getElem? hjj)
    refine ⟨.inl ⟨rfl, _, SqL.of hH0⟩, W1, O1, s1, fun y H2 e2 t2 g2 => ?_⟩
    have s2 := s1.grow e2 t2
    have hw := s2.w hg
    obtain ⟨vs, hH, fa⟩ := wl_at s2 hg (List.mem_of_getElem? hjj)
    refine ⟨q, vs, y, rfl, rfl, hH, by rw [fa.len]; exact Nat.lt_of_lt_of_le hz (by decide), ?_⟩
    have af : Aft F.T O1 H2 W1 (upd H2 q (.lst (vs ++ [y]))) (W1.set j (q, .lst (ds ++ [d]))) := aft_turn hw hjj (tabs_turn s2.tabs hH) fun hO => ⟨_, upd_same, (fa.turn hO).app (.one (g2.turn hO))⟩
    have s3 := w_after s2 hg af
    rw [List.set_set] at s3
    exact w .none _ .non _ _ ⟨rfl, q, W1, ds, hΩ, hjj, rfl⟩ s3 ((kp1.grow e2).trans (af.kp hw.sh)) rfl
theorem give_at {O : Addr → Prop} {H : Hp} {σ : L2.St} {i : Nat} (st : StAt F O H σ δ) (hi : δ[i]? = some (.own ds)) (hg : δ[g]? = some (.wd false W)) : ∃ q, StAt F O H σ ((δ.set i (.dat (ptrD q))).set g (.wd false (W ++ [(q, .lst ds)]))) := by
  obtain ⟨p, vs, e, oq, nl, gq, fa⟩ := st.slot i _ hi
  have hw := st.w hg
  have hig : i ≠ g := fun z => by rw [z, hg] at hi; cases hi
  have hil : i < δ.length := (List.getElem?_eq_some_iff.mp hi).1
  have hgl : g < δ.length := (List.getElem?_eq_some_iff.mp hg).1
  have np : p ∉ wAs W := fun z => st.afar g i _ _ (fun z => hig z.symm) hg hi p z e
  have es : wAs (W ++ [(p, MO.lst ds)]) = wAs W ++ [p] := by simp [wAs]
  have g1 : (δ.set i (.dat (ptrD p)))[g]? = some (.wd false W) := by rw [List.getElem?_set_ne hig]; exact hg
  have a1 : Afar σ (δ.set i (.dat (ptrD p))) := st.afar.turn st.len i _ (fun R z => by cases z) (fun j R _ _ q _ z => z)
  have fr : ∀ j u, j ≠ g → (δ.set i (.dat (ptrD p)))[j]? = some u → ¬ u.has (σ[j]?.getD none) p := fun j u hj hu z => by
    by_cases ej : i = j
    · subst ej
      rw [List.getElem?_set_self hil] at hu
      cases hu
      exact z
    · rw [List.getElem?_set_ne ej] at hu
      have k1 : ∀ {k : Nat}, σ[k]?.getD none = some (.ref p) → σ[k]? = some (some (.ref p)) := fun {k} h => by
        cases x : σ[k]? with
        | none => rw [x] at h; cases h
        | some y => rw [x] at h; exact congrArg some h
      cases u with
      | own l => exact st.apart i j _ _ p ej hi hu rfl rfl (k1 e) (k1 z)
      | odk l => exact st.apart i j _ _ p ej hi hu rfl rfl (k1 e) (k1 z)
      | res R => exact st.afar j i R _ (fun z => ej z.symm) hu hi p z e
      | non => exact z
      | dat _ => exact z
      | scr _ => exact z
      | any _ => exact z
  refine ⟨p, by rw [List.length_set, List.length_set, st.len], st.o0, st.dom, st.tabs, st.ext, fun j s r => ?_, fun j l s u q hjl h1 h2 m1 m2 e1 e2 => ?_, ?_⟩
  · by_cases ej : g = j
    · subst ej
      rw [List.getElem?_set_self (by rw [List.length_set]; exact hgl)] at r
      cases r
      refine ⟨st.w0 hg, ⟨?_, fun q hq => ?_⟩, fun a ha => ?_⟩
      · rw [es]
        exact List.nodup_append.mpr ⟨hw.laid.1, List.nodup_cons.mpr ⟨by simp, List.nodup_nil⟩, fun a ha b hb z => np (by rw [← List.mem_singleton.mp hb, ← z]; exact ha)⟩
      · rcases List.mem_append.mp hq with hq | hq
        · exact hw.laid.2 q hq
        · cases List.mem_singleton.mp hq
          exact ⟨vs, gq, fa⟩
      · have ha : a ∈ wAs W ++ [p] := by rw [← es]; exact ha
        rcases List.mem_append.mp ha with ha | ha
        · exact ⟨hw.sh a ha, ⟨fun z => (by cases z), fun _ => hw.wr rfl a ha⟩, hw.lv a ha⟩
        · rw [List.mem_singleton.mp ha]
          exact ⟨oq, ⟨fun z => (by cases z), fun _ => nl⟩, st.dom p oq⟩
    · rw [List.getElem?_set_ne ej] at r
      by_cases ei : i = j
      · subst ei
        rw [List.getElem?_set_self hil] at r
        cases r
        exact ⟨_, e, dt_ptr⟩
      · rw [List.getElem?_set_ne ei] at r
        exact st.slot j s r
  · have back : ∀ {j : Nat} {s : Slot}, ((δ.set i (.dat (ptrD p))).set g (.wd false (W ++ [(p, .lst ds)])))[j]? = some s → s.mine = true → ∃ s', δ[j]? = some s' ∧ s'.mine = true := fun {j s} a m => by
      by_cases ej : g = j
      · subst ej; exact ⟨_, hg, rfl⟩
      · rw [List.getElem?_set_ne ej] at a
        by_cases ei : i = j
        · subst ei; exact ⟨_, hi, rfl⟩
        · rw [List.getElem?_set_ne ei] at a; exact ⟨s, a, m⟩
    obtain ⟨s1, b1, c1⟩ := back h1 m1
    obtain ⟨s2, b2, c2⟩ := back h2 m2
    exact st.apart j l s1 s2 q hjl b1 b2 c1 c2 e1 e2
  · refine a1.turn (by rw [List.length_set]; exact st.len) g _ (fun R z j u hj hu q hq hu2 => ?_) fun j R hj hR q hq z => ?_
    · cases z
      have hq : q ∈ wAs W ++ [p] := by rw [← es]; exact hq
      rcases List.mem_append.mp hq with hq | hq
      · exact a1 g j _ u (fun z => hj z.symm) g1 hu q hq hu2
      · rw [List.mem_singleton.mp hq] at hu2
        exact fr j u hj hu hu2
    · have hz : q ∈ wAs W ++ [p] := by rw [← es]; exact z
      rcases List.mem_append.mp hz with hz | hz
      · exact a1 j g R _ hj hR g1 q hq hz
      · rw [List.mem_singleton.mp hz] at hq
        exact fr j _ hj hR hq
/-- a list of one's own becomes one of the world -/
theorem s_give (i g : Nat) (hi : δ[i]? = some (.own ds)) (hg : δ[g]? = some (.wd false W)) (h : ∀ q, PSs X rest (sD F ((δ.set i (.dat (ptrD q))).set g (.wd false (W ++ [(q, .lst ds)]))) P)) : PSs X rest (sD F δ P) := wkSs (exSs h) fun D σ H h' => by
  obtain ⟨O, τ, s0, tm, w⟩ := h'
  obtain ⟨q, s1⟩ := give_at s0 hi hg
  exact ⟨q, O, τ, s1, tm, w⟩
end
end Lf
namespace Lf
open PySem PySem.Spec PyProof.Rows L2 LamX
def RW_Picker_chosen (C : Addr) (ds : List PyData) (W : Wd) (Ω : PyData → Wd → Prop) : Prop := ∃ J p S, ds = [ptrD p] ∧ PkAt C W J p S ∧ Ω = fun d W' => ∃ q, d = ptrD q ∧ W' = W ++ [(q, .lst (S.now.2.2.2.map natI))]
def RW_Picker_seen (C : Addr) (ds : List PyData) (W : Wd) (Ω : PyData → Wd → Prop) : Prop := ∃ J p S, ds = [ptrD p] ∧ PkAt C W J p S ∧ okP S ∧ Ω = fun d W' => ∃ q, d = ptrD q ∧ W' = W ++ [(q, .lst S.seen)]
def RW_Picker_done (C : Addr) (ds : List PyData) (W : Wd) (Ω : PyData → Wd → Prop) : Prop := ∃ J p S, ds = [ptrD p] ∧ PkAt C W J p S ∧ okP S ∧ Ω = fun d W' => ∃ q, d = ptrD q ∧ W' = W ++ [(q, .lst (S.doneL.map fun i => tx (S.ls.getD i [])))]
end Lf
set_option Elab.async false
set_option linter.all false
set_option maxRecDepth 100000
set_option maxHeartbeats 4000000
namespace K95
open PySem PySem.Spec PyProof.Rows L2 LamX Lf
section
variable {G : Pg} {T : List (Addr × Str)} {c0 c1 c2 c3 c4 c5 c6 c7 cS cL kPicker PL cM0 PM0 cM1 PM1 cM2 PM2 : Addr}
theorem pw_Picker_chosen (Z : Tx G T c0 c1 c2 c3 c4 c5 c6 c7 cS cL kPicker PL cM0 PM0 cM1 PM1 cM2 PM2) : Md G.prog G.w G.K G.mg G.base kPicker "chosen" 1 ["self"] (spW T (RW_Picker_chosen kPicker)) := by
  refine md_W Z.m_Picker_chosen sc_Picker_chosen (by decide) (fun ds W Ω h => by obtain ⟨J, p, S, rfl, _⟩ := h; rfl) fun r F ds W Ω cd hr h => ?_
  have cx := cd.toCtx
  obtain ⟨J, p, S, rfl, hP, rfl⟩ := h
  obtain ⟨q1, q2, hj, _⟩ := hP.o
  exact s_retW (g := 1) (w_new rfl (x_listTN cx Z.b_list (x_ix ix_tup (od_ixT (show _ = some (PyData.tuple (S.now.2.2.2.map natI)) from rfl)) (x_fld 1 3 Z.k_Picker.cl (Z.k_Picker.na _ (by decide +kernel)) rfl (x_var 0 cx rfl) (mem_at hj) rfl) x_int))) fun d W' h => by
    obtain ⟨q, _, rfl, rfl⟩ := h
    exact ⟨_, rfl, q, rfl, rfl⟩
theorem pw_Picker_seen (Z : Tx G T c0 c1 c2 c3 c4 c5 c6 c7 cS cL kPicker PL cM0 PM0 cM1 PM1 cM2 PM2) : Md G.prog G.w G.K G.mg G.base kPicker "seen" 8 ["self"] (spW T (RW_Picker_seen kPicker)) := by
  refine md_W Z.m_Picker_seen sc_Picker_seen (by decide) (fun ds W Ω h => by obtain ⟨J, p, S, rfl, _⟩ := h; rfl) fun r F ds W Ω cd hr h => ?_
  have cx := cd.toCtx
  obtain ⟨J, p, S, rfl, hP, hS, rfl⟩ := h
  obtain ⟨q1, q2, hj, _⟩ := hP.o
  have hrl := rowsA_len S.M S.ls S.now.1
  have hl60 := hS.l
  have hSz : 100000 ≤ sizeLine := by decide
  have hfl : ∀ l : List Nat, (l.map natI).all flatD = true := fun l => by simp [natI, flatD, Function.comp_def]
  refine (s_asg cd (x_fld 11 3 Z.k_Picker.cl (Z.k_Picker.na _ (by decide +kernel)) rfl (x_var 0 cx rfl) (mem_at hj) rfl) (pg_tup cx.calm (pgs_cons (g_name 1 cd) (pgs_cons (g_name 2 cd) (pgs_cons (g_name 3 cd) (pgs_cons (g_name 4 cd) pgs_nil))))) (tg_tup rfl (tg_cons tg_name (tg_cons tg_name (tg_cons tg_name (tg_cons tg_name tg_nil))))) (s_own 5 cd (x_lstN a_nil) (s_for (List.range S.rows.length) (nrD S) (fun pre_ δ => ∃ s6 s7 s8 s9 s10, δ = [.dat (ptrD p), .dat (tx S.now.1), .dat (.int S.now.2.1), .dat (.int S.now.2.2.1), .dat (.tuple (S.now.2.2.2.map natI)), .own (seenP S pre_), s6, s7, s8, s9, s10, .wd false W]) cd (i_is (i_enumL cx Z.b_enumerate (a_cons (x_mrd0 11 Z.k_Picker.cl (p_Picker_in_turn Z) (hr.mono (by omega)) rfl (mem_at hj) (x_var 0 cx rfl) ⟨_, _, _, rfl, hP, hS, rfl⟩) a_nil)) (enum_rows S)) (pg_tup cx.calm (pgs_cons (g_name 6 cd) (pgs_cons (pg_tup cx.calm (pgs_cons (g_name 7 cd) (pgs_cons (g_name 8 cd) (pgs_cons (g_name 9 cd) (pgs_cons (g_name 10 cd) pgs_nil))))) pgs_nil))) ?_ ?_ ?_)))
  · exact ⟨_, _, _, _, _, rfl⟩
  · intro pre i post δ' hx hI
    obtain ⟨s6, s7, s8, s9, s10, rfl⟩ := hI
    obtain ⟨hi, hin⟩ := range_atx hx
    obtain ⟨n, q, hn, eb⟩ := row_num (getD_row hin)
    have eb : S.rows.getD i (0, ⟨#[]⟩, 0, .none) = _ := eb
    have e0 : S.rows.length = (rowsA S.M S.ls S.now.1).length := rfl
    have hnm := isNm_len (hS.n _ (getD_mem hn))
    have hsl := seen_le S pre
    have hpl : pre.length ≤ 60 := by omega
    refine ⟨_, tg_tup rfl (tg_cons tg_name (tg_cons (tg_tup rfl (tg_cons tg_name (tg_cons tg_name (tg_cons tg_name (tg_cons tg_name tg_nil))))) tg_nil)), ?_⟩
    rw [eb]
    have hsn := seen_snoc S pre i
    refine (s_when (c_chain op_le op_lt od_b0 (fun hb => od_b0) (x_var 3 cx rfl) (x_var 6 cx rfl) (x_op op_add od_i0 (x_var 3 cx rfl) (x_fld 11 2 Z.k_Picker.cl (Z.k_Picker.na _ (by decide +kernel)) rfl (x_var 0 cx rfl) (mem_at hj) rfl))) (fun hc1 => (s_appN 5 cx rfl (x_tup (a_cons (x_cmp op_eq od_eqI (x_var 6 cx rfl) (x_var 2 cx rfl)) (a_cons (x_cmp op_in_seq (od_inT rfl (hfl _)) (x_var 7 cx rfl) (x_var 4 cx rfl)) (a_cons (x_call cx (p_shown_text Z) (hr.mono (by omega)) (a_cons (x_var 8 cx rfl) (a_cons (x_var 10 cx rfl) a_nil)) ⟨_, _, rfl, by omega, rfl⟩) a_nil)))) (by omega) (s_nil (s_nil ?_)))) (fun hc1 => (s_nil ?_)))
    · show ∃ s6 s7 s8 s9 s10, _
      have hc1 : seenB S i = true := hc1
      rw [hsn, if_pos hc1]
      have e1 : seen1 S i = .tuple [.bool (decide ((i : Int) = S.now.2.1)), .bool ((S.now.2.2.2.map natI).any fun z => PyData.eqv z (natI n)), tx (shownL (S.ls.getD n []) q.2)] := by
        unfold seen1
        rw [eb, any_natI]
        show PyData.tuple [_, .bool (decide ((n : Int).toNat ∈ S.now.2.2.2)), tx (shownL ((S.ls.getD n []).toArray.toList) ((lsOf (rowD q.2)).map fun d => (intOf d).toNat))] = _
        rw [row_back, Int.toNat_natCast]
      rw [e1]
      exact ⟨_, _, _, _, _, rfl⟩
    · show ∃ s6 s7 s8 s9 s10, _
      have hc1 : seenB S i = false := hc1
      rw [hsn, if_neg (by rw [hc1]; decide), List.append_nil]
      exact ⟨_, _, _, _, _, rfl⟩
  · intro δ' hI
    obtain ⟨s6, s7, s8, s9, s10, rfl⟩ := hI
    exact s_give 5 11 rfl rfl fun q => s_retS (x_var 5 cx rfl) ⟨_, rfl, q, rfl, rfl⟩
theorem pw_Picker_done (Z : Tx G T c0 c1 c2 c3 c4 c5 c6 c7 cS cL kPicker PL cM0 PM0 cM1 PM1 cM2 PM2) : Md G.prog G.w G.K G.mg G.base kPicker "done" 9 ["self"] (spW T (RW_Picker_done kPicker)) := by
  refine md_W Z.m_Picker_done sc_Picker_done (by decide) (fun ds W Ω h => by obtain ⟨J, p, S, rfl, _⟩ := h; rfl) fun r F ds W Ω cd hr h => ?_
  have cx := cd.toCtx
  obtain ⟨J, p, S, rfl, hP, hS, rfl⟩ := h
  obtain ⟨q1, q2, hj, _⟩ := hP.o
  have hsl := hS.now.some_le
  have hl60 := hS.l
  have hSz : 100000 ≤ sizeLine := by decide
  obtain ⟨l, hl, hll, hlm⟩ : ∃ l, S.doneL = l ∧ l.length ≤ 60 ∧ ∀ x ∈ l, x < S.ls.length := by
    refine ⟨_, rfl, ?_⟩
    unfold PSt.doneL
    split
    · cases e : S.at_ with
      | none => exact ⟨by decide, fun x hx => by cases hx⟩
      | some x => exact ⟨by show 1 ≤ 60; decide, fun y hy => by rw [List.mem_singleton.mp hy]; exact (at_lt hS e).1⟩
    · exact ⟨by omega, hS.now.m⟩
  refine (s_set 1 cd (x_mrd0 3 Z.k_Picker.cl (p_Picker_chosen Z) (hr.mono (by omega)) rfl (mem_at hj) (x_var 0 cx rfl) ⟨_, _, _, rfl, hP, rfl⟩) (s_ifM (fun δ => ∃ s2, δ = [.dat (ptrD p), .dat (.list (l.map natI)), s2, .wd false W]) (PW.pt (w_and (c_cmp (op_eqD hr.units) (od_eqD lay_nats lay_emp) (x_var 1 cx rfl) (x_lst a_nil)) fun hb => (w_one (c_cmp op_notN od_notN (x_mrd0 3 Z.k_Picker.cl (p_Picker_at Z) (hr.mono (by omega)) rfl (mem_at hj) (x_var 0 cx rfl) ⟨_, _, _, rfl, hP, hS, rfl⟩) x_none)))) (fun hc1 => ?_) (fun hc1 => ?_) ?_))
  · refine (s_set 1 cd (x_lst (a_cons (x_mrd0 3 Z.k_Picker.cl (p_Picker_at Z) (hr.mono (by omega)) rfl (mem_at hj) (x_var 0 cx rfl) ⟨_, _, _, rfl, hP, hS, rfl⟩) a_nil)) (s_nil ?_))
    rw [nats_emp] at hc1
    simp only [Bool.and_eq_true, decide_eq_true_eq] at hc1
    cases e : S.at_ with
    | none => rw [e] at hc1; cases hc1.2
    | some x =>
      have : l = [x] := by
        rw [← hl]
        unfold PSt.doneL
        rw [if_pos hc1.1, e]
      show ∃ s2, _
      rw [this]
      exact ⟨_, rfl⟩
  · refine s_nil ?_
    rw [nats_emp] at hc1
    have : l = S.now.2.2.2 := by
      rw [← hl]
      unfold PSt.doneL
      split
      · rename_i h
        cases e : S.at_ with
        | none => exact h.symm
        | some x => rw [e, h] at hc1; cases hc1
      · rfl
    show ∃ s2, _
    rw [this]
    exact ⟨_, rfl⟩
  · intro δ' hI
    obtain ⟨s2, rfl⟩ := hI
    refine s_retW (g := 3) (w_new rfl (x_lc [("number", 2)] (_) (_) _ _ _ cx (i_list (x_var 1 cx rfl)) (by omega) (by decide +kernel) (fun s H C cl fp => g_nameB 2 (cx.blk s H _ C cl fp)) (fun x hx => tg_name) (wg_name (by decide)) (fun x hx s H C cl fp => ts_nil) (fun x hx hq s H C cl fp => (x_ix ix_tup (od_ixT rfl) (x_ix ix_list (od_ixL (pair_at (hlm x hx))) (x_fld 3 1 Z.k_Picker.cl (Z.k_Picker.na _ (by decide +kernel)) rfl (x_var 0 (cx.blk s H _ C cl fp) rfl) (mem_at hj) rfl) (x_var 2 (cx.blk s H _ C cl fp) rfl)) x_int)))) fun d W' h => ?_
    obtain ⟨q, _, rfl, rfl⟩ := h
    refine ⟨_, rfl, q, rfl, ?_⟩
    rw [hl, filter_tt]
end
end K95
set_option Elab.async false
set_option linter.all false
set_option maxRecDepth 100000
set_option maxHeartbeats 1000000
namespace Lf
open PySem PySem.Spec PyProof.Rows L2 LamX
theorem at_tall (m : Int) : ∃ t : Int, atI [PyData.int 2, .int 5, .int 20] (m % 3) = some (.int t) ∧ (2 ≤ t ∧ t ≤ 20) := by
  have h1 := Int.emod_nonneg m (show (3 : Int) ≠ 0 by decide)
  have h2 := Int.emod_lt_of_pos m (show (0 : Int) < 3 by decide)
  obtain ⟨k, hk⟩ : ∃ k : Nat, m % 3 = (k : Int) := ⟨(m % 3).toNat, by omega⟩
  rw [hk]
  have : k = 0 ∨ k = 1 ∨ k = 2 := by omega
  rcases this with rfl | rfl | rfl
  · exact ⟨2, rfl, by decide, by decide⟩
  · exact ⟨5, rfl, by decide, by decide⟩
  · exact ⟨20, rfl, by decide, by decide⟩
theorem P9.new {C : Addr} {W : Wd} {p qo qa qb : Addr} {M : Mk} {ls : List (List Nat)} {tall : Int} (h : PkAt C W (1, 2, 3) p ⟨M, ls, tall, ([], 0, 0, []), [], []⟩) (ok : okP ⟨M, ls, tall, ([], 0, 0, []), [], []⟩) (h7 : ∀ l ∈ ls, l.length ≤ 12) :
    P9 C (((W ++ [(qo, .dic (ownP ⟨M, ls, tall, ([], 0, 0, []), [], []⟩ qa qb))]) ++ [(qa, .lst [])]) ++ [(qb, .lst [])]) (1, 2, 3) p ⟨M, ls, tall, ([], 0, 0, []), [], []⟩ W.length (W.length + 1) (W.length + 2) qo qa qb 0 := by
  obtain ⟨l1, l2, l3⟩ := h.lt
  have l1 : 1 < W.length := l1
  have l2 : 2 < W.length := l2
  have l3 : 3 < W.length := l3
  refine ⟨((h.app).app).app, ok, tk_zero ok.t0 _ _, (fun s hs => by cases hs), (fun s hs => by cases hs), h7, wapp (wapp w_last), ?_, ?_, by omega, by omega, by omega, ⟨by show W.length ≠ 1; omega, by show W.length ≠ 2; omega, by show W.length ≠ 3; omega⟩, ⟨by show W.length + 1 ≠ 1; omega, by show W.length + 1 ≠ 2; omega, by show W.length + 1 ≠ 3; omega⟩, ⟨by show W.length + 2 ≠ 1; omega, by show W.length + 2 ≠ 2; omega, by show W.length + 2 ≠ 3; omega⟩, Nat.le_refl _, rfl⟩
  · simp
  · simp
theorem P9.stay {C : Addr} {W W' : Wd} {J : J3} {p : Addr} {S : PSt} {o a b : Nat} {qo qa qb : Addr} {n : Nat} (h : P9 C W J p S o a b qo qa qb n) (k : ∀ (i : Nat) x, W[i]? = some x → W'[i]? = some x) : P9 C W' J p S o a b qo qa qb n :=
  { h with f := h.f.keep fun i _ x e => k i x e, wo := k _ _ h.wo, wa := k _ _ h.wa, wb := k _ _ h.wb }
theorem P9.stay1 {C : Addr} {W : Wd} {J : J3} {p : Addr} {S : PSt} {o a b : Nat} {qo qa qb : Addr} {n : Nat} {q r : Addr × MO} (h : P9 C W J p S o a b qo qa qb n) : P9 C ((W ++ [q]).set W.length r) J p S o a b qo qa qb n :=
  h.stay fun i x e => wset_ne (wapp e) (by have := wlt e; omega)
theorem P9.zero {C : Addr} {W : Wd} {J : J3} {p : Addr} {S : PSt} {o a b : Nat} {qo qa qb : Addr} {n : Nat} (h : P9 C W J p S o a b qo qa qb n) (e : S.past.length = 0) : S.past = [] ∧ S.now.1 = [] := by
  have e := List.length_eq_zero_iff.mp e
  refine ⟨e, ?_⟩
  have := h.b0
  rw [e] at this
  have := Option.some.inj this
  rw [this]
theorem pk_len {M : Mk} {ls : List (List Nat)} {s : Nw} (h : okN M ls s) (hl : ls.length ≤ 60) : (s.2.2.2.map natI).length < 100000 := by
  have := h.some_le
  rw [List.length_map]
  omega
theorem pk_len2 {S : PSt} (h : okP S) : S.seen.length < 100000 := by
  have h1 := rowsA_len S.M S.ls S.now.1
  have h2 := h.l
  unfold PSt.seen
  rw [List.length_map]
  have h3 := List.length_filter_le (fun (i : Nat) => decide (S.now.2.2.1 ≤ (i : Int)) && decide ((i : Int) < S.now.2.2.1 + S.tall)) (List.range S.rows.length)
  rw [List.length_range] at h3
  have h4 : S.rows.length ≤ S.ls.length := h1
  omega
theorem pk_len3 {S : PSt} (h : okP S) : (S.doneL.map fun i => tx (S.ls.getD i [])).length < 100000 := by
  have h1 := h.now.some_le
  have h2 := h.l
  rw [List.length_map]
  unfold PSt.doneL
  split
  · split
    · show 0 < 100000; omega
    · show 1 < 100000; omega
  · omega
end Lf
set_option Elab.async false
set_option linter.all false
set_option maxRecDepth 100000
set_option maxHeartbeats 4000000
namespace K95
open PySem PySem.Spec PyProof.Rows L2 LamX Lf
section
variable {G : Pg} {T : List (Addr × Str)} {c0 c1 c2 c3 c4 c5 c6 c7 cS cL kPicker PL cM0 PM0 cM1 PM1 cM2 PM2 : Addr}
abbrev forB : Stmt → List Stmt
  | .For _ _ b _ _ => b
  | _ => []
abbrev tl_law : List Stmt := ((defBody st_law).flatMap forB).drop 6
theorem set3 (A : Wd) (x y z w : Addr × MO) : ((((A ++ [x]) ++ [y]) ++ [z]).set A.length w) = ((A ++ [w]) ++ [y]) ++ [z] := by
  rw [List.append_assoc, List.append_assoc, List.set_append_right _ _ (Nat.le_refl _), Nat.sub_self]
  simp
theorem law_tail (Z : Tx G T c0 c1 c2 c3 c4 c5 c6 c7 cS cL kPicker PL cM0 PM0 cM1 PM1 cM2 PM2) (r : Rest) (F : Fx G.K T) (cd : CtD (G.cx nm_law r) nm_law (defScope st_law) F.E) (co : Co (G.cx nm_law r) cL ("law" ++ ".<locals>.")) (hr : Room 49 r.A) {d0 d1 d3 d4 d5 d6 d9 d10 d11 : Slot} {more : Int} {p qo qa qb : Addr} {S0 : PSt} {W0 : Wd} {J0 : J3} {o a b : Nat} {P : Post} (h9 : P9 kPicker W0 J0 p S0 o a b qo qa qb 0)
    (hnx : ∀ s9 s10 s11 W', P.nx [d0, d1, .dat (.int more), d3, d4, d5, d6, .dat (ptrD p), .dat (ptrD qo), s9, s10, s11, .wd false W']) : PSs (G.cx nm_law r) tl_law (sD F [d0, d1, .dat (.int more), d3, d4, d5, d6, .dat (ptrD p), .dat (ptrD qo), d9, d10, d11, .wd false W0] P) := by
  have cx := cd.toCtx
  have hb0 := Int.emod_nonneg (more / 4096) (show (25 : Int) ≠ 0 by decide)
  have hb1 := Int.emod_lt_of_pos (more / 4096) (show (0 : Int) < 25 by decide)
  refine s_for (List.range (6 + more / 4096 % 25).toNat) natI (fun pre δ => ∃ s9 W' J S, P9 kPicker W' J p S o a b qo qa qb pre.length ∧ δ = [d0, d1, .dat (.int more), d3, d4, d5, d6, .dat (ptrD p), .dat (ptrD qo), s9, d10, d11, .wd false W']) cd (i_range1 cx Z.b_range (a_cons (x_op op_add od_i0 x_int (x_op op_mod (od_iC (by decide)) (x_op op_fdivW (od_iC (div_sm (by decide) (by decide))) (x_var 2 cx rfl) x_int) x_int)) a_nil) (by omega) (by omega)) (g_name 9 cd) ⟨_, _, _, _, h9, rfl⟩ ?_ ?_
  · intro pre1 j post1 δ1 hx1 hI1
    obtain ⟨s9, W1, J, S, hP, rfl⟩ := hI1
    have hpl : pre1.length < 31 := by
      have := congrArg List.length hx1
      simp at this
      omega
    refine ⟨_, tg_name, ?_⟩
    refine s_whenW (g := 12) (PW.pt (cw_or (Ω1 := fun b' W' => b' = false ∧ ∃ J' S', P9 kPicker W' J' p S' o a b qo qa qb (pre1.length + 1)) (Ω2 := fun W1 b' W' => b' = false ∧ W' = W1) (cw_imp (cw_not (cw_val (Ωb := fun b' W' => b' = true ∧ ∃ J' S', P9 kPicker W' J' p S' o a b qo qa qb (pre1.length + 1)) (w_imp (x_cwr 12 cx (pw_law_picker_step Z) (hr.mono (by omega)) rfl (a_cons (x_var 7 cx rfl) (a_cons (x_var 8 cx rfl) (a_cons (x_call cx (p_law_drawn Z) (hr.mono (by omega)) (a_cons (x_var 2 cx rfl) (a_cons (x_op op_add od_i0 x_int (x_var 9 cx rfl)) a_nil)) ⟨_, _, rfl, rfl⟩) a_nil))) ⟨_, _, _, _, _, _, _, _, _, _, _, rfl, hP, by omega, rfl⟩) (fun d W' h => ⟨true, h.1, rfl, h.2⟩)))) (fun b' W' h => ⟨(by cases b' with | false => rfl | true => exact absurd h.1 (by decide)), h.2⟩)) fun W' h => ?_)) (fun W4 h4 => ?_) fun W4 h4 => ?_
    · obtain ⟨_, J', S', hP'⟩ := h
      exact cw_one (cw_imp (cw_pure (W := W') rfl (c_not (c_val (x_crd 12 cx (p_law_picker_like Z) (hr.mono (by omega)) rfl (a_cons (x_var 7 cx rfl) (a_cons (x_var 8 cx rfl) a_nil)) ⟨_, _, _, _, _, _, _, _, _, _, rfl, hP', rfl⟩)))) fun b W1 h => ⟨h.1, h.2⟩)
    · rcases h4 with ⟨_, z, _⟩ | ⟨_, _, z, _⟩ <;> cases z
    · obtain ⟨J', S', hP'⟩ : ∃ J' S', P9 kPicker W4 J' p S' o a b qo qa qb (pre1.length + 1) := by
        rcases h4 with ⟨z, _⟩ | ⟨W5, h5, _, rfl⟩
        · cases z
        · exact h5.2
      exact s_nil ⟨_, _, _, _, by rw [List.length_append]; exact hP', rfl⟩
  intro δ1 hI1
  obtain ⟨s9, W1, J, S, hP, rfl⟩ := hI1
  rw [List.length_range] at hP
  have hnn : (6 + more / 4096 % 25).toNat ≤ 1000 := by omega
  generalize (6 + more / 4096 % 25).toNat = nn at hP hnn
  obtain ⟨q1, q2, hj, _⟩ := hP.f.o
  refine s_exprW (g := 12) (x_wappO W1.length (by show 12 < 13; decide) (x_mwr0 12 Z.k_Picker.cl (pw_Picker_chosen Z) (hr.mono (by omega)) rfl (mem_at hj) (x_var 7 cx rfl) ⟨_, _, _, rfl, hP.f, rfl⟩) (fun d' W' h => by obtain ⟨q, rfl, rfl⟩ := h; exact ⟨q, _, rfl, w_last, pk_len hP.ok.now hP.ok.l⟩) (fun W' => x_none)) fun d W2 h => ?_
  obtain ⟨rfl, q, _, ds, ⟨q', _, rfl⟩, _, rfl⟩ := h
  have hP2 := hP.stay1 (q := (q', .lst (S.now.2.2.2.map natI))) (r := (q, MO.lst (ds ++ [.none])))
  generalize (W1 ++ [(q', MO.lst (S.now.2.2.2.map natI))]).set W1.length (q, MO.lst (ds ++ [.none])) = W2 at hP2 ⊢
  clear hP hj
  obtain ⟨q1, q2, hj, _⟩ := hP2.f.o
  refine s_exprW (g := 12) (x_wappO W2.length (by show 12 < 13; decide) (x_mwr0 12 Z.k_Picker.cl (pw_Picker_seen Z) (hr.mono (by omega)) rfl (mem_at hj) (x_var 7 cx rfl) ⟨_, _, _, rfl, hP2.f, hP2.ok, rfl⟩) (fun d' W' h => by obtain ⟨q, rfl, rfl⟩ := h; exact ⟨q, _, rfl, w_last, pk_len2 hP2.ok⟩) (fun W' => x_none)) fun d W3 h => ?_
  obtain ⟨rfl, q, _, ds, ⟨q', _, rfl⟩, _, rfl⟩ := h
  have hP3 := hP2.stay1 (q := (q', .lst S.seen)) (r := (q, MO.lst (ds ++ [.none])))
  generalize (W2 ++ [(q', MO.lst S.seen)]).set W2.length (q, MO.lst (ds ++ [.none])) = W3 at hP3 ⊢
  clear hP2 hj
  obtain ⟨q1, q2, hj, _⟩ := hP3.f.o
  refine s_exprW (g := 12) (x_wappO W3.length (by show 12 < 13; decide) (x_mwr0 12 Z.k_Picker.cl (pw_Picker_done Z) (hr.mono (by omega)) rfl (mem_at hj) (x_var 7 cx rfl) ⟨_, _, _, rfl, hP3.f, hP3.ok, rfl⟩) (fun d' W' h => by obtain ⟨q, rfl, rfl⟩ := h; exact ⟨q, _, rfl, w_last, pk_len3 hP3.ok⟩) (fun W' => x_none)) fun d W4 h => ?_
  obtain ⟨rfl, q, _, ds, ⟨q', _, rfl⟩, _, rfl⟩ := h
  have hP4 := hP3.stay1 (q := (q', .lst (S.doneL.map fun i => tx (S.ls.getD i [])))) (r := (q, MO.lst (ds ++ [.none])))
  generalize (W3 ++ [(q', MO.lst (S.doneL.map fun i => tx (S.ls.getD i [])))]).set W3.length (q, MO.lst (ds ++ [.none])) = W4 at hP4 ⊢
  clear hP3 hj
  refine s_when (k := false) (c_is (c_not (c_val (x_crd 12 cx (p_law_picker_like Z) (hr.mono (by omega)) rfl (a_cons (x_var 7 cx rfl) (a_cons (x_var 8 cx rfl) a_nil)) ⟨_, _, _, _, _, _, _, _, _, _, rfl, hP4, rfl⟩))) rfl) (fun hc => by cases hc) fun _ => ?_
  refine s_set 10 cd (x_wlenL 12 cx Z.b_len rfl (mem_at hP4.wa) (x_wget 12 (hu1 hr) rfl (mem_at hP4.wo) (x_var 8 cx rfl) (x_txt kPast) (show tx _ = keyD (kx _) from rfl) (own_past S qa qb))) ?_
  have hz := hP4.z
  rw [List.length_map]
  refine s_for (List.range ((S.past.length : Int)).toNat) natI (fun pre δ => ∃ s11 W' S', (P9 kPicker W' J p S' o a b qo qa qb nn ∧ S'.past.length = S.past.length - pre.length) ∧ δ = [d0, d1, .dat (.int more), d3, d4, d5, d6, .dat (ptrD p), .dat (ptrD qo), s9, .dat (.int (S.past.length : Int)), s11, .wd false W']) cd (i_range1 cx Z.b_range (a_cons (x_var 10 cx rfl) a_nil) (by omega) (by omega)) (g_name 11 cd) ⟨_, _, _, ⟨hP4, rfl⟩, rfl⟩ ?_ ?_
  · intro pre1 j post1 δ1 hx1 hI1
    obtain ⟨s11, W1, S1, ⟨hP, hl⟩, rfl⟩ := hI1
    refine ⟨_, tg_name, ?_⟩
    refine s_whenW (g := 12) (Ωb := fun b' W' => b' = false ∧ ∃ S', P9 kPicker W' J p S' o a b qo qa qb nn ∧ S'.past.length = S1.past.length - 1) (cw_imp (cw_not (cw_val (Ωb := fun b' W' => b' = true ∧ ∃ S', P9 kPicker W' J p S' o a b qo qa qb nn ∧ S'.past.length = S1.past.length - 1) (w_imp (x_cwr 12 cx (pw_law_back Z) (hr.mono (by omega)) rfl (a_cons (x_var 7 cx rfl) (a_cons (x_var 8 cx rfl) (a_cons x_int a_nil))) ⟨_, _, _, _, _, _, _, _, _, _, 0, rfl, .inl rfl, hP, by omega, rfl⟩) (fun d W' h => ⟨true, h.1, rfl, let ⟨S', h1, h2⟩ := h.2; ⟨S', h1, h2 rfl⟩⟩)))) (fun b' W' h => ⟨(by cases b' with | false => rfl | true => exact absurd h.1 (by decide)), h.2⟩)) (fun W4 h4 => ?_) fun W4 h4 => ?_
    · cases h4.1
    · obtain ⟨_, S', hP', hl'⟩ := h4
      exact s_nil ⟨_, _, _, ⟨hP', by rw [hl', hl, List.length_append]; show _ = _ - (_ + 1); omega⟩, rfl⟩
  intro δ1 hI1
  obtain ⟨s11, W5, S5, ⟨hP5, hl5⟩, rfl⟩ := hI1
  rw [List.length_range] at hl5
  obtain ⟨he, hn0⟩ := hP5.zero (by omega)
  obtain ⟨q1, q2, hj, _⟩ := hP5.f.o
  refine s_when (k := false) (c_is (PW.pt (w_or (c_not (c_val (x_crd 12 cx (p_law_picker_like Z) (hr.mono (by omega)) rfl (a_cons (x_var 7 cx rfl) (a_cons (x_var 8 cx rfl) a_nil)) ⟨_, _, _, _, _, _, _, _, _, _, rfl, hP5, rfl⟩))) fun _ => w_or (c_cmp op_ne od_neS (x_mrd0 12 Z.k_Picker.cl (p_Picker_ask Z) (hr.mono (by omega)) rfl (mem_at hj) (x_var 7 cx rfl) ⟨_, _, _, rfl, hP5.f, rfl⟩) (x_txt [])) fun _ => w_one (c_cmp op_ne od_neS (x_told (k := 12) (r := .error _) cx co (p_told Z) Z.tb_law Z.hm_law Z.hu_law (hr.mono (by omega)) (told_w (l := wNothing) Z.w_Nothing rfl rfl) (fun A outer s H E f c' cy ty hy => (x_mrdX0 12 ty Z.k_Picker.cl (px_Picker_undo Z) (hy.mono (by omega)) rfl (mem_at hj) (x_var 7 cy rfl) ⟨_, _, _, rfl, hP5.f, hP5.ok, he, rfl⟩))) (x_txt [78, 111, 116, 104, 105, 110, 103])))) (by rw [hn0]; decide)) (fun hc => by cases hc) fun _ => ?_
  refine s_for (List.range ((S.past.length : Int)).toNat) natI (fun pre δ => ∃ s11 W' S', P9 kPicker W' J p S' o a b qo qa qb nn ∧ δ = [d0, d1, .dat (.int more), d3, d4, d5, d6, .dat (ptrD p), .dat (ptrD qo), s9, .dat (.int (S.past.length : Int)), s11, .wd false W']) cd (i_range1 cx Z.b_range (a_cons (x_var 10 cx rfl) a_nil) (by omega) (by omega)) (g_name 11 cd) ⟨_, _, _, hP5, rfl⟩ ?_ ?_
  · intro pre1 j post1 δ1 hx1 hI1
    obtain ⟨s11, W1, S1, hP, rfl⟩ := hI1
    refine ⟨_, tg_name, ?_⟩
    refine s_whenW (g := 12) (Ωb := fun b' W' => b' = false ∧ ∃ S', P9 kPicker W' J p S' o a b qo qa qb nn) (cw_imp (cw_not (cw_val (Ωb := fun b' W' => b' = true ∧ ∃ S', P9 kPicker W' J p S' o a b qo qa qb nn) (w_imp (x_cwr 12 cx (pw_law_back Z) (hr.mono (by omega)) rfl (a_cons (x_var 7 cx rfl) (a_cons (x_var 8 cx rfl) (a_cons x_int a_nil))) ⟨_, _, _, _, _, _, _, _, _, _, 1, rfl, .inr rfl, hP, by omega, rfl⟩) (fun d W' h => ⟨true, h.1, rfl, let ⟨S', h1, _⟩ := h.2; ⟨S', h1⟩⟩)))) (fun b' W' h => ⟨(by cases b' with | false => rfl | true => exact absurd h.1 (by decide)), h.2⟩)) (fun W4 h4 => ?_) fun W4 h4 => ?_
    · cases h4.1
    · obtain ⟨_, S', hP'⟩ := h4
      exact s_nil ⟨_, _, _, hP', rfl⟩
  intro δ1 hI1
  obtain ⟨s11, W6, S6, hP6, rfl⟩ := hI1
  refine s_when (k := false) (c_is (c_not (c_val (x_crd 12 cx (p_law_picker_like Z) (hr.mono (by omega)) rfl (a_cons (x_var 7 cx rfl) (a_cons (x_var 8 cx rfl) a_nil)) ⟨_, _, _, _, _, _, _, _, _, _, rfl, hP6, rfl⟩))) rfl) (fun hc => by cases hc) fun _ => ?_
  exact s_nil (hnx _ _ _ _)
end
end K95
set_option Elab.async false
set_option linter.all false
set_option maxRecDepth 100000
set_option maxHeartbeats 4000000
namespace K95
open PySem PySem.Spec PyProof.Rows L2 LamX Lf
section
variable {G : Pg} {T : List (Addr × Str)} {c0 c1 c2 c3 c4 c5 c6 c7 cS cL kPicker PL cM0 PM0 cM1 PM1 cM2 PM2 : Addr}
theorem p_law (Z : Tx G T c0 c1 c2 c3 c4 c5 c6 c7 cS cL kPicker PL cM0 PM0 cM1 PM1 cM2 PM2) {fL : Addr} {oc kV doc pm ct : Value} {od an : Option Addr} {osl : Array (Option Value)} (lk : G.K.lookup fL = some ⟨oc, od, .func (PySem.W.fnOf "law" "law" (defArgs st_law) (defBody st_law) (defScope st_law) .none kV doc pm an (.ref cL) ct), osl⟩) (hcd : PySem.W.codeIn G.K (.ref cL) "law" = true) :
    FnOk G.prog G.w G.K G.mg G.base (L2N.CX G.prog G.w) 50 fL (PySem.W.fnOf "law" "law" (defArgs st_law) (defBody st_law) (defScope st_law) .none kV doc pm an (.ref cL) ct) ["script"] (spLaw T G.K fun ns => ns.length ≤ 63) := by
  refine fn_lawW lk hcd sc_law (by decide) fun r F ns cd co hr hl => ?_
  have cx := cd.toCtx
  have hns : ns.length ≤ 100000 := by omega
  have hSz : 100000 ≤ sizeLine := by decide
  refine (s_for (List.range _) (natI) (fun pre_ δ => ∃ s1 s2 s3 s4 s5 s6 s7 s8 s9 s10 s11 W0, δ = [.scr ns, s1, s2, s3, s4, s5, s6, s7, s8, s9, s10, s11, .wd false W0]) cd (i_range1 cx Z.b_range (a_cons (x_bi cx (call_max2 cx.calm) cd_max2 Z.b_max (by decide +kernel) (a_cons x_int (a_cons (x_bi cx (call_min2 cx.calm) cd_min2 Z.b_min (by decide +kernel) (a_cons x_int (a_cons (x_slen 0 cx rfl rfl Z.b_len) a_nil))) a_nil))) a_nil) (by first | omega | decide | (simp; omega) | assumption) (by first | omega | decide | (simp; omega) | assumption)) (g_name 1 cd) ?_ ?_ ?_)
  · exact ⟨_, _, _, _, _, _, _, _, _, _, _, _, rfl⟩
  · intro pre k post δ' hx hI
    obtain ⟨s1, s2, s3, s4, s5, s6, s7, s8, s9, s10, s11, W0, rfl⟩ := hI
    have hk : k < 1000 := by
      have hm : k ∈ pre ++ k :: post := by simp
      rw [← hx] at hm
      have := List.mem_range.mp hm
      omega
    refine ⟨_, tg_name, ?_⟩
    refine s_wdrop 12 rfl ?_
    refine (s_set 2 cd (x_call cx (p_law_drawn Z) (hr.mono (by omega)) (a_cons (x_cell 0 cx rfl rfl (p_law_cell Z) (hr.mono (by omega)) (x_var 1 cx rfl) hns hk) (a_cons (x_var 1 cx rfl) a_nil)) ⟨_, _, rfl, rfl⟩) ?_)
    generalize drawn (cell ns k) (k : Int) = more
    obtain ⟨tl, etl, htl⟩ := at_tall (more / 512)
    have hb0 := Int.emod_nonneg more (show tl ≠ 0 by omega)
    have hb1 := Int.emod_lt_of_pos more (show 0 < tl by omega)
    refine s_par3W (g := 12) 3 4 5 cd (aw_cons (x_cwr 12 cx (pw_law_names Z) (hr.mono (by omega)) rfl (a_cons (x_op op_fdivW (od_iC (div_sm (by decide) (by decide))) (x_var 2 cx rfl) x_int) (a_cons x_int (a_cons x_int a_nil))) ⟨_, _, _, rfl, by decide, by decide, by decide, by decide, rfl⟩) fun d1 W1 h1 => aw_cons (w_pure (W := W1) rfl (x_call cx (p_law_marks Z) (hr.mono (by omega)) (a_cons (x_op op_fdivW (od_iC (div_sm (by decide) (by decide))) (x_var 2 cx rfl) x_int) a_nil) ⟨_, rfl, rfl⟩)) fun d2 W2 h2 => aw_cons (w_pure (W := W2) rfl (x_op op_add od_i0 x_int (x_op op_mod (od_iC (by omega)) (x_var 2 cx rfl) (x_ix ix_list (od_ixL (d := .int tl) etl) (x_lst (a_cons x_int (a_cons x_int (a_cons x_int a_nil)))) (x_op op_mod (od_iC (by decide)) (x_op op_fdivW (od_iC (div_sm (by decide) (by decide))) (x_var 2 cx rfl) x_int) x_int))))) fun d3 W3 h3 => aw_nil (W := W3) rfl) fun ds W' h => ?_
    obtain ⟨_, W1, es, ⟨qn, _, rfl, rfl⟩, ⟨_, W2, es2, ⟨rfl, rfl⟩, ⟨_, W3, es3, ⟨rfl, rfl⟩, ⟨rfl, rfl⟩, rfl⟩, rfl⟩, rfl⟩ := h
    refine ⟨_, _, _, rfl, ?_⟩
    have hM := mkL_ok (more / 64)
    generalize mkL (more / 64) = M at hM ⊢
    have hlz := namesM_len (more := more / 8) (many := 9) (most := 7) (by decide)
    have hnl := namesM_ok (more := more / 8) (many := 9) (most := 7) (by decide) (by decide)
    generalize namesM (more / 8) 9 7 = ls at hlz hnl ⊢
    obtain ⟨tall, ht⟩ : ∃ tall, tall = 1 + more % tl := ⟨_, rfl⟩
    rw [← ht]
    have ht0 : 1 ≤ tall := by omega
    have ht1 : tall ≤ 20 := by omega
    show PSs _ _ (sD F [_, _, _, _, _, _, _, _, _, _, _, _, _] _)
    refine s_set 6 cd (x_wlist 12 rfl (mem_at (j := 0) rfl) cx Z.b_list (x_var 3 cx rfl)) ?_
    show PSs _ _ (sD F [_, _, _, _, _, _, _, _, _, _, _, _, _] _)
    refine s_setW (g := 12) 7 cd (x_make 12 cx Z.k_Picker.mg (pw_Picker_init Z) (hr.mono (by omega)) rfl (a_cons (x_var 4 cx rfl) (a_cons (x_var 3 cx rfl) (a_cons (x_var 5 cx rfl) a_nil))) (fun q hq => ⟨1, 0, q, qn, M, ls, tall, rfl, hM, by omega, fun l hl => (hnl l hl).1, ht0, ht1, rfl, rfl, by decide, rfl⟩)) fun d1 W1 h1 => ?_
    obtain ⟨p, _, rfl, hPk, hKp⟩ := h1
    have hPk : PkAt kPicker W1 (1, 2, 3) p ⟨M, ls, tall, ([], 0, 0, []), [], []⟩ := hPk
    have hKp : Kps (1, 2, 3) [(qn, .lst (ls.map tx)), (p, .ins kPicker [] [])] W1 := hKp
    have w0 := hKp.k 0 _ rfl (by show (0 : Nat) ≠ 1; decide) (by show (0 : Nat) ≠ 2; decide) (by show (0 : Nat) ≠ 3; decide)
    show PSs _ _ (sD F [_, _, _, _, _, _, _, _, _, _, _, _, _] _)
    refine s_exprW (g := 12) (x_wapp 0 rfl w0 (x_var 3 cx rfl) (x_txt [122]) (by rw [List.length_map]; omega)) fun d2 W2 h2 => ?_
    obtain ⟨rfl, rfl⟩ := h2
    have hPk2 := hPk.keep (W' := W1.set 0 (qn, .lst (ls.map tx ++ [tx [122]]))) fun i hi x e => wset_ne e (by rcases hi with z | z | z <;> (rw [z]; show (0 : Nat) ≠ _; decide))
    have w0l := wlt w0
    have hok := okP_start hM (by omega) (fun l hl => (hnl l hl).1) ht0 ht1
    generalize W1.set 0 (qn, .lst (ls.map tx ++ [tx [122]])) = W2 at hPk2 ⊢
    show PSs _ _ (sD F [_, _, _, _, _, _, _, _, _, _, _, _, _] _)
    refine s_setW (g := 12) 8 cd (w_disp (W := W2) rfl (fun q hq => ppw_cons (x_txt kMarks) (show tx _ = keyD (kx _) from rfl) (w_pure rfl (x_var 4 cx rfl)) fun d1 W1 h1 => ppw_cons (x_txt kNames) (show tx _ = keyD (kx _) from rfl) (w_pure (W := W1) rfl (x_var 6 cx rfl)) fun d2 W2 h2 => ppw_cons (x_txt kTall) (show tx _ = keyD (kx _) from rfl) (w_pure (W := W2) rfl (x_var 5 cx rfl)) fun d3 W3 h3 => ppw_cons (x_txt kNow) (show tx _ = keyD (kx _) from rfl) (w_pure (W := W3) rfl (x_tup (a_cons (x_txt []) (a_cons x_int (a_cons x_int (a_cons (x_lst a_nil) a_nil)))))) fun d4 W4 h4 => ppw_cons (x_txt kPast) (show tx _ = keyD (kx _) from rfl) (w_new (W := W4) rfl (x_lstN a_nil)) fun d5 W5 h5 => ppw_cons (x_txt kAhead) (show tx _ = keyD (kx _) from rfl) (w_new (W := W5) rfl (x_lstN a_nil)) fun d6 W6 h6 => ppw_nil (W := W6) rfl) (fun q kvs W' h => ?_)) fun d W' h => ?_
    · obtain ⟨_, _, _, ⟨rfl, rfl⟩, ⟨_, _, _, ⟨rfl, rfl⟩, ⟨_, _, _, ⟨rfl, rfl⟩, ⟨_, _, _, ⟨rfl, rfl⟩, ⟨_, _, _, ⟨qa, _, rfl, rfl⟩, ⟨_, _, _, ⟨qb, _, rfl, rfl⟩, ⟨rfl, rfl⟩, rfl⟩, rfl⟩, rfl⟩, rfl⟩, rfl⟩, rfl⟩ := h
      exact ⟨wapp (wapp w_last), (by show [kx kMarks, kx kNames, kx kTall, kx kNow, kx kPast, kx kAhead].Nodup; decide), (by show 6 ≤ 15; decide)⟩
    obtain ⟨qo, kvs, W3, _, ⟨_, _, _, ⟨rfl, rfl⟩, ⟨_, _, _, ⟨rfl, rfl⟩, ⟨_, _, _, ⟨rfl, rfl⟩, ⟨_, _, _, ⟨rfl, rfl⟩, ⟨_, _, _, ⟨qa, _, rfl, rfl⟩, ⟨_, _, _, ⟨qb, _, rfl, rfl⟩, ⟨rfl, rfl⟩, rfl⟩, rfl⟩, rfl⟩, rfl⟩, rfl⟩, rfl⟩, rfl, rfl⟩ := h
    have h9 := P9.new (qo := qo) (qa := qa) (qb := qb) hPk2 hok (fun l hl => by have := (hnl l hl).2; omega)
    rw [set3 W2]
    show PSs _ _ (sD F [_, _, _, _, _, _, _, _, _, _, _, _, _] _)
    exact law_tail Z r F cd co hr h9 fun s9 s10 s11 W' => ⟨_, _, _, _, _, _, _, _, _, _, _, _, rfl⟩
  · intro δ' hI
    obtain ⟨s1, s2, s3, s4, s5, s6, s7, s8, s9, s10, s11, W0, rfl⟩ := hI
    refine (s_ret x_bool ?_)
    rfl
end
theorem all_mk {l : PySem.W.OpenLaw} {w : World} {K : PySem.W.Frag} {h : Heap} {mg : Str → Option Value} {fa c0 c1 c2 c3 c4 c5 c6 c7 cS cL kPicker PL cM0 PM0 cM1 PM1 cM2 PM2 : Addr} (X : K.In h) (N : h.Ns mainGlobals mg) (hfa : mg "law" = some (.ref fa)) 
    {f_law : Addr} {od_law an_law : Option Addr} {sl_law : Array (Option Value)} {oc_law kV_law dc_law pm_law ct_law : Value}
    (a_law : PySem.W.nsIn K mainGlobals "law" = some (some (.ref f_law))) (l_law : K.lookup f_law = some ⟨oc_law, od_law, .func (PySem.W.fnOf "law" "law" (defArgs st_law) (defBody st_law) (defScope st_law) .none kV_law dc_law pm_law an_law (.ref cL) ct_law), sl_law⟩) (q_law : PySem.W.codeIn K (.ref cL) "law" = true)
    {f_is_count : Addr} {od_is_count an_is_count : Option Addr} {sl_is_count : Array (Option Value)} {oc_is_count kV_is_count dc_is_count pm_is_count cd_is_count ct_is_count : Value}
    (a_is_count : PySem.W.nsIn K mainGlobals "is_count" = some (some (.ref f_is_count))) (l_is_count : K.lookup f_is_count = some ⟨oc_is_count, od_is_count, .func (PySem.W.fnOf "is_count" "is_count" (defArgs st_is_count) (defBody st_is_count) (defScope st_is_count) .none kV_is_count dc_is_count pm_is_count an_is_count cd_is_count ct_is_count), sl_is_count⟩) (q_is_count : PySem.W.codeIn K cd_is_count "is_count" = true)
    (k_is_count : PySem.W.keepIn K (.ref f_is_count) = true)
    {f_is_name : Addr} {od_is_name an_is_name : Option Addr} {sl_is_name : Array (Option Value)} {oc_is_name kV_is_name dc_is_name pm_is_name cd_is_name ct_is_name : Value}
    (a_is_name : PySem.W.nsIn K mainGlobals "is_name" = some (some (.ref f_is_name))) (l_is_name : K.lookup f_is_name = some ⟨oc_is_name, od_is_name, .func (PySem.W.fnOf "is_name" "is_name" (defArgs st_is_name) (defBody st_is_name) (defScope st_is_name) .none kV_is_name dc_is_name pm_is_name an_is_name cd_is_name ct_is_name), sl_is_name⟩) (q_is_name : PySem.W.codeIn K cd_is_name "is_name" = true)
    (k_is_name : PySem.W.keepIn K (.ref f_is_name) = true)
    {f_is_ask : Addr} {od_is_ask an_is_ask : Option Addr} {sl_is_ask : Array (Option Value)} {oc_is_ask kV_is_ask dc_is_ask pm_is_ask cd_is_ask ct_is_ask : Value}
    (a_is_ask : PySem.W.nsIn K mainGlobals "is_ask" = some (some (.ref f_is_ask))) (l_is_ask : K.lookup f_is_ask = some ⟨oc_is_ask, od_is_ask, .func (PySem.W.fnOf "is_ask" "is_ask" (defArgs st_is_ask) (defBody st_is_ask) (defScope st_is_ask) .none kV_is_ask dc_is_ask pm_is_ask an_is_ask cd_is_ask ct_is_ask), sl_is_ask⟩) (q_is_ask : PySem.W.codeIn K cd_is_ask "is_ask" = true)
    (k_is_ask : PySem.W.keepIn K (.ref f_is_ask) = true)
    {f_small : Addr} {od_small an_small : Option Addr} {sl_small : Array (Option Value)} {oc_small kV_small dc_small pm_small cd_small ct_small : Value}
    (a_small : PySem.W.nsIn K mainGlobals "small" = some (some (.ref f_small))) (l_small : K.lookup f_small = some ⟨oc_small, od_small, .func (PySem.W.fnOf "small" "small" (defArgs st_small) (defBody st_small) (defScope st_small) .none kV_small dc_small pm_small an_small cd_small ct_small), sl_small⟩) (q_small : PySem.W.codeIn K cd_small "small" = true)
    (k_small : PySem.W.keepIn K (.ref f_small) = true)
    {f_is_hit : Addr} {od_is_hit an_is_hit : Option Addr} {sl_is_hit : Array (Option Value)} {oc_is_hit kV_is_hit dc_is_hit pm_is_hit cd_is_hit ct_is_hit : Value}
    (a_is_hit : PySem.W.nsIn K mainGlobals "is_hit" = some (some (.ref f_is_hit))) (l_is_hit : K.lookup f_is_hit = some ⟨oc_is_hit, od_is_hit, .func (PySem.W.fnOf "is_hit" "is_hit" (defArgs st_is_hit) (defBody st_is_hit) (defScope st_is_hit) .none kV_is_hit dc_is_hit pm_is_hit an_is_hit cd_is_hit ct_is_hit), sl_is_hit⟩) (q_is_hit : PySem.W.codeIn K cd_is_hit "is_hit" = true)
    (k_is_hit : PySem.W.keepIn K (.ref f_is_hit) = true)
    {f_begins : Addr} {od_begins an_begins : Option Addr} {sl_begins : Array (Option Value)} {oc_begins kV_begins dc_begins pm_begins cd_begins ct_begins : Value}
    (a_begins : PySem.W.nsIn K mainGlobals "begins" = some (some (.ref f_begins))) (l_begins : K.lookup f_begins = some ⟨oc_begins, od_begins, .func (PySem.W.fnOf "begins" "begins" (defArgs st_begins) (defBody st_begins) (defScope st_begins) .none kV_begins dc_begins pm_begins an_begins cd_begins ct_begins), sl_begins⟩) (q_begins : PySem.W.codeIn K cd_begins "begins" = true)
    (k_begins : PySem.W.keepIn K (.ref f_begins) = true)
    {f_greedy : Addr} {od_greedy an_greedy : Option Addr} {sl_greedy : Array (Option Value)} {oc_greedy kV_greedy dc_greedy pm_greedy cd_greedy ct_greedy : Value}
    (a_greedy : PySem.W.nsIn K mainGlobals "greedy" = some (some (.ref f_greedy))) (l_greedy : K.lookup f_greedy = some ⟨oc_greedy, od_greedy, .func (PySem.W.fnOf "greedy" "greedy" (defArgs st_greedy) (defBody st_greedy) (defScope st_greedy) .none kV_greedy dc_greedy pm_greedy an_greedy cd_greedy ct_greedy), sl_greedy⟩) (q_greedy : PySem.W.codeIn K cd_greedy "greedy" = true)
    (k_greedy : PySem.W.keepIn K (.ref f_greedy) = true)
    {f_need_marks : Addr} {od_need_marks an_need_marks : Option Addr} {sl_need_marks : Array (Option Value)} {oc_need_marks kV_need_marks dc_need_marks pm_need_marks cd_need_marks ct_need_marks : Value}
    (a_need_marks : PySem.W.nsIn K mainGlobals "need_marks" = some (some (.ref f_need_marks))) (l_need_marks : K.lookup f_need_marks = some ⟨oc_need_marks, od_need_marks, .func (PySem.W.fnOf "need_marks" "need_marks" (defArgs st_need_marks) (defBody st_need_marks) (defScope st_need_marks) .none kV_need_marks dc_need_marks pm_need_marks an_need_marks cd_need_marks ct_need_marks), sl_need_marks⟩) (q_need_marks : PySem.W.codeIn K cd_need_marks "need_marks" = true)
    (k_need_marks : PySem.W.keepIn K (.ref f_need_marks) = true)
    {f_own_worth : Addr} {od_own_worth an_own_worth : Option Addr} {sl_own_worth : Array (Option Value)} {oc_own_worth kV_own_worth dc_own_worth pm_own_worth cd_own_worth ct_own_worth : Value}
    (a_own_worth : PySem.W.nsIn K mainGlobals "own_worth" = some (some (.ref f_own_worth))) (l_own_worth : K.lookup f_own_worth = some ⟨oc_own_worth, od_own_worth, .func (PySem.W.fnOf "own_worth" "own_worth" (defArgs st_own_worth) (defBody st_own_worth) (defScope st_own_worth) .none kV_own_worth dc_own_worth pm_own_worth an_own_worth cd_own_worth ct_own_worth), sl_own_worth⟩) (q_own_worth : PySem.W.codeIn K cd_own_worth "own_worth" = true)
    (k_own_worth : PySem.W.keepIn K (.ref f_own_worth) = true)
    {f_gap_worth : Addr} {od_gap_worth an_gap_worth : Option Addr} {sl_gap_worth : Array (Option Value)} {oc_gap_worth kV_gap_worth dc_gap_worth pm_gap_worth cd_gap_worth ct_gap_worth : Value}
    (a_gap_worth : PySem.W.nsIn K mainGlobals "gap_worth" = some (some (.ref f_gap_worth))) (l_gap_worth : K.lookup f_gap_worth = some ⟨oc_gap_worth, od_gap_worth, .func (PySem.W.fnOf "gap_worth" "gap_worth" (defArgs st_gap_worth) (defBody st_gap_worth) (defScope st_gap_worth) .none kV_gap_worth dc_gap_worth pm_gap_worth an_gap_worth cd_gap_worth ct_gap_worth), sl_gap_worth⟩) (q_gap_worth : PySem.W.codeIn K cd_gap_worth "gap_worth" = true)
    (k_gap_worth : PySem.W.keepIn K (.ref f_gap_worth) = true)
    {f_best_of : Addr} {od_best_of an_best_of : Option Addr} {sl_best_of : Array (Option Value)} {oc_best_of kV_best_of dc_best_of pm_best_of cd_best_of ct_best_of : Value}
    (a_best_of : PySem.W.nsIn K mainGlobals "best_of" = some (some (.ref f_best_of))) (l_best_of : K.lookup f_best_of = some ⟨oc_best_of, od_best_of, .func (PySem.W.fnOf "best_of" "best_of" (defArgs st_best_of) (defBody st_best_of) (defScope st_best_of) .none kV_best_of dc_best_of pm_best_of an_best_of cd_best_of ct_best_of), sl_best_of⟩) (q_best_of : PySem.W.codeIn K cd_best_of "best_of" = true)
    (k_best_of : PySem.W.keepIn K (.ref f_best_of) = true)
    {f_need_names : Addr} {od_need_names an_need_names : Option Addr} {sl_need_names : Array (Option Value)} {oc_need_names kV_need_names dc_need_names pm_need_names cd_need_names ct_need_names : Value}
    (a_need_names : PySem.W.nsIn K mainGlobals "need_names" = some (some (.ref f_need_names))) (l_need_names : K.lookup f_need_names = some ⟨oc_need_names, od_need_names, .func (PySem.W.fnOf "need_names" "need_names" (defArgs st_need_names) (defBody st_need_names) (defScope st_need_names) .none kV_need_names dc_need_names pm_need_names an_need_names cd_need_names ct_need_names), sl_need_names⟩) (q_need_names : PySem.W.codeIn K cd_need_names "need_names" = true)
    (k_need_names : PySem.W.keepIn K (.ref f_need_names) = true)
    {f_ranked : Addr} {od_ranked an_ranked : Option Addr} {sl_ranked : Array (Option Value)} {oc_ranked kV_ranked dc_ranked pm_ranked ct_ranked : Value}
    (a_ranked : PySem.W.nsIn K mainGlobals "ranked" = some (some (.ref f_ranked))) (l_ranked : K.lookup f_ranked = some ⟨oc_ranked, od_ranked, .func (PySem.W.fnOf "ranked" "ranked" (defArgs st_ranked) (defBody st_ranked) (defScope st_ranked) .none kV_ranked dc_ranked pm_ranked an_ranked (.ref cM0) ct_ranked), sl_ranked⟩) (q_ranked : PySem.W.codeIn K (.ref cM0) "ranked" = true)
    (k_ranked : PySem.W.keepIn K (.ref f_ranked) = true)
    {f_hits_of : Addr} {od_hits_of an_hits_of : Option Addr} {sl_hits_of : Array (Option Value)} {oc_hits_of kV_hits_of dc_hits_of pm_hits_of cd_hits_of ct_hits_of : Value}
    (a_hits_of : PySem.W.nsIn K mainGlobals "hits_of" = some (some (.ref f_hits_of))) (l_hits_of : K.lookup f_hits_of = some ⟨oc_hits_of, od_hits_of, .func (PySem.W.fnOf "hits_of" "hits_of" (defArgs st_hits_of) (defBody st_hits_of) (defScope st_hits_of) .none kV_hits_of dc_hits_of pm_hits_of an_hits_of cd_hits_of ct_hits_of), sl_hits_of⟩) (q_hits_of : PySem.W.codeIn K cd_hits_of "hits_of" = true)
    (k_hits_of : PySem.W.keepIn K (.ref f_hits_of) = true)
    {f_shown_text : Addr} {od_shown_text an_shown_text : Option Addr} {sl_shown_text : Array (Option Value)} {oc_shown_text kV_shown_text dc_shown_text pm_shown_text cd_shown_text ct_shown_text : Value}
    (a_shown_text : PySem.W.nsIn K mainGlobals "shown_text" = some (some (.ref f_shown_text))) (l_shown_text : K.lookup f_shown_text = some ⟨oc_shown_text, od_shown_text, .func (PySem.W.fnOf "shown_text" "shown_text" (defArgs st_shown_text) (defBody st_shown_text) (defScope st_shown_text) .none kV_shown_text dc_shown_text pm_shown_text an_shown_text cd_shown_text ct_shown_text), sl_shown_text⟩) (q_shown_text : PySem.W.codeIn K cd_shown_text "shown_text" = true)
    (k_shown_text : PySem.W.keepIn K (.ref f_shown_text) = true)
    {f_law_cell : Addr} {od_law_cell an_law_cell : Option Addr} {sl_law_cell : Array (Option Value)} {oc_law_cell kV_law_cell dc_law_cell pm_law_cell cd_law_cell ct_law_cell : Value}
    (a_law_cell : PySem.W.nsIn K mainGlobals "_law_cell" = some (some (.ref f_law_cell))) (l_law_cell : K.lookup f_law_cell = some ⟨oc_law_cell, od_law_cell, .func (PySem.W.fnOf "_law_cell" "_law_cell" (defArgs st_law_cell) (defBody st_law_cell) (defScope st_law_cell) .none kV_law_cell dc_law_cell pm_law_cell an_law_cell cd_law_cell ct_law_cell), sl_law_cell⟩) (q_law_cell : PySem.W.codeIn K cd_law_cell "_law_cell" = true)
    (k_law_cell : PySem.W.keepIn K (.ref f_law_cell) = true)
    {f_law_drawn : Addr} {od_law_drawn an_law_drawn : Option Addr} {sl_law_drawn : Array (Option Value)} {oc_law_drawn kV_law_drawn dc_law_drawn pm_law_drawn cd_law_drawn ct_law_drawn : Value}
    (a_law_drawn : PySem.W.nsIn K mainGlobals "_law_drawn" = some (some (.ref f_law_drawn))) (l_law_drawn : K.lookup f_law_drawn = some ⟨oc_law_drawn, od_law_drawn, .func (PySem.W.fnOf "_law_drawn" "_law_drawn" (defArgs st_law_drawn) (defBody st_law_drawn) (defScope st_law_drawn) .none kV_law_drawn dc_law_drawn pm_law_drawn an_law_drawn cd_law_drawn ct_law_drawn), sl_law_drawn⟩) (q_law_drawn : PySem.W.codeIn K cd_law_drawn "_law_drawn" = true)
    (k_law_drawn : PySem.W.keepIn K (.ref f_law_drawn) = true)
    {f_law_word : Addr} {od_law_word an_law_word : Option Addr} {sl_law_word : Array (Option Value)} {oc_law_word kV_law_word dc_law_word pm_law_word cd_law_word ct_law_word : Value}
    (a_law_word : PySem.W.nsIn K mainGlobals "_law_word" = some (some (.ref f_law_word))) (l_law_word : K.lookup f_law_word = some ⟨oc_law_word, od_law_word, .func (PySem.W.fnOf "_law_word" "_law_word" (defArgs st_law_word) (defBody st_law_word) (defScope st_law_word) .none kV_law_word dc_law_word pm_law_word an_law_word cd_law_word ct_law_word), sl_law_word⟩) (q_law_word : PySem.W.codeIn K cd_law_word "_law_word" = true)
    (k_law_word : PySem.W.keepIn K (.ref f_law_word) = true)
    {f_law_told : Addr} {od_law_told an_law_told : Option Addr} {sl_law_told : Array (Option Value)} {oc_law_told kV_law_told dc_law_told pm_law_told cd_law_told ct_law_told : Value}
    (a_law_told : PySem.W.nsIn K mainGlobals "_law_told" = some (some (.ref f_law_told))) (l_law_told : K.lookup f_law_told = some ⟨oc_law_told, od_law_told, .func (PySem.W.fnOf "_law_told" "_law_told" (defArgs st_law_told) (defBody st_law_told) (defScope st_law_told) .none kV_law_told dc_law_told pm_law_told an_law_told cd_law_told ct_law_told), sl_law_told⟩) (q_law_told : PySem.W.codeIn K cd_law_told "_law_told" = true)
    (k_law_told : PySem.W.keepIn K (.ref f_law_told) = true)
    {f_law_sign : Addr} {od_law_sign an_law_sign : Option Addr} {sl_law_sign : Array (Option Value)} {oc_law_sign kV_law_sign dc_law_sign pm_law_sign cd_law_sign ct_law_sign : Value}
    (a_law_sign : PySem.W.nsIn K mainGlobals "_law_sign" = some (some (.ref f_law_sign))) (l_law_sign : K.lookup f_law_sign = some ⟨oc_law_sign, od_law_sign, .func (PySem.W.fnOf "_law_sign" "_law_sign" (defArgs st_law_sign) (defBody st_law_sign) (defScope st_law_sign) .none kV_law_sign dc_law_sign pm_law_sign an_law_sign cd_law_sign ct_law_sign), sl_law_sign⟩) (q_law_sign : PySem.W.codeIn K cd_law_sign "_law_sign" = true)
    (k_law_sign : PySem.W.keepIn K (.ref f_law_sign) = true)
    {f_law_name : Addr} {od_law_name an_law_name : Option Addr} {sl_law_name : Array (Option Value)} {oc_law_name kV_law_name dc_law_name pm_law_name cd_law_name ct_law_name : Value}
    (a_law_name : PySem.W.nsIn K mainGlobals "_law_name" = some (some (.ref f_law_name))) (l_law_name : K.lookup f_law_name = some ⟨oc_law_name, od_law_name, .func (PySem.W.fnOf "_law_name" "_law_name" (defArgs st_law_name) (defBody st_law_name) (defScope st_law_name) .none kV_law_name dc_law_name pm_law_name an_law_name cd_law_name ct_law_name), sl_law_name⟩) (q_law_name : PySem.W.codeIn K cd_law_name "_law_name" = true)
    (k_law_name : PySem.W.keepIn K (.ref f_law_name) = true)
    {f_law_kind : Addr} {od_law_kind an_law_kind : Option Addr} {sl_law_kind : Array (Option Value)} {oc_law_kind kV_law_kind dc_law_kind pm_law_kind cd_law_kind ct_law_kind : Value}
    (a_law_kind : PySem.W.nsIn K mainGlobals "_law_kind" = some (some (.ref f_law_kind))) (l_law_kind : K.lookup f_law_kind = some ⟨oc_law_kind, od_law_kind, .func (PySem.W.fnOf "_law_kind" "_law_kind" (defArgs st_law_kind) (defBody st_law_kind) (defScope st_law_kind) .none kV_law_kind dc_law_kind pm_law_kind an_law_kind cd_law_kind ct_law_kind), sl_law_kind⟩) (q_law_kind : PySem.W.codeIn K cd_law_kind "_law_kind" = true)
    (k_law_kind : PySem.W.keepIn K (.ref f_law_kind) = true)
    {f_law_starts : Addr} {od_law_starts an_law_starts : Option Addr} {sl_law_starts : Array (Option Value)} {oc_law_starts kV_law_starts dc_law_starts pm_law_starts cd_law_starts ct_law_starts : Value}
    (a_law_starts : PySem.W.nsIn K mainGlobals "_law_starts" = some (some (.ref f_law_starts))) (l_law_starts : K.lookup f_law_starts = some ⟨oc_law_starts, od_law_starts, .func (PySem.W.fnOf "_law_starts" "_law_starts" (defArgs st_law_starts) (defBody st_law_starts) (defScope st_law_starts) .none kV_law_starts dc_law_starts pm_law_starts an_law_starts cd_law_starts ct_law_starts), sl_law_starts⟩) (q_law_starts : PySem.W.codeIn K cd_law_starts "_law_starts" = true)
    (k_law_starts : PySem.W.keepIn K (.ref f_law_starts) = true)
    {f_law_hit : Addr} {od_law_hit an_law_hit : Option Addr} {sl_law_hit : Array (Option Value)} {oc_law_hit kV_law_hit dc_law_hit pm_law_hit cd_law_hit ct_law_hit : Value}
    (a_law_hit : PySem.W.nsIn K mainGlobals "_law_hit" = some (some (.ref f_law_hit))) (l_law_hit : K.lookup f_law_hit = some ⟨oc_law_hit, od_law_hit, .func (PySem.W.fnOf "_law_hit" "_law_hit" (defArgs st_law_hit) (defBody st_law_hit) (defScope st_law_hit) .none kV_law_hit dc_law_hit pm_law_hit an_law_hit cd_law_hit ct_law_hit), sl_law_hit⟩) (q_law_hit : PySem.W.codeIn K cd_law_hit "_law_hit" = true)
    (k_law_hit : PySem.W.keepIn K (.ref f_law_hit) = true)
    {f_law_every : Addr} {od_law_every an_law_every : Option Addr} {sl_law_every : Array (Option Value)} {oc_law_every kV_law_every dc_law_every pm_law_every cd_law_every ct_law_every : Value}
    (a_law_every : PySem.W.nsIn K mainGlobals "_law_every" = some (some (.ref f_law_every))) (l_law_every : K.lookup f_law_every = some ⟨oc_law_every, od_law_every, .func (PySem.W.fnOf "_law_every" "_law_every" (defArgs st_law_every) (defBody st_law_every) (defScope st_law_every) .none kV_law_every dc_law_every pm_law_every an_law_every cd_law_every ct_law_every), sl_law_every⟩) (q_law_every : PySem.W.codeIn K cd_law_every "_law_every" = true)
    (k_law_every : PySem.W.keepIn K (.ref f_law_every) = true)
    {f_law_marks : Addr} {od_law_marks an_law_marks : Option Addr} {sl_law_marks : Array (Option Value)} {oc_law_marks kV_law_marks dc_law_marks pm_law_marks cd_law_marks ct_law_marks : Value}
    (a_law_marks : PySem.W.nsIn K mainGlobals "_law_marks" = some (some (.ref f_law_marks))) (l_law_marks : K.lookup f_law_marks = some ⟨oc_law_marks, od_law_marks, .func (PySem.W.fnOf "_law_marks" "_law_marks" (defArgs st_law_marks) (defBody st_law_marks) (defScope st_law_marks) .none kV_law_marks dc_law_marks pm_law_marks an_law_marks cd_law_marks ct_law_marks), sl_law_marks⟩) (q_law_marks : PySem.W.codeIn K cd_law_marks "_law_marks" = true)
    (k_law_marks : PySem.W.keepIn K (.ref f_law_marks) = true)
    {f_law_names : Addr} {od_law_names an_law_names : Option Addr} {sl_law_names : Array (Option Value)} {oc_law_names kV_law_names dc_law_names pm_law_names cd_law_names ct_law_names : Value}
    (a_law_names : PySem.W.nsIn K mainGlobals "_law_names" = some (some (.ref f_law_names))) (l_law_names : K.lookup f_law_names = some ⟨oc_law_names, od_law_names, .func (PySem.W.fnOf "_law_names" "_law_names" (defArgs st_law_names) (defBody st_law_names) (defScope st_law_names) .none kV_law_names dc_law_names pm_law_names an_law_names cd_law_names ct_law_names), sl_law_names⟩) (q_law_names : PySem.W.codeIn K cd_law_names "_law_names" = true)
    (k_law_names : PySem.W.keepIn K (.ref f_law_names) = true)
    {f_law_worth : Addr} {od_law_worth an_law_worth : Option Addr} {sl_law_worth : Array (Option Value)} {oc_law_worth kV_law_worth dc_law_worth pm_law_worth cd_law_worth ct_law_worth : Value}
    (a_law_worth : PySem.W.nsIn K mainGlobals "_law_worth" = some (some (.ref f_law_worth))) (l_law_worth : K.lookup f_law_worth = some ⟨oc_law_worth, od_law_worth, .func (PySem.W.fnOf "_law_worth" "_law_worth" (defArgs st_law_worth) (defBody st_law_worth) (defScope st_law_worth) .none kV_law_worth dc_law_worth pm_law_worth an_law_worth cd_law_worth ct_law_worth), sl_law_worth⟩) (q_law_worth : PySem.W.codeIn K cd_law_worth "_law_worth" = true)
    (k_law_worth : PySem.W.keepIn K (.ref f_law_worth) = true)
    {f_law_best : Addr} {od_law_best an_law_best : Option Addr} {sl_law_best : Array (Option Value)} {oc_law_best kV_law_best dc_law_best pm_law_best cd_law_best ct_law_best : Value}
    (a_law_best : PySem.W.nsIn K mainGlobals "_law_best" = some (some (.ref f_law_best))) (l_law_best : K.lookup f_law_best = some ⟨oc_law_best, od_law_best, .func (PySem.W.fnOf "_law_best" "_law_best" (defArgs st_law_best) (defBody st_law_best) (defScope st_law_best) .none kV_law_best dc_law_best pm_law_best an_law_best cd_law_best ct_law_best), sl_law_best⟩) (q_law_best : PySem.W.codeIn K cd_law_best "_law_best" = true)
    (k_law_best : PySem.W.keepIn K (.ref f_law_best) = true)
    {f_law_rows : Addr} {od_law_rows an_law_rows : Option Addr} {sl_law_rows : Array (Option Value)} {oc_law_rows kV_law_rows dc_law_rows pm_law_rows cd_law_rows ct_law_rows : Value}
    (a_law_rows : PySem.W.nsIn K mainGlobals "_law_rows" = some (some (.ref f_law_rows))) (l_law_rows : K.lookup f_law_rows = some ⟨oc_law_rows, od_law_rows, .func (PySem.W.fnOf "_law_rows" "_law_rows" (defArgs st_law_rows) (defBody st_law_rows) (defScope st_law_rows) .none kV_law_rows dc_law_rows pm_law_rows an_law_rows cd_law_rows ct_law_rows), sl_law_rows⟩) (q_law_rows : PySem.W.codeIn K cd_law_rows "_law_rows" = true)
    (k_law_rows : PySem.W.keepIn K (.ref f_law_rows) = true)
    {f_law_shown : Addr} {od_law_shown an_law_shown : Option Addr} {sl_law_shown : Array (Option Value)} {oc_law_shown kV_law_shown dc_law_shown pm_law_shown cd_law_shown ct_law_shown : Value}
    (a_law_shown : PySem.W.nsIn K mainGlobals "_law_shown" = some (some (.ref f_law_shown))) (l_law_shown : K.lookup f_law_shown = some ⟨oc_law_shown, od_law_shown, .func (PySem.W.fnOf "_law_shown" "_law_shown" (defArgs st_law_shown) (defBody st_law_shown) (defScope st_law_shown) .none kV_law_shown dc_law_shown pm_law_shown an_law_shown cd_law_shown ct_law_shown), sl_law_shown⟩) (q_law_shown : PySem.W.codeIn K cd_law_shown "_law_shown" = true)
    (k_law_shown : PySem.W.keepIn K (.ref f_law_shown) = true)
    {f_law_fit : Addr} {od_law_fit an_law_fit : Option Addr} {sl_law_fit : Array (Option Value)} {oc_law_fit kV_law_fit dc_law_fit pm_law_fit cd_law_fit ct_law_fit : Value}
    (a_law_fit : PySem.W.nsIn K mainGlobals "_law_fit" = some (some (.ref f_law_fit))) (l_law_fit : K.lookup f_law_fit = some ⟨oc_law_fit, od_law_fit, .func (PySem.W.fnOf "_law_fit" "_law_fit" (defArgs st_law_fit) (defBody st_law_fit) (defScope st_law_fit) .none kV_law_fit dc_law_fit pm_law_fit an_law_fit cd_law_fit ct_law_fit), sl_law_fit⟩) (q_law_fit : PySem.W.codeIn K cd_law_fit "_law_fit" = true)
    (k_law_fit : PySem.W.keepIn K (.ref f_law_fit) = true)
    {f_law_stepped : Addr} {od_law_stepped an_law_stepped : Option Addr} {sl_law_stepped : Array (Option Value)} {oc_law_stepped kV_law_stepped dc_law_stepped pm_law_stepped cd_law_stepped ct_law_stepped : Value}
    (a_law_stepped : PySem.W.nsIn K mainGlobals "_law_stepped" = some (some (.ref f_law_stepped))) (l_law_stepped : K.lookup f_law_stepped = some ⟨oc_law_stepped, od_law_stepped, .func (PySem.W.fnOf "_law_stepped" "_law_stepped" (defArgs st_law_stepped) (defBody st_law_stepped) (defScope st_law_stepped) .none kV_law_stepped dc_law_stepped pm_law_stepped an_law_stepped cd_law_stepped ct_law_stepped), sl_law_stepped⟩) (q_law_stepped : PySem.W.codeIn K cd_law_stepped "_law_stepped" = true)
    (k_law_stepped : PySem.W.keepIn K (.ref f_law_stepped) = true)
    {f_law_picker_step : Addr} {od_law_picker_step an_law_picker_step : Option Addr} {sl_law_picker_step : Array (Option Value)} {oc_law_picker_step kV_law_picker_step dc_law_picker_step pm_law_picker_step ct_law_picker_step : Value}
    (a_law_picker_step : PySem.W.nsIn K mainGlobals "_law_picker_step" = some (some (.ref f_law_picker_step))) (l_law_picker_step : K.lookup f_law_picker_step = some ⟨oc_law_picker_step, od_law_picker_step, .func (PySem.W.fnOf "_law_picker_step" "_law_picker_step" (defArgs st_law_picker_step) (defBody st_law_picker_step) (defScope st_law_picker_step) .none kV_law_picker_step dc_law_picker_step pm_law_picker_step an_law_picker_step (.ref cM1) ct_law_picker_step), sl_law_picker_step⟩) (q_law_picker_step : PySem.W.codeIn K (.ref cM1) "_law_picker_step" = true)
    (k_law_picker_step : PySem.W.keepIn K (.ref f_law_picker_step) = true)
    {f_law_back : Addr} {od_law_back an_law_back : Option Addr} {sl_law_back : Array (Option Value)} {oc_law_back kV_law_back dc_law_back pm_law_back ct_law_back : Value}
    (a_law_back : PySem.W.nsIn K mainGlobals "_law_back" = some (some (.ref f_law_back))) (l_law_back : K.lookup f_law_back = some ⟨oc_law_back, od_law_back, .func (PySem.W.fnOf "_law_back" "_law_back" (defArgs st_law_back) (defBody st_law_back) (defScope st_law_back) .none kV_law_back dc_law_back pm_law_back an_law_back (.ref cM2) ct_law_back), sl_law_back⟩) (q_law_back : PySem.W.codeIn K (.ref cM2) "_law_back" = true)
    (k_law_back : PySem.W.keepIn K (.ref f_law_back) = true)
    {f_law_picker_like : Addr} {od_law_picker_like an_law_picker_like : Option Addr} {sl_law_picker_like : Array (Option Value)} {oc_law_picker_like kV_law_picker_like dc_law_picker_like pm_law_picker_like cd_law_picker_like ct_law_picker_like : Value}
    (a_law_picker_like : PySem.W.nsIn K mainGlobals "_law_picker_like" = some (some (.ref f_law_picker_like))) (l_law_picker_like : K.lookup f_law_picker_like = some ⟨oc_law_picker_like, od_law_picker_like, .func (PySem.W.fnOf "_law_picker_like" "_law_picker_like" (defArgs st_law_picker_like) (defBody st_law_picker_like) (defScope st_law_picker_like) .none kV_law_picker_like dc_law_picker_like pm_law_picker_like an_law_picker_like cd_law_picker_like ct_law_picker_like), sl_law_picker_like⟩) (q_law_picker_like : PySem.W.codeIn K cd_law_picker_like "_law_picker_like" = true)
    (k_law_picker_like : PySem.W.keepIn K (.ref f_law_picker_like) = true)
    (g_Picker : PySem.W.nsIn K mainGlobals "Picker" = some (some (.ref kPicker))) (kb_Picker : clsB K kPicker ["marks", "pairs", "tall", "now", "past", "ahead"] = true) (mk_Picker : PySem.W.makesIn K kPicker = true) (kc_Picker : PySem.W.keepIn K (.ref kPicker) = true)
    {f_Picker_init : Addr} {od_Picker_init an_Picker_init : Option Addr} {sl_Picker_init : Array (Option Value)} {oc_Picker_init kV_Picker_init dc_Picker_init pm_Picker_init cd_Picker_init ct_Picker_init : Value}
    (a_Picker_init : PySem.W.findIn K (.ref kPicker) "__init__" = some (some (.ref f_Picker_init))) (i_Picker_init : PySem.W.isFn K (.ref f_Picker_init) = true) (l_Picker_init : K.lookup f_Picker_init = some ⟨oc_Picker_init, od_Picker_init, .func (PySem.W.fnOf "__init__" "Picker.__init__" (defArgs st_Picker_init) (defBody st_Picker_init) (defScope st_Picker_init) .none kV_Picker_init dc_Picker_init pm_Picker_init an_Picker_init cd_Picker_init ct_Picker_init), sl_Picker_init⟩) (q_Picker_init : PySem.W.codeIn K cd_Picker_init "Picker.__init__" = true) (k_Picker_init : PySem.W.keepIn K (.ref f_Picker_init) = true)
    {f_Picker_become : Addr} {od_Picker_become an_Picker_become : Option Addr} {sl_Picker_become : Array (Option Value)} {oc_Picker_become kV_Picker_become dc_Picker_become pm_Picker_become cd_Picker_become ct_Picker_become : Value}
    (a_Picker_become : PySem.W.findIn K (.ref kPicker) "become" = some (some (.ref f_Picker_become))) (i_Picker_become : PySem.W.isFn K (.ref f_Picker_become) = true) (l_Picker_become : K.lookup f_Picker_become = some ⟨oc_Picker_become, od_Picker_become, .func (PySem.W.fnOf "become" "Picker.become" (defArgs st_Picker_become) (defBody st_Picker_become) (defScope st_Picker_become) .none kV_Picker_become dc_Picker_become pm_Picker_become an_Picker_become cd_Picker_become ct_Picker_become), sl_Picker_become⟩) (q_Picker_become : PySem.W.codeIn K cd_Picker_become "Picker.become" = true) (k_Picker_become : PySem.W.keepIn K (.ref f_Picker_become) = true)
    {f_Picker_in_turn : Addr} {od_Picker_in_turn an_Picker_in_turn : Option Addr} {sl_Picker_in_turn : Array (Option Value)} {oc_Picker_in_turn kV_Picker_in_turn dc_Picker_in_turn pm_Picker_in_turn cd_Picker_in_turn ct_Picker_in_turn : Value}
    (a_Picker_in_turn : PySem.W.findIn K (.ref kPicker) "in_turn" = some (some (.ref f_Picker_in_turn))) (i_Picker_in_turn : PySem.W.isFn K (.ref f_Picker_in_turn) = true) (l_Picker_in_turn : K.lookup f_Picker_in_turn = some ⟨oc_Picker_in_turn, od_Picker_in_turn, .func (PySem.W.fnOf "in_turn" "Picker.in_turn" (defArgs st_Picker_in_turn) (defBody st_Picker_in_turn) (defScope st_Picker_in_turn) .none kV_Picker_in_turn dc_Picker_in_turn pm_Picker_in_turn an_Picker_in_turn cd_Picker_in_turn ct_Picker_in_turn), sl_Picker_in_turn⟩) (q_Picker_in_turn : PySem.W.codeIn K cd_Picker_in_turn "Picker.in_turn" = true) (k_Picker_in_turn : PySem.W.keepIn K (.ref f_Picker_in_turn) = true)
    {f_Picker_press : Addr} {od_Picker_press an_Picker_press : Option Addr} {sl_Picker_press : Array (Option Value)} {oc_Picker_press kV_Picker_press dc_Picker_press pm_Picker_press cd_Picker_press ct_Picker_press : Value}
    (a_Picker_press : PySem.W.findIn K (.ref kPicker) "press" = some (some (.ref f_Picker_press))) (i_Picker_press : PySem.W.isFn K (.ref f_Picker_press) = true) (l_Picker_press : K.lookup f_Picker_press = some ⟨oc_Picker_press, od_Picker_press, .func (PySem.W.fnOf "press" "Picker.press" (defArgs st_Picker_press) (defBody st_Picker_press) (defScope st_Picker_press) .none kV_Picker_press dc_Picker_press pm_Picker_press an_Picker_press cd_Picker_press ct_Picker_press), sl_Picker_press⟩) (q_Picker_press : PySem.W.codeIn K cd_Picker_press "Picker.press" = true) (k_Picker_press : PySem.W.keepIn K (.ref f_Picker_press) = true)
    {f_Picker_rub : Addr} {od_Picker_rub an_Picker_rub : Option Addr} {sl_Picker_rub : Array (Option Value)} {oc_Picker_rub kV_Picker_rub dc_Picker_rub pm_Picker_rub cd_Picker_rub ct_Picker_rub : Value}
    (a_Picker_rub : PySem.W.findIn K (.ref kPicker) "rub" = some (some (.ref f_Picker_rub))) (i_Picker_rub : PySem.W.isFn K (.ref f_Picker_rub) = true) (l_Picker_rub : K.lookup f_Picker_rub = some ⟨oc_Picker_rub, od_Picker_rub, .func (PySem.W.fnOf "rub" "Picker.rub" (defArgs st_Picker_rub) (defBody st_Picker_rub) (defScope st_Picker_rub) .none kV_Picker_rub dc_Picker_rub pm_Picker_rub an_Picker_rub cd_Picker_rub ct_Picker_rub), sl_Picker_rub⟩) (q_Picker_rub : PySem.W.codeIn K cd_Picker_rub "Picker.rub" = true) (k_Picker_rub : PySem.W.keepIn K (.ref f_Picker_rub) = true)
    {f_Picker_step : Addr} {od_Picker_step an_Picker_step : Option Addr} {sl_Picker_step : Array (Option Value)} {oc_Picker_step kV_Picker_step dc_Picker_step pm_Picker_step cd_Picker_step ct_Picker_step : Value}
    (a_Picker_step : PySem.W.findIn K (.ref kPicker) "step" = some (some (.ref f_Picker_step))) (i_Picker_step : PySem.W.isFn K (.ref f_Picker_step) = true) (l_Picker_step : K.lookup f_Picker_step = some ⟨oc_Picker_step, od_Picker_step, .func (PySem.W.fnOf "step" "Picker.step" (defArgs st_Picker_step) (defBody st_Picker_step) (defScope st_Picker_step) .none kV_Picker_step dc_Picker_step pm_Picker_step an_Picker_step cd_Picker_step ct_Picker_step), sl_Picker_step⟩) (q_Picker_step : PySem.W.codeIn K cd_Picker_step "Picker.step" = true) (k_Picker_step : PySem.W.keepIn K (.ref f_Picker_step) = true)
    {f_Picker_at : Addr} {od_Picker_at an_Picker_at : Option Addr} {sl_Picker_at : Array (Option Value)} {oc_Picker_at kV_Picker_at dc_Picker_at pm_Picker_at cd_Picker_at ct_Picker_at : Value}
    (a_Picker_at : PySem.W.findIn K (.ref kPicker) "at" = some (some (.ref f_Picker_at))) (i_Picker_at : PySem.W.isFn K (.ref f_Picker_at) = true) (l_Picker_at : K.lookup f_Picker_at = some ⟨oc_Picker_at, od_Picker_at, .func (PySem.W.fnOf "at" "Picker.at" (defArgs st_Picker_at) (defBody st_Picker_at) (defScope st_Picker_at) .none kV_Picker_at dc_Picker_at pm_Picker_at an_Picker_at cd_Picker_at ct_Picker_at), sl_Picker_at⟩) (q_Picker_at : PySem.W.codeIn K cd_Picker_at "Picker.at" = true) (k_Picker_at : PySem.W.keepIn K (.ref f_Picker_at) = true)
    {f_Picker_mark : Addr} {od_Picker_mark an_Picker_mark : Option Addr} {sl_Picker_mark : Array (Option Value)} {oc_Picker_mark kV_Picker_mark dc_Picker_mark pm_Picker_mark cd_Picker_mark ct_Picker_mark : Value}
    (a_Picker_mark : PySem.W.findIn K (.ref kPicker) "mark" = some (some (.ref f_Picker_mark))) (i_Picker_mark : PySem.W.isFn K (.ref f_Picker_mark) = true) (l_Picker_mark : K.lookup f_Picker_mark = some ⟨oc_Picker_mark, od_Picker_mark, .func (PySem.W.fnOf "mark" "Picker.mark" (defArgs st_Picker_mark) (defBody st_Picker_mark) (defScope st_Picker_mark) .none kV_Picker_mark dc_Picker_mark pm_Picker_mark an_Picker_mark cd_Picker_mark ct_Picker_mark), sl_Picker_mark⟩) (q_Picker_mark : PySem.W.codeIn K cd_Picker_mark "Picker.mark" = true) (k_Picker_mark : PySem.W.keepIn K (.ref f_Picker_mark) = true)
    {f_Picker_undo : Addr} {od_Picker_undo an_Picker_undo : Option Addr} {sl_Picker_undo : Array (Option Value)} {oc_Picker_undo kV_Picker_undo dc_Picker_undo pm_Picker_undo cd_Picker_undo ct_Picker_undo : Value}
    (a_Picker_undo : PySem.W.findIn K (.ref kPicker) "undo" = some (some (.ref f_Picker_undo))) (i_Picker_undo : PySem.W.isFn K (.ref f_Picker_undo) = true) (l_Picker_undo : K.lookup f_Picker_undo = some ⟨oc_Picker_undo, od_Picker_undo, .func (PySem.W.fnOf "undo" "Picker.undo" (defArgs st_Picker_undo) (defBody st_Picker_undo) (defScope st_Picker_undo) .none kV_Picker_undo dc_Picker_undo pm_Picker_undo an_Picker_undo cd_Picker_undo ct_Picker_undo), sl_Picker_undo⟩) (q_Picker_undo : PySem.W.codeIn K cd_Picker_undo "Picker.undo" = true) (k_Picker_undo : PySem.W.keepIn K (.ref f_Picker_undo) = true)
    {f_Picker_redo : Addr} {od_Picker_redo an_Picker_redo : Option Addr} {sl_Picker_redo : Array (Option Value)} {oc_Picker_redo kV_Picker_redo dc_Picker_redo pm_Picker_redo cd_Picker_redo ct_Picker_redo : Value}
    (a_Picker_redo : PySem.W.findIn K (.ref kPicker) "redo" = some (some (.ref f_Picker_redo))) (i_Picker_redo : PySem.W.isFn K (.ref f_Picker_redo) = true) (l_Picker_redo : K.lookup f_Picker_redo = some ⟨oc_Picker_redo, od_Picker_redo, .func (PySem.W.fnOf "redo" "Picker.redo" (defArgs st_Picker_redo) (defBody st_Picker_redo) (defScope st_Picker_redo) .none kV_Picker_redo dc_Picker_redo pm_Picker_redo an_Picker_redo cd_Picker_redo ct_Picker_redo), sl_Picker_redo⟩) (q_Picker_redo : PySem.W.codeIn K cd_Picker_redo "Picker.redo" = true) (k_Picker_redo : PySem.W.keepIn K (.ref f_Picker_redo) = true)
    {f_Picker_ask : Addr} {od_Picker_ask an_Picker_ask : Option Addr} {sl_Picker_ask : Array (Option Value)} {oc_Picker_ask kV_Picker_ask dc_Picker_ask pm_Picker_ask cd_Picker_ask ct_Picker_ask : Value}
    (a_Picker_ask : PySem.W.findIn K (.ref kPicker) "ask" = some (some (.ref f_Picker_ask))) (i_Picker_ask : PySem.W.isFn K (.ref f_Picker_ask) = true) (l_Picker_ask : K.lookup f_Picker_ask = some ⟨oc_Picker_ask, od_Picker_ask, .func (PySem.W.fnOf "ask" "Picker.ask" (defArgs st_Picker_ask) (defBody st_Picker_ask) (defScope st_Picker_ask) .none kV_Picker_ask dc_Picker_ask pm_Picker_ask an_Picker_ask cd_Picker_ask ct_Picker_ask), sl_Picker_ask⟩) (q_Picker_ask : PySem.W.codeIn K cd_Picker_ask "Picker.ask" = true) (k_Picker_ask : PySem.W.keepIn K (.ref f_Picker_ask) = true)
    {f_Picker_chosen : Addr} {od_Picker_chosen an_Picker_chosen : Option Addr} {sl_Picker_chosen : Array (Option Value)} {oc_Picker_chosen kV_Picker_chosen dc_Picker_chosen pm_Picker_chosen cd_Picker_chosen ct_Picker_chosen : Value}
    (a_Picker_chosen : PySem.W.findIn K (.ref kPicker) "chosen" = some (some (.ref f_Picker_chosen))) (i_Picker_chosen : PySem.W.isFn K (.ref f_Picker_chosen) = true) (l_Picker_chosen : K.lookup f_Picker_chosen = some ⟨oc_Picker_chosen, od_Picker_chosen, .func (PySem.W.fnOf "chosen" "Picker.chosen" (defArgs st_Picker_chosen) (defBody st_Picker_chosen) (defScope st_Picker_chosen) .none kV_Picker_chosen dc_Picker_chosen pm_Picker_chosen an_Picker_chosen cd_Picker_chosen ct_Picker_chosen), sl_Picker_chosen⟩) (q_Picker_chosen : PySem.W.codeIn K cd_Picker_chosen "Picker.chosen" = true) (k_Picker_chosen : PySem.W.keepIn K (.ref f_Picker_chosen) = true)
    {f_Picker_seen : Addr} {od_Picker_seen an_Picker_seen : Option Addr} {sl_Picker_seen : Array (Option Value)} {oc_Picker_seen kV_Picker_seen dc_Picker_seen pm_Picker_seen cd_Picker_seen ct_Picker_seen : Value}
    (a_Picker_seen : PySem.W.findIn K (.ref kPicker) "seen" = some (some (.ref f_Picker_seen))) (i_Picker_seen : PySem.W.isFn K (.ref f_Picker_seen) = true) (l_Picker_seen : K.lookup f_Picker_seen = some ⟨oc_Picker_seen, od_Picker_seen, .func (PySem.W.fnOf "seen" "Picker.seen" (defArgs st_Picker_seen) (defBody st_Picker_seen) (defScope st_Picker_seen) .none kV_Picker_seen dc_Picker_seen pm_Picker_seen an_Picker_seen cd_Picker_seen ct_Picker_seen), sl_Picker_seen⟩) (q_Picker_seen : PySem.W.codeIn K cd_Picker_seen "Picker.seen" = true) (k_Picker_seen : PySem.W.keepIn K (.ref f_Picker_seen) = true)
    {f_Picker_done : Addr} {od_Picker_done an_Picker_done : Option Addr} {sl_Picker_done : Array (Option Value)} {oc_Picker_done kV_Picker_done dc_Picker_done pm_Picker_done cd_Picker_done ct_Picker_done : Value}
    (a_Picker_done : PySem.W.findIn K (.ref kPicker) "done" = some (some (.ref f_Picker_done))) (i_Picker_done : PySem.W.isFn K (.ref f_Picker_done) = true) (l_Picker_done : K.lookup f_Picker_done = some ⟨oc_Picker_done, od_Picker_done, .func (PySem.W.fnOf "done" "Picker.done" (defArgs st_Picker_done) (defBody st_Picker_done) (defScope st_Picker_done) .none kV_Picker_done dc_Picker_done pm_Picker_done an_Picker_done cd_Picker_done ct_Picker_done), sl_Picker_done⟩) (q_Picker_done : PySem.W.codeIn K cd_Picker_done "Picker.done" = true) (k_Picker_done : PySem.W.keepIn K (.ref f_Picker_done) = true)
    {eC_law : Value} {dC_law : Option Addr} {vC_law : Array Value} {sC_law : Array (Option Value)} (lC_law : K.lookup cL = some ⟨eC_law, dC_law, .fields vC_law, sC_law⟩) (lP_law : vC_law[11]? = some (.ref PL)) (nP_law : K.lookup PL = none) (hC_law : PySem.W.codeHdIn K cL PL = true) (hP_law : h.get? PL = some { cls := .none, data := .fields #[] })
    {eC_ranked : Value} {dC_ranked : Option Addr} {vC_ranked : Array Value} {sC_ranked : Array (Option Value)} (lC_ranked : K.lookup cM0 = some ⟨eC_ranked, dC_ranked, .fields vC_ranked, sC_ranked⟩) (lP_ranked : vC_ranked[11]? = some (.ref PM0)) (nP_ranked : K.lookup PM0 = none) (hC_ranked : PySem.W.codeHdIn K cM0 PM0 = true) (hP_ranked : h.get? PM0 = some { cls := .none, data := .fields #[] })
    {eC_law_picker_step : Value} {dC_law_picker_step : Option Addr} {vC_law_picker_step : Array Value} {sC_law_picker_step : Array (Option Value)} (lC_law_picker_step : K.lookup cM1 = some ⟨eC_law_picker_step, dC_law_picker_step, .fields vC_law_picker_step, sC_law_picker_step⟩) (lP_law_picker_step : vC_law_picker_step[11]? = some (.ref PM1)) (nP_law_picker_step : K.lookup PM1 = none) (hC_law_picker_step : PySem.W.codeHdIn K cM1 PM1 = true) (hP_law_picker_step : h.get? PM1 = some { cls := .none, data := .fields #[] })
    {eC_law_back : Value} {dC_law_back : Option Addr} {vC_law_back : Array Value} {sC_law_back : Array (Option Value)} (lC_law_back : K.lookup cM2 = some ⟨eC_law_back, dC_law_back, .fields vC_law_back, sC_law_back⟩) (lP_law_back : vC_law_back[11]? = some (.ref PM2)) (nP_law_back : K.lookup PM2 = none) (hC_law_back : PySem.W.codeHdIn K cM2 PM2 = true) (hP_law_back : h.get? PM2 = some { cls := .none, data := .fields #[] })
    (ne_0_1 : PL ≠ PM0)
    (ne_0_2 : PL ≠ PM1)
    (ne_0_3 : PL ≠ PM2)
    (ne_1_0 : PM0 ≠ PL)
    (ne_1_2 : PM0 ≠ PM1)
    (ne_1_3 : PM0 ≠ PM2)
    (ne_2_0 : PM1 ≠ PL)
    (ne_2_1 : PM1 ≠ PM0)
    (ne_2_3 : PM1 ≠ PM2)
    (ne_3_0 : PM2 ≠ PL)
    (ne_3_1 : PM2 ≠ PM0)
    (ne_3_2 : PM2 ≠ PM1)
    {t_SMALL : Tok} (c_SMALL : PySem.W.nsIn K mainGlobals "SMALL" = some (some (.str ⟨lSmall.toArray⟩ t_SMALL)))
    {t_GREAT : Tok} (c_GREAT : PySem.W.nsIn K mainGlobals "GREAT" = some (some (.str ⟨lGreat.toArray⟩ t_GREAT)))
    {t_FIGURES : Tok} (c_FIGURES : PySem.W.nsIn K mainGlobals "FIGURES" = some (some (.str ⟨lFig.toArray⟩ t_FIGURES)))
    {t_OTHERS : Tok} (c_OTHERS : PySem.W.nsIn K mainGlobals "OTHERS" = some (some (.str ⟨lOth.toArray⟩ t_OTHERS)))
    {t_MOST_NAME : Tok} (c_MOST_NAME : PySem.W.nsIn K mainGlobals "MOST_NAME" = some (some (.int 30 t_MOST_NAME)))
    {t_MOST_ASK : Tok} (c_MOST_ASK : PySem.W.nsIn K mainGlobals "MOST_ASK" = some (some (.int 8 t_MOST_ASK)))
    {t_MOST_NAMES : Tok} (c_MOST_NAMES : PySem.W.nsIn K mainGlobals "MOST_NAMES" = some (some (.int 60 t_MOST_NAMES)))
    {t_MOST_MARK : Tok} (c_MOST_MARK : PySem.W.nsIn K mainGlobals "MOST_MARK" = some (some (.int 50 t_MOST_MARK)))
    {aT_NAMES : Addr} {odT_NAMES : Option Addr} {itT_NAMES : Array Value} {mT_NAMES : Nat} {slT_NAMES : Array (Option Value)} (c_NAMES : PySem.W.nsIn K mainGlobals "NAMES" = some (some (.ref aT_NAMES))) (lT_NAMES : K.lookup aT_NAMES = some ⟨.type "tuple", odT_NAMES, .seq itT_NAMES mT_NAMES, slT_NAMES⟩) (zT_NAMES : (decide (itT_NAMES.size = 6) && decide (6 ≤ 1000) && itT_NAMES.toList.all fun u => (L2.absV u).isSome) = true)
    {t_MOST_TALL : Tok} (c_MOST_TALL : PySem.W.nsIn K mainGlobals "MOST_TALL" = some (some (.int 20 t_MOST_TALL)))
    (b_isinstance : PySem.W.nsIn K mainGlobals "isinstance" = some none)
    (b_int : PySem.W.nsIn K mainGlobals "int" = some none)
    (b_bool : PySem.W.nsIn K mainGlobals "bool" = some none)
    (b_all : PySem.W.nsIn K mainGlobals "all" = some none)
    (b_str : PySem.W.nsIn K mainGlobals "str" = some none)
    (b_len : PySem.W.nsIn K mainGlobals "len" = some none)
    (b_tuple : PySem.W.nsIn K mainGlobals "tuple" = some none)
    (b_range : PySem.W.nsIn K mainGlobals "range" = some none)
    (b_sorted : PySem.W.nsIn K mainGlobals "sorted" = some none)
    (b_list : PySem.W.nsIn K mainGlobals "list" = some none)
    (b_enumerate : PySem.W.nsIn K mainGlobals "enumerate" = some none)
    (b_max : PySem.W.nsIn K mainGlobals "max" = some none)
    (b_min : PySem.W.nsIn K mainGlobals "min" = some none)
    (b_sum : PySem.W.nsIn K mainGlobals "sum" = some none)
    (b_ValueError : PySem.W.nsIn K mainGlobals "ValueError" = some none)
    (g_BadName : PySem.W.nsIn K mainGlobals "BadName" = some (some (.ref c0)))
    (g_BadAsk : PySem.W.nsIn K mainGlobals "BadAsk" = some (some (.ref c1)))
    (g_BadMarks : PySem.W.nsIn K mainGlobals "BadMarks" = some (some (.ref c2)))
    (g_BadPlaces : PySem.W.nsIn K mainGlobals "BadPlaces" = some (some (.ref c3)))
    (g_BadNumber : PySem.W.nsIn K mainGlobals "BadNumber" = some (some (.ref c4)))
    (g_NoName : PySem.W.nsIn K mainGlobals "NoName" = some (some (.ref c5)))
    (g_Nothing : PySem.W.nsIn K mainGlobals "Nothing" = some (some (.ref c6)))
    (g_BadText : PySem.W.nsIn K mainGlobals "BadText" = some (some (.ref c7)))
    (g_FindError : PySem.W.nsIn K mainGlobals "FindError" = some (some (.ref cS)))
    (w_BadName : ewB K [c0, c1, c2, c3, c4, c5, c6, c7] cS c0 0 = true)
    (w_BadAsk : ewB K [c0, c1, c2, c3, c4, c5, c6, c7] cS c1 1 = true)
    (w_BadMarks : ewB K [c0, c1, c2, c3, c4, c5, c6, c7] cS c2 2 = true)
    (w_BadNumber : ewB K [c0, c1, c2, c3, c4, c5, c6, c7] cS c4 4 = true)
    (w_NoName : ewB K [c0, c1, c2, c3, c4, c5, c6, c7] cS c5 5 = true)
    (w_Nothing : ewB K [c0, c1, c2, c3, c4, c5, c6, c7] cS c6 6 = true)
    : LawAtS l w K (L2N.CX l.prog w) 50 63 "script" mg fa h := by
  have e := hfa.symm.trans (PySem.W.mg_of X N a_law)
  cases e
  refine ⟨PySem.W.fnOf "law" "law" (defArgs st_law) (defBody st_law) (defScope st_law) .none kV_law dc_law pm_law an_law (.ref cL) ct_law, [(cL, PL), (cM0, PM0), (cM1, PM1), (cM2, PM2)], spLaw [(PL, ("law" : Str) ++ ".<locals>." ++ "<lambda>"), (PM0, ("ranked" : Str) ++ ".<locals>." ++ "<lambda>"), (PM1, ("_law_picker_step" : Str) ++ ".<locals>." ++ "<lambda>"), (PM2, ("_law_back" : Str) ++ ".<locals>." ++ "<lambda>")] K (fun ns => ns.length ≤ 63), fun p hp => ?_, fun p hp => ?_, fun p hp => ?_, fun s u => .of_eq rfl, fun H a ns hl hb ht hs => ?_, fun base kin bns tb => ?_⟩
  · simp only [List.mem_cons, List.not_mem_nil, or_false] at hp
    rcases hp with rfl | rfl | rfl | rfl
    · exact hP_law
    · exact hP_ranked
    · exact hP_law_picker_step
    · exact hP_law_back
  · simp only [List.mem_cons, List.not_mem_nil, or_false] at hp
    rcases hp with rfl | rfl | rfl | rfl
    · exact nP_law
    · exact nP_ranked
    · exact nP_law_picker_step
    · exact nP_law_back
  · simp only [List.mem_cons, List.not_mem_nil, or_false] at hp
    rcases hp with rfl | rfl | rfl | rfl
    · exact PySem.W.codeHd_of_K X hC_law
    · exact PySem.W.codeHd_of_K X hC_ranked
    · exact PySem.W.codeHd_of_K X hC_law_picker_step
    · exact PySem.W.codeHd_of_K X hC_law_back
  · exact ⟨a, ns, rfl, hs, (tabs_cons (ht (cL, PL) (by simp)) (tabs_cons (ht (cM0, PM0) (by simp)) (tabs_cons (ht (cM1, PM1) (by simp)) (tabs_cons (ht (cM2, PM2) (by simp)) tabs_nil)))), hl, fun _ => rfl⟩
  · have Z : Tx ⟨l.prog, w, K, mg, base⟩ [(PL, ("law" : Str) ++ ".<locals>." ++ "<lambda>"), (PM0, ("ranked" : Str) ++ ".<locals>." ++ "<lambda>"), (PM1, ("_law_picker_step" : Str) ++ ".<locals>." ++ "<lambda>"), (PM2, ("_law_back" : Str) ++ ".<locals>." ++ "<lambda>")] c0 c1 c2 c3 c4 c5 c6 c7 cS cL kPicker PL cM0 PM0 cM1 PM1 cM2 PM2 :=
      { c_SMALL := ⟨_, PySem.W.mg_of X N c_SMALL⟩
        c_GREAT := ⟨_, PySem.W.mg_of X N c_GREAT⟩
        c_FIGURES := ⟨_, PySem.W.mg_of X N c_FIGURES⟩
        c_OTHERS := ⟨_, PySem.W.mg_of X N c_OTHERS⟩
        c_MOST_NAME := ⟨_, PySem.W.mg_of X N c_MOST_NAME⟩
        c_MOST_ASK := ⟨_, PySem.W.mg_of X N c_MOST_ASK⟩
        c_MOST_NAMES := ⟨_, PySem.W.mg_of X N c_MOST_NAMES⟩
        c_MOST_MARK := ⟨_, PySem.W.mg_of X N c_MOST_MARK⟩
        c_NAMES := ktp_mk X N c_NAMES lT_NAMES zT_NAMES
        c_MOST_TALL := ⟨_, PySem.W.mg_of X N c_MOST_TALL⟩
        b_isinstance := PySem.W.mg_none_of X N b_isinstance
        b_int := PySem.W.mg_none_of X N b_int
        b_bool := PySem.W.mg_none_of X N b_bool
        b_all := PySem.W.mg_none_of X N b_all
        b_str := PySem.W.mg_none_of X N b_str
        b_len := PySem.W.mg_none_of X N b_len
        b_tuple := PySem.W.mg_none_of X N b_tuple
        b_range := PySem.W.mg_none_of X N b_range
        b_sorted := PySem.W.mg_none_of X N b_sorted
        b_list := PySem.W.mg_none_of X N b_list
        b_enumerate := PySem.W.mg_none_of X N b_enumerate
        b_max := PySem.W.mg_none_of X N b_max
        b_min := PySem.W.mg_none_of X N b_min
        b_sum := PySem.W.mg_none_of X N b_sum
        b_ValueError := PySem.W.mg_none_of X N b_ValueError
        d_is_count := df_mk X N a_is_count l_is_count q_is_count k_is_count fun fd F => F.binds (ps := ["thing", "low", "high"]) fun _ _ _ _ _ _ us hl => match us, hl with | [_, _, _], _ => rfl
        d_is_name := df_mk X N a_is_name l_is_name q_is_name k_is_name fun fd F => F.binds (ps := ["thing"]) fun _ _ _ _ _ _ us hl => match us, hl with | [_], _ => rfl
        d_is_ask := df_mk X N a_is_ask l_is_ask q_is_ask k_is_ask fun fd F => F.binds (ps := ["thing"]) fun _ _ _ _ _ _ us hl => match us, hl with | [_], _ => rfl
        d_small := df_mk X N a_small l_small q_small k_small fun fd F => F.binds (ps := ["sign"]) fun _ _ _ _ _ _ us hl => match us, hl with | [_], _ => rfl
        d_is_hit := df_mk X N a_is_hit l_is_hit q_is_hit k_is_hit fun fd F => F.binds (ps := ["own", "sign"]) fun _ _ _ _ _ _ us hl => match us, hl with | [_, _], _ => rfl
        d_begins := df_mk X N a_begins l_begins q_begins k_begins fun fd F => F.binds (ps := ["name", "at"]) fun _ _ _ _ _ _ us hl => match us, hl with | [_, _], _ => rfl
        d_greedy := df_mk X N a_greedy l_greedy q_greedy k_greedy fun fd F => F.binds (ps := ["ask", "name"]) fun _ _ _ _ _ _ us hl => match us, hl with | [_, _], _ => rfl
        d_need_marks := df_mk X N a_need_marks l_need_marks q_need_marks k_need_marks fun fd F => F.binds (ps := ["marks"]) fun _ _ _ _ _ _ us hl => match us, hl with | [_], _ => rfl
        d_own_worth := df_mk X N a_own_worth l_own_worth q_own_worth k_own_worth fun fd F => F.binds (ps := ["marks", "own", "name", "at"]) fun _ _ _ _ _ _ us hl => match us, hl with | [_, _, _, _], _ => rfl
        d_gap_worth := df_mk X N a_gap_worth l_gap_worth q_gap_worth k_gap_worth fun fd F => F.binds (ps := ["marks", "one", "other"]) fun _ _ _ _ _ _ us hl => match us, hl with | [_, _, _], _ => rfl
        d_best_of := df_mk X N a_best_of l_best_of q_best_of k_best_of fun fd F => F.binds (ps := ["marks", "ask", "name"]) fun _ _ _ _ _ _ us hl => match us, hl with | [_, _, _], _ => rfl
        d_need_names := df_mk X N a_need_names l_need_names q_need_names k_need_names fun fd F => F.binds (ps := ["names"]) fun _ _ _ _ _ _ us hl => match us, hl with | [_], _ => rfl
        d_ranked := dfl_mk X N a_ranked l_ranked q_ranked k_ranked fun fd F => F.binds (ps := ["rows"]) fun _ _ _ _ _ _ us hl => match us, hl with | [_], _ => rfl
        d_hits_of := df_mk X N a_hits_of l_hits_of q_hits_of k_hits_of fun fd F => F.binds (ps := ["marks", "ask", "pairs"]) fun _ _ _ _ _ _ us hl => match us, hl with | [_, _, _], _ => rfl
        d_shown_text := df_mk X N a_shown_text l_shown_text q_shown_text k_shown_text fun fd F => F.binds (ps := ["name", "places"]) fun _ _ _ _ _ _ us hl => match us, hl with | [_, _], _ => rfl
        d_law_cell := df_mk X N a_law_cell l_law_cell q_law_cell k_law_cell fun fd F => F.binds (ps := ["script", "k"]) fun _ _ _ _ _ _ us hl => match us, hl with | [_, _], _ => rfl
        d_law_drawn := df_mk X N a_law_drawn l_law_drawn q_law_drawn k_law_drawn fun fd F => F.binds (ps := ["cell", "k"]) fun _ _ _ _ _ _ us hl => match us, hl with | [_, _], _ => rfl
        d_law_word := df_mk X N a_law_word l_law_word q_law_word k_law_word fun fd F => F.binds (ps := ["e"]) fun _ _ _ _ _ _ us hl => match us, hl with | [_], _ => rfl
        d_law_told := df_mk X N a_law_told l_law_told q_law_told k_law_told fun fd F => F.binds (ps := ["deed"]) fun _ _ _ _ _ _ us hl => match us, hl with | [_], _ => rfl
        d_law_sign := df_mk X N a_law_sign l_law_sign q_law_sign k_law_sign fun fd F => F.binds (ps := ["more"]) fun _ _ _ _ _ _ us hl => match us, hl with | [_], _ => rfl
        d_law_name := df_mk X N a_law_name l_law_name q_law_name k_law_name fun fd F => F.binds (ps := ["more", "most"]) fun _ _ _ _ _ _ us hl => match us, hl with | [_, _], _ => rfl
        d_law_kind := df_mk X N a_law_kind l_law_kind q_law_kind k_law_kind fun fd F => F.binds (ps := ["sign"]) fun _ _ _ _ _ _ us hl => match us, hl with | [_], _ => rfl
        d_law_starts := df_mk X N a_law_starts l_law_starts q_law_starts k_law_starts fun fd F => F.binds (ps := ["name"]) fun _ _ _ _ _ _ us hl => match us, hl with | [_], _ => rfl
        d_law_hit := df_mk X N a_law_hit l_law_hit q_law_hit k_law_hit fun fd F => F.binds (ps := ["own", "sign"]) fun _ _ _ _ _ _ us hl => match us, hl with | [_, _], _ => rfl
        d_law_every := df_mk X N a_law_every l_law_every q_law_every k_law_every fun fd F => F.binds (ps := ["ask", "name"]) fun _ _ _ _ _ _ us hl => match us, hl with | [_, _], _ => rfl
        d_law_marks := df_mk X N a_law_marks l_law_marks q_law_marks k_law_marks fun fd F => F.binds (ps := ["more"]) fun _ _ _ _ _ _ us hl => match us, hl with | [_], _ => rfl
        d_law_names := df_mk X N a_law_names l_law_names q_law_names k_law_names fun fd F => F.binds (ps := ["more", "many", "most"]) fun _ _ _ _ _ _ us hl => match us, hl with | [_, _, _], _ => rfl
        d_law_worth := df_mk X N a_law_worth l_law_worth q_law_worth k_law_worth fun fd F => F.binds (ps := ["marks", "ask", "name", "spots"]) fun _ _ _ _ _ _ us hl => match us, hl with | [_, _, _, _], _ => rfl
        d_law_best := df_mk X N a_law_best l_law_best q_law_best k_law_best fun fd F => F.binds (ps := ["marks", "ask", "name"]) fun _ _ _ _ _ _ us hl => match us, hl with | [_, _, _], _ => rfl
        d_law_rows := df_mk X N a_law_rows l_law_rows q_law_rows k_law_rows fun fd F => F.binds (ps := ["marks", "ask", "names"]) fun _ _ _ _ _ _ us hl => match us, hl with | [_, _, _], _ => rfl
        d_law_shown := df_mk X N a_law_shown l_law_shown q_law_shown k_law_shown fun fd F => F.binds (ps := ["name", "spots"]) fun _ _ _ _ _ _ us hl => match us, hl with | [_, _], _ => rfl
        d_law_fit := df_mk X N a_law_fit l_law_fit q_law_fit k_law_fit fun fd F => F.binds (ps := ["own"]) fun _ _ _ _ _ _ us hl => match us, hl with | [_], _ => rfl
        d_law_stepped := df_mk X N a_law_stepped l_law_stepped q_law_stepped k_law_stepped fun fd F => F.binds (ps := ["own", "by"]) fun _ _ _ _ _ _ us hl => match us, hl with | [_, _], _ => rfl
        d_law_picker_step := dfl_mk X N a_law_picker_step l_law_picker_step q_law_picker_step k_law_picker_step fun fd F => F.binds (ps := ["picker", "own", "here"]) fun _ _ _ _ _ _ us hl => match us, hl with | [_, _, _], _ => rfl
        d_law_back := dfl_mk X N a_law_back l_law_back q_law_back k_law_back fun fd F => F.binds (ps := ["picker", "own", "side"]) fun _ _ _ _ _ _ us hl => match us, hl with | [_, _, _], _ => rfl
        d_law_picker_like := df_mk X N a_law_picker_like l_law_picker_like q_law_picker_like k_law_picker_like fun fd F => F.binds (ps := ["picker", "own"]) fun _ _ _ _ _ _ us hl => match us, hl with | [_, _], _ => rfl
        k_Picker := cls_mk kb_Picker (PySem.W.mg_of X N g_Picker)
        m_Picker_init := mti_mk mk_Picker kc_Picker a_Picker_init i_Picker_init l_Picker_init q_Picker_init k_Picker_init fun fd F => F.binds (ps := ["self", "marks", "names", "tall"]) fun _ _ _ _ _ _ us hl => match us, hl with | [_, _, _, _], _ => rfl
        m_Picker_become := mt_mk a_Picker_become i_Picker_become l_Picker_become q_Picker_become k_Picker_become fun fd F => F.binds (ps := ["self", "state"]) fun _ _ _ _ _ _ us hl => match us, hl with | [_, _], _ => rfl
        m_Picker_in_turn := mt_mk a_Picker_in_turn i_Picker_in_turn l_Picker_in_turn q_Picker_in_turn k_Picker_in_turn fun fd F => F.binds (ps := ["self"]) fun _ _ _ _ _ _ us hl => match us, hl with | [_], _ => rfl
        m_Picker_press := mt_mk a_Picker_press i_Picker_press l_Picker_press q_Picker_press k_Picker_press fun fd F => F.binds (ps := ["self", "sign"]) fun _ _ _ _ _ _ us hl => match us, hl with | [_, _], _ => rfl
        m_Picker_rub := mt_mk a_Picker_rub i_Picker_rub l_Picker_rub q_Picker_rub k_Picker_rub fun fd F => F.binds (ps := ["self"]) fun _ _ _ _ _ _ us hl => match us, hl with | [_], _ => rfl
        m_Picker_step := mt_mk a_Picker_step i_Picker_step l_Picker_step q_Picker_step k_Picker_step fun fd F => F.binds (ps := ["self", "by"]) fun _ _ _ _ _ _ us hl => match us, hl with | [_, _], _ => rfl
        m_Picker_at := mt_mk a_Picker_at i_Picker_at l_Picker_at q_Picker_at k_Picker_at fun fd F => F.binds (ps := ["self"]) fun _ _ _ _ _ _ us hl => match us, hl with | [_], _ => rfl
        m_Picker_mark := mt_mk a_Picker_mark i_Picker_mark l_Picker_mark q_Picker_mark k_Picker_mark fun fd F => F.binds (ps := ["self"]) fun _ _ _ _ _ _ us hl => match us, hl with | [_], _ => rfl
        m_Picker_undo := mt_mk a_Picker_undo i_Picker_undo l_Picker_undo q_Picker_undo k_Picker_undo fun fd F => F.binds (ps := ["self"]) fun _ _ _ _ _ _ us hl => match us, hl with | [_], _ => rfl
        m_Picker_redo := mt_mk a_Picker_redo i_Picker_redo l_Picker_redo q_Picker_redo k_Picker_redo fun fd F => F.binds (ps := ["self"]) fun _ _ _ _ _ _ us hl => match us, hl with | [_], _ => rfl
        m_Picker_ask := mt_mk a_Picker_ask i_Picker_ask l_Picker_ask q_Picker_ask k_Picker_ask fun fd F => F.binds (ps := ["self"]) fun _ _ _ _ _ _ us hl => match us, hl with | [_], _ => rfl
        m_Picker_chosen := mt_mk a_Picker_chosen i_Picker_chosen l_Picker_chosen q_Picker_chosen k_Picker_chosen fun fd F => F.binds (ps := ["self"]) fun _ _ _ _ _ _ us hl => match us, hl with | [_], _ => rfl
        m_Picker_seen := mt_mk a_Picker_seen i_Picker_seen l_Picker_seen q_Picker_seen k_Picker_seen fun fd F => F.binds (ps := ["self"]) fun _ _ _ _ _ _ us hl => match us, hl with | [_], _ => rfl
        m_Picker_done := mt_mk a_Picker_done i_Picker_done l_Picker_done q_Picker_done k_Picker_done fun fd F => F.binds (ps := ["self"]) fun _ _ _ _ _ _ us hl => match us, hl with | [_], _ => rfl
        g_BadName := PySem.W.mg_of X N g_BadName
        g_BadAsk := PySem.W.mg_of X N g_BadAsk
        g_BadMarks := PySem.W.mg_of X N g_BadMarks
        g_BadPlaces := PySem.W.mg_of X N g_BadPlaces
        g_BadNumber := PySem.W.mg_of X N g_BadNumber
        g_NoName := PySem.W.mg_of X N g_NoName
        g_Nothing := PySem.W.mg_of X N g_Nothing
        g_BadText := PySem.W.mg_of X N g_BadText
        g_FindError := PySem.W.mg_of X N g_FindError
        w_BadName := ew_of w_BadName
        w_BadAsk := ew_of w_BadAsk
        w_BadMarks := ew_of w_BadMarks
        w_BadNumber := ew_of w_BadNumber
        w_NoName := ew_of w_NoName
        w_Nothing := ew_of w_Nothing
        tb_law := tb (cL, PL) (by simp)
        hm_law := by simp
        hu_law := fun p hp e => by
          simp only [List.mem_cons, List.not_mem_nil, or_false] at hp
          rcases hp with rfl | rfl | rfl | rfl
          · rfl
          · exact absurd e ne_1_0
          · exact absurd e ne_2_0
          · exact absurd e ne_3_0
        tb_ranked := tb (cM0, PM0) (by simp)
        hm_ranked := by simp
        hu_ranked := fun p hp e => by
          simp only [List.mem_cons, List.not_mem_nil, or_false] at hp
          rcases hp with rfl | rfl | rfl | rfl
          · exact absurd e ne_0_1
          · rfl
          · exact absurd e ne_2_1
          · exact absurd e ne_3_1
        tb_law_picker_step := tb (cM1, PM1) (by simp)
        hm_law_picker_step := by simp
        hu_law_picker_step := fun p hp e => by
          simp only [List.mem_cons, List.not_mem_nil, or_false] at hp
          rcases hp with rfl | rfl | rfl | rfl
          · exact absurd e ne_0_2
          · exact absurd e ne_1_2
          · rfl
          · exact absurd e ne_3_2
        tb_law_back := tb (cM2, PM2) (by simp)
        hm_law_back := by simp
        hu_law_back := fun p hp e => by
          simp only [List.mem_cons, List.not_mem_nil, or_false] at hp
          rcases hp with rfl | rfl | rfl | rfl
          · exact absurd e ne_0_3
          · exact absurd e ne_1_3
          · exact absurd e ne_2_3
          · rfl }
    exact p_law Z l_law q_law
end K95
set_option Elab.async false
set_option linter.all false
open PySem PySem.W PyProof.Rows
set_option maxRecDepth 100000 in
set_option maxHeartbeats 0 in
theorem PySem.Challenge.cw_letterfinds_k95_whole_pickers_holds : PySem.Challenge.rw_letterfinds_k95_whole_pickers.Holds := by
  w_on; o_law; k_head; (case hw => w_witness2)
  k_fill
  refine LamX.walk_ofTs (l := PySem.Challenge.rw_letterfinds_k95_whole_pickers) (n := 63) (k := 50) (x := "script") (CX := fun w => L2N.CX PySem.Challenge.rw_letterfinds_k95_whole_pickers.prog w) rfl (by decide) rfl ⟨rfl, by decide, by decide⟩ (fun w h Y => PySem.W.km_in_of Y) ?F (fun _ _ _ _ _ h => Lf.noCX h)
  case F =>
    intro w mg fa h Y KX G hmg
    refine' K95.all_mk KX G hmg ?a_law ?l_law ?q_law ?a_is_count ?l_is_count ?q_is_count ?k_is_count ?a_is_name ?l_is_name ?q_is_name ?k_is_name ?a_is_ask ?l_is_ask ?q_is_ask ?k_is_ask ?a_small ?l_small ?q_small ?k_small ?a_is_hit ?l_is_hit ?q_is_hit ?k_is_hit ?a_begins ?l_begins ?q_begins ?k_begins ?a_greedy ?l_greedy ?q_greedy ?k_greedy ?a_need_marks ?l_need_marks ?q_need_marks ?k_need_marks ?a_own_worth ?l_own_worth ?q_own_worth ?k_own_worth ?a_gap_worth ?l_gap_worth ?q_gap_worth ?k_gap_worth ?a_best_of ?l_best_of ?q_best_of ?k_best_of ?a_need_names ?l_need_names ?q_need_names ?k_need_names ?a_ranked ?l_ranked ?q_ranked ?k_ranked ?a_hits_of ?l_hits_of ?q_hits_of ?k_hits_of ?a_shown_text ?l_shown_text ?q_shown_text ?k_shown_text ?a_law_cell ?l_law_cell ?q_law_cell ?k_law_cell ?a_law_drawn ?l_law_drawn ?q_law_drawn ?k_law_drawn ?a_law_word ?l_law_word ?q_law_word ?k_law_word ?a_law_told ?l_law_told ?q_law_told ?k_law_told ?a_law_sign ?l_law_sign ?q_law_sign ?k_law_sign ?a_law_name ?l_law_name ?q_law_name ?k_law_name ?a_law_kind ?l_law_kind ?q_law_kind ?k_law_kind ?a_law_starts ?l_law_starts ?q_law_starts ?k_law_starts ?a_law_hit ?l_law_hit ?q_law_hit ?k_law_hit ?a_law_every ?l_law_every ?q_law_every ?k_law_every ?a_law_marks ?l_law_marks ?q_law_marks ?k_law_marks ?a_law_names ?l_law_names ?q_law_names ?k_law_names ?a_law_worth ?l_law_worth ?q_law_worth ?k_law_worth ?a_law_best ?l_law_best ?q_law_best ?k_law_best ?a_law_rows ?l_law_rows ?q_law_rows ?k_law_rows ?a_law_shown ?l_law_shown ?q_law_shown ?k_law_shown ?a_law_fit ?l_law_fit ?q_law_fit ?k_law_fit ?a_law_stepped ?l_law_stepped ?q_law_stepped ?k_law_stepped ?a_law_picker_step ?l_law_picker_step ?q_law_picker_step ?k_law_picker_step ?a_law_back ?l_law_back ?q_law_back ?k_law_back ?a_law_picker_like ?l_law_picker_like ?q_law_picker_like ?k_law_picker_like ?g_Picker ?kb_Picker ?mk_Picker ?kc_Picker ?a_Picker_init ?i_Picker_init ?l_Picker_init ?q_Picker_init ?k_Picker_init ?a_Picker_become ?i_Picker_become ?l_Picker_become ?q_Picker_become ?k_Picker_become ?a_Picker_in_turn ?i_Picker_in_turn ?l_Picker_in_turn ?q_Picker_in_turn ?k_Picker_in_turn ?a_Picker_press ?i_Picker_press ?l_Picker_press ?q_Picker_press ?k_Picker_press ?a_Picker_rub ?i_Picker_rub ?l_Picker_rub ?q_Picker_rub ?k_Picker_rub ?a_Picker_step ?i_Picker_step ?l_Picker_step ?q_Picker_step ?k_Picker_step ?a_Picker_at ?i_Picker_at ?l_Picker_at ?q_Picker_at ?k_Picker_at ?a_Picker_mark ?i_Picker_mark ?l_Picker_mark ?q_Picker_mark ?k_Picker_mark ?a_Picker_undo ?i_Picker_undo ?l_Picker_undo ?q_Picker_undo ?k_Picker_undo ?a_Picker_redo ?i_Picker_redo ?l_Picker_redo ?q_Picker_redo ?k_Picker_redo ?a_Picker_ask ?i_Picker_ask ?l_Picker_ask ?q_Picker_ask ?k_Picker_ask ?a_Picker_chosen ?i_Picker_chosen ?l_Picker_chosen ?q_Picker_chosen ?k_Picker_chosen ?a_Picker_seen ?i_Picker_seen ?l_Picker_seen ?q_Picker_seen ?k_Picker_seen ?a_Picker_done ?i_Picker_done ?l_Picker_done ?q_Picker_done ?k_Picker_done ?lC_law ?lP_law ?nP_law ?hC_law ?hP_law ?lC_ranked ?lP_ranked ?nP_ranked ?hC_ranked ?hP_ranked ?lC_law_picker_step ?lP_law_picker_step ?nP_law_picker_step ?hC_law_picker_step ?hP_law_picker_step ?lC_law_back ?lP_law_back ?nP_law_back ?hC_law_back ?hP_law_back ?ne_0_1 ?ne_0_2 ?ne_0_3 ?ne_1_0 ?ne_1_2 ?ne_1_3 ?ne_2_0 ?ne_2_1 ?ne_2_3 ?ne_3_0 ?ne_3_1 ?ne_3_2 ?c_SMALL ?c_GREAT ?c_FIGURES ?c_OTHERS ?c_MOST_NAME ?c_MOST_ASK ?c_MOST_NAMES ?c_MOST_MARK ?c_NAMES ?lT_NAMES ?zT_NAMES ?c_MOST_TALL ?b_isinstance ?b_int ?b_bool ?b_all ?b_str ?b_len ?b_tuple ?b_range ?b_sorted ?b_list ?b_enumerate ?b_max ?b_min ?b_sum ?b_ValueError ?g_BadName ?g_BadAsk ?g_BadMarks ?g_BadPlaces ?g_BadNumber ?g_NoName ?g_Nothing ?g_BadText ?g_FindError ?w_BadName ?w_BadAsk ?w_BadMarks ?w_BadNumber ?w_NoName ?w_Nothing
    (case a_law => k_is)
    (case l_law => k_is)
    (case q_law => k_is)
    (case a_is_count => k_is)
    (case l_is_count => k_is)
    (case q_is_count => k_is)
    (case k_is_count => k_is)
    (case a_is_name => k_is)
    (case l_is_name => k_is)
    (case q_is_name => k_is)
    (case k_is_name => k_is)
    (case a_is_ask => k_is)
    (case l_is_ask => k_is)
    (case q_is_ask => k_is)
    (case k_is_ask => k_is)
    (case a_small => k_is)
    (case l_small => k_is)
    (case q_small => k_is)
    (case k_small => k_is)
    (case a_is_hit => k_is)
    (case l_is_hit => k_is)
    (case q_is_hit => k_is)
    (case k_is_hit => k_is)
    (case a_begins => k_is)
    (case l_begins => k_is)
    (case q_begins => k_is)
    (case k_begins => k_is)
    (case a_greedy => k_is)
    (case l_greedy => k_is)
    (case q_greedy => k_is)
    (case k_greedy => k_is)
    (case a_need_marks => k_is)
    (case l_need_marks => k_is)
    (case q_need_marks => k_is)
    (case k_need_marks => k_is)
    (case a_own_worth => k_is)
    (case l_own_worth => k_is)
    (case q_own_worth => k_is)
    (case k_own_worth => k_is)
    (case a_gap_worth => k_is)
    (case l_gap_worth => k_is)
    (case q_gap_worth => k_is)
    (case k_gap_worth => k_is)
    (case a_best_of => k_is)
    (case l_best_of => k_is)
    (case q_best_of => k_is)
    (case k_best_of => k_is)
    (case a_need_names => k_is)
    (case l_need_names => k_is)
    (case q_need_names => k_is)
    (case k_need_names => k_is)
    (case a_ranked => k_is)
    (case l_ranked => k_is)
    (case q_ranked => k_is)
    (case k_ranked => k_is)
    (case a_hits_of => k_is)
    (case l_hits_of => k_is)
    (case q_hits_of => k_is)
    (case k_hits_of => k_is)
    (case a_shown_text => k_is)
    (case l_shown_text => k_is)
    (case q_shown_text => k_is)
    (case k_shown_text => k_is)
    (case a_law_cell => k_is)
    (case l_law_cell => k_is)
    (case q_law_cell => k_is)
    (case k_law_cell => k_is)
    (case a_law_drawn => k_is)
    (case l_law_drawn => k_is)
    (case q_law_drawn => k_is)
    (case k_law_drawn => k_is)
    (case a_law_word => k_is)
    (case l_law_word => k_is)
    (case q_law_word => k_is)
    (case k_law_word => k_is)
    (case a_law_told => k_is)
    (case l_law_told => k_is)
    (case q_law_told => k_is)
    (case k_law_told => k_is)
    (case a_law_sign => k_is)
    (case l_law_sign => k_is)
    (case q_law_sign => k_is)
    (case k_law_sign => k_is)
    (case a_law_name => k_is)
    (case l_law_name => k_is)
    (case q_law_name => k_is)
    (case k_law_name => k_is)
    (case a_law_kind => k_is)
    (case l_law_kind => k_is)
    (case q_law_kind => k_is)
    (case k_law_kind => k_is)
    (case a_law_starts => k_is)
    (case l_law_starts => k_is)
    (case q_law_starts => k_is)
    (case k_law_starts => k_is)
    (case a_law_hit => k_is)
    (case l_law_hit => k_is)
    (case q_law_hit => k_is)
    (case k_law_hit => k_is)
    (case a_law_every => k_is)
    (case l_law_every => k_is)
    (case q_law_every => k_is)
    (case k_law_every => k_is)
    (case a_law_marks => k_is)
    (case l_law_marks => k_is)
    (case q_law_marks => k_is)
    (case k_law_marks => k_is)
    (case a_law_names => k_is)
    (case l_law_names => k_is)
    (case q_law_names => k_is)
    (case k_law_names => k_is)
    (case a_law_worth => k_is)
    (case l_law_worth => k_is)
    (case q_law_worth => k_is)
    (case k_law_worth => k_is)
    (case a_law_best => k_is)
    (case l_law_best => k_is)
    (case q_law_best => k_is)
    (case k_law_best => k_is)
    (case a_law_rows => k_is)
    (case l_law_rows => k_is)
    (case q_law_rows => k_is)
    (case k_law_rows => k_is)
    (case a_law_shown => k_is)
    (case l_law_shown => k_is)
    (case q_law_shown => k_is)
    (case k_law_shown => k_is)
    (case a_law_fit => k_is)
    (case l_law_fit => k_is)
    (case q_law_fit => k_is)
    (case k_law_fit => k_is)
    (case a_law_stepped => k_is)
    (case l_law_stepped => k_is)
    (case q_law_stepped => k_is)
    (case k_law_stepped => k_is)
    (case a_law_picker_step => k_is)
    (case l_law_picker_step => k_is)
    (case q_law_picker_step => k_is)
    (case k_law_picker_step => k_is)
    (case a_law_back => k_is)
    (case l_law_back => k_is)
    (case q_law_back => k_is)
    (case k_law_back => k_is)
    (case a_law_picker_like => k_is)
    (case l_law_picker_like => k_is)
    (case q_law_picker_like => k_is)
    (case k_law_picker_like => k_is)
    (case g_Picker => k_is)
    (case kb_Picker => kernel_rfl)
    (case mk_Picker => k_is)
    (case kc_Picker => k_is)
    (case a_Picker_init => k_is)
    (case i_Picker_init => k_is)
    (case l_Picker_init => k_is)
    (case q_Picker_init => k_is)
    (case k_Picker_init => k_is)
    (case a_Picker_become => k_is)
    (case i_Picker_become => k_is)
    (case l_Picker_become => k_is)
    (case q_Picker_become => k_is)
    (case k_Picker_become => k_is)
    (case a_Picker_in_turn => k_is)
    (case i_Picker_in_turn => k_is)
    (case l_Picker_in_turn => k_is)
    (case q_Picker_in_turn => k_is)
    (case k_Picker_in_turn => k_is)
    (case a_Picker_press => k_is)
    (case i_Picker_press => k_is)
    (case l_Picker_press => k_is)
    (case q_Picker_press => k_is)
    (case k_Picker_press => k_is)
    (case a_Picker_rub => k_is)
    (case i_Picker_rub => k_is)
    (case l_Picker_rub => k_is)
    (case q_Picker_rub => k_is)
    (case k_Picker_rub => k_is)
    (case a_Picker_step => k_is)
    (case i_Picker_step => k_is)
    (case l_Picker_step => k_is)
    (case q_Picker_step => k_is)
    (case k_Picker_step => k_is)
    (case a_Picker_at => k_is)
    (case i_Picker_at => k_is)
    (case l_Picker_at => k_is)
    (case q_Picker_at => k_is)
    (case k_Picker_at => k_is)
    (case a_Picker_mark => k_is)
    (case i_Picker_mark => k_is)
    (case l_Picker_mark => k_is)
    (case q_Picker_mark => k_is)
    (case k_Picker_mark => k_is)
    (case a_Picker_undo => k_is)
    (case i_Picker_undo => k_is)
    (case l_Picker_undo => k_is)
    (case q_Picker_undo => k_is)
    (case k_Picker_undo => k_is)
    (case a_Picker_redo => k_is)
    (case i_Picker_redo => k_is)
    (case l_Picker_redo => k_is)
    (case q_Picker_redo => k_is)
    (case k_Picker_redo => k_is)
    (case a_Picker_ask => k_is)
    (case i_Picker_ask => k_is)
    (case l_Picker_ask => k_is)
    (case q_Picker_ask => k_is)
    (case k_Picker_ask => k_is)
    (case a_Picker_chosen => k_is)
    (case i_Picker_chosen => k_is)
    (case l_Picker_chosen => k_is)
    (case q_Picker_chosen => k_is)
    (case k_Picker_chosen => k_is)
    (case a_Picker_seen => k_is)
    (case i_Picker_seen => k_is)
    (case l_Picker_seen => k_is)
    (case q_Picker_seen => k_is)
    (case k_Picker_seen => k_is)
    (case a_Picker_done => k_is)
    (case i_Picker_done => k_is)
    (case l_Picker_done => k_is)
    (case q_Picker_done => k_is)
    (case k_Picker_done => k_is)
    (case lC_law => k_is)
    (case lP_law => rfl)
    (case nP_law => kernel_rfl)
    (case hC_law => kernel_rfl)
    (case hP_law => exact PySem.W.km_tabs_of Y _ (by decide))
    (case lC_ranked => k_is)
    (case lP_ranked => rfl)
    (case nP_ranked => kernel_rfl)
    (case hC_ranked => kernel_rfl)
    (case hP_ranked => exact PySem.W.km_tabs_of Y _ (by decide))
    (case lC_law_picker_step => k_is)
    (case lP_law_picker_step => rfl)
    (case nP_law_picker_step => kernel_rfl)
    (case hC_law_picker_step => kernel_rfl)
    (case hP_law_picker_step => exact PySem.W.km_tabs_of Y _ (by decide))
    (case lC_law_back => k_is)
    (case lP_law_back => rfl)
    (case nP_law_back => kernel_rfl)
    (case hC_law_back => kernel_rfl)
    (case hP_law_back => exact PySem.W.km_tabs_of Y _ (by decide))
    (case ne_0_1 => decide)
    (case ne_0_2 => decide)
    (case ne_0_3 => decide)
    (case ne_1_0 => decide)
    (case ne_1_2 => decide)
    (case ne_1_3 => decide)
    (case ne_2_0 => decide)
    (case ne_2_1 => decide)
    (case ne_2_3 => decide)
    (case ne_3_0 => decide)
    (case ne_3_1 => decide)
    (case ne_3_2 => decide)
    (case c_SMALL => k_is)
    (case c_GREAT => k_is)
    (case c_FIGURES => k_is)
    (case c_OTHERS => k_is)
    (case c_MOST_NAME => k_is)
    (case c_MOST_ASK => k_is)
    (case c_MOST_NAMES => k_is)
    (case c_MOST_MARK => k_is)
    (case c_NAMES => k_is)
    (case lT_NAMES => k_is)
    (case zT_NAMES => kernel_rfl)
    (case c_MOST_TALL => k_is)
    (case b_isinstance => k_is)
    (case b_int => k_is)
    (case b_bool => k_is)
    (case b_all => k_is)
    (case b_str => k_is)
    (case b_len => k_is)
    (case b_tuple => k_is)
    (case b_range => k_is)
    (case b_sorted => k_is)
    (case b_list => k_is)
    (case b_enumerate => k_is)
    (case b_max => k_is)
    (case b_min => k_is)
    (case b_sum => k_is)
    (case b_ValueError => k_is)
    (case g_BadName => k_is)
    (case g_BadAsk => k_is)
    (case g_BadMarks => k_is)
    (case g_BadPlaces => k_is)
    (case g_BadNumber => k_is)
    (case g_NoName => k_is)
    (case g_Nothing => k_is)
    (case g_BadText => k_is)
    (case g_FindError => k_is)
    (case w_BadName => kernel_rfl)
    (case w_BadAsk => kernel_rfl)
    (case w_BadMarks => kernel_rfl)
    (case w_BadNumber => kernel_rfl)
    (case w_NoName => kernel_rfl)
    (case w_Nothing => kernel_rfl)
