import PyProof.Rows.All
import Wide.All
import OpenK.AllK
import Wide.FinOn
import HandS.ForMost
import HandS.Exc
import HandS.ExcOwn
import HandS.ExcCtx
import HandS.WordsExc
import HandS.Lambda
import HandS.Wide
import HandS.IsInst
import HandS.Steps
import HandS.Deep
import HandS.TupAny
import HandS.Codes
import HandS.Style
import HandS.Replace
import HandS.HotCalls
import HandS.ExcIs
import HandS.List
import HandS.Comp
import HandS.EndOwn
import HandS.NestedK
import PyProof.StrBlock2
import KE.SortData
import HandS.WordsDict
import HandS.Small
import KE.GoesMore
import KE.GoesZip
import HandS.Conv
import KE.SortKeyHeap
import HandS.SortKw
import KE.KDictZip
import HandS.ListItems
import PyProof.ListNew
import PyProof.EnumMake
import KE.KNestM
import PySem.Challenge.RW_letterfinds_k71_whole_finders_anew
set_option Elab.async false
set_option linter.all false
set_option maxRecDepth 100000
set_option maxHeartbeats 4000000
/-! the data layer: every value a tree of data, lists of one's own while they grow -/
namespace Lf
open PySem PySem.Spec PyProof.Rows L2 LamX
/-! ### data in a heap, outside the addresses O -/
mutual
def Dt (O : Addr → Prop) (H : Hp) : PyData → V → Prop
  | .none, v => v = .non
  | .bool b, v => v = .bl b
  | .int i, v => v = .int i
  | .str s, v => v = .str s
  | .list ds, v => ∃ a xs, v = .ref a ∧ ¬ O a ∧ H a = some (.lst xs) ∧ DtAll O H ds xs
  | .tuple ds, v => ∃ a xs, v = .ref a ∧ ¬ O a ∧ H a = some (.tup xs) ∧ DtAll O H ds xs
  | .dict kvs, v => ∃ p : Addr, kvs = [(PyData.int (p : Int), PyData.none)] ∧ v = .ref p
def DtAll (O : Addr → Prop) (H : Hp) : List PyData → List V → Prop
  | [], xs => xs = []
  | d :: ds, xs => ∃ x r, xs = x :: r ∧ Dt O H d x ∧ DtAll O H ds r
end
mutual
theorem Dt.imp {O O' : Addr → Prop} {H H' : Hp} (k : ∀ a o, ¬ O a → H a = some o → (∀ ps, o ≠ .tbl ps) → ¬ O' a ∧ H' a = some o) : ∀ (d : PyData) (v : V), Dt O H d v → Dt O' H' d v
  | .none, _, h => h
  | .bool _, _, h => h
  | .int _, _, h => h
  | .str _, _, h => h
  | .list ds, _, h => by
    obtain ⟨a, xs, e, n, g, r⟩ := h
    obtain ⟨n', g'⟩ := k a _ n g (fun _ z => by cases z)
    exact ⟨a, xs, e, n', g', DtAll.imp k ds xs r⟩
  | .tuple ds, _, h => by
    obtain ⟨a, xs, e, n, g, r⟩ := h
    obtain ⟨n', g'⟩ := k a _ n g (fun _ z => by cases z)
    exact ⟨a, xs, e, n', g', DtAll.imp k ds xs r⟩
  | .dict _, _, h => h
theorem DtAll.imp {O O' : Addr → Prop} {H H' : Hp} (k : ∀ a o, ¬ O a → H a = some o → (∀ ps, o ≠ .tbl ps) → ¬ O' a ∧ H' a = some o) : ∀ (ds : List PyData) (xs : List V), DtAll O H ds xs → DtAll O' H' ds xs
  | [], _, h => h
  | d :: ds, _, h => by
    obtain ⟨x, r, e, h1, h2⟩ := h
    exact ⟨x, r, e, Dt.imp k d x h1, DtAll.imp k ds r h2⟩
end
section
variable {O O' : Addr → Prop} {H H' : Hp} {d : PyData} {ds es : List PyData} {v : V} {vs us : List V} {p : Addr} {o : HO}
theorem Dt.grow (h : Dt O H d v) (e : ExtN H H') : Dt O H' d v := Dt.imp (fun a o n g t => ⟨n, e a o g t⟩) d v h
theorem DtAll.grow (h : DtAll O H ds vs) (e : ExtN H H') : DtAll O H' ds vs := DtAll.imp (fun a o n g t => ⟨n, e a o g t⟩) ds vs h
/-- fewer addresses are shut -/
theorem Dt.open_ (h : Dt O H d v) (e : ∀ a, O' a → O a) : Dt O' H d v := Dt.imp (fun a o n g t => ⟨fun z => n (e a z), g⟩) d v h
theorem DtAll.open_ (h : DtAll O H ds vs) (e : ∀ a, O' a → O a) : DtAll O' H ds vs := DtAll.imp (fun a o n g t => ⟨fun z => n (e a z), g⟩) ds vs h
/-- what is shut may change -/
theorem Dt.turn (h : Dt O H d v) (hp : O p) : Dt O (upd H p o) d v := Dt.imp (fun a u n g t => ⟨n, by rw [upd_ne (fun z => n (by rw [z]; exact hp))]; exact g⟩) d v h
theorem DtAll.turn (h : DtAll O H ds vs) (hp : O p) : DtAll O (upd H p o) ds vs := DtAll.imp (fun a u n g t => ⟨n, by rw [upd_ne (fun z => n (by rw [z]; exact hp))]; exact g⟩) ds vs h
/-- a new address is shut -/
def Shut (O : Addr → Prop) (p : Addr) : Addr → Prop := fun a => O a ∨ a = p
theorem Dt.shut (h : Dt O H d v) (hp : H p = none) : Dt (Shut O p) H d v := Dt.imp (fun a u n g t => ⟨fun z => z.elim n (fun e => by rw [e, hp] at g; cases g), g⟩) d v h
theorem DtAll.shut (h : DtAll O H ds vs) (hp : H p = none) : DtAll (Shut O p) H ds vs := DtAll.imp (fun a u n g t => ⟨fun z => z.elim n (fun e => by rw [e, hp] at g; cases g), g⟩) ds vs h
theorem DtAll.len : ∀ {ds : List PyData} {vs : List V}, DtAll O H ds vs → vs.length = ds.length
  | [], _, h => by cases h; rfl
  | d :: ds, _, h => by
    obtain ⟨x, r, rfl, _, h2⟩ := h
    rw [List.length_cons, List.length_cons, DtAll.len h2]
theorem DtAll.get : ∀ {ds : List PyData} {vs : List V} {i : Nat} {d : PyData}, DtAll O H ds vs → ds[i]? = some d → ∃ v, vs[i]? = some v ∧ Dt O H d v
  | [], _, _, _, _, e => by simp at e
  | d :: ds, _, 0, _, h, e => by
    obtain ⟨x, r, rfl, h1, _⟩ := h
    cases e
    exact ⟨x, rfl, h1⟩
  | d :: ds, _, i + 1, _, h, e => by
    obtain ⟨x, r, rfl, _, h2⟩ := h
    obtain ⟨v, e1, e2⟩ := DtAll.get (i := i) h2 (by simpa using e)
    exact ⟨v, by simpa using e1, e2⟩
theorem DtAll.of : ∀ {ds : List PyData} {vs : List V}, vs.length = ds.length → (∀ (i : Nat) d v, ds[i]? = some d → vs[i]? = some v → Dt O H d v) → DtAll O H ds vs
  | [], vs, e, _ => List.length_eq_zero_iff.mp e
  | d :: ds, [], e, _ => by simp at e
  | d :: ds, v :: vs, e, h => ⟨v, vs, rfl, h 0 d v rfl rfl, DtAll.of (by simpa using e) fun i d' v' a b => h (i + 1) d' v' (by simpa using a) (by simpa using b)⟩
theorem DtAll.at_ (h : DtAll O H ds vs) {i : Nat} (a : ds[i]? = some d) (b : vs[i]? = some v) : Dt O H d v := by
  obtain ⟨v', e, q⟩ := h.get a
  rw [b] at e
  cases e
  exact q
theorem DtAll.app (h : DtAll O H ds vs) (g : DtAll O H es us) : DtAll O H (ds ++ es) (vs ++ us) := by
  refine .of (by rw [List.length_append, List.length_append, h.len, g.len]) fun i d v a b => ?_
  have hl := h.len
  by_cases q : i < ds.length
  · rw [List.getElem?_append_left q] at a
    rw [List.getElem?_append_left (by omega)] at b
    exact h.at_ a b
  · rw [List.getElem?_append_right (by omega)] at a
    rw [List.getElem?_append_right (by omega), hl] at b
    exact g.at_ a b
theorem DtAll.one (h : Dt O H d v) : DtAll O H [d] [v] := ⟨v, [], rfl, h, rfl⟩
theorem DtAll.drop (h : DtAll O H ds vs) (n : Nat) : DtAll O H (ds.drop n) (vs.drop n) := by
  refine .of (by rw [List.length_drop, List.length_drop, h.len]) fun i d v a b => ?_
  rw [List.getElem?_drop] at a b
  exact h.at_ a b
theorem DtAll.take (h : DtAll O H ds vs) (n : Nat) : DtAll O H (ds.take n) (vs.take n) := by
  refine .of (by rw [List.length_take, List.length_take, h.len]) fun i d v a b => ?_
  rw [List.getElem?_take] at a b
  split at a
  · rename_i q
    rw [if_pos q] at b
    exact h.at_ a b
  · cases a
theorem DtAll.rev (h : DtAll O H ds vs) : DtAll O H ds.reverse vs.reverse := by
  refine .of (by rw [List.length_reverse, List.length_reverse, h.len]) fun i d v a b => ?_
  have e := h.len
  have hi : i < ds.length := by
    have := (List.getElem?_eq_some_iff.mp a).1
    simpa using this
  rw [List.getElem?_reverse hi] at a
  rw [List.getElem?_reverse (by omega), e] at b
  exact h.at_ a b
theorem DtAll.set (h : DtAll O H ds vs) (g : Dt O H d v) (j : Nat) : DtAll O H (ds.set j d) (vs.set j v) := by
  refine .of (by rw [List.length_set, List.length_set, h.len]) fun i d' v' a b => ?_
  by_cases e : j = i
  · subst e
    have hj : j < ds.length := by
      have := (List.getElem?_eq_some_iff.mp a).1
      simpa using this
    rw [List.getElem?_set_self hj] at a
    rw [List.getElem?_set_self (by rw [h.len]; exact hj)] at b
    cases a
    cases b
    exact g
  · rw [List.getElem?_set_ne e] at a b
    exact h.at_ a b
theorem DtAll.rep (h : DtAll O H ds vs) : ∀ k : Nat, DtAll O H (List.replicate k ds).flatten (List.replicate k vs).flatten
  | 0 => rfl
  | k + 1 => by
    rw [List.replicate_succ, List.replicate_succ, List.flatten_cons, List.flatten_cons]
    exact h.app (DtAll.rep h k)
theorem DtAll.ints : ∀ {ns : List Int} {vs : List V}, DtAll O H (ns.map PyData.int) vs → vs = ns.map V.int
  | [], _, h => h
  | n :: ns, _, h => by
    obtain ⟨x, r, rfl, h1, h2⟩ := h
    rw [DtAll.ints h2, show x = V.int n from h1]
    rfl
theorem DtAll.of_ints : ∀ (ns : List Int), DtAll O H (ns.map PyData.int) (ns.map V.int)
  | [] => rfl
  | n :: ns => ⟨_, _, rfl, rfl, DtAll.of_ints ns⟩
theorem DtAll.bls : ∀ {ns : List Bool} {vs : List V}, DtAll O H (ns.map PyData.bool) vs → vs = ns.map V.bl
  | [], _, h => h
  | n :: ns, _, h => by
    obtain ⟨x, r, rfl, h1, h2⟩ := h
    rw [DtAll.bls h2, show x = V.bl n from h1]
    rfl
theorem DtAll.txts : ∀ {ns : List Str} {vs : List V}, DtAll O H (ns.map PyData.str) vs → vs = ns.map V.str
  | [], _, h => h
  | n :: ns, _, h => by
    obtain ⟨x, r, rfl, h1, h2⟩ := h
    rw [DtAll.txts h2, show x = V.str n from h1]
    rfl
theorem DtAll.of_txts : ∀ (ns : List Str), DtAll O H (ns.map PyData.str) (ns.map V.str)
  | [] => rfl
  | n :: ns => ⟨_, _, rfl, rfl, DtAll.of_txts ns⟩
end
/-- a pointer, as data -/
def ptrD (p : Addr) : PyData := .dict [(.int (p : Int), .none)]
theorem dt_ptr {O : Addr → Prop} {H : Hp} {p : Addr} : Dt O H (ptrD p) (.ref p) := ⟨p, rfl, rfl⟩
theorem dt_ptr_eq {O : Addr → Prop} {H : Hp} {p : Addr} {v : V} (h : Dt O H (ptrD p) v) : v = .ref p := by
  obtain ⟨q, e, rfl⟩ := h
  have e2 : (p : Int) = (q : Int) := by
    have := (List.cons.inj e).1
    have := (Prod.mk.inj this).1
    exact PyData.int.inj this
  rw [Int.ofNat.inj e2]
/-! no pointer in it -/
mutual
def noP : PyData → Bool
  | .list ds => noPs ds
  | .tuple ds => noPs ds
  | .dict _ => false
  | _ => true
def noPs : List PyData → Bool
  | [] => true
  | d :: ds => noP d && noPs ds
end
mutual
theorem noP_lay : ∀ (d : PyData), d.canLay0 = true → noP d = true
  | .none, _ => rfl
  | .bool _, _ => rfl
  | .int _, _ => rfl
  | .str _, _ => rfl
  | .list ds, h => noPs_lay ds h
  | .tuple ds, h => noPs_lay ds h
  | .dict _, h => by cases h
theorem noPs_lay : ∀ (ds : List PyData), PyData.canLayAll0 ds = true → noPs ds = true
  | [], _ => rfl
  | d :: ds, h => by
    have h : (d.canLay0 && PyData.canLayAll0 ds) = true := h
    rw [Bool.and_eq_true] at h
    show (noP d && noPs ds) = true
    rw [noP_lay d h.1, noPs_lay ds h.2]
    rfl
end
theorem noPs_ints : ∀ ns : List Int, noPs (ns.map PyData.int) = true
  | [] => rfl
  | _ :: ns => noPs_ints ns
mutual
theorem Dt.dp {K : PySem.W.Frag} {O : Addr → Prop} {H : Hp} : ∀ (d : PyData) (v : V), noP d = true → Dt O H d v → Dp K H v d
  | .none, _, _, h => by rw [show _ = V.non from h]; exact .non
  | .bool b, _, _, h => by rw [show _ = V.bl b from h]; exact .bl b
  | .int i, _, _, h => by rw [show _ = V.int i from h]; exact .int i
  | .str s, _, _, h => by rw [show _ = V.str s from h]; exact .str s
  | .list ds, _, n, h => by
    obtain ⟨a, xs, e, _, g, r⟩ := h
    rw [e]
    exact .lst (SqL.of g) (DtAll.dp ds xs n r)
  | .tuple ds, _, n, h => by
    obtain ⟨a, xs, e, _, g, r⟩ := h
    rw [e]
    exact .tup (SqT.of g) (DtAll.dp ds xs n r)
  | .dict _, _, n, _ => by cases n
theorem DtAll.dp {K : PySem.W.Frag} {O : Addr → Prop} {H : Hp} : ∀ (ds : List PyData) (xs : List V), noPs ds = true → DtAll O H ds xs → DpAll K H xs ds
  | [], _, _, h => by rw [show _ = ([] : List V) from h]; exact .nil
  | d :: ds, _, n, h => by
    obtain ⟨x, r, e, h1, h2⟩ := h
    have n : (noP d && noPs ds) = true := n
    rw [Bool.and_eq_true] at n
    rw [e]
    exact .cons (Dt.dp d x n.1 h1) (DtAll.dp ds r n.2 h2)
end
/-- what needs no address -/
def flatD : PyData → Bool
  | .none => true
  | .bool _ => true
  | .int _ => true
  | .str _ => true
  | _ => false
theorem Dt.flat {O O' : Addr → Prop} {H H' : Hp} {d : PyData} {v : V} (f : flatD d = true) (h : Dt O H d v) : Dt O' H' d v := by
  cases d with
  | none => exact h
  | bool _ => exact h
  | int _ => exact h
  | str _ => exact h
  | list _ => cases f
  | tuple _ => cases f
  | dict _ => cases f
/-! ### the frame -/
/-- something that is no table stands there -/
def Lives (H : Hp) (a : Addr) : Prop := ∃ o, H a = some o ∧ ∀ ps, o ≠ .tbl ps
theorem Lives.grow {H H' : Hp} {a : Addr} (h : Lives H a) (e : ExtN H H') : Lives H' a := let ⟨o, g, t⟩ := h; ⟨o, e a o g t, t⟩
theorem Lives.ne {H : Hp} {a p : Addr} (h : Lives H a) (hp : H p = none) : a ≠ p := fun z => by
  obtain ⟨o, g, _⟩ := h
  rw [z, hp] at g
  cases g
theorem Lives.turn {H : Hp} {a p : Addr} {o : HO} (h : Lives H a) (t : ∀ ps, o ≠ .tbl ps) : Lives (upd H p o) a := by
  by_cases e : a = p
  · rw [e]; exact ⟨o, upd_same, t⟩
  · obtain ⟨u, g, q⟩ := h
    exact ⟨u, by rw [upd_ne e]; exact g, q⟩
/-- what is fixed while a def runs: the written part, the tables of code objects, what is shut from outside, the heap at the entry, what is wanted of an exception -/
structure Fx (Kf : PySem.W.Frag) (Tf : List (Addr × Str)) where
  O0 : Addr → Prop
  Hin : Hp
  E : XK
  h0 : ∀ a, O0 a → Lives Hin a
abbrev Fx.K {Kf : PySem.W.Frag} {Tf : List (Addr × Str)} (_ : Fx Kf Tf) : PySem.W.Frag := Kf
abbrev Fx.T {Kf : PySem.W.Frag} {Tf : List (Addr × Str)} (_ : Fx Kf Tf) : List (Addr × Str) := Tf
/-- what is told of an object of one's own: the addresses it is made of, and how it is -/
structure Rsc where
  as : List Addr
  φ : (Addr → Prop) → Hp → Option V → Prop
  /-- read alone -/
  ro : Bool
  keep : ∀ (O O' : Addr → Prop) (H H' : Hp) (o : Option V), φ O H o → (∀ a ∈ as, H' a = H a) → (∀ d v, Dt O H d v → Dt O' H' d v) → φ O' H' o
/-- what a name holds -/
inductive Slot where
  | non
  | dat (d : PyData)
  /-- a list of one's own, that may be changed -/
  | own (ds : List PyData)
  /-- a dict of one's own -/
  | odk (kvs : List (Key × PyData))
  /-- an object of one's own -/
  | res (R : Rsc)
  /-- the script -/
  | scr (ns : List Int)
  /-- anything else, by what is true of its value for good -/
  | any (φ : V → Prop)
def Slot.mine : Slot → Bool
  | .own _ => true
  | .odk _ => true
  | .res _ => true
  | _ => false
/-- what stands at one address -/
def Slot.lone : Slot → Bool
  | .own _ => true
  | .odk _ => true
  | _ => false
/-- the addresses of what is one's own -/
def Slot.has : Slot → Option V → Addr → Prop
  | .own _, o, p => o = some (.ref p)
  | .odk _, o, p => o = some (.ref p)
  | .res R, _, p => p ∈ R.as
  | _, _, _ => False
/-- objects of one's own share no address with what else is one's own -/
def Afar (σ : L2.St) (δ : List Slot) : Prop := ∀ (i j : Nat) (R : Rsc) (u : Slot), i ≠ j → δ[i]? = some (.res R) → δ[j]? = some u → ∀ p ∈ R.as, ¬ u.has (σ[j]?.getD none) p
def KvAll (O : Addr → Prop) (H : Hp) (kvs : List (Key × PyData)) (vs : List (Key × V)) : Prop := vs.map (·.1) = kvs.map (·.1) ∧ DtAll O H (kvs.map (·.2)) (vs.map (·.2))
def SlotOk {Kf : PySem.W.Frag} {Tf : List (Addr × Str)} (F : Fx Kf Tf) (O : Addr → Prop) (H : Hp) (o : Option V) : Slot → Prop
  | .non => True
  | .dat d => ∃ v, o = some v ∧ Dt O H d v
  | .own ds => ∃ p vs, o = some (.ref p) ∧ O p ∧ ¬ Lives F.Hin p ∧ H p = some (.lst vs) ∧ DtAll O H ds vs
  | .odk kvs => ∃ p vs, o = some (.ref p) ∧ O p ∧ ¬ Lives F.Hin p ∧ H p = some (.dK vs) ∧ KvAll O H kvs vs
  | .res R => o = none ∧ R.φ O H o ∧ ∀ a ∈ R.as, O a ∧ ((R.ro = true → Lives F.Hin a) ∧ (R.ro = false → ¬ Lives F.Hin a)) ∧ Lives H a
  | .scr ns => ∃ a, o = some (.ref a) ∧ SqL F.K F.Hin a (ns.map V.int)
  | .any φ => ∃ v, o = some v ∧ φ v
/-- the state, told by data -/
structure StAt {Kf : PySem.W.Frag} {Tf : List (Addr × Str)} (F : Fx Kf Tf) (O : Addr → Prop) (H : Hp) (σ : L2.St) (δ : List Slot) : Prop where
  len : σ.length = δ.length
  o0 : ∀ a, F.O0 a → O a
  dom : ∀ a, O a → Lives H a
  tabs : Tabs F.T H
  ext : ExtN F.Hin H
  slot : ∀ (i : Nat) s, δ[i]? = some s → SlotOk F O H (σ[i]?.getD none) s
  apart : ∀ (i j : Nat) s u p, i ≠ j → δ[i]? = some s → δ[j]? = some u → s.mine = true → u.mine = true → σ[i]? = some (some (.ref p)) → σ[j]? ≠ some (some (.ref p))
  afar : Afar σ δ
section
variable {Kf : PySem.W.Frag} {Tf : List (Addr × Str)} {F : Fx Kf Tf} {O : Addr → Prop} {H H' : Hp} {σ : L2.St} {δ : List Slot} {d : PyData} {v : V} {p : Addr}
theorem KvAll.imp {O' : Addr → Prop} {kvs : List (Key × PyData)} {vs : List (Key × V)} (h : KvAll O H kvs vs) (k : ∀ ds us, DtAll O H ds us → DtAll O' H' ds us) : KvAll O' H' kvs vs := ⟨h.1, k _ _ h.2⟩
theorem sq_grow {K : PySem.W.Frag} {a : Addr} {xs : List V} (e : ExtN H H') (h : SqL K H a xs) : SqL K H' a xs := by
  rcases h with (h | ⟨o, h⟩) | h
  · exact .inl (.inl (e _ _ h (fun _ z => by cases z)))
  · exact .inl (.inr ⟨o, e _ _ h (fun _ z => by cases z)⟩)
  · exact .inr h
theorem Lives.same {a : Addr} (h : Lives H a) (e : ExtN H H') : H' a = H a := by
  obtain ⟨o, g, t⟩ := h
  rw [g, e a o g t]
/-- an object stays as it is -/
theorem res_keep {O' : Addr → Prop} {R : Rsc} {o : Option V} (h : SlotOk F O H o (.res R)) (hs : ∀ a ∈ R.as, H' a = H a) (hO : ∀ a ∈ R.as, O' a) (hd : ∀ d v, Dt O H d v → Dt O' H' d v) : SlotOk F O' H' o (.res R) := by
  obtain ⟨h1, h2, h3⟩ := h
  refine ⟨h1, R.keep _ _ _ _ _ h2 hs hd, fun a ha => ⟨hO a ha, (h3 a ha).2.1, ?_⟩⟩
  obtain ⟨u, g, t⟩ := (h3 a ha).2.2
  exact ⟨u, by rw [hs a ha]; exact g, t⟩
/-- the heap grows -/
theorem SlotOk.grow {o : Option V} {s : Slot} (h : SlotOk F O H o s) (e : ExtN H H') : SlotOk F O H' o s := by
  cases s with
  | non => trivial
  | dat d => obtain ⟨v, a, b⟩ := h; exact ⟨v, a, b.grow e⟩
  | own ds => obtain ⟨p, vs, a, b, c, g, r⟩ := h; exact ⟨p, vs, a, b, c, e _ _ g (fun _ z => by cases z), r.grow e⟩
  | odk kvs => obtain ⟨p, vs, a, b, c, g, r⟩ := h; exact ⟨p, vs, a, b, c, e _ _ g (fun _ z => by cases z), r.imp fun _ _ q => q.grow e⟩
  | res R => exact res_keep h (fun a ha => (h.2.2 a ha).2.2.same e) (fun a ha => (h.2.2 a ha).1) fun d v q => q.grow e
  | scr ns => exact h
  | any φ => exact h
theorem StAt.grow (h : StAt F O H σ δ) (e : ExtN H H') (t : Tabs F.T H') : StAt F O H' σ δ :=
  ⟨h.len, h.o0, fun a oa => (h.dom a oa).grow e, t, h.ext.trans e, fun i s q => (h.slot i s q).grow e, h.apart, h.afar⟩
theorem no_has {s : Slot} (h : s.mine = false) (o : Option V) (p : Addr) : ¬ s.has o p := by
  cases s with
  | own _ => cases h
  | odk _ => cases h
  | res _ => cases h
  | _ => exact fun z => z
/-- another thing is put into a name -/
theorem Afar.set (h : Afar σ δ) (hl : σ.length = δ.length) (i : Nat) (o : Option V) (s : Slot) (hs : ∀ R, s = .res R → ∀ j u, j ≠ i → δ[j]? = some u → ∀ p ∈ R.as, ¬ u.has (σ[j]?.getD none) p) (hx : ∀ j R, j ≠ i → δ[j]? = some (.res R) → ∀ p ∈ R.as, ¬ s.has o p) : Afar (σ.set i o) (δ.set i s) := fun k j R u hkj h1 h2 p hp => by
  by_cases e1 : i = k
  · subst e1
    have hi : i < δ.length := by
      have := (List.getElem?_eq_some_iff.mp h1).1
      simpa using this
    rw [List.getElem?_set_self hi] at h1
    rw [List.getElem?_set_ne hkj] at h2 ⊢
    exact hs R (Option.some.inj h1) j u (fun z => hkj z.symm) h2 p hp
  · rw [List.getElem?_set_ne e1] at h1
    by_cases e2 : i = j
    · subst e2
      have hi : i < δ.length := by
        have := (List.getElem?_eq_some_iff.mp h2).1
        simpa using this
      rw [List.getElem?_set_self hi] at h2
      rw [List.getElem?_set_self (by rw [hl]; exact hi)]
      cases h2
      exact hx k R (fun z => e1 z.symm) h1 p hp
    · rw [List.getElem?_set_ne e2] at h2 ⊢
      exact h k j R u hkj h1 h2 p hp
/-- the same value, told otherwise -/
theorem Afar.turn (h : Afar σ δ) (hl : σ.length = δ.length) (i : Nat) (s : Slot) (hs : ∀ R, s = .res R → ∀ j u, j ≠ i → δ[j]? = some u → ∀ p ∈ R.as, ¬ u.has (σ[j]?.getD none) p) (hx : ∀ j R, j ≠ i → δ[j]? = some (.res R) → ∀ p ∈ R.as, ¬ s.has (σ[i]?.getD none) p) : Afar σ (δ.set i s) := by
  by_cases hi : i < σ.length
  · have e : σ.set i (σ[i]?.getD none) = σ := by
      rw [List.getElem?_eq_getElem hi]
      exact List.set_getElem_self hi
    have := h.set hl i (σ[i]?.getD none) s hs hx
    rwa [e] at this
  · rw [List.set_eq_of_length_le (by omega)]
    exact h
/-- a new object -/
theorem ext_new {o : HO} (hp : H p = none) : ExtN H (upd H p o) := fun b u g _ => by
  rw [upd_ne (ne_of_none g hp)]
  exact g
theorem tabs_new {T : List (Addr × Str)} {o : HO} (t : Tabs T H) (hp : H p = none) : Tabs T (upd H p o) := t.ext fun b u g => by
  rw [upd_ne (ne_of_none g hp)]
  exact g
/-- what is shut is changed: the tables stay -/
theorem tabs_turn {T : List (Addr × Str)} {o : HO} {xs : List V} (t : Tabs T H) (hp : H p = some (.lst xs)) : Tabs T (upd H p o) := fun q hq => by
  obtain ⟨ps, g, a, b⟩ := t q hq
  have n1 : q.1 ≠ p := fun z => by rw [z, hp] at g; cases g
  refine ⟨ps, by rw [upd_ne n1]; exact g, a, fun pos cv hc => ?_⟩
  obtain ⟨c, e1, e2⟩ := b pos cv hc
  have n2 : c ≠ p := fun z => by
    rw [z, hp] at e2
    unfold CodeO at e2
    cases e2
  exact ⟨c, e1, by rw [upd_ne n2]; exact e2⟩
theorem tabs_turnK {T : List (Addr × Str)} {o : HO} {xs : List (Key × V)} (t : Tabs T H) (hp : H p = some (.dK xs)) : Tabs T (upd H p o) := fun q hq => by
  obtain ⟨ps, g, a, b⟩ := t q hq
  have n1 : q.1 ≠ p := fun z => by rw [z, hp] at g; cases g
  refine ⟨ps, by rw [upd_ne n1]; exact g, a, fun pos cv hc => ?_⟩
  obtain ⟨c, e1, e2⟩ := b pos cv hc
  have n2 : c ≠ p := fun z => by
    rw [z, hp] at e2
    unfold CodeO at e2
    cases e2
  exact ⟨c, e1, by rw [upd_ne n2]; exact e2⟩
end
/-! ### readings told by data -/
section
variable {Kf : PySem.W.Frag} {Tf : List (Addr × Str)} (F : Fx Kf Tf) (δ : List Slot)
/-- an expression that gives d -/
def tD (d : PyData) : TE := fun σ H Q => ∃ O, StAt F O H σ δ ∧ ∀ v H', ExtN H H' → Tabs F.T H' → Dt O H' d v → Q v H'
/-- one that gives a new list of one's own -/
def tDL (ds : List PyData) : TE := fun σ H Q => ∃ O, StAt F O H σ δ ∧ ∀ p xs H', ExtN H H' → Tabs F.T H' → (∀ a, Lives H a → a ≠ p) → H' p = some (.lst xs) → DtAll (Shut O p) H' ds xs → Q (.ref p) H'
/-- one that raises the class at c -/
def tDX (c : Addr) : TE := fun σ H Q => ∃ O, StAt F O H σ δ ∧ ∀ H', ExtN H H' → Tabs F.T H' → F.E (.ref c) none H'
def aD (ds : List PyData) : TA := fun σ H Q => ∃ O, StAt F O H σ δ ∧ ∀ vs H', ExtN H H' → Tabs F.T H' → DtAll O H' ds vs → Q vs H'
def cD (b : Bool) : TT := fun σ H Q => ∃ O, StAt F O H σ δ ∧ ∀ H', ExtN H H' → Tabs F.T H' → Q b H'
def oD (o : Option Int) : TO := fun σ H Q => ∃ O, StAt F O H σ δ ∧ ∀ H', ExtN H H' → Tabs F.T H' → Q o H'
end
/-- what may be behind a statement -/
structure Post where
  nx : List Slot → Prop
  rt : PyData → Prop
  bk : List Slot → Prop := fun _ => False
  ct : List Slot → Prop := fun _ => False
  ex : Addr → Prop := fun _ => False
  rts : List Slot → PyData → Prop := fun _ _ => False
  exs : List Slot → Addr → Prop := fun _ _ => False
def Tm (O : Addr → Prop) (H : Hp) (τ : List (PyData × V)) : Prop := ∀ q ∈ τ, Dt O H q.1 q.2
/-- P holds behind the statement -/
structure Wants {Kf : PySem.W.Frag} {Tf : List (Addr × Str)} (F : Fx Kf Tf) (τ : List (PyData × V)) (P : Post) (D : Ends) : Prop where
  nx : ∀ δ O σ H, P.nx δ → StAt F O H σ δ → Tm O H τ → D.nx σ H
  rt : ∀ d v H, P.rt d → ExtN F.Hin H → Tabs F.T H → Dt F.O0 H d v → D.rt v H
  bk : ∀ δ O σ H, P.bk δ → StAt F O H σ δ → Tm O H τ → D.bk σ H
  ct : ∀ δ O σ H, P.ct δ → StAt F O H σ δ → Tm O H τ → D.ct σ H
  ex : ∀ c H, P.ex c → ExtN F.Hin H → Tabs F.T H → F.E (.ref c) none H
  rts : ∀ δ d v O σ H, P.rts δ d → StAt F O H σ δ → Dt O H d v → D.rt v H
  exs : ∀ δ c O σ H, P.exs δ c → StAt F O H σ δ → F.E (.ref c) none H
def sD {Kf : PySem.W.Frag} {Tf : List (Addr × Str)} (F : Fx Kf Tf) (δ : List Slot) (P : Post) : TS := fun D σ H => ∃ O τ, StAt F O H σ δ ∧ Tm O H τ ∧ Wants F τ P D
section
variable {X : Cx} {e : Expr} {st : Stmt} {sts : List Stmt}
theorem wkE {t t' : TE} (h : PE X e t) (k : ∀ σ H Q, t' σ H Q → t σ H Q) : PE X e t' := ⟨fun pins s σ H Q I q => h.run pins s σ H Q I (k σ H Q q)⟩
theorem wkT {t t' : TT} (h : PT X e t) (k : ∀ σ H Q, t' σ H Q → t σ H Q) : PT X e t' := ⟨fun pins s σ H Q I q => h.run pins s σ H Q I (k σ H Q q)⟩
theorem wkA {es : List Expr} {t t' : TA} (h : PA X es t) (k : ∀ σ H Q, t' σ H Q → t σ H Q) : PA X es t' := ⟨fun pos pins s σ H Q I q => h.run pos pins s σ H Q I (k σ H Q q)⟩
theorem wkO {o : Option Expr} {t t' : TO} (h : PO X o t) (k : ∀ σ H Q, t' σ H Q → t σ H Q) : PO X o t' := ⟨fun pins s σ H Q I q => h.run pins s σ H Q I (k σ H Q q)⟩
theorem wkS {t t' : TS} (h : PS X st t) (k : ∀ D σ H, t' D σ H → t D σ H) : PS X st t' := ⟨fun pins s σ H D I q => h.run pins s σ H D I (k D σ H q)⟩
theorem wkSs {t t' : TS} (h : PSs X sts t) (k : ∀ D σ H, t' D σ H → t D σ H) : PSs X sts t' := ⟨fun pins s σ H D I q => h.run pins s σ H D I (k D σ H q)⟩
/-- one of several -/
theorem exE {ι : Sort _} {t : ι → TE} (h : ∀ i, PE X e (t i)) : PE X e (fun σ H Q => ∃ i, t i σ H Q) := ⟨fun pins s σ H Q I q => let ⟨i, g⟩ := q; (h i).run pins s σ H Q I g⟩
theorem exT {ι : Sort _} {t : ι → TT} (h : ∀ i, PT X e (t i)) : PT X e (fun σ H Q => ∃ i, t i σ H Q) := ⟨fun pins s σ H Q I q => let ⟨i, g⟩ := q; (h i).run pins s σ H Q I g⟩
theorem exSs {ι : Sort _} {t : ι → TS} (h : ∀ i, PSs X sts (t i)) : PSs X sts (fun D σ H => ∃ i, t i D σ H) := ⟨fun pins s σ H D I q => let ⟨i, g⟩ := q; (h i).run pins s σ H D I g⟩
end
end Lf
set_option Elab.async false
set_option linter.all false
set_option maxRecDepth 100000
set_option maxHeartbeats 4000000
namespace Lf
open PySem PySem.Spec PyProof.Rows L2 LamX
/-! ### where one stands -/
structure Ctx (X : Cx) (N : List Str) (sc : Scope) : Prop where
  n : X.N = N
  s : X.env.scope = sc
  nd : N.Nodup
  calm : X.calm = true
/-- a def's body -/
structure CtD (X : Cx) (N : List Str) (sc : Scope) (E : XK) : Prop extends Ctx X N sc where
  fn : ∀ x, X.fn x = true
  po : PassesOwn (model X.prog X.w) X.A X.env X.xe
  tk : L2N.Takes X (fun cls d _ H => E cls d H)
  stk : X.stack = X.env :: X.outer
  frm : X.env.frame = some X.env.locals
section
variable {X : Cx} {N : List Str} {sc : Scope}
theorem Ctx.gl (c : Ctx X N sc) {x : Str} (h : sc.names.lookup x = some .globalImplicit) : Gl X x := by
  show X.env.scope.names.lookup x = _
  rw [c.s]
  exact h
theorem Ctx.vis (c : Ctx X N sc) {x : Str} (h : Vis sc x) : Vis X.env.scope x := by
  rw [c.s]
  exact h
theorem Ctx.loc (c : Ctx X N sc) {x : Str} (h : Loc sc x) : Loc X.env.scope x := by
  rw [c.s]
  exact h
theorem Ctx.at_ (c : Ctx X N sc) {i : Nat} {x : Str} (h : N[i]? = some x) : X.N[i]? = some x := by
  rw [c.n]
  exact h
theorem Ctx.nd' (c : Ctx X N sc) : X.N.Nodup := by
  rw [c.n]
  exact c.nd
/-- a block's names, as the def around it has them -/
def reSc (sc scope : Scope) : Scope := { scope with names := scope.names.map fun (n, k) => if (k == .free && sc.kind == .function && sc.names.lookup n == some .cell) then (n, .cell) else (n, k) }
theorem Ctx.blk (c : Ctx X N sc) (s : Shared) (H : Hp) (scope : Scope) (C : Addr) (cl : List (Str × Addr)) (fp : List Addr) : Ctx (X.blk s H scope (compEnvC scope cl C X.env) fp) N (reSc sc scope) := ⟨c.n, by rw [← c.s]; rfl, c.nd, c.calm⟩
end
/-! ### values and operators by data -/
section
variable {Kf : PySem.W.Frag} {Tf : List (Addr × Str)} (F : Fx Kf Tf)
def OpD (r : R2) (d e z : PyData) : Prop := ∀ (O : Addr → Prop) (H : Hp) (x y : V) (Q : VK), (∀ a, O a → Lives H a) → Tabs F.T H → Dt O H d x → Dt O H e y → (∀ v H', ExtN H H' → Tabs F.T H' → Dt O H' z v → Q v H') → r x y H Q
def UnD (r : V → Hp → VK → Prop) (d z : PyData) : Prop := ∀ (O : Addr → Prop) (H : Hp) (x : V) (Q : VK), (∀ a, O a → Lives H a) → Tabs F.T H → Dt O H d x → (∀ v H', ExtN H H' → Tabs F.T H' → Dt O H' z v → Q v H') → r x H Q
def ClD (r : List V → Hp → VK → Prop) (ds : List PyData) (z : PyData) : Prop := ∀ (O : Addr → Prop) (H : Hp) (xs : List V) (Q : VK), (∀ a, O a → Lives H a) → Tabs F.T H → DtAll O H ds xs → (∀ v H', ExtN H H' → Tabs F.T H' → Dt O H' z v → Q v H') → r xs H Q
def MtD (r : V → List V → Hp → VK → Prop) (d : PyData) (ds : List PyData) (z : PyData) : Prop := ∀ (O : Addr → Prop) (H : Hp) (x : V) (xs : List V) (Q : VK), (∀ a, O a → Lives H a) → Tabs F.T H → Dt O H d x → DtAll O H ds xs → (∀ v H', ExtN H H' → Tabs F.T H' → Dt O H' z v → Q v H') → r x xs H Q
def SlD (r : V → Option Int → Option Int → Hp → VK → Prop) (d : PyData) (lo hi : Option Int) (z : PyData) : Prop := ∀ (O : Addr → Prop) (H : Hp) (x : V) (Q : VK), (∀ a, O a → Lives H a) → Tabs F.T H → Dt O H d x → (∀ v H', ExtN H H' → Tabs F.T H' → Dt O H' z v → Q v H') → r x lo hi H Q
end
theorem fresh_ok {O : Addr → Prop} {H : Hp} {p : Addr} (dom : ∀ a, O a → Lives H a) (hp : H p = none) : ¬ O p := fun z => (dom p z).ne hp rfl
section
variable {Kf : PySem.W.Frag} {Tf : List (Addr × Str)} {F : Fx Kf Tf} {δ : List Slot} {X : Cx} {N : List Str} {sc : Scope} {pos apos : Pos} {a b c e : Expr} {es : List Expr} {d d1 d2 d3 z : PyData} {ds : List PyData}
theorem x_var (i : Nat) {x : Str} (cx : Ctx X N sc) (hs : δ[i]? = some (.dat d)) (hN : N[i]? = some x := by rfl) (hv : Vis sc x := by first | exact Or.inl rfl | exact Or.inr (Or.inl rfl) | exact Or.inr (Or.inr rfl)) (hd : (x == ("__debug__" : Str)) = false := by decide)
    (hcd : (x == ("__classdict__" : Str)) = false := by decide) : PE X (.Name x pos) (tD F δ d) :=
  wkE (pe_var (i := i) (cx.at_ hN) (cx.vis hv) hd hcd) fun σ H Q h => by
    obtain ⟨O, st, k⟩ := h
    obtain ⟨v, e1, e2⟩ := st.slot i _ hs
    have e3 : σ[i]? = some (some v) := by
      cases q : σ[i]? with
      | none => rw [q] at e1; cases e1
      | some o => rw [q] at e1; rw [show o = some v from e1]
    exact ⟨v, e3, k v H (ExtN.refl H) st.tabs e2⟩
theorem x_k {v : V} {u : Value} {x : Str} (cx : Ctx X N sc) (hm : X.mg x = some u) (r : RelV v u) (hf : ∀ O H, Dt O H d v) (hg : sc.names.lookup x = some .globalImplicit := by rfl) (hd : (x == ("__debug__" : Str)) = false := by decide) : PE X (.Name x pos) (tD F δ d) :=
  wkE (pe_glob (v := v) (cx.gl hg) hm r hd) fun σ H Q h => let ⟨O, st, k⟩ := h; k v H (ExtN.refl H) st.tabs (hf O H)
theorem x_int {i : Int} {j : Nat} : PE X (.Constant (.int i) j pos) (tD F δ (.int i)) := wkE pe_int fun σ H Q h => let ⟨O, st, k⟩ := h; k _ H (ExtN.refl H) st.tabs rfl
theorem x_bool {i : Bool} {j : Nat} : PE X (.Constant (.bool i) j pos) (tD F δ (.bool i)) := wkE pe_bl fun σ H Q h => let ⟨O, st, k⟩ := h; k _ H (ExtN.refl H) st.tabs rfl
theorem x_none {j : Nat} : PE X (.Constant .none j pos) (tD F δ .none) := wkE pe_non fun σ H Q h => let ⟨O, st, k⟩ := h; k _ H (ExtN.refl H) st.tabs rfl
theorem x_str {i : Str} {j : Nat} : PE X (.Constant (.str i) j pos) (tD F δ (.str i)) := wkE pe_str fun σ H Q h => let ⟨O, st, k⟩ := h; k _ H (ExtN.refl H) st.tabs rfl
theorem x_is (h : PE X e (tD F δ d)) (q : d = d1) : PE X e (tD F δ d1) := by
  rw [← q]
  exact h
/-- two values in a row, then r -/
theorem op_run {r : R2} (q : OpD F r d1 d2 z) {σ : L2.St} {H : Hp} {Q : VK} (h : tD F δ z σ H Q) : tOp r (tD F δ d1) (tD F δ d2) σ H Q := by
  obtain ⟨O, st, k⟩ := h
  refine ⟨O, st, fun x H1 e1 t1 g1 => ⟨O, st.grow e1 t1, fun y H2 e2 t2 g2 => ?_⟩⟩
  have s2 := (st.grow e1 t1).grow e2 t2
  exact q O H2 x y Q s2.dom t2 (g1.grow e2) g2 fun v H3 e3 t3 g3 => k v H3 ((e1.trans e2).trans e3) t3 g3
theorem x_op {op : Operator} {r : R2} (ho : OpR X (binaryOp op) r) (q : OpD F r d1 d2 z) (ha : PE X a (tD F δ d1)) (hb : PE X b (tD F δ d2)) : PE X (.BinOp a op b pos) (tD F δ z) :=
  wkE (pe_op ho ha hb) fun σ H Q h => op_run q h
theorem x_ix {r : R2} (ho : IxR X r) (q : OpD F r d1 d2 z) (ha : PE X a (tD F δ d1)) (hb : PE X b (tD F δ d2)) (hs : PlainIx b := by exact fun _ _ => rfl) : PE X (.Subscript a b pos) (tD F δ z) :=
  wkE (pe_ix ho ha hb hs) fun σ H Q h => op_run q h
theorem x_un {op : UnaryOp} {r : V → Hp → VK → Prop} (ho : UnR X (unaryOp op) r) (q : UnD F r d1 z) (ha : PE X a (tD F δ d1)) : PE X (.UnaryOp op a pos) (tD F δ z) :=
  wkE (pe_un ho ha) fun σ H Q h => by
    obtain ⟨O, st, k⟩ := h
    refine ⟨O, st, fun x H1 e1 t1 g1 => ?_⟩
    exact q O H1 x Q (st.grow e1 t1).dom t1 g1 fun v H3 e3 t3 g3 => k v H3 (e1.trans e3) t3 g3
theorem x_cmp {op : CmpOp} {r : R2} (ho : OpR X (compareOp op) r) (q : OpD F r d1 d2 z) (ha : PE X a (tD F δ d1)) (hb : PE X b (tD F δ d2)) (hm : behindInMarks op b = false := by first | exact nomark _ | rfl) : PE X (.Compare a [op] [b] pos) (tD F δ z) :=
  wkE (pe_cmpR ho ha hb hm) fun σ H Q h => op_run q h
theorem c_cmp {op : CmpOp} {r : R2} {k : Bool} (ho : OpR X (compareOp op) r) (q : OpD F r d1 d2 (.bool k)) (ha : PE X a (tD F δ d1)) (hb : PE X b (tD F δ d2)) (hm : behindInMarks op b = false := by first | exact nomark _ | rfl) : PT X (.Compare a [op] [b] pos) (cD F δ k) :=
  wkT (pt_cmpR ho ha hb hm) fun σ H Q h => by
    obtain ⟨O, st, g⟩ := h
    exact op_run (F := F) (δ := δ) q ⟨O, st, fun v H' e t r => ⟨k, r, g H' e t⟩⟩
theorem c_val {k : Bool} (h : PE X e (tD F δ (.bool k))) (he : ∀ whole, isTrue e X.env whole = (do let v ← whole; standAt e.pos; holding [v] (truthy v)) := by intro _; rfl) : PT X e (cD F δ k) :=
  wkT (pt_val h he) fun σ H Q h => by
    obtain ⟨O, st, g⟩ := h
    exact ⟨O, st, fun v H' e t r => ⟨k, r, g H' e t⟩⟩
theorem c_not {k : Bool} (h : PT X a (cD F δ k)) : PT X (.UnaryOp .Not a pos) (cD F δ (!k)) := wkT (pt_not h) fun σ H Q h => h
theorem c_is {k k' : Bool} (h : PT X a (cD F δ k)) (q : k = k') : PT X a (cD F δ k') := by
  rw [← q]
  exact h
/-- and, or, as tests: the right one only where it is come to -/
theorem w_one {op : BoolOp} {k : Bool} (h : PT X a (cD F δ k)) : PW X (.BoolOp op [a] pos) (cD F δ k) := by
  cases op with
  | And => exact pw_and1 h
  | Or => exact pw_or1 h
theorem wkW {t t' : TT} (h : PW X e t) (k : ∀ σ H Q, t' σ H Q → t σ H Q) : PW X e t' := ⟨fun wh pins s σ H Q I q => h.run wh pins s σ H Q I (k σ H Q q)⟩
theorem ifW {q : Prop} {t : TT} (h : q → PW X e t) : PW X e (fun σ H Q => q ∧ t σ H Q) := ⟨fun wh pins s σ H Q I g => (h g.1).run wh pins s σ H Q I g.2⟩
theorem ifE {q : Prop} {t : TE} (h : q → PE X e t) : PE X e (fun σ H Q => q ∧ t σ H Q) := ⟨fun pins s σ H Q I g => (h g.1).run pins s σ H Q I g.2⟩
theorem ifSs {q : Prop} {t : TS} {sts : List Stmt} (h : q → PSs X sts t) : PSs X sts (fun D σ H => q ∧ t D σ H) := ⟨fun pins s σ H D I g => (h g.1).run pins s σ H D I g.2⟩
theorem w_and {k j : Bool} (h : PT X a (cD F δ k)) (g : k = true → PW X (.BoolOp .And (b :: es) pos) (cD F δ j)) : PW X (.BoolOp .And (a :: b :: es) pos) (cD F δ (k && j)) :=
  wkW (pw_and h (ifW g)) fun σ H Q h => by
    obtain ⟨O, st, w⟩ := h
    refine ⟨O, st, fun H1 e1 t1 => ?_⟩
    cases k with
    | true => exact iteT ⟨rfl, O, st.grow e1 t1, fun H2 e2 t2 => w H2 (e1.trans e2) t2⟩
    | false => exact iteF (w H1 e1 t1)
theorem w_or {k j : Bool} (h : PT X a (cD F δ k)) (g : k = false → PW X (.BoolOp .Or (b :: es) pos) (cD F δ j)) : PW X (.BoolOp .Or (a :: b :: es) pos) (cD F δ (k || j)) :=
  wkW (pw_or h (ifW g)) fun σ H Q h => by
    obtain ⟨O, st, w⟩ := h
    refine ⟨O, st, fun H1 e1 t1 => ?_⟩
    cases k with
    | true => exact iteT (w H1 e1 t1)
    | false => exact iteF ⟨rfl, O, st.grow e1 t1, fun H2 e2 t2 => w H2 (e1.trans e2) t2⟩
/-- .. as values -/
theorem x_one {op : BoolOp} (h : PE X a (tD F δ d)) : PE X (.BoolOp op [a] pos) (tD F δ d) := pe_one h
theorem x_and {k j : Bool} (h : PE X a (tD F δ (.bool k))) (g : k = true → PE X (.BoolOp .And (b :: es) pos) (tD F δ (.bool j))) : PE X (.BoolOp .And (a :: b :: es) pos) (tD F δ (.bool (k && j))) :=
  wkE (pe_and h (ifE g)) fun σ H Q h => by
    obtain ⟨O, st, w⟩ := h
    refine ⟨O, st, fun v H1 e1 t1 r => ⟨k, r, ?_⟩⟩
    cases k with
    | true => exact iteT ⟨rfl, O, st.grow e1 t1, fun v H2 e2 t2 r2 => w v H2 (e1.trans e2) t2 r2⟩
    | false => exact iteF (w _ H1 e1 t1 rfl)
theorem x_or {k j : Bool} (h : PE X a (tD F δ (.bool k))) (g : k = false → PE X (.BoolOp .Or (b :: es) pos) (tD F δ (.bool j))) : PE X (.BoolOp .Or (a :: b :: es) pos) (tD F δ (.bool (k || j))) :=
  wkE (pe_or h (ifE g)) fun σ H Q h => by
    obtain ⟨O, st, w⟩ := h
    refine ⟨O, st, fun v H1 e1 t1 r => ⟨k, r, ?_⟩⟩
    cases k with
    | true => exact iteT (w _ H1 e1 t1 rfl)
    | false => exact iteF ⟨rfl, O, st.grow e1 t1, fun v H2 e2 t2 r2 => w v H2 (e1.trans e2) t2 r2⟩
theorem x_not {k : Bool} (h : PE X a (tD F δ (.bool k))) : PE X (.UnaryOp .Not a pos) (tD F δ (.bool (!k))) :=
  wkE (pe_not h) fun σ H Q h => by
    obtain ⟨O, st, w⟩ := h
    exact ⟨O, st, fun v H1 e1 t1 r => ⟨k, r, w _ H1 e1 t1 rfl⟩⟩
/-- a if c else b -/
theorem x_if {k : Bool} (h : PT X c (cD F δ k)) (g1 : k = true → PE X a (tD F δ d)) (g2 : k = false → PE X b (tD F δ d)) : PE X (.IfExp c a b pos) (tD F δ d) :=
  wkE (pe_ifExp h (ifE g1) (ifE g2)) fun σ H Q h => by
    obtain ⟨O, st, w⟩ := h
    refine ⟨O, st, fun H1 e1 t1 => ?_⟩
    cases k with
    | true => exact iteT ⟨rfl, O, st.grow e1 t1, fun v H2 e2 t2 r2 => w v H2 (e1.trans e2) t2 r2⟩
    | false => exact iteF ⟨rfl, O, st.grow e1 t1, fun v H2 e2 t2 r2 => w v H2 (e1.trans e2) t2 r2⟩
/-- a op b op' c -/
theorem c_chain {op op' : CmpOp} {r r' : R2} {k j : Bool} (ho : OpR X (compareOp op) r) (ho' : OpR X (compareOp op') r') (q : OpD F r d1 d2 (.bool k)) (q' : k = true → OpD F r' d2 d3 (.bool j)) (ha : PE X a (tD F δ d1)) (hb : PE X b (tD F δ d2)) (hc : PE X c (tD F δ d3)) (hm : lastMarks [op, op'] [b, c] = false := by with_unfolding_all rfl) :
    PT X (.Compare a [op, op'] [b, c] pos) (cD F δ (k && j)) :=
  wkT (pt_chain ho ho' ha hb hc hm) fun σ H Q h => by
    obtain ⟨O, st, w⟩ := h
    refine ⟨O, st, fun x H1 e1 t1 g1 => ⟨O, st.grow e1 t1, fun y H2 e2 t2 g2 => ?_⟩⟩
    have s2 := (st.grow e1 t1).grow e2 t2
    refine q O H2 x y _ s2.dom t2 (g1.grow e2) g2 fun v H3 e3 t3 g3 => ⟨k, g3, ?_⟩
    cases k with
    | true =>
      refine iteT ⟨O, s2.grow e3 t3, fun u H4 e4 t4 g4 => ?_⟩
      exact q' rfl O H4 y u _ ((s2.grow e3 t3).grow e4 t4).dom t4 ((g2.grow e3).grow e4) g4 fun v5 H5 e5 t5 g5 => ⟨j, g5, w H5 ((((e1.trans e2).trans e3).trans e4).trans e5) t5⟩
    | false => exact iteF ⟨false, rfl, w H3 ((e1.trans e2).trans e3) t3⟩
/-- arguments -/
theorem a_nil : PA X [] (aD F δ []) := wkA pa_nil fun σ H Q h => let ⟨O, st, k⟩ := h; k [] H (ExtN.refl H) st.tabs rfl
theorem a_cons (h : PE X e (tD F δ d)) (g : PA X es (aD F δ ds)) (hs : starEach (e :: es) X.env = (false, eval e X.env) :: starEach es X.env := by rfl) : PA X (e :: es) (aD F δ (d :: ds)) :=
  wkA (pa_cons h g hs) fun σ H Q h => by
    obtain ⟨O, st, w⟩ := h
    refine ⟨O, st, fun x H1 e1 t1 g1 => ⟨O, st.grow e1 t1, fun xs H2 e2 t2 g2 => ?_⟩⟩
    exact w (x :: xs) H2 (e1.trans e2) t2 ⟨x, xs, rfl, g1.grow e2, g2⟩
/-- displays -/
theorem x_lst (h : PA X es (aD F δ ds)) (hz : ds.length ≤ 1000 := by first | decide | (simp; done) | omega) : PE X (.List es pos) (tD F δ (.list ds)) :=
  wkE (pe_lst h) fun σ H Q h => by
    obtain ⟨O, st, w⟩ := h
    refine ⟨O, st, fun xs H1 e1 t1 g1 => ⟨by rw [g1.len]; exact Nat.le_trans hz (by decide), fun p hp => ?_⟩⟩
    exact w _ _ (e1.trans (ext_new hp)) (tabs_new t1 hp) ⟨p, xs, rfl, fresh_ok (st.grow e1 t1).dom hp, upd_same, g1.grow (ext_new hp)⟩
theorem x_lstN (h : PA X es (aD F δ ds)) (hz : ds.length ≤ 1000 := by first | decide | (simp; done) | omega) : PE X (.List es pos) (tDL F δ ds) :=
  wkE (pe_lst h) fun σ H Q h => by
    obtain ⟨O, st, w⟩ := h
    refine ⟨O, st, fun xs H1 e1 t1 g1 => ⟨by rw [g1.len]; exact Nat.le_trans hz (by decide), fun p hp => ?_⟩⟩
    exact w p xs _ (e1.trans (ext_new hp)) (tabs_new t1 hp) (fun a l => (l.grow e1).ne hp) upd_same ((g1.shut hp).grow (ext_new hp))
theorem x_tup {m : Nat} (h : PA X es (aD F δ ds)) (hz : ds.length ≤ 1000 := by first | decide | (simp; done) | omega) : PE X (.Tuple es m pos) (tD F δ (.tuple ds)) :=
  wkE (pe_tup h) fun σ H Q h => by
    obtain ⟨O, st, w⟩ := h
    refine ⟨O, st, fun xs H1 e1 t1 g1 => ⟨by rw [g1.len]; exact Nat.le_trans hz (by decide), fun p hp => ?_⟩⟩
    exact w _ _ (e1.trans (ext_new hp)) (tabs_new t1 hp) ⟨p, xs, rfl, fresh_ok (st.grow e1 t1).dom hp, upd_same, g1.grow (ext_new hp)⟩
/-- parts of a slice -/
theorem o_none : PO X none (oD F δ none) := wkO po_none fun σ H Q h => let ⟨O, st, k⟩ := h; k H (ExtN.refl H) st.tabs
theorem o_some {i : Int} (h : PE X e (tD F δ (.int i))) : PO X (some e) (oD F δ (some i)) := wkO (po_some h) fun σ H Q h => by
  obtain ⟨O, st, k⟩ := h
  exact ⟨O, st, fun v H' e t g => ⟨i, g, k H' e t⟩⟩
theorem x_sl {lo hi : Option Expr} {l u : Option Int} {p2 : Pos} {r : V → Option Int → Option Int → Hp → VK → Prop} (hr : SlR X r) (q : SlD F r d l u z) (he : PE X e (tD F δ d)) (hl : PO X lo (oD F δ l)) (hu : PO X hi (oD F δ u)) :
    PE X (.Subscript e (.Slice lo hi none p2) pos) (tD F δ z) :=
  wkE (pe_slice hr he hl hu) fun σ H Q h => by
    obtain ⟨O, st, k⟩ := h
    refine ⟨O, st, fun x H1 e1 t1 g1 => ⟨O, st.grow e1 t1, fun H2 e2 t2 => ⟨O, (st.grow e1 t1).grow e2 t2, fun H3 e3 t3 => ?_⟩⟩⟩
    have s3 := ((st.grow e1 t1).grow e2 t2).grow e3 t3
    exact q O H3 x Q s3.dom t3 ((g1.grow e2).grow e3) fun v H4 e4 t4 g4 => k v H4 (((e1.trans e2).trans e3).trans e4) t4 g4
/-- built-ins -/
theorem cb_run {r : List V → Hp → VK → Prop} (q : ClD F r ds z) {σ : L2.St} {H : Hp} {Q : VK} (h : tD F δ z σ H Q) : tCB r (aD F δ ds) σ H Q := by
  obtain ⟨O, st, k⟩ := h
  exact ⟨O, st, fun xs H1 e1 t1 g1 => q O H1 xs Q (st.grow e1 t1).dom t1 g1 fun v H3 e3 t3 g3 => k v H3 (e1.trans e3) t3 g3⟩
theorem x_bi {x : Str} {id : String} {p : Pos} {r : List V → Hp → VK → Prop} (cx : Ctx X N sc) (hc : CallR X (.builtin id) r) (q : ClD F r ds z) (hm : X.mg x = none) (hv : bootBuiltins x = some (.builtin id)) (ha : PA X (e :: es) (aD F δ ds)) (hg : sc.names.lookup x = some .globalImplicit := by rfl)
    (hn : x ≠ "__name__" := by decide) (hdb : (x == ("__debug__" : Str)) = false := by decide) (he : starEach (e :: es) X.env = (false, eval e X.env) :: starEach es X.env := by rfl) (hpl : (backTo pos (starEach es X.env)).any (·.1) = false := by rfl) :
    PE X (.Call (.Name x p) (e :: es) [] pos) (tD F δ z) := wkE (pe_callB hc (cx.gl hg) hm hv ha hn hdb he hpl) fun σ H Q h => cb_run q h
theorem x_ty {x : Str} {id : String} {p : Pos} {r : List V → Hp → VK → Prop} (cx : Ctx X N sc) (hc : CallR X (.type id) r) (q : ClD F r ds z) (hm : X.mg x = none) (hv : bootBuiltins x = some (.type id)) (ha : PA X (e :: es) (aD F δ ds)) (hg : sc.names.lookup x = some .globalImplicit := by rfl)
    (hn : x ≠ "__name__" := by decide) (hdb : (x == ("__debug__" : Str)) = false := by decide) (he : starEach (e :: es) X.env = (false, eval e X.env) :: starEach es X.env := by rfl) (hpl : (backTo pos (starEach es X.env)).any (·.1) = false := by rfl) :
    PE X (.Call (.Name x p) (e :: es) [] pos) (tD F δ z) := wkE (pe_callTy hc (cx.gl hg) hm hv ha hn hdb he hpl) fun σ H Q h => cb_run q h
end
end Lf
set_option Elab.async false
set_option linter.all false
set_option maxRecDepth 100000
set_option maxHeartbeats 4000000
namespace Lf
open PySem PySem.Spec PyProof.Rows L2 LamX
/-! ### what operators make of data -/
section
variable {Kf : PySem.W.Frag} {Tf : List (Addr × Str)} {F : Fx Kf Tf} {K : PySem.W.Frag} {i j : Int} {s t : Str} {d e : PyData} {ds es : List PyData}
theorem od_i0 {g : Int → Int → Int} : OpD F (rI0 fun i j => .int (g i j)) (.int i) (.int j) (.int (g i j)) := fun O H x y Q _ t hx hy k => ⟨i, j, hx, hy, k _ H (ExtN.refl H) t rfl⟩
theorem od_b0 {g : Int → Int → Bool} : OpD F (rI0 fun i j => .bl (g i j)) (.int i) (.int j) (.bool (g i j)) := fun O H x y Q _ t hx hy k => ⟨i, j, hx, hy, k _ H (ExtN.refl H) t rfl⟩
theorem od_iC {C : Int → Int → Prop} {g : Int → Int → Int} (hc : C i j) : OpD F (rI C fun i j => .int (g i j)) (.int i) (.int j) (.int (g i j)) := fun O H x y Q _ t hx hy k => ⟨i, j, hx, hy, hc, k _ H (ExtN.refl H) t rfl⟩
/-- a text by its codes -/
def tx (l : List Nat) : PyData := .str ⟨l.toArray⟩
theorem tx_len (l : List Nat) : (⟨l.toArray⟩ : Str).length = l.length := by simp [Str.length]
theorem tx_app (l m : List Nat) : (⟨l.toArray⟩ : Str) ++ ⟨m.toArray⟩ = ⟨(l ++ m).toArray⟩ := by
  refine Str.ext' ?_
  show l.toArray ++ m.toArray = (l ++ m).toArray
  simp
theorem od_catS {l m : List Nat} (hz : l.length + m.length ≤ sizeLine) : OpD F (fun x y H Q => ∃ i j, x = .str i ∧ y = .str j ∧ i.length + j.length ≤ sizeLine ∧ Q (.str (i ++ j)) H) (tx l) (tx m) (tx (l ++ m)) :=
  fun O H x y Q _ w hx hy k => ⟨_, _, hx, hy, by rw [tx_len, tx_len]; exact hz, k _ H (ExtN.refl H) w (by rw [tx_app]; rfl)⟩
theorem od_catL (hz : ds.length + es.length ≤ sizeLine) : OpD F rCat (.list ds) (.list es) (.list (ds ++ es)) := fun O H x y Q dom w hx hy k => by
  obtain ⟨a, xs, ex, na, ga, ra⟩ := hx
  obtain ⟨b, ys, ey, nb, gb, rb⟩ := hy
  refine ⟨a, b, xs, ys, ex, ey, ga, gb, by rw [ra.len, rb.len]; exact hz, fun p hp => ?_⟩
  exact k _ _ (ext_new hp) (tabs_new w hp) ⟨p, _, rfl, fresh_ok dom hp, upd_same, (ra.app rb).grow (ext_new hp)⟩
theorem od_repL (h1 : -(2 ^ 63) ≤ i) (h2 : i < 2 ^ 63) (hz : ds.length * i.toNat ≤ sizeLine) : OpD F rRep (.list ds) (.int i) (.list (List.replicate i.toNat ds).flatten) := fun O H x y Q dom w hx hy k => by
  obtain ⟨a, xs, ex, na, ga, ra⟩ := hx
  refine ⟨a, i, xs, ex, hy, ga, h1, h2, by rw [ra.len]; exact hz, fun p hp => ?_⟩
  exact k _ _ (ext_new hp) (tabs_new w hp) ⟨p, _, rfl, fresh_ok dom hp, upd_same, (ra.rep _).grow (ext_new hp)⟩
theorem od_catT (hz : ds.length + es.length ≤ sizeLine) : OpD F (rCatA K) (.tuple ds) (.tuple es) (.tuple (ds ++ es)) := fun O H x y Q dom w hx hy k => by
  obtain ⟨a, xs, ex, na, ga, ra⟩ := hx
  obtain ⟨b, ys, ey, nb, gb, rb⟩ := hy
  refine ⟨a, b, xs, ys, ex, ey, SqT.of ga, SqT.of gb, by rw [ra.len, rb.len]; exact hz, fun e => ?_, fun e1 e2 => ?_, fun e1 e2 p hp => ?_⟩
  · subst e
    have : ds = [] := List.length_eq_zero_iff.mp ra.len.symm
    subst this
    exact k _ H (ExtN.refl H) w ⟨b, ys, rfl, nb, gb, rb⟩
  · subst e2
    have : es = [] := List.length_eq_zero_iff.mp rb.len.symm
    subst this
    rw [List.append_nil] at k
    exact k _ H (ExtN.refl H) w ⟨a, xs, rfl, na, ga, ra⟩
  · exact k _ _ (ext_new hp) (tabs_new w hp) ⟨p, _, rfl, fresh_ok dom hp, upd_same, (ra.app rb).grow (ext_new hp)⟩
/-! ### == of data -/
def Lay (n : Nat) (d : PyData) : Prop := d.canLay0 = true ∧ d.depth ≤ n
theorem Lay.ok {n : Nat} (h : Lay n d) (hn : n ≤ 64 := by decide) : SeqAt.shaped d = true := by
  unfold SeqAt.shaped
  rw [h.1, decide_eq_true (Nat.le_trans h.2 hn)]
  rfl
theorem lay_none {n : Nat} : Lay n .none := ⟨rfl, Nat.zero_le _⟩
theorem lay_bool {n : Nat} {b : Bool} : Lay n (.bool b) := ⟨rfl, Nat.zero_le _⟩
theorem lay_int {n : Nat} {b : Int} : Lay n (.int b) := ⟨rfl, Nat.zero_le _⟩
theorem lay_tx {n : Nat} {l : List Nat} (h : ∀ c ∈ l, c < 1114112) : Lay n (tx l) := by
  refine ⟨?_, Nat.zero_le _⟩
  show PyData.strOk ⟨l.toArray⟩ = true
  unfold PyData.strOk
  simp only [List.all_toArray, List.all_eq_true, decide_eq_true_eq]
  exact h
theorem lay_all {n : Nat} : ∀ {ds : List PyData}, (∀ d ∈ ds, Lay n d) → PyData.canLayAll0 ds = true ∧ PyData.depthAll ds ≤ n
  | [], _ => ⟨rfl, Nat.zero_le _⟩
  | d :: ds, h => by
    obtain ⟨h1, h2⟩ := h d List.mem_cons_self
    obtain ⟨g1, g2⟩ := lay_all (ds := ds) fun e he => h e (List.mem_cons_of_mem _ he)
    refine ⟨?_, Nat.max_le.mpr ⟨h2, g2⟩⟩
    show (d.canLay0 && PyData.canLayAll0 ds) = true
    rw [h1, g1]
    rfl
theorem lay_list {n : Nat} (h : ∀ d ∈ ds, Lay n d) : Lay (n + 1) (.list ds) := ⟨(lay_all h).1, Nat.succ_le_succ (lay_all h).2⟩
theorem lay_tuple {n : Nat} (h : ∀ d ∈ ds, Lay n d) : Lay (n + 1) (.tuple ds) := ⟨(lay_all h).1, Nat.succ_le_succ (lay_all h).2⟩
theorem Lay.mono {n m : Nat} (h : Lay n d) (q : n ≤ m) : Lay m d := ⟨h.1, Nat.le_trans h.2 q⟩
theorem od_eqD {n m : Nat} (h : Lay n d) (g : Lay m e) (hn : n ≤ 64 := by decide) (hm : m ≤ 64 := by decide) : OpD F (rEqD K) d e (.bool (PyData.eqv d e)) := fun O H x y Q _ w hx hy k => ⟨d, e, Dt.dp d x (noP_lay _ h.1) hx, Dt.dp e y (noP_lay _ g.1) hy, h.ok hn, g.ok hm, k _ H (ExtN.refl H) w rfl⟩
theorem od_neD {n m : Nat} (h : Lay n d) (g : Lay m e) (hn : n ≤ 64 := by decide) (hm : m ≤ 64 := by decide) : OpD F (rNeD K) d e (.bool (!PyData.eqv d e)) := fun O H x y Q _ w hx hy k => ⟨d, e, Dt.dp d x (noP_lay _ h.1) hx, Dt.dp e y (noP_lay _ g.1) hy, h.ok hn, g.ok hm, k _ H (ExtN.refl H) w rfl⟩
/-- == of ints, of texts, of bools -/
theorem od_eqI : OpD F rEq (.int i) (.int j) (.bool (decide (i = j))) := fun O H x y Q _ w hx hy k => by
  rw [show x = V.int i from hx, show y = V.int j from hy]
  exact ⟨rfl, by rw [show decide (V.int i = V.int j) = decide (i = j) by simp]; exact k _ H (ExtN.refl H) w rfl⟩
theorem od_neI : OpD F rNe (.int i) (.int j) (.bool (!decide (i = j))) := fun O H x y Q _ w hx hy k => by
  rw [show x = V.int i from hx, show y = V.int j from hy]
  exact ⟨rfl, by rw [show decide (V.int i = V.int j) = decide (i = j) by simp]; exact k _ H (ExtN.refl H) w rfl⟩
theorem od_eqB {i j : Bool} : OpD F rEq (.bool i) (.bool j) (.bool (decide (i = j))) := fun O H x y Q _ w hx hy k => by
  rw [show x = V.bl i from hx, show y = V.bl j from hy]
  exact ⟨rfl, by rw [show decide (V.bl i = V.bl j) = decide (i = j) by simp]; exact k _ H (ExtN.refl H) w rfl⟩
theorem od_neB {i j : Bool} : OpD F rNe (.bool i) (.bool j) (.bool (!decide (i = j))) := fun O H x y Q _ w hx hy k => by
  rw [show x = V.bl i from hx, show y = V.bl j from hy]
  exact ⟨rfl, by rw [show decide (V.bl i = V.bl j) = decide (i = j) by simp]; exact k _ H (ExtN.refl H) w rfl⟩
theorem tx_inj {l m : List Nat} : (⟨l.toArray⟩ : Str) = ⟨m.toArray⟩ ↔ l = m := ⟨fun h => by
  have := congrArg (fun s : Str => s.cps.toList) h
  simpa using this, fun h => by rw [h]⟩
theorem od_eqS {l m : List Nat} : OpD F rEq (tx l) (tx m) (.bool (decide (l = m))) := fun O H x y Q _ w hx hy k => by
  rw [show x = V.str ⟨l.toArray⟩ from hx, show y = V.str ⟨m.toArray⟩ from hy]
  exact ⟨rfl, by rw [show decide (V.str ⟨l.toArray⟩ = V.str ⟨m.toArray⟩) = decide (l = m) by simp [tx_inj]]; exact k _ H (ExtN.refl H) w rfl⟩
theorem od_neS {l m : List Nat} : OpD F rNe (tx l) (tx m) (.bool (!decide (l = m))) := fun O H x y Q _ w hx hy k => by
  rw [show x = V.str ⟨l.toArray⟩ from hx, show y = V.str ⟨m.toArray⟩ from hy]
  exact ⟨rfl, by rw [show decide (V.str ⟨l.toArray⟩ = V.str ⟨m.toArray⟩) = decide (l = m) by simp [tx_inj]]; exact k _ H (ExtN.refl H) w rfl⟩
/-- is None -/
def isN : PyData → Bool
  | .none => true
  | _ => false
theorem isN_of {O : Addr → Prop} {H : Hp} {x : V} (h : Dt O H d x) : decide (x = V.non) = isN d := by
  cases d with
  | none => rw [show x = V.non from h]; rfl
  | bool b => rw [show x = V.bl b from h]; rfl
  | int b => rw [show x = V.int b from h]; rfl
  | str b => rw [show x = V.str b from h]; rfl
  | list b => obtain ⟨a, _, e, _⟩ := h; rw [e]; rfl
  | tuple b => obtain ⟨a, _, e, _⟩ := h; rw [e]; rfl
  | dict b => obtain ⟨p, _, e⟩ := h; rw [e]; rfl
theorem od_isN : OpD F (fun x y H Q => y = .non ∧ Q (.bl (decide (x = .non))) H) d .none (.bool (isN d)) := fun O H x y Q _ w hx hy k => ⟨hy, k _ H (ExtN.refl H) w (by rw [isN_of hx]; rfl)⟩
theorem od_notN : OpD F (fun x y H Q => y = .non ∧ Q (.bl (!decide (x = .non))) H) d .none (.bool (!isN d)) := fun O H x y Q _ w hx hy k => ⟨hy, k _ H (ExtN.refl H) w (by rw [isN_of hx]; rfl)⟩
/-- one sign in a text -/
theorem od_inS {c : Nat} {m : List Nat} : OpD F rInS (tx [c]) (tx m) (.bool (decide (c ∈ m))) := fun O H x y Q _ w hx hy k => ⟨c, _, hx, hy, k _ H (ExtN.refl H) w (by simp [Dt])⟩
theorem od_ninS {c : Nat} {m : List Nat} : OpD F rNotInS (tx [c]) (tx m) (.bool (!decide (c ∈ m))) := fun O H x y Q _ w hx hy k => ⟨c, _, hx, hy, k _ H (ExtN.refl H) w (by simp [Dt])⟩
/-- data in a list -/
theorem od_inD {n m : Nat} (h : Lay n d) (g : Lay m (.list ds)) (hn : n ≤ 64 := by decide) (hm : m ≤ 64 := by decide) : OpD F (rInD K) d (.list ds) (.bool (ds.any fun z => PyData.eqv z d)) := fun O H x y Q _ w hx hy k => ⟨d, ds, Dt.dp d x (noP_lay _ h.1) hx, Dt.dp _ y (noP_lay _ g.1) hy, h.ok hn, g.ok hm, k _ H (ExtN.refl H) w rfl⟩
theorem od_ninD {n m : Nat} (h : Lay n d) (g : Lay m (.list ds)) (hn : n ≤ 64 := by decide) (hm : m ≤ 64 := by decide) : OpD F (rNotInD K) d (.list ds) (.bool (!ds.any fun z => PyData.eqv z d)) := fun O H x y Q _ w hx hy k => ⟨d, ds, Dt.dp d x (noP_lay _ h.1) hx, Dt.dp _ y (noP_lay _ g.1) hy, h.ok hn, g.ok hm, k _ H (ExtN.refl H) w rfl⟩
/-- items -/
theorem at_data {O : Addr → Prop} {H : Hp} {vs : List V} (h : DtAll O H ds vs) (e : atI ds i = some d) : ∃ v, atI vs i = some v ∧ Dt O H d v := by
  unfold atI at e ⊢
  rw [h.len]
  cases q : ixN ds.length i with
  | none => rw [q] at e; cases e
  | some j =>
    rw [q] at e
    exact h.get e
theorem od_ixL (h : atI ds i = some d) : OpD F (rIxL K) (.list ds) (.int i) d := fun O H x y Q _ w hx hy k => by
  obtain ⟨a, xs, ex, _, ga, ra⟩ := hx
  obtain ⟨v, e, g⟩ := at_data ra h
  exact ⟨a, xs, i, v, ex, hy, SqL.of ga, e, k v H (ExtN.refl H) w g⟩
theorem od_ixT (h : atI ds i = some d) : OpD F (rIxT K) (.tuple ds) (.int i) d := fun O H x y Q _ w hx hy k => by
  obtain ⟨a, xs, ex, _, ga, ra⟩ := hx
  obtain ⟨v, e, g⟩ := at_data ra h
  exact ⟨a, xs, i, v, ex, hy, SqT.of ga, e, k v H (ExtN.refl H) w g⟩
theorem od_ixS {l : List Nat} {c : Nat} (hz : l.length ≤ sizeLine) (h : atI l i = some c) : OpD F rIxS (tx l) (.int i) (tx [c]) := fun O H x y Q _ w hx hy k =>
  ⟨_, i, c, hx, hy, by rw [tx_len]; exact hz, by simpa using h, k _ H (ExtN.refl H) w rfl⟩
/-- slices -/
def cutL {α : Type} (xs : List α) (lo hi : Option Int) : List α := (xs.drop (HT.sIx xs.length 0 lo)).take (HT.sIx xs.length xs.length hi - HT.sIx xs.length 0 lo)
theorem sd_list {lo hi : Option Int} : SlD F (rSlL K) (.list ds) lo hi (.list (cutL ds lo hi)) := fun O H x Q dom w hx k => by
  obtain ⟨a, xs, ex, _, ga, ra⟩ := hx
  refine ⟨a, xs, ex, SqL.of ga, fun p hp => k _ _ (ext_new hp) (tabs_new w hp) ⟨p, _, rfl, fresh_ok dom hp, upd_same, ?_⟩⟩
  unfold cutV cutL
  rw [ra.len]
  exact ((ra.drop _).take _).grow (ext_new hp)
theorem sd_tup {lo hi : Option Int} (hne : ¬(HT.sIx ds.length 0 lo = 0 ∧ HT.sIx ds.length ds.length hi = ds.length)) : SlD F (rSlT K) (.tuple ds) lo hi (.tuple (cutL ds lo hi)) := fun O H x Q dom w hx k => by
  obtain ⟨a, xs, ex, _, ga, ra⟩ := hx
  refine ⟨a, xs, ex, SqT.of ga, by rw [ra.len]; exact hne, fun p hp => k _ _ (ext_new hp) (tabs_new w hp) ⟨p, _, rfl, fresh_ok dom hp, upd_same, ?_⟩⟩
  unfold cutV cutL
  rw [ra.len]
  exact ((ra.drop _).take _).grow (ext_new hp)
theorem sd_str {l : List Nat} {lo hi : Option Int} (hz : l.length ≤ sizeLine) : SlD F rSlS (tx l) lo hi (tx (cutL l lo hi)) := fun O H x Q dom w hx k => ⟨_, hx, by rw [tx_len]; exact hz, k _ H (ExtN.refl H) w (by unfold cutS cutL; simp [tx, Dt, tx_len])⟩
/-- len, max, min .. -/
theorem cd_lenL : ClD F (fun xs H Q => ∃ x n, xs = [x] ∧ LenV K x H n ∧ Q (.int n) H) [.list ds] (.int ds.length) := fun O H xs Q _ w h k => by
  obtain ⟨x, r, e, ⟨a, ys, ex, _, ga, ra⟩, rfl⟩ := h
  subst ex
  exact ⟨_, ds.length, e, .inl ⟨ys, SqL.of ga, ra.len.symm⟩, k _ H (ExtN.refl H) w rfl⟩
theorem cd_lenT : ClD F (fun xs H Q => ∃ x n, xs = [x] ∧ LenV K x H n ∧ Q (.int n) H) [.tuple ds] (.int ds.length) := fun O H xs Q _ w h k => by
  obtain ⟨x, r, e, ⟨a, ys, ex, _, ga, ra⟩, rfl⟩ := h
  subst ex
  exact ⟨_, ds.length, e, .inr ⟨ys, SqT.of ga, ra.len.symm⟩, k _ H (ExtN.refl H) w rfl⟩
theorem cd_lenS {l : List Nat} (hz : l.length ≤ sizeLine) : ClD F (fun xs H Q => ∃ x n, xs = [x] ∧ LenV K x H n ∧ Q (.int n) H) [tx l] (.int l.length) := fun O H xs Q _ w h k => by
  obtain ⟨x, r, e, ex, rfl⟩ := h
  rw [show x = V.str ⟨l.toArray⟩ from ex] at e
  exact ⟨_, l.length, e, ⟨by rw [tx_len]; exact hz, by rw [tx_len]⟩, k _ H (ExtN.refl H) w rfl⟩
theorem cd_max2 : ClD F (fun xs H Q => ∃ i j, xs = [.int i, .int j] ∧ Q (.int (if j > i then j else i)) H) [.int i, .int j] (.int (if j > i then j else i)) := fun O H xs Q _ w h k => by
  obtain ⟨x, r, rfl, ex, y, r', rfl, ey, rfl⟩ := h
  rw [show x = V.int i from ex, show y = V.int j from ey]
  exact ⟨i, j, rfl, k _ H (ExtN.refl H) w rfl⟩
theorem cd_min2 : ClD F (fun xs H Q => ∃ i j, xs = [.int i, .int j] ∧ Q (.int (if j < i then j else i)) H) [.int i, .int j] (.int (if j < i then j else i)) := fun O H xs Q _ w h k => by
  obtain ⟨x, r, rfl, ex, y, r', rfl, ey, rfl⟩ := h
  rw [show x = V.int i from ex, show y = V.int j from ey]
  exact ⟨i, j, rfl, k _ H (ExtN.refl H) w rfl⟩
theorem cd_all {bs : List Bool} : ClD F (rAll K) [.list (bs.map PyData.bool)] (.bool (bs.all id)) := fun O H xs Q _ w h k => by
  obtain ⟨x, r, rfl, ⟨a, ys, ex, _, ga, ra⟩, rfl⟩ := h
  subst ex
  exact ⟨a, bs, rfl, SqL.of (by rw [ga, ra.bls]), k _ H (ExtN.refl H) w rfl⟩
theorem cd_sum {ns : List Int} : ClD F (rSum K) [.list (ns.map PyData.int)] (.int ns.sum) := fun O H xs Q _ w h k => by
  obtain ⟨x, r, rfl, ⟨a, ys, ex, _, ga, ra⟩, rfl⟩ := h
  subst ex
  exact ⟨a, ns, rfl, SqL.of (by rw [ga, ra.ints]), k _ H (ExtN.refl H) w rfl⟩
/-- isinstance -/
def tyN : PyData → String
  | .none => "NoneType"
  | .bool _ => "bool"
  | .int _ => "int"
  | .str _ => "str"
  | .list _ => "list"
  | .tuple _ => "tuple"
  | .dict _ => "dict"
theorem ty_of {O : Addr → Prop} {H : Hp} {x : V} (n : ∀ b, d ≠ .dict b) (h : Dt O H d x) : TyX K H x (.type (tyN d)) := by
  cases d with
  | none => rw [show x = V.non from h]; exact .base .non
  | bool b => rw [show x = V.bl b from h]; exact .base (.bl b)
  | int b => rw [show x = V.int b from h]; exact .base (.int b)
  | str b => rw [show x = V.str b from h]; exact .base (.str b)
  | list b => obtain ⟨a, _, e, _, g, _⟩ := h; rw [e]; exact .base (.lst g)
  | tuple b => obtain ⟨a, _, e, _, g, _⟩ := h; rw [e]; exact .base (.tup g)
  | dict b => exact absurd rfl (n b)
/-- a pointer -/
def isP : PyData → Bool
  | .dict _ => true
  | _ => false
theorem no_ptr {d : PyData} (h : isP d = false) : ∀ b, d ≠ .dict b := fun k z => by
  subst z
  cases h
def isiB (d : PyData) (T : String) : Bool := (kitB (tyN d) T).getD false
theorem cd_join {ls : List (List Nat)} {m : List Nat} (hz : (ls.map (·.length)).sum + ls.length * m.length ≤ 16777216) : MtD F (fun x xs H Q => ∃ a p, ∃ ys : List Str, x = .str a ∧ xs = [.ref p] ∧ (SqL K H p (ys.map V.str) ∨ SqT K H p (ys.map V.str)) ∧ (ys.map (·.length)).sum + ys.length * a.length ≤ 16777216 ∧ Q (.str (Txt.join a ys)) H)
    (tx m) [.list (ls.map tx)] (tx (TL.joinL m ls)) := fun O H x xs Q _ w hx h k => by
  obtain ⟨y, r, rfl, ⟨a, ys, ey, _, ga, ra⟩, rfl⟩ := h
  subst ey
  have e1 : ls.map tx = (ls.map fun l => (⟨l.toArray⟩ : Str)).map PyData.str := by rw [List.map_map]; rfl
  rw [e1] at ra
  have e2 := ra.txts
  refine ⟨⟨m.toArray⟩, a, ls.map fun l => ⟨l.toArray⟩, hx, rfl, .inl (SqL.of (by rw [ga, e2])), ?_, k _ H (ExtN.refl H) w ?_⟩
  · rw [List.map_map, List.length_map, tx_len]
    have e3 : (ls.map ((fun s : Str => s.length) ∘ fun l => (⟨l.toArray⟩ : Str))) = ls.map (·.length) := List.map_congr_left fun l _ => tx_len l
    rw [e3]
    exact hz
  · show V.str (Txt.join ⟨m.toArray⟩ _) = V.str ⟨(TL.joinL m ls).toArray⟩
    rw [TL.join_eq]
    refine congrArg V.str (TL.ext_tl ?_)
    rw [TL.tl_join, List.map_map]
    have e4 : (ls.map (TL.tl ∘ fun l => (⟨l.toArray⟩ : Str))) = ls := by
      rw [show (TL.tl ∘ fun l => (⟨l.toArray⟩ : Str)) = id from funext fun l => by simp [TL.tl]]
      exact List.map_id ls
    rw [e4]
end
/-- the last law's end: isinstance(e, T), T a built-in class -/
theorem x_isi {Kf : PySem.W.Frag} {Tf : List (Addr × Str)} {F : Fx Kf Tf} {δ : List Slot} {X : Cx} {N : List Str} {sc : Scope} {pos p p2 : Pos} {e : Expr} {d : PyData} {T : String} {x : Str} {b : Bool} (cx : Ctx X N sc) (he : PE X e (tD F δ d)) (hm : X.mg "isinstance" = none) (hm2 : X.mg x = none) (hv : bootBuiltins x = some (.type T)) (hb : kitB (tyN d) T = some b) (hT : isP d = false := by first | rfl | assumption)
    (hg : sc.names.lookup ("isinstance" : Str) = some .globalImplicit := by rfl) (hg2 : sc.names.lookup x = some .globalImplicit := by rfl) (hn : x ≠ "__name__" := by decide) (hd : (x == ("__debug__" : Str)) = false := by decide)
    (hs : starEach (e :: [.Name x p2]) X.env = (false, eval e X.env) :: starEach [.Name x p2] X.env := by rfl) : PE X (.Call (.Name "isinstance" p) [e, .Name x p2] [] pos) (tD F δ (.bool b)) :=
  wkE (pe_callB call_isi (cx.gl hg) hm (by decide +kernel) (pa_cons he (pa_cons (pe_bltn (v := .ty T) (cx.gl hg2) hm2 hv rfl hn hd) pa_nil) hs) (by decide) (by decide) hs) fun σ H Q h => by
    obtain ⟨O, st, k⟩ := h
    exact ⟨O, st, fun v H1 e1 t1 g1 => ⟨v, .ty T, _, _, b, rfl, .ty T, ty_of (no_ptr hT) g1, kit_ty hb, k _ H1 e1 t1 rfl⟩⟩
end Lf
set_option Elab.async false
set_option linter.all false
set_option maxRecDepth 100000
set_option maxHeartbeats 4000000
namespace Lf
open PySem PySem.Spec PyProof.Rows L2 LamX
/-! ### the program around, the rest of a place -/
structure Pg where
  prog : Program
  w : World
  K : PySem.W.Frag
  mg : Str → Option Value
  base : Heap
structure Rest where
  A : Around
  s0 : Shared
  H0 : Hp
  env : Env
  outer : List Env
  stack : List Env
  ex : List Addr
  fn : Str → Bool
  calm : Bool
  pn : List (Addr × Obj)
  xe : Value → Shared → Prop
abbrev Pg.cx (G : Pg) (N : List Str) (r : Rest) : Cx := ⟨G.prog, G.w, G.K, G.mg, G.base, r.A, N, r.s0, r.H0, r.env, r.outer, r.stack, r.ex, r.fn, r.calm, r.pn, r.xe⟩
/-! ### promises by data -/
abbrev Res := Except Addr PyData
def spD (T : List (Addr × Str)) (R : List PyData → Res → Prop) : Sp := fun vs H Q E => ∃ O ds r, (∀ a, O a → Lives H a) ∧ Tabs T H ∧ DtAll O H ds vs ∧ R ds r ∧
  (∀ d, r = .ok d → ∀ v H', ExtN H H' → Tabs T H' → Dt O H' d v → Q v H') ∧ (∀ c, r = .error c → ∀ H', ExtN H H' → Tabs T H' → E (.ref c) none H')
/-- a def by its name -/
structure Fd (P : Program) (w : World) (K : PySem.W.Frag) (mg : Str → Option Value) (base : Heap) (x : Str) (k : Nat) (ps : List Str) (sp : Sp) : Prop where
  ex : ∃ f fd, FnOk P w K mg base (L2N.CX P w) k f fd ps sp ∧ mg x = some (.ref f) ∧ PySem.W.keepIn K (.ref f) = true ∧ Binds K fd ps []
theorem passN {X : Cx} : Passes (L2N.CX X.prog X.w) X E0 := fun _ _ _ _ _ _ _ h => by
  obtain ⟨_, _, _, _, _, _, _, _, _, _, _, _, z⟩ := h
  exact z.elim
def start0 (N : List Str) (ds : List PyData) : List Slot := ds.map .dat ++ List.replicate (N.length - ds.length) .non
def postOf (r : Res) : Post := { nx := fun _ => r = .ok .none, rt := fun d => r = .ok d, ex := fun c => r = .error c }
section
variable {Kf : PySem.W.Frag} {Tf : List (Addr × Str)} {F : Fx Kf Tf} {δ : List Slot} {X : Cx} {N : List Str} {sc : Scope} {pos p : Pos} {a b c e : Expr} {es : List Expr} {d z : PyData} {ds : List PyData} {R : List PyData → Res → Prop} {x : Str} {k : Nat} {ps : List Str}
theorem x_call (cx : Ctx X N sc) (h : Fd X.prog X.w X.K X.mg X.base x k ps (spD Tf R)) (hr : Room k X.A) (ha : PA X (e :: es) (aD F δ ds)) (hR : R ds (.ok d)) (hg : sc.names.lookup x = some .globalImplicit := by rfl) (hdb : (x == ("__debug__" : Str)) = false := by decide)
    (he : starEach (e :: es) X.env = (false, eval e X.env) :: starEach es X.env := by rfl) (hpl : (backTo pos (starEach es X.env)).any (·.1) = false := by rfl) : PE X (.Call (.Name x p) (e :: es) [] pos) (tD F δ d) := by
  obtain ⟨f, fd, G, m, kp, b⟩ := h.ex
  refine wkE (pe_call G hr (cx.gl hg) m kp b .nil passN ha hdb he hpl) fun σ H Q h => ?_
  obtain ⟨O, st, w⟩ := h
  refine ⟨O, st, fun vs H1 e1 t1 g1 => ?_⟩
  show spD Tf R (vs ++ []) H1 Q _
  rw [List.append_nil]
  exact ⟨O, ds, .ok d, (st.grow e1 t1).dom, t1, g1, hR, fun d' q v H' e2 t2 g2 => by cases q; exact w v H' (e1.trans e2) t2 g2, fun c q => by cases q⟩
theorem x_callX {C : Addr} (cx : Ctx X N sc) (tk : L2N.Takes X (fun cls d _ H => F.E cls d H)) (h : Fd X.prog X.w X.K X.mg X.base x k ps (spD Tf R)) (hr : Room k X.A) (ha : PA X (e :: es) (aD F δ ds)) (hR : R ds (.error C)) (hg : sc.names.lookup x = some .globalImplicit := by rfl) (hdb : (x == ("__debug__" : Str)) = false := by decide)
    (he : starEach (e :: es) X.env = (false, eval e X.env) :: starEach es X.env := by rfl) (hpl : (backTo pos (starEach es X.env)).any (·.1) = false := by rfl) : PE X (.Call (.Name x p) (e :: es) [] pos) (tDX F δ C) := by
  obtain ⟨f, fd, G, m, kp, b⟩ := h.ex
  refine wkE (pe_call G hr (cx.gl hg) m kp b .nil (E := F.E) (L2N.passes_call tk fun _ _ _ _ z => z) ha hdb he hpl) fun σ H Q h => ?_
  obtain ⟨O, st, w⟩ := h
  refine ⟨O, st, fun vs H1 e1 t1 g1 => ?_⟩
  show spD Tf R (vs ++ []) H1 Q _
  rw [List.append_nil]
  exact ⟨O, ds, .error C, (st.grow e1 t1).dom, t1, g1, hR, fun d' q => (by cases q), fun c q H' e2 t2 => (by cases q; exact w H' (e1.trans e2) t2)⟩
/-! ### the state behind a store -/
variable {O : Addr → Prop} {H : Hp} {σ : L2.St} {v : V}
theorem get_some {i : Nat} (h : σ[i]?.getD none = some v) : σ[i]? = some (some v) := by
  cases q : σ[i]? with
  | none => rw [q] at h; cases h
  | some o => rw [q] at h; rw [show o = some v from h]
theorem StAt.set {s : Slot} (st : StAt F O H σ δ) (i : Nat) (h : SlotOk F O H (some v) s) (hs : s.mine = false) : StAt F O H (σ.set i (some v)) (δ.set i s) := by
  refine ⟨by rw [List.length_set, List.length_set, st.len], st.o0, st.dom, st.tabs, st.ext, fun j u q => ?_, fun j l s' u' q' hjl h1 h2 m1 m2 e1 e2 => ?_, ?_⟩
  · by_cases e : i = j
    · subst e
      have hi : i < δ.length := by
        have := (List.getElem?_eq_some_iff.mp q).1
        simpa using this
      rw [List.getElem?_set_self hi] at q
      cases q
      rw [List.getElem?_set_self (by rw [st.len]; exact hi)]
      exact h
    · rw [List.getElem?_set_ne e] at q ⊢
      exact st.slot j u q
  · have no : ∀ {j : Nat} {u : Slot}, (δ.set i s)[j]? = some u → u.mine = true → i ≠ j := fun {j u} q m e => by
      subst e
      have hi : i < δ.length := by
        have := (List.getElem?_eq_some_iff.mp q).1
        simpa using this
      rw [List.getElem?_set_self hi] at q
      cases q
      rw [hs] at m
      cases m
    have n1 := no h1 m1
    have n2 := no h2 m2
    rw [List.getElem?_set_ne n1] at h1 e1
    rw [List.getElem?_set_ne n2] at h2 e2
    exact st.apart j l s' u' q' hjl h1 h2 m1 m2 e1 e2
  · exact st.afar.set st.len i _ _ (fun R e => by rw [e] at hs; cases hs) fun j R _ _ p _ => no_has hs _ p
theorem StAt.setD (st : StAt F O H σ δ) (i : Nat) (h : Dt O H d v) : StAt F O H (σ.set i (some v)) (δ.set i (.dat d)) := st.set i ⟨v, rfl, h⟩ rfl
/-- a new list is put into a name -/
theorem own_out {τ : List (PyData × V)} {H' : Hp} {q : Addr} {xs : List V} (st : StAt F O H σ δ) (tm : Tm O H τ) (i : Nat) (e : ExtN H H') (t : Tabs F.T H') (hn : ∀ a, Lives H a → a ≠ q) (hq : H' q = some (.lst xs)) (hds : DtAll (Shut O q) H' ds xs) :
    StAt F (Shut O q) H' (σ.set i (some (.ref q))) (δ.set i (.own ds)) ∧ Tm (Shut O q) H' τ := by
  have kp : ∀ d v, Dt O H d v → Dt (Shut O q) H' d v := fun d v g => Dt.imp (fun a o n r w => ⟨fun z => z.elim n (fun z => hn a ⟨o, r, w⟩ z), e a o r w⟩) d v g
  have kpA : ∀ d v, DtAll O H d v → DtAll (Shut O q) H' d v := fun d v g => DtAll.imp (fun a o n r w => ⟨fun z => z.elim n (fun z => hn a ⟨o, r, w⟩ z), e a o r w⟩) d v g
  have sl : ∀ o s, SlotOk F O H o s → SlotOk F (Shut O q) H' o s := fun o s g => by
    cases s with
    | non => trivial
    | dat d => obtain ⟨v, a, b⟩ := g; exact ⟨v, a, kp _ _ b⟩
    | own ds => obtain ⟨p, vs, a, b, c, g, r⟩ := g; exact ⟨p, vs, a, .inl b, c, e _ _ g (fun _ z => by cases z), kpA _ _ r⟩
    | odk kvs => obtain ⟨p, vs, a, b, c, g, r⟩ := g; exact ⟨p, vs, a, .inl b, c, e _ _ g (fun _ z => by cases z), r.imp kpA⟩
    | res R => exact res_keep g (fun a ha => (g.2.2 a ha).2.2.same e) (fun a ha => .inl (g.2.2 a ha).1) kp
    | scr ns => exact g
    | any φ => exact g
  have nq : ∀ (j : Nat) (s : Slot), δ[j]? = some s → s.mine = true → σ[j]? ≠ some (some (V.ref q)) := fun j s a m z => by
    have g := st.slot j s a
    rw [z] at g
    cases s with
    | own ds =>
      obtain ⟨p, vs, e1, o1, _⟩ := g
      cases e1
      exact hn q (st.dom q o1) rfl
    | odk ds =>
      obtain ⟨p, vs, e1, o1, _⟩ := g
      cases e1
      exact hn q (st.dom q o1) rfl
    | res R =>
      obtain ⟨e1, _, _⟩ := g
      cases e1
    | non => cases m
    | dat _ => cases m
    | scr _ => cases m
    | any _ => cases m
  refine ⟨⟨by rw [List.length_set, List.length_set, st.len], fun a z => .inl (st.o0 a z), fun a z => ?_, t, st.ext.trans e, fun j s r => ?_, fun j l s' u' q' hjl h1 h2 m1 m2 e1 e2 => ?_, st.afar.set st.len i _ _ (fun R z => by cases z) fun j R _ hj p hp z => ?_⟩, fun w hw => kp _ _ (tm w hw)⟩
  rotate_right
  · cases (show some (V.ref q) = some (V.ref p) from z)
    exact hn q ((st.slot j _ hj).2.2 q hp).2.2 rfl
  · rcases z with z | z
    · exact (st.dom a z).grow e
    · rw [z]; exact ⟨_, hq, fun _ z => by cases z⟩
  · by_cases ej : i = j
    · subst ej
      have hi : i < δ.length := by
        have := (List.getElem?_eq_some_iff.mp r).1
        simpa using this
      rw [List.getElem?_set_self hi] at r
      cases r
      rw [List.getElem?_set_self (by rw [st.len]; exact hi)]
      exact ⟨q, xs, rfl, .inr rfl, fun z => hn q (z.grow st.ext) rfl, hq, hds⟩
    · rw [List.getElem?_set_ne ej] at r ⊢
      exact sl _ _ (st.slot j s r)
  · by_cases ej : i = j
    · by_cases el : i = l
      · exact hjl (ej.symm.trans el)
      · rw [List.getElem?_set_ne el] at h2 e2
        subst ej
        have hi : i < σ.length := by
          have := (List.getElem?_eq_some_iff.mp e1).1
          simpa using this
        rw [List.getElem?_set_self hi] at e1
        cases e1
        exact nq l u' h2 m2 e2
    · rw [List.getElem?_set_ne ej] at h1 e1
      by_cases el : i = l
      · subst el
        have hi : i < σ.length := by
          have := (List.getElem?_eq_some_iff.mp e2).1
          simpa using this
        rw [List.getElem?_set_self hi] at e2
        cases e2
        exact nq j s' h1 m1 e1
      · rw [List.getElem?_set_ne el] at h2 e2
        exact st.apart j l s' u' q' hjl h1 h2 m1 m2 e1 e2
/-- a list of one's own is changed -/
theorem own_turn {τ : List (PyData × V)} {q : Addr} {xs ys : List V} {es : List PyData} {i : Nat} (st : StAt F O H σ δ) (tm : Tm O H τ) (hi : δ[i]? = some (.own ds)) (hv : σ[i]? = some (some (.ref q))) (hq : H q = some (.lst xs)) (h : DtAll O H es ys) :
    StAt F O (upd H q (.lst ys)) σ (δ.set i (.own es)) ∧ Tm O (upd H q (.lst ys)) τ := by
  have g := st.slot i _ hi
  rw [hv] at g
  obtain ⟨p, vs, e1, o1, nl, gp, _⟩ := g
  cases e1
  have kp : ∀ d v, Dt O H d v → Dt O (upd H q (.lst ys)) d v := fun d v g => g.turn o1
  have kpA : ∀ d v, DtAll O H d v → DtAll O (upd H q (.lst ys)) d v := fun d v g => g.turn o1
  have hil : i < δ.length := (List.getElem?_eq_some_iff.mp hi).1
  have mineset : ∀ {j : Nat} {s : Slot}, (δ.set i (.own es))[j]? = some s → s.mine = true → ∃ s', δ[j]? = some s' ∧ s'.mine = true := fun {j s} a m => by
    by_cases e : i = j
    · subst e
      exact ⟨_, hi, rfl⟩
    · rw [List.getElem?_set_ne e] at a
      exact ⟨s, a, m⟩
  refine ⟨⟨by rw [List.length_set, st.len], st.o0, fun a z => (st.dom a z).turn (fun _ z => by cases z), tabs_turn st.tabs hq, fun b o g t => ?_, fun j s r => ?_, fun j l s' u' q' hjl h1 h2 m1 m2 => ?_, st.afar.turn st.len i _ (fun R z => by cases z) fun j R hji hj p hp z => st.afar j i R _ hji hj hi p hp z⟩, fun w hw => kp _ _ (tm w hw)⟩
  · rw [upd_ne (fun z => nl (by rw [← z]; exact ⟨o, g, t⟩))]
    exact st.ext b o g t
  · by_cases e : i = j
    · subst e
      rw [List.getElem?_set_self hil] at r
      cases r
      rw [hv]
      exact ⟨q, ys, rfl, o1, nl, upd_same, kpA _ _ h⟩
    · rw [List.getElem?_set_ne e] at r
      have g := st.slot j s r
      cases s with
      | non => trivial
      | dat d => obtain ⟨v, a, b⟩ := g; exact ⟨v, a, kp _ _ b⟩
      | own ds' =>
        obtain ⟨p, vs', a, b, c, g, r'⟩ := g
        have ne : p ≠ q := fun z => st.apart i j _ _ q e hi r rfl rfl hv (by rw [← z]; exact get_some a)
        exact ⟨p, vs', a, b, c, by rw [upd_ne ne]; exact g, kpA _ _ r'⟩
      | odk kvs =>
        obtain ⟨p, vs', a, b, c, g, r'⟩ := g
        have ne : p ≠ q := fun z => st.apart i j _ _ q e hi r rfl rfl hv (by rw [← z]; exact get_some a)
        exact ⟨p, vs', a, b, c, by rw [upd_ne ne]; exact g, r'.imp kpA⟩
      | res R => exact res_keep g (fun a ha => upd_ne fun z => st.afar j i R _ (fun y => e y.symm) r hi a ha (by rw [hv, z]; rfl)) (fun a ha => (g.2.2 a ha).1) kp
      | scr ns => exact g
      | any φ => exact g
  · obtain ⟨s1, a1, b1⟩ := mineset h1 m1
    obtain ⟨s2, a2, b2⟩ := mineset h2 m2
    exact st.apart j l s1 s2 q' hjl a1 a2 b1 b2
/-- a list of one's own is one's own no more -/
theorem own_freeze {τ : List (PyData × V)} {i : Nat} (st : StAt F O H σ δ) (tm : Tm O H τ) (hi : δ[i]? = some (.own ds)) : ∃ O', StAt F O' H σ (δ.set i (.dat (.list ds))) ∧ Tm O' H τ := by
  obtain ⟨q, xs, e1, o1, nl, gq, r⟩ := st.slot i _ hi
  have hv := get_some e1
  have hil : i < δ.length := (List.getElem?_eq_some_iff.mp hi).1
  refine ⟨fun a => O a ∧ a ≠ q, ?_, fun w hw => (tm w hw).open_ fun a z => z.1⟩
  have kpA : ∀ d v, DtAll O H d v → DtAll (fun a => O a ∧ a ≠ q) H d v := fun d v g => g.open_ fun a z => z.1
  refine ⟨by rw [List.length_set, st.len], fun a z => ⟨st.o0 a z, fun e => nl (by rw [← e]; exact F.h0 a z)⟩, fun a z => st.dom a z.1, st.tabs, st.ext, fun j s r' => ?_, fun j l s' u' q' hjl h1 h2 m1 m2 e1 e2 => ?_, st.afar.turn st.len i _ (fun R z => by cases z) fun j R _ _ p _ z => z⟩
  · by_cases e : i = j
    · subst e
      rw [List.getElem?_set_self hil] at r'
      cases r'
      rw [hv]
      exact ⟨.ref q, rfl, q, xs, rfl, fun z => z.2 rfl, gq, kpA _ _ r⟩
    · rw [List.getElem?_set_ne e] at r'
      have g := st.slot j s r'
      cases s with
      | non => trivial
      | dat d => obtain ⟨v, a, b⟩ := g; exact ⟨v, a, b.open_ fun a z => z.1⟩
      | own ds' =>
        obtain ⟨p, vs', a, b, c, g, r2⟩ := g
        have ne : p ≠ q := fun z => st.apart i j _ _ q e hi r' rfl rfl hv (by rw [← z]; exact get_some a)
        exact ⟨p, vs', a, ⟨b, ne⟩, c, g, kpA _ _ r2⟩
      | odk kvs =>
        obtain ⟨p, vs', a, b, c, g, r2⟩ := g
        have ne : p ≠ q := fun z => st.apart i j _ _ q e hi r' rfl rfl hv (by rw [← z]; exact get_some a)
        exact ⟨p, vs', a, ⟨b, ne⟩, c, g, r2.imp kpA⟩
      | res R => exact res_keep g (fun a ha => rfl) (fun a ha => ⟨(g.2.2 a ha).1, fun z => st.afar j i R _ (fun y => e y.symm) r' hi a ha (by rw [hv, z]; rfl)⟩) fun d v q => q.open_ fun a z => z.1
      | scr ns => exact g
      | any φ => exact g
  · have no : ∀ {j : Nat} {u : Slot}, (δ.set i (.dat (.list ds)))[j]? = some u → u.mine = true → i ≠ j := fun {j u} q m e => by
      subst e
      rw [List.getElem?_set_self hil] at q
      cases q
      cases m
    have n1 := no h1 m1
    have n2 := no h2 m2
    rw [List.getElem?_set_ne n1] at h1
    rw [List.getElem?_set_ne n2] at h2
    exact st.apart j l s' u' q' hjl h1 h2 m1 m2 e1 e2
/-- read as data -/
theorem x_view {i : Nat} (hi : δ[i]? = some (.own ds)) (h : PE X e (tD F (δ.set i (.dat (.list ds))) d)) (f : flatD d = true := by rfl) : PE X e (tD F δ d) := wkE h fun σ H Q h => by
  obtain ⟨O, st, k⟩ := h
  obtain ⟨O', st', _⟩ := own_freeze (τ := []) st (fun _ z => by cases z) hi
  exact ⟨O', st', fun v H' e t g => k v H' e t (g.flat f)⟩
theorem c_view {i : Nat} {k : Bool} (hi : δ[i]? = some (.own ds)) (h : PT X e (cD F (δ.set i (.dat (.list ds))) k)) : PT X e (cD F δ k) := wkT h fun σ H Q h => by
  obtain ⟨O, st, k⟩ := h
  obtain ⟨O', st', _⟩ := own_freeze (τ := []) st (fun _ z => by cases z) hi
  exact ⟨O', st', k⟩
end
end Lf
set_option Elab.async false
set_option linter.all false
set_option maxRecDepth 100000
set_option maxHeartbeats 4000000
namespace Lf
open PySem PySem.Spec PyProof.Rows L2 LamX
section
variable {Kf : PySem.W.Frag} {Tf : List (Addr × Str)} {F : Fx Kf Tf} {δ : List Slot} {X : Cx} {N : List Str} {sc : Scope} {pos p pos' : Pos} {a b c e : Expr} {es : List Expr} {d z : PyData} {ds : List PyData} {x : Str} {st : Stmt} {rest body els : List Stmt} {P : Post}
theorem Tm.grow {O : Addr → Prop} {H H' : Hp} {τ : List (PyData × V)} (h : Tm O H τ) (e : ExtN H H') : Tm O H' τ := fun w hw => (h w hw).grow e
/-! ### statements -/
theorem s_nil (h : P.nx δ) : PSs X [] (sD F δ P) := wkSs pss_nil fun D σ H h' => by
  obtain ⟨O, τ, st, tm, w⟩ := h'
  exact w.nx δ O σ H h st tm
/-- a block in two -/
theorem s_seq {M : List Slot → Prop} (h : PS X st (sD F δ { P with nx := M })) (g : ∀ δ', M δ' → PSs X rest (sD F δ' P)) : PSs X (st :: rest) (sD F δ P) :=
  wkSs (pss_cons h (exSs fun δ' => ifSs (g δ'))) fun D σ H h' => by
    obtain ⟨O, τ, s0, tm, w⟩ := h'
    exact ⟨O, τ, s0, tm, ⟨fun δ' O' σ' H' m s1 t1 => ⟨δ', m, O', τ, s1, t1, w⟩, w.rt, w.bk, w.ct, w.ex, w.rts, w.exs⟩⟩
theorem s_imp {P' : Post} (h : PSs X rest (sD F δ P)) (n : ∀ δ, P.nx δ → P'.nx δ) (r : ∀ d, P.rt d → P'.rt d) (b : ∀ δ, P.bk δ → P'.bk δ) (c : ∀ δ, P.ct δ → P'.ct δ) (x : ∀ a, P.ex a → P'.ex a) (rs : ∀ δ d, P.rts δ d → P'.rts δ d := by intro _ _ h; exact h) (xs : ∀ δ c, P.exs δ c → P'.exs δ c := by intro _ _ h; exact h) : PSs X rest (sD F δ P') :=
  wkSs h fun D σ H h' => by
    obtain ⟨O, τ, s0, tm, w⟩ := h'
    exact ⟨O, τ, s0, tm, ⟨fun δ' O' σ' H' m => w.nx δ' O' σ' H' (n _ m), fun d v H m => w.rt d v H (r _ m), fun δ' O' σ' H' m => w.bk δ' O' σ' H' (b _ m), fun δ' O' σ' H' m => w.ct δ' O' σ' H' (c _ m), fun a H m => w.ex a H (x _ m), fun δ d v O σ H m => w.rts δ d v O σ H (rs _ _ m), fun δ c O σ H m => w.exs δ c O σ H (xs _ _ m)⟩⟩
theorem s_set (i : Nat) (cx : CtD X N sc F.E) (h : PE X e (tD F δ d)) (g : PSs X rest (sD F (δ.set i (.dat d)) P)) (hi : N[i]? = some x := by rfl) (hx : Loc sc x := by first | exact Or.inl rfl | exact Or.inr rfl)
    (hs : swapsWith e (some (.Name x pos')) pos.line X.env = pure false := by rfl) : PSs X (.Assign [.Name x pos'] e pos :: rest) (sD F δ P) :=
  wkSs (pss_cons (ps_set (cx.nd') (cx.at_ hi) (cx.loc hx) h hs (.inl (cx.fn x))) g) fun D σ H h' => by
    obtain ⟨O, τ, s0, tm, w⟩ := h'
    exact ⟨O, s0, fun v H' e' t' g' => ⟨O, τ, (s0.grow e' t').setD i g', tm.grow e', w⟩⟩
/-- a new list of one's own -/
theorem s_own (i : Nat) (cx : CtD X N sc F.E) (h : PE X e (tDL F δ ds)) (g : PSs X rest (sD F (δ.set i (.own ds)) P)) (hi : N[i]? = some x := by rfl) (hx : Loc sc x := by first | exact Or.inl rfl | exact Or.inr rfl)
    (hs : swapsWith e (some (.Name x pos')) pos.line X.env = pure false := by rfl) : PSs X (.Assign [.Name x pos'] e pos :: rest) (sD F δ P) :=
  wkSs (pss_cons (ps_set (cx.nd') (cx.at_ hi) (cx.loc hx) h hs (.inl (cx.fn x))) g) fun D σ H h' => by
    obtain ⟨O, τ, s0, tm, w⟩ := h'
    refine ⟨O, s0, fun q xs H' e' t' n' g' a' => ?_⟩
    obtain ⟨s1, t1⟩ := own_out s0 tm i e' t' n' g' a'
    exact ⟨Shut O q, τ, s1, t1, w⟩
theorem s_ret (h : PE X e (tD F δ d)) (g : P.rt d) : PSs X (.Return (some e) pos :: rest) (sD F δ P) :=
  wkSs (pss_cons (ps_ret h) (pss_never (sts := rest))) fun D σ H h' => by
    obtain ⟨O, τ, s0, tm, w⟩ := h'
    exact ⟨O, s0, fun v H' e' t' g' => w.rt d v H' g (s0.ext.trans e') t' (g'.open_ s0.o0)⟩
theorem s_retN (g : P.rt .none) : PSs X (.Return none pos :: rest) (sD F δ P) :=
  wkSs (pss_cons ps_retN (pss_never (sts := rest))) fun D σ H h' => by
    obtain ⟨O, τ, s0, tm, w⟩ := h'
    exact w.rt .none .non H g s0.ext s0.tabs rfl
theorem s_freeze (i : Nat) (hi : δ[i]? = some (.own ds)) (g : PSs X rest (sD F (δ.set i (.dat (.list ds))) P)) : PSs X rest (sD F δ P) := wkSs g fun D σ H h' => by
  obtain ⟨O, τ, s0, tm, w⟩ := h'
  obtain ⟨O', s1, t1⟩ := own_freeze s0 tm hi
  exact ⟨O', τ, s1, t1, w⟩
theorem s_if {k : Bool} (h : PT X c (cD F δ k)) (g1 : k = true → PSs X (body) (sD F δ { P with nx := fun δ' => PSs X rest (sD F δ' P) })) (g2 : k = false → PSs X els (sD F δ { P with nx := fun δ' => PSs X rest (sD F δ' P) })) : PSs X (.If c body els pos :: rest) (sD F δ P) :=
  s_seq (M := fun δ' => PSs X rest (sD F δ' P)) (wkS (ps_if h (ifSs g1) (ifSs g2)) fun D σ H h' => by
    obtain ⟨O, τ, s0, tm, w⟩ := h'
    refine ⟨O, s0, fun H' e' t' => ?_⟩
    cases k with
    | true => exact iteT ⟨rfl, O, τ, s0.grow e' t', tm.grow e', w⟩
    | false => exact iteF ⟨rfl, O, τ, s0.grow e' t', tm.grow e', w⟩) fun δ' h => h
/-- an if whose body leaves (returns, raises ..) -/
theorem s_when {k : Bool} (h : PT X c (cD F δ k)) (g1 : k = true → PSs X body (sD F δ { P with nx := fun δ' => PSs X rest (sD F δ' P) })) (g2 : k = false → PSs X rest (sD F δ P)) : PSs X (.If c body [] pos :: rest) (sD F δ P) :=
  s_if h g1 fun q => s_nil (g2 q)
theorem s_expr (h : PE X e (tD F δ d)) (g : PSs X rest (sD F δ P)) (hs : swapsWith e none pos.line X.env = pure false := by rfl) : PSs X (.Expr e pos :: rest) (sD F δ P) :=
  wkSs (pss_cons (ps_expr h hs) g) fun D σ H h' => by
    obtain ⟨O, τ, s0, tm, w⟩ := h'
    exact ⟨O, s0, fun v H' e' t' g' => ⟨O, τ, s0.grow e' t', tm.grow e', w⟩⟩
/-- something is raised -/
theorem s_exprX {C : Addr} (h : PE X e (tDX F δ C)) (g : P.ex C) (hs : swapsWith e none pos.line X.env = pure false := by rfl) : PSs X (.Expr e pos :: rest) (sD F δ P) :=
  wkSs (pss_cons (ps_expr h hs) (pss_never (sts := rest))) fun D σ H h' => by
    obtain ⟨O, τ, s0, tm, w⟩ := h'
    exact ⟨O, s0, fun H' e' t' => w.ex C H' g (s0.ext.trans e') t'⟩
/-- what is told, and how all stands then -/
theorem s_retS (h : PE X e (tD F δ d)) (g : P.rts δ d) : PSs X (.Return (some e) pos :: rest) (sD F δ P) :=
  wkSs (pss_cons (ps_ret h) (pss_never (sts := rest))) fun D σ H h' => by
    obtain ⟨O, τ, s0, tm, w⟩ := h'
    exact ⟨O, s0, fun v H' e' t' g' => w.rts δ d v O σ H' g (s0.grow e' t') g'⟩
theorem s_exprXS {C : Addr} (h : PE X e (tDX F δ C)) (g : P.exs δ C) (hs : swapsWith e none pos.line X.env = pure false := by rfl) : PSs X (.Expr e pos :: rest) (sD F δ P) :=
  wkSs (pss_cons (ps_expr h hs) (pss_never (sts := rest))) fun D σ H h' => by
    obtain ⟨O, τ, s0, tm, w⟩ := h'
    exact ⟨O, s0, fun H' e' t' => w.exs δ C O σ H' g (s0.grow e' t')⟩
theorem s_retX {C : Addr} (h : PE X e (tDX F δ C)) (g : P.ex C) : PSs X (.Return (some e) pos :: rest) (sD F δ P) :=
  wkSs (pss_cons (ps_ret h) (pss_never (sts := rest))) fun D σ H h' => by
    obtain ⟨O, τ, s0, tm, w⟩ := h'
    exact ⟨O, s0, fun H' e' t' => w.ex C H' g (s0.ext.trans e') t'⟩
theorem s_raise {C : Addr} {m : Str} {j : Nat} {p2 : Pos} (cx : CtD X N sc F.E) (q : PySem.W.excIn X.K C [.type "ValueError", .type "Exception", .type "BaseException", .type "object"] "ValueError.__new__" = true) (gC : X.mg x = some (.ref C)) (kC : PySem.W.keepIn X.K (.ref C) = true) (r : Raises X (.ref C)) (g : P.ex C) (hg : sc.names.lookup x = some .globalImplicit := by rfl)
    (hdb : (x == ("__debug__" : Str)) = false := by decide) : PSs X (.Raise (some (.Call (.Name x p) [.Constant (.str m) j p2] [] pos')) none pos :: rest) (sD F δ P) :=
  wkSs (pss_cons (L2N.ps_raise cx.calm cx.tk (L2N.pmk_own PySem.F.excBase_ValueError q gC kC r (cx.gl hg) hdb)) (pss_never (sts := rest))) fun D σ H h' => by
    obtain ⟨O, τ, s0, tm, w⟩ := h'
    exact w.ex C H g s0.ext s0.tabs
theorem s_cont (g : P.ct δ) : PSs X (.Continue pos :: rest) (sD F δ P) := wkSs (pss_cons ps_continue (pss_never (sts := rest))) fun D σ H h' => by
  obtain ⟨O, τ, s0, tm, w⟩ := h'
  exact w.ct δ O σ H g s0 tm
theorem s_app (i : Nat) (cx : Ctx X N sc) (hi : δ[i]? = some (.own ds)) (h : PE X e (tD F δ d)) (hz : ds.length < 100000) (g : PSs X rest (sD F (δ.set i (.own (ds ++ [d]))) P)) (hN : N[i]? = some x := by rfl) (hv : Vis sc x := by first | exact Or.inl rfl | exact Or.inr (Or.inl rfl) | exact Or.inr (Or.inr rfl))
    (hd : (x == ("__debug__" : Str)) = false := by decide) (hcd : (x == ("__classdict__" : Str)) = false := by decide) {px pa pc : Pos} (q : PE X (.Call (.Attribute (.Name x px) "append" pa) [e] [] pc) (tBM X.K "list" rAppend (tVar i) (tCons (tD F δ d) tNil)) := by exact pe_bm PySem.F.plainAttrs_list PySem.F.slot_list_append PySem.F.type_list_append mt_append (pe_var (by first | assumption | rfl) (by first | assumption | rfl)) (pa_cons (by assumption) pa_nil)) (hs : swapsWith (.Call (.Attribute (.Name x px) "append" pa) [e] [] pc) none pos.line X.env = pure false := by rfl) :
    PSs X (.Expr (.Call (.Attribute (.Name x px) "append" pa) [e] [] pc) pos :: rest) (sD F δ P) :=
  wkSs (pss_cons (ps_expr q hs) g) fun D σ H h' => by
    obtain ⟨O, τ, s0, tm, w⟩ := h'
    obtain ⟨q, xs, e1, o1, nl, gq, r⟩ := s0.slot i _ hi
    have hv := get_some e1
    refine ⟨.ref q, hv, .inl ⟨rfl, _, SqL.of gq⟩, O, s0, fun v H1 e' t' g' => ?_⟩
    have gq1 := e' _ _ gq (fun _ z => by cases z)
    refine ⟨q, xs, v, rfl, rfl, gq1, by rw [r.len]; exact Nat.lt_of_lt_of_le hz (by decide), ?_⟩
    obtain ⟨s1, t1⟩ := own_turn (s0.grow e' t') (tm.grow e') hi hv gq1 ((r.grow e').app (.one g'))
    exact ⟨O, τ, s1, t1, w⟩
end
end Lf
set_option Elab.async false
set_option linter.all false
set_option maxRecDepth 100000
set_option maxHeartbeats 4000000
namespace Lf
open PySem PySem.Spec PyProof.Rows L2 LamX
/-! ### what is walked -/
def iD {Kf : PySem.W.Frag} {Tf : List (Addr × Str)} (F : Fx Kf Tf) (δ : List Slot) (ds : List PyData) : TI := fun σ H R => ∃ O, StAt F O H σ δ ∧ ∀ (J : It) (ss : List (PyData × V)) (H' : Hp), ExtN H H' → Tabs F.T H' → Tm O H' ss →
  (∀ (O1 : Addr → Prop) (H1 : Hp) (i : Nat) (d : PyData), Tm O1 H1 ss → (∀ a, O1 a → Lives H1 a) → Tabs F.T H1 → ds[i]? = some d → J.go i H1 ∧ ∀ x H2, J.yld i H1 x H2 → ExtN H1 H2 ∧ Tabs F.T H2 ∧ Dt O1 H2 d x) →
  (∀ (O1 : Addr → Prop) (H1 : Hp), Tm O1 H1 ss → J.stop ds.length H1) → R J H'
/-- one thing is walked -/
theorem iD_one {Kf : PySem.W.Frag} {Tf : List (Addr × Str)} {F : Fx Kf Tf} {ds : List PyData} {O : Addr → Prop} {H : Hp} {R : It → Hp → Prop}
    (k : ∀ (J : It) (ss : List (PyData × V)) (H' : Hp), ExtN H H' → Tabs F.T H' → Tm O H' ss →
  (∀ (O1 : Addr → Prop) (H1 : Hp) (i : Nat) (d : PyData), Tm O1 H1 ss → (∀ a, O1 a → Lives H1 a) → Tabs F.T H1 → ds[i]? = some d → J.go i H1 ∧ ∀ x H2, J.yld i H1 x H2 → ExtN H1 H2 ∧ Tabs F.T H2 ∧ Dt O1 H2 d x) →
  (∀ (O1 : Addr → Prop) (H1 : Hp), Tm O1 H1 ss → J.stop ds.length H1) → R J H') :
    ∀ (J : It) (src : PyData) (v : V) (H' : Hp), ExtN H H' → Tabs F.T H' → Dt O H' src v →
  (∀ (O1 : Addr → Prop) (H1 : Hp) (i : Nat) (d : PyData), Dt O1 H1 src v → (∀ a, O1 a → Lives H1 a) → Tabs F.T H1 → ds[i]? = some d → J.go i H1 ∧ ∀ x H2, J.yld i H1 x H2 → ExtN H1 H2 ∧ Tabs F.T H2 ∧ Dt O1 H2 d x) →
  (∀ (O1 : Addr → Prop) (H1 : Hp), Dt O1 H1 src v → J.stop ds.length H1) → R J H' :=
  fun J src v H' e t g a b => k J [(src, v)] H' e t (fun w hw => by rw [List.mem_singleton.mp hw]; exact g) (fun O1 H1 i d tm => a O1 H1 i d (tm (src, v) (List.mem_singleton.mpr rfl))) (fun O1 H1 tm => b O1 H1 (tm (src, v) (List.mem_singleton.mpr rfl)))
/-- a target takes d -/
def Tgt {Kf : PySem.W.Frag} {Tf : List (Addr × Str)} (F : Fx Kf Tf) (g : TG) (d : PyData) (δ δ' : List Slot) : Prop := ∀ (O : Addr → Prop) (H : Hp) (σ : L2.St) (v : V) (Q : L2.St → Hp → Prop), StAt F O H σ δ → Dt O H d v → (∀ σ', StAt F O H σ' δ' → Q σ' H) → g v σ H Q
def TgtS {Kf : PySem.W.Frag} {Tf : List (Addr × Str)} (F : Fx Kf Tf) (g : TGs) (ds : List PyData) (δ δ' : List Slot) : Prop := ∀ (O : Addr → Prop) (H : Hp) (σ : L2.St) (vs : List V) (Q : L2.St → Hp → Prop), StAt F O H σ δ → DtAll O H ds vs → (∀ σ', StAt F O H σ' δ' → Q σ' H) → g vs σ H Q
section
variable {Kf : PySem.W.Frag} {Tf : List (Addr × Str)} {F : Fx Kf Tf} {δ δ1 δ2 : List Slot} {X : Cx} {N : List Str} {sc : Scope} {pos p pos' : Pos} {a b c e tg : Expr} {es : List Expr} {d z : PyData} {ds : List PyData} {x : Str} {st : Stmt} {rest body els : List Stmt} {P : Post}
theorem wkI {iter : Expr} {t t' : TI} (h : PI X tg iter t) (k : ∀ σ H R, t' σ H R → t σ H R) : PI X tg iter t' := ⟨fun pins s σ H R I q => h.run pins s σ H R I (k σ H R q)⟩
theorem tg_name {i : Nat} : Tgt F (gName i) d δ (δ.set i (.dat d)) := fun O H σ v Q st h k => k _ (st.setD i h)
theorem tg_tup {K : PySem.W.Frag} {n : Nat} {t : TGs} (hn : ds.length = n) (h : TgtS F t ds δ δ1) : Tgt F (gTup K n t) (.tuple ds) δ δ1 := fun O H σ v Q st hd k => by
  obtain ⟨a, xs, e, _, g, r⟩ := hd
  exact ⟨a, xs, e, SqT.of g, by rw [r.len, hn], h O H σ xs Q st r k⟩
theorem tg_nil : TgtS F gNil [] δ δ := fun O H σ vs Q st h k => ⟨h, k σ st⟩
theorem tg_cons {g : TG} {t : TGs} (h : Tgt F g d δ δ1) (q : TgtS F t ds δ1 δ2) : TgtS F (gCons g t) (d :: ds) δ δ2 := fun O H σ vs Q st hd k => by
  obtain ⟨v, r, e, h1, h2⟩ := hd
  exact ⟨v, r, e, h O H σ v _ st h1 fun σ' s' => q O H σ' r Q s' h2 k⟩
theorem g_name (i : Nat) (cx : CtD X N sc F.E) (hi : N[i]? = some x := by rfl) (hx : Loc sc x := by first | exact Or.inl rfl | exact Or.inr rfl) : PG X (.Name x pos) (gName i) := pg_name cx.nd' (cx.at_ hi) (cx.loc hx) (.inl (cx.fn x))
theorem i_list {l : Expr} (h : PE X l (tD F δ (.list ds))) : PI X tg l (iD F δ ds) := wkI (pi_list h) fun σ H R q => by
  obtain ⟨O, st, k⟩ := q
  replace k := iD_one k
  refine ⟨O, st, fun v H1 e1 t1 g1 => ?_⟩
  obtain ⟨a, xs, ev, na, ga, ra⟩ := id g1
  refine ⟨a, ev, ⟨xs, SqL.of ga⟩, k (Itl X.K a) (.list ds) v H1 e1 t1 g1 (fun O1 H2 i d g2 dom t2 hd => ?_) fun O1 H2 g2 => ?_⟩
  · obtain ⟨b, ys, eb, nb, gb, rb⟩ := g2
    rw [ev] at eb
    cases eb
    obtain ⟨y, hy, dy⟩ := rb.get hd
    refine ⟨⟨ys, y, SqL.of gb, hy⟩, fun x H3 hyld => ?_⟩
    obtain ⟨rfl, hx⟩ := hyld
    have := hx ys (SqL.of gb)
    rw [hy] at this
    cases this
    exact ⟨ExtN.refl _, t2, dy⟩
  · obtain ⟨b, ys, eb, nb, gb, rb⟩ := g2
    rw [ev] at eb
    cases eb
    exact ⟨ys, SqL.of gb, by rw [rb.len]; exact Nat.le_refl _⟩
theorem i_tup {l : Expr} (h : PE X l (tD F δ (.tuple ds))) : PI X tg l (iD F δ ds) := wkI (pi_tup h) fun σ H R q => by
  obtain ⟨O, st, k⟩ := q
  replace k := iD_one k
  refine ⟨O, st, fun v H1 e1 t1 g1 => ?_⟩
  obtain ⟨a, xs, ev, na, ga, ra⟩ := id g1
  refine ⟨a, ev, ⟨xs, SqT.of ga⟩, k (Itt X.K a) (.tuple ds) v H1 e1 t1 g1 (fun O1 H2 i d g2 dom t2 hd => ?_) fun O1 H2 g2 => ?_⟩
  · obtain ⟨b, ys, eb, nb, gb, rb⟩ := g2
    rw [ev] at eb
    cases eb
    obtain ⟨y, hy, dy⟩ := rb.get hd
    refine ⟨⟨ys, y, SqT.of gb, hy⟩, fun x H3 hyld => ?_⟩
    obtain ⟨rfl, hx⟩ := hyld
    have := hx ys (SqT.of gb)
    rw [hy] at this
    cases this
    exact ⟨ExtN.refl _, t2, dy⟩
  · obtain ⟨b, ys, eb, nb, gb, rb⟩ := g2
    rw [ev] at eb
    cases eb
    exact ⟨ys, SqT.of gb, by rw [rb.len]; exact Nat.le_refl _⟩
/-- 0, 1, .. -/
def upTo (n : Nat) : List PyData := (List.range n).map fun (i : Nat) => PyData.int (i : Int)
def between (lo : Int) (n : Nat) : List PyData := (List.range n).map fun (i : Nat) => PyData.int (lo + (i : Int))
theorem i_range1 {n : Int} (cx : Ctx X N sc) (hm : X.mg "range" = none) (h : PA X [a] (aD F δ [.int n])) (h1 : -(2 ^ 62) ≤ n) (h2 : n < 2 ^ 62) (hg : sc.names.lookup ("range" : Str) = some .globalImplicit := by rfl) (hs : starEach [a] X.env = [(false, eval a X.env)] := by rfl) :
    PI X tg (.Call (.Name "range" p) [a] [] pos) (iD F δ (upTo n.toNat)) := wkI (pi_range1 (cx.gl hg) hm h hs) fun σ H R q => by
  obtain ⟨O, st, k⟩ := q
  replace k := iD_one k
  refine ⟨O, st, fun vs H1 e1 t1 g1 => ?_⟩
  obtain ⟨v, r, rfl, ev, rfl⟩ := g1
  rw [show v = V.int n from ev]
  refine ⟨n, rfl, h1, h2, k (Itr 0 n.toNat) .none .non H1 e1 t1 rfl (fun O1 H2 i d g2 dom t2 hd => ?_) fun O1 H2 g2 => ?_⟩
  · have hi : i < n.toNat := by
      have := (List.getElem?_eq_some_iff.mp hd).1
      simpa [upTo] using this
    refine ⟨hi, fun x H3 hy => ?_⟩
    obtain ⟨rfl, rfl⟩ := hy
    refine ⟨ExtN.refl _, t2, ?_⟩
    have : d = .int (i : Int) := by
      unfold upTo at hd
      rw [List.getElem?_map, List.getElem?_range hi] at hd
      exact (Option.some.inj hd).symm
    rw [this]
    show V.int (0 + (i : Int)) = V.int (i : Int)
    rw [Int.zero_add]
  · show n.toNat ≤ (upTo n.toNat).length
    simp [upTo]
theorem i_range2 {lo n : Int} (cx : Ctx X N sc) (hm : X.mg "range" = none) (h : PA X [a, b] (aD F δ [.int lo, .int n])) (h0 : -(2 ^ 62) ≤ lo ∧ lo < 2 ^ 62) (h1 : -(2 ^ 62) ≤ n) (h2 : n < 2 ^ 62) (hg : sc.names.lookup ("range" : Str) = some .globalImplicit := by rfl)
    (hs : starEach [a, b] X.env = [(false, eval a X.env), (false, eval b X.env)] := by rfl) (hs2 : starEach [b] X.env = [(false, eval b X.env)] := by rfl) :
    PI X tg (.Call (.Name "range" p) [a, b] [] pos) (iD F δ (between lo (n - lo).toNat)) := wkI (pi_range2 (cx.gl hg) hm h hs hs2) fun σ H R q => by
  obtain ⟨O, st, k⟩ := q
  replace k := iD_one k
  refine ⟨O, st, fun vs H1 e1 t1 g1 => ?_⟩
  obtain ⟨v, r, rfl, ev, u, r', rfl, eu, rfl⟩ := g1
  rw [show v = V.int lo from ev, show u = V.int n from eu]
  refine ⟨lo, n, rfl, ⟨h0.1, h0.2, h1, h2⟩, k (Itr lo (n - lo).toNat) .none .non H1 e1 t1 rfl (fun O1 H2 i d g2 dom t2 hd => ?_) fun O1 H2 g2 => ?_⟩
  · have hi : i < (n - lo).toNat := by
      have := (List.getElem?_eq_some_iff.mp hd).1
      simpa [between] using this
    refine ⟨hi, fun x H3 hy => ?_⟩
    obtain ⟨rfl, rfl⟩ := hy
    refine ⟨ExtN.refl _, t2, ?_⟩
    have : d = .int (lo + (i : Int)) := by
      unfold between at hd
      rw [List.getElem?_map, List.getElem?_range hi] at hd
      exact (Option.some.inj hd).symm
    rw [this]
    rfl
  · show (n - lo).toNat ≤ (between lo (n - lo).toNat).length
    simp [between]
theorem i_str {l : List Nat} (h : PE X e (tD F δ (tx l))) : PI X tg e (iD F δ (l.map fun c => tx [c])) := wkI (pi_str h) fun σ H R q => by
  obtain ⟨O, st, k⟩ := q
  replace k := iD_one k
  refine ⟨O, st, fun v H1 e1 t1 g1 => ⟨⟨l.toArray⟩, g1, k (Its ⟨l.toArray⟩) .none .non H1 e1 t1 rfl (fun O1 H2 i d g2 dom t2 hd => ?_) fun O1 H2 g2 => ?_⟩⟩
  · rw [List.getElem?_map] at hd
    cases q : l[i]? with
    | none => rw [q] at hd; cases hd
    | some c =>
      rw [q] at hd
      cases hd
      have hi := (List.getElem?_eq_some_iff.mp q).1
      refine ⟨by show i < (⟨l.toArray⟩ : Str).cps.size; simpa using hi, fun x H3 hy => ?_⟩
      obtain ⟨rfl, c', hc, rfl⟩ := hy
      have : l[i]? = some c' := by simpa using hc
      rw [q] at this
      cases this
      exact ⟨ExtN.refl _, t2, rfl⟩
  · show (⟨l.toArray⟩ : Str).cps.size ≤ (l.map fun c => tx [c]).length
    simp
end
end Lf
set_option Elab.async false
set_option linter.all false
set_option maxRecDepth 100000
set_option maxHeartbeats 4000000
namespace Lf
open PySem PySem.Spec PyProof.Rows L2 LamX
section
variable {Kf : PySem.W.Frag} {Tf : List (Addr × Str)} {F : Fx Kf Tf} {δ δ1 δ2 : List Slot} {X : Cx} {N : List Str} {sc : Scope} {pos p pos' : Pos} {a b c e tg iter elt : Expr} {es ifs : List Expr} {d z : PyData} {ds : List PyData} {x : Str} {st : Stmt} {rest body els : List Stmt} {P : Post} {α : Type}
/-- whatever is known of the block -/
theorem anyS : PSs X body (fun D σ H => ∃ δ P, PSs X body (sD F δ P) ∧ sD F δ P D σ H) := ⟨fun pins s σ H D I q => let ⟨_, _, h, g⟩ := q; h.run pins s σ H D I g⟩
/-- for: I tells of the items taken -/
theorem s_for {g : TG} (xs : List α) (enc : α → PyData) (I : List α → List Slot → Prop) (cx : CtD X N sc F.E) (hi : PI X tg iter (iD F δ (xs.map enc))) (hg : PG X tg g) (h0 : I [] δ)
    (hs : ∀ pre x post δ', xs = pre ++ x :: post → I pre δ' → ∃ δ'', Tgt F g (enc x) δ' δ'' ∧ PSs X body (sD F δ'' { nx := I (pre ++ [x]), ct := I (pre ++ [x]), bk := fun δ => PSs X rest (sD F δ P), rt := P.rt, ex := P.ex, rts := P.rts, exs := P.exs }))
    (hd : ∀ δ', I xs δ' → PSs X rest (sD F δ' P)) (hf : ∀ x, foldedSetIterable iter X.env x = pure x := by intro _; rfl) : PSs X (.For tg iter body [] pos :: rest) (sD F δ P) :=
  s_seq (M := fun δ' => PSs X rest (sD F δ' P)) (wkS (ps_for cx.po cx.calm hi hg (anyS (F := F)) hf) fun D σ H h' => by
    obtain ⟨O, τ, s0, tm, w⟩ := h'
    refine ⟨O, s0, fun J ss H1 e1 t1 g1 item done => ?_⟩
    refine ⟨fun i m σ' H' => m = xs.length - i ∧ i ≤ xs.length ∧ ∃ δ' O', I (xs.take i) δ' ∧ StAt F O' H' σ' δ' ∧ Tm O' H' (ss ++ τ), ⟨xs.length, by omega, Nat.zero_le _, δ, O, h0, s0.grow e1 t1, fun q hq => ?_⟩, fun i m σ' H' hW => ?_⟩
    · rcases List.mem_append.mp hq with hq | hq
      · exact g1 q hq
      · exact (tm.grow e1) q hq
    · obtain ⟨rfl, hle, δ', O', hI, s1, tm1⟩ := hW
      have gs : Tm O' H' ss := fun q hq => tm1 q (List.mem_append_left _ hq)
      have tmr : Tm O' H' τ := fun q hq => tm1 q (List.mem_append_right _ hq)
      by_cases hlt : i < xs.length
      · have hx : xs[i]? = some xs[i] := List.getElem?_eq_getElem hlt
        have hdd : (xs.map enc)[i]? = some (enc xs[i]) := by rw [List.getElem?_map, hx]; rfl
        obtain ⟨go, yl⟩ := item O' H' i (enc xs[i]) gs s1.dom s1.tabs hdd
        have sp : xs = xs.take i ++ xs[i] :: xs.drop (i + 1) := by
          rw [List.getElem_cons_drop]
          exact (List.take_append_drop i xs).symm
        have tk1 : xs.take i ++ [xs[i]] = xs.take (i + 1) := (List.take_succ_eq_append_getElem hlt).symm
        obtain ⟨δ'', ht, hb⟩ := hs _ _ _ δ' sp hI
        refine .inr ⟨go, fun σ2 H2 => ∃ δ' O', I (xs.take (i + 1)) δ' ∧ StAt F O' H2 σ2 δ' ∧ Tm O' H2 (ss ++ τ), fun σ2 H2 hN => ⟨xs.length - (i + 1), by omega, rfl, hlt, hN⟩, fun y H2 hy => ?_⟩
        obtain ⟨e2, t2, gy⟩ := yl y H2 hy
        refine ht O' H2 σ' y _ (s1.grow e2 t2) gy fun σ3 s3 => ⟨δ'', _, hb, O', ss ++ τ, s3, tm1.grow e2, ⟨fun δ3 O3 σ4 H4 m s4 t4 => ⟨δ3, O3, by rw [← tk1]; exact m, s4, t4⟩, w.rt, fun δ3 O3 σ4 H4 m s4 t4 => w.nx δ3 O3 σ4 H4 m s4 fun q hq => t4 q (List.mem_append_right _ hq), fun δ3 O3 σ4 H4 m s4 t4 => ⟨δ3, O3, by rw [← tk1]; exact m, s4, t4⟩, w.ex, w.rts, w.exs⟩⟩
      · have e : i = xs.length := by omega
        subst e
        rw [List.take_length] at hI
        have dn := done O' H' gs
        rw [List.length_map] at dn
        exact .inl ⟨dn, w.nx δ' O' σ' H' (hd δ' hI) s1 tmr⟩) fun δ' h => h
/-- while, by a number that falls -/
theorem s_while {t : Expr} (I : Nat → List Slot → Prop) (m0 : Nat) (cx : CtD X N sc F.E) (h0 : I m0 δ)
    (hs : ∀ m δ', I m δ' → ∃ k, PT X t (cD F δ' k) ∧ (k = true → PSs X body (sD F δ' { nx := fun δ2 => ∃ m', m' < m ∧ I m' δ2, ct := fun δ2 => ∃ m', m' < m ∧ I m' δ2, bk := fun δ => PSs X rest (sD F δ P), rt := P.rt, ex := P.ex, rts := P.rts, exs := P.exs })) ∧ (k = false → PSs X rest (sD F δ' P))) :
    PSs X (.While t body [] pos :: rest) (sD F δ P) :=
  s_seq (M := fun δ' => PSs X rest (sD F δ' P)) (wkS (ps_while cx.po (tc := fun σ H Q => ∃ δ k, PT X t (cD F δ k) ∧ cD F δ k σ H Q) ⟨fun pins s σ H Q I q => let ⟨_, _, h, g⟩ := q; h.run pins s σ H Q I g⟩ (anyS (F := F))) fun D σ H h' => by
    obtain ⟨O, τ, s0, tm, w⟩ := h'
    refine ⟨fun m σ' H' => ∃ δ' O', I m δ' ∧ StAt F O' H' σ' δ' ∧ Tm O' H' τ, ⟨m0, δ, O, h0, s0, tm⟩, fun m σ' H' hW => ?_⟩
    obtain ⟨δ', O', hI, s1, t1⟩ := hW
    obtain ⟨k, ht, h1, h2⟩ := hs m δ' hI
    refine ⟨δ', k, ht, O', s1, fun H2 e2 tt2 => ?_⟩
    cases k with
    | true =>
      refine iteT ⟨fun σ2 H2 => ∃ m', m' < m ∧ ∃ δ' O', I m' δ' ∧ StAt F O' H2 σ2 δ' ∧ Tm O' H2 τ, fun σ2 H2 hN => hN, δ', _, h1 rfl, O', τ, s1.grow e2 tt2, t1.grow e2, ?_⟩
      exact ⟨fun δ3 O3 σ4 H4 m s4 t4 => let ⟨m', lt, q⟩ := m; ⟨m', lt, δ3, O3, q, s4, t4⟩, w.rt, fun δ3 O3 σ4 H4 m s4 t4 => w.nx δ3 O3 σ4 H4 m s4 t4, fun δ3 O3 σ4 H4 m s4 t4 => let ⟨m', lt, q⟩ := m; ⟨m', lt, δ3, O3, q, s4, t4⟩, w.ex, w.rts, w.exs⟩
    | false => exact iteF (w.nx δ' O' σ' H2 (h2 rfl) (s1.grow e2 tt2) (t1.grow e2))) fun δ' h => h
/-! ### comprehensions -/
variable {O : Addr → Prop} {H : Hp} {σ : L2.St}
theorem StAt.unset (st : StAt F O H σ δ) (i : Nat) : StAt F O H (σ.set i none) (δ.set i .non) := by
  refine ⟨by rw [List.length_set, List.length_set, st.len], st.o0, st.dom, st.tabs, st.ext, fun j u q => ?_, fun j l s' u' q' hjl h1 h2 m1 m2 e1 e2 => ?_, ?_⟩
  · by_cases e : i = j
    · subst e
      have hi : i < δ.length := by
        have := (List.getElem?_eq_some_iff.mp q).1
        simpa using this
      rw [List.getElem?_set_self hi] at q
      cases q
      trivial
    · rw [List.getElem?_set_ne e] at q ⊢
      exact st.slot j u q
  · have no : ∀ {j : Nat} {u : Slot}, (δ.set i .non)[j]? = some u → u.mine = true → i ≠ j := fun {j u} q m e => by
      subst e
      have hi : i < δ.length := by
        have := (List.getElem?_eq_some_iff.mp q).1
        simpa using this
      rw [List.getElem?_set_self hi] at q
      cases q
      cases m
    have n1 := no h1 m1
    have n2 := no h2 m2
    rw [List.getElem?_set_ne n1] at h1 e1
    rw [List.getElem?_set_ne n2] at h2 e2
    exact st.apart j l s' u' q' hjl h1 h2 m1 m2 e1 e2
  · exact st.afar.set st.len i _ _ (fun R e => by cases e) fun j R _ _ p _ z => z
def wipeD (δ : List Slot) : List Nat → List Slot
  | [] => δ
  | v :: vs => (wipeD δ vs).set v .non
theorem StAt.wiped (st : StAt F O H σ δ) : ∀ vs : List Nat, StAt F O H (wipe σ vs) (wipeD δ vs)
  | [] => st
  | v :: vs => (StAt.wiped st vs).unset v
theorem StAt.snoc (st : StAt F O H σ δ) : StAt F O H (σ ++ [none]) (δ ++ [.non]) := by
  refine ⟨by rw [List.length_append, List.length_append, st.len]; rfl, st.o0, st.dom, st.tabs, st.ext, fun j u q => ?_, fun j l s' u' q' hjl h1 h2 m1 m2 e1 e2 => ?_, fun i j R u hij h1 h2 p hp => ?_⟩
  rotate_right
  · have no : ∀ {j : Nat} {u : Slot}, (δ ++ [Slot.non])[j]? = some u → u ≠ .non → j < δ.length := fun {j u} q n => by
      by_cases hj : j < δ.length
      · exact hj
      · rw [List.getElem?_append_right (by omega)] at q
        cases hq : j - δ.length with
        | zero => rw [hq] at q; cases q; exact absurd rfl n
        | succ n => rw [hq] at q; simp at q
    have n1 := no h1 (fun z => by cases z)
    rw [List.getElem?_append_left n1] at h1
    intro hu
    have n2 := no h2 (fun z => by rw [z] at hu; exact hu)
    rw [List.getElem?_append_left n2] at h2
    rw [List.getElem?_append_left (by rw [st.len]; exact n2)] at hu
    exact st.afar i j R u hij h1 h2 p hp hu
  · by_cases hj : j < δ.length
    · rw [List.getElem?_append_left hj] at q
      rw [List.getElem?_append_left (by rw [st.len]; exact hj)]
      exact st.slot j u q
    · rw [List.getElem?_append_right (by omega)] at q
      cases hq : j - δ.length with
      | zero => rw [hq] at q; cases q; trivial
      | succ n => rw [hq] at q; simp at q
  · have no : ∀ {j : Nat} {v : V}, (σ ++ [none])[j]? = some (some v) → j < δ.length := fun {j v} q => by
      by_cases hj : j < σ.length
      · rw [← st.len]; exact hj
      · rw [List.getElem?_append_right (by omega)] at q
        cases hq : j - σ.length with
        | zero => rw [hq] at q; cases q
        | succ n => rw [hq] at q; simp at q
    have n1 := no e1
    have n2 := no e2
    rw [List.getElem?_append_left n1] at h1
    rw [List.getElem?_append_left n2] at h2
    rw [List.getElem?_append_left (by rw [st.len]; exact n1)] at e1
    rw [List.getElem?_append_left (by rw [st.len]; exact n2)] at e2
    exact st.apart j l s' u' q' hjl h1 h2 m1 m2 e1 e2
theorem StAt.init {o : Option V} {s : Slot} (st : StAt F O H (σ ++ [o]) (δ ++ [s])) : StAt F O H σ δ := by
  have hl : σ.length = δ.length := by
    have := st.len
    rw [List.length_append, List.length_append] at this
    simpa using this
  refine ⟨hl, st.o0, st.dom, st.tabs, st.ext, fun j u q => ?_, fun j l s' u' q' hjl h1 h2 m1 m2 e1 e2 => ?_, fun i j R u hij h1 h2 p hp hu => ?_⟩
  rotate_right
  · have j1 := (List.getElem?_eq_some_iff.mp h1).1
    have j2 := (List.getElem?_eq_some_iff.mp h2).1
    exact st.afar i j R u hij (by rw [List.getElem?_append_left j1]; exact h1) (by rw [List.getElem?_append_left j2]; exact h2) p hp (by rw [List.getElem?_append_left (by omega)]; exact hu)
  · have hj := (List.getElem?_eq_some_iff.mp q).1
    have := st.slot j u (by rw [List.getElem?_append_left hj]; exact q)
    rw [List.getElem?_append_left (by omega)] at this
    exact this
  · have j1 := (List.getElem?_eq_some_iff.mp h1).1
    have j2 := (List.getElem?_eq_some_iff.mp h2).1
    exact st.apart j l s' u' q' hjl (by rw [List.getElem?_append_left j1]; exact h1) (by rw [List.getElem?_append_left j2]; exact h2) m1 m2 (by rw [List.getElem?_append_left (by omega)]; exact e1) (by rw [List.getElem?_append_left (by omega)]; exact e2)
/-- the tests of a clause -/
theorem ts_nil : PTs X [] (cD F δ true) := ⟨fun pins s σ H Q I q => pts_nil.run pins s σ H Q I (let ⟨O, st, k⟩ := q; k H (ExtN.refl H) st.tabs)⟩
theorem ts_one {k : Bool} (h : PT X c (cD F δ k)) : PTs X [c] (cD F δ k) := pts_one h
theorem wipe_get (σ : L2.St) (i : Nat) : ∀ vs : List Nat, (wipe σ vs)[i]? = if i ∈ vs then σ[i]?.map (fun _ => none) else σ[i]?
  | [] => by simp [wipe]
  | v :: vs => by
    unfold wipe
    by_cases e : v = i
    · subst e
      rw [if_pos List.mem_cons_self]
      by_cases h : v < (wipe σ vs).length
      · rw [List.getElem?_set_self h]
        rw [wipe_length] at h
        rw [List.getElem?_eq_getElem h]
        rfl
      · rw [List.getElem?_eq_none (by rw [List.length_set]; omega)]
        rw [wipe_length] at h
        rw [List.getElem?_eq_none (by omega)]
        rfl
    · rw [List.getElem?_set_ne e, wipe_get σ i vs]
      have : (i ∈ v :: vs) ↔ i ∈ vs := ⟨fun h => (List.mem_cons.mp h).resolve_left fun z => e z.symm, fun h => List.mem_cons_of_mem _ h⟩
      simp [this]
theorem wipe_set {j : Nat} {vs : List Nat} (h : j ∈ vs) (o : Option V) : wipe ((wipe σ vs).set j o) vs = wipe σ vs := by
  refine List.ext_getElem? fun i => ?_
  rw [wipe_get, wipe_get σ i vs]
  by_cases hi : i ∈ vs
  · rw [if_pos hi, if_pos hi]
    by_cases e : j = i
    · subst e
      by_cases hl : j < (wipe σ vs).length
      · rw [List.getElem?_set_self hl]
        rw [wipe_length] at hl
        rw [List.getElem?_eq_getElem hl]
        rfl
      · rw [List.getElem?_eq_none (by rw [List.length_set]; omega)]
        rw [wipe_length] at hl
        rw [List.getElem?_eq_none (by omega)]
    · rw [List.getElem?_set_ne e, wipe_get, if_pos hi]
      cases σ[i]? <;> rfl
  · rw [if_neg hi, if_neg hi, List.getElem?_set_ne (fun z => hi (by rw [← z]; exact h)), wipe_get, if_neg hi]
def Wg (g : TG) (vs : List Nat) : Prop := ∀ (σ : L2.St) (v : V) (H : Hp) (Q : L2.St → Hp → Prop), wipe σ vs = σ → g v σ H Q → g v σ H fun σ2 H2 => wipe σ2 vs = σ ∧ Q σ2 H2
def WgS (g : TGs) (vs : List Nat) : Prop := ∀ (σ : L2.St) (ws : List V) (H : Hp) (σ0 : L2.St) (Q : L2.St → Hp → Prop), wipe σ vs = σ0 → g ws σ H Q → g ws σ H fun σ2 H2 => wipe σ2 vs = σ0 ∧ Q σ2 H2
theorem wipe_wipe (vs : List Nat) : wipe (wipe σ vs) vs = wipe σ vs := by
  refine List.ext_getElem? fun i => ?_
  rw [wipe_get, wipe_get]
  by_cases hi : i ∈ vs
  · rw [if_pos hi, if_pos hi]
    cases σ[i]? <;> rfl
  · rw [if_neg hi, if_neg hi]
theorem wipe_set2 {j : Nat} {vs : List Nat} {σ0 : L2.St} (h : j ∈ vs) (o : Option V) (e : wipe σ vs = σ0) : wipe (σ.set j o) vs = σ0 := by
  rw [← e]
  refine List.ext_getElem? fun i => ?_
  rw [wipe_get, wipe_get σ i vs]
  by_cases hi : i ∈ vs
  · rw [if_pos hi, if_pos hi]
    by_cases e : j = i
    · subst e
      by_cases hl : j < σ.length
      · rw [List.getElem?_set_self hl, List.getElem?_eq_getElem hl]
        rfl
      · rw [List.getElem?_eq_none (by rw [List.length_set]; omega), List.getElem?_eq_none (by omega)]
    · rw [List.getElem?_set_ne e]
  · rw [if_neg hi, if_neg hi, List.getElem?_set_ne (fun z => hi (by rw [← z]; exact h))]
theorem wg_name {j : Nat} {vs : List Nat} (h : j ∈ vs) : Wg (gName j) vs := fun σ v H Q e q => ⟨wipe_set2 h _ e, q⟩
theorem wgs_nil {vs : List Nat} : WgS gNil vs := fun σ ws H σ0 Q e q => ⟨q.1, e, q.2⟩
theorem wgs_cons {j : Nat} {t : TGs} {vs : List Nat} (h : j ∈ vs) (g : WgS t vs) : WgS (gCons (gName j) t) vs := fun σ ws H σ0 Q e q => by
  obtain ⟨v, r, e1, q⟩ := q
  exact ⟨v, r, e1, g _ r H σ0 Q (wipe_set2 h _ e) q⟩
theorem wg_tup {K : PySem.W.Frag} {n : Nat} {t : TGs} {vs : List Nat} (h : WgS t vs) : Wg (gTup K n t) vs := fun σ v H Q e q => by
  obtain ⟨a, xs, e1, e2, e3, q⟩ := q
  exact ⟨a, xs, e1, e2, e3, h σ xs H σ Q e q⟩
/-- the new list, its own as yet -/
theorem lc_run {wi : TI} {g : TG} {tt : TT} {te : TE} (xs : List α) (enc f : α → PyData) (q : α → Bool) (vs : List Nat) (tgt : α → List Slot) (hz : xs.length ≤ 100000) (hw : ∀ x ∈ xs, Tgt F g (enc x) (wipeD δ vs) (tgt x)) (hww : Wg g vs)
    (hwi : wi = iD F δ (xs.map enc)) (ht : ∀ x ∈ xs, ∀ σ H Q, cD F (tgt x) (q x) σ H Q → tt σ H Q) (he : ∀ x ∈ xs, q x = true → ∀ σ H Q, tD F (tgt x) (f x) σ H Q → te σ H Q) {Q : VK} (h : tDL F δ ((xs.filter q).map f) σ H Q) : tLc wi g tt te vs σ H Q := by
  subst hwi
  obtain ⟨O, s0, k⟩ := h
  refine ⟨O, s0, fun J ss H1 e1 t1 g1 item done L hL => ?_⟩
  have s1 := s0.grow e1 t1
  have lv : ∀ a, Lives H1 a → a ≠ L := fun a l => l.ne hL
  have tm1 : Tm O H1 ss := g1
  have hend : (δ ++ [Slot.non]).set δ.length (.own []) = δ ++ [.own []] := by simp
  have hend2 : (σ ++ [none]).set δ.length (some (V.ref L)) = σ ++ [some (.ref L)] := by rw [← s0.len]; simp
  obtain ⟨o1, o2⟩ := own_out (ds := []) (xs := []) s1.snoc tm1 δ.length (ext_new (o := .lst []) hL) (tabs_new t1 hL) lv upd_same rfl
  rw [hend, hend2] at o1
  refine ⟨fun i m H' => m = xs.length - i ∧ i ≤ xs.length ∧ ExtN H1 H' ∧ StAt F (Shut O L) H' (σ ++ [some (.ref L)]) (δ ++ [.own (((xs.take i).filter q).map f)]) ∧ Tm (Shut O L) H' ss, ⟨xs.length, by omega, Nat.zero_le _, ext_new hL, o1, o2⟩, fun i m H' hW => ?_⟩
  obtain ⟨rfl, hle, ex, s2, tm2⟩ := hW
  have gs : Tm (Shut O L) H' ss := tm2
  have hlast : (δ ++ [Slot.own (((xs.take i).filter q).map f)])[δ.length]? = some (.own (((xs.take i).filter q).map f)) := by simp
  have hlv : (σ ++ [some (V.ref L)])[δ.length]? = some (some (.ref L)) := by rw [← s0.len]; simp
  by_cases hlt : i < xs.length
  · have hx : xs[i]? = some xs[i] := List.getElem?_eq_getElem hlt
    have hm : xs[i] ∈ xs := List.getElem_mem hlt
    obtain ⟨go, yl⟩ := item (Shut O L) H' i (enc xs[i]) gs s2.dom s2.tabs (by rw [List.getElem?_map, hx]; rfl)
    have tk1 : xs.take (i + 1) = xs.take i ++ [xs[i]] := List.take_succ_eq_append_getElem hlt
    refine .inr ⟨go, fun H2 => ExtN H1 H2 ∧ StAt F (Shut O L) H2 (σ ++ [some (.ref L)]) (δ ++ [.own (((xs.take (i + 1)).filter q).map f)]) ∧ Tm (Shut O L) H2 ss, fun H2 hN => ⟨xs.length - (i + 1), by omega, rfl, hlt, hN⟩, fun y H2 hy => ?_⟩
    obtain ⟨e2, t2, gy⟩ := yl y H2 hy
    have s3 := s2.grow e2 t2
    refine hww _ _ _ _ (wipe_wipe vs) (hw _ hm (Shut O L) H2 (wipe σ vs) y _ (s3.init.wiped vs) gy fun σ3 s4 => ?_)
    refine ht _ hm σ3 H2 _ ⟨Shut O L, s4, fun H3 e3 t3 => ?_⟩
    have s5 := s3.grow e3 t3
    have tm3 := (tm2.grow e2).grow e3
    cases hq : q xs[i] with
    | false =>
      refine iteF ⟨(ex.trans e2).trans e3, ?_, tm3⟩
      rw [tk1, List.filter_append, List.filter_cons, if_neg (by rw [hq]; decide), List.filter_nil, List.append_nil]
      exact s5
    | true =>
      refine iteT (he _ hm hq σ3 H3 _ ⟨Shut O L, s4.grow e3 t3, fun yv H4 e4 t4 g4 => ?_⟩)
      have s6 := s5.grow e4 t4
      obtain ⟨L', acc, eL, oL, nL, gL, rL⟩ := s6.slot δ.length _ hlast
      rw [hlv] at eL
      cases eL
      refine ⟨acc, gL, ?_, fun b o gb tb => ?_, ?_⟩
      · rw [rL.len, List.length_map]
        have h1 := List.length_filter_le q (xs.take i)
        have h2 : (xs.take i).length ≤ xs.length := by rw [List.length_take]; omega
        exact Nat.lt_of_le_of_lt (Nat.le_trans h1 (Nat.le_trans h2 hz)) (by decide)
      · rw [upd_ne (lv b ⟨o, gb, tb⟩)]
        exact ((ex.trans e2).trans (e3.trans e4)) b o gb tb
      · obtain ⟨u1, u2⟩ := own_turn s6 (tm3.grow e4) hlast hlv gL (rL.app (.one g4))
        refine ⟨?_, u2⟩
        rw [tk1, List.filter_append, List.filter_cons, if_pos hq, List.filter_nil, List.map_append]
        have e9 : (δ ++ [Slot.own (((xs.take i).filter q).map f)]).set δ.length (.own (((xs.take i).filter q).map f ++ [f xs[i]])) = δ ++ [.own (((xs.take i).filter q).map f ++ [f xs[i]])] := by simp
        rw [e9] at u1
        exact u1
  · have e : i = xs.length := by omega
    subst e
    have dn := done (Shut O L) H' gs
    rw [List.length_map] at dn
    obtain ⟨L', acc, eL, oL, nL, gL, rL⟩ := s2.slot δ.length _ hlast
    rw [hlv] at eL
    cases eL
    rw [List.take_length] at rL
    exact .inl ⟨dn, k L acc H' (e1.trans ex) s2.tabs (fun a l => lv a (l.grow e1)) gL rL⟩
theorem dl_d (h : tD F δ (.list ds) σ H Q) : tDL F δ ds σ H Q := by
  obtain ⟨O, st, k⟩ := h
  exact ⟨O, st, fun p xs H' e t n g r => k _ H' e t ⟨p, xs, rfl, fun z => n p (st.dom p z) rfl, g, r.open_ fun a z => .inl z⟩⟩
abbrev Blk (X : Cx) (scope : Scope) (φ : Cx → Prop) : Prop := ∀ (s : Shared) (H : Hp) (C : Addr) (cl : List (Str × Addr)) (fp : List Addr), φ (X.blk s H scope (compEnvC scope cl C X.env) fp)
theorem blk_ok {scope : Scope} {own : List (Str × Nat)} (cx : Ctx X N sc) (h : blkC N sc scope own = true) : BlkOk X.N X.env.scope scope own := by
  rw [cx.n, cx.s]
  exact blkOk_by h
/-- [elt for target in iter if ..] -/
theorem x_lc {scope : Scope} {g : TG} (own : List (Str × Nat)) (xs : List α) (enc f : α → PyData) (q : α → Bool) (tgt : α → List Slot) (cx : Ctx X N sc) (hi : PI X tg iter (iD F δ (xs.map enc))) (hz : xs.length ≤ 100000) (hok : blkC N sc scope own = true) (hg : Blk X scope fun Y => PG Y tg g) (hw : ∀ x ∈ xs, Tgt F g (enc x) (wipeD δ (own.map (·.2))) (tgt x)) (hww : Wg g (own.map (·.2)))
    (ht : ∀ x ∈ xs, Blk X scope fun Y => PTs Y ifs (cD F (tgt x) (q x))) (he : ∀ x ∈ xs, q x = true → Blk X scope fun Y => PE Y elt (tD F (tgt x) (f x))) (hs : ∀ x, foldedSetIterable iter X.env x = pure x := by intro _; rfl) :
    PE X (.ListComp elt [⟨tg, iter, ifs, 0⟩] scope pos) (tDL F δ ((xs.filter q).map f)) :=
  wkE (pe_lc (own := own) (tt := fun σ H Q => ∃ x, x ∈ xs ∧ cD F (tgt x) (q x) σ H Q) (te := fun σ H Q => ∃ x, (x ∈ xs ∧ q x = true) ∧ tD F (tgt x) (f x) σ H Q) cx.calm cx.nd' hi (blk_ok cx hok) hg
    (fun s H C cl fp => ⟨fun pins s' σ H Q I q => let ⟨x, hx, g⟩ := q; (ht x hx s _ C cl fp).run pins s' σ H Q I g⟩) (fun s H C cl fp => exE fun x => ifE fun hx => he x hx.1 hx.2 s H C cl fp) hs)
    fun σ H Q h => lc_run xs enc f q _ tgt hz hw hww rfl (fun x hx σ H Q g => ⟨x, hx, g⟩) (fun x hx hq σ H Q g => ⟨x, ⟨hx, hq⟩, g⟩) h
end
end Lf
set_option Elab.async false
set_option linter.all false
set_option maxRecDepth 100000
set_option maxHeartbeats 4000000
namespace Lf
open PySem PySem.Spec PyProof.Rows L2 LamX
section
variable {Kf : PySem.W.Frag} {Tf : List (Addr × Str)} {F : Fx Kf Tf} {δ δ1 δ2 : List Slot} {X : Cx} {N : List Str} {sc : Scope} {pos p pos' py spos : Pos} {a b c e tg iter elt : Expr} {es ifs : List Expr} {d z : PyData} {ds : List PyData} {x y : Str} {st : Stmt} {rest body els : List Stmt} {P : Post} {α : Type}
theorem x_dl (h : PE X e (tDL F δ ds)) : PE X e (tD F δ (.list ds)) := wkE h fun σ H Q q => dl_d q
/-- y = [elt for ..] -/
theorem s_lc {scope : Scope} {g : TG} (i : Nat) (own : List (Str × Nat)) (xs : List α) (enc f : α → PyData) (q : α → Bool) (tgt : α → List Slot) (cx : CtD X N sc F.E) (hi : PI X tg iter (iD F δ (xs.map enc))) (hz : xs.length ≤ 100000) (hok : blkC N sc scope own = true) (hg : Blk X scope fun Y => PG Y tg g) (hw : ∀ x ∈ xs, Tgt F g (enc x) (wipeD δ (own.map (·.2))) (tgt x)) (hww : Wg g (own.map (·.2)))
    (ht : ∀ x ∈ xs, Blk X scope fun Y => PTs Y ifs (cD F (tgt x) (q x))) (he : ∀ x ∈ xs, q x = true → Blk X scope fun Y => PE Y elt (tD F (tgt x) (f x))) (hr : PSs X rest (sD F (δ.set i (.dat (.list ((xs.filter q).map f)))) P)) (hy : N[i]? = some y := by rfl) (hyl : sc.names.lookup y = some .local := by rfl) (hk : sc.kind = .function := by rfl) (hl : (py.line == pos.line) = true := by rfl)
    (ha : (scope.names.any fun (n, k) => n == y && (k == .local || k == .cell)) = false := by rfl) (hs : ∀ x, foldedSetIterable iter X.env x = pure x := by intro _; rfl) :
    PSs X (.Assign [.Name y py] (.ListComp elt [⟨tg, iter, ifs, 0⟩] scope pos) spos :: rest) (sD F δ P) :=
  wkSs (pss_cons (ps_setLc (own := own) (tt := fun σ H Q => ∃ x, x ∈ xs ∧ cD F (tgt x) (q x) σ H Q) (te := fun σ H Q => ∃ x, (x ∈ xs ∧ q x = true) ∧ tD F (tgt x) (f x) σ H Q) cx.calm cx.nd' (cx.at_ hy) (by rw [cx.s]; exact hyl) (sw_true (by rw [cx.s]; exact hk) (by rw [cx.s]; exact hyl) hl ha) hi (blk_ok cx.toCtx hok) hg
    (fun s H C cl fp => ⟨fun pins s' σ H Q I q => let ⟨x, hx, g⟩ := q; (ht x hx s _ C cl fp).run pins s' σ H Q I g⟩) (fun s H C cl fp => exE fun x => ifE fun hx => he x hx.1 hx.2 s H C cl fp) hs) hr)
    fun D σ H h' => by
      obtain ⟨O, τ, s0, tm, w⟩ := h'
      show tLc (iD F δ (xs.map enc)) g (fun σ H Q => ∃ x, x ∈ xs ∧ cD F (tgt x) (q x) σ H Q) (fun σ H Q => ∃ x, (x ∈ xs ∧ q x = true) ∧ tD F (tgt x) (f x) σ H Q) (own.map (·.2)) σ H (fun v H1 => gName i v σ H1 (sD F (δ.set i (.dat (.list ((xs.filter q).map f)))) P D))
      refine lc_run xs enc f q _ tgt hz hw hww rfl (fun x hx σ H Q g => ⟨x, hx, g⟩) (fun x hx hq σ H Q g => ⟨x, ⟨hx, hq⟩, g⟩) (dl_d ⟨O, s0, fun v H' e' t' g' => ?_⟩)
      exact ⟨O, τ, (s0.grow e' t').setD i g', tm.grow e', w⟩
abbrev envS (sc : Scope) : Env := ⟨sc, 0, 0, [], Str.empty, none, .none, none, 0⟩
theorem sw_eq {ts : List Expr} {v : Expr} (cx : Ctx X N sc) {o : Option (List Str)} (h : swappedStores ts v (envS sc) = pure o) : swappedStores ts v X.env = pure o := by
  rw [← cx.s] at h
  generalize X.env = en at h ⊢
  cases en
  exact h
/-- a, b = x, y -/
theorem s_par {i j : Nat} {d1 d2 : PyData} {px pt pt2 : Pos} {kt k2 : Nat} (cx : CtD X N sc F.E) (ha : PA X [a, b] (aD F δ [d1, d2])) (g : PSs X rest (sD F ((δ.set i (.dat d1)).set j (.dat d2)) P)) (hi : N[i]? = some x := by rfl) (hj : N[j]? = some y := by rfl) (hij : i ≠ j := by decide) (hx : sc.names.lookup x = some .local := by rfl) (hy : sc.names.lookup y = some .local := by rfl)
    (hw : swappedStores [.Tuple [.Name x px, .Name y py] kt pt] (.Tuple [a, b] k2 pt2) (envS sc) = pure (some [x, y]) := by rfl) (hs : swapsWithSole [.Tuple [.Name x px, .Name y py] kt pt] (.Tuple [a, b] k2 pt2) pos.line X.env = pure false := by rfl) :
    PSs X (.Assign [.Tuple [.Name x px, .Name y py] kt pt] (.Tuple [a, b] k2 pt2) pos :: rest) (sD F δ P) :=
  wkSs (pss_cons (ps_par cx.calm cx.nd' (cx.at_ hi) (cx.at_ hj) hij (by rw [cx.s]; exact hx) (by rw [cx.s]; exact hy) ha (sw_eq cx.toCtx hw) hs) g) fun D σ H h' => by
    obtain ⟨O, τ, s0, tm, w⟩ := h'
    refine ⟨O, s0, fun vs H1 e' t' g' => ?_⟩
    obtain ⟨v, r, rfl, h1, u, r', rfl, h2, rfl⟩ := g'
    exact ⟨v, u, rfl, O, τ, ((s0.grow e' t').setD i h1).setD j h2, tm.grow e', w⟩
/-- target = value, the target of any form -/
theorem s_asg {g : TG} (cx : CtD X N sc F.E) (h : PE X e (tD F δ d)) (hg : PG X tg g) (ht : Tgt F g d δ δ1) (hr : PSs X rest (sD F δ1 P)) (hs : swapsWithSole [tg] e pos.line X.env = pure false := by rfl) (hw : swappedStores [tg] e (envS sc) = pure none := by rfl) (h1 : (assignEach [tg] X.env).map (·.2) = [assign tg X.env] := by rfl) :
    PSs X (.Assign [tg] e pos :: rest) (sD F δ P) := wkSs (pss_cons (ps_asg h hg hs (sw_eq cx.toCtx hw) h1) hr) fun D σ H h' => by
  obtain ⟨O, τ, s0, tm, w⟩ := h'
  exact ⟨O, s0, fun v H' e' t' g' => ht O H' σ v _ (s0.grow e' t') g' fun σ' s' => ⟨O, τ, s', tm.grow e', w⟩⟩
end
/-! ### a def keeps its promise -/
theorem fn_data {G : Pg} {st : Stmt} {x qual : Str} {f : Addr} {fd : FuncData} {N ps : List Str} {k : Nat} {T : List (Addr × Str)} {R : List PyData → Res → Prop} (Fn : Fun G.K x qual st f fd) (S : FnScope N ps (defScope st)) (len : ∀ ds r, R ds r → ds.length = ps.length)
    (body : ∀ (r : Rest) (F : Fx G.K T) (ds : List PyData) (res : Res), CtD (G.cx N r) N (defScope st) F.E → Room k r.A → R ds res → PSs (G.cx N r) (defBody st) (sD F (start0 N ds) (postOf res))) :
    FnOk G.prog G.w G.K G.mg G.base (L2N.CX G.prog G.w) (k + 1) f fd ps (spD T R) := by
  obtain ⟨oc, od, kV, doc, pm, an, cdv, ct, osl, rfl, lk, hcd⟩ := Fn.ex
  refine fn_of lk hcd S (fun vs H Q E h => ?_) fun A outer s H vs Q E hr h => ?_
  · obtain ⟨O, ds, r, _, _, hd, hR, _⟩ := h
    rw [hd.len]
    exact len ds r hR
  · obtain ⟨O, ds, r, dom, tb, hd, hR, ok, er⟩ := h
    refine ⟨_, body ⟨A.deeper (envOfC qual (defScope st) s.heap.objs.size f cdv), s, H, envOfC qual (defScope st) s.heap.objs.size f cdv, outer, envOfC qual (defScope st) s.heap.objs.size f cdv :: outer, [], fun _ => true, true, [], _⟩ ⟨O, H, E, dom⟩ ds r ⟨⟨rfl, rfl, S.nd, rfl⟩, fun _ => rfl, passes_of rfl, L2N.takes_of rfl rfl rfl rfl, rfl, rfl⟩ hr hR, O, [], ?_, (fun _ z => by cases z), ?_⟩
    · have hl := len ds r hR
      have hp : ps.length ≤ N.length := by
        have := congrArg List.length S.pre
        rw [List.length_take] at this
        omega
      have hv := hd.len
      refine ⟨?_, fun a z => z, dom, tb, ExtN.refl H, fun i u q => ?_, fun i j u w q n h1 h2 m1 m2 => ?_, fun i j R u n h1 h2 p hp => ?_⟩
      rotate_right
      · unfold start0 at h1
        by_cases hi : i < ds.length
        · rw [List.getElem?_append_left (by simpa using hi), List.getElem?_map] at h1
          cases e : ds[i]? with
          | none => rw [e] at h1; cases h1
          | some d => rw [e] at h1; cases h1
        · rw [List.getElem?_append_right (by simpa using hi), List.getElem?_replicate] at h1
          split at h1 <;> cases h1
      · simp [start0, L2.start, hv]
      · unfold start0 at q
        unfold L2.start
        by_cases hi : i < ds.length
        · rw [List.getElem?_append_left (by simpa using hi), List.getElem?_map] at q
          rw [List.getElem?_append_left (by simpa [hv] using hi), List.getElem?_map]
          cases e : ds[i]? with
          | none => rw [e] at q; cases q
          | some d =>
            rw [e] at q
            cases q
            obtain ⟨v, e1, e2⟩ := hd.get e
            rw [e1]
            exact ⟨v, rfl, e2⟩
        · rw [List.getElem?_append_right (by simpa using hi), List.getElem?_replicate] at q
          split at q
          · cases q; trivial
          · cases q
      · have no : ∀ {i : Nat} {u : Slot}, (start0 N ds)[i]? = some u → u.mine = false := fun {i u} q => by
          unfold start0 at q
          by_cases hi : i < ds.length
          · rw [List.getElem?_append_left (by simpa using hi), List.getElem?_map] at q
            cases e : ds[i]? with
            | none => rw [e] at q; cases q
            | some d => rw [e] at q; cases q; rfl
          · rw [List.getElem?_append_right (by simpa using hi), List.getElem?_replicate] at q
            split at q
            · cases q; rfl
            · cases q
        rw [no h1] at m1
        cases m1
    · exact ⟨fun δ O' σ' H' m s1 t1 => ok .none m .non H' s1.ext s1.tabs rfl, fun d v H' m e t g => ok d m v H' e t g, fun δ O' σ' H' m => m.elim, fun δ O' σ' H' m => m.elim, fun c H' m e t => er c m H' e t, fun _ _ _ _ _ _ m => m.elim, fun _ _ _ _ _ m => m.elim⟩
end Lf
set_option Elab.async false
set_option linter.all false
set_option maxRecDepth 100000
set_option maxHeartbeats 4000000
namespace Lf
open PySem PySem.Spec PyProof.Rows L2 LamX
section
variable {Kf : PySem.W.Frag} {Tf : List (Addr × Str)} {F : Fx Kf Tf} {δ δ1 δ2 : List Slot} {X : Cx} {N : List Str} {sc : Scope} {pos apos p pos' py spos : Pos} {a b c e o tg iter elt : Expr} {es ifs : List Expr} {d z : PyData} {ds : List PyData} {x y : Str} {st : Stmt} {rest body els : List Stmt} {P : Post} {α : Type}
theorem x_txt (l : List Nat) {i : Str} {j : Nat} (h : i = ⟨l.toArray⟩ := by rfl) : PE X (.Constant (.str i) j pos) (tD F δ (tx l)) := by
  subst h
  exact x_str
theorem x_kS {l : List Nat} (cx : Ctx X N sc) (hm : ∃ t, X.mg x = some (.str ⟨l.toArray⟩ t)) (hg : sc.names.lookup x = some .globalImplicit := by rfl) (hd : (x == ("__debug__" : Str)) = false := by decide) : PE X (.Name x pos) (tD F δ (tx l)) := by
  obtain ⟨t, hm⟩ := hm
  exact x_k (v := .str ⟨l.toArray⟩) cx hm ⟨t, rfl⟩ (fun _ _ => rfl) hg hd
theorem x_kI {i : Int} (cx : Ctx X N sc) (hm : ∃ t, X.mg x = some (.int i t)) (hg : sc.names.lookup x = some .globalImplicit := by rfl) (hd : (x == ("__debug__" : Str)) = false := by decide) : PE X (.Name x pos) (tD F δ (.int i)) := by
  obtain ⟨t, hm⟩ := hm
  exact x_k (v := .int i) cx hm ⟨t, rfl⟩ (fun _ _ => rfl) hg hd
theorem g_nameB (i : Nat) (cx : Ctx X N sc) (hi : N[i]? = some x := by rfl) (hx : sc.names.lookup x = some .local := by rfl) : PG X (.Name x pos) (gName i) := pg_name cx.nd' (cx.at_ hi) (cx.loc (.inl hx)) (.inr (by rw [cx.s]; exact hx))
/-- methods of texts -/
theorem x_m0 {id : String} {name : Str} {r : V → List V → Hp → VK → Prop} {s : Str} (slot : PySem.Slot "str" name id) (ty : typeOf (.builtin id) = pure (.type "method_descriptor")) (rule : MtR X id r) (q : MtD F r (.str s) [] z) (ho : PE X o (tD F δ (.str s)))
    (hbase : attributeBase o name X.env (eval o X.env) = eval o X.env := by rfl) (hline : (apos.endLine == pos.line) = true := by rfl) : PE X (.Call (.Attribute o name apos) [] [] pos) (tD F δ z) :=
  wkE (pe_m0 slot ty rule ho hbase hline) fun σ H Q h => by
    obtain ⟨O, st, k⟩ := h
    exact ⟨O, st, fun v H1 e1 t1 g1 => ⟨⟨s, g1⟩, q O H1 v [] Q (st.grow e1 t1).dom t1 g1 rfl fun v2 H2 e2 t2 g2 => k v2 H2 (e1.trans e2) t2 g2⟩⟩
theorem x_m1 {id : String} {name : Str} {r : V → List V → Hp → VK → Prop} {s : Str} (slot : PySem.Slot "str" name id) (ty : typeOf (.builtin id) = pure (.type "method_descriptor")) (rule : MtR X id r) (q : MtD F r (.str s) [d] z) (ho : PE X o (tD F δ (.str s))) (he : PE X e (tD F δ d)) (hs : starEach [e] X.env = [(false, eval e X.env)] := by rfl)
    (hbase : attributeBase o name X.env (eval o X.env) = eval o X.env := by rfl) (hline : (apos.endLine == pos.line) = true := by rfl) : PE X (.Call (.Attribute o name apos) [e] [] pos) (tD F δ z) :=
  wkE (pe_m1 slot ty rule ho he hs hbase hline) fun σ H Q h => by
    obtain ⟨O, st, k⟩ := h
    exact ⟨O, st, fun v H1 e1 t1 g1 => ⟨⟨s, g1⟩, O, st.grow e1 t1, fun y H2 e2 t2 g2 => q O H2 v [y] Q ((st.grow e1 t1).grow e2 t2).dom t2 (g1.grow e2) (.one g2) fun v3 H3 e3 t3 g3 => k v3 H3 ((e1.trans e2).trans e3) t3 g3⟩⟩
theorem hu65 {k : Nat} {A : Around} (hr : Room k A) : A.units + 65 < cLine := by
  have := hr.un
  omega
end
/-! ### texts: small letters, first places -/
section
variable {Kf : PySem.W.Frag} {Tf : List (Addr × Str)} {F : Fx Kf Tf} {K : PySem.W.Frag} {l m : List Nat} {d : PyData}
theorem str_tx (s : Str) : PyData.str s = tx s.cps.toList := by
  unfold tx
  rw [show (⟨s.cps.toList.toArray⟩ : Str) = s from by simp]
theorem ud_neg {i : Int} : UnD F (rU fun i => .int (-i)) (.int i) (.int (-i)) := fun O H x Q _ w hx k => ⟨i, hx, k _ H (ExtN.refl H) w rfl⟩
theorem cd_intB {b : Bool} : ClD F (fun xs H Q => (∃ i, xs = [.int i] ∧ Q (.int i) H) ∨ ∃ k, xs = [.bl k] ∧ Q (.int (if k then 1 else 0)) H) [.bool b] (.int (if b then 1 else 0)) := fun O H xs Q _ w h k => by
  obtain ⟨x, r, rfl, ex, rfl⟩ := h
  exact .inr ⟨b, by rw [show x = V.bl b from ex], k _ H (ExtN.refl H) w rfl⟩
theorem cd_tuple {ds : List PyData} : ClD F (fun xs H Q => ∃ p ys, xs = [.ref p] ∧ ((SqL K H p ys ∧ ∀ l, H l = none → Q (.ref l) (upd H l (.tup ys))) ∨ (SqT K H p ys ∧ Q (.ref p) H))) [.list ds] (.tuple ds) := fun O H xs Q dom w h k => by
  obtain ⟨x, r, rfl, ⟨a, ys, rfl, _, ga, ra⟩, rfl⟩ := h
  exact ⟨a, ys, rfl, .inl ⟨SqL.of ga, fun q hq => k _ _ (ext_new hq) (tabs_new w hq) ⟨q, ys, rfl, fresh_ok dom hq, upd_same, ra.grow (ext_new hq)⟩⟩⟩
/-- small letters of signs below 128 -/
def lowC (c : Nat) : Nat := if 65 ≤ c ∧ c ≤ 90 then c + 32 else c
theorem md_sindex {i : Nat} {rest : List Nat} (h : Builtin.Str.occurrences ⟨l.toArray⟩ ⟨m.toArray⟩ 0 l.length 1 = i :: rest) : MtD F (fun x xs H Q => ∃ a b i rest, x = .str a ∧ xs = [.str b] ∧ Builtin.Str.occurrences a b 0 a.length 1 = i :: rest ∧ Q (.int (i : Nat)) H) (tx l) [tx m] (.int (i : Nat)) := fun O H x xs Q _ w hx h2 k => by
  obtain ⟨y, r, rfl, ey, rfl⟩ := h2
  exact ⟨_, ⟨m.toArray⟩, i, rest, hx, by rw [show y = V.str ⟨m.toArray⟩ from ey], by rw [tx_len]; exact h, k _ H (ExtN.refl H) w rfl⟩
end
/-! ### defs by their names -/
structure Df (G : Pg) (x : Str) (st : Stmt) (ps : List Str) : Prop where
  ex : ∃ f fd, Fun G.K x x st f fd ∧ G.mg x = some (.ref f) ∧ Binds G.K fd ps []
theorem fd_data {G : Pg} {st : Stmt} {x : Str} {N ps : List Str} {k : Nat} {T : List (Addr × Str)} {R : List PyData → Res → Prop} (D : Df G x st ps) (S : FnScope N ps (defScope st)) (len : ∀ ds r, R ds r → ds.length = ps.length)
    (body : ∀ (r : Rest) (F : Fx G.K T) (ds : List PyData) (res : Res), CtD (G.cx N r) N (defScope st) F.E → Room k r.A → R ds res → PSs (G.cx N r) (defBody st) (sD F (start0 N ds) (postOf res))) :
    Fd G.prog G.w G.K G.mg G.base x (k + 1) ps (spD T R) := by
  obtain ⟨f, fd, Fn, m, b⟩ := D.ex
  exact ⟨f, fd, fn_data Fn S len body, m, Fn.kp, b⟩
end Lf
set_option Elab.async false
set_option linter.all false
set_option maxRecDepth 100000
set_option maxHeartbeats 4000000
/-! lists walked while an exception is handled -/
namespace Lf
open PySem PySem.Spec PyProof.Rows L2 L2H HotX
section
variable {prog : Program} {w : World} {A : Around} {E : Value → Shared → Prop} {s : Shared}
theorem lh_end {it l x1 : Addr} {i : Nat} {items : Array Value} {Q : Option Value → Shared → Prop} (hot : HotAt A x1 s.heap) (hit : s.heap.IsListIter it l i) (hl : s.heap.IsList l items) (hx : items[i]? = none)
    (hQ : ∀ h', (∀ b o, b ≠ it → s.heap.get? b = some o → h'.get? b = some o) → Q none { s with heap := h' }) : wpAny (model prog w) A (pyNext (.ref it)) Q E s := by
  obtain ⟨o, ho, hc, hd⟩ := id hit
  obtain ⟨ol, hol, _, nl, hdl⟩ := hl
  obtain ⟨hh, o1, vs1, h1, d1, c1⟩ := hot
  have nx : x1 ≠ it := fun z => by
    rw [z, ho] at h1
    cases h1
    rw [hd] at d1
    cases d1
    simp at c1
  unfold pyNext
  refine wpAny_bind (wpAny_attempt (wpAny_callSpecial?_slot (name := Str.ofString "__next__") hit.typeIs slot_listiter_next (wpAny_call_entry slot_listiter_next hit.typeIs entry_listiter_next ?_ (args_listiter_next _))))
  show wpAny _ _ (field (.ref it) 0 >>= _) _ _ s
  refine wpAny_bind (wpAny_field ho hd (x := .ref l) rfl ?_)
  show wpAny _ _ (if (Value.ref l == Value.none) = true then _ else _) _ _ s
  rw [if_neg (show ¬ ((Value.ref l == Value.none) = true) from Bool.false_ne_true)]
  show wpAny _ _ (field (.ref it) 1 >>= _) _ _ s
  refine wpAny_bind (wpAny_field ho hd (x := .int i 0) rfl ?_)
  show wpAny _ _ (seqItems? (.ref l) >>= _) _ _ s
  refine wpAny_bind (wpAny_seqItems hol hdl ?_)
  simp only [Int.toNat_natCast, hx]
  refine wpAny_bind (wpAny_rule (wpAny_bind (wpAny_setField ho hd (by simp) ?_)))
  show wpAny _ _ (newExc (.type "StopIteration") [] >>= _) _ _ _
  refine wpAny_bind ?_
  simp only [newExc, newTuple]
  refine wpAny_bind (wpAny_newObj_type ?_ (by size_fits))
  refine wpAny_bind (m := firstArgMember _ _) (wpAny_of_eq (a := Value.none) (by first | rfl | (simp only [firstArgMember]; rfl)) ?_)
  refine wpAny_newObj_type ?_ (by size_fits)
  have keep1 : ∀ b o, b ≠ it → s.heap.get? b = some o → (s.heap.update it (Obj.mapFields (·.setIfInBounds 0 Value.none))).get? b = some o := fun b o hb e => by
    rw [Heap.get?_update_other _ _ (Ne.symm hb)]
    exact e
  have h1' := keep1 x1 o1 nx h1
  refine raiseNew_hot ⟨hh, o1, vs1, Heap.get?_push_of_some _ (Heap.get?_push_of_some _ h1'), d1, c1⟩ (Nat.ne_of_lt (Heap.lt_size (Heap.get?_push_of_some _ h1'))) (Heap.get?_push_size _ rfl) rfl (by first | (simp; done) | (simp; omega)) ?_
  refine wpAny_bind (wpAny_isInstance (T := "StopIteration") (b := true) ⟨_, Heap.get?_update_self _ (Heap.get?_push_size _ rfl) rfl, rfl⟩ isSubtype_stop ?_)
  refine wpAny_pure (hQ _ fun b o hb e => ?_)
  have e1 := keep1 b o hb e
  rw [Heap.get?_update_other _ _ (Nat.ne_of_gt (Heap.lt_size (Heap.get?_push_of_some _ e1)))]
  exact Heap.get?_push_of_some _ (Heap.get?_push_of_some _ e1)
/-- a list's walk -/
theorem lh_walk {x1 : Addr} (hh : A.handled = some (.ref x1)) (I ax : Addr) (hne : ax ≠ I) (hx : x1 ≠ I) (items : Array Value) :
    Walks prog w A I [I, ax, x1] [I] items.size (fun i v => items[i]? = some v) (fun i h => h.IsListIter I ax i ∧ h.IsList ax items ∧ ∃ (o : Obj) (vs : Array Value), h.get? x1 = some o ∧ o.data = .fields vs ∧ vs[2]? = some .none) where
  sub := fun b hb => by simp at hb; simp [hb]
  frame := fun _ _ _ st hk => by
    obtain ⟨a, b, o, vs, e, r⟩ := st
    exact ⟨a.at fun o e => hk I (by simp) o e, b.at fun o e => hk ax (by simp) o e, o, vs, hk x1 (by simp) o e, r⟩
  item := fun i s Q E hi st hQ => by
    obtain ⟨a, b, o, vs, e, r⟩ := st
    refine wpAny_pyNext_list_item a b (x := items[i]) (by simp [hi]) fun h' hit' hs' => ?_
    exact hQ _ h' s.toks (by simp [hi]) ⟨hit', b.extBut hs'.extBut hne, o, vs, hs'.extBut _ _ hx e, r⟩ fun b o hb e => hs'.extBut b o (fun z => hb (by simp [z])) e
  done := fun s Q E st hQ => by
    obtain ⟨a, b, o, vs, e, r⟩ := st
    exact lh_end ⟨hh, o, vs, e, r⟩ a b (by simp) fun h' he' => hQ h' s.toks fun b o hb e => he' b o (fun z => hb (by simp [z])) e
  self := fun _ _ _ _ st hQ => wpAny_pyIter_listiter st.1 hQ
/-- sum(list of ints) -/
theorem lh_sum {l x1 : Addr} {its : List Value} {ns : List Int} {Q : Value → Shared → Prop} (hot : HotAt A x1 s.heap) (hl : s.heap.IsList l its.toArray) (hi : IntsAre its ns)
    (h : ∀ h' tk t', (∀ b o, s.heap.get? b = some o → h'.get? b = some o) → Q (.int ns.sum t') { s with heap := h', toks := tk }) : wpAny (model prog w) A (call (.builtin "sum") [.ref l]) Q E s := by
  obtain ⟨xs, e⟩ := hi.allInts.items
  have hn : numsOf (intItems xs).toList = ns := by rw [← e]; exact hi.numsOf
  rw [nums_intItems] at hn
  rw [e] at hl
  obtain ⟨hh, o1, vs1, g1, d1, c1⟩ := hot
  have nx : x1 ≠ s.heap.objs.size := Nat.ne_of_lt (Heap.lt_size g1)
  refine call_sum_walkG (iter_intList hl fun s2 es st hfp hlI => ?_)
  subst es
  refine ⟨_, _, _, _, _, _, numAt xs, rfl, lh_walk (A := A.in1) (x1 := x1) hh _ l hlI nx (intItems xs), ⟨st.1, st.2, o1, vs1, Heap.get?_push_of_some _ g1, d1, c1⟩, fun b hb => ?_, (fun _ _ => intItems_at), fun h' tk t' hk => ?_⟩
  · simp only [List.mem_cons, List.not_mem_nil, or_false] at hb
    rcases hb with z | z | z
    · exact hfp b (by simp [z])
    · exact hfp b (by simp [z])
    · rw [z]
      exact Heap.lt_size (Heap.get?_push_of_some _ g1)
  · have q := h h' tk t' fun b o e => hk b o (fun z => by
      rw [List.mem_singleton.mp z] at e
      exact Nat.lt_irrefl _ (Heap.lt_size e)) (Heap.get?_push_of_some _ e)
    rw [show ns.sum = preSum (numAt xs) (intItems xs).size from ?_] at q
    · exact q
    · rw [← hn]
      have : (intItems xs).size = xs.size := by simp [intItems]
      rw [this, preSum_eq, List.take_of_length_le (by simp)]
end
section
variable {X : Cx}
theorem cr_sumH (hc : HotC X) : CallR X (.builtin "sum") (rSum X.K) := by
  intro pins s σ H vs us Q I r h
  obtain ⟨a, ns, rfl, hs, q⟩ := h
  rw [Vals.ref1 r]
  obtain ⟨its, rv, p, hz⟩ := I.list hs
  obtain ⟨x1, hot⟩ := hc.at I
  exact lh_sum hot p.isList rv.ints fun h' tk t' hk => ⟨.int ns.sum, H, I.kept (t' := tk) hk, ⟨t', rfl⟩, q⟩
/-- isinstance of the handled exception -/
theorem call_isP {a D : Addr} {oe : Obj} (C : ExcC X.K D) (hp : (a, oe) ∈ X.pn) (hz : Zc (.ref D) none oe) (hf : ∃ vs, oe.data = .fields vs) : CallR X (.builtin "isinstance") (rIsE X.K D a) := by
  intro pins s σ H xs us Q I r h
  obtain ⟨c, cv, b, rfl, hcv, e, q⟩ := h
  cases r with
  | cons rx rr =>
    cases rr with
    | cons rt rr =>
      cases rr
      cases rx
      have ec := hcv _ rt
      subst ec
      obtain ⟨hget, _⟩ := I.pin (a, oe) (List.mem_append_left _ hp)
      obtain ⟨vs, hv⟩ := hf
      have J : PySem.W.InstAt s.heap a oe D none := by
        obtain ⟨oc, od, oda, osl⟩ := oe
        obtain ⟨h1, h2⟩ := hz
        dsimp only at h1 h2 hv
        subst h1 h2 hv
        exact ⟨hget, rfl, rfl, trivial⟩
      exact PySem.W.kia_one (PySem.W.handS_kitx_exc C.hg C.hk C.hs C.hd C.ha C.hn C.ht C.hm) I.kIn J e (fun z => nomatch z) fun tk => ⟨.bl b, H, I.kept (t' := tk) fun _ _ z => z, rfl, q⟩
end
end Lf
set_option Elab.async false
set_option linter.all false
set_option maxRecDepth 100000
set_option maxHeartbeats 4000000
namespace Lf
open PySem PySem.Spec PyProof.Rows L2 L2H HotX
section
variable {X : Cx}
/-- a new object, at an address where nothing stands -/
theorem laid_none {pins : List (Addr × Obj)} {σ : L2.St} {H : Hp} {s : Shared} {h' : Heap} {a : Addr} {o : HO} {t' : Nat} (I : Inv X pins σ H s) (k : ∀ b u, s.heap.get? b = some u → h'.get? b = some u) (hp : s.heap.get? a = none) (new : ObjOk X.prog X.w (upd H a o) h' a o) :
    Inv X pins σ (upd H a o) { s with heap := h', toks := t' } := by
  have hn : H a = none := I.hok.gone hp
  have ne : ∀ b u, s.heap.get? b = some u → b ≠ a := fun b u e z => by rw [z, hp] at e; cases e
  refine I.un ⟨fun b u q _ _ _ => k b u q, fun b u q _ _ _ => ⟨u.slots, k b u q⟩, fun b u q n _ => by rw [upd_ne (ne b u q)]; exact n, fun b u q _ => ⟨u, k b u q⟩, fun b xs q => by rw [upd_ne (ne_of_none q hn)]; exact q, fun b u xs q => by rw [upd_ne (ne_of_none q hn)]; exact q, fun b ps q => ⟨#[], by rw [upd_ne (ne_of_none q hn), q]; simp⟩⟩ fun b u e => ?_
  by_cases hb : b = a
  · subst hb
    rw [upd_same] at e
    cases e
    exact new
  · rw [upd_ne hb] at e
    exact (I.hok b u e).stay (fun c v _ q => k c v q) (fun c q => by rw [upd_ne (ne_of_none q hn)]; exact q) fun c xs q => by rw [upd_ne (ne_of_none q hn)]; exact q
/-- [int(x) for x in e], e a list of truths, while an exception is handled -/
def tBits (K : PySem.W.Frag) (te : TE) : TE := fun σ H Q => te σ H fun x H1 => ∃ (a : Addr) (bs : List Bool), x = .ref a ∧ SqL K H1 a (bs.map V.bl) ∧ bs.length ≤ 1000 ∧ ∀ p, H1 p = none → Q (.ref p) (upd H1 p (.lst (bs.map fun b => V.int (if b then 1 else 0))))
theorem pe_bits {e : Expr} {te : TE} {x : Str} {scope : Scope} {p1 p2 p3 p4 pos : Pos} (hc : HotC X) (hm : X.mg "int" = none) (he : PE X e te) (hkd : scope.kind = .function) (hx : scope.names.lookup x = some .local) (hi : scope.names.lookup ("int" : Str) = some .globalImplicit) (hcell : ∀ y ∈ scope.names, y.2 ≠ .cell ∧ y.2 ≠ .free)
    (hn : ∀ y ∈ scope.names, y.2 = .local → scope.names.lookup y.1 = some .local) (hxd : (x == ("__debug__" : Str)) = false) (hf : ∀ x, foldedSetIterable e X.env x = pure x := by intro _; rfl) :
    PE X (.ListComp (.Call (.Name "int" p1) [.Name x p2] [] p3) [⟨.Name x p4, e, [], 0⟩] scope pos) (tBits X.K te) := by
  refine ⟨fun pins s σ H Q I h => ?_⟩
  refine wpAny_ListComp_free (fun _ => true) (fun v y => ∃ b t, v = .bool b ∧ y = .int (if b then 1 else 0) t) (closure_ok fun y hy z => absurd z (hcell y hy).2) (fun y hy => (hcell y hy).1) hkd hn hx (thn (he.run pins s σ H _ I h) fun v s1 hv => ?_) hf
  obtain ⟨xv, H1, I1, r1, a, bs, rfl, hs, hz, q⟩ := hv
  obtain rfl : v = Value.ref a := r1
  obtain ⟨its, rv, p, hzz⟩ := I1.list hs
  have hbl := rv.bls
  obtain ⟨x1, hot⟩ := hc.at I1
  obtain ⟨hh, o1, vs1, g1, d1, c1⟩ := hot
  have la : a < s1.heap.objs.size := by
    obtain ⟨o, n, e, _⟩ := p
    exact Heap.lt_size e
  refine wpAny_pyIter_list p.isList ⟨s1.heap.objs.size, [s1.heap.objs.size, a, x1], [s1.heap.objs.size], its.toArray.size, _, _, rfl, lh_walk (x1 := x1) hh _ a (Nat.ne_of_lt la) (Nat.ne_of_lt (Heap.lt_size g1)) its.toArray, ?_, ⟨⟨_, Heap.get?_push_size _ rfl, rfl, rfl⟩, p.isList.push _, o1, vs1, Heap.get?_push_of_some _ g1, d1, c1⟩, fun b hb => ?_, ⟨fun C i v s3 m3 E' hC hP hns hmx hk htk => ?_, fun C i v s3 m3 E' hC hP _ hns hmx hk htk => ?_⟩, fun D h' tk ys vs hD hl hpl hlen hPs hF hk => ?_⟩
  · rw [hbl, List.size_toArray, List.length_map]
    exact Nat.le_trans hz (by decide)
  · show b < (s1.heap.push _).objs.size
    rw [Heap.size_push]
    simp only [List.mem_cons, List.not_mem_nil, or_false] at hb
    rcases hb with z | z | z
    · rw [z]; exact Nat.lt_succ_self _
    · rw [z]; exact Nat.lt_succ_of_lt la
    · rw [z]; exact Nat.lt_succ_of_lt (Heap.lt_size g1)
  · exact wpAny_tests_nil ⟨rfl, s3.heap, s3.toks, rfl, fun _ _ z => z⟩
  · have hb : ∃ b, v = .bool b := by
      rw [hbl] at hP
      have hP : ((bs.map Value.bool).toArray)[i]? = some v := hP
      rw [List.getElem?_toArray, List.getElem?_map] at hP
      cases q : bs[i]? with
      | none => rw [q] at hP; cases hP
      | some b => rw [q] at hP; exact ⟨b, (Option.some.inj hP).symm⟩
    obtain ⟨b, rfl⟩ := hb
    have kp : ∀ b o, X.base.get? b = some o → s3.heap.get? b = some o := fun b o e => by
      have e1 := I1.bk b o e
      exact hk b o (fun z => by
        rw [List.mem_singleton.mp z] at e1
        exact Nat.lt_irrefl _ (Heap.lt_size e1)) (Heap.get?_push_of_some _ e1)
    obtain ⟨mb, b1, b2⟩ := I1.mod.blt
    have hkf : (compEnvC scope (cloFrom X.env.cells scope.names []) C X.env).scope.kind = .function := hkd
    have lk : ∀ {y : Str} {kd : NameKind}, scope.names.lookup y = some kd → kd ≠ .free → (compEnvC scope (cloFrom X.env.cells scope.names []) C X.env).kindOf y = some kd := fun {y kd} e hne => by
      have rel : (relabel scope X.env).names = scope.names := by
        unfold relabel
        show scope.names.map _ = scope.names
        refine (List.map_congr_left fun z hz => ?_).trans (List.map_id _)
        obtain ⟨zn, zk⟩ := z
        have : zk ≠ .free := (hcell _ hz).2
        have e2 : (zk == NameKind.free) = false := by cases zk <;> first | rfl | exact absurd rfl this
        simp [e2]
      show (relabel scope X.env).names.lookup y = some kd
      rw [rel]
      exact e
    refine Call_ (Calls.Name_function_global hkf (lk hi (by decide)) (Calls.loadGlobal_builtin (mg := X.mg) (mb := mb) ?_ hm ?_ ((b2 "int" (by decide)).trans (by decide +kernel : bootBuiltins "int" = some (.type "int"))) ?_) (by decide))
    · show s3.heap.Ns X.env.globals X.mg
      rw [I1.ok.glob]
      exact I1.mod.glob.keeps kp
    · show s3.heap.Ns X.env.builtins mb
      rw [I1.ok.blt]
      exact b1.keeps kp
    · refine PyProof.Rows.callWith_type1 ?_ rfl rfl
      show wpAny _ _ (spliced [(false, eval (.Name x p2) _)]) _ _ _
      refine Calls.spliced_cons (wpAny_Name (wpAny_loadName_local hkf (lk hx (by decide)) hns hmx (Calls.spliced_nil ?_)) hxd)
      exact call_int_bool ⟨⟨b, _, rfl, rfl⟩, s3.heap, _, rfl, fun _ _ z => z⟩
  · have hv : vs = its := by
      refine List.ext_getElem? fun j => ?_
      by_cases hj : j < vs.length
      · have e1 : vs[j]? = some vs[j] := List.getElem?_eq_getElem hj
        rw [e1]
        have := hPs j vs[j] e1
        have this : its.toArray[j]? = some vs[j] := this
        rw [List.getElem?_toArray] at this
        exact this.symm
      · rw [List.getElem?_eq_none (by omega), List.getElem?_eq_none (by simp at hlen; omega)]
    subst hv
    rw [List.filter_eq_self.mpr (fun _ _ => rfl)] at hF
    have hys : Vals (bs.map fun b => V.int (if b then 1 else 0)) ys.toList := by
      have conv : ∀ (bs : List Bool) (us ws : List Value), us = bs.map Value.bool → Paired (fun v y => ∃ b t, v = Value.bool b ∧ y = Value.int (if b then 1 else 0) t) us ws → Vals (bs.map fun b => V.int (if b then 1 else 0)) ws := by
        intro bs
        induction bs with
        | nil =>
          intro us ws e pr
          subst e
          cases pr
          exact .nil
        | cons b bs ih =>
          intro us ws e pr
          subst e
          cases pr with
          | cons h t =>
            obtain ⟨b', t', e1, e2⟩ := h
            cases e1
            exact .cons ⟨t', e2⟩ (ih _ _ rfl t)
      exact conv bs vs ys.toList hbl hF
    have hkk : ∀ b o, s1.heap.get? b = some o → h'.get? b = some o := fun b o e => hk b o (fun z => by
      rw [List.mem_singleton.mp z] at e
      exact Nat.lt_irrefl _ (Heap.lt_size e)) (Heap.get?_push_of_some _ e)
    have hD1 : s1.heap.get? D = none := by
      cases z : s1.heap.get? D with
      | none => rfl
      | some o =>
        have z2 := Heap.get?_push_of_some { cls := .type "list_iterator", data := .fields #[.ref a, .int 0 0] } z
        have hD : (s1.heap.push { cls := .type "list_iterator", data := .fields #[.ref a, .int 0 0] }).get? D = none := hD
        rw [hD] at z2
        cases z2
    obtain ⟨n, hpl⟩ := hpl
    have new : ObjOk X.prog X.w (upd H1 D (.lst (bs.map fun b => V.int (if b then 1 else 0)))) h' D (.lst (bs.map fun b => V.int (if b then 1 else 0))) := by
      refine ⟨?_, ys.toList, n, hys, ?_⟩
      · rw [List.length_map]
        exact Nat.le_trans hz (by decide)
      · rw [hpl]
    exact ⟨.ref D, _, laid_none (s := s1) (t' := tk) I1 hkk hD1 new, rfl, q D (I1.hok.gone hD1)⟩
end
end Lf
set_option Elab.async false
set_option linter.all false
set_option maxRecDepth 100000
set_option maxHeartbeats 4000000
namespace Lf
open PySem PySem.Spec PyProof.Rows L2 L2H HotX LamX
/-! ### a def that is handed the exception that is handled -/
abbrev SpE := (Addr × Obj) → Hp → VK → Prop
structure FnE (P : Program) (w : World) (K : PySem.W.Frag) (mg : Str → Option Value) (base : Heap) (k : Nat) (f : Addr) (fd : FuncData) (x : Str) (sp : SpE) : Prop where
  run : ∀ (A : Around) (outer : List Env) (s : Shared) (H : Hp) (args : Args) (Q : VK) (p : Addr × Obj), RoomH k A → Hot1 A p → PinOk outer H s p → Env0 P w K mg base A outer s H → BindsTo s fd args [(x, .ref p.1)] → sp p H Q →
    codeAny (model P w) A (.call (.ref f) args) (CR L2.CX0 outer P w H s Q L2.E0) s
theorem fe_of {P : Program} {w : World} {K : PySem.W.Frag} {mg : Str → Option Value} {base : Heap} {k : Nat} {f : Addr} {name qual x : Str} {params : Arguments} {body : List Stmt} {scope : Scope} {dV kV doc pm cdv ct oc : Value} {an od : Option Addr} {osl : Array (Option Value)} {N : List Str} {sp : SpE}
    (lk : K.lookup f = some ⟨oc, od, .func (PySem.W.fnOf name qual params body scope dV kV doc pm an cdv ct), osl⟩) (hcd : PySem.W.codeIn K cdv qual = true) (S : FnScope N [x] scope)
    (hb : ∀ (A : Around) (outer : List Env) (s : Shared) (H : Hp) (Q : VK) (p : Addr × Obj), Hot1 A p → RoomH k (A.deeper (envOfC qual scope s.heap.objs.size f cdv)) → sp p H Q →
      ∃ t, PSs (cxH L2.CX0 P w K mg base N qual scope f cdv A outer s H L2.E0 p) body t ∧ t { nx := fun _ H' => Q .non H', rt := Q } (L2.start N [.ref p.1]) H) :
    FnE P w K mg base (k + 1) f (PySem.W.fnOf name qual params body scope dV kV doc pm an cdv ct) x sp := by
  refine ⟨fun A outer s H args Q p hr hot hpin e0 hbd hsp => ?_⟩
  have KX : K.In s.heap := e0.mod.kin.keeps fun b o e => (e0.bs b o e).1
  have lim : s.heap.NoLimit := e0.mod.nolimit.keeps fun b o e => (e0.bs b o e).1
  have hk : ∀ y ∈ ([x].zip [Value.ref p.1]), scope.names.lookup y.1 = some .local ∨ (scope.names.lookup y.1 = some .cell ∧ ((cellsFrom (s.heap.objs.size + 1) scope.names []).lookup y.1).isSome = true) := fun ⟨n, v⟩ hy => by
    rcases S.par n (List.of_mem_zip hy).1 with q | q
    · exact .inl q
    · exact .inr ⟨q, PySem.W.cellsFrom_some _ _ _ (.inl q)⟩
  refine codeAny_call_function hr.depth (KX _ _ lk) rfl S.co S.gen rfl (PySem.W.codeRec_of KX hcd) (hbd _ _ _ _ ?_)
  refine wpAny_newFunctionEnv_cells S.kind hk fun env he s1 z => ?_
  subst he
  refine ⟨lim.keeps z.toInCall.keep, codeAny_func ?_⟩
  obtain ⟨t, ht, hq⟩ := hb A outer s H Q p hot (hr.deeper _) hsp
  have I : Inv (cxH L2.CX0 P w K mg base N qual scope f cdv A outer s H L2.E0 p) [] (L2.start N [.ref p.1]) H s1 := inv_startH (ps := [x]) (us := [.ref p.1]) S hpin e0 rfl (.cons rfl .nil) z
  refine wpAny_mono (ht.run [] s1 _ H _ I hq) (fun fl s' hs => ?_) fun e s' hs => hs
  cases fl with
  | ret u =>
    obtain ⟨v, σ', H', J, rv, q⟩ := hs
    exact ⟨v, H', J.os, J.bare, J.base, J.hok, rv, q⟩
  | next =>
    obtain ⟨σ', H', J, q⟩ := hs
    exact ⟨V.non, H', J.os, J.bare, J.base, J.hok, (rfl : (Value.none) = Value.none), q⟩
  | brk =>
    obtain ⟨_, _, _, q⟩ := hs
    exact False.elim q
  | cont =>
    obtain ⟨_, _, _, q⟩ := hs
    exact False.elim q
/-- f(e), e the exception that the suite holds -/
theorem pe_callE {X : Cx} {k i : Nat} {f a : Addr} {oe : Obj} {fd : FuncData} {x y z : Str} {sp : SpE} {q q2 pos : Pos} (F : FnE X.prog X.w X.K X.mg X.base k f fd z sp) (hr : RoomH k X.A) (hot : Hot1 X.A (a, oe)) (hp : (a, oe) ∈ X.pn) (hg : Gl X x) (hm : X.mg x = some (.ref f)) (hk : PySem.W.keepIn X.K (.ref f) = true) (hb : Binds X.K fd [z] [])
    (hN : X.N[i]? = some y) (hv : Vis X.env.scope y) (hdb : (x == ("__debug__" : Str)) = false := by decide) (hd : (y == ("__debug__" : Str)) = false := by decide) (hcd : (y == ("__classdict__" : Str)) = false := by decide) :
    PE X (.Call (.Name x q) [.Name y q2] [] pos) (fun σ H Q => σ[i]? = some (some (.ref a)) ∧ sp (a, oe) H Q) := by
  refine ⟨fun pins s σ H Q I h => ?_⟩
  obtain ⟨hs, hq⟩ := h
  refine wpAny_Call_Name_kw (ld_glob I hg hm ?_ hdb)
  have ha : PA X [.Name y q2] (tCons (tVar i) tNil) := pa_cons (pe_var hN hv hd hcd) pa_nil
  refine PySem.W.callWith_K (h₀ := X.base) I.ok.mod.kin hk (thn (ha.run pos pins s σ H (fun vs H1 => vs = [V.ref a] ∧ H1 = H) I ⟨_, hs, rfl, rfl⟩) fun us s1 hh => ?_) rfl rfl
  obtain ⟨vs, H1, I1, r, ev, eH⟩ := hh
  subst ev
  subst eH
  refine ⟨I1.kIn, ?_⟩
  obtain rfl := Vals.ref1 r
  have b := hb s1 [.ref a] I1.kIn rfl
  have P1 := I1.pin (a, oe) (List.mem_append_left _ hp)
  have hpin : PinOk X.stack H1 s1 (a, oe) := ⟨P1.1, P1.2.1, fun hm => (List.mem_cons.mp (I1.stkSub a hm)).elim P1.2.2.1 P1.2.2.2.1, P1.2.2.2.2⟩
  refine wpAny_call (codeAny_mono (F.run X.A X.stack s1 H1 ⟨[.ref a], []⟩ Q (a, oe) hr hot hpin I1.env0 (by simpa using b) hq) fun r s' hq => ?_)
  cases r with
  | error e => exact (show False from hq).elim
  | ok fl =>
    cases fl with
    | ret u => exact I1.after hq
    | next => exact False.elim hq
    | brk => exact False.elim hq
    | cont => exact False.elim hq
/-! ### _law_word -/
/-- what is known of the eight classes of errors and of the one at C, the j-th -/
structure Ew (K : PySem.W.Frag) (cs : List Addr) (C : Addr) (j : Nat) : Prop where
  len : cs.length = 8
  at_ : cs[j]? = some C
  exc : ExcC K C
  kit : ∀ (i : Nat) D, cs[i]? = some D → PySem.W.kitOne K (.ref C) (.ref D) = some (decide (i = j))
  kv : PySem.W.kitOne K (.ref C) (.type "ValueError") = some true
/-- the j-th word -/
def ewords : List Str := ["BadName", "BadAsk", "BadMarks", "BadPlaces", "BadNumber", "NoName", "Nothing", "BadText"]
def bits (j : Nat) : List Bool := (List.range 8).map fun i => decide (i = j)
def spWord (K : PySem.W.Frag) (cs : List Addr) : SpE := fun p H Q => ∃ C j w, Zc (.ref C) none p.2 ∧ (∃ vs, p.2.data = .fields vs) ∧ Ew K cs C j ∧ ewords[j]? = some w ∧ ∀ H', (∀ b o, H b = some o → H' b = some o) → Q (.str w) H'
end Lf
set_option Elab.async false
set_option linter.all false
set_option maxRecDepth 100000
set_option maxHeartbeats 4000000
namespace Lf
open PySem PySem.Spec PyProof.Rows L2 L2H HotX LamX
/-! ### a lambda without parameters, called by the def that got it; what it raises is told whole -/
abbrev lamN (X : Cx) (A : Around) (outer : List Env) (s : Shared) (H : Hp) (E : XK) (scope : Scope) (f c' : Addr) : Cx :=
  (lamCx X A outer s H E scope f c').wish fun e s' => wpAny (model X.prog X.w) (A.deeper (lamEnv X scope s.heap.objs.size f c')) (leaving (lamEnv X scope s.heap.objs.size f c') e) (fun _ s'' => L2N.CX X.prog X.w outer H s E e s'') (fun e' s'' => L2N.CX X.prog X.w outer H s E e' s'') s'
section
variable {X : Cx} {pins : List (Addr × Obj)} {σ : L2.St} {H HZ : Hp} {s s1 : Shared}
theorem act_n {CXg : CXT} {Eg : XK} {Ng : List Str} {qg : Str} {sg : Scope} {g f c' : Addr} {cdg pm ctv : Value} {params : Arguments} {body : Expr} {scope : Scope} {k i : Nat} {a : Str} {pn : List (Addr × Obj)} {xe : Value → Shared → Prop} {W : WX} {E : XK} {tb : TE} {p1 p2 : Pos}
    (I : Inv X pins σ H s) (L : LamS X.env.scope scope) (hf : s.heap.get? f = some (PySem.W.kla_obj "<lambda>" (X.env.qual ++ "<lambda>") params body scope (cloFrom X.env.cells scope.names []) pm c' ctv)) (hfn : H f = none) (hfr : f ∉ frs X.stack)
    (hbind : bindArgs (PySem.W.kla_fn "<lambda>" (X.env.qual ++ "<lambda>") params body scope (cloFrom X.env.cells scope.names []) pm (.ref c') ctv) ⟨[], []⟩ = pure [])
    (tk : L2N.Takes ((cxOf CXg X.prog X.w X.K X.mg X.base Ng qg sg g cdg X.A X.stack s H Eg).tr pn xe) W) (hW : ∀ cls d (σ' : L2.St) H', σ'.length = Ng.length → E cls d H' → W cls d σ' H') (hr : Room (k + 1) (X.A.deeper (envOfC qg sg s.heap.objs.size g cdg)))
    (hbody : ∀ (A : Around) (outer : List Env) (s : Shared) (H : Hp), Room k (A.deeper (lamEnv X scope s.heap.objs.size f c')) → PE (lamN X A outer s H E scope f c') body tb)
    (hN : Ng[i]? = some a) (hv : Vis sg a) (hd : (a == ("__debug__" : Str)) = false) (hcd : (a == ("__classdict__" : Str)) = false) :
    PE ((cxOf CXg X.prog X.w X.K X.mg X.base Ng qg sg g cdg X.A X.stack s H Eg).tr pn xe) (.Call (.Name a p1) [] [] p2)
      (fun σZ HZ Q => σZ[i]? = some (some (.ref f)) ∧ HZ c' = some (CodeO c' (X.env.qual ++ "<lambda>")) ∧ tb σ HZ Q) := by
  refine ⟨fun pinsZ sZ σZ HZ Q IZ h => ?_⟩
  obtain ⟨hs, hc, ht⟩ := h
  refine wpAny_Call_Name_kw (thn ((pe_var (pos := p1) (i := i) hN hv hd hcd).run pinsZ sZ σZ HZ (fun v H1 => v = .ref f ∧ H1 = HZ) IZ ⟨.ref f, hs, rfl, rfl⟩) fun u s1 hu => ?_)
  obtain ⟨v, H1, I1, r1, rfl, rfl⟩ := hu
  obtain rfl : u = Value.ref f := r1
  have of1 := I1.base.keep f _ hf hfn hfr (fun z => nomatch (show f ∈ ([] : List Addr) from z))
  refine PySem.W.callWith_F0 ⟨_, _, _, _, of1⟩ ?_
  have un : Un (frs X.stack) [] H H1 s.heap s1.heap := I1.base
  obtain ⟨⟨oc, vs, t, hoc, hdc, hvc⟩, _, _⟩ := I1.hok c' _ hc
  have rc : codeAny (model X.prog X.w) (X.A.deeper (envOfC qg sg s.heap.objs.size g cdg)) (.call (.ref f) ⟨[], []⟩) (CR (L2N.CX X.prog X.w) (envOfC qg sg s.heap.objs.size g cdg :: X.stack) X.prog X.w H1 s1 Q E) s1 := by
    refine PySem.W.kla_callFunE hr.depth of1 rfl L.co L.gen rfl ⟨c', oc, vs, t, rfl, hoc, hdc, hvc⟩ ?_
    rw [hbind]
    refine wpAny_pure (wpAny_newFunctionEnv (fun y hy => (L.own y hy).2) (fun y hy => absurd hy (by simp)) (fun h1 hns hsb => ⟨I1.nolimit.fresh _ hsb, ?_⟩) L.kind)
    show codeAny _ _ (.expr body (lamEnv X scope s1.heap.objs.size f c')) _ _
    have kp : ∀ b o, s1.heap.get? b = some o → h1.get? b = some o := fun b o e => hsb.extBut b o (Nat.ne_of_lt (Heap.lt_size e)) (Heap.get?_push_of_some _ e)
    have J0 : Inv (lamCx X (X.A.deeper (envOfC qg sg s.heap.objs.size g cdg)) (envOfC qg sg s.heap.objs.size g cdg :: X.stack) s1 H1 E scope f c') [] σ H1 { s1 with heap := h1, toks := s1.toks + ([] : List (Str × Value)).length } :=
      lam_start2 I L I1.env0 hr.hd un hns kp
    have J : Inv (lamN X (X.A.deeper (envOfC qg sg s.heap.objs.size g cdg)) (envOfC qg sg s.heap.objs.size g cdg :: X.stack) s1 H1 E scope f c') [] σ H1 { s1 with heap := h1, toks := s1.toks + ([] : List (Str × Value)).length } := J0.wish _
    refine PySem.W.kla_codeExpr (wpAny_mono ((hbody _ _ s1 H1 (hr.deeper _)).run [] _ _ H1 Q J ht) (fun v s' hq => ?_) fun e s' hq => hq)
    obtain ⟨w', H', J', rv, q⟩ := hq
    exact ⟨w', H', J'.os, J'.bare, J'.base, J'.hok, rv, q⟩
  have hx : Passes (L2N.CX X.prog X.w) ((cxOf CXg X.prog X.w X.K X.mg X.base Ng qg sg g cdg X.A X.stack s H Eg).tr pn xe) E := fun _ σ' _ _ e s' I' c => tk e s' (L2N.XE.of_call I' (fun cls d H' h => hW cls d σ' H' I'.len h) c)
  refine wpAny_call (codeAny_mono rc fun r s' hq => ?_)
  cases r with
  | error e => exact hx pinsZ σZ H1 s1 e s' I1 hq
  | ok fl =>
    cases fl with
    | ret u => exact I1.after hq
    | next => exact False.elim hq
    | brk => exact False.elim hq
    | cont => exact False.elim hq
end
/-- the def that calls what it got -/
def GivesN (X : Cx) (Ng : List Str) (x : Str) (sg : Scope) (g : Addr) (cdg : Value) (bg : List Stmt) (a : Str) (q : Str) (TT : (XK → Hp → VK → Prop) → Hp → VK → Prop) : Prop :=
  ∀ (f c' : Addr) (s : Shared) (H : Hp) (Q : VK) (tl : XK → Hp → VK → Prop), RoomH 2 (X.A.deeper (envOfC x sg s.heap.objs.size g cdg)) →
    (∀ (W : WX) (pn : List (Addr × Obj)) (xe : Value → Shared → Prop) (E : XK) (p1 p2 : Pos), L2N.Takes ((cxOf L2.CX0 X.prog X.w X.K X.mg X.base Ng x sg g cdg X.A X.stack s H L2.E0).tr pn xe) W → (∀ cls d (σ' : L2.St) H', σ'.length = Ng.length → E cls d H' → W cls d σ' H') →
      PE ((cxOf L2.CX0 X.prog X.w X.K X.mg X.base Ng x sg g cdg X.A X.stack s H L2.E0).tr pn xe) (.Call (.Name a p1) [] [] p2) (fun σZ HZ Q => σZ[0]? = some (some (.ref f)) ∧ HZ c' = some (CodeO c' q) ∧ tl E HZ Q)) →
    H c' = some (CodeO c' q) → TT tl H Q →
    ∃ t, PSs (cxOf L2.CX0 X.prog X.w X.K X.mg X.base Ng x sg g cdg X.A X.stack s H L2.E0).nox bg t ∧ t { nx := fun _ H' => Q .non H', rt := Q } (L2.start Ng [.ref f]) H
section
variable {X : Cx}
/-- x(lambda: body) -/
theorem lamcall_n {T : List (Addr × Str)} {TT : (XK → Hp → VK → Prop) → Hp → VK → Prop} {x a : Str} {g c P : Addr} {k : Nat} {pg : Arguments} {bg : List Stmt} {sg : Scope} {dV kV doc pm cdv ct oc : Value} {an od : Option Addr} {osl : Array (Option Value)} {Ng : List Str}
    {params : Arguments} {body : Expr} {scope : Scope} {t : XK → TE} {p lpos pos : Pos} (hg : Gl X x) (hm : X.mg x = some (.ref g)) (hk : PySem.W.keepIn X.K (.ref g) = true)
    (lk : X.K.lookup g = some ⟨oc, od, .func (PySem.W.fnOf x x pg bg sg dV kV doc pm an cdv ct), osl⟩) (hcg : PySem.W.codeIn X.K cdv x = true) (hb : L2.Binds X.K (PySem.W.fnOf x x pg bg sg dV kV doc pm an cdv ct) [a] []) (Sg : FnScope Ng [a] sg) (hNg : Ng[0]? = some a) (hva : Vis sg a)
    (hG : GivesN X Ng x sg g cdv bg a (X.env.qual ++ "<lambda>") TT) (TB : TabB X.base X.mg c P) (hcode : X.env.code = .ref c) (hmT : (P, X.env.qual ++ "<lambda>") ∈ T) (hu : ∀ p ∈ T, p.1 = P → p.2 = X.env.qual ++ "<lambda>") (hr : Room (k + 3) X.A) (L : LamS X.env.scope scope) (hdef : defaultsOf params X.env = ([], []))
    (hbind : ∀ (q : Str) (cl : List (Str × Addr)) (pm cv ctv : Value), bindArgs (PySem.W.kla_fn "<lambda>" q params body scope cl pm cv ctv) ⟨[], []⟩ = pure [])
    (hbody : ∀ (A : Around) (outer : List Env) (s : Shared) (H : Hp) (E : XK) (f c' : Addr), Room (k + 1) (A.deeper (lamEnv X scope s.heap.objs.size f c')) → PE (lamN X A outer s H E scope f c') body (t E))
    (hdb : (x == ("__debug__" : Str)) = false := by decide) (hd : (a == ("__debug__" : Str)) = false := by decide) (hcd : (a == ("__classdict__" : Str)) = false := by decide) :
    PE X (.Call (.Name x p) [.Lambda params body scope lpos] [] pos) (tLam T TT t) := by
  refine ⟨fun pins s σ H Q I h => ?_⟩
  obtain ⟨hT, h⟩ := h
  refine wpAny_Call_Name_kw (ld_glob I hg hm ?_ hdb)
  refine PySem.W.callWith_K (h₀ := X.base) I.ok.mod.kin hk ?_ (by rfl) (by rfl)
  show wpAny _ _ (spliced ((false, eval (.Lambda params body scope lpos) X.env) :: backTo pos (starEach [] X.env))) _ _ s
  refine Calls.spliced_cons (lam_make2 I TB hcode hmT hu hT hdef (L.has I.ok) fun f c' pm' ctv H1 s' I1 eN T1 hf hfn hfr hco => ?_)
  refine Calls.spliced_nil ⟨I1.kIn, ?_⟩
  have rc : codeAny (model X.prog X.w) X.A (.call (.ref g) ⟨[.ref f], []⟩) (CR L2.CX0 X.stack X.prog X.w H1 s' Q L2.E0) s' := by
    refine run_ofS (k := k + 2) (N := Ng) (ps := [a]) (us := [.ref f]) (vs := [.ref f]) lk hcg Sg hr I1.env0 (hb s' [.ref f] I1.kIn rfl) (.cons rfl .nil) rfl fun hr' => ?_
    obtain ⟨t', ht', hq'⟩ := hG f c' s' H1 Q (fun E H' Q' => t E σ H' Q') (roomH_of (hr'.mono (by omega))) (fun W pn xe E p1 p2 tk hW => act_n (k := k + 1) (i := 0) I1 L hf hfn hfr (hbind _ _ _ _ _) tk hW hr' (fun A outer s H hr2 => hbody A outer s H E f c' hr2) hNg hva hd hcd) hco (h H1 eN T1)
    exact ⟨t', ht'.nox, hq'⟩
  refine wpAny_call (codeAny_mono rc fun r s2 hq => ?_)
  cases r with
  | error e => exact (show False from hq).elim
  | ok fl =>
    cases fl with
    | ret u => exact I1.after hq
    | next => exact False.elim hq
    | brk => exact False.elim hq
    | cont => exact False.elim hq
theorem takesN0 {X : Cx} : L2N.Takes X (fun _ _ _ _ => False) := fun _ _ x => by
  obtain ⟨_, _, _, _, _, _, _, _, _, _, _, _, _, _, _, _, z⟩ := x
  exact z.elim
/-- try: return a() / except x as e: return f(e) -/
def TTw (K : PySem.W.Frag) (CS : Addr) (sp : Value → Hp → VK → Prop) : (XK → Hp → VK → Prop) → Hp → VK → Prop := fun tl H Q => tl (fun cls d H' => d = none ∧ PySem.W.exmOne K cls (.ref CS) = some true ∧ sp cls H' Q) H Q
theorem word_gives {Ng : List Str} {x a e n y z q : Str} {sg : Scope} {g CS fw : Addr} {fdw : FuncData} {cdg : Value} {spw : SpE} {sp : Value → Hp → VK → Prop} {p1 p2 p3 p4 p5 p6 p7 p8 p9 p10 p11 : Pos} (hk : sg.kind = .function) (hge : sg.names.lookup e = some .globalImplicit) (hme : X.mg e = some (.ref CS)) (hde : (e == ("__debug__" : Str)) = false) (h0 : ∀ f : Addr, (L2.start Ng [V.ref f])[0]? = some (some (V.ref f)))
    (hN : Ng.Nodup) (hn : Ng[1]? = some n) (hln : sg.names.lookup n = some .local) (h1 : ∀ (f a : Addr), ((L2.start Ng [V.ref f]).set 1 (some (.ref a)))[1]? = some (some (V.ref a))) (hnd : (n == ("__debug__" : Str)) = false) (hncd : (n == ("__classdict__" : Str)) = false)
    (Fw : FnE X.prog X.w X.K X.mg X.base 1 fw fdw z spw) (hgw : sg.names.lookup y = some .globalImplicit) (hmw : X.mg y = some (.ref fw)) (hkw : PySem.W.keepIn X.K (.ref fw) = true) (hbw : Binds X.K fdw [z] []) (hyd : (y == ("__debug__" : Str)) = false)
    (hsp : ∀ cls a oe H Q, L2N.Zn cls none oe → (∃ vs, oe.data = .fields vs) → sp cls H Q → spw (a, oe) H Q) :
    GivesN X Ng x sg g cdg [.Try [.Return (some (.Call (.Name a p1) [] [] p2)) p3] [.ExceptHandler (some (.Name e p4)) (some n) [.Return (some (.Call (.Name y p5) [.Name n p6] [] p9)) p10] p7] [] [] p8] a q (TTw X.K CS sp) := by
  intro f c' s H Q tl hr act hc h
  have hgl : Gl (cxOf L2.CX0 X.prog X.w X.K X.mg X.base Ng x sg g cdg X.A X.stack s H L2.E0).nox e := hge
  refine ⟨_, pss_one (L2N.ps_try_as (X := (cxOf L2.CX0 X.prog X.w X.K X.mg X.base Ng x sg g cdg X.A X.stack s H L2.E0).nox) (i := 1) (n := n) (c := .ref CS) (Wout := fun _ _ _ _ => False)
      (tb := fun W D σ H => ∃ Ech : XK, (∀ cls d (σ' : L2.St) H', σ'.length = Ng.length → Ech cls d H' → W cls d σ' H') ∧ σ[0]? = some (some (.ref f)) ∧ H c' = some (CodeO c' q) ∧ tl Ech H D.rt)
      (ts := fun a cls d D σ H => d = none ∧ σ[1]? = some (some (.ref a)) ∧ sp cls H D.rt)
      rfl rfl hN hn hln ⟨hgl, hde, .inl hme⟩ takesN0 (fun W pn xe tk _ => ?_) (fun ea oe cls d pn hz hf => ?_)), ?_⟩
  · refine ⟨fun pins s' σ H' D I h' => ?_⟩
    obtain ⟨Ech, hW, e1, e2, e3⟩ := h'
    exact (pss_one (ps_ret (pos := p3) (act W pn xe Ech p1 p2 tk hW))).run pins s' σ H' D I ⟨e1, e2, e3⟩
  · refine ⟨fun pins s' σ H' D I h' => ?_⟩
    obtain ⟨rfl, e1, e2⟩ := h'
    obtain ⟨vs, hv⟩ := hf
    have hot : Hot1 ((cxOf L2.CX0 X.prog X.w X.K X.mg X.base Ng x sg g cdg X.A X.stack s H L2.E0).nox.suite ea ((ea, oe) :: pn)).A (ea, oe) := ⟨rfl, vs, hv, hz.2.2 vs hv⟩
    have hrm : RoomH 1 ((cxOf L2.CX0 X.prog X.w X.K X.mg X.base Ng x sg g cdg X.A X.stack s H L2.E0).nox.suite ea ((ea, oe) :: pn)).A := ⟨(hr.mono (show 1 ≤ 2 by decide)).dp, (hr.mono (show 1 ≤ 2 by decide)).un⟩
    exact (pss_one (ps_ret (pos := p10) (pe_callE (X := (cxOf L2.CX0 X.prog X.w X.K X.mg X.base Ng x sg g cdg X.A X.stack s H L2.E0).nox.suite ea ((ea, oe) :: pn)) (q := p5) (q2 := p6) (pos := p9) (i := 1) Fw hrm hot List.mem_cons_self hgw hmw hkw hbw hn (.inl hln) hyd hnd hncd))).run pins s' σ H' D I ⟨e1, hsp cls ea oe H' _ hz ⟨vs, hv⟩ e2⟩
  · refine ⟨fun cls d H' => d = none ∧ PySem.W.exmOne X.K cls (.ref CS) = some true ∧ sp cls H' Q, fun cls d σ' H' hl hE => ?_, h0 f, hc, h⟩
    obtain ⟨rfl, e1, e2⟩ := hE
    exact ⟨true, e1, fun _ ea _ => ⟨rfl, by rw [List.getElem?_set_self (by rw [hl]; exact List.getElem?_eq_some_iff.mp hn |>.1)], e2⟩, fun z => by cases z⟩
end
end Lf
set_option Elab.async false
set_option linter.all false
set_option maxRecDepth 100000
set_option maxHeartbeats 4000000
namespace Lf
open PySem PySem.Spec PyProof.Rows L2 L2H HotX LamX
/-! ### _law_told(lambda: ..) by data -/
def tRes {Kf : PySem.W.Frag} {Tf : List (Addr × Str)} (F : Fx Kf Tf) (δ : List Slot) : Res → TE
  | .ok d => tD F δ d
  | .error C => tDX F δ C
abbrev Fx.at_ {Kf : PySem.W.Frag} {Tf : List (Addr × Str)} (F : Fx Kf Tf) (E : XK) : Fx Kf Tf := ⟨F.O0, F.Hin, E, F.h0⟩
theorem StAt.reE {Kf : PySem.W.Frag} {Tf : List (Addr × Str)} {F : Fx Kf Tf} {O : Addr → Prop} {H : Hp} {σ : L2.St} {δ : List Slot} (E : XK) (h : StAt F O H σ δ) : StAt (F.at_ E) O H σ δ :=
  ⟨h.len, h.o0, h.dom, h.tabs, h.ext, fun i s q => by
    have g := h.slot i s q
    cases s <;> exact g, h.apart, h.afar⟩
/-- what is told of a result -/
def ToldIs (K : PySem.W.Frag) (cs : List Addr) (CS : Addr) (z : PyData) : Res → Prop
  | .ok d => z = d
  | .error C => ∃ j w, Ew K cs C j ∧ PySem.W.exmOne K (.ref C) (.ref CS) = some true ∧ ewords[j]? = some w ∧ z = .str w
structure ToldG (P : Program) (w : World) (K : PySem.W.Frag) (mg : Str → Option Value) (base : Heap) (cs : List Addr) (CS : Addr) (st : Stmt) : Prop where
  d : ∃ g fd, Fun K "_law_told" "_law_told" st g fd ∧ mg "_law_told" = some (.ref g) ∧ Binds K fd ["deed"] []
  sc : FnScope ["deed", "e"] ["deed"] (defScope st)
  bd : ∃ p1 p2 p3 p4 p5 p6 p7 p8 p9 p10, defBody st = [.Try [.Return (some (.Call (.Name "deed" p1) [] [] p2)) p3] [.ExceptHandler (some (.Name "FindError" p4)) (some "e") [.Return (some (.Call (.Name "_law_word" p5) [.Name "e" p6] [] p9)) p10] p7] [] [] p8]
  s1 : (defScope st).names.lookup ("FindError" : Str) = some .globalImplicit
  s2 : (defScope st).names.lookup ("_law_word" : Str) = some .globalImplicit
  s3 : (defScope st).names.lookup ("e" : Str) = some .local
  s4 : (defScope st).names.lookup ("deed" : Str) = some .local
  cls : mg "FindError" = some (.ref CS)
  word : ∃ fw fdw, FnE P w K mg base 1 fw fdw "e" (spWord K cs) ∧ mg "_law_word" = some (.ref fw) ∧ PySem.W.keepIn K (.ref fw) = true ∧ Binds K fdw ["e"] []
structure Co (X : Cx) (c : Addr) (q : Str) : Prop where
  code : X.env.code = .ref c
  qual : X.env.qual = q
abbrev Lamb (X : Cx) (N : List Str) {Kf : PySem.W.Frag} {Tf : List (Addr × Str)} (F : Fx Kf Tf) (scope : Scope) (k : Nat) (φ : Cx → Fx Kf Tf → Prop) : Prop :=
  ∀ (A : Around) (outer : List Env) (s : Shared) (H : Hp) (E : XK) (f c' : Addr), Ctx (lamN X A outer s H E scope f c') N scope → L2N.Takes (lamN X A outer s H E scope f c') (fun cls d _ H => (F.at_ E).E cls d H) → Room (k + 1) (lamN X A outer s H E scope f c').A → φ (lamN X A outer s H E scope f c') (F.at_ E)
section
variable {Kf : PySem.W.Frag} {Tf : List (Addr × Str)} {F : Fx Kf Tf} {δ : List Slot} {X : Cx} {N : List Str} {sc : Scope} {pos p lpos : Pos}
theorem x_told {cs : List Addr} {CS c P : Addr} {q : Str} {st : Stmt} {k : Nat} {z : PyData} {r : Res} {params : Arguments} {body : Expr} {scope : Scope} (cx : Ctx X N sc) (co : Co X c q) (Z : ToldG X.prog X.w X.K X.mg X.base cs CS st) (TB : TabB X.base X.mg c P) (hm : (P, q ++ "<lambda>") ∈ Tf) (hu : ∀ p ∈ Tf, p.1 = P → p.2 = q ++ "<lambda>")
    (hr : Room (k + 3) X.A) (hz : ToldIs X.K cs CS z r) (hb : Lamb X N F scope k fun Y F' => PE Y body (tRes F' δ r)) (L : lamSB sc scope = true := by decide +kernel) (hg : sc.names.lookup ("_law_told" : Str) = some .globalImplicit := by rfl) (hdef : defaultsOf params X.env = ([], []) := by rfl)
    (hbind : ∀ (q : Str) (cl : List (Str × Addr)) (pm cv ctv : Value), bindArgs (PySem.W.kla_fn "<lambda>" q params body scope cl pm cv ctv) ⟨[], []⟩ = pure [] := by intros; rfl) :
    PE X (.Call (.Name "_law_told" p) [.Lambda params body scope lpos] [] pos) (tD F δ z) := by
  obtain ⟨g, fd, Fn, gm, gb⟩ := Z.d
  obtain ⟨oc, od, kV, doc, pm, an, cdv, ct, osl, rfl, lk, hcd⟩ := Fn.ex
  obtain ⟨p1, p2, p3, p4, p5, p6, p7, p8, p9, p10, eb⟩ := Z.bd
  obtain ⟨fw, fdw, Fw, wm, wk, wb⟩ := Z.word
  have hG : GivesN X ["deed", "e"] "_law_told" (defScope st) g cdv (defBody st) "deed" (X.env.qual ++ "<lambda>") (TTw X.K CS fun cls H Q => ∃ C j w, cls = .ref C ∧ Ew X.K cs C j ∧ ewords[j]? = some w ∧ ∀ H', (∀ b o, H b = some o → H' b = some o) → Q (.str w) H') := by
    rw [eb]
    refine word_gives (p11 := p1) Z.sc.kind Z.s1 Z.cls (by decide) (fun f => rfl) Z.sc.nd rfl Z.s3 (fun f a => rfl) (by decide) (by decide) Fw Z.s2 wm wk wb (by decide) fun cls a oe H Q zn hf h => ?_
    obtain ⟨C, j, w, rfl, ew, hw, hq⟩ := h
    exact ⟨C, j, w, zn.zc, hf, ew, hw, hq⟩
  refine wkE (lamcall_n (T := Tf) (k := k) (Ng := ["deed", "e"]) (t := fun E => tRes (F.at_ E) δ r) (cx.gl hg) gm Fn.kp lk hcd gb Z.sc rfl (.inl Z.s4) hG TB co.code (by rw [co.qual]; exact hm) (by rw [co.qual]; exact hu) hr (by rw [cx.s]; exact lamS_by L) hdef hbind
    (fun A outer s H E f c' hr' => hb A outer s H E f c' ⟨cx.n, rfl, cx.nd, rfl⟩ (L2N.takes_of rfl rfl rfl rfl) hr')) fun σ H Q h => ?_
  obtain ⟨O, st, w⟩ := h
  refine ⟨st.tabs, fun H1 e1 t1 => ?_⟩
  show tRes (F.at_ _) δ r σ H1 Q
  cases r with
  | ok d =>
    cases (show z = d from hz)
    exact ⟨O, (st.grow e1 t1).reE _, fun v H2 e2 t2 g2 => w v H2 (e1.trans e2) t2 g2⟩
  | error C =>
    obtain ⟨j, wd, ew, exm, hw, rfl⟩ := hz
    refine ⟨O, (st.grow e1 t1).reE _, fun H2 e2 t2 => ⟨rfl, exm, C, j, wd, rfl, ew, hw, fun H3 k3 => ?_⟩⟩
    exact w _ _ ((e1.trans e2).trans fun a o g _ => k3 a o g) (t2.ext k3) rfl
end
/-! ### the law itself -/
def spLaw (T : List (Addr × Str)) (K : PySem.W.Frag) (R : List Int → Prop) : Sp := fun vs H Q _ => ∃ a ns, vs = [.ref a] ∧ SqL K H a (ns.map V.int) ∧ Tabs T H ∧ R ns ∧ ∀ H', Q (.bl true) H'
def startL (N : List Str) (ns : List Int) : List Slot := .scr ns :: List.replicate (N.length - 1) .non
theorem fn_law {G : Pg} {st : Stmt} {x : Str} {f c : Addr} {N : List Str} {p0 : Str} {k : Nat} {T : List (Addr × Str)} {R : List Int → Prop} {oc kV doc pm ct : Value} {od an : Option Addr} {osl : Array (Option Value)}
    (lk : G.K.lookup f = some ⟨oc, od, .func (PySem.W.fnOf x x (defArgs st) (defBody st) (defScope st) .none kV doc pm an (.ref c) ct), osl⟩) (hcd : PySem.W.codeIn G.K (.ref c) x = true) (S : FnScope N [p0] (defScope st))
    (body : ∀ (r : Rest) (F : Fx G.K T) (ns : List Int), CtD (G.cx N r) N (defScope st) F.E → Co (G.cx N r) c (x ++ ".<locals>.") → Room k r.A → R ns → PSs (G.cx N r) (defBody st) (sD F (startL N ns) { nx := fun _ => False, rt := fun d => d = .bool true })) :
    FnOk G.prog G.w G.K G.mg G.base (L2N.CX G.prog G.w) (k + 1) f (PySem.W.fnOf x x (defArgs st) (defBody st) (defScope st) .none kV doc pm an (.ref c) ct) [p0] (spLaw T G.K R) := by
  refine fn_of lk hcd S (fun vs H Q E h => ?_) fun A outer s H vs Q E hr h => ?_
  · obtain ⟨a, ns, rfl, _⟩ := h
    rfl
  · obtain ⟨a, ns, rfl, hs, tb, hR, q⟩ := h
    refine ⟨_, body ⟨A.deeper (envOfC x (defScope st) s.heap.objs.size f (.ref c)), s, H, envOfC x (defScope st) s.heap.objs.size f (.ref c), outer, envOfC x (defScope st) s.heap.objs.size f (.ref c) :: outer, [], fun _ => true, true, [], _⟩ ⟨fun _ => False, H, E, fun _ z => z.elim⟩ ns ⟨⟨rfl, rfl, S.nd, rfl⟩, fun _ => rfl, passes_of rfl, L2N.takes_of rfl rfl rfl rfl, rfl, rfl⟩ ⟨rfl, rfl⟩ hr hR, fun _ => False, [], ?_, (fun _ z => by cases z), ?_⟩
    · have hp : 1 ≤ N.length := by
        have := congrArg List.length S.pre
        rw [List.length_take] at this
        simp at this
        omega
      refine ⟨?_, fun a z => z, fun _ z => z.elim, tb, ExtN.refl H, fun i u q => ?_, fun i j u w q n h1 h2 m1 m2 => ?_, fun i j R u n h1 h2 p hp => ?_⟩
      rotate_right
      · unfold startL at h1
        cases i with
        | zero => cases h1
        | succ i =>
          rw [List.getElem?_cons_succ, List.getElem?_replicate] at h1
          split at h1 <;> cases h1
      · simp [startL, L2.start]
      · unfold startL at q
        unfold L2.start
        cases i with
        | zero => cases q; exact ⟨a, rfl, hs⟩
        | succ i =>
          rw [List.getElem?_cons_succ, List.getElem?_replicate] at q
          split at q
          · cases q; trivial
          · cases q
      · have no : ∀ {i : Nat} {u : Slot}, (startL N ns)[i]? = some u → u.mine = false := fun {i u} q => by
          unfold startL at q
          cases i with
          | zero => cases q; rfl
          | succ i =>
            rw [List.getElem?_cons_succ, List.getElem?_replicate] at q
            split at q
            · cases q; rfl
            · cases q
        rw [no h1] at m1
        cases m1
    · exact ⟨fun δ O' σ' H' m => m.elim, fun d v H' m e t g => (by cases (show d = .bool true from m); rw [show v = V.bl true from g]; exact q H'), fun δ O' σ' H' m => m.elim, fun δ O' σ' H' m => m.elim, fun c H' m => m.elim, fun _ _ _ _ _ _ m => m.elim, fun _ _ _ _ _ m => m.elim⟩
end Lf
set_option Elab.async false
set_option linter.all false
set_option maxRecDepth 100000
set_option maxHeartbeats 4000000
namespace Lf
open PySem PySem.Spec PyProof.Rows L2 L2H HotX LamX
/-! ### lists of one kind -/
section
variable {Kf : PySem.W.Frag} {Tf : List (Addr × Str)} {F : Fx Kf Tf} {K : PySem.W.Frag} {ds : List PyData} {α : Type}
theorem mp_b {l : List α} {g : α → Bool} : (l.map fun x => PyData.bool (g x)) = (l.map g).map PyData.bool := by rw [List.map_map]; rfl
theorem mp_i {l : List α} {g : α → Int} : (l.map fun x => PyData.int (g x)) = (l.map g).map PyData.int := by rw [List.map_map]; rfl
theorem mp_t {l : List α} {g : α → List Nat} : (l.map fun x => tx (g x)) = (l.map g).map tx := by rw [List.map_map]; rfl
theorem cd_allD {bs : List Bool} (h : ds = bs.map PyData.bool) : ClD F (rAll K) [.list ds] (.bool (bs.all id)) := by subst h; exact cd_all
theorem cd_sumD {ns : List Int} (h : ds = ns.map PyData.int) : ClD F (rSum K) [.list ds] (.int ns.sum) := by subst h; exact cd_sum
theorem cd_joinD {ls : List (List Nat)} {m : List Nat} (h : ds = ls.map tx) (hz : (ls.map (·.length)).sum + ls.length * m.length ≤ 16777216) : MtD F (fun x xs H Q => ∃ a p, ∃ ys : List Str, x = .str a ∧ xs = [.ref p] ∧ (SqL K H p (ys.map V.str) ∨ SqT K H p (ys.map V.str)) ∧ (ys.map (·.length)).sum + ys.length * a.length ≤ 16777216 ∧ Q (.str (Txt.join a ys)) H)
    (tx m) [.list ds] (tx (TL.joinL m ls)) := by subst h; exact cd_join hz
end
/-! ### names: mirrors -/
def lSmall : List Nat := [97, 98, 99, 100, 101, 102, 103, 104, 105, 106, 107, 108, 109, 110, 111, 112, 113, 114, 115, 116, 117, 118, 119, 120, 121, 122]
def lGreat : List Nat := [65, 66, 67, 68, 69, 70, 71, 72, 73, 74, 75, 76, 77, 78, 79, 80, 81, 82, 83, 84, 85, 86, 87, 88, 89, 90]
def lFig : List Nat := [48, 49, 50, 51, 52, 53, 54, 55, 56, 57]
def lOth : List Nat := [95, 45, 47, 46, 32]
def isNm (l : List Nat) : Bool := decide (1 ≤ l.length) && decide (l.length ≤ 30) && l.all fun c => decide (c ∈ lSmall ++ lGreat ++ lFig ++ lOth)
def isAs (l : List Nat) : Bool := decide (l.length ≤ 8) && l.all fun c => decide (c ∈ lSmall ++ lGreat ++ lFig)
def cod : PyData → List Nat
  | .str s => s.cps.toList
  | .dict _ => List.replicate 10001 0
  | _ => []
def isTx : PyData → Bool
  | .str _ => true
  | _ => false
def isName (d : PyData) : Bool := isTx d && isNm (cod d)
def isAsk (d : PyData) : Bool := isTx d && isAs (cod d)
def okd (d : PyData) : Prop := (cod d).length ≤ 10000
theorem cod_tx (l : List Nat) : cod (tx l) = l := by simp [cod, tx]
theorem isTx_tx (l : List Nat) : isTx (tx l) = true := rfl
theorem tx_of {d : PyData} (h : isTx d = true) : d = tx (cod d) := by
  cases d <;> first | exact str_tx _ | cases h
theorem okd_np {d : PyData} (h : okd d) : isP d = false := by
  cases d with
  | dict k =>
    have h : (List.replicate 10001 0).length ≤ 10000 := h
    rw [List.length_replicate] at h
    omega
  | _ => rfl
theorem okd_tx {l : List Nat} (h : l.length ≤ 10000) : okd (tx l) := by
  unfold okd
  rw [cod_tx]
  exact h
theorem isName_tx (l : List Nat) : isName (tx l) = isNm l := by simp [isName, isTx_tx, cod_tx]
theorem isAsk_tx (l : List Nat) : isAsk (tx l) = isAs l := by simp [isAsk, isTx_tx, cod_tx]
theorem kit_str {d : PyData} (h : isTx d = false) : kitB (tyN d) "str" = some false := by
  cases d <;> first | rfl | decide | cases h
def begins (l : List Nat) (i : Nat) : Bool :=
  let c := l.getD i 0
  let b := l.getD (i - 1) 0
  if c ∈ lOth then false else if i = 0 ∨ b ∈ lOth then true else if c ∈ lGreat then !decide (b ∈ lGreat) else !decide (decide (c ∈ lFig) = decide (b ∈ lFig))
def smallC (c : Nat) : Nat := if c ∈ lGreat then c + 32 else c
def startsL (l : List Nat) : List Nat := (List.range l.length).filter (begins l)
def natI (i : Nat) : PyData := .int (i : Int)
def firstL (l : List Nat) : List Nat := ((startsL l).map fun i => smallC (l.getD i 0)).take 8
theorem sm_great {c : Nat} (h : c ∈ lGreat) : 65 ≤ c ∧ c ≤ 90 := by
  simp [lGreat] at h
  omega
theorem sm_idx {c : Nat} (h : c ∈ lGreat) : Builtin.Str.occurrences ⟨lGreat.toArray⟩ ⟨[c].toArray⟩ 0 lGreat.length 1 = (c - 65) :: [] := by
  simp only [lGreat, List.mem_cons, List.not_mem_nil, or_false] at h
  rcases h with rfl | rfl | rfl | rfl | rfl | rfl | rfl | rfl | rfl | rfl | rfl | rfl | rfl | rfl | rfl | rfl | rfl | rfl | rfl | rfl | rfl | rfl | rfl | rfl | rfl | rfl <;> decide +kernel
theorem sm_at {c : Nat} (h : c ∈ lGreat) : atI lSmall ((c - 65 : Nat) : Int) = some (smallC c) := by
  unfold smallC
  rw [if_pos h]
  simp only [lGreat, List.mem_cons, List.not_mem_nil, or_false] at h
  rcases h with rfl | rfl | rfl | rfl | rfl | rfl | rfl | rfl | rfl | rfl | rfl | rfl | rfl | rfl | rfl | rfl | rfl | rfl | rfl | rfl | rfl | rfl | rfl | rfl | rfl | rfl <;> decide +kernel
def R_is_name (ds : List PyData) (r : Res) : Prop := ∃ d, ds = [d] ∧ okd d ∧ r = .ok (.bool (isName d))
def R_is_ask (ds : List PyData) (r : Res) : Prop := ∃ d, ds = [d] ∧ okd d ∧ r = .ok (.bool (isAsk d))
def R_need_name (C : Addr) (ds : List PyData) (r : Res) : Prop := ∃ d, ds = [d] ∧ okd d ∧ r = if isName d = true then .ok .none else .error C
def R_need_ask (C : Addr) (ds : List PyData) (r : Res) : Prop := ∃ d, ds = [d] ∧ okd d ∧ r = if isAsk d = true then .ok .none else .error C
def R_small (ds : List PyData) (r : Res) : Prop := ∃ c, ds = [tx [c]] ∧ r = .ok (tx [smallC c])
def R_begins (ds : List PyData) (r : Res) : Prop := ∃ l i, ds = [tx l, natI i] ∧ i < l.length ∧ l.length ≤ 10000 ∧ r = .ok (.bool (begins l i))
def R_starts (C : Addr) (ds : List PyData) (r : Res) : Prop := ∃ d, ds = [d] ∧ okd d ∧ r = if isName d = true then .ok (.list ((startsL (cod d)).map natI)) else .error C
def R_first_letters (C : Addr) (ds : List PyData) (r : Res) : Prop := ∃ d, ds = [d] ∧ okd d ∧ r = if isName d = true then .ok (tx (firstL (cod d))) else .error C
theorem startsL_len (l : List Nat) : (startsL l).length ≤ l.length := by
  unfold startsL
  refine Nat.le_trans (List.length_filter_le _ _) ?_
  rw [List.length_range]
  exact Nat.le_refl _
theorem startsL_mem {l : List Nat} {i : Nat} (h : i ∈ startsL l) : i < l.length := by
  unfold startsL at h
  exact List.mem_range.mp (List.mem_filter.mp h).1
theorem getD_at {l : List Nat} {i : Nat} (h : i < l.length) : atI l ((i : Nat) : Int) = some (l.getD i 0) := atI_nat (by rw [List.getElem?_eq_getElem h]; simp [h])
theorem R_starts_ok {C : Addr} {l : List Nat} (hz : okd (tx l)) (hn : isName (tx l) = true) : R_starts C [tx l] (.ok (.list ((startsL l).map natI))) := ⟨_, rfl, hz, by rw [if_pos hn, cod_tx]⟩
theorem R_first_ok {C : Addr} {l : List Nat} (hz : okd (tx l)) (hn : isName (tx l) = true) : R_first_letters C [tx l] (.ok (tx (firstL l))) := ⟨_, rfl, hz, by rw [if_pos hn, cod_tx]⟩
theorem R_need_name_ok {C : Addr} {d : PyData} (hz : okd d) (hn : isName d = true) : R_need_name C [d] (.ok .none) := ⟨_, rfl, hz, by rw [if_pos hn]⟩
theorem R_need_ask_ok {C : Addr} {d : PyData} (hz : okd d) (hn : isAsk d = true) : R_need_ask C [d] (.ok .none) := ⟨_, rfl, hz, by rw [if_pos hn]⟩
theorem filter_tt {α : Type} (l : List α) : (l.filter fun _ => true) = l := List.filter_eq_self.mpr fun _ _ => rfl
/-! texts of single signs -/
theorem joinL_nil (ls : List (List Nat)) : TL.joinL [] ls = ls.flatten := by
  induction ls with
  | nil => rfl
  | cons a r ih =>
    cases r with
    | nil => simp [TL.joinL]
    | cons b t => simp [TL.joinL] at ih ⊢; exact ih
theorem join1 {α : Type} (l : List α) (g : α → Nat) : TL.joinL [] (l.map fun x => [g x]) = l.map g := by
  rw [joinL_nil]
  induction l with
  | nil => rfl
  | cons a r ih => simp [ih]
theorem sum1 {α : Type} (l : List α) (g : α → Nat) : (((l.map fun x => [g x]).map (·.length)).sum) = l.length := by
  induction l with
  | nil => rfl
  | cons a r ih => simp at ih ⊢; omega
theorem join1_sz {α : Type} {l : List α} {g : α → Nat} (h : (l.map fun x => [g x]).length ≤ 10000) : ((l.map fun x => [g x]).map (·.length)).sum + (l.map fun x => [g x]).length * ([] : List Nat).length ≤ 16777216 := by
  rw [sum1]
  rw [List.length_map] at h ⊢
  simp
  omega
theorem cutl_sz {α : Type} {l : List α} {g : α → Nat} (h : (l.map fun x => [g x]).length ≤ 10000) : (TL.joinL [] (l.map fun x => [g x])).length ≤ 10000 := by
  rw [join1]
  rw [List.length_map] at h ⊢
  exact h
theorem cut_take {α : Type} (l : List α) (i : Nat) : cutL l none (some (i : Int)) = l.take i := by
  unfold cutL
  rw [HT.sIx_nat]
  have : HT.sIx l.length 0 none = 0 := rfl
  rw [this]
  simp [List.take_eq_take_iff]
/-! ### the laws' own numbers -/
def drawn (c k : Int) : Int :=
  let a := (c * 6364136223846793005 + (k + 1) * 1442695040888963407) % 340282366920938463463374607431768211507
  let b := a * a % 340282366920938463463374607431768211297
  (b % 18446744073709551557 + 1) * (b / 18446744073709551557 + 1) * b % 340282366920938463463374607431768211507
theorem drawn_nn (c k : Int) : 0 ≤ drawn c k := Int.emod_nonneg _ (by decide)
theorem drawn_lt (c k : Int) : drawn c k < 340282366920938463463374607431768211507 := Int.emod_lt_of_pos _ (by decide)
def R_law_drawn (ds : List PyData) (r : Res) : Prop := ∃ c k, ds = [.int c, .int k] ∧ r = .ok (.int (drawn c k))
theorem rem_abs {x m : Int} (h : 0 < m) : (x % m).natAbs < m.natAbs := by
  have := Int.emod_nonneg x (show m ≠ 0 by omega)
  have := Int.emod_lt_of_pos x h
  omega
theorem div_abs {x m : Int} (h0 : 0 ≤ x) (h : 0 < m) : (x / m).natAbs ≤ x.natAbs := by
  have := Int.ediv_nonneg h0 (Int.le_of_lt h)
  have := Int.ediv_le_self m h0
  omega
def lSig1 : List Nat := [100, 101, 102, 103, 120, 121, 122, 68, 69, 70, 71, 88, 89, 90]
def lSig2 : List Nat := [97, 97, 97, 98, 98, 98, 99, 65, 66, 67, 49, 50, 95, 45, 47, 46, 32]
def lAsk : List Nat := [97, 97, 98, 98, 99, 99, 65, 66, 67, 49, 50, 120]
def signC (m : Int) : Nat := if m % 11 = 0 then lSig1.getD (m / 16 % 14).toNat 0 else lSig2.getD (m / 16 % 17).toNat 0
def askC (m : Int) : Nat := lAsk.getD (m / 8 % 12).toNat 0
def nameL (m n : Int) : List Nat := (List.range (1 + m % n).toNat).map fun (j : Nat) => signC (drawn m (j : Int))
def askL (m n : Int) : List Nat := (List.range (m % (n + 1)).toNat).map fun (j : Nat) => askC (drawn m (j : Int))
def R_law_sign (ds : List PyData) (r : Res) : Prop := ∃ m, ds = [.int m] ∧ r = .ok (tx [signC m])
def R_law_name (ds : List PyData) (r : Res) : Prop := ∃ m n, ds = [.int m, .int n] ∧ 0 < n ∧ n ≤ 1000 ∧ r = .ok (tx (nameL m n))
def R_law_ask (ds : List PyData) (r : Res) : Prop := ∃ m n, ds = [.int m, .int n] ∧ 0 ≤ n ∧ n ≤ 1000 ∧ r = .ok (tx (askL m n))
/-- an item by a remainder -/
theorem at_rem {l : List Nat} {x n : Int} (hn : (l.length : Int) = n) (h0 : 0 < n) : atI l (x % n) = some (l.getD (x % n).toNat 0) := by
  have h1 := Int.emod_nonneg x (show n ≠ 0 by omega)
  have h2 := Int.emod_lt_of_pos x h0
  have e : x % n = ((x % n).toNat : Int) := by omega
  rw [e]
  exact getD_at (by omega)
theorem cmul_sq {a b : Int} (ha : a.natAbs < 2 ^ 200) (hb : b.natAbs < 2 ^ 200) : CMulW a b := wide_mul ha hb (by decide) (by decide) (by decide)
theorem rem_small {x m : Int} (h : 0 < m) (hm : m.natAbs ≤ 2 ^ 180) : (x % m).natAbs < 2 ^ 180 := Nat.lt_of_lt_of_le (rem_abs h) hm
theorem drawn_m1 (a : Int) : CMulW (a % 340282366920938463463374607431768211507) (a % 340282366920938463463374607431768211507) :=
  have h := rem_abs (x := a) (m := 340282366920938463463374607431768211507) (by decide)
  wide_mul (a := 130) (b := 130) (Nat.lt_trans h (by decide)) (Nat.lt_trans h (by decide)) (by decide) (by decide) (by decide)
theorem drawn_b (x : Int) : 0 ≤ x % 340282366920938463463374607431768211297 ∧ x % 340282366920938463463374607431768211297 < 340282366920938463463374607431768211297 := ⟨Int.emod_nonneg _ (by decide), Int.emod_lt_of_pos _ (by decide)⟩
theorem drawn_f1 {b : Int} : 1 ≤ b % 18446744073709551557 + 1 ∧ b % 18446744073709551557 + 1 ≤ 18446744073709551557 := by
  have h1 := Int.emod_nonneg b (show (18446744073709551557 : Int) ≠ 0 by decide)
  have h2 := Int.emod_lt_of_pos b (show (0 : Int) < 18446744073709551557 by decide)
  omega
theorem drawn_f2 {b : Int} (h0 : 0 ≤ b) (h : b < 340282366920938463463374607431768211297) : 1 ≤ b / 18446744073709551557 + 1 ∧ b / 18446744073709551557 + 1 ≤ 36893488147419103232 := by
  have h1 := Int.ediv_nonneg h0 (show (0 : Int) ≤ 18446744073709551557 by decide)
  omega
theorem drawn_m2 {x : Int} : CMulW ((x % 340282366920938463463374607431768211297) % 18446744073709551557 + 1) ((x % 340282366920938463463374607431768211297) / 18446744073709551557 + 1) := by
  have hb := drawn_b x
  have f1 := drawn_f1 (b := x % 340282366920938463463374607431768211297)
  have f2 := drawn_f2 hb.1 hb.2
  exact wide_mul (a := 70) (b := 70) (by omega) (by omega) (by decide) (by decide) (by decide)
theorem drawn_m3 {x : Int} : CMulW (((x % 340282366920938463463374607431768211297) % 18446744073709551557 + 1) * ((x % 340282366920938463463374607431768211297) / 18446744073709551557 + 1)) (x % 340282366920938463463374607431768211297) := by
  have hb := drawn_b x
  have f1 := drawn_f1 (b := x % 340282366920938463463374607431768211297)
  have f2 := drawn_f2 hb.1 hb.2
  exact wide_mul (a := 140) (b := 140) (wide_lt (a := 70) (b := 70) (by omega) (by omega)) (by omega) (by decide) (by decide) (by decide)
theorem div_big {i : Int} : CDivW i 18446744073709551557 := wide_div (b := 70) (by decide) (by decide) (by decide) (by decide)
theorem div_sm {i j : Int} (h0 : 0 < j) (h : j.natAbs < 2 ^ 100) : CDivW i j := wide_div (b := 100) h0 h (by decide) (by decide)
/-- the script's number -/
def cell (ns : List Int) (k : Nat) : Int := if ns = [] then (k : Int) * 7919 else ns.getD (k % ns.length) 0 + ((k : Int) / (ns.length : Int)) * 104729
def spCell (K : PySem.W.Frag) : Sp := fun vs H Q _ => ∃ a ns k, vs = [.ref a, .int ((k : Nat) : Int)] ∧ SqL K H a (ns.map V.int) ∧ ns.length ≤ 100000 ∧ k < 1000 ∧ ∀ H', (∀ b o, H b = some o → H' b = some o) → Q (.int (cell ns k)) H'
section
variable {Kf : PySem.W.Frag} {Tf : List (Addr × Str)} {F : Fx Kf Tf} {δ : List Slot} {X : Cx} {N : List Str} {sc : Scope} {pos p px : Pos} {x : Str} {e : Expr} {ns : List Int}
/-- the script, read -/
theorem scr_at {O : Addr → Prop} {H : Hp} {σ : L2.St} {i : Nat} (st : StAt F O H σ δ) (hs : δ[i]? = some (.scr ns)) : ∃ a, σ[i]? = some (some (.ref a)) ∧ SqL Kf H a (ns.map V.int) := by
  obtain ⟨a, e, g⟩ := st.slot i _ hs
  exact ⟨a, get_some e, sq_grow st.ext g⟩
theorem x_slen (i : Nat) {y : Str} (cx : Ctx X N sc) (hK : X.K = Kf) (hs : δ[i]? = some (.scr ns)) (hm : X.mg "len" = none) (hN : N[i]? = some y := by rfl) (hv : Vis sc y := by first | exact Or.inl rfl | exact Or.inr (Or.inl rfl) | exact Or.inr (Or.inr rfl)) (hg : sc.names.lookup ("len" : Str) = some .globalImplicit := by rfl) (hd : (y == ("__debug__" : Str)) = false := by decide) (hcd : (y == ("__classdict__" : Str)) = false := by decide) :
    PE X (.Call (.Name "len" p) [.Name y px] [] pos) (tD F δ (.int ns.length)) :=
  wkE (pe_callB call_len (cx.gl hg) hm PySem.boot_len (pa_cons (pe_var (i := i) (cx.at_ hN) (cx.vis hv) hd hcd) pa_nil)) fun σ H Q h => by
    obtain ⟨O, st, k⟩ := h
    obtain ⟨a, e, g⟩ := scr_at st hs
    subst hK
    exact ⟨.ref a, e, _, ns.length, rfl, .inl ⟨_, g, by rw [List.length_map]⟩, k _ H (ExtN.refl H) st.tabs rfl⟩
theorem x_cell (i : Nat) {y : Str} {k : Nat} {kk : Nat} (cx : Ctx X N sc) (hK : X.K = Kf) (hs : δ[i]? = some (.scr ns)) (h : Fd X.prog X.w X.K X.mg X.base "_law_cell" k ["script", "k"] (spCell X.K)) (hr : Room k X.A) (he : PE X e (tD F δ (.int ((kk : Nat) : Int)))) (hz : ns.length ≤ 100000) (hkk : kk < 1000) (hN : N[i]? = some y := by rfl)
    (hv : Vis sc y := by first | exact Or.inl rfl | exact Or.inr (Or.inl rfl) | exact Or.inr (Or.inr rfl)) (hg : sc.names.lookup ("_law_cell" : Str) = some .globalImplicit := by rfl) (hd : (y == ("__debug__" : Str)) = false := by decide) (hcd : (y == ("__classdict__" : Str)) = false := by decide)
    (hse : starEach [e] X.env = [(false, eval e X.env)] := by rfl) (h1 : starEach (.Name y px :: [e]) X.env = (false, eval (.Name y px) X.env) :: starEach [e] X.env := by rfl) (hpl : (backTo pos (starEach [e] X.env)).any (·.1) = false := by rfl) :
    PE X (.Call (.Name "_law_cell" p) [.Name y px, e] [] pos) (tD F δ (.int (cell ns kk))) := by
  obtain ⟨f, fd, G, m, kp, b⟩ := h.ex
  refine wkE (pe_call G hr (cx.gl hg) m kp b .nil passN (pa_cons (pe_var (i := i) (cx.at_ hN) (cx.vis hv) hd hcd) (pa_cons he pa_nil hse) h1) (by decide) h1 hpl) fun σ H Q h => ?_
  obtain ⟨O, st, w⟩ := h
  obtain ⟨a, e1, g⟩ := scr_at st hs
  subst hK
  refine ⟨.ref a, e1, O, st, fun v H1 e2 t1 g1 => ?_⟩
  rw [show v = V.int _ from g1]
  exact ⟨a, ns, kk, rfl, sq_grow e2 g, hz, hkk, fun H3 k3 => w _ H3 (e2.trans fun a o g _ => k3 a o g) (t1.ext k3) rfl⟩
end
end Lf
set_option Elab.async false
set_option linter.all false
set_option maxRecDepth 100000
set_option maxHeartbeats 4000000
namespace Lf
open PySem PySem.Spec PyProof.Rows L2 L2H HotX LamX
/-! ### what is raised inside an expression -/
section
variable {Kf : PySem.W.Frag} {Tf : List (Addr × Str)} {F : Fx Kf Tf} {δ : List Slot} {X : Cx} {N : List Str} {sc : Scope} {pos apos p p2 : Pos} {a b e o tg iter elt : Expr} {es ifs : List Expr} {d : PyData} {C : Addr}
theorem e_never : PE X e (fun _ _ _ => False) := ⟨fun _ _ _ _ _ _ h => h.elim⟩
theorem a_never : PA X es (fun _ _ _ => False) := ⟨fun _ _ _ _ _ _ _ h => h.elim⟩
theorem o_never {x : Option Expr} : PO X x (fun _ _ _ => False) := ⟨fun _ _ _ _ _ _ h => h.elim⟩
theorem c_never : PT X e (fun _ _ _ => False) := ⟨fun _ _ _ _ _ _ h => h.elim⟩
theorem cs_never : PTs X es (fun _ _ _ => False) := ⟨fun _ _ _ _ _ _ h => h.elim⟩
theorem x_slX {lo hi : Option Expr} {r : V → Option Int → Option Int → Hp → VK → Prop} (hr : SlR X r) (he : PE X e (tDX F δ C)) : PE X (.Subscript e (.Slice lo hi none p2) pos) (tDX F δ C) :=
  wkE (pe_slice hr he o_never o_never) fun σ H Q h => h
theorem x_m1X {id : String} {name : Str} {r : V → List V → Hp → VK → Prop} {s : Str} (slot : PySem.Slot "str" name id) (ty : typeOf (.builtin id) = pure (.type "method_descriptor")) (rule : MtR X id r) (ho : PE X o (tD F δ (.str s))) (he : PE X e (tDX F δ C)) (hs : starEach [e] X.env = [(false, eval e X.env)] := by rfl)
    (hbase : attributeBase o name X.env (eval o X.env) = eval o X.env := by rfl) (hline : (apos.endLine == pos.line) = true := by rfl) : PE X (.Call (.Attribute o name apos) [e] [] pos) (tDX F δ C) :=
  wkE (pe_m1 slot ty rule ho he hs hbase hline) fun σ H Q h => by
    obtain ⟨O, st, k⟩ := h
    exact ⟨O, st, fun v H1 e1 t1 g1 => ⟨⟨s, g1⟩, O, st.grow e1 t1, fun H2 e2 t2 => k H2 (e1.trans e2) t2⟩⟩
theorem x_lcX {scope : Scope} {i : Nat} {x : Str} {px : Pos} (own : List (Str × Nat)) (cx : Ctx X N sc) (hi : PE X iter (tDX F δ C)) (hok : blkC N sc scope own = true) (hg : Blk X scope fun Y => PG Y (.Name x px) (gName i)) (hs : ∀ x, foldedSetIterable iter X.env x = pure x := by intro _; rfl) :
    PE X (.ListComp elt [⟨.Name x px, iter, ifs, 0⟩] scope pos) (tDX F δ C) :=
  wkE (pe_lc (own := own) cx.calm cx.nd' (pi_list hi) (blk_ok cx hok) hg (fun s H C cl fp => cs_never) (fun s H C cl fp => e_never) hs) fun σ H Q h => h
end
end Lf
set_option Elab.async false
set_option linter.all false
set_option maxRecDepth 100000
set_option maxHeartbeats 4000000
namespace Lf
open PySem PySem.Spec PyProof.Rows L2 L2H HotX LamX
/-! ### enumerate(text) -/
def IteS (x : Str) : It :=
  ⟨fun i H => i < x.cps.size, fun i H v H' => ∃ T c, v = .ref T ∧ H T = none ∧ H' = upd H T (.tup [.int (i : Nat), .str ⟨#[c]⟩]) ∧ x.cps[i]? = some c, fun i H => x.cps.size = i⟩
theorem drawsS {P : Program} {w : World} {A : Around} (hh : A.handled = none) (it : Addr) (x : Str) (t : Tok) (ty : String) (hty : ty = "str_ascii_iterator" ∨ ty = "str_iterator") :
    Draws P w A it [it] x.cps.size (fun i v => ∃ c u, x.cps[i]? = some c ∧ v = .str ⟨#[c]⟩ u) (fun i h => h.IsStrIter it ty x t i) := by
  rcases hty with e | e
  · rw [e]; exact Draws.strAscii hh it x t
  · rw [e]; exact Draws.strWide hh it x t
theorem turn_enumS {P : Program} {w : World} {K : PySem.W.Frag} {elts : List Expr} {kk : Nat} {tpos : Pos} (e it : Addr) (x : Str) (t : Tok) (ty : String) (hty : ty = "str_ascii_iterator" ∨ ty = "str_iterator") :
    Turn P w K (.Tuple elts kk tpos) (IteS x) [e, it] e (fun i h => (∃ old, IsEnum h e it ((i : Nat) : Int) old) ∧ h.IsStrIter it ty x t i ∧ e ≠ it) where
  mem := by simp
  obj := fun i h st b hb => by
    obtain ⟨⟨old, he⟩, ⟨o, ho, hc, hd⟩, _⟩ := st
    have e' : b = e ∨ b = it := by simpa using hb
    rcases e' with z | z
    · rw [z]; exact ⟨_, he, fun v q => nomatch q⟩
    · rw [z]; exact ⟨o, ho, fun v q => by rw [hd] at q; cases q⟩
  keep := fun i h h' st k => let ⟨⟨old, he⟩, ⟨o, ho, r⟩, hne⟩ := st; ⟨⟨old, k e (by simp) _ he⟩, ⟨o, k it (by simp) o ho, r⟩, hne⟩
  item := by
    intro X hP hw hK hc i pins s σ H E I hf st hg
    subst hP hw hK
    obtain ⟨⟨old, he⟩, hit, hne⟩ := st
    have hel : e < s.heap.objs.size := Heap.lt_size he
    have hil : it < s.heap.objs.size := by obtain ⟨_, q, _⟩ := hit; exact Heap.lt_size q
    have D := drawsS (P := X.prog) (w := X.w) (A := X.A.in1) (I.ok.hd hc) it x t ty hty
    refine wpAny_pyNext_enum_itemD D he hit hg hne (by simpa using hne) fun u h' tk hu ho hit' hT hsz hk => ?_
    obtain ⟨c, t2, hcx, rfl⟩ := hu
    refine ⟨_, rfl, wpAny_letOwnedTupleGo_enum (s := { s with heap := h', toks := tk + 1 }) ho fun h'' he' sb => ?_⟩
    have hT2 : h''.get? s.heap.objs.size = some { cls := .type "tuple", data := .seq #[.int i tk, .str ⟨#[c]⟩ t2] } := (sb.2 _ (Nat.ne_of_gt hel)).trans hT
    have new : ObjOk X.prog X.w (upd H s.heap.objs.size (.tup [.int (i : Nat), .str ⟨#[c]⟩])) h'' s.heap.objs.size (.tup [.int (i : Nat), .str ⟨#[c]⟩]) :=
      ⟨by show 2 ≤ sizeLine; decide, [.int i tk, .str ⟨#[c]⟩ t2], .cons ⟨_, rfl⟩ (.cons ⟨_, rfl⟩ .nil), ⟨_, hT2, rfl, _, rfl⟩⟩
    have I1 : Inv X pins σ (upd H s.heap.objs.size (.tup [.int (i : Nat), .str ⟨#[c]⟩])) { s with heap := h'', toks := tk + 1 } :=
      I.turnedNew (ch := [e, it]) (fun b ob hb q => (sb.2 b (fun z => hb (by simp [z]))).trans (hk b ob (fun z => hb (by simp [z])) (fun z => hb (by simp [z])) q)) hf (Nat.le_refl _) new
    obtain ⟨oi, q1, q2⟩ := hit'
    refine ⟨.ref s.heap.objs.size, _, I1, rfl, ⟨_, c, rfl, I.hok.fresh (Nat.le_refl _), rfl, hcx⟩, ⟨⟨.str ⟨#[c]⟩ t2, ?_⟩, ⟨oi, (sb.2 it (Ne.symm hne)).trans q1, q2⟩, hne⟩, fun b hb => ?_⟩
    · have e1 : ((i + 1 : Nat) : Int) = (i : Int) + 1 := by omega
      rw [e1]; exact he'
    · have hb' : b < s.heap.objs.size := by
        have e' : b = e ∨ b = it := by simpa using hb
        rcases e' with z | z
        · rw [z]; exact hel
        · rw [z]; exact hil
      rw [upd_ne (Nat.ne_of_lt hb')]
      exact (hf b hb).1
  done := by
    intro X hP hw hK hc i pins s σ H E I hf st hg
    subst hP hw hK
    obtain ⟨⟨old, he⟩, hit, hne⟩ := st
    obtain ⟨f0, f1, f2, f3, f4, f5⟩ := hf it (by simp)
    have hg' : x.cps.size = i := hg
    subst hg'
    have D := drawsS (P := X.prog) (w := X.w) (A := X.A.in1) (I.ok.hd hc) it x t ty hty
    exact wpAny_pyNext_enum_endD D he hit fun h' eb => ⟨rfl, I.turned (t' := s.toks) (fun b o hb q => eb b o hb q) f0 f1 f3 f4 f5⟩
  self := fun A i s Q E st h => let ⟨⟨_, he⟩, _⟩ := st; wpAny_pyIter_enum he h
def iEnumS (ta : TA) : TI := fun σ H R => ta σ H fun vs H1 => ∃ x, vs = [.str x] ∧ R (IteS x) H1
theorem pi_enumS {X : Cx} {e : Expr} {ta : TA} {p pos tpos : Pos} {elts : List Expr} {kk : Nat} (hg : Gl X "enumerate") (hm : X.mg "enumerate" = none) (ha : PA X [e] ta) (hs : starEach [e] X.env = [(false, eval e X.env)] := by rfl) :
    PI X (.Tuple elts kk tpos) (.Call (.Name "enumerate" p) [e] [] pos) (iEnumS ta) := by
  refine ⟨fun pins s σ H R I h => ?_⟩
  refine Call_ (ld_blt I hg hm boot_enumerate (PyProof.Rows.callWith_type1 (thn (ha.run pos pins s σ H _ I h) fun us s1 hh => ?_) hs rfl))
  obtain ⟨vs, H1, I1, r1, x, ex, q⟩ := hh
  subst ex
  cases r1 with
  | cons r rr =>
    cases rr
    obtain ⟨t, rfl⟩ := r
    refine call_enumerate_str fun h' he hit hsz hk => wpAny_pyIter_enum he ?_
    have I2 : Inv X pins σ H1 { s1 with heap := h' } := I1.kept (t' := s1.toks) hk
    have hty : strIterType x = "str_ascii_iterator" ∨ strIterType x = "str_iterator" := by
      unfold strIterType
      split
      · exact .inl rfl
      · exact .inr rfl
    refine ⟨s1.heap.objs.size + 1, [s1.heap.objs.size + 1, s1.heap.objs.size], _, _, H1, rfl, I2, turn_enumS (s1.heap.objs.size + 1) s1.heap.objs.size x t _ hty, ⟨⟨.none, he⟩, hit, Nat.succ_ne_self _⟩, fun b hb => ?_, q⟩
    have e' : b = s1.heap.objs.size + 1 ∨ b = s1.heap.objs.size := by simpa using hb
    have hle : s1.heap.objs.size ≤ b := by
      rcases e' with z | z
      · rw [z]; exact Nat.le_add_right _ _
      · rw [z]; exact Nat.le_refl _
    exact I1.fpOk hle (I1.hok.fresh hle)
section
variable {Kf : PySem.W.Frag} {Tf : List (Addr × Str)} {F : Fx Kf Tf} {δ : List Slot} {X : Cx} {N : List Str} {sc : Scope} {pos p tpos : Pos} {e : Expr} {elts : List Expr} {kk : Nat} {l : List Nat} {ds : List PyData}
def enumT (l : List Nat) : List (Nat × Nat) := (List.range l.length).map fun i => (i, l.getD i 0)
def encT (x : Nat × Nat) : PyData := .tuple [natI x.1, tx [x.2]]
theorem i_enumS (cx : Ctx X N sc) (hm : X.mg "enumerate" = none) (h : PA X [e] (aD F δ [tx l])) (hg : sc.names.lookup ("enumerate" : Str) = some .globalImplicit := by rfl) (hs : starEach [e] X.env = [(false, eval e X.env)] := by rfl) :
    PI X (.Tuple elts kk tpos) (.Call (.Name "enumerate" p) [e] [] pos) (iD F δ ((enumT l).map encT)) := wkI (pi_enumS (cx.gl hg) hm h hs) fun σ H R q => by
  obtain ⟨O, st, k⟩ := q
  replace k := iD_one k
  refine ⟨O, st, fun vs H1 e1 t1 g1 => ?_⟩
  obtain ⟨v, r, rfl, ev, rfl⟩ := g1
  refine ⟨⟨l.toArray⟩, by rw [show v = V.str ⟨l.toArray⟩ from ev], k (IteS ⟨l.toArray⟩) .none .non H1 e1 t1 rfl (fun O1 H2 i d g2 dom t2 hd => ?_) fun O1 H2 g2 => ?_⟩
  · have hi : i < l.length := by
      have := (List.getElem?_eq_some_iff.mp hd).1
      simpa [enumT] using this
    have hd' : d = encT (i, l.getD i 0) := by
      unfold enumT at hd
      rw [List.getElem?_map, List.getElem?_map, List.getElem?_range hi] at hd
      exact (Option.some.inj hd).symm
    refine ⟨by show i < (⟨l.toArray⟩ : Str).cps.size; simpa using hi, fun x H3 hy => ?_⟩
    obtain ⟨T, c, rfl, hT, rfl, hc⟩ := hy
    have : l[i]? = some c := by simpa using hc
    have hc2 : l.getD i 0 = c := by simp [this]
    refine ⟨ext_new hT, tabs_new t2 hT, ?_⟩
    rw [hd']
    refine ⟨T, _, rfl, fresh_ok dom hT, upd_same, _, _, rfl, rfl, _, _, rfl, ?_, rfl⟩
    show V.str ⟨#[c]⟩ = V.str ⟨[l.getD i 0].toArray⟩
    rw [hc2]
  · show (⟨l.toArray⟩ : Str).cps.size = ((enumT l).map encT).length
    simp [enumT]
/-- enumerate(list) -/
def enumL (ds : List PyData) : List (Nat × PyData) := (List.range ds.length).map fun i => (i, ds.getD i .none)
def encL (x : Nat × PyData) : PyData := .tuple [natI x.1, x.2]
theorem i_enumL (cx : Ctx X N sc) (hm : X.mg "enumerate" = none) (h : PA X [e] (aD F δ [.list ds])) (hg : sc.names.lookup ("enumerate" : Str) = some .globalImplicit := by rfl) (hs : starEach [e] X.env = [(false, eval e X.env)] := by rfl) :
    PI X (.Tuple elts kk tpos) (.Call (.Name "enumerate" p) [e] [] pos) (iD F δ ((enumL ds).map encL)) := wkI (pi_enum (cx.gl hg) hm h hs) fun σ H R q => by
  obtain ⟨O, st, k⟩ := q
  replace k := iD_one k
  refine ⟨O, st, fun vs H1 e1 t1 g1 => ?_⟩
  obtain ⟨v, r, rfl, ev, rfl⟩ := g1
  obtain ⟨a, xs, rfl, na, ga, ra⟩ := id ev
  refine ⟨a, xs, rfl, SqL.of ga, k (Ite X.K a) (.list ds) (.ref a) H1 e1 t1 ev (fun O1 H2 i d g2 dom t2 hd => ?_) fun O1 H2 g2 => ?_⟩
  · have hi : i < ds.length := by
      have := (List.getElem?_eq_some_iff.mp hd).1
      simpa [enumL] using this
    have hx : ds[i]? = some (ds.getD i .none) := by rw [List.getD_eq_getElem?_getD, List.getElem?_eq_getElem hi]; rfl
    have hd' : d = encL (i, ds.getD i .none) := by
      unfold enumL at hd
      rw [List.getElem?_map, List.getElem?_map, List.getElem?_range hi] at hd
      exact (Option.some.inj hd).symm
    obtain ⟨b, ys, eb, nb, gb, rb⟩ := g2
    cases eb
    obtain ⟨y, hy, dy⟩ := rb.get hx
    refine ⟨⟨ys, y, SqL.of gb, hy⟩, fun x H3 hyld => ?_⟩
    obtain ⟨T, x', rfl, hT, rfl, hx'⟩ := hyld
    have := hx' ys (SqL.of gb)
    rw [hy] at this
    cases this
    refine ⟨ext_new hT, tabs_new t2 hT, ?_⟩
    rw [hd']
    exact ⟨T, _, rfl, fresh_ok dom hT, upd_same, _, _, rfl, rfl, _, _, rfl, dy.grow (ext_new hT), rfl⟩
  · obtain ⟨b, ys, eb, nb, gb, rb⟩ := g2
    cases eb
    refine ⟨ys, SqL.of gb, ?_⟩
    rw [rb.len]
    simp [enumL]
end
/-! ### x, y = [], e -/
section
variable {Kf : PySem.W.Frag} {Tf : List (Addr × Str)} {F : Fx Kf Tf} {δ : List Slot} {X : Cx} {N : List Str} {sc : Scope} {pos px py pt pt2 : Pos} {a b : Expr} {x y : Str} {ds : List PyData} {d : PyData} {rest : List Stmt} {P : Post} {O : Addr → Prop} {H H' : Hp} {σ : L2.St} {q : Addr} {xs : List V}
theorem own_mid (st : StAt F O H σ δ) (e : ExtN H H') (t : Tabs F.T H') (hn : ∀ a, Lives H a → a ≠ q) (hq : H' q = some (.lst xs)) : StAt F (Shut O q) H' σ δ := by
  have kp : ∀ d v, Dt O H d v → Dt (Shut O q) H' d v := fun d v g => Dt.imp (fun a u n g t => ⟨fun z => z.elim n (fun e => hn a ⟨u, g, t⟩ e), e a u g t⟩) d v g
  have kpA : ∀ d v, DtAll O H d v → DtAll (Shut O q) H' d v := fun d v g => DtAll.imp (fun a u n g t => ⟨fun z => z.elim n (fun e => hn a ⟨u, g, t⟩ e), e a u g t⟩) d v g
  refine ⟨st.len, fun a z => .inl (st.o0 a z), fun a z => ?_, t, st.ext.trans e, fun i s r => ?_, st.apart, st.afar⟩
  · rcases z with z | z
    · exact (st.dom a z).grow e
    · rw [z]; exact ⟨_, hq, fun _ z => by cases z⟩
  · have g := st.slot i s r
    cases s with
    | non => trivial
    | dat d => obtain ⟨v, a, b⟩ := g; exact ⟨v, a, kp _ _ b⟩
    | own ds' => obtain ⟨p, vs', a, b, c, g, r'⟩ := g; exact ⟨p, vs', a, .inl b, c, e _ _ g (fun _ z => by cases z), kpA _ _ r'⟩
    | odk kvs => obtain ⟨p, vs', a, b, c, g, r'⟩ := g; exact ⟨p, vs', a, .inl b, c, e _ _ g (fun _ z => by cases z), r'.imp kpA⟩
    | res R => exact res_keep g (fun a ha => (g.2.2 a ha).2.2.same e) (fun a ha => .inl (g.2.2 a ha).1) kp
    | scr ns => exact g
    | any φ => exact g
theorem s_parO (i j : Nat) {kt k2 : Nat} (cx : CtD X N sc F.E) (ha : PE X a (tDL F δ ds)) (hb : PE X b (tD F δ d)) (g : PSs X rest (sD F ((δ.set i (.own ds)).set j (.dat d)) P)) (hi : N[i]? = some x := by rfl) (hj : N[j]? = some y := by rfl) (hij : i ≠ j := by decide) (hx : sc.names.lookup x = some .local := by rfl) (hy : sc.names.lookup y = some .local := by rfl)
    (hw : swappedStores [.Tuple [.Name x px, .Name y py] kt pt] (.Tuple [a, b] k2 pt2) (envS sc) = pure (some [x, y]) := by rfl) (hs : swapsWithSole [.Tuple [.Name x px, .Name y py] kt pt] (.Tuple [a, b] k2 pt2) pos.line X.env = pure false := by rfl)
    (h1 : starEach (a :: [b]) X.env = (false, eval a X.env) :: starEach [b] X.env := by rfl) (h2 : starEach [b] X.env = (false, eval b X.env) :: starEach [] X.env := by rfl) :
    PSs X (.Assign [.Tuple [.Name x px, .Name y py] kt pt] (.Tuple [a, b] k2 pt2) pos :: rest) (sD F δ P) :=
  wkSs (pss_cons (ps_par cx.calm cx.nd' (cx.at_ hi) (cx.at_ hj) hij (by rw [cx.s]; exact hx) (by rw [cx.s]; exact hy) (pa_cons ha (pa_cons hb pa_nil h2) h1) (sw_eq cx.toCtx hw) hs) g) fun D σ H h' => by
    obtain ⟨O, τ, s0, tm, w⟩ := h'
    refine ⟨O, s0, fun p xs H1 e1 t1 n1 g1 a1 => ?_⟩
    refine ⟨Shut O p, own_mid s0 e1 t1 n1 g1, fun v H2 e2 t2 g2 => ?_⟩
    obtain ⟨s3, t3⟩ := own_out s0 tm i (e1.trans e2) t2 n1 (e2 _ _ g1 (fun _ z => by cases z)) (a1.grow e2)
    exact ⟨_, _, rfl, Shut O p, τ, s3.setD j g2, t3, w⟩
end
end Lf
set_option Elab.async false
set_option linter.all false
set_option maxRecDepth 100000
set_option maxHeartbeats 4000000
namespace Lf
open PySem PySem.Spec PyProof.Rows L2 L2H HotX LamX
section
variable {Kf : PySem.W.Frag} {Tf : List (Addr × Str)} {F : Fx Kf Tf} {δ : List Slot} {X : Cx} {N : List Str} {sc : Scope} {pos p px tpos : Pos} {a b e : Expr} {es : List Expr} {x : Str} {ds : List PyData} {d : PyData} {rest : List Stmt} {P : Post} {R : List PyData → Res → Prop} {k : Nat} {ps : List Str} {r : Res}
/-- a call, whatever comes of it -/
theorem x_callR (cx : Ctx X N sc) (tk : L2N.Takes X (fun cls d _ H => F.E cls d H)) (h : Fd X.prog X.w X.K X.mg X.base x k ps (spD Tf R)) (hr : Room k X.A) (ha : PA X (e :: es) (aD F δ ds)) (hR : R ds r) (hg : sc.names.lookup x = some .globalImplicit := by rfl) (hdb : (x == ("__debug__" : Str)) = false := by decide)
    (he : starEach (e :: es) X.env = (false, eval e X.env) :: starEach es X.env := by rfl) (hpl : (backTo pos (starEach es X.env)).any (·.1) = false := by rfl) : PE X (.Call (.Name x p) (e :: es) [] pos) (tRes F δ r) := by
  cases r with
  | ok d => exact x_call cx h hr ha hR hg hdb he hpl
  | error C => exact x_callX cx tk h hr ha hR hg hdb he hpl
/-! ### text * int -/
def rMulS : R2 := fun x y H Q => ∃ s n, x = .str s ∧ y = .int n ∧ MulOk s n ∧ Q (.str (Txt.mul s n)) H
theorem op_repS : OpR X (binaryOp .Mult) rMulS := by
  intro pins s σ H x y v u Q I rx ry h
  obtain ⟨a, n, rfl, rfl, hok, q⟩ := h
  obtain ⟨t, rfl⟩ := rx
  obtain ⟨t', rfl⟩ := ry
  exact PySem.SB.mul hok fun t2 k2 => ⟨.str (Txt.mul a n), H, I.kept (t' := k2) (fun _ _ e => e), ⟨t2, rfl⟩, q⟩
theorem mul_tx (l : List Nat) {n : Nat} (hn : 1 ≤ n) : Txt.mul ⟨l.toArray⟩ (n : Int) = ⟨(List.replicate n l).flatten.toArray⟩ := by
  unfold Txt.mul
  rw [if_neg (by omega)]
  have key : ∀ (k : Nat) (acc : Array Nat), ((List.replicate k l.toArray).foldl (· ++ ·) acc) = acc ++ (List.replicate k l).flatten.toArray := fun k => by
    induction k with
    | zero => intro acc; simp
    | succ k ih => intro acc; rw [List.replicate_succ, List.foldl_cons, ih, List.replicate_succ, List.flatten_cons]; simp
  split
  · rename_i h
    simp at h
    rcases h with h | h
    · have : n = 1 := by omega
      subst this
      simp
    · have : l = [] := by simpa [Str.length] using h
      subst this
      simp
  · rw [Int.toNat_natCast]
    show (⟨(List.replicate n l.toArray).foldl (· ++ ·) #[]⟩ : Str) = _
    rw [key]
    simp
theorem od_repS {l : List Nat} {n : Nat} (hn : 1 ≤ n) (hn2 : n ≤ 100000) (hz : l.length * n ≤ 100000) : OpD F rMulS (tx l) (.int (n : Int)) (tx (List.replicate n l).flatten) := fun O H x y Q _ w hx hy k => by
  refine ⟨_, _, hx, hy, ⟨?_, fun _ _ => ?_, fun _ _ => ?_⟩, k _ H (ExtN.refl H) w (by rw [mul_tx l hn]; rfl)⟩
  · simp
    omega
  · rw [tx_len]
    refine Int.not_lt.mpr (Int.le_ediv_of_mul_le (by omega) ?_)
    have : ((l.length : Int) * (n : Int)) = ((l.length * n : Nat) : Int) := by simp
    rw [this]
    omega
  · rw [tx_len, Int.toNat_natCast]
    unfold Builtin.Str.tooLong
    refine decide_eq_false ?_
    have : (100000 : Nat) ≤ sizeLine := by decide
    omega
theorem low1 : ∀ c, c < 128 → Txt.lower ⟨#[c]⟩ = ⟨#[lowC c]⟩ := by
  have h : (List.range 128).all (fun c => (Txt.lower ⟨#[c]⟩).cps == #[lowC c]) = true := by decide +kernel
  intro c hc
  have := List.all_eq_true.mp h c (List.mem_range.mpr hc)
  exact Str.ext' (by simpa using this)
theorem md_low1 {c : Nat} (hc : c < 128) : MtD F (fun x xs H Q => ∃ a, x = .str a ∧ xs = [] ∧ a.length ≤ 5592405 ∧ Q (.str (Txt.lower a)) H) (tx [c]) [] (tx [lowC c]) := fun O H x xs Q _ w hx h k => by
  cases (show xs = [] from h)
  exact ⟨_, hx, rfl, by rw [tx_len]; simp, k _ H (ExtN.refl H) w (by show V.str (Txt.lower ⟨#[c]⟩) = _; rw [low1 c hc])⟩
/-- x.append(e) -/
theorem s_appN (i : Nat) {pa pc : Pos} (cx : Ctx X N sc) (hi : δ[i]? = some (.own ds)) (h : PE X e (tD F δ d)) (hz : ds.length < 100000) (g : PSs X rest (sD F (δ.set i (.own (ds ++ [d]))) P)) (hN : N[i]? = some x := by rfl) (hv : Vis sc x := by first | exact Or.inl rfl | exact Or.inr (Or.inl rfl) | exact Or.inr (Or.inr rfl))
    (hd : (x == ("__debug__" : Str)) = false := by decide) (hcd : (x == ("__classdict__" : Str)) = false := by decide) (hbase : attributeBase (.Name x px) "append" X.env (eval (.Name x px) X.env) = eval (.Name x px) X.env := by rfl)
    (hfew : ((backTo pc (starEach [e] X.env)).all (fun x => !x.1) && (backToKw pc (keywordEach [] X.env)).all (fun x => x.1.isSome)
      && decide ([e].length + ([] : List Keyword).length + (if ([] : List Keyword).isEmpty then 0 else 1) < 30)) = true := by rfl)
    (hline : (pa.endLine == pc.line) = true := by rfl) (hse : starEach [e] X.env = (false, eval e X.env) :: starEach [] X.env := by rfl) (hs : swapsWith (.Call (.Attribute (.Name x px) "append" pa) [e] [] pc) none pos.line X.env = pure false := by rfl) :
    PSs X (.Expr (.Call (.Attribute (.Name x px) "append" pa) [e] [] pc) pos :: rest) (sD F δ P) :=
  s_app i cx hi h hz g hN hv hd hcd (pe_bm PySem.F.plainAttrs_list PySem.F.slot_list_append PySem.F.type_list_append mt_append (pe_var (i := i) (cx.at_ hN) (cx.vis hv) hd hcd) (pa_cons h pa_nil hse) hbase hfew hline hse rfl) hs
/-- x[n] = e, the list one's own -/
theorem s_put (i : Nat) {n : Int} {j : Nat} (cx : CtD X N sc F.E) (hi : δ[i]? = some (.own ds)) (h : PE X e (tD F δ d)) (hn : PE X b (tD F δ (.int n))) (hj : ixN ds.length n = some j) (g : PSs X rest (sD F (δ.set i (.own (ds.set j d))) P)) (hN : N[i]? = some x := by rfl) (hv : Vis sc x := by first | exact Or.inl rfl | exact Or.inr (Or.inl rfl) | exact Or.inr (Or.inr rfl))
    (hd : (x == ("__debug__" : Str)) = false := by decide) (hcd : (x == ("__classdict__" : Str)) = false := by decide) (hs : swapsWithSole [.Subscript (.Name x px) b tpos] e pos.line X.env = pure false := by rfl) (hw : swappedStores [.Subscript (.Name x px) b tpos] e (envS sc) = pure none := by rfl) (h1 : (assignEach [.Subscript (.Name x px) b tpos] X.env).map (·.2) = [assign (.Subscript (.Name x px) b tpos) X.env] := by rfl)
    (ha : ∀ v, assign (.Subscript (.Name x px) b tpos) X.env v = (do
      let ov ← holding [v] (eval (.Name x px) X.env)
      let iv ← holding [v, ov] (eval b X.env)
      standAt tpos
      holding [v, ov, iv] (setItem ov iv v)
      release [v, ov, iv] []) := by intro _; rfl) :
    PSs X (.Assign [.Subscript (.Name x px) b tpos] e pos :: rest) (sD F δ P) :=
  wkSs (pss_cons (ps_asg h (pg_sub (pe_var (i := i) (cx.at_ hN) (cx.vis hv) hd hcd) hn set_list ha) hs (sw_eq cx.toCtx hw) h1) g) fun D σ H h' => by
    obtain ⟨O, τ, s0, tm, w⟩ := h'
    obtain ⟨q, xs, e1, o1, nl, gq, r⟩ := s0.slot i _ hi
    have hv := get_some e1
    refine ⟨O, s0, fun v H1 ex1 t1 g1 => ⟨.ref q, hv, O, s0.grow ex1 t1, fun y H2 ex2 t2 g2 => ?_⟩⟩
    have gq2 := ex2 _ _ (ex1 _ _ gq (fun _ z => by cases z)) (fun _ z => by cases z)
    obtain ⟨s1, tm1⟩ := own_turn ((s0.grow ex1 t1).grow ex2 t2) ((tm.grow ex1).grow ex2) hi hv gq2 (((r.grow ex1).grow ex2).set (g1.grow ex2) j)
    exact ⟨q, xs, n, j, rfl, g2, gq2, by rw [r.len]; exact hj, O, τ, s1, tm1, w⟩
end
end Lf
set_option Elab.async false
set_option linter.all false
set_option maxRecDepth 100000
set_option maxHeartbeats 4000000
namespace Lf
open PySem PySem.Spec PyProof.Rows L2 L2H HotX LamX
/-! ### the law's own starts -/
def kNone : List Nat := [110, 111, 110, 101]
def kSmall : List Nat := [115, 109, 97, 108, 108]
def kGreat : List Nat := [103, 114, 101, 97, 116]
def kFig : List Nat := [102, 105, 103, 117, 114, 101]
def kindL (c : Nat) : List Nat := if c ∈ lSmall then kSmall else if c ∈ lFig then kFig else if c ∈ lGreat then kGreat else kNone
theorem kd1 {c : Nat} (h : decide (c ∈ lSmall) = true) : tx kSmall = tx (kindL c) := by
  unfold kindL
  rw [if_pos (by simpa using h)]
theorem kd2 {c : Nat} (h : decide (c ∈ lSmall) = false) (h2 : decide (c ∈ lFig) = true) : tx kFig = tx (kindL c) := by
  unfold kindL
  rw [if_neg (by simpa using h), if_pos (by simpa using h2)]
theorem kd3 {c : Nat} (h : decide (c ∈ lSmall) = false) (h2 : decide (c ∈ lFig) = false) (h3 : decide (c ∈ lGreat) = true) : tx kGreat = tx (kindL c) := by
  unfold kindL
  rw [if_neg (by simpa using h), if_neg (by simpa using h2), if_pos (by simpa using h3)]
theorem kd4 {c : Nat} (h : decide (c ∈ lSmall) = false) (h2 : decide (c ∈ lFig) = false) (h3 : decide (c ∈ lGreat) = false) : tx kNone = tx (kindL c) := by
  unfold kindL
  rw [if_neg (by simpa using h), if_neg (by simpa using h2), if_neg (by simpa using h3)]
def R_law_kind (ds : List PyData) (r : Res) : Prop := ∃ c, ds = [tx [c]] ∧ r = .ok (tx (kindL c))
def pairsD : List PyData := [.tuple [tx [110, 111, 110, 101], tx [115, 109, 97, 108, 108]], .tuple [tx [110, 111, 110, 101], tx [103, 114, 101, 97, 116]], .tuple [tx [110, 111, 110, 101], tx [102, 105, 103, 117, 114, 101]], .tuple [tx [115, 109, 97, 108, 108], tx [103, 114, 101, 97, 116]], .tuple [tx [102, 105, 103, 117, 114, 101], tx [103, 114, 101, 97, 116]]] ++ [.tuple [tx [115, 109, 97, 108, 108], tx [102, 105, 103, 117, 114, 101]], .tuple [tx [103, 114, 101, 97, 116], tx [102, 105, 103, 117, 114, 101]], .tuple [tx [102, 105, 103, 117, 114, 101], tx [115, 109, 97, 108, 108]]]
def hitK (b k : List Nat) : Bool := pairsD.any fun z => PyData.eqv z (.tuple [tx b, tx k])
def stepK (s : List Nat × List Nat) (x : Nat × Nat) : List Nat × List Nat := (if hitK s.2 (kindL x.2) = true then s.1 ++ [x.1] else s.1, kindL x.2)
def foldK (pre : List (Nat × Nat)) : List Nat × List Nat := pre.foldl stepK ([], kNone)
theorem foldK_snoc (pre : List (Nat × Nat)) (x : Nat × Nat) : foldK (pre ++ [x]) = stepK (foldK pre) x := by
  unfold foldK
  rw [List.foldl_append]
  rfl
def lawStarts (l : List Nat) : List Nat := (foldK (enumT l)).1
def R_law_starts (ds : List PyData) (r : Res) : Prop := ∃ l, ds = [tx l] ∧ l.length ≤ 10000 ∧ r = .ok (.list ((lawStarts l).map natI))
theorem kind_ok (c : Nat) : ∀ x ∈ kindL c, x < 1114112 := by
  unfold kindL
  split
  · decide
  · split
    · decide
    · split
      · decide
      · decide
theorem snd_ok (pre : List (Nat × Nat)) : ∀ x ∈ (foldK pre).2, x < 1114112 := by
  rcases List.eq_nil_or_concat pre with h | ⟨q, y, h⟩
  · subst h
    decide
  · rw [h, List.concat_eq_append, foldK_snoc]
    exact kind_ok _
theorem lay2 {a b : List Nat} (ha : ∀ x ∈ a, x < 1114112) (hb : ∀ x ∈ b, x < 1114112) : Lay 1 (.tuple [tx a, tx b]) := lay_tuple (n := 0) fun d hd => by
  rcases List.mem_cons.mp hd with h | hd
  · rw [h]; exact lay_tx ha
  · rcases List.mem_cons.mp hd with h | hd
    · rw [h]; exact lay_tx hb
    · cases hd
theorem pairs_lay : Lay 2 (.list pairsD) := ⟨by decide +kernel, by decide +kernel⟩
theorem foldK_len (pre : List (Nat × Nat)) : (foldK pre).1.length ≤ pre.length := by
  unfold foldK
  suffices h : ∀ s : List Nat × List Nat, (pre.foldl stepK s).1.length ≤ s.1.length + pre.length by simpa using h ([], kNone)
  induction pre with
  | nil => intro s; simp
  | cons x r ih =>
    intro s
    rw [List.foldl_cons]
    refine Nat.le_trans (ih _) ?_
    unfold stepK
    dsimp only
    split
    · simp
      omega
    · simp
/-! ### the two ways to find starts agree -/
def alpha : List Nat := lSmall ++ lGreat ++ lFig ++ lOth
def kinds : List (List Nat) := [kNone, kSmall, kGreat, kFig]
theorem kind_tab : ∀ c ∈ alpha, (decide (c ∈ lOth) = decide (kindL c = kNone)) ∧ (decide (c ∈ lGreat) = decide (kindL c = kGreat)) ∧ (decide (c ∈ lFig) = decide (kindL c = kFig)) ∧ kindL c ∈ kinds := by decide +kernel
theorem hit_tab : ∀ b ∈ kinds, ∀ k ∈ kinds, hitK b k = (if k = kNone then false else if b = kNone then true else if k = kGreat then !decide (b = kGreat) else !decide (decide (k = kFig) = decide (b = kFig))) := by decide +kernel
theorem begins_kind {l : List Nat} {i : Nat} (hc : l.getD i 0 ∈ alpha) (hb : i ≠ 0 → l.getD (i - 1) 0 ∈ alpha) : begins l i = hitK (if i = 0 then kNone else kindL (l.getD (i - 1) 0)) (kindL (l.getD i 0)) := by
  obtain ⟨c1, c2, c3, c4⟩ := kind_tab _ hc
  unfold begins
  generalize l.getD i 0 = c at *
  by_cases h0 : i = 0
  · subst h0
    rw [if_pos rfl, hit_tab kNone (by decide) _ c4]
    by_cases h : c ∈ lOth
    · have : kindL c = kNone := by simpa [h] using c1
      simp [h, this]
    · have : ¬ kindL c = kNone := by simpa [h] using c1
      simp [h, this]
  · have hb := hb h0
    obtain ⟨b1, b2, b3, b4⟩ := kind_tab _ hb
    generalize l.getD (i - 1) 0 = b at *
    rw [if_neg h0, hit_tab _ b4 _ c4]
    simp only [h0, false_or]
    have e1 : (c ∈ lOth) = (kindL c = kNone) := propext (decide_eq_decide.mp c1)
    have e2 : (c ∈ lGreat) = (kindL c = kGreat) := propext (decide_eq_decide.mp c2)
    have e4 : (b ∈ lOth) = (kindL b = kNone) := propext (decide_eq_decide.mp b1)
    rw [c3, b3, b2]
    simp only [e1, e2, e4]
theorem fold_upto {l : List Nat} (ha : ∀ c ∈ l, c ∈ alpha) : ∀ n, n ≤ l.length → foldK ((List.range n).map fun i => (i, l.getD i 0)) = ((List.range n).filter (begins l), if n = 0 then kNone else kindL (l.getD (n - 1) 0))
  | 0, _ => rfl
  | n + 1, h => by
    have hin : ∀ i, i < l.length → l.getD i 0 ∈ alpha := fun i hi => by
      rw [List.getD_eq_getElem?_getD, List.getElem?_eq_getElem hi]
      exact ha _ (List.getElem_mem hi)
    rw [List.range_succ, List.map_append, List.map_singleton, foldK_snoc, fold_upto ha n (by omega), List.filter_append]
    unfold Lf.stepK
    dsimp only
    rw [← begins_kind (hin n (by omega)) (fun h0 => hin _ (by omega))]
    by_cases hb : begins l n = true
    · simp [hb]
    · simp [hb]
theorem starts_same {l : List Nat} (ha : ∀ c ∈ l, c ∈ alpha) : lawStarts l = startsL l := by
  unfold lawStarts startsL enumT
  rw [fold_upto ha _ (Nat.le_refl _)]
theorem isNm_alpha {l : List Nat} (h : isNm l = true) : ∀ c ∈ l, c ∈ alpha := by
  unfold isNm at h
  simp only [Bool.and_eq_true, List.all_eq_true, decide_eq_true_eq] at h
  exact h.2
theorem alpha_low : ∀ c ∈ alpha, c < 128 ∧ smallC c = lowC c := by decide +kernel
/-! ### signs of made names -/
theorem sign_alpha (m : Int) : signC m ∈ alpha := by
  unfold signC
  have key : ∀ (l : List Nat) (n : Nat), l.all (fun c => decide (c ∈ alpha)) = true → n < l.length → l.getD n 0 ∈ alpha := fun l n h hn => by
    rw [List.getD_eq_getElem?_getD, List.getElem?_eq_getElem hn]
    exact of_decide_eq_true (List.all_eq_true.mp h _ (List.getElem_mem hn))
  split
  · exact key lSig1 _ (by decide) (by have := Int.emod_lt_of_pos (m / 16) (show (0 : Int) < 14 by decide); have : lSig1.length = 14 := rfl; omega)
  · exact key lSig2 _ (by decide) (by have := Int.emod_lt_of_pos (m / 16) (show (0 : Int) < 17 by decide); have : lSig2.length = 17 := rfl; omega)
def alnum : List Nat := lSmall ++ lGreat ++ lFig
theorem ask_alnum (m : Int) : askC m ∈ alnum := by
  unfold askC
  have key : ∀ (l : List Nat) (n : Nat), l.all (fun c => decide (c ∈ alnum)) = true → n < l.length → l.getD n 0 ∈ alnum := fun l n h hn => by
    rw [List.getD_eq_getElem?_getD, List.getElem?_eq_getElem hn]
    exact of_decide_eq_true (List.all_eq_true.mp h _ (List.getElem_mem hn))
  exact key lAsk _ (by decide) (by have := Int.emod_lt_of_pos (m / 8) (show (0 : Int) < 12 by decide); have : lAsk.length = 12 := rfl; omega)
theorem nameL_len (m n : Int) (h0 : 0 < n) : 1 ≤ (nameL m n).length ∧ ((nameL m n).length : Int) ≤ n := by
  unfold nameL
  rw [List.length_map, List.length_range]
  have h1 := Int.emod_nonneg m (show n ≠ 0 by omega)
  have h2 := Int.emod_lt_of_pos m h0
  omega
theorem nameL_ok {m n : Int} (h0 : 0 < n) (h : n ≤ 30) : isNm (nameL m n) = true := by
  have hl := nameL_len m n h0
  unfold isNm
  simp only [Bool.and_eq_true, List.all_eq_true, decide_eq_true_eq]
  refine ⟨⟨hl.1, by omega⟩, fun c hc => ?_⟩
  unfold nameL at hc
  obtain ⟨j, _, rfl⟩ := List.mem_map.mp hc
  exact sign_alpha _
theorem askL_len (m n : Int) (h0 : 0 ≤ n) : ((askL m n).length : Int) ≤ n := by
  unfold askL
  rw [List.length_map, List.length_range]
  have h1 := Int.emod_nonneg m (show n + 1 ≠ 0 by omega)
  have h2 := Int.emod_lt_of_pos m (show 0 < n + 1 by omega)
  omega
theorem askL_ok {m n : Int} (h0 : 0 ≤ n) (h : n ≤ 8) : isAs (askL m n) = true := by
  have hl := askL_len m n h0
  unfold isAs
  simp only [Bool.and_eq_true, List.all_eq_true, decide_eq_true_eq]
  refine ⟨by omega, fun c hc => ?_⟩
  unfold askL at hc
  obtain ⟨j, _, rfl⟩ := List.mem_map.mp hc
  exact ask_alnum _
theorem R_law_starts_ok {l : List Nat} (hz : l.length ≤ 10000) (hn : isNm l = true) : R_law_starts [tx l] (.ok (.list ((startsL l).map natI))) := ⟨_, rfl, hz, by rw [starts_same (isNm_alpha hn)]⟩
theorem map_self (l : List PyData) : PyData.list l = PyData.list (l.map fun d => d) := by rw [List.map_id']
theorem R_need_name_er {C : Addr} {d : PyData} (hz : okd d) (hn : isName d = false) : R_need_name C [d] (.error C) := ⟨_, rfl, hz, by rw [hn]; rfl⟩
theorem R_need_ask_er {C : Addr} {d : PyData} (hz : okd d) (hn : isAsk d = false) : R_need_ask C [d] (.error C) := ⟨_, rfl, hz, by rw [hn]; rfl⟩
theorem R_starts_er {C : Addr} {d : PyData} (hz : okd d) (hn : isName d = false) : R_starts C [d] (.error C) := ⟨_, rfl, hz, by rw [hn]; rfl⟩
theorem R_first_er {C : Addr} {d : PyData} (hz : okd d) (hn : isName d = false) : R_first_letters C [d] (.error C) := ⟨_, rfl, hz, by rw [hn]; rfl⟩
theorem cut_drop {α : Type} (l : List α) (i : Nat) : cutL l (some (i : Int)) none = l.drop i := by
  unfold cutL
  rw [HT.sIx_nat]
  have : HT.sIx l.length l.length none = l.length := rfl
  rw [this]
  by_cases h : i ≤ l.length
  · rw [Nat.min_eq_left h, List.take_of_length_le (by rw [List.length_drop]; exact Nat.le_refl _)]
  · rw [Nat.min_eq_right (by omega), List.drop_of_length_le (by omega), List.drop_of_length_le (by omega)]
    simp
theorem cut_map {α β : Type} (f : α → β) (l : List α) (lo hi : Option Int) : cutL (l.map f) lo hi = (cutL l lo hi).map f := by
  unfold cutL
  rw [List.length_map, List.map_take, List.map_drop]
/-- an item by a remainder, of a longer list -/
theorem at_remLe {α : Type} {l : List α} {x n : Int} (z : α) (hn : n ≤ (l.length : Int)) (h0 : 0 < n) : atI l (x % n) = some (l.getD (x % n).toNat z) := by
  have h1 := Int.emod_nonneg x (show n ≠ 0 by omega)
  have h2 := Int.emod_lt_of_pos x h0
  have e : x % n = ((x % n).toNat : Int) := by omega
  rw [e]
  refine atI_nat ?_
  rw [List.getElem?_eq_getElem (by omega), List.getD_eq_getElem?_getD, List.getElem?_eq_getElem (by omega)]
  rfl
theorem lay_ints {α : Type} {l : List α} {g : α → Int} : Lay 1 (.list (l.map fun x => .int (g x))) := lay_list (n := 0) fun d hd => by
  obtain ⟨i, _, rfl⟩ := List.mem_map.mp hd
  exact lay_int
theorem lay_nats {l : List Nat} : Lay 1 (.list (l.map natI)) := lay_ints
theorem eqv_self {n : Nat} {d : PyData} (h : Lay n d) : PyData.eqv d d = true := PySem.SeqAt.eqv_refl d h.1
end Lf
set_option Elab.async false
set_option linter.all false
set_option maxRecDepth 100000
set_option maxHeartbeats 4000000
namespace Lf
open PySem PySem.Spec PyProof.Rows L2 L2H HotX LamX
section
variable {Kf : PySem.W.Frag} {Tf : List (Addr × Str)} {F : Fx Kf Tf} {δ : List Slot} {X : Cx} {N : List Str} {sc : Scope} {pos p px pa pc p1 p2 p3 : Pos} {a b c e tg : Expr} {x : Str} {ds es : List PyData} {d : PyData} {rest : List Stmt} {P : Post}
/-- a + b, a new list of one's own -/
theorem x_catN (hz : ds.length + es.length ≤ sizeLine) (ha : PE X a (tD F δ (.list ds))) (hb : PE X b (tD F δ (.list es))) : PE X (.BinOp a .Add b pos) (tDL F δ (ds ++ es)) :=
  wkE (pe_op op_cat ha hb) fun σ H Q h => by
    obtain ⟨O, st, k⟩ := h
    refine ⟨O, st, fun u H1 e1 t1 g1 => ⟨O, st.grow e1 t1, fun v H2 e2 t2 g2 => ?_⟩⟩
    obtain ⟨q1, xs, rfl, n1, h1, r1⟩ := g1
    obtain ⟨q2, ys, rfl, n2, h2, r2⟩ := g2
    have h1' := e2 _ _ h1 (fun _ z => by cases z)
    refine ⟨q1, q2, xs, ys, rfl, rfl, h1', h2, by rw [r1.len, r2.len]; exact hz, fun q hq => ?_⟩
    exact k q _ _ ((e1.trans e2).trans (ext_new hq)) (tabs_new t2 hq) (fun a' l => ((l.grow e1).grow e2).ne hq) upd_same ((((r1.grow e2).app r2).shut hq).grow (ext_new hq))
/-- range(i, j, -1) -/
def downFrom (i : Int) (n : Nat) : List PyData := (List.range n).map fun (k : Nat) => PyData.int (i - (k : Int))
theorem i_rangeD {i j : Int} (cx : Ctx X N sc) (hm : X.mg "range" = none) (h : PA X [a, b, c] (aD F δ [.int i, .int j, .int (-1)])) (h0 : -(2 ^ 62) ≤ i ∧ i < 2 ^ 62) (h1 : -(2 ^ 62) ≤ j ∧ j < 2 ^ 62) (hg : sc.names.lookup ("range" : Str) = some .globalImplicit := by rfl)
    (hs : starEach [a, b, c] X.env = (false, eval a X.env) :: starEach [b, c] X.env := by rfl) (hpl : (backTo pos (starEach [b, c] X.env)).any (·.1) = false := by rfl) :
    PI X tg (.Call (.Name "range" p) [a, b, c] [] pos) (iD F δ (downFrom i (i - j).toNat)) := wkI (pi_range3 (cx.gl hg) hm h hs hpl) fun σ H R q => by
  obtain ⟨O, st, k⟩ := q
  replace k := iD_one k
  refine ⟨O, st, fun vs H1 e1 t1 g1 => ?_⟩
  obtain ⟨v, r, rfl, ev, u, r', rfl, eu, w, r'', rfl, ew, rfl⟩ := g1
  rw [show v = V.int i from ev, show u = V.int j from eu, show w = V.int (-1) from ew]
  refine ⟨i, j, -1, (i - j).toNat, rfl, RgC.neg h0.1 h0.2 h1.1 h1.2, k (Itc i (-1) (i - j).toNat) .none .non H1 e1 t1 rfl (fun O1 H2 n d g2 dom t2 hd => ?_) fun O1 H2 g2 => ?_⟩
  · have hi : n < (i - j).toNat := by
      have := (List.getElem?_eq_some_iff.mp hd).1
      simpa [downFrom] using this
    refine ⟨hi, fun y H3 hy => ?_⟩
    obtain ⟨rfl, rfl⟩ := hy
    refine ⟨ExtN.refl _, t2, ?_⟩
    have : d = .int (i - (n : Int)) := by
      unfold downFrom at hd
      rw [List.getElem?_map, List.getElem?_range hi] at hd
      exact (Option.some.inj hd).symm
    rw [this]
    show V.int (i + (n : Int) * -1) = V.int (i - (n : Int))
    congr 1
    omega
  · show (i - j).toNat ≤ (downFrom i (i - j).toNat).length
    simp [downFrom]
/-- x.extend(e) -/
theorem s_ext (i : Nat) (cx : Ctx X N sc) (hi : δ[i]? = some (.own ds)) (h : PE X e (tD F δ (.list es))) (hz : ds.length + es.length ≤ sizeLine) (g : PSs X rest (sD F (δ.set i (.own (ds ++ es))) P)) (hN : N[i]? = some x := by rfl) (hv : Vis sc x := by first | exact Or.inl rfl | exact Or.inr (Or.inl rfl) | exact Or.inr (Or.inr rfl))
    (hd : (x == ("__debug__" : Str)) = false := by decide) (hcd : (x == ("__classdict__" : Str)) = false := by decide) (hbase : attributeBase (.Name x px) "extend" X.env (eval (.Name x px) X.env) = eval (.Name x px) X.env := by rfl)
    (hfew : ((backTo pc (starEach [e] X.env)).all (fun x => !x.1) && (backToKw pc (keywordEach [] X.env)).all (fun x => x.1.isSome)
      && decide ([e].length + ([] : List Keyword).length + (if ([] : List Keyword).isEmpty then 0 else 1) < 30)) = true := by rfl)
    (hline : (pa.endLine == pc.line) = true := by rfl) (hse : starEach [e] X.env = (false, eval e X.env) :: starEach [] X.env := by rfl) (hs : swapsWith (.Call (.Attribute (.Name x px) "extend" pa) [e] [] pc) none pos.line X.env = pure false := by rfl) :
    PSs X (.Expr (.Call (.Attribute (.Name x px) "extend" pa) [e] [] pc) pos :: rest) (sD F δ P) :=
  wkSs (pss_cons (ps_expr (pe_bm PySem.F.plainAttrs_list PySem.F.slot_list_extend PySem.F.type_list_extend mt_extend (pe_var (i := i) (cx.at_ hN) (cx.vis hv) hd hcd) (pa_cons h pa_nil hse) hbase hfew hline hse rfl) hs) g) fun D σ H h' => by
    obtain ⟨O, τ, s0, tm, w⟩ := h'
    obtain ⟨q, xs, e1, o1, nl, gq, r⟩ := s0.slot i _ hi
    have hv := get_some e1
    refine ⟨.ref q, hv, .inl ⟨rfl, _, SqL.of gq⟩, O, s0, fun v H1 e' t' g' => ?_⟩
    have gq1 := e' _ _ gq (fun _ z => by cases z)
    obtain ⟨q2, ys, rfl, n2, h2, r2⟩ := g'
    refine ⟨q, q2, xs, ys, rfl, rfl, gq1, h2, by rw [r.len, r2.len]; exact hz, ?_⟩
    obtain ⟨s1, t1⟩ := own_turn (s0.grow e' t') (tm.grow e') hi hv gq1 ((r.grow e').app r2)
    exact ⟨O, τ, s1, t1, w⟩
/-- xs[::-1] -/
theorem x_revL {k : Nat} (he : PE X e (tD F δ (.list ds))) : PE X (.Subscript e (.Slice none none (some (.UnaryOp .USub (.Constant (.int 1) k p1) p2)) p3) pos) (tD F δ (.list ds.reverse)) :=
  wkE (pe_revL he) fun σ H Q h => by
    obtain ⟨O, st, w⟩ := h
    refine ⟨O, st, fun v H1 e1 t1 g1 => ?_⟩
    obtain ⟨q, xs, rfl, n1, h1, r1⟩ := g1
    refine ⟨q, xs, rfl, SqL.of h1, fun l hl => ?_⟩
    exact w _ _ (e1.trans (ext_new hl)) (tabs_new t1 hl) ⟨l, _, rfl, fresh_ok (st.grow e1 t1).dom hl, upd_same, (r1.rev).grow (ext_new hl)⟩
/-- text[::-1] -/
theorem pick_rev (l : List Nat) : ((Builtin.Str.strSliceIndices none none (-1) l.length).filterMap ((⟨l.toArray⟩ : Str).cps[·]?)) = l.reverse := by
  have e : Builtin.Str.strSliceIndices none none (-1) l.length = (List.range l.length).map fun k => l.length - 1 - k := by
    show PySem.sliceRange ((l.length : Int) - 1) (-1) (-1) = _
    unfold PySem.sliceRange
    have hc : (if (-1 : Int) > 0 then (if (l.length : Int) - 1 < -1 then (-1 - ((l.length : Int) - 1) + -1 - 1) / -1 else 0) else (if (l.length : Int) - 1 > -1 then ((l.length : Int) - 1 - -1 - -1 - 1) / (- -1) else 0)).toNat = l.length := by
      rw [if_neg (by decide)]
      by_cases h : (l.length : Int) - 1 > -1
      · rw [if_pos h]
        have : ((l.length : Int) - 1 - -1 - -1 - 1) / (- -1) = (l.length : Int) := by
          rw [show (- -1 : Int) = 1 from rfl, Int.ediv_one]
          omega
        rw [this]
        simp
      · rw [if_neg h]
        omega
    dsimp only
    rw [hc]
    refine List.map_congr_left fun k hk => ?_
    have := List.mem_range.mp hk
    omega
  rw [e, List.filterMap_map]
  refine List.ext_getElem? fun i => ?_
  have hall : ∀ k ∈ List.range l.length, ((fun j => (⟨l.toArray⟩ : Str).cps[j]?) ∘ fun k => l.length - 1 - k) k = some (l.getD (l.length - 1 - k) 0) := fun k hk => by
    have := List.mem_range.mp hk
    show l.toArray[l.length - 1 - k]? = _
    rw [List.getElem?_toArray, List.getD_eq_getElem?_getD, List.getElem?_eq_getElem (by omega)]
    rfl
  have fm : ∀ (ks : List Nat), (∀ k ∈ ks, k ∈ List.range l.length) → ks.filterMap ((fun j => (⟨l.toArray⟩ : Str).cps[j]?) ∘ fun k => l.length - 1 - k) = ks.map fun k => l.getD (l.length - 1 - k) 0 := fun ks => by
    induction ks with
    | nil => intro _; rfl
    | cons k r ih =>
      intro hk
      rw [List.filterMap_cons, hall k (hk k List.mem_cons_self), ih fun j hj => hk j (List.mem_cons_of_mem _ hj)]
      rfl
  rw [fm _ fun k hk => hk]
  by_cases hi : i < l.length
  · rw [List.getElem?_map, List.getElem?_range hi, List.getElem?_reverse hi, List.getElem?_eq_getElem (by omega)]
    simp [List.getD_eq_getElem?_getD, List.getElem?_eq_getElem (show l.length - 1 - i < l.length by omega)]
  · rw [List.getElem?_eq_none (by simp; omega), List.getElem?_eq_none (by simp; omega)]
def tRevS (te : TE) : TE := fun σ H Q => te σ H fun x H1 => ∃ l : List Nat, x = .str ⟨l.toArray⟩ ∧ l.length ≤ sizeLine ∧ Q (.str ⟨l.reverse.toArray⟩) H1
theorem pe_revS {te : TE} {k : Nat} (he : PE X e te) : PE X (.Subscript e (.Slice none none (some (.UnaryOp .USub (.Constant (.int 1) k p1) p2)) p3) pos) (tRevS te) := by
  refine ⟨fun pins s σ H Q I h => ?_⟩
  refine Subscript_ (thn (he.run pins s σ H _ I h) fun v s1 hh => ?_)
  obtain ⟨x, H1, I1, r1, l, rfl, hz, q⟩ := hh
  obtain ⟨t, rfl⟩ := r1
  have part : PO X (some (.UnaryOp .USub (.Constant (.int 1) k p1) p2)) (tPart (tUn (rU fun i => .int (-i)) (tC (.int 1)))) := po_some (pe_un un_neg pe_int)
  refine wpAny_Slice (thn (po_none.run pins s1 σ H1 (fun o H2 => o = none ∧ H2 = H1) I1 ⟨rfl, rfl⟩) fun va s2 h2 => ?_)
  obtain ⟨oa, H2, I2, pa, rfl, rfl⟩ := h2
  refine thn (po_none.run pins s2 σ H2 (fun o H3 => o = none ∧ H3 = H2) I2 ⟨rfl, rfl⟩) fun vb s3 h3 => ?_
  obtain ⟨ob, H3, I3, pb, rfl, rfl⟩ := h3
  refine thn (part.run pins s3 σ H3 (fun o H4 => o = some (-1) ∧ H4 = H3) I3 ⟨1, rfl, -1, rfl, rfl, rfl⟩) fun vc s4 h4 => ?_
  obtain ⟨oc, H4, I4, pc, rfl, rfl⟩ := h4
  have J : Inv X pins σ H4 { s4 with heap := s4.heap.push { cls := .type "slice", data := .fields #[va, vb, vc] } } := I4.kept (t' := s4.toks) fun b ob g => Heap.get?_push_of_some _ g
  obtain ⟨qa, rfl, ea⟩ := IsPart.raw pa
  obtain ⟨qb, rfl, eb⟩ := IsPart.raw pb
  obtain ⟨qc, rfl, ec⟩ := IsPart.raw pc
  show wpAny (model X.prog X.w) X.A (subscriptTail e (.Slice none none (some (.UnaryOp .USub (.Constant (.int 1) k p1) p2)) p3) (.str ⟨l.toArray⟩ t) (.ref s4.heap.objs.size)) (EP X pins σ Q) X.xe _
  refine tail_any (ops := [.ref s4.heap.objs.size]) (typeIs_str _ _ t) PySem.F.slot_str_getitem.lookup ?_ (by with_unfolding_all rfl)
  refine wpAny_getItem_str_slice (l := qa) (u := qb) (st := qc) ⟨_, Heap.get?_push_size _ rfl, rfl, rfl⟩ (by rw [ec]; rfl) ?_
  unfold sliceMade slicePicked
  rw [ea, eb, ec]
  show Made.post (if (((-1 : Int) == 1) && _) = true then _ else _) _ _
  rw [if_neg (by simp), show (some (-1 : Int)).getD 1 = -1 from rfl, tx_len, pick_rev]
  exact ⟨by rw [tx_len, List.length_reverse]; exact hz, .str _, H4, J.tok _, ⟨_, rfl⟩, q⟩
theorem x_revS {k : Nat} {l : List Nat} (hz : l.length ≤ sizeLine) (he : PE X e (tD F δ (tx l))) : PE X (.Subscript e (.Slice none none (some (.UnaryOp .USub (.Constant (.int 1) k p1) p2)) p3) pos) (tD F δ (tx l.reverse)) :=
  wkE (pe_revS he) fun σ H Q h => by
    obtain ⟨O, st, w⟩ := h
    exact ⟨O, st, fun v H1 e1 t1 g1 => ⟨l, g1, hz, w _ H1 e1 t1 rfl⟩⟩
end
/-! ### a test that raises -/
section
variable {Kf : PySem.W.Frag} {Tf : List (Addr × Str)} {F : Fx Kf Tf} {δ : List Slot} {X : Cx} {pos : Pos} {a b c : Expr} {rest body els : List Stmt} {P : Post} {C : Addr}
def cDX {Kf : PySem.W.Frag} {Tf : List (Addr × Str)} (F : Fx Kf Tf) (δ : List Slot) (C : Addr) : TT := fun σ H Q => ∃ O, StAt F O H σ δ ∧ ∀ H', ExtN H H' → Tabs F.T H' → F.E (.ref C) none H'
theorem c_cmpX {op : CmpOp} {r : R2} (ho : OpR X (compareOp op) r) (ha : PE X a (tDX F δ C)) (hm : behindInMarks op b = false := by first | exact nomark _ | rfl) : PT X (.Compare a [op] [b] pos) (cDX F δ C) :=
  wkT (pt_cmpR ho ha e_never hm) fun σ H Q h => h
theorem ss_never : PSs X rest (fun _ _ _ => False) := ⟨fun _ _ _ _ _ _ h => h.elim⟩
theorem s_ifX (h : PT X c (cDX F δ C)) (g : P.ex C) : PSs X (.If c body els pos :: rest) (sD F δ P) :=
  wkSs (pss_cons (ps_if h ss_never ss_never) (ss_never (rest := rest))) fun D σ H h' => by
    obtain ⟨O, τ, s0, tm, w⟩ := h'
    exact ⟨O, s0, fun H' e' t' => w.ex C H' g (s0.ext.trans e') t'⟩
end
end Lf
set_option Elab.async false
set_option linter.all false
set_option maxRecDepth 100000
set_option maxHeartbeats 4000000
namespace Lf
open PySem PySem.Spec PyProof.Rows L2 L2H HotX LamX
/-! ### places: mirrors and their mathematics -/
def hitC (o s : Nat) : Bool := decide (s = o) || (decide (o ∈ lSmall) && decide (smallC s = o))
def hitL (o s : Nat) : Bool := decide (o = s) || (decide (o ∈ lSmall) && decide (o = lowC s))
theorem hit_same {o s : Nat} (h : s ∈ alpha) : hitL o s = hitC o s := by
  unfold hitL hitC
  rw [(alpha_low s h).2]
  simp only [eq_comm]
/-- the first row -/
def gr : List Nat → List Nat → Nat → Option (List Nat)
  | [], _, _ => some []
  | _ :: _, [], _ => none
  | o :: a, c :: n, k => if hitC o c = true then (gr a n (k + 1)).map (k :: ·) else gr (o :: a) n (k + 1)
/-- all rows -/
def rowsS : List Nat → List Nat → Nat → List (List Nat)
  | [], _, _ => [[]]
  | _ :: _, [], _ => []
  | o :: a, c :: n, k => (if hitC o c = true then (rowsS a n (k + 1)).map (k :: ·) else []) ++ rowsS (o :: a) n (k + 1)
/-- the last row -/
def rl : List Nat → List Nat → Nat → Option (List Nat)
  | [], _, _ => some []
  | _ :: _, [], _ => none
  | o :: a, c :: n, k => match rl (o :: a) n (k + 1) with
    | some r => some r
    | none => if hitC o c = true then (rl a n (k + 1)).map (k :: ·) else none
/-- how many -/
def rc : List Nat → List Nat → Nat
  | [], _ => 1
  | _ :: _, [] => 0
  | o :: a, c :: n => (if hitC o c = true then rc a n else 0) + rc (o :: a) n
def ch : Nat → Nat → Nat
  | _, 0 => 1
  | 0, _ + 1 => 0
  | n + 1, m + 1 => ch n m + ch n (m + 1)
theorem rows_len : ∀ (a n : List Nat) (k : Nat), (rowsS a n k).length = rc a n
  | [], n, _ => by cases n <;> rfl
  | _ :: _, [], _ => rfl
  | o :: a, c :: n, k => by
    unfold rowsS rc
    rw [List.length_append, rows_len (o :: a) n]
    split
    · rw [List.length_map, rows_len a n]
    · rfl
theorem rc_ch : ∀ (a n : List Nat), rc a n ≤ ch n.length a.length
  | [], n => by cases n <;> exact Nat.le_refl _
  | _ :: _, [] => Nat.le_refl _
  | o :: a, c :: n => by
    show (if hitC o c = true then rc a n else 0) + rc (o :: a) n ≤ ch n.length a.length + ch n.length (a.length + 1)
    have h1 := rc_ch a n
    have h2 : rc (o :: a) n ≤ ch n.length (a.length + 1) := rc_ch (o :: a) n
    split <;> omega
theorem ch_small : ∀ n, n ≤ 12 → ∀ m, m ≤ 4 → ch n m ≤ 495 := by decide +kernel
theorem rc_zero (o : Nat) : ∀ (a n : List Nat), rc a n = 0 → rc (o :: a) n = 0
  | a, [], _ => rfl
  | a, c :: n, h => by
    have h1 : rc a n = 0 := by
      cases a with
      | nil => cases h
      | cons x a =>
        have h : (if hitC x c = true then rc a n else 0) + rc (x :: a) n = 0 := h
        omega
    show (if hitC o c = true then rc a n else 0) + rc (o :: a) n = 0
    rw [h1, rc_zero o a n h1]
    split <;> rfl
theorem gr_head : ∀ (a n : List Nat) (k : Nat), gr a n k = (rowsS a n k).head?
  | [], n, _ => by cases n <;> rfl
  | _ :: _, [], _ => rfl
  | o :: a, c :: n, k => by
    unfold gr rowsS
    by_cases h : hitC o c = true
    · rw [if_pos h, if_pos h, gr_head a n]
      cases q : rowsS a n (k + 1) with
      | nil =>
        have z : rowsS (o :: a) n (k + 1) = [] := by
          refine List.length_eq_zero_iff.mp ?_
          rw [rows_len]
          refine rc_zero o a n ?_
          rw [← rows_len a n (k + 1), q]
          rfl
        rw [z]
        rfl
      | cons r rs => rfl
    · rw [if_neg h, if_neg h, gr_head (o :: a) n]
      rfl
theorem gr_none : ∀ (a n : List Nat) (k : Nat), gr a n k = none ↔ rowsS a n k = [] := fun a n k => by
  rw [gr_head]
  exact List.head?_eq_none_iff
theorem rl_last : ∀ (a n : List Nat) (k : Nat), rl a n k = (rowsS a n k).getLast?
  | [], n, _ => by cases n <;> rfl
  | _ :: _, [], _ => rfl
  | o :: a, c :: n, k => by
    unfold rl rowsS
    rw [rl_last (o :: a) n, List.getLast?_append, rl_last a n]
    cases (rowsS (o :: a) n (k + 1)).getLast? with
    | some r => rfl
    | none =>
      by_cases h : hitC o c = true
      · simp [h, List.getLast?_map]
      · simp [h]
/-! ### from the right -/
theorem rc_snoc (o s : Nat) : ∀ (a n : List Nat), rc (a ++ [o]) (n ++ [s]) = rc (a ++ [o]) n + if hitC o s = true then rc a n else 0
  | [], [] => by simp [rc]
  | x :: a, [] => by
    show (if hitC x s = true then rc (a ++ [o]) [] else 0) + rc (x :: (a ++ [o])) [] = 0 + _
    cases a <;> simp [rc]
  | [], t :: n => by
    show (if hitC o t = true then rc [] (n ++ [s]) else 0) + rc [o] (n ++ [s]) = (if hitC o t = true then rc [] n else 0) + rc [o] n + _
    have := rc_snoc o s [] n
    rw [show [o] = [] ++ [o] from rfl, this]
    simp [rc]
    omega
  | x :: a, t :: n => by
    show (if hitC x t = true then rc (a ++ [o]) (n ++ [s]) else 0) + rc (x :: a ++ [o]) (n ++ [s]) = (if hitC x t = true then rc (a ++ [o]) n else 0) + rc (x :: a ++ [o]) n + (if hitC o s = true then (if hitC x t = true then rc a n else 0) + rc (x :: a) n else 0)
    rw [rc_snoc o s a n, rc_snoc o s (x :: a) n]
    split <;> split <;> omega
theorem rl_snoc (o s : Nat) : ∀ (a n : List Nat) (k : Nat), rl (a ++ [o]) (n ++ [s]) k = if hitC o s = true then (rl a n k).map (· ++ [k + n.length]) else rl (a ++ [o]) n k
  | [], [], k => by
    show (match rl [o] [] (k + 1) with | some r => some r | none => if hitC o s = true then (rl [] [] (k + 1)).map (k :: ·) else none) = _
    simp [rl]
  | x :: a, [], k => by
    show (match rl (x :: (a ++ [o])) [] (k + 1) with | some r => some r | none => if hitC x s = true then (rl (a ++ [o]) [] (k + 1)).map (k :: ·) else none) = _
    cases a <;> simp [rl]
  | [], t :: n, k => by
    show (match rl ([] ++ [o]) (n ++ [s]) (k + 1) with | some r => some r | none => if hitC o t = true then (rl [] (n ++ [s]) (k + 1)).map (k :: ·) else none) = _
    rw [rl_snoc o s [] n (k + 1)]
    by_cases h : hitC o s = true
    · simp [h, rl]
      omega
    · simp only [h, if_neg, Bool.false_eq_true, if_false]
      simp [rl]
  | x :: a, t :: n, k => by
    show (match rl (x :: a ++ [o]) (n ++ [s]) (k + 1) with | some r => some r | none => if hitC x t = true then (rl (a ++ [o]) (n ++ [s]) (k + 1)).map (k :: ·) else none) = _
    rw [rl_snoc o s (x :: a) n (k + 1), rl_snoc o s a n (k + 1)]
    by_cases h : hitC o s = true
    · rw [if_pos h, if_pos h, if_pos h]
      show _ = (match rl (x :: a) n (k + 1) with | some r => some r | none => if hitC x t = true then (rl a n (k + 1)).map (k :: ·) else none).map _
      cases rl (x :: a) n (k + 1) with
      | some r => simp; omega
      | none =>
        cases rl a n (k + 1) with
        | none => simp
        | some r =>
          by_cases h2 : hitC x t = true
          · simp [h2]
            omega
          · simp [h2]
    · simp only [h, Bool.false_eq_true, if_false]
      rfl
/-- the last row is the first of the texts turned round, turned back -/
theorem rl_rev : ∀ (n a : List Nat) (j t : Nat), t = j + n.length → rl a n 0 = (gr a.reverse n.reverse j).map fun r => (r.map fun i => t - 1 - i).reverse := fun n => by
  induction h : n.length generalizing n with
  | zero =>
    intro a j t ht
    have : n = [] := List.length_eq_zero_iff.mp h
    subst this
    rcases List.eq_nil_or_concat a with rfl | ⟨b, o, rfl⟩
    · rfl
    · rw [List.concat_eq_append, List.reverse_append]
      cases b <;> rfl
  | succ m ih =>
    intro a j t ht
    obtain ⟨n', s, rfl⟩ : ∃ n' s, n = n' ++ [s] := by
      rcases List.eq_nil_or_concat n with rfl | ⟨b, o, rfl⟩
      · cases h
      · exact ⟨b, o, List.concat_eq_append⟩
    have hl : n'.length = m := by simpa using h
    rcases List.eq_nil_or_concat a with rfl | ⟨b, o, rfl⟩
    · cases hq : (n' ++ [s]) with
      | nil => simp at hq
      | cons _ _ => simp [rl, gr]
    · rw [List.concat_eq_append, rl_snoc, List.reverse_append, List.reverse_append]
      show _ = (gr (o :: b.reverse) (s :: n'.reverse) j).map _
      unfold gr
      have hL : (n' ++ [s]).length = n'.length + 1 := by simp
      by_cases hh : hitC o s = true
      · rw [if_pos hh, if_pos hh, ih n' hl b (j + 1) t (by omega)]
        cases gr b.reverse n'.reverse (j + 1) with
        | none => rfl
        | some r =>
          simp
          omega
      · rw [if_neg hh, if_neg hh, ih n' hl (b ++ [o]) (j + 1) t (by omega), List.reverse_append]
        rfl
/-! ### data of rows -/
def rowD (r : List Nat) : PyData := .list (r.map natI)
def optD : Option (List Nat) → PyData
  | none => .none
  | some r => rowD r
def R_is_hit (ds : List PyData) (r : Res) : Prop := ∃ o s, ds = [tx [o], tx [s]] ∧ r = .ok (.bool (hitC o s))
def R_look (C0 C1 : Addr) (ds : List PyData) (r : Res) : Prop := ∃ a n, ds = [a, n] ∧ okd a ∧ okd n ∧ r = if isAsk a = true then (if isName n = true then .ok .none else .error C0) else .error C1
def R_greedy (ds : List PyData) (r : Res) : Prop := ∃ a n, ds = [tx a, tx n] ∧ a.length ≤ 10000 ∧ n.length ≤ 10000 ∧ r = .ok (optD (gr a n 0))
def fitD (a n : List Nat) : PyData := .bool (gr a n 0).isSome
def firstD (a n : List Nat) : PyData := optD (gr a n 0)
def manyD (a n : List Nat) : PyData := .int (rc a n : Nat)
/-- a def that looks first -/
def R_seen (C0 C1 : Addr) (f : List Nat → List Nat → PyData) (ds : List PyData) (r : Res) : Prop := ∃ a n, ds = [a, n] ∧ okd a ∧ okd n ∧ r = if isAsk a = true then (if isName n = true then .ok (f (cod a) (cod n)) else .error C0) else .error C1
def lastL (a n : List Nat) : Option (List Nat) := (gr a.reverse n.reverse 0).map fun r => (r.map fun i => n.length - 1 - i).reverse
def lastD (a n : List Nat) : PyData := optD (lastL a n)
theorem lastL_rl (a n : List Nat) : lastL a n = rl a n 0 := (rl_rev n a 0 n.length (by omega)).symm
def R_rows_from (m : Nat) (ds : List PyData) (r : Res) : Prop := ∃ a n p, ds = [tx a, tx n, natI p] ∧ a.length ≤ m ∧ m ≤ 100 ∧ n.length ≤ 10000 ∧ p ≤ n.length ∧ rc a (n.drop p) ≤ 1000 ∧ r = .ok (.list ((rowsS a (n.drop p) p).map rowD))
def R_every (C0 C1 C4 : Addr) (ds : List PyData) (r : Res) : Prop := ∃ a n, ds = [a, n] ∧ okd a ∧ okd n ∧ r = if isAsk a = true then (if isName n = true then (if rc (cod a) (cod n) ≤ 1000 then .ok (.list ((rowsS (cod a) (cod n) 0).map rowD)) else .error C4) else .error C0) else .error C1
theorem isAs_len {l : List Nat} (h : isAs l = true) : l.length ≤ 8 := by
  unfold isAs at h
  simp only [Bool.and_eq_true, decide_eq_true_eq] at h
  exact h.1
theorem isNm_len {l : List Nat} (h : isNm l = true) : 1 ≤ l.length ∧ l.length ≤ 30 := by
  unfold isNm at h
  simp only [Bool.and_eq_true, decide_eq_true_eq] at h
  exact h.1
theorem ask_tx {d : PyData} (h : isAsk d = true) : ∃ l, d = tx l ∧ isAs l = true := by
  simp [isAsk] at h
  exact ⟨_, tx_of h.1, h.2⟩
theorem name_tx {d : PyData} (h : isName d = true) : ∃ l, d = tx l ∧ isNm l = true := by
  simp [isName] at h
  exact ⟨_, tx_of h.1, h.2⟩
/-! the counts -/
def cnt0 (a pre : List Nat) : List PyData := (List.range (a.length + 1)).map fun i => .int (rc (a.take i) pre : Nat)
def cntL (a pre : List Nat) (s k : Nat) : List PyData := (List.range (a.length + 1)).map fun i => .int ((if a.length - k < i then rc (a.take i) (pre ++ [s]) else rc (a.take i) pre : Nat) : Int)
theorem rc_nil {a : List Nat} (h : a ≠ []) : rc a [] = 0 := by
  cases a with
  | nil => exact absurd rfl h
  | cons _ _ => rfl
theorem rc_empty (n : List Nat) : rc [] n = 1 := by cases n <;> rfl
theorem cnt_start (a : List Nat) : [PyData.int 1] ++ (List.replicate ((a.length : Int)).toNat [PyData.int 0]).flatten = cnt0 a [] := by
  unfold cnt0
  rw [List.range_succ_eq_map, List.map_cons, List.map_map, Int.toNat_natCast]
  have e : ∀ m, (List.replicate m [PyData.int 0]).flatten = List.replicate m (PyData.int 0) := fun m => by
    induction m with
    | zero => rfl
    | succ m ih => rw [List.replicate_succ, List.flatten_cons, ih]; rfl
  rw [e]
  rw [List.singleton_append]
  refine List.cons_eq_cons.mpr ⟨by simp [rc_empty], ?_⟩
  refine (List.eq_replicate_iff.mpr ⟨by simp, fun b hb => ?_⟩).symm
  obtain ⟨i, hi, rfl⟩ := List.mem_map.mp hb
  have hi := List.mem_range.mp hi
  show PyData.int ((rc (a.take (i + 1)) [] : Nat) : Int) = .int 0
  rw [rc_nil (fun h => by have := congrArg List.length h; rw [List.length_take, List.length_nil] at this; omega)]
  rfl
theorem cnt_first (a pre : List Nat) (s : Nat) : cntL a pre s 0 = cnt0 a pre := by
  unfold cntL cnt0
  refine List.map_congr_left fun i hi => ?_
  have := List.mem_range.mp hi
  rw [if_neg (by omega)]
theorem cnt_done (a pre : List Nat) (s : Nat) : cntL a pre s a.length = cnt0 a (pre ++ [s]) := by
  unfold cntL cnt0
  refine List.map_congr_left fun i hi => ?_
  cases i with
  | zero => simp [rc_empty]
  | succ i => rw [if_pos (by omega)]
theorem take_snoc {a : List Nat} {i : Nat} (h : i < a.length) : a.take (i + 1) = a.take i ++ [a.getD i 0] := by
  rw [List.take_succ_eq_append_getElem h, List.getD_eq_getElem?_getD, List.getElem?_eq_getElem h]
  rfl
theorem rc_step {a pre : List Nat} {s i : Nat} (h : i < a.length) : rc (a.take (i + 1)) (pre ++ [s]) = rc (a.take (i + 1)) pre + if hitC (a.getD i 0) s = true then rc (a.take i) pre else 0 := by
  rw [take_snoc h, rc_snoc]
theorem set_map {α : Type} (f : Nat → α) (n j : Nat) (v : α) : ((List.range n).map f).set j v = (List.range n).map fun i => if i = j then v else f i := by
  refine List.ext_getElem? fun i => ?_
  by_cases e : j = i
  · subst e
    by_cases h : j < n
    · rw [List.getElem?_set_self (by simpa using h), List.getElem?_map, List.getElem?_range h]
      simp
    · rw [List.getElem?_eq_none (by simp; omega), List.getElem?_eq_none (by simp; omega)]
  · rw [List.getElem?_set_ne e, List.getElem?_map, List.getElem?_map]
    by_cases h : i < n
    · rw [List.getElem?_range h]
      simp [Ne.symm e]
    · rw [List.getElem?_eq_none (by simp; omega)]
      rfl
theorem cnt_hit {a pre : List Nat} {s k : Nat} (hk : k < a.length) (hh : hitC (a.getD (a.length - k - 1) 0) s = true) : (cntL a pre s k).set (a.length - k) (.int ((rc (a.take (a.length - k)) pre + rc (a.take (a.length - k - 1)) pre : Nat) : Int)) = cntL a pre s (k + 1) := by
  unfold cntL
  rw [set_map]
  refine List.map_congr_left fun i hi => ?_
  have hst := rc_step (a := a) (pre := pre) (s := s) (i := a.length - k - 1) (by omega)
  rw [if_pos hh, show a.length - k - 1 + 1 = a.length - k by omega] at hst
  by_cases e : i = a.length - k
  · subst e
    rw [if_pos rfl, if_pos (by omega), hst]
  · rw [if_neg e]
    by_cases h : a.length - k < i
    · rw [if_pos h, if_pos (by omega)]
    · rw [if_neg h, if_neg (by omega)]
theorem cnt_miss {a pre : List Nat} {s k : Nat} (hk : k < a.length) (hh : hitC (a.getD (a.length - k - 1) 0) s = false) : cntL a pre s k = cntL a pre s (k + 1) := by
  unfold cntL
  refine List.map_congr_left fun i hi => ?_
  have hst := rc_step (a := a) (pre := pre) (s := s) (i := a.length - k - 1) (by omega)
  rw [hh, show a.length - k - 1 + 1 = a.length - k by omega] at hst
  by_cases h : a.length - k < i
  · rw [if_pos h, if_pos (by omega)]
  · rw [if_neg h]
    by_cases h2 : a.length - (k + 1) < i
    · have : i = a.length - k := by omega
      subst this
      rw [if_pos h2, hst]
      simp
    · rw [if_neg h2]
theorem cnt_at {a pre : List Nat} {s k i : Nat} (hi : i ≤ a.length - k) : atI (cntL a pre s k) ((i : Nat) : Int) = some (.int ((rc (a.take i) pre : Nat) : Int)) := by
  refine atI_nat ?_
  unfold cntL
  rw [List.getElem?_map, List.getElem?_range (by omega)]
  show some (PyData.int _) = _
  rw [if_neg (by omega)]
theorem cnt_last (a n : List Nat) : atI (cnt0 a n) (-1) = some (.int ((rc a n : Nat) : Int)) := by
  unfold cnt0
  rw [List.range_succ, List.map_append, List.map_singleton, atI_last, List.take_length]
/-! by places -/
theorem drop_at {n : List Nat} {b : Nat} (h : b < n.length) : n.drop b = n.getD b 0 :: n.drop (b + 1) := by
  rw [List.drop_eq_getElem_cons h, List.getD_eq_getElem?_getD, List.getElem?_eq_getElem h]
  rfl
theorem gr_hit {o b : Nat} {p n : List Nat} (h : b < n.length) (hh : hitC o (n.getD b 0) = true) : gr (o :: p) (n.drop b) b = (gr p (n.drop (b + 1)) (b + 1)).map (b :: ·) := by
  rw [drop_at h]
  show (if _ then _ else _) = _
  rw [if_pos hh]
theorem gr_miss {o b : Nat} {p n : List Nat} (h : b < n.length) (hh : hitC o (n.getD b 0) = false) : gr (o :: p) (n.drop b) b = gr (o :: p) (n.drop (b + 1)) (b + 1) := by
  rw [drop_at h]
  show (if _ then _ else _) = _
  rw [hh]
  rfl
theorem gr_end {o : Nat} {p n : List Nat} : gr (o :: p) (n.drop n.length) n.length = none := by
  rw [List.drop_length]
  rfl
theorem dec_lt {a b : Nat} (h : decide ((a : Int) < (b : Int)) = true) : a < b := by
  have := of_decide_eq_true h
  omega
theorem rows_hit {o b : Nat} {p n : List Nat} (h : b < n.length) (hh : hitC o (n.getD b 0) = true) : rowsS (o :: p) (n.drop b) b = (rowsS p (n.drop (b + 1)) (b + 1)).map (b :: ·) ++ rowsS (o :: p) (n.drop (b + 1)) (b + 1) := by
  rw [drop_at h]
  show (if _ then _ else _) ++ _ = _
  rw [if_pos hh]
theorem rows_miss {o b : Nat} {p n : List Nat} (h : b < n.length) (hh : hitC o (n.getD b 0) = false) : rowsS (o :: p) (n.drop b) b = rowsS (o :: p) (n.drop (b + 1)) (b + 1) := by
  rw [drop_at h]
  show (if _ then _ else _) ++ _ = _
  rw [hh]
  rfl
theorem R_look_ok {C0 C1 : Addr} {a n : PyData} (hza : okd a) (hz : okd n) (ha : isAsk a = true) (hn : isName n = true) : R_look C0 C1 [a, n] (.ok .none) := ⟨_, _, rfl, hza, hz, by rw [if_pos ha, if_pos hn]⟩
theorem gr_len : ∀ (a n : List Nat) (k : Nat) (q : List Nat), gr a n k = some q → q.length = a.length
  | [], n, k, q, h => by cases n <;> (cases h; rfl)
  | _ :: _, [], _, _, h => by cases h
  | o :: a, c :: n, k, q, h => by
    unfold gr at h
    split at h
    · obtain ⟨r, hr, rfl⟩ := Option.map_eq_some_iff.mp h
      rw [List.length_cons, List.length_cons, gr_len a n _ r hr]
    · exact gr_len (o :: a) n _ q h
theorem gr_lt : ∀ (a n : List Nat) (k : Nat) (q : List Nat), gr a n k = some q → ∀ i ∈ q, i < k + n.length
  | [], n, k, q, h, i, hi => by cases n <;> (cases h; cases hi)
  | _ :: _, [], _, _, h, _, _ => by cases h
  | o :: a, c :: n, k, q, h, i, hi => by
    unfold gr at h
    rw [List.length_cons]
    split at h
    · obtain ⟨r, hr, rfl⟩ := Option.map_eq_some_iff.mp h
      rcases List.mem_cons.mp hi with rfl | hi
      · omega
      · have := gr_lt a n _ r hr i hi
        omega
    · have := gr_lt (o :: a) n _ q h i hi
      omega
theorem at_of {l : List Nat} {i : Int} {j : Nat} (e : i = ((j : Nat) : Int)) (h : j < l.length) : atI l i = some (l.getD j 0) := by
  rw [e]
  exact getD_at h
theorem cnt_atE {a pre : List Nat} {s k i : Nat} {i' : Int} (e : i' = ((i : Nat) : Int)) (hi : i ≤ a.length - k) : atI (cntL a pre s k) i' = some (.int ((rc (a.take i) pre : Nat) : Int)) := by
  rw [e]
  exact cnt_at hi
theorem cnt_len {a pre : List Nat} {s k : Nat} : (cntL a pre s k).length = a.length + 1 := by simp [cntL]
theorem ixN_of {n j : Nat} (hj : j < n) : ixN n (j : Int) = some j := by
  unfold ixN
  rw [if_pos (by omega), if_pos (by omega), Int.toNat_natCast]
theorem cut1 (o : Nat) (a : List Nat) : cutL (o :: a) (some 1) none = a := by
  rw [show (1 : Int) = ((1 : Nat) : Int) from rfl, cut_drop]
  rfl
theorem rows_empty (a : List Nat) (k : Nat) (o : Nat) : rowsS (o :: a) [] k = [] := rfl
theorem rows_nil (n : List Nat) (k : Nat) : rowsS [] n k = [[]] := by cases n <;> rfl
theorem map_rowD (q : Nat) (rs : List (List Nat)) : ((rs.filter fun _ => true).map fun r => PyData.list ([natI q] ++ r.map natI)) = (rs.map (q :: ·)).map rowD := by
  rw [filter_tt, List.map_map]
  rfl
theorem rows_mem : ∀ {a n : List Nat} {k : Nat} {r : List Nat}, r ∈ rowsS a n k → r.length = a.length
  | [], n, k, r, h => by
    rw [rows_nil] at h
    rw [List.mem_singleton.mp h]
  | _ :: _, [], _, _, h => by cases h
  | o :: a, c :: n, k, r, h => by
    unfold rowsS at h
    rcases List.mem_append.mp h with h | h
    · split at h
      · obtain ⟨q, hq, rfl⟩ := List.mem_map.mp h
        rw [List.length_cons, List.length_cons, rows_mem hq]
      · cases h
    · exact rows_mem h
theorem R_seen_ok {C0 C1 : Addr} {f : List Nat → List Nat → PyData} {a n : List Nat} (hza : okd (tx a)) (hz : okd (tx n)) (ha : isAsk (tx a) = true) (hn : isName (tx n) = true) : R_seen C0 C1 f [tx a, tx n] (.ok (f a n)) := ⟨_, _, rfl, hza, hz, by rw [if_pos ha, if_pos hn, cod_tx, cod_tx]⟩
theorem R_seen_er0 {C0 C1 : Addr} {f : List Nat → List Nat → PyData} {a n : PyData} (hza : okd a) (hz : okd n) (ha : isAsk a = true) (hn : isName n = false) : R_seen C0 C1 f [a, n] (.error C0) := ⟨_, _, rfl, hza, hz, by rw [if_pos ha, hn]; rfl⟩
theorem R_seen_er1 {C0 C1 : Addr} {f : List Nat → List Nat → PyData} {a n : PyData} (hza : okd a) (hz : okd n) (ha : isAsk a = false) : R_seen C0 C1 f [a, n] (.error C1) := ⟨_, _, rfl, hza, hz, by rw [ha]; rfl⟩
theorem R_every_ok {C0 C1 C4 : Addr} {a n : List Nat} (hza : okd (tx a)) (hz : okd (tx n)) (ha : isAsk (tx a) = true) (hn : isName (tx n) = true) (hm : rc a n ≤ 1000) : R_every C0 C1 C4 [tx a, tx n] (.ok (.list ((rowsS a n 0).map rowD))) := ⟨_, _, rfl, hza, hz, by rw [if_pos ha, if_pos hn, cod_tx, cod_tx, if_pos hm]⟩
theorem R_every_er0 {C0 C1 C4 : Addr} {a n : PyData} (hza : okd a) (hz : okd n) (ha : isAsk a = true) (hn : isName n = false) : R_every C0 C1 C4 [a, n] (.error C0) := ⟨_, _, rfl, hza, hz, by rw [if_pos ha, hn]; rfl⟩
theorem R_every_er1 {C0 C1 C4 : Addr} {a n : PyData} (hza : okd a) (hz : okd n) (ha : isAsk a = false) : R_every C0 C1 C4 [a, n] (.error C1) := ⟨_, _, rfl, hza, hz, by rw [ha]; rfl⟩
end Lf
set_option Elab.async false
set_option linter.all false
set_option maxRecDepth 100000
set_option maxHeartbeats 4000000
namespace Lf
open PySem PySem.Spec PyProof.Rows L2 L2H HotX LamX
/-! ### the laws' own laying of all rows -/
def posL (o : Nat) (n : List Nat) (k : Nat) : List Nat := ((List.range (n.length - k)).filter fun i => hitC o (n.getD (k + i) 0)).map fun i => k + i
theorem pos_step {o k : Nat} {n : List Nat} (h : k < n.length) : posL o n k = (if hitC o (n.getD k 0) = true then [k] else []) ++ posL o n (k + 1) := by
  unfold posL
  rw [show n.length - k = (n.length - (k + 1)) + 1 by omega, List.range_succ_eq_map, List.filter_cons, List.filter_map]
  have e : ((fun i => hitC o (n.getD (k + i) 0)) ∘ Nat.succ) = fun i => hitC o (n.getD (k + 1 + i) 0) := by
    funext i
    show hitC o (n.getD (k + (i + 1)) 0) = _
    rw [show k + (i + 1) = k + 1 + i by omega]
  rw [e]
  have e2 : ∀ l : List Nat, (l.map Nat.succ).map (fun i => k + i) = l.map fun i => k + 1 + i := fun l => by
    rw [List.map_map]
    refine List.map_congr_left fun i _ => ?_
    show k + (i + 1) = k + 1 + i
    omega
  rw [Nat.add_zero]
  split
  · rw [List.map_cons, e2]
    rfl
  · rw [e2]
    rfl
theorem rows_pos (o : Nat) (a n : List Nat) : ∀ (j k : Nat), n.length - k = j → k ≤ n.length → rowsS (o :: a) (n.drop k) k = (posL o n k).flatMap fun p => (rowsS a (n.drop (p + 1)) (p + 1)).map (p :: ·)
  | 0, k, h, hk => by
    have : k = n.length := by omega
    subst this
    rw [List.drop_length]
    unfold posL
    simp [rowsS]
  | j + 1, k, h, hk => by
    have hlt : k < n.length := by omega
    rw [pos_step hlt, List.flatMap_append, ← rows_pos o a n j (k + 1) (by omega) (by omega)]
    by_cases hh : hitC o (n.getD k 0) = true
    · rw [rows_hit hlt hh, if_pos hh]
      simp
    · rw [rows_miss hlt (by simpa using hh), if_neg hh]
      simp
/-- where a row goes on -/
def nx : List Nat → Nat
  | [] => 0
  | r => r.getLastD 0 + 1
theorem nx_snoc (r : List Nat) (p : Nat) : nx (r ++ [p]) = p + 1 := by
  cases r with
  | nil => rfl
  | cons x r =>
    show (x :: r ++ [p]).getLastD 0 + 1 = p + 1
    rw [List.getLastD_eq_getLast?, List.getLast?_append]
    rfl
theorem fm_congr {α β : Type} {f g : α → List β} : ∀ {l : List α}, (∀ x ∈ l, f x = g x) → l.flatMap f = l.flatMap g
  | [], _ => rfl
  | x :: l, h => by rw [List.flatMap_cons, List.flatMap_cons, h x List.mem_cons_self, fm_congr fun y hy => h y (List.mem_cons_of_mem _ hy)]
def extR (o : Nat) (n : List Nat) (r : List Nat) : List (List Nat) := (posL o n (nx r)).map fun p => r ++ [p]
def lev (n : List Nat) (a : List Nat) (rs : List (List Nat)) : List (List Nat) := a.foldl (fun rs o => rs.flatMap (extR o n)) rs
def okR (n r : List Nat) : Prop := nx r ≤ n.length
theorem lev_rows (n : List Nat) : ∀ (a : List Nat) (rs : List (List Nat)), (∀ r ∈ rs, okR n r) → lev n a rs = rs.flatMap fun r => (rowsS a (n.drop (nx r)) (nx r)).map (r ++ ·)
  | [], rs, _ => by
    unfold lev
    simp [rows_nil]
  | o :: a, rs, hrs => by
    show lev n a (rs.flatMap (extR o n)) = _
    rw [lev_rows n a _ fun r hr => ?_, List.flatMap_assoc]
    · refine fm_congr fun r hr => ?_
      unfold extR
      rw [rows_pos o a n _ (nx r) rfl (hrs r hr), List.flatMap_map, List.map_flatMap]
      refine fm_congr fun p _ => ?_
      rw [nx_snoc, List.map_map]
      refine List.map_congr_left fun q _ => ?_
      show r ++ [p] ++ q = r ++ (p :: q)
      rw [List.append_assoc]
      rfl
    · obtain ⟨r0, h0, h1⟩ := List.mem_flatMap.mp hr
      obtain ⟨p, hp, rfl⟩ := List.mem_map.mp h1
      unfold okR
      rw [nx_snoc]
      unfold posL at hp
      obtain ⟨i, hi, rfl⟩ := List.mem_map.mp hp
      have := List.mem_range.mp (List.mem_filter.mp hi).1
      omega
theorem lev_all (n a : List Nat) : lev n a [[]] = rowsS a n 0 := by
  rw [lev_rows n a _ fun r hr => ?_]
  · simp [nx]
  · cases List.mem_singleton.mp hr
    exact Nat.zero_le _
theorem lev_snoc (n a : List Nat) (o : Nat) (rs : List (List Nat)) : lev n (a ++ [o]) rs = (lev n a rs).flatMap (extR o n) := by
  unfold lev
  rw [List.foldl_append]
  rfl
theorem lev_ok (n a : List Nat) : ∀ r ∈ lev n a [[]], okR n r ∧ r.length = a.length := fun r hr => by
  refine ⟨?_, ?_⟩
  · rcases List.eq_nil_or_concat a with rfl | ⟨b, o, rfl⟩
    · cases List.mem_singleton.mp hr
      exact Nat.zero_le _
    · rw [List.concat_eq_append, lev_snoc] at hr
      obtain ⟨r0, h0, h1⟩ := List.mem_flatMap.mp hr
      obtain ⟨p, hp, rfl⟩ := List.mem_map.mp h1
      unfold okR
      rw [nx_snoc]
      unfold posL at hp
      obtain ⟨i, hi, rfl⟩ := List.mem_map.mp hp
      have := List.mem_range.mp (List.mem_filter.mp hi).1
      omega
  · rw [lev_all] at hr
    exact rows_mem hr
def R_law_hit (ds : List PyData) (r : Res) : Prop := ∃ o s, ds = [tx [o], tx [s]] ∧ s < 128 ∧ r = .ok (.bool (hitL o s))
def R_law_every (ds : List PyData) (r : Res) : Prop := ∃ a n, ds = [tx a, tx n] ∧ a.length ≤ 4 ∧ n.length ≤ 12 ∧ (∀ c ∈ n, c ∈ alpha) ∧ r = .ok (.list ((rowsS a n 0).map rowD))
/-! an ask made of a name -/
def l4 : List Nat := [97, 98, 65, 49]
def putA (here : Int) (name : List Nat) (at_ : Nat) : List Nat :=
  if at_ < name.length ∧ name.getD at_ 0 ∉ lOth ∧ here % 13 > 0 then [if here / 64 % 3 = 0 then name.getD at_ 0 else lowC (name.getD at_ 0)]
  else if here % 13 = 0 then [l4.getD (here / 64 % 4).toNat 0] else []
def stepA (more : Int) (name : List Nat) (st : List Nat × Nat) (j : Nat) : List Nat × Nat :=
  (st.1 ++ putA (drawn more (j : Int)) name (st.2 + (drawn more (j : Int) / 8 % 3).toNat), st.2 + (drawn more (j : Int) / 8 % 3).toNat + 1)
def foldA (more : Int) (name : List Nat) (pre : List Nat) : List Nat × Nat := pre.foldl (stepA more name) ([], 0)
theorem foldA_snoc (more : Int) (name pre : List Nat) (j : Nat) : foldA more name (pre ++ [j]) = stepA more name (foldA more name pre) j := by
  unfold foldA
  rw [List.foldl_append]
  rfl
def askIn (more : Int) (name : List Nat) (most : Int) : List Nat := (foldA more name (List.range (more % (most + 1)).toNat)).1
def R_law_ask_in (ds : List PyData) (r : Res) : Prop := ∃ more name most, ds = [.int more, tx name, .int most] ∧ 0 ≤ most ∧ most ≤ 100 ∧ isNm name = true ∧ r = .ok (tx (askIn more name most))
theorem alpha_alnum : ∀ c ∈ alpha, c ∉ lOth → c ∈ alnum ∧ lowC c ∈ alnum := by decide +kernel
theorem putA_ok {here : Int} {name : List Nat} {p : Nat} (hn : isNm name = true) : (putA here name p).length ≤ 1 ∧ ∀ c ∈ putA here name p, c ∈ alnum := by
  unfold putA
  split
  · rename_i h
    refine ⟨by simp, fun c hc => ?_⟩
    have hm : name.getD p 0 ∈ alpha := by
      rw [List.getD_eq_getElem?_getD, List.getElem?_eq_getElem h.1]
      exact isNm_alpha hn _ (List.getElem_mem h.1)
    have := alpha_alnum _ hm h.2.1
    rw [List.mem_singleton.mp hc]
    split
    · exact this.1
    · exact this.2
  · split
    · refine ⟨by simp, fun c hc => ?_⟩
      rw [List.mem_singleton.mp hc]
      have h1 := Int.emod_nonneg (here / 64) (show (4 : Int) ≠ 0 by decide)
      have h2 := Int.emod_lt_of_pos (here / 64) (show (0 : Int) < 4 by decide)
      have key : ∀ n, n < 4 → l4.getD n 0 ∈ alnum := by decide
      exact key _ (by omega)
    · exact ⟨by simp, fun c hc => by cases hc⟩
theorem foldA_ok {more : Int} {name : List Nat} (hn : isNm name = true) : ∀ pre : List Nat, (foldA more name pre).1.length ≤ pre.length ∧ (∀ c ∈ (foldA more name pre).1, c ∈ alnum) ∧ (foldA more name pre).2 ≤ 3 * pre.length := fun pre => by
  unfold foldA
  suffices h : ∀ st : List Nat × Nat, (∀ c ∈ st.1, c ∈ alnum) → (pre.foldl (stepA more name) st).1.length ≤ st.1.length + pre.length ∧ (∀ c ∈ (pre.foldl (stepA more name) st).1, c ∈ alnum) ∧ (pre.foldl (stepA more name) st).2 ≤ st.2 + 3 * pre.length by
    have := h ([], 0) (fun c hc => by cases hc)
    simpa using this
  induction pre with
  | nil => intro st hs; exact ⟨by simp, hs, by simp⟩
  | cons j r ih =>
    intro st hs
    rw [List.foldl_cons]
    have hp := putA_ok (here := drawn more (j : Int)) (p := st.2 + (drawn more (j : Int) / 8 % 3).toNat) hn
    have h1 := Int.emod_lt_of_pos (drawn more (j : Int) / 8) (show (0 : Int) < 3 by decide)
    have := ih (stepA more name st j) fun c hc => by
      rcases List.mem_append.mp hc with hc | hc
      · exact hs c hc
      · exact hp.2 c hc
    obtain ⟨a1, a2, a3⟩ := this
    refine ⟨Nat.le_trans a1 ?_, a2, Nat.le_trans a3 ?_⟩
    · show (st.1 ++ putA _ _ _).length + r.length ≤ _
      rw [List.length_append, List.length_cons]
      omega
    · show st.2 + (drawn more (j : Int) / 8 % 3).toNat + 1 + 3 * r.length ≤ _
      rw [List.length_cons]
      omega
theorem askIn_ok {more most : Int} {name : List Nat} (hn : isNm name = true) (h0 : 0 ≤ most) (h : most ≤ 8) : isAs (askIn more name most) = true ∧ ((askIn more name most).length : Int) ≤ most := by
  obtain ⟨h1, h2, _⟩ := foldA_ok (more := more) hn (List.range (more % (most + 1)).toNat)
  rw [List.length_range] at h1
  have b1 := Int.emod_nonneg more (show most + 1 ≠ 0 by omega)
  have b2 := Int.emod_lt_of_pos more (show 0 < most + 1 by omega)
  unfold askIn
  refine ⟨?_, by omega⟩
  unfold isAs
  simp only [Bool.and_eq_true, List.all_eq_true, decide_eq_true_eq]
  exact ⟨by omega, h2⟩
theorem low8 {l : List Nat} {x : Nat} (hn : isNm l = true) (h : x < l.length) : l.getD x 0 < 128 := by
  rw [List.getD_eq_getElem?_getD, List.getElem?_eq_getElem h]
  exact (alpha_low _ (isNm_alpha hn _ (List.getElem_mem h))).1
theorem and_lt {a b : Nat} {x : Bool} (h : (decide ((a : Int) < (b : Int)) && x) = true) : a < b := dec_lt (Bool.and_eq_true_iff.mp h).1
theorem row_ne {row : List Nat} : PyData.eqv (rowD row) (.list []) = decide (row = []) := by
  cases row <;> rfl
theorem row_last {row : List Nat} (hb : (!PyData.eqv (rowD row) (.list [])) = true) : atI (row.map natI) (-1) = some (.int ((row.getLastD 0 : Nat) : Int)) := by
  rw [row_ne] at hb
  rcases List.eq_nil_or_concat row with rfl | ⟨b, o, rfl⟩
  · cases hb
  · rw [List.concat_eq_append, List.map_append, List.map_singleton, atI_last, List.getLastD_eq_getLast?, List.getLast?_append]
    rfl
theorem row_nx1 {row : List Nat} (hb : (!PyData.eqv (rowD row) (.list [])) = true) : PyData.int (((row.getLastD 0 : Nat) : Int) + 1) = natI (nx row) := by
  rw [row_ne] at hb
  cases row with
  | nil => cases hb
  | cons x r => rfl
theorem row_nx0 {row : List Nat} (hb : (!PyData.eqv (rowD row) (.list [])) = false) : PyData.int 0 = natI (nx row) := by
  rw [row_ne] at hb
  cases row with
  | nil => rfl
  | cons x r => simp at hb
theorem lay_emp : Lay 1 (.list []) := lay_list (n := 0) fun d hd => by cases hd
theorem ext_data {o : Nat} {n row : List Nat} (hn : ∀ c ∈ n, c ∈ alpha) (h : nx row ≤ n.length) : (((List.range ((n.length : Int) - (nx row : Int)).toNat).filter fun i => hitL o (n.getD (nx row + i) 0)).map fun i => PyData.list (row.map natI ++ [natI (nx row + i)])) = (extR o n row).map rowD := by
  unfold extR posL
  rw [List.map_map, List.map_map, show ((n.length : Int) - (nx row : Int)).toNat = n.length - nx row by omega]
  have e : (List.range (n.length - nx row)).filter (fun i => hitL o (n.getD (nx row + i) 0)) = (List.range (n.length - nx row)).filter (fun i => hitC o (n.getD (nx row + i) 0)) := by
    refine List.filter_congr fun i hi => ?_
    have := List.mem_range.mp hi
    refine hit_same ?_
    rw [List.getD_eq_getElem?_getD, List.getElem?_eq_getElem (by omega)]
    exact hn _ (List.getElem_mem _)
  rw [e]
  refine List.map_congr_left fun i _ => ?_
  show _ = rowD (row ++ [nx row + i])
  unfold rowD
  rw [List.map_append]
  rfl
def R_law_count (ds : List PyData) (r : Res) : Prop := ∃ a n, ds = [tx a, tx n] ∧ a.length ≤ 100 ∧ n.length ≤ 1000 ∧ (∀ c ∈ n, c ∈ alpha) ∧ r = .ok (.int (rc a n : Nat))
end Lf
set_option Elab.async false
set_option linter.all false
set_option maxRecDepth 100000
set_option maxHeartbeats 4000000
namespace Lf
open PySem PySem.Spec PyProof.Rows L2 L2H HotX LamX
/-! ### sorted(list of data) -/
mutual
theorem noP_alike : ∀ (d : PyData), PySem.W.alike d d = true → noP d = true
  | .none, _ => rfl
  | .bool _, _ => rfl
  | .int _, _ => rfl
  | .str _, _ => rfl
  | .list ds, h => noPs_alike ds h
  | .tuple ds, h => noPs_alike ds h
  | .dict _, h => by cases h
theorem noPs_alike : ∀ (ds : List PyData), PySem.W.alikeAll ds ds = true → noPs ds = true
  | [], _ => rfl
  | d :: ds, h => by
    have h : (PySem.W.alike d d && PySem.W.alikeAll ds ds) = true := h
    rw [Bool.and_eq_true] at h
    show (noP d && noPs ds) = true
    rw [noP_alike d h.1, noPs_alike ds h.2]
    rfl
end
theorem each_dt {X : Cx} {pins : List (Addr × Obj)} {σ : L2.St} {H : Hp} {s : Shared} {O : Addr → Prop} (I : Inv X pins σ H s) : ∀ {ds : List PyData} {xs : List V} {us : List Value}, (∀ d ∈ ds, noP d = true) → DtAll O H ds xs → Vals xs us →
    PySem.W.EachIs (fun u d => ∃ x, RelV x u ∧ Dt O H d x) us ds ∧ PySem.W.EachIs (fun u d => ∃ as, Reads s.heap u d as) us ds
  | [], _, _, _, h, r => by
    cases (show _ = ([] : List V) from h)
    cases r
    exact ⟨.nil, .nil⟩
  | d :: ds, _, _, n, h, r => by
    obtain ⟨x, xs, rfl, h1, h2⟩ := h
    cases r with
    | cons rx rr =>
      obtain ⟨a, b⟩ := each_dt I (fun d hd => n d (List.mem_cons_of_mem _ hd)) h2 rr
      exact ⟨.cons ⟨x, rx, h1⟩ a, .cons (Dp.reads I d x _ (Dt.dp d x (n d List.mem_cons_self) h1) rx) b⟩
theorem of_each {O : Addr → Prop} {H : Hp} : ∀ {ds : List PyData} {us : List Value}, PySem.W.EachIs (fun u d => ∃ x, RelV x u ∧ Dt O H d x) us ds → ∃ xs, Vals xs us ∧ DtAll O H ds xs
  | _, _, .nil => ⟨[], .nil, rfl⟩
  | _, _, .cons ⟨x, r, h⟩ t => by
    obtain ⟨xs, a, b⟩ := of_each t
    exact ⟨x :: xs, .cons r a, x, xs, rfl, h, b⟩
def sortD (ds : List PyData) : List PyData := ds.mergeSort (PySem.W.dataLe false fun d => d)
def rSortD (K : PySem.W.Frag) : List V → Hp → VK → Prop := fun vs H Q => ∃ (O : Addr → Prop) (a : Addr) (xs : List V) (ds : List PyData), vs = [V.ref a] ∧ SqL K H a xs ∧ DtAll O H ds xs ∧ PySem.W.AllAlike ds ∧ PySem.W.Sortable ds ∧ (∀ d ∈ ds, d.depth ≤ 30) ∧
  ∀ (ys : List V) (p : Addr), DtAll O H (sortD ds) ys → H p = none → Q (.ref p) (upd H p (.lst ys))
theorem cr_sortD {X : Cx} (hu : X.A.units + 65 < cLine) : CallR X (.builtin "sorted") (rSortD X.K) := by
  intro pins s σ H vs us Q I r h
  obtain ⟨O, a, xs, ds, rfl, hs, hd, al, so, dp, q⟩ := h
  obtain ⟨its, rv, hl, hz⟩ := I.list hs
  rw [Vals.ref1 r]
  obtain ⟨e1, e2⟩ := each_dt I (fun d hb => noP_alike d (al d hb d hb)) hd rv
  have hln := hd.len
  refine PySem.W.sorted_data (enc := fun d => d) hl.isList e1 e2 (by simpa using al) (by simpa using so) (by rw [← hln]; exact hz) (fun d hb => ?_) fun out ho eo => ?_
  · have := dp d hb
    omega
  · obtain ⟨ys, r1, d1⟩ := of_each eo
    obtain ⟨ep, he'⟩ := PyProof.Rows.sortedAll_at s.heap its out.toArray
    have hlen : ys.length ≤ sizeLine := by
      rw [r1.length, ho, ← hln]
      exact hz
    exact ⟨.ref _, upd H (s.heap.objs.size + 1) (.lst ys), I.laid (t' := s.toks) (fun _ _ => PyProof.Rows.sortedAll_old) (Nat.le_succ _) ⟨hlen, out, ep, r1, he'⟩, rfl, q ys _ d1 (I.hok.fresh (Nat.le_succ _))⟩
section
variable {Kf : PySem.W.Frag} {Tf : List (Addr × Str)} {F : Fx Kf Tf} {K : PySem.W.Frag} {ds : List PyData}
theorem cd_sortD (al : PySem.W.AllAlike ds) (so : PySem.W.Sortable ds) (dp : ∀ d ∈ ds, d.depth ≤ 30) : ClD F (rSortD K) [.list ds] (.list (sortD ds)) := fun O H xs Q dom w h k => by
  obtain ⟨x, r, rfl, ⟨a, ys, rfl, _, ga, ra⟩, rfl⟩ := h
  refine ⟨O, a, ys, ds, rfl, SqL.of ga, ra, al, so, dp, fun zs p hd hp => ?_⟩
  exact k _ _ (ext_new hp) (tabs_new w hp) ⟨p, zs, rfl, fresh_ok dom hp, upd_same, hd.grow (ext_new hp)⟩
end
/-- rows of numbers -/
def ci (r : List Nat) : List Int := r.map fun (i : Nat) => (i : Int)
theorem rowD_ci (r : List Nat) : rowD r = .list ((ci r).map .int) := by
  unfold rowD ci
  rw [List.map_map]
  rfl
theorem le_rows (p q : List Nat) : PySem.W.dataLe false (fun d => d) (rowD p) (rowD q) = decide (ci p ≤ ci q) := by
  have h := congrFun (congrFun (PySem.W.dataLe_rows (β := List Nat) ci) p) q
  rw [← h]
  show PySem.W.dataLe false (fun d => d) (rowD p) (rowD q) = PySem.W.dataLe false (fun d => d) (PyData.list ((ci p).map .int)) (PyData.list ((ci q).map .int))
  rw [rowD_ci, rowD_ci]
theorem rows_ge : ∀ {a n : List Nat} {k : Nat} {r : List Nat}, r ∈ rowsS a n k → ∀ i ∈ r, k ≤ i
  | [], n, k, r, h, i, hi => by
    rw [rows_nil] at h
    rw [List.mem_singleton.mp h] at hi
    cases hi
  | _ :: _, [], _, _, h, _, _ => by cases h
  | o :: a, c :: n, k, r, h, i, hi => by
    unfold rowsS at h
    rcases List.mem_append.mp h with h | h
    · split at h
      · obtain ⟨q, hq, rfl⟩ := List.mem_map.mp h
        rcases List.mem_cons.mp hi with rfl | hi
        · exact Nat.le_refl _
        · have := rows_ge hq i hi
          omega
      · cases h
    · have := rows_ge h i hi
      omega
theorem rows_sorted : ∀ (a n : List Nat) (k : Nat), (rowsS a n k).Pairwise fun p q => ci p ≤ ci q
  | [], n, k => by
    rw [rows_nil]
    exact List.pairwise_singleton _ _
  | _ :: _, [], _ => .nil
  | o :: a, c :: n, k => by
    unfold rowsS
    refine List.pairwise_append.mpr ⟨?_, rows_sorted (o :: a) n (k + 1), fun p hp q hq => ?_⟩
    · split
      · refine List.pairwise_map.mpr ((rows_sorted a n (k + 1)).imp fun {p q} h => ?_)
        show (k : Int) :: ci p ≤ (k : Int) :: ci q
        exact List.cons_le_cons_iff.mpr (.inr ⟨rfl, h⟩)
      · exact .nil
    · split at hp
      · obtain ⟨p0, _, rfl⟩ := List.mem_map.mp hp
        cases q with
        | nil =>
          have := rows_mem hq
          cases this
        | cons x q =>
          have := rows_ge hq x List.mem_cons_self
          show (k : Int) :: ci p0 ≤ (x : Int) :: ci q
          exact List.cons_le_cons_iff.mpr (.inl (by omega))
      · cases hp
theorem sort_rows (a n : List Nat) (k : Nat) : sortD ((rowsS a n k).map rowD) = (rowsS a n k).map rowD := by
  unfold sortD
  refine List.mergeSort_of_pairwise (List.pairwise_map.mpr ((rows_sorted a n k).imp fun {p q} h => ?_))
  rw [le_rows]
  exact decide_eq_true h
theorem rows_alike (R : List (List Nat)) : PySem.W.AllAlike (R.map rowD) ∧ PySem.W.Sortable (R.map rowD) ∧ ∀ d ∈ R.map rowD, d.depth ≤ 30 := by
  have al : ∀ p q : List Nat, PySem.W.alikeAll (p.map natI) (q.map natI) = true := fun p => by
    induction p with
    | nil => intro q; rfl
    | cons x p ih =>
      intro q
      cases q with
      | nil => rfl
      | cons y q => exact ih q
  refine ⟨PySem.W.AllAlike.of fun p q => al p q, PySem.W.Sortable.others (fun p => ⟨fun z => (by cases (show PyData.list _ = PyData.none from z)), fun xs z => (by cases (show PyData.list _ = PyData.tuple xs from z))⟩), fun d hd => ?_⟩
  obtain ⟨r, _, rfl⟩ := List.mem_map.mp hd
  exact Nat.le_trans lay_nats.2 (by decide)
end Lf
set_option Elab.async false
set_option linter.all false
set_option maxRecDepth 100000
set_option maxHeartbeats 4000000
namespace Lf
open PySem PySem.Spec PyProof.Rows L2 L2H HotX LamX
/-! ### counts put together -/
theorem rc_rev : ∀ (n a : List Nat), rc a.reverse n.reverse = rc a n
  | [], a => by
    cases a with
    | nil => rfl
    | cons o a => rw [List.reverse_nil, rc_nil (by simp), rc_nil (by simp)]
  | c :: n, a => by
    cases a with
    | nil => rw [List.reverse_nil, rc_empty, rc_empty]
    | cons o a =>
      rw [List.reverse_cons, List.reverse_cons, rc_snoc, rc_rev n a, ← List.reverse_cons, rc_rev n (o :: a)]
      show _ = (if hitC o c = true then rc a n else 0) + rc (o :: a) n
      omega
def sumC (a one other : List Nat) : Nat := ((List.range (a.length + 1)).map fun i => rc (a.take i) one * rc (a.drop i) other).sum
theorem sum_succ (f : Nat → Nat) (m : Nat) : ((List.range (m + 1)).map f).sum = f 0 + ((List.range m).map fun i => f (i + 1)).sum := by
  rw [List.range_succ_eq_map, List.map_cons, List.sum_cons, List.map_map]
  rfl
theorem sum_add (f g : Nat → Nat) : ∀ l : List Nat, (l.map fun i => f i + g i).sum = (l.map f).sum + (l.map g).sum
  | [] => rfl
  | x :: l => by
    simp only [List.map_cons, List.sum_cons, sum_add f g l]
    omega
theorem sum_zero : ∀ l : List Nat, (l.map fun _ => 0).sum = 0
  | [] => rfl
  | x :: l => by simp only [List.map_cons, List.sum_cons, sum_zero l]
theorem sumC_step (o c : Nat) (a one other : List Nat) : sumC (o :: a) (c :: one) other = (if hitC o c = true then sumC a one other else 0) + sumC (o :: a) one other := by
  unfold sumC
  rw [List.length_cons, sum_succ, sum_succ (m := a.length + 1) (f := fun i => rc ((o :: a).take i) one * rc ((o :: a).drop i) other)]
  have e : ∀ i, rc ((o :: a).take (i + 1)) (c :: one) * rc ((o :: a).drop (i + 1)) other = (if hitC o c = true then rc (a.take i) one * rc (a.drop i) other else 0) + rc ((o :: a).take (i + 1)) one * rc ((o :: a).drop (i + 1)) other := fun i => by
    show ((if hitC o c = true then rc (a.take i) one else 0) + rc (o :: a.take i) one) * _ = _
    rw [Nat.add_mul]
    split <;> simp
  rw [show (fun i => rc ((o :: a).take (i + 1)) (c :: one) * rc ((o :: a).drop (i + 1)) other) = fun i => (if hitC o c = true then rc (a.take i) one * rc (a.drop i) other else 0) + rc ((o :: a).take (i + 1)) one * rc ((o :: a).drop (i + 1)) other from funext e, sum_add]
  have h0 : rc ((o :: a).take 0) (c :: one) = rc ((o :: a).take 0) one := by rw [List.take_zero, rc_empty, rc_empty]
  rw [h0]
  split
  · omega
  · rw [sum_zero]
    omega
theorem sumC_all : ∀ (one a other : List Nat), sumC a one other = rc a (one ++ other)
  | [], a, other => by
    unfold sumC
    rw [sum_succ]
    have : ((List.range a.length).map fun i => rc (a.take (i + 1)) [] * rc (a.drop (i + 1)) other) = (List.range a.length).map fun _ => 0 := List.map_congr_left fun i hi => by
      have := List.mem_range.mp hi
      rw [rc_nil (fun h => by have := congrArg List.length h; rw [List.length_take, List.length_nil] at this; omega), Nat.zero_mul]
    rw [this, sum_zero, List.take_zero, rc_empty, List.drop_zero]
    simp
  | c :: one, a, other => by
    cases a with
    | nil =>
      unfold sumC
      simp [rc_empty]
    | cons o a =>
      rw [sumC_step, sumC_all one a other, sumC_all one (o :: a) other]
      rfl
theorem rc_pow : ∀ (n a : List Nat), rc a n ≤ 2 ^ n.length
  | [], a => by
    cases a with
    | nil => exact Nat.le_refl _
    | cons _ _ => exact Nat.zero_le _
  | c :: n, a => by
    cases a with
    | nil => rw [rc_empty]; exact Nat.one_le_two_pow
    | cons o a =>
      have h1 := rc_pow n a
      have h2 := rc_pow n (o :: a)
      show (if hitC o c = true then rc a n else 0) + rc (o :: a) n ≤ 2 ^ (n.length + 1)
      rw [Nat.pow_succ]
      split <;> omega
theorem rc_mul {a b n m : List Nat} (h1 : n.length ≤ 100) (h2 : m.length ≤ 100) : CMulW ((rc a n : Nat) : Int) ((rc b m : Nat) : Int) := by
  have e1 := rc_pow n a
  have e2 := rc_pow m b
  have p1 : 2 ^ n.length ≤ 2 ^ 100 := Nat.pow_le_pow_right (by decide) h1
  have p2 : 2 ^ m.length ≤ 2 ^ 100 := Nat.pow_le_pow_right (by decide) h2
  exact wide_mul (a := 101) (b := 101) (by rw [Int.natAbs_natCast]; omega) (by rw [Int.natAbs_natCast]; omega) (by decide) (by decide) (by decide)
theorem sum_cast (l : List Nat) (f : Nat → Nat) : ((l.map fun i => ((f i : Nat) : Int)).sum) = (((l.map f).sum : Nat) : Int) := by
  induction l with
  | nil => rfl
  | cons x l ih => simp only [List.map_cons, List.sum_cons, ih]; simp
section
variable {Kf : PySem.W.Frag} {Tf : List (Addr × Str)} {F : Fx Kf Tf}
theorem od_repSi {l : List Nat} {i : Int} (hn : 1 ≤ i) (hn2 : i ≤ 100000) (hz : l.length * i.toNat ≤ 100000) : OpD F rMulS (tx l) (.int i) (tx (List.replicate i.toNat l).flatten) := by
  have e : i = ((i.toNat : Nat) : Int) := by omega
  have := od_repS (F := F) (l := l) (n := i.toNat) (by omega) (by omega) hz
  rw [← e] at this
  exact this
end
theorem lay_rows {R : List (List Nat)} : Lay 2 (.list (R.map rowD)) := lay_list (n := 1) fun d hd => by
  obtain ⟨r, _, rfl⟩ := List.mem_map.mp hd
  exact lay_nats
theorem lay_opt {q : Option (List Nat)} : Lay 1 (optD q) := by
  cases q with
  | none => exact lay_none
  | some r => exact lay_nats
theorem lay_ends {q s : Option (List Nat)} : Lay 2 (.tuple [optD q, optD s]) := lay_tuple (n := 1) fun d hd => by
  rcases List.mem_cons.mp hd with rfl | hd
  · exact lay_opt
  · rw [List.mem_singleton.mp hd]
    exact lay_opt
theorem rows_ne {R : List (List Nat)} : PyData.eqv (.list (R.map rowD)) (.list []) = decide (R = []) := by cases R <;> rfl
theorem ends_head {a n : List Nat} (hb : (!PyData.eqv (.list ((rowsS a n 0).map rowD)) (.list [])) = true) : atI ((rowsS a n 0).map rowD) 0 = some (optD (gr a n 0)) := by
  rw [rows_ne] at hb
  rw [gr_head]
  cases q : rowsS a n 0 with
  | nil => rw [q] at hb; cases hb
  | cons r R => exact atI_nat (j := 0) rfl
theorem ends_last {a n : List Nat} (hb : (!PyData.eqv (.list ((rowsS a n 0).map rowD)) (.list [])) = true) : atI ((rowsS a n 0).map rowD) (-1) = some (optD (lastL a n)) := by
  rw [rows_ne] at hb
  rw [lastL_rl, rl_last]
  rcases List.eq_nil_or_concat (rowsS a n 0) with q | ⟨R, r, q⟩
  · rw [q] at hb; cases hb
  · rw [q, List.concat_eq_append, List.map_append, List.map_singleton, atI_last, List.getLast?_append]
    rfl
theorem ends_none {a n : List Nat} (hb : (!PyData.eqv (.list ((rowsS a n 0).map rowD)) (.list [])) = false) : PyData.tuple [.none, .none] = .tuple [optD (gr a n 0), optD (lastL a n)] := by
  rw [rows_ne] at hb
  have : rowsS a n 0 = [] := by simpa using hb
  rw [lastL_rl, rl_last, gr_head, this]
  rfl
theorem R_every_er4 {C0 C1 C4 : Addr} {a n : List Nat} (hza : okd (tx a)) (hz : okd (tx n)) (ha : isAsk (tx a) = true) (hn : isName (tx n) = true) (hm : ¬ rc a n ≤ 1000) : R_every C0 C1 C4 [tx a, tx n] (.error C4) := ⟨_, _, rfl, hza, hz, by rw [if_pos ha, if_pos hn, cod_tx, cod_tx, if_neg hm]⟩
end Lf
set_option Elab.async false
set_option linter.all false
set_option maxRecDepth 100000
set_option maxHeartbeats 4000000
namespace Lf
open PySem PySem.Spec PyProof.Rows L2 L2H HotX LamX
/-! ### zip of two lists -/
section
variable {Kf : PySem.W.Frag} {Tf : List (Addr × Str)} {F : Fx Kf Tf} {δ : List Slot} {X : Cx} {N : List Str} {sc : Scope} {pos p tpos px py pz pt pt2 : Pos} {a b c e : Expr} {elts : List Expr} {kk : Nat} {ds es : List PyData} {x y z : Str} {rest : List Stmt} {P : Post}
def encZ (q : PyData × PyData) : PyData := .tuple [q.1, q.2]
theorem i_zipLL (cx : Ctx X N sc) (hm : X.mg "zip" = none) (h : PA X [a, b] (aD F δ [.list ds, .list es])) (hg : sc.names.lookup ("zip" : Str) = some .globalImplicit := by rfl) (hs : starEach [a, b] X.env = (false, eval a X.env) :: starEach [b] X.env := by rfl) (hpl : (backTo pos (starEach [b] X.env)).any (·.1) = false := by rfl) :
    PI X (.Tuple elts kk tpos) (.Call (.Name "zip" p) [a, b] [] pos) (iD F δ ((ds.zip es).map encZ)) := by
  refine wkI (pi_zip (cx.gl hg) hm h hs hpl) fun σ H R q => ?_
  obtain ⟨O, st, k⟩ := q
  refine ⟨O, st, fun vs H1 e1 t1 g1 => ?_⟩
  obtain ⟨v, r, rfl, ev, u, r', rfl, eu, rfl⟩ := g1
  obtain ⟨q1, xs, rfl, n1, h1, r1⟩ := id ev
  obtain ⟨q2, ys, rfl, n2, h2, r2⟩ := id eu
  refine ⟨q1, q2, xs, ys, rfl, SqL.of h1, SqL.of h2, k (Itz X.K q1 q2) [(.list ds, .ref q1), (.list es, .ref q2)] H1 e1 t1 (fun w hw => ?_) (fun O1 H2 i d g2 dom t2 hd => ?_) fun O1 H2 g2 => ?_⟩
  · rcases List.mem_cons.mp hw with e | hw
    · rw [e]; exact ev
    · rw [List.mem_singleton.mp hw]; exact eu
  · obtain ⟨b1, ys1, eb1, nb1, gb1, rb1⟩ := g2 _ List.mem_cons_self
    obtain ⟨b2, ys2, eb2, nb2, gb2, rb2⟩ := g2 _ (List.mem_cons_of_mem _ List.mem_cons_self)
    cases eb1
    cases eb2
    rw [List.getElem?_map] at hd
    obtain ⟨⟨d1, d2⟩, hz, rfl⟩ := Option.map_eq_some_iff.mp hd
    obtain ⟨hz1, hz2⟩ := List.getElem?_zip_eq_some.mp hz
    obtain ⟨y1, hy1, dy1⟩ := rb1.get hz1
    obtain ⟨y2, hy2, dy2⟩ := rb2.get hz2
    refine ⟨⟨ys1, ys2, y1, y2, SqL.of gb1, SqL.of gb2, hy1, hy2⟩, fun x H3 hyld => ?_⟩
    obtain ⟨T, x1, x2, rfl, hT, rfl, hx1, hx2⟩ := hyld
    have f1 := hx1 ys1 (SqL.of gb1)
    have f2 := hx2 ys2 (SqL.of gb2)
    rw [hy1] at f1
    rw [hy2] at f2
    cases f1
    cases f2
    exact ⟨ext_new hT, tabs_new t2 hT, T, _, rfl, fresh_ok dom hT, upd_same, y1, [y2], rfl, dy1.grow (ext_new hT), y2, [], rfl, dy2.grow (ext_new hT), rfl⟩
  · obtain ⟨b1, ys1, eb1, nb1, gb1, rb1⟩ := g2 _ List.mem_cons_self
    obtain ⟨b2, ys2, eb2, nb2, gb2, rb2⟩ := g2 _ (List.mem_cons_of_mem _ List.mem_cons_self)
    cases eb1
    cases eb2
    refine ⟨ys1, ys2, SqL.of gb1, SqL.of gb2, ?_⟩
    rw [rb1.len, rb2.len, List.length_map, List.length_zip]
    omega
end
end Lf
set_option Elab.async false
set_option linter.all false
set_option maxRecDepth 100000
set_option maxHeartbeats 4000000
namespace Lf
open PySem PySem.Spec PyProof.Rows L2 L2H HotX LamX
section
variable {Kf : PySem.W.Frag} {Tf : List (Addr × Str)} {F : Fx Kf Tf} {K : PySem.W.Frag} {δ : List Slot} {X : Cx} {N : List Str} {sc : Scope} {pos p tpos px py pz pt pt2 : Pos} {a b c e tg it : Expr} {elts : List Expr} {kk : Nat} {ds es : List PyData} {x y z : Str} {rest : List Stmt} {P : Post} {d d1 d2 d3 : PyData}
theorem i_is (h : PI X tg it (iD F δ ds)) (q : ds = es) : PI X tg it (iD F δ es) := by rw [← q]; exact h
/-- a op b op' c, a value -/
theorem x_chain {op op' : CmpOp} {r r' : R2} {k j : Bool} (ho : OpR X (compareOp op) r) (ho' : OpR X (compareOp op') r') (q : OpD F r d1 d2 (.bool k)) (q' : k = true → OpD F r' d2 d3 (.bool j)) (ha : PE X a (tD F δ d1)) (hb : PE X b (tD F δ d2)) (hc : PE X c (tD F δ d3)) (hm : lastMarks [op, op'] [b, c] = false := by with_unfolding_all rfl) :
    PE X (.Compare a [op, op'] [b, c] pos) (tD F δ (.bool (k && j))) :=
  wkE (pe_chain ho ho' ha hb hc hm) fun σ H Q h => by
    obtain ⟨O, st, w⟩ := h
    refine ⟨O, st, fun x H1 e1 t1 g1 => ⟨O, st.grow e1 t1, fun y H2 e2 t2 g2 => ?_⟩⟩
    have s2 := (st.grow e1 t1).grow e2 t2
    refine q O H2 x y _ s2.dom t2 (g1.grow e2) g2 fun v H3 e3 t3 g3 => ⟨k, g3, ?_⟩
    cases k with
    | true =>
      refine iteT ⟨O, s2.grow e3 t3, fun u H4 e4 t4 g4 => ?_⟩
      exact q' rfl O H4 y u _ ((s2.grow e3 t3).grow e4 t4).dom t4 ((g2.grow e3).grow e4) g4 fun v5 H5 e5 t5 g5 => w v5 H5 ((((e1.trans e2).trans e3).trans e4).trans e5) t5 (by cases j <;> exact g5)
    | false => exact iteF (w _ H3 ((e1.trans e2).trans e3) t3 rfl)
theorem x_call0 {R : List PyData → Res → Prop} {k : Nat} {ps : List Str} (cx : Ctx X N sc) (h : Fd X.prog X.w X.K X.mg X.base x k ps (spD Tf R)) (hr : Room k X.A) (hR : R [] (.ok d)) (hg : sc.names.lookup x = some .globalImplicit := by rfl) (hdb : (x == ("__debug__" : Str)) = false := by decide) :
    PE X (.Call (.Name x p) [] [] pos) (tD F δ d) := by
  obtain ⟨f, fd, G, m, kp, b⟩ := h.ex
  refine wkE (pe_call0 G hr (cx.gl hg) m kp b .nil passN hdb) fun σ H Q h => ?_
  obtain ⟨O, st, w⟩ := h
  exact ⟨O, [], .ok d, st.dom, st.tabs, rfl, hR, fun d' q v H' e2 t2 g2 => by cases q; exact w v H' e2 t2 g2, fun c q => by cases q⟩
/-- a name that lambdas use takes a comprehension's list -/
theorem s_setC (i : Nat) {pos' : Pos} (cx : CtD X N sc F.E) (h : PE X e (tD F δ d)) (g : PSs X rest (sD F (δ.set i (.dat d)) P)) (hi : N[i]? = some x := by rfl) (hx : Loc sc x := by first | exact Or.inl rfl | exact Or.inr rfl)
    (hs : swapsWith e (some (.Name x pos')) pos.line (envS sc) = pure false := by rfl) : PSs X (.Assign [.Name x pos'] e pos :: rest) (sD F δ P) :=
  s_set i cx h g hi hx (by
    have c := cx.toCtx.s
    rw [← c] at hs
    generalize X.env = en at hs ⊢
    cases en
    exact hs)
/-- a, b, c = x, y, z -/
theorem s_par3 (i j l : Nat) {kt k2 : Nat} (cx : CtD X N sc F.E) (ha : PA X [a, b, c] (aD F δ [d1, d2, d3])) (g : PSs X rest (sD F (((δ.set i (.dat d1)).set j (.dat d2)).set l (.dat d3)) P)) (hi : N[i]? = some x := by rfl) (hj : N[j]? = some y := by rfl) (hl : N[l]? = some z := by rfl) (hij : i ≠ j := by decide) (hil : i ≠ l := by decide) (hjl : j ≠ l := by decide)
    (hx : sc.names.lookup x = some .local := by rfl) (hy : sc.names.lookup y = some .local := by rfl) (hz : sc.names.lookup z = some .local := by rfl)
    (hw : swappedStores [.Tuple [.Name x px, .Name y py, .Name z pz] kt pt] (.Tuple [a, b, c] k2 pt2) (envS sc) = pure (some [x, y, z]) := by rfl) (hs : swapsWithSole [.Tuple [.Name x px, .Name y py, .Name z pz] kt pt] (.Tuple [a, b, c] k2 pt2) pos.line X.env = pure false := by rfl) :
    PSs X (.Assign [.Tuple [.Name x px, .Name y py, .Name z pz] kt pt] (.Tuple [a, b, c] k2 pt2) pos :: rest) (sD F δ P) :=
  wkSs (pss_cons (ps_par3 cx.calm cx.nd' (cx.at_ hi) (cx.at_ hj) (cx.at_ hl) hij hil hjl (by rw [cx.s]; exact hx) (by rw [cx.s]; exact hy) (by rw [cx.s]; exact hz) ha (sw_eq cx.toCtx hw) hs) g) fun D σ H h' => by
    obtain ⟨O, τ, s0, tm, w⟩ := h'
    refine ⟨O, s0, fun vs H1 e1 t1 g1 => ?_⟩
    obtain ⟨v, r, rfl, h1, u, r', rfl, h2, q, r'', rfl, h3, rfl⟩ := g1
    exact ⟨v, u, q, rfl, O, τ, (((s0.grow e1 t1).setD i h1).setD j h2).setD l h3, tm.grow e1, w⟩
/-- .. the first a new list -/
theorem s_par3A (i j l : Nat) {kt k2 : Nat} (cx : CtD X N sc F.E) (ha : PE X a (tDL F δ ds)) (hb : PA X [b, c] (aD F δ [d2, d3])) (g : PSs X rest (sD F (((δ.set i (.own ds)).set j (.dat d2)).set l (.dat d3)) P)) (hi : N[i]? = some x := by rfl) (hj : N[j]? = some y := by rfl) (hl : N[l]? = some z := by rfl) (hij : i ≠ j := by decide) (hil : i ≠ l := by decide) (hjl : j ≠ l := by decide)
    (hx : sc.names.lookup x = some .local := by rfl) (hy : sc.names.lookup y = some .local := by rfl) (hz : sc.names.lookup z = some .local := by rfl)
    (hw : swappedStores [.Tuple [.Name x px, .Name y py, .Name z pz] kt pt] (.Tuple [a, b, c] k2 pt2) (envS sc) = pure (some [x, y, z]) := by rfl) (hs : swapsWithSole [.Tuple [.Name x px, .Name y py, .Name z pz] kt pt] (.Tuple [a, b, c] k2 pt2) pos.line X.env = pure false := by rfl)
    (h1 : starEach (a :: [b, c]) X.env = (false, eval a X.env) :: starEach [b, c] X.env := by rfl) :
    PSs X (.Assign [.Tuple [.Name x px, .Name y py, .Name z pz] kt pt] (.Tuple [a, b, c] k2 pt2) pos :: rest) (sD F δ P) :=
  wkSs (pss_cons (ps_par3 cx.calm cx.nd' (cx.at_ hi) (cx.at_ hj) (cx.at_ hl) hij hil hjl (by rw [cx.s]; exact hx) (by rw [cx.s]; exact hy) (by rw [cx.s]; exact hz) (pa_cons ha hb h1) (sw_eq cx.toCtx hw) hs) g) fun D σ H h' => by
    obtain ⟨O, τ, s0, tm, w⟩ := h'
    refine ⟨O, s0, fun p xs H1 e1 t1 n1 g1 a1 => ?_⟩
    refine ⟨Shut O p, own_mid s0 e1 t1 n1 g1, fun vs H2 e2 t2 g2 => ?_⟩
    obtain ⟨u, r', rfl, h2, q, r'', rfl, h3, rfl⟩ := g2
    obtain ⟨s3, t3⟩ := own_out s0 tm i (e1.trans e2) t2 n1 (e2 _ _ g1 (fun _ z => by cases z)) (a1.grow e2)
    exact ⟨_, _, _, rfl, Shut O p, τ, (s3.setD j h2).setD l h3, t3, w⟩
/-- .. the second a new list -/
theorem s_par3B (i j l : Nat) {kt k2 : Nat} (cx : CtD X N sc F.E) (ha : PE X a (tD F δ d1)) (hb : PE X b (tDL F δ ds)) (hc : PE X c (tD F δ d3)) (fl : flatD d1 = true) (g : PSs X rest (sD F (((δ.set i (.dat d1)).set j (.own ds)).set l (.dat d3)) P)) (hi : N[i]? = some x := by rfl) (hj : N[j]? = some y := by rfl) (hl : N[l]? = some z := by rfl) (hij : i ≠ j := by decide) (hil : i ≠ l := by decide) (hjl : j ≠ l := by decide)
    (hx : sc.names.lookup x = some .local := by rfl) (hy : sc.names.lookup y = some .local := by rfl) (hz : sc.names.lookup z = some .local := by rfl)
    (hw : swappedStores [.Tuple [.Name x px, .Name y py, .Name z pz] kt pt] (.Tuple [a, b, c] k2 pt2) (envS sc) = pure (some [x, y, z]) := by rfl) (hs : swapsWithSole [.Tuple [.Name x px, .Name y py, .Name z pz] kt pt] (.Tuple [a, b, c] k2 pt2) pos.line X.env = pure false := by rfl)
    (h1 : starEach (a :: [b, c]) X.env = (false, eval a X.env) :: starEach [b, c] X.env := by rfl) (h2 : starEach (b :: [c]) X.env = (false, eval b X.env) :: starEach [c] X.env := by rfl) (h3 : starEach [c] X.env = (false, eval c X.env) :: starEach [] X.env := by rfl) :
    PSs X (.Assign [.Tuple [.Name x px, .Name y py, .Name z pz] kt pt] (.Tuple [a, b, c] k2 pt2) pos :: rest) (sD F δ P) :=
  wkSs (pss_cons (ps_par3 cx.calm cx.nd' (cx.at_ hi) (cx.at_ hj) (cx.at_ hl) hij hil hjl (by rw [cx.s]; exact hx) (by rw [cx.s]; exact hy) (by rw [cx.s]; exact hz) (pa_cons ha (pa_cons hb (pa_cons hc pa_nil h3) h2) h1) (sw_eq cx.toCtx hw) hs) g) fun D σ H h' => by
    obtain ⟨O, τ, s0, tm, w⟩ := h'
    refine ⟨O, s0, fun v H0 e0 t0 g0 => ?_⟩
    refine ⟨O, s0.grow e0 t0, fun p xs H1 e1 t1 n1 g1 a1 => ?_⟩
    refine ⟨Shut O p, own_mid (s0.grow e0 t0) e1 t1 n1 g1, fun u H2 e2 t2 g2 => ?_⟩
    obtain ⟨s3, t3⟩ := own_out ((s0.grow e0 t0).setD i (g0.flat fl)) (tm.grow e0) j (e1.trans e2) t2 n1 (e2 _ _ g1 (fun _ z => by cases z)) (a1.grow e2)
    exact ⟨_, _, _, rfl, Shut O p, τ, s3.setD l g2, t3, w⟩
/-- x in (..), of flat data -/
theorem flatV_of {O : Addr → Prop} {H : Hp} {v : V} (f : flatD d = true) (h : Dt O H d v) : flatV v = true := by
  cases d with
  | none => rw [show v = V.non from h]; rfl
  | bool b => rw [show v = V.bl b from h]; rfl
  | int b => rw [show v = V.int b from h]; rfl
  | str b => rw [show v = V.str b from h]; rfl
  | list b => cases f
  | tuple b => cases f
  | dict b => cases f
theorem eqV_of {O : Addr → Prop} {H : Hp} {v u : V} (f : flatD d1 = true) (g : flatD d2 = true) (h : Dt O H d1 v) (k : Dt O H d2 u) : eqV v u = PyData.eqv d1 d2 := by
  cases d1 <;> cases f <;> cases d2 <;> cases g <;> (rw [show v = _ from h, show u = _ from k]; simp [eqV, PyData.eqv])
theorem inV_of {O : Addr → Prop} {H : Hp} {v : V} (f : flatD d = true) (h : Dt O H d v) : ∀ {ds : List PyData} {vs : List V}, ds.all flatD = true → DtAll O H ds vs → vs.all flatV = true ∧ inV v vs = ds.any fun z => PyData.eqv z d
  | [], _, _, k => by cases k; exact ⟨rfl, rfl⟩
  | e :: ds, _, g, k => by
    obtain ⟨u, r, rfl, k1, k2⟩ := k
    rw [List.all_cons, Bool.and_eq_true] at g
    obtain ⟨i1, i2⟩ := inV_of f h g.2 k2
    refine ⟨by rw [List.all_cons, i1, flatV_of g.1 k1]; rfl, ?_⟩
    unfold inV at i2 ⊢
    rw [List.any_cons, List.any_cons, i2, eqV_of g.1 f k1 h]
theorem od_inT (f : flatD d = true) (g : ds.all flatD = true) : OpD F (rIn K false) d (.tuple ds) (.bool (ds.any fun z => PyData.eqv z d)) := fun O H x y Q _ w hx hy k => by
  obtain ⟨a, xs, ex, _, ga, ra⟩ := hy
  obtain ⟨i1, i2⟩ := inV_of f hx g ra
  exact ⟨a, xs, ex, .inr (SqT.of ga), flatV_of f hx, i1, by rw [i2]; exact k _ H (ExtN.refl H) w rfl⟩
theorem od_ninT (f : flatD d = true) (g : ds.all flatD = true) : OpD F (rIn K true) d (.tuple ds) (.bool (!ds.any fun z => PyData.eqv z d)) := fun O H x y Q _ w hx hy k => by
  obtain ⟨a, xs, ex, _, ga, ra⟩ := hy
  obtain ⟨i1, i2⟩ := inV_of f hx g ra
  exact ⟨a, xs, ex, .inr (SqT.of ga), flatV_of f hx, i1, by rw [i2]; exact k _ H (ExtN.refl H) w rfl⟩
theorem cd_listT : ClD F (fun xs H Q => ∃ p ys, xs = [.ref p] ∧ (SqL K H p ys ∨ SqT K H p ys) ∧ ∀ l, H l = none → Q (.ref l) (upd H l (.lst ys))) [.tuple ds] (.list ds) := fun O H xs Q dom w h k => by
  obtain ⟨x, r, rfl, ⟨a, ys, rfl, _, ga, ra⟩, rfl⟩ := h
  exact ⟨a, ys, rfl, .inr (SqT.of ga), fun q hq => k _ _ (ext_new hq) (tabs_new w hq) ⟨q, ys, rfl, fresh_ok dom hq, upd_same, ra.grow (ext_new hq)⟩⟩
theorem cd_listL : ClD F (fun xs H Q => ∃ p ys, xs = [.ref p] ∧ (SqL K H p ys ∨ SqT K H p ys) ∧ ∀ l, H l = none → Q (.ref l) (upd H l (.lst ys))) [.list ds] (.list ds) := fun O H xs Q dom w h k => by
  obtain ⟨x, r, rfl, ⟨a, ys, rfl, _, ga, ra⟩, rfl⟩ := h
  exact ⟨a, ys, rfl, .inl (SqL.of ga), fun q hq => k _ _ (ext_new hq) (tabs_new w hq) ⟨q, ys, rfl, fresh_ok dom hq, upd_same, ra.grow (ext_new hq)⟩⟩
end
end Lf
set_option Elab.async false
set_option linter.all false
set_option maxRecDepth 100000
set_option maxHeartbeats 4000000
namespace Lf
open PySem PySem.Spec PyProof.Rows L2 L2H HotX LamX
/-! ### dicts of one's own: keys ints and texts -/
def keyD : Key → PyData
  | .inl i => .int i
  | .inr s => .str s
def getK {α : Type} (kvs : List (Key × α)) (k : Key) : Option α := (kvs.find? fun q => decide (q.1 = k)).map (·.2)
def putD {α : Type} (kvs : List (Key × α)) (k : Key) (d : α) : List (Key × α) := if (kvs.any fun q => decide (q.1 = k)) = true then kvs.map (fun q => if q.1 = k then (q.1, d) else q) else kvs ++ [(k, d)]
section
variable {O O' : Addr → Prop} {H H' : Hp} {kvs : List (Key × PyData)} {vs : List (Key × V)} {k : Key} {d : PyData} {x v : V}
theorem kv_cons {p : Key × PyData} {q : Key × V} : KvAll O H (p :: kvs) (q :: vs) ↔ q.1 = p.1 ∧ Dt O H p.2 q.2 ∧ KvAll O H kvs vs := by
  unfold KvAll
  simp only [List.map_cons, List.cons.injEq]
  constructor
  · rintro ⟨⟨h1, h2⟩, x, r, e, h3, h4⟩
    cases e
    exact ⟨h1, h3, h2, h4⟩
  · rintro ⟨h1, h3, h2, h4⟩
    exact ⟨⟨h1, h2⟩, _, _, rfl, h3, h4⟩
theorem kv_nil : KvAll O H [] [] := ⟨rfl, rfl⟩
theorem kv_len (h : KvAll O H kvs vs) : vs.length = kvs.length := by
  have := congrArg List.length h.1
  simpa using this
theorem kv_get {k : Key} : ∀ {kvs : List (Key × PyData)} {vs : List (Key × V)}, KvAll O H kvs vs → (∀ d, getK kvs k = some d → ∃ x, valV vs k = some x ∧ Dt O H d x) ∧ (getK kvs k = none → valV vs k = none)
  | [], [], _ => ⟨fun d h => (by cases h), fun _ => rfl⟩
  | [], q :: vs, h => by have := kv_len h; simp at this
  | p :: kvs, [], h => by have := kv_len h; simp at this
  | p :: kvs, q :: vs, h => by
    obtain ⟨h1, h2, h3⟩ := kv_cons.mp h
    obtain ⟨g1, g2⟩ := kv_get (k := k) h3
    by_cases e : p.1 = k
    · have e1 : getK (p :: kvs) k = some p.2 := by simp [getK, List.find?_cons, e]
      have e2 : valV (q :: vs) k = some q.2 := valV_pos (h1.trans e)
      rw [e1, e2]
      exact ⟨fun d z => by cases z; exact ⟨_, rfl, h2⟩, fun z => by cases z⟩
    · have e1 : getK (p :: kvs) k = getK kvs k := by simp [getK, List.find?_cons, e]
      have e2 : valV (q :: vs) k = valV vs k := valV_neg (fun z => e (h1.symm.trans z))
      rw [e1, e2]
      exact ⟨g1, g2⟩
theorem kv_any : ∀ {kvs : List (Key × PyData)} {vs : List (Key × V)}, KvAll O H kvs vs → (vs.any fun q => decide (q.1 = k)) = (kvs.any fun q => decide (q.1 = k))
  | [], [], _ => rfl
  | [], q :: vs, h => by have := kv_len h; simp at this
  | p :: kvs, [], h => by have := kv_len h; simp at this
  | p :: kvs, q :: vs, h => by
    obtain ⟨h1, h2, h3⟩ := kv_cons.mp h
    rw [List.any_cons, List.any_cons, kv_any h3, h1]
theorem kv_map (g : Dt O H d x) : ∀ {kvs : List (Key × PyData)} {vs : List (Key × V)}, KvAll O H kvs vs → KvAll O H (kvs.map fun q => if q.1 = k then (q.1, d) else q) (vs.map fun q => if q.1 = k then (q.1, x) else q)
  | [], [], _ => kv_nil
  | [], q :: vs, h => by have := kv_len h; simp at this
  | p :: kvs, [], h => by have := kv_len h; simp at this
  | p :: kvs, q :: vs, h => by
    obtain ⟨h1, h2, h3⟩ := kv_cons.mp h
    rw [List.map_cons, List.map_cons]
    refine kv_cons.mpr ⟨?_, ?_, kv_map g h3⟩
    · rw [h1]; split <;> first | rfl | exact h1
    · rw [h1]; split <;> assumption
theorem kv_app {kvs' : List (Key × PyData)} {vs' : List (Key × V)} (h : KvAll O H kvs vs) (g : KvAll O H kvs' vs') : KvAll O H (kvs ++ kvs') (vs ++ vs') := by
  unfold KvAll
  rw [List.map_append, List.map_append, List.map_append, List.map_append, h.1, g.1]
  exact ⟨rfl, h.2.app g.2⟩
theorem kv_put (h : KvAll O H kvs vs) (g : Dt O H d x) : KvAll O H (putD kvs k d) (putK vs k x) := by
  unfold putD putK
  rw [kv_any h]
  split
  · exact kv_map g h
  · exact kv_app h (kv_cons.mpr ⟨rfl, g, kv_nil⟩)
end
section
variable {Kf : PySem.W.Frag} {Tf : List (Addr × Str)} {F : Fx Kf Tf} {O : Addr → Prop} {H H' : Hp} {σ : L2.St} {δ : List Slot} {d : PyData} {v : V} {q : Addr} {τ : List (PyData × V)} {s s' : Slot} {i : Nat}
theorem SlotOk.out {o : Option V} (g : SlotOk F O H o s) (e : ExtN H H') (hn : ∀ a, Lives H a → a ≠ q) : SlotOk F (Shut O q) H' o s := by
  have kp : ∀ d v, Dt O H d v → Dt (Shut O q) H' d v := fun d v g => Dt.imp (fun a o n r w => ⟨fun z => z.elim n (fun z => hn a ⟨o, r, w⟩ z), e a o r w⟩) d v g
  have kpA : ∀ d v, DtAll O H d v → DtAll (Shut O q) H' d v := fun d v g => DtAll.imp (fun a o n r w => ⟨fun z => z.elim n (fun z => hn a ⟨o, r, w⟩ z), e a o r w⟩) d v g
  cases s with
  | non => trivial
  | dat d => obtain ⟨v, a, b⟩ := g; exact ⟨v, a, kp _ _ b⟩
  | own ds => obtain ⟨p, vs, a, b, c, g, r⟩ := g; exact ⟨p, vs, a, .inl b, c, e _ _ g (fun _ z => by cases z), kpA _ _ r⟩
  | odk kvs => obtain ⟨p, vs, a, b, c, g, r⟩ := g; exact ⟨p, vs, a, .inl b, c, e _ _ g (fun _ z => by cases z), r.imp kpA⟩
  | res R => exact res_keep g (fun a ha => (g.2.2 a ha).2.2.same e) (fun a ha => .inl (g.2.2 a ha).1) kp
  | scr ns => exact g
  | any φ => exact g
/-- the address of what is one's own -/
theorem own_at (st : StAt F O H σ δ) (hi : δ[i]? = some s) (hm : s.lone = true) : ∃ q, σ[i]? = some (some (.ref q)) ∧ O q ∧ ¬ Lives F.Hin q := by
  have g := st.slot i _ hi
  cases s with
  | own ds => obtain ⟨q, xs, e1, o1, nl, _⟩ := g; exact ⟨q, get_some e1, o1, nl⟩
  | odk ds => obtain ⟨q, xs, e1, o1, nl, _⟩ := g; exact ⟨q, get_some e1, o1, nl⟩
  | res R => cases hm
  | non => cases hm
  | dat _ => cases hm
  | scr _ => cases hm
  | any _ => cases hm
theorem own_outG (st : StAt F O H σ δ) (tm : Tm O H τ) (i : Nat) (e : ExtN H H') (t : Tabs F.T H') (hn : ∀ a, Lives H a → a ≠ q) (hq : Lives H' q) (hs : ¬ Lives F.Hin q → SlotOk F (Shut O q) H' (some (.ref q)) s) (hl1 : s.lone = true := by rfl) :
    StAt F (Shut O q) H' (σ.set i (some (.ref q))) (δ.set i s) ∧ Tm (Shut O q) H' τ := by
  have hh : ∀ p, s.has (some (.ref q)) p → p = q := fun p z => by
    cases s with
    | own _ => cases (show some (V.ref q) = some (V.ref p) from z); rfl
    | odk _ => cases (show some (V.ref q) = some (V.ref p) from z); rfl
    | _ => cases hl1
  have kp : ∀ d v, Dt O H d v → Dt (Shut O q) H' d v := fun d v g => Dt.imp (fun a o n r w => ⟨fun z => z.elim n (fun z => hn a ⟨o, r, w⟩ z), e a o r w⟩) d v g
  have nq : ∀ (j : Nat) (s : Slot), δ[j]? = some s → s.mine = true → σ[j]? ≠ some (some (V.ref q)) := fun j s a m z => by
    have hlo : s.lone = true := by
      have g := st.slot j s a
      rw [z] at g
      cases s with
      | res R => obtain ⟨e1, _, _⟩ := g; cases e1
      | own _ => rfl
      | odk _ => rfl
      | non => cases m
      | dat _ => cases m
      | scr _ => cases m
      | any _ => cases m
    obtain ⟨p, e1, o1, _⟩ := own_at st a hlo
    rw [z] at e1
    cases e1
    exact hn q (st.dom q o1) rfl
  refine ⟨⟨by rw [List.length_set, List.length_set, st.len], fun a z => .inl (st.o0 a z), fun a z => ?_, t, st.ext.trans e, fun j s r => ?_, fun j l s' u' q' hjl h1 h2 m1 m2 e1 e2 => ?_, st.afar.set st.len i _ _ (fun R z => by rw [z] at hl1; cases hl1) fun j R _ hj p hp z => ?_⟩, fun w hw => kp _ _ (tm w hw)⟩
  rotate_right
  · rw [hh p z] at hp
    exact hn q ((st.slot j _ hj).2.2 q hp).2.2 rfl
  · rcases z with z | z
    · exact (st.dom a z).grow e
    · rw [z]; exact hq
  · by_cases ej : i = j
    · subst ej
      have hi : i < δ.length := by
        have := (List.getElem?_eq_some_iff.mp r).1
        simpa using this
      rw [List.getElem?_set_self hi] at r
      cases r
      rw [List.getElem?_set_self (by rw [st.len]; exact hi)]
      exact hs fun z => hn q (z.grow st.ext) rfl
    · rw [List.getElem?_set_ne ej] at r ⊢
      exact (st.slot j s r).out e hn
  · by_cases ej : i = j
    · by_cases el : i = l
      · exact hjl (ej.symm.trans el)
      · rw [List.getElem?_set_ne el] at h2 e2
        subst ej
        have hi : i < σ.length := by
          have := (List.getElem?_eq_some_iff.mp e1).1
          simpa using this
        rw [List.getElem?_set_self hi] at e1
        cases e1
        exact nq l u' h2 m2 e2
    · rw [List.getElem?_set_ne ej] at h1 e1
      by_cases el : i = l
      · subst el
        have hi : i < σ.length := by
          have := (List.getElem?_eq_some_iff.mp e2).1
          simpa using this
        rw [List.getElem?_set_self hi] at e2
        cases e2
        exact nq j s' h1 m1 e1
      · rw [List.getElem?_set_ne el] at h2 e2
        exact st.apart j l s' u' q' hjl h1 h2 m1 m2 e1 e2
theorem own_turnG {o : HO} (st : StAt F O H σ δ) (tm : Tm O H τ) (hi : δ[i]? = some s) (hm : s.mine = true) (hv : σ[i]? = some (some (.ref q))) (ht : ∀ ps, o ≠ .tbl ps) (tt : Tabs F.T (upd H q o)) (hs : O q → ¬ Lives F.Hin q → SlotOk F O (upd H q o) (some (.ref q)) s') (hl1 : s.lone = true := by rfl) (hl2 : s'.lone = true := by rfl) :
    StAt F O (upd H q o) σ (δ.set i s') ∧ Tm O (upd H q o) τ := by
  have hh : ∀ {s : Slot} p, s.lone = true → (s.has (some (.ref q)) p ↔ p = q) := fun {s} p hl => by
    cases s with
    | own _ => exact ⟨fun z => by cases (show some (V.ref q) = some (V.ref p) from z); rfl, fun z => by rw [z]; rfl⟩
    | odk _ => exact ⟨fun z => by cases (show some (V.ref q) = some (V.ref p) from z); rfl, fun z => by rw [z]; rfl⟩
    | _ => cases hl
  obtain ⟨p, e1, o1, nl⟩ := own_at st hi hl1
  rw [hv] at e1
  cases e1
  have kp : ∀ d v, Dt O H d v → Dt O (upd H q o) d v := fun d v g => g.turn o1
  have kpA : ∀ d v, DtAll O H d v → DtAll O (upd H q o) d v := fun d v g => g.turn o1
  have hil : i < δ.length := (List.getElem?_eq_some_iff.mp hi).1
  have mineset : ∀ {j : Nat} {u : Slot}, (δ.set i s')[j]? = some u → u.mine = true → ∃ u', δ[j]? = some u' ∧ u'.mine = true := fun {j u} a m => by
    by_cases e : i = j
    · subst e
      exact ⟨_, hi, hm⟩
    · rw [List.getElem?_set_ne e] at a
      exact ⟨u, a, m⟩
  refine ⟨⟨by rw [List.length_set, st.len], st.o0, fun a z => (st.dom a z).turn ht, tt, fun b u g t => ?_, fun j s r => ?_, fun j l s' u' q' hjl h1 h2 m1 m2 => ?_, st.afar.turn st.len i _ (fun R z => by rw [z] at hl2; cases hl2) fun j R hji hj p hp z => ?_⟩, fun w hw => kp _ _ (tm w hw)⟩
  rotate_right
  · rw [hv] at z
    exact st.afar j i R _ hji hj hi p hp (by rw [hv]; exact (hh p hl1).mpr ((hh p hl2).mp z))
  · rw [upd_ne (fun z => nl (by rw [← z]; exact ⟨u, g, t⟩))]
    exact st.ext b u g t
  · by_cases e : i = j
    · subst e
      rw [List.getElem?_set_self hil] at r
      cases r
      rw [hv]
      exact hs o1 nl
    · rw [List.getElem?_set_ne e] at r
      have g := st.slot j s r
      cases s with
      | non => trivial
      | dat d => obtain ⟨v, a, b⟩ := g; exact ⟨v, a, kp _ _ b⟩
      | own ds' =>
        obtain ⟨p, vs', a, b, c, g, r'⟩ := g
        have ne : p ≠ q := fun z => st.apart i j _ _ q e hi r hm rfl hv (by rw [← z]; exact get_some a)
        exact ⟨p, vs', a, b, c, by rw [upd_ne ne]; exact g, kpA _ _ r'⟩
      | odk kvs =>
        obtain ⟨p, vs', a, b, c, g, r'⟩ := g
        have ne : p ≠ q := fun z => st.apart i j _ _ q e hi r hm rfl hv (by rw [← z]; exact get_some a)
        exact ⟨p, vs', a, b, c, by rw [upd_ne ne]; exact g, r'.imp kpA⟩
      | res R => exact res_keep g (fun a ha => upd_ne fun z => st.afar j i R _ (fun y => e y.symm) r hi a ha (by rw [hv, z]; exact (hh q hl1).mpr rfl)) (fun a ha => (g.2.2 a ha).1) kp
      | scr ns => exact g
      | any φ => exact g
  · obtain ⟨s1, a1, b1⟩ := mineset h1 m1
    obtain ⟨s2, a2, b2⟩ := mineset h2 m2
    exact st.apart j l s1 s2 q' hjl a1 a2 b1 b2
/-- what is one's own goes to another name -/
theorem own_move {j : Nat} {v : V} (st : StAt F O H σ δ) (hi : δ[i]? = some s) (hv : σ[i]? = some (some v)) (hij : i ≠ j) : StAt F O H (σ.set j (some v)) ((δ.set i .non).set j s) := by
  have hil : i < δ.length := (List.getElem?_eq_some_iff.mp hi).1
  have back : ∀ {l : Nat} {u : Slot} {p : Addr}, ((δ.set i .non).set j s)[l]? = some u → u.mine = true → (σ.set j (some v))[l]? = some (some (.ref p)) → ∃ m, δ[m]? = some u ∧ σ[m]? = some (some (.ref p)) ∧ (m = if l = j then i else l) ∧ l ≠ i := fun {l u p} a m b => by
    by_cases e : j = l
    · subst e
      have hj : j < (δ.set i .non).length := by
        have := (List.getElem?_eq_some_iff.mp a).1
        simpa using this
      rw [List.getElem?_set_self hj] at a
      cases a
      rw [List.getElem?_set_self (by rw [st.len]; simpa using hj)] at b
      cases b
      exact ⟨i, hi, hv, by rw [if_pos rfl], fun z => hij z.symm⟩
    · rw [List.getElem?_set_ne e] at a b
      by_cases e2 : i = l
      · subst e2
        rw [List.getElem?_set_self hil] at a
        cases a
        cases m
      · rw [List.getElem?_set_ne e2] at a
        exact ⟨l, a, b, by rw [if_neg fun z => e z.symm], fun z => e2 z.symm⟩
  refine ⟨by rw [List.length_set, List.length_set, List.length_set, st.len], st.o0, st.dom, st.tabs, st.ext, fun l u r => ?_, fun l m s' u' q' hjl h1 h2 m1 m2 e1 e2 => ?_, ?_⟩
  rotate_right
  · have a1 : Afar σ (δ.set i .non) := st.afar.turn st.len i _ (fun R z => by cases z) fun j R _ _ p _ z => z
    have hsl := st.slot i _ hi
    rw [hv] at hsl
    refine a1.set (by rw [List.length_set, st.len]) j _ _ (fun R eR l u hl hu p hp z => ?_) fun l R hl hR p hp z => ?_
    · by_cases hli : i = l
      · subst hli
        rw [List.getElem?_set_self hil] at hu
        cases hu
        exact z
      · rw [List.getElem?_set_ne hli] at hu
        exact st.afar i l R u hli (by rw [hi, eR]) hu p hp z
    · by_cases hli : i = l
      · subst hli
        rw [List.getElem?_set_self hil] at hR
        cases hR
      · rw [List.getElem?_set_ne hli] at hR
        exact st.afar l i R s (fun y => hli y.symm) hR hi p hp (by rw [hv]; exact z)
  · by_cases e : j = l
    · subst e
      have hj : j < (δ.set i .non).length := by
        have := (List.getElem?_eq_some_iff.mp r).1
        simpa using this
      rw [List.getElem?_set_self hj] at r
      cases r
      rw [List.getElem?_set_self (by rw [st.len]; simpa using hj)]
      have := st.slot i _ hi
      rw [hv] at this
      exact this
    · rw [List.getElem?_set_ne e] at r ⊢
      by_cases e2 : i = l
      · subst e2
        rw [List.getElem?_set_self hil] at r
        cases r
        trivial
      · rw [List.getElem?_set_ne e2] at r
        exact st.slot l u r
  · obtain ⟨a, a1, a2, a3, a4⟩ := back h1 m1 e1
    obtain ⟨b, b1, b2, b3, b4⟩ := back h2 m2 e2
    refine st.apart a b s' u' q' (fun z => hjl ?_) a1 b1 m1 m2 a2 b2
    rw [a3, b3] at z
    split at z <;> split at z
    · rename_i x y; rw [x, y]
    · exact absurd z.symm b4
    · exact absurd z a4
    · exact z
end
section
variable {Kf : PySem.W.Frag} {Tf : List (Addr × Str)} {F : Fx Kf Tf} {δ : List Slot} {X : Cx} {N : List Str} {sc : Scope} {pos apos p px py tpos pos' : Pos} {a b c e o tg it : Expr} {ds es : List PyData} {x y : Str} {rest : List Stmt} {P : Post} {d d1 : PyData} {kvs : List (Key × PyData)} {k : Key} {i j : Nat}
theorem kV_of {O : Addr → Prop} {H : Hp} {v : V} (h : Dt O H (keyD k) v) : v = kV k := by
  cases k with
  | inl i => exact h
  | inr s => exact h
theorem dk_slot {O : Addr → Prop} {H : Hp} {σ : L2.St} (st : StAt F O H σ δ) (hi : δ[i]? = some (.odk kvs)) : ∃ q vs, σ[i]? = some (some (.ref q)) ∧ H q = some (.dK vs) ∧ KvAll O H kvs vs := by
  obtain ⟨q, vs, e1, o1, nl, gq, r⟩ := st.slot i _ hi
  exact ⟨q, vs, get_some e1, gq, r⟩
/-- d[k] -/
theorem x_dget (i : Nat) (cx : Ctx X N sc) (hu : X.A.units + 1 < cLine) (hi : δ[i]? = some (.odk kvs)) (hk : PE X b (tD F δ d1)) (hkk : d1 = keyD k) (hv : getK kvs k = some d) (hN : N[i]? = some x := by rfl) (hvis : Vis sc x := by first | exact Or.inl rfl | exact Or.inr (Or.inl rfl) | exact Or.inr (Or.inr rfl)) (hd : (x == ("__debug__" : Str)) = false := by decide)
    (hcd : (x == ("__classdict__" : Str)) = false := by decide) (hs : NoSl b := by exact fun _ _ => rfl) : PE X (.Subscript (.Name x px) b pos) (tD F δ d) :=
  wkE (pe_dget hu (pe_var (i := i) (cx.at_ hN) (cx.vis hvis) hd hcd) hk hs) fun σ H Q h => by
    obtain ⟨O, st, w⟩ := h
    obtain ⟨q, vs, e1, gq, r⟩ := dk_slot st hi
    refine ⟨.ref q, e1, O, st, fun y H1 e' t' g' => ?_⟩
    obtain ⟨q2, vs2, e2, gq2, r2⟩ := dk_slot (st.grow e' t') hi
    rw [e1] at e2
    cases e2
    obtain ⟨z, z1, z2⟩ := (kv_get r2).1 d hv
    subst hkk
    rw [kV_of g']
    refine ⟨q, z, rfl, ?_, w z H1 e' t' z2⟩
    have := DGet.k (k := k) gq2
    rw [z1] at this
    exact this
theorem dget_of {O : Addr → Prop} {H : Hp} {vs : List (Key × V)} {q : Addr} (gq : H q = some (.dK vs)) (r : KvAll O H kvs vs) : ∃ ov, DGet H q (kV k) ov ∧ ov.isSome = (getK kvs k).isSome := by
  refine ⟨_, DGet.k gq, ?_⟩
  cases e : getK kvs k with
  | none => rw [(kv_get r).2 e]; rfl
  | some d => obtain ⟨z, z1, _⟩ := (kv_get r).1 d e; rw [z1]; rfl
/-- k in d -/
theorem c_din (i : Nat) (cx : Ctx X N sc) (hu : X.A.units + 1 < cLine) (hi : δ[i]? = some (.odk kvs)) (hk : PE X b (tD F δ d1)) (hkk : d1 = keyD k) (hN : N[i]? = some x := by rfl) (hvis : Vis sc x := by first | exact Or.inl rfl | exact Or.inr (Or.inl rfl) | exact Or.inr (Or.inr rfl)) (hd : (x == ("__debug__" : Str)) = false := by decide)
    (hcd : (x == ("__classdict__" : Str)) = false := by decide) (hm : behindInMarks .In (.Name x px) = false := by rfl) : PT X (.Compare b [.In] [.Name x px] pos) (cD F δ (getK kvs k).isSome) :=
  wkT (pt_cmp (pc_din hu hk (pe_var (i := i) (cx.at_ hN) (cx.vis hvis) hd hcd)) hm) fun σ H Q h => by
    obtain ⟨O, st, w⟩ := h
    refine ⟨O, st, fun y H1 e' t' g' => ?_⟩
    obtain ⟨q, vs, e1, gq, r⟩ := dk_slot (st.grow e' t') hi
    subst hkk
    rw [kV_of g']
    obtain ⟨ov, g1, g2⟩ := dget_of (k := k) gq r
    exact ⟨.ref q, e1, q, ov, rfl, g1, _, rfl, by rw [g2]; exact w H1 e' t'⟩
/-- d.get(k, x) -/
theorem x_dget2 (i : Nat) (cx : Ctx X N sc) (hu : X.A.units + 1 < cLine) (hi : δ[i]? = some (.odk kvs)) (hk : PE X b (tD F δ d1)) (hkk : d1 = keyD k) (hc : PE X c (tD F δ d)) (m : M2 X (.Name x px) "get" apos b c pos) (hN : N[i]? = some x := by rfl) (hvis : Vis sc x := by first | exact Or.inl rfl | exact Or.inr (Or.inl rfl) | exact Or.inr (Or.inr rfl)) (hd : (x == ("__debug__" : Str)) = false := by decide)
    (hcd : (x == ("__classdict__" : Str)) = false := by decide) : PE X (.Call (.Attribute (.Name x px) "get" apos) [b, c] [] pos) (tD F δ ((getK kvs k).getD d)) :=
  wkE (pe_dget2 hu (pe_var (i := i) (cx.at_ hN) (cx.vis hvis) hd hcd) hk hc m) fun σ H Q h => by
    obtain ⟨O, st, w⟩ := h
    obtain ⟨q, vs, e1, gq, r⟩ := dk_slot st hi
    refine ⟨.ref q, e1, q, rfl, .inl ⟨_, .inl gq⟩, O, st, fun y H1 e' t' g' => ⟨O, st.grow e' t', fun z H2 e2 t2 g2 => ?_⟩⟩
    obtain ⟨q2, vs2, e3, gq2, r2⟩ := dk_slot ((st.grow e' t').grow e2 t2) hi
    rw [e1] at e3
    cases e3
    subst hkk
    rw [kV_of g']
    refine ⟨_, DGet.k gq2, ?_⟩
    cases e4 : getK kvs k with
    | none =>
      rw [(kv_get r2).2 e4]
      rw [e4] at w
      exact w z H2 (e'.trans e2) t2 g2
    | some d' =>
      obtain ⟨u, u1, u2⟩ := (kv_get r2).1 d' e4
      rw [u1]
      rw [e4] at w
      exact w u H2 (e'.trans e2) t2 u2
/-- x = {} -/
theorem s_dnew (i : Nat) (cx : CtD X N sc F.E) (g : PSs X rest (sD F (δ.set i (.odk [])) P)) (hi : N[i]? = some x := by rfl) (hx : Loc sc x := by first | exact Or.inl rfl | exact Or.inr rfl)
    (hs : swapsWith (.Dict [] [] p) (some (.Name x pos')) pos.line X.env = pure false := by rfl) : PSs X (.Assign [.Name x pos'] (.Dict [] [] p) pos :: rest) (sD F δ P) :=
  wkSs (pss_cons (ps_set (cx.nd') (cx.at_ hi) (cx.loc hx) pe_dnewK hs (.inl (cx.fn x))) g) fun D σ H h' => by
    obtain ⟨O, τ, s0, tm, w⟩ := h'
    intro q hq
    obtain ⟨s1, t1⟩ := own_outG (s := .odk []) s0 tm i (ext_new (o := .dK []) hq) (tabs_new s0.tabs hq) (fun a l => l.ne hq) ⟨_, upd_same, fun _ z => by cases z⟩ fun nl => ⟨q, [], rfl, .inr rfl, nl, upd_same, kv_nil⟩
    exact ⟨Shut O q, τ, s1, t1, w⟩
/-- x = {k: v} -/
theorem s_dnew1 (i : Nat) (cx : CtD X N sc F.E) (hk : PE X b (tD F δ d1)) (hkk : d1 = keyD k) (hv : PE X c (tD F δ d)) (fl : flatD d = true) (g : PSs X rest (sD F (δ.set i (.odk [(k, d)])) P)) (hi : N[i]? = some x := by rfl) (hx : Loc sc x := by first | exact Or.inl rfl | exact Or.inr rfl)
    (hs : swapsWith (.Dict [some b] [c] p) (some (.Name x pos')) pos.line X.env = pure false := by rfl) : PSs X (.Assign [.Name x pos'] (.Dict [some b] [c] p) pos :: rest) (sD F δ P) :=
  wkSs (pss_cons (ps_set (cx.nd') (cx.at_ hi) (cx.loc hx) (pe_disp (pps_cons hk hv pps_nil) rfl rfl (by simp) (by show 1 ≤ 15; decide)) hs (.inl (cx.fn x))) g) fun D σ H h' => by
    obtain ⟨O, τ, s0, tm, w⟩ := h'
    intro q hq
    have e0 := ext_new (o := .dK []) hq
    have s0' := s0.grow e0 (tabs_new s0.tabs hq)
    refine ⟨O, s0', fun u H1 e1 t1 g1 => ⟨O, s0'.grow e1 t1, fun z H2 e2 t2 g2 => ?_⟩⟩
    have gq : H2 q = some (.dK []) := e2 _ _ (e1 _ _ upd_same (fun _ z => by cases z)) (fun _ z => by cases z)
    subst hkk
    rw [kV_of g1]
    refine ⟨gq, [(k, z)], rfl, by show 1 ≤ 15; decide, ?_⟩
    have ex : ExtN H (upd H2 q (.dK (mergeK [] [(k, z)]))) := fun b o gb tb => by
      have nb : b ≠ q := ne_of_none gb hq
      rw [upd_ne nb]
      exact e2 _ _ (e1 _ _ (by rw [upd_ne nb]; exact gb) tb) tb
    have tt : Tabs F.T (upd H2 q (.dK (mergeK [] [(k, z)]))) := tabs_turnK t2 gq
    obtain ⟨s1, t1'⟩ := own_outG (s := .odk [(k, d)]) s0 tm i ex tt (fun a l => l.ne hq) ⟨_, upd_same, fun _ z => by cases z⟩ fun nl => ⟨q, [(k, z)], rfl, .inr rfl, nl, upd_same, kv_cons.mpr ⟨rfl, g2.flat fl, kv_nil⟩⟩
    exact ⟨Shut O q, τ, s1, t1', w⟩
/-- d[k] = v -/
theorem s_dput (i : Nat) (cx : CtD X N sc F.E) (hu : X.A.units + 1 < cLine) (hi : δ[i]? = some (.odk kvs)) (h : PE X e (tD F δ d)) (hn : PE X b (tD F δ d1)) (hkk : d1 = keyD k) (hz : kvs.length < 100000) (g : PSs X rest (sD F (δ.set i (.odk (putD kvs k d))) P)) (hN : N[i]? = some x := by rfl) (hv : Vis sc x := by first | exact Or.inl rfl | exact Or.inr (Or.inl rfl) | exact Or.inr (Or.inr rfl))
    (hd : (x == ("__debug__" : Str)) = false := by decide) (hcd : (x == ("__classdict__" : Str)) = false := by decide) (hs : swapsWithSole [.Subscript (.Name x px) b tpos] e pos.line X.env = pure false := by rfl) (hw : swappedStores [.Subscript (.Name x px) b tpos] e (envS sc) = pure none := by rfl) (h1 : (assignEach [.Subscript (.Name x px) b tpos] X.env).map (·.2) = [assign (.Subscript (.Name x px) b tpos) X.env] := by rfl)
    (ha : ∀ v, assign (.Subscript (.Name x px) b tpos) X.env v = (do
      let ov ← holding [v] (eval (.Name x px) X.env)
      let iv ← holding [v, ov] (eval b X.env)
      standAt tpos
      holding [v, ov, iv] (setItem ov iv v)
      release [v, ov, iv] []) := by intro _; rfl) :
    PSs X (.Assign [.Subscript (.Name x px) b tpos] e pos :: rest) (sD F δ P) :=
  wkSs (pss_cons (ps_asg h (pg_sub (pe_var (i := i) (cx.at_ hN) (cx.vis hv) hd hcd) hn (set_dict hu) ha) hs (sw_eq cx.toCtx hw) h1) g) fun D σ H h' => by
    obtain ⟨O, τ, s0, tm, w⟩ := h'
    obtain ⟨q, vs, e1, gq, r⟩ := dk_slot s0 hi
    refine ⟨O, s0, fun v H1 ex1 t1 g1 => ⟨.ref q, e1, O, s0.grow ex1 t1, fun y H2 ex2 t2 g2 => ?_⟩⟩
    obtain ⟨q2, vs2, e2, gq2, r2⟩ := dk_slot ((s0.grow ex1 t1).grow ex2 t2) hi
    rw [e1] at e2
    cases e2
    subst hkk
    rw [kV_of g2]
    have ho : O q := by
      obtain ⟨p, e3, o1, _⟩ := own_at s0 hi rfl
      rw [e1] at e3
      cases e3
      exact o1
    obtain ⟨s1, tm1⟩ := own_turnG (s' := .odk (putD kvs k d)) ((s0.grow ex1 t1).grow ex2 t2) ((tm.grow ex1).grow ex2) hi rfl e1 (fun _ z => by cases z) (tabs_turnK t2 gq2) fun o1 nl => ⟨q, putK vs2 k v, rfl, o1, nl, upd_same, (kv_put r2 (g1.grow ex2)).imp fun _ _ z => z.turn ho⟩
    exact ⟨q, _, rfl, DPut.k gq2 (by rw [kv_len r2]; exact Nat.lt_of_lt_of_le hz (by decide)), O, τ, s1, tm1, w⟩
/-- y = x, and x is let go -/
theorem s_move (i j : Nat) {s : Slot} (cx : CtD X N sc F.E) (hi : δ[i]? = some s) (hm : s.lone = true) (g : PSs X rest (sD F ((δ.set i .non).set j s) P)) (hij : i ≠ j := by decide) (hN : N[i]? = some x := by rfl) (hv : Vis sc x := by first | exact Or.inl rfl | exact Or.inr (Or.inl rfl) | exact Or.inr (Or.inr rfl))
    (hd : (x == ("__debug__" : Str)) = false := by decide) (hcd : (x == ("__classdict__" : Str)) = false := by decide) (hj : N[j]? = some y := by rfl) (hy : Loc sc y := by first | exact Or.inl rfl | exact Or.inr rfl)
    (hs : swapsWith (.Name x px) (some (.Name y pos')) pos.line X.env = pure false := by rfl) : PSs X (.Assign [.Name y pos'] (.Name x px) pos :: rest) (sD F δ P) :=
  wkSs (pss_cons (ps_set (cx.nd') (cx.at_ hj) (cx.loc hy) (pe_var (i := i) (cx.at_ hN) (cx.vis hv) hd hcd) hs (.inl (cx.fn y))) g) fun D σ H h' => by
    obtain ⟨O, τ, s0, tm, w⟩ := h'
    obtain ⟨q, e1, _, _⟩ := own_at s0 hi hm
    exact ⟨.ref q, e1, O, τ, own_move s0 hi e1 hij, tm, w⟩
end
/-! ### sorted(dict) -/
def rSortK : List V → Hp → VK → Prop := fun vs H Q => ∃ (a : Addr) (kvs : List (Key × V)), vs = [V.ref a] ∧ H a = some (.dK kvs) ∧ PySem.W.AllAlike (kvs.map fun q => keyD q.1) ∧ PySem.W.Sortable (kvs.map fun q => keyD q.1) ∧
  ∀ (ys : List V) (p : Addr), DtAll (fun _ => False) H (sortD (kvs.map fun q => keyD q.1)) ys → H p = none → Q (.ref p) (upd H p (.lst ys))
theorem key_rel {k : Key} {v : Value} (h : keyIs k v = true) : RelV (kV k) v := by
  rcases keyIs_shape h with ⟨i, t, ek, ev⟩ | ⟨z, t, ek, ev⟩
  · subst ek; exact ⟨t, ev⟩
  · subst ek; exact ⟨t, ev⟩
theorem key_dt {O : Addr → Prop} {H : Hp} {k : Key} : Dt O H (keyD k) (kV k) := by
  cases k with
  | inl i => rfl
  | inr s => rfl
theorem each_of {R : Value → PyData → Prop} : ∀ {us : List Value} {ds : List PyData}, us.length = ds.length → (∀ (j : Nat) (u : Value) (d : PyData), us[j]? = some u → ds[j]? = some d → R u d) → PySem.W.EachIs R us ds
  | [], [], _, _ => .nil
  | [], _ :: _, e, _ => by simp at e
  | _ :: _, [], e, _ => by simp at e
  | u :: us, d :: ds, e, h => .cons (h 0 u d rfl rfl) (each_of (by simpa using e) fun j u' d' a b => h (j + 1) u' d' (by simpa using a) (by simpa using b))
theorem cr_sortK {X : Cx} (hcalm : X.calm = true) (hu : X.A.units + 65 < cLine) : CallR X (.builtin "sorted") rSortK := by
  intro pins s σ H xs us Q I r q
  obtain ⟨a, kvs, rfl, hd, al, so, q⟩ := q
  obtain ⟨u, eu, rx⟩ := vals1 r
  subst eu
  cases rx
  obtain ⟨z, lo, vs, rel, dd⟩ := dk_rd I.hok (.inl hd)
  obtain ⟨ep, hat⟩ := dd.dictAt
  have hkeys : vs.map (·.1) = kvs.map (·.1) := rel.keys.symm
  have hl : vs.length = kvs.length := by
    have e := congrArg List.length hkeys
    rw [List.length_map, List.length_map] at e
    exact e
  have h16 : vs.length ≤ sizeLine := by rw [hl]; exact z
  refine Calls.call_function_entry PyProof.Rows.kind_sorted PyProof.Rows.plain_sorted PyProof.Rows.entry_sorted (PyProof.Rows.args_sorted1 _) ?_
  unfold Builtin.«sorted»
  refine wpAny_bind (m := checkCount "sorted" 1 1 _) (wpAny_pure ?_)
  refine wpAny_bind (PySem.W.kdu_collect (A := X.A.in1) (PySem.W.kdl_dict (knd := mixKind X.prog X.w) (kvs := vs) (ep := ep) lo) (I.ok.hd hcalm) hat h16 fun h' tk acc hk hacc => ?_)
  have hal : acc.toList.length = kvs.length := by rw [Array.length_toList, hacc.1, hl]
  have hS : ∀ (j : Nat) (v : Value) (d : PyData), acc.toList[j]? = some v → (kvs.map fun q => keyD q.1)[j]? = some d → ∃ x, RelV x v ∧ Dt (fun _ => False) H d x := fun j v d e ed => by
    obtain ⟨k, x, e1, e2⟩ := hacc.2 j v (by rw [← Array.getElem?_toList]; exact e)
    have e3 : (vs.map (·.1))[j]? = some k := by rw [List.getElem?_map, e1]; rfl
    rw [hkeys, List.getElem?_map] at e3
    rw [List.getElem?_map] at ed
    cases e4 : kvs[j]? with
    | none => rw [e4] at e3; cases e3
    | some y =>
      rw [e4] at e3 ed
      cases e3
      cases ed
      exact ⟨kV y.1, key_rel e2, key_dt⟩
  have I1 : Inv X pins σ H { s with heap := h', toks := tk } := I.kept hk
  have hlenK : (kvs.map fun q => keyD q.1).length = acc.toList.length := by rw [List.length_map, hal]
  refine wpAny_bind (wpAny_newList ?_ (by rw [hal]; exact z))
  have hoL : (h'.push (seqObj "list" acc.toList.toArray 0)).get? h'.objs.size = some (seqObj "list" acc.toList.toArray 0) := Heap.get?_push_size _ rfl
  show wpAny _ _ _ _ _ { s with heap := h'.push (seqObj "list" acc.toList.toArray 0), toks := tk }
  have flatR : ∀ (hh : Heap) (v : Value) (d : PyData) (k : Key) (x : V), d = keyD k → RelV x v → Dt (fun _ => False) H d x → ∃ as, Reads hh v d as ∧ h'.objs.size ∉ as := fun hh v d k x ed rx dx => by
    subst ed
    rw [kV_of dx] at rx
    cases k with
    | inl i => obtain ⟨t, rfl⟩ := rx; exact ⟨[], .int _ _, by simp⟩
    | inr i => obtain ⟨t, rfl⟩ := rx; exact ⟨[], .str _ _, by simp⟩
  refine wpAny_bind (wpAny_holding (PySem.W.list_sort_data (enc := fun d => d) (R := fun u d => ∃ x, RelV x u ∧ Dt (fun _ => False) H d x) hoL (each_of hlenK.symm hS) (each_of hlenK.symm fun j v d e1 e2 => ?_) (by rw [List.map_id']; exact al) (by rw [List.map_id']; exact so) (by rw [hlenK, hal]; exact z) (fun d hb => ?_) fun out ho eo => ?_))
  · obtain ⟨x, rx, dx⟩ := hS j v d e1 e2
    obtain ⟨y, _, ey⟩ := List.mem_map.mp (List.mem_of_getElem? e2)
    exact flatR _ v d y.1 x ey.symm rx dx
  · obtain ⟨y, _, ey⟩ := List.mem_map.mp hb
    have : d.depth = 0 := by rw [← ey]; cases y.1 <;> rfl
    rw [this]
    have e : X.A.in1.units ≤ X.A.units + 1 := by show X.A.units + 1 ≤ _; omega
    omega
  · obtain ⟨ys, r1, d1⟩ := of_each eo
    obtain ⟨e', he'⟩ := PyProof.Rows.sortedHeap_at (vs := acc.toList) (out := out.toArray) hoL
    have hlen : ys.length ≤ sizeLine := by
      rw [r1.length, ho, hlenK, hal]
      exact z
    refine wpAny_pure ⟨_, rfl, .ref h'.objs.size, upd H h'.objs.size (.lst ys), I1.laid (t' := tk) (fun b u e => ?_) (Nat.le_refl _)
      (show ObjOk X.prog X.w _ _ _ (.lst ys) from ⟨hlen, out, e', r1, he'⟩), rfl, q ys _ d1 (I1.hok.fresh (Nat.le_refl _))⟩
    have hb : b < h'.objs.size := Heap.lt_size e
    rw [PyProof.Rows.sortedHeap_old (Nat.ne_of_lt hb) (by rw [size_push']; exact Nat.lt_succ_of_lt hb)]
    exact Heap.get?_push_of_some _ e
section
variable {Kf : PySem.W.Frag} {Tf : List (Addr × Str)} {F : Fx Kf Tf} {δ : List Slot} {X : Cx} {N : List Str} {sc : Scope} {pos p px : Pos} {x : Str} {kvs : List (Key × PyData)}
theorem x_sortK (i : Nat) (cx : Ctx X N sc) (hm : X.mg "sorted" = none) (hu : X.A.units + 65 < cLine) (hi : δ[i]? = some (.odk kvs)) (al : PySem.W.AllAlike (kvs.map fun q => keyD q.1)) (so : PySem.W.Sortable (kvs.map fun q => keyD q.1)) (hN : N[i]? = some x := by rfl) (hv : Vis sc x := by first | exact Or.inl rfl | exact Or.inr (Or.inl rfl) | exact Or.inr (Or.inr rfl))
    (hd : (x == ("__debug__" : Str)) = false := by decide) (hcd : (x == ("__classdict__" : Str)) = false := by decide) (hg : sc.names.lookup ("sorted" : Str) = some .globalImplicit := by rfl) (hs : starEach [.Name x px] X.env = [(false, eval (.Name x px) X.env)] := by rfl) :
    PE X (.Call (.Name "sorted" p) [.Name x px] [] pos) (tD F δ (.list (sortD (kvs.map fun q => keyD q.1)))) :=
  wkE (pe_callB (cr_sortK cx.calm hu) (cx.gl hg) hm (by decide +kernel) (pa_cons (pe_var (i := i) (cx.at_ hN) (cx.vis hv) hd hcd) pa_nil hs) (by decide) (by decide) hs) fun σ H Q h => by
    obtain ⟨O, st, k⟩ := h
    obtain ⟨q, vs, e1, gq, r⟩ := dk_slot st hi
    have ek : (vs.map fun q => keyD q.1) = kvs.map fun q => keyD q.1 := by
      have := congrArg (List.map keyD) r.1
      rwa [List.map_map, List.map_map] at this
    refine ⟨.ref q, e1, q, vs, rfl, gq, by rw [ek]; exact al, by rw [ek]; exact so, fun ys p hy hp => ?_⟩
    refine k _ _ (ext_new hp) (tabs_new st.tabs hp) ⟨p, ys, rfl, fresh_ok st.dom hp, upd_same, ?_⟩
    rw [ek] at hy
    refine DtAll.of hy.len fun i d v a b => ?_
    have hdv := hy.at_ a b
    have hm : d ∈ kvs.map fun q => keyD q.1 := (List.mergeSort_perm _ _).mem_iff.mp (List.mem_of_getElem? a)
    obtain ⟨y, _, rfl⟩ := List.mem_map.mp hm
    exact hdv.flat (by cases y.1 <;> rfl)
end
end Lf
set_option Elab.async false
set_option linter.all false
set_option maxRecDepth 100000
set_option maxHeartbeats 4000000
namespace Lf
open PySem PySem.Spec PyProof.Rows L2 L2H HotX LamX
/-! ### zip(text, list), zip(text, text) -/
def ItzL (K : PySem.W.Frag) (x : Str) (b : Addr) : It :=
  ⟨fun i H => i < x.cps.size ∧ ∃ (ys : List V) (y : V), SqL K H b ys ∧ ys[i]? = some y,
    fun i H v H' => ∃ T c y, v = .ref T ∧ H T = none ∧ H' = upd H T (.tup [.str ⟨#[c]⟩, y]) ∧ x.cps[i]? = some c ∧ ∀ ys, SqL K H b ys → ys[i]? = some y,
    fun i H => ∃ ys : List V, SqL K H b ys ∧ i ≤ x.cps.size ∧ i ≤ ys.length ∧ (i = x.cps.size ∨ i = ys.length)⟩
def ItzS (x y : Str) : It :=
  ⟨fun i H => i < x.cps.size ∧ i < y.cps.size,
    fun i H v H' => ∃ T c d, v = .ref T ∧ H T = none ∧ H' = upd H T (.tup [.str ⟨#[c]⟩, .str ⟨#[d]⟩]) ∧ x.cps[i]? = some c ∧ y.cps[i]? = some d,
    fun i H => i ≤ x.cps.size ∧ i ≤ y.cps.size ∧ (i = x.cps.size ∨ i = y.cps.size)⟩
theorem sep_of {z TI TO i1 i2 b : Addr} (D : ZipApart z TI TO i1 i2 b b) : ZipSep2 z TI TO i1 i2 [i1] [i2, b] where
  TIz := D.TIz
  TOz := D.TOz
  TITO := D.TITO
  TIi1 := D.TIi1
  mem1 := by simp
  zf1 := by simpa using D.i1z.symm
  Tf1 := by simpa using D.TOi1
  TIi2 := D.TIi2
  mem2 := by simp
  zf2 := by simpa using ⟨D.i2z.symm, D.l2z.symm⟩
  Tf2 := by simpa using ⟨D.TOi2, D.l2TO.symm⟩
  sep1_2 := by simpa using ⟨D.i12, D.l1i1.symm⟩
  sep2_1 := by simpa using D.i12.symm
theorem sep_ofS {z TI TO i1 i2 b : Addr} (D : ZipApart z TI TO i1 i2 b b) : ZipSep2 z TI TO i1 i2 [i1] [i2] where
  TIz := D.TIz
  TOz := D.TOz
  TITO := D.TITO
  TIi1 := D.TIi1
  mem1 := by simp
  zf1 := by simpa using D.i1z.symm
  Tf1 := by simpa using D.TOi1
  TIi2 := D.TIi2
  mem2 := by simp
  zf2 := by simpa using D.i2z.symm
  Tf2 := by simpa using D.TOi2
  sep1_2 := by simpa using D.i12
  sep2_1 := by simpa using D.i12.symm
theorem turn_zipSL {P : Program} {w : World} {K : PySem.W.Frag} {elts : List Expr} {kk : Nat} {tpos : Pos} {b z TI TO i1 i2 : Addr} (D : ZipApart z TI TO i1 i2 b b) (x : Str) (t : Tok) (ty : String) (hty : ty = "str_ascii_iterator" ∨ ty = "str_iterator") :
    Turn P w K (.Tuple elts kk tpos) (ItzL K x b) [z, TI, TO, i1, i2] z (fun i h => IsZip h z TI TO .none ∧ IsPair h TI (.ref i1) (.ref i2) ∧ (∃ x y, IsPair h TO x y) ∧ h.IsStrIter i1 ty x t i ∧ h.IsListIter i2 b i) where
  mem := by simp
  obj := fun i h st c hc => by
    obtain ⟨hz, hTI, ⟨x', y', hTO⟩, ⟨o1, e1, _, d1⟩, ⟨o2, e2, _, d2⟩⟩ := st
    have e' : c = z ∨ c = TI ∨ c = TO ∨ c = i1 ∨ c = i2 := by simpa using hc
    rcases e' with q | q | q | q | q
    · rw [q]; exact ⟨_, hz, fun v q => nomatch q⟩
    · rw [q]; exact ⟨_, hTI, fun v q => nomatch q⟩
    · rw [q]; exact ⟨_, hTO, fun v q => nomatch q⟩
    · rw [q]; exact ⟨o1, e1, fun v q => by rw [d1] at q; cases q⟩
    · rw [q]; exact ⟨o2, e2, fun v q => by rw [d2] at q; cases q⟩
  keep := fun i h h' st k => by
    obtain ⟨hz, hTI, ⟨x', y', hTO⟩, ⟨o1, e1, r1⟩, h2⟩ := st
    exact ⟨k z (by simp) _ hz, k TI (by simp) _ hTI, ⟨x', y', k TO (by simp) _ hTO⟩, ⟨o1, k i1 (by simp) o1 e1, r1⟩, h2.at fun o q => k i2 (by simp) o q⟩
  item := by
    intro X hP hw hK hc i pins s σ H E I hf st hg
    subst hP hw hK
    obtain ⟨hz, hTI, ⟨x0, y0, hTO⟩, h1, h2⟩ := st
    obtain ⟨hlt1, ys, y, hqy, hy⟩ := hg
    obtain ⟨its2, rv2, p2, _⟩ := I.list hqy
    obtain ⟨u2, hu2, ru2⟩ := rv2.get hy
    have hzl : z < s.heap.objs.size := Heap.lt_size hz
    have D1 := drawsS (P := X.prog) (w := X.w) (A := X.A.in1) (I.ok.hd hc) i1 x t ty hty
    have D2 := Draws.list (prog := X.prog) (w := X.w) (A := X.A.in1) (I.ok.hd hc) i2 b D.l2i2 its2.toArray
    have hlt2 : i < its2.toArray.size := by
      have := (List.getElem?_eq_some_iff.mp hu2).1
      simpa using this
    refine wpAny_pyNext_zipD2_item (sep_of D) D1 D2 hz hTI hTO h1 ⟨h2, p2.isList⟩ hlt1 hlt2 fun v1 v2 h' tk hP1 hP2 z' TO' h1' h2' hT hsz hk => ?_
    obtain ⟨c, t2, hcx, rfl⟩ := hP1
    have ev2 : v2 = u2 := by
      have : its2.toArray[i]? = some u2 := by simpa using hu2
      rw [this] at hP2
      exact (Option.some.inj hP2).symm
    subst ev2
    refine ⟨_, rfl, wpAny_letOwnedTupleGo_zip (s := { s with heap := h', toks := tk }) z' fun h'' z'' sb => ?_⟩
    have hT2 : h''.get? s.heap.objs.size = some { cls := .type "tuple", data := .seq #[.str ⟨#[c]⟩ t2, v2] } := (sb.2 _ (Nat.ne_of_gt hzl)).trans hT
    have new : ObjOk X.prog X.w (upd H s.heap.objs.size (.tup [.str ⟨#[c]⟩, y])) h'' s.heap.objs.size (.tup [.str ⟨#[c]⟩, y]) :=
      ⟨by show 2 ≤ sizeLine; decide, [.str ⟨#[c]⟩ t2, v2], .cons ⟨_, rfl⟩ (.cons ru2 .nil), ⟨_, hT2, rfl, _, rfl⟩⟩
    have I1 : Inv X pins σ (upd H s.heap.objs.size (.tup [.str ⟨#[c]⟩, y])) { s with heap := h'', toks := tk } :=
      I.turnedNew (t' := tk) (ch := [z, TI, TO, i1, i2]) (fun c o hb q => (sb.2 c (fun q' => hb (by simp [q']))).trans (hk c o (fun q' => hb (by simp [q'])) (fun q' => hb (by simp [q'])) (fun q' => hb (by simp [q'])) (fun q' => hb (by simp [q'])) q)) hf (Nat.le_refl _) new
    obtain ⟨oi, q1, q2⟩ := h1'
    refine ⟨.ref s.heap.objs.size, _, I1, rfl, ⟨_, c, y, rfl, I.hok.fresh (Nat.le_refl _), rfl, hcx, fun l hl => by rw [I.list_inj hl hqy]; exact hy⟩, ⟨z'', ?_, ⟨.str ⟨#[c]⟩ t2, v2, ?_⟩, ⟨oi, (sb.2 _ D.i1z).trans q1, q2⟩, ?_⟩, fun c hcm => ?_⟩
    · exact (sb.2 _ D.TIz).trans (hk _ _ D.TIz D.TITO D.TIi1 D.TIi2 hTI)
    · exact (sb.2 _ D.TOz).trans TO'
    · exact h2'.1.at fun o q => (sb.2 _ D.i2z).trans q
    · have hlt : c < s.heap.objs.size := by
        have e' : c = z ∨ c = TI ∨ c = TO ∨ c = i1 ∨ c = i2 := by simpa using hcm
        rcases e' with q | q | q | q | q
        · rw [q]; exact hzl
        · rw [q]; exact Heap.lt_size hTI
        · rw [q]; exact Heap.lt_size hTO
        · rw [q]; obtain ⟨_, e1, _⟩ := h1; exact Heap.lt_size e1
        · rw [q]; obtain ⟨_, e2, _⟩ := h2; exact Heap.lt_size e2
      rw [upd_ne (Nat.ne_of_lt hlt)]
      exact (hf c hcm).1
  done := by
    intro X hP hw hK hc i pins s σ H E I hf st hg
    subst hP hw hK
    obtain ⟨hz, hTI, ⟨x0, y0, hTO⟩, h1, h2⟩ := st
    obtain ⟨ys, hqy, hle1, hle2, hend⟩ := hg
    obtain ⟨its2, rv2, p2, _⟩ := I.list hqy
    have l2 := rv2.length
    have D1 := drawsS (P := X.prog) (w := X.w) (A := X.A.in1) (I.ok.hd hc) i1 x t ty hty
    have D2 := Draws.list (prog := X.prog) (w := X.w) (A := X.A.in1) (I.ok.hd hc) i2 b D.l2i2 its2.toArray
    exact wpAny_pyNext_zipD2_end (sep_of D) D1 D2 hz hTI hTO h1 ⟨h2, p2.isList⟩ hle1 (by simp; omega) (hend.imp id fun e => by simp; omega) fun h' tk hk => ⟨rfl, I.turnedL (t' := tk) (ch := [z, TI, TO, i1, i2]) (fun c o hb q =>
      hk c o (fun q' => hb (by simp [q'])) (fun q' => hb (by simp [q'])) (fun q' => hb (by simp [q'])) (fun q' => hb (by simp [q'])) q) hf⟩
  self := fun A i s Q E st h => wpAny_pyIter_zip st.1 h
theorem turn_zipSS {P : Program} {w : World} {K : PySem.W.Frag} {elts : List Expr} {kk : Nat} {tpos : Pos} {b z TI TO i1 i2 : Addr} (D : ZipApart z TI TO i1 i2 b b) (x y : Str) (t u : Tok) (ty ty' : String) (hty : ty = "str_ascii_iterator" ∨ ty = "str_iterator") (hty' : ty' = "str_ascii_iterator" ∨ ty' = "str_iterator") :
    Turn P w K (.Tuple elts kk tpos) (ItzS x y) [z, TI, TO, i1, i2] z (fun i h => IsZip h z TI TO .none ∧ IsPair h TI (.ref i1) (.ref i2) ∧ (∃ x y, IsPair h TO x y) ∧ h.IsStrIter i1 ty x t i ∧ h.IsStrIter i2 ty' y u i) where
  mem := by simp
  obj := fun i h st c hc => by
    obtain ⟨hz, hTI, ⟨x', y', hTO⟩, ⟨o1, e1, _, d1⟩, ⟨o2, e2, _, d2⟩⟩ := st
    have e' : c = z ∨ c = TI ∨ c = TO ∨ c = i1 ∨ c = i2 := by simpa using hc
    rcases e' with q | q | q | q | q
    · rw [q]; exact ⟨_, hz, fun v q => nomatch q⟩
    · rw [q]; exact ⟨_, hTI, fun v q => nomatch q⟩
    · rw [q]; exact ⟨_, hTO, fun v q => nomatch q⟩
    · rw [q]; exact ⟨o1, e1, fun v q => by rw [d1] at q; cases q⟩
    · rw [q]; exact ⟨o2, e2, fun v q => by rw [d2] at q; cases q⟩
  keep := fun i h h' st k => by
    obtain ⟨hz, hTI, ⟨x', y', hTO⟩, ⟨o1, e1, r1⟩, ⟨o2, e2, r2⟩⟩ := st
    exact ⟨k z (by simp) _ hz, k TI (by simp) _ hTI, ⟨x', y', k TO (by simp) _ hTO⟩, ⟨o1, k i1 (by simp) o1 e1, r1⟩, ⟨o2, k i2 (by simp) o2 e2, r2⟩⟩
  item := by
    intro X hP hw hK hc i pins s σ H E I hf st hg
    subst hP hw hK
    obtain ⟨hz, hTI, ⟨x0, y0, hTO⟩, h1, h2⟩ := st
    obtain ⟨hlt1, hlt2⟩ := hg
    have hzl : z < s.heap.objs.size := Heap.lt_size hz
    have D1 := drawsS (P := X.prog) (w := X.w) (A := X.A.in1) (I.ok.hd hc) i1 x t ty hty
    have D2 := drawsS (P := X.prog) (w := X.w) (A := X.A.in1) (I.ok.hd hc) i2 y u ty' hty'
    refine wpAny_pyNext_zipD2_item (sep_ofS D) D1 D2 hz hTI hTO h1 h2 hlt1 hlt2 fun v1 v2 h' tk hP1 hP2 z' TO' h1' h2' hT hsz hk => ?_
    obtain ⟨c, t2, hcx, rfl⟩ := hP1
    obtain ⟨d, u2, hdy, rfl⟩ := hP2
    refine ⟨_, rfl, wpAny_letOwnedTupleGo_zip (s := { s with heap := h', toks := tk }) z' fun h'' z'' sb => ?_⟩
    have hT2 : h''.get? s.heap.objs.size = some { cls := .type "tuple", data := .seq #[.str ⟨#[c]⟩ t2, .str ⟨#[d]⟩ u2] } := (sb.2 _ (Nat.ne_of_gt hzl)).trans hT
    have new : ObjOk X.prog X.w (upd H s.heap.objs.size (.tup [.str ⟨#[c]⟩, .str ⟨#[d]⟩])) h'' s.heap.objs.size (.tup [.str ⟨#[c]⟩, .str ⟨#[d]⟩]) :=
      ⟨by show 2 ≤ sizeLine; decide, [.str ⟨#[c]⟩ t2, .str ⟨#[d]⟩ u2], .cons ⟨_, rfl⟩ (.cons ⟨_, rfl⟩ .nil), ⟨_, hT2, rfl, _, rfl⟩⟩
    have I1 : Inv X pins σ (upd H s.heap.objs.size (.tup [.str ⟨#[c]⟩, .str ⟨#[d]⟩])) { s with heap := h'', toks := tk } :=
      I.turnedNew (t' := tk) (ch := [z, TI, TO, i1, i2]) (fun c o hb q => (sb.2 c (fun q' => hb (by simp [q']))).trans (hk c o (fun q' => hb (by simp [q'])) (fun q' => hb (by simp [q'])) (fun q' => hb (by simp [q'])) (fun q' => hb (by simp [q'])) q)) hf (Nat.le_refl _) new
    obtain ⟨oi, q1, q2⟩ := h1'
    obtain ⟨oj, q3, q4⟩ := h2'
    refine ⟨.ref s.heap.objs.size, _, I1, rfl, ⟨_, c, d, rfl, I.hok.fresh (Nat.le_refl _), rfl, hcx, hdy⟩, ⟨z'', ?_, ⟨.str ⟨#[c]⟩ t2, .str ⟨#[d]⟩ u2, ?_⟩, ⟨oi, (sb.2 _ D.i1z).trans q1, q2⟩, ⟨oj, (sb.2 _ D.i2z).trans q3, q4⟩⟩, fun c hcm => ?_⟩
    · exact (sb.2 _ D.TIz).trans (hk _ _ D.TIz D.TITO D.TIi1 D.TIi2 hTI)
    · exact (sb.2 _ D.TOz).trans TO'
    · have hlt : c < s.heap.objs.size := by
        have e' : c = z ∨ c = TI ∨ c = TO ∨ c = i1 ∨ c = i2 := by simpa using hcm
        rcases e' with q | q | q | q | q
        · rw [q]; exact hzl
        · rw [q]; exact Heap.lt_size hTI
        · rw [q]; exact Heap.lt_size hTO
        · rw [q]; obtain ⟨_, e1, _⟩ := h1; exact Heap.lt_size e1
        · rw [q]; obtain ⟨_, e2, _⟩ := h2; exact Heap.lt_size e2
      rw [upd_ne (Nat.ne_of_lt hlt)]
      exact (hf c hcm).1
  done := by
    intro X hP hw hK hc i pins s σ H E I hf st hg
    subst hP hw hK
    obtain ⟨hz, hTI, ⟨x0, y0, hTO⟩, h1, h2⟩ := st
    obtain ⟨hle1, hle2, hend⟩ := hg
    have D1 := drawsS (P := X.prog) (w := X.w) (A := X.A.in1) (I.ok.hd hc) i1 x t ty hty
    have D2 := drawsS (P := X.prog) (w := X.w) (A := X.A.in1) (I.ok.hd hc) i2 y u ty' hty'
    exact wpAny_pyNext_zipD2_end (sep_ofS D) D1 D2 hz hTI hTO h1 h2 hle1 hle2 hend fun h' tk hk => ⟨rfl, I.turnedL (t' := tk) (ch := [z, TI, TO, i1, i2]) (fun c o hb q =>
      hk c o (fun q' => hb (by simp [q'])) (fun q' => hb (by simp [q'])) (fun q' => hb (by simp [q'])) (fun q' => hb (by simp [q'])) q) hf⟩
  self := fun A i s Q E st h => wpAny_pyIter_zip st.1 h
theorem ty_str (x : Str) : strIterType x = "str_ascii_iterator" ∨ strIterType x = "str_iterator" := by
  unfold strIterType
  split
  · exact .inl rfl
  · exact .inr rfl
theorem five_le {n c : Nat} (h : c ∈ [n + 4, n + 2, n + 3, n, n + 1]) : n ≤ c := by
  have e' : c = n + 4 ∨ c = n + 2 ∨ c = n + 3 ∨ c = n ∨ c = n + 1 := by simpa using h
  omega
def iZipSL (K : PySem.W.Frag) (ta : TA) : TI := fun σ H R => ta σ H fun vs H1 => ∃ x b ys, vs = [.str x, .ref b] ∧ SqL K H1 b ys ∧ R (ItzL K x b) H1
def iZipSS (ta : TA) : TI := fun σ H R => ta σ H fun vs H1 => ∃ x y, vs = [.str x, .str y] ∧ R (ItzS x y) H1
theorem pi_zipSL {X : Cx} {e e2 : Expr} {ta : TA} {p pos tpos : Pos} {elts : List Expr} {kk : Nat} (hg : Gl X "zip") (hm : X.mg "zip" = none) (ha : PA X [e, e2] ta)
    (hs : starEach [e, e2] X.env = (false, eval e X.env) :: starEach [e2] X.env := by rfl) (hpl : (backTo pos (starEach [e2] X.env)).any (·.1) = false := by rfl) :
    PI X (.Tuple elts kk tpos) (.Call (.Name "zip" p) [e, e2] [] pos) (iZipSL X.K ta) := by
  refine ⟨fun pins s σ H R I h => ?_⟩
  refine Call_ (ld_blt I hg hm PyProof.Rows.boot_zip (PyProof.Rows.callWith_type1 (thn (ha.run pos pins s σ H _ I h) fun us s1 ⟨vs, H1, I1, r1, q1⟩ => ?_) hs hpl))
  obtain ⟨x, b, ys, ex, hqy, q⟩ := q1
  subst ex
  cases r1 with
  | cons r rr =>
    cases rr with
    | cons r' rr =>
      cases rr
      obtain ⟨t, rfl⟩ := r
      cases r'
      obtain ⟨its2, rv2, p2, _⟩ := I1.list hqy
      have lb : b < s1.heap.objs.size := p2.lt
      refine zip_begins2 (begins_text x t) (begins_list b its2.toArray) trivial p2.isList fun h' hz hTI hTO h1 h2 hsz hk => wpAny_pyIter_zip hz ?_
      have I2 : Inv X pins σ H1 { s1 with heap := h' } := I1.kept (t' := s1.toks) hk
      exact ⟨s1.heap.objs.size + 4, [s1.heap.objs.size + 4, s1.heap.objs.size + 2, s1.heap.objs.size + 3, s1.heap.objs.size, s1.heap.objs.size + 1], _, _, H1, rfl, I2, turn_zipSL (PySem.W.ktu_apart s1.heap.objs.size b b lb lb) x t _ (ty_str x), ⟨hz, hTI, ⟨_, _, hTO⟩, ⟨_, h1, rfl, rfl⟩, ⟨_, h2, rfl, rfl⟩⟩, fun c hcm => I1.fpOk (five_le hcm) (I1.hok.fresh (five_le hcm)), q⟩
theorem pi_zipSS {X : Cx} {e e2 : Expr} {ta : TA} {p pos tpos : Pos} {elts : List Expr} {kk : Nat} (hg : Gl X "zip") (hm : X.mg "zip" = none) (ha : PA X [e, e2] ta)
    (hs : starEach [e, e2] X.env = (false, eval e X.env) :: starEach [e2] X.env := by rfl) (hpl : (backTo pos (starEach [e2] X.env)).any (·.1) = false := by rfl) :
    PI X (.Tuple elts kk tpos) (.Call (.Name "zip" p) [e, e2] [] pos) (iZipSS ta) := by
  refine ⟨fun pins s σ H R I h => ?_⟩
  refine Call_ (ld_blt I hg hm PyProof.Rows.boot_zip (PyProof.Rows.callWith_type1 (thn (ha.run pos pins s σ H _ I h) fun us s1 ⟨vs, H1, I1, r1, q1⟩ => ?_) hs hpl))
  obtain ⟨x, y, ex, q⟩ := q1
  subst ex
  cases r1 with
  | cons r rr =>
    cases rr with
    | cons r' rr =>
      cases rr
      obtain ⟨t, rfl⟩ := r
      obtain ⟨u, rfl⟩ := r'
      have h0 : 0 < s1.heap.objs.size := Nat.lt_of_le_of_lt (Nat.zero_le _) I1.big
      refine zip_begins2 (begins_text x t) (begins_text y u) trivial trivial fun h' hz hTI hTO h1 h2 hsz hk => wpAny_pyIter_zip hz ?_
      have I2 : Inv X pins σ H1 { s1 with heap := h' } := I1.kept (t' := s1.toks) hk
      exact ⟨s1.heap.objs.size + 4, [s1.heap.objs.size + 4, s1.heap.objs.size + 2, s1.heap.objs.size + 3, s1.heap.objs.size, s1.heap.objs.size + 1], _, _, H1, rfl, I2, turn_zipSS (PySem.W.ktu_apart s1.heap.objs.size 0 0 h0 h0) x y t u _ _ (ty_str x) (ty_str y), ⟨hz, hTI, ⟨_, _, hTO⟩, ⟨_, h1, rfl, rfl⟩, ⟨_, h2, rfl, rfl⟩⟩, fun c hcm => I1.fpOk (five_le hcm) (I1.hok.fresh (five_le hcm)), q⟩
section
variable {Kf : PySem.W.Frag} {Tf : List (Addr × Str)} {F : Fx Kf Tf} {δ : List Slot} {X : Cx} {N : List Str} {sc : Scope} {pos p tpos : Pos} {a b : Expr} {elts : List Expr} {kk : Nat} {ds : List PyData} {l m : List Nat}
theorem i_zipSL (cx : Ctx X N sc) (hm : X.mg "zip" = none) (h : PA X [a, b] (aD F δ [tx l, .list ds])) (hg : sc.names.lookup ("zip" : Str) = some .globalImplicit := by rfl) (hs : starEach [a, b] X.env = (false, eval a X.env) :: starEach [b] X.env := by rfl) (hpl : (backTo pos (starEach [b] X.env)).any (·.1) = false := by rfl) :
    PI X (.Tuple elts kk tpos) (.Call (.Name "zip" p) [a, b] [] pos) (iD F δ (((l.map fun c => tx [c]).zip ds).map encZ)) := by
  refine wkI (pi_zipSL (cx.gl hg) hm h hs hpl) fun σ H R q => ?_
  obtain ⟨O, st, k⟩ := q
  refine ⟨O, st, fun vs H1 e1 t1 g1 => ?_⟩
  obtain ⟨v, r, rfl, ev, u, r', rfl, eu, rfl⟩ := g1
  rw [show v = V.str ⟨l.toArray⟩ from ev]
  obtain ⟨q2, ys, rfl, n2, h2, r2⟩ := id eu
  refine ⟨⟨l.toArray⟩, q2, ys, rfl, SqL.of h2, k (ItzL X.K ⟨l.toArray⟩ q2) [(.list ds, .ref q2)] H1 e1 t1 (fun w hw => ?_) (fun O1 H2 i d g2 dom t2 hd => ?_) fun O1 H2 g2 => ?_⟩
  · rw [List.mem_singleton.mp hw]; exact eu
  · obtain ⟨b2, ys2, eb2, nb2, gb2, rb2⟩ := g2 _ List.mem_cons_self
    cases eb2
    rw [List.getElem?_map] at hd
    obtain ⟨⟨d1, d2⟩, hz, rfl⟩ := Option.map_eq_some_iff.mp hd
    obtain ⟨hz1, hz2⟩ := List.getElem?_zip_eq_some.mp hz
    rw [List.getElem?_map] at hz1
    obtain ⟨c, hc, rfl⟩ := Option.map_eq_some_iff.mp hz1
    obtain ⟨y2, hy2, dy2⟩ := rb2.get hz2
    refine ⟨⟨by have := (List.getElem?_eq_some_iff.mp hc).1; simpa using this, ys2, y2, SqL.of gb2, hy2⟩, fun x H3 hyld => ?_⟩
    obtain ⟨T, c', x2, rfl, hT, rfl, hx1, hx2⟩ := hyld
    have f1 : l[i]? = some c' := by simpa using hx1
    have f2 := hx2 ys2 (SqL.of gb2)
    rw [hc] at f1
    rw [hy2] at f2
    cases f1
    cases f2
    exact ⟨ext_new hT, tabs_new t2 hT, T, _, rfl, fresh_ok dom hT, upd_same, _, [y2], rfl, rfl, y2, [], rfl, dy2.grow (ext_new hT), rfl⟩
  · obtain ⟨b2, ys2, eb2, nb2, gb2, rb2⟩ := g2 _ List.mem_cons_self
    cases eb2
    have e0 : (⟨l.toArray⟩ : Str).cps.size = l.length := by simp
    refine ⟨ys2, SqL.of gb2, ?_⟩
    rw [rb2.len, e0, List.length_map, List.length_zip, List.length_map]
    omega
theorem i_zipSS (cx : Ctx X N sc) (hm : X.mg "zip" = none) (h : PA X [a, b] (aD F δ [tx l, tx m])) (hg : sc.names.lookup ("zip" : Str) = some .globalImplicit := by rfl) (hs : starEach [a, b] X.env = (false, eval a X.env) :: starEach [b] X.env := by rfl) (hpl : (backTo pos (starEach [b] X.env)).any (·.1) = false := by rfl) :
    PI X (.Tuple elts kk tpos) (.Call (.Name "zip" p) [a, b] [] pos) (iD F δ (((l.map fun c => tx [c]).zip (m.map fun c => tx [c])).map encZ)) := by
  refine wkI (pi_zipSS (cx.gl hg) hm h hs hpl) fun σ H R q => ?_
  obtain ⟨O, st, k⟩ := q
  refine ⟨O, st, fun vs H1 e1 t1 g1 => ?_⟩
  obtain ⟨v, r, rfl, ev, u, r', rfl, eu, rfl⟩ := g1
  rw [show v = V.str ⟨l.toArray⟩ from ev, show u = V.str ⟨m.toArray⟩ from eu]
  refine ⟨⟨l.toArray⟩, ⟨m.toArray⟩, rfl, k (ItzS ⟨l.toArray⟩ ⟨m.toArray⟩) [] H1 e1 t1 (fun w hw => by cases hw) (fun O1 H2 i d g2 dom t2 hd => ?_) fun O1 H2 g2 => ?_⟩
  · rw [List.getElem?_map] at hd
    obtain ⟨⟨d1, d2⟩, hz, rfl⟩ := Option.map_eq_some_iff.mp hd
    obtain ⟨hz1, hz2⟩ := List.getElem?_zip_eq_some.mp hz
    rw [List.getElem?_map] at hz1 hz2
    obtain ⟨c, hc, rfl⟩ := Option.map_eq_some_iff.mp hz1
    obtain ⟨d, hd', rfl⟩ := Option.map_eq_some_iff.mp hz2
    refine ⟨⟨by have := (List.getElem?_eq_some_iff.mp hc).1; simpa using this, by have := (List.getElem?_eq_some_iff.mp hd').1; simpa using this⟩, fun x H3 hyld => ?_⟩
    obtain ⟨T, c', x2, rfl, hT, rfl, hx1, hx2⟩ := hyld
    have f1 : l[i]? = some c' := by simpa using hx1
    have f2 : m[i]? = some x2 := by simpa using hx2
    rw [hc] at f1
    rw [hd'] at f2
    cases f1
    cases f2
    exact ⟨ext_new hT, tabs_new t2 hT, T, _, rfl, fresh_ok dom hT, upd_same, _, [_], rfl, rfl, _, [], rfl, rfl, rfl⟩
  · have e0 : (⟨l.toArray⟩ : Str).cps.size = l.length := by simp
    have e1 : (⟨m.toArray⟩ : Str).cps.size = m.length := by simp
    show _ ≤ _ ∧ _ ≤ _ ∧ _
    rw [e0, e1, List.length_map, List.length_zip, List.length_map, List.length_map]
    omega
end
section
variable {Kf : PySem.W.Frag} {Tf : List (Addr × Str)} {F : Fx Kf Tf} {δ : List Slot} {X : Cx} {N : List Str} {sc : Scope} {pos p p2 rpos : Pos} {a b : Expr} {i j : Int}
theorem rg_data {O : Addr → Prop} {H : Hp} (lo : Int) (m : Nat) : DtAll O H ((List.range m).map fun (k : Nat) => PyData.int (lo + (k : Int))) ((List.range m).map fun (k : Nat) => V.int (lo + (k : Nat))) := by
  have := DtAll.of_ints (O := O) (H := H) ((List.range m).map fun (k : Nat) => lo + (k : Int))
  rw [List.map_map, List.map_map] at this
  exact this
/-- list(range(i)), list(range(i, j)) -/
theorem x_listRg1 (cx : Ctx X N sc) (hm : X.mg "list" = none) (hm2 : X.mg "range" = none) (h : PE X a (tD F δ (.int i))) (hi : 0 ≤ i ∧ i ≤ 1000000) (hg : sc.names.lookup ("list" : Str) = some .globalImplicit := by rfl) (hg2 : sc.names.lookup ("range" : Str) = some .globalImplicit := by rfl)
    (na : starEach [.Call (.Name "range" p2) [a] [] rpos] X.env = (false, eval (.Call (.Name "range" p2) [a] [] rpos) X.env) :: starEach [] X.env := by rfl) (nb : starEach [a] X.env = (false, eval a X.env) :: starEach [] X.env := by rfl) :
    PE X (.Call (.Name "list" p) [.Call (.Name "range" p2) [a] [] rpos] [] pos) (tD F δ (.list ((List.range i.toNat).map fun (k : Nat) => PyData.int (0 + (k : Int))))) :=
  wkE (pe_listRg cx.calm (cx.gl hg) hm (prg_1 (cx.gl hg2) hm2 h nb) na) fun σ H Q h => by
    obtain ⟨O, st, k⟩ := h
    refine ⟨O, st, fun v H1 e1 t1 g1 => ⟨i, g1, RgOk.of_le (by omega) (by omega) (by omega) (by omega), fun q hq => ?_⟩⟩
    refine k _ _ (e1.trans (ext_new hq)) (tabs_new t1 hq) ⟨q, _, rfl, fresh_ok (st.grow e1 t1).dom hq, upd_same, ?_⟩
    unfold rgV
    rw [Int.sub_zero]
    exact rg_data 0 i.toNat
theorem x_listRg2 (cx : Ctx X N sc) (hm : X.mg "list" = none) (hm2 : X.mg "range" = none) (h : PE X a (tD F δ (.int i))) (h2 : PE X b (tD F δ (.int j))) (hi : 0 ≤ i ∧ i ≤ 1000000) (hj : 0 ≤ j ∧ j ≤ 1000000) (hg : sc.names.lookup ("list" : Str) = some .globalImplicit := by rfl) (hg2 : sc.names.lookup ("range" : Str) = some .globalImplicit := by rfl)
    (na : starEach [.Call (.Name "range" p2) [a, b] [] rpos] X.env = (false, eval (.Call (.Name "range" p2) [a, b] [] rpos) X.env) :: starEach [] X.env := by rfl) (n1 : starEach [a, b] X.env = (false, eval a X.env) :: starEach [b] X.env := by rfl) (n2 : starEach [b] X.env = (false, eval b X.env) :: starEach [] X.env := by rfl) (n3 : (backTo rpos (starEach [b] X.env)).any (·.1) = false := by rfl) :
    PE X (.Call (.Name "list" p) [.Call (.Name "range" p2) [a, b] [] rpos] [] pos) (tD F δ (.list ((List.range (j - i).toNat).map fun (k : Nat) => PyData.int (i + (k : Int))))) :=
  wkE (pe_listRg cx.calm (cx.gl hg) hm (prg_2 (cx.gl hg2) hm2 h h2 n1 n2 n3) na) fun σ H Q h => by
    obtain ⟨O, st, k⟩ := h
    refine ⟨O, st, fun v H1 e1 t1 g1 => ⟨O, st.grow e1 t1, fun u H2 e2 t2 g2 => ⟨i, j, g1, g2, RgOk.of_le (by omega) (by omega) (by omega) (by omega), fun q hq => ?_⟩⟩⟩
    exact k _ _ ((e1.trans e2).trans (ext_new hq)) (tabs_new t2 hq) ⟨q, _, rfl, fresh_ok ((st.grow e1 t1).grow e2 t2).dom hq, upd_same, rg_data i _⟩
end
end Lf
set_option Elab.async false
set_option linter.all false
set_option maxRecDepth 100000
set_option maxHeartbeats 4000000
namespace Lf
open PySem PySem.Spec PyProof.Rows L2 LamX
/-! ### whole numbers between bounds -/
def isCnt (d : PyData) (lo hi : Int) : Bool :=
  match d with
  | .int i => decide (lo ≤ i) && decide (i ≤ hi)
  | _ => false
def R_is_count (ds : List PyData) (r : Res) : Prop := ∃ d lo hi, ds = [d, .int lo, .int hi] ∧ isP d = false ∧ r = .ok (.bool (isCnt d lo hi))
/-! ### spots -/
def isLs : PyData → Bool
  | .list _ => true
  | _ => false
def lsOf : PyData → List PyData
  | .list ds => ds
  | .dict _ => List.replicate 10001 .none
  | _ => []
theorem ls_np {d : PyData} (h : (lsOf d).length ≤ 10000) : isP d = false := by
  cases d with
  | dict k =>
    have h : (List.replicate 10001 PyData.none).length ≤ 10000 := h
    rw [List.length_replicate] at h
    omega
  | _ => rfl
theorem np_mem {ds : List PyData} {x : PyData} (h : ∀ e ∈ ds, isP e = false) (hx : x ∈ ds) : isP x = false := h x hx
def riseI (ns : List Int) : Bool := (ns.dropLast.zip ns.tail).all fun q => decide (q.1 < q.2)
def intOf : PyData → Int
  | .int i => i
  | _ => 0
def spots (m : Nat) (d : PyData) : Bool := isLs d && ((lsOf d).all fun e => isCnt e 0 ((m : Int) - 1)) && riseI ((lsOf d).map intOf)
def R_are_spots (ds : List PyData) (r : Res) : Prop := ∃ n d, ds = [tx n, d] ∧ n.length ≤ 10000 ∧ (lsOf d).length ≤ 10000 ∧ r = .ok (.bool (spots n.length d))
theorem cnt_ints {lo hi : Int} : ∀ {ds : List PyData}, (ds.all fun e => isCnt e lo hi) = true → ds = (ds.map intOf).map PyData.int ∧ ∀ i ∈ ds.map intOf, lo ≤ i ∧ i ≤ hi
  | [], _ => ⟨rfl, fun _ h => by cases h⟩
  | d :: ds, h => by
    rw [List.all_cons, Bool.and_eq_true] at h
    obtain ⟨h1, h2⟩ := h
    obtain ⟨g1, g2⟩ := cnt_ints h2
    cases d with
    | int i =>
      have h1 : lo ≤ i ∧ i ≤ hi := by simpa [isCnt] using h1
      refine ⟨by rw [List.map_cons, List.map_cons, ← g1]; rfl, fun j hj => ?_⟩
      rw [List.map_cons] at hj
      rcases List.mem_cons.mp hj with e | hj
      · rw [e]; exact h1
      · exact g2 j hj
    | none => cases h1
    | bool _ => cases h1
    | str _ => cases h1
    | list _ => cases h1
    | tuple _ => cases h1
    | dict _ => cases h1
theorem map_intOf (ns : List Int) : (ns.map PyData.int).map intOf = ns := by rw [List.map_map]; exact List.map_id ns
theorem cut_init {α : Type} (l : List α) : cutL l none (some (-1)) = l.dropLast := by
  unfold cutL HT.sIx
  cases l with
  | nil => rfl
  | cons a l => simp [List.dropLast_eq_take]; try omega
theorem cut_tail {α : Type} (l : List α) : cutL l (some 1) none = l.tail := by
  cases l with
  | nil => rfl
  | cons a l =>
    unfold cutL HT.sIx
    simp
theorem zip_ints (ns : List Int) : ((cutL (ns.map PyData.int) none (some (-1))).zip (cutL (ns.map PyData.int) (some 1) none)).map encZ = (ns.dropLast.zip ns.tail).map fun q => PyData.tuple [.int q.1, .int q.2] := by
  rw [cut_init, cut_tail, ← List.map_dropLast, ← List.map_tail, List.zip_map, List.map_map]
  rfl
theorem kit_list {d : PyData} (h : isLs d = false) : kitB (tyN d) "list" = some false := by
  cases d with
  | list _ => cases h
  | _ => rfl
theorem ls_of {d : PyData} (h : isLs d = true) : d = .list (lsOf d) := by
  cases d with
  | list _ => rfl
  | _ => cases h
/-! ### a name with brackets -/
def inI (ps : List Nat) (i : Int) : Bool := (ps.map natI).any fun z => PyData.eqv z (.int i)
def ahd (ps : List Nat) (i : Nat) : List Nat := if (inI ps (i : Int) && !inI ps ((i : Int) - 1)) = true then [91] else []
def bhd (ps : List Nat) (i : Nat) : List Nat := if (inI ps (i : Int) && !inI ps ((i : Int) + 1)) = true then [93] else []
def shAt (ps : List Nat) (x : Nat × Nat) : List Nat := ahd ps x.1 ++ [x.2] ++ bhd ps x.1
def shL (ps : List Nat) (xs : List (Nat × Nat)) : List Nat := xs.flatMap (shAt ps)
def shownL (n ps : List Nat) : List Nat := shL ps (enumT n)
def R_shown_text (ds : List PyData) (r : Res) : Prop := ∃ n ps, ds = [tx n, .list (ps.map natI)] ∧ n.length ≤ 10000 ∧ r = .ok (tx (shownL n ps))
theorem sh_len (ps : List Nat) : ∀ xs : List (Nat × Nat), (shL ps xs).length ≤ 3 * xs.length
  | [] => Nat.le_refl _
  | x :: xs => by
    have ih := sh_len ps xs
    unfold shL at ih ⊢
    rw [List.flatMap_cons, List.length_append, List.length_cons]
    have : (shAt ps x).length ≤ 3 := by
      unfold shAt ahd bhd
      repeat' split
      all_goals simp
    omega
theorem sh_snoc (ps : List Nat) (xs : List (Nat × Nat)) (x : Nat × Nat) : shL ps (xs ++ [x]) = shL ps xs ++ ahd ps x.1 ++ [x.2] ++ bhd ps x.1 := by
  unfold shL
  rw [List.flatMap_append, List.flatMap_cons, List.flatMap_nil, List.append_nil]
  unfold shAt
  simp only [List.append_assoc]
def natsOf (d : PyData) : List Nat := (lsOf d).map fun e => (intOf e).toNat
/-- BadName, then BadPlaces, then f -/
def R_spots (C0 C3 : Addr) (f : List Nat → List Nat → PyData) (ds : List PyData) (r : Res) : Prop := ∃ d1 d2, ds = [d1, d2] ∧ okd d1 ∧ (lsOf d2).length ≤ 10000 ∧
  r = if isName d1 = true then (if spots (cod d1).length d2 = true then .ok (f (cod d1) (natsOf d2)) else .error C3) else .error C0
theorem spots_nats {m : Nat} {d : PyData} (h : spots m d = true) : d = .list ((natsOf d).map natI) ∧ (∀ i ∈ natsOf d, i < m) ∧ (natsOf d).Pairwise (· < ·) := by
  unfold spots at h
  rw [Bool.and_eq_true, Bool.and_eq_true] at h
  obtain ⟨⟨h1, h2⟩, h3⟩ := h
  obtain ⟨g1, g2⟩ := cnt_ints h2
  have e := ls_of h1
  have en : (lsOf d).map intOf = (natsOf d).map fun (i : Nat) => (i : Int) := by
    unfold natsOf
    rw [List.map_map]
    refine List.map_congr_left fun x hx => ?_
    have := g2 _ (List.mem_map_of_mem hx)
    show intOf x = ((intOf x).toNat : Int)
    omega
  refine ⟨?_, fun i hi => ?_, ?_⟩
  · rw [e]
    show PyData.list (lsOf d) = _
    rw [show natsOf (.list (lsOf d)) = natsOf d by rw [← e]]
    rw [g1, en, List.map_map]
    rfl
  · obtain ⟨x, hx, rfl⟩ := List.mem_map.mp hi
    have := g2 _ (List.mem_map_of_mem hx)
    omega
  · rw [en] at h3
    generalize natsOf d = l at h3
    clear e en g1 g2 h1 h2
    unfold riseI at h3
    induction l with
    | nil => exact .nil
    | cons a l ih =>
      cases l with
      | nil => exact List.pairwise_singleton _ _
      | cons b l =>
        simp only [List.map_cons, List.dropLast_cons₂, List.tail_cons, List.zip_cons_cons, List.all_cons, Bool.and_eq_true, decide_eq_true_eq] at h3
        have ih := ih (by simpa using h3.2)
        refine List.pairwise_cons.mpr ⟨fun x hx => ?_, ih⟩
        rcases List.mem_cons.mp hx with e | hx
        · rw [e]; omega
        · have := (List.pairwise_cons.mp ih).1 x hx
          omega
/-! ### the name and the places that a text shows -/
def rdStep (s : (List Nat × List Nat) × Bool) (c : Nat) : (List Nat × List Nat) × Bool :=
  if c ∈ ([91, 93] : List Nat) then (s.1, decide (c = 91)) else ((s.1.1 ++ [c], if s.2 = true then s.1.2 ++ [s.1.1.length] else s.1.2), s.2)
def rdF (pre : List Nat) : (List Nat × List Nat) × Bool := pre.foldl rdStep (([], []), false)
theorem rdF_snoc (pre : List Nat) (c : Nat) : rdF (pre ++ [c]) = rdStep (rdF pre) c := by
  unfold rdF
  rw [List.foldl_append]
  rfl
theorem snocRec {α : Type} {P : List α → Prop} (h0 : P []) (hs : ∀ l a, P l → P (l ++ [a])) (l : List α) : P l := by
  have : ∀ m : List α, P m.reverse := fun m => by
    induction m with
    | nil => exact h0
    | cons a m ih => rw [List.reverse_cons]; exact hs _ _ ih
  have h := this l.reverse
  rw [List.reverse_reverse] at h
  exact h
theorem rdF_len (pre : List Nat) : (rdF pre).1.1.length ≤ pre.length ∧ (rdF pre).1.2.length ≤ pre.length := by
  induction pre using snocRec with
  | h0 => exact ⟨Nat.le_refl _, Nat.le_refl _⟩
  | hs q c ih =>
    rw [rdF_snoc, List.length_append, List.length_singleton]
    unfold rdStep
    split
    · exact ⟨Nat.le_succ_of_le ih.1, Nat.le_succ_of_le ih.2⟩
    · refine ⟨by simp; omega, ?_⟩
      show (if _ then _ else _ : List Nat).length ≤ _
      split
      · simp; omega
      · omega
def readL (t : List Nat) : Option (List Nat × List Nat) := if isNm (rdF t).1.1 = true ∧ shownL (rdF t).1.1 (rdF t).1.2 = t then some (rdF t).1 else none
def R_read_shown (C7 : Addr) (ds : List PyData) (r : Res) : Prop := ∃ d, ds = [d] ∧ okd d ∧ r = if isTx d = true then (match readL (cod d) with | some q => .ok (.tuple [tx q.1, .list (q.2.map natI)]) | none => .error C7) else .error C7
/-! ### runs -/
def runD (q : Nat × Nat) : PyData := .tuple [natI q.1, natI q.2]
def ruStep (s : List (Nat × Nat)) (i : Nat) : List (Nat × Nat) :=
  match s.getLast? with
  | some q => if q.1 + q.2 = i then s.dropLast ++ [(q.1, q.2 + 1)] else s ++ [(i, 1)]
  | none => s ++ [(i, 1)]
def runsL (ps : List Nat) : List (Nat × Nat) := ps.foldl ruStep []
theorem runsL_snoc (ps : List Nat) (i : Nat) : runsL (ps ++ [i]) = ruStep (runsL ps) i := by
  unfold runsL
  rw [List.foldl_append]
  rfl
def shownD (n ps : List Nat) : PyData := tx (shownL n ps)
def runsD (n ps : List Nat) : PyData := .list ((runsL ps).map runD)
end Lf
namespace Lf
open PySem PySem.Spec PyProof.Rows L2 LamX
theorem runsL_len (ps : List Nat) : (runsL ps).length ≤ ps.length := by
  induction ps using snocRec with
  | h0 => exact Nat.le_refl _
  | hs q c ih =>
    rw [runsL_snoc, List.length_append, List.length_singleton]
    unfold ruStep
    split
    · split
      · simp; omega
      · simp; omega
    · simp; omega
theorem lay_runs (rs : List (Nat × Nat)) : Lay 2 (.list (rs.map runD)) := lay_list (n := 1) fun d hd => by
  obtain ⟨q, _, rfl⟩ := List.mem_map.mp hd
  refine lay_tuple (n := 0) fun e he => ?_
  simp at he
  rcases he with rfl | rfl <;> exact lay_int
theorem run_last {rs : List (Nat × Nat)} {q : Nat × Nat} (h : rs.getLast? = some q) : atI (rs.map runD) (-1) = some (runD q) := by
  obtain ⟨l, rfl⟩ := List.getLast?_eq_some_iff.mp h
  rw [List.map_append]
  unfold atI
  rw [show ixN ((l.map runD) ++ [q].map runD).length (-1) = some l.length by unfold ixN; simp; try omega]
  simp
theorem run_put {rs : List (Nat × Nat)} {q : Nat × Nat} (h : rs.getLast? = some q) : ixN (rs.map runD).length (-1) = some (rs.length - 1) := by
  obtain ⟨l, rfl⟩ := List.getLast?_eq_some_iff.mp h
  unfold ixN
  simp
  try omega
theorem run_set {rs : List (Nat × Nat)} {q : Nat × Nat} {d : PyData} (h : rs.getLast? = some q) : (rs.map runD).set (rs.length - 1) d = rs.dropLast.map runD ++ [d] := by
  obtain ⟨l, rfl⟩ := List.getLast?_eq_some_iff.mp h
  simp [List.set_append]
theorem run_ne {rs : List (Nat × Nat)} {q : Nat × Nat} (h : rs.getLast? = some q) : PyData.eqv (.list (rs.map runD)) (.list []) = false := by
  cases rs with
  | nil => cases h
  | cons a l => rfl
end Lf
set_option Elab.async false
set_option linter.all false
set_option maxRecDepth 100000
set_option maxHeartbeats 4000000
namespace Lf
open PySem PySem.Spec PyProof.Rows L2 LamX
section
variable {Kf : PySem.W.Frag} {Tf : List (Addr × Str)} {F : Fx Kf Tf}
theorem od_repSz {l : List Nat} {i : Int} (hn : 0 ≤ i) (hn2 : i ≤ 100000) (hz : l.length * i.toNat ≤ 100000) : OpD F rMulS (tx l) (.int i) (tx (List.replicate i.toNat l).flatten) := by
  by_cases h : 1 ≤ i
  · exact od_repSi h hn2 hz
  · have e : i = 0 := by omega
    subst e
    exact fun O H x y Q _ w hx hy k => ⟨_, _, hx, hy, ⟨by decide, fun z => absurd (by decide) z, fun z => absurd (by decide) z⟩, k _ H (ExtN.refl H) w rfl⟩
end
/-! ### the law's own showing -/
def bk2 (b : Bool) : Nat := if b then 93 else 91
def lsStep (ps : List Nat) (s : List Nat × Bool) (x : Nat × Nat) : List Nat × Bool := if (!decide (inI ps (x.1 : Int) = s.2)) = true then (s.1 ++ [bk2 s.2] ++ [x.2], !s.2) else (s.1 ++ [x.2], s.2)
def lsF (ps : List Nat) (xs : List (Nat × Nat)) : List Nat × Bool := xs.foldl (lsStep ps) ([], false)
theorem lsF_snoc (ps : List Nat) (xs : List (Nat × Nat)) (x : Nat × Nat) : lsF ps (xs ++ [x]) = lsStep ps (lsF ps xs) x := by
  unfold lsF
  rw [List.foldl_append]
  rfl
theorem lsF_len (ps : List Nat) (xs : List (Nat × Nat)) : (lsF ps xs).1.length ≤ 2 * xs.length := by
  induction xs using snocRec with
  | h0 => exact Nat.le_refl _
  | hs q c ih =>
    rw [lsF_snoc, List.length_append, List.length_singleton]
    unfold lsStep
    split <;> (simp; omega)
def lawSh (n ps : List Nat) : List Nat := (lsF ps (enumT n)).1 ++ (List.replicate (if (lsF ps (enumT n)).2 then (1 : Int) else 0).toNat [93]).flatten
def R_law_shown (ds : List PyData) (r : Res) : Prop := ∃ n ps, ds = [tx n, .list (ps.map natI)] ∧ n.length ≤ 10000 ∧ r = .ok (tx (lawSh n ps))
theorem bk_at (b : Bool) : atI [91, 93] (if b then (1 : Int) else 0) = some (bk2 b) := by cases b <;> rfl
/-! ### brackets one behind the other -/
def stB (b : Bool) (c : Nat) : Option Bool := if c = 91 then (if b then none else some true) else if c = 93 then (if b then some false else none) else some b
def brk (pre : List Nat) : Option Bool := pre.foldl (fun o c => o.bind fun b => stB b c) (some false)
theorem brk_snoc (pre : List Nat) (c : Nat) : brk (pre ++ [c]) = (brk pre).bind fun b => stB b c := by
  unfold brk
  rw [List.foldl_append]
  rfl
theorem brk_none (post : List Nat) : ∀ pre, brk pre = none → brk (pre ++ post) = none := by
  induction post with
  | nil => intro pre h; rw [List.append_nil]; exact h
  | cons c post ih =>
    intro pre h
    have := ih (pre ++ [c]) (by rw [brk_snoc, h]; rfl)
    rwa [List.append_assoc] at this
def noB (l : List Nat) : Prop := ∀ c ∈ l, c ≠ 91 ∧ c ≠ 93
theorem brk_ls (ps : List Nat) (xs : List (Nat × Nat)) : (∀ x ∈ xs, x.2 ≠ 91 ∧ x.2 ≠ 93) → brk (lsF ps xs).1 = some (lsF ps xs).2 := by
  induction xs using snocRec with
  | h0 => intro _; rfl
  | hs q c ih =>
    intro h
    have ih := ih fun x hx => h x (List.mem_append_left _ hx)
    have hc := h c (List.mem_append_right _ List.mem_cons_self)
    rw [lsF_snoc]
    unfold lsStep
    split
    · show brk ((lsF ps q).1 ++ [bk2 (lsF ps q).2] ++ [c.2]) = some (!(lsF ps q).2)
      rw [brk_snoc, brk_snoc, ih]
      cases (lsF ps q).2 <;> simp [stB, bk2, hc]
    · show brk ((lsF ps q).1 ++ [c.2]) = some (lsF ps q).2
      rw [brk_snoc, ih]
      simp [stB, hc]
theorem enum_noB {n : List Nat} (h : noB n) : ∀ x ∈ enumT n, x.2 ≠ 91 ∧ x.2 ≠ 93 := fun x hx => by
  obtain ⟨i, hi, rfl⟩ := List.mem_map.mp hx
  have hi : i < n.length := by simpa using hi
  have : n.getD i 0 ∈ n := by
    rw [List.getD_eq_getElem?_getD, List.getElem?_eq_getElem hi]
    exact List.getElem_mem hi
  exact h _ this
theorem brk_law {n ps : List Nat} (h : noB n) : brk (lawSh n ps) ≠ none := by
  unfold lawSh
  have := brk_ls ps (enumT n) (enum_noB h)
  cases e : (lsF ps (enumT n)).2 with
  | false =>
    rw [e] at this
    simp [this]
  | true =>
    rw [e] at this
    show brk (_ ++ [93]) ≠ none
    rw [brk_snoc, this]
    simp [stB]
/-! ### both show the same -/
theorem any_nat (ps : List Nat) (i : Nat) : inI ps (i : Int) = decide (i ∈ ps) := by
  unfold inI
  rw [List.any_map]
  induction ps with
  | nil => rfl
  | cons p ps ih =>
    rw [List.any_cons, ih]
    by_cases e : p = i
    · subst e; simp [natI, PyData.eqv, Function.comp]
    · have : ¬ i = p := fun z => e z.symm
      have e2 : ¬ (p : Int) = (i : Int) := by omega
      simp [natI, PyData.eqv, Function.comp, this, e2]
theorem any_neg (ps : List Nat) : inI ps (-1) = false := by
  unfold inI
  rw [List.any_map]
  induction ps with
  | nil => rfl
  | cons p ps ih =>
    rw [List.any_cons, ih]
    have e2 : ¬ (p : Int) = -1 := by omega
    simp [natI, PyData.eqv, Function.comp, e2]
def En (n : List Nat) (m : Nat) : List (Nat × Nat) := (List.range m).map fun i => (i, n.getD i 0)
theorem En_succ (n : List Nat) (m : Nat) : En n (m + 1) = En n m ++ [(m, n.getD m 0)] := by
  unfold En
  rw [List.range_succ, List.map_append]
  rfl
theorem ls_sh (n ps : List Nat) : ∀ m, (lsF ps (En n m)).2 = inI ps ((m : Int) - 1) ∧ shL ps (En n m) = (lsF ps (En n m)).1 ++ (if (inI ps ((m : Int) - 1) && !inI ps (m : Int)) = true then [93] else [])
  | 0 => by
    refine ⟨(any_neg ps).symm, ?_⟩
    show [] = [] ++ (if (inI ps (0 - 1) && !inI ps _) = true then [93] else [])
    rw [show (0 - 1 : Int) = -1 from rfl, any_neg]
    rfl
  | m + 1 => by
    obtain ⟨h1, h2⟩ := ls_sh n ps m
    rw [En_succ, lsF_snoc, sh_snoc, h2]
    have e1 : (((m + 1 : Nat) : Int) - 1) = (m : Int) := by omega
    have e2 : (((m + 1 : Nat) : Int)) = (m : Int) + 1 := by omega
    rw [e1, e2]
    unfold lsStep ahd bhd
    simp only
    rw [h1]
    cases inI ps (m : Int) <;> cases inI ps ((m : Int) - 1) <;> cases inI ps ((m : Int) + 1) <;> simp [bk2]
theorem lawSh_eq {n ps : List Nat} (h : ∀ i ∈ ps, i < n.length) : lawSh n ps = shownL n ps := by
  obtain ⟨h1, h2⟩ := ls_sh n ps n.length
  unfold lawSh shownL
  show (lsF ps (En n n.length)).1 ++ (List.replicate (if (lsF ps (En n n.length)).2 then (1 : Int) else 0).toNat [93]).flatten = shL ps (En n n.length)
  rw [h2, h1]
  have : inI ps (n.length : Int) = false := by
    rw [any_nat]
    exact decide_eq_false fun z => Nat.lt_irrefl _ (h _ z)
  rw [this]
  cases inI ps ((n.length : Int) - 1) <;> rfl
/-! ### read back -/
theorem rd_ls {n ps : List Nat} (hn : noB n) : ∀ m, m ≤ n.length → rdF (lsF ps (En n m)).1 = ((n.take m, (List.range m).filter fun i => decide (i ∈ ps)), (lsF ps (En n m)).2)
  | 0, _ => rfl
  | m + 1, h => by
    have ih := rd_ls (ps := ps) hn m (by omega)
    have hm : n.getD m 0 ∈ n := by
      rw [List.getD_eq_getElem?_getD, List.getElem?_eq_getElem (by omega)]
      exact List.getElem_mem _
    obtain ⟨c1, c2⟩ := hn _ hm
    have cn : ¬ n.getD m 0 ∈ ([91, 93] : List Nat) := by simp only [List.mem_cons, List.not_mem_nil, or_false]; omega
    have tk : n.take (m + 1) = n.take m ++ [n.getD m 0] := take_snoc (by omega)
    have tl : (n.take m).length = m := by rw [List.length_take]; omega
    rw [En_succ, lsF_snoc, tk, List.range_succ, List.filter_append]
    unfold lsStep
    simp only
    rw [any_nat]
    by_cases hp : decide (m ∈ ps) = (lsF ps (En n m)).2
    · rw [if_neg (by simpa using hp)]
      simp only
      rw [rdF_snoc, ih]
      unfold rdStep
      rw [if_neg cn]
      simp only [tl]
      rw [← hp]
      by_cases hq : m ∈ ps <;> simp [hq]
    · rw [if_pos (by simpa using hp)]
      simp only
      rw [rdF_snoc, rdF_snoc, ih]
      have cb : bk2 (lsF ps (En n m)).2 ∈ ([91, 93] : List Nat) := by cases (lsF ps (En n m)).2 <;> simp [bk2]
      have e3 : rdStep ((n.take m, (List.range m).filter fun i => decide (i ∈ ps)), (lsF ps (En n m)).2) (bk2 (lsF ps (En n m)).2) = ((n.take m, (List.range m).filter fun i => decide (i ∈ ps)), !(lsF ps (En n m)).2) := by
        unfold rdStep
        rw [if_pos cb]
        cases (lsF ps (En n m)).2 <;> rfl
      rw [e3]
      unfold rdStep
      rw [if_neg cn]
      simp only [tl]
      have : decide (m ∈ ps) = !(lsF ps (En n m)).2 := by
        cases h1 : decide (m ∈ ps) <;> cases h2 : (lsF ps (En n m)).2 <;> simp_all
      rw [← this]
      cases hh : decide (m ∈ ps) <;> simp_all
theorem read_law {n ps : List Nat} (hn : noB n) (h : (List.range n.length).filter (fun i => decide (i ∈ ps)) = ps) : (rdF (lawSh n ps)).1 = (n, ps) := by
  have := rd_ls (ps := ps) hn n.length (Nat.le_refl _)
  rw [List.take_length, h] at this
  unfold lawSh
  show (rdF ((lsF ps (En n n.length)).1 ++ (List.replicate (if (lsF ps (En n n.length)).2 then (1 : Int) else 0).toNat [93]).flatten)).1 = (n, ps)
  cases e : (lsF ps (En n n.length)).2 with
  | false =>
    show (rdF ((lsF ps (En n n.length)).1 ++ [])).1 = (n, ps)
    rw [List.append_nil, this]
  | true =>
    show (rdF ((lsF ps (En n n.length)).1 ++ [93])).1 = (n, ps)
    rw [rdF_snoc, this]
    rfl
theorem isNm_noB {n : List Nat} (h : isNm n = true) : noB n := fun c hc => by
  have := isNm_alpha h c hc
  exact ⟨fun z => by rw [z] at this; revert this; decide, fun z => by rw [z] at this; revert this; decide⟩
theorem readL_law {n ps : List Nat} (hn : isNm n = true) (h : (List.range n.length).filter (fun i => decide (i ∈ ps)) = ps) : readL (lawSh n ps) = some (n, ps) := by
  have e := read_law (isNm_noB hn) h
  unfold readL
  rw [e, if_pos]
  refine ⟨hn, (lawSh_eq fun i hi => ?_).symm⟩
  rw [← h] at hi
  have := (List.mem_filter.mp hi).1
  simpa using this
/-! ### what the law reads -/
def tlD (t : List Nat) : PyData := match readL t with | some q => .tuple [tx q.1, .list (q.2.map natI)] | none => .none
def R_law_tells (ds : List PyData) (r : Res) : Prop := ∃ t, ds = [tx t] ∧ t.length ≤ 5000 ∧ (∀ c ∈ t, c < 128) ∧ r = .ok (tlD t)
theorem rd_name (pre : List Nat) : (rdF pre).1.1 = pre.filter fun c => !decide (c ∈ ([91, 93] : List Nat)) := by
  induction pre using snocRec with
  | h0 => rfl
  | hs q c ih =>
    rw [rdF_snoc, List.filter_append, ← ih]
    unfold rdStep
    by_cases h : c ∈ ([91, 93] : List Nat)
    · rw [if_pos h]
      have : (!decide (c ∈ ([91, 93] : List Nat))) = false := by simp only [h]; rfl
      rw [List.filter_cons_of_neg (by rw [this]; decide), List.filter_nil, List.append_nil]
    · rw [if_neg h]
      have : (!decide (c ∈ ([91, 93] : List Nat))) = true := by simp only [h]; rfl
      rw [List.filter_cons_of_pos (p := fun c => !decide (c ∈ ([91, 93] : List Nat))) this, List.filter_nil]
theorem rd_noB (t : List Nat) : noB (rdF t).1.1 := fun c hc => by
  rw [rd_name] at hc
  have := (List.mem_filter.mp hc).2
  simp at this
  exact this
theorem rd_lt (t : List Nat) : ∀ i ∈ (rdF t).1.2, i < (rdF t).1.1.length := by
  induction t using snocRec with
  | h0 => intro i h; cases h
  | hs q c ih =>
    rw [rdF_snoc]
    unfold rdStep
    split
    · exact ih
    · intro i hi
      simp only at hi ⊢
      rw [List.length_append, List.length_singleton]
      split at hi
      · rcases List.mem_append.mp hi with h | h
        · have := ih i h; omega
        · rw [List.mem_singleton.mp h]; omega
      · have := ih i hi; omega
theorem tl_no {t : List Nat} (h : brk t = none) : tlD t = .none := by
  have : readL t = none := if_neg fun ⟨h1, h2⟩ => by
    rw [← lawSh_eq (rd_lt t)] at h2
    exact brk_law (rd_noB t) (by rw [h2]; exact h)
  unfold tlD
  rw [this]
theorem tl_yes {t : List Nat} (h : isNm (rdF t).1.1 = true) (g : lawSh (rdF t).1.1 (rdF t).1.2 = t) : tlD t = .tuple [tx (rdF t).1.1, .list ((rdF t).1.2.map natI)] := by
  have : readL t = some (rdF t).1 := if_pos ⟨h, by rw [← lawSh_eq (rd_lt t)]; exact g⟩
  unfold tlD
  rw [this]
theorem tl_no1 {t : List Nat} (h : isNm (rdF t).1.1 = false) : tlD t = .none := by
  have : readL t = none := if_neg fun z => by rw [h] at z; cases z.1
  unfold tlD
  rw [this]
theorem tl_no2 {t : List Nat} (g : ¬ lawSh (rdF t).1.1 (rdF t).1.2 = t) : tlD t = .none := by
  have : readL t = none := if_neg fun z => g (by rw [lawSh_eq (rd_lt t)]; exact z.2)
  unfold tlD
  rw [this]
def dpI (b : Bool) : Int := if b then 1 else 0
def oddL (n : List Nat) : List Nat := n.filter fun c => decide (kindL c = kNone) && !decide (c ∈ lOth)
theorem odd_nm (n : List Nat) : isNm n = (decide (0 < (n.length : Int)) && decide ((n.length : Int) < 31) && decide (oddL n = [])) := by
  have tab : ∀ c, (decide (kindL c = kNone) && !decide (c ∈ lOth)) = !decide (c ∈ alpha) := fun c => by
    unfold kindL alpha
    by_cases h1 : c ∈ lSmall
    · simp [h1, kSmall, kNone]
    · by_cases h2 : c ∈ lFig
      · simp [h1, h2, kFig, kNone]
      · by_cases h3 : c ∈ lGreat
        · simp [h1, h2, h3, kGreat, kNone]
        · simp [h1, h2, h3]
  unfold isNm oddL
  have e1 : decide ((1 : Nat) ≤ n.length) = decide (0 < (n.length : Int)) := by simp only [decide_eq_decide]; omega
  have e2 : decide (n.length ≤ 30) = decide ((n.length : Int) < 31) := by simp only [decide_eq_decide]; omega
  rw [e1, e2]
  congr 1
  have : (n.all fun c => decide (c ∈ lSmall ++ lGreat ++ lFig ++ lOth)) = decide (n.filter (fun c => decide (kindL c = kNone) && !decide (c ∈ lOth)) = []) := by
    rw [Bool.eq_iff_iff, decide_eq_true_iff, List.filter_eq_nil_iff, List.all_eq_true]
    refine forall_congr' fun c => forall_congr' fun _ => ?_
    rw [tab]
    show decide (c ∈ alpha) = true ↔ ¬ (!decide (c ∈ alpha)) = true
    cases decide (c ∈ alpha) <;> simp
  exact this
theorem ev_nil {α : Type} (f : α → PyData) (l : List α) : PyData.eqv (.list (l.map f)) (.list []) = decide (l = []) := by cases l <;> rfl
theorem odd_yes {n : List Nat} (h : (!(decide (0 < (n.length : Int)) && decide ((n.length : Int) < 31)) || !PyData.eqv (.list ((oddL n).map fun x => tx [x])) (.list [])) = false) : isNm n = true := by
  rw [ev_nil] at h
  rw [odd_nm]
  revert h
  generalize (decide (0 < (n.length : Int)) && decide ((n.length : Int) < 31)) = a
  cases a <;> cases decide (oddL n = []) <;> simp
theorem odd_no {n : List Nat} (h : (!(decide (0 < (n.length : Int)) && decide ((n.length : Int) < 31)) || !PyData.eqv (.list ((oddL n).map fun x => tx [x])) (.list [])) = true) : isNm n = false := by
  rw [ev_nil] at h
  rw [odd_nm]
  revert h
  generalize (decide (0 < (n.length : Int)) && decide ((n.length : Int) < 31)) = a
  cases a <;> cases decide (oddL n = []) <;> simp
theorem lay_signs {l : List Nat} (h : ∀ c ∈ l, c < 128) : Lay 1 (.list (l.map fun x => tx [x])) := lay_list (n := 0) fun d hd => by
  obtain ⟨c, hc, rfl⟩ := List.mem_map.mp hd
  exact lay_tx fun x hx => by rw [List.mem_singleton.mp hx]; have := h c hc; omega
theorem rd_low {t : List Nat} (h : ∀ c ∈ t, c < 128) : ∀ c ∈ (rdF t).1.1, c < 128 := fun c hc => by
  rw [rd_name] at hc
  exact h c (List.mem_filter.mp hc).1
theorem odd_low {t : List Nat} (h : ∀ c ∈ t, c < 128) : ∀ c ∈ oddL (rdF t).1.1, c < 128 := fun c hc => rd_low h c (List.mem_filter.mp hc).1
def R_true0 (ds : List PyData) (r : Res) : Prop := ds = [] ∧ r = .ok (.bool true)
theorem at_two {a b h : Int} : atI [PyData.int a, .int b] (h % 2) = some (.int (if h % 2 = 0 then a else b)) := by
  have h1 : h % 2 = 0 ∨ h % 2 = 1 := by omega
  rcases h1 with e | e <;> rw [e] <;> rfl
theorem filt_self {m : Nat} {q : Nat → Bool} {ps : List Nat} (h : (List.range m).filter q = ps) : (List.range m).filter (fun i => decide (i ∈ ps)) = ps := by
  rw [← h]
  refine List.filter_congr fun i hi => ?_
  have : i ∈ (List.range m).filter q ↔ q i = true := by
    rw [List.mem_filter]
    exact ⟨fun z => z.2, fun z => ⟨hi, z⟩⟩
  cases e : q i with
  | true => exact decide_eq_true (this.mpr e)
  | false => exact decide_eq_false fun z => by rw [this.mp z] at e; cases e
theorem filt_lt {m : Nat} {q : Nat → Bool} {ps : List Nat} (h : (List.range m).filter q = ps) : ∀ i ∈ ps, i < m := fun i hi => by
  rw [← h] at hi
  simpa using (List.mem_filter.mp hi).1
theorem filt_rise {m : Nat} {q : Nat → Bool} {ps : List Nat} (h : (List.range m).filter q = ps) : ps.Pairwise (· < ·) := by
  rw [← h]
  exact List.Pairwise.filter _ List.pairwise_lt_range
theorem rise_ok : ∀ {ps : List Nat}, ps.Pairwise (· < ·) → riseI (ps.map fun (i : Nat) => (i : Int)) = true
  | [], _ => rfl
  | [a], _ => rfl
  | a :: b :: l, h => by
    have h' := List.pairwise_cons.mp h
    have ih := rise_ok h'.2
    unfold riseI at ih ⊢
    simp only [List.map_cons, List.dropLast_cons₂, List.tail_cons, List.zip_cons_cons, List.all_cons, Bool.and_eq_true, decide_eq_true_eq]
    refine ⟨by have := h'.1 b List.mem_cons_self; omega, ?_⟩
    simpa using ih
theorem nats_self (ps : List Nat) : natsOf (.list (ps.map natI)) = ps := by
  unfold natsOf
  show (ps.map natI).map (fun e => (intOf e).toNat) = ps
  rw [List.map_map]
  exact List.map_id'' (fun i => by simp [natI, intOf]) ps
theorem ints_self (ps : List Nat) : (ps.map natI).map intOf = ps.map fun (i : Nat) => (i : Int) := by
  rw [List.map_map]
  rfl
theorem spots_ok {m : Nat} {ps : List Nat} (h : ∀ i ∈ ps, i < m) (g : ps.Pairwise (· < ·)) : spots m (.list (ps.map natI)) = true := by
  unfold spots
  rw [show lsOf (PyData.list (ps.map natI)) = ps.map natI from rfl, ints_self, rise_ok g]
  have : ((ps.map natI).all fun e => isCnt e 0 ((m : Int) - 1)) = true := by
    rw [List.all_eq_true]
    intro d hd
    obtain ⟨i, hi, rfl⟩ := List.mem_map.mp hd
    have := h i hi
    simp [natI, isCnt]
    omega
  rw [this]
  rfl
theorem R_spots_ok {C0 C3 : Addr} {f : List Nat → List Nat → PyData} {n ps : List Nat} (hn : isNm n = true) (h : ∀ i ∈ ps, i < n.length) (g : ps.Pairwise (· < ·)) (hz : ps.length ≤ 10000) : R_spots C0 C3 f [tx n, .list (ps.map natI)] (.ok (f n ps)) :=
  ⟨_, _, rfl, okd_tx (by have := isNm_len hn; omega), by show (ps.map natI).length ≤ 10000; rw [List.length_map]; exact hz, by rw [isName_tx, if_pos hn, cod_tx, if_pos (spots_ok h g), nats_self]⟩
theorem R_spots_er {C0 C3 : Addr} {f : List Nat → List Nat → PyData} {n : List Nat} {d : PyData} (hn : isNm n = true) (h : spots n.length d = false) (hz : (lsOf d).length ≤ 10000) : R_spots C0 C3 f [tx n, d] (.error C3) :=
  ⟨_, _, rfl, okd_tx (by have := isNm_len hn; omega), hz, by rw [isName_tx, if_pos hn, cod_tx, h]; rfl⟩
theorem R_spots_er0 {C0 C3 : Addr} {f : List Nat → List Nat → PyData} {n : List Nat} {d : PyData} (hl : n.length ≤ 10000) (hn : isNm n = false) (hz : (lsOf d).length ≤ 10000) : R_spots C0 C3 f [tx n, d] (.error C0) :=
  ⟨_, _, rfl, okd_tx hl, hz, by rw [isName_tx, hn]; rfl⟩
theorem pair_lay {n ps : List Nat} (h : ∀ c ∈ n, c < 128) : Lay 2 (.tuple [tx n, .list (ps.map natI)]) := lay_tuple (n := 1) fun d hd => by
  rcases List.mem_cons.mp hd with rfl | hd
  · exact lay_tx fun c hc => by have := h c hc; omega
  · rw [List.mem_singleton.mp hd]; exact lay_nats
theorem isNm_low {n : List Nat} (h : isNm n = true) : ∀ c ∈ n, c < 128 := fun c hc => (alpha_low c (isNm_alpha h c hc)).1
def rsR (C7 : Addr) (t : List Nat) : Res := match readL t with | some q => .ok (.tuple [tx q.1, .list (q.2.map natI)]) | none => .error C7
theorem R_read_of {C7 : Addr} {t : List Nat} (hz : t.length ≤ 10000) : R_read_shown C7 [tx t] (rsR C7 t) := ⟨_, rfl, okd_tx hz, by rw [if_pos (isTx_tx t), cod_tx]; rfl⟩
theorem R_read_ok {C7 : Addr} {t n ps : List Nat} (hz : t.length ≤ 10000) (h : readL t = some (n, ps)) : R_read_shown C7 [tx t] (.ok (.tuple [tx n, .list (ps.map natI)])) := ⟨_, rfl, okd_tx hz, by rw [if_pos (isTx_tx t), cod_tx, h]⟩
theorem R_read_er {C7 : Addr} {t : List Nat} (hz : t.length ≤ 10000) (h : readL t = none) : R_read_shown C7 [tx t] (.error C7) := ⟨_, rfl, okd_tx hz, by rw [if_pos (isTx_tx t), cod_tx, h]⟩
theorem R_read_er0 {C7 : Addr} {d : PyData} (h : isTx d = false) (hz : cod d = []) : R_read_shown C7 [d] (.error C7) := ⟨_, rfl, by unfold okd; rw [hz]; decide, by rw [h]; rfl⟩
def sdD (t : List Nat) : PyData := match readL t with | some q => .tuple [tx q.1, .list (q.2.map natI)] | none => tx [66, 97, 100, 84, 101, 120, 116]
theorem sd_none {t : List Nat} (h : isN (tlD t) = true) : tx [66, 97, 100, 84, 101, 120, 116] = sdD t := by
  unfold tlD at h
  unfold sdD
  cases e : readL t with
  | none => rfl
  | some q => rw [e] at h; cases h
theorem sd_some {t : List Nat} (h : isN (tlD t) = false) : tlD t = sdD t := by
  unfold tlD at h ⊢
  unfold sdD
  cases e : readL t with
  | none => rw [e] at h; cases h
  | some q => rfl
theorem sd_lay {t : List Nat} (h : ∀ c ∈ t, c < 128) : Lay 2 (sdD t) := by
  unfold sdD
  cases e : readL t with
  | none => exact lay_tx (by decide)
  | some q =>
    unfold readL at e
    split at e
    · cases e; exact pair_lay (rd_low h)
    · cases e
/-! ### runs, by what stands in the list -/
theorem runs_inv (pre : List Nat) : (runsL pre).getLast?.map (fun q => q.1 + q.2) = pre.getLast?.map (· + 1) := by
  induction pre using snocRec with
  | h0 => rfl
  | hs q c ih =>
    rw [runsL_snoc, List.getLast?_concat]
    unfold ruStep
    cases e : (runsL q).getLast? with
    | none => simp only [List.getLast?_concat]; rfl
    | some r =>
      simp only
      split
      · rename_i h; rw [List.getLast?_concat]; simp; omega
      · rw [List.getLast?_concat]; rfl
theorem due_in {ps pre post : List Nat} {i : Nat} (h : ps = pre ++ i :: post) (g : ps.Pairwise (· < ·)) : inI ps ((i : Int) - 1) = true → ∃ q, (runsL pre).getLast? = some q ∧ q.1 + q.2 = i := fun hi => by
  have g2 := g
  rw [h, List.pairwise_append] at g2
  obtain ⟨g3, g4, g5⟩ := g2
  have g4 := List.pairwise_cons.mp g4
  by_cases h0 : i = 0
  · subst h0; rw [show ((0 : Nat) : Int) - 1 = -1 from rfl, any_neg] at hi; cases hi
  · obtain ⟨j, rfl⟩ : ∃ j, i = j + 1 := ⟨i - 1, by omega⟩
    rw [show (((j + 1 : Nat) : Int) - 1) = (j : Int) by omega, any_nat] at hi
    have hj : j ∈ pre := by
      have := of_decide_eq_true hi
      rw [h] at this
      rcases List.mem_append.mp this with z | z
      · exact z
      · rcases List.mem_cons.mp z with z | z
        · omega
        · have := g4.1 j z; omega
    have hne : pre ≠ [] := fun z => by rw [z] at hj; cases hj
    obtain ⟨l, x, rfl⟩ : ∃ l x, pre = l ++ [x] := ⟨pre.dropLast, pre.getLast hne, (List.dropLast_concat_getLast hne).symm⟩
    have hx : x < j + 1 := g5 x (by simp) (j + 1) (by simp)
    have hjx : j = x := by
      rcases List.mem_append.mp hj with z | z
      · have := (List.pairwise_append.mp g3).2.2 j z x (by simp)
        omega
      · exact List.mem_singleton.mp z
    have := runs_inv (l ++ [x])
    rw [List.getLast?_concat] at this
    cases e : (runsL (l ++ [x])).getLast? with
    | none => rw [e] at this; cases this
    | some q =>
      rw [e] at this
      refine ⟨q, rfl, ?_⟩
      have : q.1 + q.2 = x + 1 := Option.some.inj this
      omega
theorem due_out {ps pre post : List Nat} {i : Nat} (h : ps = pre ++ i :: post) : inI ps ((i : Int) - 1) = false → ruStep (runsL pre) i = runsL pre ++ [(i, 1)] := fun hi => by
  unfold ruStep
  cases e : (runsL pre).getLast? with
  | none => rfl
  | some q =>
    simp only
    rw [if_neg]
    intro z
    have := runs_inv pre
    rw [e] at this
    cases e2 : pre.getLast? with
    | none => rw [e2] at this; cases this
    | some x =>
      rw [e2] at this
      have : q.1 + q.2 = x + 1 := Option.some.inj this
      have hx : x ∈ ps := by rw [h]; exact List.mem_append_left _ (List.mem_of_getLast? e2)
      have e3 : ((i : Int) - 1) = (x : Int) := by omega
      rw [e3, any_nat, decide_eq_true hx] at hi
      cases hi
/-! ### texts cut and put together -/
def l6 : List (List Nat) := [[91], [93], [], [91, 93], [43], [93, 91]]
theorem at_l6 (x : Int) : atI [tx [91], tx [93], tx [], tx [91, 93], tx [43], tx [93, 91]] (x % 6) = some (tx (l6.getD (x % 6).toNat [])) := by
  have h1 : x % 6 = 0 ∨ x % 6 = 1 ∨ x % 6 = 2 ∨ x % 6 = 3 ∨ x % 6 = 4 ∨ x % 6 = 5 := by omega
  rcases h1 with e | e | e | e | e | e <;> rw [e] <;> rfl
theorem cut_mem {α : Type} {l : List α} {lo hi : Option Int} {x : α} (h : x ∈ cutL l lo hi) : x ∈ l := by
  unfold cutL at h
  exact List.mem_of_mem_drop (List.mem_of_mem_take h)
theorem cut_len {α : Type} (l : List α) (lo hi : Option Int) : (cutL l lo hi).length ≤ l.length := by
  unfold cutL
  rw [List.length_take, List.length_drop]
  omega
theorem l6_len (i : Nat) : (l6.getD i []).length ≤ 2 := by
  rcases i with _ | _ | _ | _ | _ | _ | i <;> simp [l6]
theorem l6_low (i : Nat) : ∀ c ∈ l6.getD i [], c < 128 := by
  rcases i with _ | _ | _ | _ | _ | _ | i <;> simp [l6]
theorem law_low {n ps : List Nat} (h : ∀ c ∈ n, c < 128) : ∀ c ∈ lawSh n ps, c < 128 := by
  have k : ∀ xs : List (Nat × Nat), (∀ x ∈ xs, x.2 < 128) → ∀ c ∈ (lsF ps xs).1, c < 128 := fun xs => by
    induction xs using snocRec with
    | h0 => intro _ c hc; cases hc
    | hs q x ih =>
      intro hq c hc
      have ih := ih fun y hy => hq y (List.mem_append_left _ hy)
      have hx := hq x (List.mem_append_right _ List.mem_cons_self)
      rw [lsF_snoc] at hc
      unfold lsStep at hc
      split at hc
      · rcases List.mem_append.mp hc with z | z
        · rcases List.mem_append.mp z with z | z
          · exact ih c z
          · rw [List.mem_singleton.mp z]; unfold bk2; split <;> decide
        · rw [List.mem_singleton.mp z]; exact hx
      · rcases List.mem_append.mp hc with z | z
        · exact ih c z
        · rw [List.mem_singleton.mp z]; exact hx
  intro c hc
  unfold lawSh at hc
  rcases List.mem_append.mp hc with z | z
  · refine k (enumT n) (fun x hx => ?_) c z
    obtain ⟨i, hi, rfl⟩ := List.mem_map.mp hx
    have hi : i < n.length := by simpa using hi
    refine h _ ?_
    show n.getD i 0 ∈ n
    rw [List.getD_eq_getElem?_getD, List.getElem?_eq_getElem hi]
    exact List.getElem_mem hi
  · revert z
    cases (lsF ps (enumT n)).2
    · intro z; cases z
    · intro z
      have : c ∈ [93] := z
      rw [List.mem_singleton.mp this]; decide
theorem law_len (n ps : List Nat) : (lawSh n ps).length ≤ 2 * n.length + 1 := by
  unfold lawSh
  have h1 := lsF_len ps (enumT n)
  have h2 : (enumT n).length = n.length := by simp [enumT]
  rw [List.length_append]
  have : (List.replicate (if (lsF ps (enumT n)).2 then (1 : Int) else 0).toNat ([93] : List Nat)).flatten.length ≤ 1 := by cases (lsF ps (enumT n)).2 <;> simp
  omega
end Lf
set_option Elab.async false
set_option linter.all false
set_option maxRecDepth 100000
set_option maxHeartbeats 4000000
namespace Lf
open PySem PySem.Spec PyProof.Rows L2 LamX
/-! ### dicts as functions -/
section
variable {α : Type} {kvs : List (Key × α)} {k j : Key} {d : α}
theorem getK_nil : getK ([] : List (Key × α)) k = none := rfl
theorem getK_cons {q : Key × α} : getK (q :: kvs) k = if q.1 = k then some q.2 else getK kvs k := by
  by_cases e : q.1 = k
  · simp [getK, List.find?_cons, e]
  · simp [getK, List.find?_cons, e]
theorem getK_app (l m : List (Key × α)) : getK (l ++ m) k = (getK l k).or (getK m k) := by
  induction l with
  | nil => rfl
  | cons q l ih =>
    rw [List.cons_append, getK_cons, getK_cons, ih]
    split <;> rfl
theorem getK_any : (kvs.any fun q => decide (q.1 = k)) = (getK kvs k).isSome := by
  induction kvs with
  | nil => rfl
  | cons q l ih =>
    rw [List.any_cons, getK_cons, ih]
    by_cases e : q.1 = k
    · simp [e]
    · simp [e]
theorem getK_map : getK (kvs.map fun q => if q.1 = k then (q.1, d) else q) j = (getK kvs j).map fun x => if j = k then d else x := by
  induction kvs with
  | nil => rfl
  | cons q l ih =>
    rw [List.map_cons, getK_cons, getK_cons, ih]
    by_cases e : q.1 = k
    · rw [if_pos e]
      by_cases e2 : q.1 = j
      · rw [if_pos e2, if_pos e2, Option.map_some, if_pos (e2.symm.trans e)]
      · rw [if_neg e2, if_neg e2]
    · rw [if_neg e]
      by_cases e2 : q.1 = j
      · rw [if_pos e2, if_pos e2, Option.map_some, if_neg (fun z => e (e2.trans z))]
      · rw [if_neg e2, if_neg e2]
theorem getK_put : getK (putD kvs k d) j = if j = k then some d else getK kvs j := by
  unfold putD
  rw [getK_any]
  by_cases h : (getK kvs k).isSome = true
  · rw [if_pos h, getK_map]
    by_cases e : j = k
    · subst e
      rw [if_pos rfl]
      obtain ⟨x, hx⟩ := Option.isSome_iff_exists.mp h
      rw [hx]
      simp
    · rw [if_neg e]
      cases getK kvs j <;> simp [e]
  · rw [if_neg h, getK_app, getK_cons, getK_nil]
    have h : getK kvs k = none := by simpa using h
    by_cases e : j = k
    · subst e
      rw [h]
      simp
    · rw [if_neg (fun z => e z.symm), if_neg e]
      cases getK kvs j <;> rfl
theorem put_keys : (putD kvs k d).map (·.1) = if (getK kvs k).isSome = true then kvs.map (·.1) else kvs.map (·.1) ++ [k] := by
  unfold putD
  rw [getK_any]
  split
  · rw [List.map_map]
    refine List.map_congr_left fun q _ => ?_
    show (if q.1 = k then (q.1, d) else q).1 = q.1
    split <;> rfl
  · rw [List.map_append]
    rfl
theorem getK_mem : getK kvs k ≠ none ↔ k ∈ kvs.map (·.1) := by
  have h := getK_any (kvs := kvs) (k := k)
  constructor
  · intro hn
    have : (kvs.any fun q => decide (q.1 = k)) = true := by
      rw [h]
      exact Option.isSome_iff_ne_none.mpr hn
    obtain ⟨q, hq, e⟩ := List.any_eq_true.mp this
    exact List.mem_map.mpr ⟨q, hq, of_decide_eq_true e⟩
  · intro hm
    obtain ⟨q, hq, e⟩ := List.mem_map.mp hm
    have : (kvs.any fun q => decide (q.1 = k)) = true := List.any_eq_true.mpr ⟨q, hq, decide_eq_true e⟩
    rw [h] at this
    exact Option.isSome_iff_ne_none.mp this
theorem put_nodup (h : (kvs.map (·.1)).Nodup) : ((putD kvs k d).map (·.1)).Nodup := by
  rw [put_keys]
  split
  · exact h
  · rename_i hn
    have : k ∉ kvs.map (·.1) := fun z => hn (Option.isSome_iff_ne_none.mpr (getK_mem.mpr z))
    rw [List.nodup_append]
    refine ⟨h, by simp, fun a ha b hb e => ?_⟩
    rw [List.mem_singleton.mp hb] at e
    exact this (e ▸ ha)
end
/-! ### words over an alphabet, in order -/
def allW (A : List Nat) : Nat → List (List Nat)
  | 0 => [[]]
  | k + 1 => (allW A k).flatMap fun w => A.map fun c => w ++ [c]
theorem allW_mem (A : List Nat) : ∀ (k : Nat) (w : List Nat), w ∈ allW A k ↔ w.length = k ∧ ∀ c ∈ w, c ∈ A
  | 0, w => by
    rw [show allW A 0 = [[]] from rfl, List.mem_singleton]
    constructor
    · rintro rfl; exact ⟨rfl, fun c h => by cases h⟩
    · rintro ⟨h, _⟩; exact List.length_eq_zero_iff.mp h
  | k + 1, w => by
    rw [show allW A (k + 1) = (allW A k).flatMap fun w => A.map fun c => w ++ [c] from rfl, List.mem_flatMap]
    constructor
    · rintro ⟨u, hu, hw⟩
      obtain ⟨c, hc, rfl⟩ := List.mem_map.mp hw
      obtain ⟨h1, h2⟩ := (allW_mem A k u).mp hu
      refine ⟨by rw [List.length_append, h1]; rfl, fun x hx => ?_⟩
      rcases List.mem_append.mp hx with z | z
      · exact h2 x z
      · rw [List.mem_singleton.mp z]; exact hc
    · rintro ⟨h1, h2⟩
      have hne : w ≠ [] := fun z => by rw [z] at h1; cases h1
      refine ⟨w.dropLast, (allW_mem A k _).mpr ⟨by rw [List.length_dropLast, h1]; rfl, fun c hc => h2 c ((List.dropLast_subset _) hc)⟩, List.mem_map.mpr ⟨w.getLast hne, h2 _ (List.getLast_mem hne), List.dropLast_concat_getLast hne⟩⟩
theorem allW_len (A : List Nat) : ∀ k, (allW A k).length = A.length ^ k
  | 0 => rfl
  | k + 1 => by
    rw [show allW A (k + 1) = (allW A k).flatMap fun w => A.map fun c => w ++ [c] from rfl, List.length_flatMap]
    simp only [List.length_map]
    rw [List.map_const', List.sum_replicate_nat, allW_len A k, Nat.pow_succ]
theorem lt_app {u v : List Nat} (x y : List Nat) (h : u < v) (e : u.length = v.length) : u ++ x < v ++ y := by
  induction u generalizing v with
  | nil =>
    cases v with
    | nil => exact absurd h (by simp)
    | cons b v => simp at e
  | cons a u ih =>
    cases v with
    | nil => simp at e
    | cons b v =>
      rw [List.cons_append, List.cons_append, List.cons_lt_cons_iff]
      rw [List.cons_lt_cons_iff] at h
      rcases h with h | ⟨h1, h2⟩
      · exact .inl h
      · exact .inr ⟨h1, ih h2 (by simpa using e)⟩
theorem app_lt {u x y : List Nat} (h : x < y) : u ++ x < u ++ y := by
  induction u with
  | nil => exact h
  | cons a u ih => rw [List.cons_append, List.cons_append, List.cons_lt_cons_iff]; exact .inr ⟨rfl, ih⟩
theorem allW_sorted {A : List Nat} (h : A.Pairwise (· < ·)) : ∀ k, (allW A k).Pairwise (· < ·)
  | 0 => List.pairwise_singleton _ _
  | k + 1 => by
    rw [show allW A (k + 1) = (allW A k).flatMap fun w => A.map fun c => w ++ [c] from rfl, List.pairwise_flatMap]
    refine ⟨fun w hw => ?_, ?_⟩
    · rw [List.pairwise_map]
      exact h.imp fun {a b} hab => app_lt (by rw [List.cons_lt_cons_iff]; exact .inl hab)
    · have ih := allW_sorted h k
      have hl : ∀ u ∈ allW A k, u.length = k := fun u hu => ((allW_mem A k u).mp hu).1
      refine List.Pairwise.imp_of_mem (fun {u v} hu hv huv x hx y hy => ?_) ih
      obtain ⟨c, _, rfl⟩ := List.mem_map.mp hx
      obtain ⟨c', _, rfl⟩ := List.mem_map.mp hy
      exact lt_app _ _ huv ((hl u hu).trans (hl v hv).symm)
/-- figures and small letters, in order -/
def lFS : List Nat := lFig ++ lSmall
def fitB (n a : List Nat) : Bool := (gr a n 0).isSome
def asksOf (n : List Nat) (k : Nat) : List (List Nat) := (allW lFS k).filter (fitB n)
def R_asks_for (ds : List PyData) (r : Res) : Prop := ∃ n k, ds = [tx n, natI k] ∧ k ≤ 3 ∧ isNm n = true ∧ r = .ok (.list ((asksOf n k).map tx))
theorem asks_mem (n : List Nat) (k : Nat) (w : List Nat) : w ∈ asksOf n k ↔ w.length = k ∧ (∀ c ∈ w, c ∈ lFS) ∧ gr w n 0 ≠ none := by
  unfold asksOf
  rw [List.mem_filter, allW_mem]
  unfold fitB
  rw [Option.isSome_iff_ne_none, and_assoc]
theorem asks_sorted (n : List Nat) (k : Nat) : (asksOf n k).Pairwise (· < ·) := List.Pairwise.filter _ (allW_sorted (by decide) k)
theorem asks_len (n : List Nat) {k : Nat} (h : k ≤ 3) : (asksOf n k).length ≤ 46656 := by
  refine Nat.le_trans (List.length_filter_le _ _) ?_
  rw [allW_len]
  have h1 : k = 0 ∨ k = 1 ∨ k = 2 ∨ k = 3 := by omega
  rcases h1 with rfl | rfl | rfl | rfl <;> decide
/-! ### sorted texts -/
theorem le_tx (p q : List Nat) : PySem.W.dataLe false (fun d => d) (tx p) (tx q) = decide (p ≤ q) := by
  have h := congrFun (congrFun (PySem.W.dataLe_str (β := List Nat) fun l => ⟨l.toArray⟩) p) q
  exact h.trans (by simp)
theorem sort_txs {l m : List (List Nat)} (h : l.Nodup) (s : m.Pairwise (· < ·)) (e : ∀ w, w ∈ l ↔ w ∈ m) : sortD (l.map tx) = m.map tx := by
  have hm : m.Nodup := s.imp fun {a b} hab z => by rw [z] at hab; exact List.lt_irrefl _ hab
  have hp : l.Perm m := (List.perm_ext_iff_of_nodup h hm).mpr e
  have e1 : sortD (l.map tx) = (l.mergeSort fun p q => decide (p ≤ q)).map tx := by
    unfold sortD
    rw [List.map_mergeSort]
    intro a _ b _
    exact (le_tx a b).symm
  rw [e1]
  congr 1
  have tr : ∀ a b c : List Nat, decide (a ≤ b) = true → decide (b ≤ c) = true → decide (a ≤ c) = true := fun a b c h1 h2 => decide_eq_true (List.le_trans (of_decide_eq_true h1) (of_decide_eq_true h2))
  have to : ∀ a b : List Nat, (decide (a ≤ b) || decide (b ≤ a)) = true := fun a b => by
    rcases List.le_total a b with z | z
    · rw [decide_eq_true z]; rfl
    · rw [decide_eq_true z, Bool.or_true]
  have s1 : (l.mergeSort fun p q => decide (p ≤ q)).Pairwise fun a b => a ≤ b := (List.pairwise_mergeSort tr to l).imp fun h => of_decide_eq_true h
  have s2 : m.Pairwise fun a b => a ≤ b := s.imp fun h => List.le_of_lt h
  exact List.Perm.eq_of_pairwise (le := fun a b => a ≤ b) (fun a b _ _ h1 h2 => List.le_antisymm h1 h2) s1 s2 ((List.mergeSort_perm _ _).trans hp)
theorem txs_alike {α : Type} (l : List α) (f : α → List Nat) : PySem.W.AllAlike (l.map fun x => tx (f x)) ∧ PySem.W.Sortable (l.map fun x => tx (f x)) :=
  ⟨PySem.W.AllAlike.of (enc := fun x => tx (f x)) fun _ _ => rfl, PySem.W.Sortable.others (enc := fun x => tx (f x)) fun _ => ⟨(fun z => by cases z), fun _ z => by cases z⟩⟩
/-! ### the end of the first places -/
def kx (w : List Nat) : Key := .inr ⟨w.toArray⟩
theorem kx_inj {u w : List Nat} : kx u = kx w ↔ u = w := by
  unfold kx
  rw [Sum.inr.injEq, tx_inj]
theorem keyD_kx (w : List Nat) : keyD (kx w) = tx w := rfl
/-- one behind the last of the first places -/
def gN (w n : List Nat) : Option Nat := (gr w n 0).map nx
def nxS (s : Nat) (r : List Nat) : Nat := match r.getLast? with | none => s | some l => l + 1
theorem nxS0 (r : List Nat) : nxS 0 r = nx r := by
  unfold nxS nx
  cases r with
  | nil => rfl
  | cons a l => simp [List.getLast?_cons, List.getLastD_cons]
theorem pos_end (c : Nat) (n : List Nat) : posL c n n.length = [] := by simp [posL]
theorem gr_snoc (c : Nat) (n : List Nat) : ∀ (m s : Nat) (a : List Nat), n.length - s = m → s ≤ n.length → gr (a ++ [c]) (n.drop s) s = (gr a (n.drop s) s).bind fun r => ((posL c n (nxS s r)).head?).map fun p => r ++ [p]
  | 0, s, a, hm, hs => by
    have e : s = n.length := by omega
    subst e
    rw [List.drop_length]
    cases a with
    | nil => show none = _; rw [show gr [] [] n.length = some [] from rfl]; simp [nxS, pos_end]
    | cons o a => rfl
  | m + 1, s, [], hm, hs => by
    have hlt : s < n.length := by omega
    have ih := gr_snoc c n m (s + 1) [] (by omega) (by omega)
    have e0 : ∀ k, gr [] (n.drop k) k = some [] := fun k => by cases n.drop k <;> rfl
    rw [e0] at ih ⊢
    simp only [Option.bind_some, nxS, List.getLast?_nil, List.nil_append] at ih ⊢
    by_cases hh : hitC c (n.getD s 0) = true
    · rw [gr_hit hlt hh, e0, pos_step hlt, if_pos hh]
      rfl
    · have hh : hitC c (n.getD s 0) = false := by simpa using hh
      rw [gr_miss hlt hh, pos_step hlt, hh]
      exact ih
  | m + 1, s, o :: a, hm, hs => by
    have hlt : s < n.length := by omega
    rw [List.cons_append]
    by_cases hh : hitC o (n.getD s 0) = true
    · rw [gr_hit hlt hh, gr_hit hlt hh, gr_snoc c n m (s + 1) a (by omega) (by omega)]
      cases gr a (n.drop (s + 1)) (s + 1) with
      | none => rfl
      | some r =>
        simp only [Option.bind_some, Option.map_some]
        have : nxS s (s :: r) = nxS (s + 1) r := by
          unfold nxS
          cases r with
          | nil => rfl
          | cons x l => simp [List.getLast?_cons]
        rw [this]
        cases (posL c n (nxS (s + 1) r)).head? <;> rfl
    · have hh : hitC o (n.getD s 0) = false := by simpa using hh
      rw [gr_miss hlt hh, gr_miss hlt hh]
      have := gr_snoc c n m (s + 1) (o :: a) (by omega) (by omega)
      rw [List.cons_append] at this
      rw [this]
      cases e : gr (o :: a) (n.drop (s + 1)) (s + 1) with
      | none => rfl
      | some r =>
        have hl := gr_len _ _ _ _ e
        simp only [Option.bind_some]
        have : nxS s r = nxS (s + 1) r := by
          unfold nxS
          cases r with
          | nil => simp at hl
          | cons x l => simp [List.getLast?_cons]
        rw [this]
theorem gN_snoc (c : Nat) (n a : List Nat) : gN (a ++ [c]) n = (gN a n).bind fun s => ((posL c n s).head?).map (· + 1) := by
  have := gr_snoc c n n.length 0 a (by omega) (by omega)
  rw [List.drop_zero] at this
  unfold gN
  rw [this]
  cases gr a n 0 with
  | none => rfl
  | some r =>
    simp only [Option.bind_some, Option.map_some, nxS0]
    cases (posL c n (nx r)).head? with
    | none => rfl
    | some p => simp [nx_snoc]
theorem gN_nil (n : List Nat) : gN [] n = some 0 := by
  unfold gN
  cases n <;> rfl
theorem gN_le {a n : List Nat} {s : Nat} (h : gN a n = some s) : s ≤ n.length := by
  unfold gN at h
  obtain ⟨r, h1, h2⟩ := Option.map_eq_some_iff.mp h
  have := gr_lt _ _ _ _ h1
  rw [← nxS0] at h2
  unfold nxS at h2
  cases e : r.getLast? with
  | none => rw [e] at h2; simp at h2; omega
  | some l =>
    rw [e] at h2
    have := this l (List.mem_of_getLast? e)
    simp at h2
    omega
/-! ### the dicts of asks -/
def okc (c x : Nat) : Bool := decide (x ∈ alnum) && decide (smallC x = c)
def fpre (n : List Nat) (s c : Nat) (pre : List Nat) : Option Nat := (pre.find? fun i => okc c (n.getD (s + i) 0)).map (s + ·)
def fullP (n a : List Nat) (c : Nat) : Option Nat := (gN a n).bind fun s => fpre n s c (List.range (n.length - s))
theorem okc_hit : ∀ x ∈ alpha, ∀ c ∈ lFS, okc c x = hitC c x := by decide +kernel
theorem small_fs : ∀ x ∈ alnum, smallC x ∈ lFS := by decide +kernel
theorem full_gN {n : List Nat} (hn : ∀ c ∈ n, c ∈ alpha) {a : List Nat} {c : Nat} (hc : c ∈ lFS) : (fullP n a c).map (· + 1) = gN (a ++ [c]) n := by
  rw [gN_snoc]
  unfold fullP
  cases e : gN a n with
  | none => rfl
  | some s =>
    simp only [Option.bind_some]
    have : fpre n s c (List.range (n.length - s)) = (posL c n s).head? := by
      unfold fpre posL
      rw [List.head?_map, List.head?_filter]
      congr 1
      have hle := gN_le e
      have key : ∀ l : List Nat, (∀ i ∈ l, s + i < n.length) → l.find? (fun i => okc c (n.getD (s + i) 0)) = l.find? fun i => hitC c (n.getD (s + i) 0) := fun l => by
        induction l with
        | nil => intro _; rfl
        | cons i l ih =>
          intro h
          have hi := h i List.mem_cons_self
          have hx : n.getD (s + i) 0 ∈ alpha := by
            rw [List.getD_eq_getElem?_getD, List.getElem?_eq_getElem hi]
            exact hn _ (List.getElem_mem hi)
          rw [List.find?_cons, List.find?_cons, okc_hit _ hx _ hc, ih fun j hj => h j (List.mem_cons_of_mem _ hj)]
      exact key _ fun i hi => by have := List.mem_range.mp hi; omega
    rw [this]
structure DF (n : List Nat) (t : Nat) (kvs : List (Key × PyData)) : Prop where
  nd : (kvs.map (·.1)).Nodup
  ky : ∀ k ∈ kvs.map (·.1), ∃ w ∈ allW lFS t, k = kx w
  va : ∀ w ∈ allW lFS t, getK kvs (kx w) = (gN w n).map fun s => .int ((s : Int) - 1)
structure DI (n : List Nat) (t : Nat) (G : List Nat → Nat → Option Nat) (kvs : List (Key × PyData)) : Prop where
  nd : (kvs.map (·.1)).Nodup
  ky : ∀ k ∈ kvs.map (·.1), ∃ w ∈ allW lFS (t + 1), k = kx w
  va : ∀ a ∈ allW lFS t, ∀ c ∈ lFS, getK kvs (kx (a ++ [c])) = (G a c).map natI
def gDone (n : List Nat) (done : List (List Nat)) (a : List Nat) (c : Nat) : Option Nat := if a ∈ done then fullP n a c else none
def gAt (n : List Nat) (done : List (List Nat)) (a0 : List Nat) (s : Nat) (pre : List Nat) (a : List Nat) (c : Nat) : Option Nat := if a = a0 then fpre n s c pre else gDone n done a c
theorem DF.start (n : List Nat) : DF n 0 [(kx [], .int (-1))] where
  nd := by simp
  ky := fun k hk => by
    have : k = kx [] := by simpa using hk
    exact ⟨[], by simp [allW], this⟩
  va := fun w hw => by
    have : w = [] := by simpa [allW] using hw
    subst this
    rw [gN_nil, getK_cons, if_pos rfl]
    rfl
theorem DI.start (n : List Nat) (t : Nat) : DI n t (gDone n []) [] where
  nd := by simp
  ky := fun k hk => by cases hk
  va := fun a _ c _ => by simp [gDone, getK_nil]
theorem DI.same {n : List Nat} {t : Nat} {G G' : List Nat → Nat → Option Nat} {kvs : List (Key × PyData)} (h : DI n t G kvs) (e : ∀ a ∈ allW lFS t, ∀ c ∈ lFS, G a c = G' a c) : DI n t G' kvs where
  nd := h.nd
  ky := h.ky
  va := fun a ha c hc => by rw [← e a ha c hc]; exact h.va a ha c hc
theorem DI.len {n : List Nat} {t : Nat} {G : List Nat → Nat → Option Nat} {kvs : List (Key × PyData)} (h : DI n t G kvs) (ht : t + 1 ≤ 3) : kvs.length < 100000 := by
  have h1 : (kvs.map (·.1)).length ≤ ((allW lFS (t + 1)).map kx).length := List.Nodup.length_le_of_subset h.nd fun k hk => by
    obtain ⟨w, hw, e⟩ := h.ky k hk
    exact List.mem_map.mpr ⟨w, hw, e.symm⟩
  rw [List.length_map, List.length_map, allW_len] at h1
  have h2 : t = 0 ∨ t = 1 ∨ t = 2 := by omega
  refine Nat.lt_of_le_of_lt h1 ?_
  rcases h2 with rfl | rfl | rfl <;> decide
theorem DI.first {n : List Nat} {t : Nat} {done : List (List Nat)} {a0 : List Nat} {s : Nat} {kvs : List (Key × PyData)} (h : DI n t (gDone n done) kvs) (hd : a0 ∉ done) : DI n t (gAt n done a0 s []) kvs := h.same fun a _ c _ => by
  unfold gAt
  by_cases e : a = a0
  · subst e; rw [if_pos rfl]; simp [gDone, hd, fpre]
  · rw [if_neg e]
theorem fpre_snoc (n : List Nat) (s c i : Nat) (pre : List Nat) : fpre n s c (pre ++ [i]) = (fpre n s c pre).or (if okc c (n.getD (s + i) 0) = true then some (s + i) else none) := by
  unfold fpre
  rw [List.find?_append]
  cases pre.find? fun i => okc c (n.getD (s + i) 0) with
  | some j => rfl
  | none =>
    rw [Option.none_or, List.find?_cons, List.find?_nil]
    cases okc c (n.getD (s + i) 0) <;> rfl
theorem DI.skip {n : List Nat} {t : Nat} {done : List (List Nat)} {a0 : List Nat} {s i : Nat} {pre : List Nat} {kvs : List (Key × PyData)} (h : DI n t (gAt n done a0 s pre) kvs) (hx : n.getD (s + i) 0 ∉ alnum) : DI n t (gAt n done a0 s (pre ++ [i])) kvs := h.same fun a _ c _ => by
  unfold gAt
  rw [fpre_snoc]
  have : okc c (n.getD (s + i) 0) = false := by simp only [okc, hx, decide_false, Bool.false_and]
  rw [this]
  simp
theorem snoc_inj {a b : List Nat} {c d : Nat} (h : a ++ [c] = b ++ [d]) : a = b ∧ c = d := by
  have := List.append_inj' h rfl
  exact ⟨this.1, by simpa using this.2⟩
theorem DI.step {n : List Nat} {t : Nat} {done : List (List Nat)} {a0 : List Nat} {s i : Nat} {pre : List Nat} {kvs : List (Key × PyData)} (h : DI n t (gAt n done a0 s pre) kvs) (ha : a0 ∈ allW lFS t) (hx : n.getD (s + i) 0 ∈ alnum) :
    DI n t (gAt n done a0 s (pre ++ [i])) (putD kvs (kx (a0 ++ [smallC (n.getD (s + i) 0)])) (natI ((fpre n s (smallC (n.getD (s + i) 0)) pre).getD (s + i)))) where
  nd := put_nodup h.nd
  ky := fun k hk => by
    rw [put_keys] at hk
    split at hk
    · exact h.ky k hk
    · rcases List.mem_append.mp hk with z | z
      · exact h.ky k z
      · refine ⟨_, ?_, List.mem_singleton.mp z⟩
        rw [allW_mem] at ha ⊢
        refine ⟨by rw [List.length_append, ha.1]; rfl, fun c hc => ?_⟩
        rcases List.mem_append.mp hc with z | z
        · exact ha.2 c z
        · rw [List.mem_singleton.mp z]; exact small_fs _ hx
  va := fun a hal c hc => by
    rw [getK_put]
    by_cases e : kx (a ++ [c]) = kx (a0 ++ [smallC (n.getD (s + i) 0)])
    · obtain ⟨e1, e2⟩ := snoc_inj (kx_inj.mp e)
      subst e1
      rw [if_pos e, ← e2]
      unfold gAt
      rw [if_pos rfl, fpre_snoc, show okc c (n.getD (s + i) 0) = true by simp only [okc, hx, decide_true, Bool.true_and]; exact decide_eq_true e2.symm]
      cases fpre n s c pre <;> rfl
    · rw [if_neg e, h.va a hal c hc]
      unfold gAt
      by_cases e1 : a = a0
      · subst e1
        rw [if_pos rfl, if_pos rfl, fpre_snoc]
        have : okc c (n.getD (s + i) 0) = false := by
          have : ¬ smallC (n.getD (s + i) 0) = c := fun z => e (by rw [z])
          simp only [okc, this, decide_false, Bool.and_false]
        rw [this]
        simp
      · rw [if_neg e1, if_neg e1]
theorem DI.get {n : List Nat} {t : Nat} {done : List (List Nat)} {a0 : List Nat} {s : Nat} {pre : List Nat} {kvs : List (Key × PyData)} (h : DI n t (gAt n done a0 s pre) kvs) (ha : a0 ∈ allW lFS t) {c : Nat} (hc : c ∈ lFS) : getK kvs (kx (a0 ++ [c])) = (fpre n s c pre).map natI := by
  rw [h.va a0 ha c hc]
  unfold gAt
  rw [if_pos rfl]
theorem DI.done {n : List Nat} {t : Nat} {done : List (List Nat)} {a0 : List Nat} {s : Nat} {kvs : List (Key × PyData)} (h : DI n t (gAt n done a0 s (List.range (n.length - s))) kvs) (hs : gN a0 n = some s) : DI n t (gDone n (done ++ [a0])) kvs := h.same fun a _ c _ => by
  unfold gAt gDone
  by_cases e : a = a0
  · subst e
    rw [if_pos rfl, if_pos (by simp)]
    unfold fullP
    rw [hs]
    rfl
  · rw [if_neg e]
    have : a ∈ done ++ [a0] ↔ a ∈ done := by simp [e]
    simp [this]
theorem DI.all {n : List Nat} {t : Nat} {kvs : List (Key × PyData)} (hn : ∀ c ∈ n, c ∈ alpha) (h : DI n t (gDone n (asksOf n t)) kvs) : DF n (t + 1) kvs where
  nd := h.nd
  ky := h.ky
  va := fun w hw => by
    obtain ⟨a, ha, hx⟩ := List.mem_flatMap.mp (show w ∈ (allW lFS t).flatMap fun w => lFS.map fun c => w ++ [c] from hw)
    obtain ⟨c, hc, rfl⟩ := List.mem_map.mp hx
    rw [h.va a ha c hc, ← full_gN hn hc]
    unfold gDone
    by_cases e : a ∈ asksOf n t
    · rw [if_pos e]
      cases fullP n a c with
      | none => rfl
      | some p => simp [natI]
    · rw [if_neg e]
      have : gN a n = none := by
        unfold gN
        cases e2 : gr a n 0 with
        | none => rfl
        | some r => exact absurd ((asks_mem n t a).mpr ⟨((allW_mem lFS t a).mp ha).1, ((allW_mem lFS t a).mp ha).2, by rw [e2]; exact fun z => by cases z⟩) e
      unfold fullP
      rw [this]
      rfl
theorem DF.keys {n : List Nat} {t : Nat} {kvs : List (Key × PyData)} (h : DF n t kvs) : ∃ ws : List (List Nat), kvs.map (·.1) = ws.map kx ∧ ws.Nodup ∧ ∀ w, w ∈ ws ↔ w ∈ asksOf n t := by
  obtain ⟨ws, hw⟩ : ∃ ws : List (List Nat), kvs.map (·.1) = ws.map kx := by
    have hk := h.ky
    generalize kvs.map (·.1) = ks at hk
    induction ks with
    | nil => exact ⟨[], rfl⟩
    | cons k ks ih =>
      obtain ⟨ws, e⟩ := ih fun j hj => hk j (List.mem_cons_of_mem _ hj)
      obtain ⟨w, _, e2⟩ := hk k List.mem_cons_self
      exact ⟨w :: ws, by rw [List.map_cons, e, e2]⟩
  refine ⟨ws, hw, ?_, fun w => ?_⟩
  · have := h.nd
    rw [hw] at this
    exact List.Pairwise.of_map kx (fun a b hab z => hab (by rw [z])) this
  · have e1 : w ∈ ws ↔ kx w ∈ kvs.map (·.1) := by
      rw [hw, List.mem_map]
      exact ⟨fun z => ⟨w, z, rfl⟩, fun ⟨u, hu, e⟩ => kx_inj.mp e ▸ hu⟩
    rw [e1, ← getK_mem, asks_mem, ← and_assoc, ← allW_mem]
    constructor
    · intro hk
      have hm : w ∈ allW lFS t := by
        obtain ⟨u, hu, e⟩ := h.ky _ (getK_mem.mp hk)
        rw [kx_inj.mp e]
        exact hu
      refine ⟨hm, fun z => hk ?_⟩
      rw [h.va w hm]
      unfold gN
      rw [z]
      rfl
    · rintro ⟨hm, hg⟩ hk
      rw [h.va w hm] at hk
      unfold gN at hk
      cases e : gr w n 0 with
      | none => exact hg e
      | some r => rw [e] at hk; cases hk
theorem DF.sort {n : List Nat} {t : Nat} {kvs : List (Key × PyData)} (h : DF n t kvs) : sortD (kvs.map fun q => keyD q.1) = (asksOf n t).map tx := by
  obtain ⟨ws, h1, h2, h3⟩ := h.keys
  have : (kvs.map fun q => keyD q.1) = ws.map tx := by
    have := congrArg (List.map keyD) h1
    rw [List.map_map, List.map_map] at this
    exact this
  rw [this]
  exact sort_txs h2 (asks_sorted n t) h3
theorem DF.alike {n : List Nat} {t : Nat} {kvs : List (Key × PyData)} (h : DF n t kvs) : PySem.W.AllAlike (kvs.map fun q => keyD q.1) ∧ PySem.W.Sortable (kvs.map fun q => keyD q.1) := by
  obtain ⟨ws, h1, h2, h3⟩ := h.keys
  have : (kvs.map fun q => keyD q.1) = ws.map tx := by
    have := congrArg (List.map keyD) h1
    rw [List.map_map, List.map_map] at this
    exact this
  rw [this]
  exact txs_alike ws fun w => w
theorem DF.get {n : List Nat} {t : Nat} {kvs : List (Key × PyData)} (h : DF n t kvs) {w : List Nat} (hw : w ∈ asksOf n t) : ∃ s, gN w n = some s ∧ getK kvs (kx w) = some (.int ((s : Int) - 1)) := by
  obtain ⟨h1, h2, h3⟩ := (asks_mem n t w).mp hw
  cases e : gr w n 0 with
  | none => exact absurd e h3
  | some r =>
    have e2 : gN w n = some (nx r) := by unfold gN; rw [e]; rfl
    refine ⟨nx r, e2, ?_⟩
    rw [h.va w ((allW_mem lFS t w).mpr ⟨h1, h2⟩), e2]
    rfl
end Lf
set_option Elab.async false
set_option linter.all false
set_option maxRecDepth 100000
set_option maxHeartbeats 4000000
namespace Lf
open PySem PySem.Spec PyProof.Rows L2 LamX
theorem hu1 {k : Nat} {A : Around} (hr : Room k A) : A.units + 1 < cLine := by
  have := hr.un
  omega
theorem range_at {m : Nat} {pre post : List Nat} {x : Nat} (h : List.range m = pre ++ x :: post) : x = pre.length := by
  have hl : pre.length < m := by
    have := congrArg List.length h
    simp at this
    omega
  have h1 : (List.range m)[pre.length]? = some x := by rw [h]; simp
  rw [List.getElem?_range hl] at h1
  exact (Option.some.inj h1).symm
theorem range_pre {m : Nat} {pre post : List Nat} {x : Nat} (h : List.range m = pre ++ x :: post) : pre = List.range pre.length := by
  have hl : pre.length < m := by
    have := congrArg List.length h
    simp at this
    omega
  have : (List.range m).take pre.length = pre := by rw [h]; simp
  rw [List.take_range] at this
  rw [Nat.min_eq_left (by omega)] at this
  exact this.symm
/-! ### lists of names -/
def areNames (d : PyData) : Bool := isLs d && decide ((lsOf d).length ≤ 60) && (lsOf d).all isName
def okNs (d : PyData) : Prop := (lsOf d).length ≤ 10000 ∧ ∀ e ∈ lsOf d, okd e
theorem okNs_np {d : PyData} (h : okNs d) : isP d = false := ls_np h.1
def R_need_names (C : Addr) (ds : List PyData) (r : Res) : Prop := ∃ d, ds = [d] ∧ okNs d ∧ r = if areNames d = true then .ok .none else .error C
theorem R_need_names_ok {C : Addr} {d : PyData} (hz : okNs d) (hn : areNames d = true) : R_need_names C [d] (.ok .none) := ⟨_, rfl, hz, by rw [if_pos hn]⟩
theorem R_need_names_er {C : Addr} {d : PyData} (hz : okNs d) (hn : areNames d = false) : R_need_names C [d] (.error C) := ⟨_, rfl, hz, by rw [hn]; rfl⟩
theorem names_list (ds : List PyData) : areNames (.list ds) = (decide (ds.length ≤ 60) && ds.all isName) := rfl
def namesL (d : PyData) : List (List Nat) := (lsOf d).map cod
theorem namesL_self (ls : List (List Nat)) : namesL (.list (ls.map tx)) = ls := by
  unfold namesL
  show (ls.map tx).map cod = ls
  rw [List.map_map]
  exact List.map_id'' (fun l => cod_tx l) ls
theorem names_of {d : PyData} (h : areNames d = true) : ∃ ls : List (List Nat), d = .list (ls.map tx) ∧ ls.length ≤ 60 ∧ ∀ l ∈ ls, isNm l = true := by
  unfold areNames at h
  rw [Bool.and_eq_true, Bool.and_eq_true] at h
  obtain ⟨⟨h1, h2⟩, h3⟩ := h
  refine ⟨namesL d, ?_, ?_, fun l hl => ?_⟩
  · have e := ls_of h1
    have : (namesL d).map tx = lsOf d := by
      unfold namesL
      rw [List.map_map]
      conv => rhs; rw [← List.map_id (lsOf d)]
      refine List.map_congr_left fun x hx => ?_
      have := List.all_eq_true.mp h3 x hx
      obtain ⟨l, rfl, _⟩ := name_tx this
      show tx (cod (tx l)) = tx l
      rw [cod_tx]
    rw [this]
    exact e
  · unfold namesL
    rw [List.length_map]
    exact of_decide_eq_true h2
  · obtain ⟨x, hx, rfl⟩ := List.mem_map.mp hl
    obtain ⟨l, rfl, hl2⟩ := name_tx (List.all_eq_true.mp h3 x hx)
    rw [cod_tx]
    exact hl2
theorem names_ok {ls : List (List Nat)} (h : ls.length ≤ 60) (g : ∀ l ∈ ls, isNm l = true) : areNames (.list (ls.map tx)) = true ∧ okNs (.list (ls.map tx)) := by
  refine ⟨?_, ?_, fun e he => ?_⟩
  · rw [names_list, List.length_map, decide_eq_true h, Bool.true_and, List.all_eq_true]
    intro x hx
    obtain ⟨l, hl, rfl⟩ := List.mem_map.mp hx
    rw [isName_tx]
    exact g l hl
  · show (ls.map tx).length ≤ 10000
    rw [List.length_map]
    omega
  · obtain ⟨l, hl, rfl⟩ := List.mem_map.mp (show e ∈ ls.map tx from he)
    have := isNm_len (g l hl)
    exact okd_tx (by omega)
def othersL (ls : List (List Nat)) (i : Nat) : List (List Nat) := ls.take i ++ ls.drop (i + 1)
theorem others_mem {ls : List (List Nat)} {i : Nat} {o : List Nat} (h : o ∈ othersL ls i) : o ∈ ls := by
  unfold othersL at h
  rcases List.mem_append.mp h with z | z
  · exact List.mem_of_mem_take z
  · exact List.mem_of_mem_drop z
theorem others_cut (ls : List (List Nat)) (i : Nat) : cutL (ls.map tx) none (some (i : Int)) ++ cutL (ls.map tx) (some ((i : Int) + 1)) none = (othersL ls i).map tx := by
  rw [cut_take, show ((i : Int) + 1) = ((i + 1 : Nat) : Int) by omega, cut_drop]
  unfold othersL
  rw [List.map_append, List.map_take, List.map_drop]
theorem at_txs {ls : List (List Nat)} {i : Nat} (h : i < ls.length) : atI (ls.map tx) ((i : Nat) : Int) = some (tx (ls.getD i [])) := atI_nat (by rw [List.getElem?_map, List.getElem?_eq_getElem h, List.getD_eq_getElem?_getD, List.getElem?_eq_getElem h]; rfl)
theorem cnt_nat {d : PyData} {m : Int} (h : isCnt d 0 m = true) : ∃ i : Nat, d = natI i ∧ (i : Int) ≤ m := by
  cases d with
  | int i =>
    have h : 0 ≤ i ∧ i ≤ m := by simpa [isCnt] using h
    exact ⟨i.toNat, by unfold natI; rw [Int.toNat_of_nonneg h.1], by omega⟩
  | none => cases h
  | bool _ => cases h
  | str _ => cases h
  | list _ => cases h
  | tuple _ => cases h
  | dict _ => cases h
theorem getD_mem {ls : List (List Nat)} {i : Nat} (h : i < ls.length) : ls.getD i [] ∈ ls := by
  rw [List.getD_eq_getElem?_getD, List.getElem?_eq_getElem h]
  exact List.getElem_mem h
/-! ### the shortest asks -/
def aloneB (os : List (List Nat)) (a : List Nat) : Bool := os.all fun o => (gr a o 0).isNone
def leastL (n : List Nat) (os : List (List Nat)) : Option (List Nat) := ((List.range 4).flatMap (asksOf n)).find? (aloneB os)
def optT : Option (List Nat) → PyData
  | none => .none
  | some w => tx w
theorem isN_opt (q : Option (List Nat)) : isN (optD q) = q.isNone := by cases q <;> rfl
def R_least_of (ds : List PyData) (r : Res) : Prop := ∃ n os, ds = [tx n, .list (os.map tx)] ∧ isNm n = true ∧ (∀ o ∈ os, isNm o = true) ∧ os.length ≤ 10000 ∧ r = .ok (optT (leastL n os))
theorem find_no {α : Type} {p : α → Bool} {l : List α} (h : ∀ a ∈ l, p a = false) : l.find? p = none := List.find?_eq_none.mpr fun a ha => by rw [h a ha]; decide
theorem least_no {n : List Nat} {os : List (List Nat)} (h : ∀ a ∈ (List.range (3 + 1 : Int).toNat).flatMap (asksOf n), aloneB os a = false) : leastL n os = none := find_no h
theorem least_yes {n : List Nat} {os : List (List Nat)} {pre : List Nat} {pre1 post1 : List (List Nat)} {a : List Nat} (hp : pre = List.range pre.length) (ht : pre.length < 4) (h : ∀ a ∈ pre.flatMap (asksOf n), aloneB os a = false) (hx : asksOf n pre.length = pre1 ++ a :: post1) (h1 : ∀ a ∈ pre1, aloneB os a = false) (ha : aloneB os a = true) : leastL n os = some a := by
  unfold leastL
  have e : List.range 4 = pre ++ pre.length :: (List.range 4).drop (pre.length + 1) := by
    have e1 : (List.range 4).take pre.length = pre := by rw [List.take_range, Nat.min_eq_left (by omega), ← hp]
    have e2 : (List.range 4).drop pre.length = pre.length :: (List.range 4).drop (pre.length + 1) := by
      rw [List.drop_eq_getElem_cons (by simpa using ht)]
      simp
    conv => lhs; rw [← List.take_append_drop pre.length (List.range 4), e1, e2]
  rw [e, List.flatMap_append, List.flatMap_cons, hx, List.find?_append, find_no h, List.append_assoc, List.find?_append, find_no h1, List.cons_append, List.find?_cons, ha]
  rfl
def R_least_ask (C0 C4 : Addr) (ds : List PyData) (r : Res) : Prop := ∃ d1 d2, ds = [d1, d2] ∧ okNs d1 ∧ r = if areNames d1 = true then (if isCnt d2 0 (((namesL d1).length : Int) - 1) = true then .ok (optT (leastL ((namesL d1).getD (intOf d2).toNat []) (othersL (namesL d1) (intOf d2).toNat))) else .error C4) else .error C0
def R_parting (C0 : Addr) (ds : List PyData) (r : Res) : Prop := ∃ d1 d2, ds = [d1, d2] ∧ okd d1 ∧ okd d2 ∧ r = if isName d1 = true ∧ isName d2 = true then .ok (optT (leastL (cod d1) [cod d2])) else .error C0
def allLeast (ls : List (List Nat)) : List PyData := (List.range ls.length).map fun i => optT (leastL (ls.getD i []) (othersL ls i))
def R_all_least (C0 : Addr) (ds : List PyData) (r : Res) : Prop := ∃ d, ds = [d] ∧ okNs d ∧ r = if areNames d = true then .ok (.list (allLeast (namesL d))) else .error C0
theorem enum_tx (ls : List (List Nat)) : ∀ x ∈ enumL (ls.map tx), ∃ i, i < ls.length ∧ x = (i, tx (ls.getD i [])) := fun x hx => by
  unfold enumL at hx
  obtain ⟨i, hi, rfl⟩ := List.mem_map.mp hx
  have hi : i < ls.length := by simpa using hi
  refine ⟨i, hi, ?_⟩
  rw [List.getD_eq_getElem?_getD, List.getElem?_map, List.getElem?_eq_getElem hi, List.getD_eq_getElem?_getD, List.getElem?_eq_getElem hi]
  rfl
theorem allLeast_data (ls : List (List Nat)) : ((enumL (ls.map tx)).map fun x => optT (leastL (cod x.2) (othersL ls x.1))) = allLeast ls := by
  unfold enumL allLeast
  rw [List.map_map, List.length_map]
  refine List.map_congr_left fun i hi => ?_
  have hi : i < ls.length := by simpa using hi
  show optT (leastL (cod ((ls.map tx).getD i .none)) (othersL ls i)) = _
  rw [List.getD_eq_getElem?_getD, List.getElem?_map, List.getElem?_eq_getElem hi, List.getD_eq_getElem?_getD, List.getElem?_eq_getElem hi]
  show optT (leastL (cod (tx ls[i])) _) = _
  rw [cod_tx]
  rfl
theorem R_least_of_at {ls : List (List Nat)} (hls : ∀ l ∈ ls, isNm l = true) (hl : ls.length ≤ 60) {x : Nat × PyData} (hx : x ∈ enumL (ls.map tx)) : R_least_of [x.2, .list (cutL (ls.map tx) none (some (x.1 : Int)) ++ cutL (ls.map tx) (some ((x.1 : Int) + 1)) none)] (.ok (optT (leastL (cod x.2) (othersL ls x.1)))) := by
  obtain ⟨i, hi, rfl⟩ := enum_tx ls x hx
  refine ⟨ls.getD i [], othersL ls i, by rw [others_cut], hls _ (getD_mem hi), fun o ho => hls o (others_mem ho), ?_, by rw [cod_tx]⟩
  unfold othersL
  rw [List.length_append, List.length_take, List.length_drop]
  omega
end Lf
set_option Elab.async false
set_option linter.all false
set_option maxRecDepth 100000
set_option maxHeartbeats 4000000
namespace Lf
open PySem PySem.Spec PyProof.Rows L2 LamX
/-! ### marks -/
structure Mk where
  h : Int
  hd : Int
  st : Int
  rn : Int
  sm : Int
  sk : Int
def mkD (M : Mk) : PyData := .tuple [.int M.h, .int M.hd, .int M.st, .int M.rn, .int M.sm, .int M.sk]
structure okM (M : Mk) : Prop where
  h : 0 ≤ M.h ∧ M.h ≤ 50
  hd : 0 ≤ M.hd ∧ M.hd ≤ 50
  st : 0 ≤ M.st ∧ M.st ≤ 50
  rn : 0 ≤ M.rn ∧ M.rn ≤ 50
  sm : 0 ≤ M.sm ∧ M.sm ≤ 50
  sk : 0 ≤ M.sk ∧ M.sk ≤ 50
def isTp : PyData → Bool
  | .tuple _ => true
  | _ => false
def tpOf : PyData → List PyData
  | .tuple ds => ds
  | .dict _ => List.replicate 10001 .none
  | _ => []
def okT (d : PyData) : Prop := (tpOf d).length ≤ 10000 ∧ ∀ e ∈ tpOf d, isP e = false
theorem okT_np {d : PyData} (h : okT d) : isP d = false := by
  cases d with
  | dict k =>
    have h : (List.replicate 10001 PyData.none).length ≤ 10000 := h.1
    rw [List.length_replicate] at h
    omega
  | _ => rfl
def isMarks (d : PyData) : Bool := isTp d && decide ((tpOf d).length = 6) && (tpOf d).all fun e => isCnt e 0 50
def mkOf (d : PyData) : Mk := ⟨intOf ((tpOf d).getD 0 .none), intOf ((tpOf d).getD 1 .none), intOf ((tpOf d).getD 2 .none), intOf ((tpOf d).getD 3 .none), intOf ((tpOf d).getD 4 .none), intOf ((tpOf d).getD 5 .none)⟩
theorem mkOf_self (M : Mk) : mkOf (mkD M) = M := rfl
theorem marks_of {d : PyData} (h : isMarks d = true) : d = mkD (mkOf d) ∧ okM (mkOf d) := by
  unfold isMarks at h
  rw [Bool.and_eq_true, Bool.and_eq_true] at h
  obtain ⟨⟨h1, h2⟩, h3⟩ := h
  cases d with
  | tuple ds =>
    have h2 : ds.length = 6 := of_decide_eq_true h2
    have h3 : (ds.all fun e => isCnt e 0 50) = true := h3
    obtain ⟨g1, g2⟩ := cnt_ints h3
    match ds, h2 with
    | [a, b, c, d, e, f], _ =>
      simp only [List.map_cons, List.map_nil, List.cons.injEq, and_true] at g1
      obtain ⟨e1, e2, e3, e4, e5, e6⟩ := g1
      have k : ∀ x ∈ [a, b, c, d, e, f], 0 ≤ intOf x ∧ intOf x ≤ 50 := fun x hx => g2 _ (List.mem_map_of_mem hx)
      refine ⟨?_, k a (by simp), k b (by simp), k c (by simp), k d (by simp), k e (by simp), k f (by simp)⟩
      show PyData.tuple [a, b, c, d, e, f] = .tuple [.int (intOf a), .int (intOf b), .int (intOf c), .int (intOf d), .int (intOf e), .int (intOf f)]
      rw [← e1, ← e2, ← e3, ← e4, ← e5, ← e6]
  | none => cases h1
  | bool _ => cases h1
  | int _ => cases h1
  | str _ => cases h1
  | list _ => cases h1
  | dict _ => cases h1
theorem marks_ok {M : Mk} (h : okM M) : isMarks (mkD M) = true := by
  have h1 := h.h; have h2 := h.hd; have h3 := h.st; have h4 := h.rn; have h5 := h.sm; have h6 := h.sk
  simp [isMarks, mkD, isTp, tpOf, isCnt]
  omega
theorem okT_mk (M : Mk) : okT (mkD M) := ⟨by show 6 ≤ 10000; decide, fun e he => by simp only [mkD, tpOf, List.mem_cons, List.not_mem_nil, or_false] at he; rcases he with rfl | rfl | rfl | rfl | rfl | rfl <;> rfl⟩
def R_need_marks (C : Addr) (ds : List PyData) (r : Res) : Prop := ∃ d, ds = [d] ∧ okT d ∧ r = if isMarks d = true then .ok .none else .error C
theorem R_need_marks_ok {C : Addr} {M : Mk} (h : okM M) : R_need_marks C [mkD M] (.ok .none) := ⟨_, rfl, okT_mk M, by rw [if_pos (marks_ok h)]⟩
theorem R_need_marks_er {C : Addr} {d : PyData} (hz : okT d) (h : isMarks d = false) : R_need_marks C [d] (.error C) := ⟨_, rfl, hz, by rw [h]; rfl⟩
theorem kit_tup {d : PyData} (h : isTp d = false) : kitB (tyN d) "tuple" = some false := by
  cases d with
  | tuple _ => cases h
  | _ => rfl
theorem tp_of {d : PyData} (h : isTp d = true) : d = .tuple (tpOf d) := by
  cases d with
  | tuple _ => rfl
  | _ => cases h
/-! ### a tuple of the module's top -/
structure KTp (K : PySem.W.Frag) (mg : Str → Option Value) (x : Str) (n : Nat) : Prop where
  ex : ∃ (a : Addr) (o : Obj) (its : Array Value) (m : Nat) (xs : List V), mg x = some (.ref a) ∧ K.lookup a = some o ∧ o.cls = .type "tuple" ∧ o.data = .seq its m ∧ its.size ≤ sizeLine ∧ Vals xs its.toList ∧ xs.length = n
theorem rel_abs {u : Value} {v : V} (h : absV u = some v) : RelV v u := by
  cases u <;> simp [absV] at h <;> subst h <;> first | rfl | exact ⟨_, rfl⟩
theorem vals_abs : ∀ {us : List Value}, (us.all fun u => (absV u).isSome) = true → ∃ xs, Vals xs us
  | [], _ => ⟨[], .nil⟩
  | u :: us, h => by
    rw [List.all_cons, Bool.and_eq_true] at h
    obtain ⟨v, hv⟩ := Option.isSome_iff_exists.mp h.1
    obtain ⟨xs, hx⟩ := vals_abs h.2
    exact ⟨v :: xs, .cons (rel_abs hv) hx⟩
theorem ktp_mk {K : PySem.W.Frag} {mg : Str → Option Value} {x : Str} {h : Heap} {a : Addr} {od : Option Addr} {its : Array Value} {m n : Nat} {sl : Array (Option Value)} (X : K.In h) (N : h.Ns mainGlobals mg) (c : PySem.W.nsIn K mainGlobals x = some (some (.ref a))) (l : K.lookup a = some ⟨.type "tuple", od, .seq its m, sl⟩)
    (z : (decide (its.size = n) && decide (n ≤ 1000) && its.toList.all fun u => (absV u).isSome) = true) : KTp K mg x n := by
  rw [Bool.and_eq_true, Bool.and_eq_true] at z
  obtain ⟨⟨z1, z2⟩, z3⟩ := z
  have z1 : its.size = n := of_decide_eq_true z1
  have z2 : n ≤ 1000 := of_decide_eq_true z2
  obtain ⟨xs, hx⟩ := vals_abs z3
  refine ⟨a, _, its, m, xs, PySem.W.mg_of X N c, l, rfl, rfl, ?_, hx, ?_⟩
  · rw [z1]
    exact Nat.le_trans z2 (by decide)
  · rw [hx.length, Array.length_toList, z1]
section
variable {Kf : PySem.W.Frag} {Tf : List (Addr × Str)} {F : Fx Kf Tf} {δ : List Slot} {X : Cx} {N : List Str} {sc : Scope} {pos p px : Pos} {x : Str} {n : Nat}
theorem x_lenK (cx : Ctx X N sc) (hT : KTp X.K X.mg x n) (hm : X.mg "len" = none) (hg : sc.names.lookup ("len" : Str) = some .globalImplicit := by rfl) (hg2 : sc.names.lookup x = some .globalImplicit := by rfl) (hd : (x == ("__debug__" : Str)) = false := by decide) (hs : starEach [.Name x px] X.env = [(false, eval (.Name x px) X.env)] := by rfl) :
    PE X (.Call (.Name "len" p) [.Name x px] [] pos) (tD F δ (.int (n : Nat))) := by
  obtain ⟨a, o, its, m, xs, h1, h2, h3, h4, h5, h6, h7⟩ := hT.ex
  refine wkE (pe_callB call_len (cx.gl hg) hm PySem.boot_len (pa_cons (pe_glob (v := .ref a) (cx.gl hg2) h1 rfl hd) pa_nil hs) (by decide) (by decide) hs) fun σ H Q h => ?_
  obtain ⟨O, st, k⟩ := h
  exact ⟨.ref a, n, rfl, .inr ⟨xs, .inr ⟨o, its, m, h2, h3, h4, h5, h6⟩, h7.symm⟩, k _ H (ExtN.refl H) st.tabs rfl⟩
end
/-! ### what places are worth -/
def ow (M : Mk) (c : Nat) (n : List Nat) (p : Nat) : Int := M.h + (if p = 0 then M.hd else 0) + (if begins n p = true then M.st else 0) + (if n.getD p 0 = c then M.sm else 0)
def gw (M : Mk) (i j : Nat) : Int := if j = i + 1 then M.rn else 0 - M.sk * ((j : Int) - (i : Int) - 1)
def gp (M : Mk) (p : Nat) : List Nat → Int
  | [] => 0
  | q :: _ => gw M p q
def wr (M : Mk) (n : List Nat) : List Nat → List Nat → Int
  | c :: a, p :: r => ow M c n p + gp M p r + wr M n a r
  | _, _ => 0
def R_own_worth (ds : List PyData) (r : Res) : Prop := ∃ M c n p, ds = [mkD M, tx [c], tx n, natI p] ∧ p < n.length ∧ n.length ≤ 10000 ∧ r = .ok (.int (ow M c n p))
def R_gap_worth (ds : List PyData) (r : Res) : Prop := ∃ M i j, ds = [mkD M, natI i, natI j] ∧ okM M ∧ i ≤ 10000 ∧ j ≤ 10000 ∧ r = .ok (.int (gw M i j))
/-! ### the first of the greatest -/
abbrev Bst := Option (Int × List Nat)
def cmb : Bst → Bst → Bst
  | a, none => a
  | none, some x => some x
  | some y, some x => if x.1 > y.1 then some x else some y
theorem cmb_none (a : Bst) : cmb a none = a := by cases a <;> rfl
theorem none_cmb (a : Bst) : cmb none a = a := by cases a <;> rfl
theorem cmb_assoc (a b c : Bst) : cmb (cmb a b) c = cmb a (cmb b c) := by
  cases c with
  | none => rw [cmb_none, cmb_none]
  | some z =>
    cases b with
    | none => rw [cmb_none, none_cmb]
    | some y =>
      cases a with
      | none => rw [none_cmb, none_cmb]
      | some x =>
        simp only [cmb]
        by_cases h1 : y.1 > x.1
        · rw [if_pos h1]
          by_cases h2 : z.1 > y.1
          · simp only [cmb, if_pos h2]
            rw [if_pos (by omega)]
          · simp only [cmb, if_neg h2, if_pos h1]
        · rw [if_neg h1]
          by_cases h2 : z.1 > y.1
          · simp only [cmb, if_pos h2]
          · simp only [cmb, if_neg h2, if_neg h1]
            rw [if_neg (by omega)]
def fmL (w : List Nat → Int) (l : List (List Nat)) : Bst := l.foldl (fun acc r => cmb acc (some (w r, r))) none
theorem fold_cmb {α : Type} (f : α → Bst) : ∀ (l : List α) (a : Bst), l.foldl (fun acc x => cmb acc (f x)) a = cmb a (l.foldl (fun acc x => cmb acc (f x)) none)
  | [], a => (cmb_none a).symm
  | x :: l, a => by
    rw [List.foldl_cons, List.foldl_cons, fold_cmb f l (cmb a (f x)), fold_cmb f l (cmb none (f x)), none_cmb, cmb_assoc]
theorem fm_app (w : List Nat → Int) (l m : List (List Nat)) : fmL w (l ++ m) = cmb (fmL w l) (fmL w m) := by
  unfold fmL
  rw [List.foldl_append, fold_cmb (fun r => some (w r, r)) m]
theorem fm_cons (w : List Nat → Int) (r : List Nat) (l : List (List Nat)) : fmL w (r :: l) = cmb (some (w r, r)) (fmL w l) := by
  rw [show r :: l = [r] ++ l from rfl, fm_app]
  rfl
theorem fm_flat {α : Type} (w : List Nat → Int) (f : α → List (List Nat)) : ∀ l : List α, fmL w (l.flatMap f) = l.foldl (fun acc x => cmb acc (fmL w (f x))) none
  | [] => rfl
  | x :: l => by
    rw [List.flatMap_cons, fm_app, fm_flat w f l, List.foldl_cons, none_cmb, fold_cmb (fun x => fmL w (f x)) l (fmL w (f x))]
theorem fm_map {w w' : List Nat → Int} {p : Nat} {K : Int} : ∀ {l : List (List Nat)}, (∀ r ∈ l, w (p :: r) = K + w' r) → fmL w (l.map (p :: ·)) = (fmL w' l).map fun q => (K + q.1, p :: q.2)
  | [], _ => rfl
  | r :: l, h => by
    rw [List.map_cons, fm_cons, fm_cons, fm_map fun s hs => h s (List.mem_cons_of_mem _ hs), h r List.mem_cons_self]
    cases fmL w' l with
    | none => rfl
    | some q =>
      simp only [Option.map_some, cmb]
      by_cases e : q.1 > w' r
      · rw [if_pos e, if_pos (by omega)]; rfl
      · rw [if_neg e, if_neg (by omega)]; rfl
/-! ### rows by their first place -/
def RB (n : List Nat) : List Nat → Nat → List (List Nat)
  | [], _ => []
  | c :: a, p => if hitC c (n.getD p 0) = true then (rowsS a (n.drop (p + 1)) (p + 1)).map (p :: ·) else []
theorem RB_hit {n : List Nat} {c : Nat} {a : List Nat} {p : Nat} (h : hitC c (n.getD p 0) = true) : RB n (c :: a) p = (rowsS a (n.drop (p + 1)) (p + 1)).map (p :: ·) := if_pos h
theorem RB_miss {n : List Nat} {c : Nat} {a : List Nat} {p : Nat} (h : hitC c (n.getD p 0) = false) : RB n (c :: a) p = [] := if_neg (by rw [h]; decide)
theorem rows_RB (n : List Nat) (c : Nat) (a : List Nat) : ∀ (m k : Nat), n.length - k = m → k ≤ n.length → rowsS (c :: a) (n.drop k) k = (List.range (n.length - k)).flatMap fun i => RB n (c :: a) (k + i)
  | 0, k, hm, hk => by
    rw [hm]
    have e : k = n.length := by omega
    rw [e, List.drop_length]
    rfl
  | m + 1, k, hm, hk => by
    have hlt : k < n.length := by omega
    have ih := rows_RB n c a m (k + 1) (by omega) (by omega)
    have hl : n.length - k = (n.length - (k + 1)) + 1 := by omega
    rw [hl, List.range_succ_eq_map, List.flatMap_cons, List.flatMap_map]
    have e2 : ((List.range (n.length - (k + 1))).flatMap fun i => RB n (c :: a) (k + (i + 1))) = rowsS (c :: a) (n.drop (k + 1)) (k + 1) := by
      rw [ih]
      exact fm_congr fun i _ => by rw [show k + (i + 1) = k + 1 + i by omega]
    show _ = RB n (c :: a) (k + 0) ++ ((List.range (n.length - (k + 1))).flatMap fun i => RB n (c :: a) (k + (i + 1)))
    rw [e2, Nat.add_zero]
    by_cases hh : hitC c (n.getD k 0) = true
    · rw [rows_hit hlt hh, RB_hit hh]
    · have hh' : hitC c (n.getD k 0) = false := by simpa using hh
      rw [rows_miss hlt hh', RB_miss hh', List.nil_append]
def bAt (M : Mk) (n a : List Nat) (p : Nat) : Bst := fmL (wr M n a) (RB n a p)
def bestL (M : Mk) (a n : List Nat) : Bst := fmL (wr M n a) (rowsS a n 0)
theorem bAt_nil (M : Mk) (n : List Nat) (p : Nat) : bAt M n [] p = none := rfl
/-- the start of a search at a place, and a step of it -/
def b0 (M : Mk) (n : List Nat) (c : Nat) (a : List Nat) (p : Nat) : Bst := if a = [] then some (ow M c n p, [p]) else none
def bSt (M : Mk) (n : List Nat) (c : Nat) (a : List Nat) (p i : Nat) : Bst := (bAt M n a (p + 1 + i)).map fun q => (ow M c n p + gw M p (p + 1 + i) + q.1, p :: q.2)
def bF (M : Mk) (n : List Nat) (c : Nat) (a : List Nat) (p : Nat) (pre : List Nat) : Bst := pre.foldl (fun acc i => cmb acc (bSt M n c a p i)) (b0 M n c a p)
theorem bF_snoc (M : Mk) (n : List Nat) (c : Nat) (a : List Nat) (p i : Nat) (pre : List Nat) : bF M n c a p (pre ++ [i]) = cmb (bF M n c a p pre) (bSt M n c a p i) := by
  unfold bF
  rw [List.foldl_append]
  rfl
theorem RB_head {n a : List Nat} {p : Nat} {r : List Nat} (h : r ∈ RB n a p) : ∃ t, r = p :: t := by
  cases a with
  | nil => cases h
  | cons c a =>
    by_cases hh : hitC c (n.getD p 0) = true
    · rw [RB_hit hh] at h
      obtain ⟨t, _, rfl⟩ := List.mem_map.mp h
      exact ⟨t, rfl⟩
    · rw [RB_miss (by simpa using hh)] at h
      cases h
theorem bAt_miss {M : Mk} {n : List Nat} {c : Nat} {a : List Nat} {p : Nat} (h : hitC c (n.getD p 0) = false) : bAt M n (c :: a) p = none := by
  unfold bAt
  rw [RB_miss h]
  rfl
theorem bAt_hit {M : Mk} {n : List Nat} {c : Nat} {a : List Nat} {p : Nat} (hp : p < n.length) (h : hitC c (n.getD p 0) = true) : bAt M n (c :: a) p = bF M n c a p (List.range (n.length - (p + 1))) := by
  unfold bAt
  rw [RB_hit h]
  cases a with
  | nil =>
    rw [rows_nil]
    have e : ∀ l : List Nat, l.foldl (fun acc i => cmb acc (bSt M n c [] p i)) (b0 M n c [] p) = b0 M n c [] p := fun l => by
      induction l with
      | nil => rfl
      | cons i l ih => rw [List.foldl_cons]; exact ih
    unfold bF
    rw [e]
    show some (ow M c n p + 0 + 0, [p]) = some (ow M c n p, [p])
    rw [Int.add_zero, Int.add_zero]
  | cons c' a =>
    rw [rows_RB n c' a _ (p + 1) rfl (by omega), List.map_flatMap, fm_flat]
    unfold bF
    rw [show b0 M n c (c' :: a) p = none from if_neg (by simp)]
    congr 1
    funext acc i
    congr 1
    unfold bSt bAt
    refine (fm_map (w' := wr M n (c' :: a)) (K := ow M c n p + gw M p (p + 1 + i)) fun r hr => ?_).trans ?_
    · obtain ⟨t, rfl⟩ := RB_head hr
      show ow M c n p + gw M p (p + 1 + i) + wr M n (c' :: a) ((p + 1 + i) :: t) = _
      rfl
    · rfl
theorem best_fold (M : Mk) (c : Nat) (a n : List Nat) : bestL M (c :: a) n = (List.range n.length).foldl (fun acc p => cmb acc (bAt M n (c :: a) p)) none := by
  unfold bestL
  have := rows_RB n c a n.length 0 rfl (Nat.zero_le _)
  rw [List.drop_zero] at this
  rw [this, fm_flat]
  simp only [Nat.sub_zero, Nat.zero_add]
  rfl
theorem best_nil (M : Mk) (n : List Nat) : bestL M [] n = some (0, []) := by
  unfold bestL
  rw [rows_nil]
  rfl
theorem fm_none {w : List Nat → Int} : ∀ {l : List (List Nat)}, fmL w l = none ↔ l = []
  | [] => ⟨fun _ => rfl, fun _ => rfl⟩
  | r :: l => by
    rw [fm_cons]
    cases fmL w l with
    | none => simp [cmb]
    | some q =>
      simp only [cmb]
      split <;> simp
theorem best_none {M : Mk} {a n : List Nat} : bestL M a n = none ↔ gr a n 0 = none := by
  unfold bestL
  rw [fm_none, gr_none]
/-! ### the dict of a level -/
def bD (q : Int × List Nat) : PyData := .tuple [.int q.1, rowD q.2]
def optB : Bst → PyData
  | none => .none
  | some q => bD q
def dOf (G : Nat → Bst) (m : Nat) : List (Key × PyData) := (List.range m).filterMap fun p => (G p).map fun q => (Sum.inl (p : Int), bD q)
theorem dOf_succ (G : Nat → Bst) (m : Nat) : dOf G (m + 1) = dOf G m ++ (match G m with | none => [] | some q => [(Sum.inl (m : Int), bD q)]) := by
  unfold dOf
  rw [List.range_succ, List.filterMap_append]
  congr 1
  cases h : G m <;> simp [h]
theorem dOf_get (G : Nat → Bst) : ∀ (m p : Nat), getK (dOf G m) (Sum.inl (p : Int)) = if p < m then (G p).map bD else none
  | 0, p => by simp [dOf, getK_nil]
  | m + 1, p => by
    rw [dOf_succ, getK_app, dOf_get G m p]
    by_cases h1 : p < m
    · rw [if_pos h1, if_pos (by omega)]
      cases e : G p with
      | some q => rfl
      | none =>
        show getK _ _ = none
        cases e2 : G m with
        | none => rfl
        | some q =>
          rw [getK_cons, if_neg]
          · rfl
          · intro z
            have : (m : Int) = (p : Int) := Sum.inl.inj z
            omega
    · rw [if_neg h1]
      by_cases h2 : p = m
      · subst h2
        rw [if_pos (by omega)]
        cases e2 : G p with
        | none => rfl
        | some q => rw [getK_cons, if_pos rfl]; rfl
      · rw [if_neg (by omega)]
        cases e2 : G m with
        | none => rfl
        | some q =>
          rw [getK_cons, if_neg]
          · rfl
          · intro z
            have : (m : Int) = (p : Int) := Sum.inl.inj z
            omega
theorem dOf_put {G : Nat → Bst} {m : Nat} {q : Int × List Nat} (h : G m = some q) : putD (dOf G m) (Sum.inl (m : Int)) (bD q) = dOf G (m + 1) := by
  unfold putD
  rw [getK_any, dOf_get, if_neg (Nat.lt_irrefl m), dOf_succ, h]
  rfl
theorem dOf_skip {G : Nat → Bst} {m : Nat} (h : G m = none) : dOf G m = dOf G (m + 1) := by
  rw [dOf_succ, h, List.append_nil]
theorem dOf_len (G : Nat → Bst) (m : Nat) : (dOf G m).length ≤ m := by
  unfold dOf
  refine Nat.le_trans (List.length_filterMap_le _ _) ?_
  rw [List.length_range]
  exact Nat.le_refl _
theorem dOf_none {G : Nat → Bst} (h : ∀ p, G p = none) (m : Nat) : dOf G m = [] := by
  unfold dOf
  rw [List.filterMap_eq_nil_iff]
  intro p _
  rw [h p]
  rfl
/-- the places of a level -/
def dPs (G : Nat → Bst) (m : Nat) : List Nat := (List.range m).filter fun p => (G p).isSome
theorem dOf_keys (G : Nat → Bst) (m : Nat) : ((dOf G m).map fun q => keyD q.1) = (dPs G m).map natI := by
  induction m with
  | zero => rfl
  | succ m ih =>
    rw [dOf_succ, List.map_append, ih]
    unfold dPs
    rw [List.range_succ, List.filter_append, List.map_append]
    congr 1
    cases h : G m <;> simp [h, natI, keyD]
theorem le_nats (p q : Nat) : PySem.W.dataLe false (fun d => d) (natI p) (natI q) = decide ((p : Int) ≤ (q : Int)) := congrFun (congrFun (PySem.W.dataLe_int (β := Nat) fun l => (l : Int)) p) q
theorem sort_nats {l : List Nat} (h : l.Pairwise (· < ·)) : sortD (l.map natI) = l.map natI := by
  unfold sortD
  refine List.mergeSort_of_pairwise ?_
  rw [List.pairwise_map]
  exact h.imp fun {a b} hab => by rw [le_nats]; exact decide_eq_true (by omega)
theorem nats_alike (l : List Nat) : PySem.W.AllAlike (l.map natI) ∧ PySem.W.Sortable (l.map natI) :=
  ⟨PySem.W.AllAlike.of (enc := natI) fun _ _ => rfl, PySem.W.Sortable.others (enc := natI) fun _ => ⟨(fun z => by cases z), fun _ z => by cases z⟩⟩
theorem dPs_rise (G : Nat → Bst) (m : Nat) : (dPs G m).Pairwise (· < ·) := List.Pairwise.filter _ List.pairwise_lt_range
theorem dOf_sort (G : Nat → Bst) (m : Nat) : sortD ((dOf G m).map fun q => keyD q.1) = (dPs G m).map natI := by rw [dOf_keys, sort_nats (dPs_rise G m)]
theorem fold_ps (G : Nat → Bst) : ∀ (l : List Nat) (acc : Bst), (l.filter fun p => (G p).isSome).foldl (fun acc p => cmb acc (G p)) acc = l.foldl (fun acc p => cmb acc (G p)) acc
  | [], acc => rfl
  | p :: l, acc => by
    cases e : G p with
    | none =>
      rw [List.filter_cons_of_neg (by rw [e]; decide), List.foldl_cons, e, cmb_none]
      exact fold_ps G l acc
    | some q =>
      rw [List.filter_cons_of_pos (by rw [e]; rfl), List.foldl_cons, List.foldl_cons]
      exact fold_ps G l _
def bFin (G : Nat → Bst) (pre : List Nat) : Bst := pre.foldl (fun acc p => cmb acc (G p)) none
theorem bFin_snoc (G : Nat → Bst) (pre : List Nat) (p : Nat) : bFin G (pre ++ [p]) = cmb (bFin G pre) (G p) := by
  unfold bFin
  rw [List.foldl_append]
  rfl
theorem best_fin (M : Mk) (c : Nat) (a n : List Nat) : bFin (bAt M n (c :: a)) (dPs (bAt M n (c :: a)) n.length) = bestL M (c :: a) n := by
  rw [best_fold]
  exact fold_ps _ _ none
def R_best_of (ds : List PyData) (r : Res) : Prop := ∃ M a n, ds = [mkD M, tx a, tx n] ∧ okM M ∧ a.length ≤ 100 ∧ n.length ≤ 1000 ∧ r = .ok (optB (bestL M a n))
def R_best (C0 C1 C2 : Addr) (ds : List PyData) (r : Res) : Prop := ∃ d1 d2 d3, ds = [d1, d2, d3] ∧ okT d1 ∧ okd d2 ∧ okd d3 ∧
  r = if isMarks d1 = true then (if isAsk d2 = true then (if isName d3 = true then .ok (optB (bestL (mkOf d1) (cod d2) (cod d3))) else .error C0) else .error C1) else .error C2
theorem map_selfT (l : List PyData) : PyData.tuple l = PyData.tuple (l.map fun d => d) := by rw [List.map_id']
theorem cm_small {a b : Int} (ha : -1000000 ≤ a ∧ a ≤ 1000000) (hb : -1000000 ≤ b ∧ b ≤ 1000000) : CMulW a b := by
  have h1 : a.natAbs ≤ 1000000 := by omega
  have h2 : b.natAbs ≤ 1000000 := by omega
  exact cmul_sq (Nat.lt_of_le_of_lt h1 (by decide)) (Nat.lt_of_le_of_lt h2 (by decide))
theorem fm_mem {w : List Nat → Int} : ∀ {l : List (List Nat)} {q : Int × List Nat}, fmL w l = some q → q.2 ∈ l ∧ q.1 = w q.2
  | [], q, h => by cases h
  | r :: l, q, h => by
    rw [fm_cons] at h
    cases e : fmL w l with
    | none =>
      rw [e] at h
      cases h
      exact ⟨List.mem_cons_self, rfl⟩
    | some q' =>
      rw [e] at h
      simp only [cmb] at h
      split at h
      · cases h
        exact ⟨List.mem_cons_of_mem _ (fm_mem e).1, (fm_mem e).2⟩
      · cases h
        exact ⟨List.mem_cons_self, rfl⟩
theorem bAt_len {M : Mk} {n a : List Nat} {p : Nat} {q : Int × List Nat} (h : bAt M n a p = some q) : q.2.length = a.length := by
  have hm := (fm_mem h).1
  cases a with
  | nil => cases hm
  | cons c a =>
    by_cases hh : hitC c (n.getD p 0) = true
    · rw [RB_hit hh] at hm
      obtain ⟨t, ht, e⟩ := List.mem_map.mp hm
      rw [← e, List.length_cons, List.length_cons, rows_mem ht]
    · rw [RB_miss (by simpa using hh)] at hm
      cases hm
end Lf
set_option Elab.async false
set_option linter.all false
set_option maxRecDepth 100000
set_option maxHeartbeats 4000000
namespace Lf
open PySem PySem.Spec PyProof.Rows L2 LamX
/-! ### bounds -/
def bo (M : Mk) (a : List Nat) : Int := if a = [] then 0 else (a.length : Int) * (M.h + M.st + M.sm) + M.hd + ((a.length : Int) - 1) * M.rn
def R_bound_of (ds : List PyData) (r : Res) : Prop := ∃ M a, ds = [mkD M, tx a] ∧ okM M ∧ a.length ≤ 1000 ∧ r = .ok (.int (bo M a))
def hdH (M : Mk) (a n : List Nat) : Int := if (!decide (a = []) && hitC (a.getD 0 0) (n.getD 0 0)) = true then M.hd else 0
def hdL (M : Mk) (a n : List Nat) : Int := if (!decide (a = [])) = true then M.hd - hdH M a n else 0
def lessB (a n : List Nat) : Int := if (a.length : Int) - ((startsL n).length : Int) > 0 then (a.length : Int) - ((startsL n).length : Int) else 0
def bd (M : Mk) (a n : List Nat) : Int := bo M a - lessB a n * M.st - hdL M a n
def optI : Option Int → PyData
  | none => .none
  | some i => .int i
def bdO (M : Mk) (a n : List Nat) : Option Int := if gr a n 0 = none then none else some (bd M a n)
def R_bound (C0 C1 C2 : Addr) (ds : List PyData) (r : Res) : Prop := ∃ d1 d2 d3, ds = [d1, d2, d3] ∧ okT d1 ∧ okd d2 ∧ okd d3 ∧
  r = if isMarks d1 = true then (if isAsk d2 = true then (if isName d3 = true then .ok (optI (bdO (mkOf d1) (cod d2) (cod d3))) else .error C0) else .error C1) else .error C2
/-! ### the law's own -/
def lawBd (M : Mk) (a n : List Nat) : Int := (a.length : Int) * (M.h + M.sm) + M.st * (if ((startsL n).length : Int) < (a.length : Int) then ((startsL n).length : Int) else (a.length : Int)) + M.rn * (if (a.length : Int) - 1 > 0 then (a.length : Int) - 1 else 0)
def lawBh (M : Mk) (a n : List Nat) : Int := if (decide ((a.length : Int) > 0) && hitL (a.getD 0 0) (n.getD 0 0)) = true then lawBd M a n + M.hd else lawBd M a n
theorem bd_law {M : Mk} {a n : List Nat} (hn : isNm n = true) : lawBh M a n = bd M a n := by
  have hnl := isNm_len hn
  have h0 : n.getD 0 0 ∈ alpha := by
    refine isNm_alpha hn _ ?_
    rw [List.getD_eq_getElem?_getD, List.getElem?_eq_getElem (by omega)]
    exact List.getElem_mem _
  unfold lawBh bd bo hdL hdH lessB lawBd
  rw [hit_same h0]
  cases a with
  | nil =>
    simp
    split <;> omega
  | cons c a =>
    simp only [List.length_cons, reduceCtorEq, decide_false, Bool.not_false, if_true, if_false, Bool.true_and]
    have hl : (0 : Int) < ((a.length + 1 : Nat) : Int) := by omega
    generalize ((a.length + 1 : Nat) : Int) = L at hl
    generalize ((startsL n).length : Int) = W
    have e1 : (decide (L > 0) && hitC ((c :: a).getD 0 0) (n.getD 0 0)) = hitC ((c :: a).getD 0 0) (n.getD 0 0) := by
      rw [decide_eq_true hl, Bool.true_and]
    rw [e1]
    have e2 : L * (M.h + M.st + M.sm) = L * (M.h + M.sm) + L * M.st := by
      rw [← Int.mul_add]
      congr 1
      omega
    have e3 : M.rn * (L - 1) = (L - 1) * M.rn := Int.mul_comm _ _
    have e4 : (if L - 1 > 0 then L - 1 else 0) = L - 1 := by split <;> omega
    rw [e2, e4, e3]
    by_cases hw : W < L
    · have e5 : (L - W) * M.st = L * M.st - W * M.st := Int.sub_mul _ _ _
      rw [if_pos hw, if_pos (show L - W > 0 by omega), e5, Int.mul_comm M.st W]
      cases hitC ((c :: a).getD 0 0) (n.getD 0 0)
      · rw [if_neg (by decide), if_neg (by decide)]
        omega
      · rw [if_pos rfl, if_pos rfl]
        omega
    · rw [if_neg hw, if_neg (show ¬ L - W > 0 by omega), Int.zero_mul, Int.mul_comm M.st L]
      cases hitC ((c :: a).getD 0 0) (n.getD 0 0)
      · rw [if_neg (by decide), if_neg (by decide)]
        omega
      · rw [if_pos rfl, if_pos rfl]
        omega
def R_law_bound (ds : List PyData) (r : Res) : Prop := ∃ M a n, ds = [mkD M, tx a, tx n] ∧ okM M ∧ a.length ≤ 100 ∧ isNm n = true ∧ r = .ok (optI (bdO M a n))
theorem bdO_none {M : Mk} {a n : List Nat} (h : rc a n = 0) : bdO M a n = none := by
  have : gr a n 0 = none := by
    rw [gr_none]
    have := rows_len a n 0
    rw [h] at this
    exact List.length_eq_zero_iff.mp this
  exact if_pos this
theorem bdO_some {M : Mk} {a n : List Nat} (h : ¬ rc a n = 0) (hn : isNm n = true) : bdO M a n = some (lawBh M a n) := by
  rw [bd_law hn]
  refine if_neg fun z => h ?_
  rw [gr_none] at z
  rw [← rows_len a n 0, z]
  rfl
/-! ### no worth is greater -/
def cntB (n r : List Nat) : Nat := (r.filter fun p => begins n p).length
theorem mulLe {x y z : Int} (h : x ≤ y) (hz : 0 ≤ z) : z * x ≤ z * y := Int.mul_le_mul_of_nonneg_left h hz
theorem gw_le {M : Mk} (h : okM M) {i j : Nat} (hij : i < j) : gw M i j ≤ M.rn := by
  unfold gw
  split
  · exact Int.le_refl _
  · have := Int.mul_nonneg h.sk.1 (show 0 ≤ (j : Int) - (i : Int) - 1 by omega)
    have := h.rn.1
    omega
theorem wr_le {M : Mk} (h : okM M) {n : List Nat} : ∀ (a r : List Nat) (k : Nat), r.length = a.length → (∀ i ∈ r, k ≤ i) → r.Pairwise (· < ·) → a ≠ [] → wr M n a r ≤ (a.length : Int) * (M.h + M.sm) + (cntB n r : Int) * M.st + (if k = 0 ∧ r.head? = some 0 then M.hd else 0) + ((a.length : Int) - 1) * M.rn
  | [], _, _, _, _, _, h0 => absurd rfl h0
  | c :: a, [], _, hl, _, _, _ => by simp at hl
  | c :: a, p :: r, k, hl, hk, hp, _ => by
    have hp' := List.pairwise_cons.mp hp
    have ho : ow M c n p ≤ M.h + M.sm + (if begins n p = true then M.st else 0) + (if k = 0 ∧ (p :: r).head? = some 0 then M.hd else 0) := by
      unfold ow
      have h1 := h.sm.1
      have h2 := h.hd.1
      have hkp := hk p List.mem_cons_self
      have e : (k = 0 ∧ (p :: r).head? = some 0) ↔ p = 0 := by
        simp only [List.head?_cons, Option.some.injEq]
        omega
      simp only [e]
      split <;> split <;> split <;> omega
    have hcnt : (cntB n (p :: r) : Int) * M.st = (if begins n p = true then M.st else 0) + (cntB n r : Int) * M.st := by
      unfold cntB
      by_cases hb : begins n p = true
      · rw [List.filter_cons_of_pos hb, if_pos hb, List.length_cons, show (((r.filter fun p => begins n p).length + 1 : Nat) : Int) = 1 + ((r.filter fun p => begins n p).length : Int) by omega, Int.add_mul, Int.one_mul]
      · rw [List.filter_cons_of_neg hb, if_neg hb, Int.zero_add]
    show ow M c n p + gp M p r + wr M n a r ≤ _
    rw [hcnt]
    have hlen : (((c :: a).length : Nat) : Int) = 1 + (a.length : Int) := by rw [List.length_cons]; omega
    rw [hlen, Int.add_mul, Int.one_mul]
    cases r with
    | nil =>
      have ha : a = [] := List.length_eq_zero_iff.mp (by simpa using hl.symm)
      subst ha
      show ow M c n p + 0 + 0 ≤ _
      simp only [List.length_nil, cntB, List.filter_nil]
      simp only [Int.natCast_zero, Int.zero_mul, Int.add_zero]
      have : ((1 : Int) - 1) * M.rn = 0 := by simp
      omega
    | cons q r =>
      have ha : a ≠ [] := fun z => by rw [z] at hl; simp at hl
      have hpq : p < q := hp'.1 q List.mem_cons_self
      have ih := wr_le (n := n) h a (q :: r) (p + 1) (by simpa using hl) (fun i hi => hp'.1 i hi) hp'.2 ha
      rw [if_neg (fun z => by omega)] at ih
      have hg := gw_le h hpq
      show ow M c n p + gw M p q + wr M n a (q :: r) ≤ _
      have : (1 + (a.length : Int) - 1) * M.rn = M.rn + ((a.length : Int) - 1) * M.rn := by
        rw [show (1 + (a.length : Int) - 1) = 1 + ((a.length : Int) - 1) by omega, Int.add_mul, Int.one_mul]
      omega
theorem rows_rise : ∀ {a n : List Nat} {k : Nat} {r : List Nat}, r ∈ rowsS a n k → r.Pairwise (· < ·) ∧ ∀ i ∈ r, i < k + n.length
  | [], n, k, r, h => by
    rw [rows_nil] at h
    rw [List.mem_singleton.mp h]
    exact ⟨.nil, fun i hi => by cases hi⟩
  | o :: a, [], k, r, h => by cases h
  | o :: a, c :: n, k, r, h => by
    unfold rowsS at h
    have rest : r ∈ rowsS (o :: a) n (k + 1) → r.Pairwise (· < ·) ∧ ∀ i ∈ r, i < k + (c :: n).length := fun hr => by
      obtain ⟨h1, h2⟩ := rows_rise hr
      exact ⟨h1, fun i hi => by have := h2 i hi; rw [List.length_cons]; omega⟩
    split at h
    · rcases List.mem_append.mp h with z | z
      · obtain ⟨t, ht, rfl⟩ := List.mem_map.mp z
        obtain ⟨h1, h2⟩ := rows_rise ht
        have h3 := rows_ge ht
        refine ⟨List.pairwise_cons.mpr ⟨fun i hi => by have := h3 i hi; omega, h1⟩, fun i hi => ?_⟩
        rcases List.mem_cons.mp hi with e | hi
        · rw [e, List.length_cons]; omega
        · have := h2 i hi; rw [List.length_cons]; omega
      · exact rest z
    · exact rest h
theorem rows_first {o : Nat} {a n : List Nat} {r : List Nat} (h : r ∈ rowsS (o :: a) n 0) (h0 : r.head? = some 0) : hitC o (n.getD 0 0) = true := by
  cases n with
  | nil => cases h
  | cons c n =>
    unfold rowsS at h
    by_cases hh : hitC o c = true
    · exact hh
    · rw [if_neg hh] at h
      have := rows_ge h
      cases r with
      | nil => cases h0
      | cons p r =>
        have := this p List.mem_cons_self
        cases h0
        omega
theorem best_bd {M : Mk} (h : okM M) {a n : List Nat} {q : Int × List Nat} (hb : bestL M a n = some q) : q.1 ≤ bd M a n := by
  obtain ⟨hm, hq⟩ := fm_mem hb
  rw [hq]
  cases a with
  | nil =>
    rw [rows_nil] at hm
    rw [List.mem_singleton.mp hm]
    show (0 : Int) ≤ bd M [] n
    unfold bd bo hdL lessB
    simp
    split <;> omega
  | cons c a =>
    obtain ⟨h1, h2⟩ := rows_rise hm
    have hl := rows_mem hm
    have hle := wr_le (n := n) h (c :: a) q.2 0 hl (fun i _ => Nat.zero_le i) h1 (by simp)
    have hc1 : cntB n q.2 ≤ (c :: a).length := by
      rw [← hl]
      exact List.length_filter_le _ _
    have hc2 : cntB n q.2 ≤ (startsL n).length := by
      refine List.Nodup.length_le_of_subset (List.Pairwise.filter _ (h1.imp fun {a b} hab => by omega)) fun i hi => ?_
      obtain ⟨g1, g2⟩ := List.mem_filter.mp hi
      exact List.mem_filter.mpr ⟨List.mem_range.mpr (by have := h2 i g1; omega), g2⟩
    have hhd : (if 0 = 0 ∧ q.2.head? = some 0 then M.hd else 0) ≤ hdH M (c :: a) n := by
      unfold hdH
      have := h.hd.1
      by_cases e : q.2.head? = some 0
      · have := rows_first hm e
        have this2 : (!decide (c :: a = []) && hitC ((c :: a).getD 0 0) (n.getD 0 0)) = true := by simpa using this
        rw [if_pos ⟨rfl, e⟩, if_pos this2]
        exact Int.le_refl _
      · simp only [e, and_false, if_false]
        split <;> omega
    refine Int.le_trans hle ?_
    have eb : bd M (c :: a) n = (((c :: a).length : Nat) : Int) * (M.h + M.st + M.sm) + M.hd + ((((c :: a).length : Nat) : Int) - 1) * M.rn - lessB (c :: a) n * M.st - (M.hd - hdH M (c :: a) n) := by
      unfold bd bo hdL
      rw [if_neg (List.cons_ne_nil c a), if_pos (show (!decide (c :: a = [])) = true by simp)]
    rw [eb]
    unfold lessB
    have hc1' : (cntB n q.2 : Int) ≤ (((c :: a).length : Nat) : Int) := by omega
    generalize (((c :: a).length : Nat) : Int) = L at *
    have e2 : L * (M.h + M.st + M.sm) = L * (M.h + M.sm) + L * M.st := by
      rw [← Int.mul_add]
      congr 1
      omega
    rw [e2]
    have hst := h.st.1
    by_cases hw : L - ((startsL n).length : Int) > 0
    · have e5 : (L - ((startsL n).length : Int)) * M.st = L * M.st - ((startsL n).length : Int) * M.st := Int.sub_mul _ _ _
      rw [if_pos hw, e5]
      have : (cntB n q.2 : Int) * M.st ≤ ((startsL n).length : Int) * M.st := Int.mul_le_mul_of_nonneg_right (by omega) hst
      omega
    · rw [if_neg hw, Int.zero_mul]
      have : (cntB n q.2 : Int) * M.st ≤ L * M.st := Int.mul_le_mul_of_nonneg_right (by omega) hst
      omega
/-! ### drawn marks -/
def mkC (h : Int) : Int := ([0, 1, 3, 10, 50, h / 8 % 51] : List Int).getD (h % 6).toNat 0
def mkL (m : Int) : Mk := ⟨mkC (drawn m 0), mkC (drawn m 1), mkC (drawn m 2), mkC (drawn m 3), mkC (drawn m 4), mkC (drawn m 5)⟩
theorem mkC_at (h : Int) : atI [PyData.int 0, .int 1, .int 3, .int 10, .int 50, .int (h / 8 % 51)] (h % 6) = some (.int (mkC h)) := by
  unfold mkC
  have h1 : h % 6 = 0 ∨ h % 6 = 1 ∨ h % 6 = 2 ∨ h % 6 = 3 ∨ h % 6 = 4 ∨ h % 6 = 5 := by omega
  rcases h1 with e | e | e | e | e | e <;> rw [e] <;> rfl
theorem mkC_ok (h : Int) : 0 ≤ mkC h ∧ mkC h ≤ 50 := by
  unfold mkC
  have h1 : h % 6 = 0 ∨ h % 6 = 1 ∨ h % 6 = 2 ∨ h % 6 = 3 ∨ h % 6 = 4 ∨ h % 6 = 5 := by omega
  have h2 : 0 ≤ h / 8 % 51 ∧ h / 8 % 51 ≤ 50 := by omega
  rcases h1 with e | e | e | e | e | e <;> rw [e] <;> first | exact h2 | exact (by decide : (0 : Int) ≤ 0 ∧ (0 : Int) ≤ 50) | exact (by decide : (0 : Int) ≤ 1 ∧ (1 : Int) ≤ 50) | exact (by decide : (0 : Int) ≤ 3 ∧ (3 : Int) ≤ 50) | exact (by decide : (0 : Int) ≤ 10 ∧ (10 : Int) ≤ 50) | exact (by decide : (0 : Int) ≤ 50 ∧ (50 : Int) ≤ 50)
theorem mkL_ok (m : Int) : okM (mkL m) := ⟨mkC_ok _, mkC_ok _, mkC_ok _, mkC_ok _, mkC_ok _, mkC_ok _⟩
def R_law_marks (ds : List PyData) (r : Res) : Prop := ∃ m, ds = [.int m] ∧ r = .ok (mkD (mkL m))
theorem R_best_ok {C0 C1 C2 : Addr} {M : Mk} {a n : List Nat} (hM : okM M) (ha : isAs a = true) (hn : isNm n = true) : R_best C0 C1 C2 [mkD M, tx a, tx n] (.ok (optB (bestL M a n))) :=
  ⟨_, _, _, rfl, okT_mk _, okd_tx (by have := isAs_len ha; omega), okd_tx (by have := isNm_len hn; omega), by rw [if_pos (marks_ok hM), isAsk_tx, if_pos ha, isName_tx, if_pos hn, mkOf_self, cod_tx, cod_tx]⟩
theorem R_bound_ok {C0 C1 C2 : Addr} {M : Mk} {a n : List Nat} (hM : okM M) (ha : isAs a = true) (hn : isNm n = true) : R_bound C0 C1 C2 [mkD M, tx a, tx n] (.ok (optI (bdO M a n))) :=
  ⟨_, _, _, rfl, okT_mk _, okd_tx (by have := isAs_len ha; omega), okd_tx (by have := isNm_len hn; omega), by rw [if_pos (marks_ok hM), isAsk_tx, if_pos ha, isName_tx, if_pos hn, mkOf_self, cod_tx, cod_tx]⟩
theorem lay_optI {o : Option Int} : Lay 0 (optI o) := by
  cases o with
  | none => exact lay_none
  | some i => exact lay_int
def askO (h : Int) (n : List Nat) : List Nat := if h / 2 % 4 > 0 then askIn (drawn h 2) n 8 else askL (h / 8) 3
end Lf
set_option Elab.async false
set_option linter.all false
set_option maxRecDepth 100000
set_option maxHeartbeats 4000000
namespace Lf
open PySem PySem.Spec PyProof.Rows L2 LamX
section
variable {Kf : PySem.W.Frag} {Tf : List (Addr × Str)} {F : Fx Kf Tf} {K : PySem.W.Frag} {ds : List PyData}
theorem cd_maxM {ns : List Int} {m : Int} (h : ds = ns.map PyData.int) (hm : m ∈ ns) (hu : ∀ y ∈ ns, y ≤ m) : ClD F (rMax K) [.list ds] (.int m) := fun O H xs Q _ w h2 k => by
  subst h
  obtain ⟨x, r, rfl, ⟨a, ys, ex, _, ga, ra⟩, rfl⟩ := h2
  subst ex
  refine ⟨a, ns, rfl, SqL.of (by rw [ga, ra.ints]), List.length_pos_of_mem hm, fun m' h1 h2 => ?_⟩
  have : m' = m := Int.le_antisymm (hu m' h1) (h2 m hm)
  rw [this]
  exact k _ H (ExtN.refl H) w rfl
end
/-! ### places -/
def hitsB (a n r : List Nat) : Bool := (a.zip r).all fun q => hitC q.1 (n.getD q.2 0)
def plB (a n : List Nat) (d : PyData) : Bool := isLs d && decide ((lsOf d).length = a.length) && ((lsOf d).all fun e => isCnt e 0 ((n.length : Int) - 1)) && riseI ((lsOf d).map intOf) && hitsB a n (natsOf d)
def R_are_places (ds : List PyData) (r : Res) : Prop := ∃ a n d, ds = [tx a, tx n, d] ∧ a.length ≤ 1000 ∧ n.length ≤ 10000 ∧ (lsOf d).length ≤ 10000 ∧ r = .ok (.bool (plB a n d))
theorem zip_nats (ps : List Nat) : ((cutL (ps.map natI) none (some (-1))).zip (cutL (ps.map natI) (some 1) none)).map encZ = (ps.dropLast.zip ps.tail).map fun q => PyData.tuple [natI q.1, natI q.2] := by
  rw [cut_init, cut_tail, ← List.map_dropLast, ← List.map_tail, List.zip_map, List.map_map]
  rfl
theorem zip_txn (a ps : List Nat) : ((a.map fun c => tx [c]).zip (ps.map natI)).map encZ = (a.zip ps).map fun q => PyData.tuple [tx [q.1], natI q.2] := by
  rw [List.zip_map, List.map_map]
  rfl
theorem cnt_nats {m : Nat} {ds : List PyData} (h : (ds.all fun e => isCnt e 0 ((m : Int) - 1)) = true) : ds = (ds.map fun e => (intOf e).toNat).map natI ∧ ∀ i ∈ ds.map fun e => (intOf e).toNat, i < m := by
  obtain ⟨g1, g2⟩ := cnt_ints h
  refine ⟨?_, fun i hi => ?_⟩
  · conv => lhs; rw [g1]
    rw [List.map_map, List.map_map]
    refine List.map_congr_left fun e he => ?_
    have := g2 _ (List.mem_map_of_mem he)
    show PyData.int (intOf e) = PyData.int (((intOf e).toNat : Nat) : Int)
    rw [Int.toNat_of_nonneg this.1]
  · obtain ⟨e, he, rfl⟩ := List.mem_map.mp hi
    have := g2 _ (List.mem_map_of_mem he)
    omega
theorem riseI_nats (ps : List Nat) : riseI (ps.map fun (i : Nat) => (i : Int)) = (ps.dropLast.zip ps.tail).all fun q => decide ((q.1 : Int) < (q.2 : Int)) := by
  unfold riseI
  rw [← List.map_dropLast, ← List.map_tail, List.zip_map, List.all_map]
  rfl
/-! ### rows, by what they are -/
theorem rows_iff (n : List Nat) : ∀ (a : List Nat) (k : Nat) (r : List Nat), k ≤ n.length → (r ∈ rowsS a (n.drop k) k ↔ r.length = a.length ∧ (∀ i ∈ r, k ≤ i ∧ i < n.length) ∧ r.Pairwise (· < ·) ∧ hitsB a n r = true)
  | [], k, r, hk => by
    rw [rows_nil, List.mem_singleton]
    constructor
    · rintro rfl; exact ⟨rfl, (fun i h => by cases h), .nil, rfl⟩
    · rintro ⟨h, _⟩; exact List.length_eq_zero_iff.mp h
  | c :: a, k, r, hk => by
    rw [rows_RB n c a _ k rfl hk, List.mem_flatMap]
    constructor
    · rintro ⟨i, hi, hr⟩
      have hi := List.mem_range.mp hi
      by_cases hh : hitC c (n.getD (k + i) 0) = true
      · rw [RB_hit hh] at hr
        obtain ⟨t, ht, rfl⟩ := List.mem_map.mp hr
        obtain ⟨g1, g2, g3, g4⟩ := (rows_iff n a (k + i + 1) t (by omega)).mp ht
        refine ⟨by rw [List.length_cons, List.length_cons, g1], fun j hj => ?_, List.pairwise_cons.mpr ⟨fun j hj => by have := (g2 j hj).1; omega, g3⟩, ?_⟩
        · rcases List.mem_cons.mp hj with e | hj
          · rw [e]; omega
          · have := g2 j hj; omega
        · unfold hitsB at g4 ⊢
          rw [List.zip_cons_cons, List.all_cons, g4, Bool.and_true]
          exact hh
      · rw [RB_miss (by simpa using hh)] at hr
        cases hr
    · rintro ⟨g1, g2, g3, g4⟩
      cases r with
      | nil => simp at g1
      | cons p t =>
        have hp := g2 p List.mem_cons_self
        have g3 := List.pairwise_cons.mp g3
        unfold hitsB at g4
        rw [List.zip_cons_cons, List.all_cons, Bool.and_eq_true] at g4
        refine ⟨p - k, List.mem_range.mpr (by omega), ?_⟩
        rw [show k + (p - k) = p by omega, RB_hit g4.1]
        refine List.mem_map.mpr ⟨t, (rows_iff n a (p + 1) t (by omega)).mpr ⟨by simpa using g1, fun j hj => ⟨g3.1 j hj, (g2 j (List.mem_cons_of_mem _ hj)).2⟩, g3.2, g4.2⟩, rfl⟩
theorem rows_iff0 (a n r : List Nat) : r ∈ rowsS a n 0 ↔ r.length = a.length ∧ (∀ i ∈ r, i < n.length) ∧ r.Pairwise (· < ·) ∧ hitsB a n r = true := by
  have := rows_iff n a 0 r (Nat.zero_le _)
  rw [List.drop_zero] at this
  rw [this]
  simp
theorem pl_rows {a n : List Nat} {d : PyData} (h : plB a n d = true) : d = rowD (natsOf d) ∧ natsOf d ∈ rowsS a n 0 := by
  unfold plB at h
  rw [Bool.and_eq_true, Bool.and_eq_true] at h
  obtain ⟨⟨h1, h2⟩, h3⟩ := h
  rw [Bool.and_eq_true, Bool.and_eq_true] at h1
  obtain ⟨⟨h0, hl⟩, hc⟩ := h1
  have hs : spots n.length d = true := by
    unfold spots
    rw [h0, hc, h2]
    rfl
  obtain ⟨e, g1, g2⟩ := spots_nats hs
  refine ⟨e, (rows_iff0 a n _).mpr ⟨?_, g1, g2, h3⟩⟩
  unfold natsOf
  rw [List.length_map]
  exact of_decide_eq_true hl
theorem rows_pl {a n r : List Nat} (h : r ∈ rowsS a n 0) : plB a n (rowD r) = true := by
  obtain ⟨g1, g2, g3, g4⟩ := (rows_iff0 a n r).mp h
  have hs := spots_ok g2 g3
  unfold spots at hs
  rw [Bool.and_eq_true, Bool.and_eq_true] at hs
  unfold plB
  rw [show (lsOf (rowD r)).length = r.length from by show (r.map natI).length = _; rw [List.length_map], decide_eq_true g1, show natsOf (rowD r) = r from nats_self r, g4]
  have e1 : (lsOf (rowD r)).all (fun e => isCnt e 0 ((n.length : Int) - 1)) = true := hs.1.2
  have e2 : riseI ((lsOf (rowD r)).map intOf) = true := hs.2
  rw [e1, e2]
  rfl
def R_need_places (C0 C1 C3 : Addr) (ds : List PyData) (r : Res) : Prop := ∃ d1 d2 d3, ds = [d1, d2, d3] ∧ okd d1 ∧ okd d2 ∧ (lsOf d3).length ≤ 10000 ∧
  r = if isAsk d1 = true then (if isName d2 = true then (if plB (cod d1) (cod d2) d3 = true then .ok .none else .error C3) else .error C0) else .error C1
def R_worth_of (ds : List PyData) (r : Res) : Prop := ∃ M a n q, ds = [mkD M, tx a, tx n, rowD q] ∧ okM M ∧ q ∈ rowsS a n 0 ∧ n.length ≤ 10000 ∧ r = .ok (.int (wr M n a q))
def R_worth (C0 C1 C2 C3 : Addr) (ds : List PyData) (r : Res) : Prop := ∃ d1 d2 d3 d4, ds = [d1, d2, d3, d4] ∧ okT d1 ∧ okd d2 ∧ okd d3 ∧ (lsOf d4).length ≤ 10000 ∧
  r = if isMarks d1 = true then (if isAsk d2 = true then (if isName d3 = true then (if plB (cod d2) (cod d3) d4 = true then .ok (.int (wr (mkOf d1) (cod d3) (cod d2) (natsOf d4))) else .error C3) else .error C0) else .error C1) else .error C2
theorem wr_sum {M : Mk} {n : List Nat} : ∀ {a r : List Nat}, r.length = a.length → ((a.zip r).map fun q => ow M q.1 n q.2).sum + ((r.dropLast.zip r.tail).map fun q => gw M q.1 q.2).sum = wr M n a r
  | [], r, h => by
    have : r = [] := List.length_eq_zero_iff.mp h
    subst this
    rfl
  | c :: a, [], h => by simp at h
  | c :: a, [p], h => by
    have : a = [] := List.length_eq_zero_iff.mp (by simpa using h.symm)
    subst this
    simp [wr, gp]
  | c :: a, p :: q :: r, h => by
    have ih := wr_sum (M := M) (n := n) (a := a) (r := q :: r) (by simpa using h)
    show _ = ow M c n p + gw M p q + wr M n a (q :: r)
    rw [← ih]
    simp only [List.zip_cons_cons, List.map_cons, List.sum_cons, List.dropLast_cons₂, List.tail_cons]
    omega
theorem gp_app (M : Mk) (p q : Nat) (r : List Nat) : gp M p (r ++ [q]) = match r with | [] => gw M p q | s :: _ => gw M p s := by cases r <;> rfl
def gl (M : Mk) (p : Nat) : Option Nat → Int
  | none => 0
  | some q => gw M q p
theorem wr_snoc (M : Mk) (n : List Nat) (c p : Nat) : ∀ (a r : List Nat), r.length = a.length → wr M n (a ++ [c]) (r ++ [p]) = wr M n a r + gl M p r.getLast? + ow M c n p
  | [], r, h => by
    have : r = [] := List.length_eq_zero_iff.mp h
    subst this
    simp [wr, gp, gl]
  | d :: a, [], h => by simp at h
  | d :: a, [q], h => by
    have : a = [] := List.length_eq_zero_iff.mp (by simpa using h.symm)
    subst this
    show ow M d n q + gw M q p + (ow M c n p + 0 + 0) = ow M d n q + 0 + 0 + gw M q p + ow M c n p
    omega
  | d :: a, q :: s :: r, h => by
    have ih := wr_snoc M n c p a (s :: r) (by simpa using h)
    show ow M d n q + gw M q s + wr M n (a ++ [c]) (s :: r ++ [p]) = ow M d n q + gw M q s + wr M n a (s :: r) + gl M p (q :: s :: r).getLast? + ow M c n p
    rw [ih, List.getLast?_cons_cons]
    omega
/-! ### the law's own reckoning -/
def R_law_worth (ds : List PyData) (r : Res) : Prop := ∃ M a n q, ds = [mkD M, tx a, tx n, rowD q] ∧ okM M ∧ isNm n = true ∧ a.length ≤ 100 ∧ q ∈ rowsS a n 0 ∧ r = .ok (.int (wr M n a q))
theorem enum_split {ds : List PyData} {pre post : List (Nat × PyData)} {x : Nat × PyData} (h : enumL ds = pre ++ x :: post) : pre.length < ds.length ∧ x = (pre.length, ds.getD pre.length .none) := by
  have hl : pre.length < ds.length := by
    have := congrArg List.length h
    unfold enumL at this
    simp at this
    omega
  refine ⟨hl, ?_⟩
  have h1 : (enumL ds)[pre.length]? = some x := by rw [h]; simp
  unfold enumL at h1
  rw [List.getElem?_map, List.getElem?_range hl] at h1
  exact (Option.some.inj h1).symm
theorem starts_in {n : List Nat} {p : Nat} (h : p < n.length) : inI (startsL n) (p : Int) = begins n p := by
  rw [any_nat]
  unfold startsL
  cases e : begins n p with
  | true => exact decide_eq_true (List.mem_filter.mpr ⟨List.mem_range.mpr h, e⟩)
  | false => exact decide_eq_false fun z => by rw [(List.mem_filter.mp z).2] at e; cases e
def R_law_best (ds : List PyData) (r : Res) : Prop := ∃ M a n, ds = [mkD M, tx a, tx n] ∧ okM M ∧ isNm n = true ∧ a.length ≤ 4 ∧ n.length ≤ 12 ∧ r = .ok (optB (bestL M a n))
theorem fm_spec {w : List Nat → Int} : ∀ {l : List (List Nat)}, l ≠ [] → ∃ m r, fmL w l = some (m, r) ∧ m ∈ l.map w ∧ (∀ y ∈ l.map w, y ≤ m) ∧ (l.filter fun x => decide (w x = m)).head? = some r
  | [], h => absurd rfl h
  | r :: l, _ => by
    rw [fm_cons]
    by_cases hl : l = []
    · subst hl
      refine ⟨w r, r, rfl, by simp, fun y hy => ?_, by simp⟩
      have : y = w r := by simpa using hy
      rw [this]
      exact Int.le_refl _
    · obtain ⟨m, q, h1, h2, h3, h4⟩ := fm_spec (w := w) hl
      rw [h1]
      simp only [cmb]
      by_cases hm : m > w r
      · rw [if_pos hm]
        refine ⟨m, q, rfl, List.mem_cons_of_mem _ h2, fun y hy => ?_, ?_⟩
        · rcases List.mem_cons.mp hy with e | hy
          · rw [e]; omega
          · exact h3 y hy
        · rw [List.filter_cons_of_neg (by simp; omega)]
          exact h4
      · rw [if_neg hm]
        refine ⟨w r, r, rfl, List.mem_cons_self, fun y hy => ?_, ?_⟩
        · rcases List.mem_cons.mp hy with e | hy
          · rw [e]; exact Int.le_refl _
          · have := h3 y hy; omega
        · rw [List.filter_cons_of_pos (by simp)]
          rfl
theorem at_head {α : Type} {f : α → PyData} {l : List α} {x : α} (h : l.head? = some x) : atI (l.map f) 0 = some (f x) := by
  cases l with
  | nil => cases h
  | cons a l => cases h; exact atI_nat (j := 0) rfl
theorem at_prev {q : List Nat} {k : Nat} (h : k < q.length) (h0 : 0 < k) : atI (q.map natI) ((k : Int) - 1) = some (natI (q.getD (k - 1) 0)) := by
  rw [show ((k : Int) - 1) = ((k - 1 : Nat) : Int) by omega]
  refine atI_nat ?_
  have hk1 : k - 1 < q.length := by omega
  rw [List.getElem?_map, List.getElem?_eq_getElem hk1, List.getD_eq_getElem?_getD, List.getElem?_eq_getElem hk1]
  rfl
theorem gw_at0 {M : Mk} {s p : Nat} (h : decide ((p : Int) - (s : Int) - 1 = 0) = true) : gw M s p = M.rn := by
  have := of_decide_eq_true h
  exact if_pos (by omega)
theorem gw_at1 {M : Mk} {s p : Nat} (h : decide ((p : Int) - (s : Int) - 1 = 0) = false) : gw M s p = 0 - M.sk * ((p : Int) - (s : Int) - 1) := by
  have := of_decide_eq_false h
  exact if_neg (by omega)
def R_law_refused (ds : List PyData) (r : Res) : Prop := ∃ M a n, ds = [mkD M, tx a, tx n] ∧ okM M ∧ isAs a = true ∧ r = .ok (.bool true)
theorem not_marks {d e : PyData} (h : e ∈ tpOf d) (g : isCnt e 0 50 = false) : isMarks d = false := by
  unfold isMarks
  have : ((tpOf d).all fun e => isCnt e 0 50) = false := by
    rw [Bool.eq_false_iff]
    intro z
    rw [List.all_eq_true.mp z e h] at g
    cases g
  rw [this, Bool.and_false]
theorem R_worth_er2 {C0 C1 C2 C3 : Addr} {d1 d2 d3 d4 : PyData} (h1 : okT d1) (h2 : okd d2) (h3 : okd d3) (h4 : (lsOf d4).length ≤ 10000) (h : isMarks d1 = false) : R_worth C0 C1 C2 C3 [d1, d2, d3, d4] (.error C2) := ⟨_, _, _, _, rfl, h1, h2, h3, h4, by rw [h]; rfl⟩
theorem R_best_er2 {C0 C1 C2 : Addr} {d1 d2 d3 : PyData} (h1 : okT d1) (h2 : okd d2) (h3 : okd d3) (h : isMarks d1 = false) : R_best C0 C1 C2 [d1, d2, d3] (.error C2) := ⟨_, _, _, rfl, h1, h2, h3, by rw [h]; rfl⟩
theorem R_worth_er1 {C0 C1 C2 C3 : Addr} {M : Mk} {d2 d3 d4 : PyData} (hM : okM M) (h2 : okd d2) (h3 : okd d3) (h4 : (lsOf d4).length ≤ 10000) (h : isAsk d2 = false) : R_worth C0 C1 C2 C3 [mkD M, d2, d3, d4] (.error C1) := ⟨_, _, _, _, rfl, okT_mk _, h2, h3, h4, by rw [if_pos (marks_ok hM), h]; rfl⟩
theorem R_best_er1 {C0 C1 C2 : Addr} {M : Mk} {d2 d3 : PyData} (hM : okM M) (h2 : okd d2) (h3 : okd d3) (h : isAsk d2 = false) : R_best C0 C1 C2 [mkD M, d2, d3] (.error C1) := ⟨_, _, _, rfl, okT_mk _, h2, h3, by rw [if_pos (marks_ok hM), h]; rfl⟩
theorem R_worth_er0 {C0 C1 C2 C3 : Addr} {M : Mk} {d2 d3 d4 : PyData} (hM : okM M) (h2 : okd d2) (h3 : okd d3) (h4 : (lsOf d4).length ≤ 10000) (ha : isAsk d2 = true) (h : isName d3 = false) : R_worth C0 C1 C2 C3 [mkD M, d2, d3, d4] (.error C0) := ⟨_, _, _, _, rfl, okT_mk _, h2, h3, h4, by rw [if_pos (marks_ok hM), if_pos ha, h]; rfl⟩
theorem R_best_er0 {C0 C1 C2 : Addr} {M : Mk} {d2 d3 : PyData} (hM : okM M) (h2 : okd d2) (h3 : okd d3) (ha : isAsk d2 = true) (h : isName d3 = false) : R_best C0 C1 C2 [mkD M, d2, d3] (.error C0) := ⟨_, _, _, rfl, okT_mk _, h2, h3, by rw [if_pos (marks_ok hM), if_pos ha, h]; rfl⟩
def rW (C3 : Addr) (M : Mk) (a n : List Nat) (d : PyData) : Res := if plB a n d = true then .ok (.int (wr M n a (natsOf d))) else .error C3
theorem R_worth_as {C0 C1 C2 C3 : Addr} {M : Mk} {a n : List Nat} {d : PyData} (hM : okM M) (ha : isAs a = true) (hn : isNm n = true) (hz : (lsOf d).length ≤ 10000) : R_worth C0 C1 C2 C3 [mkD M, tx a, tx n, d] (rW C3 M a n d) :=
  ⟨_, _, _, _, rfl, okT_mk _, okd_tx (by have := isAs_len ha; omega), okd_tx (by have := isNm_len hn; omega), hz, by rw [if_pos (marks_ok hM), isAsk_tx, if_pos ha, isName_tx, if_pos hn, mkOf_self, cod_tx, cod_tx]; rfl⟩
theorem R_worth_ok {C0 C1 C2 C3 : Addr} {M : Mk} {a n q : List Nat} (hM : okM M) (ha : isAs a = true) (hn : isNm n = true) (hq : q ∈ rowsS a n 0) : R_worth C0 C1 C2 C3 [mkD M, tx a, tx n, rowD q] (.ok (.int (wr M n a q))) := by
  have hl := rows_mem hq
  have hal := isAs_len ha
  have := R_worth_as (C0 := C0) (C1 := C1) (C2 := C2) (C3 := C3) (d := rowD q) hM ha hn (by show (q.map natI).length ≤ 10000; rw [List.length_map]; omega)
  unfold rW at this
  rw [if_pos (rows_pl hq), show natsOf (rowD q) = q from nats_self q] at this
  exact this
def zW (M : Mk) (a n : List Nat) (d : PyData) : PyData := if plB a n d = true then .int (wr M n a (natsOf d)) else tx [66, 97, 100, 80, 108, 97, 99, 101, 115]
theorem zW_lay {M : Mk} {a n : List Nat} {d : PyData} : Lay 0 (zW M a n d) := by
  unfold zW
  split
  · exact lay_int
  · exact lay_tx (by decide)
def frL (a n : List Nat) : List Nat := (rowsS a n 0).headD (List.range a.length)
theorem fr_yes {a n : List Nat} (hb : (!PyData.eqv (.list ((rowsS a n 0).map rowD)) (.list [])) = true) : atI ((rowsS a n 0).map rowD) 0 = some (rowD (frL a n)) := by
  rw [rows_ne] at hb
  unfold frL
  cases q : rowsS a n 0 with
  | nil => rw [q] at hb; cases hb
  | cons r R => exact atI_nat (j := 0) rfl
theorem fr_no {a n : List Nat} (hb : (!PyData.eqv (.list ((rowsS a n 0).map rowD)) (.list [])) = false) : PyData.list ((List.range ((a.length : Nat) : Int).toNat).map fun (k : Nat) => PyData.int (0 + (k : Int))) = rowD (frL a n) := by
  rw [rows_ne] at hb
  have : rowsS a n 0 = [] := by simpa using hb
  unfold frL
  rw [this, Int.toNat_natCast]
  unfold rowD
  congr 1
  refine List.map_congr_left fun k _ => ?_
  simp [natI]
theorem fr_len {a n : List Nat} : (frL a n).length = a.length := by
  unfold frL
  cases q : rowsS a n 0 with
  | nil => simp
  | cons r R => exact rows_mem (a := a) (n := n) (k := 0) (by rw [q]; exact List.mem_cons_self)
theorem lay_flat {ds : List PyData} (h : ∀ d ∈ ds, Lay 0 d) : Lay 2 (.list ds) ∧ Lay 2 (.tuple ds) := ⟨(lay_list (n := 0) h).mono (by decide), (lay_tuple (n := 0) h).mono (by decide)⟩
theorem lay_best {b : Bst} : Lay 2 (optB b) := by
  cases b with
  | none => exact lay_none
  | some q =>
    refine lay_tuple (n := 1) fun d hd => ?_
    rcases List.mem_cons.mp hd with rfl | hd
    · exact lay_int
    · rw [List.mem_singleton.mp hd]; exact lay_nats
end Lf
set_option Elab.async false
set_option linter.all false
set_option maxRecDepth 100000
set_option maxHeartbeats 1000000
namespace Lf
open PySem PySem.Spec PyProof.Rows L2 L2H HotX LamX
/-! ### sorted(rows, key=lambda row: (0 - row[2], len(row[1]), row[0])) -/
section
variable {prog : Program} {w : World} {A : Around} {E : Value → Shared → Prop} {s : Shared} {env : Env} {m mg mb : Str → Option Value} {t : Addr}
theorem sk_row {Q : Value → Shared → Prop} {x : Str} {p pos pc : Pos} {j : Int} {i kd : Nat} {its : List Value} {v : Value} (hk : env.scope.kind = .function) (hl : env.kindOf x = some .local) (hn : s.heap.Ns env.locals m) (hv : m x = some (.ref t)) (ht : IsTup s.heap t its.toArray) (hz : its.length ≤ 64) (hi : its[i]? = some v) (hj : j = (i : Int))
    (h : ∀ tk, Q v { s with toks := tk }) (hdb : (x == ("__debug__" : Str)) = false := by decide) : wpAny (model prog w) A (eval (.Subscript (.Name x p) (.Constant (.int j) kd pc) pos) env) Q E s := by
  subst hj
  refine Subscript_ (wpAny_Name (wpAny_loadName_local hk hl hn hv (wpAny_Constant_int ?_)) hdb)
  have h2 : i < its.length := (List.getElem?_eq_some_iff.mp hi).1
  refine subscriptTail_builtinR (x := v) (IsTup.typeIs (s := { s with toks := s.toks + 1 }) ht) slot_tuple_getitem.lookup (getItem_tuple (j := i) ht (by omega) (by omega) ?_ (by simpa using hi) ⟨rfl, h _⟩)
  rw [List.size_toArray]
  unfold seqIndex?
  simp
  omega
theorem sk_body {x : Str} {a0 wv : Int} {t0 t1 t2 : Tok} {nm : Str} {pl : Value} {x1 : Nat} {k1 k2 k3 k4 : Nat} {p1 p2 p3 p4 p5 p6 p7 p8 p9 p10 p11 p12 p13 p14 : Pos} (hk : env.scope.kind = .function) (hl : env.kindOf x = some .local) (hg : env.kindOf "len" = some .globalImplicit) (hG : s.heap.Ns env.globals mg) (hmg : mg "len" = none)
    (hB : s.heap.Ns env.builtins mb) (hmb : mb "len" = some (.builtin "len")) (hn : s.heap.Ns env.locals m) (hv : m x = some (.ref t)) (ht : IsTup s.heap t [.int a0 t0, .str nm t1, .int wv t2, pl].toArray) (hz : nm.length ≤ sizeLine) (hdb : (x == ("__debug__" : Str)) = false := by decide) :
    wpAny (model prog w) A (eval (.Tuple [.BinOp (.Constant (.int 0) k1 p1) .Sub (.Subscript (.Name x p2) (.Constant (.int 2) k2 p3) p4) p5, .Call (.Name "len" p6) [.Subscript (.Name x p7) (.Constant (.int 1) k3 p8) p9] [] p10, .Subscript (.Name x p11) (.Constant (.int 0) k4 p12) p13] x1 p14) env)
      (PySem.W.KeyPure (.tuple [.int (0 - wv), .int nm.length, .int a0]) s) E s := by
  have hl63 := line63
  refine wpAny_Tuple_spliced ?_
  refine args_cons (wpAny_BinOp (wpAny_Constant_int (sk_row (i := 2) hk hl hn hv ht (by simp) rfl rfl (fun tk => sub_int ?_) hdb))) rfl
  refine args_cons (Call_ (Calls.Name_function_global hk hg (Calls.loadGlobal_builtin hG hmg hB hmb (PyProof.Rows.callWith_builtin1 (args_cons (sk_row (i := 1) hk hl hn hv ht (by simp) rfl rfl (fun tk => args_nil (len_str (by omega) ?_)) hdb) rfl) rfl rfl)))) rfl
  refine args_cons (sk_row (i := 0) hk hl hn hv ht (by simp) rfl rfl (fun tk => args_nil ⟨(by show 3 ≤ sizeLine; rw [sizeLine_eq]; decide), ?_⟩) hdb) rfl
  exact ⟨_, _, rfl, fun b o e => Heap.get?_push_of_some _ e, .tuple (as := []) (Heap.get?_push_size _ rfl) rfl rfl (.cons (.int _ _) (.cons (.int _ _) (.cons (.int _ _) .nil)))⟩
abbrev skBody (x : Str) (x1 : Nat) (k1 k2 k3 k4 : Nat) (p1 p2 p3 p4 p5 p6 p7 p8 p9 p10 p11 p12 p13 p14 : Pos) : Expr :=
  .Tuple [.BinOp (.Constant (.int 0) k1 p1) .Sub (.Subscript (.Name x p2) (.Constant (.int 2) k2 p3) p4) p5, .Call (.Name "len" p6) [.Subscript (.Name x p7) (.Constant (.int 1) k3 p8) p9] [] p10, .Subscript (.Name x p11) (.Constant (.int 0) k4 p12) p13] x1 p14
theorem sk_call {x q : Str} {f c' : Addr} {params : Arguments} {scope : Scope} {cl : List (Str × Addr)} {pm ctv : Value} {a0 wv : Int} {t0 t1 t2 : Tok} {nm : Str} {pl : Value} {x1 : Nat} {k1 k2 k3 k4 : Nat} {p1 p2 p3 p4 p5 p6 p7 p8 p9 p10 p11 p12 p13 p14 : Pos}
    (hd : A.depth < recursionLimit) (of : s.heap.get? f = some (PySem.W.kla_obj "<lambda>" q params (skBody x x1 k1 k2 k3 k4 p1 p2 p3 p4 p5 p6 p7 p8 p9 p10 p11 p12 p13 p14) scope cl pm c' ctv)) (hco : scope.isCoroutine = false) (hgen : scope.isGenerator = false) (hk : scope.kind = .function) (own : ∀ y ∈ scope.names, y.2 ≠ .cell)
    (hl : scope.names.lookup x = some .local) (hg : scope.names.lookup ("len" : Str) = some .globalImplicit) (hcode : s.heap.CodeRec (.ref c') q) (hlim : s.heap.NoLimit)
    (hbind : ∀ v, bindArgs (PySem.W.kla_fn "<lambda>" q params (skBody x x1 k1 k2 k3 k4 p1 p2 p3 p4 p5 p6 p7 p8 p9 p10 p11 p12 p13 p14) scope cl pm (.ref c') ctv) ⟨[v], []⟩ = pure [(x, v)])
    (hG : s.heap.Ns mainGlobals mg) (hmg : mg "len" = none) (hB : s.heap.Ns builtinsNs mb) (hmb : mb "len" = some (.builtin "len")) (ht : IsTup s.heap t [.int a0 t0, .str nm t1, .int wv t2, pl].toArray) (hz : nm.length ≤ sizeLine) (hdb : (x == ("__debug__" : Str)) = false := by decide) :
    wpAny (model prog w) A (call (.ref f) [.ref t]) (PySem.W.KeyPure (.tuple [.int (0 - wv), .int nm.length, .int a0]) s) (fun _ _ => False) s := by
  refine wpAny_call (PySem.W.kla_callFunE hd of rfl hco hgen rfl hcode ?_)
  rw [hbind]
  refine wpAny_pure (wpAny_newFunctionEnv own (fun y hy => ?_) (fun h1 hns hsb => ⟨hlim.fresh _ hsb, ?_⟩) hk)
  · obtain rfl : y = (x, Value.ref t) := by simpa using hy
    exact hl
  have kp : ∀ b o, s.heap.get? b = some o → h1.get? b = some o := fun b o e => hsb.extBut b o (Nat.ne_of_lt (Heap.lt_size e)) (Heap.get?_push_of_some _ e)
  refine PySem.W.kla_codeExpr (wpAny_mono (sk_body (s := { s with heap := h1, toks := s.toks + [(x, Value.ref t)].length }) (m := fun y => [(x, Value.ref t)].reverse.lookup y) hk hl hg (hG.keeps kp) hmg (hB.keeps kp) hmb hns (by simp) (ht.keeps kp) hz hdb) (fun v s' hq => ?_) fun e s' hq => hq)
  obtain ⟨h', tk, rfl, k2, r⟩ := hq
  exact ⟨h', tk, rfl, fun b o e => k2 b o (kp b o e), r⟩
end
/-- a row: number, name, worth, places -/
abbrev Rk := Int × Str × Int × PyData
def rkD (b : Rk) : PyData := .tuple [.int b.1, .str b.2.1, .int b.2.2.1, b.2.2.2]
def rkK (b : Rk) : PyData := .tuple [.int (0 - b.2.2.1), .int b.2.1.length, .int b.1]
def rkS (bs : List Rk) : List Rk := bs.mergeSort (PySem.W.dataLe false rkK)
theorem each_rk {O : Addr → Prop} {H : Hp} : ∀ {bs : List Rk} {xs : List V} {us : List Value}, DtAll O H (bs.map rkD) xs → Vals xs us → PySem.W.EachIs (fun u b => ∃ x, RelV x u ∧ Dt O H (rkD b) x) us bs
  | [], _, _, h, r => by
    cases (show _ = ([] : List V) from h)
    cases r
    exact .nil
  | b :: bs, _, _, h, r => by
    obtain ⟨x, xs, rfl, h1, h2⟩ := h
    cases r with
    | cons rx rr => exact .cons ⟨x, rx, h1⟩ (each_rk h2 rr)
theorem of_each_rk {O : Addr → Prop} {H : Hp} : ∀ {bs : List Rk} {us : List Value}, PySem.W.EachIs (fun u b => ∃ x, RelV x u ∧ Dt O H (rkD b) x) us bs → ∃ xs, Vals xs us ∧ DtAll O H (bs.map rkD) xs
  | _, _, .nil => ⟨[], .nil, rfl⟩
  | _, _, .cons ⟨x, r, h⟩ t => by
    obtain ⟨xs, a, b⟩ := of_each_rk t
    exact ⟨x :: xs, .cons r a, x, xs, rfl, h, b⟩
theorem rk_alike (bs : List Rk) : PySem.W.AllAlike (bs.map rkK) := PySem.W.AllAlike.of fun _ _ => by simp [PySem.W.alike, PySem.W.alikeAll, rkK]
theorem rk_sortable (bs : List Rk) : PySem.W.Sortable (bs.map rkK) := PySem.W.Sortable.tuples fun _ => ⟨_, _, rfl⟩
section
variable {Kf : PySem.W.Frag} {Tf : List (Addr × Str)} {F : Fx Kf Tf} {δ : List Slot} {X : Cx} {N : List Str} {sc : Scope} {pos p lpos kpos : Pos}
theorem x_ranked {e : Expr} {bs : List Rk} {c P : Addr} {q x : Str} {params : Arguments} {scope : Scope} {x1 k1 k2 k3 k4 : Nat} {p1 p2 p3 p4 p5 p6 p7 p8 p9 p10 p11 p12 p13 p14 : Pos} (cx : Ctx X N sc) (co : Co X c q) (TB : TabB X.base X.mg c P) (hm : (P, q ++ "<lambda>") ∈ Tf) (hu : ∀ p ∈ Tf, p.1 = P → p.2 = q ++ "<lambda>")
    (hr : Room 2 X.A) (hms : X.mg "sorted" = none) (hml : X.mg "len" = none) (ha : PE X e (tD F δ (.list (bs.map rkD)))) (hz : ∀ b ∈ bs, b.2.1.length ≤ sizeLine)
    (hk : scope.kind = .function := by rfl) (hco : scope.isCoroutine = false := by rfl) (hgen : scope.isGenerator = false := by rfl) (hnf : ∀ y ∈ scope.names, y.2 ≠ .free := by decide +kernel) (hlc : ∀ y ∈ scope.names, y.2 ≠ .cell := by decide +kernel) (hlx : scope.names.lookup x = some .local := by decide +kernel) (hll : scope.names.lookup ("len" : Str) = some .globalImplicit := by decide +kernel) (hg : sc.names.lookup ("sorted" : Str) = some .globalImplicit := by rfl) (hdef : defaultsOf params X.env = ([], []) := by rfl)
    (hbind : ∀ (q : Str) (cl : List (Str × Addr)) (pm cv ctv v : Value), bindArgs (PySem.W.kla_fn "<lambda>" q params (skBody x x1 k1 k2 k3 k4 p1 p2 p3 p4 p5 p6 p7 p8 p9 p10 p11 p12 p13 p14) scope cl pm cv ctv) ⟨[v], []⟩ = pure [(x, v)] := by intros; rfl) (hdb : (x == ("__debug__" : Str)) = false := by decide)
    (he : ∀ pos, backTo pos (starEach [e] X.env) = (false, eval e X.env) :: backTo pos (starEach [] X.env) := by intros; rfl) :
    PE X (.Call (.Name "sorted" p) [e] [⟨some "key", .Lambda params (skBody x x1 k1 k2 k3 k4 p1 p2 p3 p4 p5 p6 p7 p8 p9 p10 p11 p12 p13 p14) scope lpos, kpos⟩] pos) (tD F δ (.list ((rkS bs).map rkD))) := by
  refine ⟨fun pins s σ H Q I h => ?_⟩
  obtain ⟨O, st, w⟩ := h
  refine wpAny_Call_Name_kw (ld_blt I (cx.gl hg) hms PyProof.Rows.boot_sorted ?_)
  refine PyProof.Rows.callWith_kw (?_) (he pos) (by rw [he]; rfl) rfl rfl
  rw [he]
  refine Calls.spliced_cons (thn (ha.run pins s σ H _ I ⟨O, st, fun v H1 e1 t1 d1 => (show (∃ O, StAt F O H σ δ ∧ Dt O H1 (.list (bs.map rkD)) v ∧ ExtN H H1 ∧ Tabs F.T H1 ∧ ∀ v H', ExtN H H' → Tabs F.T H' → Dt O H' (.list ((rkS bs).map rkD)) v → Q v H') from ⟨O, st, d1, e1, t1, w⟩)⟩) fun u s1 hq => ?_)
  obtain ⟨v, H1, I1, r1, O, st, d1, e1, t1, w⟩ := hq
  refine Calls.spliced_nil ?_
  show wpAny _ _ (evalAll ((do let v ← eval (.Lambda params _ scope lpos) X.env; standAt pos; pure v) :: [])) _ _ s1
  refine wpAny_evalAll_cons (wpAny_bind (lam_make2 (T := Tf) I1 TB co.code (by rw [co.qual]; exact hm) (by rw [co.qual]; exact hu) t1 hdef (fun y hy e => absurd e (hnf y hy)) fun f c' pm ctv H2 s2 I2 e2 t2 hf hfn hfr hcc => wpAny_bind (wpAny_standAt (wpAny_pure (wpAny_evalAll_nil ?_)))))
  obtain ⟨a, xs, rfl, na, ga, da⟩ := d1
  obtain rfl : u = Value.ref a := r1
  have ga2 : H2 a = some (.lst xs) := e2 _ _ ga (fun ps z => by cases z)
  have da2 : DtAll O H2 (bs.map rkD) xs := da.grow e2
  obtain ⟨its, rv, hl, hzl⟩ := I2.list (SqL.of ga2)
  have hln : bs.length = xs.length := by
    have := da2.len
    rw [List.length_map] at this
    omega
  obtain ⟨⟨oc, vs, tq, hoc, hdc, hvc⟩, _, _⟩ := I2.hok c' _ hcc
  obtain ⟨mb, hB1, hB2⟩ := I2.mod.blt
  show wpAny _ _ (call (.builtin "sorted") [.ref a] [(Str.ofString "key", .ref f)]) _ _ _
  refine PySem.W.sorted_key_data (b := false) (R := fun u b => ∃ x, RelV x u ∧ Dt O H2 (rkD b) x) rkK hl.isList (each_rk da2 rv) (rk_alike bs) (rk_sortable bs) (by omega) (fun b hb => ?_) (PyProof.Rows.ksk_s1 _ _) (fun _ => PyProof.Rows.ksk_l1 _ _) (fun _ => PyProof.Rows.ksk_t1 _ _) (fun v b hR hb h tk kp => ?_) fun out cc h' tk kp hnone hD ho eo => ?_
  · have hd : (rkK b).depth = 1 := by simp [rkK, PyData.depth, PyData.depthAll]
    have := hr.un
    omega
  · obtain ⟨x0, rx, dx⟩ := hR
    obtain ⟨t, ys, rfl, nt, gt, dt⟩ := dx
    obtain ⟨y0, _, rfl, h0, y1, _, rfl, h1, y2, _, rfl, h2, y3, _, rfl, h3, hnil⟩ := dt
    cases hnil
    obtain rfl : y0 = .int b.1 := h0
    obtain rfl : y1 = .str b.2.1 := h1
    obtain rfl : y2 = .int b.2.2.1 := h2
    obtain rfl : v = Value.ref t := rx
    obtain ⟨its', r', pl, _⟩ := I2.tuple (SqT.of gt)
    cases r' with
    | cons r0 r' => cases r' with
      | cons r1 r' => cases r' with
        | cons r2 r' => cases r' with
          | cons r3 r' =>
            cases r'
            obtain ⟨t0, rfl⟩ := r0
            obtain ⟨t1, rfl⟩ := r1
            obtain ⟨t2, rfl⟩ := r2
            refine sk_call (s := { s2 with heap := h, toks := tk }) (mg := X.mg) (mb := mb) ?_ (kp _ _ hf) hco hgen hk hlc hlx hll ⟨c', oc, vs, tq, rfl, kp _ _ hoc, hdc, hvc⟩ (I2.nolimit.keeps kp) (fun v => hbind _ _ _ _ _ v) ((I2.mod.glob.keeps I2.bk).keeps kp) hml ((hB1.keeps I2.bk).keeps kp) ((hB2 _ (by decide)).trans PySem.boot_len) (pl.keeps kp) (hz b hb) hdb
            have := hr.dp
            show X.A.depth < recursionLimit
            omega
  · obtain ⟨ys, r1, d1⟩ := of_each_rk eo
    have hlen : ys.length ≤ sizeLine := by
      rw [r1.length, ho, hln]
      exact hzl
    have hp : H2 (s2.heap.objs.size + 1) = none := I2.hok.fresh (Nat.le_succ _)
    refine ⟨.ref _, upd H2 (s2.heap.objs.size + 1) (.lst ys), I2.laid (t' := tk) kp (Nat.le_succ _) ⟨hlen, out, cc, r1, hD⟩, rfl, w _ _ ((e1.trans e2).trans (ext_new hp)) (tabs_new t2 hp) ?_⟩
    exact ⟨_, ys, rfl, fresh_ok (st.grow (e1.trans e2) t2).dom hp, upd_same, d1.grow (ext_new hp)⟩
end
end Lf
set_option Elab.async false
set_option linter.all false
set_option maxRecDepth 100000
set_option maxHeartbeats 1000000
namespace Lf
open PySem PySem.Spec PySem.W PyProof.Rows
/-! ### list(enumerate(list)) -/
def EnHd (S e it l : Addr) (items : Array Value) (i : Nat) (h : Heap) : Prop :=
  h.IsListIter it l i ∧ h.IsList l items ∧ ((∃ old, IsEnum h e it i old) ∨ ∃ old T f oT, IsEnumHeld h e it i old T f ∧ h.get? T = some oT ∧ T ≠ e ∧ T ≠ it ∧ T ≠ S)
structure EnAcc (S : Addr) (items : Array Value) (h : Heap) (as : List Addr) : Prop where
  above : ∀ a ∈ as, S < a
  lt : ∀ a ∈ as, a < h.objs.size
  rise : as.Pairwise (· < ·)
  pairs : ∀ (j : Nat) (a : Addr), as[j]? = some a → ∃ t x, items[j]? = some x ∧ h.get? a = some { cls := .type "tuple", data := .seq #[.int (j : Int) t, x] }
theorem EnAcc.keep {S : Addr} {items : Array Value} {h h' : Heap} {as : List Addr} (x : EnAcc S items h as) (k : ∀ b o, S < b → h.get? b = some o → h'.get? b = some o) : EnAcc S items h' as where
  above := x.above
  lt := fun a ha => by
    obtain ⟨j, hj⟩ := List.getElem?_of_mem ha
    obtain ⟨t, y, _, e⟩ := x.pairs j a hj
    exact Heap.lt_size (k a _ (x.above a ha) e)
  rise := x.rise
  pairs := fun j a hj => by
    obtain ⟨t, y, e1, e2⟩ := x.pairs j a hj
    exact ⟨t, y, e1, k a _ (x.above a (List.mem_of_getElem? hj)) e2⟩
theorem EnAcc.nil {S : Addr} {items : Array Value} {h : Heap} : EnAcc S items h [] := ⟨(fun a ha => absurd ha (by simp)), (fun a ha => absurd ha (by simp)), List.Pairwise.nil, (fun j a hj => by simp at hj)⟩
theorem EnAcc.snoc {S T : Addr} {items : Array Value} {h : Heap} {as : List Addr} {t : Tok} {x : Value} (y : EnAcc S items h as) (hS : S < T) (hT : ∀ a ∈ as, a < T) (hx : items[as.length]? = some x) (ho : h.get? T = some { cls := .type "tuple", data := .seq #[.int (as.length : Int) t, x] }) : EnAcc S items h (as ++ [T]) where
  above := fun a ha => by
    rcases List.mem_append.mp ha with z | z
    · exact y.above a z
    · rw [List.mem_singleton.mp z]; exact hS
  lt := fun a ha => by
    rcases List.mem_append.mp ha with z | z
    · exact y.lt a z
    · rw [List.mem_singleton.mp z]; exact Heap.lt_size ho
  rise := List.pairwise_append.mpr ⟨y.rise, List.pairwise_singleton _ _, fun a ha b hb => by rw [List.mem_singleton.mp hb]; exact hT a ha⟩
  pairs := fun j a hj => by
    by_cases hl : j < as.length
    · rw [List.getElem?_append_left hl] at hj
      exact y.pairs j a hj
    · rw [List.getElem?_append_right (by omega)] at hj
      have : j - as.length = 0 := by
        have := (List.getElem?_eq_some_iff.mp hj).1
        simp at this
        omega
      rw [this] at hj
      have e : T = a := by simpa using hj
      have e2 : j = as.length := by omega
      subst e2
      rw [← e]
      exact ⟨t, x, hx, ho⟩
section
variable {prog : Program} {w : World} {A : Around} {R : Result → Shared → Prop} {S e it l : Addr} {items : Array Value}
theorem en_loop (hA : A.in1.handled = none) (hei : e ≠ it) (he : e < S) (hit : it < S) (hl : l < S) (hle : l ≠ e) (hli : l ≠ it) (hn : items.size ≤ sizeLine) (res : Value) :
    ∀ (k i : Nat) (s : Shared) (acc : Array Value) (c : Nat) (as : List Addr), items.size - i = k → i ≤ items.size → EnHd S e it l items i s.heap → s.heap.get? S = some { cls := .type "list", dict := none, data := .seq acc c, slots := #[] } → EnAcc S items s.heap as → acc.toList = as.map Value.ref → as.length = i →
    (∀ h' tk acc' c' as', (∀ b o, b ≠ S → b ≠ e → b ≠ it → s.heap.get? b = some o → h'.get? b = some o) → h'.get? S = some { cls := .type "list", dict := none, data := .seq acc' c', slots := #[] } → EnAcc S items h' as' → acc'.toList = as'.map Value.ref → as'.length = items.size → R (.ok (.ret res)) { s with heap := h', toks := tk }) →
    codeAny (model prog w) A (.builtin "list.extend.loop" ⟨[.ref S, .ref e, res], []⟩) R s := by
  intro k
  induction k with
  | zero =>
    intro i s acc c as hk hi hst hS ha hc hlen hR
    have hin : i = items.size := by omega
    subst hin
    refine codeAny_builtin F.entry_extend_loop ?_
    rw [Around.under_plainId F.plain_extend_loop _]
    show wpAny _ A.in1 (pyNext (.ref e) >>= _) _ _ s
    obtain ⟨h1, h2, h3⟩ := hst
    have hx : items[items.size]? = none := Array.getElem?_eq_none (Nat.le_refl _)
    have fin : ∀ h', Heap.ExtBut it s.heap h' → R (.ok (.ret res)) { s with heap := h' } := fun h' hk => hR h' s.toks acc c as (fun b o _ _ hb q => hk b o hb q) (hk S _ (Nat.ne_of_gt hit) hS) (ha.keep fun b o hb q => hk b o (Nat.ne_of_gt (Nat.lt_trans hit hb)) q) hc hlen
    rcases h3 with ⟨old, h3⟩ | ⟨old, T, f, oT, h3, hT, r1, r2, r3⟩
    · exact wpAny_bind (wpAny_pyNext_enum_end hA h3 h1 h2 hx fun h' hk => wpAny_pure (fin h' hk))
    · exact wpAny_bind (wpAny_pyNext_enum_end_held hA h3 h1 h2 hx fun h' hk => wpAny_pure (fin h' hk))
  | succ k ih =>
    intro i s acc c as hk hi hst hS ha hc hlen hR
    have hlt : i < items.size := by omega
    refine codeAny_builtin F.entry_extend_loop ?_
    rw [Around.under_plainId F.plain_extend_loop _]
    show wpAny _ A.in1 (pyNext (.ref e) >>= _) _ _ s
    obtain ⟨h1, h2, h3⟩ := hst
    have ex := Array.getElem?_eq_getElem hlt
    have hSs : S < s.heap.objs.size := Heap.lt_size hS
    have ec : ((i + 1 : Nat) : Int) = (i : Int) + 1 := by omega
    have hacc : acc.size = i := by
      have := congrArg List.length hc
      rw [Array.length_toList, List.length_map] at this
      omega
    -- what is common: the tuple at T is put behind the list
    have go : ∀ h', h'.IsListIter it l (i + 1) → (∃ old T f oT, IsEnumHeld h' e it ((i : Int) + 1) old T f ∧ h'.get? T = some oT ∧ T ≠ e ∧ T ≠ it ∧ T ≠ S) → h'.get? s.heap.objs.size = some { cls := .type "tuple", data := .seq #[.int (i : Int) s.toks, items[i]] } → (∀ b o, b ≠ e → b ≠ it → s.heap.get? b = some o → h'.get? b = some o) →
        wpAny (model prog w) A.in1 (updateSeq S (·.push (.ref s.heap.objs.size)) >>= fun _ => again (.builtin "list.extend.loop" ⟨[.ref S, .ref e, res], []⟩))
          (fun fin s' => match fin with | .done f => R (.ok f) s' | .again c' => c'.quiet = true ∧ codeAny (model prog w) A c' R s') (fun e s' => R (.error e) s') { s with heap := h', toks := s.toks + 1 } := by
      intro h' q1 ⟨old, T, f, oT, q2, qT, r1, r2, r3⟩ q3 q4
      have hS' : h'.get? S = some { cls := .type "list", dict := none, data := .seq acc c, slots := #[] } := q4 S _ (Nat.ne_of_gt he) (Nat.ne_of_gt hit) hS
      have up : ∀ b o, b ≠ S → h'.get? b = some o → (h'.update S (Obj.mapSeq (·.push (.ref s.heap.objs.size)))).get? b = some o := fun b o hb q => (Heap.get?_update_other _ _ (Ne.symm hb)).trans q
      refine wpAny_bind (wpAny_updateSeq hS' rfl (wpAny_pure ⟨plainId_quiet F.plain_extend_loop _, ih (i + 1) _ (acc.push (.ref s.heap.objs.size)) _ (as ++ [s.heap.objs.size]) (by omega) hlt ⟨?_, ?_, .inr ⟨old, T, f, oT, ?_, up T _ r3 qT, r1, r2, r3⟩⟩ (Heap.get?_update_self _ hS' rfl) ?_ ?_ ?_ fun h'' tk acc' c' as' k2 a1 a2 a3 a4 => ?_⟩) (by rw [hacc]; omega) (by show (acc.push _).size ≤ sizeLine + 1; rw [Array.size_push, hacc]; omega))
      · exact q1.at fun o q => up _ _ (Nat.ne_of_lt hit) q
      · exact h2.at fun o q => up _ _ (Nat.ne_of_lt hl) (q4 _ _ hle hli q)
      · rw [ec]
        exact up _ _ (Nat.ne_of_lt he) q2
      · refine EnAcc.snoc (t := s.toks) (x := items[i]) (ha.keep fun b o hb q => up b o (Nat.ne_of_gt hb) (q4 b o (Nat.ne_of_gt (Nat.lt_trans he hb)) (Nat.ne_of_gt (Nat.lt_trans hit hb)) q)) hSs ha.lt (by rw [hlen]; exact ex) ?_
        rw [hlen]
        exact up _ _ (Nat.ne_of_gt hSs) q3
      · simp [hc]
      · simp [hlen]
      · exact hR h'' tk acc' c' as' (fun b o b1 b2 b3 q => k2 b o b1 b2 b3 (up b o b1 (q4 b o b2 b3 q))) a1 a2 a3 a4
    rcases h3 with ⟨old, h3⟩ | ⟨old, T, f, oT, h3, hT, r1, r2, r3⟩
    · refine wpAny_bind (wpAny_pyNext_enum_item h3 h1 h2 ex hei fun h' ho hit' hT hsz hk => ?_)
      exact go h' hit' ⟨_, s.heap.objs.size, false, _, ho, hT, Nat.ne_of_gt (Nat.lt_trans he hSs), Nat.ne_of_gt (Nat.lt_trans hit hSs), Nat.ne_of_gt hSs⟩ hT hk
    · refine wpAny_bind (wpAny_pyNext_enum_item_held h3 hT r1 r2 h1 h2 ex hei fun h' ho hit' hT' hsz hk => ?_)
      exact go h' hit' ⟨old, T, true, oT, ho, hk _ _ r1 r2 hT, r1, r2, r3⟩ hT' hk
theorem en_no_len : typeLookup (.type "enumerate") "__len__" = pure none := by rw [typeLookup_type, builtinLookup_eq_fast]; kernel_rfl
theorem en_no_hint : typeLookup (.type "enumerate") "__length_hint__" = pure none := by rw [typeLookup_type, builtinLookup_eq_fast]; kernel_rfl
abbrev lstO (acc : Array Value) (c : Nat) : Obj := { cls := .type "list", dict := none, data := .seq acc c, slots := #[] }
theorem EnHd.upd {i : Nat} {h h' : Heap} (x : EnHd S e it l items i h) (he : e ≠ S) (hit : it ≠ S) (hl : l ≠ S) (k : ∀ b o, b ≠ S → h.get? b = some o → h'.get? b = some o) : EnHd S e it l items i h' := by
  obtain ⟨h1, h2, h3⟩ := x
  refine ⟨h1.at fun o q => k _ o hit q, h2.at fun o q => k _ o hl q, ?_⟩
  rcases h3 with ⟨old, h3⟩ | ⟨old, T, f, oT, h3, hT, r1, r2, r3⟩
  · exact .inl ⟨old, k _ _ he h3⟩
  · exact .inr ⟨old, T, f, oT, k _ _ he h3, k _ _ r3 hT, r1, r2, r3⟩
theorem en_extend {s : Shared} {old : Value} (hA : A.in1.handled = none) (hei : e ≠ it) (he : e < S) (hit : it < S) (hl : l < S) (hle : l ≠ e) (hli : l ≠ it) (hn : items.size ≤ sizeLine) (res : Value) (hst : EnHd S e it l items 0 s.heap) (hE : IsEnum s.heap e it 0 old) {c : Nat} (hS : s.heap.get? S = some (lstO #[] c))
    (hR : ∀ h' tk acc' c' as', (∀ b o, b ≠ S → b ≠ e → b ≠ it → s.heap.get? b = some o → h'.get? b = some o) → h'.get? S = some (lstO acc' c') → EnAcc S items h' as' → acc'.toList = as'.map Value.ref → as'.length = items.size → R (.ok (.ret res)) { s with heap := h', toks := tk }) :
    wpAny (model prog w) A.in1 (Builtin.List.listExtendWith (.ref S) (.ref e) res)
      (fun fin s' => match fin with | .done f => R (.ok f) s' | .again c' => c'.quiet = true ∧ codeAny (model prog w) A c' R s') (fun e s' => R (.error e) s') s := by
  have hT : s.TypeIs (.ref e) "enumerate" := ⟨_, hE, rfl⟩
  have hSI : S ≠ e := Nat.ne_of_gt he
  unfold Builtin.List.listExtendWith
  refine wpAny_bind (wpAny_typeOf hT ?_)
  have h1 : Builtin.List.listSameRef (.ref S) (.ref e) = false := by simp [Builtin.List.listSameRef, hSI]
  have h2 : (Value.type "enumerate" == Value.type "list") = false := by decide
  have h3 : (Value.type "enumerate" == Value.type "tuple") = false := by decide
  simp only [h1, h2, h3, Bool.or_false, Bool.false_eq_true, if_false]
  refine wpAny_bind (wpAny_pyIter_enum hE ?_)
  refine wpAny_bind (wpAny_holding ?_)
  unfold Builtin.List.listLengthHint
  refine wpAny_bind (wpAny_specialOf hT en_no_len ?_)
  show wpAny _ A.in1 (specialOf (Value.ref e) (Str.ofString "__length_hint__") >>= _) _ _ _
  refine wpAny_bind (wpAny_specialOf hT en_no_hint ?_)
  refine wpAny_pure ?_
  show wpAny _ A.in1 (rule "list.extend.makes-room" >>= fun _ => Builtin.List.listTouch (.ref S) >>= fun _ =>
    again (.builtin "list.extend.loop" ⟨[.ref S, .ref e, res], []⟩)) _ _ _
  refine wpAny_bind (wpAny_rule ?_)
  refine wpAny_bind ?_
  show wpAny _ A.in1 (updateSeq S (·.push .none) >>= fun _ => updateSeq S (·.pop)) _ _ _
  refine wpAny_bind (wpAny_updateSeq hS rfl ?_)
  have hS₂ := Heap.get?_update_self (Obj.mapSeq (·.push Value.none)) hS rfl
  refine wpAny_updateSeq (hz := by seq_fits) hS₂ rfl ?_
  have hS₃ := Heap.get?_update_self (Obj.mapSeq (·.pop)) hS₂ rfl
  have oth : ∀ b o, b ≠ S → s.heap.get? b = some o → ((s.heap.update S (Obj.mapSeq (·.push Value.none))).update S (Obj.mapSeq (·.pop))).get? b = some o :=
    fun b o hb e => (Heap.get?_update_other _ _ (Ne.symm hb)).trans ((Heap.get?_update_other _ _ (Ne.symm hb)).trans e)
  refine wpAny_pure ⟨plainId_quiet F.plain_extend_loop _, en_loop hA hei he hit hl hle hli hn res items.size 0 _ _ _ [] rfl (Nat.zero_le _) (hst.upd (Nat.ne_of_lt he) (Nat.ne_of_lt hit) (Nat.ne_of_lt hl) oth) hS₃ EnAcc.nil rfl rfl fun h' tk acc' c' as' k2 a1 a2 a3 a4 => ?_⟩
  exact hR h' tk acc' c' as' (fun b o b1 b2 b3 q => k2 b o b1 b2 b3 (oth b o b1 q)) a1 a2 a3 a4
theorem en_init {s : Shared} {old : Value} (hA : A.in1.handled = none) (hei : e ≠ it) (he : e < S) (hit : it < S) (hl : l < S) (hle : l ≠ e) (hli : l ≠ it) (hn : items.size ≤ sizeLine) (hst : EnHd S e it l items 0 s.heap) (hE : IsEnum s.heap e it 0 old) (hS : s.heap.get? S = some { cls := .type "list", data := .seq #[] })
    (hR : ∀ h' tk acc' c' as', (∀ b o, b ≠ S → b ≠ e → b ≠ it → s.heap.get? b = some o → h'.get? b = some o) → h'.get? S = some (lstO acc' c') → EnAcc S items h' as' → acc'.toList = as'.map Value.ref → as'.length = items.size → R (.ok (.ret .none)) { s with heap := h', toks := tk }) :
    wpAny (model prog w) A.in1 (Builtin.«list.__init__» ⟨[.ref S, .ref e], []⟩)
      (fun fin s' => match fin with | .done f => R (.ok f) s' | .again c' => c'.quiet = true ∧ codeAny (model prog w) A c' R s') (fun e s' => R (.error e) s') s := by
  show wpAny _ A.in1 (do let old ← Builtin.List.listItems (.ref S); Builtin.List.listUpdate (.ref S) (fun _ => #[]); letGo old.toList.reverse; Builtin.List.listExtendWith (.ref S) (.ref e) .none) _ _ s
  refine wpAny_bind ?_
  unfold Builtin.List.listItems
  refine wpAny_bind (wpAny_seqItems hS rfl (wpAny_pure ?_))
  show wpAny _ A.in1 (updateSeq S (fun _ => #[]) >>= fun _ => letGo (#[] : Array Value).toList.reverse >>= fun _ => Builtin.List.listExtendWith (.ref S) (.ref e) .none) _ _ s
  refine wpAny_bind (wpAny_updateSeq hS rfl ?_)
  have hS₂ := Heap.get?_update_self (Obj.mapSeq (fun _ => (#[] : Array Value))) hS rfl
  have oth : ∀ b o, b ≠ S → s.heap.get? b = some o → (s.heap.update S (Obj.mapSeq (fun _ => (#[] : Array Value)))).get? b = some o :=
    fun b o hb e => (Heap.get?_update_other _ _ (Ne.symm hb)).trans e
  refine wpAny_bind (wpAny_letGo ?_)
  refine en_extend (old := old) hA hei he hit hl hle hli hn .none (hst.upd (Nat.ne_of_lt he) (Nat.ne_of_lt hit) (Nat.ne_of_lt hl) oth) (oth _ _ (Nat.ne_of_lt he) hE) hS₂ fun h' tk acc' c' as' k2 a1 a2 a3 a4 => ?_
  exact hR h' tk acc' c' as' (fun b o b1 b2 b3 q => k2 b o b1 b2 b3 (oth b o b1 q)) a1 a2 a3 a4
theorem en_call {s : Shared} {E : Value → Shared → Prop} {Q : Value → Shared → Prop} {old : Value} (hA : A.handled = none) (hei : e ≠ it) (he : e < s.heap.objs.size) (hit : it < s.heap.objs.size) (hl : l < s.heap.objs.size) (hle : l ≠ e) (hli : l ≠ it) (hn : items.size ≤ sizeLine) (h1 : s.heap.IsListIter it l 0) (h2 : s.heap.IsList l items) (hE : IsEnum s.heap e it 0 old)
    (hQ : ∀ h' tk acc' c' as', (∀ b o, b ≠ e → b ≠ it → s.heap.get? b = some o → h'.get? b = some o) → h'.get? s.heap.objs.size = some (lstO acc' c') → EnAcc s.heap.objs.size items h' as' → acc'.toList = as'.map Value.ref → as'.length = items.size → Q (.ref s.heap.objs.size) { s with heap := h', toks := tk }) :
    wpAny (model prog w) A (call (.type "list") [.ref e]) Q E s := by
  refine callType_codes (Q₁ := fun obj s₁ => obj = .ref s.heap.objs.size ∧ s₁ = { s with heap := s.heap.push { cls := .type "list", data := .seq #[] } }) F.called_list (F.typeCall_list_1 _) F.entry_list_init
    (code_list_new _ ⟨rfl, rfl⟩) fun obj s₁ h₁ => ?_
  obtain ⟨rfl, rfl⟩ := h₁
  have hS : (s.heap.push { cls := .type "list", data := .seq #[] }).get? s.heap.objs.size = some { cls := .type "list", data := .seq #[] } := Heap.get?_push_size _ rfl
  have oth : ∀ b o, s.heap.get? b = some o → (s.heap.push { cls := .type "list", data := .seq #[] }).get? b = some o := fun b o q => Heap.get?_push_of_some _ q
  refine ⟨⟨_, hS, rfl⟩, F.args_list_init_2 _ _, en_init (old := old) (s := { s with heap := s.heap.push { cls := .type "list", data := .seq #[] } }) (A := A.in1) hA hei he hit hl hle hli hn ⟨h1.at fun o q => oth _ o q, h2.at fun o q => oth _ o q, .inl ⟨old, oth _ _ hE⟩⟩ (oth _ _ hE) hS fun h' tk acc' c' as' k2 a1 a2 a3 a4 => ?_⟩
  exact ⟨rfl, hQ h' tk acc' c' as' (fun b o b1 b2 q => k2 b o (Nat.ne_of_lt (Heap.lt_size q)) b1 b2 (oth b o q)) a1 a2 a3 a4⟩
end
section
open L2 L2H HotX LamX LiI
variable {X : Cx}
theorem en_laid {pins : List (Addr × Obj)} {σ : L2.St} {H : Hp} {s : Shared} {h' : Heap} {tk : Nat} {xs : List V} {its : List Value} {S : Addr} {acc : Array Value} {c : Nat} {as : List Addr} (I : Inv X pins σ H s) (rv : Vals xs its) (hz : xs.length ≤ sizeLine) (hSz : s.heap.objs.size ≤ S)
    (hk : ∀ b o, s.heap.get? b = some o → h'.get? b = some o) (hS : h'.get? S = some (lstO acc c)) (ha : EnAcc S its.toArray h' as) (hacc : acc.toList = as.map Value.ref) (hl : as.length = its.length) :
    ∃ H' : Hp, (∀ b o, H b = some o → H' b = some o) ∧ H S = none ∧ (∀ t ∈ as, H t = none) ∧ H' S = some (.lst (as.map V.ref)) ∧ (∀ (j : Nat) (t : Addr), as[j]? = some t → ∃ x, xs[j]? = some x ∧ H' t = some (.tup [.int (j : Int), x])) ∧ Inv X pins σ H' { s with heap := h', toks := tk } := by
  have lx : xs.length = its.length := rv.length
  obtain ⟨kvs, hkv⟩ : ∃ kvs : List (Key × V), kvs = (List.range xs.length).map fun (j : Nat) => ((Sum.inl (j : Int) : Key), xs.getD j .non) := ⟨_, rfl⟩
  have lk : as.length = kvs.length := by rw [hkv, List.length_map, List.length_range]; omega
  have kat : ∀ (j : Nat) (p : Key × V), kvs[j]? = some p → ∃ x, xs[j]? = some x ∧ p = ((Sum.inl (j : Int) : Key), x) := fun j p hp => by
    have hj : j < xs.length := by
      have := (List.getElem?_eq_some_iff.mp hp).1
      rw [hkv, List.length_map, List.length_range] at this
      exact this
    rw [hkv, List.getElem?_map, List.getElem?_range hj] at hp
    have e := (Option.some.inj hp).symm
    refine ⟨xs.getD j .non, ?_, e⟩
    rw [List.getD_eq_getElem?_getD, List.getElem?_eq_getElem hj]
    rfl
  have hSn : S ∉ as := fun z => Nat.lt_irrefl _ (ha.above _ z)
  have nd : as.Nodup := List.Pairwise.imp (fun {a b} (h : a < b) => Nat.ne_of_lt h) ha.rise
  have new : ∀ t ∈ as, H t = none := fun t ht => I.hok.fresh (Nat.le_of_lt (Nat.lt_of_le_of_lt hSz (ha.above t ht)))
  have newS : H S = none := I.hok.fresh hSz
  have atP := putT_at as kvs (upd H S (.lst (as.map V.ref))) lk nd
  have off : ∀ b, b ∉ as → b ≠ S → putT (upd H S (.lst (as.map V.ref))) as kvs b = H b := fun b h1 h2 => by rw [putT_off as kvs _ h1, upd_ne h2]
  have low : ∀ b o, s.heap.get? b = some o → b ∉ as ∧ b ≠ S := fun b o e => ⟨fun z => absurd (Heap.lt_size e) (Nat.not_lt.mpr (Nat.le_of_lt (Nat.lt_of_le_of_lt hSz (ha.above b z)))), Nat.ne_of_lt (Nat.lt_of_lt_of_le (Heap.lt_size e) hSz)⟩
  have kp : ∀ b u, H b = some u → (putT (upd H S (.lst (as.map V.ref))) as kvs) b = some u := fun b u e => by
    rw [off b (fun z => by rw [new b z] at e; cases e) (fun z => by rw [z, newS] at e; cases e)]
    exact e
  have eS : putT (upd H S (.lst (as.map V.ref))) as kvs S = some (.lst (as.map V.ref)) := by rw [putT_off as kvs _ hSn, upd_same]
  have eT : ∀ (j : Nat) (t : Addr), as[j]? = some t → ∃ x, xs[j]? = some x ∧ putT (upd H S (.lst (as.map V.ref))) as kvs t = some (.tup [.int (j : Int), x]) := fun j t hj => by
    obtain ⟨p, e2, e3⟩ := LiI.paired_get atP hj
    obtain ⟨x, f1, rfl⟩ := kat j p e2
    exact ⟨x, f1, e3⟩
  refine ⟨putT (upd H S (.lst (as.map V.ref))) as kvs, kp, newS, new, eS, eT, ?_⟩
  refine I.un ⟨fun b o q _ _ _ => hk b o q, fun b o q _ _ _ => ⟨o.slots, hk b o q⟩, fun b o q n _ => ?_, fun b o q _ => ⟨o, hk b o q⟩, fun b xs q => kp b _ q, fun b o u q => kp b _ q, fun b ps q => ⟨#[], by rw [kp b _ q]; simp⟩⟩ (fun b u q => ?_)
  · obtain ⟨z1, z2⟩ := low b o q
    rw [off b z1 z2]
    exact n
  · by_cases hb : b ∈ as
    · obtain ⟨j, hj⟩ := List.getElem?_of_mem hb
      obtain ⟨x, e1, e2⟩ := eT j b hj
      rw [e2] at q
      cases q
      obtain ⟨t, y, f1, f2⟩ := ha.pairs j b hj
      obtain ⟨y', g1, g2⟩ := rv.get e1
      have f1 : its[j]? = some y := by simpa using f1
      rw [f1] at g1
      cases g1
      exact ⟨by show 2 ≤ sizeLine; decide, [.int (j : Int) t, y], .cons ⟨t, rfl⟩ (.cons g2 .nil), ⟨_, f2, rfl, _, rfl⟩⟩
    · by_cases hb2 : b = S
      · rw [hb2] at q ⊢
        rw [eS] at q
        cases q
        refine ⟨by rw [List.length_map]; omega, acc.toList, c, by rw [hacc]; exact LiI.vals_refs as, ?_⟩
        rw [Array.toArray_toList]
        exact hS
      · rw [off b hb hb2] at q
        exact (I.hok b u q).stay (fun d v _ y => hk d v y) (fun d y => kp d _ y) fun d xs y => kp d _ y
variable {Kf : PySem.W.Frag} {Tf : List (Addr × Str)} {F : Fx Kf Tf} {δ : List Slot} {N : List Str} {sc : Scope} {pos p p2 pos2 : Pos} {e : Expr} {ds : List PyData}
theorem x_listEnum (cx : Ctx X N sc) (hm : X.mg "list" = none) (hm2 : X.mg "enumerate" = none) (h : PE X e (tD F δ (.list ds))) (hg : sc.names.lookup ("list" : Str) = some .globalImplicit := by rfl) (hg2 : sc.names.lookup ("enumerate" : Str) = some .globalImplicit := by rfl)
    (hs : starEach [e] X.env = (false, eval e X.env) :: starEach [] X.env := by rfl) (hs2 : starEach [.Call (.Name "enumerate" p2) [e] [] pos2] X.env = (false, eval (.Call (.Name "enumerate" p2) [e] [] pos2) X.env) :: starEach [] X.env := by rfl) :
    PE X (.Call (.Name "list" p) [.Call (.Name "enumerate" p2) [e] [] pos2] [] pos) (tD F δ (.list ((enumL ds).map encL))) := by
  refine ⟨fun pins s σ H Q I hq => ?_⟩
  obtain ⟨O, st, w⟩ := hq
  refine Call_ (ld_blt I (cx.gl hg) hm boot_list (PyProof.Rows.callWith_type1 (args_cons (Call_ (ld_blt I (cx.gl hg2) hm2 boot_enumerate (PyProof.Rows.callWith_type1 (args_cons (thn (h.run pins s σ H (fun v H1 => Dt O H1 (.list ds) v ∧ ExtN H H1 ∧ Tabs F.T H1) I ⟨O, st, fun v H1 e1 t1 d1 => ?_⟩) fun u s1 hq => args_nil ?_) hs) hs rfl))) hs2) hs2 rfl))
  · exact ⟨d1, e1, t1⟩
  · obtain ⟨v, H1, I1, r1, d1, e1, t1⟩ := hq
    obtain ⟨a, xs, rfl, na, ga, da⟩ := d1
    obtain rfl : u = Value.ref a := r1
    obtain ⟨its, rv, hl, hzl⟩ := I1.list (SqL.of ga)
    refine call_enumerate_list hl.isList fun h' he hit hsz hk => args_nil ?_
    have hal : a < s1.heap.objs.size := by
      obtain ⟨o, ho, _⟩ := hl.isList
      exact Heap.lt_size ho
    have lx := rv.length
    have hli : h'.IsList a its.toArray := by
      obtain ⟨o, ho, r⟩ := hl.isList
      exact ⟨o, hk _ _ ho, r⟩
    refine en_call (s := { s1 with heap := h' }) (e := s1.heap.objs.size + 1) (it := s1.heap.objs.size) (l := a) (items := its.toArray) (old := .none) (I1.ok.hd cx.calm) (Nat.succ_ne_self _) (by show s1.heap.objs.size + 1 < h'.objs.size; rw [hsz]; exact Nat.lt_succ_self _) (by show s1.heap.objs.size < h'.objs.size; rw [hsz]; exact Nat.lt_add_of_pos_right (by decide)) (by show a < h'.objs.size; rw [hsz]; exact Nat.lt_add_right 2 hal) (Nat.ne_of_lt (Nat.lt_succ_of_lt hal)) (Nat.ne_of_lt hal) (by rw [List.size_toArray, ← lx]; exact hzl) hit hli he fun h2 tk acc c as k2 a1 a2 a3 a4 => ?_
    have k3 : ∀ b o, s1.heap.get? b = some o → h2.get? b = some o := fun b o q => k2 b o (Nat.ne_of_lt (Nat.lt_succ_of_lt (Heap.lt_size q))) (Nat.ne_of_lt (Heap.lt_size q)) (hk b o q)
    obtain ⟨H', x1, x2, x3, x4, x5, J⟩ := en_laid (tk := tk) I1 rv hzl (show s1.heap.objs.size ≤ h'.objs.size by rw [hsz]; exact Nat.le_add_right _ 2) k3 a1 a2 a3 (by rw [a4, List.size_toArray])
    have eE : ExtN H1 H' := ExtN.of x1
    have t2 : Tabs F.T H' := t1.ext x1
    have dom := (st.grow e1 t1).dom
    have ln : as.length = ds.length := by
      have := da.len
      rw [a4, List.size_toArray]
      omega
    refine ⟨.ref _, H', J, rfl, w _ H' (e1.trans eE) t2 ⟨_, _, rfl, fresh_ok dom x2, x4, DtAll.of ?_ fun j d v hd hv => ?_⟩⟩
    · rw [List.length_map, List.length_map]
      unfold enumL
      rw [List.length_map, List.length_range]
      exact ln
    · have hj : j < ds.length := by
        have := (List.getElem?_eq_some_iff.mp hd).1
        simpa [enumL] using this
      have hx : ds[j]? = some (ds.getD j .none) := by rw [List.getD_eq_getElem?_getD, List.getElem?_eq_getElem hj]; rfl
      have hd' : d = encL (j, ds.getD j .none) := by
        unfold enumL at hd
        rw [List.getElem?_map, List.getElem?_map, List.getElem?_range hj] at hd
        exact (Option.some.inj hd).symm
      rw [List.getElem?_map] at hv
      cases et : as[j]? with
      | none => rw [et] at hv; cases hv
      | some t =>
        rw [et] at hv
        obtain rfl : V.ref t = v := Option.some.inj hv
        obtain ⟨x, f1, f2⟩ := x5 j t et
        subst hd'
        exact ⟨t, _, rfl, fresh_ok dom (x3 t (List.mem_of_getElem? et)), f2, _, _, rfl, rfl, _, _, rfl, (da.at_ hx f1).grow eE, rfl⟩
end
end Lf
set_option Elab.async false
set_option linter.all false
set_option maxRecDepth 100000
set_option maxHeartbeats 1000000
namespace Lf
open PySem PySem.Spec PySem.W PyProof.Rows L2 LamX
/-! ### names found, the best first -/
def nnD (p : Nat × List Nat) : PyData := .tuple [natI p.1, tx p.2]
def rkOf (M : Mk) (a : List Nat) (p : Nat × List Nat) : Option Rk := (bestL M a p.2).map fun b => ((p.1 : Int), (⟨p.2.toArray⟩ : Str), b.1, rowD b.2)
def rowsOf (M : Mk) (a : List Nat) (ps : List (Nat × List Nat)) : List Rk := ps.filterMap (rkOf M a)
def R_ranked (ds : List PyData) (r : Res) : Prop := ∃ bs : List Rk, ds = [.list (bs.map rkD)] ∧ (∀ b ∈ bs, b.2.1.length ≤ 10000) ∧ r = .ok (.list ((rkS bs).map rkD))
def R_hits_of (ds : List PyData) (r : Res) : Prop := ∃ M a ps, ds = [mkD M, tx a, .list (ps.map nnD)] ∧ okM M ∧ a.length ≤ 100 ∧ (∀ p ∈ ps, p.2.length ≤ 1000) ∧ ps.length ≤ 10000 ∧ r = .ok (.list ((rkS (rowsOf M a ps)).map rkD))
theorem rows_snoc (M : Mk) (a : List Nat) (ps : List (Nat × List Nat)) (p : Nat × List Nat) : rowsOf M a (ps ++ [p]) = rowsOf M a ps ++ (rkOf M a p).toList := by
  unfold rowsOf
  rw [List.filterMap_append]
  cases h : rkOf M a p <;> simp [h]
theorem rkr_len (M : Mk) (a : List Nat) (ps : List (Nat × List Nat)) : (rowsOf M a ps).length ≤ ps.length := List.length_filterMap_le _ _
theorem rk_mem {M : Mk} {a : List Nat} {ps : List (Nat × List Nat)} {b : Rk} (h : b ∈ rowsOf M a ps) : ∃ p ∈ ps, ∃ q, bestL M a p.2 = some q ∧ b = ((p.1 : Int), (⟨p.2.toArray⟩ : Str), q.1, rowD q.2) := by
  unfold rowsOf at h
  obtain ⟨p, hp, e⟩ := List.mem_filterMap.mp h
  unfold rkOf at e
  cases hq : bestL M a p.2 with
  | none => rw [hq] at e; cases e
  | some q =>
    rw [hq] at e
    exact ⟨p, hp, q, hq, (Option.some.inj e).symm⟩
theorem rk_short {M : Mk} {a : List Nat} {ps : List (Nat × List Nat)} (hp : ∀ p ∈ ps, p.2.length ≤ 1000) : ∀ b ∈ rowsOf M a ps, b.2.1.length ≤ 10000 := fun b hb => by
  obtain ⟨p, h1, q, _, rfl⟩ := rk_mem hb
  have := hp p h1
  show p.2.toArray.size ≤ 10000
  simp
  omega
/-- the law's own row -/
def lrD (b : Rk) : PyData := .tuple [.int (0 - b.2.2.1), .int b.2.1.length, .int b.1, b.2.2.2]
theorem lt_iii (x y z x' y' z' : Int) : PySem.W.dataLt (.tuple [.int x, .int y, .int z]) (.tuple [.int x', .int y', .int z']) = decide (x < x' ∨ (x = x' ∧ (y < y' ∨ (y = y' ∧ z < z')))) := by
  have e : PyProof.Rows.lexLt itemOrd (PySem.W.keyToksAll []) (PySem.W.keyToksAll []) = false := PyProof.Rows.lex_irrefl _
  rw [PySem.W.dataLt_tuple, PySem.W.dataLt_cons (by simp [PySem.W.alike]), PySem.W.dataLt_cons (by simp [PySem.W.alike]), PySem.W.dataLt_cons (by simp [PySem.W.alike]), e, PySem.W.dataLt_int, PySem.W.dataLt_int, PySem.W.dataLt_int]
  simp only [PyData.eqv, beq_iff_eq]
  by_cases h1 : x = x' <;> by_cases h2 : y = y' <;> by_cases h3 : z = z' <;> simp [h1, h2, h3]
theorem lt_self (d : PyData) : PySem.W.dataLt d d = false := lex_irrefl _
theorem lt_cI (x y : Int) (r r' : List PyData) : PyProof.Rows.lexLt itemOrd (PySem.W.keyToksAll (.int x :: r)) (PySem.W.keyToksAll (.int y :: r')) = if x = y then PyProof.Rows.lexLt itemOrd (PySem.W.keyToksAll r) (PySem.W.keyToksAll r') else decide (x < y) := by
  rw [PySem.W.dataLt_cons (by simp [PySem.W.alike]), PySem.W.dataLt_int]
  by_cases h : x = y <;> simp [PyData.eqv, h]
theorem lt_lr {b b' : Rk} (h : b.1 = b'.1 → b = b') : PySem.W.dataLt (lrD b) (lrD b') = PySem.W.dataLt (rkK b) (rkK b') := by
  by_cases e : b.1 = b'.1
  · rw [h e, lt_self, lt_self]
  · unfold lrD rkK
    rw [PySem.W.dataLt_tuple, PySem.W.dataLt_tuple]
    simp only [lt_cI, if_neg e]
theorem lr_sort {bs : List Rk} (h : ∀ b ∈ bs, ∀ b' ∈ bs, b.1 = b'.1 → b = b') : sortD (bs.map lrD) = (rkS bs).map lrD := by
  unfold sortD rkS
  refine (List.map_mergeSort fun b hb b' hb' => ?_).symm
  show (!PySem.W.dataLt (rkK b') (rkK b)) = (!PySem.W.dataLt (lrD b') (lrD b))
  rw [lt_lr (h b' hb' b hb)]
end Lf
set_option Elab.async false
set_option linter.all false
set_option maxRecDepth 100000
set_option maxHeartbeats 1000000
namespace Lf
open PySem PySem.Spec PyProof.Rows L2 LamX
def enumN (ls : List (List Nat)) : List (Nat × List Nat) := (List.range ls.length).map fun i => (i, ls.getD i [])
theorem enum_nn (ls : List (List Nat)) : (enumL (ls.map tx)).map encL = (enumN ls).map nnD := by
  unfold enumL enumN
  rw [List.map_map, List.map_map, List.length_map]
  refine List.map_congr_left fun i hi => ?_
  have hi : i < ls.length := List.mem_range.mp hi
  show encL (i, (ls.map tx).getD i .none) = nnD (i, ls.getD i [])
  unfold encL nnD
  simp only [List.getD_eq_getElem?_getD, List.getElem?_map, List.getElem?_eq_getElem hi, Option.map_some, Option.getD_some]
theorem enumN_len (ls : List (List Nat)) : (enumN ls).length = ls.length := by unfold enumN; rw [List.length_map, List.length_range]
theorem enumN_mem {ls : List (List Nat)} {p : Nat × List Nat} (h : p ∈ enumN ls) : p.2 ∈ ls := by
  unfold enumN at h
  obtain ⟨i, hi, rfl⟩ := List.mem_map.mp h
  have hi : i < ls.length := List.mem_range.mp hi
  show ls.getD i [] ∈ ls
  rw [List.getD_eq_getElem?_getD, List.getElem?_eq_getElem hi]
  exact List.getElem_mem hi
theorem enumN_fst {ls : List (List Nat)} {p q : Nat × List Nat} (h : p ∈ enumN ls) (h' : q ∈ enumN ls) (e : p.1 = q.1) : p = q := by
  unfold enumN at h h'
  obtain ⟨i, _, rfl⟩ := List.mem_map.mp h
  obtain ⟨j, _, rfl⟩ := List.mem_map.mp h'
  obtain rfl : i = j := e
  rfl
theorem rows_num {M : Mk} {a : List Nat} {ls : List (List Nat)} : ∀ b ∈ rowsOf M a (enumN ls), ∀ b' ∈ rowsOf M a (enumN ls), b.1 = b'.1 → b = b' := fun b hb b' hb' e => by
  obtain ⟨p, h1, q, h2, rfl⟩ := rk_mem hb
  obtain ⟨p', h1', q', h2', rfl⟩ := rk_mem hb'
  have : p = p' := enumN_fst h1 h1' (Int.ofNat.inj e)
  subst this
  rw [h2] at h2'
  cases h2'
  rfl
def rkT (b : Rk) : PyData := .tuple [.int b.1, .int b.2.2.1, b.2.2.2]
def hitsL (M : Mk) (a : List Nat) (ls : List (List Nat)) : List PyData := (rkS (rowsOf M a (enumN ls))).map rkT
def R_hits (C0 C1 C2 C4 : Addr) (ds : List PyData) (r : Res) : Prop := ∃ d1 d2 d3 d4, ds = [d1, d2, d3, d4] ∧ okT d1 ∧ okd d2 ∧ okNs d3 ∧ isP d4 = false ∧
  r = if isMarks d1 = true then (if isAsk d2 = true then (if areNames d3 = true then (if isCnt d4 0 60 = true then .ok (.list (cutL (hitsL (mkOf d1) (cod d2) (namesL d3)) none (some (intOf d4)))) else .error C4) else .error C0) else .error C1) else .error C2
/-- the places of the names in which an ask fits -/
def fitN (a : List Nat) (ls : List (List Nat)) : List Nat := (List.range ls.length).filter fun i => (gr a (ls.getD i []) 0).isSome
def R_fitting (C0 C1 : Addr) (ds : List PyData) (r : Res) : Prop := ∃ d2 d3, ds = [d2, d3] ∧ okd d2 ∧ okNs d3 ∧
  r = if isAsk d2 = true then (if areNames d3 = true then .ok (.list ((fitN (cod d2) (namesL d3)).map natI)) else .error C0) else .error C1
/-! ### sorted numbers -/
theorem sort_ints {l : List Int} {m : List Nat} (hp : l.Perm (m.map fun (i : Nat) => (i : Int))) (s : m.Pairwise (· < ·)) : sortD (l.map PyData.int) = m.map natI := by
  have e1 : sortD (l.map PyData.int) = (l.mergeSort fun p q => decide (p ≤ q)).map PyData.int := by
    unfold sortD
    rw [List.map_mergeSort]
    intro a _ b _
    exact (congrFun (congrFun (PySem.W.dataLe_int (β := Int) fun b => b) a) b).symm
  have tr : ∀ a b c : Int, decide (a ≤ b) = true → decide (b ≤ c) = true → decide (a ≤ c) = true := fun a b c h1 h2 => decide_eq_true (Int.le_trans (of_decide_eq_true h1) (of_decide_eq_true h2))
  have to : ∀ a b : Int, (decide (a ≤ b) || decide (b ≤ a)) = true := fun a b => by
    rcases Int.le_total a b with z | z
    · rw [decide_eq_true z]; rfl
    · rw [decide_eq_true z, Bool.or_true]
  have s1 : (l.mergeSort fun p q => decide (p ≤ q)).Pairwise fun a b => a ≤ b := (List.pairwise_mergeSort tr to l).imp fun h => of_decide_eq_true h
  have s2 : (m.map fun (i : Nat) => (i : Int)).Pairwise fun a b => a ≤ b := by
    rw [List.pairwise_map]
    exact s.imp fun h => by omega
  have e2 := List.Perm.eq_of_pairwise (le := fun a b => a ≤ b) (fun a b _ _ h1 h2 => Int.le_antisymm h1 h2) s1 s2 ((List.mergeSort_perm _ _).trans hp)
  rw [e1, e2, List.map_map]
  rfl
theorem rows_fst (M : Mk) (a : List Nat) (ls : List (List Nat)) : (rowsOf M a (enumN ls)).map (·.1) = (fitN a ls).map fun (i : Nat) => (i : Int) := by
  unfold rowsOf enumN fitN
  rw [List.filterMap_map, List.map_filterMap]
  generalize List.range ls.length = l
  induction l with
  | nil => rfl
  | cons i l ih =>
    rw [List.filterMap_cons, List.filter_cons]
    cases hq : gr a (ls.getD i []) 0 with
    | none =>
      have hb : rkOf M a (i, ls.getD i []) = none := by
        unfold rkOf
        rw [show bestL M a (i, ls.getD i []).2 = none from best_none.mpr hq]
        rfl
      simp only [Function.comp_apply, hb, Option.map_none, Option.isSome_none, Bool.false_eq_true, if_false]
      exact ih
    | some q =>
      obtain ⟨b, hb⟩ : ∃ b, bestL M a (ls.getD i []) = some b := by
        cases h : bestL M a (ls.getD i []) with
        | none => rw [best_none.mp h] at hq; cases hq
        | some b => exact ⟨b, rfl⟩
      have hb : rkOf M a (i, ls.getD i []) = some ((i : Int), (⟨(ls.getD i []).toArray⟩ : Str), b.1, rowD b.2) := by
        unfold rkOf
        rw [show bestL M a (i, ls.getD i []).2 = some b from hb]
        rfl
      simp only [Function.comp_apply, hb, Option.map_some, Option.isSome_some, if_true, List.map_cons]
      exact congrArg _ ih
theorem fit_sort (M : Mk) (a : List Nat) (ls : List (List Nat)) {bs : List Rk} (h : bs.Perm (rowsOf M a (enumN ls))) : sortD ((bs.map (·.1)).map PyData.int) = (fitN a ls).map natI := by
  refine sort_ints ?_ (List.Pairwise.filter _ List.pairwise_lt_range)
  rw [← rows_fst M]
  exact h.map _
theorem rkS_perm (bs : List Rk) : (rkS bs).Perm bs := List.mergeSort_perm _ _
theorem ints_alike (l : List Int) : PySem.W.AllAlike (l.map PyData.int) ∧ PySem.W.Sortable (l.map PyData.int) :=
  ⟨PySem.W.AllAlike.of (enc := PyData.int) fun _ _ => rfl, PySem.W.Sortable.others (enc := PyData.int) fun _ => ⟨(fun z => by cases z), fun _ z => by cases z⟩⟩
def M00 : Mk := ⟨0, 0, 0, 0, 0, 0⟩
end Lf
set_option Elab.async false
set_option linter.all false
set_option maxRecDepth 100000
set_option maxHeartbeats 1000000
namespace Lf
open PySem PySem.Spec PyProof.Rows L2 LamX
/-! ### the law's own names and rows -/
def namesM (more many most : Int) : List (List Nat) := (List.range (more % (many + 1)).toNat).map fun (j : Nat) => nameL (drawn more (20 + (j : Int))) most
def R_law_names (ds : List PyData) (r : Res) : Prop := ∃ more many most, ds = [.int more, .int many, .int most] ∧ 0 ≤ many ∧ many ≤ 1000 ∧ 0 < most ∧ most ≤ 1000 ∧ r = .ok (.list ((namesM more many most).map tx))
theorem namesM_len {more many most : Int} (h : 0 ≤ many) : ((namesM more many most).length : Int) ≤ many := by
  unfold namesM
  rw [List.length_map, List.length_range]
  have h1 := Int.emod_nonneg more (show many + 1 ≠ 0 by omega)
  have h2 := Int.emod_lt_of_pos more (show 0 < many + 1 by omega)
  omega
theorem namesM_ok {more many most : Int} (h0 : 0 < most) (h : most ≤ 30) : ∀ l ∈ namesM more many most, isNm l = true ∧ (l.length : Int) ≤ most := fun l hl => by
  unfold namesM at hl
  obtain ⟨j, _, rfl⟩ := List.mem_map.mp hl
  exact ⟨nameL_ok h0 h, (nameL_len _ _ h0).2⟩
def R_law_rows (ds : List PyData) (r : Res) : Prop := ∃ M a ls, ds = [mkD M, tx a, .list (ls.map tx)] ∧ okM M ∧ a.length ≤ 4 ∧ (∀ l ∈ ls, isNm l = true ∧ l.length ≤ 12) ∧ ls.length ≤ 1000 ∧ r = .ok (.list (hitsL M a ls))
theorem alike_nats : ∀ p q : List Nat, PySem.W.alikeAll (p.map natI) (q.map natI) = true
  | [], q => by cases q <;> rfl
  | x :: p, [] => rfl
  | x :: p, y :: q => alike_nats p q
theorem lr_alike {bs : List Rk} (h : ∀ b ∈ bs, ∃ q, b.2.2.2 = rowD q) : PySem.W.AllAlike (bs.map lrD) ∧ PySem.W.Sortable (bs.map lrD) ∧ ∀ d ∈ bs.map lrD, d.depth ≤ 30 := by
  refine ⟨fun d hd d' hd' => ?_, PySem.W.Sortable.tuples fun _ => ⟨_, _, rfl⟩, fun d hd => ?_⟩
  · obtain ⟨b, hb, rfl⟩ := List.mem_map.mp hd
    obtain ⟨b', hb', rfl⟩ := List.mem_map.mp hd'
    obtain ⟨q, e⟩ := h b hb
    obtain ⟨q', e'⟩ := h b' hb'
    unfold lrD
    rw [e, e']
    have := alike_nats q q'
    unfold rowD
    simp only [PySem.W.alike, PySem.W.alikeAll, this, Bool.and_true]
  · obtain ⟨b, hb, rfl⟩ := List.mem_map.mp hd
    obtain ⟨q, e⟩ := h b hb
    have : Lay 2 (lrD b) := by
      unfold lrD
      rw [e]
      refine lay_tuple (n := 1) fun d hd => ?_
      simp only [List.mem_cons, List.not_mem_nil, or_false] at hd
      rcases hd with rfl | rfl | rfl | rfl
      · exact lay_int
      · exact lay_int
      · exact lay_int
      · exact lay_nats
    exact Nat.le_trans this.2 (by decide)
theorem rows_pl4 {M : Mk} {a : List Nat} {ps : List (Nat × List Nat)} : ∀ b ∈ rowsOf M a ps, ∃ q, b.2.2.2 = rowD q := fun b hb => by
  obtain ⟨p, h1, q, _, rfl⟩ := rk_mem hb
  exact ⟨_, rfl⟩
theorem rkS_mem {bs : List Rk} {b : Rk} (h : b ∈ rkS bs) : b ∈ bs := (rkS_perm bs).mem_iff.mp h
theorem rkS_len (bs : List Rk) : (rkS bs).length = bs.length := List.length_mergeSort _
theorem hitsL_len (M : Mk) (a : List Nat) (ls : List (List Nat)) : (hitsL M a ls).length ≤ ls.length := by
  unfold hitsL
  rw [List.length_map, rkS_len]
  have := rkr_len M a (enumN ls)
  rwa [enumN_len] at this
theorem hits_lay {M : Mk} {a : List Nat} {ls : List (List Nat)} : ∀ d ∈ hitsL M a ls, Lay 2 d := fun d hd => by
  unfold hitsL at hd
  obtain ⟨b, hb, rfl⟩ := List.mem_map.mp hd
  obtain ⟨q, e⟩ := rows_pl4 b (rkS_mem hb)
  unfold rkT
  rw [e]
  refine lay_tuple (n := 1) fun d hd => ?_
  simp only [List.mem_cons, List.not_mem_nil, or_false] at hd
  rcases hd with rfl | rfl | rfl
  · exact lay_int
  · exact lay_int
  · exact lay_nats
theorem lay_cut {n : Nat} {ds : List PyData} {lo hi : Option Int} (h : ∀ d ∈ ds, Lay n d) : Lay (n + 1) (.list (cutL ds lo hi)) := lay_list fun d hd => h d (cut_mem hd)
theorem hits_fst (M : Mk) (a : List Nat) (ls : List (List Nat)) : sortD ((rkS (rowsOf M a (enumN ls))).map fun b => PyData.int b.1) = (fitN a ls).map natI := by
  have e := fit_sort M a ls (rkS_perm (rowsOf M a (enumN ls)))
  rw [List.map_map] at e
  exact e
theorem hits_none (M : Mk) (a : List Nat) : hitsL M a [] = [] := by simp [hitsL, rowsOf, enumN, rkS]
theorem R_hits_as {C0 C1 C2 C4 : Addr} {M : Mk} {a : List Nat} {d3 d4 : PyData} (hM : okM M) (ha : isAs a = true) (hz : okNs d3) (hp : isP d4 = false := by first | rfl | assumption) : R_hits C0 C1 C2 C4 [mkD M, tx a, d3, d4] (if areNames d3 = true then (if isCnt d4 0 60 = true then .ok (.list (cutL (hitsL M a (namesL d3)) none (some (intOf d4)))) else .error C4) else .error C0) :=
  ⟨_, _, _, _, rfl, okT_mk _, okd_tx (by have := isAs_len ha; omega), hz, hp, by rw [if_pos (marks_ok hM), isAsk_tx, if_pos ha, mkOf_self, cod_tx]⟩
theorem R_hits_ok {C0 C1 C2 C4 : Addr} {M : Mk} {a : List Nat} {ls : List (List Nat)} {i : Int} (hM : okM M) (ha : isAs a = true) (hl : ls.length ≤ 60) (hn : ∀ l ∈ ls, isNm l = true) (h0 : 0 ≤ i) (h1 : i ≤ 60) : R_hits C0 C1 C2 C4 [mkD M, tx a, .list (ls.map tx), .int i] (.ok (.list (cutL (hitsL M a ls) none (some i)))) := by
  have := R_hits_as (C0 := C0) (C1 := C1) (C2 := C2) (C4 := C4) (d4 := .int i) hM ha (names_ok hl hn).2
  rw [if_pos (names_ok hl hn).1, namesL_self, if_pos (show isCnt (.int i) 0 60 = true by simp [isCnt, h0, h1])] at this
  exact this
theorem R_hits_er4 {C0 C1 C2 C4 : Addr} {M : Mk} {a : List Nat} {ls : List (List Nat)} {d : PyData} (hM : okM M) (ha : isAs a = true) (hl : ls.length ≤ 60) (hn : ∀ l ∈ ls, isNm l = true) (h : isCnt d 0 60 = false) (hp : isP d = false := by first | rfl | assumption) : R_hits C0 C1 C2 C4 [mkD M, tx a, .list (ls.map tx), d] (.error C4) := by
  have := R_hits_as (C0 := C0) (C1 := C1) (C2 := C2) (C4 := C4) (d4 := d) hM ha (names_ok hl hn).2
  rw [if_pos (names_ok hl hn).1, h] at this
  exact this
theorem R_hits_er0 {C0 C1 C2 C4 : Addr} {M : Mk} {a : List Nat} {d3 d4 : PyData} (hM : okM M) (ha : isAs a = true) (hz : okNs d3) (h : areNames d3 = false) (hp : isP d4 = false := by first | rfl | assumption) : R_hits C0 C1 C2 C4 [mkD M, tx a, d3, d4] (.error C0) := by
  have := R_hits_as (C0 := C0) (C1 := C1) (C2 := C2) (C4 := C4) (d4 := d4) hM ha hz
  rw [h] at this
  exact this
theorem R_hits_er1 {C0 C1 C2 C4 : Addr} {M : Mk} {d2 d3 d4 : PyData} (hM : okM M) (h2 : okd d2) (hz : okNs d3) (h : isAsk d2 = false) (hp : isP d4 = false := by first | rfl | assumption) : R_hits C0 C1 C2 C4 [mkD M, d2, d3, d4] (.error C1) := ⟨_, _, _, _, rfl, okT_mk _, h2, hz, hp, by rw [if_pos (marks_ok hM), h]; rfl⟩
theorem R_hits_er2 {C0 C1 C2 C4 : Addr} {d1 d2 d3 d4 : PyData} (h1 : okT d1) (h2 : okd d2) (hz : okNs d3) (h : isMarks d1 = false) (hp : isP d4 = false := by first | rfl | assumption) : R_hits C0 C1 C2 C4 [d1, d2, d3, d4] (.error C2) := ⟨_, _, _, _, rfl, h1, h2, hz, hp, by rw [h]; rfl⟩
theorem R_fitting_ok {C0 C1 : Addr} {a : List Nat} {ls : List (List Nat)} (ha : isAs a = true) (hl : ls.length ≤ 60) (hn : ∀ l ∈ ls, isNm l = true) : R_fitting C0 C1 [tx a, .list (ls.map tx)] (.ok (.list ((fitN a ls).map natI))) :=
  ⟨_, _, rfl, okd_tx (by have := isAs_len ha; omega), (names_ok hl hn).2, by rw [isAsk_tx, if_pos ha, if_pos (names_ok hl hn).1, cod_tx, namesL_self]⟩
theorem R_fitting_er0 {C0 C1 : Addr} {a : List Nat} {d : PyData} (ha : isAs a = true) (hz : okNs d) (h : areNames d = false) : R_fitting C0 C1 [tx a, d] (.error C0) := ⟨_, _, rfl, okd_tx (by have := isAs_len ha; omega), hz, by rw [isAsk_tx, if_pos ha, h]; rfl⟩
theorem R_fitting_er1 {C0 C1 : Addr} {d2 d : PyData} (h2 : okd d2) (hz : okNs d) (h : isAsk d2 = false) : R_fitting C0 C1 [d2, d] (.error C1) := ⟨_, _, rfl, h2, hz, by rw [h]; rfl⟩
theorem lay_sort {n : Nat} {ds : List PyData} (h : ∀ d ∈ ds, Lay n d) : Lay (n + 1) (.list (sortD ds)) := lay_list fun d hd => h d ((List.mergeSort_perm _ _).mem_iff.mp hd)
theorem lay_nms {ls : List (List Nat)} (h : ∀ l ∈ ls, isNm l = true) : Lay 1 (.list (ls.map tx)) := lay_list (n := 0) fun d hd => by
  obtain ⟨l, hl, rfl⟩ := List.mem_map.mp hd
  exact lay_tx fun c hc => by
    have := (alpha_low c (isNm_alpha (h l hl) c hc)).1
    omega
theorem ls_emp (ls : List (List Nat)) : PyData.eqv (.list (ls.map tx)) (.list []) = decide (ls = []) := by
  cases ls with
  | nil => rfl
  | cons l ls => rfl
/-! ### k40's asks -/
def askX (here : Int) (ls : List (List Nat)) : List Nat := if ls = [] then askL here 3 else askIn (here / 64) (ls.getD (here % (ls.length : Int)).toNat []) 3
theorem askX_ne {ls : List (List Nat)} (hb : (!PyData.eqv (.list (ls.map tx)) (.list [])) = true) : ls ≠ [] := by
  rw [ls_emp] at hb
  simpa using hb
theorem askX_pos {ls : List (List Nat)} (hb : (!PyData.eqv (.list (ls.map tx)) (.list [])) = true) : 0 < (((ls.map tx).length : Nat) : Int) := by
  have := List.length_pos_iff.mpr (askX_ne hb)
  rw [List.length_map]
  omega
theorem askX_lt {here : Int} {ls : List (List Nat)} (h : ls ≠ []) : (here % (ls.length : Int)).toNat < ls.length := by
  have := List.length_pos_iff.mpr h
  have h1 := Int.emod_nonneg here (show (ls.length : Int) ≠ 0 by omega)
  have h2 := Int.emod_lt_of_pos here (show 0 < (ls.length : Int) by omega)
  omega
theorem askX_at {here : Int} {ls : List (List Nat)} (hb : (!PyData.eqv (.list (ls.map tx)) (.list [])) = true) : atI (ls.map tx) (here % (((ls.map tx).length : Nat) : Int)) = some (tx (ls.getD (here % (ls.length : Int)).toNat [])) := by
  have h := askX_ne hb
  have := List.length_pos_iff.mpr h
  have h1 := Int.emod_nonneg here (show (ls.length : Int) ≠ 0 by omega)
  rw [List.length_map, show here % (ls.length : Int) = (((here % (ls.length : Int)).toNat : Nat) : Int) by omega]
  exact at_txs (askX_lt h)
theorem askX_nm {here : Int} {ls : List (List Nat)} (hn : ∀ l ∈ ls, isNm l = true) (hb : (!PyData.eqv (.list (ls.map tx)) (.list [])) = true) : isNm (ls.getD (here % (ls.length : Int)).toNat []) = true := hn _ (getD_mem (askX_lt (askX_ne hb)))
theorem askX_yes {here : Int} {ls : List (List Nat)} (hb : (!PyData.eqv (.list (ls.map tx)) (.list [])) = true) : tx (askIn (here / 64) (ls.getD (here % (ls.length : Int)).toNat []) 3) = tx (askX here ls) := by
  unfold askX
  rw [if_neg (askX_ne hb)]
theorem askX_no {here : Int} {ls : List (List Nat)} (hb : (!PyData.eqv (.list (ls.map tx)) (.list [])) = false) : tx (askL here 3) = tx (askX here ls) := by
  rw [ls_emp] at hb
  unfold askX
  rw [if_pos (by simpa using hb)]
theorem askX_ok {here : Int} {ls : List (List Nat)} (hn : ∀ l ∈ ls, isNm l = true) : isAs (askX here ls) = true ∧ (askX here ls).length ≤ 3 := by
  unfold askX
  by_cases h : ls = []
  · rw [if_pos h]
    have := askL_len here 3 (by decide)
    exact ⟨askL_ok (by decide) (by decide), by omega⟩
  · rw [if_neg h]
    obtain ⟨h1, h2⟩ := askIn_ok (more := here / 64) (most := 3) (hn _ (getD_mem (askX_lt (here := here) h))) (by decide) (by decide)
    exact ⟨h1, by omega⟩
def mostX (here : Int) : Int := here / 8 % (if here / 2 ^ (40 : Int).toNat % 2 = 0 then 4 else 61)
theorem mostX_ok (here : Int) : 0 < (if here / 2 ^ (40 : Int).toNat % 2 = 0 then (4 : Int) else 61) ∧ 0 ≤ mostX here ∧ mostX here ≤ 60 := by
  unfold mostX
  split
  · have h1 := Int.emod_nonneg (here / 8) (show (4 : Int) ≠ 0 by decide)
    have h2 := Int.emod_lt_of_pos (here / 8) (show (0 : Int) < 4 by decide)
    omega
  · have h1 := Int.emod_nonneg (here / 8) (show (61 : Int) ≠ 0 by decide)
    have h2 := Int.emod_lt_of_pos (here / 8) (show (0 : Int) < 61 by decide)
    omega
theorem bad_names {ls : List (List Nat)} (h : ls.length ≤ 100) (hn : ∀ l ∈ ls, isNm l = true) : ∀ d ∈ [PyData.list (ls.map tx ++ [tx []]), .list (List.replicate (61 : Int).toNat [tx [97]]).flatten, .tuple (ls.map tx), .none, .list [.int 5]], okNs d ∧ areNames d = false := fun d hd => by
  simp only [List.mem_cons, List.not_mem_nil, or_false] at hd
  rcases hd with rfl | rfl | rfl | rfl | rfl
  · refine ⟨⟨by show (ls.map tx ++ [tx []]).length ≤ 10000; rw [List.length_append, List.length_map]; simp only [List.length_cons, List.length_nil]; omega, fun e he => ?_⟩, ?_⟩
    · rcases List.mem_append.mp (show e ∈ ls.map tx ++ [tx []] from he) with z | z
      · obtain ⟨l, hl, rfl⟩ := List.mem_map.mp z
        have := isNm_len (hn l hl)
        exact okd_tx (by omega)
      · rw [List.mem_singleton.mp z]
        exact okd_tx (by decide)
    · rw [names_list, List.all_append, show [tx []].all isName = false from by decide, Bool.and_false, Bool.and_false]
  · refine ⟨⟨by decide, fun e he => ?_⟩, by decide⟩
    obtain ⟨l, hl, hm⟩ := List.mem_flatten.mp (show e ∈ (List.replicate (61 : Int).toNat [tx [97]]).flatten from he)
    rw [List.eq_of_mem_replicate hl] at hm
    rw [List.mem_singleton.mp hm]
    exact okd_tx (by decide)
  · exact ⟨⟨Nat.zero_le _, fun e he => by cases he⟩, rfl⟩
  · exact ⟨⟨by decide, fun e he => by cases he⟩, rfl⟩
  · exact ⟨⟨by decide, fun e he => by rw [List.mem_singleton.mp (show e ∈ [PyData.int 5] from he)]; unfold okd; decide⟩, rfl⟩
end Lf
set_option Elab.async false
set_option linter.all false
set_option maxRecDepth 100000
set_option maxHeartbeats 4000000
namespace Lf
open PySem PySem.Spec PyProof.Rows L2 L2H HotX LamX
/-! ### what the head has written -/
structure ErrOk (K : PySem.W.Frag) (C : Addr) : Prop where
  x : PySem.W.excIn K C [.type "ValueError", .type "Exception", .type "BaseException", .type "object"] "ValueError.__new__" = true
  k : PySem.W.keepIn K (.ref C) = true
  e : PySem.W.subIn K (.ref C) (.type "BaseException") = some true
  t : PySem.W.typeIn K (.ref C) = some (.type "type")
structure EwX (K : PySem.W.Frag) (cs : List Addr) (CS C : Addr) (j : Nat) : Prop extends Ew K cs C j where
  ok : ErrOk K C
  exm : PySem.W.exmOne K (.ref C) (.ref CS) = some true
theorem told_d {K : PySem.W.Frag} {cs : List Addr} {CS : Addr} {d : PyData} : ToldIs K cs CS d (.ok d) := rfl
theorem told_w {K : PySem.W.Frag} {cs : List Addr} {CS C : Addr} {j : Nat} {w : Str} {l : List Nat} (h : EwX K cs CS C j) (hw : ewords[j]? = some w) (e : PyData.str w = tx l) : ToldIs K cs CS (tx l) (.error C) := ⟨j, w, h.toEw, h.exm, hw, e.symm⟩
def wBadName : List Nat := [66, 97, 100, 78, 97, 109, 101]
def wBadAsk : List Nat := [66, 97, 100, 65, 115, 107]
def wBadMarks : List Nat := [66, 97, 100, 77, 97, 114, 107, 115]
def wBadPlaces : List Nat := [66, 97, 100, 80, 108, 97, 99, 101, 115]
def wBadNumber : List Nat := [66, 97, 100, 78, 117, 109, 98, 101, 114]
def wNoName : List Nat := [78, 111, 78, 97, 109, 101]
def wNothing : List Nat := [78, 111, 116, 104, 105, 110, 103]
def wBadText : List Nat := [66, 97, 100, 84, 101, 120, 116]
theorem lay_words {d : PyData} (h : (d.canLay0 && decide (d.depth ≤ 2)) = true) : Lay 2 d := by
  simp only [Bool.and_eq_true, decide_eq_true_eq] at h
  exact h
def ewB (K : PySem.W.Frag) (cs : List Addr) (CS C : Addr) (j : Nat) : Bool :=
  decide (cs.length = 8) && decide (cs[j]? = some C) && (List.range 8).all (fun i => decide (PySem.W.kitOne K (.ref C) (.ref (cs.getD i 0)) = some (decide (i = j)))) && decide (PySem.W.kitOne K (.ref C) (.type "ValueError") = some true)
  && decide (PySem.W.exmOne K (.ref C) (.ref CS) = some true)
  && (PySem.W.excIn K C [.type "ValueError", .type "Exception", .type "BaseException", .type "object"] "ValueError.__new__" && PySem.W.keepIn K (.ref C) && decide (PySem.W.subIn K (.ref C) (.type "BaseException") = some true) && (PySem.W.typeIn K (.ref C) == some (.type "type")))
  && ((PySem.W.findIn K (.ref C) "__getattribute__" == some (some (.builtin "BaseException.__getattribute__"))) && (PySem.W.findIn K (.ref C) "__getattr__" == some none) && PySem.W.hasDictIn K C && (PySem.W.findIn K (.ref C) "__class__" == some (some (.builtin "object.__class__")))
    && (PySem.W.specialIn K (.builtin "object.__class__") "__get__" == some (some (.builtin "getset_descriptor.__get__"))) && decide (PySem.W.takesIn K (.builtin "object.__class__") = some true) && decide (PySem.W.mroIn K C (.type "object") = some true))
theorem ew_of {K : PySem.W.Frag} {cs : List Addr} {CS C : Addr} {j : Nat} (h : ewB K cs CS C j = true) : EwX K cs CS C j := by
  unfold ewB at h
  simp only [Bool.and_eq_true, decide_eq_true_eq, beq_iff_eq, List.all_eq_true, List.mem_range] at h
  obtain ⟨⟨⟨⟨⟨⟨h1, h2⟩, h3⟩, h4⟩, h5⟩, ⟨⟨h6, h7⟩, h8⟩, h9⟩, ⟨⟨⟨⟨⟨g1, g2⟩, g3⟩, g4⟩, g5⟩, g6⟩, g7⟩ := h
  refine ⟨⟨h1, h2, ⟨g1, g2, h8, g3, g4, g5, g6, g7⟩, fun i D e => ?_, h4⟩, ⟨h6, h7, h8, h9⟩, h5⟩
  have hi : i < 8 := by
    have := (List.getElem?_eq_some_iff.mp e).1
    omega
  have := h3 i hi
  rw [show cs.getD i 0 = D by simp [e]] at this
  exact this
theorem df_mk {G : Pg} {x : Str} {st : Stmt} {f : Addr} {h : Heap} {ps : List Str} {od an : Option Addr} {sl : Array (Option Value)} {oc kV dc pm cd ct : Value} (X : G.K.In h) (N : h.Ns mainGlobals G.mg) (a : PySem.W.nsIn G.K mainGlobals x = some (some (.ref f)))
    (l : G.K.lookup f = some ⟨oc, od, .func (PySem.W.fnOf x x (defArgs st) (defBody st) (defScope st) .none kV dc pm an cd ct), sl⟩) (c : PySem.W.codeIn G.K cd x = true) (k : PySem.W.keepIn G.K (.ref f) = true)
    (hb : ∀ fd, Fun G.K x x st f fd → Binds G.K fd ps []) : Df G x st ps :=
  let F := fun_mk (st := st) l c k
  ⟨_, _, F, PySem.W.mg_of X N a, hb _ F⟩
theorem tabs_empty {H : Hp} {P : Addr} {q : Str} (h : H P = some (.tbl #[])) : Tabs [(P, q)] H := fun p hp => by
  cases List.mem_singleton.mp hp
  exact ⟨#[], h, by trivial, fun pos cv hc => by cases hc⟩
theorem tabs_nil {H : Hp} : Tabs [] H := fun p hp => by cases hp
theorem tabs_cons {H : Hp} {P : Addr} {q : Str} {T : List (Addr × Str)} (h : H P = some (.tbl #[])) (g : Tabs T H) : Tabs ((P, q) :: T) H := fun p hp => by
  rcases List.mem_cons.mp hp with e | hp
  · rw [e]; exact tabs_empty h _ List.mem_cons_self
  · exact g p hp
/-- a def that makes lambdas, by its name -/
structure DfL (G : Pg) (x : Str) (st : Stmt) (ps : List Str) (c : Addr) : Prop where
  ex : ∃ f fd, Fun G.K x x st f fd ∧ G.mg x = some (.ref f) ∧ Binds G.K fd ps [] ∧ fd.code = .ref c
theorem dfl_mk {G : Pg} {x : Str} {st : Stmt} {f c0 : Addr} {h : Heap} {ps : List Str} {od an : Option Addr} {sl : Array (Option Value)} {oc kV dc pm ct : Value} (X : G.K.In h) (N : h.Ns mainGlobals G.mg) (a : PySem.W.nsIn G.K mainGlobals x = some (some (.ref f)))
    (l : G.K.lookup f = some ⟨oc, od, .func (PySem.W.fnOf x x (defArgs st) (defBody st) (defScope st) .none kV dc pm an (.ref c0) ct), sl⟩) (c : PySem.W.codeIn G.K (.ref c0) x = true) (k : PySem.W.keepIn G.K (.ref f) = true)
    (hb : ∀ fd, Fun G.K x x st f fd → Binds G.K fd ps []) : DfL G x st ps c0 :=
  let F := fun_mk (st := st) l c k
  ⟨_, _, F, PySem.W.mg_of X N a, hb _ F, rfl⟩
theorem fn_dataL {c : Addr} {G : Pg} {st : Stmt} {x qual : Str} {f : Addr} {fd : FuncData} {N ps : List Str} {k : Nat} {T : List (Addr × Str)} {R : List PyData → Res → Prop} (Fn : Fun G.K x qual st f fd) (S : FnScope N ps (defScope st)) (hc : fd.code = .ref c) (len : ∀ ds r, R ds r → ds.length = ps.length)
    (body : ∀ (r : Rest) (F : Fx G.K T) (ds : List PyData) (res : Res), CtD (G.cx N r) N (defScope st) F.E → Co (G.cx N r) c (qual ++ ".<locals>.") → Room k r.A → R ds res → PSs (G.cx N r) (defBody st) (sD F (start0 N ds) (postOf res))) :
    FnOk G.prog G.w G.K G.mg G.base (L2N.CX G.prog G.w) (k + 1) f fd ps (spD T R) := by
  obtain ⟨oc, od, kV, doc, pm, an, cdv, ct, osl, rfl, lk, hcd⟩ := Fn.ex
  obtain rfl : cdv = .ref c := hc
  refine fn_of lk hcd S (fun vs H Q E h => ?_) fun A outer s H vs Q E hr h => ?_
  · obtain ⟨O, ds, r, _, _, hd, hR, _⟩ := h
    rw [hd.len]
    exact len ds r hR
  · obtain ⟨O, ds, r, dom, tb, hd, hR, ok, er⟩ := h
    refine ⟨_, body ⟨A.deeper (envOfC qual (defScope st) s.heap.objs.size f (.ref c)), s, H, envOfC qual (defScope st) s.heap.objs.size f (.ref c), outer, envOfC qual (defScope st) s.heap.objs.size f (.ref c) :: outer, [], fun _ => true, true, [], _⟩ ⟨O, H, E, dom⟩ ds r ⟨⟨rfl, rfl, S.nd, rfl⟩, fun _ => rfl, passes_of rfl, L2N.takes_of rfl rfl rfl rfl, rfl, rfl⟩ ⟨rfl, rfl⟩ hr hR, O, [], ?_, (fun _ z => by cases z), ?_⟩
    · have hl := len ds r hR
      have hp : ps.length ≤ N.length := by
        have := congrArg List.length S.pre
        rw [List.length_take] at this
        omega
      have hv := hd.len
      refine ⟨?_, fun a z => z, dom, tb, ExtN.refl H, fun i u q => ?_, fun i j u w q n h1 h2 m1 m2 => ?_, fun i j R u n h1 h2 p hp => ?_⟩
      rotate_right
      · unfold start0 at h1
        by_cases hi : i < ds.length
        · rw [List.getElem?_append_left (by simpa using hi), List.getElem?_map] at h1
          cases e : ds[i]? with
          | none => rw [e] at h1; cases h1
          | some d => rw [e] at h1; cases h1
        · rw [List.getElem?_append_right (by simpa using hi), List.getElem?_replicate] at h1
          split at h1 <;> cases h1
      · simp [start0, L2.start, hv]
      · unfold start0 at q
        unfold L2.start
        by_cases hi : i < ds.length
        · rw [List.getElem?_append_left (by simpa using hi), List.getElem?_map] at q
          rw [List.getElem?_append_left (by simpa [hv] using hi), List.getElem?_map]
          cases e : ds[i]? with
          | none => rw [e] at q; cases q
          | some d =>
            rw [e] at q
            cases q
            obtain ⟨v, e1, e2⟩ := hd.get e
            rw [e1]
            exact ⟨v, rfl, e2⟩
        · rw [List.getElem?_append_right (by simpa using hi), List.getElem?_replicate] at q
          split at q
          · cases q; trivial
          · cases q
      · have no : ∀ {i : Nat} {u : Slot}, (start0 N ds)[i]? = some u → u.mine = false := fun {i u} q => by
          unfold start0 at q
          by_cases hi : i < ds.length
          · rw [List.getElem?_append_left (by simpa using hi), List.getElem?_map] at q
            cases e : ds[i]? with
            | none => rw [e] at q; cases q
            | some d => rw [e] at q; cases q; rfl
          · rw [List.getElem?_append_right (by simpa using hi), List.getElem?_replicate] at q
            split at q
            · cases q; rfl
            · cases q
        rw [no h1] at m1
        cases m1
    · exact ⟨fun δ O' σ' H' m s1 t1 => ok .none m .non H' s1.ext s1.tabs rfl, fun d v H' m e t g => ok d m v H' e t g, fun δ O' σ' H' m => m.elim, fun δ O' σ' H' m => m.elim, fun c H' m e t => er c m H' e t, fun _ _ _ _ _ _ m => m.elim, fun _ _ _ _ _ m => m.elim⟩
theorem fd_dataL {G : Pg} {st : Stmt} {x : Str} {N ps : List Str} {c : Addr} {k : Nat} {T : List (Addr × Str)} {R : List PyData → Res → Prop} (D : DfL G x st ps c) (S : FnScope N ps (defScope st)) (len : ∀ ds r, R ds r → ds.length = ps.length)
    (body : ∀ (r : Rest) (F : Fx G.K T) (ds : List PyData) (res : Res), CtD (G.cx N r) N (defScope st) F.E → Co (G.cx N r) c (x ++ ".<locals>.") → Room k r.A → R ds res → PSs (G.cx N r) (defBody st) (sD F (start0 N ds) (postOf res))) :
    Fd G.prog G.w G.K G.mg G.base x (k + 1) ps (spD T R) := by
  obtain ⟨f, fd, Fn, m, b, hc⟩ := D.ex
  exact ⟨f, fd, fn_dataL Fn S hc len body, m, Fn.kp, b⟩
theorem noCX {P : Program} {w : World} {st : List Env} {H : Hp} {s : Shared} {e : Value} {s' : Shared} (h : L2N.CX P w st H s (fun _ _ _ => False) e s') : False := by
  obtain ⟨_, _, _, _, _, _, _, _, _, _, _, _, z⟩ := h
  exact z.elim
end Lf
set_option Elab.async false
set_option linter.all false
set_option maxRecDepth 100000
set_option maxHeartbeats 4000000
/-! a world of things that change: instances, lists, dicts, at their addresses -/
namespace Lf
open PySem PySem.Spec PyProof.Rows L2 L2H HotX LamX
inductive MO where
  /-- an instance: its class, the names of its attributes, what they hold -/
  | ins (C : Addr) (ns : List Str) (ds : List PyData)
  | lst (ds : List PyData)
  | dic (kvs : List (Key × PyData))
abbrev Wd := List (Addr × MO)
abbrev wAs (W : Wd) : List Addr := W.map (·.1)
def FsAll (O : Addr → Prop) (H : Hp) (ns : List Str) (ds : List PyData) (vs : List (Str × V)) : Prop := vs.map (·.1) = ns ∧ DtAll O H ds (vs.map (·.2))
def MoOk (O : Addr → Prop) (H : Hp) (p : Addr) : MO → Prop
  | .ins C ns ds => ∃ dx vs, H p = some (.ins C dx vs) ∧ FsAll O H ns ds vs
  | .lst ds => ∃ vs, H p = some (.lst vs) ∧ DtAll O H ds vs
  | .dic kvs => ∃ vs, H p = some (.dK vs) ∧ KvAll O H kvs vs
def Kp (O : Addr → Prop) (H : Hp) (O' : Addr → Prop) (H' : Hp) : Prop := ∀ d v, Dt O H d v → Dt O' H' d v
section
variable {O O' O2 : Addr → Prop} {H H' H2 : Hp} {p : Addr} {mo : MO} {W W' : Wd}
theorem DtAll.kp (k : Kp O H O' H') : ∀ {ds : List PyData} {vs : List V}, DtAll O H ds vs → DtAll O' H' ds vs
  | [], _, h => h
  | _ :: _, _, h => let ⟨x, r, e, h1, h2⟩ := h; ⟨x, r, e, k _ _ h1, DtAll.kp k h2⟩
theorem Kp.trans (h : Kp O H O' H') (g : Kp O' H' O2 H2) : Kp O H O2 H2 := fun d v q => g d v (h d v q)
theorem Kp.grow (h : Kp O H O' H') (e : ExtN H' H2) : Kp O H O' H2 := fun d v q => (h d v q).grow e
theorem Kp.ext (e : ExtN H H') : Kp O H O H' := fun d v q => q.grow e
theorem MoOk.keep (h : MoOk O H p mo) (e : H' p = H p) (k : Kp O H O' H') : MoOk O' H' p mo := by
  cases mo with
  | ins C ns ds => obtain ⟨dx, vs, a, b, c⟩ := h; exact ⟨dx, vs, by rw [e]; exact a, b, c.kp k⟩
  | lst ds => obtain ⟨vs, a, c⟩ := h; exact ⟨vs, by rw [e]; exact a, c.kp k⟩
  | dic kvs => obtain ⟨vs, a, b, c⟩ := h; exact ⟨vs, by rw [e]; exact a, b, c.kp k⟩
theorem MoOk.lives (h : MoOk O H p mo) : Lives H p := by
  cases mo with
  | ins C ns ds => obtain ⟨dx, vs, a, _⟩ := h; exact ⟨_, a, fun _ z => by cases z⟩
  | lst ds => obtain ⟨vs, a, _⟩ := h; exact ⟨_, a, fun _ z => by cases z⟩
  | dic kvs => obtain ⟨vs, a, _⟩ := h; exact ⟨_, a, fun _ z => by cases z⟩
end
def Laid (O : Addr → Prop) (H : Hp) (W : Wd) : Prop := (wAs W).Nodup ∧ ∀ q ∈ W, MoOk O H q.1 q.2
def wR (ro : Bool) (W : Wd) : Rsc := ⟨wAs W, fun O H _ => Laid O H W, ro, fun O O' H H' o h e k => ⟨h.1, fun q hq => (h.2 q hq).keep (e q.1 (List.mem_map.mpr ⟨q, hq, rfl⟩)) k⟩⟩
abbrev Slot.wd (ro : Bool) (W : Wd) : Slot := .res (wR ro W)
/-- what is shut behind a change of the world -/
def OW (O : Addr → Prop) (W W' : Wd) : Addr → Prop := fun a => (O a ∧ a ∉ wAs W) ∨ a ∈ wAs W'
/-- the world W becomes W', all else stays -/
structure Aft (T : List (Addr × Str)) (O : Addr → Prop) (H : Hp) (W : Wd) (H' : Hp) (W' : Wd) : Prop where
  t : Tabs T H'
  ext : ∀ a o, H a = some o → (∀ ps, o ≠ .tbl ps) → a ∉ wAs W → H' a = some o
  laid : Laid (OW O W W') H' W'
  new : ∀ a ∈ wAs W', a ∈ wAs W ∨ ¬ Lives H a
theorem Aft.kp {T : List (Addr × Str)} {O : Addr → Prop} {H H' : Hp} {W W' : Wd} (h : Aft T O H W H' W') (hO : ∀ a ∈ wAs W, O a) : Kp O H (OW O W W') H' := fun d v g =>
  Dt.imp (fun a o n r t => ⟨fun z => z.elim (fun z => n z.1) (fun z => (h.new a z).elim (fun y => n (hO a y)) (fun y => y ⟨o, r, t⟩)), h.ext a o r t (fun y => n (hO a y))⟩) d v g
section
variable {Kf : PySem.W.Frag} {Tf : List (Addr × Str)} {F : Fx Kf Tf} {O : Addr → Prop} {H H' : Hp} {σ : L2.St} {δ : List Slot} {W W' : Wd} {g : Nat} {ro : Bool}
structure WAt (F : Fx Kf Tf) (O : Addr → Prop) (H : Hp) (W : Wd) (ro : Bool) : Prop where
  laid : Laid O H W
  sh : ∀ a ∈ wAs W, O a
  rd : ro = true → ∀ a ∈ wAs W, Lives F.Hin a
  wr : ro = false → ∀ a ∈ wAs W, ¬ Lives F.Hin a
  lv : ∀ a ∈ wAs W, Lives H a
theorem StAt.w (st : StAt F O H σ δ) (hg : δ[g]? = some (.wd ro W)) : WAt F O H W ro := by
  obtain ⟨_, h2, h3⟩ := st.slot g _ hg
  exact ⟨h2, fun a ha => (h3 a ha).1, fun e a ha => (h3 a ha).2.1.1 e, fun e a ha => (h3 a ha).2.1.2 e, fun a ha => (h3 a ha).2.2⟩
theorem StAt.w0 (st : StAt F O H σ δ) (hg : δ[g]? = some (.wd ro W)) : σ[g]?.getD none = none := (st.slot g _ hg).1
/-- what is one's own lives -/
theorem has_lives {o : Option V} {u : Slot} {p : Addr} (h : SlotOk F O H o u) (hp : u.has o p) : Lives H p ∧ O p := by
  cases u with
  | own ds =>
    obtain ⟨q, vs, e, oq, _, g, _⟩ := h
    rw [e] at hp
    cases (show some (V.ref q) = some (V.ref p) from hp)
    exact ⟨⟨_, g, fun _ z => by cases z⟩, oq⟩
  | odk ds =>
    obtain ⟨q, vs, e, oq, _, g, _⟩ := h
    rw [e] at hp
    cases (show some (V.ref q) = some (V.ref p) from hp)
    exact ⟨⟨_, g, fun _ z => by cases z⟩, oq⟩
  | res R => exact ⟨(h.2.2 p hp).2.2, (h.2.2 p hp).1⟩
  | non => exact hp.elim
  | dat _ => exact hp.elim
  | scr _ => exact hp.elim
  | any _ => exact hp.elim
theorem w_after (st : StAt F O H σ δ) (hg : δ[g]? = some (.wd false W)) (h : Aft F.T O H W H' W') : StAt F (OW O W W') H' σ (δ.set g (.wd false W')) := by
  have hw := st.w hg
  have kp := h.kp hw.sh
  have hgl : g < δ.length := (List.getElem?_eq_some_iff.mp hg).1
  have far : ∀ j u, j ≠ g → δ[j]? = some u → ∀ p, u.has (σ[j]?.getD none) p → p ∉ wAs W ∧ p ∉ wAs W' := fun j u hj hu p hp => by
    have n1 : p ∉ wAs W := fun z => st.afar g j _ u (fun e => hj e.symm) hg hu p z hp
    exact ⟨n1, fun z => (h.new p z).elim n1 (fun y => y (has_lives (st.slot j u hu) hp).1)⟩
  have hn : ∀ p, Lives H p → p ∉ wAs W → H' p = H p := fun p ⟨o, e, t⟩ n => by rw [e, h.ext p o e t n]
  refine ⟨by rw [List.length_set, st.len], fun a z => .inl ⟨st.o0 a z, fun y => hw.wr rfl a y (F.h0 a z)⟩, fun a z => ?_, h.t, fun a o e t => ?_, fun j s r => ?_, fun j l s u q hjl h1 h2 m1 m2 e1 e2 => ?_, ?_⟩
  · rcases z with ⟨z, n⟩ | z
    · obtain ⟨o, e, t⟩ := st.dom a z
      exact ⟨o, h.ext a o e t n, t⟩
    · obtain ⟨q, hq, rfl⟩ := List.mem_map.mp z
      exact (h.laid.2 q hq).lives
  · exact h.ext a o (st.ext a o e t) t (fun y => hw.wr rfl a y ⟨o, e, t⟩)
  · by_cases ej : g = j
    · subst ej
      rw [List.getElem?_set_self hgl] at r
      cases r
      refine ⟨st.w0 hg, h.laid, fun a ha => ⟨.inr ha, ⟨fun z => (by cases z), fun _ z => ?_⟩, ?_⟩⟩
      · rcases h.new a ha with y | y
        · exact hw.wr rfl a y z
        · exact y (z.grow st.ext)
      · obtain ⟨q, hq, rfl⟩ := List.mem_map.mp ha
        exact (h.laid.2 q hq).lives
    · rw [List.getElem?_set_ne ej] at r
      have gs := st.slot j s r
      have fr := far j s (fun z => ej z.symm) r
      cases s with
      | non => trivial
      | dat d => obtain ⟨v, a, b⟩ := gs; exact ⟨v, a, kp _ _ b⟩
      | own ds =>
        obtain ⟨p, vs, a, b, c, e, q⟩ := gs
        have n := fr p a
        exact ⟨p, vs, a, .inl ⟨b, n.1⟩, c, h.ext p _ e (fun _ z => by cases z) n.1, q.kp kp⟩
      | odk kvs =>
        obtain ⟨p, vs, a, b, c, e, q⟩ := gs
        have n := fr p a
        exact ⟨p, vs, a, .inl ⟨b, n.1⟩, c, h.ext p _ e (fun _ z => by cases z) n.1, q.imp fun _ _ z => z.kp kp⟩
      | res R => exact res_keep gs (fun a ha => hn a (gs.2.2 a ha).2.2 (fr a ha).1) (fun a ha => .inl ⟨(gs.2.2 a ha).1, (fr a ha).1⟩) kp
      | scr ns => exact gs
      | any φ => exact gs
  · have back : ∀ {j : Nat} {s : Slot}, (δ.set g (.wd false W'))[j]? = some s → s.mine = true → ∃ s', δ[j]? = some s' ∧ s'.mine = true := fun {j s} a m => by
      by_cases e : g = j
      · subst e; exact ⟨_, hg, rfl⟩
      · rw [List.getElem?_set_ne e] at a; exact ⟨s, a, m⟩
    obtain ⟨s1, a1, b1⟩ := back h1 m1
    obtain ⟨s2, a2, b2⟩ := back h2 m2
    exact st.apart j l s1 s2 q hjl a1 a2 b1 b2 e1 e2
  · refine st.afar.turn st.len g _ (fun R e j u hj hu p hp z => ?_) fun j R hj hR p hp z => ?_
    · cases e
      exact (far j u hj hu p z).2 hp
    · exact (far j _ hj hR p hp).2 z
theorem OW_self (hO : ∀ a ∈ wAs W, O a) (e : wAs W' = wAs W) (a : Addr) : OW O W W' a ↔ O a := by
  unfold OW
  rw [e]
  exact ⟨fun z => z.elim (fun z => z.1) (hO a), fun z => (Classical.em (a ∈ wAs W)).elim .inr fun n => .inl ⟨z, n⟩⟩
theorem as_set {i : Nat} {p : Addr} {mo mo' : MO} (hi : W[i]? = some (p, mo)) : wAs (W.set i (p, mo')) = wAs W := by
  show (W.set i (p, mo')).map (·.1) = W.map (·.1)
  rw [List.map_set]
  have hl := (List.getElem?_eq_some_iff.mp hi).1
  have e : (W.map (·.1))[i]? = some p := by rw [List.getElem?_map, hi]; rfl
  refine List.ext_getElem? fun j => ?_
  by_cases ej : i = j
  · subst ej
    rw [List.getElem?_set_self (by simpa using hl), e]
  · rw [List.getElem?_set_ne ej]
/-- one of the world is changed -/
theorem aft_turn {T : List (Addr × Str)} {i : Nat} {p : Addr} {mo mo' : MO} {o : HO} (hw : WAt F O H W ro) (hi : W[i]? = some (p, mo)) (tt : Tabs T (upd H p o)) (hm : O p → MoOk O (upd H p o) p mo') : Aft T O H W (upd H p o) (W.set i (p, mo')) := by
  have es := as_set (mo' := mo') hi
  have hp : p ∈ wAs W := List.mem_map.mpr ⟨_, List.mem_of_getElem? hi, rfl⟩
  have ow := OW_self (W' := W.set i (p, mo')) hw.sh es
  have kop : Kp O (upd H p o) (OW O W (W.set i (p, mo'))) (upd H p o) := fun d v g => g.open_ fun a z => (ow a).mp z
  refine ⟨tt, fun a u e t n => ?_, ⟨by rw [es]; exact hw.laid.1, fun q hq => ?_⟩, fun a ha => .inl (by rw [← es]; exact ha)⟩
  · rw [upd_ne (fun z => n (by rw [z]; exact hp))]
    exact e
  · obtain ⟨j, hj⟩ := List.mem_iff_getElem?.mp hq
    by_cases ej : i = j
    · subst ej
      rw [List.getElem?_set_self (List.getElem?_eq_some_iff.mp hi).1] at hj
      cases hj
      exact (hm (hw.sh p hp)).keep rfl kop
    · rw [List.getElem?_set_ne ej] at hj
      have ne : q.1 ≠ p := fun z => ej (by
        have nd := hw.laid.1
        have e1 : (wAs W)[i]? = some p := by rw [List.getElem?_map, hi]; rfl
        have e2 : (wAs W)[j]? = some p := by rw [List.getElem?_map, hj, ← z]; rfl
        exact (List.getElem?_inj (List.getElem?_eq_some_iff.mp e1).1 nd).mp (e1.trans e2.symm))
      refine (hw.laid.2 q (List.mem_of_getElem? hj)).keep (upd_ne ne) (Kp.trans (fun d v g => g.turn (hw.sh p hp)) kop)
/-- something new is put to the world -/
theorem aft_new {T : List (Addr × Str)} {p : Addr} {mo : MO} {o : HO} (hw : WAt F O H W ro) (t : Tabs T H) (hp : H p = none) (hm : MoOk (Shut O p) (upd H p o) p mo) : Aft T O H W (upd H p o) (W ++ [(p, mo)]) := by
  have np : p ∉ wAs W := fun z => (hw.lv p z).ne hp rfl
  have es : wAs (W ++ [(p, mo)]) = wAs W ++ [p] := by simp [wAs]
  have ow : ∀ a, OW O W (W ++ [(p, mo)]) a → Shut O p a := fun a z => by
    rcases z with z | z
    · exact .inl z.1
    · rw [es] at z
      rcases List.mem_append.mp z with z | z
      · exact .inl (hw.sh a z)
      · exact .inr (List.mem_singleton.mp z)
  have kop : Kp (Shut O p) (upd H p o) (OW O W (W ++ [(p, mo)])) (upd H p o) := fun d v g => g.open_ ow
  refine ⟨tabs_new t hp, fun a u e t n => ext_new hp a u e t, ⟨?_, fun q hq => ?_⟩, fun a ha => ?_⟩
  · rw [es]
    exact List.nodup_append.mpr ⟨hw.laid.1, List.nodup_cons.mpr ⟨by simp, List.nodup_nil⟩, fun a ha b hb z => np (by rw [← List.mem_singleton.mp hb, ← z]; exact ha)⟩
  · rcases List.mem_append.mp hq with hq | hq
    · have hm := hw.laid.2 q hq
      exact hm.keep (upd_ne (hm.lives.ne hp)) (Kp.trans (fun d v g => (g.shut hp).grow (ext_new hp)) kop)
    · cases List.mem_singleton.mp hq
      exact hm.keep rfl kop
  · rw [es] at ha
    rcases List.mem_append.mp ha with z | z
    · exact .inl z
    · rw [List.mem_singleton.mp z]
      exact .inr fun y => y.ne hp rfl
theorem WAt.grow (hw : WAt F O H W ro) (e : ExtN H H') : WAt F O H' W ro := ⟨⟨hw.laid.1, fun q hq => (hw.laid.2 q hq).keep ((hw.laid.2 q hq).lives.same e) (Kp.ext e)⟩, hw.sh, hw.rd, hw.wr, fun a ha => (hw.lv a ha).grow e⟩
theorem wd_self (hg : δ[g]? = some (.wd ro W)) : δ.set g (.wd ro W) = δ := by
  have hl := (List.getElem?_eq_some_iff.mp hg).1
  have e := (List.getElem?_eq_some_iff.mp hg).2
  rw [← e]
  exact List.set_getElem_self hl
end
/-! ### readings with a world behind them -/
section
variable {Kf : PySem.W.Frag} {Tf : List (Addr × Str)} (F : Fx Kf Tf) (δ : List Slot) (g : Nat)
/-- a value, or what is raised, and the world then -/
def tR (Ω : Res → Wd → Prop) : TE := fun σ H Q => ∃ O, StAt F O H σ δ ∧ (∀ d W' v O' H', Ω (.ok d) W' → StAt F O' H' σ (δ.set g (.wd false W')) → Kp O H O' H' → Dt O' H' d v → Q v H') ∧
  (∀ c W' O' H', Ω (.error c) W' → StAt F O' H' σ (δ.set g (.wd false W')) → Kp O H O' H' → F.E (.ref c) none H')
/-- a value, and the world then -/
def tW (Ω : PyData → Wd → Prop) : TE := fun σ H Q => ∃ O, StAt F O H σ δ ∧ ∀ d W' v O' H', Ω d W' → StAt F O' H' σ (δ.set g (.wd false W')) → Kp O H O' H' → Dt O' H' d v → Q v H'
def aW (Ω : List PyData → Wd → Prop) : TA := fun σ H Q => ∃ O, StAt F O H σ δ ∧ ∀ ds W' vs O' H', Ω ds W' → StAt F O' H' σ (δ.set g (.wd false W')) → Kp O H O' H' → DtAll O' H' ds vs → Q vs H'
def cW (Ω : Bool → Wd → Prop) : TT := fun σ H Q => ∃ O, StAt F O H σ δ ∧ ∀ b W' O' H', Ω b W' → StAt F O' H' σ (δ.set g (.wd false W')) → Kp O H O' H' → Q b H'
end
/-! ### promises with a world -/
/-- W is read -/
def spR (T : List (Addr × Str)) (R : List PyData → Wd → Res → Prop) : Sp := fun vs H Q E => ∃ O ds W r, (∀ a, O a → Lives H a) ∧ Tabs T H ∧ DtAll O H ds vs ∧ Laid O H W ∧ (∀ a ∈ wAs W, O a) ∧ R ds W r ∧
  (∀ d, r = .ok d → ∀ v H', ExtN H H' → Tabs T H' → Dt O H' d v → Q v H') ∧ (∀ c, r = .error c → ∀ H', ExtN H H' → Tabs T H' → E (.ref c) none H')
/-- W is changed -/
def spW (T : List (Addr × Str)) (R : List PyData → Wd → (PyData → Wd → Prop) → Prop) : Sp := fun vs H Q E => ∃ O ds W Ω, (∀ a, O a → Lives H a) ∧ Tabs T H ∧ DtAll O H ds vs ∧ Laid O H W ∧ (∀ a ∈ wAs W, O a) ∧ R ds W Ω ∧
  (∀ d W' v H', Ω d W' → Aft T O H W H' W' → Dt (OW O W W') H' d v → Q v H')
def startW (N : List Str) (ds : List PyData) (ro : Bool) (W : Wd) : List Slot := ds.map .dat ++ (List.replicate (N.length - 1 - ds.length) .non ++ [.wd ro W])
def postW (g : Nat) (Ω : PyData → Wd → Prop) : Post := { nx := fun δ => ∃ W', δ[g]? = some (.wd false W') ∧ Ω .none W', rt := fun _ => False, rts := fun δ d => ∃ W', δ[g]? = some (.wd false W') ∧ Ω d W' }
theorem startW_get {N : List Str} {ds : List PyData} {ro : Bool} {W : Wd} {i : Nat} {u : Slot} (hl : ds.length + 1 ≤ N.length) (q : (startW N ds ro W)[i]? = some u) : (∃ d, ds[i]? = some d ∧ u = .dat d) ∨ (u = .non ∧ ds.length ≤ i) ∨ (i = N.length - 1 ∧ u = .wd ro W) := by
  unfold startW at q
  by_cases hi : i < ds.length
  · rw [List.getElem?_append_left (by simpa using hi), List.getElem?_map] at q
    cases e : ds[i]? with
    | none => rw [e] at q; cases q
    | some d => rw [e] at q; cases q; exact .inl ⟨d, rfl, rfl⟩
  · rw [List.getElem?_append_right (by simpa using hi), List.length_map] at q
    by_cases h2 : i - ds.length < N.length - 1 - ds.length
    · rw [List.getElem?_append_left (by simpa using h2), List.getElem?_replicate, if_pos h2] at q
      cases q
      exact .inr (.inl ⟨rfl, by omega⟩)
    · rw [List.getElem?_append_right (by simpa using h2), List.length_replicate] at q
      cases hq : i - ds.length - (N.length - 1 - ds.length) with
      | zero => rw [hq] at q; cases q; exact .inr (.inr ⟨by omega, rfl⟩)
      | succ n => rw [hq] at q; simp at q
theorem startW_len {N : List Str} {ds : List PyData} {ro : Bool} {W : Wd} (hl : ds.length + 1 ≤ N.length) : (startW N ds ro W).length = N.length := by
  simp [startW]
  omega
theorem startW_last {N : List Str} {ds : List PyData} {ro : Bool} {W : Wd} (hl : ds.length + 1 ≤ N.length) : (startW N ds ro W)[N.length - 1]? = some (.wd ro W) := by
  unfold startW
  rw [List.getElem?_append_right (by simp; omega), List.length_map, List.getElem?_append_right (by simp), List.length_replicate]
  rw [Nat.sub_self]
  rfl
/-- the state at a def's head -/
theorem st_start {Kf : PySem.W.Frag} {Tf : List (Addr × Str)} {F : Fx Kf Tf} {O : Addr → Prop} {H : Hp} {N : List Str} {ds : List PyData} {vs : List V} {ro : Bool} {W : Wd} (hl : ds.length + 1 ≤ N.length) (o0 : ∀ a, F.O0 a → O a) (dom : ∀ a, O a → Lives H a) (tb : Tabs Tf H) (ex : ExtN F.Hin H) (hd : DtAll O H ds vs) (hw : WAt F O H W ro) :
    StAt F O H (L2.start N vs) (startW N ds ro W) := by
  have hv := hd.len
  have sg : ∀ i, ds.length ≤ i → (L2.start N vs)[i]?.getD none = none := fun i hi => by
    unfold L2.start
    rw [List.getElem?_append_right (by simp [hv]; exact hi), List.getElem?_replicate]
    split <;> rfl
  have sl : ∀ i u, (startW N ds ro W)[i]? = some u → SlotOk F O H ((L2.start N vs)[i]?.getD none) u := fun i u q => by
    rcases startW_get hl q with ⟨d, hq, rfl⟩ | ⟨rfl, _⟩ | ⟨hi, rfl⟩
    · obtain ⟨v, e1, e2⟩ := hd.get hq
      have hi : i < vs.length := (List.getElem?_eq_some_iff.mp e1).1
      unfold L2.start
      rw [List.getElem?_append_left (by simpa using hi), List.getElem?_map, e1]
      exact ⟨v, rfl, e2⟩
    · trivial
    · exact ⟨sg i (by omega), hw.laid, fun a ha => ⟨hw.sh a ha, ⟨fun z => hw.rd z a ha, fun z => hw.wr z a ha⟩, hw.lv a ha⟩⟩
  refine ⟨?_, o0, dom, tb, ex, sl, fun i j s u p n h1 h2 m1 m2 e1 e2 => ?_, fun i j R u n h1 h2 p hp hu => ?_⟩
  · rw [startW_len hl]
    unfold L2.start
    rw [List.length_append, List.length_map, List.length_replicate, hv]
    omega
  · rcases startW_get hl h1 with ⟨d, _, rfl⟩ | ⟨rfl, _⟩ | ⟨hi, rfl⟩
    · cases m1
    · cases m1
    · have := (sl i _ h1).1
      rw [e1] at this
      cases this
  · rcases startW_get hl h1 with ⟨d, _, e⟩ | ⟨e, _⟩ | ⟨hi, e⟩
    · cases e
    · cases e
    · rcases startW_get hl h2 with ⟨d, _, rfl⟩ | ⟨rfl, _⟩ | ⟨hj, _⟩
      · exact hu
      · exact hu
      · exact n (hi.trans hj.symm)
section
variable {G : Pg} {st : Stmt} {x qual : Str} {f : Addr} {fd : FuncData} {N ps : List Str} {k : Nat} {T : List (Addr × Str)}
theorem fs_len (S : FnScope N ps (defScope st)) (hw : ps.length + 1 ≤ N.length) {ds : List PyData} (hl : ds.length = ps.length) : ds.length + 1 ≤ N.length := by omega
/-- a def that reads the world keeps its promise -/
theorem fn_dataR {R : List PyData → Wd → Res → Prop} (Fn : Fun G.K x qual st f fd) (S : FnScope N ps (defScope st)) (hN : ps.length + 1 ≤ N.length) (len : ∀ ds W r, R ds W r → ds.length = ps.length)
    (body : ∀ (r : Rest) (F : Fx G.K T) (ds : List PyData) (W : Wd) (res : Res), CtD (G.cx N r) N (defScope st) F.E → (∀ c, fd.code = .ref c → Co (G.cx N r) c (qual ++ ".<locals>.")) → Room k r.A → R ds W res → PSs (G.cx N r) (defBody st) (sD F (startW N ds true W) (postOf res))) :
    FnOk G.prog G.w G.K G.mg G.base (L2N.CX G.prog G.w) (k + 1) f fd ps (spR T R) := by
  obtain ⟨oc, od, kV, doc, pm, an, cdv, ct, osl, rfl, lk, hcd⟩ := Fn.ex
  refine fn_of lk hcd S (fun vs H Q E h => ?_) fun A outer s H vs Q E hr h => ?_
  · obtain ⟨O, ds, W, r, _, _, hd, _, _, hR, _⟩ := h
    rw [hd.len]
    exact len ds W r hR
  · obtain ⟨O, ds, W, r, dom, tb, hd, hL, hO, hR, ok, er⟩ := h
    refine ⟨_, body ⟨A.deeper (envOfC qual (defScope st) s.heap.objs.size f cdv), s, H, envOfC qual (defScope st) s.heap.objs.size f cdv, outer, envOfC qual (defScope st) s.heap.objs.size f cdv :: outer, [], fun _ => true, true, [], _⟩ ⟨O, H, E, dom⟩ ds W r ⟨⟨rfl, rfl, S.nd, rfl⟩, fun _ => rfl, passes_of rfl, L2N.takes_of rfl rfl rfl rfl, rfl, rfl⟩ (fun c hc => by cases (show cdv = .ref c from hc); exact ⟨rfl, rfl⟩) hr hR, O, [], ?_, (fun _ z => by cases z), ?_⟩
    · exact st_start (by have := len ds W r hR; omega) (fun a z => z) dom tb (ExtN.refl H) hd ⟨hL, hO, fun _ a ha => dom a (hO a ha), fun z => (by cases z), fun a ha => dom a (hO a ha)⟩
    · exact ⟨fun δ O' σ' H' m s1 t1 => ok .none m .non H' s1.ext s1.tabs rfl, fun d v H' m e t g => ok d m v H' e t g, fun δ O' σ' H' m => m.elim, fun δ O' σ' H' m => m.elim, fun c H' m e t => er c m H' e t, fun _ _ _ _ _ _ m => m.elim, fun _ _ _ _ _ m => m.elim⟩
/-- a heap without the world -/
def lessW (H : Hp) (W : Wd) : Hp := fun a => if a ∈ wAs W then none else H a
theorem lessW_get {H : Hp} {W : Wd} {a : Addr} {o : HO} (h : lessW H W a = some o) : a ∉ wAs W ∧ H a = some o := by
  unfold lessW at h
  split at h
  · cases h
  · rename_i n; exact ⟨n, h⟩
theorem lessW_ne {H : Hp} {W : Wd} {a : Addr} (n : a ∉ wAs W) : lessW H W a = H a := if_neg n
/-- the world at the end, told from outside -/
theorem aft_end {Kf : PySem.W.Frag} {T : List (Addr × Str)} {O O' : Addr → Prop} {H H' : Hp} {W W' : Wd} {E : XK} {h0 : ∀ a, (O a ∧ a ∉ wAs W) → Lives (lessW H W) a} {σ' : L2.St} {δ' : List Slot} {g : Nat} (s1 : StAt (⟨fun a => O a ∧ a ∉ wAs W, lessW H W, E, h0⟩ : Fx Kf T) O' H' σ' δ') (hg : δ'[g]? = some (.wd false W')) :
    Aft T O H W H' W' ∧ ∀ a, OW O W W' a → O' a := by
  have hw := s1.w hg
  have hO : ∀ a, OW O W W' a → O' a := fun a z => z.elim (fun z => s1.o0 a z) (hw.sh a)
  refine ⟨⟨s1.tabs, fun a o e t n => s1.ext a o (by show lessW H W a = some o; rw [lessW_ne n]; exact e) t, ⟨hw.laid.1, fun q hq => (hw.laid.2 q hq).keep rfl fun d v z => z.open_ hO⟩, fun a ha => ?_⟩, hO⟩
  by_cases n : a ∈ wAs W
  · exact .inl n
  · refine .inr fun ⟨o, e, t⟩ => hw.wr rfl a ha ⟨o, ?_, t⟩
    show lessW H W a = some o
    rw [lessW_ne n]
    exact e
/-- a def that changes the world keeps its promise -/
theorem fn_dataW {R : List PyData → Wd → (PyData → Wd → Prop) → Prop} (Fn : Fun G.K x qual st f fd) (S : FnScope N ps (defScope st)) (hN : ps.length + 1 ≤ N.length) (len : ∀ ds W Ω, R ds W Ω → ds.length = ps.length)
    (body : ∀ (r : Rest) (F : Fx G.K T) (ds : List PyData) (W : Wd) (Ω : PyData → Wd → Prop), CtD (G.cx N r) N (defScope st) F.E → (∀ c, fd.code = .ref c → Co (G.cx N r) c (qual ++ ".<locals>.")) → Room k r.A → R ds W Ω → PSs (G.cx N r) (defBody st) (sD F (startW N ds false W) (postW (N.length - 1) Ω))) :
    FnOk G.prog G.w G.K G.mg G.base (L2N.CX G.prog G.w) (k + 1) f fd ps (spW T R) := by
  obtain ⟨oc, od, kV, doc, pm, an, cdv, ct, osl, rfl, lk, hcd⟩ := Fn.ex
  refine fn_of lk hcd S (fun vs H Q E h => ?_) fun A outer s H vs Q E hr h => ?_
  · obtain ⟨O, ds, W, Ω, _, _, hd, _, _, hR, _⟩ := h
    rw [hd.len]
    exact len ds W Ω hR
  · obtain ⟨O, ds, W, Ω, dom, tb, hd, hL, hO, hR, ok⟩ := h
    have h0 : ∀ a, (O a ∧ a ∉ wAs W) → Lives (lessW H W) a := fun a ⟨z, n⟩ => by
      obtain ⟨o, e, t⟩ := dom a z
      exact ⟨o, by rw [lessW_ne n]; exact e, t⟩
    refine ⟨_, body ⟨A.deeper (envOfC qual (defScope st) s.heap.objs.size f cdv), s, H, envOfC qual (defScope st) s.heap.objs.size f cdv, outer, envOfC qual (defScope st) s.heap.objs.size f cdv :: outer, [], fun _ => true, true, [], _⟩ ⟨fun a => O a ∧ a ∉ wAs W, lessW H W, E, h0⟩ ds W Ω ⟨⟨rfl, rfl, S.nd, rfl⟩, fun _ => rfl, passes_of rfl, L2N.takes_of rfl rfl rfl rfl, rfl, rfl⟩ (fun c hc => by cases (show cdv = .ref c from hc); exact ⟨rfl, rfl⟩) hr hR, O, [], ?_, (fun _ z => by cases z), ?_⟩
    · exact st_start (by have := len ds W Ω hR; omega) (fun a z => z.1) dom tb (fun a o e t => (lessW_get e).2) hd ⟨hL, hO, fun z => (by cases z), fun _ a ha z => (by obtain ⟨o, e, _⟩ := z; exact (lessW_get e).1 ha), fun a ha => dom a (hO a ha)⟩
    · refine ⟨fun δ O' σ' H' m s1 t1 => ?_, fun d v H' m => m.elim, fun δ O' σ' H' m => m.elim, fun δ O' σ' H' m => m.elim, fun c H' m => m.elim, fun δ d v O' σ' H' m s1 g1 => ?_, fun _ _ _ _ _ m => m.elim⟩
      · obtain ⟨W', hg, hΩ⟩ := m
        exact ok .none W' .non H' hΩ (aft_end s1 hg).1 rfl
      · obtain ⟨W', hg, hΩ⟩ := m
        have := aft_end s1 hg
        exact ok d W' v H' hΩ this.1 (g1.open_ this.2)
end
end Lf
set_option Elab.async false
set_option linter.all false
set_option maxRecDepth 100000
set_option maxHeartbeats 4000000
/-! instances: attributes, methods, making -/
namespace Lf
open PySem PySem.Spec PyProof.Rows L2 L2H HotX LamX
/-! ### attributes by places -/
/-- f is the i-th of the names, for the first time -/
def fldAt (ns : List Str) (f : Str) (i : Nat) : Bool := decide (ns[i]? = some f) && !(ns.take i).contains f
theorem fld_lookup {f : Str} : ∀ {vs : List (Str × V)} {i : Nat} {v : V}, fldAt (vs.map (·.1)) f i = true → (vs.map (·.2))[i]? = some v → vs.lookup f = some v
  | [], i, v, _, e => by simp at e
  | (g, x) :: vs, 0, v, h, e => by
    unfold fldAt at h
    simp only [List.map_cons, List.getElem?_cons_zero, Bool.and_eq_true, decide_eq_true_eq, Option.some.injEq] at h e
    rw [List.lookup, show (f == g) = true by rw [h.1]; exact beq_self_eq_true f, e]
  | (g, x) :: vs, i + 1, v, h, e => by
    unfold fldAt at h
    simp only [List.map_cons, List.getElem?_cons_succ, List.take_succ_cons, Bool.and_eq_true, decide_eq_true_eq, Bool.not_eq_true', List.contains_cons, Bool.or_eq_false_iff] at h e
    rw [List.lookup, h.2.1]
    exact fld_lookup (i := i) (by unfold fldAt; simp only [Bool.and_eq_true, decide_eq_true_eq, Bool.not_eq_true']; exact ⟨h.1, h.2.2⟩) e
theorem fld_putF {f : Str} {y : V} : ∀ {vs : List (Str × V)} {i : Nat}, fldAt (vs.map (·.1)) f i = true → (putF f y vs).map (·.1) = vs.map (·.1) ∧ (putF f y vs).map (·.2) = (vs.map (·.2)).set i y
  | [], i, h => by unfold fldAt at h; simp at h
  | (g, x) :: vs, 0, h => by
    unfold fldAt at h
    simp only [List.map_cons, List.getElem?_cons_zero, Bool.and_eq_true, decide_eq_true_eq, Option.some.injEq] at h
    rw [putF, if_pos h.1]
    exact ⟨rfl, rfl⟩
  | (g, x) :: vs, i + 1, h => by
    unfold fldAt at h
    simp only [List.map_cons, List.getElem?_cons_succ, List.take_succ_cons, Bool.and_eq_true, decide_eq_true_eq, Bool.not_eq_true', List.contains_cons, Bool.or_eq_false_iff] at h
    have hn : ¬ g = f := fun z => by
      have := h.2.1
      rw [z, beq_self_eq_true] at this
      cases this
    rw [putF, if_neg hn]
    obtain ⟨a, b⟩ := fld_putF (y := y) (vs := vs) (i := i) (by unfold fldAt; simp only [Bool.and_eq_true, decide_eq_true_eq, Bool.not_eq_true']; exact ⟨h.1, h.2.2⟩)
    simp [a, b]
theorem fld_putN {f : Str} {y : V} : ∀ {vs : List (Str × V)}, (vs.map (·.1)).contains f = false → putF f y vs = vs ++ [(f, y)]
  | [], _ => rfl
  | (g, x) :: vs, h => by
    simp only [List.map_cons, List.contains_cons, Bool.or_eq_false_iff] at h
    have hn : ¬ g = f := fun z => by
      have := h.1
      rw [z, beq_self_eq_true] at this
      cases this
    rw [putF, if_neg hn, fld_putN h.2]
    rfl
theorem fld_none {f : Str} : ∀ {vs : List (Str × V)}, (vs.map (·.1)).contains f = false → vs.lookup f = none
  | [], _ => rfl
  | (g, x) :: vs, h => by
    simp only [List.map_cons, List.contains_cons, Bool.or_eq_false_iff] at h
    rw [List.lookup, h.1]
    exact fld_none h.2
/-- what the walk asks of a class -/
structure ClsX (K : PySem.W.Frag) (mg : Str → Option Value) (x : Str) (C : Addr) (ns : List Str) : Prop where
  cl : Cls K C
  na : ∀ f ∈ ns, NoAttr K C f
  mg : mg x = some (.ref C)
/-- a method by its name -/
structure Mt (G : Pg) (C : Addr) (m qual : Str) (st : Stmt) (ps : List Str) : Prop where
  ex : ∃ f fd, Fun G.K m qual st f fd ∧ Meth G.K C m f ∧ Binds G.K fd ps []
/-- __init__ -/
structure MtI (G : Pg) (C : Addr) (qual : Str) (st : Stmt) (ps : List Str) : Prop where
  ex : ∃ f fd, Fun G.K "__init__" qual st f fd ∧ L2.Mk G.K C f ∧ Binds G.K fd ps []
structure Md (P : Program) (w : World) (K : PySem.W.Frag) (mg : Str → Option Value) (base : Heap) (C : Addr) (m : Str) (k : Nat) (ps : List Str) (sp : Sp) : Prop where
  ex : ∃ f fd, FnOk P w K mg base (L2N.CX P w) k f fd ps sp ∧ Meth K C m f ∧ Binds K fd ps []
structure MdI (P : Program) (w : World) (K : PySem.W.Frag) (mg : Str → Option Value) (base : Heap) (C : Addr) (k : Nat) (ps : List Str) (sp : Sp) : Prop where
  ex : ∃ f fd, FnOk P w K mg base (L2N.CX P w) k f fd ps sp ∧ L2.Mk K C f ∧ Binds K fd ps []
section
variable {G : Pg} {st : Stmt} {x m qual : Str} {C : Addr} {N ps : List Str} {k : Nat} {T : List (Addr × Str)}
theorem md_R {R : List PyData → Wd → Res → Prop} (D : Mt G C m qual st ps) (S : FnScope N ps (defScope st)) (hN : ps.length + 1 ≤ N.length) (len : ∀ ds W r, R ds W r → ds.length = ps.length)
    (body : ∀ (r : Rest) (F : Fx G.K T) (ds : List PyData) (W : Wd) (res : Res), CtD (G.cx N r) N (defScope st) F.E → Room k r.A → R ds W res → PSs (G.cx N r) (defBody st) (sD F (startW N ds true W) (postOf res))) :
    Md G.prog G.w G.K G.mg G.base C m (k + 1) ps (spR T R) := by
  obtain ⟨f, fd, Fn, m, b⟩ := D.ex
  exact ⟨f, fd, fn_dataR Fn S hN len fun r F ds W res cd _ hr h => body r F ds W res cd hr h, m, b⟩
theorem md_W {R : List PyData → Wd → (PyData → Wd → Prop) → Prop} (D : Mt G C m qual st ps) (S : FnScope N ps (defScope st)) (hN : ps.length + 1 ≤ N.length) (len : ∀ ds W Ω, R ds W Ω → ds.length = ps.length)
    (body : ∀ (r : Rest) (F : Fx G.K T) (ds : List PyData) (W : Wd) (Ω : PyData → Wd → Prop), CtD (G.cx N r) N (defScope st) F.E → Room k r.A → R ds W Ω → PSs (G.cx N r) (defBody st) (sD F (startW N ds false W) (postW (N.length - 1) Ω))) :
    Md G.prog G.w G.K G.mg G.base C m (k + 1) ps (spW T R) := by
  obtain ⟨f, fd, Fn, m, b⟩ := D.ex
  exact ⟨f, fd, fn_dataW Fn S hN len fun r F ds W Ω cd _ hr h => body r F ds W Ω cd hr h, m, b⟩
theorem mdi_R {R : List PyData → Wd → Res → Prop} (D : MtI G C qual st ps) (S : FnScope N ps (defScope st)) (hN : ps.length + 1 ≤ N.length) (len : ∀ ds W r, R ds W r → ds.length = ps.length)
    (body : ∀ (r : Rest) (F : Fx G.K T) (ds : List PyData) (W : Wd) (res : Res), CtD (G.cx N r) N (defScope st) F.E → Room k r.A → R ds W res → PSs (G.cx N r) (defBody st) (sD F (startW N ds true W) (postOf res))) :
    MdI G.prog G.w G.K G.mg G.base C (k + 1) ps (spR T R) := by
  obtain ⟨f, fd, Fn, m, b⟩ := D.ex
  exact ⟨f, fd, fn_dataR Fn S hN len fun r F ds W res cd _ hr h => body r F ds W res cd hr h, m, b⟩
theorem mdi_W {R : List PyData → Wd → (PyData → Wd → Prop) → Prop} (D : MtI G C qual st ps) (S : FnScope N ps (defScope st)) (hN : ps.length + 1 ≤ N.length) (len : ∀ ds W Ω, R ds W Ω → ds.length = ps.length)
    (body : ∀ (r : Rest) (F : Fx G.K T) (ds : List PyData) (W : Wd) (Ω : PyData → Wd → Prop), CtD (G.cx N r) N (defScope st) F.E → Room k r.A → R ds W Ω → PSs (G.cx N r) (defBody st) (sD F (startW N ds false W) (postW (N.length - 1) Ω))) :
    MdI G.prog G.w G.K G.mg G.base C (k + 1) ps (spW T R) := by
  obtain ⟨f, fd, Fn, m, b⟩ := D.ex
  exact ⟨f, fd, fn_dataW Fn S hN len fun r F ds W Ω cd _ hr h => body r F ds W Ω cd hr h, m, b⟩
/-- defs of the law's own -/
theorem fd_R {R : List PyData → Wd → Res → Prop} (D : Df G x st ps) (S : FnScope N ps (defScope st)) (hN : ps.length + 1 ≤ N.length) (len : ∀ ds W r, R ds W r → ds.length = ps.length)
    (body : ∀ (r : Rest) (F : Fx G.K T) (ds : List PyData) (W : Wd) (res : Res), CtD (G.cx N r) N (defScope st) F.E → Room k r.A → R ds W res → PSs (G.cx N r) (defBody st) (sD F (startW N ds true W) (postOf res))) :
    Fd G.prog G.w G.K G.mg G.base x (k + 1) ps (spR T R) := by
  obtain ⟨f, fd, Fn, m, b⟩ := D.ex
  exact ⟨f, fd, fn_dataR Fn S hN len fun r F ds W res cd _ hr h => body r F ds W res cd hr h, m, Fn.kp, b⟩
theorem fd_W {R : List PyData → Wd → (PyData → Wd → Prop) → Prop} (D : Df G x st ps) (S : FnScope N ps (defScope st)) (hN : ps.length + 1 ≤ N.length) (len : ∀ ds W Ω, R ds W Ω → ds.length = ps.length)
    (body : ∀ (r : Rest) (F : Fx G.K T) (ds : List PyData) (W : Wd) (Ω : PyData → Wd → Prop), CtD (G.cx N r) N (defScope st) F.E → Room k r.A → R ds W Ω → PSs (G.cx N r) (defBody st) (sD F (startW N ds false W) (postW (N.length - 1) Ω))) :
    Fd G.prog G.w G.K G.mg G.base x (k + 1) ps (spW T R) := by
  obtain ⟨f, fd, Fn, m, b⟩ := D.ex
  exact ⟨f, fd, fn_dataW Fn S hN len fun r F ds W Ω cd _ hr h => body r F ds W Ω cd hr h, m, Fn.kp, b⟩
/-- .. that make lambdas -/
theorem fd_LR {c : Addr} {R : List PyData → Wd → Res → Prop} (D : DfL G x st ps c) (S : FnScope N ps (defScope st)) (hN : ps.length + 1 ≤ N.length) (len : ∀ ds W r, R ds W r → ds.length = ps.length)
    (body : ∀ (r : Rest) (F : Fx G.K T) (ds : List PyData) (W : Wd) (res : Res), CtD (G.cx N r) N (defScope st) F.E → Co (G.cx N r) c (x ++ ".<locals>.") → Room k r.A → R ds W res → PSs (G.cx N r) (defBody st) (sD F (startW N ds true W) (postOf res))) :
    Fd G.prog G.w G.K G.mg G.base x (k + 1) ps (spR T R) := by
  obtain ⟨f, fd, Fn, m, b, hc⟩ := D.ex
  exact ⟨f, fd, fn_dataR Fn S hN len fun r F ds W res cd co hr h => body r F ds W res cd (co c hc) hr h, m, Fn.kp, b⟩
theorem fd_LW {c : Addr} {R : List PyData → Wd → (PyData → Wd → Prop) → Prop} (D : DfL G x st ps c) (S : FnScope N ps (defScope st)) (hN : ps.length + 1 ≤ N.length) (len : ∀ ds W Ω, R ds W Ω → ds.length = ps.length)
    (body : ∀ (r : Rest) (F : Fx G.K T) (ds : List PyData) (W : Wd) (Ω : PyData → Wd → Prop), CtD (G.cx N r) N (defScope st) F.E → Co (G.cx N r) c (x ++ ".<locals>.") → Room k r.A → R ds W Ω → PSs (G.cx N r) (defBody st) (sD F (startW N ds false W) (postW (N.length - 1) Ω))) :
    Fd G.prog G.w G.K G.mg G.base x (k + 1) ps (spW T R) := by
  obtain ⟨f, fd, Fn, m, b, hc⟩ := D.ex
  exact ⟨f, fd, fn_dataW Fn S hN len fun r F ds W Ω cd co hr h => body r F ds W Ω cd (co c hc) hr h, m, Fn.kp, b⟩
end
section
variable {Kf : PySem.W.Frag} {Tf : List (Addr × Str)} {F : Fx Kf Tf} {δ : List Slot} {X : Cx} {N ns : List Str} {sc : Scope} {pos apos pos' p2 : Pos} {a b c e o value : Expr} {es : List Expr} {d z : PyData} {ds fs : List PyData} {x f m : Str} {k : Nat} {ps : List Str} {W : Wd} {ro : Bool} {p C : Addr} {rest body els : List Stmt} {P : Post}
/-- o.f -/
theorem x_fld (g i : Nat) (cl : Cls X.K C) (na : NoAttr X.K C f) (hg : δ[g]? = some (.wd ro W)) (ho : PE X o (tD F δ (ptrD p))) (hp : (p, .ins C ns fs) ∈ W) (hd : fs[i]? = some d) (hf : fldAt ns f i = true := by decide +kernel) (hb : attributeBase o f X.env (eval o X.env) = eval o X.env := by rfl) : PE X (.Attribute o f pos) (tD F δ d) :=
  wkE (pe_fld ho hb) fun σ H Q h => by
    obtain ⟨O, st, k⟩ := h
    refine ⟨O, st, fun v H1 e1 t1 g1 => ?_⟩
    rw [dt_ptr_eq g1]
    obtain ⟨dx, vs, hH, en, fa⟩ := ((st.grow e1 t1).w hg).laid.2 _ hp
    obtain ⟨v, hv, dv⟩ := fa.get hd
    exact ⟨p, C, dx, vs, v, rfl, hH, cl, na, fld_lookup (by rw [en]; exact hf) hv, k v H1 e1 t1 dv⟩
theorem tabs_turnI {T : List (Addr × Str)} {H : Hp} {o : HO} {C dx : Addr} {fs : List (Str × V)} (t : Tabs T H) (hp : H p = some (.ins C dx fs)) : Tabs T (upd H p o) := fun q hq => by
  obtain ⟨ps, g, a, b⟩ := t q hq
  have n1 : q.1 ≠ p := fun z => by rw [z, hp] at g; cases g
  refine ⟨ps, by rw [upd_ne n1]; exact g, a, fun pos cv hc => ?_⟩
  obtain ⟨c, e1, e2⟩ := b pos cv hc
  have n2 : c ≠ p := fun z => by
    rw [z, hp] at e2
    unfold CodeO at e2
    cases e2
  exact ⟨c, e1, by rw [upd_ne n2]; exact e2⟩
/-- the state behind a change, with what is kept aside -/
theorem w_out {O : Addr → Prop} {H H' : Hp} {σ : L2.St} {W' : Wd} {τ : List (PyData × V)} {g : Nat} (st : StAt F O H σ δ) (tm : Tm O H τ) (hg : δ[g]? = some (.wd false W)) (h : Aft F.T O H W H' W') : StAt F (OW O W W') H' σ (δ.set g (.wd false W')) ∧ Tm (OW O W W') H' τ :=
  ⟨w_after st hg h, fun q hq => h.kp (st.w hg).sh _ _ (tm q hq)⟩
/-- o.f = value, f is there -/
theorem s_fld (g j i : Nat) (cl : Cls X.K C) (na : NoAttr X.K C f) (hg : δ[g]? = some (.wd false W)) (hj : W[j]? = some (p, .ins C ns fs)) (ho : PE X o (tD F δ (ptrD p))) (hv : PE X value (tD F δ d)) (hr : PSs X rest (sD F (δ.set g (.wd false (W.set j (p, .ins C ns (fs.set i d))))) P)) (hl : ns.length < 1000 := by decide) (hf : fldAt ns f i = true := by decide +kernel)
    (hs : swapsWith value (some (.Attribute o f pos')) pos.line X.env = pure false := by rfl) : PSs X (.Assign [.Attribute o f pos'] value pos :: rest) (sD F δ P) :=
  wkSs (pss_cons (ps_fld ho hv hs) hr) fun D σ H h' => by
    obtain ⟨O, τ, s0, tm, w⟩ := h'
    refine ⟨O, s0, fun y H1 e1 t1 g1 => ⟨O, s0.grow e1 t1, fun x H2 e2 t2 g2 => ?_⟩⟩
    rw [dt_ptr_eq g2]
    have s2 := (s0.grow e1 t1).grow e2 t2
    have hw := s2.w hg
    obtain ⟨dx, vs, hH, en, fa⟩ := hw.laid.2 _ (List.mem_of_getElem? hj)
    refine ⟨p, C, dx, vs, rfl, hH, cl, na, by rw [← List.length_map (f := (·.1)), en]; exact hl, ?_⟩
    obtain ⟨q1, q2⟩ := fld_putF (y := y) (vs := vs) (i := i) (f := f) (by rw [en]; exact hf)
    obtain ⟨s3, t3⟩ := w_out s2 ((tm.grow e1).grow e2) hg (aft_turn (mo' := .ins C ns (fs.set i d)) hw hj (tabs_turnI t2 hH) fun hO => ⟨dx, _, upd_same, by rw [q1, en], by rw [q2]; exact (fa.turn hO).set ((g1.grow e2).turn hO) i⟩)
    exact ⟨_, τ, s3, t3, w⟩
/-- .. f is new -/
theorem s_fldN (g j : Nat) (cl : Cls X.K C) (na : NoAttr X.K C f) (hg : δ[g]? = some (.wd false W)) (hj : W[j]? = some (p, .ins C ns fs)) (ho : PE X o (tD F δ (ptrD p))) (hv : PE X value (tD F δ d)) (hr : PSs X rest (sD F (δ.set g (.wd false (W.set j (p, .ins C (ns ++ [f]) (fs ++ [d]))))) P)) (hl : ns.length < 1000 := by decide) (hf : ns.contains f = false := by decide +kernel)
    (hs : swapsWith value (some (.Attribute o f pos')) pos.line X.env = pure false := by rfl) : PSs X (.Assign [.Attribute o f pos'] value pos :: rest) (sD F δ P) :=
  wkSs (pss_cons (ps_fld ho hv hs) hr) fun D σ H h' => by
    obtain ⟨O, τ, s0, tm, w⟩ := h'
    refine ⟨O, s0, fun y H1 e1 t1 g1 => ⟨O, s0.grow e1 t1, fun x H2 e2 t2 g2 => ?_⟩⟩
    rw [dt_ptr_eq g2]
    have s2 := (s0.grow e1 t1).grow e2 t2
    have hw := s2.w hg
    obtain ⟨dx, vs, hH, en, fa⟩ := hw.laid.2 _ (List.mem_of_getElem? hj)
    refine ⟨p, C, dx, vs, rfl, hH, cl, na, by rw [← List.length_map (f := (·.1)), en]; exact hl, ?_⟩
    have q1 := fld_putN (y := y) (vs := vs) (f := f) (by rw [en]; exact hf)
    rw [q1]
    obtain ⟨s3, t3⟩ := w_out s2 ((tm.grow e1).grow e2) hg (aft_turn (o := .ins C dx (vs ++ [(f, y)])) (mo' := .ins C (ns ++ [f]) (fs ++ [d])) hw hj (tabs_turnI t2 hH) fun hO => ⟨dx, _, upd_same, by simp [en], by rw [List.map_append]; exact (fa.turn hO).app (.one ((g1.grow e2).turn hO))⟩)
    exact ⟨_, τ, s3, t3, w⟩
/-! ### methods that read -/
theorem rd_run {R : List PyData → Wd → Res → Prop} {O : Addr → Prop} {H : Hp} {σ : L2.St} {vs : List V} {Q : VK} {E : XK} {g : Nat} (st : StAt F O H σ δ) (hg : δ[g]? = some (.wd ro W)) (hd : DtAll O H ds vs) (hR : R ds W (.ok d)) (w : ∀ v H', ExtN H H' → Tabs F.T H' → Dt O H' d v → Q v H') : spR Tf R vs H Q E :=
  ⟨O, ds, W, .ok d, st.dom, st.tabs, hd, (st.w hg).laid, (st.w hg).sh, hR, fun d' q v H' e2 t2 g2 => by cases q; exact w v H' e2 t2 g2, fun c q => by cases q⟩
theorem rd_runX {R : List PyData → Wd → Res → Prop} {O : Addr → Prop} {H : Hp} {σ : L2.St} {vs : List V} {Q : VK} {E : XK} {g : Nat} {A : Addr} (st : StAt F O H σ δ) (hg : δ[g]? = some (.wd ro W)) (hd : DtAll O H ds vs) (hR : R ds W (.error A)) (w : ∀ H', ExtN H H' → Tabs F.T H' → E (.ref A) none H') : spR Tf R vs H Q E :=
  ⟨O, ds, W, .error A, st.dom, st.tabs, hd, (st.w hg).laid, (st.w hg).sh, hR, fun d' q => (by cases q), fun c q H' e2 t2 => (by cases q; exact w H' e2 t2)⟩
theorem lk_none {O : Addr → Prop} {H : Hp} {vs : List (Str × V)} (en : vs.map (·.1) = ns) (hm : ns.contains m = false) : vs.lookup m = none := fld_none (by rw [en]; exact hm)
theorem x_mrd {pl : Sem Bool} {R : List PyData → Wd → Res → Prop} (g : Nat) (cl : Cls X.K C) (h : Md X.prog X.w X.K X.mg X.base C m k ps (spR Tf R)) (hr : Room k X.A) (hg : δ[g]? = some (.wd ro W)) (hp : (p, .ins C ns fs) ∈ W) (ho : PE X o (tD F δ (ptrD p))) (ha : PA X (e :: es) (aD F δ ds)) (hR : R (ptrD p :: ds) W (.ok d)) (hm : ns.contains m = false := by decide +kernel)
    (hst : starEach (e :: es) X.env = (false, eval e X.env) :: starEach es X.env := by rfl) (hpl : (backTo pos (starEach es X.env)).any (·.1) = false := by rfl)
    (ht : eval (.Call (.Attribute o m apos) (e :: es) [] pos) X.env = (do
      let ov ← eval o X.env
      standAt apos.atName
      let (f, first) ← holding [ov] (getMethod ov m pl)
      callWith pos f first (backTo pos (starEach (e :: es) X.env)) (backToKw pos (keywordEach [] X.env))) := by rfl) : PE X (.Call (.Attribute o m apos) (e :: es) [] pos) (tD F δ d) := by
  obtain ⟨f, fd, Fk, mt, bi⟩ := h.ex
  refine wkE (pe_meth ho cl mt Fk hr bi .nil passN ha hst hpl ht) fun σ H Q h => ?_
  obtain ⟨O, st, w⟩ := h
  refine ⟨O, st, fun v H1 e1 t1 g1 => ?_⟩
  have ev := dt_ptr_eq g1
  subst ev
  have s1 := st.grow e1 t1
  obtain ⟨dx, vs, hH, en, fa⟩ := (s1.w hg).laid.2 _ hp
  refine ⟨p, dx, vs, rfl, hH, lk_none (O := O) (H := H) en hm, O, s1, fun us H2 e2 t2 g2 => ?_⟩
  show spR Tf R (_ :: (us ++ [])) H2 Q _
  rw [List.append_nil]
  exact rd_run (ds := ptrD p :: ds) (s1.grow e2 t2) hg ⟨_, _, rfl, dt_ptr, g2⟩ hR fun v H' e3 t3 g3 => w v H' ((e1.trans e2).trans e3) t3 g3
theorem x_mrd0 {pl : Sem Bool} {R : List PyData → Wd → Res → Prop} (g : Nat) (cl : Cls X.K C) (h : Md X.prog X.w X.K X.mg X.base C m k ps (spR Tf R)) (hr : Room k X.A) (hg : δ[g]? = some (.wd ro W)) (hp : (p, .ins C ns fs) ∈ W) (ho : PE X o (tD F δ (ptrD p))) (hR : R [ptrD p] W (.ok d)) (hm : ns.contains m = false := by decide +kernel)
    (ht : eval (.Call (.Attribute o m apos) [] [] pos) X.env = (do
      let ov ← eval o X.env
      standAt apos.atName
      let (f, first) ← holding [ov] (getMethod ov m pl)
      callWith pos f first (backTo pos (starEach [] X.env)) (backToKw pos (keywordEach [] X.env))) := by rfl) : PE X (.Call (.Attribute o m apos) [] [] pos) (tD F δ d) := by
  obtain ⟨f, fd, Fk, mt, bi⟩ := h.ex
  refine wkE (pe_meth0 ho cl mt Fk hr bi .nil passN ht) fun σ H Q h => ?_
  obtain ⟨O, st, w⟩ := h
  refine ⟨O, st, fun v H1 e1 t1 g1 => ?_⟩
  have ev := dt_ptr_eq g1
  subst ev
  have s1 := st.grow e1 t1
  obtain ⟨dx, vs, hH, en, fa⟩ := (s1.w hg).laid.2 _ hp
  exact ⟨p, dx, vs, rfl, hH, lk_none (O := O) (H := H) en hm, rd_run (ds := [ptrD p]) s1 hg ⟨_, _, rfl, dt_ptr, rfl⟩ hR fun v H' e3 t3 g3 => w v H' (e1.trans e3) t3 g3⟩
theorem x_mrdX {pl : Sem Bool} {A : Addr} {R : List PyData → Wd → Res → Prop} (g : Nat) (tk : L2N.Takes X (fun cls d _ H => F.E cls d H)) (cl : Cls X.K C) (h : Md X.prog X.w X.K X.mg X.base C m k ps (spR Tf R)) (hr : Room k X.A) (hg : δ[g]? = some (.wd ro W)) (hp : (p, .ins C ns fs) ∈ W) (ho : PE X o (tD F δ (ptrD p))) (ha : PA X (e :: es) (aD F δ ds)) (hR : R (ptrD p :: ds) W (.error A)) (hm : ns.contains m = false := by decide +kernel)
    (hst : starEach (e :: es) X.env = (false, eval e X.env) :: starEach es X.env := by rfl) (hpl : (backTo pos (starEach es X.env)).any (·.1) = false := by rfl)
    (ht : eval (.Call (.Attribute o m apos) (e :: es) [] pos) X.env = (do
      let ov ← eval o X.env
      standAt apos.atName
      let (f, first) ← holding [ov] (getMethod ov m pl)
      callWith pos f first (backTo pos (starEach (e :: es) X.env)) (backToKw pos (keywordEach [] X.env))) := by rfl) : PE X (.Call (.Attribute o m apos) (e :: es) [] pos) (tDX F δ A) := by
  obtain ⟨f, fd, Fk, mt, bi⟩ := h.ex
  refine wkE (pe_meth ho cl mt Fk hr bi .nil (E := F.E) (L2N.passes_call tk fun _ _ _ _ z => z) ha hst hpl ht) fun σ H Q h => ?_
  obtain ⟨O, st, w⟩ := h
  refine ⟨O, st, fun v H1 e1 t1 g1 => ?_⟩
  have ev := dt_ptr_eq g1
  subst ev
  have s1 := st.grow e1 t1
  obtain ⟨dx, vs, hH, en, fa⟩ := (s1.w hg).laid.2 _ hp
  refine ⟨p, dx, vs, rfl, hH, lk_none (O := O) (H := H) en hm, O, s1, fun us H2 e2 t2 g2 => ?_⟩
  show spR Tf R (_ :: (us ++ [])) H2 Q _
  rw [List.append_nil]
  exact rd_runX (ds := ptrD p :: ds) (s1.grow e2 t2) hg ⟨_, _, rfl, dt_ptr, g2⟩ hR fun H' e3 t3 => w H' ((e1.trans e2).trans e3) t3
theorem x_mrdX0 {pl : Sem Bool} {A : Addr} {R : List PyData → Wd → Res → Prop} (g : Nat) (tk : L2N.Takes X (fun cls d _ H => F.E cls d H)) (cl : Cls X.K C) (h : Md X.prog X.w X.K X.mg X.base C m k ps (spR Tf R)) (hr : Room k X.A) (hg : δ[g]? = some (.wd ro W)) (hp : (p, .ins C ns fs) ∈ W) (ho : PE X o (tD F δ (ptrD p))) (hR : R [ptrD p] W (.error A)) (hm : ns.contains m = false := by decide +kernel)
    (ht : eval (.Call (.Attribute o m apos) [] [] pos) X.env = (do
      let ov ← eval o X.env
      standAt apos.atName
      let (f, first) ← holding [ov] (getMethod ov m pl)
      callWith pos f first (backTo pos (starEach [] X.env)) (backToKw pos (keywordEach [] X.env))) := by rfl) : PE X (.Call (.Attribute o m apos) [] [] pos) (tDX F δ A) := by
  obtain ⟨f, fd, Fk, mt, bi⟩ := h.ex
  refine wkE (pe_meth0 ho cl mt Fk hr bi .nil (E := F.E) (L2N.passes_call tk fun _ _ _ _ z => z) ht) fun σ H Q h => ?_
  obtain ⟨O, st, w⟩ := h
  refine ⟨O, st, fun v H1 e1 t1 g1 => ?_⟩
  have ev := dt_ptr_eq g1
  subst ev
  have s1 := st.grow e1 t1
  obtain ⟨dx, vs, hH, en, fa⟩ := (s1.w hg).laid.2 _ hp
  exact ⟨p, dx, vs, rfl, hH, lk_none (O := O) (H := H) en hm, rd_runX (ds := [ptrD p]) s1 hg ⟨_, _, rfl, dt_ptr, rfl⟩ hR fun H' e3 t3 => w H' (e1.trans e3) t3⟩
/-- a def that reads the world is called -/
theorem x_crd {R : List PyData → Wd → Res → Prop} (g : Nat) (cx : Ctx X N sc) (h : Fd X.prog X.w X.K X.mg X.base x k ps (spR Tf R)) (hr : Room k X.A) (hw : δ[g]? = some (.wd ro W)) (ha : PA X (e :: es) (aD F δ ds)) (hR : R ds W (.ok d)) (hg : sc.names.lookup x = some .globalImplicit := by rfl) (hdb : (x == ("__debug__" : Str)) = false := by decide)
    (he : starEach (e :: es) X.env = (false, eval e X.env) :: starEach es X.env := by rfl) (hpl : (backTo pos (starEach es X.env)).any (·.1) = false := by rfl) : PE X (.Call (.Name x p2) (e :: es) [] pos) (tD F δ d) := by
  obtain ⟨f, fd, G, m, kp, b⟩ := h.ex
  refine wkE (pe_call G hr (cx.gl hg) m kp b .nil passN ha hdb he hpl) fun σ H Q h => ?_
  obtain ⟨O, st, w⟩ := h
  refine ⟨O, st, fun vs H1 e1 t1 g1 => ?_⟩
  show spR Tf R (vs ++ []) H1 Q _
  rw [List.append_nil]
  exact rd_run (st.grow e1 t1) hw g1 hR fun v H' e2 t2 g2 => w v H' (e1.trans e2) t2 g2
/-! ### methods that change -/
theorem wr_run {R : List PyData → Wd → (PyData → Wd → Prop) → Prop} {Ω : PyData → Wd → Prop} {O : Addr → Prop} {H : Hp} {σ : L2.St} {vs : List V} {Q : VK} {E : XK} {g : Nat} (st : StAt F O H σ δ) (hg : δ[g]? = some (.wd false W)) (hd : DtAll O H ds vs) (hR : R ds W Ω)
    (w : ∀ d W' v O' H', Ω d W' → StAt F O' H' σ (δ.set g (.wd false W')) → Kp O H O' H' → Dt O' H' d v → Q v H') : spW Tf R vs H Q E :=
  ⟨O, ds, W, Ω, st.dom, st.tabs, hd, (st.w hg).laid, (st.w hg).sh, hR, fun d W' v H' hΩ af g1 => w d W' v _ H' hΩ (w_after st hg af) (af.kp (st.w hg).sh) g1⟩
theorem x_mwr {pl : Sem Bool} {R : List PyData → Wd → (PyData → Wd → Prop) → Prop} {Ω : PyData → Wd → Prop} (g : Nat) (cl : Cls X.K C) (h : Md X.prog X.w X.K X.mg X.base C m k ps (spW Tf R)) (hr : Room k X.A) (hg : δ[g]? = some (.wd false W)) (hp : (p, .ins C ns fs) ∈ W) (ho : PE X o (tD F δ (ptrD p))) (ha : PA X (e :: es) (aD F δ ds)) (hR : R (ptrD p :: ds) W Ω) (hm : ns.contains m = false := by decide +kernel)
    (hst : starEach (e :: es) X.env = (false, eval e X.env) :: starEach es X.env := by rfl) (hpl : (backTo pos (starEach es X.env)).any (·.1) = false := by rfl)
    (ht : eval (.Call (.Attribute o m apos) (e :: es) [] pos) X.env = (do
      let ov ← eval o X.env
      standAt apos.atName
      let (f, first) ← holding [ov] (getMethod ov m pl)
      callWith pos f first (backTo pos (starEach (e :: es) X.env)) (backToKw pos (keywordEach [] X.env))) := by rfl) : PE X (.Call (.Attribute o m apos) (e :: es) [] pos) (tW F δ g Ω) := by
  obtain ⟨f, fd, Fk, mt, bi⟩ := h.ex
  refine wkE (pe_meth ho cl mt Fk hr bi .nil passN ha hst hpl ht) fun σ H Q h => ?_
  obtain ⟨O, st, w⟩ := h
  refine ⟨O, st, fun v H1 e1 t1 g1 => ?_⟩
  have ev := dt_ptr_eq g1
  subst ev
  have s1 := st.grow e1 t1
  obtain ⟨dx, vs, hH, en, fa⟩ := (s1.w hg).laid.2 _ hp
  refine ⟨p, dx, vs, rfl, hH, lk_none (O := O) (H := H) en hm, O, s1, fun us H2 e2 t2 g2 => ?_⟩
  show spW Tf R (_ :: (us ++ [])) H2 Q _
  rw [List.append_nil]
  exact wr_run (ds := ptrD p :: ds) (s1.grow e2 t2) hg ⟨_, _, rfl, dt_ptr, g2⟩ hR fun d W' v O' H' hΩ s' kp g3 => w d W' v O' H' hΩ s' (Kp.trans (Kp.ext (e1.trans e2)) kp) g3
theorem x_mwr0 {pl : Sem Bool} {R : List PyData → Wd → (PyData → Wd → Prop) → Prop} {Ω : PyData → Wd → Prop} (g : Nat) (cl : Cls X.K C) (h : Md X.prog X.w X.K X.mg X.base C m k ps (spW Tf R)) (hr : Room k X.A) (hg : δ[g]? = some (.wd false W)) (hp : (p, .ins C ns fs) ∈ W) (ho : PE X o (tD F δ (ptrD p))) (hR : R [ptrD p] W Ω) (hm : ns.contains m = false := by decide +kernel)
    (ht : eval (.Call (.Attribute o m apos) [] [] pos) X.env = (do
      let ov ← eval o X.env
      standAt apos.atName
      let (f, first) ← holding [ov] (getMethod ov m pl)
      callWith pos f first (backTo pos (starEach [] X.env)) (backToKw pos (keywordEach [] X.env))) := by rfl) : PE X (.Call (.Attribute o m apos) [] [] pos) (tW F δ g Ω) := by
  obtain ⟨f, fd, Fk, mt, bi⟩ := h.ex
  refine wkE (pe_meth0 ho cl mt Fk hr bi .nil passN ht) fun σ H Q h => ?_
  obtain ⟨O, st, w⟩ := h
  refine ⟨O, st, fun v H1 e1 t1 g1 => ?_⟩
  have ev := dt_ptr_eq g1
  subst ev
  have s1 := st.grow e1 t1
  obtain ⟨dx, vs, hH, en, fa⟩ := (s1.w hg).laid.2 _ hp
  refine ⟨p, dx, vs, rfl, hH, lk_none (O := O) (H := H) en hm, ?_⟩
  show spW Tf R [V.ref p] H1 Q E0
  exact wr_run (ds := [ptrD p]) s1 hg ⟨_, _, rfl, dt_ptr, rfl⟩ hR fun d W' v O' H' hΩ s' kp g3 => w d W' v O' H' hΩ s' (Kp.trans (Kp.ext e1) kp) g3
theorem x_cwr {R : List PyData → Wd → (PyData → Wd → Prop) → Prop} {Ω : PyData → Wd → Prop} (g : Nat) (cx : Ctx X N sc) (h : Fd X.prog X.w X.K X.mg X.base x k ps (spW Tf R)) (hr : Room k X.A) (hw : δ[g]? = some (.wd false W)) (ha : PA X (e :: es) (aD F δ ds)) (hR : R ds W Ω) (hg : sc.names.lookup x = some .globalImplicit := by rfl) (hdb : (x == ("__debug__" : Str)) = false := by decide)
    (he : starEach (e :: es) X.env = (false, eval e X.env) :: starEach es X.env := by rfl) (hpl : (backTo pos (starEach es X.env)).any (·.1) = false := by rfl) : PE X (.Call (.Name x p2) (e :: es) [] pos) (tW F δ g Ω) := by
  obtain ⟨f, fd, G, m, kp, b⟩ := h.ex
  refine wkE (pe_call G hr (cx.gl hg) m kp b .nil passN ha hdb he hpl) fun σ H Q h => ?_
  obtain ⟨O, st, w⟩ := h
  refine ⟨O, st, fun vs H1 e1 t1 g1 => ?_⟩
  show spW Tf R (vs ++ []) H1 Q _
  rw [List.append_nil]
  exact wr_run (st.grow e1 t1) hw g1 hR fun d W' v O' H' hΩ s' kp g3 => w d W' v O' H' hΩ s' (Kp.trans (Kp.ext e1) kp) g3
/-! ### making -/
theorem laid_new {O : Addr → Prop} {H : Hp} {q : Addr} {mo : MO} (hw : WAt F O H W ro) (hq : H q = none) {o : HO} (hm : MoOk (Shut O q) (upd H q o) q mo) : Laid (Shut O q) (upd H q o) (W ++ [(q, mo)]) := by
  have np : q ∉ wAs W := fun z => (hw.lv q z).ne hq rfl
  refine ⟨?_, fun w hq' => ?_⟩
  · show ((W ++ [(q, mo)]).map (·.1)).Nodup
    rw [List.map_append]
    exact List.nodup_append.mpr ⟨hw.laid.1, List.nodup_cons.mpr ⟨by simp, List.nodup_nil⟩, fun a ha b hb z => np (by rw [List.mem_singleton.mp hb] at z; rw [show q = a from z.symm]; exact ha)⟩
  · rcases List.mem_append.mp hq' with hq' | hq'
    · have hm := hw.laid.2 w hq'
      exact hm.keep (upd_ne (hm.lives.ne hq)) fun d v g => (g.shut hq).grow (ext_new hq)
    · cases List.mem_singleton.mp hq'
      exact hm
theorem wr_make {R : List PyData → Wd → (PyData → Wd → Prop) → Prop} {Ω : PyData → Wd → Prop} {O : Addr → Prop} {H : Hp} {σ : L2.St} {vs : List V} {Q : VK} {E : XK} {g : Nat} {q dx : Addr} (st : StAt F O H σ δ) (hg : δ[g]? = some (.wd false W)) (hd : DtAll O H ds vs) (h1 : H q = none) (h2 : H dx = none) (ne : dx ≠ q)
    (hR : R (ptrD q :: ds) (W ++ [(q, .ins C [] [])]) Ω)
    (w : ∀ d W' v O' H', Ω d W' → StAt F O' H' σ (δ.set g (.wd false W')) → Kp O H O' H' → Dt O' H' d v → Q v H') : spW Tf R (.ref q :: vs) (upd (upd H dx (.own q)) q (.ins C dx [])) Q E := by
  have h3 : (upd H dx (.own q)) q = none := by rw [upd_ne ne.symm]; exact h1
  have s1 := st.grow (ext_new (o := .own q) h2) (tabs_new st.tabs h2)
  have hw := s1.w hg
  have af := aft_new (o := .ins C dx []) (mo := .ins C [] []) hw s1.tabs h3 ⟨dx, [], upd_same, rfl, rfl⟩
  have s2 := w_after s1 hg af
  have kp := Kp.trans (Kp.ext (ext_new (o := .own q) h2)) (af.kp hw.sh)
  have hgl : g < δ.length := (List.getElem?_eq_some_iff.mp hg).1
  refine wr_run (ds := ptrD q :: ds) (g := g) s2 (by rw [List.getElem?_set_self hgl]) ⟨_, _, rfl, dt_ptr, hd.kp kp⟩ hR fun d W' v O' H' hΩ s' kp' g3 => ?_
  rw [List.set_set] at s'
  exact w d W' v O' H' hΩ s' (kp.trans kp') g3
theorem new_out {O : Addr → Prop} {H : Hp} {σ : L2.St} {g : Nat} {q : Addr} (st : StAt F O H σ δ) (hg : δ[g]? = some (.wd ro W)) (h1 : H q = none) : q ∉ wAs W := fun z => ((st.w hg).lv q z).ne h1 rfl
/-- C(..) -/
theorem x_make {R : List PyData → Wd → (PyData → Wd → Prop) → Prop} {Ω : Addr → Wd → Prop} (g : Nat) (cx : Ctx X N sc) (hC : X.mg x = some (.ref C)) (h : MdI X.prog X.w X.K X.mg X.base C k ps (spW Tf R)) (hr : Room (k + 1) X.A) (hw : δ[g]? = some (.wd false W)) (ha : PA X (e :: es) (aD F δ ds)) (hR : ∀ q, q ∉ wAs W → R (ptrD q :: ds) (W ++ [(q, .ins C [] [])]) (fun d W' => d = .none ∧ Ω q W')) (hg : sc.names.lookup x = some .globalImplicit := by rfl) (hdb : (x == ("__debug__" : Str)) = false := by decide)
    (he : starEach (e :: es) X.env = (false, eval e X.env) :: starEach es X.env := by rfl) (hpl : (backTo pos (starEach es X.env)).any (·.1) = false := by rfl) : PE X (.Call (.Name x p2) (e :: es) [] pos) (tW F δ g fun d W' => ∃ q, q ∉ wAs W ∧ d = ptrD q ∧ Ω q W') := by
  obtain ⟨f, fd, G, m, b⟩ := h.ex
  refine wkE (pe_make m G hr (cx.gl hg) hC b .nil passN ha hdb he hpl) fun σ H Q h => ?_
  obtain ⟨O, st, w⟩ := h
  refine ⟨O, st, fun vs H1 e1 t1 g1 q dx h1 h2 ne => ?_⟩
  show spW Tf R (_ :: (vs ++ [])) _ _ _
  rw [List.append_nil]
  have s1 := st.grow e1 t1
  have hq := new_out s1 hw h1
  refine wr_make s1 hw g1 h1 h2 ne (hR q hq) fun d W' v O' H' hΩ s' kp g3 => ?_
  obtain ⟨rfl, hΩ⟩ := hΩ
  exact ⟨g3, w (ptrD q) W' (.ref q) O' H' ⟨q, hq, rfl, hΩ⟩ s' (Kp.trans (Kp.ext e1) kp) dt_ptr⟩
theorem x_make0 {R : List PyData → Wd → (PyData → Wd → Prop) → Prop} {Ω : Addr → Wd → Prop} (g : Nat) (cx : Ctx X N sc) (hC : X.mg x = some (.ref C)) (h : MdI X.prog X.w X.K X.mg X.base C k ps (spW Tf R)) (hr : Room (k + 1) X.A) (hw : δ[g]? = some (.wd false W)) (hR : ∀ q, q ∉ wAs W → R [ptrD q] (W ++ [(q, .ins C [] [])]) (fun d W' => d = .none ∧ Ω q W')) (hg : sc.names.lookup x = some .globalImplicit := by rfl) (hdb : (x == ("__debug__" : Str)) = false := by decide) :
    PE X (.Call (.Name x p2) [] [] pos) (tW F δ g fun d W' => ∃ q, q ∉ wAs W ∧ d = ptrD q ∧ Ω q W') := by
  obtain ⟨f, fd, G, m, b⟩ := h.ex
  refine wkE (pe_make0 m G hr (cx.gl hg) hC b .nil passN hdb) fun σ H Q h => ?_
  obtain ⟨O, st, w⟩ := h
  intro q dx h1 h2 ne
  show spW Tf R [.ref q] _ _ E0
  have hq := new_out st hw h1
  refine wr_make (ds := []) st hw rfl h1 h2 ne (hR q hq) fun d W' v O' H' hΩ s' kp g3 => ?_
  obtain ⟨rfl, hΩ⟩ := hΩ
  exact ⟨g3, w (ptrD q) W' (.ref q) O' H' ⟨q, hq, rfl, hΩ⟩ s' kp dt_ptr⟩
/-- .. that raises -/
theorem x_makeX {A : Addr} {R : List PyData → Wd → Res → Prop} (g : Nat) (cx : Ctx X N sc) (tk : L2N.Takes X (fun cls d _ H => F.E cls d H)) (hC : X.mg x = some (.ref C)) (h : MdI X.prog X.w X.K X.mg X.base C k ps (spR Tf R)) (hr : Room (k + 1) X.A) (hw : δ[g]? = some (.wd ro W)) (ha : PA X (e :: es) (aD F δ ds)) (hR : ∀ q, q ∉ wAs W → R (ptrD q :: ds) (W ++ [(q, .ins C [] [])]) (.error A)) (hg : sc.names.lookup x = some .globalImplicit := by rfl) (hdb : (x == ("__debug__" : Str)) = false := by decide)
    (he : starEach (e :: es) X.env = (false, eval e X.env) :: starEach es X.env := by rfl) (hpl : (backTo pos (starEach es X.env)).any (·.1) = false := by rfl) : PE X (.Call (.Name x p2) (e :: es) [] pos) (tDX F δ A) := by
  obtain ⟨f, fd, G, m, b⟩ := h.ex
  refine wkE (pe_make m G hr (cx.gl hg) hC b .nil (E := F.E) (L2N.passes_call tk fun _ _ _ _ z => z) ha hdb he hpl) fun σ H Q h => ?_
  obtain ⟨O, st, w⟩ := h
  refine ⟨O, st, fun vs H1 e1 t1 g1 q dx h1 h2 ne => ?_⟩
  show spR Tf R (_ :: (vs ++ [])) _ _ _
  rw [List.append_nil]
  have s1 := (st.grow e1 t1).grow (ext_new (o := .own q) h2) (tabs_new t1 h2)
  have h3 : (upd H1 dx (.own q)) q = none := by rw [upd_ne ne.symm]; exact h1
  have hq := new_out s1 hw h3
  have hwa := s1.w hw
  have ex := ext_new (H := upd H1 dx (.own q)) (o := .ins C dx []) h3
  have kp : Kp O H1 (Shut O q) (upd (upd H1 dx (.own q)) q (.ins C dx [])) := fun d v z => ((z.grow (ext_new h2)).shut h3).grow ex
  refine ⟨Shut O q, ptrD q :: ds, W ++ [(q, .ins C [] [])], .error A, fun a z => ?_, tabs_new s1.tabs h3, ⟨_, _, rfl, dt_ptr, g1.kp kp⟩, laid_new (mo := .ins C [] []) hwa h3 ⟨dx, [], upd_same, rfl, rfl⟩, fun a ha => ?_, hR q hq, fun d z => (by cases z), fun c z H' e3 t3 => ?_⟩
  · rcases z with z | z
    · exact (s1.dom a z).grow ex
    · rw [z]; exact ⟨_, upd_same, fun _ z => by cases z⟩
  · have ha : a ∈ (W ++ [(q, MO.ins C [] [])]).map (·.1) := ha
    rw [List.map_append] at ha
    rcases List.mem_append.mp ha with z | z
    · exact .inl (hwa.sh a z)
    · exact .inr (List.mem_singleton.mp z)
  · cases z
    exact w H' (((e1.trans (ext_new h2)).trans ex).trans e3) t3
/-! ### statements that change the world -/
variable {Ω : PyData → Wd → Prop} {g : Nat}
theorem w_pure (hg : δ[g]? = some (.wd false W)) (h : PE X e (tD F δ d)) : PE X e (tW F δ g fun d' W' => d' = d ∧ W' = W) := wkE h fun σ H Q q => by
  obtain ⟨O, st, w⟩ := q
  exact ⟨O, st, fun v H' e1 t1 g1 => w d W v O H' ⟨rfl, rfl⟩ (by rw [wd_self hg]; exact st.grow e1 t1) (Kp.ext e1) g1⟩
theorem w_imp {Ω' : PyData → Wd → Prop} (h : PE X e (tW F δ g Ω)) (k : ∀ d W, Ω d W → Ω' d W) : PE X e (tW F δ g Ω') := wkE h fun σ H Q q => by
  obtain ⟨O, st, w⟩ := q
  exact ⟨O, st, fun d W' v O' H' hΩ => w d W' v O' H' (k d W' hΩ)⟩
theorem s_setW (i : Nat) (cx : CtD X N sc F.E) (h : PE X e (tW F δ g Ω)) (hr : ∀ d W', Ω d W' → PSs X rest (sD F ((δ.set g (.wd false W')).set i (.dat d)) P)) (hi : N[i]? = some x := by rfl) (hx : Loc sc x := by first | exact Or.inl rfl | exact Or.inr rfl)
    (hs : swapsWith e (some (.Name x pos')) pos.line X.env = pure false := by rfl) : PSs X (.Assign [.Name x pos'] e pos :: rest) (sD F δ P) :=
  wkSs (pss_cons (ps_set (cx.nd') (cx.at_ hi) (cx.loc hx) h hs (.inl (cx.fn x))) (exSs fun q : PyData × Wd => ifSs (hr q.1 q.2))) fun D σ H h' => by
    obtain ⟨O, τ, s0, tm, w⟩ := h'
    exact ⟨O, s0, fun d W' v O' H' hΩ s' kp g' => ⟨(d, W'), hΩ, O', τ, s'.setD i g', fun q hq => kp _ _ (tm q hq), w⟩⟩
theorem s_exprW (h : PE X e (tW F δ g Ω)) (hr : ∀ d W', Ω d W' → PSs X rest (sD F (δ.set g (.wd false W')) P)) (hs : swapsWith e none pos.line X.env = pure false := by rfl) : PSs X (.Expr e pos :: rest) (sD F δ P) :=
  wkSs (pss_cons (ps_expr h hs) (exSs fun q : PyData × Wd => ifSs (hr q.1 q.2))) fun D σ H h' => by
    obtain ⟨O, τ, s0, tm, w⟩ := h'
    exact ⟨O, s0, fun d W' v O' H' hΩ s' kp g' => ⟨(d, W'), hΩ, O', τ, s', fun q hq => kp _ _ (tm q hq), w⟩⟩
theorem s_retW (h : PE X e (tW F δ g Ω)) (hr : ∀ d W', Ω d W' → P.rts (δ.set g (.wd false W')) d) : PSs X (.Return (some e) pos :: rest) (sD F δ P) :=
  wkSs (pss_cons (ps_ret h) (pss_never (sts := rest))) fun D σ H h' => by
    obtain ⟨O, τ, s0, tm, w⟩ := h'
    exact ⟨O, s0, fun d W' v O' H' hΩ s' kp g' => w.rts _ d v O' σ H' (hr d W' hΩ) s' g'⟩
/-- .. where the world then is of no weight -/
theorem s_retWt (h : PE X e (tW F δ g Ω)) (hr : ∀ d W', Ω d W' → P.rt d) : PSs X (.Return (some e) pos :: rest) (sD F δ P) :=
  wkSs (pss_cons (ps_ret h) (pss_never (sts := rest))) fun D σ H h' => by
    obtain ⟨O, τ, s0, tm, w⟩ := h'
    exact ⟨O, s0, fun d W' v O' H' hΩ s' kp g' => w.rt d v H' (hr d W' hΩ) s'.ext s'.tabs (g'.open_ s'.o0)⟩
theorem s_ifW {Ωb : Bool → Wd → Prop} (h : PT X c (cW F δ g Ωb)) (g1 : ∀ W', Ωb true W' → PSs X body (sD F (δ.set g (.wd false W')) { P with nx := fun δ' => PSs X rest (sD F δ' P) })) (g2 : ∀ W', Ωb false W' → PSs X els (sD F (δ.set g (.wd false W')) { P with nx := fun δ' => PSs X rest (sD F δ' P) })) : PSs X (.If c body els pos :: rest) (sD F δ P) :=
  s_seq (M := fun δ' => PSs X rest (sD F δ' P)) (wkS (ps_if h (exSs fun W' => ifSs (g1 W')) (exSs fun W' => ifSs (g2 W'))) fun D σ H h' => by
    obtain ⟨O, τ, s0, tm, w⟩ := h'
    refine ⟨O, s0, fun b W' O' H' hΩ s' kp => ?_⟩
    cases b with
    | true => exact iteT ⟨W', hΩ, O', τ, s', fun q hq => kp _ _ (tm q hq), w⟩
    | false => exact iteF ⟨W', hΩ, O', τ, s', fun q hq => kp _ _ (tm q hq), w⟩) fun δ' h => h
theorem s_whenW {Ωb : Bool → Wd → Prop} (h : PT X c (cW F δ g Ωb)) (g1 : ∀ W', Ωb true W' → PSs X body (sD F (δ.set g (.wd false W')) { P with nx := fun δ' => PSs X rest (sD F δ' P) })) (g2 : ∀ W', Ωb false W' → PSs X rest (sD F (δ.set g (.wd false W')) P)) : PSs X (.If c body [] pos :: rest) (sD F δ P) :=
  s_ifW h g1 fun W' q => s_nil (g2 W' q)
/-! ### tests that change the world -/
theorem cw_pure {k : Bool} (hg : δ[g]? = some (.wd false W)) (h : PT X e (cD F δ k)) : PT X e (cW F δ g fun b W' => b = k ∧ W' = W) := wkT h fun σ H Q q => by
  obtain ⟨O, st, w⟩ := q
  exact ⟨O, st, fun H' e1 t1 => w k W O H' ⟨rfl, rfl⟩ (by rw [wd_self hg]; exact st.grow e1 t1) (Kp.ext e1)⟩
theorem cw_not {Ωb : Bool → Wd → Prop} (h : PT X a (cW F δ g Ωb)) : PT X (.UnaryOp .Not a pos) (cW F δ g fun b W' => Ωb (!b) W') := wkT (pt_not h) fun σ H Q q => by
  obtain ⟨O, st, w⟩ := q
  exact ⟨O, st, fun b W' O' H' hΩ => w (!b) W' O' H' (by show Ωb (!!b) W'; rw [Bool.not_not]; exact hΩ)⟩
theorem cw_val {Ωb : Bool → Wd → Prop} (h : PE X e (tW F δ g fun d W' => ∃ b, d = .bool b ∧ Ωb b W')) (he : ∀ whole, isTrue e X.env whole = (do let v ← whole; standAt e.pos; holding [v] (truthy v)) := by intro _; rfl) : PT X e (cW F δ g Ωb) :=
  wkT (pt_val h he) fun σ H Q q => by
    obtain ⟨O, st, w⟩ := q
    refine ⟨O, st, fun d W' v O' H' hΩ s' kp g' => ?_⟩
    obtain ⟨b, rfl, hΩ⟩ := hΩ
    exact ⟨b, g', w b W' O' H' hΩ s' kp⟩
/-- e in the world that a leaves -/
theorem anyW {Ω1 : PyData → Wd → Prop} {Ω2 : PyData → Wd → PyData → Wd → Prop} (hb : ∀ d W', Ω1 d W' → PE X b (tW F (δ.set g (.wd false W')) g (Ω2 d W'))) : PE X b (fun σ H Q => ∃ d W', Ω1 d W' ∧ tW F (δ.set g (.wd false W')) g (Ω2 d W') σ H Q) := ⟨fun pins s σ H Q I q => let ⟨d, W', h, t⟩ := q; (hb d W' h).run pins s σ H Q I t⟩
theorem opW_run {r : R2} {Ω1 : PyData → Wd → Prop} {Ω2 : PyData → Wd → PyData → Wd → Prop} {z : PyData → PyData → PyData} (q : ∀ d1 W1 d2 W2, Ω1 d1 W1 → Ω2 d1 W1 d2 W2 → OpD F r d1 d2 (z d1 d2)) {σ : L2.St} {H : Hp} {Q : VK} (hgl : g < δ.length) (h : tW F δ g (fun d W' => ∃ d1 W1 d2, Ω1 d1 W1 ∧ Ω2 d1 W1 d2 W' ∧ d = z d1 d2) σ H Q) :
    tOp r (tW F δ g Ω1) (fun σ H Q => ∃ d W', Ω1 d W' ∧ tW F (δ.set g (.wd false W')) g (Ω2 d W') σ H Q) σ H Q := by
  obtain ⟨O, st, k⟩ := h
  refine ⟨O, st, fun d1 W1 x O1 H1 h1 s1 kp1 g1 => ⟨d1, W1, h1, O1, s1, fun d2 W2 y O2 H2 h2 s2 kp2 g2 => ?_⟩⟩
  rw [List.set_set] at s2
  exact q d1 W1 d2 W2 h1 h2 O2 H2 x y Q s2.dom s2.tabs (kp2 _ _ g1) g2 fun v H3 e3 t3 g3 => k _ W2 v O2 H3 ⟨d1, W1, d2, h1, h2, rfl⟩ (s2.grow e3 t3) ((kp1.trans kp2).grow e3) g3
theorem w_op {op : Operator} {r : R2} {Ω1 : PyData → Wd → Prop} {Ω2 : PyData → Wd → PyData → Wd → Prop} {z : PyData → PyData → PyData} (ho : OpR X (binaryOp op) r) (hgl : g < δ.length) (q : ∀ d1 W1 d2 W2, Ω1 d1 W1 → Ω2 d1 W1 d2 W2 → OpD F r d1 d2 (z d1 d2)) (ha : PE X a (tW F δ g Ω1)) (hb : ∀ d W', Ω1 d W' → PE X b (tW F (δ.set g (.wd false W')) g (Ω2 d W'))) :
    PE X (.BinOp a op b pos) (tW F δ g fun d W' => ∃ d1 W1 d2, Ω1 d1 W1 ∧ Ω2 d1 W1 d2 W' ∧ d = z d1 d2) := wkE (pe_op ho ha (anyW hb)) fun σ H Q h => opW_run q hgl h
theorem cw_cmp {op : CmpOp} {r : R2} {Ω1 : PyData → Wd → Prop} {Ω2 : PyData → Wd → PyData → Wd → Prop} {z : PyData → PyData → Bool} (ho : OpR X (compareOp op) r) (hgl : g < δ.length) (q : ∀ d1 W1 d2 W2, Ω1 d1 W1 → Ω2 d1 W1 d2 W2 → OpD F r d1 d2 (.bool (z d1 d2))) (ha : PE X a (tW F δ g Ω1)) (hb : ∀ d W', Ω1 d W' → PE X b (tW F (δ.set g (.wd false W')) g (Ω2 d W')))
    (hm : behindInMarks op b = false := by first | exact nomark _ | rfl) : PT X (.Compare a [op] [b] pos) (cW F δ g fun k W' => ∃ d1 W1 d2, Ω1 d1 W1 ∧ Ω2 d1 W1 d2 W' ∧ k = z d1 d2) :=
  wkT (pt_cmpR ho ha (anyW hb) hm) fun σ H Q h => by
    obtain ⟨O, st, k⟩ := h
    refine opW_run (F := F) (δ := δ) (z := fun a b => .bool (z a b)) q hgl ⟨O, st, fun d W' v O' H' hΩ s' kp g' => ?_⟩
    obtain ⟨d1, W1, d2, h1, h2, rfl⟩ := hΩ
    exact ⟨z d1 d2, g', k _ W' O' H' ⟨d1, W1, d2, h1, h2, rfl⟩ s' kp⟩
/-- .. the right one changes nothing -/
theorem cw_cmpL {op : CmpOp} {r : R2} {z : PyData → Bool} {d2 : PyData} (ho : OpR X (compareOp op) r) (hgl : g < δ.length) (q : ∀ d1 W1, Ω d1 W1 → OpD F r d1 d2 (.bool (z d1))) (ha : PE X a (tW F δ g Ω)) (hb : ∀ W', PE X b (tD F (δ.set g (.wd false W')) d2))
    (hm : behindInMarks op b = false := by first | exact nomark _ | rfl) : PT X (.Compare a [op] [b] pos) (cW F δ g fun k W' => ∃ d1, Ω d1 W' ∧ k = z d1) :=
  wkT (cw_cmp (z := fun d _ => z d) ho hgl (fun d1 W1 d2' W2 h1 h2 => by rw [h2.1]; exact q d1 W1 h1) ha (fun d W' _ => w_pure (W := W') (by rw [List.getElem?_set_self hgl]) (hb W')) hm) fun σ H Q h => by
    obtain ⟨O, st, k⟩ := h
    refine ⟨O, st, fun b W' O' H' hΩ => ?_⟩
    obtain ⟨d1, W1, d2', h1, ⟨_, e2⟩, rfl⟩ := hΩ
    exact k _ W' O' H' ⟨d1, by rw [e2]; exact h1, rfl⟩
end
end Lf
set_option Elab.async false
set_option linter.all false
set_option maxRecDepth 100000
set_option maxHeartbeats 4000000
namespace Lf
open PySem PySem.Spec PyProof.Rows L2 L2H HotX LamX
section
variable {Kf : PySem.W.Frag} {Tf : List (Addr × Str)} {F : Fx Kf Tf} {δ : List Slot} {X : Cx} {N : List Str} {sc : Scope} {pos p lpos : Pos} {e : Expr} {W : Wd} {g : Nat} {d : PyData} {C : Addr}
theorem r_ok {Ω : PyData → Wd → Prop} (h : PE X e (tW F δ g Ω)) : PE X e (tR F δ g fun r W' => ∃ d, r = .ok d ∧ Ω d W') := wkE h fun σ H Q q => by
  obtain ⟨O, st, w, _⟩ := q
  exact ⟨O, st, fun d W' v O' H' hΩ => w d W' v O' H' ⟨d, rfl, hΩ⟩⟩
theorem r_er (hg : δ[g]? = some (.wd false W)) (h : PE X e (tDX F δ C)) : PE X e (tR F δ g fun r W' => r = .error C ∧ W' = W) := wkE h fun σ H Q q => by
  obtain ⟨O, st, _, w⟩ := q
  exact ⟨O, st, fun H' e1 t1 => w C W O H' ⟨rfl, rfl⟩ (by rw [wd_self hg]; exact st.grow e1 t1) (Kp.ext e1)⟩
theorem r_imp {Ω Ω' : Res → Wd → Prop} (h : PE X e (tR F δ g Ω)) (k : ∀ r W, Ω r W → Ω' r W) : PE X e (tR F δ g Ω') := wkE h fun σ H Q q => by
  obtain ⟨O, st, w1, w2⟩ := q
  exact ⟨O, st, fun d W' v O' H' hΩ => w1 d W' v O' H' (k _ _ hΩ), fun c W' O' H' hΩ => w2 c W' O' H' (k _ _ hΩ)⟩
theorem Kp.up {O O' : Addr → Prop} {H H1 H' : Hp} (e : ExtN H H1) (k : Kp O H1 O' H') : Kp O H O' H' := Kp.trans (Kp.ext e) k
/-- _law_told(lambda: ..), the deed changes the world -/
theorem x_toldW {cs : List Addr} {CS c P : Addr} {q : Str} {st : Stmt} {k : Nat} {Ω : Res → Wd → Prop} {params : Arguments} {body : Expr} {scope : Scope} (cx : Ctx X N sc) (co : Co X c q) (Z : ToldG X.prog X.w X.K X.mg X.base cs CS st) (TB : TabB X.base X.mg c P) (hm : (P, q ++ "<lambda>") ∈ Tf) (hu : ∀ p ∈ Tf, p.1 = P → p.2 = q ++ "<lambda>")
    (hr : Room (k + 3) X.A) (zf : Addr → PyData) (hz : ∀ C W', Ω (.error C) W' → ToldIs X.K cs CS (zf C) (.error C)) (hb : Lamb X N F scope k fun Y F' => PE Y body (tR F' δ g Ω)) (L : lamSB sc scope = true := by decide +kernel) (hg : sc.names.lookup ("_law_told" : Str) = some .globalImplicit := by rfl) (hdef : defaultsOf params X.env = ([], []) := by rfl)
    (hbind : ∀ (q : Str) (cl : List (Str × Addr)) (pm cv ctv : Value), bindArgs (PySem.W.kla_fn "<lambda>" q params body scope cl pm cv ctv) ⟨[], []⟩ = pure [] := by intros; rfl) :
    PE X (.Call (.Name "_law_told" p) [.Lambda params body scope lpos] [] pos) (tW F δ g fun z W' => Ω (.ok z) W' ∨ ∃ C, Ω (.error C) W' ∧ z = zf C) := by
  obtain ⟨gg, fd, Fn, gm, gb⟩ := Z.d
  obtain ⟨oc, od, kV, doc, pm, an, cdv, ct, osl, rfl, lk, hcd⟩ := Fn.ex
  obtain ⟨p1, p2, p3, p4, p5, p6, p7, p8, p9, p10, eb⟩ := Z.bd
  obtain ⟨fw, fdw, Fw, wm, wk, wb⟩ := Z.word
  have hG : GivesN X ["deed", "e"] "_law_told" (defScope st) gg cdv (defBody st) "deed" (X.env.qual ++ "<lambda>") (TTw X.K CS fun cls H Q => ∃ C j w, cls = .ref C ∧ Ew X.K cs C j ∧ ewords[j]? = some w ∧ ∀ H', (∀ b o, H b = some o → H' b = some o) → Q (.str w) H') := by
    rw [eb]
    refine word_gives (p11 := p1) Z.sc.kind Z.s1 Z.cls (by decide) (fun f => rfl) Z.sc.nd rfl Z.s3 (fun f a => rfl) (by decide) (by decide) Fw Z.s2 wm wk wb (by decide) fun cls a oe H Q zn hf h => ?_
    obtain ⟨C, j, w, rfl, ew, hw, hq⟩ := h
    exact ⟨C, j, w, zn.zc, hf, ew, hw, hq⟩
  refine wkE (lamcall_n (T := Tf) (k := k) (Ng := ["deed", "e"]) (t := fun E => tR (F.at_ E) δ g Ω) (cx.gl hg) gm Fn.kp lk hcd gb Z.sc rfl (.inl Z.s4) hG TB co.code (by rw [co.qual]; exact hm) (by rw [co.qual]; exact hu) hr (by rw [cx.s]; exact lamS_by L) hdef hbind
    (fun A outer s H E f c' hr' => hb A outer s H E f c' ⟨cx.n, rfl, cx.nd, rfl⟩ (L2N.takes_of rfl rfl rfl rfl) hr')) fun σ H Q h => ?_
  obtain ⟨O, st, w⟩ := h
  refine ⟨st.tabs, fun H1 e1 t1 => ?_⟩
  show tR (F.at_ _) δ g Ω σ H1 Q
  refine ⟨O, (st.grow e1 t1).reE _, fun d W' v O' H' hΩ s' kp g' => w d W' v O' H' (.inl hΩ) (s'.reE F.E) (kp.up e1) g', fun C W' O' H' hΩ s' kp => ?_⟩
  obtain ⟨j, wd, ew, exm, hw, hzf⟩ := hz C W' hΩ
  refine ⟨rfl, exm, C, j, wd, rfl, ew, hw, fun H3 k3 => ?_⟩
  have e3 : ExtN H' H3 := fun a o g _ => k3 a o g
  exact w (zf C) W' (.str wd) O' H3 (.inr ⟨C, hΩ, rfl⟩) ((s'.reE F.E).grow e3 (s'.tabs.ext k3)) ((kp.up e1).grow e3) (by rw [hzf]; rfl)
end
/-! ### the law itself, with a world -/
def startLW (N : List Str) (ns : List Int) : List Slot := .scr ns :: (List.replicate (N.length - 2) .non ++ [.wd false []])
theorem startLW_get {N : List Str} {ns : List Int} {i : Nat} {u : Slot} (q : (startLW N ns)[i]? = some u) : (i = 0 ∧ u = .scr ns) ∨ (u = .non ∧ 0 < i) ∨ (i = N.length - 2 + 1 ∧ u = .wd false []) := by
  unfold startLW at q
  cases i with
  | zero => cases q; exact .inl ⟨rfl, rfl⟩
  | succ i =>
    rw [List.getElem?_cons_succ] at q
    by_cases h2 : i < N.length - 2
    · rw [List.getElem?_append_left (by simpa using h2), List.getElem?_replicate, if_pos h2] at q
      cases q
      exact .inr (.inl ⟨rfl, by omega⟩)
    · rw [List.getElem?_append_right (by simpa using h2), List.length_replicate] at q
      cases hq : i - (N.length - 2) with
      | zero => rw [hq] at q; cases q; exact .inr (.inr ⟨by omega, rfl⟩)
      | succ n => rw [hq] at q; simp at q
theorem fn_lawW {G : Pg} {st : Stmt} {x : Str} {f c : Addr} {N : List Str} {p0 : Str} {k : Nat} {T : List (Addr × Str)} {R : List Int → Prop} {oc kV doc pm ct : Value} {od an : Option Addr} {osl : Array (Option Value)}
    (lk : G.K.lookup f = some ⟨oc, od, .func (PySem.W.fnOf x x (defArgs st) (defBody st) (defScope st) .none kV doc pm an (.ref c) ct), osl⟩) (hcd : PySem.W.codeIn G.K (.ref c) x = true) (S : FnScope N [p0] (defScope st)) (hN : 2 ≤ N.length)
    (body : ∀ (r : Rest) (F : Fx G.K T) (ns : List Int), CtD (G.cx N r) N (defScope st) F.E → Co (G.cx N r) c (x ++ ".<locals>.") → Room k r.A → R ns → PSs (G.cx N r) (defBody st) (sD F (startLW N ns) { nx := fun _ => False, rt := fun d => d = .bool true })) :
    FnOk G.prog G.w G.K G.mg G.base (L2N.CX G.prog G.w) (k + 1) f (PySem.W.fnOf x x (defArgs st) (defBody st) (defScope st) .none kV doc pm an (.ref c) ct) [p0] (spLaw T G.K R) := by
  refine fn_of lk hcd S (fun vs H Q E h => ?_) fun A outer s H vs Q E hr h => ?_
  · obtain ⟨a, ns, rfl, _⟩ := h
    rfl
  · obtain ⟨a, ns, rfl, hs, tb, hR, q⟩ := h
    refine ⟨_, body ⟨A.deeper (envOfC x (defScope st) s.heap.objs.size f (.ref c)), s, H, envOfC x (defScope st) s.heap.objs.size f (.ref c), outer, envOfC x (defScope st) s.heap.objs.size f (.ref c) :: outer, [], fun _ => true, true, [], _⟩ ⟨fun _ => False, H, E, fun _ z => z.elim⟩ ns ⟨⟨rfl, rfl, S.nd, rfl⟩, fun _ => rfl, passes_of rfl, L2N.takes_of rfl rfl rfl rfl, rfl, rfl⟩ ⟨rfl, rfl⟩ hr hR, fun _ => False, [], ?_, (fun _ z => by cases z), ?_⟩
    · have sg : ∀ i, 0 < i → (L2.start N [V.ref a])[i]?.getD none = none := fun i hi => by
        unfold L2.start
        rw [List.getElem?_append_right (by simp; omega), List.getElem?_replicate]
        split <;> rfl
      have sl : ∀ i u, (startLW N ns)[i]? = some u → SlotOk (⟨fun _ => False, H, E, fun _ z => z.elim⟩ : Fx G.K T) (fun _ => False) H ((L2.start N [V.ref a])[i]?.getD none) u := fun i u q => by
        rcases startLW_get q with ⟨hi, rfl⟩ | ⟨rfl, _⟩ | ⟨hi, rfl⟩
        · cases i with
          | zero => exact ⟨a, show (some (some (V.ref a))).getD none = some (V.ref a) from rfl, hs⟩
          | succ i => cases hi
        · trivial
        · exact ⟨sg i (by omega), ⟨List.nodup_nil, fun q hq => by cases hq⟩, fun a ha => by cases ha⟩
      refine ⟨?_, fun a z => z, fun _ z => z.elim, tb, ExtN.refl H, sl, fun i j u w q n h1 h2 m1 m2 e1 e2 => ?_, fun i j R u n h1 h2 p hp => ?_⟩
      · simp [startLW, L2.start]
        omega
      · rcases startLW_get h1 with ⟨_, rfl⟩ | ⟨rfl, _⟩ | ⟨hi, rfl⟩
        · cases m1
        · cases m1
        · have := (sl i _ h1).1
          rw [e1] at this
          cases this
      · rcases startLW_get h1 with ⟨_, e⟩ | ⟨e, _⟩ | ⟨hi, e⟩
        · cases e
        · cases e
        · cases e
          cases hp
    · exact ⟨fun δ O' σ' H' m => m.elim, fun d v H' m e t g => (by cases (show d = .bool true from m); rw [show v = V.bl true from g]; exact q H'), fun δ O' σ' H' m => m.elim, fun δ O' σ' H' m => m.elim, fun c H' m => m.elim, fun _ _ _ _ _ _ m => m.elim, fun _ _ _ _ _ m => m.elim⟩
/-! ### what the head has written of a class -/
def clsB (K : PySem.W.Frag) (C : Addr) (ns : List Str) : Bool :=
  PySem.W.plainGet K C Str.empty && PySem.W.hasDictIn K C && PySem.W.plainOver K C && (PySem.W.findIn K (.ref C) "__setattr__" == some (some (.builtin "object.__setattr__"))) && ns.all fun f => PySem.W.findIn K (.ref C) f == some none
theorem cls_mk {K : PySem.W.Frag} {mg : Str → Option Value} {x : Str} {C : Addr} {ns : List Str} (h : clsB K C ns = true) (m : mg x = some (.ref C)) : ClsX K mg x C ns := by
  unfold clsB at h
  simp only [Bool.and_eq_true, beq_iff_eq, List.all_eq_true] at h
  obtain ⟨⟨⟨⟨h1, h2⟩, h3⟩, h4⟩, h5⟩ := h
  exact ⟨⟨h1, h2, h3, h4⟩, fun f hf => h5 f hf, m⟩
theorem mt_mk {G : Pg} {m qual : Str} {C : Addr} {st : Stmt} {f : Addr} {ps : List Str} {od an : Option Addr} {sl : Array (Option Value)} {oc kV dc pm cd ct : Value} (a : PySem.W.findIn G.K (.ref C) m = some (some (.ref f))) (i : PySem.W.isFn G.K (.ref f) = true)
    (l : G.K.lookup f = some ⟨oc, od, .func (PySem.W.fnOf m qual (defArgs st) (defBody st) (defScope st) .none kV dc pm an cd ct), sl⟩) (c : PySem.W.codeIn G.K cd qual = true) (k : PySem.W.keepIn G.K (.ref f) = true) (hb : ∀ fd, Fun G.K m qual st f fd → Binds G.K fd ps []) : Mt G C m qual st ps :=
  let F := fun_mk (st := st) l c k
  ⟨_, _, F, ⟨a, i, k⟩, hb _ F⟩
theorem mti_mk {G : Pg} {qual : Str} {C : Addr} {st : Stmt} {f : Addr} {ps : List Str} {od an : Option Addr} {sl : Array (Option Value)} {oc kV dc pm cd ct : Value} (mk : PySem.W.makesIn G.K C = true) (kc : PySem.W.keepIn G.K (.ref C) = true) (a : PySem.W.findIn G.K (.ref C) "__init__" = some (some (.ref f))) (i : PySem.W.isFn G.K (.ref f) = true)
    (l : G.K.lookup f = some ⟨oc, od, .func (PySem.W.fnOf "__init__" qual (defArgs st) (defBody st) (defScope st) .none kV dc pm an cd ct), sl⟩) (c : PySem.W.codeIn G.K cd qual = true) (k : PySem.W.keepIn G.K (.ref f) = true) (hb : ∀ fd, Fun G.K "__init__" qual st f fd → Binds G.K fd ps []) : MtI G C qual st ps :=
  let F := fun_mk (st := st) l c k
  ⟨_, _, F, ⟨mk, a, i, kc⟩, hb _ F⟩
end Lf
set_option Elab.async false
set_option linter.all false
set_option maxRecDepth 100000
set_option maxHeartbeats 4000000
namespace Lf
open PySem PySem.Spec PyProof.Rows L2 L2H HotX LamX
section
variable {Kf : PySem.W.Frag} {Tf : List (Addr × Str)} {F : Fx Kf Tf} {δ : List Slot} {X : Cx} {N : List Str} {sc : Scope} {pos p p2 px py pz pt pt2 pos' : Pos} {a b c e : Expr} {es : List Expr} {W : Wd} {g : Nat} {d d1 d2 d3 : PyData} {ds : List PyData} {C : Addr} {x y z : Str} {rest : List Stmt} {P : Post}
theorem Co.blk {q : Str} {c0 : Addr} (co : Co X c0 q) (s : Shared) (H : Hp) (scope : Scope) (C : Addr) (cl : List (Str × Addr)) (fp : List Addr) : Co (X.blk s H scope (compEnvC scope cl C X.env) fp) c0 q := ⟨co.code, co.qual⟩
/-- the name of a comprehension that a lambda in it uses -/
theorem g_nameC (i : Nat) (cx : Ctx X N sc) (s : Shared) (H : Hp) (scope : Scope) (C : Addr) (cl : List (Str × Addr)) (fp : List Addr) (hi : N[i]? = some x := by rfl) (hx : (reSc sc scope).names.lookup x = some .cell := by rfl) (hf : (scope.names.lookup x == some .cell) = true := by rfl) : PG (X.blk s H scope (compEnvC scope cl C X.env) fp) (.Name x pos) (gName i) :=
  pg_name (cx.blk s H scope C cl fp).nd' ((cx.blk s H scope C cl fp).at_ hi) ((cx.blk s H scope C cl fp).loc (.inr hx)) (.inl hf)
/-! ### arguments that change the world -/
theorem aw_nil (hg : δ[g]? = some (.wd false W)) : PA X [] (aW F δ g fun ds W' => ds = [] ∧ W' = W) := wkA pa_nil fun σ H Q h => by
  obtain ⟨O, st, k⟩ := h
  exact k [] W [] O H ⟨rfl, rfl⟩ (by rw [wd_self hg]; exact st) (fun _ _ z => z) rfl
theorem anyA {Ω1 : PyData → Wd → Prop} {Ω2 : PyData → Wd → List PyData → Wd → Prop} (hb : ∀ d W', Ω1 d W' → PA X es (aW F (δ.set g (.wd false W')) g (Ω2 d W'))) : PA X es (fun σ H Q => ∃ d W', Ω1 d W' ∧ aW F (δ.set g (.wd false W')) g (Ω2 d W') σ H Q) := ⟨fun pos pins s σ H Q I q => let ⟨d, W', h, t⟩ := q; (hb d W' h).run pos pins s σ H Q I t⟩
theorem aw_cons {Ω1 : PyData → Wd → Prop} {Ω2 : PyData → Wd → List PyData → Wd → Prop} (h : PE X e (tW F δ g Ω1)) (hb : ∀ d W', Ω1 d W' → PA X es (aW F (δ.set g (.wd false W')) g (Ω2 d W'))) (hs : starEach (e :: es) X.env = (false, eval e X.env) :: starEach es X.env := by rfl) :
    PA X (e :: es) (aW F δ g fun ds W' => ∃ d1 W1 es, Ω1 d1 W1 ∧ Ω2 d1 W1 es W' ∧ ds = d1 :: es) := wkA (pa_cons h (anyA hb) hs) fun σ H Q q => by
  obtain ⟨O, st, k⟩ := q
  refine ⟨O, st, fun d1 W1 v O1 H1 h1 s1 kp1 g1 => ⟨d1, W1, h1, O1, s1, fun es W2 vs O2 H2 h2 s2 kp2 g2 => ?_⟩⟩
  rw [List.set_set] at s2
  exact k _ W2 (v :: vs) O2 H2 ⟨d1, W1, es, h1, h2, rfl⟩ s2 (kp1.trans kp2) ⟨v, vs, rfl, kp2 _ _ g1, g2⟩
theorem aw_imp {Ω Ω' : List PyData → Wd → Prop} (h : PA X es (aW F δ g Ω)) (k : ∀ d W, Ω d W → Ω' d W) : PA X es (aW F δ g Ω') := wkA h fun σ H Q q => by
  obtain ⟨O, st, w⟩ := q
  exact ⟨O, st, fun d W' v O' H' hΩ => w d W' v O' H' (k d W' hΩ)⟩
/-- [a, ..] -/
theorem w_lst {Ω : List PyData → Wd → Prop} (h : PA X es (aW F δ g Ω)) (hz : ∀ ds W', Ω ds W' → ds.length ≤ 1000) : PE X (.List es pos) (tW F δ g fun d W' => ∃ ds, Ω ds W' ∧ d = .list ds) :=
  wkE (pe_lst h) fun σ H Q q => by
    obtain ⟨O, st, w⟩ := q
    refine ⟨O, st, fun ds W' vs O' H' hΩ s' kp g' => ⟨by rw [g'.len]; exact Nat.le_trans (hz ds W' hΩ) (by decide), fun p hp => ?_⟩⟩
    exact w (.list ds) W' _ O' _ ⟨ds, hΩ, rfl⟩ (s'.grow (ext_new hp) (tabs_new s'.tabs hp)) (kp.grow (ext_new hp)) ⟨p, vs, rfl, fresh_ok s'.dom hp, upd_same, g'.grow (ext_new hp)⟩
theorem w_tup {m : Nat} {Ω : List PyData → Wd → Prop} (h : PA X es (aW F δ g Ω)) (hz : ∀ ds W', Ω ds W' → ds.length ≤ 1000) : PE X (.Tuple es m pos) (tW F δ g fun d W' => ∃ ds, Ω ds W' ∧ d = .tuple ds) :=
  wkE (pe_tup h) fun σ H Q q => by
    obtain ⟨O, st, w⟩ := q
    refine ⟨O, st, fun ds W' vs O' H' hΩ s' kp g' => ⟨by rw [g'.len]; exact Nat.le_trans (hz ds W' hΩ) (by decide), fun p hp => ?_⟩⟩
    exact w (.tuple ds) W' _ O' _ ⟨ds, hΩ, rfl⟩ (s'.grow (ext_new hp) (tabs_new s'.tabs hp)) (kp.grow (ext_new hp)) ⟨p, vs, rfl, fresh_ok s'.dom hp, upd_same, g'.grow (ext_new hp)⟩
/-- a, b = x, y -/
theorem s_parW (i j : Nat) {kt k2 : Nat} {Ω : List PyData → Wd → Prop} (cx : CtD X N sc F.E) (ha : PA X [a, b] (aW F δ g Ω)) (hr : ∀ ds W', Ω ds W' → ∃ d1 d2, ds = [d1, d2] ∧ PSs X rest (sD F (((δ.set g (.wd false W')).set i (.dat d1)).set j (.dat d2)) P)) (hi : N[i]? = some x := by rfl) (hj : N[j]? = some y := by rfl) (hij : i ≠ j := by decide) (hx : sc.names.lookup x = some .local := by rfl) (hy : sc.names.lookup y = some .local := by rfl)
    (hw : swappedStores [.Tuple [.Name x px, .Name y py] kt pt] (.Tuple [a, b] k2 pt2) (envS sc) = pure (some [x, y]) := by rfl) (hs : swapsWithSole [.Tuple [.Name x px, .Name y py] kt pt] (.Tuple [a, b] k2 pt2) pos.line X.env = pure false := by rfl) :
    PSs X (.Assign [.Tuple [.Name x px, .Name y py] kt pt] (.Tuple [a, b] k2 pt2) pos :: rest) (sD F δ P) :=
  wkSs (pss_cons (ps_par cx.calm cx.nd' (cx.at_ hi) (cx.at_ hj) hij (by rw [cx.s]; exact hx) (by rw [cx.s]; exact hy) ha (sw_eq cx.toCtx hw) hs) (anyS (F := F))) fun D σ H h' => by
    obtain ⟨O, τ, s0, tm, w⟩ := h'
    refine ⟨O, s0, fun ds W' vs O' H' hΩ s' kp g' => ?_⟩
    obtain ⟨d1, d2, rfl, hb⟩ := hr ds W' hΩ
    obtain ⟨v, r, rfl, h1, u, r', rfl, h2, rfl⟩ := g'
    exact ⟨v, u, rfl, _, P, hb, O', τ, (s'.setD i h1).setD j h2, fun q hq => kp _ _ (tm q hq), w⟩
/-- a, b, c = x, y, z -/
theorem s_par3W (i j l : Nat) {kt k2 : Nat} {Ω : List PyData → Wd → Prop} (cx : CtD X N sc F.E) (ha : PA X [a, b, c] (aW F δ g Ω)) (hr : ∀ ds W', Ω ds W' → ∃ d1 d2 d3, ds = [d1, d2, d3] ∧ PSs X rest (sD F ((((δ.set g (.wd false W')).set i (.dat d1)).set j (.dat d2)).set l (.dat d3)) P)) (hi : N[i]? = some x := by rfl) (hj : N[j]? = some y := by rfl) (hl : N[l]? = some z := by rfl) (hij : i ≠ j := by decide) (hil : i ≠ l := by decide) (hjl : j ≠ l := by decide)
    (hx : sc.names.lookup x = some .local := by rfl) (hy : sc.names.lookup y = some .local := by rfl) (hz : sc.names.lookup z = some .local := by rfl)
    (hw : swappedStores [.Tuple [.Name x px, .Name y py, .Name z pz] kt pt] (.Tuple [a, b, c] k2 pt2) (envS sc) = pure (some [x, y, z]) := by rfl) (hs : swapsWithSole [.Tuple [.Name x px, .Name y py, .Name z pz] kt pt] (.Tuple [a, b, c] k2 pt2) pos.line X.env = pure false := by rfl) :
    PSs X (.Assign [.Tuple [.Name x px, .Name y py, .Name z pz] kt pt] (.Tuple [a, b, c] k2 pt2) pos :: rest) (sD F δ P) :=
  wkSs (pss_cons (ps_par3 cx.calm cx.nd' (cx.at_ hi) (cx.at_ hj) (cx.at_ hl) hij hil hjl (by rw [cx.s]; exact hx) (by rw [cx.s]; exact hy) (by rw [cx.s]; exact hz) ha (sw_eq cx.toCtx hw) hs) (anyS (F := F))) fun D σ H h' => by
    obtain ⟨O, τ, s0, tm, w⟩ := h'
    refine ⟨O, s0, fun ds W' vs O' H' hΩ s' kp g' => ?_⟩
    obtain ⟨d1, d2, d3, rfl, hb⟩ := hr ds W' hΩ
    obtain ⟨v, r, rfl, h1, u, r', rfl, h2, q, r'', rfl, h3, rfl⟩ := g'
    exact ⟨v, u, q, rfl, _, P, hb, O', τ, ((s'.setD i h1).setD j h2).setD l h3, fun q hq => kp _ _ (tm q hq), w⟩
/-- target = value, any target -/
theorem s_asgW {gt : TG} {tg : Expr} {Ω : PyData → Wd → Prop} (cx : CtD X N sc F.E) (h : PE X e (tW F δ g Ω)) (hg : PG X tg gt) (hr : ∀ d W', Ω d W' → ∃ δ1, Tgt F gt d (δ.set g (.wd false W')) δ1 ∧ PSs X rest (sD F δ1 P)) (hs : swapsWithSole [tg] e pos.line X.env = pure false := by rfl) (hw : swappedStores [tg] e (envS sc) = pure none := by rfl) (h1 : (assignEach [tg] X.env).map (·.2) = [assign tg X.env] := by rfl) :
    PSs X (.Assign [tg] e pos :: rest) (sD F δ P) := wkSs (pss_cons (ps_asg h hg hs (sw_eq cx.toCtx hw) h1) (anyS (F := F))) fun D σ H h' => by
  obtain ⟨O, τ, s0, tm, w⟩ := h'
  refine ⟨O, s0, fun d W' v O' H' hΩ s' kp g' => ?_⟩
  obtain ⟨δ1, ht, hb⟩ := hr d W' hΩ
  exact ht O' H' σ v _ s' g' fun σ' s2 => ⟨_, P, hb, O', τ, s2, fun q hq => kp _ _ (tm q hq), w⟩
/-! ### and, or with a change -/
theorem cw_one {op : BoolOp} {Ωb : Bool → Wd → Prop} (h : PT X a (cW F δ g Ωb)) : PW X (.BoolOp op [a] pos) (cW F δ g Ωb) := by
  cases op with
  | And => exact pw_and1 h
  | Or => exact pw_or1 h
theorem anyPW {Ω1 : Bool → Wd → Prop} {Ω2 : Wd → Bool → Wd → Prop} {k : Bool} (hb : ∀ W', Ω1 k W' → PW X e (cW F (δ.set g (.wd false W')) g (Ω2 W'))) : PW X e (fun σ H Q => ∃ W', Ω1 k W' ∧ cW F (δ.set g (.wd false W')) g (Ω2 W') σ H Q) := ⟨fun wh pins s σ H Q I q => let ⟨W', h, t⟩ := q; (hb W' h).run wh pins s σ H Q I t⟩
theorem cw_or {Ω1 : Bool → Wd → Prop} {Ω2 : Wd → Bool → Wd → Prop} (h : PT X a (cW F δ g Ω1)) (hb : ∀ W', Ω1 false W' → PW X (.BoolOp .Or (b :: es) pos) (cW F (δ.set g (.wd false W')) g (Ω2 W'))) : PW X (.BoolOp .Or (a :: b :: es) pos) (cW F δ g fun k W' => (k = true ∧ Ω1 true W') ∨ ∃ W1, Ω1 false W1 ∧ Ω2 W1 k W') :=
  wkW (pw_or h (anyPW hb)) fun σ H Q q => by
    obtain ⟨O, st, w⟩ := q
    refine ⟨O, st, fun k W' O' H' hΩ s' kp => ?_⟩
    cases k with
    | true => exact iteT (w true W' O' H' (.inl ⟨rfl, hΩ⟩) s' kp)
    | false => exact iteF ⟨W', hΩ, O', s', fun k2 W2 O2 H2 h2 s2 kp2 => w k2 W2 O2 H2 (.inr ⟨W', hΩ, h2⟩) (by rw [List.set_set] at s2; exact s2) (kp.trans kp2)⟩
theorem cw_and {Ω1 : Bool → Wd → Prop} {Ω2 : Wd → Bool → Wd → Prop} (h : PT X a (cW F δ g Ω1)) (hb : ∀ W', Ω1 true W' → PW X (.BoolOp .And (b :: es) pos) (cW F (δ.set g (.wd false W')) g (Ω2 W'))) : PW X (.BoolOp .And (a :: b :: es) pos) (cW F δ g fun k W' => (k = false ∧ Ω1 false W') ∨ ∃ W1, Ω1 true W1 ∧ Ω2 W1 k W') :=
  wkW (pw_and h (anyPW hb)) fun σ H Q q => by
    obtain ⟨O, st, w⟩ := q
    refine ⟨O, st, fun k W' O' H' hΩ s' kp => ?_⟩
    cases k with
    | false => exact iteF (w false W' O' H' (.inl ⟨rfl, hΩ⟩) s' kp)
    | true => exact iteT ⟨W', hΩ, O', s', fun k2 W2 O2 H2 h2 s2 kp2 => w k2 W2 O2 H2 (.inr ⟨W', hΩ, h2⟩) (by rw [List.set_set] at s2; exact s2) (kp.trans kp2)⟩
theorem cw_imp {Ω Ω' : Bool → Wd → Prop} (h : PT X e (cW F δ g Ω)) (k : ∀ d W, Ω d W → Ω' d W) : PT X e (cW F δ g Ω') := wkT h fun σ H Q q => by
  obtain ⟨O, st, w⟩ := q
  exact ⟨O, st, fun d W' O' H' hΩ => w d W' O' H' (k d W' hΩ)⟩
end
end Lf
namespace Lf
open PySem PySem.Spec PyProof.Rows L2 L2H HotX LamX
section
variable {Kf : PySem.W.Frag} {Tf : List (Addr × Str)} {F : Fx Kf Tf} {δ : List Slot} {X : Cx} {N : List Str} {sc : Scope} {pos : Pos} {c : Expr} {W W' : Wd} {rest body els : List Stmt} {P : Post}
theorem od_is {r : R2} {d e z z' : PyData} (h : OpD F r d e z) (q : z = z') : OpD F r d e z' := by
  rw [← q]
  exact h
/-- some of the world is let go, or told in another turn -/
theorem s_wsub (g : Nat) (hg : δ[g]? = some (.wd false W)) (hs : ∀ q ∈ W', q ∈ W) (hn : (wAs W).Nodup → (wAs W').Nodup) (h : PSs X rest (sD F (δ.set g (.wd false W')) P)) : PSs X rest (sD F δ P) := wkSs h fun D σ H h' => by
  obtain ⟨O, τ, s0, tm, w⟩ := h'
  have hw := s0.w hg
  have hm : ∀ a ∈ wAs W', a ∈ wAs W := fun a ha => by
    obtain ⟨q, hq, rfl⟩ := List.mem_map.mp ha
    exact List.mem_map.mpr ⟨q, hs q hq, rfl⟩
  have hO : ∀ a, OW O W W' a → O a := fun a z => z.elim (fun z => z.1) (fun z => hw.sh a (hm a z))
  obtain ⟨s1, t1⟩ := w_out s0 tm hg (W' := W') (H' := H) ⟨s0.tabs, fun a o e t n => e, ⟨hn hw.laid.1, fun q hq => (hw.laid.2 q (hs q hq)).keep rfl fun d v z => z.open_ hO⟩, fun a ha => .inl (hm a ha)⟩
  exact ⟨_, τ, s1, t1, w⟩
theorem s_wdrop (g : Nat) (hg : δ[g]? = some (.wd false W)) (h : PSs X rest (sD F (δ.set g (.wd false [])) P)) : PSs X rest (sD F δ P) := s_wsub (W' := []) g hg (fun q hq => by cases hq) (fun _ => List.nodup_nil) h
theorem s_wperm (g : Nat) (hg : δ[g]? = some (.wd false W)) (hp : W.Perm W') (h : PSs X rest (sD F (δ.set g (.wd false W')) P)) : PSs X rest (sD F δ P) := s_wsub g hg (fun q hq => hp.mem_iff.mpr hq) (fun n => (hp.map _).nodup_iff.mp n) h
/-- an if, and what is true behind it -/
theorem s_ifM {k : Bool} (M : List Slot → Prop) (h : PT X c (cD F δ k)) (g1 : k = true → PSs X body (sD F δ { P with nx := M })) (g2 : k = false → PSs X els (sD F δ { P with nx := M })) (g3 : ∀ δ', M δ' → PSs X rest (sD F δ' P)) : PSs X (.If c body els pos :: rest) (sD F δ P) :=
  s_seq (M := M) (wkS (ps_if h (ifSs g1) (ifSs g2)) fun D σ H h' => by
    obtain ⟨O, τ, s0, tm, w⟩ := h'
    refine ⟨O, s0, fun H' e' t' => ?_⟩
    cases k with
    | true => exact iteT ⟨rfl, O, τ, s0.grow e' t', tm.grow e', w⟩
    | false => exact iteF ⟨rfl, O, τ, s0.grow e' t', tm.grow e', w⟩) g3
end
end Lf
set_option Elab.async false
set_option linter.all false
set_option maxRecDepth 100000
set_option maxHeartbeats 4000000
/-! lists of the world -/
namespace Lf
open PySem PySem.Spec PyProof.Rows L2 L2H HotX LamX
theorem mem_at {W : Wd} {j : Nat} {q : Addr × MO} (h : W[j]? = some q) : q ∈ W := List.mem_of_getElem? h
theorem wset {W : Wd} {j : Nat} {q r : Addr × MO} (h : W[j]? = some q) : (W.set j r)[j]? = some r := List.getElem?_set_self (List.getElem?_eq_some_iff.mp h).1
theorem w_last {W : Wd} {q : Addr × MO} : (W ++ [q])[W.length]? = some q := by simp
theorem w_lset {W : Wd} {q r : Addr × MO} : (W ++ [q]).set W.length r = W ++ [r] := by simp
theorem wapp {W V : Wd} {j : Nat} {q : Addr × MO} (h : W[j]? = some q) : (W ++ V)[j]? = some q := by
  rw [List.getElem?_append_left (List.getElem?_eq_some_iff.mp h).1]
  exact h
theorem wset_ne {W : Wd} {i j : Nat} {q r : Addr × MO} (h : W[j]? = some q) (n : i ≠ j) : (W.set i r)[j]? = some q := by
  rw [List.getElem?_set_ne n]
  exact h
theorem wlt {W : Wd} {j : Nat} {q : Addr × MO} (h : W[j]? = some q) : j < W.length := (List.getElem?_eq_some_iff.mp h).1
section
variable {Kf : PySem.W.Frag} {Tf : List (Addr × Str)} {F : Fx Kf Tf} {δ : List Slot} {X : Cx} {N ns : List Str} {sc : Scope} {pos apos pos' cpos : Pos} {a b c e o value : Expr} {es : List Expr} {d z : PyData} {ds fs : List PyData} {x f m : Str} {W : Wd} {ro : Bool} {p C : Addr} {rest body els : List Stmt} {P : Post} {g j : Nat} {Ω : PyData → Wd → Prop}
/-- a new list becomes one of the world -/
theorem w_new (hg : δ[g]? = some (.wd false W)) (h : PE X e (tDL F δ ds)) : PE X e (tW F δ g fun d W' => ∃ q, q ∉ wAs W ∧ d = ptrD q ∧ W' = W ++ [(q, .lst ds)]) := wkE h fun σ H Q k => by
  obtain ⟨O, st, w⟩ := k
  refine ⟨O, st, fun q xs H' e1 t1 hn hq hd => ?_⟩
  have hw := st.w hg
  have np : q ∉ wAs W := fun z => hn q (hw.lv q z) rfl
  have es : wAs (W ++ [(q, .lst ds)]) = wAs W ++ [q] := by simp [wAs]
  have ow : ∀ a, OW O W (W ++ [(q, .lst ds)]) a → Shut O q a := fun a z => by
    rcases z with z | z
    · exact .inl z.1
    · rw [es] at z
      rcases List.mem_append.mp z with z | z
      · exact .inl (hw.sh a z)
      · exact .inr (List.mem_singleton.mp z)
  have kop : Kp (Shut O q) H' (OW O W (W ++ [(q, .lst ds)])) H' := fun d v g => g.open_ ow
  have ks : Kp O H (Shut O q) H' := fun d v g => Dt.imp (fun a o n r w => ⟨fun z => z.elim n (fun z => hn a ⟨o, r, w⟩ z), e1 a o r w⟩) d v g
  have af : Aft F.T O H W H' (W ++ [(q, .lst ds)]) := by
    refine ⟨t1, fun a u e t n => e1 a u e t, ⟨?_, fun r hr => ?_⟩, fun a ha => ?_⟩
    · rw [es]
      exact List.nodup_append.mpr ⟨hw.laid.1, List.nodup_cons.mpr ⟨by simp, List.nodup_nil⟩, fun a ha b hb z => np (by rw [← List.mem_singleton.mp hb, ← z]; exact ha)⟩
    · rcases List.mem_append.mp hr with hr | hr
      · have hm := hw.laid.2 r hr
        exact hm.keep (hm.lives.same e1) (ks.trans kop)
      · cases List.mem_singleton.mp hr
        exact ⟨xs, hq, hd.kp kop⟩
    · rw [es] at ha
      rcases List.mem_append.mp ha with z | z
      · exact .inl z
      · rw [List.mem_singleton.mp z]
        exact .inr fun y => hn q y rfl
  exact w (ptrD q) _ (.ref q) _ H' ⟨q, np, rfl, rfl⟩ (w_after st hg af) (af.kp hw.sh) dt_ptr
/-- o.f = value, the value changes the world -/
theorem s_fldW (i : Nat) (cl : Cls X.K C) (na : NoAttr X.K C f) (hgl : g < δ.length) (hv : PE X value (tW F δ g Ω)) (ho : ∀ d W', Ω d W' → PE X o (tD F (δ.set g (.wd false W')) (ptrD p))) (hj : ∀ d W', Ω d W' → W'[j]? = some (p, .ins C ns fs)) (hr : ∀ d W', Ω d W' → PSs X rest (sD F (δ.set g (.wd false (W'.set j (p, .ins C ns (fs.set i d))))) P)) (hl : ns.length < 1000 := by decide) (hf : fldAt ns f i = true := by decide +kernel)
    (hs : swapsWith value (some (.Attribute o f pos')) pos.line X.env = pure false := by rfl) : PSs X (.Assign [.Attribute o f pos'] value pos :: rest) (sD F δ P) :=
  wkSs (pss_cons (ps_fld (ta := fun σ H Q => ∃ d W', Ω d W' ∧ tD F (δ.set g (.wd false W')) (ptrD p) σ H Q) ⟨fun pins s σ H Q I q => let ⟨d, W', h, t⟩ := q; (ho d W' h).run pins s σ H Q I t⟩ hv hs) (anyS (F := F))) fun D σ H h' => by
    obtain ⟨O, τ, s0, tm, w⟩ := h'
    refine ⟨O, s0, fun d W' y O' H1 hΩ s1 kp g1 => ⟨d, W', hΩ, O', s1, fun x H2 e2 t2 g2 => ?_⟩⟩
    rw [dt_ptr_eq g2]
    have hg : (δ.set g (.wd false W'))[g]? = some (.wd false W') := List.getElem?_set_self hgl
    have s2 := s1.grow e2 t2
    have hw := s2.w hg
    have hjj := hj d W' hΩ
    obtain ⟨dx, vs, hH, en, fa⟩ := hw.laid.2 _ (List.mem_of_getElem? hjj)
    refine ⟨p, C, dx, vs, rfl, hH, cl, na, by rw [← List.length_map (f := (·.1)), en]; exact hl, ?_⟩
    obtain ⟨q1, q2⟩ := fld_putF (y := y) (vs := vs) (i := i) (f := f) (by rw [en]; exact hf)
    obtain ⟨s3, t3⟩ := w_out s2 (τ := τ) (fun q hq => (kp _ _ (tm q hq)).grow e2) hg (aft_turn (mo' := .ins C ns (fs.set i d)) hw hjj (tabs_turnI t2 hH) fun hO => ⟨dx, _, upd_same, by rw [q1, en], by rw [q2]; exact (fa.turn hO).set ((g1.grow e2).turn hO) i⟩)
    rw [List.set_set] at s3
    exact ⟨_, P, hr d W' hΩ, _, τ, s3, t3, w⟩
theorem s_fldNW (cl : Cls X.K C) (na : NoAttr X.K C f) (hgl : g < δ.length) (hv : PE X value (tW F δ g Ω)) (ho : ∀ d W', Ω d W' → PE X o (tD F (δ.set g (.wd false W')) (ptrD p))) (hj : ∀ d W', Ω d W' → W'[j]? = some (p, .ins C ns fs)) (hr : ∀ d W', Ω d W' → PSs X rest (sD F (δ.set g (.wd false (W'.set j (p, .ins C (ns ++ [f]) (fs ++ [d]))))) P)) (hl : ns.length < 1000 := by decide) (hf : ns.contains f = false := by decide +kernel)
    (hs : swapsWith value (some (.Attribute o f pos')) pos.line X.env = pure false := by rfl) : PSs X (.Assign [.Attribute o f pos'] value pos :: rest) (sD F δ P) :=
  wkSs (pss_cons (ps_fld (ta := fun σ H Q => ∃ d W', Ω d W' ∧ tD F (δ.set g (.wd false W')) (ptrD p) σ H Q) ⟨fun pins s σ H Q I q => let ⟨d, W', h, t⟩ := q; (ho d W' h).run pins s σ H Q I t⟩ hv hs) (anyS (F := F))) fun D σ H h' => by
    obtain ⟨O, τ, s0, tm, w⟩ := h'
    refine ⟨O, s0, fun d W' y O' H1 hΩ s1 kp g1 => ⟨d, W', hΩ, O', s1, fun x H2 e2 t2 g2 => ?_⟩⟩
    rw [dt_ptr_eq g2]
    have hg : (δ.set g (.wd false W'))[g]? = some (.wd false W') := List.getElem?_set_self hgl
    have s2 := s1.grow e2 t2
    have hw := s2.w hg
    have hjj := hj d W' hΩ
    obtain ⟨dx, vs, hH, en, fa⟩ := hw.laid.2 _ (List.mem_of_getElem? hjj)
    refine ⟨p, C, dx, vs, rfl, hH, cl, na, by rw [← List.length_map (f := (·.1)), en]; exact hl, ?_⟩
    have q1 := fld_putN (y := y) (vs := vs) (f := f) (by rw [en]; exact hf)
    rw [q1]
    obtain ⟨s3, t3⟩ := w_out s2 (τ := τ) (fun q hq => (kp _ _ (tm q hq)).grow e2) hg (aft_turn (o := .ins C dx (vs ++ [(f, y)])) (mo' := .ins C (ns ++ [f]) (fs ++ [d])) hw hjj (tabs_turnI t2 hH) fun hO => ⟨dx, _, upd_same, by simp [en], by rw [List.map_append]; exact (fa.turn hO).app (.one ((g1.grow e2).turn hO))⟩)
    rw [List.set_set] at s3
    exact ⟨_, P, hr d W' hΩ, _, τ, s3, t3, w⟩
/-- o.append(e) -/
theorem x_wapp (j : Nat) (hg : δ[g]? = some (.wd false W)) (hj : W[j]? = some (p, .lst ds)) (ho : PE X o (tD F δ (ptrD p))) (he : PE X e (tD F δ d)) (hz : ds.length < 100000) (hbase : attributeBase o "append" X.env (eval o X.env) = eval o X.env := by rfl)
    (hfew : ((backTo cpos (starEach [e] X.env)).all (fun x => !x.1) && (backToKw cpos (keywordEach [] X.env)).all (fun x => x.1.isSome) && decide (([e] : List Expr).length + ([] : List Keyword).length + (if ([] : List Keyword).isEmpty then 0 else 1) < 30)) = true := by rfl)
    (hline : (apos.endLine == cpos.line) = true := by rfl) (hs : starEach [e] X.env = (false, eval e X.env) :: starEach [] X.env := by rfl) : PE X (.Call (.Attribute o "append" apos) [e] [] cpos) (tW F δ g fun d' W' => d' = .none ∧ W' = W.set j (p, .lst (ds ++ [d]))) :=
  wkE (pe_bm PySem.F.plainAttrs_list PySem.F.slot_list_append PySem.F.type_list_append mt_append ho (pa_cons he pa_nil hs) hbase hfew hline hs (by rfl)) fun σ H Q k => by
    obtain ⟨O, st, w⟩ := k
    refine ⟨O, st, fun v H1 e1 t1 g1 => ?_⟩
    rw [dt_ptr_eq g1]
    have s1 := st.grow e1 t1
    obtain ⟨vs, hH, fa⟩ := (s1.w hg).laid.2 _ (List.mem_of_getElem? hj)
    refine ⟨.inl ⟨rfl, _, SqL.of hH⟩, O, s1, fun y H2 e2 t2 g2 => ?_⟩
    have s2 := s1.grow e2 t2
    have hw := s2.w hg
    obtain ⟨vs, hH, fa⟩ := hw.laid.2 _ (List.mem_of_getElem? hj)
    refine ⟨p, vs, y, rfl, rfl, hH, by rw [fa.len]; exact Nat.lt_of_lt_of_le hz (by decide), ?_⟩
    have af : Aft F.T O H2 W (upd H2 p (.lst (vs ++ [y]))) (W.set j (p, .lst (ds ++ [d]))) := aft_turn hw hj (tabs_turn t2 hH) fun hO => ⟨_, upd_same, (fa.turn hO).app (.one (g2.turn hO))⟩
    exact w .none _ .non _ _ ⟨rfl, rfl⟩ (w_after s2 hg af) (Kp.up (e1.trans e2) (af.kp hw.sh)) rfl
/-- o.pop() -/
theorem x_wpop (j : Nat) (hg : δ[g]? = some (.wd false W)) (hj : W[j]? = some (p, .lst (ds ++ [d]))) (ho : PE X o (tD F δ (ptrD p))) (hbase : attributeBase o "pop" X.env (eval o X.env) = eval o X.env := by rfl) (hline : (apos.endLine == cpos.line) = true := by rfl) :
    PE X (.Call (.Attribute o "pop" apos) [] [] cpos) (tW F δ g fun d' W' => d' = d ∧ W' = W.set j (p, .lst ds)) :=
  wkE (pe_bm0 PySem.F.plainAttrs_list PySem.F.slot_list_pop PySem.F.type_list_pop mt_pop ho hbase hline) fun σ H Q k => by
    obtain ⟨O, st, w⟩ := k
    refine ⟨O, st, fun v H1 e1 t1 g1 => ?_⟩
    rw [dt_ptr_eq g1]
    have s1 := st.grow e1 t1
    have hw := s1.w hg
    obtain ⟨vs, hH, fa⟩ := hw.laid.2 _ (List.mem_of_getElem? hj)
    have hl := fa.len
    rw [List.length_append, List.length_cons, List.length_nil] at hl
    obtain ⟨y, hy, dy⟩ := fa.get (i := ds.length) (d := d) (by simp)
    refine ⟨.inl ⟨rfl, _, SqL.of hH⟩, p, vs, y, rfl, rfl, hH, by rw [hl]; exact hy, ?_⟩
    have hdl : DtAll O H1 ds vs.dropLast := by
      have := fa.take ds.length
      rw [List.take_left] at this
      rwa [List.dropLast_eq_take, hl]
    have af : Aft F.T O H1 W (upd H1 p (.lst vs.dropLast)) (W.set j (p, .lst ds)) := aft_turn hw hj (tabs_turn t1 hH) fun hO => ⟨_, upd_same, hdl.turn hO⟩
    exact w d _ y _ _ ⟨rfl, rfl⟩ (w_after s1 hg af) (Kp.up e1 (af.kp hw.sh)) (af.kp hw.sh _ _ dy)
/-- a list of the world, for what looks at its data -/
theorem wl_dp {O : Addr → Prop} {H : Hp} {σ : L2.St} {K : PySem.W.Frag} {n : Nat} (st : StAt F O H σ δ) (hg : δ[g]? = some (.wd ro W)) (hp : (p, .lst ds) ∈ W) (hL : Lay n (.list ds)) : Dp K H (.ref p) (.list ds) := by
  obtain ⟨vs, hH, fa⟩ := (st.w hg).laid.2 _ hp
  exact .lst (SqL.of hH) (DtAll.dp ds vs (noPs_lay ds hL.1) fa)
theorem c_weq {n m : Nat} (hu : X.A.units + 64 < cLine) (hg : δ[g]? = some (.wd ro W)) (hp : (p, .lst ds) ∈ W) (hL : Lay n (.list ds)) (hM : Lay m d) (ha : PE X a (tD F δ (ptrD p))) (hb : PE X b (tD F δ d)) (hn : n ≤ 64 := by decide) (hm : m ≤ 64 := by decide) (hk : behindInMarks .Eq b = false := by first | exact nomark _ | rfl) : PT X (.Compare a [.Eq] [b] pos) (cD F δ (PyData.eqv (.list ds) d)) :=
  wkT (pt_cmpR (op_eqD hu) ha hb hk) fun σ H Q h => by
    obtain ⟨O, st, w⟩ := h
    refine ⟨O, st, fun v H1 e1 t1 g1 => ⟨O, st.grow e1 t1, fun y H2 e2 t2 g2 => ?_⟩⟩
    rw [dt_ptr_eq g1]
    exact ⟨.list ds, d, wl_dp ((st.grow e1 t1).grow e2 t2) hg hp hL, Dt.dp d y (noP_lay _ hM.1) g2, hL.ok hn, hM.ok hm, _, rfl, w H2 (e1.trans e2) t2⟩
end
end Lf
namespace Lf
open PySem PySem.Spec PyProof.Rows L2 L2H HotX LamX
section
variable {Kf : PySem.W.Frag} {Tf : List (Addr × Str)} {F : Fx Kf Tf} {δ : List Slot} {X : Cx} {N ns : List Str} {sc : Scope} {pos apos : Pos} {o : Expr} {fs : List PyData} {m : Str} {k : Nat} {ps : List Str} {C A : Addr} {g : Nat} {Ω : PyData → Wd → Prop}
/-- o.m() that raises, o made just now -/
theorem x_merW0 {pl : Sem Bool} {R : List PyData → Wd → Res → Prop} (tk : L2N.Takes X (fun cls d _ H => F.E cls d H)) (cl : Cls X.K C) (h : Md X.prog X.w X.K X.mg X.base C m k ps (spR Tf R)) (hr : Room k X.A) (hgl : g < δ.length) (ho : PE X o (tW F δ g Ω)) (hR : ∀ d W', Ω d W' → ∃ q ns fs, d = ptrD q ∧ (q, .ins C ns fs) ∈ W' ∧ ns.contains m = false ∧ R [ptrD q] W' (.error A))
    (ht : eval (.Call (.Attribute o m apos) [] [] pos) X.env = (do
      let ov ← eval o X.env
      standAt apos.atName
      let (f, first) ← holding [ov] (getMethod ov m pl)
      callWith pos f first (backTo pos (starEach [] X.env)) (backToKw pos (keywordEach [] X.env))) := by rfl) : PE X (.Call (.Attribute o m apos) [] [] pos) (tR F δ g fun r W' => r = .error A ∧ ∃ d, Ω d W') := by
  obtain ⟨f, fd, Fk, mt, bi⟩ := h.ex
  refine wkE (pe_meth0 ho cl mt Fk hr bi .nil (E := F.E) (L2N.passes_call tk fun _ _ _ _ z => z) ht) fun σ H Q h => ?_
  obtain ⟨O, st, _, w⟩ := h
  refine ⟨O, st, fun d W' v O' H1 hΩ s1 kp g1 => ?_⟩
  obtain ⟨q, ns, fs, rfl, hq, hm, hRR⟩ := hR d W' hΩ
  have ev := dt_ptr_eq g1
  subst ev
  have hg : (δ.set g (.wd false W'))[g]? = some (.wd false W') := List.getElem?_set_self hgl
  obtain ⟨dx, vs, hH, en, fa⟩ := (s1.w hg).laid.2 _ hq
  exact ⟨q, dx, vs, rfl, hH, lk_none (O := O) (H := H) en hm, rd_runX (ds := [ptrD q]) s1 hg ⟨_, _, rfl, dt_ptr, rfl⟩ hRR fun H' e3 t3 => w A W' O' H' ⟨rfl, _, hΩ⟩ (s1.grow e3 t3) (kp.grow e3)⟩
end
end Lf
set_option Elab.async false
set_option linter.all false
set_option maxRecDepth 100000
set_option maxHeartbeats 4000000
/-! dicts and lists of the world, looked at and changed -/
namespace Lf
open PySem PySem.Spec PyProof.Rows L2 L2H HotX LamX
def delD {α : Type} (kvs : List (Key × α)) (k : Key) : List (Key × α) := kvs.filter fun q => decide (q.1 ≠ k)
theorem kv_del {O : Addr → Prop} {H : Hp} {k : Key} : ∀ {kvs : List (Key × PyData)} {vs : List (Key × V)}, KvAll O H kvs vs → KvAll O H (delD kvs k) (L2.dropK vs k)
  | [], [], _ => kv_nil
  | [], _ :: _, h => by cases h.1
  | _ :: _, [], h => by cases h.1
  | p :: kvs, q :: vs, h => by
    obtain ⟨h1, h2, h3⟩ := kv_cons.mp h
    have ih := kv_del (k := k) h3
    unfold delD L2.dropK at ih ⊢
    rw [List.filter_cons, List.filter_cons, h1]
    by_cases e : p.1 = k
    · simp only [e]
      simp
      simpa using ih
    · simp [e]
      exact kv_cons.mpr ⟨h1, h2, by simpa using ih⟩
section
variable {Kf : PySem.W.Frag} {Tf : List (Addr × Str)} {F : Fx Kf Tf} {δ : List Slot} {X : Cx} {N ns : List Str} {sc : Scope} {pos apos pos' cpos tpos p1 : Pos} {a b c e o value : Expr} {es : List Expr} {d d1 z : PyData} {ds fs : List PyData} {x f m : Str} {W : Wd} {ro : Bool} {p C : Addr} {rest body els : List Stmt} {P : Post} {g j : Nat} {Ω : PyData → Wd → Prop} {kvs : List (Key × PyData)} {k : Key}
theorem wd_at {O : Addr → Prop} {H : Hp} {σ : L2.St} (st : StAt F O H σ δ) (hg : δ[g]? = some (.wd ro W)) (hp : (p, .dic kvs) ∈ W) : ∃ vs, H p = some (.dK vs) ∧ KvAll O H kvs vs := (st.w hg).laid.2 _ hp
theorem wl_at {O : Addr → Prop} {H : Hp} {σ : L2.St} (st : StAt F O H σ δ) (hg : δ[g]? = some (.wd ro W)) (hp : (p, .lst ds) ∈ W) : ∃ vs, H p = some (.lst vs) ∧ DtAll O H ds vs := (st.w hg).laid.2 _ hp
/-- o[k], a dict -/
theorem x_wget (g : Nat) (hu : X.A.units + 1 < cLine) (hg : δ[g]? = some (.wd ro W)) (hp : (p, .dic kvs) ∈ W) (ho : PE X o (tD F δ (ptrD p))) (hk : PE X b (tD F δ d1)) (hkk : d1 = keyD k) (hv : getK kvs k = some d) (hs : NoSl b := by exact fun _ _ => rfl) : PE X (.Subscript o b pos) (tD F δ d) :=
  wkE (pe_dget hu ho hk hs) fun σ H Q h => by
    obtain ⟨O, st, w⟩ := h
    refine ⟨O, st, fun x H0 e0 t0 g0 => ⟨O, st.grow e0 t0, fun y H1 e' t' g' => ?_⟩⟩
    rw [dt_ptr_eq g0]
    obtain ⟨vs2, gq2, r2⟩ := wd_at ((st.grow e0 t0).grow e' t') hg hp
    obtain ⟨z, z1, z2⟩ := (kv_get r2).1 d hv
    subst hkk
    rw [kV_of g']
    refine ⟨p, z, rfl, ?_, w z H1 (e0.trans e') t' z2⟩
    have := DGet.k (k := k) gq2
    rw [z1] at this
    exact this
/-- k in o -/
theorem c_wdin (g : Nat) (hu : X.A.units + 1 < cLine) (hg : δ[g]? = some (.wd ro W)) (hp : (p, .dic kvs) ∈ W) (hk : PE X b (tD F δ d1)) (hkk : d1 = keyD k) (ho : PE X o (tD F δ (ptrD p))) (hm : behindInMarks .In o = false := by first | exact nomark _ | rfl) : PT X (.Compare b [.In] [o] pos) (cD F δ (getK kvs k).isSome) :=
  wkT (pt_cmp (pc_din hu hk ho) hm) fun σ H Q h => by
    obtain ⟨O, st, w⟩ := h
    refine ⟨O, st, fun y H1 e' t' g' => ⟨O, st.grow e' t', fun x H2 e2 t2 g2 => ?_⟩⟩
    rw [dt_ptr_eq g2]
    obtain ⟨vs, gq, r⟩ := wd_at ((st.grow e' t').grow e2 t2) hg hp
    subst hkk
    rw [kV_of g']
    obtain ⟨ov, g1, g2⟩ := dget_of (k := k) gq r
    exact ⟨p, ov, rfl, g1, _, rfl, by rw [g2]; exact w H2 (e'.trans e2) t2⟩
theorem c_wdnin (g : Nat) (hu : X.A.units + 1 < cLine) (hg : δ[g]? = some (.wd ro W)) (hp : (p, .dic kvs) ∈ W) (hk : PE X b (tD F δ d1)) (hkk : d1 = keyD k) (ho : PE X o (tD F δ (ptrD p))) (hm : behindInMarks .NotIn o = false := by first | exact nomark _ | rfl) : PT X (.Compare b [.NotIn] [o] pos) (cD F δ (!(getK kvs k).isSome)) :=
  wkT (pt_cmp (pc_dnotin hu hk ho) hm) fun σ H Q h => by
    obtain ⟨O, st, w⟩ := h
    refine ⟨O, st, fun y H1 e' t' g' => ⟨O, st.grow e' t', fun x H2 e2 t2 g2 => ?_⟩⟩
    rw [dt_ptr_eq g2]
    obtain ⟨vs, gq, r⟩ := wd_at ((st.grow e' t').grow e2 t2) hg hp
    subst hkk
    rw [kV_of g']
    obtain ⟨ov, g1, g2⟩ := dget_of (k := k) gq r
    exact ⟨p, ov, rfl, g1, _, rfl, by rw [← g2] at w; cases ov <;> exact w H2 (e'.trans e2) t2⟩
/-- o.get(k, x) -/
theorem x_wdget2 (g : Nat) (hu : X.A.units + 1 < cLine) (hg : δ[g]? = some (.wd ro W)) (hp : (p, .dic kvs) ∈ W) (ho : PE X o (tD F δ (ptrD p))) (hk : PE X b (tD F δ d1)) (hkk : d1 = keyD k) (hc : PE X c (tD F δ d)) (m : M2 X o "get" apos b c pos) : PE X (.Call (.Attribute o "get" apos) [b, c] [] pos) (tD F δ ((getK kvs k).getD d)) :=
  wkE (pe_dget2 hu ho hk hc m) fun σ H Q h => by
    obtain ⟨O, st, w⟩ := h
    refine ⟨O, st, fun x H0 e0 t0 g0 => ?_⟩
    rw [dt_ptr_eq g0]
    have s0 := st.grow e0 t0
    obtain ⟨vs, gq, r⟩ := wd_at s0 hg hp
    refine ⟨p, rfl, .inl ⟨_, .inl gq⟩, O, s0, fun y H1 e' t' g' => ⟨O, s0.grow e' t', fun z H2 e2 t2 g2 => ?_⟩⟩
    obtain ⟨vs2, gq2, r2⟩ := wd_at ((s0.grow e' t').grow e2 t2) hg hp
    subst hkk
    rw [kV_of g']
    refine ⟨_, DGet.k gq2, ?_⟩
    cases e4 : getK kvs k with
    | none =>
      rw [(kv_get r2).2 e4]
      rw [e4] at w
      exact w z H2 ((e0.trans e').trans e2) t2 g2
    | some d' =>
      obtain ⟨u, u1, u2⟩ := (kv_get r2).1 d' e4
      rw [u1]
      rw [e4] at w
      exact w u H2 ((e0.trans e').trans e2) t2 u2
/-- len(o) -/
theorem x_wlenD (g : Nat) (cx : Ctx X N sc) (hm : X.mg "len" = none) (hg : δ[g]? = some (.wd ro W)) (hp : (p, .dic kvs) ∈ W) (ho : PE X o (tD F δ (ptrD p))) (hgl : sc.names.lookup ("len" : Str) = some .globalImplicit := by rfl) (hs : starEach [o] X.env = (false, eval o X.env) :: starEach [] X.env := by rfl) : PE X (.Call (.Name "len" p1) [o] [] pos) (tD F δ (.int kvs.length)) :=
  wkE (pe_callB call_lenD (cx.gl hgl) hm PySem.boot_len (pa_cons ho pa_nil hs) (by decide) (by decide) hs (by rfl)) fun σ H Q h => by
    obtain ⟨O, st, w⟩ := h
    refine ⟨O, st, fun x H0 e0 t0 g0 => ?_⟩
    rw [dt_ptr_eq g0]
    obtain ⟨vs, gq, r⟩ := wd_at (st.grow e0 t0) hg hp
    exact ⟨p, vs, rfl, gq, w _ H0 e0 t0 (by rw [kv_len r]; rfl)⟩
theorem x_wlenL (g : Nat) (cx : Ctx X N sc) (hm : X.mg "len" = none) (hg : δ[g]? = some (.wd ro W)) (hp : (p, .lst ds) ∈ W) (ho : PE X o (tD F δ (ptrD p))) (hgl : sc.names.lookup ("len" : Str) = some .globalImplicit := by rfl) (hs : starEach [o] X.env = (false, eval o X.env) :: starEach [] X.env := by rfl) : PE X (.Call (.Name "len" p1) [o] [] pos) (tD F δ (.int ds.length)) :=
  wkE (pe_callB call_len (cx.gl hgl) hm PySem.boot_len (pa_cons ho pa_nil hs) (by decide) (by decide) hs (by rfl)) fun σ H Q h => by
    obtain ⟨O, st, w⟩ := h
    refine ⟨O, st, fun x H0 e0 t0 g0 => ?_⟩
    rw [dt_ptr_eq g0]
    obtain ⟨vs, gq, r⟩ := wl_at (st.grow e0 t0) hg hp
    exact ⟨_, ds.length, rfl, .inl ⟨vs, SqL.of gq, r.len.symm⟩, w _ H0 e0 t0 rfl⟩
/-- o[i], a list -/
theorem x_wix (g : Nat) {i : Int} (hg : δ[g]? = some (.wd ro W)) (hp : (p, .lst ds) ∈ W) (ho : PE X o (tD F δ (ptrD p))) (hb : PE X b (tD F δ (.int i))) (hd : atI ds i = some d) (hs : PlainIx b := by exact fun _ _ => rfl) : PE X (.Subscript o b pos) (tD F δ d) :=
  wkE (pe_ix ix_list ho hb hs) fun σ H Q h => by
    obtain ⟨O, st, w⟩ := h
    refine ⟨O, st, fun x H0 e0 t0 g0 => ⟨O, st.grow e0 t0, fun y H1 e1 t1 g1 => ?_⟩⟩
    rw [dt_ptr_eq g0]
    obtain ⟨vs, gq, r⟩ := wl_at ((st.grow e0 t0).grow e1 t1) hg hp
    obtain ⟨v, hv, dv⟩ := at_data r hd
    exact ⟨p, vs, i, v, rfl, g1, SqL.of gq, hv, w v H1 (e0.trans e1) t1 dv⟩
/-- sorted(o) -/
theorem x_wsortL (g : Nat) (cx : Ctx X N sc) (hm : X.mg "sorted" = none) (hu : X.A.units + 65 < cLine) (hg : δ[g]? = some (.wd ro W)) (hp : (p, .lst ds) ∈ W) (ho : PE X o (tD F δ (ptrD p))) (al : PySem.W.AllAlike ds) (so : PySem.W.Sortable ds) (dp : ∀ d ∈ ds, d.depth ≤ 30) (hgl : sc.names.lookup ("sorted" : Str) = some .globalImplicit := by rfl) (hs : starEach [o] X.env = (false, eval o X.env) :: starEach [] X.env := by rfl) :
    PE X (.Call (.Name "sorted" p1) [o] [] pos) (tD F δ (.list (sortD ds))) :=
  wkE (pe_callB (cr_sortD hu) (cx.gl hgl) hm (by decide +kernel) (pa_cons ho pa_nil hs) (by decide) (by decide) hs (by rfl)) fun σ H Q h => by
    obtain ⟨O, st, w⟩ := h
    refine ⟨O, st, fun x H0 e0 t0 g0 => ?_⟩
    rw [dt_ptr_eq g0]
    have s0 := st.grow e0 t0
    obtain ⟨vs, gq, r⟩ := wl_at s0 hg hp
    exact ⟨O, p, vs, ds, rfl, SqL.of gq, r, al, so, dp, fun ys q hy hq => w _ _ (e0.trans (ext_new hq)) (tabs_new t0 hq) ⟨q, ys, rfl, fresh_ok s0.dom hq, upd_same, hy.grow (ext_new hq)⟩⟩
theorem x_wsortD (g : Nat) (cx : Ctx X N sc) (hm : X.mg "sorted" = none) (hu : X.A.units + 65 < cLine) (hg : δ[g]? = some (.wd ro W)) (hp : (p, .dic kvs) ∈ W) (ho : PE X o (tD F δ (ptrD p))) (al : PySem.W.AllAlike (kvs.map fun q => keyD q.1)) (so : PySem.W.Sortable (kvs.map fun q => keyD q.1)) (hgl : sc.names.lookup ("sorted" : Str) = some .globalImplicit := by rfl) (hs : starEach [o] X.env = (false, eval o X.env) :: starEach [] X.env := by rfl) :
    PE X (.Call (.Name "sorted" p1) [o] [] pos) (tD F δ (.list (sortD (kvs.map fun q => keyD q.1)))) :=
  wkE (pe_callB (cr_sortK cx.calm hu) (cx.gl hgl) hm (by decide +kernel) (pa_cons ho pa_nil hs) (by decide) (by decide) hs (by rfl)) fun σ H Q h => by
    obtain ⟨O, st, k⟩ := h
    refine ⟨O, st, fun x H0 e0 t0 g0 => ?_⟩
    rw [dt_ptr_eq g0]
    have s0 := st.grow e0 t0
    obtain ⟨vs, gq, r⟩ := wd_at s0 hg hp
    have ek : (vs.map fun q => keyD q.1) = kvs.map fun q => keyD q.1 := by
      have := congrArg (List.map keyD) r.1
      rwa [List.map_map, List.map_map] at this
    refine ⟨p, vs, rfl, gq, by rw [ek]; exact al, by rw [ek]; exact so, fun ys q hy hq => ?_⟩
    refine k _ _ (e0.trans (ext_new hq)) (tabs_new t0 hq) ⟨q, ys, rfl, fresh_ok s0.dom hq, upd_same, ?_⟩
    rw [ek] at hy
    refine DtAll.of hy.len fun i d v a b => ?_
    have hdv := hy.at_ a b
    have hm : d ∈ kvs.map fun q => keyD q.1 := (List.mergeSort_perm _ _).mem_iff.mp (List.mem_of_getElem? a)
    obtain ⟨y, _, rfl⟩ := List.mem_map.mp hm
    exact hdv.flat (by cases y.1 <;> rfl)
/-- o[k] = v -/
theorem s_wput (g j : Nat) (cx : CtD X N sc F.E) (hu : X.A.units + 1 < cLine) (hg : δ[g]? = some (.wd false W)) (hj : W[j]? = some (p, .dic kvs)) (h : PE X e (tD F δ d)) (ho : PE X o (tD F δ (ptrD p))) (hn : PE X b (tD F δ d1)) (hkk : d1 = keyD k) (hz : kvs.length < 100000) (hr : PSs X rest (sD F (δ.set g (.wd false (W.set j (p, .dic (putD kvs k d))))) P))
    (hs : swapsWithSole [.Subscript o b tpos] e pos.line X.env = pure false := by rfl) (hw : swappedStores [.Subscript o b tpos] e (envS sc) = pure none := by rfl) (h1 : (assignEach [.Subscript o b tpos] X.env).map (·.2) = [assign (.Subscript o b tpos) X.env] := by rfl)
    (ha : ∀ v, assign (.Subscript o b tpos) X.env v = (do
      let ov ← holding [v] (eval o X.env)
      let iv ← holding [v, ov] (eval b X.env)
      standAt tpos
      holding [v, ov, iv] (setItem ov iv v)
      release [v, ov, iv] []) := by intro _; rfl) :
    PSs X (.Assign [.Subscript o b tpos] e pos :: rest) (sD F δ P) :=
  wkSs (pss_cons (ps_asg h (pg_sub ho hn (set_dict hu) ha) hs (sw_eq cx.toCtx hw) h1) hr) fun D σ H h' => by
    obtain ⟨O, τ, s0, tm, w⟩ := h'
    refine ⟨O, s0, fun v H1 ex1 t1 g1 => ⟨O, s0.grow ex1 t1, fun x H0 e0 t0 g0 => ⟨O, (s0.grow ex1 t1).grow e0 t0, fun y H2 ex2 t2 g2 => ?_⟩⟩⟩
    rw [dt_ptr_eq g0]
    have s2 := ((s0.grow ex1 t1).grow e0 t0).grow ex2 t2
    have hwa := s2.w hg
    obtain ⟨vs2, gq2, r2⟩ := wd_at s2 hg (List.mem_of_getElem? hj)
    subst hkk
    rw [kV_of g2]
    have ho' : O p := hwa.sh p (List.mem_map.mpr ⟨_, List.mem_of_getElem? hj, rfl⟩)
    obtain ⟨s3, t3⟩ := w_out s2 (((tm.grow ex1).grow e0).grow ex2) hg (aft_turn (o := .dK (putK vs2 k v)) (mo' := .dic (putD kvs k d)) hwa hj (tabs_turnK t2 gq2) fun hO => ⟨putK vs2 k v, upd_same, (kv_put r2 ((g1.grow e0).grow ex2)).imp fun _ _ z => z.turn ho'⟩)
    exact ⟨p, _, rfl, DPut.k gq2 (by rw [kv_len r2]; exact Nat.lt_of_lt_of_le hz (by decide)), _, τ, s3, t3, w⟩
/-- o.pop(k) -/
theorem x_wdpop1 (j : Nat) (hg : δ[g]? = some (.wd false W)) (hj : W[j]? = some (p, .dic kvs)) (ho : PE X o (tD F δ (ptrD p))) (hk : PE X b (tD F δ d1)) (hkk : d1 = keyD k) (hv : getK kvs k = some d) (m : M1 X o "pop" apos b cpos) : PE X (.Call (.Attribute o "pop" apos) [b] [] cpos) (tW F δ g fun d' W' => d' = d ∧ W' = W.set j (p, .dic (delD kvs k))) :=
  wkE (pe_dpop1 ho hk m) fun σ H Q h => by
    obtain ⟨O, st, w⟩ := h
    refine ⟨O, st, fun x H0 e0 t0 g0 => ?_⟩
    rw [dt_ptr_eq g0]
    have s0 := st.grow e0 t0
    obtain ⟨vs, gq, r⟩ := wd_at s0 hg (List.mem_of_getElem? hj)
    refine ⟨p, rfl, .inl ⟨_, .inl gq⟩, O, s0, fun y H1 e1 t1 g1 => ?_⟩
    have s1 := s0.grow e1 t1
    have hwa := s1.w hg
    obtain ⟨vs2, gq2, r2⟩ := wd_at s1 hg (List.mem_of_getElem? hj)
    obtain ⟨z, z1, z2⟩ := (kv_get r2).1 d hv
    subst hkk
    refine ⟨vs2, k, z, gq2, kV_of g1, z1, ?_⟩
    have ho' : O p := hwa.sh p (List.mem_map.mpr ⟨_, List.mem_of_getElem? hj, rfl⟩)
    have af : Aft F.T O H1 W (upd H1 p (.dK (L2.dropK vs2 k))) (W.set j (p, .dic (delD kvs k))) := aft_turn hwa hj (tabs_turnK t1 gq2) fun hO => ⟨_, upd_same, (kv_del r2).imp fun _ _ z => z.turn ho'⟩
    exact w d _ z _ _ ⟨rfl, rfl⟩ (w_after s1 hg af) (Kp.up (e0.trans e1) (af.kp hwa.sh)) (af.kp hwa.sh _ _ z2)
/-- o.pop(k, x) -/
theorem x_wdpop2 (j : Nat) (hg : δ[g]? = some (.wd false W)) (hj : W[j]? = some (p, .dic kvs)) (ho : PE X o (tD F δ (ptrD p))) (hk : PE X b (tD F δ d1)) (hkk : d1 = keyD k) (hc : PE X c (tD F δ d)) (m : M2 X o "pop" apos b c cpos) : PE X (.Call (.Attribute o "pop" apos) [b, c] [] cpos) (tW F δ g fun d' W' => (∃ v, getK kvs k = some v ∧ d' = v ∧ W' = W.set j (p, .dic (delD kvs k))) ∨ (getK kvs k = none ∧ d' = d ∧ W' = W)) :=
  wkE (pe_dpop2 ho hk hc m) fun σ H Q h => by
    obtain ⟨O, st, w⟩ := h
    refine ⟨O, st, fun x H0 e0 t0 g0 => ?_⟩
    rw [dt_ptr_eq g0]
    have s0 := st.grow e0 t0
    obtain ⟨vs, gq, r⟩ := wd_at s0 hg (List.mem_of_getElem? hj)
    refine ⟨p, rfl, .inl ⟨_, .inl gq⟩, O, s0, fun y H1 e1 t1 g1 => ⟨O, s0.grow e1 t1, fun u H2 e2 t2 g2 => ?_⟩⟩
    have s1 := (s0.grow e1 t1).grow e2 t2
    have hwa := s1.w hg
    obtain ⟨vs2, gq2, r2⟩ := wd_at s1 hg (List.mem_of_getElem? hj)
    subst hkk
    have ho' : O p := hwa.sh p (List.mem_map.mpr ⟨_, List.mem_of_getElem? hj, rfl⟩)
    have ex := (e0.trans e1).trans e2
    refine ⟨vs2, k, gq2, kV_of g1, fun v hv => ?_, fun hn => ?_⟩
    · cases e4 : getK kvs k with
      | none => rw [(kv_get r2).2 e4] at hv; cases hv
      | some d' =>
        obtain ⟨z, z1, z2⟩ := (kv_get r2).1 d' e4
        rw [z1] at hv
        have ev : v = z := (Option.some.inj hv).symm
        subst ev
        have af : Aft F.T O H2 W (upd H2 p (.dK (L2.dropK vs2 k))) (W.set j (p, .dic (delD kvs k))) := aft_turn hwa hj (tabs_turnK t2 gq2) fun hO => ⟨_, upd_same, (kv_del r2).imp fun _ _ z => z.turn ho'⟩
        exact w d' _ _ _ _ (.inl ⟨d', e4, rfl, rfl⟩) (w_after s1 hg af) (Kp.up ex (af.kp hwa.sh)) (af.kp hwa.sh _ _ z2)
    · cases e4 : getK kvs k with
      | none => exact w d W u O H2 (.inr ⟨e4, rfl, rfl⟩) (by rw [wd_self hg]; exact s1) (Kp.ext ex) g2
      | some d' =>
        obtain ⟨z, z1, _⟩ := (kv_get r2).1 d' e4
        rw [z1] at hn
        cases hn
/-- {} -/
theorem w_newD (hg : δ[g]? = some (.wd false W)) : PE X (.Dict [] [] pos) (tW F δ g fun d W' => ∃ q, q ∉ wAs W ∧ d = ptrD q ∧ W' = W ++ [(q, .dic [])]) := wkE pe_dnewK fun σ H Q h => by
  obtain ⟨O, st, w⟩ := h
  intro q hq
  have hw := st.w hg
  have af := aft_new (T := F.T) (o := .dK []) (mo := .dic []) hw st.tabs hq ⟨[], upd_same, kv_nil⟩
  exact w (ptrD q) _ (.ref q) _ _ ⟨q, new_out st hg hq, rfl, rfl⟩ (w_after st hg af) (af.kp hw.sh) dt_ptr
/-- [..], of things of the world, becomes one of the world -/
theorem w_lstN {Ω : List PyData → Wd → Prop} (hgl : g < δ.length) (h : PA X es (aW F δ g Ω)) (hz : ∀ ds W', Ω ds W' → ds.length ≤ 1000) : PE X (.List es pos) (tW F δ g fun d W' => ∃ ds W1 q, Ω ds W1 ∧ q ∉ wAs W1 ∧ d = ptrD q ∧ W' = W1 ++ [(q, .lst ds)]) :=
  wkE (pe_lst h) fun σ H Q k => by
    obtain ⟨O, st, w⟩ := k
    refine ⟨O, st, fun ds W1 vs O' H' hΩ s' kp g' => ⟨by rw [g'.len]; exact Nat.le_trans (hz ds W1 hΩ) (by decide), fun q hq => ?_⟩⟩
    have hg : (δ.set g (.wd false W1))[g]? = some (.wd false W1) := List.getElem?_set_self hgl
    have hw := s'.w hg
    have af := aft_new (T := F.T) (o := .lst vs) (mo := .lst ds) hw s'.tabs hq ⟨vs, upd_same, (g'.shut hq).grow (ext_new hq)⟩
    have s2 := w_after s' hg af
    rw [List.set_set] at s2
    exact w (ptrD q) _ (.ref q) _ _ ⟨ds, W1, q, hΩ, new_out s' hg hq, rfl, rfl⟩ s2 (kp.trans (af.kp hw.sh)) dt_ptr
/-- o.append(e), e changes the world -/
theorem x_wappW {Ω : PyData → Wd → Prop} (j : Nat) (hgl : g < δ.length) (hg : δ[g]? = some (.wd false W)) (hp : (p, .lst ds) ∈ W) (ho : PE X o (tD F δ (ptrD p))) (he : PE X e (tW F δ g Ω)) (hj : ∀ d W', Ω d W' → W'[j]? = some (p, .lst ds)) (hz : ds.length < 100000) (hbase : attributeBase o "append" X.env (eval o X.env) = eval o X.env := by rfl)
    (hfew : ((backTo cpos (starEach [e] X.env)).all (fun x => !x.1) && (backToKw cpos (keywordEach [] X.env)).all (fun x => x.1.isSome) && decide (([e] : List Expr).length + ([] : List Keyword).length + (if ([] : List Keyword).isEmpty then 0 else 1) < 30)) = true := by rfl)
    (hline : (apos.endLine == cpos.line) = true := by rfl) (hs : starEach [e] X.env = (false, eval e X.env) :: starEach [] X.env := by rfl) : PE X (.Call (.Attribute o "append" apos) [e] [] cpos) (tW F δ g fun d' W' => d' = .none ∧ ∃ d W1, Ω d W1 ∧ W' = W1.set j (p, .lst (ds ++ [d]))) :=
  wkE (pe_bm PySem.F.plainAttrs_list PySem.F.slot_list_append PySem.F.type_list_append mt_append ho (pa_cons he pa_nil hs) hbase hfew hline hs (by rfl)) fun σ H Q k => by
    obtain ⟨O, st, w⟩ := k
    refine ⟨O, st, fun v H1 e1 t1 g1 => ?_⟩
    rw [dt_ptr_eq g1]
    have s1 := st.grow e1 t1
    obtain ⟨vs, hH, fa⟩ := wl_at s1 hg hp
    refine ⟨.inl ⟨rfl, _, SqL.of hH⟩, O, s1, fun d W1 y O2 H2 hΩ s2 kp g2 => ?_⟩
    have hg2 : (δ.set g (.wd false W1))[g]? = some (.wd false W1) := List.getElem?_set_self hgl
    have hw := s2.w hg2
    have hjj := hj d W1 hΩ
    obtain ⟨vs, hH, fa⟩ := wl_at s2 hg2 (List.mem_of_getElem? hjj)
    refine ⟨p, vs, y, rfl, rfl, hH, by rw [fa.len]; exact Nat.lt_of_lt_of_le hz (by decide), ?_⟩
    have af : Aft F.T O2 H2 W1 (upd H2 p (.lst (vs ++ [y]))) (W1.set j (p, .lst (ds ++ [d]))) := aft_turn hw hjj (tabs_turn s2.tabs hH) fun hO => ⟨_, upd_same, (fa.turn hO).app (.one (g2.turn hO))⟩
    have s3 := w_after s2 hg2 af
    rw [List.set_set] at s3
    exact w .none _ .non _ _ ⟨rfl, d, W1, hΩ, rfl⟩ s3 ((kp.up e1).trans (af.kp hw.sh)) rfl
/-- o.clear() -/
theorem x_wclear (j : Nat) (hg : δ[g]? = some (.wd false W)) (hj : W[j]? = some (p, .lst ds)) (ho : PE X o (tD F δ (ptrD p))) (hbase : attributeBase o "clear" X.env (eval o X.env) = eval o X.env := by rfl) (hline : (apos.endLine == cpos.line) = true := by rfl) :
    PE X (.Call (.Attribute o "clear" apos) [] [] cpos) (tW F δ g fun d' W' => d' = .none ∧ W' = W.set j (p, .lst [])) :=
  wkE (pe_bm0 PySem.F.plainAttrs_list PySem.F.slot_list_clear PySem.F.type_list_clear mt_clear ho hbase hline) fun σ H Q k => by
    obtain ⟨O, st, w⟩ := k
    refine ⟨O, st, fun v H1 e1 t1 g1 => ?_⟩
    rw [dt_ptr_eq g1]
    have s1 := st.grow e1 t1
    have hw := s1.w hg
    obtain ⟨vs, hH, fa⟩ := wl_at s1 hg (List.mem_of_getElem? hj)
    have af : Aft F.T O H1 W (upd H1 p (.lst [])) (W.set j (p, .lst [])) := aft_turn hw hj (tabs_turn t1 hH) fun hO => ⟨[], upd_same, rfl⟩
    exact ⟨.inl ⟨rfl, _, SqL.of hH⟩, p, vs, rfl, rfl, hH, w .none _ .non _ _ ⟨rfl, rfl⟩ (w_after s1 hg af) (Kp.up e1 (af.kp hw.sh)) rfl⟩
end
end Lf
set_option Elab.async false
set_option linter.all false
set_option maxRecDepth 100000
set_option maxHeartbeats 4000000
/-! lists of the world, walked -/
namespace Lf
open PySem PySem.Spec PyProof.Rows L2 L2H HotX LamX
/-- what is walked, while K is true -/
def iX {Kf : PySem.W.Frag} {Tf : List (Addr × Str)} (F : Fx Kf Tf) (δ : List Slot) (K : (Addr → Prop) → Hp → Prop) (ds : List PyData) : TI := fun σ H R => ∃ O, StAt F O H σ δ ∧ ∀ (J : It) (H' : Hp), ExtN H H' → Tabs F.T H' →
  (∀ (O1 : Addr → Prop) (H1 : Hp) (i : Nat) (d : PyData), K O1 H1 → (∀ a, O1 a → Lives H1 a) → Tabs F.T H1 → ds[i]? = some d → J.go i H1 ∧ ∀ x H2, J.yld i H1 x H2 → ExtN H1 H2 ∧ Tabs F.T H2 ∧ Dt O1 H2 d x) →
  (∀ (O1 : Addr → Prop) (H1 : Hp), K O1 H1 → J.stop ds.length H1) → R J H'
/-- a list of the world stands there -/
def LsAt (p : Addr) (ds : List PyData) (O : Addr → Prop) (H : Hp) : Prop := ∃ vs, H p = some (.lst vs) ∧ DtAll O H ds vs
section
variable {Kf : PySem.W.Frag} {Tf : List (Addr × Str)} {F : Fx Kf Tf} {δ : List Slot} {X : Cx} {N : List Str} {sc : Scope} {pos tpos p1 : Pos} {e l tg iter elt : Expr} {elts ifs : List Expr} {kk : Nat} {ds : List PyData} {W : Wd} {ro : Bool} {p : Addr} {g : Nat} {rest body : List Stmt} {P : Post} {α : Type} {K : (Addr → Prop) → Hp → Prop}
theorem ls_at {O : Addr → Prop} {H : Hp} {σ : L2.St} (st : StAt F O H σ δ) (hg : δ[g]? = some (.wd ro W)) (hp : (p, .lst ds) ∈ W) : LsAt p ds O H := wl_at st hg hp
theorem i_wl (g : Nat) (hg : δ[g]? = some (.wd ro W)) (hp : (p, .lst ds) ∈ W) (h : PE X l (tD F δ (ptrD p))) : PI X tg l (iX F δ (LsAt p ds) ds) := wkI (pi_list h) fun σ H R q => by
  obtain ⟨O, st, k⟩ := q
  refine ⟨O, st, fun v H1 e1 t1 g1 => ?_⟩
  obtain ⟨vs, gq, r⟩ := wl_at (st.grow e1 t1) hg hp
  refine ⟨p, dt_ptr_eq g1, ⟨vs, SqL.of gq⟩, k (Itl X.K p) H1 e1 t1 (fun O1 H2 i d g2 dom t2 hd => ?_) fun O1 H2 g2 => ?_⟩
  · obtain ⟨ys, gb, rb⟩ := g2
    obtain ⟨y, hy, dy⟩ := rb.get hd
    refine ⟨⟨ys, y, SqL.of gb, hy⟩, fun x H3 hyld => ?_⟩
    obtain ⟨rfl, hx⟩ := hyld
    have := hx ys (SqL.of gb)
    rw [hy] at this
    cases this
    exact ⟨ExtN.refl _, t2, dy⟩
  · obtain ⟨ys, gb, rb⟩ := g2
    exact ⟨ys, SqL.of gb, by rw [rb.len]; exact Nat.le_refl _⟩
theorem i_wenum (g : Nat) (cx : Ctx X N sc) (hm : X.mg "enumerate" = none) (hw : δ[g]? = some (.wd ro W)) (hp : (p, .lst ds) ∈ W) (h : PE X e (tD F δ (ptrD p))) (hg : sc.names.lookup ("enumerate" : Str) = some .globalImplicit := by rfl) (hs : starEach [e] X.env = [(false, eval e X.env)] := by rfl) :
    PI X (.Tuple elts kk tpos) (.Call (.Name "enumerate" p1) [e] [] pos) (iX F δ (LsAt p ds) ((enumL ds).map encL)) := wkI (pi_enum (cx.gl hg) hm (pa_cons h pa_nil hs) hs) fun σ H R q => by
  obtain ⟨O, st, k⟩ := q
  refine ⟨O, st, fun v H1 e1 t1 g1 => ?_⟩
  have ev := dt_ptr_eq g1
  subst ev
  obtain ⟨vs, gq, r⟩ := wl_at (st.grow e1 t1) hw hp
  refine ⟨p, vs, rfl, SqL.of gq, k (Ite X.K p) H1 e1 t1 (fun O1 H2 i d g2 dom t2 hd => ?_) fun O1 H2 g2 => ?_⟩
  · have hi : i < ds.length := by
      have := (List.getElem?_eq_some_iff.mp hd).1
      simpa [enumL] using this
    have hx : ds[i]? = some (ds.getD i .none) := by rw [List.getD_eq_getElem?_getD, List.getElem?_eq_getElem hi]; rfl
    have hd' : d = encL (i, ds.getD i .none) := by
      unfold enumL at hd
      rw [List.getElem?_map, List.getElem?_map, List.getElem?_range hi] at hd
      exact (Option.some.inj hd).symm
    obtain ⟨ys, gb, rb⟩ := g2
    obtain ⟨y, hy, dy⟩ := rb.get hx
    refine ⟨⟨ys, y, SqL.of gb, hy⟩, fun x H3 hyld => ?_⟩
    obtain ⟨T, x', rfl, hT, rfl, hx'⟩ := hyld
    have := hx' ys (SqL.of gb)
    rw [hy] at this
    cases this
    refine ⟨ext_new hT, tabs_new t2 hT, ?_⟩
    rw [hd']
    exact ⟨T, _, rfl, fresh_ok dom hT, upd_same, _, _, rfl, rfl, _, _, rfl, dy.grow (ext_new hT), rfl⟩
  · obtain ⟨ys, gb, rb⟩ := g2
    refine ⟨ys, SqL.of gb, ?_⟩
    rw [rb.len]
    simp [enumL]
/-- for: the body may change the world, as long as K is true -/
theorem s_forX {gt : TG} (xs : List α) (enc : α → PyData) (I : List α → List Slot → Prop) (cx : CtD X N sc F.E) (hi : PI X tg iter (iX F δ K (xs.map enc))) (hg : PG X tg gt) (hK : ∀ pre δ' O H σ, I pre δ' → StAt F O H σ δ' → K O H) (h0 : I [] δ)
    (hs : ∀ pre x post δ', xs = pre ++ x :: post → I pre δ' → ∃ δ'', Tgt F gt (enc x) δ' δ'' ∧ PSs X body (sD F δ'' { nx := I (pre ++ [x]), ct := I (pre ++ [x]), bk := fun δ => PSs X rest (sD F δ P), rt := P.rt, ex := P.ex, rts := P.rts, exs := P.exs }))
    (hd : ∀ δ', I xs δ' → PSs X rest (sD F δ' P)) (hf : ∀ x, foldedSetIterable iter X.env x = pure x := by intro _; rfl) : PSs X (.For tg iter body [] pos :: rest) (sD F δ P) :=
  s_seq (M := fun δ' => PSs X rest (sD F δ' P)) (wkS (ps_for cx.po cx.calm hi hg (anyS (F := F)) hf) fun D σ H h' => by
    obtain ⟨O, τ, s0, tm, w⟩ := h'
    refine ⟨O, s0, fun J H1 e1 t1 item done => ?_⟩
    refine ⟨fun i m σ' H' => m = xs.length - i ∧ i ≤ xs.length ∧ ∃ δ' O', I (xs.take i) δ' ∧ StAt F O' H' σ' δ' ∧ Tm O' H' τ, ⟨xs.length, by omega, Nat.zero_le _, δ, O, h0, s0.grow e1 t1, tm.grow e1⟩, fun i m σ' H' hW => ?_⟩
    obtain ⟨rfl, hle, δ', O', hI, s1, tmr⟩ := hW
    have gs : K O' H' := hK _ _ _ _ _ hI s1
    by_cases hlt : i < xs.length
    · have hx : xs[i]? = some xs[i] := List.getElem?_eq_getElem hlt
      have hdd : (xs.map enc)[i]? = some (enc xs[i]) := by rw [List.getElem?_map, hx]; rfl
      obtain ⟨go, yl⟩ := item O' H' i (enc xs[i]) gs s1.dom s1.tabs hdd
      have sp : xs = xs.take i ++ xs[i] :: xs.drop (i + 1) := by
        rw [List.getElem_cons_drop]
        exact (List.take_append_drop i xs).symm
      have tk1 : xs.take i ++ [xs[i]] = xs.take (i + 1) := (List.take_succ_eq_append_getElem hlt).symm
      obtain ⟨δ'', ht, hb⟩ := hs _ _ _ δ' sp hI
      refine .inr ⟨go, fun σ2 H2 => ∃ δ' O', I (xs.take (i + 1)) δ' ∧ StAt F O' H2 σ2 δ' ∧ Tm O' H2 τ, fun σ2 H2 hN => ⟨xs.length - (i + 1), by omega, rfl, hlt, hN⟩, fun y H2 hy => ?_⟩
      obtain ⟨e2, t2, gy⟩ := yl y H2 hy
      refine ht O' H2 σ' y _ (s1.grow e2 t2) gy fun σ3 s3 => ⟨δ'', _, hb, O', τ, s3, tmr.grow e2, ⟨fun δ3 O3 σ4 H4 m s4 t4 => ⟨δ3, O3, by rw [← tk1]; exact m, s4, t4⟩, w.rt, fun δ3 O3 σ4 H4 m s4 t4 => w.nx δ3 O3 σ4 H4 m s4 t4, fun δ3 O3 σ4 H4 m s4 t4 => ⟨δ3, O3, by rw [← tk1]; exact m, s4, t4⟩, w.ex, w.rts, w.exs⟩⟩
    · have e : i = xs.length := by omega
      subst e
      rw [List.take_length] at hI
      have dn := done O' H' gs
      rw [List.length_map] at dn
      exact .inl ⟨dn, w.nx δ' O' σ' H' (hd δ' hI) s1 tmr⟩) fun δ' h => h
variable {O : Addr → Prop} {H : Hp} {σ : L2.St}
/-- [elt for ..], nothing is changed -/
theorem lcP_run {wi : TI} {gt : TG} {tt : TT} {te : TE} (xs : List α) (enc f : α → PyData) (q : α → Bool) (vs : List Nat) (tgt : α → List Slot) (hz : xs.length ≤ 100000) (hK : ∀ O H σ, StAt F O H σ δ → K O H) (hw : ∀ x ∈ xs, Tgt F gt (enc x) (wipeD δ vs) (tgt x)) (hww : Wg gt vs)
    (hwi : wi = iX F δ K (xs.map enc)) (ht : ∀ x ∈ xs, ∀ σ H Q, cD F (tgt x) (q x) σ H Q → tt σ H Q) (he : ∀ x ∈ xs, q x = true → ∀ σ H Q, tD F (tgt x) (f x) σ H Q → te σ H Q) {Q : VK} (h : tDL F δ ((xs.filter q).map f) σ H Q) : tLc wi gt tt te vs σ H Q := by
  subst hwi
  obtain ⟨O, s0, k⟩ := h
  refine ⟨O, s0, fun J H1 e1 t1 item done L hL => ?_⟩
  have s1 := s0.grow e1 t1
  have lv : ∀ a, Lives H1 a → a ≠ L := fun a l => l.ne hL
  have hend : (δ ++ [Slot.non]).set δ.length (.own []) = δ ++ [.own []] := by simp
  have hend2 : (σ ++ [none]).set δ.length (some (V.ref L)) = σ ++ [some (.ref L)] := by rw [← s0.len]; simp
  obtain ⟨o1, o2⟩ := own_out (τ := []) (ds := []) (xs := []) s1.snoc (fun _ z => by cases z) δ.length (ext_new (o := .lst []) hL) (tabs_new t1 hL) lv upd_same rfl
  rw [hend, hend2] at o1
  refine ⟨fun i m H' => m = xs.length - i ∧ i ≤ xs.length ∧ ExtN H1 H' ∧ StAt F (Shut O L) H' (σ ++ [some (.ref L)]) (δ ++ [.own (((xs.take i).filter q).map f)]), ⟨xs.length, by omega, Nat.zero_le _, ext_new hL, o1⟩, fun i m H' hW => ?_⟩
  obtain ⟨rfl, hle, ex, s2⟩ := hW
  have gs : K (Shut O L) H' := hK _ _ _ s2.init
  have hlast : (δ ++ [Slot.own (((xs.take i).filter q).map f)])[δ.length]? = some (.own (((xs.take i).filter q).map f)) := by simp
  have hlv : (σ ++ [some (V.ref L)])[δ.length]? = some (some (.ref L)) := by rw [← s0.len]; simp
  by_cases hlt : i < xs.length
  · have hx : xs[i]? = some xs[i] := List.getElem?_eq_getElem hlt
    have hm : xs[i] ∈ xs := List.getElem_mem hlt
    obtain ⟨go, yl⟩ := item (Shut O L) H' i (enc xs[i]) gs s2.dom s2.tabs (by rw [List.getElem?_map, hx]; rfl)
    have tk1 : xs.take (i + 1) = xs.take i ++ [xs[i]] := List.take_succ_eq_append_getElem hlt
    refine .inr ⟨go, fun H2 => ExtN H1 H2 ∧ StAt F (Shut O L) H2 (σ ++ [some (.ref L)]) (δ ++ [.own (((xs.take (i + 1)).filter q).map f)]), fun H2 hN => ⟨xs.length - (i + 1), by omega, rfl, hlt, hN⟩, fun y H2 hy => ?_⟩
    obtain ⟨e2, t2, gy⟩ := yl y H2 hy
    have s3 := s2.grow e2 t2
    refine hww _ _ _ _ (wipe_wipe vs) (hw _ hm (Shut O L) H2 (wipe σ vs) y _ (s3.init.wiped vs) gy fun σ3 s4 => ?_)
    refine ht _ hm σ3 H2 _ ⟨Shut O L, s4, fun H3 e3 t3 => ?_⟩
    have s5 := s3.grow e3 t3
    cases hq : q xs[i] with
    | false =>
      refine iteF ⟨(ex.trans e2).trans e3, ?_⟩
      rw [tk1, List.filter_append, List.filter_cons, if_neg (by rw [hq]; decide), List.filter_nil, List.append_nil]
      exact s5
    | true =>
      refine iteT (he _ hm hq σ3 H3 _ ⟨Shut O L, s4.grow e3 t3, fun yv H4 e4 t4 g4 => ?_⟩)
      have s6 := s5.grow e4 t4
      obtain ⟨L', acc, eL, oL, nL, gL, rL⟩ := s6.slot δ.length _ hlast
      rw [hlv] at eL
      cases eL
      refine ⟨acc, gL, ?_, fun b o gb tb => ?_, ?_⟩
      · rw [rL.len, List.length_map]
        have h1 := List.length_filter_le q (xs.take i)
        have h2 : (xs.take i).length ≤ xs.length := by rw [List.length_take]; omega
        exact Nat.lt_of_le_of_lt (Nat.le_trans h1 (Nat.le_trans h2 hz)) (by decide)
      · rw [upd_ne (lv b ⟨o, gb, tb⟩)]
        exact ((ex.trans e2).trans (e3.trans e4)) b o gb tb
      · obtain ⟨u1, _⟩ := own_turn (τ := []) s6 (fun _ z => by cases z) hlast hlv gL (rL.app (.one g4))
        rw [tk1, List.filter_append, List.filter_cons, if_pos hq, List.filter_nil, List.map_append]
        have e9 : (δ ++ [Slot.own (((xs.take i).filter q).map f)]).set δ.length (.own (((xs.take i).filter q).map f ++ [f xs[i]])) = δ ++ [.own (((xs.take i).filter q).map f ++ [f xs[i]])] := by simp
        rw [e9] at u1
        exact u1
  · have e : i = xs.length := by omega
    subst e
    have dn := done (Shut O L) H' gs
    rw [List.length_map] at dn
    obtain ⟨L', acc, eL, oL, nL, gL, rL⟩ := s2.slot δ.length _ hlast
    rw [hlv] at eL
    cases eL
    rw [List.take_length] at rL
    exact .inl ⟨dn, k L acc H' (e1.trans ex) s2.tabs (fun a l => lv a (l.grow e1)) gL rL⟩
theorem x_lcP {scope : Scope} {gt : TG} (own : List (Str × Nat)) (xs : List α) (enc f : α → PyData) (q : α → Bool) (tgt : α → List Slot) (cx : Ctx X N sc) (hi : PI X tg iter (iX F δ K (xs.map enc))) (hK : ∀ O H σ, StAt F O H σ δ → K O H) (hz : xs.length ≤ 100000) (hok : blkC N sc scope own = true) (hg : Blk X scope fun Y => PG Y tg gt) (hw : ∀ x ∈ xs, Tgt F gt (enc x) (wipeD δ (own.map (·.2))) (tgt x)) (hww : Wg gt (own.map (·.2)))
    (ht : ∀ x ∈ xs, Blk X scope fun Y => PTs Y ifs (cD F (tgt x) (q x))) (he : ∀ x ∈ xs, q x = true → Blk X scope fun Y => PE Y elt (tD F (tgt x) (f x))) (hs : ∀ x, foldedSetIterable iter X.env x = pure x := by intro _; rfl) :
    PE X (.ListComp elt [⟨tg, iter, ifs, 0⟩] scope pos) (tDL F δ ((xs.filter q).map f)) :=
  wkE (pe_lc (own := own) (tt := fun σ H Q => ∃ x, x ∈ xs ∧ cD F (tgt x) (q x) σ H Q) (te := fun σ H Q => ∃ x, (x ∈ xs ∧ q x = true) ∧ tD F (tgt x) (f x) σ H Q) cx.calm cx.nd' hi (blk_ok cx hok) hg
    (fun s H C cl fp => ⟨fun pins s' σ H Q I q => let ⟨x, hx, g⟩ := q; (ht x hx s _ C cl fp).run pins s' σ H Q I g⟩) (fun s H C cl fp => exE fun x => ifE fun hx => he x hx.1 hx.2 s H C cl fp) hs)
    fun σ H Q h => lcP_run xs enc f q _ tgt hz hK hw hww rfl (fun x hx σ H Q g => ⟨x, hx, g⟩) (fun x hx hq σ H Q g => ⟨x, ⟨hx, hq⟩, g⟩) h
end
end Lf
set_option Elab.async false
set_option linter.all false
set_option maxRecDepth 100000
set_option maxHeartbeats 4000000
/-! comprehensions that change the world -/
namespace Lf
open PySem PySem.Spec PyProof.Rows L2 L2H HotX LamX
/-- what is walked, over data and while K is true -/
def iY {Kf : PySem.W.Frag} {Tf : List (Addr × Str)} (F : Fx Kf Tf) (δ : List Slot) (K : (Addr → Prop) → Hp → Prop) (ds : List PyData) : TI := fun σ H R => ∃ O, StAt F O H σ δ ∧ ∀ (J : It) (ss : List (PyData × V)) (H' : Hp), ExtN H H' → Tabs F.T H' → Tm O H' ss →
  (∀ (O1 : Addr → Prop) (H1 : Hp) (i : Nat) (d : PyData), Tm O1 H1 ss → K O1 H1 → (∀ a, O1 a → Lives H1 a) → Tabs F.T H1 → ds[i]? = some d → J.go i H1 ∧ ∀ x H2, J.yld i H1 x H2 → ExtN H1 H2 ∧ Tabs F.T H2 ∧ Dt O1 H2 d x) →
  (∀ (O1 : Addr → Prop) (H1 : Hp), Tm O1 H1 ss → K O1 H1 → J.stop ds.length H1) → R J H'
section
variable {Kf : PySem.W.Frag} {Tf : List (Addr × Str)} {F : Fx Kf Tf} {δ : List Slot} {X : Cx} {N : List Str} {sc : Scope} {pos tpos p1 : Pos} {e l tg iter elt : Expr} {elts ifs : List Expr} {kk : Nat} {ds : List PyData} {W : Wd} {ro : Bool} {p : Addr} {g : Nat} {rest body : List Stmt} {P : Post} {α : Type} {K : (Addr → Prop) → Hp → Prop} {O : Addr → Prop} {H : Hp} {σ : L2.St}
theorem iy_d (h : PI X tg iter (iD F δ ds)) : PI X tg iter (iY F δ (fun _ _ => True) ds) := wkI h fun σ H R q => by
  obtain ⟨O, st, k⟩ := q
  exact ⟨O, st, fun J ss H' e t tm item done => k J ss H' e t tm (fun O1 H1 i d a _ => item O1 H1 i d a) fun O1 H1 a _ => done O1 H1 a⟩
theorem iy_x (h : PI X tg iter (iX F δ K ds)) : PI X tg iter (iY F δ K ds) := wkI h fun σ H R q => by
  obtain ⟨O, st, k⟩ := q
  exact ⟨O, st, fun J H' e t item done => k J [] H' e t (fun _ z => by cases z) (fun O1 H1 i d _ => item O1 H1 i d) fun O1 H1 _ => done O1 H1⟩
theorem StAt.unwipe {v : Nat} (hv : δ[v]? = some .non) (st : StAt F O H (σ.set v none) δ) : StAt F O H σ δ := by
  have sm : ∀ j, j ≠ v → (σ.set v none)[j]? = σ[j]? := fun j hj => List.getElem?_set_ne (fun z => hj z.symm)
  have nv : ∀ {j : Nat} {u : Slot}, δ[j]? = some u → u ≠ .non → j ≠ v := fun {j u} q n z => by
    subst z
    rw [hv] at q
    exact n (Option.some.inj q).symm
  refine ⟨by rw [← st.len, List.length_set], st.o0, st.dom, st.tabs, st.ext, fun j u q => ?_, fun i j s u q hij h1 h2 m1 m2 e1 e2 => ?_, fun i j R u hij h1 h2 q hq hp => ?_⟩
  · by_cases hj : j = v
    · subst hj
      rw [hv] at q
      cases q
      trivial
    · have := st.slot j u q
      rwa [sm j hj] at this
  · have n1 := nv h1 (fun z => by subst z; cases m1)
    have n2 := nv h2 (fun z => by subst z; cases m2)
    exact st.apart i j s u q hij h1 h2 m1 m2 (by rw [sm i n1]; exact e1) (by rw [sm j n2]; exact e2)
  · by_cases hu : u = .non
    · subst hu
      exact hp
    · exact st.afar i j R u hij h1 h2 q hq (by rw [sm j (nv h2 hu)]; exact hp)
theorem lcW_run {tt : TT} {te : TE} (xs : List α) (enc : α → PyData) (q : α → Bool) (J : List α → Addr → List PyData → Wd → Prop) (v : Nat) (hz : xs.length ≤ 100000) (hg : δ[g]? = some (.wd false W)) (hv : δ[v]? = some .non)
    (h0 : ∀ L, L ∉ wAs W → J [] L [] (W ++ [(L, .lst [])])) (hJ : ∀ pre L acc W1, J pre L acc W1 → W1[W.length]? = some (L, .lst acc) ∧ acc.length ≤ pre.length)
    (hK : ∀ pre L acc W1 O H σ, J pre L acc W1 → StAt F O H σ (δ.set g (.wd false W1)) → K O H)
    (hq : ∀ pre x post L acc W1, xs = pre ++ x :: post → J pre L acc W1 → q x = false → J (pre ++ [x]) L acc W1)
    (ht : ∀ pre x post L acc W1, xs = pre ++ x :: post → J pre L acc W1 → ∀ σ H Q, cD F ((δ.set g (.wd false W1)).set v (.dat (enc x))) (q x) σ H Q → tt σ H Q)
    (he : ∀ pre x post L acc W1, xs = pre ++ x :: post → J pre L acc W1 → q x = true → ∀ σ H Q, tW F ((δ.set g (.wd false W1)).set v (.dat (enc x))) g (fun d W2 => W2[W.length]? = some (L, .lst acc) ∧ J (pre ++ [x]) L (acc ++ [d]) (W2.set W.length (L, .lst (acc ++ [d])))) σ H Q → te σ H Q)
    {Q : VK} (h : tW F δ g (fun d W' => ∃ L acc, d = ptrD L ∧ J xs L acc W') σ H Q) : tLc (iY F δ K (xs.map enc)) (gName v) tt te [v] σ H Q := by
  obtain ⟨O, s0, k⟩ := h
  have hgl : g < δ.length := (List.getElem?_eq_some_iff.mp hg).1
  have hvl : v < δ.length := (List.getElem?_eq_some_iff.mp hv).1
  have hgv : g ≠ v := fun z => by subst z; rw [hg] at hv; cases hv
  refine ⟨O, s0, fun I ss H1 e1 t1 tm item done L hL => ?_⟩
  have s1 := s0.grow e1 t1
  have hw1 := s1.w hg
  have af := aft_new (T := F.T) (o := .lst []) (mo := .lst []) hw1 s1.tabs hL ⟨[], upd_same, rfl⟩
  have s2 := w_after s1 hg af
  have kp2 := af.kp hw1.sh
  refine ⟨fun i m H' => m = xs.length - i ∧ i ≤ xs.length ∧ ∃ O' acc W1, J (xs.take i) L acc W1 ∧ StAt F O' H' σ (δ.set g (.wd false W1)) ∧ Kp O H O' H' ∧ Tm O' H' ss, ⟨xs.length, by omega, Nat.zero_le _, _, [], _, h0 L (new_out s1 hg hL), s2, Kp.up e1 kp2, fun z hz => kp2 _ _ (tm z hz)⟩, fun i m H' hW => ?_⟩
  obtain ⟨rfl, hle, O', acc, W1, hj, s3, kp, tm3⟩ := hW
  have gs := hK _ _ _ _ _ _ _ hj s3
  by_cases hlt : i < xs.length
  · have hx : xs[i]? = some xs[i] := List.getElem?_eq_getElem hlt
    obtain ⟨go, yl⟩ := item O' H' i (enc xs[i]) tm3 gs s3.dom s3.tabs (by rw [List.getElem?_map, hx]; rfl)
    have tk1 : xs.take (i + 1) = xs.take i ++ [xs[i]] := List.take_succ_eq_append_getElem hlt
    have sp : xs = xs.take i ++ xs[i] :: xs.drop (i + 1) := by
      rw [List.getElem_cons_drop]
      exact (List.take_append_drop i xs).symm
    refine .inr ⟨go, fun H2 => ∃ O' acc W1, J (xs.take (i + 1)) L acc W1 ∧ StAt F O' H2 σ (δ.set g (.wd false W1)) ∧ Kp O H O' H2 ∧ Tm O' H2 ss, fun H2 hN => ⟨xs.length - (i + 1), by omega, rfl, hlt, hN⟩, fun y H2 hy => ?_⟩
    obtain ⟨e2, t2, gy⟩ := yl y H2 hy
    have s4 := s3.grow e2 t2
    have hv' : (δ.set g (.wd false W1))[v]? = some .non := by rw [List.getElem?_set_ne hgv]; exact hv
    have s5 : StAt F O' H2 ((wipe σ [v]).set v (some y)) ((δ.set g (.wd false W1)).set v (.dat (enc xs[i]))) := by
      have := (s4.unset v).setD v gy
      rw [List.set_set (i := v) (l := δ.set g (.wd false W1))] at this
      exact this
    refine ⟨?_, ?_⟩
    · show ((σ.set v none).set v (some y)).set v none = σ.set v none
      rw [List.set_set, List.set_set]
    refine ht _ _ _ L acc W1 sp hj _ H2 _ ⟨O', s5, fun H3 e3 t3 => ?_⟩
    cases hqx : q xs[i] with
    | false =>
      refine iteF ⟨O', acc, W1, ?_, s4.grow e3 t3, kp.grow (e2.trans e3), (tm3.grow e2).grow e3⟩
      rw [tk1]
      exact hq _ _ _ _ _ _ sp hj hqx
    | true =>
      refine iteT (he _ _ _ L acc W1 sp hj hqx _ H3 _ ⟨O', s5.grow e3 t3, fun d W2 yv O4 H4 hΩ s6 kp6 g6 => ?_⟩)
      have hcomm : ((δ.set g (.wd false W1)).set v (.dat (enc xs[i]))).set g (.wd false W2) = (δ.set g (.wd false W2)).set v (.dat (enc xs[i])) := by
        rw [List.set_comm _ _ hgv.symm, List.set_set]
      rw [hcomm] at s6
      have s7 := s6.unset v
      have en : (((δ.set g (.wd false W2)).set v (.dat (enc xs[i]))).set v .non) = δ.set g (.wd false W2) := by
        rw [List.set_set]
        have hvv : (δ.set g (.wd false W2))[v]? = some .non := by rw [List.getElem?_set_ne hgv]; exact hv
        have := (List.getElem?_eq_some_iff.mp hvv).2
        conv => lhs; rw [← this]
        exact List.set_getElem_self _
      rw [en] at s7
      have eσ : (((wipe σ [v]).set v (some y)).set v none) = σ.set v none := by
        show (((σ.set v none).set v (some y)).set v none) = _
        rw [List.set_set, List.set_set]
      rw [eσ] at s7
      have s8 := StAt.unwipe (by rw [List.getElem?_set_ne hgv]; exact hv) s7
      have hg8 : (δ.set g (.wd false W2))[g]? = some (.wd false W2) := List.getElem?_set_self hgl
      have hw8 := s8.w hg8
      obtain ⟨h1, h2⟩ := hΩ
      obtain ⟨vs, hH, fa⟩ := wl_at s8 hg8 (List.mem_of_getElem? h1)
      have af8 : Aft F.T O4 H4 W2 (upd H4 L (.lst (vs ++ [yv]))) (W2.set W.length (L, .lst (acc ++ [d]))) := aft_turn hw8 h1 (tabs_turn s8.tabs hH) fun hO => ⟨_, upd_same, (fa.turn hO).app (.one (g6.turn hO))⟩
      have s9 := w_after s8 hg8 af8
      rw [List.set_set] at s9
      have kp9 := af8.kp hw8.sh
      refine ⟨vs, hH, ?_, _, _, _, by rw [tk1]; exact h2, s9, ((kp.grow (e2.trans e3)).trans kp6).trans kp9, fun z hz => kp9 _ _ (kp6 _ _ (((tm3.grow e2).grow e3) z hz))⟩
      rw [fa.len]
      have h3 := (hJ _ _ _ _ hj).2
      have h4 : (xs.take i).length ≤ xs.length := by rw [List.length_take]; omega
      exact Nat.lt_of_le_of_lt (Nat.le_trans h3 (Nat.le_trans h4 hz)) (by decide)
  · have e : i = xs.length := by omega
    subst e
    have dn := done O' H' tm3 gs
    rw [List.length_map] at dn
    rw [List.take_length] at hj
    exact .inl ⟨dn, k (ptrD L) W1 (.ref L) O' H' ⟨L, acc, rfl, hj⟩ s3 kp dt_ptr⟩
/-- [elt for x in ..], elt may change the world; the new list is one of the world -/
theorem x_lcW {scope : Scope} {nm : Str} {q : α → Bool} (xs : List α) (enc : α → PyData) (J : List α → Addr → List PyData → Wd → Prop) (v : Nat) (cx : Ctx X N sc) (hg : δ[g]? = some (.wd false W)) (hv : δ[v]? = some .non) (hi : PI X (.Name nm tpos) iter (iY F δ K (xs.map enc))) (hz : xs.length ≤ 100000) (hok : blkC N sc scope [(nm, v)] = true) (hgt : Blk X scope fun Y => PG Y (.Name nm tpos) (gName v))
    (h0 : ∀ L, L ∉ wAs W → J [] L [] (W ++ [(L, .lst [])])) (hJ : ∀ pre L acc W1, J pre L acc W1 → W1[W.length]? = some (L, .lst acc) ∧ acc.length ≤ pre.length)
    (hK : ∀ pre L acc W1 O H σ, J pre L acc W1 → StAt F O H σ (δ.set g (.wd false W1)) → K O H)
    (ht : ∀ pre x post L acc W1, xs = pre ++ x :: post → J pre L acc W1 → Blk X scope fun Y => PTs Y ifs (cD F ((δ.set g (.wd false W1)).set v (.dat (enc x))) (q x)))
    (he : ∀ pre x post L acc W1, xs = pre ++ x :: post → J pre L acc W1 → q x = true → Blk X scope fun Y => PE Y elt (tW F ((δ.set g (.wd false W1)).set v (.dat (enc x))) g (fun d W2 => W2[W.length]? = some (L, .lst acc) ∧ J (pre ++ [x]) L (acc ++ [d]) (W2.set W.length (L, .lst (acc ++ [d]))))))
    (hq : ∀ pre x post L acc W1, xs = pre ++ x :: post → J pre L acc W1 → q x = false → J (pre ++ [x]) L acc W1)
    (hs : ∀ x, foldedSetIterable iter X.env x = pure x := by intro _; rfl) :
    PE X (.ListComp elt [⟨.Name nm tpos, iter, ifs, 0⟩] scope pos) (tW F δ g (fun d W' => ∃ L acc, d = ptrD L ∧ J xs L acc W')) :=
  wkE (pe_lc (own := [(nm, v)]) (tt := fun σ H Q => ∃ pre x post L acc W1, (xs = pre ++ x :: post ∧ J pre L acc W1) ∧ cD F ((δ.set g (.wd false W1)).set v (.dat (enc x))) (q x) σ H Q)
    (te := fun σ H Q => ∃ pre x post L acc W1, (xs = pre ++ x :: post ∧ J pre L acc W1 ∧ q x = true) ∧ tW F ((δ.set g (.wd false W1)).set v (.dat (enc x))) g (fun d W2 => W2[W.length]? = some (L, .lst acc) ∧ J (pre ++ [x]) L (acc ++ [d]) (W2.set W.length (L, .lst (acc ++ [d])))) σ H Q) cx.calm cx.nd' hi (blk_ok cx hok) hgt
    (fun s H C cl fp => ⟨fun pins s' σ H Q I z => let ⟨pre, x, post, L, acc, W1, hx, t⟩ := z; (ht pre x post L acc W1 hx.1 hx.2 s _ C cl fp).run pins s' σ H Q I t⟩)
    (fun s H C cl fp => ⟨fun pins s' σ H Q I z => let ⟨pre, x, post, L, acc, W1, hx, t⟩ := z; (he pre x post L acc W1 hx.1 hx.2.1 hx.2.2 s _ C cl fp).run pins s' σ H Q I t⟩) hs)
    fun σ H Q h => lcW_run xs enc q J v hz hg hv h0 hJ hK hq (fun pre x post L acc W1 a b σ H Q z => ⟨pre, x, post, L, acc, W1, ⟨a, b⟩, z⟩) (fun pre x post L acc W1 a b c σ H Q z => ⟨pre, x, post, L, acc, W1, ⟨a, b, c⟩, z⟩) h
/-- a list of the world becomes data -/
theorem frz_run {Ω : PyData → Wd → Prop} {Q : VK} {σ : L2.St} {H : Hp} (l : Nat) (hgl : g < δ.length) (k : tW F δ g Ω σ H Q) : tW F δ g (fun d W' => ∃ L acc, d = ptrD L ∧ W'[l]? = some (L, .lst acc) ∧ Ω (.list acc) (W'.eraseIdx l)) σ H Q := by
  obtain ⟨O, st, w⟩ := k
  refine ⟨O, st, fun d W' v O' H' hΩ s1 kp g1 => ?_⟩
  obtain ⟨L, acc, rfl, hl, hq⟩ := hΩ
  have ev := dt_ptr_eq g1
  subst ev
  have hg : (δ.set g (.wd false W'))[g]? = some (.wd false W') := List.getElem?_set_self hgl
  have hw := s1.w hg
  obtain ⟨vs, hH, fa⟩ := wl_at s1 hg (List.mem_of_getElem? hl)
  have hll := (List.getElem?_eq_some_iff.mp hl).1
  have hsub : ∀ q ∈ W'.eraseIdx l, q ∈ W' := fun q hq => List.mem_of_mem_eraseIdx hq
  have hm : ∀ a ∈ wAs (W'.eraseIdx l), a ∈ wAs W' := fun a ha => by
    obtain ⟨q, hq, rfl⟩ := List.mem_map.mp ha
    exact List.mem_map.mpr ⟨q, hsub q hq, rfl⟩
  have nd := hw.laid.1
  have hp : W'.Perm ((L, .lst acc) :: W'.eraseIdx l) := by
    have e1 : W' = W'.take l ++ (L, .lst acc) :: W'.drop (l + 1) := by
      rw [← (List.getElem?_eq_some_iff.mp hl).2, List.getElem_cons_drop]
      exact (List.take_append_drop l W').symm
    rw [List.eraseIdx_eq_take_drop_succ]
    exact (List.Perm.of_eq e1).trans List.perm_middle
  have nd2 : (wAs ((L, MO.lst acc) :: W'.eraseIdx l)).Nodup := (hp.map _).nodup_iff.mp nd
  have hO : ∀ a, OW O' W' (W'.eraseIdx l) a → O' a := fun a z => z.elim (fun z => z.1) (fun z => hw.sh a (hm a z))
  have af : Aft F.T O' H' W' H' (W'.eraseIdx l) := ⟨s1.tabs, fun a o e t n => e, ⟨(List.nodup_cons.mp nd2).2, fun q hq => (hw.laid.2 q (hsub q hq)).keep rfl fun d v z => z.open_ hO⟩, fun a ha => .inl (hm a ha)⟩
  have s2 := w_after s1 hg af
  rw [List.set_set] at s2
  have kp2 := af.kp hw.sh
  refine w _ _ (.ref L) _ H' hq s2 (kp.trans kp2) ⟨L, vs, rfl, fun z => ?_, hH, fa.kp kp2⟩
  rcases z with z | z
  · exact z.2 (List.mem_map.mpr ⟨_, List.mem_of_getElem? hl, rfl⟩)
  · exact (List.nodup_cons.mp nd2).1 z
theorem w_frz {Ω : PyData → Wd → Prop} (l : Nat) (hgl : g < δ.length) (h : PE X e (tW F δ g fun d W' => ∃ L acc, d = ptrD L ∧ W'[l]? = some (L, .lst acc) ∧ Ω (.list acc) (W'.eraseIdx l))) : PE X e (tW F δ g Ω) := wkE h fun σ H Q k => frz_run l hgl k
/-- x = [elt for ..], elt may change the world; the list is data then -/
theorem s_lcF {scope : Scope} {nm y : Str} {py spos : Pos} {P : Post} {rest : List Stmt} {Ω : PyData → Wd → Prop} {q : α → Bool} (i : Nat) (xs : List α) (enc : α → PyData) (J : List α → Addr → List PyData → Wd → Prop) (v : Nat) (cx : CtD X N sc F.E) (hg : δ[g]? = some (.wd false W)) (hv : δ[v]? = some .non) (hi : PI X (.Name nm tpos) iter (iY F δ K (xs.map enc))) (hz : xs.length ≤ 100000) (hok : blkC N sc scope [(nm, v)] = true) (hgt : Blk X scope fun Y => PG Y (.Name nm tpos) (gName v))
    (h0 : ∀ L, L ∉ wAs W → J [] L [] (W ++ [(L, .lst [])])) (hJ : ∀ pre L acc W1, J pre L acc W1 → W1[W.length]? = some (L, .lst acc) ∧ acc.length ≤ pre.length)
    (hK : ∀ pre L acc W1 O H σ, J pre L acc W1 → StAt F O H σ (δ.set g (.wd false W1)) → K O H)
    (ht : ∀ pre x post L acc W1, xs = pre ++ x :: post → J pre L acc W1 → Blk X scope fun Y => PTs Y ifs (cD F ((δ.set g (.wd false W1)).set v (.dat (enc x))) (q x)))
    (he : ∀ pre x post L acc W1, xs = pre ++ x :: post → J pre L acc W1 → q x = true → Blk X scope fun Y => PE Y elt (tW F ((δ.set g (.wd false W1)).set v (.dat (enc x))) g (fun d W2 => W2[W.length]? = some (L, .lst acc) ∧ J (pre ++ [x]) L (acc ++ [d]) (W2.set W.length (L, .lst (acc ++ [d]))))))
    (hq : ∀ pre x post L acc W1, xs = pre ++ x :: post → J pre L acc W1 → q x = false → J (pre ++ [x]) L acc W1)
    (hO : ∀ L acc W', J xs L acc W' → Ω (.list acc) (W'.eraseIdx W.length)) (hr : ∀ d W', Ω d W' → PSs X rest (sD F ((δ.set g (.wd false W')).set i (.dat d)) P))
    (hy : N[i]? = some y := by rfl) (hyl : sc.names.lookup y = some .local := by rfl) (hk : sc.kind = .function := by rfl) (hl : (py.line == pos.line) = true := by rfl)
    (ha : (scope.names.any fun (n, k) => n == y && (k == .local || k == .cell)) = false := by rfl) (hs : ∀ x, foldedSetIterable iter X.env x = pure x := by intro _; rfl) :
    PSs X (.Assign [.Name y py] (.ListComp elt [⟨.Name nm tpos, iter, ifs, 0⟩] scope pos) spos :: rest) (sD F δ P) :=
  wkSs (pss_cons (ps_setLc (own := [(nm, v)]) (tt := fun σ H Q => ∃ pre x post L acc W1, (xs = pre ++ x :: post ∧ J pre L acc W1) ∧ cD F ((δ.set g (.wd false W1)).set v (.dat (enc x))) (q x) σ H Q)
    (te := fun σ H Q => ∃ pre x post L acc W1, (xs = pre ++ x :: post ∧ J pre L acc W1 ∧ q x = true) ∧ tW F ((δ.set g (.wd false W1)).set v (.dat (enc x))) g (fun d W2 => W2[W.length]? = some (L, .lst acc) ∧ J (pre ++ [x]) L (acc ++ [d]) (W2.set W.length (L, .lst (acc ++ [d])))) σ H Q) cx.calm cx.nd' (cx.at_ hy) (by rw [cx.s]; exact hyl) (sw_true (by rw [cx.s]; exact hk) (by rw [cx.s]; exact hyl) hl ha) hi (blk_ok cx.toCtx hok) hgt
    (fun s H C cl fp => ⟨fun pins s' σ H Q I z => let ⟨pre, x, post, L, acc, W1, hx, t⟩ := z; (ht pre x post L acc W1 hx.1 hx.2 s _ C cl fp).run pins s' σ H Q I t⟩)
    (fun s H C cl fp => ⟨fun pins s' σ H Q I z => let ⟨pre, x, post, L, acc, W1, hx, t⟩ := z; (he pre x post L acc W1 hx.1 hx.2.1 hx.2.2 s _ C cl fp).run pins s' σ H Q I t⟩) hs) (exSs fun q : PyData × Wd => ifSs (hr q.1 q.2)))
    fun D σ H h' => by
      obtain ⟨O, τ, s0, tm, w⟩ := h'
      have hgl : g < δ.length := (List.getElem?_eq_some_iff.mp hg).1
      have h2 : tW F δ g Ω σ H (fun v H1 => gName i v σ H1 (fun σ2 H2 => ∃ q : PyData × Wd, Ω q.1 q.2 ∧ sD F ((δ.set g (.wd false q.2)).set i (.dat q.1)) P D σ2 H2)) := ⟨O, s0, fun d W' v O' H' hΩ s' kp g' => ⟨(d, W'), hΩ, O', τ, s'.setD i g', fun q hq => kp _ _ (tm q hq), w⟩⟩
      obtain ⟨O2, s2, k2⟩ := frz_run W.length hgl h2
      exact lcW_run (tt := fun σ H Q => ∃ pre x post L acc W1, (xs = pre ++ x :: post ∧ J pre L acc W1) ∧ cD F ((δ.set g (.wd false W1)).set v (.dat (enc x))) (q x) σ H Q) (te := fun σ H Q => ∃ pre x post L acc W1, (xs = pre ++ x :: post ∧ J pre L acc W1 ∧ q x = true) ∧ tW F ((δ.set g (.wd false W1)).set v (.dat (enc x))) g (fun d W2 => W2[W.length]? = some (L, .lst acc) ∧ J (pre ++ [x]) L (acc ++ [d]) (W2.set W.length (L, .lst (acc ++ [d])))) σ H Q) (Q := fun v H1 => gName i v σ H1 (fun σ2 H2 => ∃ q : PyData × Wd, Ω q.1 q.2 ∧ sD F ((δ.set g (.wd false q.2)).set i (.dat q.1)) P D σ2 H2)) xs enc q J v hz hg hv h0 hJ hK hq (fun pre x post L acc W1 a b σ H Q z => ⟨pre, x, post, L, acc, W1, ⟨a, b⟩, z⟩) (fun pre x post L acc W1 a b c σ H Q z => ⟨pre, x, post, L, acc, W1, ⟨a, b, c⟩, z⟩) ⟨O2, s2, fun d W' v O' H' hΩ => k2 d W' v O' H' (by
        obtain ⟨L, acc, rfl, hj⟩ := hΩ
        exact ⟨L, acc, rfl, (hJ _ _ _ _ hj).1, hO L acc W' hj⟩)⟩
end
end Lf
set_option Elab.async false
set_option linter.all false
set_option maxRecDepth 100000
set_option maxHeartbeats 1000000
namespace Lf
open PySem PySem.Spec PyProof.Rows L2 LamX
/-! ### finders -/
structure FSt where
  M : Mk
  rows : List (Nat × List Nat)
  next : Nat
  typed : List Nat
def fitQ (a n : List Nat) : Bool := (gr a n 0).isSome
def kvN (r : Nat × List Nat) : Key × PyData := (.inl (r.1 : Int), tx r.2)
def fitR (rows : List (Nat × List Nat)) (a : List Nat) : List Nat := (rows.filter fun r => fitQ a r.2).map (·.1)
def FSt.fit (S : FSt) (k : Nat) : List Nat := fitR S.rows (S.typed.take k)
def FSt.fitting (S : FSt) : List (Nat × List Nat) := S.rows.filter fun r => fitQ S.typed r.2
def FSt.many (S : FSt) : Nat := (fitR S.rows S.typed).length
def FSt.hits (S : FSt) : List Rk := rkS (rowsOf S.M S.typed S.fitting)
structure okF (S : FSt) : Prop where
  M : okM S.M
  l : S.rows.length ≤ 60
  n : ∀ r ∈ S.rows, isNm r.2 = true
  b : ∀ r ∈ S.rows, 1 ≤ r.1 ∧ r.1 < S.next
  s : S.rows.Pairwise fun r r' => r.1 < r'.1
  a : isAs S.typed = true
def FSt.add (S : FSt) (n : List Nat) : FSt := { S with rows := S.rows ++ [(S.next, n)], next := S.next + 1 }
def FSt.drop (S : FSt) (x : Nat) : FSt := { S with rows := S.rows.filter fun r => !decide (r.1 = x) }
def FSt.type (S : FSt) (a : List Nat) : FSt := { S with typed := a }
abbrev fFinder : List Str := ["marks", "rows", "next_number", "typed", "fits"]
def finderO (C : Addr) (M : Mk) (next : Nat) (a : List Nat) (qr qf : Addr) : MO := .ins C fFinder [mkD M, ptrD qr, natI next, tx a, ptrD qf]
/-- where a finder stands: itself, its rows, its fits, their lists -/
structure FdAt (C : Addr) (W : Wd) (J : List Nat) (p : Addr) (S : FSt) : Prop where
  o : ∃ i r f js qr qf, ∃ qs : List Addr, J = i :: r :: f :: js ∧ W[i]? = some (p, finderO C S.M S.next S.typed qr qf) ∧ W[r]? = some (qr, .dic (S.rows.map kvN)) ∧ W[f]? = some (qf, .lst (qs.map ptrD)) ∧ js.length = S.typed.length + 1 ∧ qs.length = S.typed.length + 1 ∧
    ∀ (k l : Nat) q, js[k]? = some l → qs[k]? = some q → W[l]? = some (q, .lst ((S.fit k).map natI))
  nd : J.Nodup
/-- all else is as it was -/
structure Fr (J : List Nat) (W W' : Wd) (J' : List Nat) : Prop where
  l : W.length ≤ W'.length
  k : ∀ (i : Nat) x, W[i]? = some x → i ∉ J → W'[i]? = some x
  n : ∀ i ∈ J', i ∈ J ∨ W.length ≤ i
theorem Fr.refl {J : List Nat} {W : Wd} : Fr J W W J := ⟨Nat.le_refl _, fun _ _ h _ => h, fun _ h => .inl h⟩
theorem Fr.trans {J J' J2 : List Nat} {W W' W2 : Wd} (h : Fr J W W' J') (g : Fr J' W' W2 J2) : Fr J W W2 J2 := ⟨Nat.le_trans h.l g.l, fun i x e n => g.k i x (h.k i x e n) fun z => (h.n i z).elim n fun z => by
  have := (List.getElem?_eq_some_iff.mp e).1
  omega, fun i z => (g.n i z).elim (fun z => h.n i z) fun z => .inr (Nat.le_trans h.l z)⟩
theorem FdAt.lt {C : Addr} {W : Wd} {J : List Nat} {p : Addr} {S : FSt} (h : FdAt C W J p S) : ∀ i ∈ J, i < W.length := fun i hi => by
  obtain ⟨i0, r, f, js, qr, qf, qs, rfl, h1, h2, h3, h4, h5, h6⟩ := h.o
  rcases List.mem_cons.mp hi with rfl | hi
  · exact wlt h1
  rcases List.mem_cons.mp hi with rfl | hi
  · exact wlt h2
  rcases List.mem_cons.mp hi with rfl | hi
  · exact wlt h3
  obtain ⟨k, hk⟩ := List.mem_iff_getElem?.mp hi
  have hkl := (List.getElem?_eq_some_iff.mp hk).1
  exact wlt (h6 k i (qs[k]'(by omega)) hk (List.getElem?_eq_getElem (by omega)))
theorem FdAt.keep {C : Addr} {W W' : Wd} {J : List Nat} {p : Addr} {S : FSt} (h : FdAt C W J p S) (k : ∀ i ∈ J, ∀ x, W[i]? = some x → W'[i]? = some x) : FdAt C W' J p S := by
  obtain ⟨i, r, f, js, qr, qf, qs, rfl, h1, h2, h3, h4, h5, h6⟩ := h.o
  refine ⟨⟨i, r, f, js, qr, qf, qs, rfl, k _ (by simp) _ h1, k _ (by simp) _ h2, k _ (by simp) _ h3, h4, h5, fun m l q a b => k l ?_ _ (h6 m l q a b)⟩, h.nd⟩
  have := List.mem_of_getElem? a
  simp [this]
/-- another finder is let alone -/
theorem Fr.other {C : Addr} {W W' : Wd} {J J' J2 : List Nat} {p : Addr} {S : FSt} (h : Fr J W W' J') (g : FdAt C W J2 p S) (d : ∀ i ∈ J2, i ∉ J) : FdAt C W' J2 p S ∧ ∀ i ∈ J2, i ∉ J' :=
  ⟨g.keep fun i hi x e => h.k i x e (d i hi), fun i hi z => (h.n i z).elim (d i hi) fun z => by
    have := g.lt i hi
    omega⟩
def badKey (a : List Nat) (d : PyData) : Bool := !(isTx d && decide ((cod d).length = 1) && isAs (a ++ cod d))
/-- a number that is there -/
def FSt.has (S : FSt) (d : PyData) : Bool := isCnt d 1 ((S.next : Int) - 1) && S.rows.any fun r => decide ((r.1 : Int) = intOf d)
section
variable (C C0 C1 C2 C4 C5 C6 : Addr)
def RX_Finder_init (ds : List PyData) (W : Wd) (r : Res) : Prop := ∃ p d1, ds = [ptrD p, d1] ∧ okT d1 ∧ isMarks d1 = false ∧ r = .error C2
def RW_Finder_init (ds : List PyData) (W : Wd) (Ω : PyData → Wd → Prop) : Prop := ∃ (j : Nat), ∃ p M, ds = [ptrD p, mkD M] ∧ okM M ∧ W[j]? = some (p, .ins C [] []) ∧ Ω = fun d W' => d = .none ∧ ∃ J', FdAt C W' J' p ⟨M, [], 1, []⟩ ∧ Fr [j] W W' J'
def RX_Finder_add (ds : List PyData) (W : Wd) (r : Res) : Prop := ∃ J p S d, ds = [ptrD p, d] ∧ FdAt C W J p S ∧ okd d ∧ (isName d = false ∨ (isName d = true ∧ 60 ≤ S.rows.length)) ∧ r = .error C0
def RW_Finder_add (ds : List PyData) (W : Wd) (Ω : PyData → Wd → Prop) : Prop := ∃ J p S n, ds = [ptrD p, tx n] ∧ FdAt C W J p S ∧ okF S ∧ isNm n = true ∧ S.rows.length < 60 ∧ Ω = fun d W' => d = natI S.next ∧ FdAt C W' J p (S.add n) ∧ Fr J W W' J
def R_Finder_need_number (ds : List PyData) (W : Wd) (r : Res) : Prop := ∃ J p S d, ds = [ptrD p, d] ∧ FdAt C W J p S ∧ isP d = false ∧ r = if S.has d = true then .ok .none else .error C5
def RX_Finder_drop (ds : List PyData) (W : Wd) (r : Res) : Prop := ∃ J p S d, ds = [ptrD p, d] ∧ FdAt C W J p S ∧ isP d = false ∧ S.has d = false ∧ r = .error C5
def RW_Finder_drop (ds : List PyData) (W : Wd) (Ω : PyData → Wd → Prop) : Prop := ∃ J p S x n, ds = [ptrD p, natI x] ∧ FdAt C W J p S ∧ okF S ∧ (x, n) ∈ S.rows ∧ Ω = fun d W' => d = tx n ∧ ∃ J', FdAt C W' J' p (S.drop x) ∧ Fr J W W' J'
def RX_Finder_press (ds : List PyData) (W : Wd) (r : Res) : Prop := ∃ J p S d, ds = [ptrD p, d] ∧ FdAt C W J p S ∧ okF S ∧ okd d ∧ badKey S.typed d = true ∧ r = .error C1
def RW_Finder_press (ds : List PyData) (W : Wd) (Ω : PyData → Wd → Prop) : Prop := ∃ J p S c, ds = [ptrD p, tx [c]] ∧ FdAt C W J p S ∧ okF S ∧ isAs (S.typed ++ [c]) = true ∧ Ω = fun d W' => d = natI (S.type (S.typed ++ [c])).many ∧ ∃ J', FdAt C W' J' p (S.type (S.typed ++ [c])) ∧ Fr J W W' J'
def RX_Finder_rub (ds : List PyData) (W : Wd) (r : Res) : Prop := ∃ J p S, ds = [ptrD p] ∧ FdAt C W J p S ∧ S.typed = [] ∧ r = .error C6
def RW_Finder_rub (ds : List PyData) (W : Wd) (Ω : PyData → Wd → Prop) : Prop := ∃ J p S, ds = [ptrD p] ∧ FdAt C W J p S ∧ okF S ∧ S.typed ≠ [] ∧ Ω = fun d W' => d = natI (S.type S.typed.dropLast).many ∧ ∃ J', FdAt C W' J' p (S.type S.typed.dropLast) ∧ Fr J W W' J'
def R_Finder_ask (ds : List PyData) (W : Wd) (r : Res) : Prop := ∃ J p S, ds = [ptrD p] ∧ FdAt C W J p S ∧ r = .ok (tx S.typed)
def R_Finder_many (ds : List PyData) (W : Wd) (r : Res) : Prop := ∃ J p S, ds = [ptrD p] ∧ FdAt C W J p S ∧ r = .ok (natI S.many)
def R_Finder_names (ds : List PyData) (W : Wd) (r : Res) : Prop := ∃ J p S, ds = [ptrD p] ∧ FdAt C W J p S ∧ okF S ∧ r = .ok (.list (S.rows.map nnD))
def R_Finder_hits (ds : List PyData) (W : Wd) (r : Res) : Prop := ∃ J p S d, ds = [ptrD p, d] ∧ FdAt C W J p S ∧ okF S ∧ isP d = false ∧ r = if isCnt d 0 60 = true then .ok (.list (cutL (S.hits.map rkT) none (some (intOf d)))) else .error C4
def R_Finder_best (ds : List PyData) (W : Wd) (r : Res) : Prop := ∃ J p S, ds = [ptrD p] ∧ FdAt C W J p S ∧ okF S ∧ r = .ok (match S.hits with | [] => .none | b :: _ => .int b.1)
end
/-! ### what deeds leave is right -/
theorem fit_snoc {a n : List Nat} {c : Nat} (h : fitQ (a ++ [c]) n = true) : fitQ a n = true := by
  unfold fitQ at h ⊢
  have := gr_snoc c n (n.length - 0) 0 a rfl (Nat.zero_le _)
  rw [List.drop_zero] at this
  rw [this] at h
  cases e : gr a n 0 with
  | none => rw [e] at h; cases h
  | some r => rfl
theorem fit_more {rows : List (Nat × List Nat)} {a : List Nat} {c : Nat} : (rows.filter fun r => fitQ a r.2).filter (fun r => fitQ (a ++ [c]) r.2) = rows.filter fun r => fitQ (a ++ [c]) r.2 := by
  rw [List.filter_filter]
  refine List.filter_congr fun r _ => ?_
  cases h : fitQ (a ++ [c]) r.2 with
  | false => rfl
  | true => rw [fit_snoc h]; rfl
theorem okF.add {S : FSt} {n : List Nat} (h : okF S) (hn : isNm n = true) (hl : S.rows.length < 60) (h1 : 1 ≤ S.next) : okF (S.add n) := by
  refine ⟨h.M, ?_, fun r hr => ?_, fun r hr => ?_, ?_, h.a⟩
  · show (S.rows ++ [_]).length ≤ 60
    rw [List.length_append]
    show S.rows.length + 1 ≤ 60
    omega
  · rcases List.mem_append.mp hr with z | z
    · exact h.n r z
    · rw [List.mem_singleton.mp z]; exact hn
  · show 1 ≤ r.1 ∧ r.1 < S.next + 1
    rcases List.mem_append.mp hr with z | z
    · have := h.b r z
      omega
    · rw [List.mem_singleton.mp z]
      exact ⟨h1, Nat.lt_succ_self _⟩
  · refine List.pairwise_append.mpr ⟨h.s, List.pairwise_cons.mpr ⟨fun _ z => (by cases z), List.Pairwise.nil⟩, fun r hr r' hr' => ?_⟩
    rw [List.mem_singleton.mp hr']
    exact (h.b r hr).2
theorem okF.drop {S : FSt} (h : okF S) (x : Nat) : okF (S.drop x) :=
  ⟨h.M, Nat.le_trans (List.length_filter_le _ _) h.l, fun r hr => h.n r ((List.mem_filter.mp hr).1), fun r hr => h.b r ((List.mem_filter.mp hr).1), h.s.filter _, h.a⟩
theorem okF.type {S : FSt} (h : okF S) {a : List Nat} (ha : isAs a = true) : okF (S.type a) := ⟨h.M, h.l, h.n, h.b, h.s, ha⟩
theorem isAs_dropL {a : List Nat} (h : isAs a = true) : isAs a.dropLast = true := by
  unfold isAs at h ⊢
  simp only [Bool.and_eq_true, List.all_eq_true, decide_eq_true_eq] at h ⊢
  refine ⟨by rw [List.length_dropLast]; omega, fun c hc => h.2 c (List.dropLast_subset _ hc)⟩
theorem okF.new {M : Mk} (h : okM M) : okF ⟨M, [], 1, []⟩ := ⟨h, (by show 0 ≤ 60; decide), (fun _ z => by cases z), (fun _ z => by cases z), List.Pairwise.nil, by show isAs [] = true; decide⟩
/-! ### what the methods see -/
theorem kvN_get {rows : List (Nat × List Nat)} (hs : rows.Pairwise fun r r' => r.1 < r'.1) {r : Nat × List Nat} (hr : r ∈ rows) : getK (rows.map kvN) (.inl (r.1 : Int)) = some (tx r.2) := by
  induction rows with
  | nil => cases hr
  | cons a l ih =>
    rw [List.map_cons, getK_cons]
    rcases List.mem_cons.mp hr with rfl | hr
    · exact if_pos rfl
    · have := (List.pairwise_cons.mp hs).1 r hr
      rw [if_neg (fun z => by
        have := Sum.inl.inj (show Sum.inl (a.1 : Int) = Sum.inl (r.1 : Int) from z)
        omega)]
      exact ih (List.pairwise_cons.mp hs).2 hr
theorem kvN_some {rows : List (Nat × List Nat)} {i : Int} : (getK (rows.map kvN) (.inl i)).isSome = rows.any fun r => decide ((r.1 : Int) = i) := by
  rw [← getK_any, List.any_map]
  congr 1
  funext r
  simp [kvN]
theorem kvN_keys (rows : List (Nat × List Nat)) : ((rows.map kvN).map fun q => keyD q.1) = (rows.map (·.1)).map natI := by
  rw [List.map_map, List.map_map]
  rfl
theorem kvN_del (rows : List (Nat × List Nat)) (x : Nat) : delD (rows.map kvN) (.inl (x : Int)) = (rows.filter fun r => !decide (r.1 = x)).map kvN := by
  unfold delD
  rw [List.filter_map]
  congr 1
  refine List.filter_congr fun r _ => ?_
  by_cases h : r.1 = x
  · simp [kvN, h]
  · simp [kvN, h]
    omega
theorem kvN_put {rows : List (Nat × List Nat)} {x : Nat} {n : List Nat} (h : ∀ r ∈ rows, r.1 < x) : putD (rows.map kvN) (.inl (x : Int)) (tx n) = (rows ++ [(x, n)]).map kvN := by
  unfold putD
  rw [getK_any, kvN_some, if_neg, List.map_append]
  · rfl
  · intro z
    obtain ⟨r, hr, e⟩ := List.any_eq_true.mp z
    have := h r hr
    simp at e
    omega
theorem fitR_rise {rows : List (Nat × List Nat)} (hs : rows.Pairwise fun r r' => r.1 < r'.1) (a : List Nat) : (fitR rows a).Pairwise (· < ·) := by
  unfold fitR
  rw [List.pairwise_map]
  exact hs.filter _
theorem fitR_len (rows : List (Nat × List Nat)) (a : List Nat) : (fitR rows a).length ≤ rows.length := by
  unfold fitR
  rw [List.length_map]
  exact List.length_filter_le _ _
theorem fitR_add {rows : List (Nat × List Nat)} {x : Nat} {n a : List Nat} : fitR (rows ++ [(x, n)]) a = fitR rows a ++ (if fitQ a n = true then [x] else []) := by
  unfold fitR
  rw [List.filter_append, List.map_append, List.filter_cons, List.filter_nil]
  congr 1
  show List.map _ (if fitQ a n = true then _ else _) = _
  split <;> rfl
theorem fitR_drop {rows : List (Nat × List Nat)} {x : Nat} {a : List Nat} : fitR (rows.filter fun r => !decide (r.1 = x)) a = (fitR rows a).filter fun y => !decide (y = x) := by
  unfold fitR
  rw [List.filter_map, List.filter_filter, List.filter_filter]
  congr 1
  refine List.filter_congr fun r _ => ?_
  simp [Bool.and_comm]
theorem fitR_more {rows : List (Nat × List Nat)} {a : List Nat} {c : Nat} (hs : rows.Pairwise fun r r' => r.1 < r'.1) (nm : Nat → List Nat) (hn : ∀ r ∈ rows, nm r.1 = r.2) : (fitR rows a).filter (fun y => fitQ (a ++ [c]) (nm y)) = fitR rows (a ++ [c]) := by
  unfold fitR
  rw [← fit_more, List.filter_map]
  congr 1
  refine List.filter_congr fun r hr => ?_
  show fitQ _ (nm r.1) = _
  rw [hn r ((List.mem_filter.mp hr).1)]
theorem at_endF {α : Type} (l : List α) (x : α) : atI (l ++ [x]) (-1) = some x := by
  have e : ixN (l ++ [x]).length (-1) = some l.length := by
    unfold ixN
    rw [if_neg (by decide), if_pos (by rw [List.length_append, List.length_singleton]; omega), List.length_append, List.length_singleton]
    congr 1
    omega
  unfold atI
  rw [e]
  simp
theorem wappF {W V : Wd} {j : Nat} {a b : Addr × MO} (h : j < W.length) : (W.set j a ++ V).set j b = W.set j b ++ V := by
  rw [List.set_append_left _ _ (by rw [List.length_set]; exact h), List.set_set]
/-- the last of the fits -/
theorem fd_last {W : Wd} {S : FSt} {js : List Nat} {qs : List Addr} (h1 : js.length = S.typed.length + 1) (h2 : qs.length = S.typed.length + 1) (h : ∀ (k l : Nat) q, js[k]? = some l → qs[k]? = some q → W[l]? = some (q, .lst ((S.fit k).map natI))) :
    ∃ l q js' qs', js = js' ++ [l] ∧ qs = qs' ++ [q] ∧ js'.length = S.typed.length ∧ qs'.length = S.typed.length ∧ W[l]? = some (q, .lst ((fitR S.rows S.typed).map natI)) ∧ atI (qs.map ptrD) (-1) = some (ptrD q) := by
  obtain ⟨js', l, rfl⟩ : ∃ js' l, js = js' ++ [l] := ⟨js.dropLast, js.getLast (fun z => by rw [z] at h1; cases h1), (List.dropLast_concat_getLast _).symm⟩
  obtain ⟨qs', q, rfl⟩ : ∃ qs' q, qs = qs' ++ [q] := ⟨qs.dropLast, qs.getLast (fun z => by rw [z] at h2; cases h2), (List.dropLast_concat_getLast _).symm⟩
  rw [List.length_append] at h1 h2
  have e1 : js'.length = S.typed.length := Nat.succ.inj h1
  have e2 : qs'.length = S.typed.length := Nat.succ.inj h2
  refine ⟨l, q, js', qs', rfl, rfl, e1, e2, ?_, ?_⟩
  · have := h S.typed.length l q (by rw [← e1]; simp) (by rw [← e2]; simp)
    unfold FSt.fit at this
    rwa [List.take_length] at this
  · rw [List.map_append]
    exact at_endF _ _
theorem fhits_row (S : FSt) : ∀ b ∈ S.hits, ∃ q, b.2.2.2 = rowD q := fun b hb => rows_pl4 b (rkS_mem hb)
theorem fhits_lay (S : FSt) : ∀ b ∈ S.hits, Lay 2 (rkT b) := fun b hb => by
  obtain ⟨q, hq⟩ := fhits_row S b hb
  unfold rkT
  rw [hq]
  refine lay_tuple (n := 1) fun d hd => ?_
  simp only [List.mem_cons, List.not_mem_nil, or_false] at hd
  rcases hd with rfl | rfl | rfl
  · exact lay_int.mono (Nat.zero_le _)
  · exact lay_int.mono (Nat.zero_le _)
  · exact lay_nats
structure Nd4 (i r f : Nat) (js : List Nat) : Prop where
  ir : i ≠ r
  jf : i ≠ f
  ij : i ∉ js
  rf : r ≠ f
  rj : r ∉ js
  fj : f ∉ js
  js : js.Nodup
theorem nd4 {i r f : Nat} {js : List Nat} : (i :: r :: f :: js).Nodup ↔ Nd4 i r f js := by
  constructor
  · intro h
    simp only [List.nodup_cons, List.mem_cons, not_or] at h
    exact ⟨h.1.1, h.1.2.1, h.1.2.2, h.2.1.1, h.2.1.2, h.2.2.1, h.2.2.2⟩
  · intro h
    simp only [List.nodup_cons, List.mem_cons, not_or]
    exact ⟨⟨h.ir, h.jf, h.ij⟩, ⟨h.rf, h.rj⟩, h.fj, h.js⟩
theorem out_ne {x y : Nat} {js : List Nat} (h : x ∉ js) (hy : y ∈ js) : x ≠ y := fun z => h (by rw [z]; exact hy)
theorem fit_dropL {S : FSt} {k : Nat} (h : k < S.typed.length) : (S.type S.typed.dropLast).fit k = S.fit k := by
  show fitR S.rows (S.typed.dropLast.take k) = fitR S.rows (S.typed.take k)
  rw [List.dropLast_eq_take, List.take_take, Nat.min_eq_left (by omega)]
theorem fit_typed {S : FSt} {a : List Nat} {k : Nat} (h : k ≤ S.typed.length) : (S.type (S.typed ++ a)).fit k = S.fit k := by
  show fitR S.rows ((S.typed ++ a).take k) = fitR S.rows (S.typed.take k)
  rw [List.take_append_of_le_length h]
theorem nm_short {S : FSt} (hS : okF S) {r : Nat × List Nat} (h : r ∈ S.rows) : r.2.length ≤ 10000 := by
  have := isNm_len (hS.n r h)
  omega
theorem fit_not (a n : List Nat) : (!isN (optD (gr a n 0))) = fitQ a n := by
  unfold fitQ
  cases gr a n 0 <;> rfl
structure AddI (C : Addr) (W : Wd) (S : FSt) (n : List Nat) (p : Addr) (i r f : Nat) (js : List Nat) (qr qf : Addr) (qs : List Addr) (W1 : Wd) (m : Nat) : Prop where
  o : W1[i]? = some (p, finderO C S.M (S.next + 1) S.typed qr qf)
  hf : W1[f]? = some (qf, .lst (qs.map ptrD))
  hr : W1[r]? = some (qr, .dic ((S.add n).rows.map kvN))
  s : ∀ (k l : Nat) q, js[k]? = some l → qs[k]? = some q → W1[l]? = some (q, .lst ((if k < m then (S.add n).fit k else S.fit k).map natI))
  l : W1.length = W.length
  k : ∀ (j : Nat) x, W[j]? = some x → j ∉ i :: r :: f :: js → W1[j]? = some x
theorem enum_at {js : List Nat} {qs : List Addr} {pre post : List (Nat × PyData)} {x : Nat × PyData} {t : Nat} (h : enumL (qs.map ptrD) = pre ++ x :: post) (h1 : js.length = t + 1) (h2 : qs.length = t + 1) : ∃ l q, js[pre.length]? = some l ∧ qs[pre.length]? = some q ∧ x = (pre.length, ptrD q) := by
  have hl : pre.length < qs.length := by
    have := congrArg List.length h
    simp [enumL] at this
    omega
  have hx : (enumL (qs.map ptrD))[pre.length]? = some x := by
    rw [h]
    simp
  unfold enumL at hx
  rw [List.getElem?_map, List.length_map, List.getElem?_range hl] at hx
  refine ⟨js[pre.length]'(by omega), qs[pre.length], List.getElem?_eq_getElem (by omega), List.getElem?_eq_getElem hl, ?_⟩
  have := Option.some.inj hx
  rw [← this]
  show (pre.length, (qs.map ptrD).getD pre.length .none) = _
  rw [List.getD_eq_getElem?_getD, List.getElem?_map, List.getElem?_eq_getElem hl]
  rfl
/-- one of the lists is done -/
theorem AddI.step {C : Addr} {W : Wd} {S : FSt} {n : List Nat} {p : Addr} {i r f : Nat} {js : List Nat} {qr qf : Addr} {qs : List Addr} {W1 : Wd} {m : Nat} (h : AddI C W S n p i r f js qr qf qs W1 m) (nd : Nd4 i r f js) {l : Nat} {q : Addr} (hj : js[m]? = some l) (hq : qs[m]? = some q) {ds : List PyData} (hd : ds = ((S.add n).fit m).map natI) : AddI C W S n p i r f js qr qf qs (W1.set l (q, .lst ds)) (m + 1) := by
  have hm := List.mem_of_getElem? hj
  have ne : ∀ {x : Nat}, x ∉ js → l ≠ x := fun hx z => hx (by rw [← z]; exact hm)
  refine ⟨wset_ne h.o (ne nd.ij), wset_ne h.hf (ne nd.fj), wset_ne h.hr (ne nd.rj), fun k l' q' a b => ?_, by rw [List.length_set, h.l], fun j x e n => wset_ne (h.k j x e n) (ne fun z => n (by simp [z]))⟩
  by_cases hk : k = m
  · subst hk
    rw [hj] at a
    rw [hq] at b
    cases a
    cases b
    rw [if_pos (Nat.lt_succ_self _), hd]
    exact wset (h.s _ _ _ hj hq)
  · have hll : l ≠ l' := fun z => hk (by
      have e1 := a
      rw [← z, ← hj] at e1
      exact (List.getElem?_inj (List.getElem?_eq_some_iff.mp a).1 nd.js).mp e1)
    have := h.s k l' q' a b
    have e : (if k < m + 1 then (S.add n).fit k else S.fit k) = if k < m then (S.add n).fit k else S.fit k := by
      by_cases z : k < m
      · rw [if_pos z, if_pos (by omega)]
      · rw [if_neg z, if_neg (by omega)]
    rw [e]
    exact wset_ne this hll
theorem AddI.skip {C : Addr} {W : Wd} {S : FSt} {n : List Nat} {p : Addr} {i r f : Nat} {js : List Nat} {qr qf : Addr} {qs : List Addr} {W1 : Wd} {m : Nat} (h : AddI C W S n p i r f js qr qf qs W1 m) (e0 : (S.add n).fit m = S.fit m) : AddI C W S n p i r f js qr qf qs W1 (m + 1) := by
  refine ⟨h.o, h.hf, h.hr, fun k l' q' a b => ?_, h.l, h.k⟩
  rw [h.s k l' q' a b]
  by_cases z : k < m
  · rw [if_pos z, if_pos (by omega)]
  · rw [if_neg z]
    by_cases z2 : k = m
    · subst z2
      rw [if_pos (Nat.lt_succ_self _), e0]
    · rw [if_neg (by omega)]
theorem AddI.done {C : Addr} {W : Wd} {S : FSt} {n : List Nat} {p : Addr} {i r f : Nat} {js : List Nat} {qr qf : Addr} {qs : List Addr} {W1 : Wd} {m : Nat} (h : AddI C W S n p i r f js qr qf qs W1 m) (nd : Nd4 i r f js) (h1 : js.length = S.typed.length + 1) (h2 : qs.length = S.typed.length + 1) (hm : m = qs.length) : FdAt C W1 (i :: r :: f :: js) p (S.add n) ∧ Fr (i :: r :: f :: js) W W1 (i :: r :: f :: js) := by
  refine ⟨⟨⟨i, r, f, js, qr, qf, qs, rfl, h.o, h.hr, h.hf, h1, h2, fun k l q a b => ?_⟩, nd4.mpr nd⟩, ⟨Nat.le_of_eq h.l.symm, h.k, fun j hj => .inl hj⟩⟩
  have := h.s k l q a b
  rwa [if_pos (by rw [hm]; exact (List.getElem?_eq_some_iff.mp b).1)] at this
theorem has_num {S : FSt} (hS : okF S) {x : Nat} {n : List Nat} (h : (x, n) ∈ S.rows) : S.has (natI x) = true := by
  have := hS.b _ h
  unfold FSt.has
  rw [Bool.and_eq_true]
  refine ⟨?_, List.any_eq_true.mpr ⟨_, h, decide_eq_true rfl⟩⟩
  show (decide (1 ≤ (x : Int)) && decide ((x : Int) ≤ (S.next : Int) - 1)) = true
  simp
  omega
/-- drop: the new lists -/
def DrJ (W : Wd) (S : FSt) (x : Nat) (pre : List Addr) (L : Addr) (acc : List PyData) (W1 : Wd) : Prop := ∃ as : List Addr, as.length = pre.length ∧ acc = as.map ptrD ∧ W1[W.length]? = some (L, .lst acc) ∧ W1.length = W.length + 1 + as.length ∧ (∀ (i : Nat) y, W[i]? = some y → W1[i]? = some y) ∧ ∀ (k : Nat) q, as[k]? = some q → W1[W.length + 1 + k]? = some (q, .lst (((S.drop x).fit k).map natI))
theorem DrJ.zero {W : Wd} {S : FSt} {x : Nat} {L : Addr} : DrJ W S x [] L [] (W ++ [(L, .lst [])]) := ⟨[], rfl, rfl, w_last, by simp, fun i y h => wapp h, fun k q h => by cases h⟩
theorem DrJ.len {W : Wd} {S : FSt} {x : Nat} {pre : List Addr} {L : Addr} {acc : List PyData} {W1 : Wd} (h : DrJ W S x pre L acc W1) : W1[W.length]? = some (L, .lst acc) ∧ acc.length ≤ pre.length := by
  obtain ⟨as, h1, h2, h3, _⟩ := h
  exact ⟨h3, by rw [h2, List.length_map, h1]; exact Nat.le_refl _⟩
theorem DrJ.old {W : Wd} {S : FSt} {x : Nat} {pre : List Addr} {L : Addr} {acc : List PyData} {W1 : Wd} (h : DrJ W S x pre L acc W1) (q : Addr × MO) (hq : q ∈ W) : q ∈ W1 := by
  obtain ⟨as, h1, h2, h3, h4, h5, _⟩ := h
  obtain ⟨i, hi⟩ := List.mem_iff_getElem?.mp hq
  exact mem_at (h5 i q hi)
theorem DrJ.step {W : Wd} {S : FSt} {x : Nat} {pre : List Addr} {L : Addr} {acc : List PyData} {W1 : Wd} (h : DrJ W S x pre L acc W1) {y q : Addr} {ds : List PyData} (hd : ds = ((S.drop x).fit pre.length).map natI) : (W1 ++ [(q, MO.lst ds)])[W.length]? = some (L, .lst acc) ∧ DrJ W S x (pre ++ [y]) L (acc ++ [ptrD q]) ((W1 ++ [(q, MO.lst ds)]).set W.length (L, MO.lst (acc ++ [ptrD q]))) := by
  obtain ⟨as, h1, h2, h3, h4, h5, h6⟩ := h
  refine ⟨wapp h3, as ++ [q], by simp [h1], by rw [h2]; simp, wset (wapp h3), by simp [h4]; omega, fun i z e => wset_ne (wapp (h5 i z e)) (by have := wlt e; omega), fun k q' hk => ?_⟩
  refine wset_ne ?_ (by omega)
  by_cases hkl : k < as.length
  · rw [List.getElem?_append_left hkl] at hk
    exact wapp (h6 k q' hk)
  · have ek : k = as.length := by
      have := (List.getElem?_eq_some_iff.mp hk).1
      rw [List.length_append] at this
      have : k < as.length + 1 := this
      omega
    subst ek
    rw [List.getElem?_append_right (Nat.le_refl _), Nat.sub_self] at hk
    cases (Option.some.inj hk)
    rw [← h4, w_last, hd, h1]
theorem DrJ.keep {W : Wd} {S : FSt} {x : Nat} {pre : List Addr} {L : Addr} {acc : List PyData} {W1 : Wd} (h : DrJ W S x pre L acc W1) {i : Nat} {q : Addr × MO} (hq : W[i]? = some q) : W1[i]? = some q := by
  obtain ⟨as, h1, h2, h3, h4, h5, _⟩ := h
  exact h5 i q hq
theorem DrJ.done {C : Addr} {W : Wd} {S : FSt} {x : Nat} {L : Addr} {acc : List PyData} {W1 : Wd} {p : Addr} {i r f : Nat} {js : List Nat} {qr qf : Addr} {qs : List Addr} (h : DrJ W S x qs L acc W1) (nd : Nd4 i r f js) (h2 : qs.length = S.typed.length + 1) (hi : W[i]? = some (p, finderO C S.M S.next S.typed qr qf)) (hr : W[r]? = some (qr, .dic (S.rows.map kvN))) :
    FdAt C ((W1.set i (p, finderO C S.M S.next S.typed qr L)).set r (qr, .dic ((S.drop x).rows.map kvN))) (i :: r :: W.length :: (List.range (S.typed.length + 1)).map (W.length + 1 + ·)) p (S.drop x) ∧ Fr (i :: r :: f :: js) W ((W1.set i (p, finderO C S.M S.next S.typed qr L)).set r (qr, .dic ((S.drop x).rows.map kvN))) (i :: r :: W.length :: (List.range (S.typed.length + 1)).map (W.length + 1 + ·)) := by
  obtain ⟨as, h1, he, h3, h4, h5, h6⟩ := h
  have hil := wlt hi
  have hrl := wlt hr
  refine ⟨⟨⟨i, r, W.length, (List.range (S.typed.length + 1)).map (W.length + 1 + ·), qr, L, as, rfl, wset_ne (wset (h5 _ _ hi)) (fun z => nd.ir z.symm), wset (wset_ne (h5 _ _ hr) nd.ir), ?_, by simp [FSt.drop], by rw [h1, h2]; rfl, fun k l q a b => ?_⟩, nd4.mpr ⟨nd.ir, by omega, ?_, by omega, ?_, ?_, ?_⟩⟩, ⟨by simp [h4]; omega, fun j y e n => ?_, fun j hj => ?_⟩⟩
  · rw [← he]
    exact wset_ne (wset_ne h3 (by omega)) (by omega)
  · have hk : k < S.typed.length + 1 := by
      have := (List.getElem?_eq_some_iff.mp a).1
      simpa using this
    have el : l = W.length + 1 + k := by
      rw [List.getElem?_map, List.getElem?_range hk] at a
      exact (Option.some.inj a).symm
    subst el
    exact wset_ne (wset_ne (h6 k q b) (by omega)) (by omega)
  · simp
    omega
  · simp
    omega
  · simp
    omega
  · refine List.pairwise_map.mpr ((List.nodup_range : (List.range (S.typed.length + 1)).Nodup).imp fun {a b} h z => h ?_)
    have : W.length + 1 + a = W.length + 1 + b := z
    omega
  · simp only [List.mem_cons, not_or] at n
    exact wset_ne (wset_ne (h5 _ _ e) (fun z => n.1 z.symm)) (fun z => n.2.1 z.symm)
  · simp only [List.mem_cons, List.mem_map, List.mem_range] at hj ⊢
    rcases hj with h | h | h | ⟨k, _, h⟩
    · exact .inl (.inl h)
    · exact .inl (.inr (.inl h))
    · exact .inr (by omega)
    · exact .inr (by omega)
theorem ne_nat (z x : Nat) : (!decide ((z : Int) = (x : Int))) = !decide (z = x) := by
  by_cases h : z = x
  · simp [h]
  · simp [h]
    omega
end Lf
set_option Elab.async false
set_option linter.all false
set_option maxRecDepth 100000
set_option maxHeartbeats 1000000
namespace Lf
open PySem PySem.Spec PyProof.Rows L2 LamX
theorem le_rkF (b b' : Rk) : PySem.W.dataLe false rkK b b' = decide (b'.2.2.1 < b.2.2.1 ∨ (b.2.2.1 = b'.2.2.1 ∧ ((b.2.1.length : Int) < b'.2.1.length ∨ ((b.2.1.length : Int) = b'.2.1.length ∧ b.1 ≤ b'.1)))) := by
  show (!PySem.W.dataLt (rkK b') (rkK b)) = _
  unfold rkK
  rw [lt_iii]
  rw [← decide_not]
  exact decide_eq_decide.mpr ⟨fun h => by omega, fun h => by omega⟩
/-- the same rows, numbered from k on -/
def shR (k : Nat) (b : Rk) : Rk := (b.1 - (k : Int), b.2)
theorem rkS_shift (k : Nat) (bs : List Rk) : (rkS bs).map (shR k) = rkS (bs.map (shR k)) := by
  unfold rkS
  refine List.map_mergeSort fun a _ b _ => ?_
  rw [le_rkF, le_rkF]
  refine decide_eq_decide.mpr ?_
  show _ ↔ _
  unfold shR
  constructor <;> intro h <;> simp only at h ⊢ <;> omega
/-- names, numbered from k on -/
def enumF (k : Nat) (ls : List (List Nat)) : List (Nat × List Nat) := (List.range ls.length).map fun i => (i + k, ls.getD i [])
theorem rows_shift (M : Mk) (a : List Nat) (k : Nat) (ls : List (List Nat)) : (rowsOf M a (enumF k ls)).map (shR k) = rowsOf M a (enumN ls) := by
  unfold rowsOf enumF enumN
  rw [List.filterMap_map, List.filterMap_map, List.map_filterMap]
  congr 1
  funext i
  show Option.map (shR k) (rkOf M a (i + k, ls.getD i [])) = rkOf M a (i, ls.getD i [])
  unfold rkOf
  cases bestL M a (ls.getD i []) with
  | none => rfl
  | some q =>
    show some (shR k _) = some _
    unfold shR
    simp
/-- those that do not fit have no row -/
theorem rows_fit (M : Mk) (a : List Nat) (ps : List (Nat × List Nat)) : rowsOf M a (ps.filter fun r => fitQ a r.2) = rowsOf M a ps := by
  unfold rowsOf
  rw [List.filterMap_filter]
  congr 1
  funext r
  unfold fitQ rkOf
  cases e : gr a r.2 0 with
  | some q => rfl
  | none =>
    rw [best_none.mpr e]
    rfl
theorem hits_shift {S : FSt} {k : Nat} {ls : List (List Nat)} (h : S.rows = enumF k ls) : S.hits.map (shR k) = rkS (rowsOf S.M S.typed (enumN ls)) := by
  unfold FSt.hits FSt.fitting
  rw [rows_fit, rkS_shift, h, rows_shift]
/-- str(j) -/
def strL (i : Int) : List Nat := (toString i : Str).cps.toList
theorem strL_is (i : Int) : (toString i : Str) = ⟨(strL i).toArray⟩ := by
  unfold strL
  cases h : (toString i : Str) with
  | mk a => simp
/-- the names that fill a finder -/
def nmJ (j : Nat) : List Nat := 110 :: strL (j : Int)
theorem nmJ_ok : ∀ j ∈ List.range 60, isNm (nmJ j) = true := by decide +kernel
theorem nmJ_six : nmJ 6 = [110, 54] := by decide +kernel
/-- a finder with m names of these -/
def fullS (M : Mk) (m : Nat) : FSt := ⟨M, enumF 1 ((List.range m).map nmJ), m + 1, []⟩
theorem enumF_snoc (k : Nat) (ls : List (List Nat)) (n : List Nat) : enumF k (ls ++ [n]) = enumF k ls ++ [(ls.length + k, n)] := by
  unfold enumF
  rw [List.length_append, List.length_singleton, List.range_succ, List.map_append]
  congr 1
  · refine List.map_congr_left fun i hi => ?_
    have := List.mem_range.mp hi
    rw [List.getD_eq_getElem?_getD, List.getD_eq_getElem?_getD, List.getElem?_append_left this]
  · simp
theorem full_add (M : Mk) (m : Nat) : (fullS M m).add (nmJ m) = fullS M (m + 1) := by
  unfold fullS FSt.add
  rw [List.range_succ, List.map_append, show List.map nmJ [m] = [nmJ m] from rfl, enumF_snoc]
  simp
theorem enumF_len (k : Nat) (ls : List (List Nat)) : (enumF k ls).length = ls.length := by simp [enumF]
theorem okF_enum {M : Mk} {k : Nat} {ls : List (List Nat)} {a : List Nat} (hM : okM M) (hl : ls.length ≤ 60) (hn : ∀ l ∈ ls, isNm l = true) (ha : isAs a = true) (hk : 1 ≤ k) : okF ⟨M, enumF k ls, ls.length + k, a⟩ := by
  refine ⟨hM, by show (enumF k ls).length ≤ 60; rw [enumF_len]; exact hl, fun r hr => ?_, fun r hr => ?_, ?_, ha⟩
  · obtain ⟨i, hi, rfl⟩ := List.mem_map.mp hr
    have hi := List.mem_range.mp hi
    show isNm (ls.getD i []) = true
    rw [List.getD_eq_getElem?_getD, List.getElem?_eq_getElem hi]
    exact hn _ (List.getElem_mem hi)
  · obtain ⟨i, hi, rfl⟩ := List.mem_map.mp hr
    have hi := List.mem_range.mp hi
    show 1 ≤ i + k ∧ i + k < ls.length + k
    omega
  · show (enumF k ls).Pairwise _
    unfold enumF
    rw [List.pairwise_map]
    exact List.pairwise_lt_range.imp fun {a b} h => by show a + k < b + k; omega
section
variable {Kf : PySem.W.Frag} {Tf : List (Addr × Str)} {F : Fx Kf Tf}
theorem cd_strF {i : Int} {l : List Nat} (h : (toString i : Str) = ⟨l.toArray⟩) (hz : i.natAbs.log2 < 1920) : ClD F (fun xs H Q => ∃ i, xs = [.int i] ∧ i.natAbs.log2 < 1920 ∧ Q (.str (toString i)) H) [.int i] (tx l) := fun O H xs Q _ w h2 k => by
  obtain ⟨x, r, rfl, h1, rfl⟩ := h2
  refine ⟨i, by rw [show x = V.int _ from h1], hz, ?_⟩
  rw [h]
  exact k _ H (ExtN.refl H) w rfl
end
/-- what is typed, k signs of it -/
def typeS (S : FSt) (k : Nat) : FSt := S.type (S.typed.take k)
def stN (S : FSt) (t : Nat) : PyData := .tuple [tx (S.typed.take t), natI (typeS S t).many, .list (cutL ((typeS S t).hits.map rkT) none (some 5))]
def stL (S : FSt) (m : Nat) : List PyData := (List.range m).map fun i => stN S (S.typed.length - i)
theorem stL_snoc (S : FSt) (m : Nat) : stL S (m + 1) = stL S m ++ [stN S (S.typed.length - m)] := by
  unfold stL
  rw [List.range_succ, List.map_append]
  rfl
theorem typeS_all (S : FSt) : typeS S S.typed.length = S := by
  unfold typeS FSt.type
  rw [List.take_length]
theorem typeS_ok {S : FSt} (h : okF S) (k : Nat) : okF (typeS S k) := h.type (by
  have := h.a
  unfold isAs at this ⊢
  simp only [Bool.and_eq_true, List.all_eq_true, decide_eq_true_eq] at this ⊢
  refine ⟨by rw [List.length_take]; omega, fun c hc => this.2 c (List.mem_of_mem_take hc)⟩)
theorem typeS_rub {S : FSt} {k : Nat} (h : k + 1 ≤ S.typed.length) : (typeS S (k + 1)).type (typeS S (k + 1)).typed.dropLast = typeS S k := by
  unfold typeS FSt.type
  show FSt.mk _ _ _ (S.typed.take (k + 1)).dropLast = FSt.mk _ _ _ _
  rw [List.dropLast_eq_take, List.take_take, List.length_take]
  congr 2
  omega
theorem typeS_press {S : FSt} {k c : Nat} (h : S.typed[k]? = some c) : (typeS S k).type ((typeS S k).typed ++ [c]) = typeS S (k + 1) := by
  unfold typeS FSt.type
  show FSt.mk _ _ _ (S.typed.take k ++ [c]) = FSt.mk _ _ _ _
  have hl := (List.getElem?_eq_some_iff.mp h)
  rw [List.take_succ_eq_append_getElem hl.1, hl.2]
def RW_back_right (C : Addr) (ds : List PyData) (W : Wd) (Ω : PyData → Wd → Prop) : Prop := ∃ J p S, ds = [ptrD p] ∧ FdAt C W J p S ∧ okF S ∧ Ω = fun d W' => d = .bool true ∧ ∃ J', FdAt C W' J' p S ∧ Fr J W W' J'
/-- the world while a finder goes back and forth, its states kept at W.length -/
structure BackI (C : Addr) (W : Wd) (J : List Nat) (p ps : Addr) (S : FSt) (t m : Nat) (W1 : Wd) (J1 : List Nat) : Prop where
  f : FdAt C W1 J1 p (typeS S t)
  fr : Fr J W W1 J1
  s : W1[W.length]? = some (ps, .lst (stL S m))
  o : W.length ∉ J1
theorem BackI.deed {C : Addr} {W : Wd} {J : List Nat} {p ps : Addr} {S : FSt} {t t' m : Nat} {W1 W2 : Wd} {J1 J2 : List Nat} (h : BackI C W J p ps S t m W1 J1) (f : FdAt C W2 J2 p (typeS S t')) (fr : Fr J1 W1 W2 J2) : BackI C W J p ps S t' m W2 J2 :=
  ⟨f, h.fr.trans fr, fr.k _ _ h.s h.o, fun z => (fr.n _ z).elim h.o fun z => by have := wlt h.s; omega⟩
theorem BackI.keep {C : Addr} {W : Wd} {J : List Nat} {p ps : Addr} {S : FSt} {t m m' : Nat} {W1 : Wd} {J1 : List Nat} (h : BackI C W J p ps S t m W1 J1) {ds : List PyData} (hd : ds = stL S m') : BackI C W J p ps S t m' (W1.set W.length (ps, .lst ds)) J1 :=
  ⟨h.f.keep fun i hi x e => wset_ne e (fun z => h.o (by rw [z]; exact hi)), ⟨by rw [List.length_set]; exact h.fr.l, fun i x e n => wset_ne (h.fr.k i x e n) (by have := wlt e; omega), h.fr.n⟩, by rw [hd]; exact wset h.s, h.o⟩
theorem BackI.new {C : Addr} {W : Wd} {J : List Nat} {p ps : Addr} {S : FSt} (h : FdAt C W J p S) : BackI C W J p ps S S.typed.length 0 (W ++ [(ps, .lst [])]) J :=
  ⟨by rw [typeS_all]; exact h.keep fun i _ x e => wapp e, ⟨by simp, fun i x e _ => wapp e, fun i hi => .inl hi⟩, w_last, fun z => by have := h.lt _ z; omega⟩
theorem as_low {a : List Nat} (h : isAs a = true) : ∀ c ∈ a, c < 1114112 := fun c hc => by
  unfold isAs at h
  simp only [Bool.and_eq_true, List.all_eq_true, decide_eq_true_eq] at h
  exact (show ∀ c ∈ lSmall ++ lGreat ++ lFig, c < 1114112 by decide) c (h.2 c hc)
theorem lay_stN {S : FSt} (h : okF S) (t : Nat) : Lay 4 (stN S t) := by
  refine lay_tuple (n := 3) fun d hd => ?_
  simp only [List.mem_cons, List.not_mem_nil, or_false] at hd
  rcases hd with rfl | rfl | rfl
  · exact lay_tx (fun c hc => as_low h.a c (List.mem_of_mem_take hc))
  · exact lay_int
  · refine lay_list (n := 2) fun d hd => ?_
    obtain ⟨b, hb, rfl⟩ := List.mem_map.mp (cut_mem hd)
    exact fhits_lay _ b hb
def RW_full_right (C : Addr) (ds : List PyData) (W : Wd) (Ω : PyData → Wd → Prop) : Prop := ∃ J p M, ds = [ptrD p] ∧ okM M ∧ FdAt C W J p ⟨M, [], 1, []⟩ ∧ Ω = fun d W' => d = .bool true
theorem lay_nx : Lay 1 (.list ((List.range 60).map fun i => natI (i + 1))) := lay_list (n := 0) fun d hd => by
  obtain ⟨i, _, rfl⟩ := List.mem_map.mp hd
  exact lay_int
def FullJ (C : Addr) (W : Wd) (J : List Nat) (p : Addr) (M : Mk) (pre : List Nat) (L : Addr) (acc : List PyData) (W1 : Wd) : Prop := FdAt C W1 J p (fullS M pre.length) ∧ W1[W.length]? = some (L, .lst acc) ∧ acc = (List.range pre.length).map fun i => natI (i + 1)
theorem FullJ.zero {C : Addr} {W : Wd} {J : List Nat} {p : Addr} {M : Mk} {L : Addr} (h : FdAt C W J p ⟨M, [], 1, []⟩) : FullJ C W J p M [] L [] (W ++ [(L, .lst [])]) := ⟨h.keep fun i _ x e => wapp e, w_last, rfl⟩
theorem FullJ.len {C : Addr} {W : Wd} {J : List Nat} {p : Addr} {M : Mk} {pre : List Nat} {L : Addr} {acc : List PyData} {W1 : Wd} (h : FullJ C W J p M pre L acc W1) : W1[W.length]? = some (L, .lst acc) ∧ acc.length ≤ pre.length := ⟨h.2.1, by rw [h.2.2, List.length_map, List.length_range]; exact Nat.le_refl _⟩
theorem range_atF {n i : Nat} {pre post : List Nat} (h : List.range n = pre ++ i :: post) : i = pre.length ∧ pre.length < n := by
  have hl : pre.length < n := by
    have := congrArg List.length h
    simp at this
    omega
  have hx : (List.range n)[pre.length]? = some i := by rw [h]; simp
  rw [List.getElem?_range hl] at hx
  exact ⟨(Option.some.inj hx).symm, hl⟩
theorem full_len (M : Mk) (m : Nat) : (fullS M m).rows.length = m := by
  show (enumF 1 _).length = m
  rw [enumF_len]
  simp
theorem full_ok {M : Mk} (hM : okM M) {m : Nat} (h : m ≤ 60) : okF (fullS M m) := by
  have := okF_enum (k := 1) (ls := (List.range m).map nmJ) (a := []) hM (by simp; exact h) (fun l hl => by
    obtain ⟨j, hj, rfl⟩ := List.mem_map.mp hl
    exact nmJ_ok j (List.mem_range.mpr (by have := List.mem_range.mp hj; omega))) (by decide) (Nat.le_refl _)
  rw [List.length_map, List.length_range] at this
  exact this
theorem str_sz {j : Nat} (h : j < 60) : [110].length + (strL (j : Int)).length ≤ sizeLine := by
  have := (isNm_len (nmJ_ok j (List.mem_range.mpr h))).2
  have e : (nmJ j).length = (strL (j : Int)).length + 1 := rfl
  have : 100000 ≤ sizeLine := by decide
  show 1 + _ ≤ _
  omega
theorem log_sz {j : Nat} (h : j < 60) : ((j : Int)).natAbs.log2 < 1920 := by
  have : ((j : Int)).natAbs.log2 ≤ ((j : Int)).natAbs := Nat.log2_le_self _
  omega
end Lf
set_option Elab.async false
set_option linter.all false
set_option maxRecDepth 100000
set_option maxHeartbeats 1000000
namespace Lf
open PySem PySem.Spec PyProof.Rows L2 L2H HotX LamX
section
variable {Kf : PySem.W.Frag} {Tf : List (Addr × Str)} {F : Fx Kf Tf} {δ : List Slot} {X : Cx} {N : List Str} {sc : Scope} {pos : Pos} {a b e : Expr} {es : List Expr} {W : Wd} {g : Nat} {d : PyData} {Ω : PyData → Wd → Prop}
/-- a comparison as a value -/
theorem w_cmp {op : CmpOp} {r : R2} {Ω1 : PyData → Wd → Prop} {Ω2 : PyData → Wd → PyData → Wd → Prop} {z : PyData → PyData → PyData} (ho : OpR X (compareOp op) r) (hgl : g < δ.length) (q : ∀ d1 W1 d2 W2, Ω1 d1 W1 → Ω2 d1 W1 d2 W2 → OpD F r d1 d2 (z d1 d2)) (ha : PE X a (tW F δ g Ω1)) (hb : ∀ d W', Ω1 d W' → PE X b (tW F (δ.set g (.wd false W')) g (Ω2 d W')))
    (hm : behindInMarks op b = false := by first | exact nomark _ | rfl) : PE X (.Compare a [op] [b] pos) (tW F δ g fun d W' => ∃ d1 W1 d2, Ω1 d1 W1 ∧ Ω2 d1 W1 d2 W' ∧ d = z d1 d2) :=
  wkE (pe_cmpR ho ha (anyW hb) hm) fun σ H Q h => opW_run q hgl h
/-- .. what is told is known, the right one changes nothing -/
theorem w_cmpL {op : CmpOp} {r : R2} {Ω1 : Wd → Prop} {d1 d2 z : PyData} (ho : OpR X (compareOp op) r) (hgl : g < δ.length) (q : OpD F r d1 d2 z) (ha : PE X a (tW F δ g fun d W' => d = d1 ∧ Ω1 W')) (hb : ∀ W', PE X b (tD F (δ.set g (.wd false W')) d2))
    (hm : behindInMarks op b = false := by first | exact nomark _ | rfl) : PE X (.Compare a [op] [b] pos) (tW F δ g fun d W' => d = z ∧ Ω1 W') :=
  w_imp (w_cmp (z := fun _ _ => z) ho hgl (fun d1' W1 d2' W2 h1 h2 => by rw [h1.1, h2.1]; exact q) ha (fun d W' _ => w_pure (W := W') (by rw [List.getElem?_set_self hgl]) (hb W')) hm) fun d W' h => by
    obtain ⟨d1', W1, d2', h1, ⟨_, e2⟩, rfl⟩ := h
    exact ⟨rfl, by rw [e2]; exact h1.2⟩
theorem w_one1 {op : BoolOp} (h : PE X a (tW F δ g Ω)) : PE X (.BoolOp op [a] pos) (tW F δ g Ω) := pe_one h
/-- and as a value: the first is true -/
theorem w_andT {Ω1 : Wd → Prop} (h : PE X a (tW F δ g fun d W' => d = .bool true ∧ Ω1 W')) (hb : ∀ W', Ω1 W' → PE X (.BoolOp .And (b :: es) pos) (tW F (δ.set g (.wd false W')) g Ω)) : PE X (.BoolOp .And (a :: b :: es) pos) (tW F δ g Ω) :=
  wkE (pe_and h (anyW (Ω1 := fun d W' => Ω1 W') (Ω2 := fun _ _ => Ω) fun _ W' h => hb W' h)) fun σ H Q q => by
    obtain ⟨O, st, w⟩ := q
    refine ⟨O, st, fun d W' v O' H' hΩ s' kp r => ?_⟩
    obtain ⟨rfl, h1⟩ := hΩ
    exact ⟨true, r, iteT ⟨.none, W', h1, O', s', fun d2 W2 v2 O2 H2 h2 s2 kp2 r2 => w d2 W2 v2 O2 H2 h2 (by rw [List.set_set] at s2; exact s2) (kp.trans kp2) r2⟩⟩
end
end Lf
set_option Elab.async false
set_option linter.all false
set_option maxRecDepth 100000
set_option maxHeartbeats 1000000
namespace Lf
open PySem PySem.Spec PyProof.Rows L2 LamX
/-- a finder led round: its first names, t of them gone -/
def ledS (M : Mk) (gs : List (List Nat)) (t : Nat) (a : List Nat) : FSt := ⟨M, (enumF 1 gs).drop t, gs.length + 1, a⟩
/-- a finder of names numbered from k on -/
def enS (M : Mk) (k : Nat) (ls : List (List Nat)) (a : List Nat) : FSt := ⟨M, enumF k ls, ls.length + k, a⟩
theorem enS_add (M : Mk) (k : Nat) (ls : List (List Nat)) (a n : List Nat) : (enS M k ls a).add n = enS M k (ls ++ [n]) a := by
  unfold enS FSt.add
  rw [enumF_snoc, List.length_append, List.length_singleton]
  show FSt.mk _ _ _ _ = FSt.mk _ _ _ _
  congr 1
  show ls.length + k + 1 = _
  omega
theorem enumF_at {k : Nat} {gs : List (List Nat)} {t : Nat} (h : t < gs.length) : (enumF k gs).drop t = (t + k, gs.getD t []) :: (enumF k gs).drop (t + 1) := by
  rw [List.drop_eq_getElem_cons (by rw [enumF_len]; exact h)]
  congr 1
  simp [enumF]
theorem enumF_gt {k : Nat} {gs : List (List Nat)} {t : Nat} : ∀ r ∈ (enumF k gs).drop t, t + k ≤ r.1 := fun r hr => by
  obtain ⟨i, hi⟩ := List.mem_iff_getElem?.mp hr
  rw [List.getElem?_drop] at hi
  unfold enumF at hi
  rw [List.getElem?_map] at hi
  have hl : t + i < gs.length := by
    have := (List.getElem?_eq_some_iff.mp (show (List.range gs.length)[t + i]? = some ((List.range gs.length)[t + i]?.getD 0) from by
      cases e : (List.range gs.length)[t + i]? with
      | none => rw [e] at hi; cases hi
      | some x => rfl)).1
    simpa using this
  rw [List.getElem?_range hl] at hi
  have := Option.some.inj hi
  rw [← this]
  show t + k ≤ t + i + k
  omega
theorem ledS_drop {M : Mk} {gs : List (List Nat)} {t : Nat} {a : List Nat} (h : t < gs.length) : (ledS M gs t a).drop (t + 1) = ledS M gs (t + 1) a := by
  unfold ledS FSt.drop
  show FSt.mk _ _ _ _ = FSt.mk _ _ _ _
  congr 1
  rw [enumF_at h]
  rw [List.filter_cons, if_neg (by simp)]
  refine List.filter_eq_self.mpr fun r hr => ?_
  have := enumF_gt r hr
  simp
  omega
theorem ledS_mem {M : Mk} {gs : List (List Nat)} {t : Nat} {a : List Nat} (h : t < gs.length) : (t + 1, gs.getD t []) ∈ (ledS M gs t a).rows := by
  show _ ∈ (enumF 1 gs).drop t
  rw [enumF_at h]
  exact List.mem_cons_self
theorem ledS_far {M : Mk} {gs : List (List Nat)} {t : Nat} {a : List Nat} (h : gs.length ≤ t) (k : Nat) (hk : k = gs.length + 1) : ledS M gs t a = enS M k [] a := by
  unfold ledS enS
  rw [List.drop_eq_nil_of_le (by rw [enumF_len]; exact h), hk]
  simp [enumF]
theorem ledS_ok {M : Mk} {gs : List (List Nat)} {t : Nat} {a : List Nat} (hM : okM M) (hl : gs.length ≤ 60) (hn : ∀ l ∈ gs, isNm l = true) (ha : isAs a = true) : okF (ledS M gs t a) := by
  have h := okF_enum (k := 1) hM hl hn ha (Nat.le_refl _)
  exact ⟨hM, Nat.le_trans (by show ((enumF 1 gs).drop t).length ≤ (enumF 1 gs).length; rw [List.length_drop]; omega) h.l, fun r hr => h.n r (List.mem_of_mem_drop hr), fun r hr => h.b r (List.mem_of_mem_drop hr), List.Pairwise.sublist (List.drop_sublist t (enumF 1 gs)) h.s, ha⟩
theorem isAs_take {a : List Nat} (h : isAs a = true) (k : Nat) : isAs (a.take k) = true := by
  unfold isAs at h ⊢
  simp only [Bool.and_eq_true, List.all_eq_true, decide_eq_true_eq] at h ⊢
  refine ⟨by rw [List.length_take]; omega, fun c hc => h.2 c (List.mem_of_mem_take hc)⟩
theorem isAs_more {a : List Nat} {c : Nat} (h : isAs a = true) (hl : a.length < 8) (hc : c = 97 ∨ c = 98) : isAs (a ++ [c]) = true := by
  unfold isAs at h ⊢
  simp only [Bool.and_eq_true, List.all_eq_true, decide_eq_true_eq] at h ⊢
  refine ⟨by rw [List.length_append, List.length_singleton]; omega, fun x hx => ?_⟩
  rcases List.mem_append.mp hx with z | z
  · exact h.2 x z
  · rw [List.mem_singleton.mp z]
    rcases hc with rfl | rfl <;> decide
theorem type_rub (S : FSt) (c : Nat) : (S.type (S.typed ++ [c])).type (S.type (S.typed ++ [c])).typed.dropLast = S := by
  show FSt.mk _ _ _ (S.typed ++ [c]).dropLast = S
  rw [List.dropLast_concat]
  rfl
theorem take_at {a : List Nat} {k c : Nat} (h : a[k]? = some c) : a.take k ++ [c] = a.take (k + 1) := by
  have hl := (List.getElem?_eq_some_iff.mp h)
  rw [List.take_succ_eq_append_getElem hl.1, hl.2]
theorem enumT_at {a : List Nat} {pre post : List (Nat × Nat)} {x : Nat × Nat} (h : enumT a = pre ++ x :: post) : x.1 = pre.length ∧ a[pre.length]? = some x.2 := by
  have hl : pre.length < a.length := by
    have := congrArg List.length h
    simp [enumT] at this
    omega
  have hx : (enumT a)[pre.length]? = some x := by rw [h]; simp
  unfold enumT at hx
  rw [List.getElem?_map, List.getElem?_range hl] at hx
  have := Option.some.inj hx
  rw [← this]
  exact ⟨rfl, by simp [List.getD_eq_getElem?_getD, List.getElem?_eq_getElem hl]⟩
def RW_led_round (C : Addr) (ds : List PyData) (W : Wd) (Ω : PyData → Wd → Prop) : Prop := ∃ J p M ls a more, ds = [ptrD p, .list (ls.map tx), tx a, .int more] ∧ okM M ∧ ls.length ≤ 50 ∧ (∀ l ∈ ls, isNm l = true) ∧ isAs a = true ∧ FdAt C W J p ⟨M, [], 1, []⟩ ∧ Ω = fun d W' => d = .none ∧ ∃ J', FdAt C W' J' p (enS M 5 ls a) ∧ Fr J W W' J'
def LedJ (C : Addr) (W : Wd) (J : List Nat) (p : Addr) (M : Mk) (nm : Nat → List Nat) (pre : List Nat) (L : Addr) (acc : List PyData) (W1 : Wd) : Prop := FdAt C W1 J p (enS M 1 (pre.map nm) []) ∧ W1[W.length]? = some (L, .lst acc) ∧ acc = (List.range pre.length).map (fun i => natI (i + 1)) ∧ ∀ (i : Nat) x, W[i]? = some x → i ∉ J → W1[i]? = some x
theorem LedJ.zero {C : Addr} {W : Wd} {J : List Nat} {p : Addr} {M : Mk} {nm : Nat → List Nat} {L : Addr} (h : FdAt C W J p ⟨M, [], 1, []⟩) : LedJ C W J p M nm [] L [] (W ++ [(L, .lst [])]) := ⟨h.keep fun i _ x e => wapp e, w_last, rfl, fun i x e _ => wapp e⟩
theorem LedJ.len {C : Addr} {W : Wd} {J : List Nat} {p : Addr} {M : Mk} {nm : Nat → List Nat} {pre : List Nat} {L : Addr} {acc : List PyData} {W1 : Wd} (h : LedJ C W J p M nm pre L acc W1) : W1[W.length]? = some (L, .lst acc) ∧ acc.length ≤ pre.length := ⟨h.2.1, by rw [h.2.2.1, List.length_map, List.length_range]; exact Nat.le_refl _⟩
theorem LedJ.done {C : Addr} {W : Wd} {J : List Nat} {p : Addr} {M : Mk} {nm : Nat → List Nat} {pre : List Nat} {L : Addr} {acc : List PyData} {W1 : Wd} (h0 : ∀ i ∈ J, i < W.length) (h : LedJ C W J p M nm pre L acc W1) : FdAt C (W1.eraseIdx W.length) J p (ledS M (pre.map nm) 0 []) ∧ Fr J W (W1.eraseIdx W.length) J := by
  obtain ⟨h1, h2, h3, h4⟩ := h
  refine ⟨(show FdAt C _ J p (enS M 1 (pre.map nm) []) from h1.keep fun i hi x e => ?_), ?_, fun i x e n => ?_, fun i hi => .inl hi⟩
  · rw [List.getElem?_eraseIdx_of_lt (h0 i hi)]
    exact e
  · have := wlt h2
    rw [List.length_eraseIdx]
    split <;> omega
  · rw [List.getElem?_eraseIdx_of_lt (wlt e)]
    exact h4 i x e n
theorem range_dropF {n m i : Nat} {pre post : List Nat} (h : (List.range n).drop m = pre ++ i :: post) : i = m + pre.length ∧ m + pre.length < n := by
  have hx : ((List.range n).drop m)[pre.length]? = some i := by rw [h]; simp
  rw [List.getElem?_drop] at hx
  have hl := (List.getElem?_eq_some_iff.mp hx).1
  rw [List.length_range] at hl
  rw [List.getElem?_range hl] at hx
  exact ⟨(Option.some.inj hx).symm, hl⟩
theorem full_six (M : Mk) : (7, nmJ 6) ∈ (fullS M 60).rows := List.mem_map.mpr ⟨6, List.mem_range.mpr (by rw [List.length_map, List.length_range]; decide), by
  show (6 + 1, ((List.range 60).map nmJ).getD 6 []) = (7, nmJ 6)
  simp [List.getD_eq_getElem?_getD]⟩
theorem full_drop (M : Mk) : ((fullS M 60).drop 7).rows.length = 59 := by
  show ((enumF 1 ((List.range 60).map nmJ)).filter (fun r => !decide (r.1 = 7))).length = 59
  unfold enumF
  rw [List.filter_map, List.length_map, List.length_map, List.length_range]
  show ((List.range 60).filter fun i => !decide (i + 1 = 7)).length = 59
  decide
theorem fitQ_nil (n : List Nat) : fitQ [] n = true := by
  unfold fitQ
  rw [gr]
  rfl
theorem many_nil {S : FSt} (h : S.typed = []) : S.many = S.rows.length := by
  unfold FSt.many fitR
  rw [h, List.length_map]
  congr 1
  exact List.filter_eq_self.mpr fun r _ => fitQ_nil r.2
theorem full_many (M : Mk) : (((fullS M 60).drop 7).add [110, 101, 119]).many = 60 := by
  rw [many_nil rfl]
  show (((fullS M 60).drop 7).rows ++ [_]).length = 60
  rw [List.length_append, full_drop]
  rfl
theorem rows_full (M : Mk) (a : List Nat) : ∀ ps : List (Nat × List Nat), (∀ r ∈ ps, fitQ a r.2 = true) → (rowsOf M a ps).length = ps.length
  | [], _ => rfl
  | r :: ps, h => by
    have h1 := h r (by simp)
    have ih := rows_full M a ps fun r hr => h r (by simp [hr])
    unfold rowsOf at ih ⊢
    rw [List.filterMap_cons]
    unfold rkOf at ih ⊢
    cases e : bestL M a r.2 with
    | none =>
      have := best_none.mp e
      unfold fitQ at h1
      rw [this] at h1
      cases h1
    | some q =>
      show List.length (_ :: _) = _
      rw [List.length_cons, List.length_cons]
      exact congrArg (· + 1) ih
theorem hits_many (S : FSt) : S.hits.length = S.many := by
  unfold FSt.hits FSt.many fitR
  rw [rkS_len, rows_full, List.length_map]
  · rfl
  · intro r hr
    exact (List.mem_filter.mp hr).2
theorem hits_short {S : FSt} (h : okF S) : S.hits.length ≤ 60 := by
  rw [hits_many]
  exact Nat.le_trans (fitR_len _ _) h.l
/-- what hits tells, numbers less k -/
theorem hits_less {S : FSt} {k : Nat} {ls : List (List Nat)} (h : S.rows = enumF k ls) : (S.hits.map fun b => PyData.tuple [.int (b.1 - (k : Int)), .int b.2.2.1, b.2.2.2]) = hitsL S.M S.typed ls := by
  unfold hitsL
  rw [← hits_shift h, List.map_map]
  rfl
theorem hitsL_many {S : FSt} {k : Nat} {ls : List (List Nat)} (h : S.rows = enumF k ls) : (hitsL S.M S.typed ls).length = S.many := by
  rw [← hits_less h, List.length_map, hits_many]
theorem hitsL_lay (M : Mk) (a : List Nat) (ls : List (List Nat)) : Lay 3 (.list (hitsL M a ls)) := by
  rw [show hitsL M a ls = (enS M 0 ls a).hits.map fun b => PyData.tuple [.int (b.1 - ((0 : Nat) : Int)), .int b.2.2.1, b.2.2.2] from (hits_less (S := enS M 0 ls a) rfl).symm]
  refine lay_list (n := 2) fun d hd => ?_
  obtain ⟨b, hb, rfl⟩ := List.mem_map.mp hd
  obtain ⟨q, hq⟩ := fhits_row _ b hb
  rw [hq]
  refine lay_tuple (n := 1) fun d hd => ?_
  simp only [List.mem_cons, List.not_mem_nil, or_false] at hd
  rcases hd with rfl | rfl | rfl
  · exact lay_int.mono (Nat.zero_le _)
  · exact lay_int.mono (Nat.zero_le _)
  · exact lay_nats
theorem cut_most {α : Type} {l : List α} {n : Nat} (h : l.length ≤ n) : cutL l none (some (n : Int)) = l := by
  rw [cut_take]
  exact List.take_of_length_le h
theorem at_four {k : Nat} (h : k < 4) : atI ((List.range 4).map fun i => natI (i + 1)) (k : Int) = some (natI (k + 1)) := by
  have : k = 0 ∨ k = 1 ∨ k = 2 ∨ k = 3 := by omega
  rcases this with rfl | rfl | rfl | rfl <;> rfl
/-! ### three finders side by side -/
structure T3 (C : Addr) (W : Wd) (p1 : Addr) (S1 : FSt) (p2 : Addr) (S2 : FSt) (p3 : Addr) (S3 : FSt) : Prop where
  o : ∃ J1 J2 J3, FdAt C W J1 p1 S1 ∧ FdAt C W J2 p2 S2 ∧ FdAt C W J3 p3 S3 ∧ (∀ i ∈ J2, i ∉ J1) ∧ (∀ i ∈ J3, i ∉ J1) ∧ ∀ i ∈ J3, i ∉ J2
theorem T3.one {C : Addr} {W : Wd} {p1 p2 p3 : Addr} {S1 S2 S3 : FSt} (h : T3 C W p1 S1 p2 S2 p3 S3) : ∃ J, FdAt C W J p1 S1 ∧ ∀ W' J' S', FdAt C W' J' p1 S' → Fr J W W' J' → T3 C W' p1 S' p2 S2 p3 S3 := by
  obtain ⟨J1, J2, J3, h1, h2, h3, n21, n31, n32⟩ := h.o
  refine ⟨J1, h1, fun W' J' S' f fr => ?_⟩
  obtain ⟨a, b⟩ := fr.other h2 n21
  obtain ⟨c, d⟩ := fr.other h3 n31
  exact ⟨J', J2, J3, f, a, c, b, d, n32⟩
theorem T3.two {C : Addr} {W : Wd} {p1 p2 p3 : Addr} {S1 S2 S3 : FSt} (h : T3 C W p1 S1 p2 S2 p3 S3) : ∃ J, FdAt C W J p2 S2 ∧ ∀ W' J' S', FdAt C W' J' p2 S' → Fr J W W' J' → T3 C W' p1 S1 p2 S' p3 S3 := by
  obtain ⟨J1, J2, J3, h1, h2, h3, n21, n31, n32⟩ := h.o
  refine ⟨J2, h2, fun W' J' S' f fr => ?_⟩
  obtain ⟨a, b⟩ := fr.other h1 fun i hi z => n21 i z hi
  obtain ⟨c, d⟩ := fr.other h3 n32
  exact ⟨J1, J', J3, a, f, c, fun i hi z => b i z hi, n31, d⟩
theorem T3.three {C : Addr} {W : Wd} {p1 p2 p3 : Addr} {S1 S2 S3 : FSt} (h : T3 C W p1 S1 p2 S2 p3 S3) : ∃ J, FdAt C W J p3 S3 := by
  obtain ⟨J1, J2, J3, h1, h2, h3, _⟩ := h.o
  exact ⟨J3, h3⟩
/-- three are made, one behind the other -/
theorem T3.new {C : Addr} {W1 W2 W3 : Wd} {p1 p2 p3 : Addr} {S1 S2 S3 : FSt} {J1 J2 J3 : List Nat} (a1 : FdAt C W1 J1 p1 S1) (a2 : FdAt C W2 J2 p2 S2) (f2 : Fr [W1.length] (W1 ++ [(p2, MO.ins C [] [])]) W2 J2) (a3 : FdAt C W3 J3 p3 S3) (f3 : Fr [W2.length] (W2 ++ [(p3, MO.ins C [] [])]) W3 J3) : T3 C W3 p1 S1 p2 S2 p3 S3 := by
  have g2 : Fr [] W1 W2 J2 := ⟨Nat.le_trans (by simp) f2.l, fun i x e _ => f2.k i x (wapp e) (by have := wlt e; simp; omega), fun i hi => .inr ((f2.n i hi).elim (fun z => by rw [List.mem_singleton.mp z]; exact Nat.le_refl _) fun z => by rw [List.length_append] at z; omega)⟩
  have g3 : Fr [] W2 W3 J3 := ⟨Nat.le_trans (by simp) f3.l, fun i x e _ => f3.k i x (wapp e) (by have := wlt e; simp; omega), fun i hi => .inr ((f3.n i hi).elim (fun z => by rw [List.mem_singleton.mp z]; exact Nat.le_refl _) fun z => by rw [List.length_append] at z; omega)⟩
  obtain ⟨b1, b2⟩ := g2.other a1 (fun _ _ z => by cases z)
  obtain ⟨c1, c2⟩ := g3.other b1 (fun _ _ z => by cases z)
  obtain ⟨d1, d2⟩ := g3.other a2 (fun _ _ z => by cases z)
  exact ⟨J1, J2, J3, c1, d1, a3, fun i hi z => b2 i z hi, fun i hi z => c2 i z hi, fun i hi z => d2 i z hi⟩
end Lf
set_option Elab.async false
set_option linter.all false
set_option maxRecDepth 100000
set_option maxHeartbeats 1000000
namespace K71
open PySem PySem.Spec PyProof.Rows L2 LamX Lf
def topS (i : Nat) : Stmt := PySem.Challenge.pw_letterfinds_k71_whole_finders_anew.main.body.getD i (.Pass ⟨0, 0, 0, 0⟩)
abbrev st_is_count : Stmt := topS 17
abbrev nm_is_count : List Str := ["thing", "low", "high"]
theorem sc_is_count : FnScope nm_is_count ["thing", "low", "high"] (defScope st_is_count) := ⟨rfl, rfl, rfl, by decide +kernel, rfl, by decide +kernel, by decide +kernel⟩
abbrev st_is_name : Stmt := topS 18
abbrev nm_is_name : List Str := ["thing", "sign"]
theorem sc_is_name : FnScope nm_is_name ["thing"] (defScope st_is_name) := ⟨rfl, rfl, rfl, by decide +kernel, rfl, by decide +kernel, by decide +kernel⟩
abbrev st_is_ask : Stmt := topS 19
abbrev nm_is_ask : List Str := ["thing", "sign"]
theorem sc_is_ask : FnScope nm_is_ask ["thing"] (defScope st_is_ask) := ⟨rfl, rfl, rfl, by decide +kernel, rfl, by decide +kernel, by decide +kernel⟩
abbrev st_need_name : Stmt := topS 20
abbrev nm_need_name : List Str := ["name"]
theorem sc_need_name : FnScope nm_need_name ["name"] (defScope st_need_name) := ⟨rfl, rfl, rfl, by decide +kernel, rfl, by decide +kernel, by decide +kernel⟩
abbrev st_need_ask : Stmt := topS 21
abbrev nm_need_ask : List Str := ["ask"]
theorem sc_need_ask : FnScope nm_need_ask ["ask"] (defScope st_need_ask) := ⟨rfl, rfl, rfl, by decide +kernel, rfl, by decide +kernel, by decide +kernel⟩
abbrev st_small : Stmt := topS 22
abbrev nm_small : List Str := ["sign"]
theorem sc_small : FnScope nm_small ["sign"] (defScope st_small) := ⟨rfl, rfl, rfl, by decide +kernel, rfl, by decide +kernel, by decide +kernel⟩
abbrev st_is_hit : Stmt := topS 23
abbrev nm_is_hit : List Str := ["own", "sign"]
theorem sc_is_hit : FnScope nm_is_hit ["own", "sign"] (defScope st_is_hit) := ⟨rfl, rfl, rfl, by decide +kernel, rfl, by decide +kernel, by decide +kernel⟩
abbrev st_begins : Stmt := topS 24
abbrev nm_begins : List Str := ["name", "at"]
theorem sc_begins : FnScope nm_begins ["name", "at"] (defScope st_begins) := ⟨rfl, rfl, rfl, by decide +kernel, rfl, by decide +kernel, by decide +kernel⟩
abbrev st_greedy : Stmt := topS 26
abbrev nm_greedy : List Str := ["ask", "name", "found", "at", "own"]
theorem sc_greedy : FnScope nm_greedy ["ask", "name"] (defScope st_greedy) := ⟨rfl, rfl, rfl, by decide +kernel, rfl, by decide +kernel, by decide +kernel⟩
abbrev st_need_marks : Stmt := topS 30
abbrev nm_need_marks : List Str := ["marks", "good", "one"]
theorem sc_need_marks : FnScope nm_need_marks ["marks"] (defScope st_need_marks) := ⟨rfl, rfl, rfl, by decide +kernel, rfl, by decide +kernel, by decide +kernel⟩
abbrev st_own_worth : Stmt := topS 31
abbrev nm_own_worth : List Str := ["marks", "own", "name", "at", "found"]
theorem sc_own_worth : FnScope nm_own_worth ["marks", "own", "name", "at"] (defScope st_own_worth) := ⟨rfl, rfl, rfl, by decide +kernel, rfl, by decide +kernel, by decide +kernel⟩
abbrev st_gap_worth : Stmt := topS 32
abbrev nm_gap_worth : List Str := ["marks", "one", "other"]
theorem sc_gap_worth : FnScope nm_gap_worth ["marks", "one", "other"] (defScope st_gap_worth) := ⟨rfl, rfl, rfl, by decide +kernel, rfl, by decide +kernel, by decide +kernel⟩
abbrev st_best_of : Stmt := topS 33
abbrev nm_best_of : List Str := ["marks", "ask", "name", "rows", "number", "found", "at", "later", "own", "place", "more"]
theorem sc_best_of : FnScope nm_best_of ["marks", "ask", "name"] (defScope st_best_of) := ⟨rfl, rfl, rfl, by decide +kernel, rfl, by decide +kernel, by decide +kernel⟩
abbrev st_need_names : Stmt := topS 36
abbrev nm_need_names : List Str := ["names", "name"]
theorem sc_need_names : FnScope nm_need_names ["names"] (defScope st_need_names) := ⟨rfl, rfl, rfl, by decide +kernel, rfl, by decide +kernel, by decide +kernel⟩
abbrev st_ranked : Stmt := topS 37
abbrev nm_ranked : List Str := ["rows"]
theorem sc_ranked : FnScope nm_ranked ["rows"] (defScope st_ranked) := ⟨rfl, rfl, rfl, by decide +kernel, rfl, by decide +kernel, by decide +kernel⟩
abbrev st_hits_of : Stmt := topS 38
abbrev nm_hits_of : List Str := ["marks", "ask", "pairs", "rows", "number", "name", "own"]
theorem sc_hits_of : FnScope nm_hits_of ["marks", "ask", "pairs"] (defScope st_hits_of) := ⟨rfl, rfl, rfl, by decide +kernel, rfl, by decide +kernel, by decide +kernel⟩
abbrev st_hits : Stmt := topS 39
abbrev nm_hits : List Str := ["marks", "ask", "names", "most", "number", "name", "own", "places"]
theorem sc_hits : FnScope nm_hits ["marks", "ask", "names", "most"] (defScope st_hits) := ⟨rfl, rfl, rfl, by decide +kernel, rfl, by decide +kernel, by decide +kernel⟩
abbrev st_Finder_init : Stmt := inClass (topS 41) 0
abbrev nm_Finder_init : List Str := ["self", "marks", "%w"]
theorem sc_Finder_init : FnScope nm_Finder_init ["self", "marks"] (defScope st_Finder_init) := ⟨rfl, rfl, rfl, by decide +kernel, rfl, by decide +kernel, by decide +kernel⟩
abbrev st_Finder_add : Stmt := inClass (topS 41) 1
abbrev nm_Finder_add : List Str := ["self", "name", "number", "at", "row", "%w"]
theorem sc_Finder_add : FnScope nm_Finder_add ["self", "name"] (defScope st_Finder_add) := ⟨rfl, rfl, rfl, by decide +kernel, rfl, by decide +kernel, by decide +kernel⟩
abbrev st_Finder_need_number : Stmt := inClass (topS 41) 2
abbrev nm_Finder_need_number : List Str := ["self", "number", "%w"]
theorem sc_Finder_need_number : FnScope nm_Finder_need_number ["self", "number"] (defScope st_Finder_need_number) := ⟨rfl, rfl, rfl, by decide +kernel, rfl, by decide +kernel, by decide +kernel⟩
abbrev st_Finder_drop : Stmt := inClass (topS 41) 3
abbrev nm_Finder_drop : List Str := ["self", "number", "row", "one", "%w"]
theorem sc_Finder_drop : FnScope nm_Finder_drop ["self", "number"] (defScope st_Finder_drop) := ⟨rfl, rfl, rfl, by decide +kernel, rfl, by decide +kernel, by decide +kernel⟩
abbrev st_Finder_press : Stmt := inClass (topS 41) 4
abbrev nm_Finder_press : List Str := ["self", "sign", "one", "%w"]
theorem sc_Finder_press : FnScope nm_Finder_press ["self", "sign"] (defScope st_Finder_press) := ⟨rfl, rfl, rfl, by decide +kernel, rfl, by decide +kernel, by decide +kernel⟩
abbrev st_Finder_rub : Stmt := inClass (topS 41) 5
abbrev nm_Finder_rub : List Str := ["self", "%w"]
theorem sc_Finder_rub : FnScope nm_Finder_rub ["self"] (defScope st_Finder_rub) := ⟨rfl, rfl, rfl, by decide +kernel, rfl, by decide +kernel, by decide +kernel⟩
abbrev st_Finder_ask : Stmt := inClass (topS 41) 6
abbrev nm_Finder_ask : List Str := ["self", "%w"]
theorem sc_Finder_ask : FnScope nm_Finder_ask ["self"] (defScope st_Finder_ask) := ⟨rfl, rfl, rfl, by decide +kernel, rfl, by decide +kernel, by decide +kernel⟩
abbrev st_Finder_many : Stmt := inClass (topS 41) 7
abbrev nm_Finder_many : List Str := ["self", "%w"]
theorem sc_Finder_many : FnScope nm_Finder_many ["self"] (defScope st_Finder_many) := ⟨rfl, rfl, rfl, by decide +kernel, rfl, by decide +kernel, by decide +kernel⟩
abbrev st_Finder_names : Stmt := inClass (topS 41) 8
abbrev nm_Finder_names : List Str := ["self", "number", "%w"]
theorem sc_Finder_names : FnScope nm_Finder_names ["self"] (defScope st_Finder_names) := ⟨rfl, rfl, rfl, by decide +kernel, rfl, by decide +kernel, by decide +kernel⟩
abbrev st_Finder_hits : Stmt := inClass (topS 41) 9
abbrev nm_Finder_hits : List Str := ["self", "most", "some", "number", "name", "own", "places", "%w"]
theorem sc_Finder_hits : FnScope nm_Finder_hits ["self", "most"] (defScope st_Finder_hits) := ⟨rfl, rfl, rfl, by decide +kernel, rfl, by decide +kernel, by decide +kernel⟩
abbrev st_Finder_best : Stmt := inClass (topS 41) 10
abbrev nm_Finder_best : List Str := ["self", "found", "%w"]
theorem sc_Finder_best : FnScope nm_Finder_best ["self"] (defScope st_Finder_best) := ⟨rfl, rfl, rfl, by decide +kernel, rfl, by decide +kernel, by decide +kernel⟩
abbrev st_law_cell : Stmt := topS 43
abbrev nm_law_cell : List Str := ["script", "k"]
theorem sc_law_cell : FnScope nm_law_cell ["script", "k"] (defScope st_law_cell) := ⟨rfl, rfl, rfl, by decide +kernel, rfl, by decide +kernel, by decide +kernel⟩
abbrev st_law_drawn : Stmt := topS 44
abbrev nm_law_drawn : List Str := ["cell", "k", "more"]
theorem sc_law_drawn : FnScope nm_law_drawn ["cell", "k"] (defScope st_law_drawn) := ⟨rfl, rfl, rfl, by decide +kernel, rfl, by decide +kernel, by decide +kernel⟩
abbrev st_law_word : Stmt := topS 45
abbrev nm_law_word : List Str := ["e", "flags", "words_here", "flag"]
theorem sc_law_word : FnScope nm_law_word ["e"] (defScope st_law_word) := ⟨rfl, rfl, rfl, by decide +kernel, rfl, by decide +kernel, by decide +kernel⟩
abbrev st_law_told : Stmt := topS 46
abbrev nm_law_told : List Str := ["deed", "e"]
theorem sc_law_told : FnScope nm_law_told ["deed"] (defScope st_law_told) := ⟨rfl, rfl, rfl, by decide +kernel, rfl, by decide +kernel, by decide +kernel⟩
abbrev st_law_sign : Stmt := topS 47
abbrev nm_law_sign : List Str := ["more"]
theorem sc_law_sign : FnScope nm_law_sign ["more"] (defScope st_law_sign) := ⟨rfl, rfl, rfl, by decide +kernel, rfl, by decide +kernel, by decide +kernel⟩
abbrev st_law_name : Stmt := topS 48
abbrev nm_law_name : List Str := ["more", "most", "j"]
theorem sc_law_name : FnScope nm_law_name ["more", "most"] (defScope st_law_name) := ⟨rfl, rfl, rfl, by decide +kernel, rfl, by decide +kernel, by decide +kernel⟩
abbrev st_law_ask_in : Stmt := topS 49
abbrev nm_law_ask_in : List Str := ["more", "name", "most", "found", "at", "j", "here"]
theorem sc_law_ask_in : FnScope nm_law_ask_in ["more", "name", "most"] (defScope st_law_ask_in) := ⟨rfl, rfl, rfl, by decide +kernel, rfl, by decide +kernel, by decide +kernel⟩
abbrev st_law_marks : Stmt := topS 50
abbrev nm_law_marks : List Str := ["more", "here", "j"]
theorem sc_law_marks : FnScope nm_law_marks ["more"] (defScope st_law_marks) := ⟨rfl, rfl, rfl, by decide +kernel, rfl, by decide +kernel, by decide +kernel⟩
abbrev st_law_names : Stmt := topS 51
abbrev nm_law_names : List Str := ["more", "many", "most", "j"]
theorem sc_law_names : FnScope nm_law_names ["more", "many", "most"] (defScope st_law_names) := ⟨rfl, rfl, rfl, by decide +kernel, rfl, by decide +kernel, by decide +kernel⟩
abbrev st_law_back_right : Stmt := topS 52
abbrev nm_law_back_right : List Str := ["finder", "ask", "states", "sign", "%w"]
theorem sc_law_back_right : FnScope nm_law_back_right ["finder"] (defScope st_law_back_right) := ⟨rfl, rfl, rfl, by decide +kernel, rfl, by decide +kernel, by decide +kernel⟩
abbrev st_law_full_right : Stmt := topS 53
abbrev nm_law_full_right : List Str := ["finder", "j", "%w"]
theorem sc_law_full_right : FnScope nm_law_full_right ["finder"] (defScope st_law_full_right) := ⟨rfl, rfl, rfl, by decide +kernel, rfl, by decide +kernel, by decide +kernel⟩
abbrev st_law_led_round : Stmt := topS 54
abbrev nm_law_led_round : List Str := ["finder", "names", "ask", "more", "gone", "j", "sign", "number", "name", "extra", "%w"]
theorem sc_law_led_round : FnScope nm_law_led_round ["finder", "names", "ask", "more"] (defScope st_law_led_round) := ⟨rfl, rfl, rfl, by decide +kernel, rfl, by decide +kernel, by decide +kernel⟩
abbrev st_law : Stmt := topS 55
abbrev nm_law : List Str := ["script", "k", "more", "marks", "names", "ask", "one", "other", "third", "name", "sign", "due", "number", "price", "spots", "%w"]
theorem sc_law : FnScope nm_law ["script"] (defScope st_law) := ⟨rfl, rfl, rfl, by decide +kernel, rfl, by decide +kernel, by decide +kernel⟩
structure Tx (G : Pg) (T : List (Addr × Str)) (c0 c1 c2 c3 c4 c5 c6 c7 cS cL kFinder cM0 PM0 cM1 PM1 : Addr) : Prop where
  c_SMALL : ∃ t, G.mg "SMALL" = some (.str ⟨lSmall.toArray⟩ t)
  c_GREAT : ∃ t, G.mg "GREAT" = some (.str ⟨lGreat.toArray⟩ t)
  c_FIGURES : ∃ t, G.mg "FIGURES" = some (.str ⟨lFig.toArray⟩ t)
  c_OTHERS : ∃ t, G.mg "OTHERS" = some (.str ⟨lOth.toArray⟩ t)
  c_MOST_NAME : ∃ t, G.mg "MOST_NAME" = some (.int 30 t)
  c_MOST_ASK : ∃ t, G.mg "MOST_ASK" = some (.int 8 t)
  c_MOST_NAMES : ∃ t, G.mg "MOST_NAMES" = some (.int 60 t)
  c_MOST_MARK : ∃ t, G.mg "MOST_MARK" = some (.int 50 t)
  c_NAMES : KTp G.K G.mg "NAMES" 6
  b_isinstance : G.mg "isinstance" = none
  b_int : G.mg "int" = none
  b_bool : G.mg "bool" = none
  b_all : G.mg "all" = none
  b_str : G.mg "str" = none
  b_len : G.mg "len" = none
  b_tuple : G.mg "tuple" = none
  b_range : G.mg "range" = none
  b_sorted : G.mg "sorted" = none
  b_list : G.mg "list" = none
  b_enumerate : G.mg "enumerate" = none
  b_sum : G.mg "sum" = none
  b_ValueError : G.mg "ValueError" = none
  b_max : G.mg "max" = none
  b_min : G.mg "min" = none
  d_is_count : Df G "is_count" st_is_count ["thing", "low", "high"]
  d_is_name : Df G "is_name" st_is_name ["thing"]
  d_is_ask : Df G "is_ask" st_is_ask ["thing"]
  d_need_name : Df G "need_name" st_need_name ["name"]
  d_need_ask : Df G "need_ask" st_need_ask ["ask"]
  d_small : Df G "small" st_small ["sign"]
  d_is_hit : Df G "is_hit" st_is_hit ["own", "sign"]
  d_begins : Df G "begins" st_begins ["name", "at"]
  d_greedy : Df G "greedy" st_greedy ["ask", "name"]
  d_need_marks : Df G "need_marks" st_need_marks ["marks"]
  d_own_worth : Df G "own_worth" st_own_worth ["marks", "own", "name", "at"]
  d_gap_worth : Df G "gap_worth" st_gap_worth ["marks", "one", "other"]
  d_best_of : Df G "best_of" st_best_of ["marks", "ask", "name"]
  d_need_names : Df G "need_names" st_need_names ["names"]
  d_ranked : DfL G "ranked" st_ranked ["rows"] cM0
  d_hits_of : Df G "hits_of" st_hits_of ["marks", "ask", "pairs"]
  d_hits : Df G "hits" st_hits ["marks", "ask", "names", "most"]
  m_Finder_init : MtI G kFinder "Finder.__init__" st_Finder_init ["self", "marks"]
  m_Finder_add : Mt G kFinder "add" "Finder.add" st_Finder_add ["self", "name"]
  m_Finder_need_number : Mt G kFinder "need_number" "Finder.need_number" st_Finder_need_number ["self", "number"]
  m_Finder_drop : Mt G kFinder "drop" "Finder.drop" st_Finder_drop ["self", "number"]
  m_Finder_press : Mt G kFinder "press" "Finder.press" st_Finder_press ["self", "sign"]
  m_Finder_rub : Mt G kFinder "rub" "Finder.rub" st_Finder_rub ["self"]
  m_Finder_ask : Mt G kFinder "ask" "Finder.ask" st_Finder_ask ["self"]
  m_Finder_many : Mt G kFinder "many" "Finder.many" st_Finder_many ["self"]
  m_Finder_names : Mt G kFinder "names" "Finder.names" st_Finder_names ["self"]
  m_Finder_hits : Mt G kFinder "hits" "Finder.hits" st_Finder_hits ["self", "most"]
  m_Finder_best : Mt G kFinder "best" "Finder.best" st_Finder_best ["self"]
  d_law_cell : Df G "_law_cell" st_law_cell ["script", "k"]
  d_law_drawn : Df G "_law_drawn" st_law_drawn ["cell", "k"]
  d_law_word : Df G "_law_word" st_law_word ["e"]
  d_law_told : Df G "_law_told" st_law_told ["deed"]
  d_law_sign : Df G "_law_sign" st_law_sign ["more"]
  d_law_name : Df G "_law_name" st_law_name ["more", "most"]
  d_law_ask_in : Df G "_law_ask_in" st_law_ask_in ["more", "name", "most"]
  d_law_marks : Df G "_law_marks" st_law_marks ["more"]
  d_law_names : Df G "_law_names" st_law_names ["more", "many", "most"]
  d_law_back_right : Df G "_law_back_right" st_law_back_right ["finder"]
  d_law_full_right : DfL G "_law_full_right" st_law_full_right ["finder"] cM1
  d_law_led_round : Df G "_law_led_round" st_law_led_round ["finder", "names", "ask", "more"]
  k_Finder : ClsX G.K G.mg "Finder" kFinder ["marks", "rows", "next_number", "typed", "fits"]
  g_BadName : G.mg "BadName" = some (.ref c0)
  g_BadAsk : G.mg "BadAsk" = some (.ref c1)
  g_BadMarks : G.mg "BadMarks" = some (.ref c2)
  g_BadPlaces : G.mg "BadPlaces" = some (.ref c3)
  g_BadNumber : G.mg "BadNumber" = some (.ref c4)
  g_NoName : G.mg "NoName" = some (.ref c5)
  g_Nothing : G.mg "Nothing" = some (.ref c6)
  g_BadText : G.mg "BadText" = some (.ref c7)
  g_FindError : G.mg "FindError" = some (.ref cS)
  w_BadName : EwX G.K [c0, c1, c2, c3, c4, c5, c6, c7] cS c0 0
  w_BadAsk : EwX G.K [c0, c1, c2, c3, c4, c5, c6, c7] cS c1 1
  w_BadMarks : EwX G.K [c0, c1, c2, c3, c4, c5, c6, c7] cS c2 2
  w_BadNumber : EwX G.K [c0, c1, c2, c3, c4, c5, c6, c7] cS c4 4
  w_NoName : EwX G.K [c0, c1, c2, c3, c4, c5, c6, c7] cS c5 5
  w_Nothing : EwX G.K [c0, c1, c2, c3, c4, c5, c6, c7] cS c6 6
  tb_ranked : TabB G.base G.mg cM0 PM0
  hm_ranked : (PM0, ("ranked" : Str) ++ ".<locals>." ++ "<lambda>") ∈ T
  hu_ranked : ∀ p ∈ T, p.1 = PM0 → p.2 = ("ranked" : Str) ++ ".<locals>." ++ "<lambda>"
  tb_law_full_right : TabB G.base G.mg cM1 PM1
  hm_law_full_right : (PM1, ("_law_full_right" : Str) ++ ".<locals>." ++ "<lambda>") ∈ T
  hu_law_full_right : ∀ p ∈ T, p.1 = PM1 → p.2 = ("_law_full_right" : Str) ++ ".<locals>." ++ "<lambda>"
/-- the eight classes, as the module holds them -/
structure ErrG (mg : Str → Option Value) (c0 c1 c2 c3 c4 c5 c6 c7 : Addr) : Prop where
  g0 : mg "BadName" = some (.ref c0)
  g1 : mg "BadAsk" = some (.ref c1)
  g2 : mg "BadMarks" = some (.ref c2)
  g3 : mg "BadPlaces" = some (.ref c3)
  g4 : mg "BadNumber" = some (.ref c4)
  g5 : mg "NoName" = some (.ref c5)
  g6 : mg "Nothing" = some (.ref c6)
  g7 : mg "BadText" = some (.ref c7)
section
open L2H HotX
variable {P : Program} {w : World} {K : PySem.W.Frag} {mg : Str → Option Value} {base : Heap}
theorem ok_word {c0 c1 c2 c3 c4 c5 c6 c7 f : Addr} {fd : FuncData} (Fn : Fun K "_law_word" "_law_word" st_law_word f fd) (G : ErrG mg c0 c1 c2 c3 c4 c5 c6 c7) (b1 : mg "isinstance" = none) (b2 : mg "sum" = none) (b3 : mg "int" = none) (b4 : mg "ValueError" = none) :
    FnE P w K mg base 1 f fd "e" (spWord K [c0, c1, c2, c3, c4, c5, c6, c7]) := by
  obtain ⟨oc, od, kV, doc, pm, an, cdv, ct, osl, rfl, lk, hcd⟩ := Fn.ex
  refine fe_of lk hcd sc_law_word fun A outer s H Q p hot hr h => ?_
  obtain ⟨C, j, wd, hz, hf, ew, hw, q⟩ := h
  obtain ⟨a, oe⟩ := p
  have hc : HotC (cxH L2.CX0 P w K mg base nm_law_word "_law_word" (defScope st_law_word) f cdv A outer s H L2.E0 (a, oe)) := ⟨(a, oe), ⟨hot.1, hot.2⟩, List.mem_cons_self⟩
  have ci : CallR (cxH L2.CX0 P w K mg base nm_law_word "_law_word" (defScope st_law_word) f cdv A outer s H L2.E0 (a, oe)) (.builtin "isinstance") (rIsE K C a) := call_isP ew.exc List.mem_cons_self hz hf
  have hj : j < 8 := by
    have := (List.getElem?_eq_some_iff.mp ew.at_).1
    simpa using this
  refine ⟨_, pss_cons (ps_set (i := 1) sc_law_word.nd rfl (Or.inl rfl) (pe_lst (pa_cons (pe_callB ci rfl b1 (by decide +kernel) (pa_cons (pv 0) (pa_cons (pe_glob (v := .ref c0) rfl G.g0 rfl) pa_nil))) (pa_cons (pe_callB ci rfl b1 (by decide +kernel) (pa_cons (pv 0) (pa_cons (pe_glob (v := .ref c1) rfl G.g1 rfl) pa_nil))) (pa_cons (pe_callB ci rfl b1 (by decide +kernel) (pa_cons (pv 0) (pa_cons (pe_glob (v := .ref c2) rfl G.g2 rfl) pa_nil))) (pa_cons (pe_callB ci rfl b1 (by decide +kernel) (pa_cons (pv 0) (pa_cons (pe_glob (v := .ref c3) rfl G.g3 rfl) pa_nil))) pa_nil))))))
    (pss_cons (ps_set (i := 1) sc_law_word.nd rfl (Or.inl rfl) (pe_op op_cat (pv 1) (pe_lst (pa_cons (pe_callB ci rfl b1 (by decide +kernel) (pa_cons (pv 0) (pa_cons (pe_glob (v := .ref c4) rfl G.g4 rfl) pa_nil))) (pa_cons (pe_callB ci rfl b1 (by decide +kernel) (pa_cons (pv 0) (pa_cons (pe_glob (v := .ref c5) rfl G.g5 rfl) pa_nil))) (pa_cons (pe_callB ci rfl b1 (by decide +kernel) (pa_cons (pv 0) (pa_cons (pe_glob (v := .ref c6) rfl G.g6 rfl) pa_nil))) (pa_cons (pe_callB ci rfl b1 (by decide +kernel) (pa_cons (pv 0) (pa_cons (pe_glob (v := .ref c7) rfl G.g7 rfl) pa_nil))) pa_nil)))))))
    (pss_cons (ps_if (PW.pt (pw_or (pt_cmpR op_ne (pe_callB (cr_sumH hc) rfl b2 (by decide +kernel) (pa_cons (pe_bits hc b3 (pv 1) rfl rfl rfl (by decide) (by decide) (by decide)) pa_nil)) pe_int (nomark _)) (pw_or1 (pt_not (pt_val (pe_callB ci rfl b1 (by decide +kernel) (pa_cons (pv 0) (pa_cons (pe_bltn (v := .ty "ValueError") rfl b4 (by decide +kernel) rfl) pa_nil)))))))) (pss_one (ps_ret pe_str)) pss_nil)
    (pss_cons (ps_set (i := 2) sc_law_word.nd rfl (Or.inl rfl) (pe_lst (pa_cons pe_str (pa_cons pe_str (pa_cons pe_str (pa_cons pe_str (pa_cons pe_str (pa_cons pe_str (pa_cons pe_str (pa_cons pe_str pa_nil))))))))))
    (pss_one (ps_ret (pe_ix ix_list (pv 2) (pe_bm PySem.F.plainAttrs_list PySem.F.slot_list_index PySem.F.type_list_index mt_index (pv 1) (pa_cons pe_bl pa_nil)) (fun _ _ => rfl))))))), ?_⟩
  refine ⟨_, rfl, .ref c0, .ref c0, _, rfl, fun u r => r, ew.kit 0 c0 rfl, _, rfl, .ref c1, .ref c1, _, rfl, fun u r => r, ew.kit 1 c1 rfl, _, rfl, .ref c2, .ref c2, _, rfl, fun u r => r, ew.kit 2 c2 rfl, _, rfl, .ref c3, .ref c3, _, rfl, fun u r => r, ew.kit 3 c3 rfl, by show 4 ≤ sizeLine; decide, fun l1 n1 => ?_⟩
  refine ⟨_, rfl, _, rfl, .ref c4, .ref c4, _, rfl, fun u r => r, ew.kit 4 c4 rfl, _, rfl, .ref c5, .ref c5, _, rfl, fun u r => r, ew.kit 5 c5 rfl, _, rfl, .ref c6, .ref c6, _, rfl, fun u r => r, ew.kit 6 c6 rfl, _, rfl, .ref c7, .ref c7, _, rfl, fun u r => r, ew.kit 7 c7 rfl, by show 4 ≤ sizeLine; decide, fun l2 n2 => ?_⟩
  have n21 : l2 ≠ l1 := fun z => by rw [z, upd_same] at n2; cases n2
  refine ⟨l1, l2, _, _, rfl, rfl, by rw [upd_ne n21.symm, upd_same], upd_same, by show 4 + 4 ≤ sizeLine; decide, fun l3 n3 => ?_⟩
  have h3 : ∀ (bs : List V), (upd (upd (upd H l1 (.lst [V.bl (decide (0 = j)), V.bl (decide (1 = j)), V.bl (decide (2 = j)), V.bl (decide (3 = j))])) l2 (.lst [V.bl (decide (4 = j)), V.bl (decide (5 = j)), V.bl (decide (6 = j)), V.bl (decide (7 = j))])) l3 (.lst bs)) l3 = some (.lst bs) := fun bs => upd_same
  refine ⟨_, rfl, l3, bits j, rfl, SqL.of (h3 _), by show (List.map _ (List.range 8)).length ≤ 1000; rw [List.length_map, List.length_range]; decide, fun l4 n4 => ?_⟩
  have n43 : l3 ≠ l4 := fun z => by rw [← z, h3] at n4; cases n4
  refine ⟨l4, (bits j).map fun b => if b then 1 else 0, rfl, SqL.of (by rw [List.map_map]; exact upd_same), rfl, _, rfl, ?_⟩
  have hsum : ((bits j).map fun b => if b then (1 : Int) else 0).sum = 1 := by
    have hh : j = 0 ∨ j = 1 ∨ j = 2 ∨ j = 3 ∨ j = 4 ∨ j = 5 ∨ j = 6 ∨ j = 7 := by omega
    rcases hh with rfl | rfl | rfl | rfl | rfl | rfl | rfl | rfl <;> rfl
  rw [hsum]
  refine iteF ⟨_, rfl, .ty "ValueError", .type "ValueError", _, rfl, fun u r => r, ew.kv, _, rfl, iteF ?_⟩
  refine ⟨by show 8 ≤ sizeLine; decide, fun l5 n5 => ?_⟩
  have n53 : l3 ≠ l5 := fun z => by rw [← z, upd_ne n43, h3] at n5; cases n5
  have g3 : ∀ (o4 o5 : HO) (bs : List V), (upd (upd (upd (upd (upd H l1 (.lst [V.bl (decide (0 = j)), V.bl (decide (1 = j)), V.bl (decide (2 = j)), V.bl (decide (3 = j))])) l2 (.lst [V.bl (decide (4 = j)), V.bl (decide (5 = j)), V.bl (decide (6 = j)), V.bl (decide (7 = j))])) l3 (.lst bs)) l4 o4) l5 o5) l3 = some (.lst bs) := fun o4 o5 bs => by
    rw [upd_ne n53, upd_ne n43, upd_same]
  refine ⟨_, rfl, _, rfl, .inl ⟨rfl, _, SqL.of (g3 _ _ _)⟩, l3, (bits j).map V.bl, .bl true, j, .bl true, rfl, rfl, SqL.of (g3 _ _ _), rfl, ?_, ?_, rfl, ?_, l5, _, ((j : Nat) : Int), .str wd, rfl, rfl, SqL.of upd_same, atI_nat ?_, ?_⟩
  · simp [bits, flatV]
  · rw [List.getElem?_map]
    simp [bits, hj]
  · intro m z' hm hz'
    rw [List.getElem?_map] at hz'
    have hm8 : m < 8 := by omega
    simp [bits, hm8] at hz'
    rw [← hz']
    have : ¬ m = j := by omega
    simp [this, eqV]
  · have hh : j = 0 ∨ j = 1 ∨ j = 2 ∨ j = 3 ∨ j = 4 ∨ j = 5 ∨ j = 6 ∨ j = 7 := by omega
    rcases hh with rfl | rfl | rfl | rfl | rfl | rfl | rfl | rfl <;> (cases hw; rfl)
  · refine q _ fun b o e => ?_
    have f1 : b ≠ l1 := ne_of_none e n1
    have f2 : b ≠ l2 := fun z => by rw [← z, upd_ne f1, e] at n2; cases n2
    have f3 : b ≠ l3 := fun z => by rw [← z, upd_ne f2, upd_ne f1, e] at n3; cases n3
    have f4 : b ≠ l4 := fun z => by rw [← z, upd_ne f3, upd_ne f2, upd_ne f1, e] at n4; cases n4
    have f5 : b ≠ l5 := fun z => by rw [← z, upd_ne f4, upd_ne f3, upd_ne f2, upd_ne f1, e] at n5; cases n5
    rw [upd_ne f5, upd_ne f4, upd_ne f3, upd_ne f2, upd_ne f1]
    exact e
end
theorem p_told {G : Pg} {T : List (Addr × Str)} {c0 c1 c2 c3 c4 c5 c6 c7 cS cL PL : Addr} (Z : Tx G T c0 c1 c2 c3 c4 c5 c6 c7 cS cL kFinder cM0 PM0 cM1 PM1) : ToldG G.prog G.w G.K G.mg G.base [c0, c1, c2, c3, c4, c5, c6, c7] cS st_law_told where
  d := Z.d_law_told.ex
  sc := sc_law_told
  bd := ⟨_, _, _, _, _, _, _, _, _, _, rfl⟩
  s1 := rfl
  s2 := rfl
  s3 := rfl
  s4 := rfl
  cls := Z.g_FindError
  word := by
    obtain ⟨f, fd, Fn, m, b⟩ := Z.d_law_word.ex
    exact ⟨f, fd, ok_word Fn ⟨Z.g_BadName, Z.g_BadAsk, Z.g_BadMarks, Z.g_BadPlaces, Z.g_BadNumber, Z.g_NoName, Z.g_Nothing, Z.g_BadText⟩ Z.b_isinstance Z.b_sum Z.b_int Z.b_ValueError, m, Fn.kp, b⟩
section
variable {G : Pg} {T : List (Addr × Str)} {c0 c1 c2 c3 c4 c5 c6 c7 cS cL kFinder cM0 PM0 cM1 PM1 : Addr}
theorem p_is_count (Z : Tx G T c0 c1 c2 c3 c4 c5 c6 c7 cS cL kFinder cM0 PM0 cM1 PM1) : Fd G.prog G.w G.K G.mg G.base "is_count" 1 ["thing", "low", "high"] (spD T R_is_count) := by
  refine fd_data Z.d_is_count sc_is_count (fun ds r h => by obtain ⟨d, lo, hi, rfl, _⟩ := h; rfl) fun r F ds res cd hr h => ?_
  have cx := cd.toCtx
  obtain ⟨d, lo, hi, rfl, hnp, rfl⟩ := h
  have no : kitB (tyN d) "int" = some false → isCnt d lo hi = false → PSs (G.cx nm_is_count r) (defBody st_is_count) (sD F (start0 nm_is_count [d, .int lo, .int hi]) (postOf (.ok (.bool (isCnt d lo hi))))) := fun h0 h1 => by
    rw [h1]
    exact s_ret (x_and (j := true) (x_isi (T := "int") cx (x_var 0 cx rfl) Z.b_isinstance Z.b_int (by decide +kernel) h0) fun hb => by cases hb) rfl
  cases d with
  | int i =>
    refine (s_ret (x_and (x_isi (T := "int") cx (x_var 0 cx rfl) Z.b_isinstance Z.b_int (by decide +kernel) (show kitB (tyN (.int i)) _ = some true from rfl)) fun hb => (x_and (x_not (x_isi (T := "bool") cx (x_var 0 cx rfl) Z.b_isinstance Z.b_bool (by decide +kernel) (show kitB (tyN (.int i)) _ = some false from rfl))) fun hb => (x_one (x_chain op_le op_le od_b0 (fun hb => od_b0) (x_var 1 cx rfl) (x_var 0 cx rfl) (x_var 2 cx rfl))))) ?_)
    rfl
  | bool b =>
    exact s_ret (x_and (x_isi (T := "int") cx (x_var 0 cx rfl) Z.b_isinstance Z.b_int (by decide +kernel) (show kitB (tyN (.bool b)) _ = some true from rfl)) fun _ => x_and (j := true) (x_not (x_isi (T := "bool") cx (x_var 0 cx rfl) Z.b_isinstance Z.b_bool (by decide +kernel) (show kitB (tyN (.bool b)) _ = some true from rfl))) fun hb => by cases hb) rfl
  | none => exact no rfl rfl
  | str _ => exact no rfl rfl
  | list _ => exact no rfl rfl
  | tuple _ => exact no rfl rfl
  | dict _ => cases hnp
theorem p_is_name (Z : Tx G T c0 c1 c2 c3 c4 c5 c6 c7 cS cL kFinder cM0 PM0 cM1 PM1) : Fd G.prog G.w G.K G.mg G.base "is_name" 1 ["thing"] (spD T R_is_name) := by
  refine fd_data Z.d_is_name sc_is_name (fun ds r h => by obtain ⟨d, rfl, _⟩ := h; rfl) fun r F ds res cd hr h => ?_
  have cx := cd.toCtx
  obtain ⟨d, rfl, hz, rfl⟩ := h
  have hnp := okd_np hz
  by_cases ht : isTx d = true
  · obtain ⟨l, rfl⟩ : ∃ l, d = tx l := ⟨_, tx_of ht⟩
    rw [isName_tx]
    unfold okd at hz
    rw [cod_tx] at hz
    have hz2 : l.length ≤ sizeLine := Nat.le_trans hz (by decide)
    have hz3 : l.length ≤ 100000 := Nat.le_trans hz (by decide)
    refine (s_when (PW.pt (w_or (c_not (c_val (x_isi (T := "str") cx (x_var 0 cx rfl) Z.b_isinstance Z.b_str (by decide +kernel) (show kitB (tyN (tx l)) _ = some true from rfl)))) fun hb => (w_one (c_not (c_chain op_le op_le od_b0 (fun hb => od_b0) x_int (x_bi cx call_len (cd_lenS (by first | omega | decide | (simp; omega) | assumption)) Z.b_len PySem.boot_len (a_cons (x_var 0 cx rfl) a_nil)) (x_kI cx Z.c_MOST_NAME)))))) (fun hc1 => (s_ret x_bool ?_)) (fun hc1 => (s_ret (x_bi cx (cr_all cx.calm) (cd_allD mp_b) Z.b_all (by decide +kernel) (a_cons (x_dl (x_lc [("sign", 1)] (_) (fun (c : Nat) => tx [c]) _ _ _ cx (i_str (x_var 0 cx rfl)) (by first | omega | decide | (simp; omega) | assumption) (by decide +kernel) (fun s H C cl fp => g_nameB 1 (cx.blk s H _ C cl fp)) (fun x hx => tg_name) (wg_name (by decide)) (fun x hx s H C cl fp => ts_nil) (fun x hx hq s H C cl fp => (x_cmp op_inS od_inS (x_var 1 (cx.blk s H _ C cl fp) rfl) (x_op op_add_str (od_catS (by first | omega | decide | (simp; omega) | assumption)) (x_op op_add_str (od_catS (by first | omega | decide | (simp; omega) | assumption)) (x_op op_add_str (od_catS (by first | omega | decide | (simp; omega) | assumption)) (x_kS (cx.blk s H _ C cl fp) Z.c_SMALL) (x_kS (cx.blk s H _ C cl fp) Z.c_GREAT)) (x_kS (cx.blk s H _ C cl fp) Z.c_FIGURES)) (x_kS (cx.blk s H _ C cl fp) Z.c_OTHERS)))))) a_nil)) ?_)))
    · show Except.ok _ = Except.ok _
      refine congrArg (fun b => Except.ok (PyData.bool b)) ?_
      unfold isNm
      simp at hc1
      simp
      omega
    · show Except.ok _ = Except.ok _
      refine congrArg (fun b => Except.ok (PyData.bool b)) ?_
      unfold isNm
      simp at hc1
      simp [hc1, Function.comp_def, lSmall, lGreat, lFig, lOth]
      omega
  · have ht : isTx d = false := by simpa using ht
    refine (s_when (PW.pt (w_or (j := true) (c_not (c_val (x_isi cx (x_var 0 cx rfl) Z.b_isinstance Z.b_str (by decide +kernel) (kit_str ht)))) fun hb => (by cases hb))) (fun hc => (s_ret x_bool ?_)) (fun hc => (by cases hc)))
    show Except.ok _ = Except.ok _
    simp [isName, ht]
theorem p_is_ask (Z : Tx G T c0 c1 c2 c3 c4 c5 c6 c7 cS cL kFinder cM0 PM0 cM1 PM1) : Fd G.prog G.w G.K G.mg G.base "is_ask" 1 ["thing"] (spD T R_is_ask) := by
  refine fd_data Z.d_is_ask sc_is_ask (fun ds r h => by obtain ⟨d, rfl, _⟩ := h; rfl) fun r F ds res cd hr h => ?_
  have cx := cd.toCtx
  obtain ⟨d, rfl, hz, rfl⟩ := h
  have hnp := okd_np hz
  by_cases ht : isTx d = true
  · obtain ⟨l, rfl⟩ : ∃ l, d = tx l := ⟨_, tx_of ht⟩
    rw [isAsk_tx]
    unfold okd at hz
    rw [cod_tx] at hz
    have hz2 : l.length ≤ sizeLine := Nat.le_trans hz (by decide)
    have hz3 : l.length ≤ 100000 := Nat.le_trans hz (by decide)
    refine (s_when (PW.pt (w_or (c_not (c_val (x_isi (T := "str") cx (x_var 0 cx rfl) Z.b_isinstance Z.b_str (by decide +kernel) (show kitB (tyN (tx l)) _ = some true from rfl)))) fun hb => (w_one (c_cmp op_gt od_b0 (x_bi cx call_len (cd_lenS (by first | omega | decide | (simp; omega) | assumption)) Z.b_len PySem.boot_len (a_cons (x_var 0 cx rfl) a_nil)) (x_kI cx Z.c_MOST_ASK))))) (fun hc1 => (s_ret x_bool ?_)) (fun hc1 => (s_ret (x_bi cx (cr_all cx.calm) (cd_allD mp_b) Z.b_all (by decide +kernel) (a_cons (x_dl (x_lc [("sign", 1)] (_) (fun (c : Nat) => tx [c]) _ _ _ cx (i_str (x_var 0 cx rfl)) (by first | omega | decide | (simp; omega) | assumption) (by decide +kernel) (fun s H C cl fp => g_nameB 1 (cx.blk s H _ C cl fp)) (fun x hx => tg_name) (wg_name (by decide)) (fun x hx s H C cl fp => ts_nil) (fun x hx hq s H C cl fp => (x_cmp op_inS od_inS (x_var 1 (cx.blk s H _ C cl fp) rfl) (x_op op_add_str (od_catS (by first | omega | decide | (simp; omega) | assumption)) (x_op op_add_str (od_catS (by first | omega | decide | (simp; omega) | assumption)) (x_kS (cx.blk s H _ C cl fp) Z.c_SMALL) (x_kS (cx.blk s H _ C cl fp) Z.c_GREAT)) (x_kS (cx.blk s H _ C cl fp) Z.c_FIGURES)))))) a_nil)) ?_)))
    · show Except.ok _ = Except.ok _
      refine congrArg (fun b => Except.ok (PyData.bool b)) ?_
      unfold isAs
      simp at hc1
      simp
      omega
    · show Except.ok _ = Except.ok _
      refine congrArg (fun b => Except.ok (PyData.bool b)) ?_
      unfold isAs
      simp at hc1
      simp [hc1, Function.comp_def, lSmall, lGreat, lFig]
      omega
  · have ht : isTx d = false := by simpa using ht
    refine (s_when (PW.pt (w_or (j := true) (c_not (c_val (x_isi cx (x_var 0 cx rfl) Z.b_isinstance Z.b_str (by decide +kernel) (kit_str ht)))) fun hb => (by cases hb))) (fun hc => (s_ret x_bool ?_)) (fun hc => (by cases hc)))
    show Except.ok _ = Except.ok _
    simp [isAsk, ht]
theorem p_need_name (Z : Tx G T c0 c1 c2 c3 c4 c5 c6 c7 cS cL kFinder cM0 PM0 cM1 PM1) : Fd G.prog G.w G.K G.mg G.base "need_name" 2 ["name"] (spD T (R_need_name c0)) := by
  refine fd_data Z.d_need_name sc_need_name (fun ds r h => by obtain ⟨d, rfl, _⟩ := h; rfl) fun r F ds res cd hr h => ?_
  have cx := cd.toCtx
  obtain ⟨d, rfl, hz, rfl⟩ := h
  refine (s_when (c_not (c_val (x_call cx (p_is_name Z) (hr.mono (by omega)) (a_cons (x_var 0 cx rfl) a_nil) ⟨_, rfl, hz, rfl⟩))) (fun hc1 => (s_raise cd Z.w_BadName.ok.x Z.g_BadName Z.w_BadName.ok.k (raises_own Z.w_BadName.ok.e Z.w_BadName.ok.t) ?_)) (fun hc1 => (s_nil ?_)))
  · show (if _ then _ else _) = _
    rw [if_neg (by simpa using hc1)]
  · show (if _ then _ else _) = _
    rw [if_pos (by simpa using hc1)]
theorem p_need_ask (Z : Tx G T c0 c1 c2 c3 c4 c5 c6 c7 cS cL kFinder cM0 PM0 cM1 PM1) : Fd G.prog G.w G.K G.mg G.base "need_ask" 2 ["ask"] (spD T (R_need_ask c1)) := by
  refine fd_data Z.d_need_ask sc_need_ask (fun ds r h => by obtain ⟨d, rfl, _⟩ := h; rfl) fun r F ds res cd hr h => ?_
  have cx := cd.toCtx
  obtain ⟨d, rfl, hz, rfl⟩ := h
  refine (s_when (c_not (c_val (x_call cx (p_is_ask Z) (hr.mono (by omega)) (a_cons (x_var 0 cx rfl) a_nil) ⟨_, rfl, hz, rfl⟩))) (fun hc1 => (s_raise cd Z.w_BadAsk.ok.x Z.g_BadAsk Z.w_BadAsk.ok.k (raises_own Z.w_BadAsk.ok.e Z.w_BadAsk.ok.t) ?_)) (fun hc1 => (s_nil ?_)))
  · show (if _ then _ else _) = _
    rw [if_neg (by simpa using hc1)]
  · show (if _ then _ else _) = _
    rw [if_pos (by simpa using hc1)]
theorem p_small (Z : Tx G T c0 c1 c2 c3 c4 c5 c6 c7 cS cL kFinder cM0 PM0 cM1 PM1) : Fd G.prog G.w G.K G.mg G.base "small" 1 ["sign"] (spD T R_small) := by
  refine fd_data Z.d_small sc_small (fun ds r h => by obtain ⟨c, rfl, _⟩ := h; rfl) fun r F ds res cd hr h => ?_
  have cx := cd.toCtx
  obtain ⟨c, rfl, rfl⟩ := h
  refine s_ret (d := tx [smallC c]) (x_if (c_cmp op_inS od_inS (x_var 0 cx rfl) (x_kS cx Z.c_GREAT)) (fun hb => (x_is (x_ix ix_str (od_ixS (by first | omega | decide | (simp; omega) | assumption) (sm_at (by simpa using hb))) (x_kS cx Z.c_SMALL) (x_m1 PySem.F.slot_str_index PySem.F.type_str_index mt_sindex (md_sindex (sm_idx (by simpa using hb))) (x_kS cx Z.c_GREAT) (x_var 0 cx rfl))) (by first | rfl | (simp_all [smallC]; done)))) (fun hb => (x_is (x_var 0 cx rfl) (by first | rfl | (simp_all [smallC]; done))))) rfl
theorem p_is_hit (Z : Tx G T c0 c1 c2 c3 c4 c5 c6 c7 cS cL kFinder cM0 PM0 cM1 PM1) : Fd G.prog G.w G.K G.mg G.base "is_hit" 2 ["own", "sign"] (spD T R_is_hit) := by
  refine fd_data Z.d_is_hit sc_is_hit (fun ds r h => by obtain ⟨o, s, rfl, _⟩ := h; rfl) fun r F ds res cd hr h => ?_
  have cx := cd.toCtx
  obtain ⟨o, s, rfl, rfl⟩ := h
  refine (s_ret (x_or (x_cmp op_eq od_eqS (x_var 1 cx rfl) (x_var 0 cx rfl)) fun hb => (x_one (x_and (x_cmp op_inS od_inS (x_var 0 cx rfl) (x_kS cx Z.c_SMALL)) fun hb => (x_one (x_cmp op_eq od_eqS (x_call cx (p_small Z) (hr.mono (by omega)) (a_cons (x_var 1 cx rfl) a_nil) ⟨_, rfl, rfl⟩) (x_var 0 cx rfl)))))) ?_)
  show Except.ok _ = Except.ok _
  simp [hitC]
theorem p_begins (Z : Tx G T c0 c1 c2 c3 c4 c5 c6 c7 cS cL kFinder cM0 PM0 cM1 PM1) : Fd G.prog G.w G.K G.mg G.base "begins" 1 ["name", "at"] (spD T R_begins) := by
  refine fd_data Z.d_begins sc_begins (fun ds r h => by obtain ⟨l, i, rfl, _⟩ := h; rfl) fun r F ds res cd hr h => ?_
  have cx := cd.toCtx
  obtain ⟨l, i, rfl, hi, hz, rfl⟩ := h
  have e1 : atI l ((i : Nat) : Int) = some (l.getD i 0) := atI_nat (by rw [List.getElem?_eq_getElem hi]; simp [hi])
  have e2 : i ≠ 0 → atI l (((i : Nat) : Int) - 1) = some (l.getD (i - 1) 0) := fun h => by
    have : ((i : Nat) : Int) - 1 = ((i - 1 : Nat) : Int) := by omega
    rw [this]
    exact atI_nat (by rw [List.getElem?_eq_getElem (by omega)]; simp [show i - 1 < l.length by omega])
  have hz2 : l.length ≤ sizeLine := Nat.le_trans hz (by decide)
  refine (s_when (c_cmp op_inS od_inS (x_ix ix_str (od_ixS (by first | omega | decide | (simp; omega) | assumption) (by first | exact e1 | (refine e2 ?_; rintro rfl; simp_all))) (x_var 0 cx rfl) (x_var 1 cx rfl)) (x_kS cx Z.c_OTHERS)) (fun hc1 => (s_ret x_bool ?_)) (fun hc1 => (s_when (PW.pt (w_or (c_cmp op_eq od_eqI (x_var 1 cx rfl) x_int) fun hb => (w_one (c_cmp op_inS od_inS (x_ix ix_str (od_ixS (by first | omega | decide | (simp; omega) | assumption) (by first | exact e1 | (refine e2 ?_; rintro rfl; simp_all))) (x_var 0 cx rfl) (x_op op_sub od_i0 (x_var 1 cx rfl) x_int)) (x_kS cx Z.c_OTHERS))))) (fun hc2 => (s_ret x_bool ?_)) (fun hc2 => (s_when (c_cmp op_inS od_inS (x_ix ix_str (od_ixS (by first | omega | decide | (simp; omega) | assumption) (by first | exact e1 | (refine e2 ?_; rintro rfl; simp_all))) (x_var 0 cx rfl) (x_var 1 cx rfl)) (x_kS cx Z.c_GREAT)) (fun hc3 => (s_ret (x_cmp op_notInS od_ninS (x_ix ix_str (od_ixS (by first | omega | decide | (simp; omega) | assumption) (by first | exact e1 | (refine e2 ?_; rintro rfl; simp_all))) (x_var 0 cx rfl) (x_op op_sub od_i0 (x_var 1 cx rfl) x_int)) (x_kS cx Z.c_GREAT)) ?_)) (fun hc3 => (s_ret (x_cmp op_ne od_neB (x_cmp op_inS od_inS (x_ix ix_str (od_ixS (by first | omega | decide | (simp; omega) | assumption) (by first | exact e1 | (refine e2 ?_; rintro rfl; simp_all))) (x_var 0 cx rfl) (x_var 1 cx rfl)) (x_kS cx Z.c_FIGURES)) (x_cmp op_inS od_inS (x_ix ix_str (od_ixS (by first | omega | decide | (simp; omega) | assumption) (by first | exact e1 | (refine e2 ?_; rintro rfl; simp_all))) (x_var 0 cx rfl) (x_op op_sub od_i0 (x_var 1 cx rfl) x_int)) (x_kS cx Z.c_FIGURES))) ?_)))))))
  all_goals show Except.ok _ = Except.ok _
  all_goals refine congrArg (fun b => Except.ok (PyData.bool b)) ?_
  all_goals (unfold begins; simp_all)
theorem p_greedy (Z : Tx G T c0 c1 c2 c3 c4 c5 c6 c7 cS cL kFinder cM0 PM0 cM1 PM1) : Fd G.prog G.w G.K G.mg G.base "greedy" 3 ["ask", "name"] (spD T R_greedy) := by
  refine fd_data Z.d_greedy sc_greedy (fun ds r h => by obtain ⟨a, n, rfl, _⟩ := h; rfl) fun r F ds res cd hr h => ?_
  have cx := cd.toCtx
  obtain ⟨a, n, rfl, hla, hln, rfl⟩ := h
  refine (s_own 2 cd (x_lstN a_nil) (s_set 3 cd x_int (s_for (a) (fun (c : Nat) => tx [c]) (fun pre δ => ∃ fs at_ s4, at_ ≤ n.length ∧ fs.length = pre.length ∧ (∀ post, gr (pre ++ post) n 0 = (gr post (n.drop at_) at_).map (fs ++ ·)) ∧ δ = [.dat (tx a), .dat (tx n), .own (fs.map natI), .dat (natI at_), s4]) cd (i_str (x_var 0 cx rfl)) (g_name 4 cd) ?_ ?_ ?_)))
  · exact ⟨[], 0, _, Nat.zero_le _, rfl, fun post => by simp, rfl⟩
  · intro pre x post δ' hx hI
    obtain ⟨fs, at_, s4, hat, hfl, hg, rfl⟩ := hI
    have hsl : n.length ≤ sizeLine := Nat.le_trans hln (by decide)
    have hpl : pre.length < a.length := by
      rw [hx]
      simp
    have hfz : (fs.map natI).length < 100000 := by
      rw [List.length_map]
      omega
    refine ⟨_, tg_name, ?_⟩
    refine (s_while (fun m δ => ∃ b, b ≤ n.length ∧ m = n.length - b ∧ (∀ post, gr (x :: post) (n.drop at_) at_ = gr (x :: post) (n.drop b) b) ∧ δ = [.dat (tx a), .dat (tx n), .own (fs.map natI), .dat (natI b), .dat (tx [x])]) (n.length - at_) cd ?_ ?_)
    · exact ⟨at_, hat, rfl, fun post => rfl, rfl⟩
    · intro m δ1 hI1
      obtain ⟨b, hb, rfl, hw, rfl⟩ := hI1
      refine ⟨_, (PW.pt (w_and (c_cmp op_lt od_b0 (x_var 3 cx rfl) (x_bi cx call_len (cd_lenS (by first | omega | decide | (simp; omega) | assumption)) Z.b_len PySem.boot_len (a_cons (x_var 1 cx rfl) a_nil))) fun hb => (w_one (c_not (c_val (x_call cx (p_is_hit Z) (hr.mono (by omega)) (a_cons (x_var 4 cx rfl) (a_cons (x_ix ix_str (od_ixS (by first | omega | decide | (simp; omega) | assumption) (getD_at (dec_lt hb))) (x_var 1 cx rfl) (x_var 3 cx rfl)) a_nil)) ⟨_, _, rfl, rfl⟩)))))), fun hk => ?_, fun hk => ?_⟩
      · have hk : b < n.length ∧ hitC x (n.getD b 0) = false := by simpa using hk
        refine (s_set 3 cd (x_op op_add od_i0 (x_var 3 cx rfl) x_int) (s_nil ?_))
        refine ⟨n.length - (b + 1), by omega, b + 1, by omega, rfl, fun post => ?_, rfl⟩
        rw [hw, gr_miss hk.1 hk.2]
      · have hk : b < n.length → hitC x (n.getD b 0) = true := by simpa using hk
        refine (s_when (c_cmp op_eq od_eqI (x_var 3 cx rfl) (x_bi cx call_len (cd_lenS (by first | omega | decide | (simp; omega) | assumption)) Z.b_len PySem.boot_len (a_cons (x_var 1 cx rfl) a_nil))) (fun hc1 => (s_ret x_none ?_)) (fun hc1 => (s_appN 2 cx rfl (x_var 3 cx rfl) (by first | omega | decide | (simp; omega) | assumption) (s_set 3 cd (x_op op_add od_i0 (x_var 3 cx rfl) x_int) (s_nil ?_)))))
        · have e : b = n.length := by
            have := of_decide_eq_true hc1
            omega
          show Except.ok _ = Except.ok _
          rw [hx, hg, hw, e, gr_end]
          rfl
        · have e : b < n.length := by
            have := of_decide_eq_false hc1
            omega
          show ∃ fs at_ s4, _
          refine ⟨fs ++ [b], b + 1, .dat (tx [x]), e, by simp [hfl], fun post => ?_, ?_⟩
          · rw [List.append_assoc, List.singleton_append, hg, hw, gr_hit e (hk e)]
            cases gr post (n.drop (b + 1)) (b + 1) <;> simp
          · rw [List.map_append]
            rfl
  · intro δ' hI
    obtain ⟨fs, at_, s4, hat, hfl, hg, rfl⟩ := hI
    refine (s_freeze 2 rfl (s_ret (x_var 2 cx rfl) ?_))
    have := hg []
    rw [List.append_nil] at this
    show Except.ok _ = Except.ok _
    rw [this]
    cases n.drop at_ <;> simp [gr, optD, rowD]
theorem p_need_marks (Z : Tx G T c0 c1 c2 c3 c4 c5 c6 c7 cS cL kFinder cM0 PM0 cM1 PM1) : Fd G.prog G.w G.K G.mg G.base "need_marks" 2 ["marks"] (spD T (R_need_marks c2)) := by
  refine fd_data Z.d_need_marks sc_need_marks (fun ds r h => by obtain ⟨d, rfl, _⟩ := h; rfl) fun r F ds res cd hr h => ?_
  have cx := cd.toCtx
  obtain ⟨d, rfl, hz, rfl⟩ := h
  have hnp := okT_np hz
  by_cases ht : isTp d = true
  · obtain ⟨ds, rfl⟩ : ∃ ds, d = .tuple ds := ⟨_, tp_of ht⟩
    have hel : ∀ e ∈ ds, isP e = false := hz.2
    have hz : ds.length ≤ 10000 := hz.1
    refine (s_set 1 cd (x_and (x_isi (T := "tuple") cx (x_var 0 cx rfl) Z.b_isinstance Z.b_tuple (by decide +kernel) (show kitB (tyN (.tuple _)) _ = some true from rfl)) fun hb => (x_one (x_cmp op_eq od_eqI (x_bi cx call_len cd_lenT Z.b_len PySem.boot_len (a_cons (x_var 0 cx rfl) a_nil)) (x_lenK cx Z.c_NAMES Z.b_len)))) (s_when (PW.pt (w_or (c_not (c_val (x_var 1 cx rfl))) fun hb => (w_one (c_not (c_val (x_bi cx (cr_all cx.calm) (cd_allD mp_b) Z.b_all (by decide +kernel) (a_cons (x_dl (x_lc [("one", 2)] (_) (fun (d : PyData) => d) _ _ _ cx (i_tup (x_is (x_var 0 cx rfl) (map_selfT _))) (by first | omega | decide | (simp; omega) | assumption) (by decide +kernel) (fun s H C cl fp => g_nameB 2 (cx.blk s H _ C cl fp)) (fun x hx => tg_name) (wg_name (by decide)) (fun x hx s H C cl fp => ts_nil) (fun x hx hq s H C cl fp => (x_call (cx.blk s H _ C cl fp) (p_is_count Z) (hr.mono (by omega)) (a_cons (x_var 2 (cx.blk s H _ C cl fp) rfl) (a_cons x_int (a_cons (x_kI (cx.blk s H _ C cl fp) Z.c_MOST_MARK) a_nil))) ⟨_, _, _, rfl, by first | rfl | assumption | solve_by_elim, rfl⟩)))) a_nil))))))) (fun hc1 => (s_raise cd Z.w_BadMarks.ok.x Z.g_BadMarks Z.w_BadMarks.ok.k (raises_own Z.w_BadMarks.ok.e Z.w_BadMarks.ok.t) ?_)) (fun hc1 => (s_nil ?_))))
    · show (if _ then _ else _) = _
      rw [if_neg]
      show ¬ (isTp (.tuple ds) && decide (ds.length = 6) && ds.all fun e => isCnt e 0 50) = true
      simp [Function.comp_def, isTp] at hc1 ⊢
      intro h1
      rcases hc1 with h | h
      · omega
      · exact h
    · show (if _ then _ else _) = _
      rw [if_pos]
      show (isTp (.tuple ds) && decide (ds.length = 6) && ds.all fun e => isCnt e 0 50) = true
      simp [Function.comp_def, isTp] at hc1 ⊢
      exact ⟨by omega, hc1.2⟩
  · have ht : isTp d = false := by simpa using ht
    refine s_set 1 cd (x_and (j := true) (x_isi (T := "tuple") cx (x_var 0 cx rfl) Z.b_isinstance Z.b_tuple (by decide +kernel) (kit_tup ht)) fun hb => (by cases hb)) (s_when (PW.pt (w_or (j := true) (c_not (c_val (x_var 1 cx rfl))) fun hb => (by cases hb))) (fun hc => (s_raise cd Z.w_BadMarks.ok.x Z.g_BadMarks Z.w_BadMarks.ok.k (raises_own Z.w_BadMarks.ok.e Z.w_BadMarks.ok.t) ?_)) (fun hc => (by cases hc)))
    show (if _ then _ else _) = _
    rw [if_neg]
    unfold isMarks
    rw [ht]
    simp
theorem p_own_worth (Z : Tx G T c0 c1 c2 c3 c4 c5 c6 c7 cS cL kFinder cM0 PM0 cM1 PM1) : Fd G.prog G.w G.K G.mg G.base "own_worth" 2 ["marks", "own", "name", "at"] (spD T R_own_worth) := by
  refine fd_data Z.d_own_worth sc_own_worth (fun ds r h => by obtain ⟨M, c, n, p, rfl, _⟩ := h; rfl) fun r F ds res cd hr h => ?_
  have cx := cd.toCtx
  obtain ⟨M, c, n, p, rfl, hp, hn, rfl⟩ := h
  have hS : 100000 ≤ sizeLine := by decide
  refine (s_set 4 cd (x_ix ix_tup (od_ixT (by first | rfl | exact getD_at hp)) (x_var 0 cx rfl) x_int) (s_when (c_cmp op_eq od_eqI (x_var 3 cx rfl) x_int) (fun hc1 => (s_set 4 cd (x_op op_add od_i0 (x_var 4 cx rfl) (x_ix ix_tup (od_ixT (by first | rfl | exact getD_at hp)) (x_var 0 cx rfl) x_int)) (s_nil (s_when (c_val (x_call cx (p_begins Z) (hr.mono (by omega)) (a_cons (x_var 2 cx rfl) (a_cons (x_var 3 cx rfl) a_nil)) ⟨_, _, rfl, hp, hn, rfl⟩)) (fun hc2 => (s_set 4 cd (x_op op_add od_i0 (x_var 4 cx rfl) (x_ix ix_tup (od_ixT (by first | rfl | exact getD_at hp)) (x_var 0 cx rfl) x_int)) (s_nil (s_ret (x_if (d := .int (ow M c n p)) (c_cmp op_eq od_eqS (x_ix ix_str (od_ixS (by first | omega | decide | (simp; omega) | assumption) (by first | rfl | exact getD_at hp)) (x_var 2 cx rfl) (x_var 3 cx rfl)) (x_var 1 cx rfl)) (fun hb => (x_is (x_op op_add od_i0 (x_var 4 cx rfl) (x_ix ix_tup (od_ixT (by first | rfl | exact getD_at hp)) (x_var 0 cx rfl) x_int)) (congrArg PyData.int (by unfold ow; simp_all)))) (fun hb => (x_is (x_var 4 cx rfl) (congrArg PyData.int (by unfold ow; simp_all))))) ?_)))) (fun hc2 => (s_ret (x_if (d := .int (ow M c n p)) (c_cmp op_eq od_eqS (x_ix ix_str (od_ixS (by first | omega | decide | (simp; omega) | assumption) (by first | rfl | exact getD_at hp)) (x_var 2 cx rfl) (x_var 3 cx rfl)) (x_var 1 cx rfl)) (fun hb => (x_is (x_op op_add od_i0 (x_var 4 cx rfl) (x_ix ix_tup (od_ixT (by first | rfl | exact getD_at hp)) (x_var 0 cx rfl) x_int)) (congrArg PyData.int (by unfold ow; simp_all)))) (fun hb => (x_is (x_var 4 cx rfl) (congrArg PyData.int (by unfold ow; simp_all))))) ?_)))))) (fun hc1 => (s_when (c_val (x_call cx (p_begins Z) (hr.mono (by omega)) (a_cons (x_var 2 cx rfl) (a_cons (x_var 3 cx rfl) a_nil)) ⟨_, _, rfl, hp, hn, rfl⟩)) (fun hc3 => (s_set 4 cd (x_op op_add od_i0 (x_var 4 cx rfl) (x_ix ix_tup (od_ixT (by first | rfl | exact getD_at hp)) (x_var 0 cx rfl) x_int)) (s_nil (s_ret (x_if (d := .int (ow M c n p)) (c_cmp op_eq od_eqS (x_ix ix_str (od_ixS (by first | omega | decide | (simp; omega) | assumption) (by first | rfl | exact getD_at hp)) (x_var 2 cx rfl) (x_var 3 cx rfl)) (x_var 1 cx rfl)) (fun hb => (x_is (x_op op_add od_i0 (x_var 4 cx rfl) (x_ix ix_tup (od_ixT (by first | rfl | exact getD_at hp)) (x_var 0 cx rfl) x_int)) (congrArg PyData.int (by unfold ow; simp_all)))) (fun hb => (x_is (x_var 4 cx rfl) (congrArg PyData.int (by unfold ow; simp_all))))) ?_)))) (fun hc3 => (s_ret (x_if (d := .int (ow M c n p)) (c_cmp op_eq od_eqS (x_ix ix_str (od_ixS (by first | omega | decide | (simp; omega) | assumption) (by first | rfl | exact getD_at hp)) (x_var 2 cx rfl) (x_var 3 cx rfl)) (x_var 1 cx rfl)) (fun hb => (x_is (x_op op_add od_i0 (x_var 4 cx rfl) (x_ix ix_tup (od_ixT (by first | rfl | exact getD_at hp)) (x_var 0 cx rfl) x_int)) (congrArg PyData.int (by unfold ow; simp_all)))) (fun hb => (x_is (x_var 4 cx rfl) (congrArg PyData.int (by unfold ow; simp_all))))) ?_))))))
  all_goals rfl
theorem p_gap_worth (Z : Tx G T c0 c1 c2 c3 c4 c5 c6 c7 cS cL kFinder cM0 PM0 cM1 PM1) : Fd G.prog G.w G.K G.mg G.base "gap_worth" 1 ["marks", "one", "other"] (spD T R_gap_worth) := by
  refine fd_data Z.d_gap_worth sc_gap_worth (fun ds r h => by obtain ⟨M, i, j, rfl, _⟩ := h; rfl) fun r F ds res cd hr h => ?_
  have cx := cd.toCtx
  obtain ⟨M, i, j, rfl, hM, hi, hj, rfl⟩ := h
  have hsk := hM.sk
  refine (s_ret (x_if (d := .int (gw M i j)) (c_cmp op_eq od_eqI (x_var 2 cx rfl) (x_op op_add od_i0 (x_var 1 cx rfl) x_int)) (fun hb => (x_is (x_ix ix_tup (od_ixT rfl) (x_var 0 cx rfl) x_int) (congrArg PyData.int (by unfold gw; simp at hb; split <;> omega)))) (fun hb => (x_is (x_op op_sub od_i0 x_int (x_op op_mulW (od_iC (cm_small (by omega) (by omega))) (x_ix ix_tup (od_ixT rfl) (x_var 0 cx rfl) x_int) (x_op op_sub od_i0 (x_op op_sub od_i0 (x_var 2 cx rfl) (x_var 1 cx rfl)) x_int))) (congrArg PyData.int (by unfold gw; simp at hb; split <;> omega))))) ?_)
  rfl
theorem p_best_of (Z : Tx G T c0 c1 c2 c3 c4 c5 c6 c7 cS cL kFinder cM0 PM0 cM1 PM1) : Fd G.prog G.w G.K G.mg G.base "best_of" 4 ["marks", "ask", "name"] (spD T R_best_of) := by
  refine fd_data Z.d_best_of sc_best_of (fun ds r h => by obtain ⟨M, a, n, rfl, _⟩ := h; rfl) fun r F ds res cd hr h => ?_
  have cx := cd.toCtx
  obtain ⟨M, a, n, rfl, hM, hal, hnl, rfl⟩ := h
  have hS : 100000 ≤ sizeLine := by decide
  refine (s_when (c_cmp op_isN od_isN (x_call cx (p_greedy Z) (hr.mono (by omega)) (a_cons (x_var 1 cx rfl) (a_cons (x_var 2 cx rfl) a_nil)) ⟨_, _, rfl, by omega, by omega, rfl⟩) x_none) (fun hc1 => (s_ret x_none ?_)) (fun hc1 => (s_when (c_cmp op_eq od_eqS (x_var 1 cx rfl) (x_txt [])) (fun hc2 => (s_ret (x_tup (a_cons x_int (a_cons (x_lst a_nil) a_nil))) ?_)) (fun hc2 => (s_dnew 3 cd (s_for (List.range _) (fun (i : Nat) => PyData.int ((a.length : Int) - 1 - (i : Int))) (fun pre δ => ∃ s4 s5 s6 s7 s8 s9 s10, δ = [.dat (mkD M), .dat (tx a), .dat (tx n), .odk (dOf (bAt M n (a.drop (a.length - pre.length))) n.length), s4, s5, s6, s7, s8, s9, s10]) cd (i_rangeD cx Z.b_range (a_cons (x_op op_sub od_i0 (x_bi cx call_len (cd_lenS (by first | omega | decide | (simp; omega) | assumption)) Z.b_len PySem.boot_len (a_cons (x_var 1 cx rfl) a_nil)) x_int) (a_cons (x_un un_neg ud_neg x_int) (a_cons (x_un un_neg ud_neg x_int) a_nil))) ⟨by omega, by omega⟩ ⟨by omega, by omega⟩) (g_name 4 cd) ?_ ?_ ?_))))))
  · show Except.ok _ = Except.ok _
    have : gr a n 0 = none := by
      cases e : gr a n 0 with
      | none => rfl
      | some q => rw [e] at hc1; cases hc1
    rw [best_none.mpr this]
    rfl
  · show Except.ok _ = Except.ok _
    have : a = [] := of_decide_eq_true hc2
    subst this
    rw [best_nil]
    rfl
  · have : bAt M n (a.drop (a.length - ([] : List Nat).length)) = fun _ => none := by
      funext p
      rw [show a.drop (a.length - ([] : List Nat).length) = [] by simp]
      rfl
    rw [this, dOf_none (fun _ => rfl)]
    exact ⟨_, _, _, _, _, _, _, rfl⟩
  · intro pre k post δ' hx hI
    obtain ⟨s4, s5, s6, s7, s8, s9, s10, rfl⟩ := hI
    have hk : k = pre.length := range_at hx
    have hkl : pre.length < a.length := by
      have := congrArg List.length hx
      simp at this
      omega
    subst hk
    obtain ⟨m, hm⟩ : ∃ m, m = a.length - 1 - pre.length := ⟨_, rfl⟩
    have e1 : ((a.length : Int) - 1 - (pre.length : Int)) = ((m : Nat) : Int) := by omega
    have hma : m < a.length := by omega
    have ed : a.drop m = a.getD m 0 :: a.drop (a.length - pre.length) := by
      rw [drop_at hma, show m + 1 = a.length - pre.length by omega]
    have hdr : (a.drop (a.length - pre.length) = []) ↔ pre.length = 0 := by
      rw [List.drop_eq_nil_iff]
      omega
    generalize a.drop (a.length - pre.length) = rs at ed hdr ⊢
    refine ⟨_, tg_name, ?_⟩
    rw [e1]
    refine (s_dnew 7 cd (s_for (List.range _) (natI) (fun pre1 δ => ∃ s6 s7 s8 s9 s10, δ = [.dat (mkD M), .dat (tx a), .dat (tx n), .odk (dOf (bAt M n rs) n.length), .dat (natI m), s6, s7, .odk (dOf (bAt M n (a.getD m 0 :: rs)) pre1.length), s8, s9, s10]) cd (i_range1 cx Z.b_range (a_cons (x_bi cx call_len (cd_lenS (by first | omega | decide | (simp; omega) | assumption)) Z.b_len PySem.boot_len (a_cons (x_var 2 cx rfl) a_nil)) a_nil) (by first | omega | decide | (simp; omega) | assumption) (by first | omega | decide | (simp; omega) | assumption)) (g_name 6 cd) ?_ ?_ ?_))
    · show ∃ s6 s7 s8 s9 s10, _
      exact ⟨_, _, _, _, _, rfl⟩
    · intro pre1 p post1 δ1 hx1 hI1
      obtain ⟨s6, s7, s8, s9, s10, rfl⟩ := hI1
      have hp : p = pre1.length := range_at hx1
      have hpl : pre1.length < n.length := by
        have := congrArg List.length hx1
        simp at this
        omega
      subst hp
      have hlen := dOf_len (bAt M n (a.getD m 0 :: rs)) pre1.length
      have nxt : (pre1 ++ [pre1.length]).length = pre1.length + 1 := by simp
      refine ⟨_, tg_name, ?_⟩
      by_cases hh : hitC (a.getD m 0) (n.getD pre1.length 0) = true
      · have hbh := bAt_hit (M := M) (a := rs) hpl hh
        have hb0 : decide (((m : Nat) : Int) = (a.length : Int) - 1) = decide (rs = []) := by
          simp only [decide_eq_decide]
          rw [hdr]
          omega
        refine (s_when (c_val (x_call cx (p_is_hit Z) (hr.mono (by omega)) (a_cons (x_ix ix_str (od_ixS (by first | omega | decide | (simp; omega) | assumption) (getD_at hma)) (x_var 1 cx rfl) (x_var 4 cx rfl)) (a_cons (x_ix ix_str (od_ixS (by first | omega | decide | (simp; omega) | assumption) (getD_at hpl)) (x_var 2 cx rfl) (x_var 6 cx rfl)) a_nil)) ⟨_, _, rfl, rfl⟩)) (fun hc1 => (s_set 8 cd (x_call cx (p_own_worth Z) (hr.mono (by omega)) (a_cons (x_var 0 cx rfl) (a_cons (x_ix ix_str (od_ixS (by first | omega | decide | (simp; omega) | assumption) (getD_at hma)) (x_var 1 cx rfl) (x_var 4 cx rfl)) (a_cons (x_var 2 cx rfl) (a_cons (x_var 6 cx rfl) a_nil)))) ⟨_, _, _, _, rfl, hpl, by omega, rfl⟩) (s_set 5 cd (x_if (d := optB (b0 M n (a.getD m 0) rs pre1.length)) (c_cmp op_eq od_eqI (x_var 4 cx rfl) (x_op op_sub od_i0 (x_bi cx call_len (cd_lenS (by first | omega | decide | (simp; omega) | assumption)) Z.b_len PySem.boot_len (a_cons (x_var 1 cx rfl) a_nil)) x_int)) (fun hb => (x_is (x_tup (a_cons (x_var 8 cx rfl) (a_cons (x_lst (a_cons (x_var 6 cx rfl) a_nil)) a_nil))) (by unfold b0; rw [if_pos (of_decide_eq_true (hb0.symm.trans hb))]; rfl))) (fun hb => (x_is x_none (by unfold b0; rw [if_neg (of_decide_eq_false (hb0.symm.trans hb))]; rfl)))) (s_for (List.range _) (_) (fun pre2 δ => ∃ s8 s10, δ = [.dat (mkD M), .dat (tx a), .dat (tx n), .odk (dOf (bAt M n rs) n.length), .dat (natI m), .dat (optB (bF M n (a.getD m 0) rs pre1.length pre2)), .dat (natI pre1.length), .odk (dOf (bAt M n (a.getD m 0 :: rs)) pre1.length), .dat (.int (ow M (a.getD m 0) n pre1.length)), s8, s10]) cd (i_range2 cx Z.b_range (a_cons (x_op op_add od_i0 (x_var 6 cx rfl) x_int) (a_cons (x_bi cx call_len (cd_lenS (by first | omega | decide | (simp; omega) | assumption)) Z.b_len PySem.boot_len (a_cons (x_var 2 cx rfl) a_nil)) a_nil)) (by first | omega | decide | (simp; omega) | assumption) (by first | omega | decide | (simp; omega) | assumption) (by first | omega | decide | (simp; omega) | assumption)) (g_name 9 cd) ?_ ?_ ?_)))) (fun hc1 => (s_nil ?_)))
        · show ∃ s7 s10, _
          exact ⟨_, _, rfl⟩
        · intro pre2 i post2 δ2 hx2 hI2
          obtain ⟨s7, s10, rfl⟩ := hI2
          have hi : i = pre2.length := range_at hx2
          have hil : pre2.length < n.length - (pre1.length + 1) := by
            have := congrArg List.length hx2
            simp at this
            omega
          subst hi
          have e2 : ((pre1.length : Int) + 1 + (pre2.length : Int)) = ((pre1.length + 1 + pre2.length : Nat) : Int) := by omega
          refine ⟨_, tg_name, ?_⟩
          rw [e2]
          have hget : getK (dOf (bAt M n rs) n.length) (Sum.inl ((pre1.length + 1 + pre2.length : Nat) : Int)) = (bAt M n rs (pre1.length + 1 + pre2.length)).map bD := by
            rw [dOf_get, if_pos (by omega)]
          cases hq : bAt M n rs (pre1.length + 1 + pre2.length) with
          | none =>
            rw [hq] at hget
            refine s_when (k := false) (c_is (c_din 3 cx (hu1 hr) rfl (x_var 9 cx rfl) (show PyData.int _ = keyD (.inl _) from rfl)) (by rw [hget]; rfl)) (fun h => by cases h) (fun _ => s_nil ?_)
            show ∃ s7 s10, _
            rw [bF_snoc, show bSt M n (a.getD m 0) rs pre1.length pre2.length = none by unfold bSt; rw [hq]; rfl, cmb_none]
            exact ⟨_, _, rfl⟩
          | some q =>
            rw [hq] at hget
            have hget : getK (dOf (bAt M n rs) n.length) (Sum.inl ((pre1.length + 1 + pre2.length : Nat) : Int)) = some (bD q) := hget
            have hst : bSt M n (a.getD m 0) rs pre1.length pre2.length = some (ow M (a.getD m 0) n pre1.length + gw M pre1.length (pre1.length + 1 + pre2.length) + q.1, pre1.length :: q.2) := by
              unfold bSt
              rw [hq]
              rfl
            have hcat : [natI pre1.length].length + (q.2.map natI).length ≤ sizeLine := by
              have hql : q.2.length ≤ 1000 := by
                have h1 := bAt_len hq
                have h2 := congrArg List.length ed
                rw [List.length_drop, List.length_cons] at h2
                omega
              rw [List.length_map]
              simp only [List.length_cons, List.length_nil]
              omega
            refine s_when (k := true) (c_is (c_din 3 cx (hu1 hr) rfl (x_var 9 cx rfl) (show PyData.int _ = keyD (.inl _) from rfl)) (by rw [hget]; rfl)) (fun _ => ?_) (fun h => by cases h)
            refine (s_set 10 cd (x_op op_add od_i0 (x_op op_add od_i0 (x_var 8 cx rfl) (x_call cx (p_gap_worth Z) (hr.mono (by omega)) (a_cons (x_var 0 cx rfl) (a_cons (x_var 6 cx rfl) (a_cons (x_var 9 cx rfl) a_nil))) ⟨_, _, _, rfl, hM, by omega, by omega, rfl⟩)) (x_ix ix_tup (od_ixT rfl) (x_dget 3 cx (hu1 hr) rfl (x_var 9 cx rfl) (show PyData.int _ = keyD (.inl _) from rfl) hget) x_int)) ?_)
            cases hf : bF M n (a.getD m 0) rs pre1.length pre2 with
            | none =>
              refine s_when (k := true) (c_is (PW.pt (w_or (j := true) (c_cmp op_isN od_isN (x_var 5 cx rfl) x_none) fun hb => by cases hb)) rfl) (fun _ => ?_) (fun h => by cases h)
              refine (s_set 5 cd (x_tup (a_cons (x_var 10 cx rfl) (a_cons (x_op op_cat (od_catL hcat) (x_lst (a_cons (x_var 6 cx rfl) a_nil)) (x_ix ix_tup (od_ixT rfl) (x_dget 3 cx (hu1 hr) rfl (x_var 9 cx rfl) (show PyData.int _ = keyD (.inl _) from rfl) hget) x_int)) a_nil))) (s_nil (s_nil (s_nil ?_))))
              show ∃ s7 s10, _
              rw [bF_snoc, hst, hf]
              exact ⟨_, _, rfl⟩
            | some q0 =>
              refine (s_when (PW.pt (w_or (c_cmp op_isN od_isN (x_var 5 cx rfl) x_none) fun hb => (w_one (c_cmp op_gt od_b0 (x_var 10 cx rfl) (x_ix ix_tup (od_ixT rfl) (x_var 5 cx rfl) x_int))))) (fun hc1 => ?_) (fun hc1 => (s_nil (s_nil ?_))))
              · refine (s_set 5 cd (x_tup (a_cons (x_var 10 cx rfl) (a_cons (x_op op_cat (od_catL hcat) (x_lst (a_cons (x_var 6 cx rfl) a_nil)) (x_ix ix_tup (od_ixT rfl) (x_dget 3 cx (hu1 hr) rfl (x_var 9 cx rfl) (show PyData.int _ = keyD (.inl _) from rfl) hget) x_int)) a_nil))) (s_nil (s_nil (s_nil ?_))))
                show ∃ s7 s10, _
                rw [bF_snoc, hst, hf]
                have : cmb (some q0) (some (ow M (a.getD m 0) n pre1.length + gw M pre1.length (pre1.length + 1 + pre2.length) + q.1, pre1.length :: q.2)) = some (ow M (a.getD m 0) n pre1.length + gw M pre1.length (pre1.length + 1 + pre2.length) + q.1, pre1.length :: q.2) := by
                  simp only [cmb]
                  exact if_pos (by simpa [isN, optB, bD] using hc1)
                rw [this]
                exact ⟨_, _, rfl⟩
              · show ∃ s7 s10, _
                rw [bF_snoc, hst, hf]
                have : cmb (some q0) (some (ow M (a.getD m 0) n pre1.length + gw M pre1.length (pre1.length + 1 + pre2.length) + q.1, pre1.length :: q.2)) = some q0 := by
                  simp only [cmb]
                  exact if_neg (by simpa [isN, optB, bD] using hc1)
                rw [this]
                exact ⟨_, _, rfl⟩
        · intro δ2 hI2
          obtain ⟨s7, s10, rfl⟩ := hI2
          have e3 : ((n.length : Int) - ((pre1.length : Int) + 1)).toNat = n.length - (pre1.length + 1) := by omega
          rw [e3, ← hbh]
          cases hf : bAt M n (a.getD m 0 :: rs) pre1.length with
          | none =>
            refine s_when (k := false) (c_is (c_cmp op_notN od_notN (x_var 5 cx rfl) x_none) rfl) (fun h => by cases h) (fun _ => s_nil (s_nil ?_))
            show ∃ s6 s7 s8 s9 s10, _
            rw [nxt, ← dOf_skip hf]
            exact ⟨_, _, _, _, _, rfl⟩
          | some q =>
            refine s_when (k := true) (c_is (c_cmp op_notN od_notN (x_var 5 cx rfl) x_none) rfl) (fun _ => ?_) (fun h => by cases h)
            refine s_dput 7 cd (hu1 hr) rfl (x_var 5 cx rfl) (x_var 6 cx rfl) (show PyData.int _ = keyD (.inl _) from rfl) (by omega) (s_nil (s_nil (s_nil ?_)))
            show ∃ s6 s7 s8 s9 s10, _
            rw [nxt, ← dOf_put hf]
            exact ⟨_, _, _, _, _, rfl⟩
        · exact absurd (hc1.symm.trans hh) (by decide)
      · have hh : hitC (a.getD m 0) (n.getD pre1.length 0) = false := by simpa using hh
        refine s_when (k := false) (c_is (c_val (x_call cx (p_is_hit Z) (hr.mono (by omega)) (a_cons (x_ix ix_str (od_ixS (by omega) (getD_at hma)) (x_var 1 cx rfl) (x_var 4 cx rfl)) (a_cons (x_ix ix_str (od_ixS (by omega) (getD_at hpl)) (x_var 2 cx rfl) (x_var 6 cx rfl)) a_nil)) ⟨_, _, rfl, rfl⟩)) hh) (fun h => by cases h) (fun _ => s_nil ?_)
        show ∃ s6 s7 s8 s9 s10, _
        rw [nxt, ← dOf_skip (bAt_miss hh)]
        exact ⟨_, _, _, _, _, rfl⟩
    · intro δ1 hI1
      obtain ⟨s6, s7, s8, s9, s10, rfl⟩ := hI1
      rw [List.length_range, Int.toNat_natCast]
      refine (s_move 7 3 cd rfl rfl (s_nil ?_))
      show ∃ s4 s5 s6 s7 s8 s9 s10, _
      have e4 : a.drop (a.length - (pre ++ [pre.length]).length) = a.getD m 0 :: rs := by
        rw [← ed]
        congr 1
        rw [List.length_append, List.length_singleton]
        omega
      rw [e4]
      exact ⟨_, _, _, _, _, _, _, rfl⟩
  · intro δ' hI
    obtain ⟨s4, s5, s6, s7, s8, s9, s10, rfl⟩ := hI
    have e5 : ((a.length : Int) - 1 - -1).toNat = a.length := by omega
    rw [List.length_range, e5, Nat.sub_self, List.drop_zero]
    refine (s_set 5 cd x_none (s_for (dPs (bAt M n a) n.length) (natI) (fun pre3 δ => ∃ s4 s5 s6 s8 s9 s10, δ = [.dat (mkD M), .dat (tx a), .dat (tx n), .odk (dOf (bAt M n a) n.length), s4, .dat (optB (bFin (bAt M n a) pre3)), s5, s6, s8, s9, s10]) cd (i_list (x_is (x_sortK 3 cx Z.b_sorted (hu65 hr) rfl (by rw [dOf_keys]; exact (nats_alike _).1) (by rw [dOf_keys]; exact (nats_alike _).2)) (congrArg PyData.list (dOf_sort _ _)))) (g_name 6 cd) ?_ ?_ ?_))
    · exact ⟨_, _, _, _, _, _, rfl⟩
    · intro pre3 p post3 δ3 hx3 hI3
      obtain ⟨s4, s5, s6, s8, s9, s10, rfl⟩ := hI3
      have hpm : p ∈ dPs (bAt M n a) n.length := by rw [hx3]; simp
      have hps := List.mem_filter.mp hpm
      have hpl : p < n.length := by simpa using hps.1
      obtain ⟨q, hq⟩ := Option.isSome_iff_exists.mp hps.2
      have hget : getK (dOf (bAt M n a) n.length) (Sum.inl (p : Int)) = some (bD q) := by
        rw [dOf_get, if_pos hpl, hq]
        rfl
      refine ⟨_, tg_name, ?_⟩
      cases hf : bFin (bAt M n a) pre3 with
      | none =>
        refine s_when (k := true) (c_is (PW.pt (w_or (j := true) (c_cmp op_isN od_isN (x_var 5 cx rfl) x_none) fun hb => by cases hb)) rfl) (fun _ => ?_) (fun h => by cases h)
        refine s_set 5 cd (x_dget 3 cx (hu1 hr) rfl (x_var 6 cx rfl) (show PyData.int _ = keyD (.inl _) from rfl) hget) (s_nil (s_nil ?_))
        show ∃ s4 s5 s6 s8 s9 s10, _
        rw [bFin_snoc, hf, hq]
        exact ⟨_, _, _, _, _, _, rfl⟩
      | some q0 =>
        refine (s_when (PW.pt (w_or (c_cmp op_isN od_isN (x_var 5 cx rfl) x_none) fun hb => (w_one (c_cmp op_gt od_b0 (x_ix ix_tup (od_ixT rfl) (x_dget 3 cx (hu1 hr) rfl (x_var 6 cx rfl) (show PyData.int _ = keyD (.inl _) from rfl) hget) x_int) (x_ix ix_tup (od_ixT rfl) (x_var 5 cx rfl) x_int))))) (fun hc1 => (s_set 5 cd (x_dget 3 cx (hu1 hr) rfl (x_var 6 cx rfl) (show PyData.int _ = keyD (.inl _) from rfl) hget) (s_nil (s_nil ?_)))) (fun hc1 => (s_nil ?_)))
        · show ∃ s4 s5 s6 s8 s9 s10, _
          rw [bFin_snoc, hf, hq]
          have : cmb (some q0) (some q) = some q := if_pos (by simpa [isN, optB, bD] using hc1)
          rw [this]
          exact ⟨_, _, _, _, _, _, rfl⟩
        · show ∃ s4 s5 s6 s8 s9 s10, _
          rw [bFin_snoc, hf, hq]
          have : cmb (some q0) (some q) = some q0 := if_neg (by simpa [isN, optB, bD] using hc1)
          rw [this]
          exact ⟨_, _, _, _, _, _, rfl⟩
    · intro δ3 hI3
      obtain ⟨s4, s5, s6, s8, s9, s10, rfl⟩ := hI3
      refine (s_ret (x_var 5 cx rfl) ?_)
      show Except.ok _ = Except.ok _
      cases a with
      | nil => cases hc2
      | cons c a' => rw [best_fin]
theorem p_need_names (Z : Tx G T c0 c1 c2 c3 c4 c5 c6 c7 cS cL kFinder cM0 PM0 cM1 PM1) : Fd G.prog G.w G.K G.mg G.base "need_names" 2 ["names"] (spD T (R_need_names c0)) := by
  refine fd_data Z.d_need_names sc_need_names (fun ds r h => by obtain ⟨d, rfl, _⟩ := h; rfl) fun r F ds res cd hr h => ?_
  have cx := cd.toCtx
  obtain ⟨d, rfl, hz, rfl⟩ := h
  have hnp := okNs_np hz
  by_cases hl : isLs d = true
  · obtain ⟨ds, rfl⟩ : ∃ ds, d = .list ds := ⟨_, ls_of hl⟩
    have hzl : ds.length ≤ 10000 := hz.1
    have hze : ∀ e ∈ ds, okd e := hz.2
    refine (s_when (PW.pt (w_or (c_not (c_val (x_isi (T := "list") cx (x_var 0 cx rfl) Z.b_isinstance Z.b_list (by decide +kernel) (show kitB (tyN (.list _)) _ = some true from rfl)))) fun hb => (w_or (c_cmp op_gt od_b0 (x_bi cx call_len cd_lenL Z.b_len PySem.boot_len (a_cons (x_var 0 cx rfl) a_nil)) (x_kI cx Z.c_MOST_NAMES)) fun hb => (w_one (c_not (c_val (x_bi cx (cr_all cx.calm) (cd_allD mp_b) Z.b_all (by decide +kernel) (a_cons (x_dl (x_lc [("name", 1)] (_) (fun (d : PyData) => d) _ _ _ cx (i_list (x_is (x_var 0 cx rfl) (map_self _))) (by first | omega | decide | (simp; omega) | assumption) (by decide +kernel) (fun s H C cl fp => g_nameB 1 (cx.blk s H _ C cl fp)) (fun x hx => tg_name) (wg_name (by decide)) (fun x hx s H C cl fp => ts_nil) (fun x hx hq s H C cl fp => (x_call (cx.blk s H _ C cl fp) (p_is_name Z) (hr.mono (by omega)) (a_cons (x_var 1 (cx.blk s H _ C cl fp) rfl) a_nil) ⟨_, rfl, hze x hx, rfl⟩)))) a_nil)))))))) (fun hc1 => (s_raise cd Z.w_BadName.ok.x Z.g_BadName Z.w_BadName.ok.k (raises_own Z.w_BadName.ok.e Z.w_BadName.ok.t) ?_)) (fun hc1 => (s_nil ?_)))
    · show (if _ then _ else _) = _
      rw [if_neg]
      rw [names_list]
      simp [Function.comp_def] at hc1 ⊢
      intro h1
      rcases hc1 with h | h
      · omega
      · exact h
    · show (if _ then _ else _) = _
      rw [if_pos]
      rw [names_list]
      simp [Function.comp_def] at hc1 ⊢
      exact ⟨by omega, hc1.2⟩
  · have hl : isLs d = false := by simpa using hl
    refine (s_when (PW.pt (w_or (j := true) (c_not (c_val (x_isi cx (x_var 0 cx rfl) Z.b_isinstance Z.b_list (by decide +kernel) (kit_list hl)))) fun hb => (by cases hb))) (fun hc => (s_raise cd Z.w_BadName.ok.x Z.g_BadName Z.w_BadName.ok.k (raises_own Z.w_BadName.ok.e Z.w_BadName.ok.t) ?_)) (fun hc => (by cases hc)))
    show (if _ then _ else _) = _
    rw [if_neg]
    unfold areNames
    rw [hl]
    simp
theorem p_ranked (Z : Tx G T c0 c1 c2 c3 c4 c5 c6 c7 cS cL kFinder cM0 PM0 cM1 PM1) : Fd G.prog G.w G.K G.mg G.base "ranked" 4 ["rows"] (spD T R_ranked) := by
  refine fd_dataL Z.d_ranked sc_ranked (fun ds r h => by obtain ⟨bs, rfl, _⟩ := h; rfl) fun r F ds res cd co hr h => ?_
  have cx := cd.toCtx
  obtain ⟨bs, rfl, hb, rfl⟩ := h
  refine (s_ret (x_ranked cx co Z.tb_ranked Z.hm_ranked Z.hu_ranked (hr.mono (by omega)) Z.b_sorted Z.b_len (x_var 0 cx rfl) (fun b h => Nat.le_trans (hb b h) (by decide))) ?_)
  rfl
theorem p_hits_of (Z : Tx G T c0 c1 c2 c3 c4 c5 c6 c7 cS cL kFinder cM0 PM0 cM1 PM1) : Fd G.prog G.w G.K G.mg G.base "hits_of" 6 ["marks", "ask", "pairs"] (spD T R_hits_of) := by
  refine fd_data Z.d_hits_of sc_hits_of (fun ds r h => by obtain ⟨M, a, ps, rfl, _⟩ := h; rfl) fun r F ds res cd hr h => ?_
  have cx := cd.toCtx
  obtain ⟨M, a, ps, rfl, hM, hal, hps, hpl, rfl⟩ := h
  have hS : 100000 ≤ sizeLine := by decide
  refine (s_own 3 cd (x_lstN a_nil) (s_for (ps) (nnD) (fun pre δ => ∃ s4 s5 s6, δ = [.dat (mkD M), .dat (tx a), .dat (.list (ps.map nnD)), .own ((rowsOf M a pre).map rkD), s4, s5, s6]) cd (i_list (x_var 2 cx rfl)) (pg_tup cx.calm (pgs_cons (g_name 4 cd) (pgs_cons (g_name 5 cd) pgs_nil))) ?_ ?_ ?_))
  · exact ⟨_, _, _, rfl⟩
  · intro pre p post δ' hx hI
    obtain ⟨s4, s5, s6, rfl⟩ := hI
    have hpm : p ∈ ps := by rw [hx]; simp
    have hp2 := hps p hpm
    have hrl := rkr_len M a pre
    have hpr : pre.length ≤ ps.length := by rw [hx]; simp
    refine ⟨_, tg_tup rfl (tg_cons tg_name (tg_cons tg_name tg_nil)), ?_⟩
    refine (s_set 6 cd (x_call cx (p_best_of Z) (hr.mono (by omega)) (a_cons (x_var 0 cx rfl) (a_cons (x_var 1 cx rfl) (a_cons (x_var 5 cx rfl) a_nil))) ⟨_, _, _, rfl, hM, hal, hp2, rfl⟩) ?_)
    have hsn := rows_snoc M a pre p
    unfold rkOf at hsn
    cases hq : bestL M a p.2 with
    | none =>
      rw [hq] at hsn
      refine s_when (k := false) (c_is (c_cmp op_notN od_notN (x_var 6 cx rfl) x_none) rfl) (fun h => by cases h) (fun _ => s_nil ?_)
      show ∃ s4 s5 s6, _
      rw [hsn]
      simp only [Option.map_none, Option.toList_none, List.append_nil]
      exact ⟨_, _, _, rfl⟩
    | some q =>
      rw [hq] at hsn
      refine (s_when (c_cmp op_notN od_notN (x_var 6 cx rfl) x_none) (fun hc1 => (s_appN 3 cx rfl (x_tup (a_cons (x_var 4 cx rfl) (a_cons (x_var 5 cx rfl) (a_cons (x_ix ix_tup (od_ixT rfl) (x_var 6 cx rfl) x_int) (a_cons (x_ix ix_tup (od_ixT rfl) (x_var 6 cx rfl) x_int) a_nil))))) (by rw [List.length_map]; omega) (s_nil (s_nil ?_)))) (fun hc1 => (s_nil ?_)))
      · show ∃ s4 s5 s6, _
        rw [hsn]
        simp only [Option.map_some, Option.toList_some, List.map_append, List.map_cons, List.map_nil]
        exact ⟨_, _, _, rfl⟩
      · cases hc1
  · intro δ' hI
    obtain ⟨s4, s5, s6, rfl⟩ := hI
    refine (s_freeze 3 rfl (s_ret (x_call cx (p_ranked Z) (hr.mono (by omega)) (a_cons (x_var 3 cx rfl) a_nil) ⟨_, rfl, rk_short hps, rfl⟩) ?_))
    rfl
theorem p_hits (Z : Tx G T c0 c1 c2 c3 c4 c5 c6 c7 cS cL kFinder cM0 PM0 cM1 PM1) : Fd G.prog G.w G.K G.mg G.base "hits" 8 ["marks", "ask", "names", "most"] (spD T (R_hits c0 c1 c2 c4)) := by
  refine fd_data Z.d_hits sc_hits (fun ds r h => by obtain ⟨d1, d2, d3, d4, rfl, _⟩ := h; rfl) fun r F ds res cd hr h => ?_
  have cx := cd.toCtx
  obtain ⟨d1, d2, d3, d4, rfl, hz1, hza, hz, hp4, rfl⟩ := h
  by_cases hm : isMarks d1 = true
  · rw [if_pos hm]
    obtain ⟨em, hM⟩ := marks_of hm
    generalize mkOf d1 = M at em hM
    subst em
    refine s_expr (x_call cx (p_need_marks Z) (hr.mono (by omega)) (a_cons (x_var 0 cx rfl) a_nil) (R_need_marks_ok hM)) ?_
    by_cases ha : isAsk d2 = true
    · rw [if_pos ha]
      refine s_expr (x_call cx (p_need_ask Z) (hr.mono (by omega)) (a_cons (x_var 1 cx rfl) a_nil) ⟨_, rfl, hza, by rw [if_pos ha]⟩) ?_
      by_cases hn : areNames d3 = true
      · rw [if_pos hn]
        refine s_expr (x_call cx (p_need_names Z) (hr.mono (by omega)) (a_cons (x_var 2 cx rfl) a_nil) (R_need_names_ok hz hn)) ?_
        obtain ⟨a, rfl, ha2⟩ := ask_tx ha
        obtain ⟨ls, rfl, hl60, hls⟩ := names_of hn
        have hal := isAs_len ha2
        rw [cod_tx, namesL_self]
        by_cases hc : isCnt d4 0 60 = true
        · rw [if_pos hc]
          obtain ⟨m, rfl⟩ : ∃ m, d4 = .int m := by
            cases d4 with
            | int m => exact ⟨m, rfl⟩
            | _ => cases hc
          have hlen : (rkS (rowsOf M a (enumN ls))).length ≤ 1000 := by
            unfold rkS
            rw [List.length_mergeSort]
            have := rkr_len M a (enumN ls)
            rw [enumN_len] at this
            omega
          have hps : ∀ p ∈ enumN ls, p.2.length ≤ 1000 := fun p hp => by
            have := isNm_len (hls _ (enumN_mem hp))
            omega
          have hS : 100000 ≤ sizeLine := by decide
          refine (s_when (c_not (c_val (x_call cx (p_is_count Z) (hr.mono (by omega)) (a_cons (x_var 3 cx rfl) (a_cons x_int (a_cons (x_kI cx Z.c_MOST_NAMES) a_nil))) ⟨_, _, _, rfl, by first | rfl | assumption | solve_by_elim, rfl⟩))) (fun hc1 => (s_raise cd Z.w_BadNumber.ok.x Z.g_BadNumber Z.w_BadNumber.ok.k (raises_own Z.w_BadNumber.ok.e Z.w_BadNumber.ok.t) ?_)) (fun hc1 => (s_ret (x_sl sl_list sd_list (x_dl (x_lc [("number", 4), ("name", 5), ("own", 6), ("places", 7)] (_) (_) _ _ _ cx (i_list (x_call cx (p_hits_of Z) (hr.mono (by omega)) (a_cons (x_var 0 cx rfl) (a_cons (x_var 1 cx rfl) (a_cons (x_listEnum cx Z.b_list Z.b_enumerate (x_var 2 cx rfl)) a_nil))) ⟨_, _, _, congrArg (fun z => [mkD M, tx a, PyData.list z]) (enum_nn ls), hM, by omega, hps, by rw [enumN_len]; omega, rfl⟩)) (by first | omega | decide | (simp; omega) | assumption) (by decide +kernel) (fun s H C cl fp => pg_tup (n := 4) (cx.blk s H _ C cl fp).calm (pgs_cons (g_nameB 4 (cx.blk s H _ C cl fp)) (pgs_cons (g_nameB 5 (cx.blk s H _ C cl fp)) (pgs_cons (g_nameB 6 (cx.blk s H _ C cl fp)) (pgs_cons (g_nameB 7 (cx.blk s H _ C cl fp)) pgs_nil))))) (fun x hx => tg_tup (n := 4) rfl (tg_cons tg_name (tg_cons tg_name (tg_cons tg_name (tg_cons tg_name tg_nil))))) (wg_tup (wgs_cons (by decide) (wgs_cons (by decide) (wgs_cons (by decide) (wgs_cons (by decide) wgs_nil))))) (fun x hx s H C cl fp => ts_nil) (fun x hx hq s H C cl fp => (x_tup (a_cons (x_var 4 (cx.blk s H _ C cl fp) rfl) (a_cons (x_var 6 (cx.blk s H _ C cl fp) rfl) (a_cons (x_var 7 (cx.blk s H _ C cl fp) rfl) a_nil))))))) o_none (o_some (x_var 3 cx rfl))) ?_)))
          · exact absurd hc1 (by rw [hc]; decide)
          · show Except.ok _ = Except.ok _
            rw [filter_tt]
            rfl
        · rw [if_neg hc]
          have hc' : isCnt d4 0 60 = false := by simpa using hc
          refine s_when (k := true) (c_is (c_not (c_val (x_call cx (p_is_count Z) (hr.mono (by omega)) (a_cons (x_var 3 cx rfl) (a_cons x_int (a_cons (x_kI cx Z.c_MOST_NAMES) a_nil))) ⟨_, _, _, rfl, hp4, rfl⟩))) (by rw [hc']; rfl)) (fun _ => (s_raise cd Z.w_BadNumber.ok.x Z.g_BadNumber Z.w_BadNumber.ok.k (raises_own Z.w_BadNumber.ok.e Z.w_BadNumber.ok.t) ?_)) (fun h => by cases h)
          rfl
      · rw [if_neg hn]
        exact s_exprX (C := c0) (x_callX cx cd.tk (p_need_names Z) (hr.mono (by omega)) (a_cons (x_var 2 cx rfl) a_nil) (R_need_names_er hz (by simpa using hn))) rfl
    · rw [if_neg ha]
      exact s_exprX (C := c1) (x_callX cx cd.tk (p_need_ask Z) (hr.mono (by omega)) (a_cons (x_var 1 cx rfl) a_nil) ⟨_, rfl, hza, by rw [if_neg ha]⟩) rfl
  · rw [if_neg hm]
    exact s_exprX (C := c2) (x_callX cx cd.tk (p_need_marks Z) (hr.mono (by omega)) (a_cons (x_var 0 cx rfl) a_nil) (R_need_marks_er hz1 (by simpa using hm))) rfl
theorem px_Finder_init (Z : Tx G T c0 c1 c2 c3 c4 c5 c6 c7 cS cL kFinder cM0 PM0 cM1 PM1) : MdI G.prog G.w G.K G.mg G.base kFinder 3 ["self", "marks"] (spR T (RX_Finder_init c2)) := by
  refine mdi_R Z.m_Finder_init sc_Finder_init (by decide) (fun ds W r h => by obtain ⟨p, d1, rfl, _⟩ := h; rfl) fun r F ds W res cd hr h => ?_
  have cx := cd.toCtx
  obtain ⟨p, d1, rfl, hz1, hm, rfl⟩ := h
  exact s_exprX (C := c2) (x_callX cx cd.tk (p_need_marks Z) (hr.mono (by omega)) (a_cons (x_var 1 cx rfl) a_nil) (R_need_marks_er hz1 hm)) rfl
theorem pw_Finder_init (Z : Tx G T c0 c1 c2 c3 c4 c5 c6 c7 cS cL kFinder cM0 PM0 cM1 PM1) : MdI G.prog G.w G.K G.mg G.base kFinder 3 ["self", "marks"] (spW T (RW_Finder_init kFinder)) := by
  refine mdi_W Z.m_Finder_init sc_Finder_init (by decide) (fun ds W Ω h => by obtain ⟨j, p, M, rfl, _⟩ := h; rfl) fun r F ds W Ω cd hr h => ?_
  have cx := cd.toCtx
  obtain ⟨j, p, M, rfl, hM, hj, rfl⟩ := h
  have hjl := wlt hj
  refine s_expr (x_call cx (p_need_marks Z) (hr.mono (by omega)) (a_cons (x_var 1 cx rfl) a_nil) (R_need_marks_ok hM)) ?_
  refine s_fldN 2 _ Z.k_Finder.cl (Z.k_Finder.na _ (by decide +kernel)) rfl hj (x_var 0 cx rfl) (x_var 1 cx rfl) ?_
  refine s_fldNW (g := 2) Z.k_Finder.cl (Z.k_Finder.na _ (by decide +kernel)) (by show 2 < 3; decide) (w_newD rfl) (fun d W' h => x_var 0 cx rfl) (fun d W' h => by obtain ⟨q, _, rfl, rfl⟩ := h; exact wapp (wset hj)) fun d W' h => ?_
  obtain ⟨q1, _, rfl, rfl⟩ := h
  rw [wappF hjl]
  refine s_fldN 2 _ Z.k_Finder.cl (Z.k_Finder.na _ (by decide +kernel)) rfl (wapp (wset hj)) (x_var 0 cx rfl) x_int ?_
  refine s_fldN 2 _ Z.k_Finder.cl (Z.k_Finder.na _ (by decide +kernel)) rfl (wset (wapp (wset hj))) (x_var 0 cx rfl) (x_txt []) ?_
  refine s_fldNW (g := 2) Z.k_Finder.cl (Z.k_Finder.na _ (by decide +kernel)) (by show 2 < 3; decide) (w_lstN (by show 2 < 3; decide) (aw_cons (w_new rfl (x_lstN a_nil)) fun d W' h => aw_nil rfl) (fun ds W' h => by obtain ⟨d1, W1, es, _, ⟨rfl, _⟩, rfl⟩ := h; show 1 ≤ 1000; decide)) (fun d W' h => x_var 0 cx rfl) (fun d W' h => by obtain ⟨ds, W1, q, ⟨d1, W2, es, ⟨q2, _, rfl, rfl⟩, ⟨rfl, rfl⟩, rfl⟩, _, rfl, rfl⟩ := h; exact wapp (wapp (wset (wset (wapp (wset hj)))))) fun d W' h => ?_
  obtain ⟨ds, W1, q, ⟨d1, W2, es, ⟨q2, _, rfl, rfl⟩, ⟨rfl, rfl⟩, rfl⟩, _, rfl, rfl⟩ := h
  refine s_nil ⟨_, rfl, rfl, [j, W.length, W.length + 2, W.length + 1], ⟨⟨j, W.length, W.length + 2, [W.length + 1], q1, q, [q2], rfl, wset (wapp (wapp (wset (wset (wapp (wset hj)))))), ?_, ?_, rfl, rfl, fun k l q' a b => ?_⟩, ?_⟩, ⟨by simp; omega, fun i x e n => ?_, fun i hi => ?_⟩⟩
  · refine wset_ne (wapp (wapp (wset_ne (wset_ne ?_ (by omega)) (by omega)))) (by omega)
    simp
  · refine wset_ne ?_ (by omega)
    simp
  · cases k with
    | succ k => cases a
    | zero =>
      cases a
      cases b
      refine wset_ne (wapp ?_) (by omega)
      simp [FSt.fit, fitR]
  · simp
    omega
  · have hn : j ≠ i := fun z => n (by simp [z])
    exact wset_ne (wapp (wapp (wset_ne (wset_ne (wapp (wset_ne e hn)) hn) hn))) hn
  · simp at hi ⊢
    omega
theorem px_Finder_add (Z : Tx G T c0 c1 c2 c3 c4 c5 c6 c7 cS cL kFinder cM0 PM0 cM1 PM1) : Md G.prog G.w G.K G.mg G.base kFinder "add" 4 ["self", "name"] (spR T (RX_Finder_add kFinder c0)) := by
  refine md_R Z.m_Finder_add sc_Finder_add (by decide) (fun ds W r h => by obtain ⟨J, p, S, d, rfl, _⟩ := h; rfl) fun r F ds W res cd hr h => ?_
  have cx := cd.toCtx
  obtain ⟨J, p, S, d, rfl, hP, hz, hb, rfl⟩ := h
  obtain ⟨i, r', f, js, qr, qf, qs, hJ, hj, hR, hf, hjl, hql, hfs⟩ := hP.o
  rcases hb with hb | ⟨hb, hl⟩
  · exact s_exprX (C := c0) (x_callX cx cd.tk (p_need_name Z) (hr.mono (by omega)) (a_cons (x_var 1 cx rfl) a_nil) (R_need_name_er hz hb)) rfl
  · refine s_expr (x_call cx (p_need_name Z) (hr.mono (by omega)) (a_cons (x_var 1 cx rfl) a_nil) (R_need_name_ok hz hb)) ?_
    exact s_when (k := true) (c_is (c_cmp op_ge od_b0 (x_wlenD 5 cx Z.b_len rfl (mem_at hR) (x_fld 5 1 Z.k_Finder.cl (Z.k_Finder.na _ (by decide +kernel)) rfl (x_var 0 cx rfl) (mem_at hj) rfl)) (x_kI cx Z.c_MOST_NAMES)) (by rw [List.length_map]; exact decide_eq_true (by omega))) (fun hc => (s_raise cd Z.w_BadName.ok.x Z.g_BadName Z.w_BadName.ok.k (raises_own Z.w_BadName.ok.e Z.w_BadName.ok.t) rfl)) (fun hc => (by cases hc))
theorem pw_Finder_add (Z : Tx G T c0 c1 c2 c3 c4 c5 c6 c7 cS cL kFinder cM0 PM0 cM1 PM1) : Md G.prog G.w G.K G.mg G.base kFinder "add" 4 ["self", "name"] (spW T (RW_Finder_add kFinder)) := by
  refine md_W Z.m_Finder_add sc_Finder_add (by decide) (fun ds W Ω h => by obtain ⟨J, p, S, n, rfl, _⟩ := h; rfl) fun r F ds W Ω cd hr h => ?_
  have cx := cd.toCtx
  obtain ⟨J, p, S, n, rfl, hP, hS, hn, hl, rfl⟩ := h
  obtain ⟨i, r', f, js, qr, qf, qs, rfl, hj, hR, hf, hjl, hql, hfs⟩ := hP.o
  have hal := isAs_len hS.a
  have hnl := isNm_len hn
  have hSz : 100000 ≤ sizeLine := by decide
  have nd := nd4.mp hP.nd
  refine s_expr (x_call cx (p_need_name Z) (hr.mono (by omega)) (a_cons (x_var 1 cx rfl) a_nil) (R_need_name_ok (okd_tx (by omega)) (by rw [isName_tx]; exact hn))) ?_
  refine s_when (k := false) (c_is (c_cmp op_ge od_b0 (x_wlenD 5 cx Z.b_len rfl (mem_at hR) (x_fld 5 1 Z.k_Finder.cl (Z.k_Finder.na _ (by decide +kernel)) rfl (x_var 0 cx rfl) (mem_at hj) rfl)) (x_kI cx Z.c_MOST_NAMES)) (by rw [List.length_map]; exact decide_eq_false (by omega))) (fun hc => (by cases hc)) fun _ => ?_
  refine s_set 2 cd (x_fld 5 2 Z.k_Finder.cl (Z.k_Finder.na _ (by decide +kernel)) rfl (x_var 0 cx rfl) (mem_at hj) rfl) ?_
  refine s_wput 5 r' cd (hu1 hr) rfl hR (x_var 1 cx rfl) (x_fld 5 1 Z.k_Finder.cl (Z.k_Finder.na _ (by decide +kernel)) rfl (x_var 0 cx rfl) (mem_at hj) rfl) (x_var 2 cx rfl) (show PyData.int _ = keyD (.inl _) from rfl) (by rw [List.length_map]; omega) ?_
  rw [kvN_put (fun r hr => (hS.b r hr).2)]
  refine s_fld 5 _ 2 Z.k_Finder.cl (Z.k_Finder.na _ (by decide +kernel)) rfl (wset_ne hj (fun z => nd.ir z.symm)) (x_var 0 cx rfl) (x_op op_add od_i0 (x_var 2 cx rfl) x_int) ?_
  refine s_forX (K := LsAt qf (qs.map ptrD)) (enumL (qs.map ptrD)) encL (fun pre_ δ => ∃ s3 s4 W1, AddI kFinder W S n p i r' f js qr qf qs W1 pre_.length ∧ δ = [.dat (ptrD p), .dat (tx n), .dat (natI S.next), s3, s4, .wd false W1]) cd (i_wenum 5 cx Z.b_enumerate rfl (mem_at (wset_ne (wset_ne hf nd.rf) nd.jf)) (x_fld 5 4 Z.k_Finder.cl (Z.k_Finder.na _ (by decide +kernel)) rfl (x_var 0 cx rfl) (mem_at (wset (wset_ne hj (fun z => nd.ir z.symm)))) rfl)) (pg_tup cx.calm (pgs_cons (g_name 3 cd) (pgs_cons (g_name 4 cd) pgs_nil))) ?_ ?_ ?_ ?_
  · intro pre δ' O H σ hI st
    obtain ⟨s3, s4, W1, hA, rfl⟩ := hI
    exact ls_at (g := 5) st rfl (mem_at hA.hf)
  · refine ⟨_, _, _, ⟨wset (wset_ne hj (fun z => nd.ir z.symm)), wset_ne (wset_ne hf nd.rf) nd.jf, wset_ne (wset hR) nd.ir, fun k m q a b => ?_, by simp, fun j x e n => ?_⟩, rfl⟩
    · have hm := List.mem_of_getElem? a
      rw [if_neg (show ¬ k < ([] : List (Nat × PyData)).length from Nat.not_lt_zero _)]
      exact wset_ne (wset_ne (hfs k m q a b) (out_ne nd.rj hm)) (out_ne nd.ij hm)
    · simp only [List.mem_cons, not_or] at n
      exact wset_ne (wset_ne e (fun z => n.2.1 z.symm)) (fun z => n.1 z.symm)
  · intro pre x post δ' hx hI
    obtain ⟨s3, s4, W1, hA, rfl⟩ := hI
    obtain ⟨l, q, hjk, hqk, rfl⟩ := enum_at hx hjl hql
    have hkl := (List.getElem?_eq_some_iff.mp hjk).1
    have hL := hA.s _ _ _ hjk hqk
    rw [if_neg (Nat.lt_irrefl _)] at hL
    have hlm := List.mem_of_getElem? hjk
    refine ⟨_, tg_tup rfl (tg_cons tg_name (tg_cons tg_name tg_nil)), ?_⟩
    have efz := fitR_len S.rows (S.typed.take pre.length)
    have eadd : (S.add n).fit pre.length = S.fit pre.length ++ (if fitQ (S.typed.take pre.length) n = true then [S.next] else []) := fitR_add
    refine s_when (k := fitQ (S.typed.take pre.length) n) (c_is (c_cmp op_notN od_notN (x_call cx (p_greedy Z) (hr.mono (by omega)) (a_cons (x_is (x_sl sl_str (sd_str (by omega)) (x_fld 5 3 Z.k_Finder.cl (Z.k_Finder.na _ (by decide +kernel)) rfl (x_var 0 cx rfl) (mem_at hA.o) rfl) o_none (o_some (x_var 3 cx rfl))) (by rw [cut_take])) (a_cons (x_var 1 cx rfl) a_nil)) ⟨_, _, rfl, by rw [List.length_take]; omega, by omega, rfl⟩) x_none) (fit_not _ _)) (fun hb => ?_) (fun hb => ?_)
    · refine s_exprW (g := 5) (x_wapp l rfl hL (x_var 4 cx rfl) (x_var 2 cx rfl) (by rw [List.length_map]; unfold FSt.fit; omega)) fun d W' h => ?_
      obtain ⟨rfl, rfl⟩ := h
      refine s_nil (s_nil ⟨_, _, _, by rw [List.length_append]; exact hA.step nd hjk hqk (by rw [eadd, if_pos hb, List.map_append]; rfl), rfl⟩)
    · refine s_nil ⟨_, _, _, by rw [List.length_append]; exact hA.skip (by rw [eadd, if_neg (by rw [hb]; decide), List.append_nil]), rfl⟩
  · intro δ' hI
    obtain ⟨s3, s4, W1, hA, rfl⟩ := hI
    obtain ⟨h1, h2⟩ := hA.done nd hjl hql (by simp [enumL])
    exact s_retS (x_var 2 cx rfl) ⟨_, rfl, rfl, h1, h2⟩
theorem p_Finder_need_number (Z : Tx G T c0 c1 c2 c3 c4 c5 c6 c7 cS cL kFinder cM0 PM0 cM1 PM1) : Md G.prog G.w G.K G.mg G.base kFinder "need_number" 2 ["self", "number"] (spR T (R_Finder_need_number kFinder c5)) := by
  refine md_R Z.m_Finder_need_number sc_Finder_need_number (by decide) (fun ds W r h => by obtain ⟨J, p, S, d, rfl, _⟩ := h; rfl) fun r F ds W res cd hr h => ?_
  have cx := cd.toCtx
  obtain ⟨J, p, S, d, rfl, hP, hp, rfl⟩ := h
  obtain ⟨i, r', f, js, qr, qf, qs, hJ, hj, hR, hf, hjl, hql, hfs⟩ := hP.o
  by_cases hc : isCnt d 1 ((S.next : Int) - 1) = true
  · obtain ⟨m, rfl⟩ : ∃ m, d = .int m := by
      cases d with
      | int m => exact ⟨m, rfl⟩
      | _ => cases hc
    have hh : S.has (.int m) = S.rows.any fun r => decide ((r.1 : Int) = m) := by
      unfold FSt.has
      rw [hc]
      rfl
    rw [hh]
    cases ha : S.rows.any fun r => decide ((r.1 : Int) = m) with
    | true =>
      rw [if_pos rfl]
      refine (s_when (PW.pt (w_or (c_not (c_val (x_call cx (p_is_count Z) (hr.mono (by omega)) (a_cons (x_var 1 cx rfl) (a_cons x_int (a_cons (x_op op_sub od_i0 (x_fld 2 2 Z.k_Finder.cl (Z.k_Finder.na _ (by decide +kernel)) rfl (x_var 0 cx rfl) (mem_at hj) rfl) x_int) a_nil))) ⟨_, _, _, rfl, by first | rfl | assumption | solve_by_elim, rfl⟩))) fun hb => (w_one (c_wdnin 2 (hu1 hr) rfl (mem_at hR) (x_var 1 cx rfl) (show PyData.int _ = keyD (.inl _) from rfl) (x_fld 2 1 Z.k_Finder.cl (Z.k_Finder.na _ (by decide +kernel)) rfl (x_var 0 cx rfl) (mem_at hj) rfl))))) (fun hc1 => (s_raise cd Z.w_NoName.ok.x Z.g_NoName Z.w_NoName.ok.k (raises_own Z.w_NoName.ok.e Z.w_NoName.ok.t) ?_)) (fun hc1 => (s_nil ?_)))
      · rw [hc, kvN_some, ha] at hc1
        cases hc1
      · rfl
    | false =>
      rw [if_neg (by decide)]
      refine (s_when (PW.pt (w_or (c_not (c_val (x_call cx (p_is_count Z) (hr.mono (by omega)) (a_cons (x_var 1 cx rfl) (a_cons x_int (a_cons (x_op op_sub od_i0 (x_fld 2 2 Z.k_Finder.cl (Z.k_Finder.na _ (by decide +kernel)) rfl (x_var 0 cx rfl) (mem_at hj) rfl) x_int) a_nil))) ⟨_, _, _, rfl, by first | rfl | assumption | solve_by_elim, rfl⟩))) fun hb => (w_one (c_wdnin 2 (hu1 hr) rfl (mem_at hR) (x_var 1 cx rfl) (show PyData.int _ = keyD (.inl _) from rfl) (x_fld 2 1 Z.k_Finder.cl (Z.k_Finder.na _ (by decide +kernel)) rfl (x_var 0 cx rfl) (mem_at hj) rfl))))) (fun hc1 => (s_raise cd Z.w_NoName.ok.x Z.g_NoName Z.w_NoName.ok.k (raises_own Z.w_NoName.ok.e Z.w_NoName.ok.t) ?_)) (fun hc1 => (s_nil ?_)))
      · rfl
      · rw [hc, kvN_some, ha] at hc1
        cases hc1
  · have hc : isCnt d 1 ((S.next : Int) - 1) = false := by simpa using hc
    have hh : S.has d = false := by
      unfold FSt.has
      rw [hc]
      rfl
    rw [hh, if_neg (by decide)]
    refine s_when (PW.pt (w_or (j := true) (c_not (c_val (x_call cx (p_is_count Z) (hr.mono (by omega)) (a_cons (x_var 1 cx rfl) (a_cons x_int (a_cons (x_op op_sub od_i0 (x_fld 2 2 Z.k_Finder.cl (Z.k_Finder.na _ (by decide +kernel)) rfl (x_var 0 cx rfl) (mem_at hj) rfl) x_int) a_nil))) ⟨_, _, _, rfl, hp, rfl⟩))) fun hb => (by rw [hc] at hb; cases hb))) (fun _ => (s_raise cd Z.w_NoName.ok.x Z.g_NoName Z.w_NoName.ok.k (raises_own Z.w_NoName.ok.e Z.w_NoName.ok.t) ?_)) (fun h => by rw [hc] at h; cases h)
    rfl
theorem px_Finder_drop (Z : Tx G T c0 c1 c2 c3 c4 c5 c6 c7 cS cL kFinder cM0 PM0 cM1 PM1) : Md G.prog G.w G.K G.mg G.base kFinder "drop" 3 ["self", "number"] (spR T (RX_Finder_drop kFinder c5)) := by
  refine md_R Z.m_Finder_drop sc_Finder_drop (by decide) (fun ds W r h => by obtain ⟨J, p, S, d, rfl, _⟩ := h; rfl) fun r F ds W res cd hr h => ?_
  have cx := cd.toCtx
  obtain ⟨J, p, S, d, rfl, hP, hp, hb, rfl⟩ := h
  obtain ⟨i, r', f, js, qr, qf, qs, hJ, hj, hR, hf, hjl, hql, hfs⟩ := hP.o
  exact s_exprX (C := c5) (x_mrdX 4 cd.tk Z.k_Finder.cl (p_Finder_need_number Z) (hr.mono (by omega)) rfl (mem_at hj) (x_var 0 cx rfl) (a_cons (x_var 1 cx rfl) a_nil) ⟨_, _, _, _, rfl, hP, hp, by rw [hb]; rfl⟩) rfl
theorem pw_Finder_drop (Z : Tx G T c0 c1 c2 c3 c4 c5 c6 c7 cS cL kFinder cM0 PM0 cM1 PM1) : Md G.prog G.w G.K G.mg G.base kFinder "drop" 3 ["self", "number"] (spW T (RW_Finder_drop kFinder)) := by
  refine md_W Z.m_Finder_drop sc_Finder_drop (by decide) (fun ds W Ω h => by obtain ⟨J, p, S, x, n, rfl, _⟩ := h; rfl) fun r F ds W Ω cd hr h => ?_
  have cx := cd.toCtx
  obtain ⟨J, p, S, x, n, rfl, hP, hS, hxn, rfl⟩ := h
  obtain ⟨i, r', f, js, qr, qf, qs, rfl, hj, hR, hf, hjl, hql, hfs⟩ := hP.o
  have hal := isAs_len hS.a
  have nd := nd4.mp hP.nd
  have hil := wlt hj
  have hrl := wlt hR
  refine s_expr (x_mrd 4 Z.k_Finder.cl (p_Finder_need_number Z) (hr.mono (by omega)) rfl (mem_at hj) (x_var 0 cx rfl) (a_cons (x_var 1 cx rfl) a_nil) ⟨_, _, _, _, rfl, hP, rfl, by rw [if_pos (has_num hS hxn)]⟩) ?_
  refine s_fldW (g := 4) (j := i) (ns := fFinder) (fs := [mkD S.M, ptrD qr, natI S.next, tx S.typed, ptrD qf]) 4 Z.k_Finder.cl (Z.k_Finder.na _ (by decide +kernel)) (by show 4 < 5; decide) (x_lcW (K := LsAt qf (qs.map ptrD)) (q := fun _ => true) qs ptrD (DrJ W S x) 2 cx rfl rfl (iy_x (i_wl 4 rfl (mem_at hf) (x_fld 4 4 Z.k_Finder.cl (Z.k_Finder.na _ (by decide +kernel)) rfl (x_var 0 cx rfl) (mem_at hj) rfl))) (by omega) (by decide +kernel) (fun s H C cl fp => g_nameB 2 (cx.blk s H _ C cl fp)) (fun L hL => DrJ.zero) (fun pre L acc W1 h => h.len) (fun pre L acc W1 O H σ h st => ls_at (g := 4) st rfl (h.old _ (mem_at hf))) (fun pre y post L acc W1 hx h s H C cl fp => ts_nil) (fun pre y post L acc W1 hx h hq s H C cl fp => ?_) (fun pre y post L acc W1 hx h hq => by cases hq)) (fun d W' h => x_var 0 cx rfl) (fun d W' h => ?_) fun d W' h => ?_
  · have hq1 : qs[pre.length]? = some y := by rw [hx]; simp
    obtain ⟨l, hl⟩ : ∃ l, js[pre.length]? = some l := ⟨_, List.getElem?_eq_getElem (by have := (List.getElem?_eq_some_iff.mp hq1).1; omega)⟩
    have hL := h.keep (hfs _ _ _ hl hq1)
    have hfz := fitR_len S.rows (S.typed.take pre.length)
    have hl60 := hS.l
    refine w_imp (w_new rfl (x_lcP [("one", 3)] (S.fit pre.length) natI natI (fun z => !decide (z = x)) _ (cx.blk s H _ C cl fp) (i_wl 4 rfl (mem_at hL) (x_var 2 (cx.blk s H _ C cl fp) rfl)) (fun O H σ st => ls_at (g := 4) st rfl (mem_at hL)) (by unfold FSt.fit; omega) (by decide +kernel) (fun s' H' C' cl' fp' => g_nameB 3 ((cx.blk s H _ C cl fp).blk s' H' _ C' cl' fp')) (fun x hx => tg_name) (wg_name (by decide)) (fun z hz s' H' C' cl' fp' => ts_one (c_is (c_cmp op_ne od_neI (x_var 3 ((cx.blk s H _ C cl fp).blk s' H' _ C' cl' fp') rfl) (x_var 1 ((cx.blk s H _ C cl fp).blk s' H' _ C' cl' fp') rfl)) (ne_nat z x))) (fun z hz hq s' H' C' cl' fp' => (x_var 3 ((cx.blk s H _ C cl fp).blk s' H' _ C' cl' fp') rfl)))) fun d W2 h2 => ?_
    obtain ⟨q2, _, rfl, rfl⟩ := h2
    exact h.step (by unfold FSt.fit FSt.drop; rw [fitR_drop])
  · obtain ⟨L, acc, rfl, h⟩ := h
    exact h.keep hj
  · obtain ⟨L, acc, rfl, h⟩ := h
    obtain ⟨d1, d2⟩ := h.done nd hql hj hR
    refine s_retW (g := 4) (x_wdpop1 r' rfl (wset_ne (h.keep hR) nd.ir) (x_fld 4 1 Z.k_Finder.cl (Z.k_Finder.na _ (by decide +kernel)) rfl (x_var 0 cx rfl) (mem_at (wset (h.keep hj))) rfl) (x_var 1 cx rfl) (show PyData.int _ = keyD (.inl _) from rfl) (kvN_get hS.s hxn) ⟨rfl, rfl, rfl, rfl⟩) fun d W2 h2 => ?_
    obtain ⟨rfl, rfl⟩ := h2
    rw [kvN_del]
    exact ⟨_, rfl, rfl, _, d1, d2⟩
theorem px_Finder_press (Z : Tx G T c0 c1 c2 c3 c4 c5 c6 c7 cS cL kFinder cM0 PM0 cM1 PM1) : Md G.prog G.w G.K G.mg G.base kFinder "press" 4 ["self", "sign"] (spR T (RX_Finder_press kFinder c1)) := by
  refine md_R Z.m_Finder_press sc_Finder_press (by decide) (fun ds W r h => by obtain ⟨J, p, S, d, rfl, _⟩ := h; rfl) fun r F ds W res cd hr h => ?_
  have cx := cd.toCtx
  obtain ⟨J, p, S, d, rfl, hP, hS, hz, hb, rfl⟩ := h
  obtain ⟨i, r', f, js, qr, qf, qs, hJ, hj, hR, hf, hjl, hql, hfs⟩ := hP.o
  have hnp := okd_np hz
  have hal := isAs_len hS.a
  have hSz : 100000 ≤ sizeLine := by decide
  by_cases ht : isTx d = true
  · obtain ⟨l, rfl⟩ : ∃ l, d = tx l := ⟨_, tx_of ht⟩
    have hzl : l.length ≤ 10000 := by
      have : (cod (tx l)).length ≤ 10000 := hz
      rwa [cod_tx] at this
    unfold badKey at hb
    rw [cod_tx, ht] at hb
    refine s_when (PW.pt (w_or (c_not (c_val (x_isi (T := "str") cx (x_var 1 cx rfl) Z.b_isinstance Z.b_str (by decide +kernel) (show kitB (tyN (tx l)) _ = some true from rfl)))) fun hb => (w_or (c_cmp op_ne od_neI (x_bi cx call_len (cd_lenS (by omega)) Z.b_len PySem.boot_len (a_cons (x_var 1 cx rfl) a_nil)) x_int) fun hb => (w_one (c_not (c_val (x_call cx (p_is_ask Z) (hr.mono (by omega)) (a_cons (x_op op_add_str (od_catS (by omega)) (x_fld 3 3 Z.k_Finder.cl (Z.k_Finder.na _ (by decide +kernel)) rfl (x_var 0 cx rfl) (mem_at hj) rfl) (x_var 1 cx rfl)) a_nil) ⟨_, rfl, okd_tx (by rw [List.length_append]; simp at hb; omega), rfl⟩))))))) (fun hc => (s_raise cd Z.w_BadAsk.ok.x Z.g_BadAsk Z.w_BadAsk.ok.k (raises_own Z.w_BadAsk.ok.e Z.w_BadAsk.ok.t) rfl)) (fun hc1 => ?_)
    exfalso
    rw [isAsk_tx] at hc1
    simp at hb hc1
    rcases hb with z | z
    · exact z (by omega)
    · rw [hc1.2] at z
      cases z
  · have ht : isTx d = false := by simpa using ht
    exact s_when (PW.pt (w_or (j := true) (c_not (c_val (x_isi cx (x_var 1 cx rfl) Z.b_isinstance Z.b_str (by decide +kernel) (kit_str ht)))) fun hb => (by cases hb))) (fun hc => (s_raise cd Z.w_BadAsk.ok.x Z.g_BadAsk Z.w_BadAsk.ok.k (raises_own Z.w_BadAsk.ok.e Z.w_BadAsk.ok.t) rfl)) (fun hc => (by cases hc))
theorem pw_Finder_press (Z : Tx G T c0 c1 c2 c3 c4 c5 c6 c7 cS cL kFinder cM0 PM0 cM1 PM1) : Md G.prog G.w G.K G.mg G.base kFinder "press" 4 ["self", "sign"] (spW T (RW_Finder_press kFinder)) := by
  refine md_W Z.m_Finder_press sc_Finder_press (by decide) (fun ds W Ω h => by obtain ⟨J, p, S, c, rfl, _⟩ := h; rfl) fun r F ds W Ω cd hr h => ?_
  have cx := cd.toCtx
  obtain ⟨J, p, S, c, rfl, hP, hS, ha, rfl⟩ := h
  obtain ⟨i, r', f, js, qr, qf, qs, rfl, hj, hR, hf, hjl, hql, hfs⟩ := hP.o
  obtain ⟨l0, q, js', qs', ej, eq, hl1, hl2, hL, hA⟩ := fd_last hjl hql hfs
  have hal := isAs_len hS.a
  have hSz : 100000 ≤ sizeLine := by decide
  have nd := nd4.mp hP.nd
  have hil := wlt hj
  have hfl := wlt hf
  have hrl := wlt hR
  obtain ⟨l, hl⟩ : ∃ l, l = [c] := ⟨_, rfl⟩
  have hzl : l.length ≤ 10000 := by rw [hl]; show 1 ≤ 10000; decide
  rw [← hl]
  refine s_when (PW.pt (w_or (c_not (c_val (x_isi (T := "str") cx (x_var 1 cx rfl) Z.b_isinstance Z.b_str (by decide +kernel) (show kitB (tyN (tx l)) _ = some true from rfl)))) fun hb => (w_or (c_cmp op_ne od_neI (x_bi cx call_len (cd_lenS (by omega)) Z.b_len PySem.boot_len (a_cons (x_var 1 cx rfl) a_nil)) x_int) fun hb => (w_one (c_not (c_val (x_call cx (p_is_ask Z) (hr.mono (by omega)) (a_cons (x_op op_add_str (od_catS (by omega)) (x_fld 3 3 Z.k_Finder.cl (Z.k_Finder.na _ (by decide +kernel)) rfl (x_var 0 cx rfl) (mem_at hj) rfl) (x_var 1 cx rfl)) a_nil) ⟨_, rfl, okd_tx (by rw [List.length_append]; simp at hb; omega), rfl⟩))))))) (fun hc1 => ?_) fun _ => ?_
  · exfalso
    rw [hl] at hc1
    simp [isAsk_tx, ha] at hc1
  refine s_fld 3 _ 3 Z.k_Finder.cl (Z.k_Finder.na _ (by decide +kernel)) rfl hj (x_var 0 cx rfl) (x_op op_add_str (od_catS (by omega)) (x_fld 3 3 Z.k_Finder.cl (Z.k_Finder.na _ (by decide +kernel)) rfl (x_var 0 cx rfl) (mem_at hj) rfl) (x_var 1 cx rfl)) ?_
  rw [hl]
  have hja := wset (r := (p, MO.ins kFinder fFinder ([mkD S.M, ptrD qr, natI S.next, tx S.typed, ptrD qf].set 3 (tx (S.typed ++ [c]))))) hj
  have hRa := wset_ne (r := (p, MO.ins kFinder fFinder ([mkD S.M, ptrD qr, natI S.next, tx S.typed, ptrD qf].set 3 (tx (S.typed ++ [c]))))) hR nd.ir
  have hfa := wset_ne (r := (p, MO.ins kFinder fFinder ([mkD S.M, ptrD qr, natI S.next, tx S.typed, ptrD qf].set 3 (tx (S.typed ++ [c]))))) hf nd.jf
  have hl0 : l0 ∈ js := by rw [ej]; simp
  have hLa := wset_ne (r := (p, MO.ins kFinder fFinder ([mkD S.M, ptrD qr, natI S.next, tx S.typed, ptrD qf].set 3 (tx (S.typed ++ [c]))))) hL (out_ne nd.ij hl0)
  generalize hWa : W.set i (p, MO.ins kFinder fFinder ([mkD S.M, ptrD qr, natI S.next, tx S.typed, ptrD qf].set 3 (tx (S.typed ++ [c])))) = Wa at hja hRa hfa hLa
  have hWl : Wa.length = W.length := by rw [← hWa]; simp
  have hLb : Wa[l0]? = some (q, .lst (S.fitting.map fun r => natI r.1)) := by
    rw [hLa]
    unfold fitR FSt.fitting
    rw [List.map_map]
    rfl
  have hfz : S.fitting.length ≤ 60 := Nat.le_trans (List.length_filter_le _ _) hS.l
  have hta : (S.typed ++ [c]).length ≤ 8 := isAs_len ha
  refine s_exprW (g := 3) (x_wappW f (by show 3 < 4; decide) rfl (mem_at hfa) (x_fld 3 4 Z.k_Finder.cl (Z.k_Finder.na _ (by decide +kernel)) rfl (x_var 0 cx rfl) (mem_at hja) rfl) (w_new rfl (x_lcP [("one", 2)] S.fitting (fun r => natI r.1) (fun r => natI r.1) (fun r => fitQ (S.typed ++ [c]) r.2) _ cx (i_wl 3 rfl (mem_at hLb) (x_wix 3 rfl (mem_at hfa) (x_fld 3 4 Z.k_Finder.cl (Z.k_Finder.na _ (by decide +kernel)) rfl (x_var 0 cx rfl) (mem_at hja) rfl) (x_un un_neg ud_neg x_int) hA)) (fun O H σ st => ls_at (g := 3) st rfl (mem_at hLb)) (by omega) (by decide +kernel) (fun s H C cl fp => g_nameB 2 (cx.blk s H _ C cl fp)) (fun x hx => tg_name) (wg_name (by decide)) (fun x hx s H C cl fp => ts_one (c_is (c_cmp op_notN od_notN (x_call (cx.blk s H _ C cl fp) (p_greedy Z) (hr.mono (by omega)) (a_cons (x_fld 3 3 Z.k_Finder.cl (Z.k_Finder.na _ (by decide +kernel)) rfl (x_var 0 (cx.blk s H _ C cl fp) rfl) (mem_at hja) rfl) (a_cons (x_wget 3 (hu1 hr) rfl (mem_at hRa) (x_fld 3 1 Z.k_Finder.cl (Z.k_Finder.na _ (by decide +kernel)) rfl (x_var 0 (cx.blk s H _ C cl fp) rfl) (mem_at hja) rfl) (x_var 2 (cx.blk s H _ C cl fp) rfl) (show PyData.int _ = keyD (.inl _) from rfl) (kvN_get hS.s (List.mem_filter.mp hx).1)) a_nil)) ⟨_, _, rfl, by omega, nm_short hS (List.mem_filter.mp hx).1, rfl⟩) x_none) (fit_not _ _))) (fun x hx hq s H C cl fp => (x_var 2 (cx.blk s H _ C cl fp) rfl)))) (fun d W' h => by obtain ⟨q2, _, rfl, rfl⟩ := h; exact wapp hfa) (by rw [List.length_map]; omega)) fun d W' h => ?_
  obtain ⟨rfl, d1, W1, ⟨q2, _, rfl, rfl⟩, rfl⟩ := h
  have efit : ((S.fitting.filter fun r => fitQ (S.typed ++ [c]) r.2).map fun r => natI r.1) = (fitR S.rows (S.typed ++ [c])).map natI := by
    unfold FSt.fitting fitR
    rw [fit_more, List.map_map]
    rfl
  rw [efit]
  have hlt : ∀ j ∈ js, j < W.length := fun j hj => hP.lt j (by simp [hj])
  have hq1 : FdAt kFinder ((Wa ++ [(q2, MO.lst ((fitR S.rows (S.typed ++ [c])).map natI))]).set f (qf, .lst (qs.map ptrD ++ [ptrD q2]))) (i :: r' :: f :: (js ++ [W.length])) p (S.type (S.typed ++ [c])) := by
    have hdl : (S.type (S.typed ++ [c])).typed.length = S.typed.length + 1 := by
      show (S.typed ++ [c]).length = _
      simp
    refine ⟨⟨i, r', f, js ++ [W.length], qr, qf, qs ++ [q2], rfl, wset_ne (wapp hja) (fun z => nd.jf z.symm), wset_ne (wapp hRa) (fun z => nd.rf z.symm), by rw [List.map_append]; exact wset (wapp hfa), by rw [List.length_append, hdl, hjl]; rfl, by rw [List.length_append, hdl, hql]; rfl, fun k m q0 a b => ?_⟩, nd4.mpr ⟨nd.ir, nd.jf, ?_, nd.rf, ?_, ?_, ?_⟩⟩
    · by_cases hk : k < js.length
      · rw [List.getElem?_append_left hk] at a
        rw [List.getElem?_append_left (by omega)] at b
        have hm := List.mem_of_getElem? a
        rw [fit_typed (by omega)]
        refine wset_ne (wapp ?_) (out_ne nd.fj hm)
        rw [← hWa]
        exact wset_ne (hfs k m q0 a b) (out_ne nd.ij hm)
      · have ek : k = js.length := by
          have := (List.getElem?_eq_some_iff.mp a).1
          rw [List.length_append] at this
          have : k < js.length + 1 := this
          omega
        subst ek
        have e1 : m = W.length := by
          rw [List.getElem?_append_right (Nat.le_refl _), Nat.sub_self] at a
          exact (Option.some.inj a).symm
        have e2 : q0 = q2 := by
          rw [List.getElem?_append_right (by omega), hjl, ← hql, Nat.sub_self] at b
          exact (Option.some.inj b).symm
        subst e1 e2
        refine wset_ne ?_ (by omega)
        rw [← hWl, w_last]
        show some (q0, MO.lst _) = some (q0, MO.lst ((fitR S.rows ((S.typed ++ [c]).take js.length)).map natI))
        rw [hjl, List.take_of_length_le (by simp)]
    · simp only [List.mem_append, List.mem_singleton, not_or]
      exact ⟨nd.ij, by omega⟩
    · simp only [List.mem_append, List.mem_singleton, not_or]
      exact ⟨nd.rj, by omega⟩
    · simp only [List.mem_append, List.mem_singleton, not_or]
      exact ⟨nd.fj, by omega⟩
    · refine List.nodup_append.mpr ⟨nd.js, by simp, fun a ha b hb => ?_⟩
      rw [List.mem_singleton.mp hb]
      have := hlt a ha
      omega
  obtain ⟨i1, r1, f1, js1, qr1, qf1, qs1, e1, hj1, hR1, hf1, hjl1, hql1, hfs1⟩ := hq1.o
  cases e1
  obtain ⟨l1, q1, js2, qs2, ej1, eq1, hl3, hl4, hL1, hA1⟩ := fd_last hjl1 hql1 hfs1
  refine s_retS (x_wlenL 3 cx Z.b_len rfl (mem_at hL1) (x_wix 3 rfl (mem_at hf1) (x_fld 3 4 Z.k_Finder.cl (Z.k_Finder.na _ (by decide +kernel)) rfl (x_var 0 cx rfl) (mem_at hj1) rfl) (x_un un_neg ud_neg x_int) hA1)) ⟨_, rfl, ?_, _, hq1, ⟨by simp [hWl], fun j x e n => ?_, fun j hj => ?_⟩⟩
  · rw [List.length_map]
    rfl
  · simp only [List.mem_cons, not_or] at n
    refine wset_ne (wapp ?_) (fun z => n.2.2.1 z.symm)
    rw [← hWa]
    exact wset_ne e (fun z => n.1 z.symm)
  · simp only [List.mem_cons, List.mem_append, List.not_mem_nil, or_false] at hj ⊢
    rcases hj with h | h | h | h | h
    · exact .inl (.inl h)
    · exact .inl (.inr (.inl h))
    · exact .inl (.inr (.inr (.inl h)))
    · exact .inl (.inr (.inr (.inr h)))
    · exact .inr (by omega)
theorem px_Finder_rub (Z : Tx G T c0 c1 c2 c3 c4 c5 c6 c7 cS cL kFinder cM0 PM0 cM1 PM1) : Md G.prog G.w G.K G.mg G.base kFinder "rub" 2 ["self"] (spR T (RX_Finder_rub kFinder c6)) := by
  refine md_R Z.m_Finder_rub sc_Finder_rub (by decide) (fun ds W r h => by obtain ⟨J, p, S, rfl, _⟩ := h; rfl) fun r F ds W res cd hr h => ?_
  have cx := cd.toCtx
  obtain ⟨J, p, S, rfl, hP, hb, rfl⟩ := h
  obtain ⟨i, r', f, js, qr, qf, qs, hJ, hj, hR, hf, hjl, hql, hfs⟩ := hP.o
  exact s_when (k := true) (c_is (c_cmp op_eq od_eqS (x_fld 1 3 Z.k_Finder.cl (Z.k_Finder.na _ (by decide +kernel)) rfl (x_var 0 cx rfl) (mem_at hj) rfl) (x_txt [])) (by rw [hb]; rfl)) (fun hc => (s_raise cd Z.w_Nothing.ok.x Z.g_Nothing Z.w_Nothing.ok.k (raises_own Z.w_Nothing.ok.e Z.w_Nothing.ok.t) rfl)) (fun hc => (by cases hc))
theorem pw_Finder_rub (Z : Tx G T c0 c1 c2 c3 c4 c5 c6 c7 cS cL kFinder cM0 PM0 cM1 PM1) : Md G.prog G.w G.K G.mg G.base kFinder "rub" 2 ["self"] (spW T (RW_Finder_rub kFinder)) := by
  refine md_W Z.m_Finder_rub sc_Finder_rub (by decide) (fun ds W Ω h => by obtain ⟨J, p, S, rfl, _⟩ := h; rfl) fun r F ds W Ω cd hr h => ?_
  have cx := cd.toCtx
  obtain ⟨J, p, S, rfl, hP, hS, ha, rfl⟩ := h
  obtain ⟨i, r', f, js, qr, qf, qs, rfl, hj, hR, hf, hjl, hql, hfs⟩ := hP.o
  obtain ⟨l, q, js', qs', rfl, rfl, hl1, hl2, hL, hA⟩ := fd_last hjl hql hfs
  have hal := isAs_len hS.a
  have hSz : 100000 ≤ sizeLine := by decide
  have nd := nd4.mp hP.nd
  have ht : 0 < S.typed.length := List.length_pos_iff.mpr ha
  refine s_when (k := false) (c_is (c_cmp op_eq od_eqS (x_fld 1 3 Z.k_Finder.cl (Z.k_Finder.na _ (by decide +kernel)) rfl (x_var 0 cx rfl) (mem_at hj) rfl) (x_txt [])) (decide_eq_false ha)) (fun hc => (by cases hc)) fun _ => ?_
  refine s_fld 1 _ 3 Z.k_Finder.cl (Z.k_Finder.na _ (by decide +kernel)) rfl hj (x_var 0 cx rfl) (x_sl sl_str (sd_str (by omega)) (x_fld 1 3 Z.k_Finder.cl (Z.k_Finder.na _ (by decide +kernel)) rfl (x_var 0 cx rfl) (mem_at hj) rfl) o_none (o_some (x_un un_neg ud_neg x_int))) ?_
  have e0 : cutL S.typed none (some (-1)) = S.typed.dropLast := cut_init _
  refine s_exprW (g := 1) (x_wpop f rfl (d := ptrD q) (ds := qs'.map ptrD) (by rw [List.map_append] at hf; exact wset_ne hf nd.jf) (x_fld 1 4 Z.k_Finder.cl (Z.k_Finder.na _ (by decide +kernel)) rfl (x_var 0 cx rfl) (mem_at (wset hj)) rfl)) fun d W' h => ?_
  obtain ⟨rfl, rfl⟩ := h
  have njs := (List.nodup_append.mp nd.js).1
  have hi' : i ∉ js' := fun z => nd.ij (by simp [z])
  have hr' : r' ∉ js' := fun z => nd.rj (by simp [z])
  have hf' : f ∉ js' := fun z => nd.fj (by simp [z])
  rw [e0]
  have hq1 : FdAt kFinder ((W.set i (p, MO.ins kFinder fFinder ([mkD S.M, ptrD qr, natI S.next, tx S.typed, ptrD qf].set 3 (tx S.typed.dropLast)))).set f (qf, .lst (qs'.map ptrD))) (i :: r' :: f :: js') p (S.type S.typed.dropLast) := by
    have hdl : (S.type S.typed.dropLast).typed.length + 1 = S.typed.length := by
      show S.typed.dropLast.length + 1 = _
      rw [List.length_dropLast]
      omega
    refine ⟨⟨i, r', f, js', qr, qf, qs', rfl, wset_ne (wset hj) (fun z => nd.jf z.symm), wset_ne (wset_ne hR nd.ir) (fun z => nd.rf z.symm), wset (wset_ne hf nd.jf), by omega, by omega, fun k m q0 a b => ?_⟩, nd4.mpr ⟨nd.ir, nd.jf, hi', nd.rf, hr', hf', njs⟩⟩
    have hkl := (List.getElem?_eq_some_iff.mp a).1
    have hm := List.mem_of_getElem? a
    rw [fit_dropL (by omega)]
    refine wset_ne (wset_ne (hfs k m q0 ?_ ?_) (out_ne hi' hm)) (out_ne hf' hm)
    · rw [List.getElem?_append_left hkl]; exact a
    · rw [List.getElem?_append_left (by omega)]; exact b
  obtain ⟨i1, r1, f1, js1, qr1, qf1, qs1, e1, hj1, hR1, hf1, hjl1, hql1, hfs1⟩ := hq1.o
  cases e1
  obtain ⟨l1, q1, js2, qs2, ej, eq, hl3, hl4, hL1, hA1⟩ := fd_last hjl1 hql1 hfs1
  refine s_retS (x_wlenL 1 cx Z.b_len rfl (mem_at hL1) (x_wix 1 rfl (mem_at hf1) (x_fld 1 4 Z.k_Finder.cl (Z.k_Finder.na _ (by decide +kernel)) rfl (x_var 0 cx rfl) (mem_at hj1) rfl) (x_un un_neg ud_neg x_int) hA1)) ⟨_, rfl, ?_, _, hq1, ⟨by simp, fun j x e n => ?_, fun j hj => .inl ?_⟩⟩
  · rw [List.length_map]
    rfl
  · simp only [List.mem_cons, not_or] at n
    exact wset_ne (wset_ne e (fun z => n.1 z.symm)) (fun z => n.2.2.1 z.symm)
  · simp only [List.mem_cons, List.mem_append] at hj ⊢
    rcases hj with h | h | h | h
    · exact .inl h
    · exact .inr (.inl h)
    · exact .inr (.inr (.inl h))
    · exact .inr (.inr (.inr (.inl h)))
theorem p_Finder_ask (Z : Tx G T c0 c1 c2 c3 c4 c5 c6 c7 cS cL kFinder cM0 PM0 cM1 PM1) : Md G.prog G.w G.K G.mg G.base kFinder "ask" 1 ["self"] (spR T (R_Finder_ask kFinder)) := by
  refine md_R Z.m_Finder_ask sc_Finder_ask (by decide) (fun ds W r h => by obtain ⟨J, p, S, rfl, _⟩ := h; rfl) fun r F ds W res cd hr h => ?_
  have cx := cd.toCtx
  obtain ⟨J, p, S, rfl, hP, rfl⟩ := h
  obtain ⟨i, r', f, js, qr, qf, qs, hJ, hj, hR, hf, hjl, hql, hfs⟩ := hP.o
  refine (s_ret (x_fld 1 3 Z.k_Finder.cl (Z.k_Finder.na _ (by decide +kernel)) rfl (x_var 0 cx rfl) (mem_at hj) rfl) ?_)
  rfl
theorem p_Finder_many (Z : Tx G T c0 c1 c2 c3 c4 c5 c6 c7 cS cL kFinder cM0 PM0 cM1 PM1) : Md G.prog G.w G.K G.mg G.base kFinder "many" 1 ["self"] (spR T (R_Finder_many kFinder)) := by
  refine md_R Z.m_Finder_many sc_Finder_many (by decide) (fun ds W r h => by obtain ⟨J, p, S, rfl, _⟩ := h; rfl) fun r F ds W res cd hr h => ?_
  have cx := cd.toCtx
  obtain ⟨J, p, S, rfl, hP, rfl⟩ := h
  obtain ⟨i, r', f, js, qr, qf, qs, hJ, hj, hR, hf, hjl, hql, hfs⟩ := hP.o
  obtain ⟨l, q, js', qs', ej, eq, hl1, hl2, hL, hA⟩ := fd_last hjl hql hfs
  refine (s_ret (x_wlenL 1 cx Z.b_len rfl (mem_at hL) (x_wix 1 rfl (mem_at hf) (x_fld 1 4 Z.k_Finder.cl (Z.k_Finder.na _ (by decide +kernel)) rfl (x_var 0 cx rfl) (mem_at hj) rfl) (x_un un_neg ud_neg x_int) hA)) ?_)
  rw [List.length_map]
  rfl
theorem p_Finder_names (Z : Tx G T c0 c1 c2 c3 c4 c5 c6 c7 cS cL kFinder cM0 PM0 cM1 PM1) : Md G.prog G.w G.K G.mg G.base kFinder "names" 1 ["self"] (spR T (R_Finder_names kFinder)) := by
  refine md_R Z.m_Finder_names sc_Finder_names (by decide) (fun ds W r h => by obtain ⟨J, p, S, rfl, _⟩ := h; rfl) fun r F ds W res cd hr h => ?_
  have cx := cd.toCtx
  obtain ⟨J, p, S, rfl, hP, hS, rfl⟩ := h
  obtain ⟨i, r', f, js, qr, qf, qs, hJ, hj, hR, hf, hjl, hql, hfs⟩ := hP.o
  have hl := hS.l
  have hSz : 100000 ≤ sizeLine := by decide
  refine (s_ret (x_dl (x_lc [("number", 1)] (_) (_) _ _ _ cx (i_list (x_is (x_wsortD 2 cx Z.b_sorted (hu65 hr) rfl (mem_at hR) (x_fld 2 1 Z.k_Finder.cl (Z.k_Finder.na _ (by decide +kernel)) rfl (x_var 0 cx rfl) (mem_at hj) rfl) (by rw [kvN_keys]; exact (nats_alike _).1) (by rw [kvN_keys]; exact (nats_alike _).2)) (show PyData.list (sortD ((S.rows.map kvN).map fun q => keyD q.1)) = PyData.list (S.rows.map fun r => natI r.1) from by rw [kvN_keys, sort_nats (List.pairwise_map.mpr hS.s), List.map_map]; rfl))) (by omega) (by decide +kernel) (fun s H C cl fp => g_nameB 1 (cx.blk s H _ C cl fp)) (fun x hx => tg_name) (wg_name (by decide)) (fun x hx s H C cl fp => ts_nil) (fun x hx hq s H C cl fp => (x_tup (a_cons (x_var 1 (cx.blk s H _ C cl fp) rfl) (a_cons (x_wget 2 (hu1 hr) rfl (mem_at hR) (x_fld 2 1 Z.k_Finder.cl (Z.k_Finder.na _ (by decide +kernel)) rfl (x_var 0 (cx.blk s H _ C cl fp) rfl) (mem_at hj) rfl) (x_var 1 (cx.blk s H _ C cl fp) rfl) (show PyData.int _ = keyD (.inl _) from rfl) (kvN_get hS.s hx)) a_nil)))))) ?_)
  show Except.ok _ = Except.ok _
  rw [filter_tt]
  rfl
theorem p_Finder_hits (Z : Tx G T c0 c1 c2 c3 c4 c5 c6 c7 cS cL kFinder cM0 PM0 cM1 PM1) : Md G.prog G.w G.K G.mg G.base kFinder "hits" 7 ["self", "most"] (spR T (R_Finder_hits kFinder c4)) := by
  refine md_R Z.m_Finder_hits sc_Finder_hits (by decide) (fun ds W r h => by obtain ⟨J, p, S, d, rfl, _⟩ := h; rfl) fun r F ds W res cd hr h => ?_
  have cx := cd.toCtx
  obtain ⟨J, p, S, d, rfl, hP, hS, hp, rfl⟩ := h
  obtain ⟨i, r', f, js, qr, qf, qs, hJ, hj, hR, hf, hjl, hql, hfs⟩ := hP.o
  obtain ⟨l, q, js', qs', ej, eq, hl1, hl2, hL, hA⟩ := fd_last hjl hql hfs
  have hl := hS.l
  have hal := isAs_len hS.a
  have hSz : 100000 ≤ sizeLine := by decide
  have hfl : (S.rows.filter fun r => fitQ S.typed r.2).length ≤ S.rows.length := List.length_filter_le _ _
  have hps : ∀ p ∈ S.fitting, p.2.length ≤ 1000 := fun p hp => by
    have := isNm_len (hS.n _ (List.mem_filter.mp hp).1)
    omega
  have hsl : (rkS (rowsOf S.M S.typed S.fitting)).length ≤ 1000 := by
    rw [rkS_len]
    have := rkr_len S.M S.typed S.fitting
    unfold FSt.fitting at this ⊢
    omega
  by_cases hc : isCnt d 0 60 = true
  · rw [if_pos hc]
    obtain ⟨m, rfl⟩ : ∃ m, d = .int m := by
      cases d with
      | int m => exact ⟨m, rfl⟩
      | _ => cases hc
    refine (s_when (c_not (c_val (x_call cx (p_is_count Z) (hr.mono (by omega)) (a_cons (x_var 1 cx rfl) (a_cons x_int (a_cons (x_kI cx Z.c_MOST_NAMES) a_nil))) ⟨_, _, _, rfl, by first | rfl | assumption | solve_by_elim, rfl⟩))) (fun hc1 => (s_raise cd Z.w_BadNumber.ok.x Z.g_BadNumber Z.w_BadNumber.ok.k (raises_own Z.w_BadNumber.ok.e Z.w_BadNumber.ok.t) ?_)) (fun hc1 => (s_lc 2 [("number", 3)] (_) (_) _ _ _ cd (i_list (x_is (x_wsortL 7 cx Z.b_sorted (hu65 hr) rfl (mem_at hL) (x_wix 7 rfl (mem_at hf) (x_fld 7 4 Z.k_Finder.cl (Z.k_Finder.na _ (by decide +kernel)) rfl (x_var 0 cx rfl) (mem_at hj) rfl) (x_un un_neg ud_neg x_int) hA) (nats_alike _).1 (nats_alike _).2 (fun d hd => by obtain ⟨x, _, rfl⟩ := List.mem_map.mp hd; exact Nat.zero_le _)) (show PyData.list (sortD ((fitR S.rows S.typed).map natI)) = PyData.list (S.fitting.map fun r => natI r.1) from by rw [sort_nats (fitR_rise hS.s _)]; unfold fitR FSt.fitting; rw [List.map_map]; rfl))) (by unfold FSt.fitting; omega) (by decide +kernel) (fun s H C cl fp => g_nameB 3 (cx.blk s H _ C cl fp)) (fun x hx => tg_name) (wg_name (by decide)) (fun x hx s H C cl fp => ts_nil) (fun x hx hq s H C cl fp => (x_tup (a_cons (x_var 3 (cx.blk s H _ C cl fp) rfl) (a_cons (x_wget 7 (hu1 hr) rfl (mem_at hR) (x_fld 7 1 Z.k_Finder.cl (Z.k_Finder.na _ (by decide +kernel)) rfl (x_var 0 (cx.blk s H _ C cl fp) rfl) (mem_at hj) rfl) (x_var 3 (cx.blk s H _ C cl fp) rfl) (show PyData.int _ = keyD (.inl _) from rfl) (kvN_get hS.s (List.mem_filter.mp hx).1)) a_nil)))) (s_ret (x_sl sl_list sd_list (x_dl (x_lc [("number", 3), ("name", 4), ("own", 5), ("places", 6)] (_) (_) _ _ _ cx (i_list (x_call cx (p_hits_of Z) (hr.mono (by omega)) (a_cons (x_fld 7 0 Z.k_Finder.cl (Z.k_Finder.na _ (by decide +kernel)) rfl (x_var 0 cx rfl) (mem_at hj) rfl) (a_cons (x_fld 7 3 Z.k_Finder.cl (Z.k_Finder.na _ (by decide +kernel)) rfl (x_var 0 cx rfl) (mem_at hj) rfl) (a_cons (x_var 2 cx rfl) a_nil))) ⟨_, _, _, by rw [filter_tt]; rfl, hS.M, by omega, hps, by unfold FSt.fitting; omega, rfl⟩)) (by omega) (by decide +kernel) (fun s H C cl fp => pg_tup (n := 4) (cx.blk s H _ C cl fp).calm (pgs_cons (g_nameB 3 (cx.blk s H _ C cl fp)) (pgs_cons (g_nameB 4 (cx.blk s H _ C cl fp)) (pgs_cons (g_nameB 5 (cx.blk s H _ C cl fp)) (pgs_cons (g_nameB 6 (cx.blk s H _ C cl fp)) pgs_nil))))) (fun x hx => tg_tup (n := 4) rfl (tg_cons tg_name (tg_cons tg_name (tg_cons tg_name (tg_cons tg_name tg_nil))))) (wg_tup (wgs_cons (by decide) (wgs_cons (by decide) (wgs_cons (by decide) (wgs_cons (by decide) wgs_nil))))) (fun x hx s H C cl fp => ts_nil) (fun x hx hq s H C cl fp => (x_tup (a_cons (x_var 3 (cx.blk s H _ C cl fp) rfl) (a_cons (x_var 5 (cx.blk s H _ C cl fp) rfl) (a_cons (x_var 6 (cx.blk s H _ C cl fp) rfl) a_nil))))))) o_none (o_some (x_var 1 cx rfl))) ?_))))
    · exact absurd hc1 (by rw [hc]; decide)
    · show Except.ok _ = Except.ok _
      rw [filter_tt]
      rfl
  · rw [if_neg hc]
    have hc' : isCnt d 0 60 = false := by simpa using hc
    refine s_when (k := true) (c_is (c_not (c_val (x_call cx (p_is_count Z) (hr.mono (by omega)) (a_cons (x_var 1 cx rfl) (a_cons x_int (a_cons (x_kI cx Z.c_MOST_NAMES) a_nil))) ⟨_, _, _, rfl, hp, rfl⟩))) (by rw [hc']; rfl)) (fun _ => (s_raise cd Z.w_BadNumber.ok.x Z.g_BadNumber Z.w_BadNumber.ok.k (raises_own Z.w_BadNumber.ok.e Z.w_BadNumber.ok.t) ?_)) (fun h => by cases h)
    rfl
theorem p_Finder_best (Z : Tx G T c0 c1 c2 c3 c4 c5 c6 c7 cS cL kFinder cM0 PM0 cM1 PM1) : Md G.prog G.w G.K G.mg G.base kFinder "best" 8 ["self"] (spR T (R_Finder_best kFinder)) := by
  refine md_R Z.m_Finder_best sc_Finder_best (by decide) (fun ds W r h => by obtain ⟨J, p, S, rfl, _⟩ := h; rfl) fun r F ds W res cd hr h => ?_
  have cx := cd.toCtx
  obtain ⟨J, p, S, rfl, hP, hS, rfl⟩ := h
  obtain ⟨i, r', f, js, qr, qf, qs, hJ, hj, hR, hf, hjl, hql, hfs⟩ := hP.o
  have hly := fhits_lay S
  cases e : S.hits with
  | nil =>
    refine s_set 1 cd (x_is (d1 := .list []) (x_mrd 2 Z.k_Finder.cl (p_Finder_hits Z) (hr.mono (by omega)) rfl (mem_at hj) (x_var 0 cx rfl) (a_cons x_int a_nil) ⟨_, _, _, .int 1, rfl, hP, hS, rfl, rfl⟩) (by rw [e]; rfl)) ?_
    exact s_ret (x_if (k := false) (d := .none) (c_is (c_cmp (op_neD hr.units) (od_neD lay_emp lay_emp) (x_var 1 cx rfl) (x_lst a_nil)) rfl) (fun hb => by cases hb) (fun hb => x_none)) rfl
  | cons b l =>
    have hb : Lay 2 (rkT b) := hly b (by rw [e]; simp)
    refine s_set 1 cd (x_is (d1 := .list [rkT b]) (x_mrd 2 Z.k_Finder.cl (p_Finder_hits Z) (hr.mono (by omega)) rfl (mem_at hj) (x_var 0 cx rfl) (a_cons x_int a_nil) ⟨_, _, _, .int 1, rfl, hP, hS, rfl, rfl⟩) (by rw [e]; rfl)) ?_
    exact s_ret (x_if (k := true) (d := .int b.1) (c_is (c_cmp (op_neD hr.units) (od_neD (lay_list (n := 2) fun d hd => by rw [List.mem_singleton.mp hd]; exact hb) lay_emp) (x_var 1 cx rfl) (x_lst a_nil)) rfl) (fun hb => (x_ix ix_tup (od_ixT (show _ = some (PyData.int b.1) from rfl)) (x_ix ix_list (od_ixL (show _ = some (rkT b) from rfl)) (x_var 1 cx rfl) x_int) x_int)) (fun hb => by cases hb)) rfl
theorem p_law_cell (Z : Tx G T c0 c1 c2 c3 c4 c5 c6 c7 cS cL kFinder cM0 PM0 cM1 PM1) : Fd G.prog G.w G.K G.mg G.base "_law_cell" 1 ["script", "k"] (Lf.spCell G.K) := by
  obtain ⟨f, fd, Fn, m, b⟩ := Z.d_law_cell.ex
  refine ⟨f, fd, ?_, m, Fn.kp, b⟩
  obtain ⟨oc, od, kV, doc, pm, an, cdv, ct, osl, rfl, lk, hcd⟩ := Fn.ex
  refine fn_of lk hcd sc_law_cell (fun vs H Q E h => by obtain ⟨a, ns, k, rfl, _⟩ := h; rfl) fun A outer s H vs Q E hr h => ⟨_, (pss_cons (ps_if (pt_cmpR (op_eqD hr.units) (pv 0) (pe_lst pa_nil) (nomark _)) (pss_one (ps_ret (pe_op op_mul (pv 1) pe_int))) pss_nil)
    (pss_one (ps_ret (pe_op op_add (pe_ix ix_list (pv 0) (pe_op op_mod (pv 1) (pe_callB call_len rfl Z.b_len PySem.boot_len (pa_cons (pv 0) pa_nil))) (fun _ _ => rfl)) (pe_op op_mul (pe_op op_fdivW (pv 1) (pe_callB call_len rfl Z.b_len PySem.boot_len (pa_cons (pv 0) pa_nil))) pe_int))))), ?_⟩
  obtain ⟨a, ns, k, rfl, hs, hl, hk, q⟩ := h
  refine ⟨.ref a, rfl, by decide, fun p hp => ⟨.list (ns.map PyData.int), .list [], .lst (sq_grow (ext_new hp) hs) (DtAll.dp _ _ (noPs_ints ns) (DtAll.of_ints (O := fun _ => False) (H := upd H p (.lst [])) ns)), .lst (SqL.of upd_same) .nil, (lay_list (n := 0) fun d hd => ?_).ok, by decide, PyData.eqv (.list (ns.map PyData.int)) (.list []), rfl, ?_⟩⟩
  · obtain ⟨i, _, rfl⟩ := List.mem_map.mp hd
    exact lay_int
  · cases ns with
    | nil => exact iteT ⟨_, rfl, _, _, rfl, rfl, .inr (by decide), q _ fun b o e => by rw [upd_ne (ne_of_none e hp)]; exact e⟩
    | cons n r =>
      have hs' := sq_grow (ext_new (o := .lst []) hp) hs
      refine iteF ⟨_, rfl, _, rfl, _, rfl, _, (n :: r).length, rfl, .inl ⟨_, hs', by rw [List.length_map]⟩, _, _, rfl, rfl, by show (0 : Int) < (((n :: r).length : Nat) : Int); simp, a, _, _, .int ((n :: r).getD (k % (n :: r).length) 0), rfl, rfl, hs', ?_, ?_⟩
      · show atI ((n :: r).map V.int) (((k : Nat) : Int) % (((n :: r).length : Nat) : Int)) = _
        rw [← Int.natCast_emod]
        refine atI_nat ?_
        have hlt : k % (n :: r).length < (n :: r).length := Nat.mod_lt _ (by simp)
        rw [List.getElem?_map, List.getElem?_eq_getElem hlt]
        rw [List.getD_eq_getElem?_getD, List.getElem?_eq_getElem hlt]
        rfl
      · refine ⟨_, rfl, _, rfl, _, (n :: r).length, rfl, .inl ⟨_, hs', by rw [List.length_map]⟩, _, _, rfl, rfl, ?_, _, _, rfl, rfl, .inr (by decide), _, _, rfl, rfl, ?_⟩
        · refine wide_div (b := 20) (by show (0 : Int) < (((n :: r).length : Nat) : Int); simp) ?_ (by decide) (by decide)
          show (((n :: r).length : Nat) : Int).natAbs < 2 ^ 20
          rw [Int.natAbs_natCast]
          omega
        · have e : cell (n :: r) k = (n :: r).getD (k % (n :: r).length) 0 + ((k : Int) / ((n :: r).length : Int)) * 104729 := by
            unfold cell
            rw [if_neg (by simp)]
          rw [e] at q
          exact q _ fun b o e => by rw [upd_ne (ne_of_none e hp)]; exact e
theorem p_law_drawn (Z : Tx G T c0 c1 c2 c3 c4 c5 c6 c7 cS cL kFinder cM0 PM0 cM1 PM1) : Fd G.prog G.w G.K G.mg G.base "_law_drawn" 1 ["cell", "k"] (spD T R_law_drawn) := by
  refine fd_data Z.d_law_drawn sc_law_drawn (fun ds r h => by obtain ⟨c, k, rfl, _⟩ := h; rfl) fun r F ds res cd hr h => ?_
  have cx := cd.toCtx
  obtain ⟨c, k, rfl, rfl⟩ := h
  refine (s_set 2 cd (x_op op_mod (od_iC (by decide)) (x_op op_add od_i0 (x_op op_mul (od_iC (.inr (by decide))) (x_var 0 cx rfl) x_int) (x_op op_mul (od_iC (.inr (by decide))) (x_op op_add od_i0 (x_var 1 cx rfl) x_int) x_int)) x_int) (s_set 2 cd (x_op op_mod (od_iC (by decide)) (x_op op_mulW (od_iC (drawn_m1 _)) (x_var 2 cx rfl) (x_var 2 cx rfl)) x_int) (s_set 2 cd (x_op op_mulW (od_iC drawn_m3) (x_op op_mulW (od_iC drawn_m2) (x_op op_add od_i0 (x_op op_mod (od_iC (by decide)) (x_var 2 cx rfl) x_int) x_int) (x_op op_add od_i0 (x_op op_fdivW (od_iC div_big) (x_var 2 cx rfl) x_int) x_int)) (x_var 2 cx rfl)) (s_ret (x_op op_mod (od_iC (by decide)) (x_var 2 cx rfl) x_int) ?_))))
  rfl
theorem p_law_sign (Z : Tx G T c0 c1 c2 c3 c4 c5 c6 c7 cS cL kFinder cM0 PM0 cM1 PM1) : Fd G.prog G.w G.K G.mg G.base "_law_sign" 1 ["more"] (spD T R_law_sign) := by
  refine fd_data Z.d_law_sign sc_law_sign (fun ds r h => by obtain ⟨m, rfl, _⟩ := h; rfl) fun r F ds res cd hr h => ?_
  have cx := cd.toCtx
  obtain ⟨m, rfl, rfl⟩ := h
  refine (s_when (c_cmp op_eq od_eqI (x_op op_mod (od_iC (by first | decide | omega)) (x_var 0 cx rfl) x_int) x_int) (fun hc1 => (s_ret (x_ix ix_str (od_ixS (by first | omega | decide | (simp; omega) | assumption) (at_rem rfl (by decide))) (x_txt [100, 101, 102, 103, 120, 121, 122, 68, 69, 70, 71, 88, 89, 90]) (x_op op_mod (od_iC (by first | decide | omega)) (x_op op_fdivW (od_iC (div_sm (by decide) (by decide))) (x_var 0 cx rfl) x_int) x_int)) ?_)) (fun hc1 => (s_ret (x_ix ix_str (od_ixS (by first | omega | decide | (simp; omega) | assumption) (at_rem rfl (by decide))) (x_txt [97, 97, 97, 98, 98, 98, 99, 65, 66, 67, 49, 50, 95, 45, 47, 46, 32]) (x_op op_mod (od_iC (by first | decide | omega)) (x_op op_fdivW (od_iC (div_sm (by decide) (by decide))) (x_var 0 cx rfl) x_int) x_int)) ?_)))
  · show Except.ok _ = Except.ok _
    unfold signC
    rw [if_pos (by simpa using hc1)]
    rfl
  · show Except.ok _ = Except.ok _
    unfold signC
    rw [if_neg (by simpa using hc1)]
    rfl
theorem p_law_name (Z : Tx G T c0 c1 c2 c3 c4 c5 c6 c7 cS cL kFinder cM0 PM0 cM1 PM1) : Fd G.prog G.w G.K G.mg G.base "_law_name" 2 ["more", "most"] (spD T R_law_name) := by
  refine fd_data Z.d_law_name sc_law_name (fun ds r h => by obtain ⟨m, n, rfl, _⟩ := h; rfl) fun r F ds res cd hr h => ?_
  have cx := cd.toCtx
  obtain ⟨m, n, rfl, h1, h2, rfl⟩ := h
  have b1 := Int.emod_nonneg m (show n ≠ 0 by omega)
  have b2 := Int.emod_lt_of_pos m h1
  have b3 : (List.range (1 + m % n).toNat).length ≤ 100000 := by rw [List.length_range]; omega
  have hj : (((List.range (1 + m % n).toNat).filter fun _ => true).map fun (j : Nat) => [signC (drawn m (j : Int))]).length ≤ 10000 := by
    rw [List.length_map, filter_tt, List.length_range]
    omega
  refine (s_ret (x_m1 PySem.F.slot_str_join PySem.F.type_str_join mt_join (cd_joinD mp_t (join1_sz hj)) (x_txt []) (x_dl (x_lc [("j", 2)] (List.range _) (fun (i : Nat) => PyData.int (i : Int)) _ _ _ cx (i_range1 cx Z.b_range (a_cons (x_op op_add od_i0 x_int (x_op op_mod (od_iC (by first | decide | omega)) (x_var 0 cx rfl) (x_var 1 cx rfl))) a_nil) (by first | omega | decide | (simp; omega) | assumption) (by first | omega | decide | (simp; omega) | assumption)) (by first | omega | decide | (simp; omega) | assumption) (by decide +kernel) (fun s H C cl fp => g_nameB 2 (cx.blk s H _ C cl fp)) (fun x hx => tg_name) (wg_name (by decide)) (fun x hx s H C cl fp => ts_nil) (fun x hx hq s H C cl fp => (x_call (cx.blk s H _ C cl fp) (p_law_sign Z) (hr.mono (by omega)) (a_cons (x_call (cx.blk s H _ C cl fp) (p_law_drawn Z) (hr.mono (by omega)) (a_cons (x_var 0 (cx.blk s H _ C cl fp) rfl) (a_cons (x_var 2 (cx.blk s H _ C cl fp) rfl) a_nil)) ⟨_, _, rfl, rfl⟩) a_nil) ⟨_, rfl, rfl⟩))))) ?_)
  show Except.ok _ = Except.ok _
  rw [filter_tt, join1]
  rfl
theorem p_law_ask_in (Z : Tx G T c0 c1 c2 c3 c4 c5 c6 c7 cS cL kFinder cM0 PM0 cM1 PM1) : Fd G.prog G.w G.K G.mg G.base "_law_ask_in" 2 ["more", "name", "most"] (spD T R_law_ask_in) := by
  refine fd_data Z.d_law_ask_in sc_law_ask_in (fun ds r h => by obtain ⟨m, n, k, rfl, _⟩ := h; rfl) fun r F ds res cd hr h => ?_
  have cx := cd.toCtx
  obtain ⟨more, nm, most, rfl, h0, h1, hn, rfl⟩ := h
  have b1 := Int.emod_nonneg more (show most + 1 ≠ 0 by omega)
  have b2 := Int.emod_lt_of_pos more (show 0 < most + 1 by omega)
  have hnl := isNm_len hn
  have hS : 10000 ≤ sizeLine := by decide
  refine (s_asg cd (x_tup (a_cons (x_txt []) (a_cons x_int a_nil))) (pg_tup cx.calm (pgs_cons (g_name 3 cd) (pgs_cons (g_name 4 cd) pgs_nil))) (tg_tup rfl (tg_cons tg_name (tg_cons tg_name tg_nil))) (s_for (List.range (more % (most + 1)).toNat) (natI) (fun pre δ => ∃ s5 s6, δ = [.dat (.int more), .dat (tx nm), .dat (.int most), .dat (tx (foldA more nm pre).1), .dat (natI (foldA more nm pre).2), s5, s6]) cd (i_range1 cx Z.b_range (a_cons (x_op op_mod (od_iC (by first | decide | omega)) (x_var 0 cx rfl) (x_op op_add od_i0 (x_var 2 cx rfl) x_int)) a_nil) (by first | omega | decide | (simp; omega) | assumption) (by first | omega | decide | (simp; omega) | assumption)) (g_name 5 cd) ?_ ?_ ?_))
  · exact ⟨_, _, rfl⟩
  · intro pre j post δ' hx hI
    obtain ⟨s5, s6, rfl⟩ := hI
    have hpl : pre.length < 200 := by
      have := congrArg List.length hx
      simp at this
      omega
    obtain ⟨l1, l2, l3⟩ := foldA_ok (more := more) hn pre
    refine ⟨_, tg_name, ?_⟩
    refine (s_set 6 cd (x_call cx (p_law_drawn Z) (hr.mono (by omega)) (a_cons (x_var 0 cx rfl) (a_cons (x_var 5 cx rfl) a_nil)) ⟨_, _, rfl, rfl⟩) ?_)
    obtain ⟨here, eh⟩ : ∃ h, h = drawn more (j : Int) := ⟨_, rfl⟩
    rw [← eh]
    refine (s_set 4 cd (x_op op_add od_i0 (x_var 4 cx rfl) (x_op op_mod (od_iC (by first | decide | omega)) (x_op op_fdivW (od_iC (div_sm (by decide) (by decide))) (x_var 6 cx rfl) x_int) x_int)) ?_)
    obtain ⟨p, ep⟩ : ∃ p : Nat, p = (foldA more nm pre).2 + (here / 8 % 3).toNat := ⟨_, rfl⟩
    have n1 := Int.emod_nonneg (here / 8) (show (3 : Int) ≠ 0 by decide)
    have e1 : ((foldA more nm pre).2 : Int) + here / 8 % 3 = (p : Int) := by omega
    rw [e1]
    have fin : foldA more nm (pre ++ [j]) = ((foldA more nm pre).1 ++ putA here nm p, p + 1) := by
      rw [foldA_snoc]
      unfold Lf.stepA
      rw [← eh, ← ep]
    refine (s_if (PW.pt (w_and (c_cmp op_lt od_b0 (x_var 4 cx rfl) (x_bi cx call_len (cd_lenS (by first | omega | decide | (simp only [List.length_cons, List.length_nil]; omega))) Z.b_len PySem.boot_len (a_cons (x_var 1 cx rfl) a_nil))) fun hb => (w_and (c_cmp op_notInS od_ninS (x_ix ix_str (od_ixS (by first | omega | decide | (simp only [List.length_cons, List.length_nil]; omega)) (getD_at (dec_lt hb))) (x_var 1 cx rfl) (x_var 4 cx rfl)) (x_txt [95, 45, 47, 46, 32])) fun hb => (w_one (c_cmp op_gt od_b0 (x_op op_mod (od_iC (by first | decide | omega)) (x_var 6 cx rfl) x_int) x_int))))) (fun hc1 => (s_set 3 cd (x_op op_add_str (od_catS (by first | omega | decide | (simp only [List.length_cons, List.length_nil]; omega))) (x_var 3 cx rfl) (x_if (d := tx [if here / 64 % 3 = 0 then nm.getD p 0 else lowC (nm.getD p 0)]) (c_cmp op_eq od_eqI (x_op op_mod (od_iC (by first | decide | omega)) (x_op op_fdivW (od_iC (div_sm (by decide) (by decide))) (x_var 6 cx rfl) x_int) x_int) x_int) (fun hb => (x_is (x_ix ix_str (od_ixS (by first | omega | decide | (simp only [List.length_cons, List.length_nil]; omega)) (getD_at (and_lt hc1))) (x_var 1 cx rfl) (x_var 4 cx rfl)) (by rw [if_pos (of_decide_eq_true hb)]))) (fun hb => (x_is (x_m0 PySem.F.slot_str_lower PySem.F.type_str_lower mt_lower (md_low1 (low8 hn (and_lt hc1))) (x_ix ix_str (od_ixS (by first | omega | decide | (simp only [List.length_cons, List.length_nil]; omega)) (getD_at (and_lt hc1))) (x_var 1 cx rfl) (x_var 4 cx rfl))) (by rw [if_neg (of_decide_eq_false hb)]))))) (s_nil (s_set 4 cd (x_op op_add od_i0 (x_var 4 cx rfl) x_int) (s_nil ?_))))) (fun hc1 => (s_when (c_cmp op_eq od_eqI (x_op op_mod (od_iC (by first | decide | omega)) (x_var 6 cx rfl) x_int) x_int) (fun hc2 => (s_set 3 cd (x_op op_add_str (od_catS (by first | omega | decide | (simp only [List.length_cons, List.length_nil]; omega))) (x_var 3 cx rfl) (x_ix ix_str (od_ixS (by first | omega | decide | (simp only [List.length_cons, List.length_nil]; omega)) (at_rem (l := l4) rfl (by decide))) (x_txt [97, 98, 65, 49]) (x_op op_mod (od_iC (by first | decide | omega)) (x_op op_fdivW (od_iC (div_sm (by decide) (by decide))) (x_var 6 cx rfl) x_int) x_int))) (s_nil (s_nil (s_set 4 cd (x_op op_add od_i0 (x_var 4 cx rfl) x_int) (s_nil ?_)))))) (fun hc2 => (s_nil (s_set 4 cd (x_op op_add od_i0 (x_var 4 cx rfl) x_int) (s_nil ?_)))))))
    · have hc : p < nm.length ∧ nm.getD p 0 ∉ lOth ∧ here % 13 > 0 := by simpa [lOth] using hc1
      show ∃ s5 s6, _ = [_, _, _, Lf.Slot.dat (tx (foldA more nm (pre ++ [j])).1), .dat (natI (foldA more nm (pre ++ [j])).2), s5, s6]
      rw [fin]
      unfold putA
      rw [if_pos hc]
      exact ⟨_, _, rfl⟩
    · have hc : ¬ (p < nm.length ∧ nm.getD p 0 ∉ lOth ∧ here % 13 > 0) := by
        intro h
        have : (decide ((p : Int) < (nm.length : Int)) && (!decide (nm.getD p 0 ∈ lOth) && decide (here % 13 > 0))) = true := by simpa using h
        exact absurd (hc1.symm.trans this) (by decide)
      show ∃ s5 s6, _ = [_, _, _, Lf.Slot.dat (tx (foldA more nm (pre ++ [j])).1), .dat (natI (foldA more nm (pre ++ [j])).2), s5, s6]
      rw [fin]
      unfold putA
      rw [if_neg hc, if_pos (of_decide_eq_true hc2)]
      exact ⟨_, _, rfl⟩
    · have hc : ¬ (p < nm.length ∧ nm.getD p 0 ∉ lOth ∧ here % 13 > 0) := by
        intro h
        have : (decide ((p : Int) < (nm.length : Int)) && (!decide (nm.getD p 0 ∈ lOth) && decide (here % 13 > 0))) = true := by simpa using h
        exact absurd (hc1.symm.trans this) (by decide)
      show ∃ s5 s6, _ = [_, _, _, Lf.Slot.dat (tx (foldA more nm (pre ++ [j])).1), .dat (natI (foldA more nm (pre ++ [j])).2), s5, s6]
      rw [fin]
      unfold putA
      rw [if_neg hc, if_neg (of_decide_eq_false hc2), List.append_nil]
      exact ⟨_, _, rfl⟩
  · intro δ' hI
    obtain ⟨s5, s6, rfl⟩ := hI
    refine (s_ret (x_var 3 cx rfl) ?_)
    rfl
theorem p_law_marks (Z : Tx G T c0 c1 c2 c3 c4 c5 c6 c7 cS cL kFinder cM0 PM0 cM1 PM1) : Fd G.prog G.w G.K G.mg G.base "_law_marks" 2 ["more"] (spD T R_law_marks) := by
  refine fd_data Z.d_law_marks sc_law_marks (fun ds r h => by obtain ⟨m, rfl, _⟩ := h; rfl) fun r F ds res cd hr h => ?_
  have cx := cd.toCtx
  obtain ⟨m, rfl, rfl⟩ := h
  refine (s_ret (x_ty cx call_tuple_of cd_tuple Z.b_tuple (by decide +kernel) (a_cons (x_dl (x_lc [("here", 1)] (_) (_) _ _ _ cx (i_list (x_dl (x_lc [("j", 2)] (List.range _) (fun (i : Nat) => PyData.int (i : Int)) _ _ _ cx (i_range1 cx Z.b_range (a_cons x_int a_nil) (by first | decide | omega | (simp; done)) (by first | decide | omega | (simp; done))) (by first | decide | omega | (simp; done)) (by decide +kernel) (fun s H C cl fp => g_nameB 2 (cx.blk s H _ C cl fp)) (fun x hx => tg_name) (wg_name (by decide)) (fun x hx s H C cl fp => ts_nil) (fun x hx hq s H C cl fp => (x_call (cx.blk s H _ C cl fp) (p_law_drawn Z) (hr.mono (by omega)) (a_cons (x_var 0 (cx.blk s H _ C cl fp) rfl) (a_cons (x_var 2 (cx.blk s H _ C cl fp) rfl) a_nil)) ⟨_, _, rfl, rfl⟩))))) (by first | decide | omega | (simp; done)) (by decide +kernel) (fun s H C cl fp => g_nameB 1 (cx.blk s H _ C cl fp)) (fun x hx => tg_name) (wg_name (by decide)) (fun x hx s H C cl fp => ts_nil) (fun x hx hq s H C cl fp => (x_ix ix_list (od_ixL (mkC_at _)) (x_lst (a_cons x_int (a_cons x_int (a_cons x_int (a_cons x_int (a_cons x_int (a_cons (x_op op_mod (od_iC (by first | decide | omega)) (x_op op_fdivW (od_iC (div_sm (by decide) (by decide))) (x_var 1 (cx.blk s H _ C cl fp) rfl) x_int) x_int) a_nil))))))) (x_op op_mod (od_iC (by first | decide | omega)) (x_var 1 (cx.blk s H _ C cl fp) rfl) x_int))))) a_nil)) ?_)
  rfl
theorem p_law_names (Z : Tx G T c0 c1 c2 c3 c4 c5 c6 c7 cS cL kFinder cM0 PM0 cM1 PM1) : Fd G.prog G.w G.K G.mg G.base "_law_names" 4 ["more", "many", "most"] (spD T R_law_names) := by
  refine fd_data Z.d_law_names sc_law_names (fun ds r h => by obtain ⟨m, n, k, rfl, _⟩ := h; rfl) fun r F ds res cd hr h => ?_
  have cx := cd.toCtx
  obtain ⟨more, many, most, rfl, h1, h2, h3, h4, rfl⟩ := h
  have b1 := Int.emod_nonneg more (show many + 1 ≠ 0 by omega)
  have b2 := Int.emod_lt_of_pos more (show 0 < many + 1 by omega)
  have b3 : (List.range (more % (many + 1)).toNat).length ≤ 100000 := by rw [List.length_range]; omega
  refine (s_ret (x_dl (x_lc [("j", 3)] (List.range _) (fun (i : Nat) => PyData.int (i : Int)) _ _ _ cx (i_range1 cx Z.b_range (a_cons (x_op op_mod (od_iC (by first | decide | omega)) (x_var 0 cx rfl) (x_op op_add od_i0 (x_var 1 cx rfl) x_int)) a_nil) (by first | omega | decide | (simp; omega) | assumption) (by first | omega | decide | (simp; omega) | assumption)) (by first | omega | decide | (simp; omega) | assumption) (by decide +kernel) (fun s H C cl fp => g_nameB 3 (cx.blk s H _ C cl fp)) (fun x hx => tg_name) (wg_name (by decide)) (fun x hx s H C cl fp => ts_nil) (fun x hx hq s H C cl fp => (x_call (cx.blk s H _ C cl fp) (p_law_name Z) (hr.mono (by omega)) (a_cons (x_call (cx.blk s H _ C cl fp) (p_law_drawn Z) (hr.mono (by omega)) (a_cons (x_var 0 (cx.blk s H _ C cl fp) rfl) (a_cons (x_op op_add od_i0 x_int (x_var 3 (cx.blk s H _ C cl fp) rfl)) a_nil)) ⟨_, _, rfl, rfl⟩) (a_cons (x_var 2 (cx.blk s H _ C cl fp) rfl) a_nil)) ⟨_, _, rfl, by omega, by omega, rfl⟩)))) ?_)
  show Except.ok _ = Except.ok _
  rw [filter_tt]
  unfold namesM
  rw [List.map_map]
  rfl
end
end K71
set_option Elab.async false
set_option linter.all false
set_option maxRecDepth 100000
set_option maxHeartbeats 800000
namespace K71
open PySem PySem.Spec PyProof.Rows L2 LamX Lf
section
variable {G : Pg} {T : List (Addr × Str)} {c0 c1 c2 c3 c4 c5 c6 c7 cS cL kFinder cM0 PM0 cM1 PM1 : Addr}
theorem pw_law_back_right (Z : Tx G T c0 c1 c2 c3 c4 c5 c6 c7 cS cL kFinder cM0 PM0 cM1 PM1) : Fd G.prog G.w G.K G.mg G.base "_law_back_right" 9 ["finder"] (spW T (RW_back_right kFinder)) := by
  refine fd_W Z.d_law_back_right sc_law_back_right (by decide) (fun ds W Ω h => by obtain ⟨J, p, S, rfl, _⟩ := h; rfl) fun r F ds W Ω cd hr h => ?_
  have cx := cd.toCtx
  obtain ⟨J, p, S, rfl, hP, hS, rfl⟩ := h
  obtain ⟨i, r', f, js, qr, qf, qs, hJ, hj, _⟩ := hP.o
  have hal := isAs_len hS.a
  refine s_parW (g := 4) 1 2 cd (aw_cons (w_pure rfl (x_mrd0 4 Z.k_Finder.cl (p_Finder_ask Z) (hr.mono (by omega)) rfl (mem_at hj) (x_var 0 cx rfl) ⟨_, _, _, rfl, hP, rfl⟩)) fun d W' h => aw_cons (w_new (W := W') rfl (x_lstN a_nil)) fun d2 W2 h2 => aw_nil (W := W2) rfl) fun ds W' h => ?_
  obtain ⟨d1, W0, es, ⟨rfl, e0⟩, ⟨d2, W2, es2, ⟨ps, _, rfl, e2⟩, ⟨rfl, rfl⟩, rfl⟩, rfl⟩ := h
  have e0 := e0.symm
  subst e0
  subst e2
  refine ⟨_, _, rfl, ?_⟩
  refine s_for S.typed (fun (c : Nat) => tx [c]) (fun pre δ => ∃ s3 W1 J1, BackI kFinder W J p ps S (S.typed.length - pre.length) pre.length W1 J1 ∧ δ = [.dat (ptrD p), .dat (tx S.typed), .dat (ptrD ps), s3, .wd false W1]) cd (i_str (x_var 1 cx rfl)) (g_name 3 cd) ⟨_, _, _, BackI.new hP, rfl⟩ ?_ ?_
  · intro pre c post δ' hx hI
    obtain ⟨s3, W1, J1, hB, rfl⟩ := hI
    have hpl : pre.length < S.typed.length := by rw [hx]; simp
    have ht : S.typed.length - pre.length = (S.typed.length - (pre.length + 1)) + 1 := by omega
    obtain ⟨i1, r1, f1, js1, qr1, qf1, qs1, hJ1, hj1, _⟩ := hB.f.o
    have hS1 := typeS_ok hS (S.typed.length - pre.length)
    refine ⟨_, tg_name, ?_⟩
    refine s_exprW (g := 4) (x_wapp W.length rfl hB.s (x_var 2 cx rfl) (x_tup (a_cons (x_mrd0 4 Z.k_Finder.cl (p_Finder_ask Z) (hr.mono (by omega)) rfl (mem_at hj1) (x_var 0 cx rfl) ⟨_, _, _, rfl, hB.f, rfl⟩) (a_cons (x_mrd0 4 Z.k_Finder.cl (p_Finder_many Z) (hr.mono (by omega)) rfl (mem_at hj1) (x_var 0 cx rfl) ⟨_, _, _, rfl, hB.f, rfl⟩) (a_cons (x_mrd 4 Z.k_Finder.cl (p_Finder_hits Z) (hr.mono (by omega)) rfl (mem_at hj1) (x_var 0 cx rfl) (a_cons x_int a_nil) ⟨_, _, _, _, rfl, hB.f, hS1, rfl, rfl⟩) a_nil)))) (by unfold stL; rw [List.length_map, List.length_range]; omega)) fun d W2 h2 => ?_
    obtain ⟨rfl, rfl⟩ := h2
    have hB2 := hB.keep (m' := pre.length + 1) (ds := stL S pre.length ++ [stN S (S.typed.length - pre.length)]) (stL_snoc S pre.length).symm
    obtain ⟨i2, r2, f2, js2, qr2, qf2, qs2, hJ2, hj2, _⟩ := hB2.f.o
    refine s_exprW (g := 4) (x_mwr0 4 Z.k_Finder.cl (pw_Finder_rub Z) (hr.mono (by omega)) rfl (mem_at hj2) (x_var 0 cx rfl) ⟨_, _, _, rfl, hB2.f, hS1, ?_, rfl⟩) fun d W3 h3 => ?_
    · intro z
      have := congrArg List.length z
      change (S.typed.take _).length = 0 at this
      rw [List.length_take] at this
      omega
    obtain ⟨rfl, J3, hf3, hr3⟩ := h3
    rw [ht, typeS_rub (by omega)] at hf3
    exact s_nil ⟨_, _, _, by rw [List.length_append]; exact hB2.deed hf3 hr3, rfl⟩
  · intro δ' hI
    obtain ⟨s3, W1, J1, hB, rfl⟩ := hI
    rw [Nat.sub_self] at hB
    refine s_for S.typed (fun (c : Nat) => tx [c]) (fun pre δ => ∃ s3 W1 J1, BackI kFinder W J p ps S pre.length (S.typed.length - pre.length) W1 J1 ∧ δ = [.dat (ptrD p), .dat (tx S.typed), .dat (ptrD ps), s3, .wd false W1]) cd (i_str (x_var 1 cx rfl)) (g_name 3 cd) ⟨_, _, _, hB, rfl⟩ ?_ ?_
    · intro pre c post δ' hx hI
      obtain ⟨s3, W1, J1, hB, rfl⟩ := hI
      have hpl : pre.length < S.typed.length := by rw [hx]; simp
      have hc : S.typed[pre.length]? = some c := by rw [hx]; simp
      obtain ⟨i1, r1, f1, js1, qr1, qf1, qs1, hJ1, hj1, _⟩ := hB.f.o
      have hS1 := typeS_ok hS pre.length
      have hS2 := typeS_ok hS (pre.length + 1)
      refine ⟨_, tg_name, ?_⟩
      refine s_exprW (g := 4) (x_mwr 4 Z.k_Finder.cl (pw_Finder_press Z) (hr.mono (by omega)) rfl (mem_at hj1) (x_var 0 cx rfl) (a_cons (x_var 3 cx rfl) a_nil) ⟨_, _, _, _, rfl, hB.f, hS1, ?_, rfl⟩) fun d W3 h3 => ?_
      · have := hS2.a
        rw [← typeS_press hc] at this
        exact this
      obtain ⟨rfl, J3, hf3, hr3⟩ := h3
      rw [typeS_press hc] at hf3
      have hB2 := hB.deed hf3 hr3
      obtain ⟨i2, r2, f2, js2, qr2, qf2, qs2, hJ2, hj2, _⟩ := hB2.f.o
      have hm : S.typed.length - pre.length = (S.typed.length - (pre.length + 1)) + 1 := by omega
      have hs2 := hB2.s
      rw [hm, stL_snoc] at hs2
      refine s_whenW (g := 4) (cw_cmp (z := fun d1 d2 => !PyData.eqv d1 d2) (Ω1 := fun d W' => d = stN S (pre.length + 1) ∧ W' = W3) (Ω2 := fun d W' d' W2 => d' = stN S (pre.length + 1) ∧ W2 = W3.set W.length (ps, .lst (stL S (S.typed.length - (pre.length + 1))))) (op_neD hr.units) (by show 4 < 5; decide) (fun d1 W1 d2 W2 h1 h2 => by rw [h1.1, h2.1]; exact od_neD (lay_stN hS _) (lay_stN hS _)) (w_pure rfl (x_tup (a_cons (x_mrd0 4 Z.k_Finder.cl (p_Finder_ask Z) (hr.mono (by omega)) rfl (mem_at hj2) (x_var 0 cx rfl) ⟨_, _, _, rfl, hB2.f, rfl⟩) (a_cons (x_mrd0 4 Z.k_Finder.cl (p_Finder_many Z) (hr.mono (by omega)) rfl (mem_at hj2) (x_var 0 cx rfl) ⟨_, _, _, rfl, hB2.f, rfl⟩) (a_cons (x_mrd 4 Z.k_Finder.cl (p_Finder_hits Z) (hr.mono (by omega)) rfl (mem_at hj2) (x_var 0 cx rfl) (a_cons x_int a_nil) ⟨_, _, _, _, rfl, hB2.f, hS2, rfl, rfl⟩) a_nil))))) (fun d W' h => w_imp (x_wpop (ds := stL S (S.typed.length - (pre.length + 1))) (d := stN S (S.typed.length - (S.typed.length - (pre.length + 1)))) W.length rfl (by rw [h.2]; exact hs2) (x_var 2 cx rfl)) fun d' W2 h2 => ⟨by rw [h2.1]; congr 1; omega, by rw [h2.2, h.2]⟩)) (fun W_ hW_ => ?_) (fun W_ hW_ => ?_)
      · obtain ⟨d1, W4, d2, ⟨rfl, _⟩, ⟨rfl, _⟩, hz⟩ := hW_
        rw [eqv_self (lay_stN hS _)] at hz
        cases hz
      · obtain ⟨d1, W4, d2, ⟨rfl, _⟩, ⟨rfl, rfl⟩, hz⟩ := hW_
        exact s_nil ⟨_, _, _, by rw [List.length_append]; exact hB2.keep rfl, rfl⟩
    · intro δ' hI
      obtain ⟨s3, W1, J1, hB, rfl⟩ := hI
      obtain ⟨i1, r1, f1, js1, qr1, qf1, qs1, hJ1, hj1, _⟩ := hB.f.o
      have hf := hB.f
      rw [typeS_all] at hf
      exact s_retS (x_is (x_cmp op_eq od_eqS (x_mrd0 4 Z.k_Finder.cl (p_Finder_ask Z) (hr.mono (by omega)) rfl (mem_at hj1) (x_var 0 cx rfl) ⟨_, _, _, rfl, hf, rfl⟩) (x_var 1 cx rfl)) (show _ = PyData.bool true from by rw [decide_eq_true rfl])) ⟨_, rfl, rfl, _, hf, hB.fr⟩
theorem pw_law_full_right (Z : Tx G T c0 c1 c2 c3 c4 c5 c6 c7 cS cL kFinder cM0 PM0 cM1 PM1) : Fd G.prog G.w G.K G.mg G.base "_law_full_right" 18 ["finder"] (spW T (RW_full_right kFinder)) := by
  refine fd_LW Z.d_law_full_right sc_law_full_right (by decide) (fun ds W Ω h => by obtain ⟨J, p, M, rfl, _⟩ := h; rfl) fun r F ds W Ω cd co hr h => ?_
  have cx := cd.toCtx
  obtain ⟨J, p, M, rfl, hM, hP, rfl⟩ := h
  have hSz : 100000 ≤ sizeLine := by decide
  have hWJ : W.length ∉ J := fun z => by have := hP.lt _ z; omega
  refine s_whenW (g := 2) (cw_cmpL (z := fun d1 => !PyData.eqv d1 (.list ((List.range 60).map fun i => natI (i + 1)))) (Ω := fun d W' => d = .list ((List.range 60).map fun i => natI (i + 1)) ∧ FdAt kFinder W' J p (fullS M 60)) (op_neD hr.units) (by show 2 < 3; decide) (fun d1 W1 h => by rw [h.1]; exact od_neD lay_nx lay_nx) (w_frz W.length (by show 2 < 3; decide) (w_imp (x_lcW (K := fun _ _ => True) (q := fun _ => true) (List.range 60) natI (FullJ kFinder W J p M) 1 cx rfl rfl (iy_d (i_range1 cx Z.b_range (a_cons x_int a_nil) (by decide) (by decide))) (by decide) (by decide +kernel) (fun s H C cl fp => g_nameB 1 (cx.blk s H _ C cl fp)) (fun L hL => FullJ.zero hP) (fun pre L acc W1 h => h.len) (fun pre L acc W1 O H σ h st => trivial) (fun pre y post L acc W1 hx h s H C cl fp => ts_nil) (fun pre y post L acc W1 hx h hq s H C cl fp => ?_) (fun pre y post L acc W1 hx h hq => by cases hq)) fun d W' h => ?_)) (fun W' => x_is (x_listRg2 cx Z.b_list Z.b_range x_int x_int (by decide) (by decide)) ?_)) (fun W_ hW_ => ?_) (fun W_ hW_ => ?_)
  · obtain ⟨h1, h2, h3⟩ := h
    obtain ⟨rfl, hy⟩ := range_atF hx
    obtain ⟨i1, r1, f1, js1, qr1, qf1, qs1, hJ1, hj1, _⟩ := h1.o
    refine w_imp (x_mwr 2 Z.k_Finder.cl (pw_Finder_add Z) (hr.mono (by omega)) rfl (mem_at hj1) (x_var 0 (cx.blk s H _ C cl fp) rfl) (a_cons (x_op op_add_str (od_catS (str_sz hy)) (x_txt [110]) (x_ty (cx.blk s H _ C cl fp) call_str_int (cd_strF (strL_is _) (log_sz hy)) Z.b_str (by decide +kernel) (a_cons (x_var 1 (cx.blk s H _ C cl fp) rfl) a_nil))) a_nil) ⟨J, p, fullS M pre.length, nmJ pre.length, rfl, h1, full_ok hM (by omega), nmJ_ok _ (List.mem_range.mpr hy), by rw [full_len]; exact hy, rfl⟩) fun d W2 h4 => ?_
    obtain ⟨rfl, h5, h6⟩ := h4
    rw [full_add] at h5
    refine ⟨h6.k _ _ h2 hWJ, ?_, ?_, ?_⟩
    · rw [List.length_append]
      exact h5.keep fun i hi x e => wset_ne e (fun z => hWJ (by rw [z]; exact hi))
    · exact wset (h6.k _ _ h2 hWJ)
    · rw [h3, List.length_append]
      show _ = (List.range (pre.length + 1)).map _
      rw [List.range_succ, List.map_append]
      rfl
  · obtain ⟨L, acc, rfl, h1, h2, h3⟩ := h
    refine ⟨L, acc, rfl, h2, by rw [h3]; rfl, h1.keep fun i hi x e => ?_⟩
    rw [List.getElem?_eraseIdx_of_lt (hP.lt i hi)]
    exact e
  · rfl
  · obtain ⟨d1, ⟨rfl, _⟩, hz⟩ := hW_
    rw [eqv_self lay_nx] at hz
    cases hz
  · obtain ⟨d1, ⟨rfl, hF⟩, hz⟩ := hW_
    obtain ⟨i1, r1, f1, js1, qr1, qf1, qs1, hJ1, hj1, _⟩ := hF.o
    refine s_when (k := false) (c_is (c_cmp op_ne od_neS (x_told (k := 12) (r := .error _) cx co (p_told (PL := cL) Z) Z.tb_law_full_right Z.hm_law_full_right Z.hu_law_full_right (hr.mono (by omega)) (told_w (l := wBadName) Z.w_BadName rfl rfl) (fun A outer s H E f c' cy ty hy => (x_mrdX 2 ty Z.k_Finder.cl (px_Finder_add Z) (hy.mono (by omega)) rfl (mem_at hj1) (x_var 0 cy rfl) (a_cons (x_txt [120]) a_nil) ⟨_, _, _, _, rfl, hF, okd_tx (by decide), .inr ⟨by decide, by rw [full_len]; exact Nat.le_refl _⟩, rfl⟩))) (x_txt [66, 97, 100, 78, 97, 109, 101])) (by decide)) (fun hc => by cases hc) fun _ => ?_
    refine s_retW (g := 2) (Ω := fun d W' => d = .bool true) (w_andT (Ω1 := fun W' => ∃ J', FdAt kFinder W' J' p ((fullS M 60).drop 7)) (w_cmpL (d1 := tx [110, 54]) op_eq (by show 2 < 3; decide) (od_is od_eqS (by rfl)) (w_imp (x_mwr 2 Z.k_Finder.cl (pw_Finder_drop Z) (hr.mono (by omega)) rfl (mem_at hj1) (x_var 0 cx rfl) (a_cons x_int a_nil) ⟨J, p, fullS M 60, 7, nmJ 6, rfl, hF, full_ok hM (Nat.le_refl _), full_six M, rfl⟩) fun d W' h => ⟨by rw [h.1, nmJ_six], h.2.elim fun J' h => ⟨J', h.1⟩⟩) (fun W' => x_txt [110, 54])) fun W2 h2 => ?_) (fun d W' h => ⟨W', rfl, h⟩)
    obtain ⟨J2, hF2⟩ := h2
    obtain ⟨i2, r2, f2, js2, qr2, qf2, qs2, hJ2, hj2, _⟩ := hF2.o
    refine w_andT (Ω1 := fun W' => FdAt kFinder W' J2 p (((fullS M 60).drop 7).add [110, 101, 119])) (w_cmpL (d1 := natI 61) op_eq (by show 2 < 3; decide) (od_is (od_eqI (i := 61)) (by rfl)) (w_imp (x_mwr 2 Z.k_Finder.cl (pw_Finder_add Z) (hr.mono (by omega)) rfl (mem_at hj2) (x_var 0 cx rfl) (a_cons (x_txt [110, 101, 119]) a_nil) ⟨J2, p, _, [110, 101, 119], rfl, hF2, (full_ok hM (Nat.le_refl _)).drop 7, by decide, by rw [full_drop]; decide, rfl⟩) fun d W' h => ⟨h.1, h.2.1⟩) (fun W' => x_int)) fun W3 hF3 => ?_
    obtain ⟨i3, r3, f3, js3, qr3, qf3, qs3, hJ3, hj3, _⟩ := hF3.o
    exact w_one1 (w_imp (w_pure (W := W3) rfl (x_is (x_cmp op_eq od_eqI (x_is (x_mrd0 2 Z.k_Finder.cl (p_Finder_many Z) (hr.mono (by omega)) rfl (mem_at hj3) (x_var 0 cx rfl) ⟨_, _, _, rfl, hF3, rfl⟩) (show natI _ = PyData.int 60 from by rw [full_many]; rfl)) x_int) (show PyData.bool _ = .bool true from by rfl))) fun d W' h => h.1)
theorem pw_law_led_round (Z : Tx G T c0 c1 c2 c3 c4 c5 c6 c7 cS cL kFinder cM0 PM0 cM1 PM1) : Fd G.prog G.w G.K G.mg G.base "_law_led_round" 9 ["finder", "names", "ask", "more"] (spW T (RW_led_round kFinder)) := by
  refine fd_W Z.d_law_led_round sc_law_led_round (by decide) (fun ds W Ω h => by obtain ⟨J, p, M, ls, a, more, rfl, _⟩ := h; rfl) fun r F ds W Ω cd hr h => ?_
  have cx := cd.toCtx
  obtain ⟨J, p, M, ls, a, more, rfl, hM, hl, hn, ha, hP, rfl⟩ := h
  have hSz : 100000 ≤ sizeLine := by decide
  have hal := isAs_len ha
  have hWJ : W.length ∉ J := fun z => by have := hP.lt _ z; omega
  obtain ⟨nm, enm⟩ : ∃ nm : Nat → List Nat, nm = fun (j : Nat) => nameL (drawn more (70 + (j : Int))) 12 := ⟨_, rfl⟩
  have hnm : ∀ j, isNm (nm j) = true := fun j => by rw [enm]; exact nameL_ok (by decide) (by decide)
  obtain ⟨gs, egs⟩ : ∃ gs : List (List Nat), gs = (List.range 4).map nm := ⟨_, rfl⟩
  have hgl : gs.length = 4 := by rw [egs]; simp
  have hgn : ∀ l ∈ gs, isNm l = true := fun l h => by
    rw [egs] at h
    obtain ⟨j, _, rfl⟩ := List.mem_map.mp h
    exact hnm j
  refine s_lcF (g := 10) (K := fun _ _ => True) (q := fun _ => true) (Ω := fun d W' => d = .list ((List.range 4).map fun i => natI (i + 1)) ∧ FdAt kFinder W' J p (ledS M gs 0 []) ∧ Fr J W W' J) 4 (List.range 4) natI (LedJ kFinder W J p M nm) 5 cd rfl rfl (iy_d (i_range1 cx Z.b_range (a_cons x_int a_nil) (by decide) (by decide))) (by decide) (by decide +kernel) (fun s H C cl fp => g_nameB 5 (cx.blk s H _ C cl fp)) (fun L hL => LedJ.zero hP) (fun pre L acc W1 h => h.len) (fun pre L acc W1 O H σ h st => trivial) (fun pre y post L acc W1 hx h s H C cl fp => ts_nil) (fun pre y post L acc W1 hx h hq s H C cl fp => ?_) (fun pre y post L acc W1 hx h hq => by cases hq) (fun L acc W' h => ?_) (fun d_ W_ hW_ => ?_)
  · obtain ⟨h1, h2, h3, h4⟩ := h
    obtain ⟨rfl, hy⟩ := range_atF hx
    obtain ⟨i1, r1, f1, js1, qr1, qf1, qs1, hJ1, hj1, _⟩ := h1.o
    have hok : okF (enS M 1 (pre.map nm) []) := okF_enum hM (by rw [List.length_map]; omega) (fun l hl => by obtain ⟨j, _, rfl⟩ := List.mem_map.mp hl; exact hnm j) (by decide) (Nat.le_refl _)
    refine w_imp (x_mwr 10 Z.k_Finder.cl (pw_Finder_add Z) (hr.mono (by omega)) rfl (mem_at hj1) (x_var 0 (cx.blk s H _ C cl fp) rfl) (a_cons (x_call (cx.blk s H _ C cl fp) (p_law_name Z) (hr.mono (by omega)) (a_cons (x_call (cx.blk s H _ C cl fp) (p_law_drawn Z) (hr.mono (by omega)) (a_cons (x_var 3 (cx.blk s H _ C cl fp) rfl) (a_cons (x_op op_add od_i0 x_int (x_var 5 (cx.blk s H _ C cl fp) rfl)) a_nil)) ⟨_, _, rfl, rfl⟩) (a_cons x_int a_nil)) (show R_law_name _ (.ok (tx (nm pre.length))) from ⟨_, _, rfl, by decide, by decide, by rw [enm]⟩)) a_nil) ⟨J, p, enS M 1 (pre.map nm) [], nm pre.length, rfl, h1, hok, hnm _, by show (enumF 1 _).length < 60; rw [enumF_len, List.length_map]; omega, rfl⟩) fun d W2 h5 => ?_
    obtain ⟨rfl, h6, h7⟩ := h5
    rw [enS_add] at h6
    refine ⟨h7.k _ _ h2 hWJ, ?_, wset (h7.k _ _ h2 hWJ), ?_, fun i x e n => wset_ne (h7.k _ _ (h4 i x e n) n) (by have := wlt e; omega)⟩
    · rw [List.map_append]
      exact h6.keep fun i hi x e => wset_ne e (fun z => hWJ (by rw [z]; exact hi))
    · rw [h3, List.length_append]
      show _ = (List.range (pre.length + 1)).map _
      rw [List.range_succ, List.map_append]
      show _ ++ [natI ((pre.map nm).length + 1)] = _
      rw [List.length_map]
      rfl
  · have hd := h.done hP.lt
    rw [← egs] at hd
    exact ⟨by rw [h.2.2.1]; rfl, hd.1, hd.2⟩
  obtain ⟨rfl, hF0, hr0⟩ := hW_
  refine s_for (enumT a) encT (fun pre δ => ∃ s5 s6 s9 W1 J1, (FdAt kFinder W1 J1 p (ledS M gs pre.length (a.take pre.length)) ∧ Fr J W W1 J1) ∧ δ = [.dat (ptrD p), .dat (.list (ls.map tx)), .dat (tx a), .dat (.int more), .dat (.list ((List.range 4).map fun i => natI (i + 1))), s5, s6, .non, .non, s9, .wd false W1]) cd (i_enumS cx Z.b_enumerate (a_cons (x_var 2 cx rfl) a_nil)) (pg_tup cx.calm (pgs_cons (g_name 5 cd) (pgs_cons (g_name 6 cd) pgs_nil))) ⟨_, _, _, _, _, ⟨hF0, hr0⟩, rfl⟩ ?_ ?_
  · intro pre x post δ' hx hI
    obtain ⟨s5, s6, s9, W1, J1, ⟨hF1, hr1⟩, rfl⟩ := hI
    obtain ⟨e1, e2⟩ := enumT_at hx
    obtain ⟨x1, c⟩ := x
    have e1 : x1 = pre.length := e1
    subst e1
    have e2 : a[pre.length]? = some c := e2
    have hpl : pre.length < a.length := (List.getElem?_eq_some_iff.mp e2).1
    refine ⟨_, tg_tup rfl (tg_cons tg_name (tg_cons tg_name tg_nil)), ?_⟩
    have hb1 := Int.emod_nonneg (drawn more (90 + (pre.length : Int))) (show (3 : Int) ≠ 0 by decide)
    refine s_for (cutL [97, 98] none (some (drawn more (90 + (pre.length : Int)) % 3))) (fun (c : Nat) => tx [c]) (fun pre1 δ => ∃ s9 W1 J1, (FdAt kFinder W1 J1 p (ledS M gs pre.length (a.take pre.length)) ∧ Fr J W W1 J1) ∧ δ = [.dat (ptrD p), .dat (.list (ls.map tx)), .dat (tx a), .dat (.int more), .dat (.list ((List.range 4).map fun i => natI (i + 1))), .dat (natI pre.length), .dat (tx [c]), .non, .non, s9, .wd false W1]) cd (i_str (x_sl sl_str (sd_str (show 2 ≤ sizeLine by decide)) (x_txt [97, 98]) o_none (o_some (x_op op_mod (od_iC (by decide)) (x_call cx (p_law_drawn Z) (hr.mono (by omega)) (a_cons (x_var 3 cx rfl) (a_cons (x_op op_add od_i0 x_int (x_var 5 cx rfl)) a_nil)) ⟨_, _, rfl, rfl⟩) x_int)))) (g_name 9 cd) ⟨_, _, _, ⟨hF1, hr1⟩, rfl⟩ ?_ ?_
    · intro pre1 y post1 δ1 hx1 hI1
      obtain ⟨s9, W2, J2, ⟨hF2, hr2⟩, rfl⟩ := hI1
      have hy : y = 97 ∨ y = 98 := by
        have hm : y ∈ cutL [97, 98] none (some (drawn more (90 + (pre.length : Int)) % 3)) := by rw [hx1]; simp
        simpa using cut_mem hm
      have hok := ledS_ok (t := pre.length) hM (by omega) hgn (isAs_take ha pre.length)
      obtain ⟨i1, r1, f1, js1, qr1, qf1, qs1, hJ1, hj1, _⟩ := hF2.o
      refine ⟨_, tg_name, ?_⟩
      refine s_when (c_cmp op_lt od_b0 (x_bi cx call_len (cd_lenS (by show (a.take _).length ≤ _; rw [List.length_take]; omega)) Z.b_len PySem.boot_len (a_cons (x_mrd0 10 Z.k_Finder.cl (p_Finder_ask Z) (hr.mono (by omega)) rfl (mem_at hj1) (x_var 0 cx rfl) ⟨_, _, _, rfl, hF2, rfl⟩) a_nil)) x_int) (fun hc => ?_) (fun hc => s_nil ⟨_, _, _, ⟨hF2, hr2⟩, rfl⟩)
      have hc : (a.take pre.length).length < 8 := by
        have := of_decide_eq_true hc
        have : ((a.take pre.length).length : Int) < 8 := this
        omega
      refine s_exprW (g := 10) (x_mwr 10 Z.k_Finder.cl (pw_Finder_press Z) (hr.mono (by omega)) rfl (mem_at hj1) (x_var 0 cx rfl) (a_cons (x_var 9 cx rfl) a_nil) ⟨_, _, _, _, rfl, hF2, hok, isAs_more hok.a hc hy, rfl⟩) fun d3 W3 h3 => ?_
      obtain ⟨rfl, J3, hF3, hr3⟩ := h3
      obtain ⟨i2, r2, f2, js2, qr2, qf2, qs2, hJ2, hj2, _⟩ := hF3.o
      refine s_exprW (g := 10) (x_mwr0 10 Z.k_Finder.cl (pw_Finder_rub Z) (hr.mono (by omega)) rfl (mem_at hj2) (x_var 0 cx rfl) ⟨_, _, _, rfl, hF3, hok.type (isAs_more hok.a hc hy), (fun z => by have := congrArg List.length z; simp [FSt.type] at this), rfl⟩) fun d4 W4 h4 => ?_
      obtain ⟨rfl, J4, hF4, hr4⟩ := h4
      rw [type_rub] at hF4
      exact s_nil (s_nil ⟨_, _, _, ⟨hF4, (hr2.trans hr3).trans hr4⟩, rfl⟩)
    · intro δ1 hI1
      obtain ⟨s9, W2, J2, ⟨hF2, hr2⟩, rfl⟩ := hI1
      have hok := ledS_ok (t := pre.length) hM (by omega) hgn (isAs_take ha pre.length)
      have hok2 := ledS_ok (t := pre.length) hM (by omega) hgn (isAs_take ha (pre.length + 1))
      obtain ⟨i1, r1, f1, js1, qr1, qf1, qs1, hJ1, hj1, _⟩ := hF2.o
      refine s_exprW (g := 10) (x_mwr 10 Z.k_Finder.cl (pw_Finder_press Z) (hr.mono (by omega)) rfl (mem_at hj1) (x_var 0 cx rfl) (a_cons (x_var 6 cx rfl) a_nil) ⟨_, _, _, _, rfl, hF2, hok, (show isAs (a.take pre.length ++ [c]) = true from by rw [take_at e2]; exact isAs_take ha _), rfl⟩) fun d3 W3 h3 => ?_
      obtain ⟨rfl, J3, hF3, hr3⟩ := h3
      have hF3 : FdAt kFinder W3 J3 p (ledS M gs pre.length (a.take pre.length ++ [c])) := hF3
      rw [take_at e2] at hF3
      obtain ⟨i2, r2, f2, js2, qr2, qf2, qs2, hJ2, hj2, _⟩ := hF3.o
      refine s_when (c_cmp op_lt od_b0 (x_var 5 cx rfl) (x_bi cx call_len cd_lenL Z.b_len PySem.boot_len (a_cons (x_var 4 cx rfl) a_nil))) (fun hc => ?_) (fun hc => ?_)
      · have hc : pre.length < 4 := by
          have : (pre.length : Int) < 4 := of_decide_eq_true hc
          omega
        refine s_exprW (g := 10) (x_mwr 10 Z.k_Finder.cl (pw_Finder_drop Z) (hr.mono (by omega)) rfl (mem_at hj2) (x_var 0 cx rfl) (a_cons (x_ix ix_list (od_ixL (d := natI (pre.length + 1)) (at_four hc)) (x_var 4 cx rfl) (x_var 5 cx rfl)) a_nil) ⟨_, _, _, _, _, rfl, hF3, hok2, ledS_mem (by omega), rfl⟩) fun d4 W4 h4 => ?_
        obtain ⟨rfl, J4, hF4, hr4⟩ := h4
        rw [ledS_drop (by omega)] at hF4
        exact s_nil (s_nil ⟨_, _, _, _, _, by rw [List.length_append]; exact ⟨hF4, (hr2.trans hr3).trans hr4⟩, rfl⟩)
      · have hc : 4 ≤ pre.length := by
          have : ¬ (pre.length : Int) < 4 := of_decide_eq_false hc
          omega
        rw [ledS_far (by omega) 5 (by omega), ← ledS_far (t := pre.length + 1) (gs := gs) (by omega) 5 (by omega)] at hF3
        exact s_nil ⟨_, _, _, _, _, by rw [List.length_append]; exact ⟨hF3, hr2.trans hr3⟩, rfl⟩
  · intro δ' hI
    obtain ⟨s5, s6, s9, W1, J1, ⟨hF1, hr1⟩, rfl⟩ := hI
    rw [show (enumT a).length = a.length by simp [enumT], List.take_length] at hF1
    refine s_for ((List.range 4).drop a.length) (fun (i : Nat) => natI (i + 1)) (fun pre δ => ∃ s7 W1 J1, (FdAt kFinder W1 J1 p (ledS M gs (a.length + pre.length) a) ∧ Fr J W W1 J1) ∧ δ = [.dat (ptrD p), .dat (.list (ls.map tx)), .dat (tx a), .dat (.int more), .dat (.list ((List.range 4).map fun i => natI (i + 1))), s5, s6, s7, .non, s9, .wd false W1]) cd (i_list (x_is (x_sl sl_list sd_list (x_var 4 cx rfl) (o_some (x_bi cx call_len (cd_lenS (by omega)) Z.b_len PySem.boot_len (a_cons (x_var 2 cx rfl) a_nil))) o_none) (by rw [cut_drop, ← List.map_drop]))) (g_name 7 cd) ⟨_, _, _, ⟨hF1, hr1⟩, rfl⟩ ?_ ?_
    · intro pre y post δ1 hx1 hI1
      obtain ⟨s7, W2, J2, ⟨hF2, hr2⟩, rfl⟩ := hI1
      obtain ⟨rfl, hy⟩ := range_dropF hx1
      have hok := ledS_ok (t := a.length + pre.length) hM (by omega) hgn ha
      obtain ⟨i1, r1, f1, js1, qr1, qf1, qs1, hJ1, hj1, _⟩ := hF2.o
      refine ⟨_, tg_name, ?_⟩
      refine s_exprW (g := 10) (x_mwr 10 Z.k_Finder.cl (pw_Finder_drop Z) (hr.mono (by omega)) rfl (mem_at hj1) (x_var 0 cx rfl) (a_cons (x_var 7 cx rfl) a_nil) ⟨_, _, _, _, _, rfl, hF2, hok, ledS_mem (by omega), rfl⟩) fun d4 W4 h4 => ?_
      obtain ⟨rfl, J4, hF4, hr4⟩ := h4
      rw [ledS_drop (by omega)] at hF4
      exact s_nil ⟨_, _, _, by rw [List.length_append]; exact ⟨hF4, hr2.trans hr4⟩, rfl⟩
    · intro δ1 hI1
      obtain ⟨s7, W2, J2, ⟨hF2, hr2⟩, rfl⟩ := hI1
      rw [List.length_drop, List.length_range, ledS_far (by omega) 5 (by omega)] at hF2
      refine s_for ls tx (fun pre δ => ∃ s8 W1 J1, (FdAt kFinder W1 J1 p (enS M 5 pre a) ∧ Fr J W W1 J1) ∧ δ = [.dat (ptrD p), .dat (.list (ls.map tx)), .dat (tx a), .dat (.int more), .dat (.list ((List.range 4).map fun i => natI (i + 1))), s5, s6, s7, s8, s9, .wd false W1]) cd (i_list (x_var 1 cx rfl)) (g_name 8 cd) ⟨_, _, _, ⟨hF2, hr2⟩, rfl⟩ ?_ ?_
      · intro pre y post δ2 hx2 hI2
        obtain ⟨s8, W3, J3, ⟨hF3, hr3⟩, rfl⟩ := hI2
        have hpl : pre.length < ls.length := by rw [hx2]; simp
        have hok : okF (enS M 5 pre a) := okF_enum hM (by omega) (fun l hl => hn l (by rw [hx2]; simp [hl])) ha (by decide)
        obtain ⟨i1, r1, f1, js1, qr1, qf1, qs1, hJ1, hj1, _⟩ := hF3.o
        refine ⟨_, tg_name, ?_⟩
        refine s_exprW (g := 10) (x_mwr 10 Z.k_Finder.cl (pw_Finder_add Z) (hr.mono (by omega)) rfl (mem_at hj1) (x_var 0 cx rfl) (a_cons (x_var 8 cx rfl) a_nil) ⟨_, _, _, _, rfl, hF3, hok, hn y (by rw [hx2]; simp), (by show (enumF 5 pre).length < 60; rw [enumF_len]; omega), rfl⟩) fun d4 W4 h4 => ?_
        obtain ⟨rfl, hF4, hr4⟩ := h4
        rw [enS_add] at hF4
        exact s_nil ⟨_, _, _, ⟨hF4, hr3.trans hr4⟩, rfl⟩
      · intro δ2 hI2
        obtain ⟨s8, W3, J3, ⟨hF3, hr3⟩, rfl⟩ := hI2
        exact s_nil ⟨_, rfl, rfl, _, hF3, hr3⟩
theorem p_law (Z : Tx G T c0 c1 c2 c3 c4 c5 c6 c7 cS cL kFinder cM0 PM0 cM1 PM1) {fL : Addr} {oc kV doc pm ct : Value} {od an : Option Addr} {osl : Array (Option Value)} (lk : G.K.lookup fL = some ⟨oc, od, .func (PySem.W.fnOf "law" "law" (defArgs st_law) (defBody st_law) (defScope st_law) .none kV doc pm an (.ref cL) ct), osl⟩) (hcd : PySem.W.codeIn G.K (.ref cL) "law" = true) :
    FnOk G.prog G.w G.K G.mg G.base (L2N.CX G.prog G.w) 30 fL (PySem.W.fnOf "law" "law" (defArgs st_law) (defBody st_law) (defScope st_law) .none kV doc pm an (.ref cL) ct) ["script"] (spLaw T G.K fun ns => ns.length ≤ 63) := by
  refine fn_lawW lk hcd sc_law (by decide) fun r F ns cd co hr hl => ?_
  have cx := cd.toCtx
  have hns : ns.length ≤ 100000 := by omega
  have hSz : 100000 ≤ sizeLine := by decide
  refine (s_for (List.range _) (natI) (fun pre_ δ => ∃ s1 s2 s3 s4 s5 s6 s7 s8 s9 s10 s11 s12 s13 s14 W0, δ = [.scr ns, s1, s2, s3, s4, s5, s6, s7, s8, s9, s10, s11, s12, s13, s14, .wd false W0]) cd (i_range1 cx Z.b_range (a_cons (x_bi cx (call_max2 cx.calm) cd_max2 Z.b_max (by decide +kernel) (a_cons x_int (a_cons (x_bi cx (call_min2 cx.calm) cd_min2 Z.b_min (by decide +kernel) (a_cons x_int (a_cons (x_slen 0 cx rfl rfl Z.b_len) a_nil))) a_nil))) a_nil) (by first | omega | decide | (simp; omega) | assumption) (by first | omega | decide | (simp; omega) | assumption)) (g_name 1 cd) ?_ ?_ ?_)
  · exact ⟨_, _, _, _, _, _, _, _, _, _, _, _, _, _, _, rfl⟩
  · intro pre k post δ' hx hI
    obtain ⟨s1, s2, s3, s4, s5, s6, s7, s8, s9, s10, s11, s12, s13, s14, W0, rfl⟩ := hI
    have hk : k < 1000 := by
      have hm : k ∈ pre ++ k :: post := by simp
      rw [← hx] at hm
      have := List.mem_range.mp hm
      omega
    refine ⟨_, tg_name, ?_⟩
    refine s_wdrop 15 rfl ?_
    refine (s_set 2 cd (x_call cx (p_law_drawn Z) (hr.mono (by omega)) (a_cons (x_cell 0 cx rfl rfl (p_law_cell Z) (hr.mono (by omega)) (x_var 1 cx rfl) hns hk) (a_cons (x_var 1 cx rfl) a_nil)) ⟨_, _, rfl, rfl⟩) ?_)
    generalize drawn (cell ns k) (k : Int) = more
    have hnz := namesM_len (more := more / 64) (many := 12) (most := 30) (by decide)
    refine (s_par (i := 3) (j := 4) cd (a_cons (x_call cx (p_law_marks Z) (hr.mono (by omega)) (a_cons (x_op op_fdivW (od_iC (div_sm (by decide) (by decide))) (x_var 2 cx rfl) x_int) a_nil) ⟨_, rfl, rfl⟩) (a_cons (x_op op_cat (od_catL (by rw [List.length_map]; show (namesM (more / 64) 12 30).length + 1 ≤ sizeLine; omega)) (x_call cx (p_law_names Z) (hr.mono (by omega)) (a_cons (x_op op_fdivW (od_iC (div_sm (by decide) (by decide))) (x_var 2 cx rfl) x_int) (a_cons x_int (a_cons x_int a_nil))) ⟨_, _, _, rfl, by decide, by decide, by decide, by decide, rfl⟩) (x_lst (a_cons (x_txt [97, 98, 67, 95, 49]) a_nil))) a_nil)) ?_)
    have hM := mkL_ok (more / 8)
    generalize mkL (more / 8) = M at hM ⊢
    obtain ⟨ls, els⟩ : ∃ ls, ls = namesM (more / 64) 12 30 ++ [[97, 98, 67, 95, 49]] := ⟨_, rfl⟩
    have hlz : ls.length ≤ 13 := by rw [els, List.length_append]; show (namesM (more / 64) 12 30).length + 1 ≤ 13; omega
    have hl0 : 0 < ls.length := by rw [els]; simp
    have hnl : ∀ l ∈ ls, isNm l = true := fun l h => by
      rw [els] at h
      rcases List.mem_append.mp h with z | z
      · exact (namesM_ok (by decide) (by decide) l z).1
      · rw [List.mem_singleton.mp z]; decide
    rw [show (namesM (more / 64) 12 30).map tx ++ [tx [97, 98, 67, 95, 49]] = ls.map tx by rw [els, List.map_append]; rfl]
    clear els
    have hn0 : isNm (ls.getD 0 []) = true := hnl _ (by rw [List.getD_eq_getElem?_getD, List.getElem?_eq_getElem hl0]; exact List.getElem_mem hl0)
    have hh0 : ls.head? = some (ls.getD 0 []) := by
      cases ls with
      | nil => cases hl0
      | cons x l => rfl
    refine (s_set 5 cd (x_call cx (p_law_ask_in Z) (hr.mono (by omega)) (a_cons (x_call cx (p_law_drawn Z) (hr.mono (by omega)) (a_cons (x_var 2 cx rfl) (a_cons x_int a_nil)) ⟨_, _, rfl, rfl⟩) (a_cons (x_ix ix_list (od_ixL (at_head hh0)) (x_var 4 cx rfl) x_int) (a_cons x_int a_nil))) ⟨_, _, _, rfl, by decide, by decide, hn0, rfl⟩) ?_)
    have ha := (askIn_ok (more := drawn more 3) hn0 (show (0 : Int) ≤ 8 by decide) (by decide)).1
    generalize askIn (drawn more 3) (ls.getD 0 []) 8 = a at ha ⊢
    have hal := isAs_len ha
    refine s_par3W (g := 15) 6 7 8 cd (aw_cons (x_make 15 cx Z.k_Finder.mg (pw_Finder_init Z) (hr.mono (by omega)) rfl (a_cons (x_var 3 cx rfl) a_nil) (fun q hq => ⟨_, q, M, rfl, hM, w_last, rfl⟩)) fun d1 W1 h1 => aw_cons (x_make 15 cx Z.k_Finder.mg (pw_Finder_init Z) (hr.mono (by omega)) rfl (a_cons (x_var 3 cx rfl) a_nil) (fun q hq => ⟨_, q, M, rfl, hM, w_last, rfl⟩)) fun d2 W2 h2 => aw_cons (x_make 15 cx Z.k_Finder.mg (pw_Finder_init Z) (hr.mono (by omega)) rfl (a_cons (x_var 3 cx rfl) a_nil) (fun q hq => ⟨_, q, M, rfl, hM, w_last, rfl⟩)) fun d3 W3 h3 => aw_nil (W := W3) rfl) fun ds W' h => ?_
    obtain ⟨_, W1, es, ⟨p1, _, rfl, J1, hF1, hr1⟩, ⟨_, W2, es2, ⟨p2, _, rfl, J2, hF2, hr2⟩, ⟨_, W3, es3, ⟨p3, _, rfl, J3, hF3, hr3⟩, ⟨rfl, rfl⟩, rfl⟩, rfl⟩, rfl⟩ := h
    have hT := T3.new hF1 hF2 hr2 hF3 hr3
    clear hF1 hr1 hF2 hr2 hF3 hr3 J1 J2 J3
    refine ⟨_, _, _, rfl, ?_⟩
    refine s_for ls tx (fun pre δ => ∃ s9 W1, T3 kFinder W1 p1 (enS M 1 pre []) p2 ⟨M, [], 1, []⟩ p3 ⟨M, [], 1, []⟩ ∧ δ = [.scr ns, .dat (natI k), .dat (.int more), .dat (mkD M), .dat (.list (ls.map tx)), .dat (tx a), .dat (ptrD p1), .dat (ptrD p2), .dat (ptrD p3), s9, s10, s11, s12, s13, s14, .wd false W1]) cd (i_list (x_var 4 cx rfl)) (g_name 9 cd) ⟨_, _, hT, rfl⟩ ?_ ?_
    · intro pre1 y post1 δ1 hx1 hI1
      obtain ⟨s9, W4, hT, rfl⟩ := hI1
      obtain ⟨J, hF, hK⟩ := hT.one
      obtain ⟨i1, r1, f1, js1, qr1, qf1, qs1, hJ1, hj1, _⟩ := hF.o
      have hpl : pre1.length < ls.length := by rw [hx1]; simp
      have hok : okF (enS M 1 pre1 []) := okF_enum hM (by omega) (fun l hl => hnl l (by rw [hx1]; simp [hl])) (by decide) (Nat.le_refl _)
      refine ⟨_, tg_name, ?_⟩
      refine s_exprW (g := 15) (x_mwr 15 Z.k_Finder.cl (pw_Finder_add Z) (hr.mono (by omega)) rfl (mem_at hj1) (x_var 6 cx rfl) (a_cons (x_var 9 cx rfl) a_nil) ⟨_, _, _, _, rfl, hF, hok, hnl y (by rw [hx1]; simp), (by show (enumF 1 pre1).length < 60; rw [enumF_len]; omega), rfl⟩) fun d4 W5 h4 => ?_
      obtain ⟨rfl, hF4, hr4⟩ := h4
      rw [enS_add] at hF4
      exact s_nil ⟨_, _, hK _ _ _ hF4 hr4, rfl⟩
    · intro δ1 hI1
      obtain ⟨s9, W4, hT, rfl⟩ := hI1
      refine s_for a (fun (c : Nat) => tx [c]) (fun pre δ => ∃ s10 W1, T3 kFinder W1 p1 (enS M 1 ls (a.take pre.length)) p2 ⟨M, [], 1, []⟩ p3 ⟨M, [], 1, []⟩ ∧ δ = [.scr ns, .dat (natI k), .dat (.int more), .dat (mkD M), .dat (.list (ls.map tx)), .dat (tx a), .dat (ptrD p1), .dat (ptrD p2), .dat (ptrD p3), s9, s10, s11, s12, s13, s14, .wd false W1]) cd (i_str (x_var 5 cx rfl)) (g_name 10 cd) ⟨_, _, hT, rfl⟩ ?_ ?_
      · intro pre2 c post2 δ2 hx2 hI2
        obtain ⟨s10, W5, hT, rfl⟩ := hI2
        have hc : a[pre2.length]? = some c := by rw [hx2]; simp
        obtain ⟨J, hF, hK⟩ := hT.one
        obtain ⟨i1, r1, f1, js1, qr1, qf1, qs1, hJ1, hj1, _⟩ := hF.o
        have hok : okF (enS M 1 ls (a.take pre2.length)) := okF_enum hM (by omega) hnl (isAs_take ha _) (Nat.le_refl _)
        refine ⟨_, tg_name, ?_⟩
        refine s_exprW (g := 15) (x_mwr 15 Z.k_Finder.cl (pw_Finder_press Z) (hr.mono (by omega)) rfl (mem_at hj1) (x_var 6 cx rfl) (a_cons (x_var 10 cx rfl) a_nil) ⟨_, _, _, _, rfl, hF, hok, (show isAs (a.take pre2.length ++ [c]) = true from by rw [take_at hc]; exact isAs_take ha _), rfl⟩) fun d4 W6 h4 => ?_
        obtain ⟨rfl, J4, hF4, hr4⟩ := h4
        have hF4 : FdAt kFinder W6 J4 p1 (enS M 1 ls (a.take pre2.length ++ [c])) := hF4
        rw [take_at hc] at hF4
        exact s_nil ⟨_, _, by rw [List.length_append]; exact hK _ _ _ hF4 hr4, rfl⟩
      · intro δ2 hI2
        obtain ⟨s10, W5, hT, rfl⟩ := hI2
        rw [List.take_length] at hT
        obtain ⟨J, hF, hK⟩ := hT.two
        refine s_exprW (g := 15) (x_cwr 15 cx (pw_law_led_round Z) (hr.mono (by omega)) rfl (a_cons (x_var 7 cx rfl) (a_cons (x_var 4 cx rfl) (a_cons (x_var 5 cx rfl) (a_cons (x_var 2 cx rfl) a_nil)))) ⟨_, _, _, _, _, _, rfl, hM, by omega, hnl, ha, hF, rfl⟩) fun d4 W6 h4 => ?_
        obtain ⟨rfl, J4, hF4, hr4⟩ := h4
        have hT := hK _ _ _ hF4 hr4
        clear hK hF4 hr4 hF
        have o1 : okF (enS M 1 ls a) := okF_enum hM (by omega) hnl ha (by decide)
        have o2 : okF (enS M 5 ls a) := okF_enum hM (by omega) hnl ha (by decide)
        obtain ⟨J1, hF1, hK1⟩ := hT.one
        obtain ⟨J2, hF2, hK2⟩ := hT.two
        obtain ⟨i1, r1, f1, js1, qr1, qf1, qs1, hJ1, hj1, _⟩ := hF1.o
        obtain ⟨i2, r2, f2, js2, qr2, qf2, qs2, hJ2, hj2, _⟩ := hF2.o
        have hhl := hitsL_len M a ls
        refine s_set 11 cd (x_is (x_call cx (p_hits Z) (hr.mono (by omega)) (a_cons (x_var 3 cx rfl) (a_cons (x_var 5 cx rfl) (a_cons (x_var 4 cx rfl) (a_cons x_int a_nil)))) (R_hits_ok hM ha (by omega) hnl (by decide) (by decide))) (show _ = PyData.list (hitsL M a ls) from by rw [show (60 : Int) = ((60 : Nat) : Int) from rfl, cut_most (by omega)])) ?_
        have hlay := hitsL_lay M a ls
        refine s_when (k := false) (c_is (c_cmp (op_neD hr.units) (od_neD hlay hlay) (x_is (x_dl (x_lc [("number", 12), ("price", 13), ("spots", 14)] (enS M 1 ls a).hits rkT _ (fun _ => true) _ cx (i_list (x_is (x_mrd 15 Z.k_Finder.cl (p_Finder_hits Z) (hr.mono (by omega)) rfl (mem_at hj1) (x_var 6 cx rfl) (a_cons x_int a_nil) ⟨_, _, _, .int 60, rfl, hF1, o1, rfl, rfl⟩) (by show PyData.list (cutL _ none (some ((60 : Nat) : Int))) = _; rw [cut_most (by rw [List.length_map]; exact hits_short o1)]))) (by have := hits_short o1; omega) (by decide +kernel) (fun s H C cl fp => pg_tup (n := 3) (cx.blk s H _ C cl fp).calm (pgs_cons (g_nameB 12 (cx.blk s H _ C cl fp)) (pgs_cons (g_nameB 13 (cx.blk s H _ C cl fp)) (pgs_cons (g_nameB 14 (cx.blk s H _ C cl fp)) pgs_nil)))) (fun x hx => tg_tup (n := 3) rfl (tg_cons tg_name (tg_cons tg_name (tg_cons tg_name tg_nil)))) (wg_tup (wgs_cons (by decide) (wgs_cons (by decide) (wgs_cons (by decide) wgs_nil)))) (fun x hx s H C cl fp => ts_nil) (fun x hx hq s H C cl fp => (x_tup (a_cons (x_op op_sub od_i0 (x_var 12 (cx.blk s H _ C cl fp) rfl) x_int) (a_cons (x_var 13 (cx.blk s H _ C cl fp) rfl) (a_cons (x_var 14 (cx.blk s H _ C cl fp) rfl) a_nil))))))) (by rw [filter_tt]; exact congrArg PyData.list (hits_less (S := enS M 1 ls a) (k := 1) rfl))) (x_var 11 cx rfl)) (by rw [eqv_self hlay]; rfl)) (fun hc => by cases hc) fun _ => ?_
        refine s_when (k := false) (c_is (c_cmp (op_neD hr.units) (od_neD hlay hlay) (x_is (x_dl (x_lc [("number", 12), ("price", 13), ("spots", 14)] (enS M 5 ls a).hits rkT _ (fun _ => true) _ cx (i_list (x_is (x_mrd 15 Z.k_Finder.cl (p_Finder_hits Z) (hr.mono (by omega)) rfl (mem_at hj2) (x_var 7 cx rfl) (a_cons x_int a_nil) ⟨_, _, _, .int 60, rfl, hF2, o2, rfl, rfl⟩) (by show PyData.list (cutL _ none (some ((60 : Nat) : Int))) = _; rw [cut_most (by rw [List.length_map]; exact hits_short o2)]))) (by have := hits_short o2; omega) (by decide +kernel) (fun s H C cl fp => pg_tup (n := 3) (cx.blk s H _ C cl fp).calm (pgs_cons (g_nameB 12 (cx.blk s H _ C cl fp)) (pgs_cons (g_nameB 13 (cx.blk s H _ C cl fp)) (pgs_cons (g_nameB 14 (cx.blk s H _ C cl fp)) pgs_nil)))) (fun x hx => tg_tup (n := 3) rfl (tg_cons tg_name (tg_cons tg_name (tg_cons tg_name tg_nil)))) (wg_tup (wgs_cons (by decide) (wgs_cons (by decide) (wgs_cons (by decide) wgs_nil)))) (fun x hx s H C cl fp => ts_nil) (fun x hx hq s H C cl fp => (x_tup (a_cons (x_op op_sub od_i0 (x_var 12 (cx.blk s H _ C cl fp) rfl) x_int) (a_cons (x_var 13 (cx.blk s H _ C cl fp) rfl) (a_cons (x_var 14 (cx.blk s H _ C cl fp) rfl) a_nil))))))) (by rw [filter_tt]; exact congrArg PyData.list (hits_less (S := enS M 5 ls a) (k := 5) rfl))) (x_var 11 cx rfl)) (by rw [eqv_self hlay]; rfl)) (fun hc => by cases hc) fun _ => ?_
        have hm1 : natI (enS M 1 ls a).many = PyData.int ((hitsL M a ls).length : Int) := congrArg natI (hitsL_many (S := enS M 1 ls a) (k := 1) rfl).symm
        have hm2 : natI (enS M 5 ls a).many = PyData.int ((hitsL M a ls).length : Int) := congrArg natI (hitsL_many (S := enS M 5 ls a) (k := 5) rfl).symm
        refine s_when (k := false) (c_is (PW.pt (w_or (c_cmp op_ne od_neI (x_is (x_mrd0 15 Z.k_Finder.cl (p_Finder_many Z) (hr.mono (by omega)) rfl (mem_at hj1) (x_var 6 cx rfl) ⟨_, _, _, rfl, hF1, rfl⟩) hm1) (x_bi cx call_len cd_lenL Z.b_len PySem.boot_len (a_cons (x_var 11 cx rfl) a_nil))) fun hb => (w_or (c_cmp op_ne od_neI (x_is (x_mrd0 15 Z.k_Finder.cl (p_Finder_many Z) (hr.mono (by omega)) rfl (mem_at hj2) (x_var 7 cx rfl) ⟨_, _, _, rfl, hF2, rfl⟩) hm2) (x_bi cx call_len cd_lenL Z.b_len PySem.boot_len (a_cons (x_var 11 cx rfl) a_nil))) fun hb => (w_or (c_cmp op_ne od_neS (x_mrd0 15 Z.k_Finder.cl (p_Finder_ask Z) (hr.mono (by omega)) rfl (mem_at hj1) (x_var 6 cx rfl) ⟨_, _, _, rfl, hF1, rfl⟩) (x_var 5 cx rfl)) fun hb => (w_one (c_cmp op_ne od_neS (x_mrd0 15 Z.k_Finder.cl (p_Finder_ask Z) (hr.mono (by omega)) rfl (mem_at hj2) (x_var 7 cx rfl) ⟨_, _, _, rfl, hF2, rfl⟩) (x_var 5 cx rfl))))))) (by simp [enS])) (fun hc => by cases hc) fun _ => ?_
        refine s_whenW (g := 15) (cw_not (cw_val (Ωb := fun b W' => b = true ∧ ∃ J', FdAt kFinder W' J' p1 (enS M 1 ls a) ∧ Fr J1 W6 W' J') (w_imp (x_cwr 15 cx (pw_law_back_right Z) (hr.mono (by omega)) rfl (a_cons (x_var 6 cx rfl) a_nil) ⟨_, _, _, rfl, hF1, o1, rfl⟩) (fun d W' h => ⟨true, h.1, rfl, h.2⟩)))) (fun W7 h7 => by cases h7.1) fun W7 h7 => ?_
        obtain ⟨_, J7, hF7, hr7⟩ := h7
        obtain ⟨J3, hF3⟩ := (hK1 _ _ _ hF7 hr7).three
        obtain ⟨i3, r3, f3, js3, qr3, qf3, qs3, hJ3, hj3, _⟩ := hF3.o
        have o3 : okF ⟨M, [], 1, []⟩ := okF.new hM
        refine s_when (k := false) (c_is (PW.pt (w_or (c_cmp (op_neD hr.units) (od_neD lay_emp lay_emp) (x_mrd0 15 Z.k_Finder.cl (p_Finder_names Z) (hr.mono (by omega)) rfl (mem_at hj3) (x_var 8 cx rfl) ⟨_, _, _, rfl, hF3, o3, rfl⟩) (x_lst a_nil)) fun hb => (w_or (c_cmp op_ne od_neS (x_mrd0 15 Z.k_Finder.cl (p_Finder_ask Z) (hr.mono (by omega)) rfl (mem_at hj3) (x_var 8 cx rfl) ⟨_, _, _, rfl, hF3, rfl⟩) (x_txt [])) fun hb => (w_or (c_cmp (op_neD hr.units) (od_neD lay_emp lay_emp) (x_mrd 15 Z.k_Finder.cl (p_Finder_hits Z) (hr.mono (by omega)) rfl (mem_at hj3) (x_var 8 cx rfl) (a_cons x_int a_nil) (show R_Finder_hits _ _ _ _ (.ok (.list [])) from ⟨_, _, _, .int 9, rfl, hF3, o3, rfl, by rw [show FSt.hits ⟨M, [], 1, []⟩ = [] from List.length_eq_zero_iff.mp (by rw [hits_many]; rfl)]; rfl⟩)) (x_lst a_nil)) fun hb => (w_one (c_cmp op_notN od_notN (x_mrd0 15 Z.k_Finder.cl (p_Finder_best Z) (hr.mono (by omega)) rfl (mem_at hj3) (x_var 8 cx rfl) (show R_Finder_best _ _ _ (.ok .none) from ⟨_, _, _, rfl, hF3, o3, by rw [show FSt.hits ⟨M, [], 1, []⟩ = [] from List.length_eq_zero_iff.mp (by rw [hits_many]; rfl)]⟩)) x_none)))))) (show (!PyData.eqv (PyData.list []) (PyData.list []) || (!decide (([] : List Nat) = []) || (!PyData.eqv (PyData.list []) (PyData.list []) || !isN PyData.none))) = false from by decide)) (fun hc => by cases hc) fun _ => ?_
        refine s_whenW (g := 15) (cw_not (cw_val (Ωb := fun b W' => b = true) (w_imp (x_cwr 15 cx (pw_law_full_right Z) (hr.mono (by omega)) rfl (a_cons (x_var 8 cx rfl) a_nil) ⟨_, _, _, rfl, hM, hF3, rfl⟩) (fun d W' h => ⟨true, h, rfl⟩)))) (fun W8 h8 => by cases h8) fun W8 h8 => ?_
        exact s_nil ⟨_, _, _, _, _, _, _, _, _, _, _, _, _, _, _, rfl⟩
  · intro δ' hI
    obtain ⟨s1, s2, s3, s4, s5, s6, s7, s8, s9, s10, s11, s12, s13, s14, W0, rfl⟩ := hI
    refine (s_ret x_bool ?_)
    rfl
end
theorem all_mk {l : PySem.W.OpenLaw} {w : World} {K : PySem.W.Frag} {h : Heap} {mg : Str → Option Value} {fa c0 c1 c2 c3 c4 c5 c6 c7 cS cL kFinder cM0 PM0 cM1 PM1 : Addr} (X : K.In h) (N : h.Ns mainGlobals mg) (hfa : mg "law" = some (.ref fa)) 
    {f_law : Addr} {od_law an_law : Option Addr} {sl_law : Array (Option Value)} {oc_law kV_law dc_law pm_law ct_law : Value}
    (a_law : PySem.W.nsIn K mainGlobals "law" = some (some (.ref f_law))) (l_law : K.lookup f_law = some ⟨oc_law, od_law, .func (PySem.W.fnOf "law" "law" (defArgs st_law) (defBody st_law) (defScope st_law) .none kV_law dc_law pm_law an_law (.ref cL) ct_law), sl_law⟩) (q_law : PySem.W.codeIn K (.ref cL) "law" = true)
    {f_is_count : Addr} {od_is_count an_is_count : Option Addr} {sl_is_count : Array (Option Value)} {oc_is_count kV_is_count dc_is_count pm_is_count cd_is_count ct_is_count : Value}
    (a_is_count : PySem.W.nsIn K mainGlobals "is_count" = some (some (.ref f_is_count))) (l_is_count : K.lookup f_is_count = some ⟨oc_is_count, od_is_count, .func (PySem.W.fnOf "is_count" "is_count" (defArgs st_is_count) (defBody st_is_count) (defScope st_is_count) .none kV_is_count dc_is_count pm_is_count an_is_count cd_is_count ct_is_count), sl_is_count⟩) (q_is_count : PySem.W.codeIn K cd_is_count "is_count" = true)
    (k_is_count : PySem.W.keepIn K (.ref f_is_count) = true)
    {f_is_name : Addr} {od_is_name an_is_name : Option Addr} {sl_is_name : Array (Option Value)} {oc_is_name kV_is_name dc_is_name pm_is_name cd_is_name ct_is_name : Value}
    (a_is_name : PySem.W.nsIn K mainGlobals "is_name" = some (some (.ref f_is_name))) (l_is_name : K.lookup f_is_name = some ⟨oc_is_name, od_is_name, .func (PySem.W.fnOf "is_name" "is_name" (defArgs st_is_name) (defBody st_is_name) (defScope st_is_name) .none kV_is_name dc_is_name pm_is_name an_is_name cd_is_name ct_is_name), sl_is_name⟩) (q_is_name : PySem.W.codeIn K cd_is_name "is_name" = true)
    (k_is_name : PySem.W.keepIn K (.ref f_is_name) = true)
    {f_is_ask : Addr} {od_is_ask an_is_ask : Option Addr} {sl_is_ask : Array (Option Value)} {oc_is_ask kV_is_ask dc_is_ask pm_is_ask cd_is_ask ct_is_ask : Value}
    (a_is_ask : PySem.W.nsIn K mainGlobals "is_ask" = some (some (.ref f_is_ask))) (l_is_ask : K.lookup f_is_ask = some ⟨oc_is_ask, od_is_ask, .func (PySem.W.fnOf "is_ask" "is_ask" (defArgs st_is_ask) (defBody st_is_ask) (defScope st_is_ask) .none kV_is_ask dc_is_ask pm_is_ask an_is_ask cd_is_ask ct_is_ask), sl_is_ask⟩) (q_is_ask : PySem.W.codeIn K cd_is_ask "is_ask" = true)
    (k_is_ask : PySem.W.keepIn K (.ref f_is_ask) = true)
    {f_need_name : Addr} {od_need_name an_need_name : Option Addr} {sl_need_name : Array (Option Value)} {oc_need_name kV_need_name dc_need_name pm_need_name cd_need_name ct_need_name : Value}
    (a_need_name : PySem.W.nsIn K mainGlobals "need_name" = some (some (.ref f_need_name))) (l_need_name : K.lookup f_need_name = some ⟨oc_need_name, od_need_name, .func (PySem.W.fnOf "need_name" "need_name" (defArgs st_need_name) (defBody st_need_name) (defScope st_need_name) .none kV_need_name dc_need_name pm_need_name an_need_name cd_need_name ct_need_name), sl_need_name⟩) (q_need_name : PySem.W.codeIn K cd_need_name "need_name" = true)
    (k_need_name : PySem.W.keepIn K (.ref f_need_name) = true)
    {f_need_ask : Addr} {od_need_ask an_need_ask : Option Addr} {sl_need_ask : Array (Option Value)} {oc_need_ask kV_need_ask dc_need_ask pm_need_ask cd_need_ask ct_need_ask : Value}
    (a_need_ask : PySem.W.nsIn K mainGlobals "need_ask" = some (some (.ref f_need_ask))) (l_need_ask : K.lookup f_need_ask = some ⟨oc_need_ask, od_need_ask, .func (PySem.W.fnOf "need_ask" "need_ask" (defArgs st_need_ask) (defBody st_need_ask) (defScope st_need_ask) .none kV_need_ask dc_need_ask pm_need_ask an_need_ask cd_need_ask ct_need_ask), sl_need_ask⟩) (q_need_ask : PySem.W.codeIn K cd_need_ask "need_ask" = true)
    (k_need_ask : PySem.W.keepIn K (.ref f_need_ask) = true)
    {f_small : Addr} {od_small an_small : Option Addr} {sl_small : Array (Option Value)} {oc_small kV_small dc_small pm_small cd_small ct_small : Value}
    (a_small : PySem.W.nsIn K mainGlobals "small" = some (some (.ref f_small))) (l_small : K.lookup f_small = some ⟨oc_small, od_small, .func (PySem.W.fnOf "small" "small" (defArgs st_small) (defBody st_small) (defScope st_small) .none kV_small dc_small pm_small an_small cd_small ct_small), sl_small⟩) (q_small : PySem.W.codeIn K cd_small "small" = true)
    (k_small : PySem.W.keepIn K (.ref f_small) = true)
    {f_is_hit : Addr} {od_is_hit an_is_hit : Option Addr} {sl_is_hit : Array (Option Value)} {oc_is_hit kV_is_hit dc_is_hit pm_is_hit cd_is_hit ct_is_hit : Value}
    (a_is_hit : PySem.W.nsIn K mainGlobals "is_hit" = some (some (.ref f_is_hit))) (l_is_hit : K.lookup f_is_hit = some ⟨oc_is_hit, od_is_hit, .func (PySem.W.fnOf "is_hit" "is_hit" (defArgs st_is_hit) (defBody st_is_hit) (defScope st_is_hit) .none kV_is_hit dc_is_hit pm_is_hit an_is_hit cd_is_hit ct_is_hit), sl_is_hit⟩) (q_is_hit : PySem.W.codeIn K cd_is_hit "is_hit" = true)
    (k_is_hit : PySem.W.keepIn K (.ref f_is_hit) = true)
    {f_begins : Addr} {od_begins an_begins : Option Addr} {sl_begins : Array (Option Value)} {oc_begins kV_begins dc_begins pm_begins cd_begins ct_begins : Value}
    (a_begins : PySem.W.nsIn K mainGlobals "begins" = some (some (.ref f_begins))) (l_begins : K.lookup f_begins = some ⟨oc_begins, od_begins, .func (PySem.W.fnOf "begins" "begins" (defArgs st_begins) (defBody st_begins) (defScope st_begins) .none kV_begins dc_begins pm_begins an_begins cd_begins ct_begins), sl_begins⟩) (q_begins : PySem.W.codeIn K cd_begins "begins" = true)
    (k_begins : PySem.W.keepIn K (.ref f_begins) = true)
    {f_greedy : Addr} {od_greedy an_greedy : Option Addr} {sl_greedy : Array (Option Value)} {oc_greedy kV_greedy dc_greedy pm_greedy cd_greedy ct_greedy : Value}
    (a_greedy : PySem.W.nsIn K mainGlobals "greedy" = some (some (.ref f_greedy))) (l_greedy : K.lookup f_greedy = some ⟨oc_greedy, od_greedy, .func (PySem.W.fnOf "greedy" "greedy" (defArgs st_greedy) (defBody st_greedy) (defScope st_greedy) .none kV_greedy dc_greedy pm_greedy an_greedy cd_greedy ct_greedy), sl_greedy⟩) (q_greedy : PySem.W.codeIn K cd_greedy "greedy" = true)
    (k_greedy : PySem.W.keepIn K (.ref f_greedy) = true)
    {f_need_marks : Addr} {od_need_marks an_need_marks : Option Addr} {sl_need_marks : Array (Option Value)} {oc_need_marks kV_need_marks dc_need_marks pm_need_marks cd_need_marks ct_need_marks : Value}
    (a_need_marks : PySem.W.nsIn K mainGlobals "need_marks" = some (some (.ref f_need_marks))) (l_need_marks : K.lookup f_need_marks = some ⟨oc_need_marks, od_need_marks, .func (PySem.W.fnOf "need_marks" "need_marks" (defArgs st_need_marks) (defBody st_need_marks) (defScope st_need_marks) .none kV_need_marks dc_need_marks pm_need_marks an_need_marks cd_need_marks ct_need_marks), sl_need_marks⟩) (q_need_marks : PySem.W.codeIn K cd_need_marks "need_marks" = true)
    (k_need_marks : PySem.W.keepIn K (.ref f_need_marks) = true)
    {f_own_worth : Addr} {od_own_worth an_own_worth : Option Addr} {sl_own_worth : Array (Option Value)} {oc_own_worth kV_own_worth dc_own_worth pm_own_worth cd_own_worth ct_own_worth : Value}
    (a_own_worth : PySem.W.nsIn K mainGlobals "own_worth" = some (some (.ref f_own_worth))) (l_own_worth : K.lookup f_own_worth = some ⟨oc_own_worth, od_own_worth, .func (PySem.W.fnOf "own_worth" "own_worth" (defArgs st_own_worth) (defBody st_own_worth) (defScope st_own_worth) .none kV_own_worth dc_own_worth pm_own_worth an_own_worth cd_own_worth ct_own_worth), sl_own_worth⟩) (q_own_worth : PySem.W.codeIn K cd_own_worth "own_worth" = true)
    (k_own_worth : PySem.W.keepIn K (.ref f_own_worth) = true)
    {f_gap_worth : Addr} {od_gap_worth an_gap_worth : Option Addr} {sl_gap_worth : Array (Option Value)} {oc_gap_worth kV_gap_worth dc_gap_worth pm_gap_worth cd_gap_worth ct_gap_worth : Value}
    (a_gap_worth : PySem.W.nsIn K mainGlobals "gap_worth" = some (some (.ref f_gap_worth))) (l_gap_worth : K.lookup f_gap_worth = some ⟨oc_gap_worth, od_gap_worth, .func (PySem.W.fnOf "gap_worth" "gap_worth" (defArgs st_gap_worth) (defBody st_gap_worth) (defScope st_gap_worth) .none kV_gap_worth dc_gap_worth pm_gap_worth an_gap_worth cd_gap_worth ct_gap_worth), sl_gap_worth⟩) (q_gap_worth : PySem.W.codeIn K cd_gap_worth "gap_worth" = true)
    (k_gap_worth : PySem.W.keepIn K (.ref f_gap_worth) = true)
    {f_best_of : Addr} {od_best_of an_best_of : Option Addr} {sl_best_of : Array (Option Value)} {oc_best_of kV_best_of dc_best_of pm_best_of cd_best_of ct_best_of : Value}
    (a_best_of : PySem.W.nsIn K mainGlobals "best_of" = some (some (.ref f_best_of))) (l_best_of : K.lookup f_best_of = some ⟨oc_best_of, od_best_of, .func (PySem.W.fnOf "best_of" "best_of" (defArgs st_best_of) (defBody st_best_of) (defScope st_best_of) .none kV_best_of dc_best_of pm_best_of an_best_of cd_best_of ct_best_of), sl_best_of⟩) (q_best_of : PySem.W.codeIn K cd_best_of "best_of" = true)
    (k_best_of : PySem.W.keepIn K (.ref f_best_of) = true)
    {f_need_names : Addr} {od_need_names an_need_names : Option Addr} {sl_need_names : Array (Option Value)} {oc_need_names kV_need_names dc_need_names pm_need_names cd_need_names ct_need_names : Value}
    (a_need_names : PySem.W.nsIn K mainGlobals "need_names" = some (some (.ref f_need_names))) (l_need_names : K.lookup f_need_names = some ⟨oc_need_names, od_need_names, .func (PySem.W.fnOf "need_names" "need_names" (defArgs st_need_names) (defBody st_need_names) (defScope st_need_names) .none kV_need_names dc_need_names pm_need_names an_need_names cd_need_names ct_need_names), sl_need_names⟩) (q_need_names : PySem.W.codeIn K cd_need_names "need_names" = true)
    (k_need_names : PySem.W.keepIn K (.ref f_need_names) = true)
    {f_ranked : Addr} {od_ranked an_ranked : Option Addr} {sl_ranked : Array (Option Value)} {oc_ranked kV_ranked dc_ranked pm_ranked ct_ranked : Value}
    (a_ranked : PySem.W.nsIn K mainGlobals "ranked" = some (some (.ref f_ranked))) (l_ranked : K.lookup f_ranked = some ⟨oc_ranked, od_ranked, .func (PySem.W.fnOf "ranked" "ranked" (defArgs st_ranked) (defBody st_ranked) (defScope st_ranked) .none kV_ranked dc_ranked pm_ranked an_ranked (.ref cM0) ct_ranked), sl_ranked⟩) (q_ranked : PySem.W.codeIn K (.ref cM0) "ranked" = true)
    (k_ranked : PySem.W.keepIn K (.ref f_ranked) = true)
    {f_hits_of : Addr} {od_hits_of an_hits_of : Option Addr} {sl_hits_of : Array (Option Value)} {oc_hits_of kV_hits_of dc_hits_of pm_hits_of cd_hits_of ct_hits_of : Value}
    (a_hits_of : PySem.W.nsIn K mainGlobals "hits_of" = some (some (.ref f_hits_of))) (l_hits_of : K.lookup f_hits_of = some ⟨oc_hits_of, od_hits_of, .func (PySem.W.fnOf "hits_of" "hits_of" (defArgs st_hits_of) (defBody st_hits_of) (defScope st_hits_of) .none kV_hits_of dc_hits_of pm_hits_of an_hits_of cd_hits_of ct_hits_of), sl_hits_of⟩) (q_hits_of : PySem.W.codeIn K cd_hits_of "hits_of" = true)
    (k_hits_of : PySem.W.keepIn K (.ref f_hits_of) = true)
    {f_hits : Addr} {od_hits an_hits : Option Addr} {sl_hits : Array (Option Value)} {oc_hits kV_hits dc_hits pm_hits cd_hits ct_hits : Value}
    (a_hits : PySem.W.nsIn K mainGlobals "hits" = some (some (.ref f_hits))) (l_hits : K.lookup f_hits = some ⟨oc_hits, od_hits, .func (PySem.W.fnOf "hits" "hits" (defArgs st_hits) (defBody st_hits) (defScope st_hits) .none kV_hits dc_hits pm_hits an_hits cd_hits ct_hits), sl_hits⟩) (q_hits : PySem.W.codeIn K cd_hits "hits" = true)
    (k_hits : PySem.W.keepIn K (.ref f_hits) = true)
    {f_law_cell : Addr} {od_law_cell an_law_cell : Option Addr} {sl_law_cell : Array (Option Value)} {oc_law_cell kV_law_cell dc_law_cell pm_law_cell cd_law_cell ct_law_cell : Value}
    (a_law_cell : PySem.W.nsIn K mainGlobals "_law_cell" = some (some (.ref f_law_cell))) (l_law_cell : K.lookup f_law_cell = some ⟨oc_law_cell, od_law_cell, .func (PySem.W.fnOf "_law_cell" "_law_cell" (defArgs st_law_cell) (defBody st_law_cell) (defScope st_law_cell) .none kV_law_cell dc_law_cell pm_law_cell an_law_cell cd_law_cell ct_law_cell), sl_law_cell⟩) (q_law_cell : PySem.W.codeIn K cd_law_cell "_law_cell" = true)
    (k_law_cell : PySem.W.keepIn K (.ref f_law_cell) = true)
    {f_law_drawn : Addr} {od_law_drawn an_law_drawn : Option Addr} {sl_law_drawn : Array (Option Value)} {oc_law_drawn kV_law_drawn dc_law_drawn pm_law_drawn cd_law_drawn ct_law_drawn : Value}
    (a_law_drawn : PySem.W.nsIn K mainGlobals "_law_drawn" = some (some (.ref f_law_drawn))) (l_law_drawn : K.lookup f_law_drawn = some ⟨oc_law_drawn, od_law_drawn, .func (PySem.W.fnOf "_law_drawn" "_law_drawn" (defArgs st_law_drawn) (defBody st_law_drawn) (defScope st_law_drawn) .none kV_law_drawn dc_law_drawn pm_law_drawn an_law_drawn cd_law_drawn ct_law_drawn), sl_law_drawn⟩) (q_law_drawn : PySem.W.codeIn K cd_law_drawn "_law_drawn" = true)
    (k_law_drawn : PySem.W.keepIn K (.ref f_law_drawn) = true)
    {f_law_word : Addr} {od_law_word an_law_word : Option Addr} {sl_law_word : Array (Option Value)} {oc_law_word kV_law_word dc_law_word pm_law_word cd_law_word ct_law_word : Value}
    (a_law_word : PySem.W.nsIn K mainGlobals "_law_word" = some (some (.ref f_law_word))) (l_law_word : K.lookup f_law_word = some ⟨oc_law_word, od_law_word, .func (PySem.W.fnOf "_law_word" "_law_word" (defArgs st_law_word) (defBody st_law_word) (defScope st_law_word) .none kV_law_word dc_law_word pm_law_word an_law_word cd_law_word ct_law_word), sl_law_word⟩) (q_law_word : PySem.W.codeIn K cd_law_word "_law_word" = true)
    (k_law_word : PySem.W.keepIn K (.ref f_law_word) = true)
    {f_law_told : Addr} {od_law_told an_law_told : Option Addr} {sl_law_told : Array (Option Value)} {oc_law_told kV_law_told dc_law_told pm_law_told cd_law_told ct_law_told : Value}
    (a_law_told : PySem.W.nsIn K mainGlobals "_law_told" = some (some (.ref f_law_told))) (l_law_told : K.lookup f_law_told = some ⟨oc_law_told, od_law_told, .func (PySem.W.fnOf "_law_told" "_law_told" (defArgs st_law_told) (defBody st_law_told) (defScope st_law_told) .none kV_law_told dc_law_told pm_law_told an_law_told cd_law_told ct_law_told), sl_law_told⟩) (q_law_told : PySem.W.codeIn K cd_law_told "_law_told" = true)
    (k_law_told : PySem.W.keepIn K (.ref f_law_told) = true)
    {f_law_sign : Addr} {od_law_sign an_law_sign : Option Addr} {sl_law_sign : Array (Option Value)} {oc_law_sign kV_law_sign dc_law_sign pm_law_sign cd_law_sign ct_law_sign : Value}
    (a_law_sign : PySem.W.nsIn K mainGlobals "_law_sign" = some (some (.ref f_law_sign))) (l_law_sign : K.lookup f_law_sign = some ⟨oc_law_sign, od_law_sign, .func (PySem.W.fnOf "_law_sign" "_law_sign" (defArgs st_law_sign) (defBody st_law_sign) (defScope st_law_sign) .none kV_law_sign dc_law_sign pm_law_sign an_law_sign cd_law_sign ct_law_sign), sl_law_sign⟩) (q_law_sign : PySem.W.codeIn K cd_law_sign "_law_sign" = true)
    (k_law_sign : PySem.W.keepIn K (.ref f_law_sign) = true)
    {f_law_name : Addr} {od_law_name an_law_name : Option Addr} {sl_law_name : Array (Option Value)} {oc_law_name kV_law_name dc_law_name pm_law_name cd_law_name ct_law_name : Value}
    (a_law_name : PySem.W.nsIn K mainGlobals "_law_name" = some (some (.ref f_law_name))) (l_law_name : K.lookup f_law_name = some ⟨oc_law_name, od_law_name, .func (PySem.W.fnOf "_law_name" "_law_name" (defArgs st_law_name) (defBody st_law_name) (defScope st_law_name) .none kV_law_name dc_law_name pm_law_name an_law_name cd_law_name ct_law_name), sl_law_name⟩) (q_law_name : PySem.W.codeIn K cd_law_name "_law_name" = true)
    (k_law_name : PySem.W.keepIn K (.ref f_law_name) = true)
    {f_law_ask_in : Addr} {od_law_ask_in an_law_ask_in : Option Addr} {sl_law_ask_in : Array (Option Value)} {oc_law_ask_in kV_law_ask_in dc_law_ask_in pm_law_ask_in cd_law_ask_in ct_law_ask_in : Value}
    (a_law_ask_in : PySem.W.nsIn K mainGlobals "_law_ask_in" = some (some (.ref f_law_ask_in))) (l_law_ask_in : K.lookup f_law_ask_in = some ⟨oc_law_ask_in, od_law_ask_in, .func (PySem.W.fnOf "_law_ask_in" "_law_ask_in" (defArgs st_law_ask_in) (defBody st_law_ask_in) (defScope st_law_ask_in) .none kV_law_ask_in dc_law_ask_in pm_law_ask_in an_law_ask_in cd_law_ask_in ct_law_ask_in), sl_law_ask_in⟩) (q_law_ask_in : PySem.W.codeIn K cd_law_ask_in "_law_ask_in" = true)
    (k_law_ask_in : PySem.W.keepIn K (.ref f_law_ask_in) = true)
    {f_law_marks : Addr} {od_law_marks an_law_marks : Option Addr} {sl_law_marks : Array (Option Value)} {oc_law_marks kV_law_marks dc_law_marks pm_law_marks cd_law_marks ct_law_marks : Value}
    (a_law_marks : PySem.W.nsIn K mainGlobals "_law_marks" = some (some (.ref f_law_marks))) (l_law_marks : K.lookup f_law_marks = some ⟨oc_law_marks, od_law_marks, .func (PySem.W.fnOf "_law_marks" "_law_marks" (defArgs st_law_marks) (defBody st_law_marks) (defScope st_law_marks) .none kV_law_marks dc_law_marks pm_law_marks an_law_marks cd_law_marks ct_law_marks), sl_law_marks⟩) (q_law_marks : PySem.W.codeIn K cd_law_marks "_law_marks" = true)
    (k_law_marks : PySem.W.keepIn K (.ref f_law_marks) = true)
    {f_law_names : Addr} {od_law_names an_law_names : Option Addr} {sl_law_names : Array (Option Value)} {oc_law_names kV_law_names dc_law_names pm_law_names cd_law_names ct_law_names : Value}
    (a_law_names : PySem.W.nsIn K mainGlobals "_law_names" = some (some (.ref f_law_names))) (l_law_names : K.lookup f_law_names = some ⟨oc_law_names, od_law_names, .func (PySem.W.fnOf "_law_names" "_law_names" (defArgs st_law_names) (defBody st_law_names) (defScope st_law_names) .none kV_law_names dc_law_names pm_law_names an_law_names cd_law_names ct_law_names), sl_law_names⟩) (q_law_names : PySem.W.codeIn K cd_law_names "_law_names" = true)
    (k_law_names : PySem.W.keepIn K (.ref f_law_names) = true)
    {f_law_back_right : Addr} {od_law_back_right an_law_back_right : Option Addr} {sl_law_back_right : Array (Option Value)} {oc_law_back_right kV_law_back_right dc_law_back_right pm_law_back_right cd_law_back_right ct_law_back_right : Value}
    (a_law_back_right : PySem.W.nsIn K mainGlobals "_law_back_right" = some (some (.ref f_law_back_right))) (l_law_back_right : K.lookup f_law_back_right = some ⟨oc_law_back_right, od_law_back_right, .func (PySem.W.fnOf "_law_back_right" "_law_back_right" (defArgs st_law_back_right) (defBody st_law_back_right) (defScope st_law_back_right) .none kV_law_back_right dc_law_back_right pm_law_back_right an_law_back_right cd_law_back_right ct_law_back_right), sl_law_back_right⟩) (q_law_back_right : PySem.W.codeIn K cd_law_back_right "_law_back_right" = true)
    (k_law_back_right : PySem.W.keepIn K (.ref f_law_back_right) = true)
    {f_law_full_right : Addr} {od_law_full_right an_law_full_right : Option Addr} {sl_law_full_right : Array (Option Value)} {oc_law_full_right kV_law_full_right dc_law_full_right pm_law_full_right ct_law_full_right : Value}
    (a_law_full_right : PySem.W.nsIn K mainGlobals "_law_full_right" = some (some (.ref f_law_full_right))) (l_law_full_right : K.lookup f_law_full_right = some ⟨oc_law_full_right, od_law_full_right, .func (PySem.W.fnOf "_law_full_right" "_law_full_right" (defArgs st_law_full_right) (defBody st_law_full_right) (defScope st_law_full_right) .none kV_law_full_right dc_law_full_right pm_law_full_right an_law_full_right (.ref cM1) ct_law_full_right), sl_law_full_right⟩) (q_law_full_right : PySem.W.codeIn K (.ref cM1) "_law_full_right" = true)
    (k_law_full_right : PySem.W.keepIn K (.ref f_law_full_right) = true)
    {f_law_led_round : Addr} {od_law_led_round an_law_led_round : Option Addr} {sl_law_led_round : Array (Option Value)} {oc_law_led_round kV_law_led_round dc_law_led_round pm_law_led_round cd_law_led_round ct_law_led_round : Value}
    (a_law_led_round : PySem.W.nsIn K mainGlobals "_law_led_round" = some (some (.ref f_law_led_round))) (l_law_led_round : K.lookup f_law_led_round = some ⟨oc_law_led_round, od_law_led_round, .func (PySem.W.fnOf "_law_led_round" "_law_led_round" (defArgs st_law_led_round) (defBody st_law_led_round) (defScope st_law_led_round) .none kV_law_led_round dc_law_led_round pm_law_led_round an_law_led_round cd_law_led_round ct_law_led_round), sl_law_led_round⟩) (q_law_led_round : PySem.W.codeIn K cd_law_led_round "_law_led_round" = true)
    (k_law_led_round : PySem.W.keepIn K (.ref f_law_led_round) = true)
    (g_Finder : PySem.W.nsIn K mainGlobals "Finder" = some (some (.ref kFinder))) (kb_Finder : clsB K kFinder ["marks", "rows", "next_number", "typed", "fits"] = true) (mk_Finder : PySem.W.makesIn K kFinder = true) (kc_Finder : PySem.W.keepIn K (.ref kFinder) = true)
    {f_Finder_init : Addr} {od_Finder_init an_Finder_init : Option Addr} {sl_Finder_init : Array (Option Value)} {oc_Finder_init kV_Finder_init dc_Finder_init pm_Finder_init cd_Finder_init ct_Finder_init : Value}
    (a_Finder_init : PySem.W.findIn K (.ref kFinder) "__init__" = some (some (.ref f_Finder_init))) (i_Finder_init : PySem.W.isFn K (.ref f_Finder_init) = true) (l_Finder_init : K.lookup f_Finder_init = some ⟨oc_Finder_init, od_Finder_init, .func (PySem.W.fnOf "__init__" "Finder.__init__" (defArgs st_Finder_init) (defBody st_Finder_init) (defScope st_Finder_init) .none kV_Finder_init dc_Finder_init pm_Finder_init an_Finder_init cd_Finder_init ct_Finder_init), sl_Finder_init⟩) (q_Finder_init : PySem.W.codeIn K cd_Finder_init "Finder.__init__" = true) (k_Finder_init : PySem.W.keepIn K (.ref f_Finder_init) = true)
    {f_Finder_add : Addr} {od_Finder_add an_Finder_add : Option Addr} {sl_Finder_add : Array (Option Value)} {oc_Finder_add kV_Finder_add dc_Finder_add pm_Finder_add cd_Finder_add ct_Finder_add : Value}
    (a_Finder_add : PySem.W.findIn K (.ref kFinder) "add" = some (some (.ref f_Finder_add))) (i_Finder_add : PySem.W.isFn K (.ref f_Finder_add) = true) (l_Finder_add : K.lookup f_Finder_add = some ⟨oc_Finder_add, od_Finder_add, .func (PySem.W.fnOf "add" "Finder.add" (defArgs st_Finder_add) (defBody st_Finder_add) (defScope st_Finder_add) .none kV_Finder_add dc_Finder_add pm_Finder_add an_Finder_add cd_Finder_add ct_Finder_add), sl_Finder_add⟩) (q_Finder_add : PySem.W.codeIn K cd_Finder_add "Finder.add" = true) (k_Finder_add : PySem.W.keepIn K (.ref f_Finder_add) = true)
    {f_Finder_need_number : Addr} {od_Finder_need_number an_Finder_need_number : Option Addr} {sl_Finder_need_number : Array (Option Value)} {oc_Finder_need_number kV_Finder_need_number dc_Finder_need_number pm_Finder_need_number cd_Finder_need_number ct_Finder_need_number : Value}
    (a_Finder_need_number : PySem.W.findIn K (.ref kFinder) "need_number" = some (some (.ref f_Finder_need_number))) (i_Finder_need_number : PySem.W.isFn K (.ref f_Finder_need_number) = true) (l_Finder_need_number : K.lookup f_Finder_need_number = some ⟨oc_Finder_need_number, od_Finder_need_number, .func (PySem.W.fnOf "need_number" "Finder.need_number" (defArgs st_Finder_need_number) (defBody st_Finder_need_number) (defScope st_Finder_need_number) .none kV_Finder_need_number dc_Finder_need_number pm_Finder_need_number an_Finder_need_number cd_Finder_need_number ct_Finder_need_number), sl_Finder_need_number⟩) (q_Finder_need_number : PySem.W.codeIn K cd_Finder_need_number "Finder.need_number" = true) (k_Finder_need_number : PySem.W.keepIn K (.ref f_Finder_need_number) = true)
    {f_Finder_drop : Addr} {od_Finder_drop an_Finder_drop : Option Addr} {sl_Finder_drop : Array (Option Value)} {oc_Finder_drop kV_Finder_drop dc_Finder_drop pm_Finder_drop cd_Finder_drop ct_Finder_drop : Value}
    (a_Finder_drop : PySem.W.findIn K (.ref kFinder) "drop" = some (some (.ref f_Finder_drop))) (i_Finder_drop : PySem.W.isFn K (.ref f_Finder_drop) = true) (l_Finder_drop : K.lookup f_Finder_drop = some ⟨oc_Finder_drop, od_Finder_drop, .func (PySem.W.fnOf "drop" "Finder.drop" (defArgs st_Finder_drop) (defBody st_Finder_drop) (defScope st_Finder_drop) .none kV_Finder_drop dc_Finder_drop pm_Finder_drop an_Finder_drop cd_Finder_drop ct_Finder_drop), sl_Finder_drop⟩) (q_Finder_drop : PySem.W.codeIn K cd_Finder_drop "Finder.drop" = true) (k_Finder_drop : PySem.W.keepIn K (.ref f_Finder_drop) = true)
    {f_Finder_press : Addr} {od_Finder_press an_Finder_press : Option Addr} {sl_Finder_press : Array (Option Value)} {oc_Finder_press kV_Finder_press dc_Finder_press pm_Finder_press cd_Finder_press ct_Finder_press : Value}
    (a_Finder_press : PySem.W.findIn K (.ref kFinder) "press" = some (some (.ref f_Finder_press))) (i_Finder_press : PySem.W.isFn K (.ref f_Finder_press) = true) (l_Finder_press : K.lookup f_Finder_press = some ⟨oc_Finder_press, od_Finder_press, .func (PySem.W.fnOf "press" "Finder.press" (defArgs st_Finder_press) (defBody st_Finder_press) (defScope st_Finder_press) .none kV_Finder_press dc_Finder_press pm_Finder_press an_Finder_press cd_Finder_press ct_Finder_press), sl_Finder_press⟩) (q_Finder_press : PySem.W.codeIn K cd_Finder_press "Finder.press" = true) (k_Finder_press : PySem.W.keepIn K (.ref f_Finder_press) = true)
    {f_Finder_rub : Addr} {od_Finder_rub an_Finder_rub : Option Addr} {sl_Finder_rub : Array (Option Value)} {oc_Finder_rub kV_Finder_rub dc_Finder_rub pm_Finder_rub cd_Finder_rub ct_Finder_rub : Value}
    (a_Finder_rub : PySem.W.findIn K (.ref kFinder) "rub" = some (some (.ref f_Finder_rub))) (i_Finder_rub : PySem.W.isFn K (.ref f_Finder_rub) = true) (l_Finder_rub : K.lookup f_Finder_rub = some ⟨oc_Finder_rub, od_Finder_rub, .func (PySem.W.fnOf "rub" "Finder.rub" (defArgs st_Finder_rub) (defBody st_Finder_rub) (defScope st_Finder_rub) .none kV_Finder_rub dc_Finder_rub pm_Finder_rub an_Finder_rub cd_Finder_rub ct_Finder_rub), sl_Finder_rub⟩) (q_Finder_rub : PySem.W.codeIn K cd_Finder_rub "Finder.rub" = true) (k_Finder_rub : PySem.W.keepIn K (.ref f_Finder_rub) = true)
    {f_Finder_ask : Addr} {od_Finder_ask an_Finder_ask : Option Addr} {sl_Finder_ask : Array (Option Value)} {oc_Finder_ask kV_Finder_ask dc_Finder_ask pm_Finder_ask cd_Finder_ask ct_Finder_ask : Value}
    (a_Finder_ask : PySem.W.findIn K (.ref kFinder) "ask" = some (some (.ref f_Finder_ask))) (i_Finder_ask : PySem.W.isFn K (.ref f_Finder_ask) = true) (l_Finder_ask : K.lookup f_Finder_ask = some ⟨oc_Finder_ask, od_Finder_ask, .func (PySem.W.fnOf "ask" "Finder.ask" (defArgs st_Finder_ask) (defBody st_Finder_ask) (defScope st_Finder_ask) .none kV_Finder_ask dc_Finder_ask pm_Finder_ask an_Finder_ask cd_Finder_ask ct_Finder_ask), sl_Finder_ask⟩) (q_Finder_ask : PySem.W.codeIn K cd_Finder_ask "Finder.ask" = true) (k_Finder_ask : PySem.W.keepIn K (.ref f_Finder_ask) = true)
    {f_Finder_many : Addr} {od_Finder_many an_Finder_many : Option Addr} {sl_Finder_many : Array (Option Value)} {oc_Finder_many kV_Finder_many dc_Finder_many pm_Finder_many cd_Finder_many ct_Finder_many : Value}
    (a_Finder_many : PySem.W.findIn K (.ref kFinder) "many" = some (some (.ref f_Finder_many))) (i_Finder_many : PySem.W.isFn K (.ref f_Finder_many) = true) (l_Finder_many : K.lookup f_Finder_many = some ⟨oc_Finder_many, od_Finder_many, .func (PySem.W.fnOf "many" "Finder.many" (defArgs st_Finder_many) (defBody st_Finder_many) (defScope st_Finder_many) .none kV_Finder_many dc_Finder_many pm_Finder_many an_Finder_many cd_Finder_many ct_Finder_many), sl_Finder_many⟩) (q_Finder_many : PySem.W.codeIn K cd_Finder_many "Finder.many" = true) (k_Finder_many : PySem.W.keepIn K (.ref f_Finder_many) = true)
    {f_Finder_names : Addr} {od_Finder_names an_Finder_names : Option Addr} {sl_Finder_names : Array (Option Value)} {oc_Finder_names kV_Finder_names dc_Finder_names pm_Finder_names cd_Finder_names ct_Finder_names : Value}
    (a_Finder_names : PySem.W.findIn K (.ref kFinder) "names" = some (some (.ref f_Finder_names))) (i_Finder_names : PySem.W.isFn K (.ref f_Finder_names) = true) (l_Finder_names : K.lookup f_Finder_names = some ⟨oc_Finder_names, od_Finder_names, .func (PySem.W.fnOf "names" "Finder.names" (defArgs st_Finder_names) (defBody st_Finder_names) (defScope st_Finder_names) .none kV_Finder_names dc_Finder_names pm_Finder_names an_Finder_names cd_Finder_names ct_Finder_names), sl_Finder_names⟩) (q_Finder_names : PySem.W.codeIn K cd_Finder_names "Finder.names" = true) (k_Finder_names : PySem.W.keepIn K (.ref f_Finder_names) = true)
    {f_Finder_hits : Addr} {od_Finder_hits an_Finder_hits : Option Addr} {sl_Finder_hits : Array (Option Value)} {oc_Finder_hits kV_Finder_hits dc_Finder_hits pm_Finder_hits cd_Finder_hits ct_Finder_hits : Value}
    (a_Finder_hits : PySem.W.findIn K (.ref kFinder) "hits" = some (some (.ref f_Finder_hits))) (i_Finder_hits : PySem.W.isFn K (.ref f_Finder_hits) = true) (l_Finder_hits : K.lookup f_Finder_hits = some ⟨oc_Finder_hits, od_Finder_hits, .func (PySem.W.fnOf "hits" "Finder.hits" (defArgs st_Finder_hits) (defBody st_Finder_hits) (defScope st_Finder_hits) .none kV_Finder_hits dc_Finder_hits pm_Finder_hits an_Finder_hits cd_Finder_hits ct_Finder_hits), sl_Finder_hits⟩) (q_Finder_hits : PySem.W.codeIn K cd_Finder_hits "Finder.hits" = true) (k_Finder_hits : PySem.W.keepIn K (.ref f_Finder_hits) = true)
    {f_Finder_best : Addr} {od_Finder_best an_Finder_best : Option Addr} {sl_Finder_best : Array (Option Value)} {oc_Finder_best kV_Finder_best dc_Finder_best pm_Finder_best cd_Finder_best ct_Finder_best : Value}
    (a_Finder_best : PySem.W.findIn K (.ref kFinder) "best" = some (some (.ref f_Finder_best))) (i_Finder_best : PySem.W.isFn K (.ref f_Finder_best) = true) (l_Finder_best : K.lookup f_Finder_best = some ⟨oc_Finder_best, od_Finder_best, .func (PySem.W.fnOf "best" "Finder.best" (defArgs st_Finder_best) (defBody st_Finder_best) (defScope st_Finder_best) .none kV_Finder_best dc_Finder_best pm_Finder_best an_Finder_best cd_Finder_best ct_Finder_best), sl_Finder_best⟩) (q_Finder_best : PySem.W.codeIn K cd_Finder_best "Finder.best" = true) (k_Finder_best : PySem.W.keepIn K (.ref f_Finder_best) = true)
    {eC_ranked : Value} {dC_ranked : Option Addr} {vC_ranked : Array Value} {sC_ranked : Array (Option Value)} (lC_ranked : K.lookup cM0 = some ⟨eC_ranked, dC_ranked, .fields vC_ranked, sC_ranked⟩) (lP_ranked : vC_ranked[11]? = some (.ref PM0)) (nP_ranked : K.lookup PM0 = none) (hC_ranked : PySem.W.codeHdIn K cM0 PM0 = true) (hP_ranked : h.get? PM0 = some { cls := .none, data := .fields #[] })
    {eC_law_full_right : Value} {dC_law_full_right : Option Addr} {vC_law_full_right : Array Value} {sC_law_full_right : Array (Option Value)} (lC_law_full_right : K.lookup cM1 = some ⟨eC_law_full_right, dC_law_full_right, .fields vC_law_full_right, sC_law_full_right⟩) (lP_law_full_right : vC_law_full_right[11]? = some (.ref PM1)) (nP_law_full_right : K.lookup PM1 = none) (hC_law_full_right : PySem.W.codeHdIn K cM1 PM1 = true) (hP_law_full_right : h.get? PM1 = some { cls := .none, data := .fields #[] })
    (ne_0_1 : PM0 ≠ PM1)
    (ne_1_0 : PM1 ≠ PM0)
    {t_SMALL : Tok} (c_SMALL : PySem.W.nsIn K mainGlobals "SMALL" = some (some (.str ⟨lSmall.toArray⟩ t_SMALL)))
    {t_GREAT : Tok} (c_GREAT : PySem.W.nsIn K mainGlobals "GREAT" = some (some (.str ⟨lGreat.toArray⟩ t_GREAT)))
    {t_FIGURES : Tok} (c_FIGURES : PySem.W.nsIn K mainGlobals "FIGURES" = some (some (.str ⟨lFig.toArray⟩ t_FIGURES)))
    {t_OTHERS : Tok} (c_OTHERS : PySem.W.nsIn K mainGlobals "OTHERS" = some (some (.str ⟨lOth.toArray⟩ t_OTHERS)))
    {t_MOST_NAME : Tok} (c_MOST_NAME : PySem.W.nsIn K mainGlobals "MOST_NAME" = some (some (.int 30 t_MOST_NAME)))
    {t_MOST_ASK : Tok} (c_MOST_ASK : PySem.W.nsIn K mainGlobals "MOST_ASK" = some (some (.int 8 t_MOST_ASK)))
    {t_MOST_NAMES : Tok} (c_MOST_NAMES : PySem.W.nsIn K mainGlobals "MOST_NAMES" = some (some (.int 60 t_MOST_NAMES)))
    {t_MOST_MARK : Tok} (c_MOST_MARK : PySem.W.nsIn K mainGlobals "MOST_MARK" = some (some (.int 50 t_MOST_MARK)))
    {aT_NAMES : Addr} {odT_NAMES : Option Addr} {itT_NAMES : Array Value} {mT_NAMES : Nat} {slT_NAMES : Array (Option Value)} (c_NAMES : PySem.W.nsIn K mainGlobals "NAMES" = some (some (.ref aT_NAMES))) (lT_NAMES : K.lookup aT_NAMES = some ⟨.type "tuple", odT_NAMES, .seq itT_NAMES mT_NAMES, slT_NAMES⟩) (zT_NAMES : (decide (itT_NAMES.size = 6) && decide (6 ≤ 1000) && itT_NAMES.toList.all fun u => (L2.absV u).isSome) = true)
    (b_isinstance : PySem.W.nsIn K mainGlobals "isinstance" = some none)
    (b_int : PySem.W.nsIn K mainGlobals "int" = some none)
    (b_bool : PySem.W.nsIn K mainGlobals "bool" = some none)
    (b_all : PySem.W.nsIn K mainGlobals "all" = some none)
    (b_str : PySem.W.nsIn K mainGlobals "str" = some none)
    (b_len : PySem.W.nsIn K mainGlobals "len" = some none)
    (b_tuple : PySem.W.nsIn K mainGlobals "tuple" = some none)
    (b_range : PySem.W.nsIn K mainGlobals "range" = some none)
    (b_sorted : PySem.W.nsIn K mainGlobals "sorted" = some none)
    (b_list : PySem.W.nsIn K mainGlobals "list" = some none)
    (b_enumerate : PySem.W.nsIn K mainGlobals "enumerate" = some none)
    (b_sum : PySem.W.nsIn K mainGlobals "sum" = some none)
    (b_ValueError : PySem.W.nsIn K mainGlobals "ValueError" = some none)
    (b_max : PySem.W.nsIn K mainGlobals "max" = some none)
    (b_min : PySem.W.nsIn K mainGlobals "min" = some none)
    (g_BadName : PySem.W.nsIn K mainGlobals "BadName" = some (some (.ref c0)))
    (g_BadAsk : PySem.W.nsIn K mainGlobals "BadAsk" = some (some (.ref c1)))
    (g_BadMarks : PySem.W.nsIn K mainGlobals "BadMarks" = some (some (.ref c2)))
    (g_BadPlaces : PySem.W.nsIn K mainGlobals "BadPlaces" = some (some (.ref c3)))
    (g_BadNumber : PySem.W.nsIn K mainGlobals "BadNumber" = some (some (.ref c4)))
    (g_NoName : PySem.W.nsIn K mainGlobals "NoName" = some (some (.ref c5)))
    (g_Nothing : PySem.W.nsIn K mainGlobals "Nothing" = some (some (.ref c6)))
    (g_BadText : PySem.W.nsIn K mainGlobals "BadText" = some (some (.ref c7)))
    (g_FindError : PySem.W.nsIn K mainGlobals "FindError" = some (some (.ref cS)))
    (w_BadName : ewB K [c0, c1, c2, c3, c4, c5, c6, c7] cS c0 0 = true)
    (w_BadAsk : ewB K [c0, c1, c2, c3, c4, c5, c6, c7] cS c1 1 = true)
    (w_BadMarks : ewB K [c0, c1, c2, c3, c4, c5, c6, c7] cS c2 2 = true)
    (w_BadNumber : ewB K [c0, c1, c2, c3, c4, c5, c6, c7] cS c4 4 = true)
    (w_NoName : ewB K [c0, c1, c2, c3, c4, c5, c6, c7] cS c5 5 = true)
    (w_Nothing : ewB K [c0, c1, c2, c3, c4, c5, c6, c7] cS c6 6 = true)
    : LawAtS l w K (L2N.CX l.prog w) 30 63 "script" mg fa h := by
  have e := hfa.symm.trans (PySem.W.mg_of X N a_law)
  cases e
  refine ⟨PySem.W.fnOf "law" "law" (defArgs st_law) (defBody st_law) (defScope st_law) .none kV_law dc_law pm_law an_law (.ref cL) ct_law, [(cM0, PM0), (cM1, PM1)], spLaw [(PM0, ("ranked" : Str) ++ ".<locals>." ++ "<lambda>"), (PM1, ("_law_full_right" : Str) ++ ".<locals>." ++ "<lambda>")] K (fun ns => ns.length ≤ 63), fun p hp => ?_, fun p hp => ?_, fun p hp => ?_, fun s u => .of_eq rfl, fun H a ns hl hb ht hs => ?_, fun base kin bns tb => ?_⟩
  · simp only [List.mem_cons, List.not_mem_nil, or_false] at hp
    rcases hp with rfl | rfl
    · exact hP_ranked
    · exact hP_law_full_right
  · simp only [List.mem_cons, List.not_mem_nil, or_false] at hp
    rcases hp with rfl | rfl
    · exact nP_ranked
    · exact nP_law_full_right
  · simp only [List.mem_cons, List.not_mem_nil, or_false] at hp
    rcases hp with rfl | rfl
    · exact PySem.W.codeHd_of_K X hC_ranked
    · exact PySem.W.codeHd_of_K X hC_law_full_right
  · exact ⟨a, ns, rfl, hs, (tabs_cons (ht (cM0, PM0) (by simp)) (tabs_cons (ht (cM1, PM1) (by simp)) tabs_nil)), hl, fun _ => rfl⟩
  · have Z : Tx ⟨l.prog, w, K, mg, base⟩ [(PM0, ("ranked" : Str) ++ ".<locals>." ++ "<lambda>"), (PM1, ("_law_full_right" : Str) ++ ".<locals>." ++ "<lambda>")] c0 c1 c2 c3 c4 c5 c6 c7 cS cL kFinder cM0 PM0 cM1 PM1 :=
      { c_SMALL := ⟨_, PySem.W.mg_of X N c_SMALL⟩
        c_GREAT := ⟨_, PySem.W.mg_of X N c_GREAT⟩
        c_FIGURES := ⟨_, PySem.W.mg_of X N c_FIGURES⟩
        c_OTHERS := ⟨_, PySem.W.mg_of X N c_OTHERS⟩
        c_MOST_NAME := ⟨_, PySem.W.mg_of X N c_MOST_NAME⟩
        c_MOST_ASK := ⟨_, PySem.W.mg_of X N c_MOST_ASK⟩
        c_MOST_NAMES := ⟨_, PySem.W.mg_of X N c_MOST_NAMES⟩
        c_MOST_MARK := ⟨_, PySem.W.mg_of X N c_MOST_MARK⟩
        c_NAMES := ktp_mk X N c_NAMES lT_NAMES zT_NAMES
        b_isinstance := PySem.W.mg_none_of X N b_isinstance
        b_int := PySem.W.mg_none_of X N b_int
        b_bool := PySem.W.mg_none_of X N b_bool
        b_all := PySem.W.mg_none_of X N b_all
        b_str := PySem.W.mg_none_of X N b_str
        b_len := PySem.W.mg_none_of X N b_len
        b_tuple := PySem.W.mg_none_of X N b_tuple
        b_range := PySem.W.mg_none_of X N b_range
        b_sorted := PySem.W.mg_none_of X N b_sorted
        b_list := PySem.W.mg_none_of X N b_list
        b_enumerate := PySem.W.mg_none_of X N b_enumerate
        b_sum := PySem.W.mg_none_of X N b_sum
        b_ValueError := PySem.W.mg_none_of X N b_ValueError
        b_max := PySem.W.mg_none_of X N b_max
        b_min := PySem.W.mg_none_of X N b_min
        d_is_count := df_mk X N a_is_count l_is_count q_is_count k_is_count fun fd F => F.binds (ps := ["thing", "low", "high"]) fun _ _ _ _ _ _ us hl => match us, hl with | [_, _, _], _ => rfl
        d_is_name := df_mk X N a_is_name l_is_name q_is_name k_is_name fun fd F => F.binds (ps := ["thing"]) fun _ _ _ _ _ _ us hl => match us, hl with | [_], _ => rfl
        d_is_ask := df_mk X N a_is_ask l_is_ask q_is_ask k_is_ask fun fd F => F.binds (ps := ["thing"]) fun _ _ _ _ _ _ us hl => match us, hl with | [_], _ => rfl
        d_need_name := df_mk X N a_need_name l_need_name q_need_name k_need_name fun fd F => F.binds (ps := ["name"]) fun _ _ _ _ _ _ us hl => match us, hl with | [_], _ => rfl
        d_need_ask := df_mk X N a_need_ask l_need_ask q_need_ask k_need_ask fun fd F => F.binds (ps := ["ask"]) fun _ _ _ _ _ _ us hl => match us, hl with | [_], _ => rfl
        d_small := df_mk X N a_small l_small q_small k_small fun fd F => F.binds (ps := ["sign"]) fun _ _ _ _ _ _ us hl => match us, hl with | [_], _ => rfl
        d_is_hit := df_mk X N a_is_hit l_is_hit q_is_hit k_is_hit fun fd F => F.binds (ps := ["own", "sign"]) fun _ _ _ _ _ _ us hl => match us, hl with | [_, _], _ => rfl
        d_begins := df_mk X N a_begins l_begins q_begins k_begins fun fd F => F.binds (ps := ["name", "at"]) fun _ _ _ _ _ _ us hl => match us, hl with | [_, _], _ => rfl
        d_greedy := df_mk X N a_greedy l_greedy q_greedy k_greedy fun fd F => F.binds (ps := ["ask", "name"]) fun _ _ _ _ _ _ us hl => match us, hl with | [_, _], _ => rfl
        d_need_marks := df_mk X N a_need_marks l_need_marks q_need_marks k_need_marks fun fd F => F.binds (ps := ["marks"]) fun _ _ _ _ _ _ us hl => match us, hl with | [_], _ => rfl
        d_own_worth := df_mk X N a_own_worth l_own_worth q_own_worth k_own_worth fun fd F => F.binds (ps := ["marks", "own", "name", "at"]) fun _ _ _ _ _ _ us hl => match us, hl with | [_, _, _, _], _ => rfl
        d_gap_worth := df_mk X N a_gap_worth l_gap_worth q_gap_worth k_gap_worth fun fd F => F.binds (ps := ["marks", "one", "other"]) fun _ _ _ _ _ _ us hl => match us, hl with | [_, _, _], _ => rfl
        d_best_of := df_mk X N a_best_of l_best_of q_best_of k_best_of fun fd F => F.binds (ps := ["marks", "ask", "name"]) fun _ _ _ _ _ _ us hl => match us, hl with | [_, _, _], _ => rfl
        d_need_names := df_mk X N a_need_names l_need_names q_need_names k_need_names fun fd F => F.binds (ps := ["names"]) fun _ _ _ _ _ _ us hl => match us, hl with | [_], _ => rfl
        d_ranked := dfl_mk X N a_ranked l_ranked q_ranked k_ranked fun fd F => F.binds (ps := ["rows"]) fun _ _ _ _ _ _ us hl => match us, hl with | [_], _ => rfl
        d_hits_of := df_mk X N a_hits_of l_hits_of q_hits_of k_hits_of fun fd F => F.binds (ps := ["marks", "ask", "pairs"]) fun _ _ _ _ _ _ us hl => match us, hl with | [_, _, _], _ => rfl
        d_hits := df_mk X N a_hits l_hits q_hits k_hits fun fd F => F.binds (ps := ["marks", "ask", "names", "most"]) fun _ _ _ _ _ _ us hl => match us, hl with | [_, _, _, _], _ => rfl
        d_law_cell := df_mk X N a_law_cell l_law_cell q_law_cell k_law_cell fun fd F => F.binds (ps := ["script", "k"]) fun _ _ _ _ _ _ us hl => match us, hl with | [_, _], _ => rfl
        d_law_drawn := df_mk X N a_law_drawn l_law_drawn q_law_drawn k_law_drawn fun fd F => F.binds (ps := ["cell", "k"]) fun _ _ _ _ _ _ us hl => match us, hl with | [_, _], _ => rfl
        d_law_word := df_mk X N a_law_word l_law_word q_law_word k_law_word fun fd F => F.binds (ps := ["e"]) fun _ _ _ _ _ _ us hl => match us, hl with | [_], _ => rfl
        d_law_told := df_mk X N a_law_told l_law_told q_law_told k_law_told fun fd F => F.binds (ps := ["deed"]) fun _ _ _ _ _ _ us hl => match us, hl with | [_], _ => rfl
        d_law_sign := df_mk X N a_law_sign l_law_sign q_law_sign k_law_sign fun fd F => F.binds (ps := ["more"]) fun _ _ _ _ _ _ us hl => match us, hl with | [_], _ => rfl
        d_law_name := df_mk X N a_law_name l_law_name q_law_name k_law_name fun fd F => F.binds (ps := ["more", "most"]) fun _ _ _ _ _ _ us hl => match us, hl with | [_, _], _ => rfl
        d_law_ask_in := df_mk X N a_law_ask_in l_law_ask_in q_law_ask_in k_law_ask_in fun fd F => F.binds (ps := ["more", "name", "most"]) fun _ _ _ _ _ _ us hl => match us, hl with | [_, _, _], _ => rfl
        d_law_marks := df_mk X N a_law_marks l_law_marks q_law_marks k_law_marks fun fd F => F.binds (ps := ["more"]) fun _ _ _ _ _ _ us hl => match us, hl with | [_], _ => rfl
        d_law_names := df_mk X N a_law_names l_law_names q_law_names k_law_names fun fd F => F.binds (ps := ["more", "many", "most"]) fun _ _ _ _ _ _ us hl => match us, hl with | [_, _, _], _ => rfl
        d_law_back_right := df_mk X N a_law_back_right l_law_back_right q_law_back_right k_law_back_right fun fd F => F.binds (ps := ["finder"]) fun _ _ _ _ _ _ us hl => match us, hl with | [_], _ => rfl
        d_law_full_right := dfl_mk X N a_law_full_right l_law_full_right q_law_full_right k_law_full_right fun fd F => F.binds (ps := ["finder"]) fun _ _ _ _ _ _ us hl => match us, hl with | [_], _ => rfl
        d_law_led_round := df_mk X N a_law_led_round l_law_led_round q_law_led_round k_law_led_round fun fd F => F.binds (ps := ["finder", "names", "ask", "more"]) fun _ _ _ _ _ _ us hl => match us, hl with | [_, _, _, _], _ => rfl
        k_Finder := cls_mk kb_Finder (PySem.W.mg_of X N g_Finder)
        m_Finder_init := mti_mk mk_Finder kc_Finder a_Finder_init i_Finder_init l_Finder_init q_Finder_init k_Finder_init fun fd F => F.binds (ps := ["self", "marks"]) fun _ _ _ _ _ _ us hl => match us, hl with | [_, _], _ => rfl
        m_Finder_add := mt_mk a_Finder_add i_Finder_add l_Finder_add q_Finder_add k_Finder_add fun fd F => F.binds (ps := ["self", "name"]) fun _ _ _ _ _ _ us hl => match us, hl with | [_, _], _ => rfl
        m_Finder_need_number := mt_mk a_Finder_need_number i_Finder_need_number l_Finder_need_number q_Finder_need_number k_Finder_need_number fun fd F => F.binds (ps := ["self", "number"]) fun _ _ _ _ _ _ us hl => match us, hl with | [_, _], _ => rfl
        m_Finder_drop := mt_mk a_Finder_drop i_Finder_drop l_Finder_drop q_Finder_drop k_Finder_drop fun fd F => F.binds (ps := ["self", "number"]) fun _ _ _ _ _ _ us hl => match us, hl with | [_, _], _ => rfl
        m_Finder_press := mt_mk a_Finder_press i_Finder_press l_Finder_press q_Finder_press k_Finder_press fun fd F => F.binds (ps := ["self", "sign"]) fun _ _ _ _ _ _ us hl => match us, hl with | [_, _], _ => rfl
        m_Finder_rub := mt_mk a_Finder_rub i_Finder_rub l_Finder_rub q_Finder_rub k_Finder_rub fun fd F => F.binds (ps := ["self"]) fun _ _ _ _ _ _ us hl => match us, hl with | [_], _ => rfl
        m_Finder_ask := mt_mk a_Finder_ask i_Finder_ask l_Finder_ask q_Finder_ask k_Finder_ask fun fd F => F.binds (ps := ["self"]) fun _ _ _ _ _ _ us hl => match us, hl with | [_], _ => rfl
        m_Finder_many := mt_mk a_Finder_many i_Finder_many l_Finder_many q_Finder_many k_Finder_many fun fd F => F.binds (ps := ["self"]) fun _ _ _ _ _ _ us hl => match us, hl with | [_], _ => rfl
        m_Finder_names := mt_mk a_Finder_names i_Finder_names l_Finder_names q_Finder_names k_Finder_names fun fd F => F.binds (ps := ["self"]) fun _ _ _ _ _ _ us hl => match us, hl with | [_], _ => rfl
        m_Finder_hits := mt_mk a_Finder_hits i_Finder_hits l_Finder_hits q_Finder_hits k_Finder_hits fun fd F => F.binds (ps := ["self", "most"]) fun _ _ _ _ _ _ us hl => match us, hl with | [_, _], _ => rfl
        m_Finder_best := mt_mk a_Finder_best i_Finder_best l_Finder_best q_Finder_best k_Finder_best fun fd F => F.binds (ps := ["self"]) fun _ _ _ _ _ _ us hl => match us, hl with | [_], _ => rfl
        g_BadName := PySem.W.mg_of X N g_BadName
        g_BadAsk := PySem.W.mg_of X N g_BadAsk
        g_BadMarks := PySem.W.mg_of X N g_BadMarks
        g_BadPlaces := PySem.W.mg_of X N g_BadPlaces
        g_BadNumber := PySem.W.mg_of X N g_BadNumber
        g_NoName := PySem.W.mg_of X N g_NoName
        g_Nothing := PySem.W.mg_of X N g_Nothing
        g_BadText := PySem.W.mg_of X N g_BadText
        g_FindError := PySem.W.mg_of X N g_FindError
        w_BadName := ew_of w_BadName
        w_BadAsk := ew_of w_BadAsk
        w_BadMarks := ew_of w_BadMarks
        w_BadNumber := ew_of w_BadNumber
        w_NoName := ew_of w_NoName
        w_Nothing := ew_of w_Nothing
        tb_ranked := tb (cM0, PM0) (by simp)
        hm_ranked := by simp
        hu_ranked := fun p hp e => by
          simp only [List.mem_cons, List.not_mem_nil, or_false] at hp
          rcases hp with rfl | rfl
          · rfl
          · exact absurd e ne_1_0
        tb_law_full_right := tb (cM1, PM1) (by simp)
        hm_law_full_right := by simp
        hu_law_full_right := fun p hp e => by
          simp only [List.mem_cons, List.not_mem_nil, or_false] at hp
          rcases hp with rfl | rfl
          · exact absurd e ne_0_1
          · rfl }
    exact p_law Z l_law q_law
end K71
set_option Elab.async false
set_option linter.all false
open PySem PySem.W PyProof.Rows
set_option maxRecDepth 100000 in
set_option maxHeartbeats 0 in
theorem PySem.Challenge.cw_letterfinds_k71_whole_finders_anew_holds : PySem.Challenge.rw_letterfinds_k71_whole_finders_anew.Holds := by
  w_on; o_law; k_head; (case hw => w_witness2)
  k_fill
  refine LamX.walk_ofTs (l := PySem.Challenge.rw_letterfinds_k71_whole_finders_anew) (n := 63) (k := 30) (x := "script") (CX := fun w => L2N.CX PySem.Challenge.rw_letterfinds_k71_whole_finders_anew.prog w) rfl (by decide) rfl ⟨rfl, by decide, by decide⟩ (fun w h Y => PySem.W.km_in_of Y) ?F (fun _ _ _ _ _ h => Lf.noCX h)
  case F =>
    intro w mg fa h Y KX G hmg
    refine' K71.all_mk KX G hmg ?a_law ?l_law ?q_law ?a_is_count ?l_is_count ?q_is_count ?k_is_count ?a_is_name ?l_is_name ?q_is_name ?k_is_name ?a_is_ask ?l_is_ask ?q_is_ask ?k_is_ask ?a_need_name ?l_need_name ?q_need_name ?k_need_name ?a_need_ask ?l_need_ask ?q_need_ask ?k_need_ask ?a_small ?l_small ?q_small ?k_small ?a_is_hit ?l_is_hit ?q_is_hit ?k_is_hit ?a_begins ?l_begins ?q_begins ?k_begins ?a_greedy ?l_greedy ?q_greedy ?k_greedy ?a_need_marks ?l_need_marks ?q_need_marks ?k_need_marks ?a_own_worth ?l_own_worth ?q_own_worth ?k_own_worth ?a_gap_worth ?l_gap_worth ?q_gap_worth ?k_gap_worth ?a_best_of ?l_best_of ?q_best_of ?k_best_of ?a_need_names ?l_need_names ?q_need_names ?k_need_names ?a_ranked ?l_ranked ?q_ranked ?k_ranked ?a_hits_of ?l_hits_of ?q_hits_of ?k_hits_of ?a_hits ?l_hits ?q_hits ?k_hits ?a_law_cell ?l_law_cell ?q_law_cell ?k_law_cell ?a_law_drawn ?l_law_drawn ?q_law_drawn ?k_law_drawn ?a_law_word ?l_law_word ?q_law_word ?k_law_word ?a_law_told ?l_law_told ?q_law_told ?k_law_told ?a_law_sign ?l_law_sign ?q_law_sign ?k_law_sign ?a_law_name ?l_law_name ?q_law_name ?k_law_name ?a_law_ask_in ?l_law_ask_in ?q_law_ask_in ?k_law_ask_in ?a_law_marks ?l_law_marks ?q_law_marks ?k_law_marks ?a_law_names ?l_law_names ?q_law_names ?k_law_names ?a_law_back_right ?l_law_back_right ?q_law_back_right ?k_law_back_right ?a_law_full_right ?l_law_full_right ?q_law_full_right ?k_law_full_right ?a_law_led_round ?l_law_led_round ?q_law_led_round ?k_law_led_round ?g_Finder ?kb_Finder ?mk_Finder ?kc_Finder ?a_Finder_init ?i_Finder_init ?l_Finder_init ?q_Finder_init ?k_Finder_init ?a_Finder_add ?i_Finder_add ?l_Finder_add ?q_Finder_add ?k_Finder_add ?a_Finder_need_number ?i_Finder_need_number ?l_Finder_need_number ?q_Finder_need_number ?k_Finder_need_number ?a_Finder_drop ?i_Finder_drop ?l_Finder_drop ?q_Finder_drop ?k_Finder_drop ?a_Finder_press ?i_Finder_press ?l_Finder_press ?q_Finder_press ?k_Finder_press ?a_Finder_rub ?i_Finder_rub ?l_Finder_rub ?q_Finder_rub ?k_Finder_rub ?a_Finder_ask ?i_Finder_ask ?l_Finder_ask ?q_Finder_ask ?k_Finder_ask ?a_Finder_many ?i_Finder_many ?l_Finder_many ?q_Finder_many ?k_Finder_many ?a_Finder_names ?i_Finder_names ?l_Finder_names ?q_Finder_names ?k_Finder_names ?a_Finder_hits ?i_Finder_hits ?l_Finder_hits ?q_Finder_hits ?k_Finder_hits ?a_Finder_best ?i_Finder_best ?l_Finder_best ?q_Finder_best ?k_Finder_best ?lC_ranked ?lP_ranked ?nP_ranked ?hC_ranked ?hP_ranked ?lC_law_full_right ?lP_law_full_right ?nP_law_full_right ?hC_law_full_right ?hP_law_full_right ?ne_0_1 ?ne_1_0 ?c_SMALL ?c_GREAT ?c_FIGURES ?c_OTHERS ?c_MOST_NAME ?c_MOST_ASK ?c_MOST_NAMES ?c_MOST_MARK ?c_NAMES ?lT_NAMES ?zT_NAMES ?b_isinstance ?b_int ?b_bool ?b_all ?b_str ?b_len ?b_tuple ?b_range ?b_sorted ?b_list ?b_enumerate ?b_sum ?b_ValueError ?b_max ?b_min ?g_BadName ?g_BadAsk ?g_BadMarks ?g_BadPlaces ?g_BadNumber ?g_NoName ?g_Nothing ?g_BadText ?g_FindError ?w_BadName ?w_BadAsk ?w_BadMarks ?w_BadNumber ?w_NoName ?w_Nothing
    (case a_law => k_is)
    (case l_law => k_is)
    (case q_law => k_is)
    (case a_is_count => k_is)
    (case l_is_count => k_is)
    (case q_is_count => k_is)
    (case k_is_count => k_is)
    (case a_is_name => k_is)
    (case l_is_name => k_is)
    (case q_is_name => k_is)
    (case k_is_name => k_is)
    (case a_is_ask => k_is)
    (case l_is_ask => k_is)
    (case q_is_ask => k_is)
    (case k_is_ask => k_is)
    (case a_need_name => k_is)
    (case l_need_name => k_is)
    (case q_need_name => k_is)
    (case k_need_name => k_is)
    (case a_need_ask => k_is)
    (case l_need_ask => k_is)
    (case q_need_ask => k_is)
    (case k_need_ask => k_is)
    (case a_small => k_is)
    (case l_small => k_is)
    (case q_small => k_is)
    (case k_small => k_is)
    (case a_is_hit => k_is)
    (case l_is_hit => k_is)
    (case q_is_hit => k_is)
    (case k_is_hit => k_is)
    (case a_begins => k_is)
    (case l_begins => k_is)
    (case q_begins => k_is)
    (case k_begins => k_is)
    (case a_greedy => k_is)
    (case l_greedy => k_is)
    (case q_greedy => k_is)
    (case k_greedy => k_is)
    (case a_need_marks => k_is)
    (case l_need_marks => k_is)
    (case q_need_marks => k_is)
    (case k_need_marks => k_is)
    (case a_own_worth => k_is)
    (case l_own_worth => k_is)
    (case q_own_worth => k_is)
    (case k_own_worth => k_is)
    (case a_gap_worth => k_is)
    (case l_gap_worth => k_is)
    (case q_gap_worth => k_is)
    (case k_gap_worth => k_is)
    (case a_best_of => k_is)
    (case l_best_of => k_is)
    (case q_best_of => k_is)
    (case k_best_of => k_is)
    (case a_need_names => k_is)
    (case l_need_names => k_is)
    (case q_need_names => k_is)
    (case k_need_names => k_is)
    (case a_ranked => k_is)
    (case l_ranked => k_is)
    (case q_ranked => k_is)
    (case k_ranked => k_is)
    (case a_hits_of => k_is)
    (case l_hits_of => k_is)
    (case q_hits_of => k_is)
    (case k_hits_of => k_is)
    (case a_hits => k_is)
    (case l_hits => k_is)
    (case q_hits => k_is)
    (case k_hits => k_is)
    (case a_law_cell => k_is)
    (case l_law_cell => k_is)
    (case q_law_cell => k_is)
    (case k_law_cell => k_is)
    (case a_law_drawn => k_is)
    (case l_law_drawn => k_is)
    (case q_law_drawn => k_is)
    (case k_law_drawn => k_is)
    (case a_law_word => k_is)
    (case l_law_word => k_is)
    (case q_law_word => k_is)
    (case k_law_word => k_is)
    (case a_law_told => k_is)
    (case l_law_told => k_is)
    (case q_law_told => k_is)
    (case k_law_told => k_is)
    (case a_law_sign => k_is)
    (case l_law_sign => k_is)
    (case q_law_sign => k_is)
    (case k_law_sign => k_is)
    (case a_law_name => k_is)
    (case l_law_name => k_is)
    (case q_law_name => k_is)
    (case k_law_name => k_is)
    (case a_law_ask_in => k_is)
    (case l_law_ask_in => k_is)
    (case q_law_ask_in => k_is)
    (case k_law_ask_in => k_is)
    (case a_law_marks => k_is)
    (case l_law_marks => k_is)
    (case q_law_marks => k_is)
    (case k_law_marks => k_is)
    (case a_law_names => k_is)
    (case l_law_names => k_is)
    (case q_law_names => k_is)
    (case k_law_names => k_is)
    (case a_law_back_right => k_is)
    (case l_law_back_right => k_is)
    (case q_law_back_right => k_is)
    (case k_law_back_right => k_is)
    (case a_law_full_right => k_is)
    (case l_law_full_right => k_is)
    (case q_law_full_right => k_is)
    (case k_law_full_right => k_is)
    (case a_law_led_round => k_is)
    (case l_law_led_round => k_is)
    (case q_law_led_round => k_is)
    (case k_law_led_round => k_is)
    (case g_Finder => k_is)
    (case kb_Finder => kernel_rfl)
    (case mk_Finder => k_is)
    (case kc_Finder => k_is)
    (case a_Finder_init => k_is)
    (case i_Finder_init => k_is)
    (case l_Finder_init => k_is)
    (case q_Finder_init => k_is)
    (case k_Finder_init => k_is)
    (case a_Finder_add => k_is)
    (case i_Finder_add => k_is)
    (case l_Finder_add => k_is)
    (case q_Finder_add => k_is)
    (case k_Finder_add => k_is)
    (case a_Finder_need_number => k_is)
    (case i_Finder_need_number => k_is)
    (case l_Finder_need_number => k_is)
    (case q_Finder_need_number => k_is)
    (case k_Finder_need_number => k_is)
    (case a_Finder_drop => k_is)
    (case i_Finder_drop => k_is)
    (case l_Finder_drop => k_is)
    (case q_Finder_drop => k_is)
    (case k_Finder_drop => k_is)
    (case a_Finder_press => k_is)
    (case i_Finder_press => k_is)
    (case l_Finder_press => k_is)
    (case q_Finder_press => k_is)
    (case k_Finder_press => k_is)
    (case a_Finder_rub => k_is)
    (case i_Finder_rub => k_is)
    (case l_Finder_rub => k_is)
    (case q_Finder_rub => k_is)
    (case k_Finder_rub => k_is)
    (case a_Finder_ask => k_is)
    (case i_Finder_ask => k_is)
    (case l_Finder_ask => k_is)
    (case q_Finder_ask => k_is)
    (case k_Finder_ask => k_is)
    (case a_Finder_many => k_is)
    (case i_Finder_many => k_is)
    (case l_Finder_many => k_is)
    (case q_Finder_many => k_is)
    (case k_Finder_many => k_is)
    (case a_Finder_names => k_is)
    (case i_Finder_names => k_is)
    (case l_Finder_names => k_is)
    (case q_Finder_names => k_is)
    (case k_Finder_names => k_is)
    (case a_Finder_hits => k_is)
    (case i_Finder_hits => k_is)
    (case l_Finder_hits => k_is)
    (case q_Finder_hits => k_is)
    (case k_Finder_hits => k_is)
    (case a_Finder_best => k_is)
    (case i_Finder_best => k_is)
    (case l_Finder_best => k_is)
    (case q_Finder_best => k_is)
    (case k_Finder_best => k_is)
    (case lC_ranked => k_is)
    (case lP_ranked => rfl)
    (case nP_ranked => kernel_rfl)
    (case hC_ranked => kernel_rfl)
    (case hP_ranked => exact PySem.W.km_tabs_of Y _ (by decide))
    (case lC_law_full_right => k_is)
    (case lP_law_full_right => rfl)
    (case nP_law_full_right => kernel_rfl)
    (case hC_law_full_right => kernel_rfl)
    (case hP_law_full_right => exact PySem.W.km_tabs_of Y _ (by decide))
    (case ne_0_1 => decide)
    (case ne_1_0 => decide)
    (case c_SMALL => k_is)
    (case c_GREAT => k_is)
    (case c_FIGURES => k_is)
    (case c_OTHERS => k_is)
    (case c_MOST_NAME => k_is)
    (case c_MOST_ASK => k_is)
    (case c_MOST_NAMES => k_is)
    (case c_MOST_MARK => k_is)
    (case c_NAMES => k_is)
    (case lT_NAMES => k_is)
    (case zT_NAMES => kernel_rfl)
    (case b_isinstance => k_is)
    (case b_int => k_is)
    (case b_bool => k_is)
    (case b_all => k_is)
    (case b_str => k_is)
    (case b_len => k_is)
    (case b_tuple => k_is)
    (case b_range => k_is)
    (case b_sorted => k_is)
    (case b_list => k_is)
    (case b_enumerate => k_is)
    (case b_sum => k_is)
    (case b_ValueError => k_is)
    (case b_max => k_is)
    (case b_min => k_is)
    (case g_BadName => k_is)
    (case g_BadAsk => k_is)
    (case g_BadMarks => k_is)
    (case g_BadPlaces => k_is)
    (case g_BadNumber => k_is)
    (case g_NoName => k_is)
    (case g_Nothing => k_is)
    (case g_BadText => k_is)
    (case g_FindError => k_is)
    (case w_BadName => kernel_rfl)
    (case w_BadAsk => kernel_rfl)
    (case w_BadMarks => kernel_rfl)
    (case w_BadNumber => kernel_rfl)
    (case w_NoName => kernel_rfl)
    (case w_Nothing => kernel_rfl)
