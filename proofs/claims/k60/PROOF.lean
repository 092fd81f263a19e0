import PyProof.Rows.All
import Wide.All
import OpenK.AllK
import Wide.FinOn
import HandS.ForMost
import HandS.Exc
import HandS.ExcOwn
import HandS.ExcCtx
import HandS.WordsExc
import HandS.Lambda
import HandS.Wide
import HandS.IsInst
import HandS.Steps
import HandS.Deep
import HandS.TupAny
import HandS.Codes
import HandS.Style
import HandS.Replace
import HandS.HotCalls
import HandS.ExcIs
import HandS.List
import HandS.Comp
import HandS.EndOwn
import HandS.NestedK
import PyProof.StrBlock2
import KE.SortData
import HandS.WordsDict
import HandS.Small
import KE.GoesMore
import KE.GoesZip
import HandS.Conv
import KE.SortKeyHeap
import HandS.SortKw
import KE.KDictZip
import HandS.ListItems
import PyProof.ListNew
import PyProof.EnumMake
import HandS.More
import PyProof.Rows.StrCase
import PyProof.FString5
import HandS.Text
import KE.KNestM
import PySem.Challenge.RW_letterfinds_k60_whole_words_written
set_option Elab.async false
set_option linter.all false
set_option maxRecDepth 100000
set_option maxHeartbeats 4000000
/-! the data layer: every value a tree of data, lists of one's own while they grow -/
namespace Lf
open PySem PySem.Spec PyProof.Rows L2 LamX
/-! ### data in a heap, outside the addresses O -/
mutual
def Dt (O : Addr → Prop) (H : Hp) : PyData → V → Prop
  | .none, v => v = .non
  | .bool b, v => v = .bl b
  | .int i, v => v = .int i
  | .str s, v => v = .str s
  | .list ds, v => ∃ a xs, v = .ref a ∧ ¬ O a ∧ H a = some (.lst xs) ∧ DtAll O H ds xs
  | .tuple ds, v => ∃ a xs, v = .ref a ∧ ¬ O a ∧ H a = some (.tup xs) ∧ DtAll O H ds xs
  | .dict _, _ => False
def DtAll (O : Addr → Prop) (H : Hp) : List PyData → List V → Prop
  | [], xs => xs = []
  | d :: ds, xs => ∃ x r, xs = x :: r ∧ Dt O H d x ∧ DtAll O H ds r
end
mutual
theorem Dt.imp {O O' : Addr → Prop} {H H' : Hp} (k : ∀ a o, ¬ O a → H a = some o → (∀ ps, o ≠ .tbl ps) → ¬ O' a ∧ H' a = some o) : ∀ (d : PyData) (v : V), Dt O H d v → Dt O' H' d v
  | .none, _, h => h
  | .bool _, _, h => h
  | .int _, _, h => h
  | .str _, _, h => h
  | .list ds, _, h => by
    obtain ⟨a, xs, e, n, g, r⟩ := h
    obtain ⟨n', g'⟩ := k a _ n g (fun _ z => by cases z)
    exact ⟨a, xs, e, n', g', DtAll.imp k ds xs r⟩
  | .tuple ds, _, h => by
    obtain ⟨a, xs, e, n, g, r⟩ := h
    obtain ⟨n', g'⟩ := k a _ n g (fun _ z => by cases z)
    exact ⟨a, xs, e, n', g', DtAll.imp k ds xs r⟩
  | .dict _, _, h => h
theorem DtAll.imp {O O' : Addr → Prop} {H H' : Hp} (k : ∀ a o, ¬ O a → H a = some o → (∀ ps, o ≠ .tbl ps) → ¬ O' a ∧ H' a = some o) : ∀ (ds : List PyData) (xs : List V), DtAll O H ds xs → DtAll O' H' ds xs
  | [], _, h => h
  | d :: ds, _, h => by
    obtain ⟨x, r, e, h1, h2⟩ := h
    exact ⟨x, r, e, Dt.imp k d x h1, DtAll.imp k ds r h2⟩
end
section
variable {O O' : Addr → Prop} {H H' : Hp} {d : PyData} {ds es : List PyData} {v : V} {vs us : List V} {p : Addr} {o : HO}
theorem Dt.grow (h : Dt O H d v) (e : ExtN H H') : Dt O H' d v := Dt.imp (fun a o n g t => ⟨n, e a o g t⟩) d v h
theorem DtAll.grow (h : DtAll O H ds vs) (e : ExtN H H') : DtAll O H' ds vs := DtAll.imp (fun a o n g t => ⟨n, e a o g t⟩) ds vs h
/-- fewer addresses are shut -/
theorem Dt.open_ (h : Dt O H d v) (e : ∀ a, O' a → O a) : Dt O' H d v := Dt.imp (fun a o n g t => ⟨fun z => n (e a z), g⟩) d v h
theorem DtAll.open_ (h : DtAll O H ds vs) (e : ∀ a, O' a → O a) : DtAll O' H ds vs := DtAll.imp (fun a o n g t => ⟨fun z => n (e a z), g⟩) ds vs h
/-- what is shut may change -/
theorem Dt.turn (h : Dt O H d v) (hp : O p) : Dt O (upd H p o) d v := Dt.imp (fun a u n g t => ⟨n, by rw [upd_ne (fun z => n (by rw [z]; exact hp))]; exact g⟩) d v h
theorem DtAll.turn (h : DtAll O H ds vs) (hp : O p) : DtAll O (upd H p o) ds vs := DtAll.imp (fun a u n g t => ⟨n, by rw [upd_ne (fun z => n (by rw [z]; exact hp))]; exact g⟩) ds vs h
/-- a new address is shut -/
def Shut (O : Addr → Prop) (p : Addr) : Addr → Prop := fun a => O a ∨ a = p
theorem Dt.shut (h : Dt O H d v) (hp : H p = none) : Dt (Shut O p) H d v := Dt.imp (fun a u n g t => ⟨fun z => z.elim n (fun e => by rw [e, hp] at g; cases g), g⟩) d v h
theorem DtAll.shut (h : DtAll O H ds vs) (hp : H p = none) : DtAll (Shut O p) H ds vs := DtAll.imp (fun a u n g t => ⟨fun z => z.elim n (fun e => by rw [e, hp] at g; cases g), g⟩) ds vs h
theorem DtAll.len : ∀ {ds : List PyData} {vs : List V}, DtAll O H ds vs → vs.length = ds.length
  | [], _, h => by cases h; rfl
  | d :: ds, _, h => by
    obtain ⟨x, r, rfl, _, h2⟩ := h
    rw [List.length_cons, List.length_cons, DtAll.len h2]
theorem DtAll.get : ∀ {ds : List PyData} {vs : List V} {i : Nat} {d : PyData}, DtAll O H ds vs → ds[i]? = some d → ∃ v, vs[i]? = some v ∧ Dt O H d v
  | [], _, _, _, _, e => by simp at e
  | d :: ds, _, 0, _, h, e => by
    obtain ⟨x, r, rfl, h1, _⟩ := h
    cases e
    exact ⟨x, rfl, h1⟩
  | d :: ds, _, i + 1, _, h, e => by
    obtain ⟨x, r, rfl, _, h2⟩ := h
    obtain ⟨v, e1, e2⟩ := DtAll.get (i := i) h2 (by simpa using e)
    exact ⟨v, by simpa using e1, e2⟩
theorem DtAll.of : ∀ {ds : List PyData} {vs : List V}, vs.length = ds.length → (∀ (i : Nat) d v, ds[i]? = some d → vs[i]? = some v → Dt O H d v) → DtAll O H ds vs
  | [], vs, e, _ => List.length_eq_zero_iff.mp e
  | d :: ds, [], e, _ => by simp at e
  | d :: ds, v :: vs, e, h => ⟨v, vs, rfl, h 0 d v rfl rfl, DtAll.of (by simpa using e) fun i d' v' a b => h (i + 1) d' v' (by simpa using a) (by simpa using b)⟩
theorem DtAll.at_ (h : DtAll O H ds vs) {i : Nat} (a : ds[i]? = some d) (b : vs[i]? = some v) : Dt O H d v := by
  obtain ⟨v', e, q⟩ := h.get a
  rw [b] at e
  cases e
  exact q
theorem DtAll.app (h : DtAll O H ds vs) (g : DtAll O H es us) : DtAll O H (ds ++ es) (vs ++ us) := by
  refine .of (by rw [List.length_append, List.length_append, h.len, g.len]) fun i d v a b => ?_
  have hl := h.len
  by_cases q : i < ds.length
  · rw [List.getElem?_append_left q] at a
    rw [List.getElem?_append_left (by omega)] at b
    exact h.at_ a b
  · rw [List.getElem?_append_right (by omega)] at a
    rw [List.getElem?_append_right (by omega), hl] at b
    exact g.at_ a b
theorem DtAll.one (h : Dt O H d v) : DtAll O H [d] [v] := ⟨v, [], rfl, h, rfl⟩
theorem DtAll.drop (h : DtAll O H ds vs) (n : Nat) : DtAll O H (ds.drop n) (vs.drop n) := by
  refine .of (by rw [List.length_drop, List.length_drop, h.len]) fun i d v a b => ?_
  rw [List.getElem?_drop] at a b
  exact h.at_ a b
theorem DtAll.take (h : DtAll O H ds vs) (n : Nat) : DtAll O H (ds.take n) (vs.take n) := by
  refine .of (by rw [List.length_take, List.length_take, h.len]) fun i d v a b => ?_
  rw [List.getElem?_take] at a b
  split at a
  · rename_i q
    rw [if_pos q] at b
    exact h.at_ a b
  · cases a
theorem DtAll.rev (h : DtAll O H ds vs) : DtAll O H ds.reverse vs.reverse := by
  refine .of (by rw [List.length_reverse, List.length_reverse, h.len]) fun i d v a b => ?_
  have e := h.len
  have hi : i < ds.length := by
    have := (List.getElem?_eq_some_iff.mp a).1
    simpa using this
  rw [List.getElem?_reverse hi] at a
  rw [List.getElem?_reverse (by omega), e] at b
  exact h.at_ a b
theorem DtAll.set (h : DtAll O H ds vs) (g : Dt O H d v) (j : Nat) : DtAll O H (ds.set j d) (vs.set j v) := by
  refine .of (by rw [List.length_set, List.length_set, h.len]) fun i d' v' a b => ?_
  by_cases e : j = i
  · subst e
    have hj : j < ds.length := by
      have := (List.getElem?_eq_some_iff.mp a).1
      simpa using this
    rw [List.getElem?_set_self hj] at a
    rw [List.getElem?_set_self (by rw [h.len]; exact hj)] at b
    cases a
    cases b
    exact g
  · rw [List.getElem?_set_ne e] at a b
    exact h.at_ a b
theorem DtAll.rep (h : DtAll O H ds vs) : ∀ k : Nat, DtAll O H (List.replicate k ds).flatten (List.replicate k vs).flatten
  | 0 => rfl
  | k + 1 => by
    rw [List.replicate_succ, List.replicate_succ, List.flatten_cons, List.flatten_cons]
    exact h.app (DtAll.rep h k)
theorem DtAll.ints : ∀ {ns : List Int} {vs : List V}, DtAll O H (ns.map PyData.int) vs → vs = ns.map V.int
  | [], _, h => h
  | n :: ns, _, h => by
    obtain ⟨x, r, rfl, h1, h2⟩ := h
    rw [DtAll.ints h2, show x = V.int n from h1]
    rfl
theorem DtAll.of_ints : ∀ (ns : List Int), DtAll O H (ns.map PyData.int) (ns.map V.int)
  | [] => rfl
  | n :: ns => ⟨_, _, rfl, rfl, DtAll.of_ints ns⟩
theorem DtAll.bls : ∀ {ns : List Bool} {vs : List V}, DtAll O H (ns.map PyData.bool) vs → vs = ns.map V.bl
  | [], _, h => h
  | n :: ns, _, h => by
    obtain ⟨x, r, rfl, h1, h2⟩ := h
    rw [DtAll.bls h2, show x = V.bl n from h1]
    rfl
theorem DtAll.txts : ∀ {ns : List Str} {vs : List V}, DtAll O H (ns.map PyData.str) vs → vs = ns.map V.str
  | [], _, h => h
  | n :: ns, _, h => by
    obtain ⟨x, r, rfl, h1, h2⟩ := h
    rw [DtAll.txts h2, show x = V.str n from h1]
    rfl
theorem DtAll.of_txts : ∀ (ns : List Str), DtAll O H (ns.map PyData.str) (ns.map V.str)
  | [] => rfl
  | n :: ns => ⟨_, _, rfl, rfl, DtAll.of_txts ns⟩
end
mutual
theorem Dt.dp {K : PySem.W.Frag} {O : Addr → Prop} {H : Hp} : ∀ (d : PyData) (v : V), Dt O H d v → Dp K H v d
  | .none, _, h => by rw [show _ = V.non from h]; exact .non
  | .bool b, _, h => by rw [show _ = V.bl b from h]; exact .bl b
  | .int i, _, h => by rw [show _ = V.int i from h]; exact .int i
  | .str s, _, h => by rw [show _ = V.str s from h]; exact .str s
  | .list ds, _, h => by
    obtain ⟨a, xs, e, _, g, r⟩ := h
    rw [e]
    exact .lst (SqL.of g) (DtAll.dp ds xs r)
  | .tuple ds, _, h => by
    obtain ⟨a, xs, e, _, g, r⟩ := h
    rw [e]
    exact .tup (SqT.of g) (DtAll.dp ds xs r)
  | .dict _, _, h => False.elim h
theorem DtAll.dp {K : PySem.W.Frag} {O : Addr → Prop} {H : Hp} : ∀ (ds : List PyData) (xs : List V), DtAll O H ds xs → DpAll K H xs ds
  | [], _, h => by rw [show _ = ([] : List V) from h]; exact .nil
  | d :: ds, _, h => by
    obtain ⟨x, r, e, h1, h2⟩ := h
    rw [e]
    exact .cons (Dt.dp d x h1) (DtAll.dp ds r h2)
end
/-- what needs no address -/
def flatD : PyData → Bool
  | .none => true
  | .bool _ => true
  | .int _ => true
  | .str _ => true
  | _ => false
theorem Dt.flat {O O' : Addr → Prop} {H H' : Hp} {d : PyData} {v : V} (f : flatD d = true) (h : Dt O H d v) : Dt O' H' d v := by
  cases d with
  | none => exact h
  | bool _ => exact h
  | int _ => exact h
  | str _ => exact h
  | list _ => cases f
  | tuple _ => cases f
  | dict _ => cases f
/-! ### the frame -/
/-- something that is no table stands there -/
def Lives (H : Hp) (a : Addr) : Prop := ∃ o, H a = some o ∧ ∀ ps, o ≠ .tbl ps
theorem Lives.grow {H H' : Hp} {a : Addr} (h : Lives H a) (e : ExtN H H') : Lives H' a := let ⟨o, g, t⟩ := h; ⟨o, e a o g t, t⟩
theorem Lives.ne {H : Hp} {a p : Addr} (h : Lives H a) (hp : H p = none) : a ≠ p := fun z => by
  obtain ⟨o, g, _⟩ := h
  rw [z, hp] at g
  cases g
theorem Lives.turn {H : Hp} {a p : Addr} {o : HO} (h : Lives H a) (t : ∀ ps, o ≠ .tbl ps) : Lives (upd H p o) a := by
  by_cases e : a = p
  · rw [e]; exact ⟨o, upd_same, t⟩
  · obtain ⟨u, g, q⟩ := h
    exact ⟨u, by rw [upd_ne e]; exact g, q⟩
/-- what is fixed while a def runs: the written part, the tables of code objects, what is shut from outside, the heap at the entry, what is wanted of an exception -/
structure Fx (Kf : PySem.W.Frag) (Tf : List (Addr × Str)) where
  O0 : Addr → Prop
  Hin : Hp
  E : XK
  h0 : ∀ a, O0 a → Lives Hin a
abbrev Fx.K {Kf : PySem.W.Frag} {Tf : List (Addr × Str)} (_ : Fx Kf Tf) : PySem.W.Frag := Kf
abbrev Fx.T {Kf : PySem.W.Frag} {Tf : List (Addr × Str)} (_ : Fx Kf Tf) : List (Addr × Str) := Tf
/-- what is told of an object of one's own: the addresses it is made of, and how it is -/
structure Rsc where
  as : List Addr
  φ : (Addr → Prop) → Hp → Option V → Prop
  keep : ∀ (O O' : Addr → Prop) (H H' : Hp) (o : Option V), φ O H o → (∀ a ∈ as, H' a = H a) → (∀ d v, Dt O H d v → Dt O' H' d v) → φ O' H' o
/-- what a name holds -/
inductive Slot where
  | non
  | dat (d : PyData)
  /-- a list of one's own, that may be changed -/
  | own (ds : List PyData)
  /-- a dict of one's own -/
  | odk (kvs : List (Key × PyData))
  /-- an object of one's own -/
  | res (R : Rsc)
  /-- the script -/
  | scr (ns : List Int)
  /-- anything else, by what is true of its value for good -/
  | any (φ : V → Prop)
def Slot.mine : Slot → Bool
  | .own _ => true
  | .odk _ => true
  | .res _ => true
  | _ => false
/-- what stands at one address -/
def Slot.lone : Slot → Bool
  | .own _ => true
  | .odk _ => true
  | _ => false
/-- the addresses of what is one's own -/
def Slot.has : Slot → Option V → Addr → Prop
  | .own _, o, p => o = some (.ref p)
  | .odk _, o, p => o = some (.ref p)
  | .res R, _, p => p ∈ R.as
  | _, _, _ => False
/-- objects of one's own share no address with what else is one's own -/
def Afar (σ : L2.St) (δ : List Slot) : Prop := ∀ (i j : Nat) (R : Rsc) (u : Slot), i ≠ j → δ[i]? = some (.res R) → δ[j]? = some u → ∀ p ∈ R.as, ¬ u.has (σ[j]?.getD none) p
def KvAll (O : Addr → Prop) (H : Hp) (kvs : List (Key × PyData)) (vs : List (Key × V)) : Prop := vs.map (·.1) = kvs.map (·.1) ∧ DtAll O H (kvs.map (·.2)) (vs.map (·.2))
def SlotOk {Kf : PySem.W.Frag} {Tf : List (Addr × Str)} (F : Fx Kf Tf) (O : Addr → Prop) (H : Hp) (o : Option V) : Slot → Prop
  | .non => True
  | .dat d => ∃ v, o = some v ∧ Dt O H d v
  | .own ds => ∃ p vs, o = some (.ref p) ∧ O p ∧ ¬ Lives F.Hin p ∧ H p = some (.lst vs) ∧ DtAll O H ds vs
  | .odk kvs => ∃ p vs, o = some (.ref p) ∧ O p ∧ ¬ Lives F.Hin p ∧ H p = some (.dK vs) ∧ KvAll O H kvs vs
  | .res R => (∃ p, o = some (.ref p) ∧ p ∈ R.as) ∧ R.φ O H o ∧ ∀ a ∈ R.as, O a ∧ ¬ Lives F.Hin a ∧ Lives H a
  | .scr ns => ∃ a, o = some (.ref a) ∧ SqL F.K F.Hin a (ns.map V.int)
  | .any φ => ∃ v, o = some v ∧ φ v
/-- the state, told by data -/
structure StAt {Kf : PySem.W.Frag} {Tf : List (Addr × Str)} (F : Fx Kf Tf) (O : Addr → Prop) (H : Hp) (σ : L2.St) (δ : List Slot) : Prop where
  len : σ.length = δ.length
  o0 : ∀ a, F.O0 a → O a
  dom : ∀ a, O a → Lives H a
  tabs : Tabs F.T H
  ext : ExtN F.Hin H
  slot : ∀ (i : Nat) s, δ[i]? = some s → SlotOk F O H (σ[i]?.getD none) s
  apart : ∀ (i j : Nat) s u p, i ≠ j → δ[i]? = some s → δ[j]? = some u → s.mine = true → u.mine = true → σ[i]? = some (some (.ref p)) → σ[j]? ≠ some (some (.ref p))
  afar : Afar σ δ
section
variable {Kf : PySem.W.Frag} {Tf : List (Addr × Str)} {F : Fx Kf Tf} {O : Addr → Prop} {H H' : Hp} {σ : L2.St} {δ : List Slot} {d : PyData} {v : V} {p : Addr}
theorem KvAll.imp {O' : Addr → Prop} {kvs : List (Key × PyData)} {vs : List (Key × V)} (h : KvAll O H kvs vs) (k : ∀ ds us, DtAll O H ds us → DtAll O' H' ds us) : KvAll O' H' kvs vs := ⟨h.1, k _ _ h.2⟩
theorem sq_grow {K : PySem.W.Frag} {a : Addr} {xs : List V} (e : ExtN H H') (h : SqL K H a xs) : SqL K H' a xs := by
  rcases h with (h | ⟨o, h⟩) | h
  · exact .inl (.inl (e _ _ h (fun _ z => by cases z)))
  · exact .inl (.inr ⟨o, e _ _ h (fun _ z => by cases z)⟩)
  · exact .inr h
theorem Lives.same {a : Addr} (h : Lives H a) (e : ExtN H H') : H' a = H a := by
  obtain ⟨o, g, t⟩ := h
  rw [g, e a o g t]
/-- an object stays as it is -/
theorem res_keep {O' : Addr → Prop} {R : Rsc} {o : Option V} (h : SlotOk F O H o (.res R)) (hs : ∀ a ∈ R.as, H' a = H a) (hO : ∀ a ∈ R.as, O' a) (hd : ∀ d v, Dt O H d v → Dt O' H' d v) : SlotOk F O' H' o (.res R) := by
  obtain ⟨h1, h2, h3⟩ := h
  refine ⟨h1, R.keep _ _ _ _ _ h2 hs hd, fun a ha => ⟨hO a ha, (h3 a ha).2.1, ?_⟩⟩
  obtain ⟨u, g, t⟩ := (h3 a ha).2.2
  exact ⟨u, by rw [hs a ha]; exact g, t⟩
/-- the heap grows -/
theorem SlotOk.grow {o : Option V} {s : Slot} (h : SlotOk F O H o s) (e : ExtN H H') : SlotOk F O H' o s := by
  cases s with
  | non => trivial
  | dat d => obtain ⟨v, a, b⟩ := h; exact ⟨v, a, b.grow e⟩
  | own ds => obtain ⟨p, vs, a, b, c, g, r⟩ := h; exact ⟨p, vs, a, b, c, e _ _ g (fun _ z => by cases z), r.grow e⟩
  | odk kvs => obtain ⟨p, vs, a, b, c, g, r⟩ := h; exact ⟨p, vs, a, b, c, e _ _ g (fun _ z => by cases z), r.imp fun _ _ q => q.grow e⟩
  | res R => exact res_keep h (fun a ha => (h.2.2 a ha).2.2.same e) (fun a ha => (h.2.2 a ha).1) fun d v q => q.grow e
  | scr ns => exact h
  | any φ => exact h
theorem StAt.grow (h : StAt F O H σ δ) (e : ExtN H H') (t : Tabs F.T H') : StAt F O H' σ δ :=
  ⟨h.len, h.o0, fun a oa => (h.dom a oa).grow e, t, h.ext.trans e, fun i s q => (h.slot i s q).grow e, h.apart, h.afar⟩
theorem no_has {s : Slot} (h : s.mine = false) (o : Option V) (p : Addr) : ¬ s.has o p := by
  cases s with
  | own _ => cases h
  | odk _ => cases h
  | res _ => cases h
  | _ => exact fun z => z
/-- another thing is put into a name -/
theorem Afar.set (h : Afar σ δ) (hl : σ.length = δ.length) (i : Nat) (o : Option V) (s : Slot) (hs : ∀ R, s = .res R → ∀ j u, j ≠ i → δ[j]? = some u → ∀ p ∈ R.as, ¬ u.has (σ[j]?.getD none) p) (hx : ∀ j R, j ≠ i → δ[j]? = some (.res R) → ∀ p ∈ R.as, ¬ s.has o p) : Afar (σ.set i o) (δ.set i s) := fun k j R u hkj h1 h2 p hp => by
  by_cases e1 : i = k
  · subst e1
    have hi : i < δ.length := by
      have := (List.getElem?_eq_some_iff.mp h1).1
      simpa using this
    rw [List.getElem?_set_self hi] at h1
    rw [List.getElem?_set_ne hkj] at h2 ⊢
    exact hs R (Option.some.inj h1) j u (fun z => hkj z.symm) h2 p hp
  · rw [List.getElem?_set_ne e1] at h1
    by_cases e2 : i = j
    · subst e2
      have hi : i < δ.length := by
        have := (List.getElem?_eq_some_iff.mp h2).1
        simpa using this
      rw [List.getElem?_set_self hi] at h2
      rw [List.getElem?_set_self (by rw [hl]; exact hi)]
      cases h2
      exact hx k R (fun z => e1 z.symm) h1 p hp
    · rw [List.getElem?_set_ne e2] at h2 ⊢
      exact h k j R u hkj h1 h2 p hp
/-- the same value, told otherwise -/
theorem Afar.turn (h : Afar σ δ) (hl : σ.length = δ.length) (i : Nat) (s : Slot) (hs : ∀ R, s = .res R → ∀ j u, j ≠ i → δ[j]? = some u → ∀ p ∈ R.as, ¬ u.has (σ[j]?.getD none) p) (hx : ∀ j R, j ≠ i → δ[j]? = some (.res R) → ∀ p ∈ R.as, ¬ s.has (σ[i]?.getD none) p) : Afar σ (δ.set i s) := by
  by_cases hi : i < σ.length
  · have e : σ.set i (σ[i]?.getD none) = σ := by
      rw [List.getElem?_eq_getElem hi]
      exact List.set_getElem_self hi
    have := h.set hl i (σ[i]?.getD none) s hs hx
    rwa [e] at this
  · rw [List.set_eq_of_length_le (by omega)]
    exact h
/-- a new object -/
theorem ext_new {o : HO} (hp : H p = none) : ExtN H (upd H p o) := fun b u g _ => by
  rw [upd_ne (ne_of_none g hp)]
  exact g
theorem tabs_new {T : List (Addr × Str)} {o : HO} (t : Tabs T H) (hp : H p = none) : Tabs T (upd H p o) := t.ext fun b u g => by
  rw [upd_ne (ne_of_none g hp)]
  exact g
/-- what is shut is changed: the tables stay -/
theorem tabs_turn {T : List (Addr × Str)} {o : HO} {xs : List V} (t : Tabs T H) (hp : H p = some (.lst xs)) : Tabs T (upd H p o) := fun q hq => by
  obtain ⟨ps, g, a, b⟩ := t q hq
  have n1 : q.1 ≠ p := fun z => by rw [z, hp] at g; cases g
  refine ⟨ps, by rw [upd_ne n1]; exact g, a, fun pos cv hc => ?_⟩
  obtain ⟨c, e1, e2⟩ := b pos cv hc
  have n2 : c ≠ p := fun z => by
    rw [z, hp] at e2
    unfold CodeO at e2
    cases e2
  exact ⟨c, e1, by rw [upd_ne n2]; exact e2⟩
theorem tabs_turnK {T : List (Addr × Str)} {o : HO} {xs : List (Key × V)} (t : Tabs T H) (hp : H p = some (.dK xs)) : Tabs T (upd H p o) := fun q hq => by
  obtain ⟨ps, g, a, b⟩ := t q hq
  have n1 : q.1 ≠ p := fun z => by rw [z, hp] at g; cases g
  refine ⟨ps, by rw [upd_ne n1]; exact g, a, fun pos cv hc => ?_⟩
  obtain ⟨c, e1, e2⟩ := b pos cv hc
  have n2 : c ≠ p := fun z => by
    rw [z, hp] at e2
    unfold CodeO at e2
    cases e2
  exact ⟨c, e1, by rw [upd_ne n2]; exact e2⟩
end
/-! ### readings told by data -/
section
variable {Kf : PySem.W.Frag} {Tf : List (Addr × Str)} (F : Fx Kf Tf) (δ : List Slot)
/-- an expression that gives d -/
def tD (d : PyData) : TE := fun σ H Q => ∃ O, StAt F O H σ δ ∧ ∀ v H', ExtN H H' → Tabs F.T H' → Dt O H' d v → Q v H'
/-- one that gives a new list of one's own -/
def tDL (ds : List PyData) : TE := fun σ H Q => ∃ O, StAt F O H σ δ ∧ ∀ p xs H', ExtN H H' → Tabs F.T H' → (∀ a, Lives H a → a ≠ p) → H' p = some (.lst xs) → DtAll (Shut O p) H' ds xs → Q (.ref p) H'
/-- one that raises the class at c -/
def tDX (c : Addr) : TE := fun σ H Q => ∃ O, StAt F O H σ δ ∧ ∀ H', ExtN H H' → Tabs F.T H' → F.E (.ref c) none H'
def aD (ds : List PyData) : TA := fun σ H Q => ∃ O, StAt F O H σ δ ∧ ∀ vs H', ExtN H H' → Tabs F.T H' → DtAll O H' ds vs → Q vs H'
def cD (b : Bool) : TT := fun σ H Q => ∃ O, StAt F O H σ δ ∧ ∀ H', ExtN H H' → Tabs F.T H' → Q b H'
def oD (o : Option Int) : TO := fun σ H Q => ∃ O, StAt F O H σ δ ∧ ∀ H', ExtN H H' → Tabs F.T H' → Q o H'
end
/-- what may be behind a statement -/
structure Post where
  nx : List Slot → Prop
  rt : PyData → Prop
  bk : List Slot → Prop := fun _ => False
  ct : List Slot → Prop := fun _ => False
  ex : Addr → Prop := fun _ => False
  rts : List Slot → PyData → Prop := fun _ _ => False
  exs : List Slot → Addr → Prop := fun _ _ => False
def Tm (O : Addr → Prop) (H : Hp) (τ : List (PyData × V)) : Prop := ∀ q ∈ τ, Dt O H q.1 q.2
/-- P holds behind the statement -/
structure Wants {Kf : PySem.W.Frag} {Tf : List (Addr × Str)} (F : Fx Kf Tf) (τ : List (PyData × V)) (P : Post) (D : Ends) : Prop where
  nx : ∀ δ O σ H, P.nx δ → StAt F O H σ δ → Tm O H τ → D.nx σ H
  rt : ∀ d v H, P.rt d → ExtN F.Hin H → Tabs F.T H → Dt F.O0 H d v → D.rt v H
  bk : ∀ δ O σ H, P.bk δ → StAt F O H σ δ → Tm O H τ → D.bk σ H
  ct : ∀ δ O σ H, P.ct δ → StAt F O H σ δ → Tm O H τ → D.ct σ H
  ex : ∀ c H, P.ex c → ExtN F.Hin H → Tabs F.T H → F.E (.ref c) none H
  rts : ∀ δ d v O σ H, P.rts δ d → StAt F O H σ δ → Dt O H d v → D.rt v H
  exs : ∀ δ c O σ H, P.exs δ c → StAt F O H σ δ → F.E (.ref c) none H
def sD {Kf : PySem.W.Frag} {Tf : List (Addr × Str)} (F : Fx Kf Tf) (δ : List Slot) (P : Post) : TS := fun D σ H => ∃ O τ, StAt F O H σ δ ∧ Tm O H τ ∧ Wants F τ P D
section
variable {X : Cx} {e : Expr} {st : Stmt} {sts : List Stmt}
theorem wkE {t t' : TE} (h : PE X e t) (k : ∀ σ H Q, t' σ H Q → t σ H Q) : PE X e t' := ⟨fun pins s σ H Q I q => h.run pins s σ H Q I (k σ H Q q)⟩
theorem wkT {t t' : TT} (h : PT X e t) (k : ∀ σ H Q, t' σ H Q → t σ H Q) : PT X e t' := ⟨fun pins s σ H Q I q => h.run pins s σ H Q I (k σ H Q q)⟩
theorem wkA {es : List Expr} {t t' : TA} (h : PA X es t) (k : ∀ σ H Q, t' σ H Q → t σ H Q) : PA X es t' := ⟨fun pos pins s σ H Q I q => h.run pos pins s σ H Q I (k σ H Q q)⟩
theorem wkO {o : Option Expr} {t t' : TO} (h : PO X o t) (k : ∀ σ H Q, t' σ H Q → t σ H Q) : PO X o t' := ⟨fun pins s σ H Q I q => h.run pins s σ H Q I (k σ H Q q)⟩
theorem wkS {t t' : TS} (h : PS X st t) (k : ∀ D σ H, t' D σ H → t D σ H) : PS X st t' := ⟨fun pins s σ H D I q => h.run pins s σ H D I (k D σ H q)⟩
theorem wkSs {t t' : TS} (h : PSs X sts t) (k : ∀ D σ H, t' D σ H → t D σ H) : PSs X sts t' := ⟨fun pins s σ H D I q => h.run pins s σ H D I (k D σ H q)⟩
/-- one of several -/
theorem exE {ι : Sort _} {t : ι → TE} (h : ∀ i, PE X e (t i)) : PE X e (fun σ H Q => ∃ i, t i σ H Q) := ⟨fun pins s σ H Q I q => let ⟨i, g⟩ := q; (h i).run pins s σ H Q I g⟩
theorem exT {ι : Sort _} {t : ι → TT} (h : ∀ i, PT X e (t i)) : PT X e (fun σ H Q => ∃ i, t i σ H Q) := ⟨fun pins s σ H Q I q => let ⟨i, g⟩ := q; (h i).run pins s σ H Q I g⟩
theorem exSs {ι : Sort _} {t : ι → TS} (h : ∀ i, PSs X sts (t i)) : PSs X sts (fun D σ H => ∃ i, t i D σ H) := ⟨fun pins s σ H D I q => let ⟨i, g⟩ := q; (h i).run pins s σ H D I g⟩
end
end Lf
set_option Elab.async false
set_option linter.all false
set_option maxRecDepth 100000
set_option maxHeartbeats 4000000
namespace Lf
open PySem PySem.Spec PyProof.Rows L2 LamX
/-! ### where one stands -/
structure Ctx (X : Cx) (N : List Str) (sc : Scope) : Prop where
  n : X.N = N
  s : X.env.scope = sc
  nd : N.Nodup
  calm : X.calm = true
/-- a def's body -/
structure CtD (X : Cx) (N : List Str) (sc : Scope) (E : XK) : Prop extends Ctx X N sc where
  fn : ∀ x, X.fn x = true
  po : PassesOwn (model X.prog X.w) X.A X.env X.xe
  tk : L2N.Takes X (fun cls d _ H => E cls d H)
  stk : X.stack = X.env :: X.outer
  frm : X.env.frame = some X.env.locals
section
variable {X : Cx} {N : List Str} {sc : Scope}
theorem Ctx.gl (c : Ctx X N sc) {x : Str} (h : sc.names.lookup x = some .globalImplicit) : Gl X x := by
  show X.env.scope.names.lookup x = _
  rw [c.s]
  exact h
theorem Ctx.vis (c : Ctx X N sc) {x : Str} (h : Vis sc x) : Vis X.env.scope x := by
  rw [c.s]
  exact h
theorem Ctx.loc (c : Ctx X N sc) {x : Str} (h : Loc sc x) : Loc X.env.scope x := by
  rw [c.s]
  exact h
theorem Ctx.at_ (c : Ctx X N sc) {i : Nat} {x : Str} (h : N[i]? = some x) : X.N[i]? = some x := by
  rw [c.n]
  exact h
theorem Ctx.nd' (c : Ctx X N sc) : X.N.Nodup := by
  rw [c.n]
  exact c.nd
/-- a block's names, as the def around it has them -/
def reSc (sc scope : Scope) : Scope := { scope with names := scope.names.map fun (n, k) => if (k == .free && sc.kind == .function && sc.names.lookup n == some .cell) then (n, .cell) else (n, k) }
theorem Ctx.blk (c : Ctx X N sc) (s : Shared) (H : Hp) (scope : Scope) (C : Addr) (cl : List (Str × Addr)) (fp : List Addr) : Ctx (X.blk s H scope (compEnvC scope cl C X.env) fp) N (reSc sc scope) := ⟨c.n, by rw [← c.s]; rfl, c.nd, c.calm⟩
end
/-! ### values and operators by data -/
section
variable {Kf : PySem.W.Frag} {Tf : List (Addr × Str)} (F : Fx Kf Tf)
def OpD (r : R2) (d e z : PyData) : Prop := ∀ (O : Addr → Prop) (H : Hp) (x y : V) (Q : VK), (∀ a, O a → Lives H a) → Tabs F.T H → Dt O H d x → Dt O H e y → (∀ v H', ExtN H H' → Tabs F.T H' → Dt O H' z v → Q v H') → r x y H Q
def UnD (r : V → Hp → VK → Prop) (d z : PyData) : Prop := ∀ (O : Addr → Prop) (H : Hp) (x : V) (Q : VK), (∀ a, O a → Lives H a) → Tabs F.T H → Dt O H d x → (∀ v H', ExtN H H' → Tabs F.T H' → Dt O H' z v → Q v H') → r x H Q
def ClD (r : List V → Hp → VK → Prop) (ds : List PyData) (z : PyData) : Prop := ∀ (O : Addr → Prop) (H : Hp) (xs : List V) (Q : VK), (∀ a, O a → Lives H a) → Tabs F.T H → DtAll O H ds xs → (∀ v H', ExtN H H' → Tabs F.T H' → Dt O H' z v → Q v H') → r xs H Q
def MtD (r : V → List V → Hp → VK → Prop) (d : PyData) (ds : List PyData) (z : PyData) : Prop := ∀ (O : Addr → Prop) (H : Hp) (x : V) (xs : List V) (Q : VK), (∀ a, O a → Lives H a) → Tabs F.T H → Dt O H d x → DtAll O H ds xs → (∀ v H', ExtN H H' → Tabs F.T H' → Dt O H' z v → Q v H') → r x xs H Q
def SlD (r : V → Option Int → Option Int → Hp → VK → Prop) (d : PyData) (lo hi : Option Int) (z : PyData) : Prop := ∀ (O : Addr → Prop) (H : Hp) (x : V) (Q : VK), (∀ a, O a → Lives H a) → Tabs F.T H → Dt O H d x → (∀ v H', ExtN H H' → Tabs F.T H' → Dt O H' z v → Q v H') → r x lo hi H Q
end
theorem fresh_ok {O : Addr → Prop} {H : Hp} {p : Addr} (dom : ∀ a, O a → Lives H a) (hp : H p = none) : ¬ O p := fun z => (dom p z).ne hp rfl
section
variable {Kf : PySem.W.Frag} {Tf : List (Addr × Str)} {F : Fx Kf Tf} {δ : List Slot} {X : Cx} {N : List Str} {sc : Scope} {pos apos : Pos} {a b c e : Expr} {es : List Expr} {d d1 d2 d3 z : PyData} {ds : List PyData}
theorem x_var (i : Nat) {x : Str} (cx : Ctx X N sc) (hs : δ[i]? = some (.dat d)) (hN : N[i]? = some x := by rfl) (hv : Vis sc x := by first | exact Or.inl rfl | exact Or.inr (Or.inl rfl) | exact Or.inr (Or.inr rfl)) (hd : (x == ("__debug__" : Str)) = false := by decide)
    (hcd : (x == ("__classdict__" : Str)) = false := by decide) : PE X (.Name x pos) (tD F δ d) :=
  wkE (pe_var (i := i) (cx.at_ hN) (cx.vis hv) hd hcd) fun σ H Q h => by
    obtain ⟨O, st, k⟩ := h
    obtain ⟨v, e1, e2⟩ := st.slot i _ hs
    have e3 : σ[i]? = some (some v) := by
      cases q : σ[i]? with
      | none => rw [q] at e1; cases e1
      | some o => rw [q] at e1; rw [show o = some v from e1]
    exact ⟨v, e3, k v H (ExtN.refl H) st.tabs e2⟩
theorem x_k {v : V} {u : Value} {x : Str} (cx : Ctx X N sc) (hm : X.mg x = some u) (r : RelV v u) (hf : ∀ O H, Dt O H d v) (hg : sc.names.lookup x = some .globalImplicit := by rfl) (hd : (x == ("__debug__" : Str)) = false := by decide) : PE X (.Name x pos) (tD F δ d) :=
  wkE (pe_glob (v := v) (cx.gl hg) hm r hd) fun σ H Q h => let ⟨O, st, k⟩ := h; k v H (ExtN.refl H) st.tabs (hf O H)
theorem x_int {i : Int} {j : Nat} : PE X (.Constant (.int i) j pos) (tD F δ (.int i)) := wkE pe_int fun σ H Q h => let ⟨O, st, k⟩ := h; k _ H (ExtN.refl H) st.tabs rfl
theorem x_bool {i : Bool} {j : Nat} : PE X (.Constant (.bool i) j pos) (tD F δ (.bool i)) := wkE pe_bl fun σ H Q h => let ⟨O, st, k⟩ := h; k _ H (ExtN.refl H) st.tabs rfl
theorem x_none {j : Nat} : PE X (.Constant .none j pos) (tD F δ .none) := wkE pe_non fun σ H Q h => let ⟨O, st, k⟩ := h; k _ H (ExtN.refl H) st.tabs rfl
theorem x_str {i : Str} {j : Nat} : PE X (.Constant (.str i) j pos) (tD F δ (.str i)) := wkE pe_str fun σ H Q h => let ⟨O, st, k⟩ := h; k _ H (ExtN.refl H) st.tabs rfl
theorem x_is (h : PE X e (tD F δ d)) (q : d = d1) : PE X e (tD F δ d1) := by
  rw [← q]
  exact h
/-- two values in a row, then r -/
theorem op_run {r : R2} (q : OpD F r d1 d2 z) {σ : L2.St} {H : Hp} {Q : VK} (h : tD F δ z σ H Q) : tOp r (tD F δ d1) (tD F δ d2) σ H Q := by
  obtain ⟨O, st, k⟩ := h
  refine ⟨O, st, fun x H1 e1 t1 g1 => ⟨O, st.grow e1 t1, fun y H2 e2 t2 g2 => ?_⟩⟩
  have s2 := (st.grow e1 t1).grow e2 t2
  exact q O H2 x y Q s2.dom t2 (g1.grow e2) g2 fun v H3 e3 t3 g3 => k v H3 ((e1.trans e2).trans e3) t3 g3
theorem x_op {op : Operator} {r : R2} (ho : OpR X (binaryOp op) r) (q : OpD F r d1 d2 z) (ha : PE X a (tD F δ d1)) (hb : PE X b (tD F δ d2)) : PE X (.BinOp a op b pos) (tD F δ z) :=
  wkE (pe_op ho ha hb) fun σ H Q h => op_run q h
theorem x_ix {r : R2} (ho : IxR X r) (q : OpD F r d1 d2 z) (ha : PE X a (tD F δ d1)) (hb : PE X b (tD F δ d2)) (hs : PlainIx b := by exact fun _ _ => rfl) : PE X (.Subscript a b pos) (tD F δ z) :=
  wkE (pe_ix ho ha hb hs) fun σ H Q h => op_run q h
theorem x_un {op : UnaryOp} {r : V → Hp → VK → Prop} (ho : UnR X (unaryOp op) r) (q : UnD F r d1 z) (ha : PE X a (tD F δ d1)) : PE X (.UnaryOp op a pos) (tD F δ z) :=
  wkE (pe_un ho ha) fun σ H Q h => by
    obtain ⟨O, st, k⟩ := h
    refine ⟨O, st, fun x H1 e1 t1 g1 => ?_⟩
    exact q O H1 x Q (st.grow e1 t1).dom t1 g1 fun v H3 e3 t3 g3 => k v H3 (e1.trans e3) t3 g3
theorem x_cmp {op : CmpOp} {r : R2} (ho : OpR X (compareOp op) r) (q : OpD F r d1 d2 z) (ha : PE X a (tD F δ d1)) (hb : PE X b (tD F δ d2)) (hm : behindInMarks op b = false := by first | exact nomark _ | rfl) : PE X (.Compare a [op] [b] pos) (tD F δ z) :=
  wkE (pe_cmpR ho ha hb hm) fun σ H Q h => op_run q h
theorem c_cmp {op : CmpOp} {r : R2} {k : Bool} (ho : OpR X (compareOp op) r) (q : OpD F r d1 d2 (.bool k)) (ha : PE X a (tD F δ d1)) (hb : PE X b (tD F δ d2)) (hm : behindInMarks op b = false := by first | exact nomark _ | rfl) : PT X (.Compare a [op] [b] pos) (cD F δ k) :=
  wkT (pt_cmpR ho ha hb hm) fun σ H Q h => by
    obtain ⟨O, st, g⟩ := h
    exact op_run (F := F) (δ := δ) q ⟨O, st, fun v H' e t r => ⟨k, r, g H' e t⟩⟩
theorem c_val {k : Bool} (h : PE X e (tD F δ (.bool k))) (he : ∀ whole, isTrue e X.env whole = (do let v ← whole; standAt e.pos; holding [v] (truthy v)) := by intro _; rfl) : PT X e (cD F δ k) :=
  wkT (pt_val h he) fun σ H Q h => by
    obtain ⟨O, st, g⟩ := h
    exact ⟨O, st, fun v H' e t r => ⟨k, r, g H' e t⟩⟩
theorem c_not {k : Bool} (h : PT X a (cD F δ k)) : PT X (.UnaryOp .Not a pos) (cD F δ (!k)) := wkT (pt_not h) fun σ H Q h => h
theorem c_is {k k' : Bool} (h : PT X a (cD F δ k)) (q : k = k') : PT X a (cD F δ k') := by
  rw [← q]
  exact h
/-- and, or, as tests: the right one only where it is come to -/
theorem w_one {op : BoolOp} {k : Bool} (h : PT X a (cD F δ k)) : PW X (.BoolOp op [a] pos) (cD F δ k) := by
  cases op with
  | And => exact pw_and1 h
  | Or => exact pw_or1 h
theorem wkW {t t' : TT} (h : PW X e t) (k : ∀ σ H Q, t' σ H Q → t σ H Q) : PW X e t' := ⟨fun wh pins s σ H Q I q => h.run wh pins s σ H Q I (k σ H Q q)⟩
theorem ifW {q : Prop} {t : TT} (h : q → PW X e t) : PW X e (fun σ H Q => q ∧ t σ H Q) := ⟨fun wh pins s σ H Q I g => (h g.1).run wh pins s σ H Q I g.2⟩
theorem ifE {q : Prop} {t : TE} (h : q → PE X e t) : PE X e (fun σ H Q => q ∧ t σ H Q) := ⟨fun pins s σ H Q I g => (h g.1).run pins s σ H Q I g.2⟩
theorem ifSs {q : Prop} {t : TS} {sts : List Stmt} (h : q → PSs X sts t) : PSs X sts (fun D σ H => q ∧ t D σ H) := ⟨fun pins s σ H D I g => (h g.1).run pins s σ H D I g.2⟩
theorem w_and {k j : Bool} (h : PT X a (cD F δ k)) (g : k = true → PW X (.BoolOp .And (b :: es) pos) (cD F δ j)) : PW X (.BoolOp .And (a :: b :: es) pos) (cD F δ (k && j)) :=
  wkW (pw_and h (ifW g)) fun σ H Q h => by
    obtain ⟨O, st, w⟩ := h
    refine ⟨O, st, fun H1 e1 t1 => ?_⟩
    cases k with
    | true => exact iteT ⟨rfl, O, st.grow e1 t1, fun H2 e2 t2 => w H2 (e1.trans e2) t2⟩
    | false => exact iteF (w H1 e1 t1)
theorem w_or {k j : Bool} (h : PT X a (cD F δ k)) (g : k = false → PW X (.BoolOp .Or (b :: es) pos) (cD F δ j)) : PW X (.BoolOp .Or (a :: b :: es) pos) (cD F δ (k || j)) :=
  wkW (pw_or h (ifW g)) fun σ H Q h => by
    obtain ⟨O, st, w⟩ := h
    refine ⟨O, st, fun H1 e1 t1 => ?_⟩
    cases k with
    | true => exact iteT (w H1 e1 t1)
    | false => exact iteF ⟨rfl, O, st.grow e1 t1, fun H2 e2 t2 => w H2 (e1.trans e2) t2⟩
/-- .. as values -/
theorem x_one {op : BoolOp} (h : PE X a (tD F δ d)) : PE X (.BoolOp op [a] pos) (tD F δ d) := pe_one h
theorem x_and {k j : Bool} (h : PE X a (tD F δ (.bool k))) (g : k = true → PE X (.BoolOp .And (b :: es) pos) (tD F δ (.bool j))) : PE X (.BoolOp .And (a :: b :: es) pos) (tD F δ (.bool (k && j))) :=
  wkE (pe_and h (ifE g)) fun σ H Q h => by
    obtain ⟨O, st, w⟩ := h
    refine ⟨O, st, fun v H1 e1 t1 r => ⟨k, r, ?_⟩⟩
    cases k with
    | true => exact iteT ⟨rfl, O, st.grow e1 t1, fun v H2 e2 t2 r2 => w v H2 (e1.trans e2) t2 r2⟩
    | false => exact iteF (w _ H1 e1 t1 rfl)
theorem x_or {k j : Bool} (h : PE X a (tD F δ (.bool k))) (g : k = false → PE X (.BoolOp .Or (b :: es) pos) (tD F δ (.bool j))) : PE X (.BoolOp .Or (a :: b :: es) pos) (tD F δ (.bool (k || j))) :=
  wkE (pe_or h (ifE g)) fun σ H Q h => by
    obtain ⟨O, st, w⟩ := h
    refine ⟨O, st, fun v H1 e1 t1 r => ⟨k, r, ?_⟩⟩
    cases k with
    | true => exact iteT (w _ H1 e1 t1 rfl)
    | false => exact iteF ⟨rfl, O, st.grow e1 t1, fun v H2 e2 t2 r2 => w v H2 (e1.trans e2) t2 r2⟩
theorem x_not {k : Bool} (h : PE X a (tD F δ (.bool k))) : PE X (.UnaryOp .Not a pos) (tD F δ (.bool (!k))) :=
  wkE (pe_not h) fun σ H Q h => by
    obtain ⟨O, st, w⟩ := h
    exact ⟨O, st, fun v H1 e1 t1 r => ⟨k, r, w _ H1 e1 t1 rfl⟩⟩
/-- a if c else b -/
theorem x_if {k : Bool} (h : PT X c (cD F δ k)) (g1 : k = true → PE X a (tD F δ d)) (g2 : k = false → PE X b (tD F δ d)) : PE X (.IfExp c a b pos) (tD F δ d) :=
  wkE (pe_ifExp h (ifE g1) (ifE g2)) fun σ H Q h => by
    obtain ⟨O, st, w⟩ := h
    refine ⟨O, st, fun H1 e1 t1 => ?_⟩
    cases k with
    | true => exact iteT ⟨rfl, O, st.grow e1 t1, fun v H2 e2 t2 r2 => w v H2 (e1.trans e2) t2 r2⟩
    | false => exact iteF ⟨rfl, O, st.grow e1 t1, fun v H2 e2 t2 r2 => w v H2 (e1.trans e2) t2 r2⟩
/-- a op b op' c -/
theorem c_chain {op op' : CmpOp} {r r' : R2} {k j : Bool} (ho : OpR X (compareOp op) r) (ho' : OpR X (compareOp op') r') (q : OpD F r d1 d2 (.bool k)) (q' : k = true → OpD F r' d2 d3 (.bool j)) (ha : PE X a (tD F δ d1)) (hb : PE X b (tD F δ d2)) (hc : PE X c (tD F δ d3)) (hm : lastMarks [op, op'] [b, c] = false := by with_unfolding_all rfl) :
    PT X (.Compare a [op, op'] [b, c] pos) (cD F δ (k && j)) :=
  wkT (pt_chain ho ho' ha hb hc hm) fun σ H Q h => by
    obtain ⟨O, st, w⟩ := h
    refine ⟨O, st, fun x H1 e1 t1 g1 => ⟨O, st.grow e1 t1, fun y H2 e2 t2 g2 => ?_⟩⟩
    have s2 := (st.grow e1 t1).grow e2 t2
    refine q O H2 x y _ s2.dom t2 (g1.grow e2) g2 fun v H3 e3 t3 g3 => ⟨k, g3, ?_⟩
    cases k with
    | true =>
      refine iteT ⟨O, s2.grow e3 t3, fun u H4 e4 t4 g4 => ?_⟩
      exact q' rfl O H4 y u _ ((s2.grow e3 t3).grow e4 t4).dom t4 ((g2.grow e3).grow e4) g4 fun v5 H5 e5 t5 g5 => ⟨j, g5, w H5 ((((e1.trans e2).trans e3).trans e4).trans e5) t5⟩
    | false => exact iteF ⟨false, rfl, w H3 ((e1.trans e2).trans e3) t3⟩
/-- arguments -/
theorem a_nil : PA X [] (aD F δ []) := wkA pa_nil fun σ H Q h => let ⟨O, st, k⟩ := h; k [] H (ExtN.refl H) st.tabs rfl
theorem a_cons (h : PE X e (tD F δ d)) (g : PA X es (aD F δ ds)) (hs : starEach (e :: es) X.env = (false, eval e X.env) :: starEach es X.env := by rfl) : PA X (e :: es) (aD F δ (d :: ds)) :=
  wkA (pa_cons h g hs) fun σ H Q h => by
    obtain ⟨O, st, w⟩ := h
    refine ⟨O, st, fun x H1 e1 t1 g1 => ⟨O, st.grow e1 t1, fun xs H2 e2 t2 g2 => ?_⟩⟩
    exact w (x :: xs) H2 (e1.trans e2) t2 ⟨x, xs, rfl, g1.grow e2, g2⟩
/-- displays -/
theorem x_lst (h : PA X es (aD F δ ds)) (hz : ds.length ≤ 1000 := by first | decide | (simp; done) | omega) : PE X (.List es pos) (tD F δ (.list ds)) :=
  wkE (pe_lst h) fun σ H Q h => by
    obtain ⟨O, st, w⟩ := h
    refine ⟨O, st, fun xs H1 e1 t1 g1 => ⟨by rw [g1.len]; exact Nat.le_trans hz (by decide), fun p hp => ?_⟩⟩
    exact w _ _ (e1.trans (ext_new hp)) (tabs_new t1 hp) ⟨p, xs, rfl, fresh_ok (st.grow e1 t1).dom hp, upd_same, g1.grow (ext_new hp)⟩
theorem x_lstN (h : PA X es (aD F δ ds)) (hz : ds.length ≤ 1000 := by first | decide | (simp; done) | omega) : PE X (.List es pos) (tDL F δ ds) :=
  wkE (pe_lst h) fun σ H Q h => by
    obtain ⟨O, st, w⟩ := h
    refine ⟨O, st, fun xs H1 e1 t1 g1 => ⟨by rw [g1.len]; exact Nat.le_trans hz (by decide), fun p hp => ?_⟩⟩
    exact w p xs _ (e1.trans (ext_new hp)) (tabs_new t1 hp) (fun a l => (l.grow e1).ne hp) upd_same ((g1.shut hp).grow (ext_new hp))
theorem x_tup {m : Nat} (h : PA X es (aD F δ ds)) (hz : ds.length ≤ 1000 := by first | decide | (simp; done) | omega) : PE X (.Tuple es m pos) (tD F δ (.tuple ds)) :=
  wkE (pe_tup h) fun σ H Q h => by
    obtain ⟨O, st, w⟩ := h
    refine ⟨O, st, fun xs H1 e1 t1 g1 => ⟨by rw [g1.len]; exact Nat.le_trans hz (by decide), fun p hp => ?_⟩⟩
    exact w _ _ (e1.trans (ext_new hp)) (tabs_new t1 hp) ⟨p, xs, rfl, fresh_ok (st.grow e1 t1).dom hp, upd_same, g1.grow (ext_new hp)⟩
/-- parts of a slice -/
theorem o_none : PO X none (oD F δ none) := wkO po_none fun σ H Q h => let ⟨O, st, k⟩ := h; k H (ExtN.refl H) st.tabs
theorem o_some {i : Int} (h : PE X e (tD F δ (.int i))) : PO X (some e) (oD F δ (some i)) := wkO (po_some h) fun σ H Q h => by
  obtain ⟨O, st, k⟩ := h
  exact ⟨O, st, fun v H' e t g => ⟨i, g, k H' e t⟩⟩
theorem x_sl {lo hi : Option Expr} {l u : Option Int} {p2 : Pos} {r : V → Option Int → Option Int → Hp → VK → Prop} (hr : SlR X r) (q : SlD F r d l u z) (he : PE X e (tD F δ d)) (hl : PO X lo (oD F δ l)) (hu : PO X hi (oD F δ u)) :
    PE X (.Subscript e (.Slice lo hi none p2) pos) (tD F δ z) :=
  wkE (pe_slice hr he hl hu) fun σ H Q h => by
    obtain ⟨O, st, k⟩ := h
    refine ⟨O, st, fun x H1 e1 t1 g1 => ⟨O, st.grow e1 t1, fun H2 e2 t2 => ⟨O, (st.grow e1 t1).grow e2 t2, fun H3 e3 t3 => ?_⟩⟩⟩
    have s3 := ((st.grow e1 t1).grow e2 t2).grow e3 t3
    exact q O H3 x Q s3.dom t3 ((g1.grow e2).grow e3) fun v H4 e4 t4 g4 => k v H4 (((e1.trans e2).trans e3).trans e4) t4 g4
/-- built-ins -/
theorem cb_run {r : List V → Hp → VK → Prop} (q : ClD F r ds z) {σ : L2.St} {H : Hp} {Q : VK} (h : tD F δ z σ H Q) : tCB r (aD F δ ds) σ H Q := by
  obtain ⟨O, st, k⟩ := h
  exact ⟨O, st, fun xs H1 e1 t1 g1 => q O H1 xs Q (st.grow e1 t1).dom t1 g1 fun v H3 e3 t3 g3 => k v H3 (e1.trans e3) t3 g3⟩
theorem x_bi {x : Str} {id : String} {p : Pos} {r : List V → Hp → VK → Prop} (cx : Ctx X N sc) (hc : CallR X (.builtin id) r) (q : ClD F r ds z) (hm : X.mg x = none) (hv : bootBuiltins x = some (.builtin id)) (ha : PA X (e :: es) (aD F δ ds)) (hg : sc.names.lookup x = some .globalImplicit := by rfl)
    (hn : x ≠ "__name__" := by decide) (hdb : (x == ("__debug__" : Str)) = false := by decide) (he : starEach (e :: es) X.env = (false, eval e X.env) :: starEach es X.env := by rfl) (hpl : (backTo pos (starEach es X.env)).any (·.1) = false := by rfl) :
    PE X (.Call (.Name x p) (e :: es) [] pos) (tD F δ z) := wkE (pe_callB hc (cx.gl hg) hm hv ha hn hdb he hpl) fun σ H Q h => cb_run q h
theorem x_ty {x : Str} {id : String} {p : Pos} {r : List V → Hp → VK → Prop} (cx : Ctx X N sc) (hc : CallR X (.type id) r) (q : ClD F r ds z) (hm : X.mg x = none) (hv : bootBuiltins x = some (.type id)) (ha : PA X (e :: es) (aD F δ ds)) (hg : sc.names.lookup x = some .globalImplicit := by rfl)
    (hn : x ≠ "__name__" := by decide) (hdb : (x == ("__debug__" : Str)) = false := by decide) (he : starEach (e :: es) X.env = (false, eval e X.env) :: starEach es X.env := by rfl) (hpl : (backTo pos (starEach es X.env)).any (·.1) = false := by rfl) :
    PE X (.Call (.Name x p) (e :: es) [] pos) (tD F δ z) := wkE (pe_callTy hc (cx.gl hg) hm hv ha hn hdb he hpl) fun σ H Q h => cb_run q h
end
end Lf
set_option Elab.async false
set_option linter.all false
set_option maxRecDepth 100000
set_option maxHeartbeats 4000000
namespace Lf
open PySem PySem.Spec PyProof.Rows L2 LamX
/-! ### what operators make of data -/
section
variable {Kf : PySem.W.Frag} {Tf : List (Addr × Str)} {F : Fx Kf Tf} {K : PySem.W.Frag} {i j : Int} {s t : Str} {d e : PyData} {ds es : List PyData}
theorem od_i0 {g : Int → Int → Int} : OpD F (rI0 fun i j => .int (g i j)) (.int i) (.int j) (.int (g i j)) := fun O H x y Q _ t hx hy k => ⟨i, j, hx, hy, k _ H (ExtN.refl H) t rfl⟩
theorem od_b0 {g : Int → Int → Bool} : OpD F (rI0 fun i j => .bl (g i j)) (.int i) (.int j) (.bool (g i j)) := fun O H x y Q _ t hx hy k => ⟨i, j, hx, hy, k _ H (ExtN.refl H) t rfl⟩
theorem od_iC {C : Int → Int → Prop} {g : Int → Int → Int} (hc : C i j) : OpD F (rI C fun i j => .int (g i j)) (.int i) (.int j) (.int (g i j)) := fun O H x y Q _ t hx hy k => ⟨i, j, hx, hy, hc, k _ H (ExtN.refl H) t rfl⟩
/-- a text by its codes -/
def tx (l : List Nat) : PyData := .str ⟨l.toArray⟩
theorem tx_len (l : List Nat) : (⟨l.toArray⟩ : Str).length = l.length := by simp [Str.length]
theorem tx_app (l m : List Nat) : (⟨l.toArray⟩ : Str) ++ ⟨m.toArray⟩ = ⟨(l ++ m).toArray⟩ := by
  refine Str.ext' ?_
  show l.toArray ++ m.toArray = (l ++ m).toArray
  simp
theorem od_catS {l m : List Nat} (hz : l.length + m.length ≤ sizeLine) : OpD F (fun x y H Q => ∃ i j, x = .str i ∧ y = .str j ∧ i.length + j.length ≤ sizeLine ∧ Q (.str (i ++ j)) H) (tx l) (tx m) (tx (l ++ m)) :=
  fun O H x y Q _ w hx hy k => ⟨_, _, hx, hy, by rw [tx_len, tx_len]; exact hz, k _ H (ExtN.refl H) w (by rw [tx_app]; rfl)⟩
theorem od_catL (hz : ds.length + es.length ≤ sizeLine) : OpD F rCat (.list ds) (.list es) (.list (ds ++ es)) := fun O H x y Q dom w hx hy k => by
  obtain ⟨a, xs, ex, na, ga, ra⟩ := hx
  obtain ⟨b, ys, ey, nb, gb, rb⟩ := hy
  refine ⟨a, b, xs, ys, ex, ey, ga, gb, by rw [ra.len, rb.len]; exact hz, fun p hp => ?_⟩
  exact k _ _ (ext_new hp) (tabs_new w hp) ⟨p, _, rfl, fresh_ok dom hp, upd_same, (ra.app rb).grow (ext_new hp)⟩
theorem od_repL (h1 : -(2 ^ 63) ≤ i) (h2 : i < 2 ^ 63) (hz : ds.length * i.toNat ≤ sizeLine) : OpD F rRep (.list ds) (.int i) (.list (List.replicate i.toNat ds).flatten) := fun O H x y Q dom w hx hy k => by
  obtain ⟨a, xs, ex, na, ga, ra⟩ := hx
  refine ⟨a, i, xs, ex, hy, ga, h1, h2, by rw [ra.len]; exact hz, fun p hp => ?_⟩
  exact k _ _ (ext_new hp) (tabs_new w hp) ⟨p, _, rfl, fresh_ok dom hp, upd_same, (ra.rep _).grow (ext_new hp)⟩
theorem od_catT (hz : ds.length + es.length ≤ sizeLine) : OpD F (rCatA K) (.tuple ds) (.tuple es) (.tuple (ds ++ es)) := fun O H x y Q dom w hx hy k => by
  obtain ⟨a, xs, ex, na, ga, ra⟩ := hx
  obtain ⟨b, ys, ey, nb, gb, rb⟩ := hy
  refine ⟨a, b, xs, ys, ex, ey, SqT.of ga, SqT.of gb, by rw [ra.len, rb.len]; exact hz, fun e => ?_, fun e1 e2 => ?_, fun e1 e2 p hp => ?_⟩
  · subst e
    have : ds = [] := List.length_eq_zero_iff.mp ra.len.symm
    subst this
    exact k _ H (ExtN.refl H) w ⟨b, ys, rfl, nb, gb, rb⟩
  · subst e2
    have : es = [] := List.length_eq_zero_iff.mp rb.len.symm
    subst this
    rw [List.append_nil] at k
    exact k _ H (ExtN.refl H) w ⟨a, xs, rfl, na, ga, ra⟩
  · exact k _ _ (ext_new hp) (tabs_new w hp) ⟨p, _, rfl, fresh_ok dom hp, upd_same, (ra.app rb).grow (ext_new hp)⟩
/-! ### == of data -/
def Lay (n : Nat) (d : PyData) : Prop := d.canLay0 = true ∧ d.depth ≤ n
theorem Lay.ok {n : Nat} (h : Lay n d) (hn : n ≤ 64 := by decide) : SeqAt.shaped d = true := by
  unfold SeqAt.shaped
  rw [h.1, decide_eq_true (Nat.le_trans h.2 hn)]
  rfl
theorem lay_none {n : Nat} : Lay n .none := ⟨rfl, Nat.zero_le _⟩
theorem lay_bool {n : Nat} {b : Bool} : Lay n (.bool b) := ⟨rfl, Nat.zero_le _⟩
theorem lay_int {n : Nat} {b : Int} : Lay n (.int b) := ⟨rfl, Nat.zero_le _⟩
theorem lay_tx {n : Nat} {l : List Nat} (h : ∀ c ∈ l, c < 1114112) : Lay n (tx l) := by
  refine ⟨?_, Nat.zero_le _⟩
  show PyData.strOk ⟨l.toArray⟩ = true
  unfold PyData.strOk
  simp only [List.all_toArray, List.all_eq_true, decide_eq_true_eq]
  exact h
theorem lay_all {n : Nat} : ∀ {ds : List PyData}, (∀ d ∈ ds, Lay n d) → PyData.canLayAll0 ds = true ∧ PyData.depthAll ds ≤ n
  | [], _ => ⟨rfl, Nat.zero_le _⟩
  | d :: ds, h => by
    obtain ⟨h1, h2⟩ := h d List.mem_cons_self
    obtain ⟨g1, g2⟩ := lay_all (ds := ds) fun e he => h e (List.mem_cons_of_mem _ he)
    refine ⟨?_, Nat.max_le.mpr ⟨h2, g2⟩⟩
    show (d.canLay0 && PyData.canLayAll0 ds) = true
    rw [h1, g1]
    rfl
theorem lay_list {n : Nat} (h : ∀ d ∈ ds, Lay n d) : Lay (n + 1) (.list ds) := ⟨(lay_all h).1, Nat.succ_le_succ (lay_all h).2⟩
theorem lay_tuple {n : Nat} (h : ∀ d ∈ ds, Lay n d) : Lay (n + 1) (.tuple ds) := ⟨(lay_all h).1, Nat.succ_le_succ (lay_all h).2⟩
theorem Lay.mono {n m : Nat} (h : Lay n d) (q : n ≤ m) : Lay m d := ⟨h.1, Nat.le_trans h.2 q⟩
theorem od_eqD {n m : Nat} (h : Lay n d) (g : Lay m e) (hn : n ≤ 64 := by decide) (hm : m ≤ 64 := by decide) : OpD F (rEqD K) d e (.bool (PyData.eqv d e)) := fun O H x y Q _ w hx hy k => ⟨d, e, Dt.dp d x hx, Dt.dp e y hy, h.ok hn, g.ok hm, k _ H (ExtN.refl H) w rfl⟩
theorem od_neD {n m : Nat} (h : Lay n d) (g : Lay m e) (hn : n ≤ 64 := by decide) (hm : m ≤ 64 := by decide) : OpD F (rNeD K) d e (.bool (!PyData.eqv d e)) := fun O H x y Q _ w hx hy k => ⟨d, e, Dt.dp d x hx, Dt.dp e y hy, h.ok hn, g.ok hm, k _ H (ExtN.refl H) w rfl⟩
/-- == of ints, of texts, of bools -/
theorem od_eqI : OpD F rEq (.int i) (.int j) (.bool (decide (i = j))) := fun O H x y Q _ w hx hy k => by
  rw [show x = V.int i from hx, show y = V.int j from hy]
  exact ⟨rfl, by rw [show decide (V.int i = V.int j) = decide (i = j) by simp]; exact k _ H (ExtN.refl H) w rfl⟩
theorem od_neI : OpD F rNe (.int i) (.int j) (.bool (!decide (i = j))) := fun O H x y Q _ w hx hy k => by
  rw [show x = V.int i from hx, show y = V.int j from hy]
  exact ⟨rfl, by rw [show decide (V.int i = V.int j) = decide (i = j) by simp]; exact k _ H (ExtN.refl H) w rfl⟩
theorem od_eqB {i j : Bool} : OpD F rEq (.bool i) (.bool j) (.bool (decide (i = j))) := fun O H x y Q _ w hx hy k => by
  rw [show x = V.bl i from hx, show y = V.bl j from hy]
  exact ⟨rfl, by rw [show decide (V.bl i = V.bl j) = decide (i = j) by simp]; exact k _ H (ExtN.refl H) w rfl⟩
theorem od_neB {i j : Bool} : OpD F rNe (.bool i) (.bool j) (.bool (!decide (i = j))) := fun O H x y Q _ w hx hy k => by
  rw [show x = V.bl i from hx, show y = V.bl j from hy]
  exact ⟨rfl, by rw [show decide (V.bl i = V.bl j) = decide (i = j) by simp]; exact k _ H (ExtN.refl H) w rfl⟩
theorem tx_inj {l m : List Nat} : (⟨l.toArray⟩ : Str) = ⟨m.toArray⟩ ↔ l = m := ⟨fun h => by
  have := congrArg (fun s : Str => s.cps.toList) h
  simpa using this, fun h => by rw [h]⟩
theorem od_eqS {l m : List Nat} : OpD F rEq (tx l) (tx m) (.bool (decide (l = m))) := fun O H x y Q _ w hx hy k => by
  rw [show x = V.str ⟨l.toArray⟩ from hx, show y = V.str ⟨m.toArray⟩ from hy]
  exact ⟨rfl, by rw [show decide (V.str ⟨l.toArray⟩ = V.str ⟨m.toArray⟩) = decide (l = m) by simp [tx_inj]]; exact k _ H (ExtN.refl H) w rfl⟩
theorem od_neS {l m : List Nat} : OpD F rNe (tx l) (tx m) (.bool (!decide (l = m))) := fun O H x y Q _ w hx hy k => by
  rw [show x = V.str ⟨l.toArray⟩ from hx, show y = V.str ⟨m.toArray⟩ from hy]
  exact ⟨rfl, by rw [show decide (V.str ⟨l.toArray⟩ = V.str ⟨m.toArray⟩) = decide (l = m) by simp [tx_inj]]; exact k _ H (ExtN.refl H) w rfl⟩
/-- is None -/
def isN : PyData → Bool
  | .none => true
  | _ => false
theorem isN_of {O : Addr → Prop} {H : Hp} {x : V} (h : Dt O H d x) : decide (x = V.non) = isN d := by
  cases d with
  | none => rw [show x = V.non from h]; rfl
  | bool b => rw [show x = V.bl b from h]; rfl
  | int b => rw [show x = V.int b from h]; rfl
  | str b => rw [show x = V.str b from h]; rfl
  | list b => obtain ⟨a, _, e, _⟩ := h; rw [e]; rfl
  | tuple b => obtain ⟨a, _, e, _⟩ := h; rw [e]; rfl
  | dict b => exact h.elim
theorem od_isN : OpD F (fun x y H Q => y = .non ∧ Q (.bl (decide (x = .non))) H) d .none (.bool (isN d)) := fun O H x y Q _ w hx hy k => ⟨hy, k _ H (ExtN.refl H) w (by rw [isN_of hx]; rfl)⟩
theorem od_notN : OpD F (fun x y H Q => y = .non ∧ Q (.bl (!decide (x = .non))) H) d .none (.bool (!isN d)) := fun O H x y Q _ w hx hy k => ⟨hy, k _ H (ExtN.refl H) w (by rw [isN_of hx]; rfl)⟩
/-- one sign in a text -/
theorem od_inS {c : Nat} {m : List Nat} : OpD F rInS (tx [c]) (tx m) (.bool (decide (c ∈ m))) := fun O H x y Q _ w hx hy k => ⟨c, _, hx, hy, k _ H (ExtN.refl H) w (by simp [Dt])⟩
theorem od_ninS {c : Nat} {m : List Nat} : OpD F rNotInS (tx [c]) (tx m) (.bool (!decide (c ∈ m))) := fun O H x y Q _ w hx hy k => ⟨c, _, hx, hy, k _ H (ExtN.refl H) w (by simp [Dt])⟩
/-- data in a list -/
theorem od_inD {n m : Nat} (h : Lay n d) (g : Lay m (.list ds)) (hn : n ≤ 64 := by decide) (hm : m ≤ 64 := by decide) : OpD F (rInD K) d (.list ds) (.bool (ds.any fun z => PyData.eqv z d)) := fun O H x y Q _ w hx hy k => ⟨d, ds, Dt.dp d x hx, Dt.dp _ y hy, h.ok hn, g.ok hm, k _ H (ExtN.refl H) w rfl⟩
theorem od_ninD {n m : Nat} (h : Lay n d) (g : Lay m (.list ds)) (hn : n ≤ 64 := by decide) (hm : m ≤ 64 := by decide) : OpD F (rNotInD K) d (.list ds) (.bool (!ds.any fun z => PyData.eqv z d)) := fun O H x y Q _ w hx hy k => ⟨d, ds, Dt.dp d x hx, Dt.dp _ y hy, h.ok hn, g.ok hm, k _ H (ExtN.refl H) w rfl⟩
/-- items -/
theorem at_data {O : Addr → Prop} {H : Hp} {vs : List V} (h : DtAll O H ds vs) (e : atI ds i = some d) : ∃ v, atI vs i = some v ∧ Dt O H d v := by
  unfold atI at e ⊢
  rw [h.len]
  cases q : ixN ds.length i with
  | none => rw [q] at e; cases e
  | some j =>
    rw [q] at e
    exact h.get e
theorem od_ixL (h : atI ds i = some d) : OpD F (rIxL K) (.list ds) (.int i) d := fun O H x y Q _ w hx hy k => by
  obtain ⟨a, xs, ex, _, ga, ra⟩ := hx
  obtain ⟨v, e, g⟩ := at_data ra h
  exact ⟨a, xs, i, v, ex, hy, SqL.of ga, e, k v H (ExtN.refl H) w g⟩
theorem od_ixT (h : atI ds i = some d) : OpD F (rIxT K) (.tuple ds) (.int i) d := fun O H x y Q _ w hx hy k => by
  obtain ⟨a, xs, ex, _, ga, ra⟩ := hx
  obtain ⟨v, e, g⟩ := at_data ra h
  exact ⟨a, xs, i, v, ex, hy, SqT.of ga, e, k v H (ExtN.refl H) w g⟩
theorem od_ixS {l : List Nat} {c : Nat} (hz : l.length ≤ sizeLine) (h : atI l i = some c) : OpD F rIxS (tx l) (.int i) (tx [c]) := fun O H x y Q _ w hx hy k =>
  ⟨_, i, c, hx, hy, by rw [tx_len]; exact hz, by simpa using h, k _ H (ExtN.refl H) w rfl⟩
/-- slices -/
def cutL {α : Type} (xs : List α) (lo hi : Option Int) : List α := (xs.drop (HT.sIx xs.length 0 lo)).take (HT.sIx xs.length xs.length hi - HT.sIx xs.length 0 lo)
theorem sd_list {lo hi : Option Int} : SlD F (rSlL K) (.list ds) lo hi (.list (cutL ds lo hi)) := fun O H x Q dom w hx k => by
  obtain ⟨a, xs, ex, _, ga, ra⟩ := hx
  refine ⟨a, xs, ex, SqL.of ga, fun p hp => k _ _ (ext_new hp) (tabs_new w hp) ⟨p, _, rfl, fresh_ok dom hp, upd_same, ?_⟩⟩
  unfold cutV cutL
  rw [ra.len]
  exact ((ra.drop _).take _).grow (ext_new hp)
theorem sd_tup {lo hi : Option Int} (hne : ¬(HT.sIx ds.length 0 lo = 0 ∧ HT.sIx ds.length ds.length hi = ds.length)) : SlD F (rSlT K) (.tuple ds) lo hi (.tuple (cutL ds lo hi)) := fun O H x Q dom w hx k => by
  obtain ⟨a, xs, ex, _, ga, ra⟩ := hx
  refine ⟨a, xs, ex, SqT.of ga, by rw [ra.len]; exact hne, fun p hp => k _ _ (ext_new hp) (tabs_new w hp) ⟨p, _, rfl, fresh_ok dom hp, upd_same, ?_⟩⟩
  unfold cutV cutL
  rw [ra.len]
  exact ((ra.drop _).take _).grow (ext_new hp)
theorem sd_str {l : List Nat} {lo hi : Option Int} (hz : l.length ≤ sizeLine) : SlD F rSlS (tx l) lo hi (tx (cutL l lo hi)) := fun O H x Q dom w hx k => ⟨_, hx, by rw [tx_len]; exact hz, k _ H (ExtN.refl H) w (by unfold cutS cutL; simp [tx, Dt, tx_len])⟩
/-- len, max, min .. -/
theorem cd_lenL : ClD F (fun xs H Q => ∃ x n, xs = [x] ∧ LenV K x H n ∧ Q (.int n) H) [.list ds] (.int ds.length) := fun O H xs Q _ w h k => by
  obtain ⟨x, r, e, ⟨a, ys, ex, _, ga, ra⟩, rfl⟩ := h
  subst ex
  exact ⟨_, ds.length, e, .inl ⟨ys, SqL.of ga, ra.len.symm⟩, k _ H (ExtN.refl H) w rfl⟩
theorem cd_lenT : ClD F (fun xs H Q => ∃ x n, xs = [x] ∧ LenV K x H n ∧ Q (.int n) H) [.tuple ds] (.int ds.length) := fun O H xs Q _ w h k => by
  obtain ⟨x, r, e, ⟨a, ys, ex, _, ga, ra⟩, rfl⟩ := h
  subst ex
  exact ⟨_, ds.length, e, .inr ⟨ys, SqT.of ga, ra.len.symm⟩, k _ H (ExtN.refl H) w rfl⟩
theorem cd_lenS {l : List Nat} (hz : l.length ≤ sizeLine) : ClD F (fun xs H Q => ∃ x n, xs = [x] ∧ LenV K x H n ∧ Q (.int n) H) [tx l] (.int l.length) := fun O H xs Q _ w h k => by
  obtain ⟨x, r, e, ex, rfl⟩ := h
  rw [show x = V.str ⟨l.toArray⟩ from ex] at e
  exact ⟨_, l.length, e, ⟨by rw [tx_len]; exact hz, by rw [tx_len]⟩, k _ H (ExtN.refl H) w rfl⟩
theorem cd_max2 : ClD F (fun xs H Q => ∃ i j, xs = [.int i, .int j] ∧ Q (.int (if j > i then j else i)) H) [.int i, .int j] (.int (if j > i then j else i)) := fun O H xs Q _ w h k => by
  obtain ⟨x, r, rfl, ex, y, r', rfl, ey, rfl⟩ := h
  rw [show x = V.int i from ex, show y = V.int j from ey]
  exact ⟨i, j, rfl, k _ H (ExtN.refl H) w rfl⟩
theorem cd_min2 : ClD F (fun xs H Q => ∃ i j, xs = [.int i, .int j] ∧ Q (.int (if j < i then j else i)) H) [.int i, .int j] (.int (if j < i then j else i)) := fun O H xs Q _ w h k => by
  obtain ⟨x, r, rfl, ex, y, r', rfl, ey, rfl⟩ := h
  rw [show x = V.int i from ex, show y = V.int j from ey]
  exact ⟨i, j, rfl, k _ H (ExtN.refl H) w rfl⟩
theorem cd_all {bs : List Bool} : ClD F (rAll K) [.list (bs.map PyData.bool)] (.bool (bs.all id)) := fun O H xs Q _ w h k => by
  obtain ⟨x, r, rfl, ⟨a, ys, ex, _, ga, ra⟩, rfl⟩ := h
  subst ex
  exact ⟨a, bs, rfl, SqL.of (by rw [ga, ra.bls]), k _ H (ExtN.refl H) w rfl⟩
theorem cd_sum {ns : List Int} : ClD F (rSum K) [.list (ns.map PyData.int)] (.int ns.sum) := fun O H xs Q _ w h k => by
  obtain ⟨x, r, rfl, ⟨a, ys, ex, _, ga, ra⟩, rfl⟩ := h
  subst ex
  exact ⟨a, ns, rfl, SqL.of (by rw [ga, ra.ints]), k _ H (ExtN.refl H) w rfl⟩
/-- isinstance -/
def tyN : PyData → String
  | .none => "NoneType"
  | .bool _ => "bool"
  | .int _ => "int"
  | .str _ => "str"
  | .list _ => "list"
  | .tuple _ => "tuple"
  | .dict _ => "dict"
theorem ty_of {O : Addr → Prop} {H : Hp} {x : V} (h : Dt O H d x) : TyX K H x (.type (tyN d)) := by
  cases d with
  | none => rw [show x = V.non from h]; exact .base .non
  | bool b => rw [show x = V.bl b from h]; exact .base (.bl b)
  | int b => rw [show x = V.int b from h]; exact .base (.int b)
  | str b => rw [show x = V.str b from h]; exact .base (.str b)
  | list b => obtain ⟨a, _, e, _, g, _⟩ := h; rw [e]; exact .base (.lst g)
  | tuple b => obtain ⟨a, _, e, _, g, _⟩ := h; rw [e]; exact .base (.tup g)
  | dict b => exact h.elim
def isiB (d : PyData) (T : String) : Bool := (kitB (tyN d) T).getD false
theorem cd_join {ls : List (List Nat)} {m : List Nat} (hz : (ls.map (·.length)).sum + ls.length * m.length ≤ 16777216) : MtD F (fun x xs H Q => ∃ a p, ∃ ys : List Str, x = .str a ∧ xs = [.ref p] ∧ (SqL K H p (ys.map V.str) ∨ SqT K H p (ys.map V.str)) ∧ (ys.map (·.length)).sum + ys.length * a.length ≤ 16777216 ∧ Q (.str (Txt.join a ys)) H)
    (tx m) [.list (ls.map tx)] (tx (TL.joinL m ls)) := fun O H x xs Q _ w hx h k => by
  obtain ⟨y, r, rfl, ⟨a, ys, ey, _, ga, ra⟩, rfl⟩ := h
  subst ey
  have e1 : ls.map tx = (ls.map fun l => (⟨l.toArray⟩ : Str)).map PyData.str := by rw [List.map_map]; rfl
  rw [e1] at ra
  have e2 := ra.txts
  refine ⟨⟨m.toArray⟩, a, ls.map fun l => ⟨l.toArray⟩, hx, rfl, .inl (SqL.of (by rw [ga, e2])), ?_, k _ H (ExtN.refl H) w ?_⟩
  · rw [List.map_map, List.length_map, tx_len]
    have e3 : (ls.map ((fun s : Str => s.length) ∘ fun l => (⟨l.toArray⟩ : Str))) = ls.map (·.length) := List.map_congr_left fun l _ => tx_len l
    rw [e3]
    exact hz
  · show V.str (Txt.join ⟨m.toArray⟩ _) = V.str ⟨(TL.joinL m ls).toArray⟩
    rw [TL.join_eq]
    refine congrArg V.str (TL.ext_tl ?_)
    rw [TL.tl_join, List.map_map]
    have e4 : (ls.map (TL.tl ∘ fun l => (⟨l.toArray⟩ : Str))) = ls := by
      rw [show (TL.tl ∘ fun l => (⟨l.toArray⟩ : Str)) = id from funext fun l => by simp [TL.tl]]
      exact List.map_id ls
    rw [e4]
end
/-- the last law's end: isinstance(e, T), T a built-in class -/
theorem x_isi {Kf : PySem.W.Frag} {Tf : List (Addr × Str)} {F : Fx Kf Tf} {δ : List Slot} {X : Cx} {N : List Str} {sc : Scope} {pos p p2 : Pos} {e : Expr} {d : PyData} {T : String} {x : Str} {b : Bool} (cx : Ctx X N sc) (he : PE X e (tD F δ d)) (hm : X.mg "isinstance" = none) (hm2 : X.mg x = none) (hv : bootBuiltins x = some (.type T)) (hb : kitB (tyN d) T = some b)
    (hg : sc.names.lookup ("isinstance" : Str) = some .globalImplicit := by rfl) (hg2 : sc.names.lookup x = some .globalImplicit := by rfl) (hn : x ≠ "__name__" := by decide) (hd : (x == ("__debug__" : Str)) = false := by decide)
    (hs : starEach (e :: [.Name x p2]) X.env = (false, eval e X.env) :: starEach [.Name x p2] X.env := by rfl) : PE X (.Call (.Name "isinstance" p) [e, .Name x p2] [] pos) (tD F δ (.bool b)) :=
  wkE (pe_callB call_isi (cx.gl hg) hm (by decide +kernel) (pa_cons he (pa_cons (pe_bltn (v := .ty T) (cx.gl hg2) hm2 hv rfl hn hd) pa_nil) hs) (by decide) (by decide) hs) fun σ H Q h => by
    obtain ⟨O, st, k⟩ := h
    exact ⟨O, st, fun v H1 e1 t1 g1 => ⟨v, .ty T, _, _, b, rfl, .ty T, ty_of g1, kit_ty hb, k _ H1 e1 t1 rfl⟩⟩
end Lf
set_option Elab.async false
set_option linter.all false
set_option maxRecDepth 100000
set_option maxHeartbeats 4000000
namespace Lf
open PySem PySem.Spec PyProof.Rows L2 LamX
/-! ### the program around, the rest of a place -/
structure Pg where
  prog : Program
  w : World
  K : PySem.W.Frag
  mg : Str → Option Value
  base : Heap
structure Rest where
  A : Around
  s0 : Shared
  H0 : Hp
  env : Env
  outer : List Env
  stack : List Env
  ex : List Addr
  fn : Str → Bool
  calm : Bool
  pn : List (Addr × Obj)
  xe : Value → Shared → Prop
abbrev Pg.cx (G : Pg) (N : List Str) (r : Rest) : Cx := ⟨G.prog, G.w, G.K, G.mg, G.base, r.A, N, r.s0, r.H0, r.env, r.outer, r.stack, r.ex, r.fn, r.calm, r.pn, r.xe⟩
/-! ### promises by data -/
abbrev Res := Except Addr PyData
def spD (T : List (Addr × Str)) (R : List PyData → Res → Prop) : Sp := fun vs H Q E => ∃ O ds r, (∀ a, O a → Lives H a) ∧ Tabs T H ∧ DtAll O H ds vs ∧ R ds r ∧
  (∀ d, r = .ok d → ∀ v H', ExtN H H' → Tabs T H' → Dt O H' d v → Q v H') ∧ (∀ c, r = .error c → ∀ H', ExtN H H' → Tabs T H' → E (.ref c) none H')
/-- a def by its name -/
structure Fd (P : Program) (w : World) (K : PySem.W.Frag) (mg : Str → Option Value) (base : Heap) (x : Str) (k : Nat) (ps : List Str) (sp : Sp) : Prop where
  ex : ∃ f fd, FnOk P w K mg base (L2N.CX P w) k f fd ps sp ∧ mg x = some (.ref f) ∧ PySem.W.keepIn K (.ref f) = true ∧ Binds K fd ps []
theorem passN {X : Cx} : Passes (L2N.CX X.prog X.w) X E0 := fun _ _ _ _ _ _ _ h => by
  obtain ⟨_, _, _, _, _, _, _, _, _, _, _, _, z⟩ := h
  exact z.elim
def start0 (N : List Str) (ds : List PyData) : List Slot := ds.map .dat ++ List.replicate (N.length - ds.length) .non
def postOf (r : Res) : Post := { nx := fun _ => r = .ok .none, rt := fun d => r = .ok d, ex := fun c => r = .error c }
section
variable {Kf : PySem.W.Frag} {Tf : List (Addr × Str)} {F : Fx Kf Tf} {δ : List Slot} {X : Cx} {N : List Str} {sc : Scope} {pos p : Pos} {a b c e : Expr} {es : List Expr} {d z : PyData} {ds : List PyData} {R : List PyData → Res → Prop} {x : Str} {k : Nat} {ps : List Str}
theorem x_call (cx : Ctx X N sc) (h : Fd X.prog X.w X.K X.mg X.base x k ps (spD Tf R)) (hr : Room k X.A) (ha : PA X (e :: es) (aD F δ ds)) (hR : R ds (.ok d)) (hg : sc.names.lookup x = some .globalImplicit := by rfl) (hdb : (x == ("__debug__" : Str)) = false := by decide)
    (he : starEach (e :: es) X.env = (false, eval e X.env) :: starEach es X.env := by rfl) (hpl : (backTo pos (starEach es X.env)).any (·.1) = false := by rfl) : PE X (.Call (.Name x p) (e :: es) [] pos) (tD F δ d) := by
  obtain ⟨f, fd, G, m, kp, b⟩ := h.ex
  refine wkE (pe_call G hr (cx.gl hg) m kp b .nil passN ha hdb he hpl) fun σ H Q h => ?_
  obtain ⟨O, st, w⟩ := h
  refine ⟨O, st, fun vs H1 e1 t1 g1 => ?_⟩
  show spD Tf R (vs ++ []) H1 Q _
  rw [List.append_nil]
  exact ⟨O, ds, .ok d, (st.grow e1 t1).dom, t1, g1, hR, fun d' q v H' e2 t2 g2 => by cases q; exact w v H' (e1.trans e2) t2 g2, fun c q => by cases q⟩
theorem x_callX {C : Addr} (cx : Ctx X N sc) (tk : L2N.Takes X (fun cls d _ H => F.E cls d H)) (h : Fd X.prog X.w X.K X.mg X.base x k ps (spD Tf R)) (hr : Room k X.A) (ha : PA X (e :: es) (aD F δ ds)) (hR : R ds (.error C)) (hg : sc.names.lookup x = some .globalImplicit := by rfl) (hdb : (x == ("__debug__" : Str)) = false := by decide)
    (he : starEach (e :: es) X.env = (false, eval e X.env) :: starEach es X.env := by rfl) (hpl : (backTo pos (starEach es X.env)).any (·.1) = false := by rfl) : PE X (.Call (.Name x p) (e :: es) [] pos) (tDX F δ C) := by
  obtain ⟨f, fd, G, m, kp, b⟩ := h.ex
  refine wkE (pe_call G hr (cx.gl hg) m kp b .nil (E := F.E) (L2N.passes_call tk fun _ _ _ _ z => z) ha hdb he hpl) fun σ H Q h => ?_
  obtain ⟨O, st, w⟩ := h
  refine ⟨O, st, fun vs H1 e1 t1 g1 => ?_⟩
  show spD Tf R (vs ++ []) H1 Q _
  rw [List.append_nil]
  exact ⟨O, ds, .error C, (st.grow e1 t1).dom, t1, g1, hR, fun d' q => (by cases q), fun c q H' e2 t2 => (by cases q; exact w H' (e1.trans e2) t2)⟩
/-! ### the state behind a store -/
variable {O : Addr → Prop} {H : Hp} {σ : L2.St} {v : V}
theorem get_some {i : Nat} (h : σ[i]?.getD none = some v) : σ[i]? = some (some v) := by
  cases q : σ[i]? with
  | none => rw [q] at h; cases h
  | some o => rw [q] at h; rw [show o = some v from h]
theorem StAt.set {s : Slot} (st : StAt F O H σ δ) (i : Nat) (h : SlotOk F O H (some v) s) (hs : s.mine = false) : StAt F O H (σ.set i (some v)) (δ.set i s) := by
  refine ⟨by rw [List.length_set, List.length_set, st.len], st.o0, st.dom, st.tabs, st.ext, fun j u q => ?_, fun j l s' u' q' hjl h1 h2 m1 m2 e1 e2 => ?_, ?_⟩
  · by_cases e : i = j
    · subst e
      have hi : i < δ.length := by
        have := (List.getElem?_eq_some_iff.mp q).1
        simpa using this
      rw [List.getElem?_set_self hi] at q
      cases q
      rw [List.getElem?_set_self (by rw [st.len]; exact hi)]
      exact h
    · rw [List.getElem?_set_ne e] at q ⊢
      exact st.slot j u q
  · have no : ∀ {j : Nat} {u : Slot}, (δ.set i s)[j]? = some u → u.mine = true → i ≠ j := fun {j u} q m e => by
      subst e
      have hi : i < δ.length := by
        have := (List.getElem?_eq_some_iff.mp q).1
        simpa using this
      rw [List.getElem?_set_self hi] at q
      cases q
      rw [hs] at m
      cases m
    have n1 := no h1 m1
    have n2 := no h2 m2
    rw [List.getElem?_set_ne n1] at h1 e1
    rw [List.getElem?_set_ne n2] at h2 e2
    exact st.apart j l s' u' q' hjl h1 h2 m1 m2 e1 e2
  · exact st.afar.set st.len i _ _ (fun R e => by rw [e] at hs; cases hs) fun j R _ _ p _ => no_has hs _ p
theorem StAt.setD (st : StAt F O H σ δ) (i : Nat) (h : Dt O H d v) : StAt F O H (σ.set i (some v)) (δ.set i (.dat d)) := st.set i ⟨v, rfl, h⟩ rfl
/-- a new list is put into a name -/
theorem own_out {τ : List (PyData × V)} {H' : Hp} {q : Addr} {xs : List V} (st : StAt F O H σ δ) (tm : Tm O H τ) (i : Nat) (e : ExtN H H') (t : Tabs F.T H') (hn : ∀ a, Lives H a → a ≠ q) (hq : H' q = some (.lst xs)) (hds : DtAll (Shut O q) H' ds xs) :
    StAt F (Shut O q) H' (σ.set i (some (.ref q))) (δ.set i (.own ds)) ∧ Tm (Shut O q) H' τ := by
  have kp : ∀ d v, Dt O H d v → Dt (Shut O q) H' d v := fun d v g => Dt.imp (fun a o n r w => ⟨fun z => z.elim n (fun z => hn a ⟨o, r, w⟩ z), e a o r w⟩) d v g
  have kpA : ∀ d v, DtAll O H d v → DtAll (Shut O q) H' d v := fun d v g => DtAll.imp (fun a o n r w => ⟨fun z => z.elim n (fun z => hn a ⟨o, r, w⟩ z), e a o r w⟩) d v g
  have sl : ∀ o s, SlotOk F O H o s → SlotOk F (Shut O q) H' o s := fun o s g => by
    cases s with
    | non => trivial
    | dat d => obtain ⟨v, a, b⟩ := g; exact ⟨v, a, kp _ _ b⟩
    | own ds => obtain ⟨p, vs, a, b, c, g, r⟩ := g; exact ⟨p, vs, a, .inl b, c, e _ _ g (fun _ z => by cases z), kpA _ _ r⟩
    | odk kvs => obtain ⟨p, vs, a, b, c, g, r⟩ := g; exact ⟨p, vs, a, .inl b, c, e _ _ g (fun _ z => by cases z), r.imp kpA⟩
    | res R => exact res_keep g (fun a ha => (g.2.2 a ha).2.2.same e) (fun a ha => .inl (g.2.2 a ha).1) kp
    | scr ns => exact g
    | any φ => exact g
  have nq : ∀ (j : Nat) (s : Slot), δ[j]? = some s → s.mine = true → σ[j]? ≠ some (some (V.ref q)) := fun j s a m z => by
    have g := st.slot j s a
    rw [z] at g
    cases s with
    | own ds =>
      obtain ⟨p, vs, e1, o1, _⟩ := g
      cases e1
      exact hn q (st.dom q o1) rfl
    | odk ds =>
      obtain ⟨p, vs, e1, o1, _⟩ := g
      cases e1
      exact hn q (st.dom q o1) rfl
    | res R =>
      obtain ⟨⟨p, e1, hp⟩, _, h3⟩ := g
      cases e1
      exact hn q (h3 q hp).2.2 rfl
    | non => cases m
    | dat _ => cases m
    | scr _ => cases m
    | any _ => cases m
  refine ⟨⟨by rw [List.length_set, List.length_set, st.len], fun a z => .inl (st.o0 a z), fun a z => ?_, t, st.ext.trans e, fun j s r => ?_, fun j l s' u' q' hjl h1 h2 m1 m2 e1 e2 => ?_, st.afar.set st.len i _ _ (fun R z => by cases z) fun j R _ hj p hp z => ?_⟩, fun w hw => kp _ _ (tm w hw)⟩
  rotate_right
  · cases (show some (V.ref q) = some (V.ref p) from z)
    exact hn q ((st.slot j _ hj).2.2 q hp).2.2 rfl
  · rcases z with z | z
    · exact (st.dom a z).grow e
    · rw [z]; exact ⟨_, hq, fun _ z => by cases z⟩
  · by_cases ej : i = j
    · subst ej
      have hi : i < δ.length := by
        have := (List.getElem?_eq_some_iff.mp r).1
        simpa using this
      rw [List.getElem?_set_self hi] at r
      cases r
      rw [List.getElem?_set_self (by rw [st.len]; exact hi)]
      exact ⟨q, xs, rfl, .inr rfl, fun z => hn q (z.grow st.ext) rfl, hq, hds⟩
    · rw [List.getElem?_set_ne ej] at r ⊢
      exact sl _ _ (st.slot j s r)
  · by_cases ej : i = j
    · by_cases el : i = l
      · exact hjl (ej.symm.trans el)
      · rw [List.getElem?_set_ne el] at h2 e2
        subst ej
        have hi : i < σ.length := by
          have := (List.getElem?_eq_some_iff.mp e1).1
          simpa using this
        rw [List.getElem?_set_self hi] at e1
        cases e1
        exact nq l u' h2 m2 e2
    · rw [List.getElem?_set_ne ej] at h1 e1
      by_cases el : i = l
      · subst el
        have hi : i < σ.length := by
          have := (List.getElem?_eq_some_iff.mp e2).1
          simpa using this
        rw [List.getElem?_set_self hi] at e2
        cases e2
        exact nq j s' h1 m1 e1
      · rw [List.getElem?_set_ne el] at h2 e2
        exact st.apart j l s' u' q' hjl h1 h2 m1 m2 e1 e2
/-- a list of one's own is changed -/
theorem own_turn {τ : List (PyData × V)} {q : Addr} {xs ys : List V} {es : List PyData} {i : Nat} (st : StAt F O H σ δ) (tm : Tm O H τ) (hi : δ[i]? = some (.own ds)) (hv : σ[i]? = some (some (.ref q))) (hq : H q = some (.lst xs)) (h : DtAll O H es ys) :
    StAt F O (upd H q (.lst ys)) σ (δ.set i (.own es)) ∧ Tm O (upd H q (.lst ys)) τ := by
  have g := st.slot i _ hi
  rw [hv] at g
  obtain ⟨p, vs, e1, o1, nl, gp, _⟩ := g
  cases e1
  have kp : ∀ d v, Dt O H d v → Dt O (upd H q (.lst ys)) d v := fun d v g => g.turn o1
  have kpA : ∀ d v, DtAll O H d v → DtAll O (upd H q (.lst ys)) d v := fun d v g => g.turn o1
  have hil : i < δ.length := (List.getElem?_eq_some_iff.mp hi).1
  have mineset : ∀ {j : Nat} {s : Slot}, (δ.set i (.own es))[j]? = some s → s.mine = true → ∃ s', δ[j]? = some s' ∧ s'.mine = true := fun {j s} a m => by
    by_cases e : i = j
    · subst e
      exact ⟨_, hi, rfl⟩
    · rw [List.getElem?_set_ne e] at a
      exact ⟨s, a, m⟩
  refine ⟨⟨by rw [List.length_set, st.len], st.o0, fun a z => (st.dom a z).turn (fun _ z => by cases z), tabs_turn st.tabs hq, fun b o g t => ?_, fun j s r => ?_, fun j l s' u' q' hjl h1 h2 m1 m2 => ?_, st.afar.turn st.len i _ (fun R z => by cases z) fun j R hji hj p hp z => st.afar j i R _ hji hj hi p hp z⟩, fun w hw => kp _ _ (tm w hw)⟩
  · rw [upd_ne (fun z => nl (by rw [← z]; exact ⟨o, g, t⟩))]
    exact st.ext b o g t
  · by_cases e : i = j
    · subst e
      rw [List.getElem?_set_self hil] at r
      cases r
      rw [hv]
      exact ⟨q, ys, rfl, o1, nl, upd_same, kpA _ _ h⟩
    · rw [List.getElem?_set_ne e] at r
      have g := st.slot j s r
      cases s with
      | non => trivial
      | dat d => obtain ⟨v, a, b⟩ := g; exact ⟨v, a, kp _ _ b⟩
      | own ds' =>
        obtain ⟨p, vs', a, b, c, g, r'⟩ := g
        have ne : p ≠ q := fun z => st.apart i j _ _ q e hi r rfl rfl hv (by rw [← z]; exact get_some a)
        exact ⟨p, vs', a, b, c, by rw [upd_ne ne]; exact g, kpA _ _ r'⟩
      | odk kvs =>
        obtain ⟨p, vs', a, b, c, g, r'⟩ := g
        have ne : p ≠ q := fun z => st.apart i j _ _ q e hi r rfl rfl hv (by rw [← z]; exact get_some a)
        exact ⟨p, vs', a, b, c, by rw [upd_ne ne]; exact g, r'.imp kpA⟩
      | res R => exact res_keep g (fun a ha => upd_ne fun z => st.afar j i R _ (fun y => e y.symm) r hi a ha (by rw [hv, z]; rfl)) (fun a ha => (g.2.2 a ha).1) kp
      | scr ns => exact g
      | any φ => exact g
  · obtain ⟨s1, a1, b1⟩ := mineset h1 m1
    obtain ⟨s2, a2, b2⟩ := mineset h2 m2
    exact st.apart j l s1 s2 q' hjl a1 a2 b1 b2
/-- a list of one's own is one's own no more -/
theorem own_freeze {τ : List (PyData × V)} {i : Nat} (st : StAt F O H σ δ) (tm : Tm O H τ) (hi : δ[i]? = some (.own ds)) : ∃ O', StAt F O' H σ (δ.set i (.dat (.list ds))) ∧ Tm O' H τ := by
  obtain ⟨q, xs, e1, o1, nl, gq, r⟩ := st.slot i _ hi
  have hv := get_some e1
  have hil : i < δ.length := (List.getElem?_eq_some_iff.mp hi).1
  refine ⟨fun a => O a ∧ a ≠ q, ?_, fun w hw => (tm w hw).open_ fun a z => z.1⟩
  have kpA : ∀ d v, DtAll O H d v → DtAll (fun a => O a ∧ a ≠ q) H d v := fun d v g => g.open_ fun a z => z.1
  refine ⟨by rw [List.length_set, st.len], fun a z => ⟨st.o0 a z, fun e => nl (by rw [← e]; exact F.h0 a z)⟩, fun a z => st.dom a z.1, st.tabs, st.ext, fun j s r' => ?_, fun j l s' u' q' hjl h1 h2 m1 m2 e1 e2 => ?_, st.afar.turn st.len i _ (fun R z => by cases z) fun j R _ _ p _ z => z⟩
  · by_cases e : i = j
    · subst e
      rw [List.getElem?_set_self hil] at r'
      cases r'
      rw [hv]
      exact ⟨.ref q, rfl, q, xs, rfl, fun z => z.2 rfl, gq, kpA _ _ r⟩
    · rw [List.getElem?_set_ne e] at r'
      have g := st.slot j s r'
      cases s with
      | non => trivial
      | dat d => obtain ⟨v, a, b⟩ := g; exact ⟨v, a, b.open_ fun a z => z.1⟩
      | own ds' =>
        obtain ⟨p, vs', a, b, c, g, r2⟩ := g
        have ne : p ≠ q := fun z => st.apart i j _ _ q e hi r' rfl rfl hv (by rw [← z]; exact get_some a)
        exact ⟨p, vs', a, ⟨b, ne⟩, c, g, kpA _ _ r2⟩
      | odk kvs =>
        obtain ⟨p, vs', a, b, c, g, r2⟩ := g
        have ne : p ≠ q := fun z => st.apart i j _ _ q e hi r' rfl rfl hv (by rw [← z]; exact get_some a)
        exact ⟨p, vs', a, ⟨b, ne⟩, c, g, r2.imp kpA⟩
      | res R => exact res_keep g (fun a ha => rfl) (fun a ha => ⟨(g.2.2 a ha).1, fun z => st.afar j i R _ (fun y => e y.symm) r' hi a ha (by rw [hv, z]; rfl)⟩) fun d v q => q.open_ fun a z => z.1
      | scr ns => exact g
      | any φ => exact g
  · have no : ∀ {j : Nat} {u : Slot}, (δ.set i (.dat (.list ds)))[j]? = some u → u.mine = true → i ≠ j := fun {j u} q m e => by
      subst e
      rw [List.getElem?_set_self hil] at q
      cases q
      cases m
    have n1 := no h1 m1
    have n2 := no h2 m2
    rw [List.getElem?_set_ne n1] at h1
    rw [List.getElem?_set_ne n2] at h2
    exact st.apart j l s' u' q' hjl h1 h2 m1 m2 e1 e2
/-- read as data -/
theorem x_view {i : Nat} (hi : δ[i]? = some (.own ds)) (h : PE X e (tD F (δ.set i (.dat (.list ds))) d)) (f : flatD d = true := by rfl) : PE X e (tD F δ d) := wkE h fun σ H Q h => by
  obtain ⟨O, st, k⟩ := h
  obtain ⟨O', st', _⟩ := own_freeze (τ := []) st (fun _ z => by cases z) hi
  exact ⟨O', st', fun v H' e t g => k v H' e t (g.flat f)⟩
theorem c_view {i : Nat} {k : Bool} (hi : δ[i]? = some (.own ds)) (h : PT X e (cD F (δ.set i (.dat (.list ds))) k)) : PT X e (cD F δ k) := wkT h fun σ H Q h => by
  obtain ⟨O, st, k⟩ := h
  obtain ⟨O', st', _⟩ := own_freeze (τ := []) st (fun _ z => by cases z) hi
  exact ⟨O', st', k⟩
end
end Lf
set_option Elab.async false
set_option linter.all false
set_option maxRecDepth 100000
set_option maxHeartbeats 4000000
namespace Lf
open PySem PySem.Spec PyProof.Rows L2 LamX
section
variable {Kf : PySem.W.Frag} {Tf : List (Addr × Str)} {F : Fx Kf Tf} {δ : List Slot} {X : Cx} {N : List Str} {sc : Scope} {pos p pos' : Pos} {a b c e : Expr} {es : List Expr} {d z : PyData} {ds : List PyData} {x : Str} {st : Stmt} {rest body els : List Stmt} {P : Post}
theorem Tm.grow {O : Addr → Prop} {H H' : Hp} {τ : List (PyData × V)} (h : Tm O H τ) (e : ExtN H H') : Tm O H' τ := fun w hw => (h w hw).grow e
/-! ### statements -/
theorem s_nil (h : P.nx δ) : PSs X [] (sD F δ P) := wkSs pss_nil fun D σ H h' => by
  obtain ⟨O, τ, st, tm, w⟩ := h'
  exact w.nx δ O σ H h st tm
/-- a block in two -/
theorem s_seq {M : List Slot → Prop} (h : PS X st (sD F δ { P with nx := M })) (g : ∀ δ', M δ' → PSs X rest (sD F δ' P)) : PSs X (st :: rest) (sD F δ P) :=
  wkSs (pss_cons h (exSs fun δ' => ifSs (g δ'))) fun D σ H h' => by
    obtain ⟨O, τ, s0, tm, w⟩ := h'
    exact ⟨O, τ, s0, tm, ⟨fun δ' O' σ' H' m s1 t1 => ⟨δ', m, O', τ, s1, t1, w⟩, w.rt, w.bk, w.ct, w.ex, w.rts, w.exs⟩⟩
theorem s_imp {P' : Post} (h : PSs X rest (sD F δ P)) (n : ∀ δ, P.nx δ → P'.nx δ) (r : ∀ d, P.rt d → P'.rt d) (b : ∀ δ, P.bk δ → P'.bk δ) (c : ∀ δ, P.ct δ → P'.ct δ) (x : ∀ a, P.ex a → P'.ex a) (rs : ∀ δ d, P.rts δ d → P'.rts δ d := by intro _ _ h; exact h) (xs : ∀ δ c, P.exs δ c → P'.exs δ c := by intro _ _ h; exact h) : PSs X rest (sD F δ P') :=
  wkSs h fun D σ H h' => by
    obtain ⟨O, τ, s0, tm, w⟩ := h'
    exact ⟨O, τ, s0, tm, ⟨fun δ' O' σ' H' m => w.nx δ' O' σ' H' (n _ m), fun d v H m => w.rt d v H (r _ m), fun δ' O' σ' H' m => w.bk δ' O' σ' H' (b _ m), fun δ' O' σ' H' m => w.ct δ' O' σ' H' (c _ m), fun a H m => w.ex a H (x _ m), fun δ d v O σ H m => w.rts δ d v O σ H (rs _ _ m), fun δ c O σ H m => w.exs δ c O σ H (xs _ _ m)⟩⟩
theorem s_set (i : Nat) (cx : CtD X N sc F.E) (h : PE X e (tD F δ d)) (g : PSs X rest (sD F (δ.set i (.dat d)) P)) (hi : N[i]? = some x := by rfl) (hx : Loc sc x := by first | exact Or.inl rfl | exact Or.inr rfl)
    (hs : swapsWith e (some (.Name x pos')) pos.line X.env = pure false := by rfl) : PSs X (.Assign [.Name x pos'] e pos :: rest) (sD F δ P) :=
  wkSs (pss_cons (ps_set (cx.nd') (cx.at_ hi) (cx.loc hx) h hs (.inl (cx.fn x))) g) fun D σ H h' => by
    obtain ⟨O, τ, s0, tm, w⟩ := h'
    exact ⟨O, s0, fun v H' e' t' g' => ⟨O, τ, (s0.grow e' t').setD i g', tm.grow e', w⟩⟩
/-- a new list of one's own -/
theorem s_own (i : Nat) (cx : CtD X N sc F.E) (h : PE X e (tDL F δ ds)) (g : PSs X rest (sD F (δ.set i (.own ds)) P)) (hi : N[i]? = some x := by rfl) (hx : Loc sc x := by first | exact Or.inl rfl | exact Or.inr rfl)
    (hs : swapsWith e (some (.Name x pos')) pos.line X.env = pure false := by rfl) : PSs X (.Assign [.Name x pos'] e pos :: rest) (sD F δ P) :=
  wkSs (pss_cons (ps_set (cx.nd') (cx.at_ hi) (cx.loc hx) h hs (.inl (cx.fn x))) g) fun D σ H h' => by
    obtain ⟨O, τ, s0, tm, w⟩ := h'
    refine ⟨O, s0, fun q xs H' e' t' n' g' a' => ?_⟩
    obtain ⟨s1, t1⟩ := own_out s0 tm i e' t' n' g' a'
    exact ⟨Shut O q, τ, s1, t1, w⟩
theorem s_ret (h : PE X e (tD F δ d)) (g : P.rt d) : PSs X (.Return (some e) pos :: rest) (sD F δ P) :=
  wkSs (pss_cons (ps_ret h) (pss_never (sts := rest))) fun D σ H h' => by
    obtain ⟨O, τ, s0, tm, w⟩ := h'
    exact ⟨O, s0, fun v H' e' t' g' => w.rt d v H' g (s0.ext.trans e') t' (g'.open_ s0.o0)⟩
theorem s_retN (g : P.rt .none) : PSs X (.Return none pos :: rest) (sD F δ P) :=
  wkSs (pss_cons ps_retN (pss_never (sts := rest))) fun D σ H h' => by
    obtain ⟨O, τ, s0, tm, w⟩ := h'
    exact w.rt .none .non H g s0.ext s0.tabs rfl
theorem s_freeze (i : Nat) (hi : δ[i]? = some (.own ds)) (g : PSs X rest (sD F (δ.set i (.dat (.list ds))) P)) : PSs X rest (sD F δ P) := wkSs g fun D σ H h' => by
  obtain ⟨O, τ, s0, tm, w⟩ := h'
  obtain ⟨O', s1, t1⟩ := own_freeze s0 tm hi
  exact ⟨O', τ, s1, t1, w⟩
theorem s_if {k : Bool} (h : PT X c (cD F δ k)) (g1 : k = true → PSs X (body) (sD F δ { P with nx := fun δ' => PSs X rest (sD F δ' P) })) (g2 : k = false → PSs X els (sD F δ { P with nx := fun δ' => PSs X rest (sD F δ' P) })) : PSs X (.If c body els pos :: rest) (sD F δ P) :=
  s_seq (M := fun δ' => PSs X rest (sD F δ' P)) (wkS (ps_if h (ifSs g1) (ifSs g2)) fun D σ H h' => by
    obtain ⟨O, τ, s0, tm, w⟩ := h'
    refine ⟨O, s0, fun H' e' t' => ?_⟩
    cases k with
    | true => exact iteT ⟨rfl, O, τ, s0.grow e' t', tm.grow e', w⟩
    | false => exact iteF ⟨rfl, O, τ, s0.grow e' t', tm.grow e', w⟩) fun δ' h => h
/-- an if whose body leaves (returns, raises ..) -/
theorem s_when {k : Bool} (h : PT X c (cD F δ k)) (g1 : k = true → PSs X body (sD F δ { P with nx := fun δ' => PSs X rest (sD F δ' P) })) (g2 : k = false → PSs X rest (sD F δ P)) : PSs X (.If c body [] pos :: rest) (sD F δ P) :=
  s_if h g1 fun q => s_nil (g2 q)
theorem s_expr (h : PE X e (tD F δ d)) (g : PSs X rest (sD F δ P)) (hs : swapsWith e none pos.line X.env = pure false := by rfl) : PSs X (.Expr e pos :: rest) (sD F δ P) :=
  wkSs (pss_cons (ps_expr h hs) g) fun D σ H h' => by
    obtain ⟨O, τ, s0, tm, w⟩ := h'
    exact ⟨O, s0, fun v H' e' t' g' => ⟨O, τ, s0.grow e' t', tm.grow e', w⟩⟩
/-- something is raised -/
theorem s_exprX {C : Addr} (h : PE X e (tDX F δ C)) (g : P.ex C) (hs : swapsWith e none pos.line X.env = pure false := by rfl) : PSs X (.Expr e pos :: rest) (sD F δ P) :=
  wkSs (pss_cons (ps_expr h hs) (pss_never (sts := rest))) fun D σ H h' => by
    obtain ⟨O, τ, s0, tm, w⟩ := h'
    exact ⟨O, s0, fun H' e' t' => w.ex C H' g (s0.ext.trans e') t'⟩
/-- what is told, and how all stands then -/
theorem s_retS (h : PE X e (tD F δ d)) (g : P.rts δ d) : PSs X (.Return (some e) pos :: rest) (sD F δ P) :=
  wkSs (pss_cons (ps_ret h) (pss_never (sts := rest))) fun D σ H h' => by
    obtain ⟨O, τ, s0, tm, w⟩ := h'
    exact ⟨O, s0, fun v H' e' t' g' => w.rts δ d v O σ H' g (s0.grow e' t') g'⟩
theorem s_exprXS {C : Addr} (h : PE X e (tDX F δ C)) (g : P.exs δ C) (hs : swapsWith e none pos.line X.env = pure false := by rfl) : PSs X (.Expr e pos :: rest) (sD F δ P) :=
  wkSs (pss_cons (ps_expr h hs) (pss_never (sts := rest))) fun D σ H h' => by
    obtain ⟨O, τ, s0, tm, w⟩ := h'
    exact ⟨O, s0, fun H' e' t' => w.exs δ C O σ H' g (s0.grow e' t')⟩
theorem s_retX {C : Addr} (h : PE X e (tDX F δ C)) (g : P.ex C) : PSs X (.Return (some e) pos :: rest) (sD F δ P) :=
  wkSs (pss_cons (ps_ret h) (pss_never (sts := rest))) fun D σ H h' => by
    obtain ⟨O, τ, s0, tm, w⟩ := h'
    exact ⟨O, s0, fun H' e' t' => w.ex C H' g (s0.ext.trans e') t'⟩
theorem s_raise {C : Addr} {m : Str} {j : Nat} {p2 : Pos} (cx : CtD X N sc F.E) (q : PySem.W.excIn X.K C [.type "ValueError", .type "Exception", .type "BaseException", .type "object"] "ValueError.__new__" = true) (gC : X.mg x = some (.ref C)) (kC : PySem.W.keepIn X.K (.ref C) = true) (r : Raises X (.ref C)) (g : P.ex C) (hg : sc.names.lookup x = some .globalImplicit := by rfl)
    (hdb : (x == ("__debug__" : Str)) = false := by decide) : PSs X (.Raise (some (.Call (.Name x p) [.Constant (.str m) j p2] [] pos')) none pos :: rest) (sD F δ P) :=
  wkSs (pss_cons (L2N.ps_raise cx.calm cx.tk (L2N.pmk_own PySem.F.excBase_ValueError q gC kC r (cx.gl hg) hdb)) (pss_never (sts := rest))) fun D σ H h' => by
    obtain ⟨O, τ, s0, tm, w⟩ := h'
    exact w.ex C H g s0.ext s0.tabs
theorem s_cont (g : P.ct δ) : PSs X (.Continue pos :: rest) (sD F δ P) := wkSs (pss_cons ps_continue (pss_never (sts := rest))) fun D σ H h' => by
  obtain ⟨O, τ, s0, tm, w⟩ := h'
  exact w.ct δ O σ H g s0 tm
theorem s_app (i : Nat) (cx : Ctx X N sc) (hi : δ[i]? = some (.own ds)) (h : PE X e (tD F δ d)) (hz : ds.length < 100000) (g : PSs X rest (sD F (δ.set i (.own (ds ++ [d]))) P)) (hN : N[i]? = some x := by rfl) (hv : Vis sc x := by first | exact Or.inl rfl | exact Or.inr (Or.inl rfl) | exact Or.inr (Or.inr rfl))
    (hd : (x == ("__debug__" : Str)) = false := by decide) (hcd : (x == ("__classdict__" : Str)) = false := by decide) {px pa pc : Pos} (q : PE X (.Call (.Attribute (.Name x px) "append" pa) [e] [] pc) (tBM X.K "list" rAppend (tVar i) (tCons (tD F δ d) tNil)) := by exact pe_bm PySem.F.plainAttrs_list PySem.F.slot_list_append PySem.F.type_list_append mt_append (pe_var (by first | assumption | rfl) (by first | assumption | rfl)) (pa_cons (by assumption) pa_nil)) (hs : swapsWith (.Call (.Attribute (.Name x px) "append" pa) [e] [] pc) none pos.line X.env = pure false := by rfl) :
    PSs X (.Expr (.Call (.Attribute (.Name x px) "append" pa) [e] [] pc) pos :: rest) (sD F δ P) :=
  wkSs (pss_cons (ps_expr q hs) g) fun D σ H h' => by
    obtain ⟨O, τ, s0, tm, w⟩ := h'
    obtain ⟨q, xs, e1, o1, nl, gq, r⟩ := s0.slot i _ hi
    have hv := get_some e1
    refine ⟨.ref q, hv, .inl ⟨rfl, _, SqL.of gq⟩, O, s0, fun v H1 e' t' g' => ?_⟩
    have gq1 := e' _ _ gq (fun _ z => by cases z)
    refine ⟨q, xs, v, rfl, rfl, gq1, by rw [r.len]; exact Nat.lt_of_lt_of_le hz (by decide), ?_⟩
    obtain ⟨s1, t1⟩ := own_turn (s0.grow e' t') (tm.grow e') hi hv gq1 ((r.grow e').app (.one g'))
    exact ⟨O, τ, s1, t1, w⟩
end
end Lf
set_option Elab.async false
set_option linter.all false
set_option maxRecDepth 100000
set_option maxHeartbeats 4000000
namespace Lf
open PySem PySem.Spec PyProof.Rows L2 LamX
/-! ### what is walked -/
def iD {Kf : PySem.W.Frag} {Tf : List (Addr × Str)} (F : Fx Kf Tf) (δ : List Slot) (ds : List PyData) : TI := fun σ H R => ∃ O, StAt F O H σ δ ∧ ∀ (J : It) (ss : List (PyData × V)) (H' : Hp), ExtN H H' → Tabs F.T H' → Tm O H' ss →
  (∀ (O1 : Addr → Prop) (H1 : Hp) (i : Nat) (d : PyData), Tm O1 H1 ss → (∀ a, O1 a → Lives H1 a) → Tabs F.T H1 → ds[i]? = some d → J.go i H1 ∧ ∀ x H2, J.yld i H1 x H2 → ExtN H1 H2 ∧ Tabs F.T H2 ∧ Dt O1 H2 d x) →
  (∀ (O1 : Addr → Prop) (H1 : Hp), Tm O1 H1 ss → J.stop ds.length H1) → R J H'
/-- one thing is walked -/
theorem iD_one {Kf : PySem.W.Frag} {Tf : List (Addr × Str)} {F : Fx Kf Tf} {ds : List PyData} {O : Addr → Prop} {H : Hp} {R : It → Hp → Prop}
    (k : ∀ (J : It) (ss : List (PyData × V)) (H' : Hp), ExtN H H' → Tabs F.T H' → Tm O H' ss →
  (∀ (O1 : Addr → Prop) (H1 : Hp) (i : Nat) (d : PyData), Tm O1 H1 ss → (∀ a, O1 a → Lives H1 a) → Tabs F.T H1 → ds[i]? = some d → J.go i H1 ∧ ∀ x H2, J.yld i H1 x H2 → ExtN H1 H2 ∧ Tabs F.T H2 ∧ Dt O1 H2 d x) →
  (∀ (O1 : Addr → Prop) (H1 : Hp), Tm O1 H1 ss → J.stop ds.length H1) → R J H') :
    ∀ (J : It) (src : PyData) (v : V) (H' : Hp), ExtN H H' → Tabs F.T H' → Dt O H' src v →
  (∀ (O1 : Addr → Prop) (H1 : Hp) (i : Nat) (d : PyData), Dt O1 H1 src v → (∀ a, O1 a → Lives H1 a) → Tabs F.T H1 → ds[i]? = some d → J.go i H1 ∧ ∀ x H2, J.yld i H1 x H2 → ExtN H1 H2 ∧ Tabs F.T H2 ∧ Dt O1 H2 d x) →
  (∀ (O1 : Addr → Prop) (H1 : Hp), Dt O1 H1 src v → J.stop ds.length H1) → R J H' :=
  fun J src v H' e t g a b => k J [(src, v)] H' e t (fun w hw => by rw [List.mem_singleton.mp hw]; exact g) (fun O1 H1 i d tm => a O1 H1 i d (tm (src, v) (List.mem_singleton.mpr rfl))) (fun O1 H1 tm => b O1 H1 (tm (src, v) (List.mem_singleton.mpr rfl)))
/-- a target takes d -/
def Tgt {Kf : PySem.W.Frag} {Tf : List (Addr × Str)} (F : Fx Kf Tf) (g : TG) (d : PyData) (δ δ' : List Slot) : Prop := ∀ (O : Addr → Prop) (H : Hp) (σ : L2.St) (v : V) (Q : L2.St → Hp → Prop), StAt F O H σ δ → Dt O H d v → (∀ σ', StAt F O H σ' δ' → Q σ' H) → g v σ H Q
def TgtS {Kf : PySem.W.Frag} {Tf : List (Addr × Str)} (F : Fx Kf Tf) (g : TGs) (ds : List PyData) (δ δ' : List Slot) : Prop := ∀ (O : Addr → Prop) (H : Hp) (σ : L2.St) (vs : List V) (Q : L2.St → Hp → Prop), StAt F O H σ δ → DtAll O H ds vs → (∀ σ', StAt F O H σ' δ' → Q σ' H) → g vs σ H Q
section
variable {Kf : PySem.W.Frag} {Tf : List (Addr × Str)} {F : Fx Kf Tf} {δ δ1 δ2 : List Slot} {X : Cx} {N : List Str} {sc : Scope} {pos p pos' : Pos} {a b c e tg : Expr} {es : List Expr} {d z : PyData} {ds : List PyData} {x : Str} {st : Stmt} {rest body els : List Stmt} {P : Post}
theorem wkI {iter : Expr} {t t' : TI} (h : PI X tg iter t) (k : ∀ σ H R, t' σ H R → t σ H R) : PI X tg iter t' := ⟨fun pins s σ H R I q => h.run pins s σ H R I (k σ H R q)⟩
theorem tg_name {i : Nat} : Tgt F (gName i) d δ (δ.set i (.dat d)) := fun O H σ v Q st h k => k _ (st.setD i h)
theorem tg_tup {K : PySem.W.Frag} {n : Nat} {t : TGs} (hn : ds.length = n) (h : TgtS F t ds δ δ1) : Tgt F (gTup K n t) (.tuple ds) δ δ1 := fun O H σ v Q st hd k => by
  obtain ⟨a, xs, e, _, g, r⟩ := hd
  exact ⟨a, xs, e, SqT.of g, by rw [r.len, hn], h O H σ xs Q st r k⟩
theorem tg_nil : TgtS F gNil [] δ δ := fun O H σ vs Q st h k => ⟨h, k σ st⟩
theorem tg_cons {g : TG} {t : TGs} (h : Tgt F g d δ δ1) (q : TgtS F t ds δ1 δ2) : TgtS F (gCons g t) (d :: ds) δ δ2 := fun O H σ vs Q st hd k => by
  obtain ⟨v, r, e, h1, h2⟩ := hd
  exact ⟨v, r, e, h O H σ v _ st h1 fun σ' s' => q O H σ' r Q s' h2 k⟩
theorem g_name (i : Nat) (cx : CtD X N sc F.E) (hi : N[i]? = some x := by rfl) (hx : Loc sc x := by first | exact Or.inl rfl | exact Or.inr rfl) : PG X (.Name x pos) (gName i) := pg_name cx.nd' (cx.at_ hi) (cx.loc hx) (.inl (cx.fn x))
theorem i_list {l : Expr} (h : PE X l (tD F δ (.list ds))) : PI X tg l (iD F δ ds) := wkI (pi_list h) fun σ H R q => by
  obtain ⟨O, st, k⟩ := q
  replace k := iD_one k
  refine ⟨O, st, fun v H1 e1 t1 g1 => ?_⟩
  obtain ⟨a, xs, ev, na, ga, ra⟩ := id g1
  refine ⟨a, ev, ⟨xs, SqL.of ga⟩, k (Itl X.K a) (.list ds) v H1 e1 t1 g1 (fun O1 H2 i d g2 dom t2 hd => ?_) fun O1 H2 g2 => ?_⟩
  · obtain ⟨b, ys, eb, nb, gb, rb⟩ := g2
    rw [ev] at eb
    cases eb
    obtain ⟨y, hy, dy⟩ := rb.get hd
    refine ⟨⟨ys, y, SqL.of gb, hy⟩, fun x H3 hyld => ?_⟩
    obtain ⟨rfl, hx⟩ := hyld
    have := hx ys (SqL.of gb)
    rw [hy] at this
    cases this
    exact ⟨ExtN.refl _, t2, dy⟩
  · obtain ⟨b, ys, eb, nb, gb, rb⟩ := g2
    rw [ev] at eb
    cases eb
    exact ⟨ys, SqL.of gb, by rw [rb.len]; exact Nat.le_refl _⟩
theorem i_tup {l : Expr} (h : PE X l (tD F δ (.tuple ds))) : PI X tg l (iD F δ ds) := wkI (pi_tup h) fun σ H R q => by
  obtain ⟨O, st, k⟩ := q
  replace k := iD_one k
  refine ⟨O, st, fun v H1 e1 t1 g1 => ?_⟩
  obtain ⟨a, xs, ev, na, ga, ra⟩ := id g1
  refine ⟨a, ev, ⟨xs, SqT.of ga⟩, k (Itt X.K a) (.tuple ds) v H1 e1 t1 g1 (fun O1 H2 i d g2 dom t2 hd => ?_) fun O1 H2 g2 => ?_⟩
  · obtain ⟨b, ys, eb, nb, gb, rb⟩ := g2
    rw [ev] at eb
    cases eb
    obtain ⟨y, hy, dy⟩ := rb.get hd
    refine ⟨⟨ys, y, SqT.of gb, hy⟩, fun x H3 hyld => ?_⟩
    obtain ⟨rfl, hx⟩ := hyld
    have := hx ys (SqT.of gb)
    rw [hy] at this
    cases this
    exact ⟨ExtN.refl _, t2, dy⟩
  · obtain ⟨b, ys, eb, nb, gb, rb⟩ := g2
    rw [ev] at eb
    cases eb
    exact ⟨ys, SqT.of gb, by rw [rb.len]; exact Nat.le_refl _⟩
/-- 0, 1, .. -/
def upTo (n : Nat) : List PyData := (List.range n).map fun (i : Nat) => PyData.int (i : Int)
def between (lo : Int) (n : Nat) : List PyData := (List.range n).map fun (i : Nat) => PyData.int (lo + (i : Int))
theorem i_range1 {n : Int} (cx : Ctx X N sc) (hm : X.mg "range" = none) (h : PA X [a] (aD F δ [.int n])) (h1 : -(2 ^ 62) ≤ n) (h2 : n < 2 ^ 62) (hg : sc.names.lookup ("range" : Str) = some .globalImplicit := by rfl) (hs : starEach [a] X.env = [(false, eval a X.env)] := by rfl) :
    PI X tg (.Call (.Name "range" p) [a] [] pos) (iD F δ (upTo n.toNat)) := wkI (pi_range1 (cx.gl hg) hm h hs) fun σ H R q => by
  obtain ⟨O, st, k⟩ := q
  replace k := iD_one k
  refine ⟨O, st, fun vs H1 e1 t1 g1 => ?_⟩
  obtain ⟨v, r, rfl, ev, rfl⟩ := g1
  rw [show v = V.int n from ev]
  refine ⟨n, rfl, h1, h2, k (Itr 0 n.toNat) .none .non H1 e1 t1 rfl (fun O1 H2 i d g2 dom t2 hd => ?_) fun O1 H2 g2 => ?_⟩
  · have hi : i < n.toNat := by
      have := (List.getElem?_eq_some_iff.mp hd).1
      simpa [upTo] using this
    refine ⟨hi, fun x H3 hy => ?_⟩
    obtain ⟨rfl, rfl⟩ := hy
    refine ⟨ExtN.refl _, t2, ?_⟩
    have : d = .int (i : Int) := by
      unfold upTo at hd
      rw [List.getElem?_map, List.getElem?_range hi] at hd
      exact (Option.some.inj hd).symm
    rw [this]
    show V.int (0 + (i : Int)) = V.int (i : Int)
    rw [Int.zero_add]
  · show n.toNat ≤ (upTo n.toNat).length
    simp [upTo]
theorem i_range2 {lo n : Int} (cx : Ctx X N sc) (hm : X.mg "range" = none) (h : PA X [a, b] (aD F δ [.int lo, .int n])) (h0 : -(2 ^ 62) ≤ lo ∧ lo < 2 ^ 62) (h1 : -(2 ^ 62) ≤ n) (h2 : n < 2 ^ 62) (hg : sc.names.lookup ("range" : Str) = some .globalImplicit := by rfl)
    (hs : starEach [a, b] X.env = [(false, eval a X.env), (false, eval b X.env)] := by rfl) (hs2 : starEach [b] X.env = [(false, eval b X.env)] := by rfl) :
    PI X tg (.Call (.Name "range" p) [a, b] [] pos) (iD F δ (between lo (n - lo).toNat)) := wkI (pi_range2 (cx.gl hg) hm h hs hs2) fun σ H R q => by
  obtain ⟨O, st, k⟩ := q
  replace k := iD_one k
  refine ⟨O, st, fun vs H1 e1 t1 g1 => ?_⟩
  obtain ⟨v, r, rfl, ev, u, r', rfl, eu, rfl⟩ := g1
  rw [show v = V.int lo from ev, show u = V.int n from eu]
  refine ⟨lo, n, rfl, ⟨h0.1, h0.2, h1, h2⟩, k (Itr lo (n - lo).toNat) .none .non H1 e1 t1 rfl (fun O1 H2 i d g2 dom t2 hd => ?_) fun O1 H2 g2 => ?_⟩
  · have hi : i < (n - lo).toNat := by
      have := (List.getElem?_eq_some_iff.mp hd).1
      simpa [between] using this
    refine ⟨hi, fun x H3 hy => ?_⟩
    obtain ⟨rfl, rfl⟩ := hy
    refine ⟨ExtN.refl _, t2, ?_⟩
    have : d = .int (lo + (i : Int)) := by
      unfold between at hd
      rw [List.getElem?_map, List.getElem?_range hi] at hd
      exact (Option.some.inj hd).symm
    rw [this]
    rfl
  · show (n - lo).toNat ≤ (between lo (n - lo).toNat).length
    simp [between]
theorem i_str {l : List Nat} (h : PE X e (tD F δ (tx l))) : PI X tg e (iD F δ (l.map fun c => tx [c])) := wkI (pi_str h) fun σ H R q => by
  obtain ⟨O, st, k⟩ := q
  replace k := iD_one k
  refine ⟨O, st, fun v H1 e1 t1 g1 => ⟨⟨l.toArray⟩, g1, k (Its ⟨l.toArray⟩) .none .non H1 e1 t1 rfl (fun O1 H2 i d g2 dom t2 hd => ?_) fun O1 H2 g2 => ?_⟩⟩
  · rw [List.getElem?_map] at hd
    cases q : l[i]? with
    | none => rw [q] at hd; cases hd
    | some c =>
      rw [q] at hd
      cases hd
      have hi := (List.getElem?_eq_some_iff.mp q).1
      refine ⟨by show i < (⟨l.toArray⟩ : Str).cps.size; simpa using hi, fun x H3 hy => ?_⟩
      obtain ⟨rfl, c', hc, rfl⟩ := hy
      have : l[i]? = some c' := by simpa using hc
      rw [q] at this
      cases this
      exact ⟨ExtN.refl _, t2, rfl⟩
  · show (⟨l.toArray⟩ : Str).cps.size ≤ (l.map fun c => tx [c]).length
    simp
end
end Lf
set_option Elab.async false
set_option linter.all false
set_option maxRecDepth 100000
set_option maxHeartbeats 4000000
namespace Lf
open PySem PySem.Spec PyProof.Rows L2 LamX
section
variable {Kf : PySem.W.Frag} {Tf : List (Addr × Str)} {F : Fx Kf Tf} {δ δ1 δ2 : List Slot} {X : Cx} {N : List Str} {sc : Scope} {pos p pos' : Pos} {a b c e tg iter elt : Expr} {es ifs : List Expr} {d z : PyData} {ds : List PyData} {x : Str} {st : Stmt} {rest body els : List Stmt} {P : Post} {α : Type}
/-- whatever is known of the block -/
theorem anyS : PSs X body (fun D σ H => ∃ δ P, PSs X body (sD F δ P) ∧ sD F δ P D σ H) := ⟨fun pins s σ H D I q => let ⟨_, _, h, g⟩ := q; h.run pins s σ H D I g⟩
/-- for: I tells of the items taken -/
theorem s_for {g : TG} (xs : List α) (enc : α → PyData) (I : List α → List Slot → Prop) (cx : CtD X N sc F.E) (hi : PI X tg iter (iD F δ (xs.map enc))) (hg : PG X tg g) (h0 : I [] δ)
    (hs : ∀ pre x post δ', xs = pre ++ x :: post → I pre δ' → ∃ δ'', Tgt F g (enc x) δ' δ'' ∧ PSs X body (sD F δ'' { nx := I (pre ++ [x]), ct := I (pre ++ [x]), bk := fun δ => PSs X rest (sD F δ P), rt := P.rt, ex := P.ex, rts := P.rts, exs := P.exs }))
    (hd : ∀ δ', I xs δ' → PSs X rest (sD F δ' P)) (hf : ∀ x, foldedSetIterable iter X.env x = pure x := by intro _; rfl) : PSs X (.For tg iter body [] pos :: rest) (sD F δ P) :=
  s_seq (M := fun δ' => PSs X rest (sD F δ' P)) (wkS (ps_for cx.po cx.calm hi hg (anyS (F := F)) hf) fun D σ H h' => by
    obtain ⟨O, τ, s0, tm, w⟩ := h'
    refine ⟨O, s0, fun J ss H1 e1 t1 g1 item done => ?_⟩
    refine ⟨fun i m σ' H' => m = xs.length - i ∧ i ≤ xs.length ∧ ∃ δ' O', I (xs.take i) δ' ∧ StAt F O' H' σ' δ' ∧ Tm O' H' (ss ++ τ), ⟨xs.length, by omega, Nat.zero_le _, δ, O, h0, s0.grow e1 t1, fun q hq => ?_⟩, fun i m σ' H' hW => ?_⟩
    · rcases List.mem_append.mp hq with hq | hq
      · exact g1 q hq
      · exact (tm.grow e1) q hq
    · obtain ⟨rfl, hle, δ', O', hI, s1, tm1⟩ := hW
      have gs : Tm O' H' ss := fun q hq => tm1 q (List.mem_append_left _ hq)
      have tmr : Tm O' H' τ := fun q hq => tm1 q (List.mem_append_right _ hq)
      by_cases hlt : i < xs.length
      · have hx : xs[i]? = some xs[i] := List.getElem?_eq_getElem hlt
        have hdd : (xs.map enc)[i]? = some (enc xs[i]) := by rw [List.getElem?_map, hx]; rfl
        obtain ⟨go, yl⟩ := item O' H' i (enc xs[i]) gs s1.dom s1.tabs hdd
        have sp : xs = xs.take i ++ xs[i] :: xs.drop (i + 1) := by
          rw [List.getElem_cons_drop]
          exact (List.take_append_drop i xs).symm
        have tk1 : xs.take i ++ [xs[i]] = xs.take (i + 1) := (List.take_succ_eq_append_getElem hlt).symm
        obtain ⟨δ'', ht, hb⟩ := hs _ _ _ δ' sp hI
        refine .inr ⟨go, fun σ2 H2 => ∃ δ' O', I (xs.take (i + 1)) δ' ∧ StAt F O' H2 σ2 δ' ∧ Tm O' H2 (ss ++ τ), fun σ2 H2 hN => ⟨xs.length - (i + 1), by omega, rfl, hlt, hN⟩, fun y H2 hy => ?_⟩
        obtain ⟨e2, t2, gy⟩ := yl y H2 hy
        refine ht O' H2 σ' y _ (s1.grow e2 t2) gy fun σ3 s3 => ⟨δ'', _, hb, O', ss ++ τ, s3, tm1.grow e2, ⟨fun δ3 O3 σ4 H4 m s4 t4 => ⟨δ3, O3, by rw [← tk1]; exact m, s4, t4⟩, w.rt, fun δ3 O3 σ4 H4 m s4 t4 => w.nx δ3 O3 σ4 H4 m s4 fun q hq => t4 q (List.mem_append_right _ hq), fun δ3 O3 σ4 H4 m s4 t4 => ⟨δ3, O3, by rw [← tk1]; exact m, s4, t4⟩, w.ex, w.rts, w.exs⟩⟩
      · have e : i = xs.length := by omega
        subst e
        rw [List.take_length] at hI
        have dn := done O' H' gs
        rw [List.length_map] at dn
        exact .inl ⟨dn, w.nx δ' O' σ' H' (hd δ' hI) s1 tmr⟩) fun δ' h => h
/-- while, by a number that falls -/
theorem s_while {t : Expr} (I : Nat → List Slot → Prop) (m0 : Nat) (cx : CtD X N sc F.E) (h0 : I m0 δ)
    (hs : ∀ m δ', I m δ' → ∃ k, PT X t (cD F δ' k) ∧ (k = true → PSs X body (sD F δ' { nx := fun δ2 => ∃ m', m' < m ∧ I m' δ2, ct := fun δ2 => ∃ m', m' < m ∧ I m' δ2, bk := fun δ => PSs X rest (sD F δ P), rt := P.rt, ex := P.ex, rts := P.rts, exs := P.exs })) ∧ (k = false → PSs X rest (sD F δ' P))) :
    PSs X (.While t body [] pos :: rest) (sD F δ P) :=
  s_seq (M := fun δ' => PSs X rest (sD F δ' P)) (wkS (ps_while cx.po (tc := fun σ H Q => ∃ δ k, PT X t (cD F δ k) ∧ cD F δ k σ H Q) ⟨fun pins s σ H Q I q => let ⟨_, _, h, g⟩ := q; h.run pins s σ H Q I g⟩ (anyS (F := F))) fun D σ H h' => by
    obtain ⟨O, τ, s0, tm, w⟩ := h'
    refine ⟨fun m σ' H' => ∃ δ' O', I m δ' ∧ StAt F O' H' σ' δ' ∧ Tm O' H' τ, ⟨m0, δ, O, h0, s0, tm⟩, fun m σ' H' hW => ?_⟩
    obtain ⟨δ', O', hI, s1, t1⟩ := hW
    obtain ⟨k, ht, h1, h2⟩ := hs m δ' hI
    refine ⟨δ', k, ht, O', s1, fun H2 e2 tt2 => ?_⟩
    cases k with
    | true =>
      refine iteT ⟨fun σ2 H2 => ∃ m', m' < m ∧ ∃ δ' O', I m' δ' ∧ StAt F O' H2 σ2 δ' ∧ Tm O' H2 τ, fun σ2 H2 hN => hN, δ', _, h1 rfl, O', τ, s1.grow e2 tt2, t1.grow e2, ?_⟩
      exact ⟨fun δ3 O3 σ4 H4 m s4 t4 => let ⟨m', lt, q⟩ := m; ⟨m', lt, δ3, O3, q, s4, t4⟩, w.rt, fun δ3 O3 σ4 H4 m s4 t4 => w.nx δ3 O3 σ4 H4 m s4 t4, fun δ3 O3 σ4 H4 m s4 t4 => let ⟨m', lt, q⟩ := m; ⟨m', lt, δ3, O3, q, s4, t4⟩, w.ex, w.rts, w.exs⟩
    | false => exact iteF (w.nx δ' O' σ' H2 (h2 rfl) (s1.grow e2 tt2) (t1.grow e2))) fun δ' h => h
/-! ### comprehensions -/
variable {O : Addr → Prop} {H : Hp} {σ : L2.St}
theorem StAt.unset (st : StAt F O H σ δ) (i : Nat) : StAt F O H (σ.set i none) (δ.set i .non) := by
  refine ⟨by rw [List.length_set, List.length_set, st.len], st.o0, st.dom, st.tabs, st.ext, fun j u q => ?_, fun j l s' u' q' hjl h1 h2 m1 m2 e1 e2 => ?_, ?_⟩
  · by_cases e : i = j
    · subst e
      have hi : i < δ.length := by
        have := (List.getElem?_eq_some_iff.mp q).1
        simpa using this
      rw [List.getElem?_set_self hi] at q
      cases q
      trivial
    · rw [List.getElem?_set_ne e] at q ⊢
      exact st.slot j u q
  · have no : ∀ {j : Nat} {u : Slot}, (δ.set i .non)[j]? = some u → u.mine = true → i ≠ j := fun {j u} q m e => by
      subst e
      have hi : i < δ.length := by
        have := (List.getElem?_eq_some_iff.mp q).1
        simpa using this
      rw [List.getElem?_set_self hi] at q
      cases q
      cases m
    have n1 := no h1 m1
    have n2 := no h2 m2
    rw [List.getElem?_set_ne n1] at h1 e1
    rw [List.getElem?_set_ne n2] at h2 e2
    exact st.apart j l s' u' q' hjl h1 h2 m1 m2 e1 e2
  · exact st.afar.set st.len i _ _ (fun R e => by cases e) fun j R _ _ p _ z => z
def wipeD (δ : List Slot) : List Nat → List Slot
  | [] => δ
  | v :: vs => (wipeD δ vs).set v .non
theorem StAt.wiped (st : StAt F O H σ δ) : ∀ vs : List Nat, StAt F O H (wipe σ vs) (wipeD δ vs)
  | [] => st
  | v :: vs => (StAt.wiped st vs).unset v
theorem StAt.snoc (st : StAt F O H σ δ) : StAt F O H (σ ++ [none]) (δ ++ [.non]) := by
  refine ⟨by rw [List.length_append, List.length_append, st.len]; rfl, st.o0, st.dom, st.tabs, st.ext, fun j u q => ?_, fun j l s' u' q' hjl h1 h2 m1 m2 e1 e2 => ?_, fun i j R u hij h1 h2 p hp => ?_⟩
  rotate_right
  · have no : ∀ {j : Nat} {u : Slot}, (δ ++ [Slot.non])[j]? = some u → u ≠ .non → j < δ.length := fun {j u} q n => by
      by_cases hj : j < δ.length
      · exact hj
      · rw [List.getElem?_append_right (by omega)] at q
        cases hq : j - δ.length with
        | zero => rw [hq] at q; cases q; exact absurd rfl n
        | succ n => rw [hq] at q; simp at q
    have n1 := no h1 (fun z => by cases z)
    rw [List.getElem?_append_left n1] at h1
    intro hu
    have n2 := no h2 (fun z => by rw [z] at hu; exact hu)
    rw [List.getElem?_append_left n2] at h2
    rw [List.getElem?_append_left (by rw [st.len]; exact n2)] at hu
    exact st.afar i j R u hij h1 h2 p hp hu
  · by_cases hj : j < δ.length
    · rw [List.getElem?_append_left hj] at q
      rw [List.getElem?_append_left (by rw [st.len]; exact hj)]
      exact st.slot j u q
    · rw [List.getElem?_append_right (by omega)] at q
      cases hq : j - δ.length with
      | zero => rw [hq] at q; cases q; trivial
      | succ n => rw [hq] at q; simp at q
  · have no : ∀ {j : Nat} {v : V}, (σ ++ [none])[j]? = some (some v) → j < δ.length := fun {j v} q => by
      by_cases hj : j < σ.length
      · rw [← st.len]; exact hj
      · rw [List.getElem?_append_right (by omega)] at q
        cases hq : j - σ.length with
        | zero => rw [hq] at q; cases q
        | succ n => rw [hq] at q; simp at q
    have n1 := no e1
    have n2 := no e2
    rw [List.getElem?_append_left n1] at h1
    rw [List.getElem?_append_left n2] at h2
    rw [List.getElem?_append_left (by rw [st.len]; exact n1)] at e1
    rw [List.getElem?_append_left (by rw [st.len]; exact n2)] at e2
    exact st.apart j l s' u' q' hjl h1 h2 m1 m2 e1 e2
theorem StAt.init {o : Option V} {s : Slot} (st : StAt F O H (σ ++ [o]) (δ ++ [s])) : StAt F O H σ δ := by
  have hl : σ.length = δ.length := by
    have := st.len
    rw [List.length_append, List.length_append] at this
    simpa using this
  refine ⟨hl, st.o0, st.dom, st.tabs, st.ext, fun j u q => ?_, fun j l s' u' q' hjl h1 h2 m1 m2 e1 e2 => ?_, fun i j R u hij h1 h2 p hp hu => ?_⟩
  rotate_right
  · have j1 := (List.getElem?_eq_some_iff.mp h1).1
    have j2 := (List.getElem?_eq_some_iff.mp h2).1
    exact st.afar i j R u hij (by rw [List.getElem?_append_left j1]; exact h1) (by rw [List.getElem?_append_left j2]; exact h2) p hp (by rw [List.getElem?_append_left (by omega)]; exact hu)
  · have hj := (List.getElem?_eq_some_iff.mp q).1
    have := st.slot j u (by rw [List.getElem?_append_left hj]; exact q)
    rw [List.getElem?_append_left (by omega)] at this
    exact this
  · have j1 := (List.getElem?_eq_some_iff.mp h1).1
    have j2 := (List.getElem?_eq_some_iff.mp h2).1
    exact st.apart j l s' u' q' hjl (by rw [List.getElem?_append_left j1]; exact h1) (by rw [List.getElem?_append_left j2]; exact h2) m1 m2 (by rw [List.getElem?_append_left (by omega)]; exact e1) (by rw [List.getElem?_append_left (by omega)]; exact e2)
/-- the tests of a clause -/
theorem ts_nil : PTs X [] (cD F δ true) := ⟨fun pins s σ H Q I q => pts_nil.run pins s σ H Q I (let ⟨O, st, k⟩ := q; k H (ExtN.refl H) st.tabs)⟩
theorem ts_one {k : Bool} (h : PT X c (cD F δ k)) : PTs X [c] (cD F δ k) := pts_one h
theorem wipe_get (σ : L2.St) (i : Nat) : ∀ vs : List Nat, (wipe σ vs)[i]? = if i ∈ vs then σ[i]?.map (fun _ => none) else σ[i]?
  | [] => by simp [wipe]
  | v :: vs => by
    unfold wipe
    by_cases e : v = i
    · subst e
      rw [if_pos List.mem_cons_self]
      by_cases h : v < (wipe σ vs).length
      · rw [List.getElem?_set_self h]
        rw [wipe_length] at h
        rw [List.getElem?_eq_getElem h]
        rfl
      · rw [List.getElem?_eq_none (by rw [List.length_set]; omega)]
        rw [wipe_length] at h
        rw [List.getElem?_eq_none (by omega)]
        rfl
    · rw [List.getElem?_set_ne e, wipe_get σ i vs]
      have : (i ∈ v :: vs) ↔ i ∈ vs := ⟨fun h => (List.mem_cons.mp h).resolve_left fun z => e z.symm, fun h => List.mem_cons_of_mem _ h⟩
      simp [this]
theorem wipe_set {j : Nat} {vs : List Nat} (h : j ∈ vs) (o : Option V) : wipe ((wipe σ vs).set j o) vs = wipe σ vs := by
  refine List.ext_getElem? fun i => ?_
  rw [wipe_get, wipe_get σ i vs]
  by_cases hi : i ∈ vs
  · rw [if_pos hi, if_pos hi]
    by_cases e : j = i
    · subst e
      by_cases hl : j < (wipe σ vs).length
      · rw [List.getElem?_set_self hl]
        rw [wipe_length] at hl
        rw [List.getElem?_eq_getElem hl]
        rfl
      · rw [List.getElem?_eq_none (by rw [List.length_set]; omega)]
        rw [wipe_length] at hl
        rw [List.getElem?_eq_none (by omega)]
    · rw [List.getElem?_set_ne e, wipe_get, if_pos hi]
      cases σ[i]? <;> rfl
  · rw [if_neg hi, if_neg hi, List.getElem?_set_ne (fun z => hi (by rw [← z]; exact h)), wipe_get, if_neg hi]
def Wg (g : TG) (vs : List Nat) : Prop := ∀ (σ : L2.St) (v : V) (H : Hp) (Q : L2.St → Hp → Prop), wipe σ vs = σ → g v σ H Q → g v σ H fun σ2 H2 => wipe σ2 vs = σ ∧ Q σ2 H2
def WgS (g : TGs) (vs : List Nat) : Prop := ∀ (σ : L2.St) (ws : List V) (H : Hp) (σ0 : L2.St) (Q : L2.St → Hp → Prop), wipe σ vs = σ0 → g ws σ H Q → g ws σ H fun σ2 H2 => wipe σ2 vs = σ0 ∧ Q σ2 H2
theorem wipe_wipe (vs : List Nat) : wipe (wipe σ vs) vs = wipe σ vs := by
  refine List.ext_getElem? fun i => ?_
  rw [wipe_get, wipe_get]
  by_cases hi : i ∈ vs
  · rw [if_pos hi, if_pos hi]
    cases σ[i]? <;> rfl
  · rw [if_neg hi, if_neg hi]
theorem wipe_set2 {j : Nat} {vs : List Nat} {σ0 : L2.St} (h : j ∈ vs) (o : Option V) (e : wipe σ vs = σ0) : wipe (σ.set j o) vs = σ0 := by
  rw [← e]
  refine List.ext_getElem? fun i => ?_
  rw [wipe_get, wipe_get σ i vs]
  by_cases hi : i ∈ vs
  · rw [if_pos hi, if_pos hi]
    by_cases e : j = i
    · subst e
      by_cases hl : j < σ.length
      · rw [List.getElem?_set_self hl, List.getElem?_eq_getElem hl]
        rfl
      · rw [List.getElem?_eq_none (by rw [List.length_set]; omega), List.getElem?_eq_none (by omega)]
    · rw [List.getElem?_set_ne e]
  · rw [if_neg hi, if_neg hi, List.getElem?_set_ne (fun z => hi (by rw [← z]; exact h))]
theorem wg_name {j : Nat} {vs : List Nat} (h : j ∈ vs) : Wg (gName j) vs := fun σ v H Q e q => ⟨wipe_set2 h _ e, q⟩
theorem wgs_nil {vs : List Nat} : WgS gNil vs := fun σ ws H σ0 Q e q => ⟨q.1, e, q.2⟩
theorem wgs_cons {j : Nat} {t : TGs} {vs : List Nat} (h : j ∈ vs) (g : WgS t vs) : WgS (gCons (gName j) t) vs := fun σ ws H σ0 Q e q => by
  obtain ⟨v, r, e1, q⟩ := q
  exact ⟨v, r, e1, g _ r H σ0 Q (wipe_set2 h _ e) q⟩
theorem wg_tup {K : PySem.W.Frag} {n : Nat} {t : TGs} {vs : List Nat} (h : WgS t vs) : Wg (gTup K n t) vs := fun σ v H Q e q => by
  obtain ⟨a, xs, e1, e2, e3, q⟩ := q
  exact ⟨a, xs, e1, e2, e3, h σ xs H σ Q e q⟩
/-- the new list, its own as yet -/
theorem lc_run {wi : TI} {g : TG} {tt : TT} {te : TE} (xs : List α) (enc f : α → PyData) (q : α → Bool) (vs : List Nat) (tgt : α → List Slot) (hz : xs.length ≤ 100000) (hw : ∀ x ∈ xs, Tgt F g (enc x) (wipeD δ vs) (tgt x)) (hww : Wg g vs)
    (hwi : wi = iD F δ (xs.map enc)) (ht : ∀ x ∈ xs, ∀ σ H Q, cD F (tgt x) (q x) σ H Q → tt σ H Q) (he : ∀ x ∈ xs, q x = true → ∀ σ H Q, tD F (tgt x) (f x) σ H Q → te σ H Q) {Q : VK} (h : tDL F δ ((xs.filter q).map f) σ H Q) : tLc wi g tt te vs σ H Q := by
  subst hwi
  obtain ⟨O, s0, k⟩ := h
  refine ⟨O, s0, fun J ss H1 e1 t1 g1 item done L hL => ?_⟩
  have s1 := s0.grow e1 t1
  have lv : ∀ a, Lives H1 a → a ≠ L := fun a l => l.ne hL
  have tm1 : Tm O H1 ss := g1
  have hend : (δ ++ [Slot.non]).set δ.length (.own []) = δ ++ [.own []] := by simp
  have hend2 : (σ ++ [none]).set δ.length (some (V.ref L)) = σ ++ [some (.ref L)] := by rw [← s0.len]; simp
  obtain ⟨o1, o2⟩ := own_out (ds := []) (xs := []) s1.snoc tm1 δ.length (ext_new (o := .lst []) hL) (tabs_new t1 hL) lv upd_same rfl
  rw [hend, hend2] at o1
  refine ⟨fun i m H' => m = xs.length - i ∧ i ≤ xs.length ∧ ExtN H1 H' ∧ StAt F (Shut O L) H' (σ ++ [some (.ref L)]) (δ ++ [.own (((xs.take i).filter q).map f)]) ∧ Tm (Shut O L) H' ss, ⟨xs.length, by omega, Nat.zero_le _, ext_new hL, o1, o2⟩, fun i m H' hW => ?_⟩
  obtain ⟨rfl, hle, ex, s2, tm2⟩ := hW
  have gs : Tm (Shut O L) H' ss := tm2
  have hlast : (δ ++ [Slot.own (((xs.take i).filter q).map f)])[δ.length]? = some (.own (((xs.take i).filter q).map f)) := by simp
  have hlv : (σ ++ [some (V.ref L)])[δ.length]? = some (some (.ref L)) := by rw [← s0.len]; simp
  by_cases hlt : i < xs.length
  · have hx : xs[i]? = some xs[i] := List.getElem?_eq_getElem hlt
    have hm : xs[i] ∈ xs := List.getElem_mem hlt
    obtain ⟨go, yl⟩ := item (Shut O L) H' i (enc xs[i]) gs s2.dom s2.tabs (by rw [List.getElem?_map, hx]; rfl)
    have tk1 : xs.take (i + 1) = xs.take i ++ [xs[i]] := List.take_succ_eq_append_getElem hlt
    refine .inr ⟨go, fun H2 => ExtN H1 H2 ∧ StAt F (Shut O L) H2 (σ ++ [some (.ref L)]) (δ ++ [.own (((xs.take (i + 1)).filter q).map f)]) ∧ Tm (Shut O L) H2 ss, fun H2 hN => ⟨xs.length - (i + 1), by omega, rfl, hlt, hN⟩, fun y H2 hy => ?_⟩
    obtain ⟨e2, t2, gy⟩ := yl y H2 hy
    have s3 := s2.grow e2 t2
    refine hww _ _ _ _ (wipe_wipe vs) (hw _ hm (Shut O L) H2 (wipe σ vs) y _ (s3.init.wiped vs) gy fun σ3 s4 => ?_)
    refine ht _ hm σ3 H2 _ ⟨Shut O L, s4, fun H3 e3 t3 => ?_⟩
    have s5 := s3.grow e3 t3
    have tm3 := (tm2.grow e2).grow e3
    cases hq : q xs[i] with
    | false =>
      refine iteF ⟨(ex.trans e2).trans e3, ?_, tm3⟩
      rw [tk1, List.filter_append, List.filter_cons, if_neg (by rw [hq]; decide), List.filter_nil, List.append_nil]
      exact s5
    | true =>
      refine iteT (he _ hm hq σ3 H3 _ ⟨Shut O L, s4.grow e3 t3, fun yv H4 e4 t4 g4 => ?_⟩)
      have s6 := s5.grow e4 t4
      obtain ⟨L', acc, eL, oL, nL, gL, rL⟩ := s6.slot δ.length _ hlast
      rw [hlv] at eL
      cases eL
      refine ⟨acc, gL, ?_, fun b o gb tb => ?_, ?_⟩
      · rw [rL.len, List.length_map]
        have h1 := List.length_filter_le q (xs.take i)
        have h2 : (xs.take i).length ≤ xs.length := by rw [List.length_take]; omega
        exact Nat.lt_of_le_of_lt (Nat.le_trans h1 (Nat.le_trans h2 hz)) (by decide)
      · rw [upd_ne (lv b ⟨o, gb, tb⟩)]
        exact ((ex.trans e2).trans (e3.trans e4)) b o gb tb
      · obtain ⟨u1, u2⟩ := own_turn s6 (tm3.grow e4) hlast hlv gL (rL.app (.one g4))
        refine ⟨?_, u2⟩
        rw [tk1, List.filter_append, List.filter_cons, if_pos hq, List.filter_nil, List.map_append]
        have e9 : (δ ++ [Slot.own (((xs.take i).filter q).map f)]).set δ.length (.own (((xs.take i).filter q).map f ++ [f xs[i]])) = δ ++ [.own (((xs.take i).filter q).map f ++ [f xs[i]])] := by simp
        rw [e9] at u1
        exact u1
  · have e : i = xs.length := by omega
    subst e
    have dn := done (Shut O L) H' gs
    rw [List.length_map] at dn
    obtain ⟨L', acc, eL, oL, nL, gL, rL⟩ := s2.slot δ.length _ hlast
    rw [hlv] at eL
    cases eL
    rw [List.take_length] at rL
    exact .inl ⟨dn, k L acc H' (e1.trans ex) s2.tabs (fun a l => lv a (l.grow e1)) gL rL⟩
theorem dl_d (h : tD F δ (.list ds) σ H Q) : tDL F δ ds σ H Q := by
  obtain ⟨O, st, k⟩ := h
  exact ⟨O, st, fun p xs H' e t n g r => k _ H' e t ⟨p, xs, rfl, fun z => n p (st.dom p z) rfl, g, r.open_ fun a z => .inl z⟩⟩
abbrev Blk (X : Cx) (scope : Scope) (φ : Cx → Prop) : Prop := ∀ (s : Shared) (H : Hp) (C : Addr) (cl : List (Str × Addr)) (fp : List Addr), φ (X.blk s H scope (compEnvC scope cl C X.env) fp)
theorem blk_ok {scope : Scope} {own : List (Str × Nat)} (cx : Ctx X N sc) (h : blkC N sc scope own = true) : BlkOk X.N X.env.scope scope own := by
  rw [cx.n, cx.s]
  exact blkOk_by h
/-- [elt for target in iter if ..] -/
theorem x_lc {scope : Scope} {g : TG} (own : List (Str × Nat)) (xs : List α) (enc f : α → PyData) (q : α → Bool) (tgt : α → List Slot) (cx : Ctx X N sc) (hi : PI X tg iter (iD F δ (xs.map enc))) (hz : xs.length ≤ 100000) (hok : blkC N sc scope own = true) (hg : Blk X scope fun Y => PG Y tg g) (hw : ∀ x ∈ xs, Tgt F g (enc x) (wipeD δ (own.map (·.2))) (tgt x)) (hww : Wg g (own.map (·.2)))
    (ht : ∀ x ∈ xs, Blk X scope fun Y => PTs Y ifs (cD F (tgt x) (q x))) (he : ∀ x ∈ xs, q x = true → Blk X scope fun Y => PE Y elt (tD F (tgt x) (f x))) (hs : ∀ x, foldedSetIterable iter X.env x = pure x := by intro _; rfl) :
    PE X (.ListComp elt [⟨tg, iter, ifs, 0⟩] scope pos) (tDL F δ ((xs.filter q).map f)) :=
  wkE (pe_lc (own := own) (tt := fun σ H Q => ∃ x, x ∈ xs ∧ cD F (tgt x) (q x) σ H Q) (te := fun σ H Q => ∃ x, (x ∈ xs ∧ q x = true) ∧ tD F (tgt x) (f x) σ H Q) cx.calm cx.nd' hi (blk_ok cx hok) hg
    (fun s H C cl fp => ⟨fun pins s' σ H Q I q => let ⟨x, hx, g⟩ := q; (ht x hx s _ C cl fp).run pins s' σ H Q I g⟩) (fun s H C cl fp => exE fun x => ifE fun hx => he x hx.1 hx.2 s H C cl fp) hs)
    fun σ H Q h => lc_run xs enc f q _ tgt hz hw hww rfl (fun x hx σ H Q g => ⟨x, hx, g⟩) (fun x hx hq σ H Q g => ⟨x, ⟨hx, hq⟩, g⟩) h
end
end Lf
set_option Elab.async false
set_option linter.all false
set_option maxRecDepth 100000
set_option maxHeartbeats 4000000
namespace Lf
open PySem PySem.Spec PyProof.Rows L2 LamX
section
variable {Kf : PySem.W.Frag} {Tf : List (Addr × Str)} {F : Fx Kf Tf} {δ δ1 δ2 : List Slot} {X : Cx} {N : List Str} {sc : Scope} {pos p pos' py spos : Pos} {a b c e tg iter elt : Expr} {es ifs : List Expr} {d z : PyData} {ds : List PyData} {x y : Str} {st : Stmt} {rest body els : List Stmt} {P : Post} {α : Type}
theorem x_dl (h : PE X e (tDL F δ ds)) : PE X e (tD F δ (.list ds)) := wkE h fun σ H Q q => dl_d q
/-- y = [elt for ..] -/
theorem s_lc {scope : Scope} {g : TG} (i : Nat) (own : List (Str × Nat)) (xs : List α) (enc f : α → PyData) (q : α → Bool) (tgt : α → List Slot) (cx : CtD X N sc F.E) (hi : PI X tg iter (iD F δ (xs.map enc))) (hz : xs.length ≤ 100000) (hok : blkC N sc scope own = true) (hg : Blk X scope fun Y => PG Y tg g) (hw : ∀ x ∈ xs, Tgt F g (enc x) (wipeD δ (own.map (·.2))) (tgt x)) (hww : Wg g (own.map (·.2)))
    (ht : ∀ x ∈ xs, Blk X scope fun Y => PTs Y ifs (cD F (tgt x) (q x))) (he : ∀ x ∈ xs, q x = true → Blk X scope fun Y => PE Y elt (tD F (tgt x) (f x))) (hr : PSs X rest (sD F (δ.set i (.dat (.list ((xs.filter q).map f)))) P)) (hy : N[i]? = some y := by rfl) (hyl : sc.names.lookup y = some .local := by rfl) (hk : sc.kind = .function := by rfl) (hl : (py.line == pos.line) = true := by rfl)
    (ha : (scope.names.any fun (n, k) => n == y && (k == .local || k == .cell)) = false := by rfl) (hs : ∀ x, foldedSetIterable iter X.env x = pure x := by intro _; rfl) :
    PSs X (.Assign [.Name y py] (.ListComp elt [⟨tg, iter, ifs, 0⟩] scope pos) spos :: rest) (sD F δ P) :=
  wkSs (pss_cons (ps_setLc (own := own) (tt := fun σ H Q => ∃ x, x ∈ xs ∧ cD F (tgt x) (q x) σ H Q) (te := fun σ H Q => ∃ x, (x ∈ xs ∧ q x = true) ∧ tD F (tgt x) (f x) σ H Q) cx.calm cx.nd' (cx.at_ hy) (by rw [cx.s]; exact hyl) (sw_true (by rw [cx.s]; exact hk) (by rw [cx.s]; exact hyl) hl ha) hi (blk_ok cx.toCtx hok) hg
    (fun s H C cl fp => ⟨fun pins s' σ H Q I q => let ⟨x, hx, g⟩ := q; (ht x hx s _ C cl fp).run pins s' σ H Q I g⟩) (fun s H C cl fp => exE fun x => ifE fun hx => he x hx.1 hx.2 s H C cl fp) hs) hr)
    fun D σ H h' => by
      obtain ⟨O, τ, s0, tm, w⟩ := h'
      show tLc (iD F δ (xs.map enc)) g (fun σ H Q => ∃ x, x ∈ xs ∧ cD F (tgt x) (q x) σ H Q) (fun σ H Q => ∃ x, (x ∈ xs ∧ q x = true) ∧ tD F (tgt x) (f x) σ H Q) (own.map (·.2)) σ H (fun v H1 => gName i v σ H1 (sD F (δ.set i (.dat (.list ((xs.filter q).map f)))) P D))
      refine lc_run xs enc f q _ tgt hz hw hww rfl (fun x hx σ H Q g => ⟨x, hx, g⟩) (fun x hx hq σ H Q g => ⟨x, ⟨hx, hq⟩, g⟩) (dl_d ⟨O, s0, fun v H' e' t' g' => ?_⟩)
      exact ⟨O, τ, (s0.grow e' t').setD i g', tm.grow e', w⟩
abbrev envS (sc : Scope) : Env := ⟨sc, 0, 0, [], Str.empty, none, .none, none, 0⟩
theorem sw_eq {ts : List Expr} {v : Expr} (cx : Ctx X N sc) {o : Option (List Str)} (h : swappedStores ts v (envS sc) = pure o) : swappedStores ts v X.env = pure o := by
  rw [← cx.s] at h
  generalize X.env = en at h ⊢
  cases en
  exact h
/-- a, b = x, y -/
theorem s_par {i j : Nat} {d1 d2 : PyData} {px pt pt2 : Pos} {kt k2 : Nat} (cx : CtD X N sc F.E) (ha : PA X [a, b] (aD F δ [d1, d2])) (g : PSs X rest (sD F ((δ.set i (.dat d1)).set j (.dat d2)) P)) (hi : N[i]? = some x := by rfl) (hj : N[j]? = some y := by rfl) (hij : i ≠ j := by decide) (hx : sc.names.lookup x = some .local := by rfl) (hy : sc.names.lookup y = some .local := by rfl)
    (hw : swappedStores [.Tuple [.Name x px, .Name y py] kt pt] (.Tuple [a, b] k2 pt2) (envS sc) = pure (some [x, y]) := by rfl) (hs : swapsWithSole [.Tuple [.Name x px, .Name y py] kt pt] (.Tuple [a, b] k2 pt2) pos.line X.env = pure false := by rfl) :
    PSs X (.Assign [.Tuple [.Name x px, .Name y py] kt pt] (.Tuple [a, b] k2 pt2) pos :: rest) (sD F δ P) :=
  wkSs (pss_cons (ps_par cx.calm cx.nd' (cx.at_ hi) (cx.at_ hj) hij (by rw [cx.s]; exact hx) (by rw [cx.s]; exact hy) ha (sw_eq cx.toCtx hw) hs) g) fun D σ H h' => by
    obtain ⟨O, τ, s0, tm, w⟩ := h'
    refine ⟨O, s0, fun vs H1 e' t' g' => ?_⟩
    obtain ⟨v, r, rfl, h1, u, r', rfl, h2, rfl⟩ := g'
    exact ⟨v, u, rfl, O, τ, ((s0.grow e' t').setD i h1).setD j h2, tm.grow e', w⟩
/-- target = value, the target of any form -/
theorem s_asg {g : TG} (cx : CtD X N sc F.E) (h : PE X e (tD F δ d)) (hg : PG X tg g) (ht : Tgt F g d δ δ1) (hr : PSs X rest (sD F δ1 P)) (hs : swapsWithSole [tg] e pos.line X.env = pure false := by rfl) (hw : swappedStores [tg] e (envS sc) = pure none := by rfl) (h1 : (assignEach [tg] X.env).map (·.2) = [assign tg X.env] := by rfl) :
    PSs X (.Assign [tg] e pos :: rest) (sD F δ P) := wkSs (pss_cons (ps_asg h hg hs (sw_eq cx.toCtx hw) h1) hr) fun D σ H h' => by
  obtain ⟨O, τ, s0, tm, w⟩ := h'
  exact ⟨O, s0, fun v H' e' t' g' => ht O H' σ v _ (s0.grow e' t') g' fun σ' s' => ⟨O, τ, s', tm.grow e', w⟩⟩
end
/-! ### a def keeps its promise -/
theorem fn_data {G : Pg} {st : Stmt} {x qual : Str} {f : Addr} {fd : FuncData} {N ps : List Str} {k : Nat} {T : List (Addr × Str)} {R : List PyData → Res → Prop} (Fn : Fun G.K x qual st f fd) (S : FnScope N ps (defScope st)) (len : ∀ ds r, R ds r → ds.length = ps.length)
    (body : ∀ (r : Rest) (F : Fx G.K T) (ds : List PyData) (res : Res), CtD (G.cx N r) N (defScope st) F.E → Room k r.A → R ds res → PSs (G.cx N r) (defBody st) (sD F (start0 N ds) (postOf res))) :
    FnOk G.prog G.w G.K G.mg G.base (L2N.CX G.prog G.w) (k + 1) f fd ps (spD T R) := by
  obtain ⟨oc, od, kV, doc, pm, an, cdv, ct, osl, rfl, lk, hcd⟩ := Fn.ex
  refine fn_of lk hcd S (fun vs H Q E h => ?_) fun A outer s H vs Q E hr h => ?_
  · obtain ⟨O, ds, r, _, _, hd, hR, _⟩ := h
    rw [hd.len]
    exact len ds r hR
  · obtain ⟨O, ds, r, dom, tb, hd, hR, ok, er⟩ := h
    refine ⟨_, body ⟨A.deeper (envOfC qual (defScope st) s.heap.objs.size f cdv), s, H, envOfC qual (defScope st) s.heap.objs.size f cdv, outer, envOfC qual (defScope st) s.heap.objs.size f cdv :: outer, [], fun _ => true, true, [], _⟩ ⟨O, H, E, dom⟩ ds r ⟨⟨rfl, rfl, S.nd, rfl⟩, fun _ => rfl, passes_of rfl, L2N.takes_of rfl rfl rfl rfl, rfl, rfl⟩ hr hR, O, [], ?_, (fun _ z => by cases z), ?_⟩
    · have hl := len ds r hR
      have hp : ps.length ≤ N.length := by
        have := congrArg List.length S.pre
        rw [List.length_take] at this
        omega
      have hv := hd.len
      refine ⟨?_, fun a z => z, dom, tb, ExtN.refl H, fun i u q => ?_, fun i j u w q n h1 h2 m1 m2 => ?_, fun i j R u n h1 h2 p hp => ?_⟩
      rotate_right
      · unfold start0 at h1
        by_cases hi : i < ds.length
        · rw [List.getElem?_append_left (by simpa using hi), List.getElem?_map] at h1
          cases e : ds[i]? with
          | none => rw [e] at h1; cases h1
          | some d => rw [e] at h1; cases h1
        · rw [List.getElem?_append_right (by simpa using hi), List.getElem?_replicate] at h1
          split at h1 <;> cases h1
      · simp [start0, L2.start, hv]
      · unfold start0 at q
        unfold L2.start
        by_cases hi : i < ds.length
        · rw [List.getElem?_append_left (by simpa using hi), List.getElem?_map] at q
          rw [List.getElem?_append_left (by simpa [hv] using hi), List.getElem?_map]
          cases e : ds[i]? with
          | none => rw [e] at q; cases q
          | some d =>
            rw [e] at q
            cases q
            obtain ⟨v, e1, e2⟩ := hd.get e
            rw [e1]
            exact ⟨v, rfl, e2⟩
        · rw [List.getElem?_append_right (by simpa using hi), List.getElem?_replicate] at q
          split at q
          · cases q; trivial
          · cases q
      · have no : ∀ {i : Nat} {u : Slot}, (start0 N ds)[i]? = some u → u.mine = false := fun {i u} q => by
          unfold start0 at q
          by_cases hi : i < ds.length
          · rw [List.getElem?_append_left (by simpa using hi), List.getElem?_map] at q
            cases e : ds[i]? with
            | none => rw [e] at q; cases q
            | some d => rw [e] at q; cases q; rfl
          · rw [List.getElem?_append_right (by simpa using hi), List.getElem?_replicate] at q
            split at q
            · cases q; rfl
            · cases q
        rw [no h1] at m1
        cases m1
    · exact ⟨fun δ O' σ' H' m s1 t1 => ok .none m .non H' s1.ext s1.tabs rfl, fun d v H' m e t g => ok d m v H' e t g, fun δ O' σ' H' m => m.elim, fun δ O' σ' H' m => m.elim, fun c H' m e t => er c m H' e t, fun _ _ _ _ _ _ m => m.elim, fun _ _ _ _ _ m => m.elim⟩
end Lf
set_option Elab.async false
set_option linter.all false
set_option maxRecDepth 100000
set_option maxHeartbeats 4000000
namespace Lf
open PySem PySem.Spec PyProof.Rows L2 LamX
section
variable {Kf : PySem.W.Frag} {Tf : List (Addr × Str)} {F : Fx Kf Tf} {δ δ1 δ2 : List Slot} {X : Cx} {N : List Str} {sc : Scope} {pos apos p pos' py spos : Pos} {a b c e o tg iter elt : Expr} {es ifs : List Expr} {d z : PyData} {ds : List PyData} {x y : Str} {st : Stmt} {rest body els : List Stmt} {P : Post} {α : Type}
theorem x_txt (l : List Nat) {i : Str} {j : Nat} (h : i = ⟨l.toArray⟩ := by rfl) : PE X (.Constant (.str i) j pos) (tD F δ (tx l)) := by
  subst h
  exact x_str
theorem x_kS {l : List Nat} (cx : Ctx X N sc) (hm : ∃ t, X.mg x = some (.str ⟨l.toArray⟩ t)) (hg : sc.names.lookup x = some .globalImplicit := by rfl) (hd : (x == ("__debug__" : Str)) = false := by decide) : PE X (.Name x pos) (tD F δ (tx l)) := by
  obtain ⟨t, hm⟩ := hm
  exact x_k (v := .str ⟨l.toArray⟩) cx hm ⟨t, rfl⟩ (fun _ _ => rfl) hg hd
theorem x_kI {i : Int} (cx : Ctx X N sc) (hm : ∃ t, X.mg x = some (.int i t)) (hg : sc.names.lookup x = some .globalImplicit := by rfl) (hd : (x == ("__debug__" : Str)) = false := by decide) : PE X (.Name x pos) (tD F δ (.int i)) := by
  obtain ⟨t, hm⟩ := hm
  exact x_k (v := .int i) cx hm ⟨t, rfl⟩ (fun _ _ => rfl) hg hd
theorem g_nameB (i : Nat) (cx : Ctx X N sc) (hi : N[i]? = some x := by rfl) (hx : sc.names.lookup x = some .local := by rfl) : PG X (.Name x pos) (gName i) := pg_name cx.nd' (cx.at_ hi) (cx.loc (.inl hx)) (.inr (by rw [cx.s]; exact hx))
/-- methods of texts -/
theorem x_m0 {id : String} {name : Str} {r : V → List V → Hp → VK → Prop} {s : Str} (slot : PySem.Slot "str" name id) (ty : typeOf (.builtin id) = pure (.type "method_descriptor")) (rule : MtR X id r) (q : MtD F r (.str s) [] z) (ho : PE X o (tD F δ (.str s)))
    (hbase : attributeBase o name X.env (eval o X.env) = eval o X.env := by rfl) (hline : (apos.endLine == pos.line) = true := by rfl) : PE X (.Call (.Attribute o name apos) [] [] pos) (tD F δ z) :=
  wkE (pe_m0 slot ty rule ho hbase hline) fun σ H Q h => by
    obtain ⟨O, st, k⟩ := h
    exact ⟨O, st, fun v H1 e1 t1 g1 => ⟨⟨s, g1⟩, q O H1 v [] Q (st.grow e1 t1).dom t1 g1 rfl fun v2 H2 e2 t2 g2 => k v2 H2 (e1.trans e2) t2 g2⟩⟩
theorem x_m1 {id : String} {name : Str} {r : V → List V → Hp → VK → Prop} {s : Str} (slot : PySem.Slot "str" name id) (ty : typeOf (.builtin id) = pure (.type "method_descriptor")) (rule : MtR X id r) (q : MtD F r (.str s) [d] z) (ho : PE X o (tD F δ (.str s))) (he : PE X e (tD F δ d)) (hs : starEach [e] X.env = [(false, eval e X.env)] := by rfl)
    (hbase : attributeBase o name X.env (eval o X.env) = eval o X.env := by rfl) (hline : (apos.endLine == pos.line) = true := by rfl) : PE X (.Call (.Attribute o name apos) [e] [] pos) (tD F δ z) :=
  wkE (pe_m1 slot ty rule ho he hs hbase hline) fun σ H Q h => by
    obtain ⟨O, st, k⟩ := h
    exact ⟨O, st, fun v H1 e1 t1 g1 => ⟨⟨s, g1⟩, O, st.grow e1 t1, fun y H2 e2 t2 g2 => q O H2 v [y] Q ((st.grow e1 t1).grow e2 t2).dom t2 (g1.grow e2) (.one g2) fun v3 H3 e3 t3 g3 => k v3 H3 ((e1.trans e2).trans e3) t3 g3⟩⟩
theorem hu65 {k : Nat} {A : Around} (hr : Room k A) : A.units + 65 < cLine := by
  have := hr.un
  omega
end
/-! ### texts: small letters, first places -/
section
variable {Kf : PySem.W.Frag} {Tf : List (Addr × Str)} {F : Fx Kf Tf} {K : PySem.W.Frag} {l m : List Nat} {d : PyData}
theorem str_tx (s : Str) : PyData.str s = tx s.cps.toList := by
  unfold tx
  rw [show (⟨s.cps.toList.toArray⟩ : Str) = s from by simp]
theorem ud_neg {i : Int} : UnD F (rU fun i => .int (-i)) (.int i) (.int (-i)) := fun O H x Q _ w hx k => ⟨i, hx, k _ H (ExtN.refl H) w rfl⟩
theorem cd_intB {b : Bool} : ClD F (fun xs H Q => (∃ i, xs = [.int i] ∧ Q (.int i) H) ∨ ∃ k, xs = [.bl k] ∧ Q (.int (if k then 1 else 0)) H) [.bool b] (.int (if b then 1 else 0)) := fun O H xs Q _ w h k => by
  obtain ⟨x, r, rfl, ex, rfl⟩ := h
  exact .inr ⟨b, by rw [show x = V.bl b from ex], k _ H (ExtN.refl H) w rfl⟩
theorem cd_tuple {ds : List PyData} : ClD F (fun xs H Q => ∃ p ys, xs = [.ref p] ∧ ((SqL K H p ys ∧ ∀ l, H l = none → Q (.ref l) (upd H l (.tup ys))) ∨ (SqT K H p ys ∧ Q (.ref p) H))) [.list ds] (.tuple ds) := fun O H xs Q dom w h k => by
  obtain ⟨x, r, rfl, ⟨a, ys, rfl, _, ga, ra⟩, rfl⟩ := h
  exact ⟨a, ys, rfl, .inl ⟨SqL.of ga, fun q hq => k _ _ (ext_new hq) (tabs_new w hq) ⟨q, ys, rfl, fresh_ok dom hq, upd_same, ra.grow (ext_new hq)⟩⟩⟩
/-- small letters of signs below 128 -/
def lowC (c : Nat) : Nat := if 65 ≤ c ∧ c ≤ 90 then c + 32 else c
theorem md_sindex {i : Nat} {rest : List Nat} (h : Builtin.Str.occurrences ⟨l.toArray⟩ ⟨m.toArray⟩ 0 l.length 1 = i :: rest) : MtD F (fun x xs H Q => ∃ a b i rest, x = .str a ∧ xs = [.str b] ∧ Builtin.Str.occurrences a b 0 a.length 1 = i :: rest ∧ Q (.int (i : Nat)) H) (tx l) [tx m] (.int (i : Nat)) := fun O H x xs Q _ w hx h2 k => by
  obtain ⟨y, r, rfl, ey, rfl⟩ := h2
  exact ⟨_, ⟨m.toArray⟩, i, rest, hx, by rw [show y = V.str ⟨m.toArray⟩ from ey], by rw [tx_len]; exact h, k _ H (ExtN.refl H) w rfl⟩
end
/-! ### defs by their names -/
structure Df (G : Pg) (x : Str) (st : Stmt) (ps : List Str) : Prop where
  ex : ∃ f fd, Fun G.K x x st f fd ∧ G.mg x = some (.ref f) ∧ Binds G.K fd ps []
theorem fd_data {G : Pg} {st : Stmt} {x : Str} {N ps : List Str} {k : Nat} {T : List (Addr × Str)} {R : List PyData → Res → Prop} (D : Df G x st ps) (S : FnScope N ps (defScope st)) (len : ∀ ds r, R ds r → ds.length = ps.length)
    (body : ∀ (r : Rest) (F : Fx G.K T) (ds : List PyData) (res : Res), CtD (G.cx N r) N (defScope st) F.E → Room k r.A → R ds res → PSs (G.cx N r) (defBody st) (sD F (start0 N ds) (postOf res))) :
    Fd G.prog G.w G.K G.mg G.base x (k + 1) ps (spD T R) := by
  obtain ⟨f, fd, Fn, m, b⟩ := D.ex
  exact ⟨f, fd, fn_data Fn S len body, m, Fn.kp, b⟩
end Lf
set_option Elab.async false
set_option linter.all false
set_option maxRecDepth 100000
set_option maxHeartbeats 4000000
/-! lists walked while an exception is handled -/
namespace Lf
open PySem PySem.Spec PyProof.Rows L2 L2H HotX
section
variable {prog : Program} {w : World} {A : Around} {E : Value → Shared → Prop} {s : Shared}
theorem lh_end {it l x1 : Addr} {i : Nat} {items : Array Value} {Q : Option Value → Shared → Prop} (hot : HotAt A x1 s.heap) (hit : s.heap.IsListIter it l i) (hl : s.heap.IsList l items) (hx : items[i]? = none)
    (hQ : ∀ h', (∀ b o, b ≠ it → s.heap.get? b = some o → h'.get? b = some o) → Q none { s with heap := h' }) : wpAny (model prog w) A (pyNext (.ref it)) Q E s := by
  obtain ⟨o, ho, hc, hd⟩ := id hit
  obtain ⟨ol, hol, _, nl, hdl⟩ := hl
  obtain ⟨hh, o1, vs1, h1, d1, c1⟩ := hot
  have nx : x1 ≠ it := fun z => by
    rw [z, ho] at h1
    cases h1
    rw [hd] at d1
    cases d1
    simp at c1
  unfold pyNext
  refine wpAny_bind (wpAny_attempt (wpAny_callSpecial?_slot (name := Str.ofString "__next__") hit.typeIs slot_listiter_next (wpAny_call_entry slot_listiter_next hit.typeIs entry_listiter_next ?_ (args_listiter_next _))))
  show wpAny _ _ (field (.ref it) 0 >>= _) _ _ s
  refine wpAny_bind (wpAny_field ho hd (x := .ref l) rfl ?_)
  show wpAny _ _ (if (Value.ref l == Value.none) = true then _ else _) _ _ s
  rw [if_neg (show ¬ ((Value.ref l == Value.none) = true) from Bool.false_ne_true)]
  show wpAny _ _ (field (.ref it) 1 >>= _) _ _ s
  refine wpAny_bind (wpAny_field ho hd (x := .int i 0) rfl ?_)
  show wpAny _ _ (seqItems? (.ref l) >>= _) _ _ s
  refine wpAny_bind (wpAny_seqItems hol hdl ?_)
  simp only [Int.toNat_natCast, hx]
  refine wpAny_bind (wpAny_rule (wpAny_bind (wpAny_setField ho hd (by simp) ?_)))
  show wpAny _ _ (newExc (.type "StopIteration") [] >>= _) _ _ _
  refine wpAny_bind ?_
  simp only [newExc, newTuple]
  refine wpAny_bind (wpAny_newObj_type ?_ (by size_fits))
  refine wpAny_bind (m := firstArgMember _ _) (wpAny_of_eq (a := Value.none) (by first | rfl | (simp only [firstArgMember]; rfl)) ?_)
  refine wpAny_newObj_type ?_ (by size_fits)
  have keep1 : ∀ b o, b ≠ it → s.heap.get? b = some o → (s.heap.update it (Obj.mapFields (·.setIfInBounds 0 Value.none))).get? b = some o := fun b o hb e => by
    rw [Heap.get?_update_other _ _ (Ne.symm hb)]
    exact e
  have h1' := keep1 x1 o1 nx h1
  refine raiseNew_hot ⟨hh, o1, vs1, Heap.get?_push_of_some _ (Heap.get?_push_of_some _ h1'), d1, c1⟩ (Nat.ne_of_lt (Heap.lt_size (Heap.get?_push_of_some _ h1'))) (Heap.get?_push_size _ rfl) rfl (by first | (simp; done) | (simp; omega)) ?_
  refine wpAny_bind (wpAny_isInstance (T := "StopIteration") (b := true) ⟨_, Heap.get?_update_self _ (Heap.get?_push_size _ rfl) rfl, rfl⟩ isSubtype_stop ?_)
  refine wpAny_pure (hQ _ fun b o hb e => ?_)
  have e1 := keep1 b o hb e
  rw [Heap.get?_update_other _ _ (Nat.ne_of_gt (Heap.lt_size (Heap.get?_push_of_some _ e1)))]
  exact Heap.get?_push_of_some _ (Heap.get?_push_of_some _ e1)
/-- a list's walk -/
theorem lh_walk {x1 : Addr} (hh : A.handled = some (.ref x1)) (I ax : Addr) (hne : ax ≠ I) (hx : x1 ≠ I) (items : Array Value) :
    Walks prog w A I [I, ax, x1] [I] items.size (fun i v => items[i]? = some v) (fun i h => h.IsListIter I ax i ∧ h.IsList ax items ∧ ∃ (o : Obj) (vs : Array Value), h.get? x1 = some o ∧ o.data = .fields vs ∧ vs[2]? = some .none) where
  sub := fun b hb => by simp at hb; simp [hb]
  frame := fun _ _ _ st hk => by
    obtain ⟨a, b, o, vs, e, r⟩ := st
    exact ⟨a.at fun o e => hk I (by simp) o e, b.at fun o e => hk ax (by simp) o e, o, vs, hk x1 (by simp) o e, r⟩
  item := fun i s Q E hi st hQ => by
    obtain ⟨a, b, o, vs, e, r⟩ := st
    refine wpAny_pyNext_list_item a b (x := items[i]) (by simp [hi]) fun h' hit' hs' => ?_
    exact hQ _ h' s.toks (by simp [hi]) ⟨hit', b.extBut hs'.extBut hne, o, vs, hs'.extBut _ _ hx e, r⟩ fun b o hb e => hs'.extBut b o (fun z => hb (by simp [z])) e
  done := fun s Q E st hQ => by
    obtain ⟨a, b, o, vs, e, r⟩ := st
    exact lh_end ⟨hh, o, vs, e, r⟩ a b (by simp) fun h' he' => hQ h' s.toks fun b o hb e => he' b o (fun z => hb (by simp [z])) e
  self := fun _ _ _ _ st hQ => wpAny_pyIter_listiter st.1 hQ
/-- sum(list of ints) -/
theorem lh_sum {l x1 : Addr} {its : List Value} {ns : List Int} {Q : Value → Shared → Prop} (hot : HotAt A x1 s.heap) (hl : s.heap.IsList l its.toArray) (hi : IntsAre its ns)
    (h : ∀ h' tk t', (∀ b o, s.heap.get? b = some o → h'.get? b = some o) → Q (.int ns.sum t') { s with heap := h', toks := tk }) : wpAny (model prog w) A (call (.builtin "sum") [.ref l]) Q E s := by
  obtain ⟨xs, e⟩ := hi.allInts.items
  have hn : numsOf (intItems xs).toList = ns := by rw [← e]; exact hi.numsOf
  rw [nums_intItems] at hn
  rw [e] at hl
  obtain ⟨hh, o1, vs1, g1, d1, c1⟩ := hot
  have nx : x1 ≠ s.heap.objs.size := Nat.ne_of_lt (Heap.lt_size g1)
  refine call_sum_walkG (iter_intList hl fun s2 es st hfp hlI => ?_)
  subst es
  refine ⟨_, _, _, _, _, _, numAt xs, rfl, lh_walk (A := A.in1) (x1 := x1) hh _ l hlI nx (intItems xs), ⟨st.1, st.2, o1, vs1, Heap.get?_push_of_some _ g1, d1, c1⟩, fun b hb => ?_, (fun _ _ => intItems_at), fun h' tk t' hk => ?_⟩
  · simp only [List.mem_cons, List.not_mem_nil, or_false] at hb
    rcases hb with z | z | z
    · exact hfp b (by simp [z])
    · exact hfp b (by simp [z])
    · rw [z]
      exact Heap.lt_size (Heap.get?_push_of_some _ g1)
  · have q := h h' tk t' fun b o e => hk b o (fun z => by
      rw [List.mem_singleton.mp z] at e
      exact Nat.lt_irrefl _ (Heap.lt_size e)) (Heap.get?_push_of_some _ e)
    rw [show ns.sum = preSum (numAt xs) (intItems xs).size from ?_] at q
    · exact q
    · rw [← hn]
      have : (intItems xs).size = xs.size := by simp [intItems]
      rw [this, preSum_eq, List.take_of_length_le (by simp)]
end
section
variable {X : Cx}
theorem cr_sumH (hc : HotC X) : CallR X (.builtin "sum") (rSum X.K) := by
  intro pins s σ H vs us Q I r h
  obtain ⟨a, ns, rfl, hs, q⟩ := h
  rw [Vals.ref1 r]
  obtain ⟨its, rv, p, hz⟩ := I.list hs
  obtain ⟨x1, hot⟩ := hc.at I
  exact lh_sum hot p.isList rv.ints fun h' tk t' hk => ⟨.int ns.sum, H, I.kept (t' := tk) hk, ⟨t', rfl⟩, q⟩
/-- isinstance of the handled exception -/
theorem call_isP {a D : Addr} {oe : Obj} (C : ExcC X.K D) (hp : (a, oe) ∈ X.pn) (hz : Zc (.ref D) none oe) (hf : ∃ vs, oe.data = .fields vs) : CallR X (.builtin "isinstance") (rIsE X.K D a) := by
  intro pins s σ H xs us Q I r h
  obtain ⟨c, cv, b, rfl, hcv, e, q⟩ := h
  cases r with
  | cons rx rr =>
    cases rr with
    | cons rt rr =>
      cases rr
      cases rx
      have ec := hcv _ rt
      subst ec
      obtain ⟨hget, _⟩ := I.pin (a, oe) (List.mem_append_left _ hp)
      obtain ⟨vs, hv⟩ := hf
      have J : PySem.W.InstAt s.heap a oe D none := by
        obtain ⟨oc, od, oda, osl⟩ := oe
        obtain ⟨h1, h2⟩ := hz
        dsimp only at h1 h2 hv
        subst h1 h2 hv
        exact ⟨hget, rfl, rfl, trivial⟩
      exact PySem.W.kia_one (PySem.W.handS_kitx_exc C.hg C.hk C.hs C.hd C.ha C.hn C.ht C.hm) I.kIn J e (fun z => nomatch z) fun tk => ⟨.bl b, H, I.kept (t' := tk) fun _ _ z => z, rfl, q⟩
end
end Lf
set_option Elab.async false
set_option linter.all false
set_option maxRecDepth 100000
set_option maxHeartbeats 4000000
namespace Lf
open PySem PySem.Spec PyProof.Rows L2 L2H HotX
section
variable {X : Cx}
/-- a new object, at an address where nothing stands -/
theorem laid_none {pins : List (Addr × Obj)} {σ : L2.St} {H : Hp} {s : Shared} {h' : Heap} {a : Addr} {o : HO} {t' : Nat} (I : Inv X pins σ H s) (k : ∀ b u, s.heap.get? b = some u → h'.get? b = some u) (hp : s.heap.get? a = none) (new : ObjOk X.prog X.w (upd H a o) h' a o) :
    Inv X pins σ (upd H a o) { s with heap := h', toks := t' } := by
  have hn : H a = none := I.hok.gone hp
  have ne : ∀ b u, s.heap.get? b = some u → b ≠ a := fun b u e z => by rw [z, hp] at e; cases e
  refine I.un ⟨fun b u q _ _ _ => k b u q, fun b u q _ _ _ => ⟨u.slots, k b u q⟩, fun b u q n _ => by rw [upd_ne (ne b u q)]; exact n, fun b u q _ => ⟨u, k b u q⟩, fun b xs q => by rw [upd_ne (ne_of_none q hn)]; exact q, fun b u xs q => by rw [upd_ne (ne_of_none q hn)]; exact q, fun b ps q => ⟨#[], by rw [upd_ne (ne_of_none q hn), q]; simp⟩⟩ fun b u e => ?_
  by_cases hb : b = a
  · subst hb
    rw [upd_same] at e
    cases e
    exact new
  · rw [upd_ne hb] at e
    exact (I.hok b u e).stay (fun c v _ q => k c v q) (fun c q => by rw [upd_ne (ne_of_none q hn)]; exact q) fun c xs q => by rw [upd_ne (ne_of_none q hn)]; exact q
/-- [int(x) for x in e], e a list of truths, while an exception is handled -/
def tBits (K : PySem.W.Frag) (te : TE) : TE := fun σ H Q => te σ H fun x H1 => ∃ (a : Addr) (bs : List Bool), x = .ref a ∧ SqL K H1 a (bs.map V.bl) ∧ bs.length ≤ 1000 ∧ ∀ p, H1 p = none → Q (.ref p) (upd H1 p (.lst (bs.map fun b => V.int (if b then 1 else 0))))
theorem pe_bits {e : Expr} {te : TE} {x : Str} {scope : Scope} {p1 p2 p3 p4 pos : Pos} (hc : HotC X) (hm : X.mg "int" = none) (he : PE X e te) (hkd : scope.kind = .function) (hx : scope.names.lookup x = some .local) (hi : scope.names.lookup ("int" : Str) = some .globalImplicit) (hcell : ∀ y ∈ scope.names, y.2 ≠ .cell ∧ y.2 ≠ .free)
    (hn : ∀ y ∈ scope.names, y.2 = .local → scope.names.lookup y.1 = some .local) (hxd : (x == ("__debug__" : Str)) = false) (hf : ∀ x, foldedSetIterable e X.env x = pure x := by intro _; rfl) :
    PE X (.ListComp (.Call (.Name "int" p1) [.Name x p2] [] p3) [⟨.Name x p4, e, [], 0⟩] scope pos) (tBits X.K te) := by
  refine ⟨fun pins s σ H Q I h => ?_⟩
  refine wpAny_ListComp_free (fun _ => true) (fun v y => ∃ b t, v = .bool b ∧ y = .int (if b then 1 else 0) t) (closure_ok fun y hy z => absurd z (hcell y hy).2) (fun y hy => (hcell y hy).1) hkd hn hx (thn (he.run pins s σ H _ I h) fun v s1 hv => ?_) hf
  obtain ⟨xv, H1, I1, r1, a, bs, rfl, hs, hz, q⟩ := hv
  obtain rfl : v = Value.ref a := r1
  obtain ⟨its, rv, p, hzz⟩ := I1.list hs
  have hbl := rv.bls
  obtain ⟨x1, hot⟩ := hc.at I1
  obtain ⟨hh, o1, vs1, g1, d1, c1⟩ := hot
  have la : a < s1.heap.objs.size := by
    obtain ⟨o, n, e, _⟩ := p
    exact Heap.lt_size e
  refine wpAny_pyIter_list p.isList ⟨s1.heap.objs.size, [s1.heap.objs.size, a, x1], [s1.heap.objs.size], its.toArray.size, _, _, rfl, lh_walk (x1 := x1) hh _ a (Nat.ne_of_lt la) (Nat.ne_of_lt (Heap.lt_size g1)) its.toArray, ?_, ⟨⟨_, Heap.get?_push_size _ rfl, rfl, rfl⟩, p.isList.push _, o1, vs1, Heap.get?_push_of_some _ g1, d1, c1⟩, fun b hb => ?_, ⟨fun C i v s3 m3 E' hC hP hns hmx hk htk => ?_, fun C i v s3 m3 E' hC hP _ hns hmx hk htk => ?_⟩, fun D h' tk ys vs hD hl hpl hlen hPs hF hk => ?_⟩
  · rw [hbl, List.size_toArray, List.length_map]
    exact Nat.le_trans hz (by decide)
  · show b < (s1.heap.push _).objs.size
    rw [Heap.size_push]
    simp only [List.mem_cons, List.not_mem_nil, or_false] at hb
    rcases hb with z | z | z
    · rw [z]; exact Nat.lt_succ_self _
    · rw [z]; exact Nat.lt_succ_of_lt la
    · rw [z]; exact Nat.lt_succ_of_lt (Heap.lt_size g1)
  · exact wpAny_tests_nil ⟨rfl, s3.heap, s3.toks, rfl, fun _ _ z => z⟩
  · have hb : ∃ b, v = .bool b := by
      rw [hbl] at hP
      have hP : ((bs.map Value.bool).toArray)[i]? = some v := hP
      rw [List.getElem?_toArray, List.getElem?_map] at hP
      cases q : bs[i]? with
      | none => rw [q] at hP; cases hP
      | some b => rw [q] at hP; exact ⟨b, (Option.some.inj hP).symm⟩
    obtain ⟨b, rfl⟩ := hb
    have kp : ∀ b o, X.base.get? b = some o → s3.heap.get? b = some o := fun b o e => by
      have e1 := I1.bk b o e
      exact hk b o (fun z => by
        rw [List.mem_singleton.mp z] at e1
        exact Nat.lt_irrefl _ (Heap.lt_size e1)) (Heap.get?_push_of_some _ e1)
    obtain ⟨mb, b1, b2⟩ := I1.mod.blt
    have hkf : (compEnvC scope (cloFrom X.env.cells scope.names []) C X.env).scope.kind = .function := hkd
    have lk : ∀ {y : Str} {kd : NameKind}, scope.names.lookup y = some kd → kd ≠ .free → (compEnvC scope (cloFrom X.env.cells scope.names []) C X.env).kindOf y = some kd := fun {y kd} e hne => by
      have rel : (relabel scope X.env).names = scope.names := by
        unfold relabel
        show scope.names.map _ = scope.names
        refine (List.map_congr_left fun z hz => ?_).trans (List.map_id _)
        obtain ⟨zn, zk⟩ := z
        have : zk ≠ .free := (hcell _ hz).2
        have e2 : (zk == NameKind.free) = false := by cases zk <;> first | rfl | exact absurd rfl this
        simp [e2]
      show (relabel scope X.env).names.lookup y = some kd
      rw [rel]
      exact e
    refine Call_ (Calls.Name_function_global hkf (lk hi (by decide)) (Calls.loadGlobal_builtin (mg := X.mg) (mb := mb) ?_ hm ?_ ((b2 "int" (by decide)).trans (by decide +kernel : bootBuiltins "int" = some (.type "int"))) ?_) (by decide))
    · show s3.heap.Ns X.env.globals X.mg
      rw [I1.ok.glob]
      exact I1.mod.glob.keeps kp
    · show s3.heap.Ns X.env.builtins mb
      rw [I1.ok.blt]
      exact b1.keeps kp
    · refine PyProof.Rows.callWith_type1 ?_ rfl rfl
      show wpAny _ _ (spliced [(false, eval (.Name x p2) _)]) _ _ _
      refine Calls.spliced_cons (wpAny_Name (wpAny_loadName_local hkf (lk hx (by decide)) hns hmx (Calls.spliced_nil ?_)) hxd)
      exact call_int_bool ⟨⟨b, _, rfl, rfl⟩, s3.heap, _, rfl, fun _ _ z => z⟩
  · have hv : vs = its := by
      refine List.ext_getElem? fun j => ?_
      by_cases hj : j < vs.length
      · have e1 : vs[j]? = some vs[j] := List.getElem?_eq_getElem hj
        rw [e1]
        have := hPs j vs[j] e1
        have this : its.toArray[j]? = some vs[j] := this
        rw [List.getElem?_toArray] at this
        exact this.symm
      · rw [List.getElem?_eq_none (by omega), List.getElem?_eq_none (by simp at hlen; omega)]
    subst hv
    rw [List.filter_eq_self.mpr (fun _ _ => rfl)] at hF
    have hys : Vals (bs.map fun b => V.int (if b then 1 else 0)) ys.toList := by
      have conv : ∀ (bs : List Bool) (us ws : List Value), us = bs.map Value.bool → Paired (fun v y => ∃ b t, v = Value.bool b ∧ y = Value.int (if b then 1 else 0) t) us ws → Vals (bs.map fun b => V.int (if b then 1 else 0)) ws := by
        intro bs
        induction bs with
        | nil =>
          intro us ws e pr
          subst e
          cases pr
          exact .nil
        | cons b bs ih =>
          intro us ws e pr
          subst e
          cases pr with
          | cons h t =>
            obtain ⟨b', t', e1, e2⟩ := h
            cases e1
            exact .cons ⟨t', e2⟩ (ih _ _ rfl t)
      exact conv bs vs ys.toList hbl hF
    have hkk : ∀ b o, s1.heap.get? b = some o → h'.get? b = some o := fun b o e => hk b o (fun z => by
      rw [List.mem_singleton.mp z] at e
      exact Nat.lt_irrefl _ (Heap.lt_size e)) (Heap.get?_push_of_some _ e)
    have hD1 : s1.heap.get? D = none := by
      cases z : s1.heap.get? D with
      | none => rfl
      | some o =>
        have z2 := Heap.get?_push_of_some { cls := .type "list_iterator", data := .fields #[.ref a, .int 0 0] } z
        have hD : (s1.heap.push { cls := .type "list_iterator", data := .fields #[.ref a, .int 0 0] }).get? D = none := hD
        rw [hD] at z2
        cases z2
    obtain ⟨n, hpl⟩ := hpl
    have new : ObjOk X.prog X.w (upd H1 D (.lst (bs.map fun b => V.int (if b then 1 else 0)))) h' D (.lst (bs.map fun b => V.int (if b then 1 else 0))) := by
      refine ⟨?_, ys.toList, n, hys, ?_⟩
      · rw [List.length_map]
        exact Nat.le_trans hz (by decide)
      · rw [hpl]
    exact ⟨.ref D, _, laid_none (s := s1) (t' := tk) I1 hkk hD1 new, rfl, q D (I1.hok.gone hD1)⟩
end
end Lf
set_option Elab.async false
set_option linter.all false
set_option maxRecDepth 100000
set_option maxHeartbeats 4000000
namespace Lf
open PySem PySem.Spec PyProof.Rows L2 L2H HotX LamX
/-! ### a def that is handed the exception that is handled -/
abbrev SpE := (Addr × Obj) → Hp → VK → Prop
structure FnE (P : Program) (w : World) (K : PySem.W.Frag) (mg : Str → Option Value) (base : Heap) (k : Nat) (f : Addr) (fd : FuncData) (x : Str) (sp : SpE) : Prop where
  run : ∀ (A : Around) (outer : List Env) (s : Shared) (H : Hp) (args : Args) (Q : VK) (p : Addr × Obj), RoomH k A → Hot1 A p → PinOk outer H s p → Env0 P w K mg base A outer s H → BindsTo s fd args [(x, .ref p.1)] → sp p H Q →
    codeAny (model P w) A (.call (.ref f) args) (CR L2.CX0 outer P w H s Q L2.E0) s
theorem fe_of {P : Program} {w : World} {K : PySem.W.Frag} {mg : Str → Option Value} {base : Heap} {k : Nat} {f : Addr} {name qual x : Str} {params : Arguments} {body : List Stmt} {scope : Scope} {dV kV doc pm cdv ct oc : Value} {an od : Option Addr} {osl : Array (Option Value)} {N : List Str} {sp : SpE}
    (lk : K.lookup f = some ⟨oc, od, .func (PySem.W.fnOf name qual params body scope dV kV doc pm an cdv ct), osl⟩) (hcd : PySem.W.codeIn K cdv qual = true) (S : FnScope N [x] scope)
    (hb : ∀ (A : Around) (outer : List Env) (s : Shared) (H : Hp) (Q : VK) (p : Addr × Obj), Hot1 A p → RoomH k (A.deeper (envOfC qual scope s.heap.objs.size f cdv)) → sp p H Q →
      ∃ t, PSs (cxH L2.CX0 P w K mg base N qual scope f cdv A outer s H L2.E0 p) body t ∧ t { nx := fun _ H' => Q .non H', rt := Q } (L2.start N [.ref p.1]) H) :
    FnE P w K mg base (k + 1) f (PySem.W.fnOf name qual params body scope dV kV doc pm an cdv ct) x sp := by
  refine ⟨fun A outer s H args Q p hr hot hpin e0 hbd hsp => ?_⟩
  have KX : K.In s.heap := e0.mod.kin.keeps fun b o e => (e0.bs b o e).1
  have lim : s.heap.NoLimit := e0.mod.nolimit.keeps fun b o e => (e0.bs b o e).1
  have hk : ∀ y ∈ ([x].zip [Value.ref p.1]), scope.names.lookup y.1 = some .local ∨ (scope.names.lookup y.1 = some .cell ∧ ((cellsFrom (s.heap.objs.size + 1) scope.names []).lookup y.1).isSome = true) := fun ⟨n, v⟩ hy => by
    rcases S.par n (List.of_mem_zip hy).1 with q | q
    · exact .inl q
    · exact .inr ⟨q, PySem.W.cellsFrom_some _ _ _ (.inl q)⟩
  refine codeAny_call_function hr.depth (KX _ _ lk) rfl S.co S.gen rfl (PySem.W.codeRec_of KX hcd) (hbd _ _ _ _ ?_)
  refine wpAny_newFunctionEnv_cells S.kind hk fun env he s1 z => ?_
  subst he
  refine ⟨lim.keeps z.toInCall.keep, codeAny_func ?_⟩
  obtain ⟨t, ht, hq⟩ := hb A outer s H Q p hot (hr.deeper _) hsp
  have I : Inv (cxH L2.CX0 P w K mg base N qual scope f cdv A outer s H L2.E0 p) [] (L2.start N [.ref p.1]) H s1 := inv_startH (ps := [x]) (us := [.ref p.1]) S hpin e0 rfl (.cons rfl .nil) z
  refine wpAny_mono (ht.run [] s1 _ H _ I hq) (fun fl s' hs => ?_) fun e s' hs => hs
  cases fl with
  | ret u =>
    obtain ⟨v, σ', H', J, rv, q⟩ := hs
    exact ⟨v, H', J.os, J.bare, J.base, J.hok, rv, q⟩
  | next =>
    obtain ⟨σ', H', J, q⟩ := hs
    exact ⟨V.non, H', J.os, J.bare, J.base, J.hok, (rfl : (Value.none) = Value.none), q⟩
  | brk =>
    obtain ⟨_, _, _, q⟩ := hs
    exact False.elim q
  | cont =>
    obtain ⟨_, _, _, q⟩ := hs
    exact False.elim q
/-- f(e), e the exception that the suite holds -/
theorem pe_callE {X : Cx} {k i : Nat} {f a : Addr} {oe : Obj} {fd : FuncData} {x y z : Str} {sp : SpE} {q q2 pos : Pos} (F : FnE X.prog X.w X.K X.mg X.base k f fd z sp) (hr : RoomH k X.A) (hot : Hot1 X.A (a, oe)) (hp : (a, oe) ∈ X.pn) (hg : Gl X x) (hm : X.mg x = some (.ref f)) (hk : PySem.W.keepIn X.K (.ref f) = true) (hb : Binds X.K fd [z] [])
    (hN : X.N[i]? = some y) (hv : Vis X.env.scope y) (hdb : (x == ("__debug__" : Str)) = false := by decide) (hd : (y == ("__debug__" : Str)) = false := by decide) (hcd : (y == ("__classdict__" : Str)) = false := by decide) :
    PE X (.Call (.Name x q) [.Name y q2] [] pos) (fun σ H Q => σ[i]? = some (some (.ref a)) ∧ sp (a, oe) H Q) := by
  refine ⟨fun pins s σ H Q I h => ?_⟩
  obtain ⟨hs, hq⟩ := h
  refine wpAny_Call_Name_kw (ld_glob I hg hm ?_ hdb)
  have ha : PA X [.Name y q2] (tCons (tVar i) tNil) := pa_cons (pe_var hN hv hd hcd) pa_nil
  refine PySem.W.callWith_K (h₀ := X.base) I.ok.mod.kin hk (thn (ha.run pos pins s σ H (fun vs H1 => vs = [V.ref a] ∧ H1 = H) I ⟨_, hs, rfl, rfl⟩) fun us s1 hh => ?_) rfl rfl
  obtain ⟨vs, H1, I1, r, ev, eH⟩ := hh
  subst ev
  subst eH
  refine ⟨I1.kIn, ?_⟩
  obtain rfl := Vals.ref1 r
  have b := hb s1 [.ref a] I1.kIn rfl
  have P1 := I1.pin (a, oe) (List.mem_append_left _ hp)
  have hpin : PinOk X.stack H1 s1 (a, oe) := ⟨P1.1, P1.2.1, fun hm => (List.mem_cons.mp (I1.stkSub a hm)).elim P1.2.2.1 P1.2.2.2.1, P1.2.2.2.2⟩
  refine wpAny_call (codeAny_mono (F.run X.A X.stack s1 H1 ⟨[.ref a], []⟩ Q (a, oe) hr hot hpin I1.env0 (by simpa using b) hq) fun r s' hq => ?_)
  cases r with
  | error e => exact (show False from hq).elim
  | ok fl =>
    cases fl with
    | ret u => exact I1.after hq
    | next => exact False.elim hq
    | brk => exact False.elim hq
    | cont => exact False.elim hq
/-! ### _law_word -/
/-- what is known of the eight classes of errors and of the one at C, the j-th -/
structure Ew (K : PySem.W.Frag) (cs : List Addr) (C : Addr) (j : Nat) : Prop where
  len : cs.length = 8
  at_ : cs[j]? = some C
  exc : ExcC K C
  kit : ∀ (i : Nat) D, cs[i]? = some D → PySem.W.kitOne K (.ref C) (.ref D) = some (decide (i = j))
  kv : PySem.W.kitOne K (.ref C) (.type "ValueError") = some true
/-- the j-th word -/
def ewords : List Str := ["BadName", "BadAsk", "BadMarks", "BadPlaces", "BadNumber", "NoName", "Nothing", "BadText"]
def bits (j : Nat) : List Bool := (List.range 8).map fun i => decide (i = j)
def spWord (K : PySem.W.Frag) (cs : List Addr) : SpE := fun p H Q => ∃ C j w, Zc (.ref C) none p.2 ∧ (∃ vs, p.2.data = .fields vs) ∧ Ew K cs C j ∧ ewords[j]? = some w ∧ ∀ H', (∀ b o, H b = some o → H' b = some o) → Q (.str w) H'
end Lf
set_option Elab.async false
set_option linter.all false
set_option maxRecDepth 100000
set_option maxHeartbeats 4000000
namespace Lf
open PySem PySem.Spec PyProof.Rows L2 L2H HotX LamX
/-! ### a lambda without parameters, called by the def that got it; what it raises is told whole -/
abbrev lamN (X : Cx) (A : Around) (outer : List Env) (s : Shared) (H : Hp) (E : XK) (scope : Scope) (f c' : Addr) : Cx :=
  (lamCx X A outer s H E scope f c').wish fun e s' => wpAny (model X.prog X.w) (A.deeper (lamEnv X scope s.heap.objs.size f c')) (leaving (lamEnv X scope s.heap.objs.size f c') e) (fun _ s'' => L2N.CX X.prog X.w outer H s E e s'') (fun e' s'' => L2N.CX X.prog X.w outer H s E e' s'') s'
section
variable {X : Cx} {pins : List (Addr × Obj)} {σ : L2.St} {H HZ : Hp} {s s1 : Shared}
theorem act_n {CXg : CXT} {Eg : XK} {Ng : List Str} {qg : Str} {sg : Scope} {g f c' : Addr} {cdg pm ctv : Value} {params : Arguments} {body : Expr} {scope : Scope} {k i : Nat} {a : Str} {pn : List (Addr × Obj)} {xe : Value → Shared → Prop} {W : WX} {E : XK} {tb : TE} {p1 p2 : Pos}
    (I : Inv X pins σ H s) (L : LamS X.env.scope scope) (hf : s.heap.get? f = some (PySem.W.kla_obj "<lambda>" (X.env.qual ++ "<lambda>") params body scope (cloFrom X.env.cells scope.names []) pm c' ctv)) (hfn : H f = none) (hfr : f ∉ frs X.stack)
    (hbind : bindArgs (PySem.W.kla_fn "<lambda>" (X.env.qual ++ "<lambda>") params body scope (cloFrom X.env.cells scope.names []) pm (.ref c') ctv) ⟨[], []⟩ = pure [])
    (tk : L2N.Takes ((cxOf CXg X.prog X.w X.K X.mg X.base Ng qg sg g cdg X.A X.stack s H Eg).tr pn xe) W) (hW : ∀ cls d (σ' : L2.St) H', σ'.length = Ng.length → E cls d H' → W cls d σ' H') (hr : Room (k + 1) (X.A.deeper (envOfC qg sg s.heap.objs.size g cdg)))
    (hbody : ∀ (A : Around) (outer : List Env) (s : Shared) (H : Hp), Room k (A.deeper (lamEnv X scope s.heap.objs.size f c')) → PE (lamN X A outer s H E scope f c') body tb)
    (hN : Ng[i]? = some a) (hv : Vis sg a) (hd : (a == ("__debug__" : Str)) = false) (hcd : (a == ("__classdict__" : Str)) = false) :
    PE ((cxOf CXg X.prog X.w X.K X.mg X.base Ng qg sg g cdg X.A X.stack s H Eg).tr pn xe) (.Call (.Name a p1) [] [] p2)
      (fun σZ HZ Q => σZ[i]? = some (some (.ref f)) ∧ HZ c' = some (CodeO c' (X.env.qual ++ "<lambda>")) ∧ tb σ HZ Q) := by
  refine ⟨fun pinsZ sZ σZ HZ Q IZ h => ?_⟩
  obtain ⟨hs, hc, ht⟩ := h
  refine wpAny_Call_Name_kw (thn ((pe_var (pos := p1) (i := i) hN hv hd hcd).run pinsZ sZ σZ HZ (fun v H1 => v = .ref f ∧ H1 = HZ) IZ ⟨.ref f, hs, rfl, rfl⟩) fun u s1 hu => ?_)
  obtain ⟨v, H1, I1, r1, rfl, rfl⟩ := hu
  obtain rfl : u = Value.ref f := r1
  have of1 := I1.base.keep f _ hf hfn hfr (fun z => nomatch (show f ∈ ([] : List Addr) from z))
  refine PySem.W.callWith_F0 ⟨_, _, _, _, of1⟩ ?_
  have un : Un (frs X.stack) [] H H1 s.heap s1.heap := I1.base
  obtain ⟨⟨oc, vs, t, hoc, hdc, hvc⟩, _, _⟩ := I1.hok c' _ hc
  have rc : codeAny (model X.prog X.w) (X.A.deeper (envOfC qg sg s.heap.objs.size g cdg)) (.call (.ref f) ⟨[], []⟩) (CR (L2N.CX X.prog X.w) (envOfC qg sg s.heap.objs.size g cdg :: X.stack) X.prog X.w H1 s1 Q E) s1 := by
    refine PySem.W.kla_callFunE hr.depth of1 rfl L.co L.gen rfl ⟨c', oc, vs, t, rfl, hoc, hdc, hvc⟩ ?_
    rw [hbind]
    refine wpAny_pure (wpAny_newFunctionEnv (fun y hy => (L.own y hy).2) (fun y hy => absurd hy (by simp)) (fun h1 hns hsb => ⟨I1.nolimit.fresh _ hsb, ?_⟩) L.kind)
    show codeAny _ _ (.expr body (lamEnv X scope s1.heap.objs.size f c')) _ _
    have kp : ∀ b o, s1.heap.get? b = some o → h1.get? b = some o := fun b o e => hsb.extBut b o (Nat.ne_of_lt (Heap.lt_size e)) (Heap.get?_push_of_some _ e)
    have J0 : Inv (lamCx X (X.A.deeper (envOfC qg sg s.heap.objs.size g cdg)) (envOfC qg sg s.heap.objs.size g cdg :: X.stack) s1 H1 E scope f c') [] σ H1 { s1 with heap := h1, toks := s1.toks + ([] : List (Str × Value)).length } :=
      lam_start2 I L I1.env0 hr.hd un hns kp
    have J : Inv (lamN X (X.A.deeper (envOfC qg sg s.heap.objs.size g cdg)) (envOfC qg sg s.heap.objs.size g cdg :: X.stack) s1 H1 E scope f c') [] σ H1 { s1 with heap := h1, toks := s1.toks + ([] : List (Str × Value)).length } := J0.wish _
    refine PySem.W.kla_codeExpr (wpAny_mono ((hbody _ _ s1 H1 (hr.deeper _)).run [] _ _ H1 Q J ht) (fun v s' hq => ?_) fun e s' hq => hq)
    obtain ⟨w', H', J', rv, q⟩ := hq
    exact ⟨w', H', J'.os, J'.bare, J'.base, J'.hok, rv, q⟩
  have hx : Passes (L2N.CX X.prog X.w) ((cxOf CXg X.prog X.w X.K X.mg X.base Ng qg sg g cdg X.A X.stack s H Eg).tr pn xe) E := fun _ σ' _ _ e s' I' c => tk e s' (L2N.XE.of_call I' (fun cls d H' h => hW cls d σ' H' I'.len h) c)
  refine wpAny_call (codeAny_mono rc fun r s' hq => ?_)
  cases r with
  | error e => exact hx pinsZ σZ H1 s1 e s' I1 hq
  | ok fl =>
    cases fl with
    | ret u => exact I1.after hq
    | next => exact False.elim hq
    | brk => exact False.elim hq
    | cont => exact False.elim hq
end
/-- the def that calls what it got -/
def GivesN (X : Cx) (Ng : List Str) (x : Str) (sg : Scope) (g : Addr) (cdg : Value) (bg : List Stmt) (a : Str) (q : Str) (TT : (XK → Hp → VK → Prop) → Hp → VK → Prop) : Prop :=
  ∀ (f c' : Addr) (s : Shared) (H : Hp) (Q : VK) (tl : XK → Hp → VK → Prop), RoomH 2 (X.A.deeper (envOfC x sg s.heap.objs.size g cdg)) →
    (∀ (W : WX) (pn : List (Addr × Obj)) (xe : Value → Shared → Prop) (E : XK) (p1 p2 : Pos), L2N.Takes ((cxOf L2.CX0 X.prog X.w X.K X.mg X.base Ng x sg g cdg X.A X.stack s H L2.E0).tr pn xe) W → (∀ cls d (σ' : L2.St) H', σ'.length = Ng.length → E cls d H' → W cls d σ' H') →
      PE ((cxOf L2.CX0 X.prog X.w X.K X.mg X.base Ng x sg g cdg X.A X.stack s H L2.E0).tr pn xe) (.Call (.Name a p1) [] [] p2) (fun σZ HZ Q => σZ[0]? = some (some (.ref f)) ∧ HZ c' = some (CodeO c' q) ∧ tl E HZ Q)) →
    H c' = some (CodeO c' q) → TT tl H Q →
    ∃ t, PSs (cxOf L2.CX0 X.prog X.w X.K X.mg X.base Ng x sg g cdg X.A X.stack s H L2.E0).nox bg t ∧ t { nx := fun _ H' => Q .non H', rt := Q } (L2.start Ng [.ref f]) H
section
variable {X : Cx}
/-- x(lambda: body) -/
theorem lamcall_n {T : List (Addr × Str)} {TT : (XK → Hp → VK → Prop) → Hp → VK → Prop} {x a : Str} {g c P : Addr} {k : Nat} {pg : Arguments} {bg : List Stmt} {sg : Scope} {dV kV doc pm cdv ct oc : Value} {an od : Option Addr} {osl : Array (Option Value)} {Ng : List Str}
    {params : Arguments} {body : Expr} {scope : Scope} {t : XK → TE} {p lpos pos : Pos} (hg : Gl X x) (hm : X.mg x = some (.ref g)) (hk : PySem.W.keepIn X.K (.ref g) = true)
    (lk : X.K.lookup g = some ⟨oc, od, .func (PySem.W.fnOf x x pg bg sg dV kV doc pm an cdv ct), osl⟩) (hcg : PySem.W.codeIn X.K cdv x = true) (hb : L2.Binds X.K (PySem.W.fnOf x x pg bg sg dV kV doc pm an cdv ct) [a] []) (Sg : FnScope Ng [a] sg) (hNg : Ng[0]? = some a) (hva : Vis sg a)
    (hG : GivesN X Ng x sg g cdv bg a (X.env.qual ++ "<lambda>") TT) (TB : TabB X.base X.mg c P) (hcode : X.env.code = .ref c) (hmT : (P, X.env.qual ++ "<lambda>") ∈ T) (hu : ∀ p ∈ T, p.1 = P → p.2 = X.env.qual ++ "<lambda>") (hr : Room (k + 3) X.A) (L : LamS X.env.scope scope) (hdef : defaultsOf params X.env = ([], []))
    (hbind : ∀ (q : Str) (cl : List (Str × Addr)) (pm cv ctv : Value), bindArgs (PySem.W.kla_fn "<lambda>" q params body scope cl pm cv ctv) ⟨[], []⟩ = pure [])
    (hbody : ∀ (A : Around) (outer : List Env) (s : Shared) (H : Hp) (E : XK) (f c' : Addr), Room (k + 1) (A.deeper (lamEnv X scope s.heap.objs.size f c')) → PE (lamN X A outer s H E scope f c') body (t E))
    (hdb : (x == ("__debug__" : Str)) = false := by decide) (hd : (a == ("__debug__" : Str)) = false := by decide) (hcd : (a == ("__classdict__" : Str)) = false := by decide) :
    PE X (.Call (.Name x p) [.Lambda params body scope lpos] [] pos) (tLam T TT t) := by
  refine ⟨fun pins s σ H Q I h => ?_⟩
  obtain ⟨hT, h⟩ := h
  refine wpAny_Call_Name_kw (ld_glob I hg hm ?_ hdb)
  refine PySem.W.callWith_K (h₀ := X.base) I.ok.mod.kin hk ?_ (by rfl) (by rfl)
  show wpAny _ _ (spliced ((false, eval (.Lambda params body scope lpos) X.env) :: backTo pos (starEach [] X.env))) _ _ s
  refine Calls.spliced_cons (lam_make2 I TB hcode hmT hu hT hdef (L.has I.ok) fun f c' pm' ctv H1 s' I1 eN T1 hf hfn hfr hco => ?_)
  refine Calls.spliced_nil ⟨I1.kIn, ?_⟩
  have rc : codeAny (model X.prog X.w) X.A (.call (.ref g) ⟨[.ref f], []⟩) (CR L2.CX0 X.stack X.prog X.w H1 s' Q L2.E0) s' := by
    refine run_ofS (k := k + 2) (N := Ng) (ps := [a]) (us := [.ref f]) (vs := [.ref f]) lk hcg Sg hr I1.env0 (hb s' [.ref f] I1.kIn rfl) (.cons rfl .nil) rfl fun hr' => ?_
    obtain ⟨t', ht', hq'⟩ := hG f c' s' H1 Q (fun E H' Q' => t E σ H' Q') (roomH_of (hr'.mono (by omega))) (fun W pn xe E p1 p2 tk hW => act_n (k := k + 1) (i := 0) I1 L hf hfn hfr (hbind _ _ _ _ _) tk hW hr' (fun A outer s H hr2 => hbody A outer s H E f c' hr2) hNg hva hd hcd) hco (h H1 eN T1)
    exact ⟨t', ht'.nox, hq'⟩
  refine wpAny_call (codeAny_mono rc fun r s2 hq => ?_)
  cases r with
  | error e => exact (show False from hq).elim
  | ok fl =>
    cases fl with
    | ret u => exact I1.after hq
    | next => exact False.elim hq
    | brk => exact False.elim hq
    | cont => exact False.elim hq
theorem takesN0 {X : Cx} : L2N.Takes X (fun _ _ _ _ => False) := fun _ _ x => by
  obtain ⟨_, _, _, _, _, _, _, _, _, _, _, _, _, _, _, _, z⟩ := x
  exact z.elim
/-- try: return a() / except x as e: return f(e) -/
def TTw (K : PySem.W.Frag) (CS : Addr) (sp : Value → Hp → VK → Prop) : (XK → Hp → VK → Prop) → Hp → VK → Prop := fun tl H Q => tl (fun cls d H' => d = none ∧ PySem.W.exmOne K cls (.ref CS) = some true ∧ sp cls H' Q) H Q
theorem word_gives {Ng : List Str} {x a e n y z q : Str} {sg : Scope} {g CS fw : Addr} {fdw : FuncData} {cdg : Value} {spw : SpE} {sp : Value → Hp → VK → Prop} {p1 p2 p3 p4 p5 p6 p7 p8 p9 p10 p11 : Pos} (hk : sg.kind = .function) (hge : sg.names.lookup e = some .globalImplicit) (hme : X.mg e = some (.ref CS)) (hde : (e == ("__debug__" : Str)) = false) (h0 : ∀ f : Addr, (L2.start Ng [V.ref f])[0]? = some (some (V.ref f)))
    (hN : Ng.Nodup) (hn : Ng[1]? = some n) (hln : sg.names.lookup n = some .local) (h1 : ∀ (f a : Addr), ((L2.start Ng [V.ref f]).set 1 (some (.ref a)))[1]? = some (some (V.ref a))) (hnd : (n == ("__debug__" : Str)) = false) (hncd : (n == ("__classdict__" : Str)) = false)
    (Fw : FnE X.prog X.w X.K X.mg X.base 1 fw fdw z spw) (hgw : sg.names.lookup y = some .globalImplicit) (hmw : X.mg y = some (.ref fw)) (hkw : PySem.W.keepIn X.K (.ref fw) = true) (hbw : Binds X.K fdw [z] []) (hyd : (y == ("__debug__" : Str)) = false)
    (hsp : ∀ cls a oe H Q, L2N.Zn cls none oe → (∃ vs, oe.data = .fields vs) → sp cls H Q → spw (a, oe) H Q) :
    GivesN X Ng x sg g cdg [.Try [.Return (some (.Call (.Name a p1) [] [] p2)) p3] [.ExceptHandler (some (.Name e p4)) (some n) [.Return (some (.Call (.Name y p5) [.Name n p6] [] p9)) p10] p7] [] [] p8] a q (TTw X.K CS sp) := by
  intro f c' s H Q tl hr act hc h
  have hgl : Gl (cxOf L2.CX0 X.prog X.w X.K X.mg X.base Ng x sg g cdg X.A X.stack s H L2.E0).nox e := hge
  refine ⟨_, pss_one (L2N.ps_try_as (X := (cxOf L2.CX0 X.prog X.w X.K X.mg X.base Ng x sg g cdg X.A X.stack s H L2.E0).nox) (i := 1) (n := n) (c := .ref CS) (Wout := fun _ _ _ _ => False)
      (tb := fun W D σ H => ∃ Ech : XK, (∀ cls d (σ' : L2.St) H', σ'.length = Ng.length → Ech cls d H' → W cls d σ' H') ∧ σ[0]? = some (some (.ref f)) ∧ H c' = some (CodeO c' q) ∧ tl Ech H D.rt)
      (ts := fun a cls d D σ H => d = none ∧ σ[1]? = some (some (.ref a)) ∧ sp cls H D.rt)
      rfl rfl hN hn hln ⟨hgl, hde, .inl hme⟩ takesN0 (fun W pn xe tk _ => ?_) (fun ea oe cls d pn hz hf => ?_)), ?_⟩
  · refine ⟨fun pins s' σ H' D I h' => ?_⟩
    obtain ⟨Ech, hW, e1, e2, e3⟩ := h'
    exact (pss_one (ps_ret (pos := p3) (act W pn xe Ech p1 p2 tk hW))).run pins s' σ H' D I ⟨e1, e2, e3⟩
  · refine ⟨fun pins s' σ H' D I h' => ?_⟩
    obtain ⟨rfl, e1, e2⟩ := h'
    obtain ⟨vs, hv⟩ := hf
    have hot : Hot1 ((cxOf L2.CX0 X.prog X.w X.K X.mg X.base Ng x sg g cdg X.A X.stack s H L2.E0).nox.suite ea ((ea, oe) :: pn)).A (ea, oe) := ⟨rfl, vs, hv, hz.2.2 vs hv⟩
    have hrm : RoomH 1 ((cxOf L2.CX0 X.prog X.w X.K X.mg X.base Ng x sg g cdg X.A X.stack s H L2.E0).nox.suite ea ((ea, oe) :: pn)).A := ⟨(hr.mono (show 1 ≤ 2 by decide)).dp, (hr.mono (show 1 ≤ 2 by decide)).un⟩
    exact (pss_one (ps_ret (pos := p10) (pe_callE (X := (cxOf L2.CX0 X.prog X.w X.K X.mg X.base Ng x sg g cdg X.A X.stack s H L2.E0).nox.suite ea ((ea, oe) :: pn)) (q := p5) (q2 := p6) (pos := p9) (i := 1) Fw hrm hot List.mem_cons_self hgw hmw hkw hbw hn (.inl hln) hyd hnd hncd))).run pins s' σ H' D I ⟨e1, hsp cls ea oe H' _ hz ⟨vs, hv⟩ e2⟩
  · refine ⟨fun cls d H' => d = none ∧ PySem.W.exmOne X.K cls (.ref CS) = some true ∧ sp cls H' Q, fun cls d σ' H' hl hE => ?_, h0 f, hc, h⟩
    obtain ⟨rfl, e1, e2⟩ := hE
    exact ⟨true, e1, fun _ ea _ => ⟨rfl, by rw [List.getElem?_set_self (by rw [hl]; exact List.getElem?_eq_some_iff.mp hn |>.1)], e2⟩, fun z => by cases z⟩
end
end Lf
set_option Elab.async false
set_option linter.all false
set_option maxRecDepth 100000
set_option maxHeartbeats 4000000
namespace Lf
open PySem PySem.Spec PyProof.Rows L2 L2H HotX LamX
/-! ### _law_told(lambda: ..) by data -/
def tRes {Kf : PySem.W.Frag} {Tf : List (Addr × Str)} (F : Fx Kf Tf) (δ : List Slot) : Res → TE
  | .ok d => tD F δ d
  | .error C => tDX F δ C
abbrev Fx.at_ {Kf : PySem.W.Frag} {Tf : List (Addr × Str)} (F : Fx Kf Tf) (E : XK) : Fx Kf Tf := ⟨F.O0, F.Hin, E, F.h0⟩
theorem StAt.reE {Kf : PySem.W.Frag} {Tf : List (Addr × Str)} {F : Fx Kf Tf} {O : Addr → Prop} {H : Hp} {σ : L2.St} {δ : List Slot} (E : XK) (h : StAt F O H σ δ) : StAt (F.at_ E) O H σ δ :=
  ⟨h.len, h.o0, h.dom, h.tabs, h.ext, fun i s q => by
    have g := h.slot i s q
    cases s <;> exact g, h.apart, h.afar⟩
/-- what is told of a result -/
def ToldIs (K : PySem.W.Frag) (cs : List Addr) (CS : Addr) (z : PyData) : Res → Prop
  | .ok d => z = d
  | .error C => ∃ j w, Ew K cs C j ∧ PySem.W.exmOne K (.ref C) (.ref CS) = some true ∧ ewords[j]? = some w ∧ z = .str w
structure ToldG (P : Program) (w : World) (K : PySem.W.Frag) (mg : Str → Option Value) (base : Heap) (cs : List Addr) (CS : Addr) (st : Stmt) : Prop where
  d : ∃ g fd, Fun K "_law_told" "_law_told" st g fd ∧ mg "_law_told" = some (.ref g) ∧ Binds K fd ["deed"] []
  sc : FnScope ["deed", "e"] ["deed"] (defScope st)
  bd : ∃ p1 p2 p3 p4 p5 p6 p7 p8 p9 p10, defBody st = [.Try [.Return (some (.Call (.Name "deed" p1) [] [] p2)) p3] [.ExceptHandler (some (.Name "FindError" p4)) (some "e") [.Return (some (.Call (.Name "_law_word" p5) [.Name "e" p6] [] p9)) p10] p7] [] [] p8]
  s1 : (defScope st).names.lookup ("FindError" : Str) = some .globalImplicit
  s2 : (defScope st).names.lookup ("_law_word" : Str) = some .globalImplicit
  s3 : (defScope st).names.lookup ("e" : Str) = some .local
  s4 : (defScope st).names.lookup ("deed" : Str) = some .local
  cls : mg "FindError" = some (.ref CS)
  word : ∃ fw fdw, FnE P w K mg base 1 fw fdw "e" (spWord K cs) ∧ mg "_law_word" = some (.ref fw) ∧ PySem.W.keepIn K (.ref fw) = true ∧ Binds K fdw ["e"] []
structure Co (X : Cx) (c : Addr) (q : Str) : Prop where
  code : X.env.code = .ref c
  qual : X.env.qual = q
abbrev Lamb (X : Cx) (N : List Str) {Kf : PySem.W.Frag} {Tf : List (Addr × Str)} (F : Fx Kf Tf) (scope : Scope) (k : Nat) (φ : Cx → Fx Kf Tf → Prop) : Prop :=
  ∀ (A : Around) (outer : List Env) (s : Shared) (H : Hp) (E : XK) (f c' : Addr), Ctx (lamN X A outer s H E scope f c') N scope → L2N.Takes (lamN X A outer s H E scope f c') (fun cls d _ H => (F.at_ E).E cls d H) → Room (k + 1) (lamN X A outer s H E scope f c').A → φ (lamN X A outer s H E scope f c') (F.at_ E)
section
variable {Kf : PySem.W.Frag} {Tf : List (Addr × Str)} {F : Fx Kf Tf} {δ : List Slot} {X : Cx} {N : List Str} {sc : Scope} {pos p lpos : Pos}
theorem x_told {cs : List Addr} {CS c P : Addr} {q : Str} {st : Stmt} {k : Nat} {z : PyData} {r : Res} {params : Arguments} {body : Expr} {scope : Scope} (cx : Ctx X N sc) (co : Co X c q) (Z : ToldG X.prog X.w X.K X.mg X.base cs CS st) (TB : TabB X.base X.mg c P) (hm : (P, q ++ "<lambda>") ∈ Tf) (hu : ∀ p ∈ Tf, p.1 = P → p.2 = q ++ "<lambda>")
    (hr : Room (k + 3) X.A) (hz : ToldIs X.K cs CS z r) (hb : Lamb X N F scope k fun Y F' => PE Y body (tRes F' δ r)) (L : lamSB sc scope = true := by decide +kernel) (hg : sc.names.lookup ("_law_told" : Str) = some .globalImplicit := by rfl) (hdef : defaultsOf params X.env = ([], []) := by rfl)
    (hbind : ∀ (q : Str) (cl : List (Str × Addr)) (pm cv ctv : Value), bindArgs (PySem.W.kla_fn "<lambda>" q params body scope cl pm cv ctv) ⟨[], []⟩ = pure [] := by intros; rfl) :
    PE X (.Call (.Name "_law_told" p) [.Lambda params body scope lpos] [] pos) (tD F δ z) := by
  obtain ⟨g, fd, Fn, gm, gb⟩ := Z.d
  obtain ⟨oc, od, kV, doc, pm, an, cdv, ct, osl, rfl, lk, hcd⟩ := Fn.ex
  obtain ⟨p1, p2, p3, p4, p5, p6, p7, p8, p9, p10, eb⟩ := Z.bd
  obtain ⟨fw, fdw, Fw, wm, wk, wb⟩ := Z.word
  have hG : GivesN X ["deed", "e"] "_law_told" (defScope st) g cdv (defBody st) "deed" (X.env.qual ++ "<lambda>") (TTw X.K CS fun cls H Q => ∃ C j w, cls = .ref C ∧ Ew X.K cs C j ∧ ewords[j]? = some w ∧ ∀ H', (∀ b o, H b = some o → H' b = some o) → Q (.str w) H') := by
    rw [eb]
    refine word_gives (p11 := p1) Z.sc.kind Z.s1 Z.cls (by decide) (fun f => rfl) Z.sc.nd rfl Z.s3 (fun f a => rfl) (by decide) (by decide) Fw Z.s2 wm wk wb (by decide) fun cls a oe H Q zn hf h => ?_
    obtain ⟨C, j, w, rfl, ew, hw, hq⟩ := h
    exact ⟨C, j, w, zn.zc, hf, ew, hw, hq⟩
  refine wkE (lamcall_n (T := Tf) (k := k) (Ng := ["deed", "e"]) (t := fun E => tRes (F.at_ E) δ r) (cx.gl hg) gm Fn.kp lk hcd gb Z.sc rfl (.inl Z.s4) hG TB co.code (by rw [co.qual]; exact hm) (by rw [co.qual]; exact hu) hr (by rw [cx.s]; exact lamS_by L) hdef hbind
    (fun A outer s H E f c' hr' => hb A outer s H E f c' ⟨cx.n, rfl, cx.nd, rfl⟩ (L2N.takes_of rfl rfl rfl rfl) hr')) fun σ H Q h => ?_
  obtain ⟨O, st, w⟩ := h
  refine ⟨st.tabs, fun H1 e1 t1 => ?_⟩
  show tRes (F.at_ _) δ r σ H1 Q
  cases r with
  | ok d =>
    cases (show z = d from hz)
    exact ⟨O, (st.grow e1 t1).reE _, fun v H2 e2 t2 g2 => w v H2 (e1.trans e2) t2 g2⟩
  | error C =>
    obtain ⟨j, wd, ew, exm, hw, rfl⟩ := hz
    refine ⟨O, (st.grow e1 t1).reE _, fun H2 e2 t2 => ⟨rfl, exm, C, j, wd, rfl, ew, hw, fun H3 k3 => ?_⟩⟩
    exact w _ _ ((e1.trans e2).trans fun a o g _ => k3 a o g) (t2.ext k3) rfl
end
/-! ### the law itself -/
def spLaw (T : List (Addr × Str)) (K : PySem.W.Frag) (R : List Int → Prop) : Sp := fun vs H Q _ => ∃ a ns, vs = [.ref a] ∧ SqL K H a (ns.map V.int) ∧ Tabs T H ∧ R ns ∧ ∀ H', Q (.bl true) H'
def startL (N : List Str) (ns : List Int) : List Slot := .scr ns :: List.replicate (N.length - 1) .non
theorem fn_law {G : Pg} {st : Stmt} {x : Str} {f c : Addr} {N : List Str} {p0 : Str} {k : Nat} {T : List (Addr × Str)} {R : List Int → Prop} {oc kV doc pm ct : Value} {od an : Option Addr} {osl : Array (Option Value)}
    (lk : G.K.lookup f = some ⟨oc, od, .func (PySem.W.fnOf x x (defArgs st) (defBody st) (defScope st) .none kV doc pm an (.ref c) ct), osl⟩) (hcd : PySem.W.codeIn G.K (.ref c) x = true) (S : FnScope N [p0] (defScope st))
    (body : ∀ (r : Rest) (F : Fx G.K T) (ns : List Int), CtD (G.cx N r) N (defScope st) F.E → Co (G.cx N r) c (x ++ ".<locals>.") → Room k r.A → R ns → PSs (G.cx N r) (defBody st) (sD F (startL N ns) { nx := fun _ => False, rt := fun d => d = .bool true })) :
    FnOk G.prog G.w G.K G.mg G.base (L2N.CX G.prog G.w) (k + 1) f (PySem.W.fnOf x x (defArgs st) (defBody st) (defScope st) .none kV doc pm an (.ref c) ct) [p0] (spLaw T G.K R) := by
  refine fn_of lk hcd S (fun vs H Q E h => ?_) fun A outer s H vs Q E hr h => ?_
  · obtain ⟨a, ns, rfl, _⟩ := h
    rfl
  · obtain ⟨a, ns, rfl, hs, tb, hR, q⟩ := h
    refine ⟨_, body ⟨A.deeper (envOfC x (defScope st) s.heap.objs.size f (.ref c)), s, H, envOfC x (defScope st) s.heap.objs.size f (.ref c), outer, envOfC x (defScope st) s.heap.objs.size f (.ref c) :: outer, [], fun _ => true, true, [], _⟩ ⟨fun _ => False, H, E, fun _ z => z.elim⟩ ns ⟨⟨rfl, rfl, S.nd, rfl⟩, fun _ => rfl, passes_of rfl, L2N.takes_of rfl rfl rfl rfl, rfl, rfl⟩ ⟨rfl, rfl⟩ hr hR, fun _ => False, [], ?_, (fun _ z => by cases z), ?_⟩
    · have hp : 1 ≤ N.length := by
        have := congrArg List.length S.pre
        rw [List.length_take] at this
        simp at this
        omega
      refine ⟨?_, fun a z => z, fun _ z => z.elim, tb, ExtN.refl H, fun i u q => ?_, fun i j u w q n h1 h2 m1 m2 => ?_, fun i j R u n h1 h2 p hp => ?_⟩
      rotate_right
      · unfold startL at h1
        cases i with
        | zero => cases h1
        | succ i =>
          rw [List.getElem?_cons_succ, List.getElem?_replicate] at h1
          split at h1 <;> cases h1
      · simp [startL, L2.start]
      · unfold startL at q
        unfold L2.start
        cases i with
        | zero => cases q; exact ⟨a, rfl, hs⟩
        | succ i =>
          rw [List.getElem?_cons_succ, List.getElem?_replicate] at q
          split at q
          · cases q; trivial
          · cases q
      · have no : ∀ {i : Nat} {u : Slot}, (startL N ns)[i]? = some u → u.mine = false := fun {i u} q => by
          unfold startL at q
          cases i with
          | zero => cases q; rfl
          | succ i =>
            rw [List.getElem?_cons_succ, List.getElem?_replicate] at q
            split at q
            · cases q; rfl
            · cases q
        rw [no h1] at m1
        cases m1
    · exact ⟨fun δ O' σ' H' m => m.elim, fun d v H' m e t g => (by cases (show d = .bool true from m); rw [show v = V.bl true from g]; exact q H'), fun δ O' σ' H' m => m.elim, fun δ O' σ' H' m => m.elim, fun c H' m => m.elim, fun _ _ _ _ _ _ m => m.elim, fun _ _ _ _ _ m => m.elim⟩
end Lf
set_option Elab.async false
set_option linter.all false
set_option maxRecDepth 100000
set_option maxHeartbeats 4000000
namespace Lf
open PySem PySem.Spec PyProof.Rows L2 L2H HotX LamX
/-! ### lists of one kind -/
section
variable {Kf : PySem.W.Frag} {Tf : List (Addr × Str)} {F : Fx Kf Tf} {K : PySem.W.Frag} {ds : List PyData} {α : Type}
theorem mp_b {l : List α} {g : α → Bool} : (l.map fun x => PyData.bool (g x)) = (l.map g).map PyData.bool := by rw [List.map_map]; rfl
theorem mp_i {l : List α} {g : α → Int} : (l.map fun x => PyData.int (g x)) = (l.map g).map PyData.int := by rw [List.map_map]; rfl
theorem mp_t {l : List α} {g : α → List Nat} : (l.map fun x => tx (g x)) = (l.map g).map tx := by rw [List.map_map]; rfl
theorem cd_allD {bs : List Bool} (h : ds = bs.map PyData.bool) : ClD F (rAll K) [.list ds] (.bool (bs.all id)) := by subst h; exact cd_all
theorem cd_sumD {ns : List Int} (h : ds = ns.map PyData.int) : ClD F (rSum K) [.list ds] (.int ns.sum) := by subst h; exact cd_sum
theorem cd_joinD {ls : List (List Nat)} {m : List Nat} (h : ds = ls.map tx) (hz : (ls.map (·.length)).sum + ls.length * m.length ≤ 16777216) : MtD F (fun x xs H Q => ∃ a p, ∃ ys : List Str, x = .str a ∧ xs = [.ref p] ∧ (SqL K H p (ys.map V.str) ∨ SqT K H p (ys.map V.str)) ∧ (ys.map (·.length)).sum + ys.length * a.length ≤ 16777216 ∧ Q (.str (Txt.join a ys)) H)
    (tx m) [.list ds] (tx (TL.joinL m ls)) := by subst h; exact cd_join hz
end
/-! ### names: mirrors -/
def lSmall : List Nat := [97, 98, 99, 100, 101, 102, 103, 104, 105, 106, 107, 108, 109, 110, 111, 112, 113, 114, 115, 116, 117, 118, 119, 120, 121, 122]
def lGreat : List Nat := [65, 66, 67, 68, 69, 70, 71, 72, 73, 74, 75, 76, 77, 78, 79, 80, 81, 82, 83, 84, 85, 86, 87, 88, 89, 90]
def lFig : List Nat := [48, 49, 50, 51, 52, 53, 54, 55, 56, 57]
def lOth : List Nat := [95, 45, 47, 46, 32]
def isNm (l : List Nat) : Bool := decide (1 ≤ l.length) && decide (l.length ≤ 30) && l.all fun c => decide (c ∈ lSmall ++ lGreat ++ lFig ++ lOth)
def isAs (l : List Nat) : Bool := decide (l.length ≤ 8) && l.all fun c => decide (c ∈ lSmall ++ lGreat ++ lFig)
def cod : PyData → List Nat
  | .str s => s.cps.toList
  | _ => []
def isTx : PyData → Bool
  | .str _ => true
  | _ => false
def isName (d : PyData) : Bool := isTx d && isNm (cod d)
def isAsk (d : PyData) : Bool := isTx d && isAs (cod d)
def okd (d : PyData) : Prop := (cod d).length ≤ 10000
theorem cod_tx (l : List Nat) : cod (tx l) = l := by simp [cod, tx]
theorem isTx_tx (l : List Nat) : isTx (tx l) = true := rfl
theorem tx_of {d : PyData} (h : isTx d = true) : d = tx (cod d) := by
  cases d <;> first | exact str_tx _ | cases h
theorem okd_tx {l : List Nat} (h : l.length ≤ 10000) : okd (tx l) := by
  unfold okd
  rw [cod_tx]
  exact h
theorem isName_tx (l : List Nat) : isName (tx l) = isNm l := by simp [isName, isTx_tx, cod_tx]
theorem isAsk_tx (l : List Nat) : isAsk (tx l) = isAs l := by simp [isAsk, isTx_tx, cod_tx]
theorem kit_str {d : PyData} (h : isTx d = false) : kitB (tyN d) "str" = some false := by
  cases d <;> first | rfl | decide | cases h
def begins (l : List Nat) (i : Nat) : Bool :=
  let c := l.getD i 0
  let b := l.getD (i - 1) 0
  if c ∈ lOth then false else if i = 0 ∨ b ∈ lOth then true else if c ∈ lGreat then !decide (b ∈ lGreat) else !decide (decide (c ∈ lFig) = decide (b ∈ lFig))
def smallC (c : Nat) : Nat := if c ∈ lGreat then c + 32 else c
def startsL (l : List Nat) : List Nat := (List.range l.length).filter (begins l)
def natI (i : Nat) : PyData := .int (i : Int)
def firstL (l : List Nat) : List Nat := ((startsL l).map fun i => smallC (l.getD i 0)).take 8
theorem sm_great {c : Nat} (h : c ∈ lGreat) : 65 ≤ c ∧ c ≤ 90 := by
  simp [lGreat] at h
  omega
theorem sm_idx {c : Nat} (h : c ∈ lGreat) : Builtin.Str.occurrences ⟨lGreat.toArray⟩ ⟨[c].toArray⟩ 0 lGreat.length 1 = (c - 65) :: [] := by
  simp only [lGreat, List.mem_cons, List.not_mem_nil, or_false] at h
  rcases h with rfl | rfl | rfl | rfl | rfl | rfl | rfl | rfl | rfl | rfl | rfl | rfl | rfl | rfl | rfl | rfl | rfl | rfl | rfl | rfl | rfl | rfl | rfl | rfl | rfl | rfl <;> decide +kernel
theorem sm_at {c : Nat} (h : c ∈ lGreat) : atI lSmall ((c - 65 : Nat) : Int) = some (smallC c) := by
  unfold smallC
  rw [if_pos h]
  simp only [lGreat, List.mem_cons, List.not_mem_nil, or_false] at h
  rcases h with rfl | rfl | rfl | rfl | rfl | rfl | rfl | rfl | rfl | rfl | rfl | rfl | rfl | rfl | rfl | rfl | rfl | rfl | rfl | rfl | rfl | rfl | rfl | rfl | rfl | rfl <;> decide +kernel
def R_is_name (ds : List PyData) (r : Res) : Prop := ∃ d, ds = [d] ∧ okd d ∧ r = .ok (.bool (isName d))
def R_is_ask (ds : List PyData) (r : Res) : Prop := ∃ d, ds = [d] ∧ okd d ∧ r = .ok (.bool (isAsk d))
def R_need_name (C : Addr) (ds : List PyData) (r : Res) : Prop := ∃ d, ds = [d] ∧ okd d ∧ r = if isName d = true then .ok .none else .error C
def R_need_ask (C : Addr) (ds : List PyData) (r : Res) : Prop := ∃ d, ds = [d] ∧ okd d ∧ r = if isAsk d = true then .ok .none else .error C
def R_small (ds : List PyData) (r : Res) : Prop := ∃ c, ds = [tx [c]] ∧ r = .ok (tx [smallC c])
def R_begins (ds : List PyData) (r : Res) : Prop := ∃ l i, ds = [tx l, natI i] ∧ i < l.length ∧ l.length ≤ 10000 ∧ r = .ok (.bool (begins l i))
def R_starts (C : Addr) (ds : List PyData) (r : Res) : Prop := ∃ d, ds = [d] ∧ okd d ∧ r = if isName d = true then .ok (.list ((startsL (cod d)).map natI)) else .error C
def R_first_letters (C : Addr) (ds : List PyData) (r : Res) : Prop := ∃ d, ds = [d] ∧ okd d ∧ r = if isName d = true then .ok (tx (firstL (cod d))) else .error C
theorem startsL_len (l : List Nat) : (startsL l).length ≤ l.length := by
  unfold startsL
  refine Nat.le_trans (List.length_filter_le _ _) ?_
  rw [List.length_range]
  exact Nat.le_refl _
theorem startsL_mem {l : List Nat} {i : Nat} (h : i ∈ startsL l) : i < l.length := by
  unfold startsL at h
  exact List.mem_range.mp (List.mem_filter.mp h).1
theorem getD_at {l : List Nat} {i : Nat} (h : i < l.length) : atI l ((i : Nat) : Int) = some (l.getD i 0) := atI_nat (by rw [List.getElem?_eq_getElem h]; simp [h])
theorem R_starts_ok {C : Addr} {l : List Nat} (hz : okd (tx l)) (hn : isName (tx l) = true) : R_starts C [tx l] (.ok (.list ((startsL l).map natI))) := ⟨_, rfl, hz, by rw [if_pos hn, cod_tx]⟩
theorem R_first_ok {C : Addr} {l : List Nat} (hz : okd (tx l)) (hn : isName (tx l) = true) : R_first_letters C [tx l] (.ok (tx (firstL l))) := ⟨_, rfl, hz, by rw [if_pos hn, cod_tx]⟩
theorem R_need_name_ok {C : Addr} {d : PyData} (hz : okd d) (hn : isName d = true) : R_need_name C [d] (.ok .none) := ⟨_, rfl, hz, by rw [if_pos hn]⟩
theorem R_need_ask_ok {C : Addr} {d : PyData} (hz : okd d) (hn : isAsk d = true) : R_need_ask C [d] (.ok .none) := ⟨_, rfl, hz, by rw [if_pos hn]⟩
theorem filter_tt {α : Type} (l : List α) : (l.filter fun _ => true) = l := List.filter_eq_self.mpr fun _ _ => rfl
/-! texts of single signs -/
theorem joinL_nil (ls : List (List Nat)) : TL.joinL [] ls = ls.flatten := by
  induction ls with
  | nil => rfl
  | cons a r ih =>
    cases r with
    | nil => simp [TL.joinL]
    | cons b t => simp [TL.joinL] at ih ⊢; exact ih
theorem join1 {α : Type} (l : List α) (g : α → Nat) : TL.joinL [] (l.map fun x => [g x]) = l.map g := by
  rw [joinL_nil]
  induction l with
  | nil => rfl
  | cons a r ih => simp [ih]
theorem sum1 {α : Type} (l : List α) (g : α → Nat) : (((l.map fun x => [g x]).map (·.length)).sum) = l.length := by
  induction l with
  | nil => rfl
  | cons a r ih => simp at ih ⊢; omega
theorem join1_sz {α : Type} {l : List α} {g : α → Nat} (h : (l.map fun x => [g x]).length ≤ 10000) : ((l.map fun x => [g x]).map (·.length)).sum + (l.map fun x => [g x]).length * ([] : List Nat).length ≤ 16777216 := by
  rw [sum1]
  rw [List.length_map] at h ⊢
  simp
  omega
theorem cutl_sz {α : Type} {l : List α} {g : α → Nat} (h : (l.map fun x => [g x]).length ≤ 10000) : (TL.joinL [] (l.map fun x => [g x])).length ≤ 10000 := by
  rw [join1]
  rw [List.length_map] at h ⊢
  exact h
theorem cut_take {α : Type} (l : List α) (i : Nat) : cutL l none (some (i : Int)) = l.take i := by
  unfold cutL
  rw [HT.sIx_nat]
  have : HT.sIx l.length 0 none = 0 := rfl
  rw [this]
  simp [List.take_eq_take_iff]
/-! ### the laws' own numbers -/
def drawn (c k : Int) : Int :=
  let a := (c * 6364136223846793005 + (k + 1) * 1442695040888963407) % 340282366920938463463374607431768211507
  let b := a * a % 340282366920938463463374607431768211297
  (b % 18446744073709551557 + 1) * (b / 18446744073709551557 + 1) * b % 340282366920938463463374607431768211507
theorem drawn_nn (c k : Int) : 0 ≤ drawn c k := Int.emod_nonneg _ (by decide)
theorem drawn_lt (c k : Int) : drawn c k < 340282366920938463463374607431768211507 := Int.emod_lt_of_pos _ (by decide)
def R_law_drawn (ds : List PyData) (r : Res) : Prop := ∃ c k, ds = [.int c, .int k] ∧ r = .ok (.int (drawn c k))
theorem rem_abs {x m : Int} (h : 0 < m) : (x % m).natAbs < m.natAbs := by
  have := Int.emod_nonneg x (show m ≠ 0 by omega)
  have := Int.emod_lt_of_pos x h
  omega
theorem div_abs {x m : Int} (h0 : 0 ≤ x) (h : 0 < m) : (x / m).natAbs ≤ x.natAbs := by
  have := Int.ediv_nonneg h0 (Int.le_of_lt h)
  have := Int.ediv_le_self m h0
  omega
def lSig1 : List Nat := [100, 101, 102, 103, 120, 121, 122, 68, 69, 70, 71, 88, 89, 90]
def lSig2 : List Nat := [97, 97, 97, 98, 98, 98, 99, 65, 66, 67, 49, 50, 95, 45, 47, 46, 32]
def lAsk : List Nat := [97, 97, 98, 98, 99, 99, 65, 66, 67, 49, 50, 120]
def signC (m : Int) : Nat := if m % 11 = 0 then lSig1.getD (m / 16 % 14).toNat 0 else lSig2.getD (m / 16 % 17).toNat 0
def askC (m : Int) : Nat := lAsk.getD (m / 8 % 12).toNat 0
def nameL (m n : Int) : List Nat := (List.range (1 + m % n).toNat).map fun (j : Nat) => signC (drawn m (j : Int))
def askL (m n : Int) : List Nat := (List.range (m % (n + 1)).toNat).map fun (j : Nat) => askC (drawn m (j : Int))
def R_law_sign (ds : List PyData) (r : Res) : Prop := ∃ m, ds = [.int m] ∧ r = .ok (tx [signC m])
def R_law_name (ds : List PyData) (r : Res) : Prop := ∃ m n, ds = [.int m, .int n] ∧ 0 < n ∧ n ≤ 1000 ∧ r = .ok (tx (nameL m n))
def R_law_ask (ds : List PyData) (r : Res) : Prop := ∃ m n, ds = [.int m, .int n] ∧ 0 ≤ n ∧ n ≤ 1000 ∧ r = .ok (tx (askL m n))
/-- an item by a remainder -/
theorem at_rem {l : List Nat} {x n : Int} (hn : (l.length : Int) = n) (h0 : 0 < n) : atI l (x % n) = some (l.getD (x % n).toNat 0) := by
  have h1 := Int.emod_nonneg x (show n ≠ 0 by omega)
  have h2 := Int.emod_lt_of_pos x h0
  have e : x % n = ((x % n).toNat : Int) := by omega
  rw [e]
  exact getD_at (by omega)
theorem cmul_sq {a b : Int} (ha : a.natAbs < 2 ^ 200) (hb : b.natAbs < 2 ^ 200) : CMulW a b := wide_mul ha hb (by decide) (by decide) (by decide)
theorem rem_small {x m : Int} (h : 0 < m) (hm : m.natAbs ≤ 2 ^ 180) : (x % m).natAbs < 2 ^ 180 := Nat.lt_of_lt_of_le (rem_abs h) hm
theorem drawn_m1 (a : Int) : CMulW (a % 340282366920938463463374607431768211507) (a % 340282366920938463463374607431768211507) :=
  have h := rem_abs (x := a) (m := 340282366920938463463374607431768211507) (by decide)
  wide_mul (a := 130) (b := 130) (Nat.lt_trans h (by decide)) (Nat.lt_trans h (by decide)) (by decide) (by decide) (by decide)
theorem drawn_b (x : Int) : 0 ≤ x % 340282366920938463463374607431768211297 ∧ x % 340282366920938463463374607431768211297 < 340282366920938463463374607431768211297 := ⟨Int.emod_nonneg _ (by decide), Int.emod_lt_of_pos _ (by decide)⟩
theorem drawn_f1 {b : Int} : 1 ≤ b % 18446744073709551557 + 1 ∧ b % 18446744073709551557 + 1 ≤ 18446744073709551557 := by
  have h1 := Int.emod_nonneg b (show (18446744073709551557 : Int) ≠ 0 by decide)
  have h2 := Int.emod_lt_of_pos b (show (0 : Int) < 18446744073709551557 by decide)
  omega
theorem drawn_f2 {b : Int} (h0 : 0 ≤ b) (h : b < 340282366920938463463374607431768211297) : 1 ≤ b / 18446744073709551557 + 1 ∧ b / 18446744073709551557 + 1 ≤ 36893488147419103232 := by
  have h1 := Int.ediv_nonneg h0 (show (0 : Int) ≤ 18446744073709551557 by decide)
  omega
theorem drawn_m2 {x : Int} : CMulW ((x % 340282366920938463463374607431768211297) % 18446744073709551557 + 1) ((x % 340282366920938463463374607431768211297) / 18446744073709551557 + 1) := by
  have hb := drawn_b x
  have f1 := drawn_f1 (b := x % 340282366920938463463374607431768211297)
  have f2 := drawn_f2 hb.1 hb.2
  exact wide_mul (a := 70) (b := 70) (by omega) (by omega) (by decide) (by decide) (by decide)
theorem drawn_m3 {x : Int} : CMulW (((x % 340282366920938463463374607431768211297) % 18446744073709551557 + 1) * ((x % 340282366920938463463374607431768211297) / 18446744073709551557 + 1)) (x % 340282366920938463463374607431768211297) := by
  have hb := drawn_b x
  have f1 := drawn_f1 (b := x % 340282366920938463463374607431768211297)
  have f2 := drawn_f2 hb.1 hb.2
  exact wide_mul (a := 140) (b := 140) (wide_lt (a := 70) (b := 70) (by omega) (by omega)) (by omega) (by decide) (by decide) (by decide)
theorem div_big {i : Int} : CDivW i 18446744073709551557 := wide_div (b := 70) (by decide) (by decide) (by decide) (by decide)
theorem div_sm {i j : Int} (h0 : 0 < j) (h : j.natAbs < 2 ^ 100) : CDivW i j := wide_div (b := 100) h0 h (by decide) (by decide)
/-- the script's number -/
def cell (ns : List Int) (k : Nat) : Int := if ns = [] then (k : Int) * 7919 else ns.getD (k % ns.length) 0 + ((k : Int) / (ns.length : Int)) * 104729
def spCell (K : PySem.W.Frag) : Sp := fun vs H Q _ => ∃ a ns k, vs = [.ref a, .int ((k : Nat) : Int)] ∧ SqL K H a (ns.map V.int) ∧ ns.length ≤ 100000 ∧ k < 1000 ∧ ∀ H', (∀ b o, H b = some o → H' b = some o) → Q (.int (cell ns k)) H'
section
variable {Kf : PySem.W.Frag} {Tf : List (Addr × Str)} {F : Fx Kf Tf} {δ : List Slot} {X : Cx} {N : List Str} {sc : Scope} {pos p px : Pos} {x : Str} {e : Expr} {ns : List Int}
/-- the script, read -/
theorem scr_at {O : Addr → Prop} {H : Hp} {σ : L2.St} {i : Nat} (st : StAt F O H σ δ) (hs : δ[i]? = some (.scr ns)) : ∃ a, σ[i]? = some (some (.ref a)) ∧ SqL Kf H a (ns.map V.int) := by
  obtain ⟨a, e, g⟩ := st.slot i _ hs
  exact ⟨a, get_some e, sq_grow st.ext g⟩
theorem x_slen (i : Nat) {y : Str} (cx : Ctx X N sc) (hK : X.K = Kf) (hs : δ[i]? = some (.scr ns)) (hm : X.mg "len" = none) (hN : N[i]? = some y := by rfl) (hv : Vis sc y := by first | exact Or.inl rfl | exact Or.inr (Or.inl rfl) | exact Or.inr (Or.inr rfl)) (hg : sc.names.lookup ("len" : Str) = some .globalImplicit := by rfl) (hd : (y == ("__debug__" : Str)) = false := by decide) (hcd : (y == ("__classdict__" : Str)) = false := by decide) :
    PE X (.Call (.Name "len" p) [.Name y px] [] pos) (tD F δ (.int ns.length)) :=
  wkE (pe_callB call_len (cx.gl hg) hm PySem.boot_len (pa_cons (pe_var (i := i) (cx.at_ hN) (cx.vis hv) hd hcd) pa_nil)) fun σ H Q h => by
    obtain ⟨O, st, k⟩ := h
    obtain ⟨a, e, g⟩ := scr_at st hs
    subst hK
    exact ⟨.ref a, e, _, ns.length, rfl, .inl ⟨_, g, by rw [List.length_map]⟩, k _ H (ExtN.refl H) st.tabs rfl⟩
theorem x_cell (i : Nat) {y : Str} {k : Nat} {kk : Nat} (cx : Ctx X N sc) (hK : X.K = Kf) (hs : δ[i]? = some (.scr ns)) (h : Fd X.prog X.w X.K X.mg X.base "_law_cell" k ["script", "k"] (spCell X.K)) (hr : Room k X.A) (he : PE X e (tD F δ (.int ((kk : Nat) : Int)))) (hz : ns.length ≤ 100000) (hkk : kk < 1000) (hN : N[i]? = some y := by rfl)
    (hv : Vis sc y := by first | exact Or.inl rfl | exact Or.inr (Or.inl rfl) | exact Or.inr (Or.inr rfl)) (hg : sc.names.lookup ("_law_cell" : Str) = some .globalImplicit := by rfl) (hd : (y == ("__debug__" : Str)) = false := by decide) (hcd : (y == ("__classdict__" : Str)) = false := by decide)
    (hse : starEach [e] X.env = [(false, eval e X.env)] := by rfl) (h1 : starEach (.Name y px :: [e]) X.env = (false, eval (.Name y px) X.env) :: starEach [e] X.env := by rfl) (hpl : (backTo pos (starEach [e] X.env)).any (·.1) = false := by rfl) :
    PE X (.Call (.Name "_law_cell" p) [.Name y px, e] [] pos) (tD F δ (.int (cell ns kk))) := by
  obtain ⟨f, fd, G, m, kp, b⟩ := h.ex
  refine wkE (pe_call G hr (cx.gl hg) m kp b .nil passN (pa_cons (pe_var (i := i) (cx.at_ hN) (cx.vis hv) hd hcd) (pa_cons he pa_nil hse) h1) (by decide) h1 hpl) fun σ H Q h => ?_
  obtain ⟨O, st, w⟩ := h
  obtain ⟨a, e1, g⟩ := scr_at st hs
  subst hK
  refine ⟨.ref a, e1, O, st, fun v H1 e2 t1 g1 => ?_⟩
  rw [show v = V.int _ from g1]
  exact ⟨a, ns, kk, rfl, sq_grow e2 g, hz, hkk, fun H3 k3 => w _ H3 (e2.trans fun a o g _ => k3 a o g) (t1.ext k3) rfl⟩
end
end Lf
set_option Elab.async false
set_option linter.all false
set_option maxRecDepth 100000
set_option maxHeartbeats 4000000
namespace Lf
open PySem PySem.Spec PyProof.Rows L2 L2H HotX LamX
/-! ### what is raised inside an expression -/
section
variable {Kf : PySem.W.Frag} {Tf : List (Addr × Str)} {F : Fx Kf Tf} {δ : List Slot} {X : Cx} {N : List Str} {sc : Scope} {pos apos p p2 : Pos} {a b e o tg iter elt : Expr} {es ifs : List Expr} {d : PyData} {C : Addr}
theorem e_never : PE X e (fun _ _ _ => False) := ⟨fun _ _ _ _ _ _ h => h.elim⟩
theorem a_never : PA X es (fun _ _ _ => False) := ⟨fun _ _ _ _ _ _ _ h => h.elim⟩
theorem o_never {x : Option Expr} : PO X x (fun _ _ _ => False) := ⟨fun _ _ _ _ _ _ h => h.elim⟩
theorem c_never : PT X e (fun _ _ _ => False) := ⟨fun _ _ _ _ _ _ h => h.elim⟩
theorem cs_never : PTs X es (fun _ _ _ => False) := ⟨fun _ _ _ _ _ _ h => h.elim⟩
theorem x_slX {lo hi : Option Expr} {r : V → Option Int → Option Int → Hp → VK → Prop} (hr : SlR X r) (he : PE X e (tDX F δ C)) : PE X (.Subscript e (.Slice lo hi none p2) pos) (tDX F δ C) :=
  wkE (pe_slice hr he o_never o_never) fun σ H Q h => h
theorem x_m1X {id : String} {name : Str} {r : V → List V → Hp → VK → Prop} {s : Str} (slot : PySem.Slot "str" name id) (ty : typeOf (.builtin id) = pure (.type "method_descriptor")) (rule : MtR X id r) (ho : PE X o (tD F δ (.str s))) (he : PE X e (tDX F δ C)) (hs : starEach [e] X.env = [(false, eval e X.env)] := by rfl)
    (hbase : attributeBase o name X.env (eval o X.env) = eval o X.env := by rfl) (hline : (apos.endLine == pos.line) = true := by rfl) : PE X (.Call (.Attribute o name apos) [e] [] pos) (tDX F δ C) :=
  wkE (pe_m1 slot ty rule ho he hs hbase hline) fun σ H Q h => by
    obtain ⟨O, st, k⟩ := h
    exact ⟨O, st, fun v H1 e1 t1 g1 => ⟨⟨s, g1⟩, O, st.grow e1 t1, fun H2 e2 t2 => k H2 (e1.trans e2) t2⟩⟩
theorem x_lcX {scope : Scope} {i : Nat} {x : Str} {px : Pos} (own : List (Str × Nat)) (cx : Ctx X N sc) (hi : PE X iter (tDX F δ C)) (hok : blkC N sc scope own = true) (hg : Blk X scope fun Y => PG Y (.Name x px) (gName i)) (hs : ∀ x, foldedSetIterable iter X.env x = pure x := by intro _; rfl) :
    PE X (.ListComp elt [⟨.Name x px, iter, ifs, 0⟩] scope pos) (tDX F δ C) :=
  wkE (pe_lc (own := own) cx.calm cx.nd' (pi_list hi) (blk_ok cx hok) hg (fun s H C cl fp => cs_never) (fun s H C cl fp => e_never) hs) fun σ H Q h => h
end
end Lf
set_option Elab.async false
set_option linter.all false
set_option maxRecDepth 100000
set_option maxHeartbeats 4000000
namespace Lf
open PySem PySem.Spec PyProof.Rows L2 L2H HotX LamX
/-! ### enumerate(text) -/
def IteS (x : Str) : It :=
  ⟨fun i H => i < x.cps.size, fun i H v H' => ∃ T c, v = .ref T ∧ H T = none ∧ H' = upd H T (.tup [.int (i : Nat), .str ⟨#[c]⟩]) ∧ x.cps[i]? = some c, fun i H => x.cps.size = i⟩
theorem drawsS {P : Program} {w : World} {A : Around} (hh : A.handled = none) (it : Addr) (x : Str) (t : Tok) (ty : String) (hty : ty = "str_ascii_iterator" ∨ ty = "str_iterator") :
    Draws P w A it [it] x.cps.size (fun i v => ∃ c u, x.cps[i]? = some c ∧ v = .str ⟨#[c]⟩ u) (fun i h => h.IsStrIter it ty x t i) := by
  rcases hty with e | e
  · rw [e]; exact Draws.strAscii hh it x t
  · rw [e]; exact Draws.strWide hh it x t
theorem turn_enumS {P : Program} {w : World} {K : PySem.W.Frag} {elts : List Expr} {kk : Nat} {tpos : Pos} (e it : Addr) (x : Str) (t : Tok) (ty : String) (hty : ty = "str_ascii_iterator" ∨ ty = "str_iterator") :
    Turn P w K (.Tuple elts kk tpos) (IteS x) [e, it] e (fun i h => (∃ old, IsEnum h e it ((i : Nat) : Int) old) ∧ h.IsStrIter it ty x t i ∧ e ≠ it) where
  mem := by simp
  obj := fun i h st b hb => by
    obtain ⟨⟨old, he⟩, ⟨o, ho, hc, hd⟩, _⟩ := st
    have e' : b = e ∨ b = it := by simpa using hb
    rcases e' with z | z
    · rw [z]; exact ⟨_, he, fun v q => nomatch q⟩
    · rw [z]; exact ⟨o, ho, fun v q => by rw [hd] at q; cases q⟩
  keep := fun i h h' st k => let ⟨⟨old, he⟩, ⟨o, ho, r⟩, hne⟩ := st; ⟨⟨old, k e (by simp) _ he⟩, ⟨o, k it (by simp) o ho, r⟩, hne⟩
  item := by
    intro X hP hw hK hc i pins s σ H E I hf st hg
    subst hP hw hK
    obtain ⟨⟨old, he⟩, hit, hne⟩ := st
    have hel : e < s.heap.objs.size := Heap.lt_size he
    have hil : it < s.heap.objs.size := by obtain ⟨_, q, _⟩ := hit; exact Heap.lt_size q
    have D := drawsS (P := X.prog) (w := X.w) (A := X.A.in1) (I.ok.hd hc) it x t ty hty
    refine wpAny_pyNext_enum_itemD D he hit hg hne (by simpa using hne) fun u h' tk hu ho hit' hT hsz hk => ?_
    obtain ⟨c, t2, hcx, rfl⟩ := hu
    refine ⟨_, rfl, wpAny_letOwnedTupleGo_enum (s := { s with heap := h', toks := tk + 1 }) ho fun h'' he' sb => ?_⟩
    have hT2 : h''.get? s.heap.objs.size = some { cls := .type "tuple", data := .seq #[.int i tk, .str ⟨#[c]⟩ t2] } := (sb.2 _ (Nat.ne_of_gt hel)).trans hT
    have new : ObjOk X.prog X.w (upd H s.heap.objs.size (.tup [.int (i : Nat), .str ⟨#[c]⟩])) h'' s.heap.objs.size (.tup [.int (i : Nat), .str ⟨#[c]⟩]) :=
      ⟨by show 2 ≤ sizeLine; decide, [.int i tk, .str ⟨#[c]⟩ t2], .cons ⟨_, rfl⟩ (.cons ⟨_, rfl⟩ .nil), ⟨_, hT2, rfl, _, rfl⟩⟩
    have I1 : Inv X pins σ (upd H s.heap.objs.size (.tup [.int (i : Nat), .str ⟨#[c]⟩])) { s with heap := h'', toks := tk + 1 } :=
      I.turnedNew (ch := [e, it]) (fun b ob hb q => (sb.2 b (fun z => hb (by simp [z]))).trans (hk b ob (fun z => hb (by simp [z])) (fun z => hb (by simp [z])) q)) hf (Nat.le_refl _) new
    obtain ⟨oi, q1, q2⟩ := hit'
    refine ⟨.ref s.heap.objs.size, _, I1, rfl, ⟨_, c, rfl, I.hok.fresh (Nat.le_refl _), rfl, hcx⟩, ⟨⟨.str ⟨#[c]⟩ t2, ?_⟩, ⟨oi, (sb.2 it (Ne.symm hne)).trans q1, q2⟩, hne⟩, fun b hb => ?_⟩
    · have e1 : ((i + 1 : Nat) : Int) = (i : Int) + 1 := by omega
      rw [e1]; exact he'
    · have hb' : b < s.heap.objs.size := by
        have e' : b = e ∨ b = it := by simpa using hb
        rcases e' with z | z
        · rw [z]; exact hel
        · rw [z]; exact hil
      rw [upd_ne (Nat.ne_of_lt hb')]
      exact (hf b hb).1
  done := by
    intro X hP hw hK hc i pins s σ H E I hf st hg
    subst hP hw hK
    obtain ⟨⟨old, he⟩, hit, hne⟩ := st
    obtain ⟨f0, f1, f2, f3, f4, f5⟩ := hf it (by simp)
    have hg' : x.cps.size = i := hg
    subst hg'
    have D := drawsS (P := X.prog) (w := X.w) (A := X.A.in1) (I.ok.hd hc) it x t ty hty
    exact wpAny_pyNext_enum_endD D he hit fun h' eb => ⟨rfl, I.turned (t' := s.toks) (fun b o hb q => eb b o hb q) f0 f1 f3 f4 f5⟩
  self := fun A i s Q E st h => let ⟨⟨_, he⟩, _⟩ := st; wpAny_pyIter_enum he h
def iEnumS (ta : TA) : TI := fun σ H R => ta σ H fun vs H1 => ∃ x, vs = [.str x] ∧ R (IteS x) H1
theorem pi_enumS {X : Cx} {e : Expr} {ta : TA} {p pos tpos : Pos} {elts : List Expr} {kk : Nat} (hg : Gl X "enumerate") (hm : X.mg "enumerate" = none) (ha : PA X [e] ta) (hs : starEach [e] X.env = [(false, eval e X.env)] := by rfl) :
    PI X (.Tuple elts kk tpos) (.Call (.Name "enumerate" p) [e] [] pos) (iEnumS ta) := by
  refine ⟨fun pins s σ H R I h => ?_⟩
  refine Call_ (ld_blt I hg hm boot_enumerate (PyProof.Rows.callWith_type1 (thn (ha.run pos pins s σ H _ I h) fun us s1 hh => ?_) hs rfl))
  obtain ⟨vs, H1, I1, r1, x, ex, q⟩ := hh
  subst ex
  cases r1 with
  | cons r rr =>
    cases rr
    obtain ⟨t, rfl⟩ := r
    refine call_enumerate_str fun h' he hit hsz hk => wpAny_pyIter_enum he ?_
    have I2 : Inv X pins σ H1 { s1 with heap := h' } := I1.kept (t' := s1.toks) hk
    have hty : strIterType x = "str_ascii_iterator" ∨ strIterType x = "str_iterator" := by
      unfold strIterType
      split
      · exact .inl rfl
      · exact .inr rfl
    refine ⟨s1.heap.objs.size + 1, [s1.heap.objs.size + 1, s1.heap.objs.size], _, _, H1, rfl, I2, turn_enumS (s1.heap.objs.size + 1) s1.heap.objs.size x t _ hty, ⟨⟨.none, he⟩, hit, Nat.succ_ne_self _⟩, fun b hb => ?_, q⟩
    have e' : b = s1.heap.objs.size + 1 ∨ b = s1.heap.objs.size := by simpa using hb
    have hle : s1.heap.objs.size ≤ b := by
      rcases e' with z | z
      · rw [z]; exact Nat.le_add_right _ _
      · rw [z]; exact Nat.le_refl _
    exact I1.fpOk hle (I1.hok.fresh hle)
section
variable {Kf : PySem.W.Frag} {Tf : List (Addr × Str)} {F : Fx Kf Tf} {δ : List Slot} {X : Cx} {N : List Str} {sc : Scope} {pos p tpos : Pos} {e : Expr} {elts : List Expr} {kk : Nat} {l : List Nat} {ds : List PyData}
def enumT (l : List Nat) : List (Nat × Nat) := (List.range l.length).map fun i => (i, l.getD i 0)
def encT (x : Nat × Nat) : PyData := .tuple [natI x.1, tx [x.2]]
theorem i_enumS (cx : Ctx X N sc) (hm : X.mg "enumerate" = none) (h : PA X [e] (aD F δ [tx l])) (hg : sc.names.lookup ("enumerate" : Str) = some .globalImplicit := by rfl) (hs : starEach [e] X.env = [(false, eval e X.env)] := by rfl) :
    PI X (.Tuple elts kk tpos) (.Call (.Name "enumerate" p) [e] [] pos) (iD F δ ((enumT l).map encT)) := wkI (pi_enumS (cx.gl hg) hm h hs) fun σ H R q => by
  obtain ⟨O, st, k⟩ := q
  replace k := iD_one k
  refine ⟨O, st, fun vs H1 e1 t1 g1 => ?_⟩
  obtain ⟨v, r, rfl, ev, rfl⟩ := g1
  refine ⟨⟨l.toArray⟩, by rw [show v = V.str ⟨l.toArray⟩ from ev], k (IteS ⟨l.toArray⟩) .none .non H1 e1 t1 rfl (fun O1 H2 i d g2 dom t2 hd => ?_) fun O1 H2 g2 => ?_⟩
  · have hi : i < l.length := by
      have := (List.getElem?_eq_some_iff.mp hd).1
      simpa [enumT] using this
    have hd' : d = encT (i, l.getD i 0) := by
      unfold enumT at hd
      rw [List.getElem?_map, List.getElem?_map, List.getElem?_range hi] at hd
      exact (Option.some.inj hd).symm
    refine ⟨by show i < (⟨l.toArray⟩ : Str).cps.size; simpa using hi, fun x H3 hy => ?_⟩
    obtain ⟨T, c, rfl, hT, rfl, hc⟩ := hy
    have : l[i]? = some c := by simpa using hc
    have hc2 : l.getD i 0 = c := by simp [this]
    refine ⟨ext_new hT, tabs_new t2 hT, ?_⟩
    rw [hd']
    refine ⟨T, _, rfl, fresh_ok dom hT, upd_same, _, _, rfl, rfl, _, _, rfl, ?_, rfl⟩
    show V.str ⟨#[c]⟩ = V.str ⟨[l.getD i 0].toArray⟩
    rw [hc2]
  · show (⟨l.toArray⟩ : Str).cps.size = ((enumT l).map encT).length
    simp [enumT]
/-- enumerate(list) -/
def enumL (ds : List PyData) : List (Nat × PyData) := (List.range ds.length).map fun i => (i, ds.getD i .none)
def encL (x : Nat × PyData) : PyData := .tuple [natI x.1, x.2]
theorem i_enumL (cx : Ctx X N sc) (hm : X.mg "enumerate" = none) (h : PA X [e] (aD F δ [.list ds])) (hg : sc.names.lookup ("enumerate" : Str) = some .globalImplicit := by rfl) (hs : starEach [e] X.env = [(false, eval e X.env)] := by rfl) :
    PI X (.Tuple elts kk tpos) (.Call (.Name "enumerate" p) [e] [] pos) (iD F δ ((enumL ds).map encL)) := wkI (pi_enum (cx.gl hg) hm h hs) fun σ H R q => by
  obtain ⟨O, st, k⟩ := q
  replace k := iD_one k
  refine ⟨O, st, fun vs H1 e1 t1 g1 => ?_⟩
  obtain ⟨v, r, rfl, ev, rfl⟩ := g1
  obtain ⟨a, xs, rfl, na, ga, ra⟩ := id ev
  refine ⟨a, xs, rfl, SqL.of ga, k (Ite X.K a) (.list ds) (.ref a) H1 e1 t1 ev (fun O1 H2 i d g2 dom t2 hd => ?_) fun O1 H2 g2 => ?_⟩
  · have hi : i < ds.length := by
      have := (List.getElem?_eq_some_iff.mp hd).1
      simpa [enumL] using this
    have hx : ds[i]? = some (ds.getD i .none) := by rw [List.getD_eq_getElem?_getD, List.getElem?_eq_getElem hi]; rfl
    have hd' : d = encL (i, ds.getD i .none) := by
      unfold enumL at hd
      rw [List.getElem?_map, List.getElem?_map, List.getElem?_range hi] at hd
      exact (Option.some.inj hd).symm
    obtain ⟨b, ys, eb, nb, gb, rb⟩ := g2
    cases eb
    obtain ⟨y, hy, dy⟩ := rb.get hx
    refine ⟨⟨ys, y, SqL.of gb, hy⟩, fun x H3 hyld => ?_⟩
    obtain ⟨T, x', rfl, hT, rfl, hx'⟩ := hyld
    have := hx' ys (SqL.of gb)
    rw [hy] at this
    cases this
    refine ⟨ext_new hT, tabs_new t2 hT, ?_⟩
    rw [hd']
    exact ⟨T, _, rfl, fresh_ok dom hT, upd_same, _, _, rfl, rfl, _, _, rfl, dy.grow (ext_new hT), rfl⟩
  · obtain ⟨b, ys, eb, nb, gb, rb⟩ := g2
    cases eb
    refine ⟨ys, SqL.of gb, ?_⟩
    rw [rb.len]
    simp [enumL]
end
/-! ### x, y = [], e -/
section
variable {Kf : PySem.W.Frag} {Tf : List (Addr × Str)} {F : Fx Kf Tf} {δ : List Slot} {X : Cx} {N : List Str} {sc : Scope} {pos px py pt pt2 : Pos} {a b : Expr} {x y : Str} {ds : List PyData} {d : PyData} {rest : List Stmt} {P : Post} {O : Addr → Prop} {H H' : Hp} {σ : L2.St} {q : Addr} {xs : List V}
theorem own_mid (st : StAt F O H σ δ) (e : ExtN H H') (t : Tabs F.T H') (hn : ∀ a, Lives H a → a ≠ q) (hq : H' q = some (.lst xs)) : StAt F (Shut O q) H' σ δ := by
  have kp : ∀ d v, Dt O H d v → Dt (Shut O q) H' d v := fun d v g => Dt.imp (fun a u n g t => ⟨fun z => z.elim n (fun e => hn a ⟨u, g, t⟩ e), e a u g t⟩) d v g
  have kpA : ∀ d v, DtAll O H d v → DtAll (Shut O q) H' d v := fun d v g => DtAll.imp (fun a u n g t => ⟨fun z => z.elim n (fun e => hn a ⟨u, g, t⟩ e), e a u g t⟩) d v g
  refine ⟨st.len, fun a z => .inl (st.o0 a z), fun a z => ?_, t, st.ext.trans e, fun i s r => ?_, st.apart, st.afar⟩
  · rcases z with z | z
    · exact (st.dom a z).grow e
    · rw [z]; exact ⟨_, hq, fun _ z => by cases z⟩
  · have g := st.slot i s r
    cases s with
    | non => trivial
    | dat d => obtain ⟨v, a, b⟩ := g; exact ⟨v, a, kp _ _ b⟩
    | own ds' => obtain ⟨p, vs', a, b, c, g, r'⟩ := g; exact ⟨p, vs', a, .inl b, c, e _ _ g (fun _ z => by cases z), kpA _ _ r'⟩
    | odk kvs => obtain ⟨p, vs', a, b, c, g, r'⟩ := g; exact ⟨p, vs', a, .inl b, c, e _ _ g (fun _ z => by cases z), r'.imp kpA⟩
    | res R => exact res_keep g (fun a ha => (g.2.2 a ha).2.2.same e) (fun a ha => .inl (g.2.2 a ha).1) kp
    | scr ns => exact g
    | any φ => exact g
theorem s_parO (i j : Nat) {kt k2 : Nat} (cx : CtD X N sc F.E) (ha : PE X a (tDL F δ ds)) (hb : PE X b (tD F δ d)) (g : PSs X rest (sD F ((δ.set i (.own ds)).set j (.dat d)) P)) (hi : N[i]? = some x := by rfl) (hj : N[j]? = some y := by rfl) (hij : i ≠ j := by decide) (hx : sc.names.lookup x = some .local := by rfl) (hy : sc.names.lookup y = some .local := by rfl)
    (hw : swappedStores [.Tuple [.Name x px, .Name y py] kt pt] (.Tuple [a, b] k2 pt2) (envS sc) = pure (some [x, y]) := by rfl) (hs : swapsWithSole [.Tuple [.Name x px, .Name y py] kt pt] (.Tuple [a, b] k2 pt2) pos.line X.env = pure false := by rfl)
    (h1 : starEach (a :: [b]) X.env = (false, eval a X.env) :: starEach [b] X.env := by rfl) (h2 : starEach [b] X.env = (false, eval b X.env) :: starEach [] X.env := by rfl) :
    PSs X (.Assign [.Tuple [.Name x px, .Name y py] kt pt] (.Tuple [a, b] k2 pt2) pos :: rest) (sD F δ P) :=
  wkSs (pss_cons (ps_par cx.calm cx.nd' (cx.at_ hi) (cx.at_ hj) hij (by rw [cx.s]; exact hx) (by rw [cx.s]; exact hy) (pa_cons ha (pa_cons hb pa_nil h2) h1) (sw_eq cx.toCtx hw) hs) g) fun D σ H h' => by
    obtain ⟨O, τ, s0, tm, w⟩ := h'
    refine ⟨O, s0, fun p xs H1 e1 t1 n1 g1 a1 => ?_⟩
    refine ⟨Shut O p, own_mid s0 e1 t1 n1 g1, fun v H2 e2 t2 g2 => ?_⟩
    obtain ⟨s3, t3⟩ := own_out s0 tm i (e1.trans e2) t2 n1 (e2 _ _ g1 (fun _ z => by cases z)) (a1.grow e2)
    exact ⟨_, _, rfl, Shut O p, τ, s3.setD j g2, t3, w⟩
end
end Lf
set_option Elab.async false
set_option linter.all false
set_option maxRecDepth 100000
set_option maxHeartbeats 4000000
namespace Lf
open PySem PySem.Spec PyProof.Rows L2 L2H HotX LamX
section
variable {Kf : PySem.W.Frag} {Tf : List (Addr × Str)} {F : Fx Kf Tf} {δ : List Slot} {X : Cx} {N : List Str} {sc : Scope} {pos p px tpos : Pos} {a b e : Expr} {es : List Expr} {x : Str} {ds : List PyData} {d : PyData} {rest : List Stmt} {P : Post} {R : List PyData → Res → Prop} {k : Nat} {ps : List Str} {r : Res}
/-- a call, whatever comes of it -/
theorem x_callR (cx : Ctx X N sc) (tk : L2N.Takes X (fun cls d _ H => F.E cls d H)) (h : Fd X.prog X.w X.K X.mg X.base x k ps (spD Tf R)) (hr : Room k X.A) (ha : PA X (e :: es) (aD F δ ds)) (hR : R ds r) (hg : sc.names.lookup x = some .globalImplicit := by rfl) (hdb : (x == ("__debug__" : Str)) = false := by decide)
    (he : starEach (e :: es) X.env = (false, eval e X.env) :: starEach es X.env := by rfl) (hpl : (backTo pos (starEach es X.env)).any (·.1) = false := by rfl) : PE X (.Call (.Name x p) (e :: es) [] pos) (tRes F δ r) := by
  cases r with
  | ok d => exact x_call cx h hr ha hR hg hdb he hpl
  | error C => exact x_callX cx tk h hr ha hR hg hdb he hpl
/-! ### text * int -/
def rMulS : R2 := fun x y H Q => ∃ s n, x = .str s ∧ y = .int n ∧ MulOk s n ∧ Q (.str (Txt.mul s n)) H
theorem op_repS : OpR X (binaryOp .Mult) rMulS := by
  intro pins s σ H x y v u Q I rx ry h
  obtain ⟨a, n, rfl, rfl, hok, q⟩ := h
  obtain ⟨t, rfl⟩ := rx
  obtain ⟨t', rfl⟩ := ry
  exact PySem.SB.mul hok fun t2 k2 => ⟨.str (Txt.mul a n), H, I.kept (t' := k2) (fun _ _ e => e), ⟨t2, rfl⟩, q⟩
theorem mul_tx (l : List Nat) {n : Nat} (hn : 1 ≤ n) : Txt.mul ⟨l.toArray⟩ (n : Int) = ⟨(List.replicate n l).flatten.toArray⟩ := by
  unfold Txt.mul
  rw [if_neg (by omega)]
  have key : ∀ (k : Nat) (acc : Array Nat), ((List.replicate k l.toArray).foldl (· ++ ·) acc) = acc ++ (List.replicate k l).flatten.toArray := fun k => by
    induction k with
    | zero => intro acc; simp
    | succ k ih => intro acc; rw [List.replicate_succ, List.foldl_cons, ih, List.replicate_succ, List.flatten_cons]; simp
  split
  · rename_i h
    simp at h
    rcases h with h | h
    · have : n = 1 := by omega
      subst this
      simp
    · have : l = [] := by simpa [Str.length] using h
      subst this
      simp
  · rw [Int.toNat_natCast]
    show (⟨(List.replicate n l.toArray).foldl (· ++ ·) #[]⟩ : Str) = _
    rw [key]
    simp
theorem od_repS {l : List Nat} {n : Nat} (hn : 1 ≤ n) (hn2 : n ≤ 100000) (hz : l.length * n ≤ 100000) : OpD F rMulS (tx l) (.int (n : Int)) (tx (List.replicate n l).flatten) := fun O H x y Q _ w hx hy k => by
  refine ⟨_, _, hx, hy, ⟨?_, fun _ _ => ?_, fun _ _ => ?_⟩, k _ H (ExtN.refl H) w (by rw [mul_tx l hn]; rfl)⟩
  · simp
    omega
  · rw [tx_len]
    refine Int.not_lt.mpr (Int.le_ediv_of_mul_le (by omega) ?_)
    have : ((l.length : Int) * (n : Int)) = ((l.length * n : Nat) : Int) := by simp
    rw [this]
    omega
  · rw [tx_len, Int.toNat_natCast]
    unfold Builtin.Str.tooLong
    refine decide_eq_false ?_
    have : (100000 : Nat) ≤ sizeLine := by decide
    omega
theorem low1 : ∀ c, c < 128 → Txt.lower ⟨#[c]⟩ = ⟨#[lowC c]⟩ := by
  have h : (List.range 128).all (fun c => (Txt.lower ⟨#[c]⟩).cps == #[lowC c]) = true := by decide +kernel
  intro c hc
  have := List.all_eq_true.mp h c (List.mem_range.mpr hc)
  exact Str.ext' (by simpa using this)
theorem md_low1 {c : Nat} (hc : c < 128) : MtD F (fun x xs H Q => ∃ a, x = .str a ∧ xs = [] ∧ a.length ≤ 5592405 ∧ Q (.str (Txt.lower a)) H) (tx [c]) [] (tx [lowC c]) := fun O H x xs Q _ w hx h k => by
  cases (show xs = [] from h)
  exact ⟨_, hx, rfl, by rw [tx_len]; simp, k _ H (ExtN.refl H) w (by show V.str (Txt.lower ⟨#[c]⟩) = _; rw [low1 c hc])⟩
/-- x.append(e) -/
theorem s_appN (i : Nat) {pa pc : Pos} (cx : Ctx X N sc) (hi : δ[i]? = some (.own ds)) (h : PE X e (tD F δ d)) (hz : ds.length < 100000) (g : PSs X rest (sD F (δ.set i (.own (ds ++ [d]))) P)) (hN : N[i]? = some x := by rfl) (hv : Vis sc x := by first | exact Or.inl rfl | exact Or.inr (Or.inl rfl) | exact Or.inr (Or.inr rfl))
    (hd : (x == ("__debug__" : Str)) = false := by decide) (hcd : (x == ("__classdict__" : Str)) = false := by decide) (hbase : attributeBase (.Name x px) "append" X.env (eval (.Name x px) X.env) = eval (.Name x px) X.env := by rfl)
    (hfew : ((backTo pc (starEach [e] X.env)).all (fun x => !x.1) && (backToKw pc (keywordEach [] X.env)).all (fun x => x.1.isSome)
      && decide ([e].length + ([] : List Keyword).length + (if ([] : List Keyword).isEmpty then 0 else 1) < 30)) = true := by rfl)
    (hline : (pa.endLine == pc.line) = true := by rfl) (hse : starEach [e] X.env = (false, eval e X.env) :: starEach [] X.env := by rfl) (hs : swapsWith (.Call (.Attribute (.Name x px) "append" pa) [e] [] pc) none pos.line X.env = pure false := by rfl) :
    PSs X (.Expr (.Call (.Attribute (.Name x px) "append" pa) [e] [] pc) pos :: rest) (sD F δ P) :=
  s_app i cx hi h hz g hN hv hd hcd (pe_bm PySem.F.plainAttrs_list PySem.F.slot_list_append PySem.F.type_list_append mt_append (pe_var (i := i) (cx.at_ hN) (cx.vis hv) hd hcd) (pa_cons h pa_nil hse) hbase hfew hline hse rfl) hs
/-- x[n] = e, the list one's own -/
theorem s_put (i : Nat) {n : Int} {j : Nat} (cx : CtD X N sc F.E) (hi : δ[i]? = some (.own ds)) (h : PE X e (tD F δ d)) (hn : PE X b (tD F δ (.int n))) (hj : ixN ds.length n = some j) (g : PSs X rest (sD F (δ.set i (.own (ds.set j d))) P)) (hN : N[i]? = some x := by rfl) (hv : Vis sc x := by first | exact Or.inl rfl | exact Or.inr (Or.inl rfl) | exact Or.inr (Or.inr rfl))
    (hd : (x == ("__debug__" : Str)) = false := by decide) (hcd : (x == ("__classdict__" : Str)) = false := by decide) (hs : swapsWithSole [.Subscript (.Name x px) b tpos] e pos.line X.env = pure false := by rfl) (hw : swappedStores [.Subscript (.Name x px) b tpos] e (envS sc) = pure none := by rfl) (h1 : (assignEach [.Subscript (.Name x px) b tpos] X.env).map (·.2) = [assign (.Subscript (.Name x px) b tpos) X.env] := by rfl)
    (ha : ∀ v, assign (.Subscript (.Name x px) b tpos) X.env v = (do
      let ov ← holding [v] (eval (.Name x px) X.env)
      let iv ← holding [v, ov] (eval b X.env)
      standAt tpos
      holding [v, ov, iv] (setItem ov iv v)
      release [v, ov, iv] []) := by intro _; rfl) :
    PSs X (.Assign [.Subscript (.Name x px) b tpos] e pos :: rest) (sD F δ P) :=
  wkSs (pss_cons (ps_asg h (pg_sub (pe_var (i := i) (cx.at_ hN) (cx.vis hv) hd hcd) hn set_list ha) hs (sw_eq cx.toCtx hw) h1) g) fun D σ H h' => by
    obtain ⟨O, τ, s0, tm, w⟩ := h'
    obtain ⟨q, xs, e1, o1, nl, gq, r⟩ := s0.slot i _ hi
    have hv := get_some e1
    refine ⟨O, s0, fun v H1 ex1 t1 g1 => ⟨.ref q, hv, O, s0.grow ex1 t1, fun y H2 ex2 t2 g2 => ?_⟩⟩
    have gq2 := ex2 _ _ (ex1 _ _ gq (fun _ z => by cases z)) (fun _ z => by cases z)
    obtain ⟨s1, tm1⟩ := own_turn ((s0.grow ex1 t1).grow ex2 t2) ((tm.grow ex1).grow ex2) hi hv gq2 (((r.grow ex1).grow ex2).set (g1.grow ex2) j)
    exact ⟨q, xs, n, j, rfl, g2, gq2, by rw [r.len]; exact hj, O, τ, s1, tm1, w⟩
end
end Lf
set_option Elab.async false
set_option linter.all false
set_option maxRecDepth 100000
set_option maxHeartbeats 4000000
namespace Lf
open PySem PySem.Spec PyProof.Rows L2 L2H HotX LamX
/-! ### the law's own starts -/
def kNone : List Nat := [110, 111, 110, 101]
def kSmall : List Nat := [115, 109, 97, 108, 108]
def kGreat : List Nat := [103, 114, 101, 97, 116]
def kFig : List Nat := [102, 105, 103, 117, 114, 101]
def kindL (c : Nat) : List Nat := if c ∈ lSmall then kSmall else if c ∈ lFig then kFig else if c ∈ lGreat then kGreat else kNone
theorem kd1 {c : Nat} (h : decide (c ∈ lSmall) = true) : tx kSmall = tx (kindL c) := by
  unfold kindL
  rw [if_pos (by simpa using h)]
theorem kd2 {c : Nat} (h : decide (c ∈ lSmall) = false) (h2 : decide (c ∈ lFig) = true) : tx kFig = tx (kindL c) := by
  unfold kindL
  rw [if_neg (by simpa using h), if_pos (by simpa using h2)]
theorem kd3 {c : Nat} (h : decide (c ∈ lSmall) = false) (h2 : decide (c ∈ lFig) = false) (h3 : decide (c ∈ lGreat) = true) : tx kGreat = tx (kindL c) := by
  unfold kindL
  rw [if_neg (by simpa using h), if_neg (by simpa using h2), if_pos (by simpa using h3)]
theorem kd4 {c : Nat} (h : decide (c ∈ lSmall) = false) (h2 : decide (c ∈ lFig) = false) (h3 : decide (c ∈ lGreat) = false) : tx kNone = tx (kindL c) := by
  unfold kindL
  rw [if_neg (by simpa using h), if_neg (by simpa using h2), if_neg (by simpa using h3)]
def R_law_kind (ds : List PyData) (r : Res) : Prop := ∃ c, ds = [tx [c]] ∧ r = .ok (tx (kindL c))
def pairsD : List PyData := [.tuple [tx [110, 111, 110, 101], tx [115, 109, 97, 108, 108]], .tuple [tx [110, 111, 110, 101], tx [103, 114, 101, 97, 116]], .tuple [tx [110, 111, 110, 101], tx [102, 105, 103, 117, 114, 101]], .tuple [tx [115, 109, 97, 108, 108], tx [103, 114, 101, 97, 116]], .tuple [tx [102, 105, 103, 117, 114, 101], tx [103, 114, 101, 97, 116]]] ++ [.tuple [tx [115, 109, 97, 108, 108], tx [102, 105, 103, 117, 114, 101]], .tuple [tx [103, 114, 101, 97, 116], tx [102, 105, 103, 117, 114, 101]], .tuple [tx [102, 105, 103, 117, 114, 101], tx [115, 109, 97, 108, 108]]]
def hitK (b k : List Nat) : Bool := pairsD.any fun z => PyData.eqv z (.tuple [tx b, tx k])
def stepK (s : List Nat × List Nat) (x : Nat × Nat) : List Nat × List Nat := (if hitK s.2 (kindL x.2) = true then s.1 ++ [x.1] else s.1, kindL x.2)
def foldK (pre : List (Nat × Nat)) : List Nat × List Nat := pre.foldl stepK ([], kNone)
theorem foldK_snoc (pre : List (Nat × Nat)) (x : Nat × Nat) : foldK (pre ++ [x]) = stepK (foldK pre) x := by
  unfold foldK
  rw [List.foldl_append]
  rfl
def lawStarts (l : List Nat) : List Nat := (foldK (enumT l)).1
def R_law_starts (ds : List PyData) (r : Res) : Prop := ∃ l, ds = [tx l] ∧ l.length ≤ 10000 ∧ r = .ok (.list ((lawStarts l).map natI))
theorem kind_ok (c : Nat) : ∀ x ∈ kindL c, x < 1114112 := by
  unfold kindL
  split
  · decide
  · split
    · decide
    · split
      · decide
      · decide
theorem snd_ok (pre : List (Nat × Nat)) : ∀ x ∈ (foldK pre).2, x < 1114112 := by
  rcases List.eq_nil_or_concat pre with h | ⟨q, y, h⟩
  · subst h
    decide
  · rw [h, List.concat_eq_append, foldK_snoc]
    exact kind_ok _
theorem lay2 {a b : List Nat} (ha : ∀ x ∈ a, x < 1114112) (hb : ∀ x ∈ b, x < 1114112) : Lay 1 (.tuple [tx a, tx b]) := lay_tuple (n := 0) fun d hd => by
  rcases List.mem_cons.mp hd with h | hd
  · rw [h]; exact lay_tx ha
  · rcases List.mem_cons.mp hd with h | hd
    · rw [h]; exact lay_tx hb
    · cases hd
theorem pairs_lay : Lay 2 (.list pairsD) := ⟨by decide +kernel, by decide +kernel⟩
theorem foldK_len (pre : List (Nat × Nat)) : (foldK pre).1.length ≤ pre.length := by
  unfold foldK
  suffices h : ∀ s : List Nat × List Nat, (pre.foldl stepK s).1.length ≤ s.1.length + pre.length by simpa using h ([], kNone)
  induction pre with
  | nil => intro s; simp
  | cons x r ih =>
    intro s
    rw [List.foldl_cons]
    refine Nat.le_trans (ih _) ?_
    unfold stepK
    dsimp only
    split
    · simp
      omega
    · simp
/-! ### the two ways to find starts agree -/
def alpha : List Nat := lSmall ++ lGreat ++ lFig ++ lOth
def kinds : List (List Nat) := [kNone, kSmall, kGreat, kFig]
theorem kind_tab : ∀ c ∈ alpha, (decide (c ∈ lOth) = decide (kindL c = kNone)) ∧ (decide (c ∈ lGreat) = decide (kindL c = kGreat)) ∧ (decide (c ∈ lFig) = decide (kindL c = kFig)) ∧ kindL c ∈ kinds := by decide +kernel
theorem hit_tab : ∀ b ∈ kinds, ∀ k ∈ kinds, hitK b k = (if k = kNone then false else if b = kNone then true else if k = kGreat then !decide (b = kGreat) else !decide (decide (k = kFig) = decide (b = kFig))) := by decide +kernel
theorem begins_kind {l : List Nat} {i : Nat} (hc : l.getD i 0 ∈ alpha) (hb : i ≠ 0 → l.getD (i - 1) 0 ∈ alpha) : begins l i = hitK (if i = 0 then kNone else kindL (l.getD (i - 1) 0)) (kindL (l.getD i 0)) := by
  obtain ⟨c1, c2, c3, c4⟩ := kind_tab _ hc
  unfold begins
  generalize l.getD i 0 = c at *
  by_cases h0 : i = 0
  · subst h0
    rw [if_pos rfl, hit_tab kNone (by decide) _ c4]
    by_cases h : c ∈ lOth
    · have : kindL c = kNone := by simpa [h] using c1
      simp [h, this]
    · have : ¬ kindL c = kNone := by simpa [h] using c1
      simp [h, this]
  · have hb := hb h0
    obtain ⟨b1, b2, b3, b4⟩ := kind_tab _ hb
    generalize l.getD (i - 1) 0 = b at *
    rw [if_neg h0, hit_tab _ b4 _ c4]
    simp only [h0, false_or]
    have e1 : (c ∈ lOth) = (kindL c = kNone) := propext (decide_eq_decide.mp c1)
    have e2 : (c ∈ lGreat) = (kindL c = kGreat) := propext (decide_eq_decide.mp c2)
    have e4 : (b ∈ lOth) = (kindL b = kNone) := propext (decide_eq_decide.mp b1)
    rw [c3, b3, b2]
    simp only [e1, e2, e4]
theorem fold_upto {l : List Nat} (ha : ∀ c ∈ l, c ∈ alpha) : ∀ n, n ≤ l.length → foldK ((List.range n).map fun i => (i, l.getD i 0)) = ((List.range n).filter (begins l), if n = 0 then kNone else kindL (l.getD (n - 1) 0))
  | 0, _ => rfl
  | n + 1, h => by
    have hin : ∀ i, i < l.length → l.getD i 0 ∈ alpha := fun i hi => by
      rw [List.getD_eq_getElem?_getD, List.getElem?_eq_getElem hi]
      exact ha _ (List.getElem_mem hi)
    rw [List.range_succ, List.map_append, List.map_singleton, foldK_snoc, fold_upto ha n (by omega), List.filter_append]
    unfold Lf.stepK
    dsimp only
    rw [← begins_kind (hin n (by omega)) (fun h0 => hin _ (by omega))]
    by_cases hb : begins l n = true
    · simp [hb]
    · simp [hb]
theorem starts_same {l : List Nat} (ha : ∀ c ∈ l, c ∈ alpha) : lawStarts l = startsL l := by
  unfold lawStarts startsL enumT
  rw [fold_upto ha _ (Nat.le_refl _)]
theorem isNm_alpha {l : List Nat} (h : isNm l = true) : ∀ c ∈ l, c ∈ alpha := by
  unfold isNm at h
  simp only [Bool.and_eq_true, List.all_eq_true, decide_eq_true_eq] at h
  exact h.2
theorem alpha_low : ∀ c ∈ alpha, c < 128 ∧ smallC c = lowC c := by decide +kernel
/-! ### signs of made names -/
theorem sign_alpha (m : Int) : signC m ∈ alpha := by
  unfold signC
  have key : ∀ (l : List Nat) (n : Nat), l.all (fun c => decide (c ∈ alpha)) = true → n < l.length → l.getD n 0 ∈ alpha := fun l n h hn => by
    rw [List.getD_eq_getElem?_getD, List.getElem?_eq_getElem hn]
    exact of_decide_eq_true (List.all_eq_true.mp h _ (List.getElem_mem hn))
  split
  · exact key lSig1 _ (by decide) (by have := Int.emod_lt_of_pos (m / 16) (show (0 : Int) < 14 by decide); have : lSig1.length = 14 := rfl; omega)
  · exact key lSig2 _ (by decide) (by have := Int.emod_lt_of_pos (m / 16) (show (0 : Int) < 17 by decide); have : lSig2.length = 17 := rfl; omega)
def alnum : List Nat := lSmall ++ lGreat ++ lFig
theorem ask_alnum (m : Int) : askC m ∈ alnum := by
  unfold askC
  have key : ∀ (l : List Nat) (n : Nat), l.all (fun c => decide (c ∈ alnum)) = true → n < l.length → l.getD n 0 ∈ alnum := fun l n h hn => by
    rw [List.getD_eq_getElem?_getD, List.getElem?_eq_getElem hn]
    exact of_decide_eq_true (List.all_eq_true.mp h _ (List.getElem_mem hn))
  exact key lAsk _ (by decide) (by have := Int.emod_lt_of_pos (m / 8) (show (0 : Int) < 12 by decide); have : lAsk.length = 12 := rfl; omega)
theorem nameL_len (m n : Int) (h0 : 0 < n) : 1 ≤ (nameL m n).length ∧ ((nameL m n).length : Int) ≤ n := by
  unfold nameL
  rw [List.length_map, List.length_range]
  have h1 := Int.emod_nonneg m (show n ≠ 0 by omega)
  have h2 := Int.emod_lt_of_pos m h0
  omega
theorem nameL_ok {m n : Int} (h0 : 0 < n) (h : n ≤ 30) : isNm (nameL m n) = true := by
  have hl := nameL_len m n h0
  unfold isNm
  simp only [Bool.and_eq_true, List.all_eq_true, decide_eq_true_eq]
  refine ⟨⟨hl.1, by omega⟩, fun c hc => ?_⟩
  unfold nameL at hc
  obtain ⟨j, _, rfl⟩ := List.mem_map.mp hc
  exact sign_alpha _
theorem askL_len (m n : Int) (h0 : 0 ≤ n) : ((askL m n).length : Int) ≤ n := by
  unfold askL
  rw [List.length_map, List.length_range]
  have h1 := Int.emod_nonneg m (show n + 1 ≠ 0 by omega)
  have h2 := Int.emod_lt_of_pos m (show 0 < n + 1 by omega)
  omega
theorem askL_ok {m n : Int} (h0 : 0 ≤ n) (h : n ≤ 8) : isAs (askL m n) = true := by
  have hl := askL_len m n h0
  unfold isAs
  simp only [Bool.and_eq_true, List.all_eq_true, decide_eq_true_eq]
  refine ⟨by omega, fun c hc => ?_⟩
  unfold askL at hc
  obtain ⟨j, _, rfl⟩ := List.mem_map.mp hc
  exact ask_alnum _
theorem R_law_starts_ok {l : List Nat} (hz : l.length ≤ 10000) (hn : isNm l = true) : R_law_starts [tx l] (.ok (.list ((startsL l).map natI))) := ⟨_, rfl, hz, by rw [starts_same (isNm_alpha hn)]⟩
theorem map_self (l : List PyData) : PyData.list l = PyData.list (l.map fun d => d) := by rw [List.map_id']
theorem R_need_name_er {C : Addr} {d : PyData} (hz : okd d) (hn : isName d = false) : R_need_name C [d] (.error C) := ⟨_, rfl, hz, by rw [hn]; rfl⟩
theorem R_need_ask_er {C : Addr} {d : PyData} (hz : okd d) (hn : isAsk d = false) : R_need_ask C [d] (.error C) := ⟨_, rfl, hz, by rw [hn]; rfl⟩
theorem R_starts_er {C : Addr} {d : PyData} (hz : okd d) (hn : isName d = false) : R_starts C [d] (.error C) := ⟨_, rfl, hz, by rw [hn]; rfl⟩
theorem R_first_er {C : Addr} {d : PyData} (hz : okd d) (hn : isName d = false) : R_first_letters C [d] (.error C) := ⟨_, rfl, hz, by rw [hn]; rfl⟩
theorem cut_drop {α : Type} (l : List α) (i : Nat) : cutL l (some (i : Int)) none = l.drop i := by
  unfold cutL
  rw [HT.sIx_nat]
  have : HT.sIx l.length l.length none = l.length := rfl
  rw [this]
  by_cases h : i ≤ l.length
  · rw [Nat.min_eq_left h, List.take_of_length_le (by rw [List.length_drop]; exact Nat.le_refl _)]
  · rw [Nat.min_eq_right (by omega), List.drop_of_length_le (by omega), List.drop_of_length_le (by omega)]
    simp
theorem cut_map {α β : Type} (f : α → β) (l : List α) (lo hi : Option Int) : cutL (l.map f) lo hi = (cutL l lo hi).map f := by
  unfold cutL
  rw [List.length_map, List.map_take, List.map_drop]
/-- an item by a remainder, of a longer list -/
theorem at_remLe {α : Type} {l : List α} {x n : Int} (z : α) (hn : n ≤ (l.length : Int)) (h0 : 0 < n) : atI l (x % n) = some (l.getD (x % n).toNat z) := by
  have h1 := Int.emod_nonneg x (show n ≠ 0 by omega)
  have h2 := Int.emod_lt_of_pos x h0
  have e : x % n = ((x % n).toNat : Int) := by omega
  rw [e]
  refine atI_nat ?_
  rw [List.getElem?_eq_getElem (by omega), List.getD_eq_getElem?_getD, List.getElem?_eq_getElem (by omega)]
  rfl
theorem lay_ints {α : Type} {l : List α} {g : α → Int} : Lay 1 (.list (l.map fun x => .int (g x))) := lay_list (n := 0) fun d hd => by
  obtain ⟨i, _, rfl⟩ := List.mem_map.mp hd
  exact lay_int
theorem lay_nats {l : List Nat} : Lay 1 (.list (l.map natI)) := lay_ints
theorem eqv_self {n : Nat} {d : PyData} (h : Lay n d) : PyData.eqv d d = true := PySem.SeqAt.eqv_refl d h.1
end Lf
set_option Elab.async false
set_option linter.all false
set_option maxRecDepth 100000
set_option maxHeartbeats 4000000
namespace Lf
open PySem PySem.Spec PyProof.Rows L2 L2H HotX LamX
section
variable {Kf : PySem.W.Frag} {Tf : List (Addr × Str)} {F : Fx Kf Tf} {δ : List Slot} {X : Cx} {N : List Str} {sc : Scope} {pos p px pa pc p1 p2 p3 : Pos} {a b c e tg : Expr} {x : Str} {ds es : List PyData} {d : PyData} {rest : List Stmt} {P : Post}
/-- a + b, a new list of one's own -/
theorem x_catN (hz : ds.length + es.length ≤ sizeLine) (ha : PE X a (tD F δ (.list ds))) (hb : PE X b (tD F δ (.list es))) : PE X (.BinOp a .Add b pos) (tDL F δ (ds ++ es)) :=
  wkE (pe_op op_cat ha hb) fun σ H Q h => by
    obtain ⟨O, st, k⟩ := h
    refine ⟨O, st, fun u H1 e1 t1 g1 => ⟨O, st.grow e1 t1, fun v H2 e2 t2 g2 => ?_⟩⟩
    obtain ⟨q1, xs, rfl, n1, h1, r1⟩ := g1
    obtain ⟨q2, ys, rfl, n2, h2, r2⟩ := g2
    have h1' := e2 _ _ h1 (fun _ z => by cases z)
    refine ⟨q1, q2, xs, ys, rfl, rfl, h1', h2, by rw [r1.len, r2.len]; exact hz, fun q hq => ?_⟩
    exact k q _ _ ((e1.trans e2).trans (ext_new hq)) (tabs_new t2 hq) (fun a' l => ((l.grow e1).grow e2).ne hq) upd_same ((((r1.grow e2).app r2).shut hq).grow (ext_new hq))
/-- range(i, j, -1) -/
def downFrom (i : Int) (n : Nat) : List PyData := (List.range n).map fun (k : Nat) => PyData.int (i - (k : Int))
theorem i_rangeD {i j : Int} (cx : Ctx X N sc) (hm : X.mg "range" = none) (h : PA X [a, b, c] (aD F δ [.int i, .int j, .int (-1)])) (h0 : -(2 ^ 62) ≤ i ∧ i < 2 ^ 62) (h1 : -(2 ^ 62) ≤ j ∧ j < 2 ^ 62) (hg : sc.names.lookup ("range" : Str) = some .globalImplicit := by rfl)
    (hs : starEach [a, b, c] X.env = (false, eval a X.env) :: starEach [b, c] X.env := by rfl) (hpl : (backTo pos (starEach [b, c] X.env)).any (·.1) = false := by rfl) :
    PI X tg (.Call (.Name "range" p) [a, b, c] [] pos) (iD F δ (downFrom i (i - j).toNat)) := wkI (pi_range3 (cx.gl hg) hm h hs hpl) fun σ H R q => by
  obtain ⟨O, st, k⟩ := q
  replace k := iD_one k
  refine ⟨O, st, fun vs H1 e1 t1 g1 => ?_⟩
  obtain ⟨v, r, rfl, ev, u, r', rfl, eu, w, r'', rfl, ew, rfl⟩ := g1
  rw [show v = V.int i from ev, show u = V.int j from eu, show w = V.int (-1) from ew]
  refine ⟨i, j, -1, (i - j).toNat, rfl, RgC.neg h0.1 h0.2 h1.1 h1.2, k (Itc i (-1) (i - j).toNat) .none .non H1 e1 t1 rfl (fun O1 H2 n d g2 dom t2 hd => ?_) fun O1 H2 g2 => ?_⟩
  · have hi : n < (i - j).toNat := by
      have := (List.getElem?_eq_some_iff.mp hd).1
      simpa [downFrom] using this
    refine ⟨hi, fun y H3 hy => ?_⟩
    obtain ⟨rfl, rfl⟩ := hy
    refine ⟨ExtN.refl _, t2, ?_⟩
    have : d = .int (i - (n : Int)) := by
      unfold downFrom at hd
      rw [List.getElem?_map, List.getElem?_range hi] at hd
      exact (Option.some.inj hd).symm
    rw [this]
    show V.int (i + (n : Int) * -1) = V.int (i - (n : Int))
    congr 1
    omega
  · show (i - j).toNat ≤ (downFrom i (i - j).toNat).length
    simp [downFrom]
/-- x.extend(e) -/
theorem s_ext (i : Nat) (cx : Ctx X N sc) (hi : δ[i]? = some (.own ds)) (h : PE X e (tD F δ (.list es))) (hz : ds.length + es.length ≤ sizeLine) (g : PSs X rest (sD F (δ.set i (.own (ds ++ es))) P)) (hN : N[i]? = some x := by rfl) (hv : Vis sc x := by first | exact Or.inl rfl | exact Or.inr (Or.inl rfl) | exact Or.inr (Or.inr rfl))
    (hd : (x == ("__debug__" : Str)) = false := by decide) (hcd : (x == ("__classdict__" : Str)) = false := by decide) (hbase : attributeBase (.Name x px) "extend" X.env (eval (.Name x px) X.env) = eval (.Name x px) X.env := by rfl)
    (hfew : ((backTo pc (starEach [e] X.env)).all (fun x => !x.1) && (backToKw pc (keywordEach [] X.env)).all (fun x => x.1.isSome)
      && decide ([e].length + ([] : List Keyword).length + (if ([] : List Keyword).isEmpty then 0 else 1) < 30)) = true := by rfl)
    (hline : (pa.endLine == pc.line) = true := by rfl) (hse : starEach [e] X.env = (false, eval e X.env) :: starEach [] X.env := by rfl) (hs : swapsWith (.Call (.Attribute (.Name x px) "extend" pa) [e] [] pc) none pos.line X.env = pure false := by rfl) :
    PSs X (.Expr (.Call (.Attribute (.Name x px) "extend" pa) [e] [] pc) pos :: rest) (sD F δ P) :=
  wkSs (pss_cons (ps_expr (pe_bm PySem.F.plainAttrs_list PySem.F.slot_list_extend PySem.F.type_list_extend mt_extend (pe_var (i := i) (cx.at_ hN) (cx.vis hv) hd hcd) (pa_cons h pa_nil hse) hbase hfew hline hse rfl) hs) g) fun D σ H h' => by
    obtain ⟨O, τ, s0, tm, w⟩ := h'
    obtain ⟨q, xs, e1, o1, nl, gq, r⟩ := s0.slot i _ hi
    have hv := get_some e1
    refine ⟨.ref q, hv, .inl ⟨rfl, _, SqL.of gq⟩, O, s0, fun v H1 e' t' g' => ?_⟩
    have gq1 := e' _ _ gq (fun _ z => by cases z)
    obtain ⟨q2, ys, rfl, n2, h2, r2⟩ := g'
    refine ⟨q, q2, xs, ys, rfl, rfl, gq1, h2, by rw [r.len, r2.len]; exact hz, ?_⟩
    obtain ⟨s1, t1⟩ := own_turn (s0.grow e' t') (tm.grow e') hi hv gq1 ((r.grow e').app r2)
    exact ⟨O, τ, s1, t1, w⟩
/-- xs[::-1] -/
theorem x_revL {k : Nat} (he : PE X e (tD F δ (.list ds))) : PE X (.Subscript e (.Slice none none (some (.UnaryOp .USub (.Constant (.int 1) k p1) p2)) p3) pos) (tD F δ (.list ds.reverse)) :=
  wkE (pe_revL he) fun σ H Q h => by
    obtain ⟨O, st, w⟩ := h
    refine ⟨O, st, fun v H1 e1 t1 g1 => ?_⟩
    obtain ⟨q, xs, rfl, n1, h1, r1⟩ := g1
    refine ⟨q, xs, rfl, SqL.of h1, fun l hl => ?_⟩
    exact w _ _ (e1.trans (ext_new hl)) (tabs_new t1 hl) ⟨l, _, rfl, fresh_ok (st.grow e1 t1).dom hl, upd_same, (r1.rev).grow (ext_new hl)⟩
/-- text[::-1] -/
theorem pick_rev (l : List Nat) : ((Builtin.Str.strSliceIndices none none (-1) l.length).filterMap ((⟨l.toArray⟩ : Str).cps[·]?)) = l.reverse := by
  have e : Builtin.Str.strSliceIndices none none (-1) l.length = (List.range l.length).map fun k => l.length - 1 - k := by
    show PySem.sliceRange ((l.length : Int) - 1) (-1) (-1) = _
    unfold PySem.sliceRange
    have hc : (if (-1 : Int) > 0 then (if (l.length : Int) - 1 < -1 then (-1 - ((l.length : Int) - 1) + -1 - 1) / -1 else 0) else (if (l.length : Int) - 1 > -1 then ((l.length : Int) - 1 - -1 - -1 - 1) / (- -1) else 0)).toNat = l.length := by
      rw [if_neg (by decide)]
      by_cases h : (l.length : Int) - 1 > -1
      · rw [if_pos h]
        have : ((l.length : Int) - 1 - -1 - -1 - 1) / (- -1) = (l.length : Int) := by
          rw [show (- -1 : Int) = 1 from rfl, Int.ediv_one]
          omega
        rw [this]
        simp
      · rw [if_neg h]
        omega
    dsimp only
    rw [hc]
    refine List.map_congr_left fun k hk => ?_
    have := List.mem_range.mp hk
    omega
  rw [e, List.filterMap_map]
  refine List.ext_getElem? fun i => ?_
  have hall : ∀ k ∈ List.range l.length, ((fun j => (⟨l.toArray⟩ : Str).cps[j]?) ∘ fun k => l.length - 1 - k) k = some (l.getD (l.length - 1 - k) 0) := fun k hk => by
    have := List.mem_range.mp hk
    show l.toArray[l.length - 1 - k]? = _
    rw [List.getElem?_toArray, List.getD_eq_getElem?_getD, List.getElem?_eq_getElem (by omega)]
    rfl
  have fm : ∀ (ks : List Nat), (∀ k ∈ ks, k ∈ List.range l.length) → ks.filterMap ((fun j => (⟨l.toArray⟩ : Str).cps[j]?) ∘ fun k => l.length - 1 - k) = ks.map fun k => l.getD (l.length - 1 - k) 0 := fun ks => by
    induction ks with
    | nil => intro _; rfl
    | cons k r ih =>
      intro hk
      rw [List.filterMap_cons, hall k (hk k List.mem_cons_self), ih fun j hj => hk j (List.mem_cons_of_mem _ hj)]
      rfl
  rw [fm _ fun k hk => hk]
  by_cases hi : i < l.length
  · rw [List.getElem?_map, List.getElem?_range hi, List.getElem?_reverse hi, List.getElem?_eq_getElem (by omega)]
    simp [List.getD_eq_getElem?_getD, List.getElem?_eq_getElem (show l.length - 1 - i < l.length by omega)]
  · rw [List.getElem?_eq_none (by simp; omega), List.getElem?_eq_none (by simp; omega)]
def tRevS (te : TE) : TE := fun σ H Q => te σ H fun x H1 => ∃ l : List Nat, x = .str ⟨l.toArray⟩ ∧ l.length ≤ sizeLine ∧ Q (.str ⟨l.reverse.toArray⟩) H1
theorem pe_revS {te : TE} {k : Nat} (he : PE X e te) : PE X (.Subscript e (.Slice none none (some (.UnaryOp .USub (.Constant (.int 1) k p1) p2)) p3) pos) (tRevS te) := by
  refine ⟨fun pins s σ H Q I h => ?_⟩
  refine Subscript_ (thn (he.run pins s σ H _ I h) fun v s1 hh => ?_)
  obtain ⟨x, H1, I1, r1, l, rfl, hz, q⟩ := hh
  obtain ⟨t, rfl⟩ := r1
  have part : PO X (some (.UnaryOp .USub (.Constant (.int 1) k p1) p2)) (tPart (tUn (rU fun i => .int (-i)) (tC (.int 1)))) := po_some (pe_un un_neg pe_int)
  refine wpAny_Slice (thn (po_none.run pins s1 σ H1 (fun o H2 => o = none ∧ H2 = H1) I1 ⟨rfl, rfl⟩) fun va s2 h2 => ?_)
  obtain ⟨oa, H2, I2, pa, rfl, rfl⟩ := h2
  refine thn (po_none.run pins s2 σ H2 (fun o H3 => o = none ∧ H3 = H2) I2 ⟨rfl, rfl⟩) fun vb s3 h3 => ?_
  obtain ⟨ob, H3, I3, pb, rfl, rfl⟩ := h3
  refine thn (part.run pins s3 σ H3 (fun o H4 => o = some (-1) ∧ H4 = H3) I3 ⟨1, rfl, -1, rfl, rfl, rfl⟩) fun vc s4 h4 => ?_
  obtain ⟨oc, H4, I4, pc, rfl, rfl⟩ := h4
  have J : Inv X pins σ H4 { s4 with heap := s4.heap.push { cls := .type "slice", data := .fields #[va, vb, vc] } } := I4.kept (t' := s4.toks) fun b ob g => Heap.get?_push_of_some _ g
  obtain ⟨qa, rfl, ea⟩ := IsPart.raw pa
  obtain ⟨qb, rfl, eb⟩ := IsPart.raw pb
  obtain ⟨qc, rfl, ec⟩ := IsPart.raw pc
  show wpAny (model X.prog X.w) X.A (subscriptTail e (.Slice none none (some (.UnaryOp .USub (.Constant (.int 1) k p1) p2)) p3) (.str ⟨l.toArray⟩ t) (.ref s4.heap.objs.size)) (EP X pins σ Q) X.xe _
  refine tail_any (ops := [.ref s4.heap.objs.size]) (typeIs_str _ _ t) PySem.F.slot_str_getitem.lookup ?_ (by with_unfolding_all rfl)
  refine wpAny_getItem_str_slice (l := qa) (u := qb) (st := qc) ⟨_, Heap.get?_push_size _ rfl, rfl, rfl⟩ (by rw [ec]; rfl) ?_
  unfold sliceMade slicePicked
  rw [ea, eb, ec]
  show Made.post (if (((-1 : Int) == 1) && _) = true then _ else _) _ _
  rw [if_neg (by simp), show (some (-1 : Int)).getD 1 = -1 from rfl, tx_len, pick_rev]
  exact ⟨by rw [tx_len, List.length_reverse]; exact hz, .str _, H4, J.tok _, ⟨_, rfl⟩, q⟩
theorem x_revS {k : Nat} {l : List Nat} (hz : l.length ≤ sizeLine) (he : PE X e (tD F δ (tx l))) : PE X (.Subscript e (.Slice none none (some (.UnaryOp .USub (.Constant (.int 1) k p1) p2)) p3) pos) (tD F δ (tx l.reverse)) :=
  wkE (pe_revS he) fun σ H Q h => by
    obtain ⟨O, st, w⟩ := h
    exact ⟨O, st, fun v H1 e1 t1 g1 => ⟨l, g1, hz, w _ H1 e1 t1 rfl⟩⟩
end
/-! ### a test that raises -/
section
variable {Kf : PySem.W.Frag} {Tf : List (Addr × Str)} {F : Fx Kf Tf} {δ : List Slot} {X : Cx} {pos : Pos} {a b c : Expr} {rest body els : List Stmt} {P : Post} {C : Addr}
def cDX {Kf : PySem.W.Frag} {Tf : List (Addr × Str)} (F : Fx Kf Tf) (δ : List Slot) (C : Addr) : TT := fun σ H Q => ∃ O, StAt F O H σ δ ∧ ∀ H', ExtN H H' → Tabs F.T H' → F.E (.ref C) none H'
theorem c_cmpX {op : CmpOp} {r : R2} (ho : OpR X (compareOp op) r) (ha : PE X a (tDX F δ C)) (hm : behindInMarks op b = false := by first | exact nomark _ | rfl) : PT X (.Compare a [op] [b] pos) (cDX F δ C) :=
  wkT (pt_cmpR ho ha e_never hm) fun σ H Q h => h
theorem ss_never : PSs X rest (fun _ _ _ => False) := ⟨fun _ _ _ _ _ _ h => h.elim⟩
theorem s_ifX (h : PT X c (cDX F δ C)) (g : P.ex C) : PSs X (.If c body els pos :: rest) (sD F δ P) :=
  wkSs (pss_cons (ps_if h ss_never ss_never) (ss_never (rest := rest))) fun D σ H h' => by
    obtain ⟨O, τ, s0, tm, w⟩ := h'
    exact ⟨O, s0, fun H' e' t' => w.ex C H' g (s0.ext.trans e') t'⟩
end
end Lf
set_option Elab.async false
set_option linter.all false
set_option maxRecDepth 100000
set_option maxHeartbeats 4000000
namespace Lf
open PySem PySem.Spec PyProof.Rows L2 L2H HotX LamX
/-! ### places: mirrors and their mathematics -/
def hitC (o s : Nat) : Bool := decide (s = o) || (decide (o ∈ lSmall) && decide (smallC s = o))
def hitL (o s : Nat) : Bool := decide (o = s) || (decide (o ∈ lSmall) && decide (o = lowC s))
theorem hit_same {o s : Nat} (h : s ∈ alpha) : hitL o s = hitC o s := by
  unfold hitL hitC
  rw [(alpha_low s h).2]
  simp only [eq_comm]
/-- the first row -/
def gr : List Nat → List Nat → Nat → Option (List Nat)
  | [], _, _ => some []
  | _ :: _, [], _ => none
  | o :: a, c :: n, k => if hitC o c = true then (gr a n (k + 1)).map (k :: ·) else gr (o :: a) n (k + 1)
/-- all rows -/
def rowsS : List Nat → List Nat → Nat → List (List Nat)
  | [], _, _ => [[]]
  | _ :: _, [], _ => []
  | o :: a, c :: n, k => (if hitC o c = true then (rowsS a n (k + 1)).map (k :: ·) else []) ++ rowsS (o :: a) n (k + 1)
/-- the last row -/
def rl : List Nat → List Nat → Nat → Option (List Nat)
  | [], _, _ => some []
  | _ :: _, [], _ => none
  | o :: a, c :: n, k => match rl (o :: a) n (k + 1) with
    | some r => some r
    | none => if hitC o c = true then (rl a n (k + 1)).map (k :: ·) else none
/-- how many -/
def rc : List Nat → List Nat → Nat
  | [], _ => 1
  | _ :: _, [] => 0
  | o :: a, c :: n => (if hitC o c = true then rc a n else 0) + rc (o :: a) n
def ch : Nat → Nat → Nat
  | _, 0 => 1
  | 0, _ + 1 => 0
  | n + 1, m + 1 => ch n m + ch n (m + 1)
theorem rows_len : ∀ (a n : List Nat) (k : Nat), (rowsS a n k).length = rc a n
  | [], n, _ => by cases n <;> rfl
  | _ :: _, [], _ => rfl
  | o :: a, c :: n, k => by
    unfold rowsS rc
    rw [List.length_append, rows_len (o :: a) n]
    split
    · rw [List.length_map, rows_len a n]
    · rfl
theorem rc_ch : ∀ (a n : List Nat), rc a n ≤ ch n.length a.length
  | [], n => by cases n <;> exact Nat.le_refl _
  | _ :: _, [] => Nat.le_refl _
  | o :: a, c :: n => by
    show (if hitC o c = true then rc a n else 0) + rc (o :: a) n ≤ ch n.length a.length + ch n.length (a.length + 1)
    have h1 := rc_ch a n
    have h2 : rc (o :: a) n ≤ ch n.length (a.length + 1) := rc_ch (o :: a) n
    split <;> omega
theorem ch_small : ∀ n, n ≤ 12 → ∀ m, m ≤ 4 → ch n m ≤ 495 := by decide +kernel
theorem rc_zero (o : Nat) : ∀ (a n : List Nat), rc a n = 0 → rc (o :: a) n = 0
  | a, [], _ => rfl
  | a, c :: n, h => by
    have h1 : rc a n = 0 := by
      cases a with
      | nil => cases h
      | cons x a =>
        have h : (if hitC x c = true then rc a n else 0) + rc (x :: a) n = 0 := h
        omega
    show (if hitC o c = true then rc a n else 0) + rc (o :: a) n = 0
    rw [h1, rc_zero o a n h1]
    split <;> rfl
theorem gr_head : ∀ (a n : List Nat) (k : Nat), gr a n k = (rowsS a n k).head?
  | [], n, _ => by cases n <;> rfl
  | _ :: _, [], _ => rfl
  | o :: a, c :: n, k => by
    unfold gr rowsS
    by_cases h : hitC o c = true
    · rw [if_pos h, if_pos h, gr_head a n]
      cases q : rowsS a n (k + 1) with
      | nil =>
        have z : rowsS (o :: a) n (k + 1) = [] := by
          refine List.length_eq_zero_iff.mp ?_
          rw [rows_len]
          refine rc_zero o a n ?_
          rw [← rows_len a n (k + 1), q]
          rfl
        rw [z]
        rfl
      | cons r rs => rfl
    · rw [if_neg h, if_neg h, gr_head (o :: a) n]
      rfl
theorem gr_none : ∀ (a n : List Nat) (k : Nat), gr a n k = none ↔ rowsS a n k = [] := fun a n k => by
  rw [gr_head]
  exact List.head?_eq_none_iff
theorem rl_last : ∀ (a n : List Nat) (k : Nat), rl a n k = (rowsS a n k).getLast?
  | [], n, _ => by cases n <;> rfl
  | _ :: _, [], _ => rfl
  | o :: a, c :: n, k => by
    unfold rl rowsS
    rw [rl_last (o :: a) n, List.getLast?_append, rl_last a n]
    cases (rowsS (o :: a) n (k + 1)).getLast? with
    | some r => rfl
    | none =>
      by_cases h : hitC o c = true
      · simp [h, List.getLast?_map]
      · simp [h]
/-! ### from the right -/
theorem rc_snoc (o s : Nat) : ∀ (a n : List Nat), rc (a ++ [o]) (n ++ [s]) = rc (a ++ [o]) n + if hitC o s = true then rc a n else 0
  | [], [] => by simp [rc]
  | x :: a, [] => by
    show (if hitC x s = true then rc (a ++ [o]) [] else 0) + rc (x :: (a ++ [o])) [] = 0 + _
    cases a <;> simp [rc]
  | [], t :: n => by
    show (if hitC o t = true then rc [] (n ++ [s]) else 0) + rc [o] (n ++ [s]) = (if hitC o t = true then rc [] n else 0) + rc [o] n + _
    have := rc_snoc o s [] n
    rw [show [o] = [] ++ [o] from rfl, this]
    simp [rc]
    omega
  | x :: a, t :: n => by
    show (if hitC x t = true then rc (a ++ [o]) (n ++ [s]) else 0) + rc (x :: a ++ [o]) (n ++ [s]) = (if hitC x t = true then rc (a ++ [o]) n else 0) + rc (x :: a ++ [o]) n + (if hitC o s = true then (if hitC x t = true then rc a n else 0) + rc (x :: a) n else 0)
    rw [rc_snoc o s a n, rc_snoc o s (x :: a) n]
    split <;> split <;> omega
theorem rl_snoc (o s : Nat) : ∀ (a n : List Nat) (k : Nat), rl (a ++ [o]) (n ++ [s]) k = if hitC o s = true then (rl a n k).map (· ++ [k + n.length]) else rl (a ++ [o]) n k
  | [], [], k => by
    show (match rl [o] [] (k + 1) with | some r => some r | none => if hitC o s = true then (rl [] [] (k + 1)).map (k :: ·) else none) = _
    simp [rl]
  | x :: a, [], k => by
    show (match rl (x :: (a ++ [o])) [] (k + 1) with | some r => some r | none => if hitC x s = true then (rl (a ++ [o]) [] (k + 1)).map (k :: ·) else none) = _
    cases a <;> simp [rl]
  | [], t :: n, k => by
    show (match rl ([] ++ [o]) (n ++ [s]) (k + 1) with | some r => some r | none => if hitC o t = true then (rl [] (n ++ [s]) (k + 1)).map (k :: ·) else none) = _
    rw [rl_snoc o s [] n (k + 1)]
    by_cases h : hitC o s = true
    · simp [h, rl]
      omega
    · simp only [h, if_neg, Bool.false_eq_true, if_false]
      simp [rl]
  | x :: a, t :: n, k => by
    show (match rl (x :: a ++ [o]) (n ++ [s]) (k + 1) with | some r => some r | none => if hitC x t = true then (rl (a ++ [o]) (n ++ [s]) (k + 1)).map (k :: ·) else none) = _
    rw [rl_snoc o s (x :: a) n (k + 1), rl_snoc o s a n (k + 1)]
    by_cases h : hitC o s = true
    · rw [if_pos h, if_pos h, if_pos h]
      show _ = (match rl (x :: a) n (k + 1) with | some r => some r | none => if hitC x t = true then (rl a n (k + 1)).map (k :: ·) else none).map _
      cases rl (x :: a) n (k + 1) with
      | some r => simp; omega
      | none =>
        cases rl a n (k + 1) with
        | none => simp
        | some r =>
          by_cases h2 : hitC x t = true
          · simp [h2]
            omega
          · simp [h2]
    · simp only [h, Bool.false_eq_true, if_false]
      rfl
/-- the last row is the first of the texts turned round, turned back -/
theorem rl_rev : ∀ (n a : List Nat) (j t : Nat), t = j + n.length → rl a n 0 = (gr a.reverse n.reverse j).map fun r => (r.map fun i => t - 1 - i).reverse := fun n => by
  induction h : n.length generalizing n with
  | zero =>
    intro a j t ht
    have : n = [] := List.length_eq_zero_iff.mp h
    subst this
    rcases List.eq_nil_or_concat a with rfl | ⟨b, o, rfl⟩
    · rfl
    · rw [List.concat_eq_append, List.reverse_append]
      cases b <;> rfl
  | succ m ih =>
    intro a j t ht
    obtain ⟨n', s, rfl⟩ : ∃ n' s, n = n' ++ [s] := by
      rcases List.eq_nil_or_concat n with rfl | ⟨b, o, rfl⟩
      · cases h
      · exact ⟨b, o, List.concat_eq_append⟩
    have hl : n'.length = m := by simpa using h
    rcases List.eq_nil_or_concat a with rfl | ⟨b, o, rfl⟩
    · cases hq : (n' ++ [s]) with
      | nil => simp at hq
      | cons _ _ => simp [rl, gr]
    · rw [List.concat_eq_append, rl_snoc, List.reverse_append, List.reverse_append]
      show _ = (gr (o :: b.reverse) (s :: n'.reverse) j).map _
      unfold gr
      have hL : (n' ++ [s]).length = n'.length + 1 := by simp
      by_cases hh : hitC o s = true
      · rw [if_pos hh, if_pos hh, ih n' hl b (j + 1) t (by omega)]
        cases gr b.reverse n'.reverse (j + 1) with
        | none => rfl
        | some r =>
          simp
          omega
      · rw [if_neg hh, if_neg hh, ih n' hl (b ++ [o]) (j + 1) t (by omega), List.reverse_append]
        rfl
/-! ### data of rows -/
def rowD (r : List Nat) : PyData := .list (r.map natI)
def optD : Option (List Nat) → PyData
  | none => .none
  | some r => rowD r
def R_is_hit (ds : List PyData) (r : Res) : Prop := ∃ o s, ds = [tx [o], tx [s]] ∧ r = .ok (.bool (hitC o s))
def R_look (C0 C1 : Addr) (ds : List PyData) (r : Res) : Prop := ∃ a n, ds = [a, n] ∧ okd a ∧ okd n ∧ r = if isAsk a = true then (if isName n = true then .ok .none else .error C0) else .error C1
def R_greedy (ds : List PyData) (r : Res) : Prop := ∃ a n, ds = [tx a, tx n] ∧ a.length ≤ 10000 ∧ n.length ≤ 10000 ∧ r = .ok (optD (gr a n 0))
def fitD (a n : List Nat) : PyData := .bool (gr a n 0).isSome
def firstD (a n : List Nat) : PyData := optD (gr a n 0)
def manyD (a n : List Nat) : PyData := .int (rc a n : Nat)
/-- a def that looks first -/
def R_seen (C0 C1 : Addr) (f : List Nat → List Nat → PyData) (ds : List PyData) (r : Res) : Prop := ∃ a n, ds = [a, n] ∧ okd a ∧ okd n ∧ r = if isAsk a = true then (if isName n = true then .ok (f (cod a) (cod n)) else .error C0) else .error C1
def lastL (a n : List Nat) : Option (List Nat) := (gr a.reverse n.reverse 0).map fun r => (r.map fun i => n.length - 1 - i).reverse
def lastD (a n : List Nat) : PyData := optD (lastL a n)
theorem lastL_rl (a n : List Nat) : lastL a n = rl a n 0 := (rl_rev n a 0 n.length (by omega)).symm
def R_rows_from (m : Nat) (ds : List PyData) (r : Res) : Prop := ∃ a n p, ds = [tx a, tx n, natI p] ∧ a.length ≤ m ∧ m ≤ 100 ∧ n.length ≤ 10000 ∧ p ≤ n.length ∧ rc a (n.drop p) ≤ 1000 ∧ r = .ok (.list ((rowsS a (n.drop p) p).map rowD))
def R_every (C0 C1 C4 : Addr) (ds : List PyData) (r : Res) : Prop := ∃ a n, ds = [a, n] ∧ okd a ∧ okd n ∧ r = if isAsk a = true then (if isName n = true then (if rc (cod a) (cod n) ≤ 1000 then .ok (.list ((rowsS (cod a) (cod n) 0).map rowD)) else .error C4) else .error C0) else .error C1
theorem isAs_len {l : List Nat} (h : isAs l = true) : l.length ≤ 8 := by
  unfold isAs at h
  simp only [Bool.and_eq_true, decide_eq_true_eq] at h
  exact h.1
theorem isNm_len {l : List Nat} (h : isNm l = true) : 1 ≤ l.length ∧ l.length ≤ 30 := by
  unfold isNm at h
  simp only [Bool.and_eq_true, decide_eq_true_eq] at h
  exact h.1
theorem ask_tx {d : PyData} (h : isAsk d = true) : ∃ l, d = tx l ∧ isAs l = true := by
  simp [isAsk] at h
  exact ⟨_, tx_of h.1, h.2⟩
theorem name_tx {d : PyData} (h : isName d = true) : ∃ l, d = tx l ∧ isNm l = true := by
  simp [isName] at h
  exact ⟨_, tx_of h.1, h.2⟩
/-! the counts -/
def cnt0 (a pre : List Nat) : List PyData := (List.range (a.length + 1)).map fun i => .int (rc (a.take i) pre : Nat)
def cntL (a pre : List Nat) (s k : Nat) : List PyData := (List.range (a.length + 1)).map fun i => .int ((if a.length - k < i then rc (a.take i) (pre ++ [s]) else rc (a.take i) pre : Nat) : Int)
theorem rc_nil {a : List Nat} (h : a ≠ []) : rc a [] = 0 := by
  cases a with
  | nil => exact absurd rfl h
  | cons _ _ => rfl
theorem rc_empty (n : List Nat) : rc [] n = 1 := by cases n <;> rfl
theorem cnt_start (a : List Nat) : [PyData.int 1] ++ (List.replicate ((a.length : Int)).toNat [PyData.int 0]).flatten = cnt0 a [] := by
  unfold cnt0
  rw [List.range_succ_eq_map, List.map_cons, List.map_map, Int.toNat_natCast]
  have e : ∀ m, (List.replicate m [PyData.int 0]).flatten = List.replicate m (PyData.int 0) := fun m => by
    induction m with
    | zero => rfl
    | succ m ih => rw [List.replicate_succ, List.flatten_cons, ih]; rfl
  rw [e]
  rw [List.singleton_append]
  refine List.cons_eq_cons.mpr ⟨by simp [rc_empty], ?_⟩
  refine (List.eq_replicate_iff.mpr ⟨by simp, fun b hb => ?_⟩).symm
  obtain ⟨i, hi, rfl⟩ := List.mem_map.mp hb
  have hi := List.mem_range.mp hi
  show PyData.int ((rc (a.take (i + 1)) [] : Nat) : Int) = .int 0
  rw [rc_nil (fun h => by have := congrArg List.length h; rw [List.length_take, List.length_nil] at this; omega)]
  rfl
theorem cnt_first (a pre : List Nat) (s : Nat) : cntL a pre s 0 = cnt0 a pre := by
  unfold cntL cnt0
  refine List.map_congr_left fun i hi => ?_
  have := List.mem_range.mp hi
  rw [if_neg (by omega)]
theorem cnt_done (a pre : List Nat) (s : Nat) : cntL a pre s a.length = cnt0 a (pre ++ [s]) := by
  unfold cntL cnt0
  refine List.map_congr_left fun i hi => ?_
  cases i with
  | zero => simp [rc_empty]
  | succ i => rw [if_pos (by omega)]
theorem take_snoc {a : List Nat} {i : Nat} (h : i < a.length) : a.take (i + 1) = a.take i ++ [a.getD i 0] := by
  rw [List.take_succ_eq_append_getElem h, List.getD_eq_getElem?_getD, List.getElem?_eq_getElem h]
  rfl
theorem rc_step {a pre : List Nat} {s i : Nat} (h : i < a.length) : rc (a.take (i + 1)) (pre ++ [s]) = rc (a.take (i + 1)) pre + if hitC (a.getD i 0) s = true then rc (a.take i) pre else 0 := by
  rw [take_snoc h, rc_snoc]
theorem set_map {α : Type} (f : Nat → α) (n j : Nat) (v : α) : ((List.range n).map f).set j v = (List.range n).map fun i => if i = j then v else f i := by
  refine List.ext_getElem? fun i => ?_
  by_cases e : j = i
  · subst e
    by_cases h : j < n
    · rw [List.getElem?_set_self (by simpa using h), List.getElem?_map, List.getElem?_range h]
      simp
    · rw [List.getElem?_eq_none (by simp; omega), List.getElem?_eq_none (by simp; omega)]
  · rw [List.getElem?_set_ne e, List.getElem?_map, List.getElem?_map]
    by_cases h : i < n
    · rw [List.getElem?_range h]
      simp [Ne.symm e]
    · rw [List.getElem?_eq_none (by simp; omega)]
      rfl
theorem cnt_hit {a pre : List Nat} {s k : Nat} (hk : k < a.length) (hh : hitC (a.getD (a.length - k - 1) 0) s = true) : (cntL a pre s k).set (a.length - k) (.int ((rc (a.take (a.length - k)) pre + rc (a.take (a.length - k - 1)) pre : Nat) : Int)) = cntL a pre s (k + 1) := by
  unfold cntL
  rw [set_map]
  refine List.map_congr_left fun i hi => ?_
  have hst := rc_step (a := a) (pre := pre) (s := s) (i := a.length - k - 1) (by omega)
  rw [if_pos hh, show a.length - k - 1 + 1 = a.length - k by omega] at hst
  by_cases e : i = a.length - k
  · subst e
    rw [if_pos rfl, if_pos (by omega), hst]
  · rw [if_neg e]
    by_cases h : a.length - k < i
    · rw [if_pos h, if_pos (by omega)]
    · rw [if_neg h, if_neg (by omega)]
theorem cnt_miss {a pre : List Nat} {s k : Nat} (hk : k < a.length) (hh : hitC (a.getD (a.length - k - 1) 0) s = false) : cntL a pre s k = cntL a pre s (k + 1) := by
  unfold cntL
  refine List.map_congr_left fun i hi => ?_
  have hst := rc_step (a := a) (pre := pre) (s := s) (i := a.length - k - 1) (by omega)
  rw [hh, show a.length - k - 1 + 1 = a.length - k by omega] at hst
  by_cases h : a.length - k < i
  · rw [if_pos h, if_pos (by omega)]
  · rw [if_neg h]
    by_cases h2 : a.length - (k + 1) < i
    · have : i = a.length - k := by omega
      subst this
      rw [if_pos h2, hst]
      simp
    · rw [if_neg h2]
theorem cnt_at {a pre : List Nat} {s k i : Nat} (hi : i ≤ a.length - k) : atI (cntL a pre s k) ((i : Nat) : Int) = some (.int ((rc (a.take i) pre : Nat) : Int)) := by
  refine atI_nat ?_
  unfold cntL
  rw [List.getElem?_map, List.getElem?_range (by omega)]
  show some (PyData.int _) = _
  rw [if_neg (by omega)]
theorem cnt_last (a n : List Nat) : atI (cnt0 a n) (-1) = some (.int ((rc a n : Nat) : Int)) := by
  unfold cnt0
  rw [List.range_succ, List.map_append, List.map_singleton, atI_last, List.take_length]
/-! by places -/
theorem drop_at {n : List Nat} {b : Nat} (h : b < n.length) : n.drop b = n.getD b 0 :: n.drop (b + 1) := by
  rw [List.drop_eq_getElem_cons h, List.getD_eq_getElem?_getD, List.getElem?_eq_getElem h]
  rfl
theorem gr_hit {o b : Nat} {p n : List Nat} (h : b < n.length) (hh : hitC o (n.getD b 0) = true) : gr (o :: p) (n.drop b) b = (gr p (n.drop (b + 1)) (b + 1)).map (b :: ·) := by
  rw [drop_at h]
  show (if _ then _ else _) = _
  rw [if_pos hh]
theorem gr_miss {o b : Nat} {p n : List Nat} (h : b < n.length) (hh : hitC o (n.getD b 0) = false) : gr (o :: p) (n.drop b) b = gr (o :: p) (n.drop (b + 1)) (b + 1) := by
  rw [drop_at h]
  show (if _ then _ else _) = _
  rw [hh]
  rfl
theorem gr_end {o : Nat} {p n : List Nat} : gr (o :: p) (n.drop n.length) n.length = none := by
  rw [List.drop_length]
  rfl
theorem dec_lt {a b : Nat} (h : decide ((a : Int) < (b : Int)) = true) : a < b := by
  have := of_decide_eq_true h
  omega
theorem rows_hit {o b : Nat} {p n : List Nat} (h : b < n.length) (hh : hitC o (n.getD b 0) = true) : rowsS (o :: p) (n.drop b) b = (rowsS p (n.drop (b + 1)) (b + 1)).map (b :: ·) ++ rowsS (o :: p) (n.drop (b + 1)) (b + 1) := by
  rw [drop_at h]
  show (if _ then _ else _) ++ _ = _
  rw [if_pos hh]
theorem rows_miss {o b : Nat} {p n : List Nat} (h : b < n.length) (hh : hitC o (n.getD b 0) = false) : rowsS (o :: p) (n.drop b) b = rowsS (o :: p) (n.drop (b + 1)) (b + 1) := by
  rw [drop_at h]
  show (if _ then _ else _) ++ _ = _
  rw [hh]
  rfl
theorem R_look_ok {C0 C1 : Addr} {a n : PyData} (hza : okd a) (hz : okd n) (ha : isAsk a = true) (hn : isName n = true) : R_look C0 C1 [a, n] (.ok .none) := ⟨_, _, rfl, hza, hz, by rw [if_pos ha, if_pos hn]⟩
theorem gr_len : ∀ (a n : List Nat) (k : Nat) (q : List Nat), gr a n k = some q → q.length = a.length
  | [], n, k, q, h => by cases n <;> (cases h; rfl)
  | _ :: _, [], _, _, h => by cases h
  | o :: a, c :: n, k, q, h => by
    unfold gr at h
    split at h
    · obtain ⟨r, hr, rfl⟩ := Option.map_eq_some_iff.mp h
      rw [List.length_cons, List.length_cons, gr_len a n _ r hr]
    · exact gr_len (o :: a) n _ q h
theorem gr_lt : ∀ (a n : List Nat) (k : Nat) (q : List Nat), gr a n k = some q → ∀ i ∈ q, i < k + n.length
  | [], n, k, q, h, i, hi => by cases n <;> (cases h; cases hi)
  | _ :: _, [], _, _, h, _, _ => by cases h
  | o :: a, c :: n, k, q, h, i, hi => by
    unfold gr at h
    rw [List.length_cons]
    split at h
    · obtain ⟨r, hr, rfl⟩ := Option.map_eq_some_iff.mp h
      rcases List.mem_cons.mp hi with rfl | hi
      · omega
      · have := gr_lt a n _ r hr i hi
        omega
    · have := gr_lt (o :: a) n _ q h i hi
      omega
theorem at_of {l : List Nat} {i : Int} {j : Nat} (e : i = ((j : Nat) : Int)) (h : j < l.length) : atI l i = some (l.getD j 0) := by
  rw [e]
  exact getD_at h
theorem cnt_atE {a pre : List Nat} {s k i : Nat} {i' : Int} (e : i' = ((i : Nat) : Int)) (hi : i ≤ a.length - k) : atI (cntL a pre s k) i' = some (.int ((rc (a.take i) pre : Nat) : Int)) := by
  rw [e]
  exact cnt_at hi
theorem cnt_len {a pre : List Nat} {s k : Nat} : (cntL a pre s k).length = a.length + 1 := by simp [cntL]
theorem ixN_of {n j : Nat} (hj : j < n) : ixN n (j : Int) = some j := by
  unfold ixN
  rw [if_pos (by omega), if_pos (by omega), Int.toNat_natCast]
theorem cut1 (o : Nat) (a : List Nat) : cutL (o :: a) (some 1) none = a := by
  rw [show (1 : Int) = ((1 : Nat) : Int) from rfl, cut_drop]
  rfl
theorem rows_empty (a : List Nat) (k : Nat) (o : Nat) : rowsS (o :: a) [] k = [] := rfl
theorem rows_nil (n : List Nat) (k : Nat) : rowsS [] n k = [[]] := by cases n <;> rfl
theorem map_rowD (q : Nat) (rs : List (List Nat)) : ((rs.filter fun _ => true).map fun r => PyData.list ([natI q] ++ r.map natI)) = (rs.map (q :: ·)).map rowD := by
  rw [filter_tt, List.map_map]
  rfl
theorem rows_mem : ∀ {a n : List Nat} {k : Nat} {r : List Nat}, r ∈ rowsS a n k → r.length = a.length
  | [], n, k, r, h => by
    rw [rows_nil] at h
    rw [List.mem_singleton.mp h]
  | _ :: _, [], _, _, h => by cases h
  | o :: a, c :: n, k, r, h => by
    unfold rowsS at h
    rcases List.mem_append.mp h with h | h
    · split at h
      · obtain ⟨q, hq, rfl⟩ := List.mem_map.mp h
        rw [List.length_cons, List.length_cons, rows_mem hq]
      · cases h
    · exact rows_mem h
theorem R_seen_ok {C0 C1 : Addr} {f : List Nat → List Nat → PyData} {a n : List Nat} (hza : okd (tx a)) (hz : okd (tx n)) (ha : isAsk (tx a) = true) (hn : isName (tx n) = true) : R_seen C0 C1 f [tx a, tx n] (.ok (f a n)) := ⟨_, _, rfl, hza, hz, by rw [if_pos ha, if_pos hn, cod_tx, cod_tx]⟩
theorem R_seen_er0 {C0 C1 : Addr} {f : List Nat → List Nat → PyData} {a n : PyData} (hza : okd a) (hz : okd n) (ha : isAsk a = true) (hn : isName n = false) : R_seen C0 C1 f [a, n] (.error C0) := ⟨_, _, rfl, hza, hz, by rw [if_pos ha, hn]; rfl⟩
theorem R_seen_er1 {C0 C1 : Addr} {f : List Nat → List Nat → PyData} {a n : PyData} (hza : okd a) (hz : okd n) (ha : isAsk a = false) : R_seen C0 C1 f [a, n] (.error C1) := ⟨_, _, rfl, hza, hz, by rw [ha]; rfl⟩
theorem R_every_ok {C0 C1 C4 : Addr} {a n : List Nat} (hza : okd (tx a)) (hz : okd (tx n)) (ha : isAsk (tx a) = true) (hn : isName (tx n) = true) (hm : rc a n ≤ 1000) : R_every C0 C1 C4 [tx a, tx n] (.ok (.list ((rowsS a n 0).map rowD))) := ⟨_, _, rfl, hza, hz, by rw [if_pos ha, if_pos hn, cod_tx, cod_tx, if_pos hm]⟩
theorem R_every_er0 {C0 C1 C4 : Addr} {a n : PyData} (hza : okd a) (hz : okd n) (ha : isAsk a = true) (hn : isName n = false) : R_every C0 C1 C4 [a, n] (.error C0) := ⟨_, _, rfl, hza, hz, by rw [if_pos ha, hn]; rfl⟩
theorem R_every_er1 {C0 C1 C4 : Addr} {a n : PyData} (hza : okd a) (hz : okd n) (ha : isAsk a = false) : R_every C0 C1 C4 [a, n] (.error C1) := ⟨_, _, rfl, hza, hz, by rw [ha]; rfl⟩
end Lf
set_option Elab.async false
set_option linter.all false
set_option maxRecDepth 100000
set_option maxHeartbeats 4000000
namespace Lf
open PySem PySem.Spec PyProof.Rows L2 L2H HotX LamX
/-! ### the laws' own laying of all rows -/
def posL (o : Nat) (n : List Nat) (k : Nat) : List Nat := ((List.range (n.length - k)).filter fun i => hitC o (n.getD (k + i) 0)).map fun i => k + i
theorem pos_step {o k : Nat} {n : List Nat} (h : k < n.length) : posL o n k = (if hitC o (n.getD k 0) = true then [k] else []) ++ posL o n (k + 1) := by
  unfold posL
  rw [show n.length - k = (n.length - (k + 1)) + 1 by omega, List.range_succ_eq_map, List.filter_cons, List.filter_map]
  have e : ((fun i => hitC o (n.getD (k + i) 0)) ∘ Nat.succ) = fun i => hitC o (n.getD (k + 1 + i) 0) := by
    funext i
    show hitC o (n.getD (k + (i + 1)) 0) = _
    rw [show k + (i + 1) = k + 1 + i by omega]
  rw [e]
  have e2 : ∀ l : List Nat, (l.map Nat.succ).map (fun i => k + i) = l.map fun i => k + 1 + i := fun l => by
    rw [List.map_map]
    refine List.map_congr_left fun i _ => ?_
    show k + (i + 1) = k + 1 + i
    omega
  rw [Nat.add_zero]
  split
  · rw [List.map_cons, e2]
    rfl
  · rw [e2]
    rfl
theorem rows_pos (o : Nat) (a n : List Nat) : ∀ (j k : Nat), n.length - k = j → k ≤ n.length → rowsS (o :: a) (n.drop k) k = (posL o n k).flatMap fun p => (rowsS a (n.drop (p + 1)) (p + 1)).map (p :: ·)
  | 0, k, h, hk => by
    have : k = n.length := by omega
    subst this
    rw [List.drop_length]
    unfold posL
    simp [rowsS]
  | j + 1, k, h, hk => by
    have hlt : k < n.length := by omega
    rw [pos_step hlt, List.flatMap_append, ← rows_pos o a n j (k + 1) (by omega) (by omega)]
    by_cases hh : hitC o (n.getD k 0) = true
    · rw [rows_hit hlt hh, if_pos hh]
      simp
    · rw [rows_miss hlt (by simpa using hh), if_neg hh]
      simp
/-- where a row goes on -/
def nx : List Nat → Nat
  | [] => 0
  | r => r.getLastD 0 + 1
theorem nx_snoc (r : List Nat) (p : Nat) : nx (r ++ [p]) = p + 1 := by
  cases r with
  | nil => rfl
  | cons x r =>
    show (x :: r ++ [p]).getLastD 0 + 1 = p + 1
    rw [List.getLastD_eq_getLast?, List.getLast?_append]
    rfl
theorem fm_congr {α β : Type} {f g : α → List β} : ∀ {l : List α}, (∀ x ∈ l, f x = g x) → l.flatMap f = l.flatMap g
  | [], _ => rfl
  | x :: l, h => by rw [List.flatMap_cons, List.flatMap_cons, h x List.mem_cons_self, fm_congr fun y hy => h y (List.mem_cons_of_mem _ hy)]
def extR (o : Nat) (n : List Nat) (r : List Nat) : List (List Nat) := (posL o n (nx r)).map fun p => r ++ [p]
def lev (n : List Nat) (a : List Nat) (rs : List (List Nat)) : List (List Nat) := a.foldl (fun rs o => rs.flatMap (extR o n)) rs
def okR (n r : List Nat) : Prop := nx r ≤ n.length
theorem lev_rows (n : List Nat) : ∀ (a : List Nat) (rs : List (List Nat)), (∀ r ∈ rs, okR n r) → lev n a rs = rs.flatMap fun r => (rowsS a (n.drop (nx r)) (nx r)).map (r ++ ·)
  | [], rs, _ => by
    unfold lev
    simp [rows_nil]
  | o :: a, rs, hrs => by
    show lev n a (rs.flatMap (extR o n)) = _
    rw [lev_rows n a _ fun r hr => ?_, List.flatMap_assoc]
    · refine fm_congr fun r hr => ?_
      unfold extR
      rw [rows_pos o a n _ (nx r) rfl (hrs r hr), List.flatMap_map, List.map_flatMap]
      refine fm_congr fun p _ => ?_
      rw [nx_snoc, List.map_map]
      refine List.map_congr_left fun q _ => ?_
      show r ++ [p] ++ q = r ++ (p :: q)
      rw [List.append_assoc]
      rfl
    · obtain ⟨r0, h0, h1⟩ := List.mem_flatMap.mp hr
      obtain ⟨p, hp, rfl⟩ := List.mem_map.mp h1
      unfold okR
      rw [nx_snoc]
      unfold posL at hp
      obtain ⟨i, hi, rfl⟩ := List.mem_map.mp hp
      have := List.mem_range.mp (List.mem_filter.mp hi).1
      omega
theorem lev_all (n a : List Nat) : lev n a [[]] = rowsS a n 0 := by
  rw [lev_rows n a _ fun r hr => ?_]
  · simp [nx]
  · cases List.mem_singleton.mp hr
    exact Nat.zero_le _
theorem lev_snoc (n a : List Nat) (o : Nat) (rs : List (List Nat)) : lev n (a ++ [o]) rs = (lev n a rs).flatMap (extR o n) := by
  unfold lev
  rw [List.foldl_append]
  rfl
theorem lev_ok (n a : List Nat) : ∀ r ∈ lev n a [[]], okR n r ∧ r.length = a.length := fun r hr => by
  refine ⟨?_, ?_⟩
  · rcases List.eq_nil_or_concat a with rfl | ⟨b, o, rfl⟩
    · cases List.mem_singleton.mp hr
      exact Nat.zero_le _
    · rw [List.concat_eq_append, lev_snoc] at hr
      obtain ⟨r0, h0, h1⟩ := List.mem_flatMap.mp hr
      obtain ⟨p, hp, rfl⟩ := List.mem_map.mp h1
      unfold okR
      rw [nx_snoc]
      unfold posL at hp
      obtain ⟨i, hi, rfl⟩ := List.mem_map.mp hp
      have := List.mem_range.mp (List.mem_filter.mp hi).1
      omega
  · rw [lev_all] at hr
    exact rows_mem hr
def R_law_hit (ds : List PyData) (r : Res) : Prop := ∃ o s, ds = [tx [o], tx [s]] ∧ s < 128 ∧ r = .ok (.bool (hitL o s))
def R_law_every (ds : List PyData) (r : Res) : Prop := ∃ a n, ds = [tx a, tx n] ∧ a.length ≤ 4 ∧ n.length ≤ 12 ∧ (∀ c ∈ n, c ∈ alpha) ∧ r = .ok (.list ((rowsS a n 0).map rowD))
/-! an ask made of a name -/
def l4 : List Nat := [97, 98, 65, 49]
def putA (here : Int) (name : List Nat) (at_ : Nat) : List Nat :=
  if at_ < name.length ∧ name.getD at_ 0 ∉ lOth ∧ here % 13 > 0 then [if here / 64 % 3 = 0 then name.getD at_ 0 else lowC (name.getD at_ 0)]
  else if here % 13 = 0 then [l4.getD (here / 64 % 4).toNat 0] else []
def stepA (more : Int) (name : List Nat) (st : List Nat × Nat) (j : Nat) : List Nat × Nat :=
  (st.1 ++ putA (drawn more (j : Int)) name (st.2 + (drawn more (j : Int) / 8 % 3).toNat), st.2 + (drawn more (j : Int) / 8 % 3).toNat + 1)
def foldA (more : Int) (name : List Nat) (pre : List Nat) : List Nat × Nat := pre.foldl (stepA more name) ([], 0)
theorem foldA_snoc (more : Int) (name pre : List Nat) (j : Nat) : foldA more name (pre ++ [j]) = stepA more name (foldA more name pre) j := by
  unfold foldA
  rw [List.foldl_append]
  rfl
def askIn (more : Int) (name : List Nat) (most : Int) : List Nat := (foldA more name (List.range (more % (most + 1)).toNat)).1
def R_law_ask_in (ds : List PyData) (r : Res) : Prop := ∃ more name most, ds = [.int more, tx name, .int most] ∧ 0 ≤ most ∧ most ≤ 100 ∧ isNm name = true ∧ r = .ok (tx (askIn more name most))
theorem alpha_alnum : ∀ c ∈ alpha, c ∉ lOth → c ∈ alnum ∧ lowC c ∈ alnum := by decide +kernel
theorem putA_ok {here : Int} {name : List Nat} {p : Nat} (hn : isNm name = true) : (putA here name p).length ≤ 1 ∧ ∀ c ∈ putA here name p, c ∈ alnum := by
  unfold putA
  split
  · rename_i h
    refine ⟨by simp, fun c hc => ?_⟩
    have hm : name.getD p 0 ∈ alpha := by
      rw [List.getD_eq_getElem?_getD, List.getElem?_eq_getElem h.1]
      exact isNm_alpha hn _ (List.getElem_mem h.1)
    have := alpha_alnum _ hm h.2.1
    rw [List.mem_singleton.mp hc]
    split
    · exact this.1
    · exact this.2
  · split
    · refine ⟨by simp, fun c hc => ?_⟩
      rw [List.mem_singleton.mp hc]
      have h1 := Int.emod_nonneg (here / 64) (show (4 : Int) ≠ 0 by decide)
      have h2 := Int.emod_lt_of_pos (here / 64) (show (0 : Int) < 4 by decide)
      have key : ∀ n, n < 4 → l4.getD n 0 ∈ alnum := by decide
      exact key _ (by omega)
    · exact ⟨by simp, fun c hc => by cases hc⟩
theorem foldA_ok {more : Int} {name : List Nat} (hn : isNm name = true) : ∀ pre : List Nat, (foldA more name pre).1.length ≤ pre.length ∧ (∀ c ∈ (foldA more name pre).1, c ∈ alnum) ∧ (foldA more name pre).2 ≤ 3 * pre.length := fun pre => by
  unfold foldA
  suffices h : ∀ st : List Nat × Nat, (∀ c ∈ st.1, c ∈ alnum) → (pre.foldl (stepA more name) st).1.length ≤ st.1.length + pre.length ∧ (∀ c ∈ (pre.foldl (stepA more name) st).1, c ∈ alnum) ∧ (pre.foldl (stepA more name) st).2 ≤ st.2 + 3 * pre.length by
    have := h ([], 0) (fun c hc => by cases hc)
    simpa using this
  induction pre with
  | nil => intro st hs; exact ⟨by simp, hs, by simp⟩
  | cons j r ih =>
    intro st hs
    rw [List.foldl_cons]
    have hp := putA_ok (here := drawn more (j : Int)) (p := st.2 + (drawn more (j : Int) / 8 % 3).toNat) hn
    have h1 := Int.emod_lt_of_pos (drawn more (j : Int) / 8) (show (0 : Int) < 3 by decide)
    have := ih (stepA more name st j) fun c hc => by
      rcases List.mem_append.mp hc with hc | hc
      · exact hs c hc
      · exact hp.2 c hc
    obtain ⟨a1, a2, a3⟩ := this
    refine ⟨Nat.le_trans a1 ?_, a2, Nat.le_trans a3 ?_⟩
    · show (st.1 ++ putA _ _ _).length + r.length ≤ _
      rw [List.length_append, List.length_cons]
      omega
    · show st.2 + (drawn more (j : Int) / 8 % 3).toNat + 1 + 3 * r.length ≤ _
      rw [List.length_cons]
      omega
theorem askIn_ok {more most : Int} {name : List Nat} (hn : isNm name = true) (h0 : 0 ≤ most) (h : most ≤ 8) : isAs (askIn more name most) = true ∧ ((askIn more name most).length : Int) ≤ most := by
  obtain ⟨h1, h2, _⟩ := foldA_ok (more := more) hn (List.range (more % (most + 1)).toNat)
  rw [List.length_range] at h1
  have b1 := Int.emod_nonneg more (show most + 1 ≠ 0 by omega)
  have b2 := Int.emod_lt_of_pos more (show 0 < most + 1 by omega)
  unfold askIn
  refine ⟨?_, by omega⟩
  unfold isAs
  simp only [Bool.and_eq_true, List.all_eq_true, decide_eq_true_eq]
  exact ⟨by omega, h2⟩
theorem low8 {l : List Nat} {x : Nat} (hn : isNm l = true) (h : x < l.length) : l.getD x 0 < 128 := by
  rw [List.getD_eq_getElem?_getD, List.getElem?_eq_getElem h]
  exact (alpha_low _ (isNm_alpha hn _ (List.getElem_mem h))).1
theorem and_lt {a b : Nat} {x : Bool} (h : (decide ((a : Int) < (b : Int)) && x) = true) : a < b := dec_lt (Bool.and_eq_true_iff.mp h).1
theorem row_ne {row : List Nat} : PyData.eqv (rowD row) (.list []) = decide (row = []) := by
  cases row <;> rfl
theorem row_last {row : List Nat} (hb : (!PyData.eqv (rowD row) (.list [])) = true) : atI (row.map natI) (-1) = some (.int ((row.getLastD 0 : Nat) : Int)) := by
  rw [row_ne] at hb
  rcases List.eq_nil_or_concat row with rfl | ⟨b, o, rfl⟩
  · cases hb
  · rw [List.concat_eq_append, List.map_append, List.map_singleton, atI_last, List.getLastD_eq_getLast?, List.getLast?_append]
    rfl
theorem row_nx1 {row : List Nat} (hb : (!PyData.eqv (rowD row) (.list [])) = true) : PyData.int (((row.getLastD 0 : Nat) : Int) + 1) = natI (nx row) := by
  rw [row_ne] at hb
  cases row with
  | nil => cases hb
  | cons x r => rfl
theorem row_nx0 {row : List Nat} (hb : (!PyData.eqv (rowD row) (.list [])) = false) : PyData.int 0 = natI (nx row) := by
  rw [row_ne] at hb
  cases row with
  | nil => rfl
  | cons x r => simp at hb
theorem lay_emp : Lay 1 (.list []) := lay_list (n := 0) fun d hd => by cases hd
theorem ext_data {o : Nat} {n row : List Nat} (hn : ∀ c ∈ n, c ∈ alpha) (h : nx row ≤ n.length) : (((List.range ((n.length : Int) - (nx row : Int)).toNat).filter fun i => hitL o (n.getD (nx row + i) 0)).map fun i => PyData.list (row.map natI ++ [natI (nx row + i)])) = (extR o n row).map rowD := by
  unfold extR posL
  rw [List.map_map, List.map_map, show ((n.length : Int) - (nx row : Int)).toNat = n.length - nx row by omega]
  have e : (List.range (n.length - nx row)).filter (fun i => hitL o (n.getD (nx row + i) 0)) = (List.range (n.length - nx row)).filter (fun i => hitC o (n.getD (nx row + i) 0)) := by
    refine List.filter_congr fun i hi => ?_
    have := List.mem_range.mp hi
    refine hit_same ?_
    rw [List.getD_eq_getElem?_getD, List.getElem?_eq_getElem (by omega)]
    exact hn _ (List.getElem_mem _)
  rw [e]
  refine List.map_congr_left fun i _ => ?_
  show _ = rowD (row ++ [nx row + i])
  unfold rowD
  rw [List.map_append]
  rfl
def R_law_count (ds : List PyData) (r : Res) : Prop := ∃ a n, ds = [tx a, tx n] ∧ a.length ≤ 100 ∧ n.length ≤ 1000 ∧ (∀ c ∈ n, c ∈ alpha) ∧ r = .ok (.int (rc a n : Nat))
end Lf
set_option Elab.async false
set_option linter.all false
set_option maxRecDepth 100000
set_option maxHeartbeats 4000000
namespace Lf
open PySem PySem.Spec PyProof.Rows L2 L2H HotX LamX
/-! ### sorted(list of data) -/
theorem each_dt {X : Cx} {pins : List (Addr × Obj)} {σ : L2.St} {H : Hp} {s : Shared} {O : Addr → Prop} (I : Inv X pins σ H s) : ∀ {ds : List PyData} {xs : List V} {us : List Value}, DtAll O H ds xs → Vals xs us →
    PySem.W.EachIs (fun u d => ∃ x, RelV x u ∧ Dt O H d x) us ds ∧ PySem.W.EachIs (fun u d => ∃ as, Reads s.heap u d as) us ds
  | [], _, _, h, r => by
    cases (show _ = ([] : List V) from h)
    cases r
    exact ⟨.nil, .nil⟩
  | d :: ds, _, _, h, r => by
    obtain ⟨x, xs, rfl, h1, h2⟩ := h
    cases r with
    | cons rx rr =>
      obtain ⟨a, b⟩ := each_dt I h2 rr
      exact ⟨.cons ⟨x, rx, h1⟩ a, .cons (Dp.reads I d x _ (Dt.dp d x h1) rx) b⟩
theorem of_each {O : Addr → Prop} {H : Hp} : ∀ {ds : List PyData} {us : List Value}, PySem.W.EachIs (fun u d => ∃ x, RelV x u ∧ Dt O H d x) us ds → ∃ xs, Vals xs us ∧ DtAll O H ds xs
  | _, _, .nil => ⟨[], .nil, rfl⟩
  | _, _, .cons ⟨x, r, h⟩ t => by
    obtain ⟨xs, a, b⟩ := of_each t
    exact ⟨x :: xs, .cons r a, x, xs, rfl, h, b⟩
def sortD (ds : List PyData) : List PyData := ds.mergeSort (PySem.W.dataLe false fun d => d)
def rSortD (K : PySem.W.Frag) : List V → Hp → VK → Prop := fun vs H Q => ∃ (O : Addr → Prop) (a : Addr) (xs : List V) (ds : List PyData), vs = [V.ref a] ∧ SqL K H a xs ∧ DtAll O H ds xs ∧ PySem.W.AllAlike ds ∧ PySem.W.Sortable ds ∧ (∀ d ∈ ds, d.depth ≤ 30) ∧
  ∀ (ys : List V) (p : Addr), DtAll O H (sortD ds) ys → H p = none → Q (.ref p) (upd H p (.lst ys))
theorem cr_sortD {X : Cx} (hu : X.A.units + 65 < cLine) : CallR X (.builtin "sorted") (rSortD X.K) := by
  intro pins s σ H vs us Q I r h
  obtain ⟨O, a, xs, ds, rfl, hs, hd, al, so, dp, q⟩ := h
  obtain ⟨its, rv, hl, hz⟩ := I.list hs
  rw [Vals.ref1 r]
  obtain ⟨e1, e2⟩ := each_dt I hd rv
  have hln := hd.len
  refine PySem.W.sorted_data (enc := fun d => d) hl.isList e1 e2 (by simpa using al) (by simpa using so) (by rw [← hln]; exact hz) (fun d hb => ?_) fun out ho eo => ?_
  · have := dp d hb
    omega
  · obtain ⟨ys, r1, d1⟩ := of_each eo
    obtain ⟨ep, he'⟩ := PyProof.Rows.sortedAll_at s.heap its out.toArray
    have hlen : ys.length ≤ sizeLine := by
      rw [r1.length, ho, ← hln]
      exact hz
    exact ⟨.ref _, upd H (s.heap.objs.size + 1) (.lst ys), I.laid (t' := s.toks) (fun _ _ => PyProof.Rows.sortedAll_old) (Nat.le_succ _) ⟨hlen, out, ep, r1, he'⟩, rfl, q ys _ d1 (I.hok.fresh (Nat.le_succ _))⟩
section
variable {Kf : PySem.W.Frag} {Tf : List (Addr × Str)} {F : Fx Kf Tf} {K : PySem.W.Frag} {ds : List PyData}
theorem cd_sortD (al : PySem.W.AllAlike ds) (so : PySem.W.Sortable ds) (dp : ∀ d ∈ ds, d.depth ≤ 30) : ClD F (rSortD K) [.list ds] (.list (sortD ds)) := fun O H xs Q dom w h k => by
  obtain ⟨x, r, rfl, ⟨a, ys, rfl, _, ga, ra⟩, rfl⟩ := h
  refine ⟨O, a, ys, ds, rfl, SqL.of ga, ra, al, so, dp, fun zs p hd hp => ?_⟩
  exact k _ _ (ext_new hp) (tabs_new w hp) ⟨p, zs, rfl, fresh_ok dom hp, upd_same, hd.grow (ext_new hp)⟩
end
/-- rows of numbers -/
def ci (r : List Nat) : List Int := r.map fun (i : Nat) => (i : Int)
theorem rowD_ci (r : List Nat) : rowD r = .list ((ci r).map .int) := by
  unfold rowD ci
  rw [List.map_map]
  rfl
theorem le_rows (p q : List Nat) : PySem.W.dataLe false (fun d => d) (rowD p) (rowD q) = decide (ci p ≤ ci q) := by
  have h := congrFun (congrFun (PySem.W.dataLe_rows (β := List Nat) ci) p) q
  rw [← h]
  show PySem.W.dataLe false (fun d => d) (rowD p) (rowD q) = PySem.W.dataLe false (fun d => d) (PyData.list ((ci p).map .int)) (PyData.list ((ci q).map .int))
  rw [rowD_ci, rowD_ci]
theorem rows_ge : ∀ {a n : List Nat} {k : Nat} {r : List Nat}, r ∈ rowsS a n k → ∀ i ∈ r, k ≤ i
  | [], n, k, r, h, i, hi => by
    rw [rows_nil] at h
    rw [List.mem_singleton.mp h] at hi
    cases hi
  | _ :: _, [], _, _, h, _, _ => by cases h
  | o :: a, c :: n, k, r, h, i, hi => by
    unfold rowsS at h
    rcases List.mem_append.mp h with h | h
    · split at h
      · obtain ⟨q, hq, rfl⟩ := List.mem_map.mp h
        rcases List.mem_cons.mp hi with rfl | hi
        · exact Nat.le_refl _
        · have := rows_ge hq i hi
          omega
      · cases h
    · have := rows_ge h i hi
      omega
theorem rows_sorted : ∀ (a n : List Nat) (k : Nat), (rowsS a n k).Pairwise fun p q => ci p ≤ ci q
  | [], n, k => by
    rw [rows_nil]
    exact List.pairwise_singleton _ _
  | _ :: _, [], _ => .nil
  | o :: a, c :: n, k => by
    unfold rowsS
    refine List.pairwise_append.mpr ⟨?_, rows_sorted (o :: a) n (k + 1), fun p hp q hq => ?_⟩
    · split
      · refine List.pairwise_map.mpr ((rows_sorted a n (k + 1)).imp fun {p q} h => ?_)
        show (k : Int) :: ci p ≤ (k : Int) :: ci q
        exact List.cons_le_cons_iff.mpr (.inr ⟨rfl, h⟩)
      · exact .nil
    · split at hp
      · obtain ⟨p0, _, rfl⟩ := List.mem_map.mp hp
        cases q with
        | nil =>
          have := rows_mem hq
          cases this
        | cons x q =>
          have := rows_ge hq x List.mem_cons_self
          show (k : Int) :: ci p0 ≤ (x : Int) :: ci q
          exact List.cons_le_cons_iff.mpr (.inl (by omega))
      · cases hp
theorem sort_rows (a n : List Nat) (k : Nat) : sortD ((rowsS a n k).map rowD) = (rowsS a n k).map rowD := by
  unfold sortD
  refine List.mergeSort_of_pairwise (List.pairwise_map.mpr ((rows_sorted a n k).imp fun {p q} h => ?_))
  rw [le_rows]
  exact decide_eq_true h
theorem rows_alike (R : List (List Nat)) : PySem.W.AllAlike (R.map rowD) ∧ PySem.W.Sortable (R.map rowD) ∧ ∀ d ∈ R.map rowD, d.depth ≤ 30 := by
  have al : ∀ p q : List Nat, PySem.W.alikeAll (p.map natI) (q.map natI) = true := fun p => by
    induction p with
    | nil => intro q; rfl
    | cons x p ih =>
      intro q
      cases q with
      | nil => rfl
      | cons y q => exact ih q
  refine ⟨PySem.W.AllAlike.of fun p q => al p q, PySem.W.Sortable.others (fun p => ⟨fun z => (by cases (show PyData.list _ = PyData.none from z)), fun xs z => (by cases (show PyData.list _ = PyData.tuple xs from z))⟩), fun d hd => ?_⟩
  obtain ⟨r, _, rfl⟩ := List.mem_map.mp hd
  exact Nat.le_trans lay_nats.2 (by decide)
end Lf
set_option Elab.async false
set_option linter.all false
set_option maxRecDepth 100000
set_option maxHeartbeats 4000000
namespace Lf
open PySem PySem.Spec PyProof.Rows L2 L2H HotX LamX
/-! ### counts put together -/
theorem rc_rev : ∀ (n a : List Nat), rc a.reverse n.reverse = rc a n
  | [], a => by
    cases a with
    | nil => rfl
    | cons o a => rw [List.reverse_nil, rc_nil (by simp), rc_nil (by simp)]
  | c :: n, a => by
    cases a with
    | nil => rw [List.reverse_nil, rc_empty, rc_empty]
    | cons o a =>
      rw [List.reverse_cons, List.reverse_cons, rc_snoc, rc_rev n a, ← List.reverse_cons, rc_rev n (o :: a)]
      show _ = (if hitC o c = true then rc a n else 0) + rc (o :: a) n
      omega
def sumC (a one other : List Nat) : Nat := ((List.range (a.length + 1)).map fun i => rc (a.take i) one * rc (a.drop i) other).sum
theorem sum_succ (f : Nat → Nat) (m : Nat) : ((List.range (m + 1)).map f).sum = f 0 + ((List.range m).map fun i => f (i + 1)).sum := by
  rw [List.range_succ_eq_map, List.map_cons, List.sum_cons, List.map_map]
  rfl
theorem sum_add (f g : Nat → Nat) : ∀ l : List Nat, (l.map fun i => f i + g i).sum = (l.map f).sum + (l.map g).sum
  | [] => rfl
  | x :: l => by
    simp only [List.map_cons, List.sum_cons, sum_add f g l]
    omega
theorem sum_zero : ∀ l : List Nat, (l.map fun _ => 0).sum = 0
  | [] => rfl
  | x :: l => by simp only [List.map_cons, List.sum_cons, sum_zero l]
theorem sumC_step (o c : Nat) (a one other : List Nat) : sumC (o :: a) (c :: one) other = (if hitC o c = true then sumC a one other else 0) + sumC (o :: a) one other := by
  unfold sumC
  rw [List.length_cons, sum_succ, sum_succ (m := a.length + 1) (f := fun i => rc ((o :: a).take i) one * rc ((o :: a).drop i) other)]
  have e : ∀ i, rc ((o :: a).take (i + 1)) (c :: one) * rc ((o :: a).drop (i + 1)) other = (if hitC o c = true then rc (a.take i) one * rc (a.drop i) other else 0) + rc ((o :: a).take (i + 1)) one * rc ((o :: a).drop (i + 1)) other := fun i => by
    show ((if hitC o c = true then rc (a.take i) one else 0) + rc (o :: a.take i) one) * _ = _
    rw [Nat.add_mul]
    split <;> simp
  rw [show (fun i => rc ((o :: a).take (i + 1)) (c :: one) * rc ((o :: a).drop (i + 1)) other) = fun i => (if hitC o c = true then rc (a.take i) one * rc (a.drop i) other else 0) + rc ((o :: a).take (i + 1)) one * rc ((o :: a).drop (i + 1)) other from funext e, sum_add]
  have h0 : rc ((o :: a).take 0) (c :: one) = rc ((o :: a).take 0) one := by rw [List.take_zero, rc_empty, rc_empty]
  rw [h0]
  split
  · omega
  · rw [sum_zero]
    omega
theorem sumC_all : ∀ (one a other : List Nat), sumC a one other = rc a (one ++ other)
  | [], a, other => by
    unfold sumC
    rw [sum_succ]
    have : ((List.range a.length).map fun i => rc (a.take (i + 1)) [] * rc (a.drop (i + 1)) other) = (List.range a.length).map fun _ => 0 := List.map_congr_left fun i hi => by
      have := List.mem_range.mp hi
      rw [rc_nil (fun h => by have := congrArg List.length h; rw [List.length_take, List.length_nil] at this; omega), Nat.zero_mul]
    rw [this, sum_zero, List.take_zero, rc_empty, List.drop_zero]
    simp
  | c :: one, a, other => by
    cases a with
    | nil =>
      unfold sumC
      simp [rc_empty]
    | cons o a =>
      rw [sumC_step, sumC_all one a other, sumC_all one (o :: a) other]
      rfl
theorem rc_pow : ∀ (n a : List Nat), rc a n ≤ 2 ^ n.length
  | [], a => by
    cases a with
    | nil => exact Nat.le_refl _
    | cons _ _ => exact Nat.zero_le _
  | c :: n, a => by
    cases a with
    | nil => rw [rc_empty]; exact Nat.one_le_two_pow
    | cons o a =>
      have h1 := rc_pow n a
      have h2 := rc_pow n (o :: a)
      show (if hitC o c = true then rc a n else 0) + rc (o :: a) n ≤ 2 ^ (n.length + 1)
      rw [Nat.pow_succ]
      split <;> omega
theorem rc_mul {a b n m : List Nat} (h1 : n.length ≤ 100) (h2 : m.length ≤ 100) : CMulW ((rc a n : Nat) : Int) ((rc b m : Nat) : Int) := by
  have e1 := rc_pow n a
  have e2 := rc_pow m b
  have p1 : 2 ^ n.length ≤ 2 ^ 100 := Nat.pow_le_pow_right (by decide) h1
  have p2 : 2 ^ m.length ≤ 2 ^ 100 := Nat.pow_le_pow_right (by decide) h2
  exact wide_mul (a := 101) (b := 101) (by rw [Int.natAbs_natCast]; omega) (by rw [Int.natAbs_natCast]; omega) (by decide) (by decide) (by decide)
theorem sum_cast (l : List Nat) (f : Nat → Nat) : ((l.map fun i => ((f i : Nat) : Int)).sum) = (((l.map f).sum : Nat) : Int) := by
  induction l with
  | nil => rfl
  | cons x l ih => simp only [List.map_cons, List.sum_cons, ih]; simp
section
variable {Kf : PySem.W.Frag} {Tf : List (Addr × Str)} {F : Fx Kf Tf}
theorem od_repSi {l : List Nat} {i : Int} (hn : 1 ≤ i) (hn2 : i ≤ 100000) (hz : l.length * i.toNat ≤ 100000) : OpD F rMulS (tx l) (.int i) (tx (List.replicate i.toNat l).flatten) := by
  have e : i = ((i.toNat : Nat) : Int) := by omega
  have := od_repS (F := F) (l := l) (n := i.toNat) (by omega) (by omega) hz
  rw [← e] at this
  exact this
end
theorem lay_rows {R : List (List Nat)} : Lay 2 (.list (R.map rowD)) := lay_list (n := 1) fun d hd => by
  obtain ⟨r, _, rfl⟩ := List.mem_map.mp hd
  exact lay_nats
theorem lay_opt {q : Option (List Nat)} : Lay 1 (optD q) := by
  cases q with
  | none => exact lay_none
  | some r => exact lay_nats
theorem lay_ends {q s : Option (List Nat)} : Lay 2 (.tuple [optD q, optD s]) := lay_tuple (n := 1) fun d hd => by
  rcases List.mem_cons.mp hd with rfl | hd
  · exact lay_opt
  · rw [List.mem_singleton.mp hd]
    exact lay_opt
theorem rows_ne {R : List (List Nat)} : PyData.eqv (.list (R.map rowD)) (.list []) = decide (R = []) := by cases R <;> rfl
theorem ends_head {a n : List Nat} (hb : (!PyData.eqv (.list ((rowsS a n 0).map rowD)) (.list [])) = true) : atI ((rowsS a n 0).map rowD) 0 = some (optD (gr a n 0)) := by
  rw [rows_ne] at hb
  rw [gr_head]
  cases q : rowsS a n 0 with
  | nil => rw [q] at hb; cases hb
  | cons r R => exact atI_nat (j := 0) rfl
theorem ends_last {a n : List Nat} (hb : (!PyData.eqv (.list ((rowsS a n 0).map rowD)) (.list [])) = true) : atI ((rowsS a n 0).map rowD) (-1) = some (optD (lastL a n)) := by
  rw [rows_ne] at hb
  rw [lastL_rl, rl_last]
  rcases List.eq_nil_or_concat (rowsS a n 0) with q | ⟨R, r, q⟩
  · rw [q] at hb; cases hb
  · rw [q, List.concat_eq_append, List.map_append, List.map_singleton, atI_last, List.getLast?_append]
    rfl
theorem ends_none {a n : List Nat} (hb : (!PyData.eqv (.list ((rowsS a n 0).map rowD)) (.list [])) = false) : PyData.tuple [.none, .none] = .tuple [optD (gr a n 0), optD (lastL a n)] := by
  rw [rows_ne] at hb
  have : rowsS a n 0 = [] := by simpa using hb
  rw [lastL_rl, rl_last, gr_head, this]
  rfl
theorem R_every_er4 {C0 C1 C4 : Addr} {a n : List Nat} (hza : okd (tx a)) (hz : okd (tx n)) (ha : isAsk (tx a) = true) (hn : isName (tx n) = true) (hm : ¬ rc a n ≤ 1000) : R_every C0 C1 C4 [tx a, tx n] (.error C4) := ⟨_, _, rfl, hza, hz, by rw [if_pos ha, if_pos hn, cod_tx, cod_tx, if_neg hm]⟩
end Lf
set_option Elab.async false
set_option linter.all false
set_option maxRecDepth 100000
set_option maxHeartbeats 4000000
namespace Lf
open PySem PySem.Spec PyProof.Rows L2 L2H HotX LamX
/-! ### zip of two lists -/
section
variable {Kf : PySem.W.Frag} {Tf : List (Addr × Str)} {F : Fx Kf Tf} {δ : List Slot} {X : Cx} {N : List Str} {sc : Scope} {pos p tpos px py pz pt pt2 : Pos} {a b c e : Expr} {elts : List Expr} {kk : Nat} {ds es : List PyData} {x y z : Str} {rest : List Stmt} {P : Post}
def encZ (q : PyData × PyData) : PyData := .tuple [q.1, q.2]
theorem i_zipLL (cx : Ctx X N sc) (hm : X.mg "zip" = none) (h : PA X [a, b] (aD F δ [.list ds, .list es])) (hg : sc.names.lookup ("zip" : Str) = some .globalImplicit := by rfl) (hs : starEach [a, b] X.env = (false, eval a X.env) :: starEach [b] X.env := by rfl) (hpl : (backTo pos (starEach [b] X.env)).any (·.1) = false := by rfl) :
    PI X (.Tuple elts kk tpos) (.Call (.Name "zip" p) [a, b] [] pos) (iD F δ ((ds.zip es).map encZ)) := by
  refine wkI (pi_zip (cx.gl hg) hm h hs hpl) fun σ H R q => ?_
  obtain ⟨O, st, k⟩ := q
  refine ⟨O, st, fun vs H1 e1 t1 g1 => ?_⟩
  obtain ⟨v, r, rfl, ev, u, r', rfl, eu, rfl⟩ := g1
  obtain ⟨q1, xs, rfl, n1, h1, r1⟩ := id ev
  obtain ⟨q2, ys, rfl, n2, h2, r2⟩ := id eu
  refine ⟨q1, q2, xs, ys, rfl, SqL.of h1, SqL.of h2, k (Itz X.K q1 q2) [(.list ds, .ref q1), (.list es, .ref q2)] H1 e1 t1 (fun w hw => ?_) (fun O1 H2 i d g2 dom t2 hd => ?_) fun O1 H2 g2 => ?_⟩
  · rcases List.mem_cons.mp hw with e | hw
    · rw [e]; exact ev
    · rw [List.mem_singleton.mp hw]; exact eu
  · obtain ⟨b1, ys1, eb1, nb1, gb1, rb1⟩ := g2 _ List.mem_cons_self
    obtain ⟨b2, ys2, eb2, nb2, gb2, rb2⟩ := g2 _ (List.mem_cons_of_mem _ List.mem_cons_self)
    cases eb1
    cases eb2
    rw [List.getElem?_map] at hd
    obtain ⟨⟨d1, d2⟩, hz, rfl⟩ := Option.map_eq_some_iff.mp hd
    obtain ⟨hz1, hz2⟩ := List.getElem?_zip_eq_some.mp hz
    obtain ⟨y1, hy1, dy1⟩ := rb1.get hz1
    obtain ⟨y2, hy2, dy2⟩ := rb2.get hz2
    refine ⟨⟨ys1, ys2, y1, y2, SqL.of gb1, SqL.of gb2, hy1, hy2⟩, fun x H3 hyld => ?_⟩
    obtain ⟨T, x1, x2, rfl, hT, rfl, hx1, hx2⟩ := hyld
    have f1 := hx1 ys1 (SqL.of gb1)
    have f2 := hx2 ys2 (SqL.of gb2)
    rw [hy1] at f1
    rw [hy2] at f2
    cases f1
    cases f2
    exact ⟨ext_new hT, tabs_new t2 hT, T, _, rfl, fresh_ok dom hT, upd_same, y1, [y2], rfl, dy1.grow (ext_new hT), y2, [], rfl, dy2.grow (ext_new hT), rfl⟩
  · obtain ⟨b1, ys1, eb1, nb1, gb1, rb1⟩ := g2 _ List.mem_cons_self
    obtain ⟨b2, ys2, eb2, nb2, gb2, rb2⟩ := g2 _ (List.mem_cons_of_mem _ List.mem_cons_self)
    cases eb1
    cases eb2
    refine ⟨ys1, ys2, SqL.of gb1, SqL.of gb2, ?_⟩
    rw [rb1.len, rb2.len, List.length_map, List.length_zip]
    omega
end
end Lf
set_option Elab.async false
set_option linter.all false
set_option maxRecDepth 100000
set_option maxHeartbeats 4000000
namespace Lf
open PySem PySem.Spec PyProof.Rows L2 L2H HotX LamX
section
variable {Kf : PySem.W.Frag} {Tf : List (Addr × Str)} {F : Fx Kf Tf} {K : PySem.W.Frag} {δ : List Slot} {X : Cx} {N : List Str} {sc : Scope} {pos p tpos px py pz pt pt2 : Pos} {a b c e tg it : Expr} {elts : List Expr} {kk : Nat} {ds es : List PyData} {x y z : Str} {rest : List Stmt} {P : Post} {d d1 d2 d3 : PyData}
theorem i_is (h : PI X tg it (iD F δ ds)) (q : ds = es) : PI X tg it (iD F δ es) := by rw [← q]; exact h
/-- a op b op' c, a value -/
theorem x_chain {op op' : CmpOp} {r r' : R2} {k j : Bool} (ho : OpR X (compareOp op) r) (ho' : OpR X (compareOp op') r') (q : OpD F r d1 d2 (.bool k)) (q' : k = true → OpD F r' d2 d3 (.bool j)) (ha : PE X a (tD F δ d1)) (hb : PE X b (tD F δ d2)) (hc : PE X c (tD F δ d3)) (hm : lastMarks [op, op'] [b, c] = false := by with_unfolding_all rfl) :
    PE X (.Compare a [op, op'] [b, c] pos) (tD F δ (.bool (k && j))) :=
  wkE (pe_chain ho ho' ha hb hc hm) fun σ H Q h => by
    obtain ⟨O, st, w⟩ := h
    refine ⟨O, st, fun x H1 e1 t1 g1 => ⟨O, st.grow e1 t1, fun y H2 e2 t2 g2 => ?_⟩⟩
    have s2 := (st.grow e1 t1).grow e2 t2
    refine q O H2 x y _ s2.dom t2 (g1.grow e2) g2 fun v H3 e3 t3 g3 => ⟨k, g3, ?_⟩
    cases k with
    | true =>
      refine iteT ⟨O, s2.grow e3 t3, fun u H4 e4 t4 g4 => ?_⟩
      exact q' rfl O H4 y u _ ((s2.grow e3 t3).grow e4 t4).dom t4 ((g2.grow e3).grow e4) g4 fun v5 H5 e5 t5 g5 => w v5 H5 ((((e1.trans e2).trans e3).trans e4).trans e5) t5 (by cases j <;> exact g5)
    | false => exact iteF (w _ H3 ((e1.trans e2).trans e3) t3 rfl)
theorem x_call0 {R : List PyData → Res → Prop} {k : Nat} {ps : List Str} (cx : Ctx X N sc) (h : Fd X.prog X.w X.K X.mg X.base x k ps (spD Tf R)) (hr : Room k X.A) (hR : R [] (.ok d)) (hg : sc.names.lookup x = some .globalImplicit := by rfl) (hdb : (x == ("__debug__" : Str)) = false := by decide) :
    PE X (.Call (.Name x p) [] [] pos) (tD F δ d) := by
  obtain ⟨f, fd, G, m, kp, b⟩ := h.ex
  refine wkE (pe_call0 G hr (cx.gl hg) m kp b .nil passN hdb) fun σ H Q h => ?_
  obtain ⟨O, st, w⟩ := h
  exact ⟨O, [], .ok d, st.dom, st.tabs, rfl, hR, fun d' q v H' e2 t2 g2 => by cases q; exact w v H' e2 t2 g2, fun c q => by cases q⟩
/-- a name that lambdas use takes a comprehension's list -/
theorem s_setC (i : Nat) {pos' : Pos} (cx : CtD X N sc F.E) (h : PE X e (tD F δ d)) (g : PSs X rest (sD F (δ.set i (.dat d)) P)) (hi : N[i]? = some x := by rfl) (hx : Loc sc x := by first | exact Or.inl rfl | exact Or.inr rfl)
    (hs : swapsWith e (some (.Name x pos')) pos.line (envS sc) = pure false := by rfl) : PSs X (.Assign [.Name x pos'] e pos :: rest) (sD F δ P) :=
  s_set i cx h g hi hx (by
    have c := cx.toCtx.s
    rw [← c] at hs
    generalize X.env = en at hs ⊢
    cases en
    exact hs)
/-- a, b, c = x, y, z -/
theorem s_par3 (i j l : Nat) {kt k2 : Nat} (cx : CtD X N sc F.E) (ha : PA X [a, b, c] (aD F δ [d1, d2, d3])) (g : PSs X rest (sD F (((δ.set i (.dat d1)).set j (.dat d2)).set l (.dat d3)) P)) (hi : N[i]? = some x := by rfl) (hj : N[j]? = some y := by rfl) (hl : N[l]? = some z := by rfl) (hij : i ≠ j := by decide) (hil : i ≠ l := by decide) (hjl : j ≠ l := by decide)
    (hx : sc.names.lookup x = some .local := by rfl) (hy : sc.names.lookup y = some .local := by rfl) (hz : sc.names.lookup z = some .local := by rfl)
    (hw : swappedStores [.Tuple [.Name x px, .Name y py, .Name z pz] kt pt] (.Tuple [a, b, c] k2 pt2) (envS sc) = pure (some [x, y, z]) := by rfl) (hs : swapsWithSole [.Tuple [.Name x px, .Name y py, .Name z pz] kt pt] (.Tuple [a, b, c] k2 pt2) pos.line X.env = pure false := by rfl) :
    PSs X (.Assign [.Tuple [.Name x px, .Name y py, .Name z pz] kt pt] (.Tuple [a, b, c] k2 pt2) pos :: rest) (sD F δ P) :=
  wkSs (pss_cons (ps_par3 cx.calm cx.nd' (cx.at_ hi) (cx.at_ hj) (cx.at_ hl) hij hil hjl (by rw [cx.s]; exact hx) (by rw [cx.s]; exact hy) (by rw [cx.s]; exact hz) ha (sw_eq cx.toCtx hw) hs) g) fun D σ H h' => by
    obtain ⟨O, τ, s0, tm, w⟩ := h'
    refine ⟨O, s0, fun vs H1 e1 t1 g1 => ?_⟩
    obtain ⟨v, r, rfl, h1, u, r', rfl, h2, q, r'', rfl, h3, rfl⟩ := g1
    exact ⟨v, u, q, rfl, O, τ, (((s0.grow e1 t1).setD i h1).setD j h2).setD l h3, tm.grow e1, w⟩
/-- .. the first a new list -/
theorem s_par3A (i j l : Nat) {kt k2 : Nat} (cx : CtD X N sc F.E) (ha : PE X a (tDL F δ ds)) (hb : PA X [b, c] (aD F δ [d2, d3])) (g : PSs X rest (sD F (((δ.set i (.own ds)).set j (.dat d2)).set l (.dat d3)) P)) (hi : N[i]? = some x := by rfl) (hj : N[j]? = some y := by rfl) (hl : N[l]? = some z := by rfl) (hij : i ≠ j := by decide) (hil : i ≠ l := by decide) (hjl : j ≠ l := by decide)
    (hx : sc.names.lookup x = some .local := by rfl) (hy : sc.names.lookup y = some .local := by rfl) (hz : sc.names.lookup z = some .local := by rfl)
    (hw : swappedStores [.Tuple [.Name x px, .Name y py, .Name z pz] kt pt] (.Tuple [a, b, c] k2 pt2) (envS sc) = pure (some [x, y, z]) := by rfl) (hs : swapsWithSole [.Tuple [.Name x px, .Name y py, .Name z pz] kt pt] (.Tuple [a, b, c] k2 pt2) pos.line X.env = pure false := by rfl)
    (h1 : starEach (a :: [b, c]) X.env = (false, eval a X.env) :: starEach [b, c] X.env := by rfl) :
    PSs X (.Assign [.Tuple [.Name x px, .Name y py, .Name z pz] kt pt] (.Tuple [a, b, c] k2 pt2) pos :: rest) (sD F δ P) :=
  wkSs (pss_cons (ps_par3 cx.calm cx.nd' (cx.at_ hi) (cx.at_ hj) (cx.at_ hl) hij hil hjl (by rw [cx.s]; exact hx) (by rw [cx.s]; exact hy) (by rw [cx.s]; exact hz) (pa_cons ha hb h1) (sw_eq cx.toCtx hw) hs) g) fun D σ H h' => by
    obtain ⟨O, τ, s0, tm, w⟩ := h'
    refine ⟨O, s0, fun p xs H1 e1 t1 n1 g1 a1 => ?_⟩
    refine ⟨Shut O p, own_mid s0 e1 t1 n1 g1, fun vs H2 e2 t2 g2 => ?_⟩
    obtain ⟨u, r', rfl, h2, q, r'', rfl, h3, rfl⟩ := g2
    obtain ⟨s3, t3⟩ := own_out s0 tm i (e1.trans e2) t2 n1 (e2 _ _ g1 (fun _ z => by cases z)) (a1.grow e2)
    exact ⟨_, _, _, rfl, Shut O p, τ, (s3.setD j h2).setD l h3, t3, w⟩
/-- .. the second a new list -/
theorem s_par3B (i j l : Nat) {kt k2 : Nat} (cx : CtD X N sc F.E) (ha : PE X a (tD F δ d1)) (hb : PE X b (tDL F δ ds)) (hc : PE X c (tD F δ d3)) (fl : flatD d1 = true) (g : PSs X rest (sD F (((δ.set i (.dat d1)).set j (.own ds)).set l (.dat d3)) P)) (hi : N[i]? = some x := by rfl) (hj : N[j]? = some y := by rfl) (hl : N[l]? = some z := by rfl) (hij : i ≠ j := by decide) (hil : i ≠ l := by decide) (hjl : j ≠ l := by decide)
    (hx : sc.names.lookup x = some .local := by rfl) (hy : sc.names.lookup y = some .local := by rfl) (hz : sc.names.lookup z = some .local := by rfl)
    (hw : swappedStores [.Tuple [.Name x px, .Name y py, .Name z pz] kt pt] (.Tuple [a, b, c] k2 pt2) (envS sc) = pure (some [x, y, z]) := by rfl) (hs : swapsWithSole [.Tuple [.Name x px, .Name y py, .Name z pz] kt pt] (.Tuple [a, b, c] k2 pt2) pos.line X.env = pure false := by rfl)
    (h1 : starEach (a :: [b, c]) X.env = (false, eval a X.env) :: starEach [b, c] X.env := by rfl) (h2 : starEach (b :: [c]) X.env = (false, eval b X.env) :: starEach [c] X.env := by rfl) (h3 : starEach [c] X.env = (false, eval c X.env) :: starEach [] X.env := by rfl) :
    PSs X (.Assign [.Tuple [.Name x px, .Name y py, .Name z pz] kt pt] (.Tuple [a, b, c] k2 pt2) pos :: rest) (sD F δ P) :=
  wkSs (pss_cons (ps_par3 cx.calm cx.nd' (cx.at_ hi) (cx.at_ hj) (cx.at_ hl) hij hil hjl (by rw [cx.s]; exact hx) (by rw [cx.s]; exact hy) (by rw [cx.s]; exact hz) (pa_cons ha (pa_cons hb (pa_cons hc pa_nil h3) h2) h1) (sw_eq cx.toCtx hw) hs) g) fun D σ H h' => by
    obtain ⟨O, τ, s0, tm, w⟩ := h'
    refine ⟨O, s0, fun v H0 e0 t0 g0 => ?_⟩
    refine ⟨O, s0.grow e0 t0, fun p xs H1 e1 t1 n1 g1 a1 => ?_⟩
    refine ⟨Shut O p, own_mid (s0.grow e0 t0) e1 t1 n1 g1, fun u H2 e2 t2 g2 => ?_⟩
    obtain ⟨s3, t3⟩ := own_out ((s0.grow e0 t0).setD i (g0.flat fl)) (tm.grow e0) j (e1.trans e2) t2 n1 (e2 _ _ g1 (fun _ z => by cases z)) (a1.grow e2)
    exact ⟨_, _, _, rfl, Shut O p, τ, s3.setD l g2, t3, w⟩
/-- x in (..), of flat data -/
theorem flatV_of {O : Addr → Prop} {H : Hp} {v : V} (f : flatD d = true) (h : Dt O H d v) : flatV v = true := by
  cases d with
  | none => rw [show v = V.non from h]; rfl
  | bool b => rw [show v = V.bl b from h]; rfl
  | int b => rw [show v = V.int b from h]; rfl
  | str b => rw [show v = V.str b from h]; rfl
  | list b => cases f
  | tuple b => cases f
  | dict b => cases f
theorem eqV_of {O : Addr → Prop} {H : Hp} {v u : V} (f : flatD d1 = true) (g : flatD d2 = true) (h : Dt O H d1 v) (k : Dt O H d2 u) : eqV v u = PyData.eqv d1 d2 := by
  cases d1 <;> cases f <;> cases d2 <;> cases g <;> (rw [show v = _ from h, show u = _ from k]; simp [eqV, PyData.eqv])
theorem inV_of {O : Addr → Prop} {H : Hp} {v : V} (f : flatD d = true) (h : Dt O H d v) : ∀ {ds : List PyData} {vs : List V}, ds.all flatD = true → DtAll O H ds vs → vs.all flatV = true ∧ inV v vs = ds.any fun z => PyData.eqv z d
  | [], _, _, k => by cases k; exact ⟨rfl, rfl⟩
  | e :: ds, _, g, k => by
    obtain ⟨u, r, rfl, k1, k2⟩ := k
    rw [List.all_cons, Bool.and_eq_true] at g
    obtain ⟨i1, i2⟩ := inV_of f h g.2 k2
    refine ⟨by rw [List.all_cons, i1, flatV_of g.1 k1]; rfl, ?_⟩
    unfold inV at i2 ⊢
    rw [List.any_cons, List.any_cons, i2, eqV_of g.1 f k1 h]
theorem od_inT (f : flatD d = true) (g : ds.all flatD = true) : OpD F (rIn K false) d (.tuple ds) (.bool (ds.any fun z => PyData.eqv z d)) := fun O H x y Q _ w hx hy k => by
  obtain ⟨a, xs, ex, _, ga, ra⟩ := hy
  obtain ⟨i1, i2⟩ := inV_of f hx g ra
  exact ⟨a, xs, ex, .inr (SqT.of ga), flatV_of f hx, i1, by rw [i2]; exact k _ H (ExtN.refl H) w rfl⟩
theorem od_ninT (f : flatD d = true) (g : ds.all flatD = true) : OpD F (rIn K true) d (.tuple ds) (.bool (!ds.any fun z => PyData.eqv z d)) := fun O H x y Q _ w hx hy k => by
  obtain ⟨a, xs, ex, _, ga, ra⟩ := hy
  obtain ⟨i1, i2⟩ := inV_of f hx g ra
  exact ⟨a, xs, ex, .inr (SqT.of ga), flatV_of f hx, i1, by rw [i2]; exact k _ H (ExtN.refl H) w rfl⟩
theorem cd_listT : ClD F (fun xs H Q => ∃ p ys, xs = [.ref p] ∧ (SqL K H p ys ∨ SqT K H p ys) ∧ ∀ l, H l = none → Q (.ref l) (upd H l (.lst ys))) [.tuple ds] (.list ds) := fun O H xs Q dom w h k => by
  obtain ⟨x, r, rfl, ⟨a, ys, rfl, _, ga, ra⟩, rfl⟩ := h
  exact ⟨a, ys, rfl, .inr (SqT.of ga), fun q hq => k _ _ (ext_new hq) (tabs_new w hq) ⟨q, ys, rfl, fresh_ok dom hq, upd_same, ra.grow (ext_new hq)⟩⟩
theorem cd_listL : ClD F (fun xs H Q => ∃ p ys, xs = [.ref p] ∧ (SqL K H p ys ∨ SqT K H p ys) ∧ ∀ l, H l = none → Q (.ref l) (upd H l (.lst ys))) [.list ds] (.list ds) := fun O H xs Q dom w h k => by
  obtain ⟨x, r, rfl, ⟨a, ys, rfl, _, ga, ra⟩, rfl⟩ := h
  exact ⟨a, ys, rfl, .inl (SqL.of ga), fun q hq => k _ _ (ext_new hq) (tabs_new w hq) ⟨q, ys, rfl, fresh_ok dom hq, upd_same, ra.grow (ext_new hq)⟩⟩
end
end Lf
set_option Elab.async false
set_option linter.all false
set_option maxRecDepth 100000
set_option maxHeartbeats 4000000
/-! an exception leaves a list comprehension. The proofs follow the library's own of the comprehension that raises nothing (wpAny_comprehension_free, lc_core), turned to a block that lets one out. -/
namespace Lf
open PySem PySem.Spec PyProof.Rows L2 LamX
open Sem (wp)
def cpE (M : Model) (A : Around) (E : Value → Shared → Prop) (Q : Value → Shared → Prop) (acc : Value) (cenv : Env) (r : Result) (s' : Shared) : Prop :=
  match r with
  | .ok _ => ∃ m, s'.heap.Ns cenv.locals m ∧ ∀ h', Heap.SameBut cenv.locals s'.heap h' → Q acc { s' with heap := h' }
  | .error x => ∃ m, s'.heap.Ns cenv.locals m ∧ ∀ h', Heap.SameBut cenv.locals s'.heap h' → wpAny M A (passOn "comprehension.variables-let-go" x cenv : Sem Value) (fun _ _ => False) E { s' with heap := h' }
section
variable {M : Model} {A : Around} {E : Value → Shared → Prop} {s : Shared} {env : Env}
theorem comp_freeE {e : Expr} {scope : Scope} {pos : Pos} {newAcc first : Sem Value} {g : Comprehension} {gs : List Comprehension} {cl : List (Str × Addr)} {Q : Value → Shared → Prop}
    (hcl : clausesOf e = g :: gs) (hs : ∀ x, foldedSetIterable g.iter env x = pure x) (hclos : closureFor scope env = pure cl)
    (hkind : scope.kind = .function) (hnames : ∀ x ∈ scope.names, x.2 = .local → scope.names.lookup x.1 = some .local)
    (h : wpAny M A first (fun x s₁ => wpAny M A (pyIter x) (fun it s₂ => wpAny M A newAcc (fun acc s₃ =>
      wpAny M A (newFunctionEnv scope env.globals cl [] env.qual none .none (some env)) (fun cenv s₄ =>
        codeAny M A (.compStart e 0 it acc { cenv with scope := relabel scope env }) (cpE M A E Q acc { cenv with scope := relabel scope env }) s₄) E s₃) E s₂) E s₁) E s) :
    wpAny M A (comprehension e scope env pos newAcc false first none) Q E s := by
  unfold comprehension
  rw [hclos, hcl]
  refine wpAny_bind (wpAny_mono h (fun x s₁ h₁ => wpAny_bind (wpAny_standAt (wpAny_bind (wpAny_of_eq (hs x) (wpAny_bind (wpAny_holding (wpAny_mono h₁ (fun it s₂ h₂ =>
    wpAny_standIf (wpAny_bind (wpAny_mono h₂ (fun acc s₃ h₃ => wpAny_bind (wpAny_pure (wpAny_bind (wpAny_mono h₃ (fun cenv s₄ h₄ => ?_) fun _ _ h' => h')))) fun _ _ h' => h')))
      fun _ _ h' => h'))))))) fun _ _ h' => h')
  dsimp only
  have hv : ∀ x ∈ (scope.names.filter fun x => (x.2 == .local || x.2 == .cell) && x.1 != (".0" : Str)).reverse, x.2 = .local →
      Env.kindOf { cenv with scope := relabel scope env } x.1 = some .local := fun x hx hl => lookup_relabel_local (hnames x (List.mem_filter.mp (List.mem_reverse.mp hx)).1 hl)
  refine wpAny_holding (wpAny_bind (wpAny_attempt (wpAny_holding (wpAny_run (codeAny_mono h₄ fun r s' hr => ?_)))))
  cases r with
  | ok f =>
    obtain ⟨m, hn, hr⟩ := hr
    exact wpAny_bind (wpAny_holding (wpAny_comp_letGo (cenv := { cenv with scope := relabel scope env }) hkind _ s' m hv hn fun h' m' _ hs' => wpAny_pure (hr h' hs')))
  | error x =>
    obtain ⟨m, hn, hr⟩ := hr
    exact wpAny_bind (wpAny_holding (wpAny_comp_letGo (cenv := { cenv with scope := relabel scope env }) hkind _ s' m hv hn fun h' m' _ hs' => wpAny_mono (hr h' hs') (fun _ _ f => f.elim) fun _ _ y => y))
theorem note_same {x : Value} {e1 e2 : Env} (h : e1.frame = e2.frame) : noteFrame x e1 = noteFrame x e2 := by
  unfold noteFrame PySem.frameOf
  rw [h]
end
theorem frames_hide {h h' B : Heap} {C : Addr} : ∀ {l : List Env}, h.FunFrames B l → C ∉ frs l → (∀ b, b ≠ C → h'.get? b = h.get? b) → h'.FunFrames (PySem.W.hideAll B [C]) l
  | [], _, _, _ => trivial
  | e :: r, ⟨k, ⟨L, o, hf, hn, ho, hd⟩, hr⟩, nC, hs => by
    have hL : L ≠ C := fun z => nC (List.mem_filterMap.mpr ⟨e, List.mem_cons_self, by rw [hf, z]⟩)
    refine ⟨k, ⟨L, o, hf, ?_, by rw [hs L hL]; exact ho, hd⟩, frames_hide hr (fun hm => nC ?_) hs⟩
    · cases q : (PySem.W.hideAll B [C]).get? L with
      | none => rfl
      | some z => rw [PySem.W.of_hideAll _ q] at hn; cases hn
    · obtain ⟨e', he, q⟩ := List.mem_filterMap.mp hm
      exact List.mem_filterMap.mpr ⟨e', List.mem_cons_of_mem _ he, q⟩
theorem held_hide {B h h' : Heap} {l : List Env} {a C L : Addr} {Z : Obj → Prop} (hC : C ∉ frs l) (hB : ∃ o, B.get? C = some o) (hs : ∀ b, b ≠ C → h'.get? b = h.get? b) (x : HandSPX.HeldZ B l a Z L h) : HandSPX.HeldZ (PySem.W.hideAll B [C]) l a Z L h' := by
  obtain ⟨st, na, ff, oe, vs, T, oT, ts, he, hz, hd, h1, hnT, hTe, hT, hdT, h3⟩ := x
  obtain ⟨oC, hB⟩ := hB
  have no : ∀ {b}, B.get? b = none → (PySem.W.hideAll B [C]).get? b = none := fun {b} n => by
    cases q : (PySem.W.hideAll B [C]).get? b with
    | none => rfl
    | some z => rw [PySem.W.of_hideAll _ q] at n; cases n
  have ne : ∀ {b}, B.get? b = none → b ≠ C := fun {b} n z => by rw [z, hB] at n; cases n
  refine ⟨fun b o q => ?_, no na, frames_hide ff hC hs, oe, vs, T, oT, ts, by rw [hs a (ne na)]; exact he, hz, hd, h1, no hnT, hTe, by rw [hs T (ne hnT)]; exact hT, hdT, h3⟩
  have hb : b ≠ C := fun z => by
    rw [z, PySem.W.hideAll_none _ List.mem_cons_self] at q; cases q
  rw [hs b hb]
  exact st b o (PySem.W.of_hideAll _ q)
/-- what a callee lets out is in the air, and flies -/
theorem flies_of {X : Cx} {pins : List (Addr × Obj)} {σ : L2.St} {H : Hp} {s s' : Shared} {E : XK} {u : Value} (I : Inv X pins σ H s) (c : L2N.CX X.prog X.w X.stack H s E u s') :
    ∃ (a : Addr) (B : Heap) (sI : Shared) (H' : Hp) (cls : Value) (d : Option Addr), u = .ref a ∧ Inv X pins σ H' sI ∧ (∀ b o, sI.heap.get? b = some o → b ∉ frs X.stack → B.get? b = some o) ∧ sI.heap.UpToSlots s'.heap ∧
      HandSPX.FlyingZ B X.stack a (L2N.Zn cls d) s'.heap ∧ H' a = none ∧ s'.os = sI.os ∧ AllBare s'.gens ∧ E cls d H' := by
  obtain ⟨a, B, H', cls, d, rfl, fl, hok, ub, na, os, ag, hE⟩ := c
  obtain ⟨G, g1, g2⟩ := restrict s'.heap fun b => (B.get? b).isSome || decide (b ∈ frs X.stack)
  have st : B.StaysIn s'.heap := fl.1
  have gB : ∀ b o, B.get? b = some o → G.get? b = some o := fun b o e => by
    rw [g1 b (by simp [e])]
    exact st b o e
  have gF : ∀ b, b ∈ frs X.stack → G.get? b = s'.heap.get? b := fun b hb => g1 b (by simp [hb])
  have og : ∀ b o, G.get? b = some o → s'.heap.get? b = some o ∧ ((B.get? b).isSome = true ∨ b ∈ frs X.stack) := fun b o e => by
    cases q : ((B.get? b).isSome || decide (b ∈ frs X.stack)) with
    | false => rw [g2 b q] at e; cases e
    | true =>
      rw [g1 b q] at e
      exact ⟨e, by simpa [Bool.or_eq_true] using q⟩
  refine ⟨a, B, { s with heap := G, gens := s'.gens, drawn := s'.drawn, toks := s'.toks }, H', cls, d, rfl, ?_, fun b o e hb => ?_, Heap.UpToSlots.of_keeps fun b o e => (og b o e).1, fl, na, os, ag, hE⟩
  · refine I.call (ch := []) ⟨fun b o e n hb _ => gB b o (ub.keep b o e n hb), fun b o e n hb _ => ?_, fun b o e n _ => ub.free b o e n, fun b o e _ => ?_, ub.tups, ub.frzs, ub.tbls⟩ (hok.kept gB) ag (fun _ z => nomatch z)
    · obtain ⟨sl, q⟩ := ub.slot b o e hb
      exact ⟨sl, by rw [gF b hb]; exact q⟩
    · by_cases hb : b ∈ frs X.stack
      · obtain ⟨sl, q⟩ := ub.slot b o e hb
        exact ⟨_, by rw [gF b hb]; exact q⟩
      · obtain ⟨o', q⟩ := ub.there b o e hb
        exact ⟨o', gB b o' q⟩
  · obtain ⟨e', h⟩ := og b o e
    rcases h with h | h
    · obtain ⟨o', q⟩ := Option.isSome_iff_exists.mp h
      have z := st b o' q
      rw [e'] at z; cases z
      exact q
    · exact absurd h hb
/-- the block of a comprehension lets it out -/
theorem blk_passes {X : Cx} {pins : List (Addr × Obj)} {σ : L2.St} {H3 : Hp} {s3 : Shared} {E : XK} {scope : Scope} {ce : Env} {fp : List Addr} {Q : Value → Shared → Prop} {acc : Value}
    (hs : X.stack = X.env :: X.outer) (hf : X.env.frame = some X.env.locals) (tk : L2N.Takes X (fun cls d _ H => E cls d H)) (I3 : Inv X pins σ H3 s3) (f3 : ∀ b ∈ fp, FpOk X pins H3 b) (cL : ce.locals = s3.heap.objs.size) (cF : ce.frame = X.env.frame) :
    Passes (L2N.CX X.prog X.w) ((X.blk s3 H3 scope ce fp).tr [] (notedBy (model X.prog X.w) X.A ce fun e s' => cpE (model X.prog X.w) X.A X.xe Q acc ce (.error e) s')) E := by
  intro pins' σ' H' s e s' I c
  obtain ⟨a, B, sI, H1, cls, d, rfl, J, nb, up, fl, na, os, ag, hE⟩ := flies_of I c
  have hfr : X.A.frames = some (X.env :: X.outer) := by rw [I3.ok.frames, hs]
  have I7 : Inv X pins σ H1 sI := I3.call' (ch := fp) J.os J.base J.hok J.bare fun b hb => ⟨(f3 b hb).2.2.2.1, (f3 b hb).2.1, (f3 b hb).2.2.2.2.1, (f3 b hb).2.2.2.2.2⟩
  have nC : H1 ce.locals = none := J.free
  have fC : FpOk X pins H1 ce.locals := I3.fpOk (Nat.le_of_eq cL.symm) nC
  obtain ⟨f0, f1, f2, f4, f5, f6⟩ := fC
  obtain ⟨m, hn, _⟩ := J.loc
  have hn : sI.heap.Ns ce.locals m := hn
  have nst : ce.locals ∉ frs X.stack := fun hm => by
    rcases List.mem_cons.mp (I3.stkSub _ hm) with z | z
    · exact f1 z
    · exact f2 z
  obtain ⟨oC, es, ep, hoC, hdC, hk⟩ := hn
  have hBC : B.get? ce.locals = some oC := nb _ _ hoC nst
  show wpAny (model X.prog X.w) X.A (noteFrame (.ref a) ce) _ _ s'
  rw [note_same (e2 := X.env) cF]
  have fl' : HandSPX.FlyingZ B (X.env :: X.outer) a (L2N.Zn cls d) s'.heap := by rw [← hs]; exact fl
  refine PXN.looks_onZ L2N.Zn.steady hfr hf fl' fun h1 hh up1 => ?_
  have hC1 : h1.get? ce.locals = some oC := hh.1 _ _ hBC
  refine ⟨m, ⟨oC, es, ep, hC1, hdC, hk⟩, fun h2 sb => ?_⟩
  have nst' : ce.locals ∉ frs (X.env :: X.outer) := by rw [← hs]; exact nst
  have hh2 := held_hide nst' ⟨_, hBC⟩ sb.2 hh
  obtain ⟨k1, k2, k3, tr⟩ := id hh2
  obtain ⟨oe, vs, T, oT, ts', he, hz, hd, h1', hr⟩ := id tr
  unfold PySem.passOn
  refine wpAny_bind (wpAny_field he hd h1' ?_)
  rw [if_neg (show ¬ ((Value.ref T == Value.none) = true) from by simp)]
  have fin : wpAny (model X.prog X.w) X.A (setFlight (.ref a) ce.frame) (fun _ s4 => wpAny (model X.prog X.w) X.A (throw (.ref a) : Sem Value) (fun _ _ => False) X.xe s4) X.xe { ({ s' with heap := h1 } : Shared) with heap := h2 } := by
    rw [cF, hf]
    refine HandSPX.setFlight_anyZ k1 k3 tr fun h4 q1 q2 q3 q4 => wpAny_throw (tk _ _ ?_)
    have Jx : Inv X pins σ H1 { sI with heap := PySem.W.hideAll sI.heap [ce.locals], toks := sI.toks } := I7.turned (t' := sI.toks) (fun b o hb e => PySem.W.hideAll_get _ e (by simpa using hb)) f0 f1 f4 f5 f6
    have upx : (PySem.W.hideAll sI.heap [ce.locals]).UpToSlots h4 := fun b o e hnf => by
      have hb : b ≠ ce.locals := fun z => by rw [z, PySem.W.hideAll_none _ List.mem_cons_self] at e; cases e
      obtain ⟨sl, x1⟩ := up b o (PySem.W.of_hideAll _ e) hnf
      obtain ⟨sl1, x2⟩ := up1 b _ x1 hnf
      have x3 : h2.get? b = some { o with slots := sl1 } := by rw [sb.2 b hb]; exact x2
      obtain ⟨sl2, x4⟩ := q4 b _ x3 hnf
      exact ⟨sl2, x4⟩
    refine ⟨a, PySem.W.hideAll B [ce.locals], _, pins, σ, H1, cls, d, rfl, Jx, fun b o e hb => ?_, upx, .inr (.inr (by rw [hs]; exact ⟨q1, k2, q2, q3⟩)), na, os, ag, hE⟩
    have hb' : b ≠ ce.locals := fun z => by
      have e : (PySem.W.hideAll sI.heap [ce.locals]).get? b = some o := e
      rw [z, PySem.W.hideAll_none _ List.mem_cons_self] at e; cases e
    exact PySem.W.hideAll_get _ (nb b o (PySem.W.of_hideAll _ e) hb) (by simpa using hb')
  first
    | exact wpAny_bind (wpAny_pure (wpAny_bind fin))
    | exact wpAny_bind fin
abbrev BlkE (X : Cx) (E : XK) (scope : Scope) (φ : Cx → Prop) : Prop := ∀ (s : Shared) (H : Hp) (C : Addr) (cl : List (Str × Addr)) (fp : List Addr) (xe : Value → Shared → Prop), Passes (L2N.CX X.prog X.w) ((X.blk s H scope (compEnvC scope cl C X.env) fp).tr [] xe) E → φ ((X.blk s H scope (compEnvC scope cl C X.env) fp).tr [] xe)
theorem _root_.Lf.Ctx.blkE {X : Cx} {N : List Str} {sc : Scope} (c : Ctx X N sc) (s : Shared) (H : Hp) (scope : Scope) (C : Addr) (cl : List (Str × Addr)) (fp : List Addr) (xe : Value → Shared → Prop) : Ctx ((X.blk s H scope (compEnvC scope cl C X.env) fp).tr [] xe) N (reSc sc scope) := ⟨c.n, by rw [← c.s]; rfl, c.nd, c.calm⟩
theorem pe_lcE {X : Cx} {E : XK} {elt tg iter : Expr} {ifs : List Expr} {scope : Scope} {own : List (Str × Nat)} {pos : Pos} {wi : TI} {g : TG} {tt : TT} {te : TE} (hsk : X.stack = X.env :: X.outer) (hfk : X.env.frame = some X.env.locals) (tk : L2N.Takes X (fun cls d _ H => E cls d H))
    (hc : X.calm = true) (hN : X.N.Nodup) (hi : PI X tg iter wi) (ok : BlkOk X.N X.env.scope scope own)
    (hg : BlkE X E scope fun Y => PG Y tg g) (ht : BlkE X E scope fun Y => PTs Y ifs tt) (he : BlkE X E scope fun Y => PE Y elt te) (hs : ∀ x, foldedSetIterable iter X.env x = pure x := by intro _; rfl) :
    PE X (.ListComp elt [⟨tg, iter, ifs, 0⟩] scope pos) (tLc wi g tt te (own.map (·.2))) := by
  refine ⟨fun pins s σ H Q I h => ?_⟩
  rw [eval_ListComp]
  have hfree : ∀ y ∈ scope.names, y.2 = .free → ∃ c, X.env.cells.lookup y.1 = some c := fun y hy e => by
    rcases ok.free y hy e with k | k
    · exact I.ok.has _ (.inl k)
    · exact I.ok.has _ (.inr k)
  refine comp_freeE rfl hs (closure_ok hfree) ok.kind (fun y hy e => by rw [ok.uniq y hy, e])
    (thn (hi.run pins s σ H _ I h) fun xv s1 hx => thn hx fun itv s2 h2 => ?_)
  obtain ⟨it, fp, tn, J, H2, e, I2, T, st2, f2, q⟩ := h2
  subst e
  refine wpAny_newObj_type (newEnv_comp ?_) (by show 0 ≤ sizeLine; decide)
  generalize hD : s2.heap.objs.size = D
  have hDn : H2 D = none := I2.hok.fresh (Nat.le_of_eq hD)
  obtain ⟨W, ⟨m0, w0⟩, turn⟩ := q D hDn
  generalize hs3 : ({ s2 with heap := s2.heap.push { cls := .type "list", data := .seq ([] : List Value).toArray } } : Shared) = s3
  have I3 : Inv X pins σ (upd H2 D (.lst [])) s3 := by
    rw [← hs3]
    refine I2.laid (t' := s2.toks) (fun b o e => Heap.get?_push_of_some _ e) (Nat.le_of_eq hD) ⟨Nat.zero_le _, [], 0, .nil, ?_⟩
    rw [← hD]
    exact Heap.get?_push_size _ rfl
  have h3 : s3.heap = s2.heap.push { cls := .type "list", data := .seq ([] : List Value).toArray } := by rw [← hs3]
  have sz : ∀ b ∈ fp, b < s2.heap.objs.size := fun b hb => by
    obtain ⟨o, e, _⟩ := T.obj _ _ st2 b hb
    exact Heap.lt_size e
  have f3 : ∀ b ∈ fp, FpOk X pins (upd H2 D (.lst [])) b ∧ b < s3.heap.objs.size := fun b hb => by
    have hlt := sz b hb
    refine ⟨⟨?_, (f2 b hb).2⟩, by rw [h3, Heap.size_push]; exact Nat.lt_succ_of_lt hlt⟩
    rw [upd_ne (by rw [← hD]; exact Nat.ne_of_lt hlt)]
    exact (f2 b hb).1
  have st3 : tn 0 s3.heap := T.keep _ _ _ st2 fun b _ o e => by rw [h3]; exact Heap.get?_push_of_some _ e
  have I4 := block_start I3 ok hN f3
  have pp := blk_passes (scope := scope) (ce := compEnvC scope (cellsFrom (s3.heap.objs.size + 1) scope.names (cloFrom X.env.cells scope.names [])) s3.heap.objs.size X.env) (fp := fp) (Q := EP X pins σ Q) (acc := .ref D) hsk hfk tk I3 (fun b hb => (f3 b hb).1) rfl rfl
  have pg := hg s3 (upd H2 D (.lst [])) s3.heap.objs.size (cellsFrom (s3.heap.objs.size + 1) scope.names (cloFrom X.env.cells scope.names [])) fp _ pp
  have pt := ht s3 (upd H2 D (.lst [])) s3.heap.objs.size (cellsFrom (s3.heap.objs.size + 1) scope.names (cloFrom X.env.cells scope.names [])) fp _ pp
  have pe := he s3 (upd H2 D (.lst [])) s3.heap.objs.size (cellsFrom (s3.heap.objs.size + 1) scope.names (cloFrom X.env.cells scope.names [])) fp _ pp
  show codeAny _ _ (.compStart (.ListComp elt [⟨tg, iter, ifs, 0⟩] scope pos) 0 (.ref it) (.ref D) (compEnvC scope (cellsFrom (s3.heap.objs.size + 1) scope.names (cloFrom X.env.cells scope.names [])) s3.heap.objs.size X.env)) (cpE (model X.prog X.w) X.A X.xe (EP X pins σ Q) (.ref D) (compEnvC scope (cellsFrom (s3.heap.objs.size + 1) scope.names (cloFrom X.env.cells scope.names [])) s3.heap.objs.size X.env)) { s3 with heap := pushCells (s3.heap.push { cls := .type "dict", data := .dict #[] }) scope.names }
  have nfp : ∀ b ∈ fp, (upd H2 D (.lst [])) b = none := fun b hb => (f3 b hb).1.1
  generalize hce : compEnvC scope (cellsFrom (s3.heap.objs.size + 1) scope.names (cloFrom X.env.cells scope.names [])) s3.heap.objs.size X.env = ce at I4 pg pt pe pp ⊢
  have cL : ce.locals = s3.heap.objs.size := by subst hce; rfl
  generalize hH3 : upd H2 D (.lst []) = H3 at I3 I4 pg pt pe pp w0 nfp f3
  generalize hs4 : ({ s3 with heap := pushCells (s3.heap.push { cls := .type "dict", data := .dict #[] }) scope.names } : Shared) = s4 at I4 ⊢
  have st4 : tn 0 s4.heap := T.keep _ _ _ st3 fun b _ o e => by rw [← hs4]; exact pushCells_keeps _ _ _ _ (Heap.get?_push_of_some _ e)
  generalize hxe : notedBy (model X.prog X.w) X.A ce (fun e s' => cpE (model X.prog X.w) X.A X.xe (EP X pins σ Q) (.ref D) ce (.error e) s') = xe at pg pt pe pp
  have I4' : Inv ((X.blk s3 H3 scope ce fp).tr [] xe) [] (wipe σ (own.map (·.2))) H3 s4 := I4.toTry xe
  have stat : ∀ {σ' : L2.St} {H' : Hp} {s' : Shared}, Inv ((X.blk s3 H3 scope ce fp).tr [] xe) [] σ' H' s' → (∀ b ∈ fp, H' b = none) → ∀ b ∈ fp, FpOk ((X.blk s3 H3 scope ce fp).tr [] xe) [] H' b := fun {σ' H' s'} I' hn b hb =>
    ⟨hn b hb, (I'.ok.exf b hb).1, I'.ok.exfs b hb, .inl hb, fun x c e => (I'.ok.exf b hb).2 x c e, fun p hp => absurd (show p ∈ ([] : List (Addr × Obj)) ++ [] from hp) (by simp)⟩
  have loop : codeAny (model X.prog X.w) X.A (.compLoop (.ListComp elt [⟨tg, iter, ifs, 0⟩] scope pos) 0 (.ref it) (.ref D) ce) (cpE (model X.prog X.w) X.A X.xe (EP X pins σ Q) (.ref D) ce) s4 := by
    refine compLoop_any (fun n s' => ∃ i H', Inv ((X.blk s3 H3 scope ce fp).tr [] xe) [] (wipe σ (own.map (·.2))) H' s' ∧ tn i s'.heap ∧ (∀ b ∈ fp, H' b = none) ∧ W i n H') ?_ m0 ⟨0, H3, I4', st4, nfp, w0⟩
    rw [hxe]
    rintro n s5 ⟨i, H5, I5, st5, n5, w5⟩
    rcases turn i n H5 w5 with ⟨stop, qq⟩ | ⟨go, Nx, hNx, step⟩
    · have td := T.done ((X.blk s3 H3 scope ce fp).tr [] xe) rfl rfl rfl hc i [] s5 _ H5 (fun _ _ => False) I5 (stat I5 n5) st5 stop
      refine thnF td fun r s6 ⟨hr, I6⟩ => ?_
      subst hr
      have I7 : Inv X pins σ H5 s6 := I3.call' (ch := fp) I6.os I6.base I6.hok I6.bare fun b hb => ⟨(f3 b hb).1.2.2.2.1, (f3 b hb).1.2.1, (f3 b hb).1.2.2.2.2.1, (f3 b hb).1.2.2.2.2.2⟩
      have nC : H5 ce.locals = none := I6.free
      obtain ⟨m, hn, _⟩ := I6.loc
      have hn : s6.heap.Ns ce.locals m := hn
      obtain ⟨f0, f1, f2, f3, f4, f5⟩ : FpOk X pins H5 ce.locals := I3.fpOk (Nat.le_of_eq cL.symm) nC
      refine ⟨m, hn, fun h'' sb => ?_⟩
      exact ⟨.ref D, H5, I7.turned (t' := s6.toks) (fun b o hb e => (sb.2 b hb).trans e) f0 f1 f3 f4 f5, rfl, qq⟩
    · have ti := T.item ((X.blk s3 H3 scope ce fp).tr [] xe) rfl rfl rfl hc i [] s5 _ H5 (fun _ _ => False) I5 (stat I5 n5) st5 go
      refine thnF ti fun r s6 ⟨u, hr, h6⟩ => ?_
      subst hr
      refine thnF h6 fun _ s7 ⟨x, H7, I7, r7, y7, st7, n7⟩ => ?_
      have I7' := I7.pinned (stat I7 n7) (T.obj _ _ st7)
      refine thn (pg.run _ s7 _ H7 x u _ I7' r7 (step x H7 y7)) fun _ s8 ⟨σ8, H8, I8, hw8, q8⟩ => ?_
      refine thn (pt.run _ s8 σ8 H8 _ I8 q8) fun b s9 ⟨H9, I9, q9⟩ => ?_
      have fin : ∀ {s' : Shared} {H' : Hp}, Inv ((X.blk s3 H3 scope ce fp).tr [] xe) ([] ++ pinsAt fp s7.heap) σ8 H' s' → Nx H' → ∃ m, m < n ∧ ∃ i H', Inv ((X.blk s3 H3 scope ce fp).tr [] xe) [] (wipe σ (own.map (·.2))) H' s' ∧ tn i s'.heap ∧ (∀ b ∈ fp, H' b = none) ∧ W i m H' := fun {s' H'} I' nx => by
        obtain ⟨m', hm, w'⟩ := hNx H' nx
        have pin' : ∀ b ∈ fp, ∀ o, s7.heap.get? b = some o → s'.heap.get? b = some o ∧ H' b = none := fun b hb o e =>
          let z := I'.pin (b, o) (List.mem_append_right _ (List.mem_append_right _ (mem_pinsAt hb e)))
          ⟨z.1, z.2.1⟩
        have hl : (wipe σ (own.map (·.2))).length = σ8.length := by rw [← hw8, wipe_length]
        refine ⟨m', hm, i + 1, H', (I'.unpinned (pins := [])).weak hl (fun j v e => ?_), T.keep _ _ _ st7 fun b hb o e => (pin' b hb o e).1, fun b hb => ?_, w'⟩
        · rw [← hw8] at e
          exact (wipe_some e).1
        · obtain ⟨o, e, _⟩ := T.obj _ _ st7 b hb
          exact (pin' b hb o e).2
      cases b with
      | false =>
        simp only [Bool.false_eq_true, if_false] at q9 ⊢
        exact fin I9 q9
      | true =>
        simp only [if_true] at q9 ⊢
        refine thn (pe.run _ s9 σ8 H9 _ I9 q9) fun z s10 ⟨yv, H10, I10, r10, acc, hD10, hz10, nx⟩ => ?_
        exact app_ok (X := (X.blk s3 H3 scope ce fp).tr [] xe) I10 hD10 hz10 r10 fun s11 I11 => fin I11 nx
  exact codeAny_compStart_list loop (T.self X.A 0 _ _ _ st4 loop)
section
variable {α : Type} {Kf : PySem.W.Frag} {Tf : List (Addr × Str)} {F : Fx Kf Tf} {δ : List Slot} {X : Cx} {N : List Str} {sc : Scope} {pos p : Pos} {e tg iter elt : Expr} {es : List Expr} {ds : List PyData} {R : List PyData → Res → Prop} {x : Str} {k : Nat} {ps : List Str} {C : Addr} {σ : L2.St} {H : Hp} {Q : VK}
theorem lc_runE {wi : TI} {g : TG} {te : TE} (ys : List α) (y : α) (zs : List α) (enc f : α → PyData) (vs : List Nat) (tgt : α → List Slot) (hz : (ys ++ y :: zs).length ≤ 100000) (hw : ∀ x, x ∈ ys ∨ x = y → Tgt F g (enc x) (wipeD δ vs) (tgt x)) (hww : Wg g vs)
    (hwi : wi = iD F δ ((ys ++ y :: zs).map enc)) (he : ∀ x ∈ ys, ∀ σ H Q, tD F (tgt x) (f x) σ H Q → te σ H Q) (hx : ∀ σ H Q, tDX F (tgt y) C σ H Q → te σ H Q) {Q : VK} (h : tDX F δ C σ H Q) : tLc wi g tYes te vs σ H Q := by
  subst hwi
  obtain ⟨O, s0, k⟩ := h
  refine ⟨O, s0, fun J ss H1 e1 t1 g1 item done L hL => ?_⟩
  have s1 := s0.grow e1 t1
  have lv : ∀ a, Lives H1 a → a ≠ L := fun a l => l.ne hL
  have tm1 : Tm O H1 ss := g1
  have hend : (δ ++ [Slot.non]).set δ.length (.own []) = δ ++ [.own []] := by simp
  have hend2 : (σ ++ [none]).set δ.length (some (V.ref L)) = σ ++ [some (.ref L)] := by rw [← s0.len]; simp
  obtain ⟨o1, o2⟩ := own_out (ds := []) (xs := []) s1.snoc tm1 δ.length (ext_new (o := .lst []) hL) (tabs_new t1 hL) lv upd_same rfl
  rw [hend, hend2] at o1
  have hyl : ys.length ≤ 100000 := by rw [List.length_append] at hz; omega
  refine ⟨fun i m H' => m = ys.length + 1 - i ∧ i ≤ ys.length ∧ ExtN H1 H' ∧ StAt F (Shut O L) H' (σ ++ [some (.ref L)]) (δ ++ [.own ((ys.take i).map f)]) ∧ Tm (Shut O L) H' ss, ⟨ys.length + 1, by omega, Nat.zero_le _, ext_new hL, o1, o2⟩, fun i m H' hW => ?_⟩
  obtain ⟨rfl, hle, ex, s2, tm2⟩ := hW
  have gs : Tm (Shut O L) H' ss := tm2
  have hlast : (δ ++ [Slot.own ((ys.take i).map f)])[δ.length]? = some (.own ((ys.take i).map f)) := by simp
  have hlv : (σ ++ [some (V.ref L)])[δ.length]? = some (some (.ref L)) := by rw [← s0.len]; simp
  by_cases hlt : i < ys.length
  · have hx : (ys ++ y :: zs)[i]? = some ys[i] := by rw [List.getElem?_append_left hlt]; exact List.getElem?_eq_getElem hlt
    have hm : ys[i] ∈ ys := List.getElem_mem hlt
    obtain ⟨go, yl⟩ := item (Shut O L) H' i (enc ys[i]) gs s2.dom s2.tabs (by rw [List.getElem?_map, hx]; rfl)
    have tk1 : ys.take (i + 1) = ys.take i ++ [ys[i]] := List.take_succ_eq_append_getElem hlt
    refine .inr ⟨go, fun H2 => ExtN H1 H2 ∧ StAt F (Shut O L) H2 (σ ++ [some (.ref L)]) (δ ++ [.own ((ys.take (i + 1)).map f)]) ∧ Tm (Shut O L) H2 ss, fun H2 hN => ⟨ys.length + 1 - (i + 1), by omega, rfl, hlt, hN⟩, fun z H2 hy => ?_⟩
    obtain ⟨e2, t2, gy⟩ := yl z H2 hy
    have s3 := s2.grow e2 t2
    refine hww _ _ _ _ (wipe_wipe vs) (hw _ (.inl hm) (Shut O L) H2 (wipe σ vs) z _ (s3.init.wiped vs) gy fun σ3 s4 => ?_)
    unfold tYes
    dsimp only
    refine iteT (he _ hm σ3 H2 _ ⟨Shut O L, s4, fun yv H4 e4 t4 g4 => ?_⟩)
    have s6 := s3.grow e4 t4
    obtain ⟨L', acc, eL, oL, nL, gL, rL⟩ := s6.slot δ.length _ hlast
    rw [hlv] at eL
    cases eL
    refine ⟨acc, gL, ?_, fun b o gb tb => ?_, ?_⟩
    · rw [rL.len, List.length_map, List.length_take]
      exact Nat.lt_of_le_of_lt (Nat.le_trans (Nat.min_le_right _ _) hyl) (by decide)
    · rw [upd_ne (lv b ⟨o, gb, tb⟩)]
      exact ((ex.trans e2).trans e4) b o gb tb
    · obtain ⟨u1, u2⟩ := own_turn s6 ((tm2.grow e2).grow e4) hlast hlv gL (rL.app (.one g4))
      refine ⟨?_, u2⟩
      rw [tk1, List.map_append]
      have e9 : (δ ++ [Slot.own ((ys.take i).map f)]).set δ.length (.own ((ys.take i).map f ++ [f ys[i]])) = δ ++ [.own ((ys.take i).map f ++ [f ys[i]])] := by simp
      rw [e9] at u1
      exact u1
  · have ei : i = ys.length := by omega
    subst ei
    have hxy : (ys ++ y :: zs)[ys.length]? = some y := by rw [List.getElem?_append_right (Nat.le_refl _)]; simp
    obtain ⟨go, yl⟩ := item (Shut O L) H' ys.length (enc y) gs s2.dom s2.tabs (by rw [List.getElem?_map, hxy]; rfl)
    refine .inr ⟨go, fun H2 => False, fun H2 hN => hN.elim, fun z H2 hy => ?_⟩
    obtain ⟨e2, t2, gy⟩ := yl z H2 hy
    have s3 := s2.grow e2 t2
    refine hww _ _ _ _ (wipe_wipe vs) (hw _ (.inr rfl) (Shut O L) H2 (wipe σ vs) z _ (s3.init.wiped vs) gy fun σ3 s4 => ?_)
    unfold tYes
    dsimp only
    exact iteT (hx σ3 H2 _ ⟨Shut O L, s4, fun H4 e4 t4 => k H4 (e1.trans ((ex.trans e2).trans e4)) t4⟩)
/-- [elt for target in iter], of which one turn raises -/
theorem x_lcE {scope : Scope} {g : TG} (own : List (Str × Nat)) (ys : List α) (y : α) (zs : List α) (enc f : α → PyData) (tgt : α → List Slot) (cx : CtD X N sc F.E) (hi : PI X tg iter (iD F δ ((ys ++ y :: zs).map enc))) (hz : (ys ++ y :: zs).length ≤ 100000) (hok : blkC N sc scope own = true) (hg : BlkE X F.E scope fun Y => PG Y tg g) (hw : ∀ x, x ∈ ys ∨ x = y → Tgt F g (enc x) (wipeD δ (own.map (·.2))) (tgt x)) (hww : Wg g (own.map (·.2)))
    (he : ∀ x ∈ ys, BlkE X F.E scope fun Y => PE Y elt (tD F (tgt x) (f x))) (hx : BlkE X F.E scope fun Y => PE Y elt (tDX F (tgt y) C)) (hs : ∀ x, foldedSetIterable iter X.env x = pure x := by intro _; rfl) :
    PE X (.ListComp elt [⟨tg, iter, [], 0⟩] scope pos) (tDX F δ C) :=
  wkE (pe_lcE (own := own) (tt := tYes) (te := fun σ H Q => (∃ x, x ∈ ys ∧ tD F (tgt x) (f x) σ H Q) ∨ tDX F (tgt y) C σ H Q) cx.stk cx.frm cx.tk cx.calm cx.nd' hi (blk_ok cx.toCtx hok) hg (fun s H C cl fp xe pa => pts_nil)
    (fun s H C cl fp xe pa => ⟨fun pins s' σ H Q I q => q.elim (fun ⟨x, hx, g⟩ => (he x hx s _ C cl fp xe pa).run pins s' σ H Q I g) (fun g => (hx s _ C cl fp xe pa).run pins s' σ H Q I g)⟩) hs)
    fun σ H Q h => lc_runE ys y zs enc f _ tgt hz hw hww rfl (fun x hx σ H Q g => .inl ⟨x, hx, g⟩) (fun σ H Q g => .inr g) h
/-- a call that raises, in a block -/
theorem x_callXP (cx : Ctx X N sc) (pa : Passes (L2N.CX X.prog X.w) X F.E) (h : Fd X.prog X.w X.K X.mg X.base x k ps (spD Tf R)) (hr : Room k X.A) (ha : PA X (e :: es) (aD F δ ds)) (hR : R ds (.error C)) (hg : sc.names.lookup x = some .globalImplicit := by rfl) (hdb : (x == ("__debug__" : Str)) = false := by decide)
    (he : starEach (e :: es) X.env = (false, eval e X.env) :: starEach es X.env := by rfl) (hpl : (backTo pos (starEach es X.env)).any (·.1) = false := by rfl) : PE X (.Call (.Name x p) (e :: es) [] pos) (tDX F δ C) := by
  obtain ⟨f, fd, G, m, kp, b⟩ := h.ex
  refine wkE (pe_call G hr (cx.gl hg) m kp b .nil (E := F.E) pa ha hdb he hpl) fun σ H Q h => ?_
  obtain ⟨O, st, w⟩ := h
  refine ⟨O, st, fun vs H1 e1 t1 g1 => ?_⟩
  show spD Tf R (vs ++ []) H1 Q _
  rw [List.append_nil]
  exact ⟨O, ds, .error C, (st.grow e1 t1).dom, t1, g1, hR, fun d' q => (by cases q), fun c q H' e2 t2 => (by cases q; exact w H' (e1.trans e2) t2)⟩
end
end Lf
set_option Elab.async false
set_option linter.all false
set_option maxRecDepth 100000
set_option maxHeartbeats 4000000
namespace Lf
open PySem PySem.Spec PyProof.Rows L2 L2H HotX LamX
/-! ### dicts of one's own: keys ints and texts -/
def keyD : Key → PyData
  | .inl i => .int i
  | .inr s => .str s
def getK {α : Type} (kvs : List (Key × α)) (k : Key) : Option α := (kvs.find? fun q => decide (q.1 = k)).map (·.2)
def putD {α : Type} (kvs : List (Key × α)) (k : Key) (d : α) : List (Key × α) := if (kvs.any fun q => decide (q.1 = k)) = true then kvs.map (fun q => if q.1 = k then (q.1, d) else q) else kvs ++ [(k, d)]
section
variable {O O' : Addr → Prop} {H H' : Hp} {kvs : List (Key × PyData)} {vs : List (Key × V)} {k : Key} {d : PyData} {x v : V}
theorem kv_cons {p : Key × PyData} {q : Key × V} : KvAll O H (p :: kvs) (q :: vs) ↔ q.1 = p.1 ∧ Dt O H p.2 q.2 ∧ KvAll O H kvs vs := by
  unfold KvAll
  simp only [List.map_cons, List.cons.injEq]
  constructor
  · rintro ⟨⟨h1, h2⟩, x, r, e, h3, h4⟩
    cases e
    exact ⟨h1, h3, h2, h4⟩
  · rintro ⟨h1, h3, h2, h4⟩
    exact ⟨⟨h1, h2⟩, _, _, rfl, h3, h4⟩
theorem kv_nil : KvAll O H [] [] := ⟨rfl, rfl⟩
theorem kv_len (h : KvAll O H kvs vs) : vs.length = kvs.length := by
  have := congrArg List.length h.1
  simpa using this
theorem kv_get {k : Key} : ∀ {kvs : List (Key × PyData)} {vs : List (Key × V)}, KvAll O H kvs vs → (∀ d, getK kvs k = some d → ∃ x, valV vs k = some x ∧ Dt O H d x) ∧ (getK kvs k = none → valV vs k = none)
  | [], [], _ => ⟨fun d h => (by cases h), fun _ => rfl⟩
  | [], q :: vs, h => by have := kv_len h; simp at this
  | p :: kvs, [], h => by have := kv_len h; simp at this
  | p :: kvs, q :: vs, h => by
    obtain ⟨h1, h2, h3⟩ := kv_cons.mp h
    obtain ⟨g1, g2⟩ := kv_get (k := k) h3
    by_cases e : p.1 = k
    · have e1 : getK (p :: kvs) k = some p.2 := by simp [getK, List.find?_cons, e]
      have e2 : valV (q :: vs) k = some q.2 := valV_pos (h1.trans e)
      rw [e1, e2]
      exact ⟨fun d z => by cases z; exact ⟨_, rfl, h2⟩, fun z => by cases z⟩
    · have e1 : getK (p :: kvs) k = getK kvs k := by simp [getK, List.find?_cons, e]
      have e2 : valV (q :: vs) k = valV vs k := valV_neg (fun z => e (h1.symm.trans z))
      rw [e1, e2]
      exact ⟨g1, g2⟩
theorem kv_any : ∀ {kvs : List (Key × PyData)} {vs : List (Key × V)}, KvAll O H kvs vs → (vs.any fun q => decide (q.1 = k)) = (kvs.any fun q => decide (q.1 = k))
  | [], [], _ => rfl
  | [], q :: vs, h => by have := kv_len h; simp at this
  | p :: kvs, [], h => by have := kv_len h; simp at this
  | p :: kvs, q :: vs, h => by
    obtain ⟨h1, h2, h3⟩ := kv_cons.mp h
    rw [List.any_cons, List.any_cons, kv_any h3, h1]
theorem kv_map (g : Dt O H d x) : ∀ {kvs : List (Key × PyData)} {vs : List (Key × V)}, KvAll O H kvs vs → KvAll O H (kvs.map fun q => if q.1 = k then (q.1, d) else q) (vs.map fun q => if q.1 = k then (q.1, x) else q)
  | [], [], _ => kv_nil
  | [], q :: vs, h => by have := kv_len h; simp at this
  | p :: kvs, [], h => by have := kv_len h; simp at this
  | p :: kvs, q :: vs, h => by
    obtain ⟨h1, h2, h3⟩ := kv_cons.mp h
    rw [List.map_cons, List.map_cons]
    refine kv_cons.mpr ⟨?_, ?_, kv_map g h3⟩
    · rw [h1]; split <;> first | rfl | exact h1
    · rw [h1]; split <;> assumption
theorem kv_app {kvs' : List (Key × PyData)} {vs' : List (Key × V)} (h : KvAll O H kvs vs) (g : KvAll O H kvs' vs') : KvAll O H (kvs ++ kvs') (vs ++ vs') := by
  unfold KvAll
  rw [List.map_append, List.map_append, List.map_append, List.map_append, h.1, g.1]
  exact ⟨rfl, h.2.app g.2⟩
theorem kv_put (h : KvAll O H kvs vs) (g : Dt O H d x) : KvAll O H (putD kvs k d) (putK vs k x) := by
  unfold putD putK
  rw [kv_any h]
  split
  · exact kv_map g h
  · exact kv_app h (kv_cons.mpr ⟨rfl, g, kv_nil⟩)
end
section
variable {Kf : PySem.W.Frag} {Tf : List (Addr × Str)} {F : Fx Kf Tf} {O : Addr → Prop} {H H' : Hp} {σ : L2.St} {δ : List Slot} {d : PyData} {v : V} {q : Addr} {τ : List (PyData × V)} {s s' : Slot} {i : Nat}
theorem SlotOk.out {o : Option V} (g : SlotOk F O H o s) (e : ExtN H H') (hn : ∀ a, Lives H a → a ≠ q) : SlotOk F (Shut O q) H' o s := by
  have kp : ∀ d v, Dt O H d v → Dt (Shut O q) H' d v := fun d v g => Dt.imp (fun a o n r w => ⟨fun z => z.elim n (fun z => hn a ⟨o, r, w⟩ z), e a o r w⟩) d v g
  have kpA : ∀ d v, DtAll O H d v → DtAll (Shut O q) H' d v := fun d v g => DtAll.imp (fun a o n r w => ⟨fun z => z.elim n (fun z => hn a ⟨o, r, w⟩ z), e a o r w⟩) d v g
  cases s with
  | non => trivial
  | dat d => obtain ⟨v, a, b⟩ := g; exact ⟨v, a, kp _ _ b⟩
  | own ds => obtain ⟨p, vs, a, b, c, g, r⟩ := g; exact ⟨p, vs, a, .inl b, c, e _ _ g (fun _ z => by cases z), kpA _ _ r⟩
  | odk kvs => obtain ⟨p, vs, a, b, c, g, r⟩ := g; exact ⟨p, vs, a, .inl b, c, e _ _ g (fun _ z => by cases z), r.imp kpA⟩
  | res R => exact res_keep g (fun a ha => (g.2.2 a ha).2.2.same e) (fun a ha => .inl (g.2.2 a ha).1) kp
  | scr ns => exact g
  | any φ => exact g
/-- the address of what is one's own -/
theorem own_at (st : StAt F O H σ δ) (hi : δ[i]? = some s) (hm : s.mine = true) : ∃ q, σ[i]? = some (some (.ref q)) ∧ O q ∧ ¬ Lives F.Hin q := by
  have g := st.slot i _ hi
  cases s with
  | own ds => obtain ⟨q, xs, e1, o1, nl, _⟩ := g; exact ⟨q, get_some e1, o1, nl⟩
  | odk ds => obtain ⟨q, xs, e1, o1, nl, _⟩ := g; exact ⟨q, get_some e1, o1, nl⟩
  | res R => obtain ⟨⟨q, e1, hq⟩, _, h3⟩ := g; exact ⟨q, get_some e1, (h3 q hq).1, (h3 q hq).2.1⟩
  | non => cases hm
  | dat _ => cases hm
  | scr _ => cases hm
  | any _ => cases hm
theorem own_outG (st : StAt F O H σ δ) (tm : Tm O H τ) (i : Nat) (e : ExtN H H') (t : Tabs F.T H') (hn : ∀ a, Lives H a → a ≠ q) (hq : Lives H' q) (hs : ¬ Lives F.Hin q → SlotOk F (Shut O q) H' (some (.ref q)) s) (hl1 : s.lone = true := by rfl) :
    StAt F (Shut O q) H' (σ.set i (some (.ref q))) (δ.set i s) ∧ Tm (Shut O q) H' τ := by
  have hh : ∀ p, s.has (some (.ref q)) p → p = q := fun p z => by
    cases s with
    | own _ => cases (show some (V.ref q) = some (V.ref p) from z); rfl
    | odk _ => cases (show some (V.ref q) = some (V.ref p) from z); rfl
    | _ => cases hl1
  have kp : ∀ d v, Dt O H d v → Dt (Shut O q) H' d v := fun d v g => Dt.imp (fun a o n r w => ⟨fun z => z.elim n (fun z => hn a ⟨o, r, w⟩ z), e a o r w⟩) d v g
  have nq : ∀ (j : Nat) (s : Slot), δ[j]? = some s → s.mine = true → σ[j]? ≠ some (some (V.ref q)) := fun j s a m z => by
    obtain ⟨p, e1, o1, _⟩ := own_at st a m
    rw [z] at e1
    cases e1
    exact hn q (st.dom q o1) rfl
  refine ⟨⟨by rw [List.length_set, List.length_set, st.len], fun a z => .inl (st.o0 a z), fun a z => ?_, t, st.ext.trans e, fun j s r => ?_, fun j l s' u' q' hjl h1 h2 m1 m2 e1 e2 => ?_, st.afar.set st.len i _ _ (fun R z => by rw [z] at hl1; cases hl1) fun j R _ hj p hp z => ?_⟩, fun w hw => kp _ _ (tm w hw)⟩
  rotate_right
  · rw [hh p z] at hp
    exact hn q ((st.slot j _ hj).2.2 q hp).2.2 rfl
  · rcases z with z | z
    · exact (st.dom a z).grow e
    · rw [z]; exact hq
  · by_cases ej : i = j
    · subst ej
      have hi : i < δ.length := by
        have := (List.getElem?_eq_some_iff.mp r).1
        simpa using this
      rw [List.getElem?_set_self hi] at r
      cases r
      rw [List.getElem?_set_self (by rw [st.len]; exact hi)]
      exact hs fun z => hn q (z.grow st.ext) rfl
    · rw [List.getElem?_set_ne ej] at r ⊢
      exact (st.slot j s r).out e hn
  · by_cases ej : i = j
    · by_cases el : i = l
      · exact hjl (ej.symm.trans el)
      · rw [List.getElem?_set_ne el] at h2 e2
        subst ej
        have hi : i < σ.length := by
          have := (List.getElem?_eq_some_iff.mp e1).1
          simpa using this
        rw [List.getElem?_set_self hi] at e1
        cases e1
        exact nq l u' h2 m2 e2
    · rw [List.getElem?_set_ne ej] at h1 e1
      by_cases el : i = l
      · subst el
        have hi : i < σ.length := by
          have := (List.getElem?_eq_some_iff.mp e2).1
          simpa using this
        rw [List.getElem?_set_self hi] at e2
        cases e2
        exact nq j s' h1 m1 e1
      · rw [List.getElem?_set_ne el] at h2 e2
        exact st.apart j l s' u' q' hjl h1 h2 m1 m2 e1 e2
theorem own_turnG {o : HO} (st : StAt F O H σ δ) (tm : Tm O H τ) (hi : δ[i]? = some s) (hm : s.mine = true) (hv : σ[i]? = some (some (.ref q))) (ht : ∀ ps, o ≠ .tbl ps) (tt : Tabs F.T (upd H q o)) (hs : O q → ¬ Lives F.Hin q → SlotOk F O (upd H q o) (some (.ref q)) s') (hl1 : s.lone = true := by rfl) (hl2 : s'.lone = true := by rfl) :
    StAt F O (upd H q o) σ (δ.set i s') ∧ Tm O (upd H q o) τ := by
  have hh : ∀ {s : Slot} p, s.lone = true → (s.has (some (.ref q)) p ↔ p = q) := fun {s} p hl => by
    cases s with
    | own _ => exact ⟨fun z => by cases (show some (V.ref q) = some (V.ref p) from z); rfl, fun z => by rw [z]; rfl⟩
    | odk _ => exact ⟨fun z => by cases (show some (V.ref q) = some (V.ref p) from z); rfl, fun z => by rw [z]; rfl⟩
    | _ => cases hl
  obtain ⟨p, e1, o1, nl⟩ := own_at st hi hm
  rw [hv] at e1
  cases e1
  have kp : ∀ d v, Dt O H d v → Dt O (upd H q o) d v := fun d v g => g.turn o1
  have kpA : ∀ d v, DtAll O H d v → DtAll O (upd H q o) d v := fun d v g => g.turn o1
  have hil : i < δ.length := (List.getElem?_eq_some_iff.mp hi).1
  have mineset : ∀ {j : Nat} {u : Slot}, (δ.set i s')[j]? = some u → u.mine = true → ∃ u', δ[j]? = some u' ∧ u'.mine = true := fun {j u} a m => by
    by_cases e : i = j
    · subst e
      exact ⟨_, hi, hm⟩
    · rw [List.getElem?_set_ne e] at a
      exact ⟨u, a, m⟩
  refine ⟨⟨by rw [List.length_set, st.len], st.o0, fun a z => (st.dom a z).turn ht, tt, fun b u g t => ?_, fun j s r => ?_, fun j l s' u' q' hjl h1 h2 m1 m2 => ?_, st.afar.turn st.len i _ (fun R z => by rw [z] at hl2; cases hl2) fun j R hji hj p hp z => ?_⟩, fun w hw => kp _ _ (tm w hw)⟩
  rotate_right
  · rw [hv] at z
    exact st.afar j i R _ hji hj hi p hp (by rw [hv]; exact (hh p hl1).mpr ((hh p hl2).mp z))
  · rw [upd_ne (fun z => nl (by rw [← z]; exact ⟨u, g, t⟩))]
    exact st.ext b u g t
  · by_cases e : i = j
    · subst e
      rw [List.getElem?_set_self hil] at r
      cases r
      rw [hv]
      exact hs o1 nl
    · rw [List.getElem?_set_ne e] at r
      have g := st.slot j s r
      cases s with
      | non => trivial
      | dat d => obtain ⟨v, a, b⟩ := g; exact ⟨v, a, kp _ _ b⟩
      | own ds' =>
        obtain ⟨p, vs', a, b, c, g, r'⟩ := g
        have ne : p ≠ q := fun z => st.apart i j _ _ q e hi r hm rfl hv (by rw [← z]; exact get_some a)
        exact ⟨p, vs', a, b, c, by rw [upd_ne ne]; exact g, kpA _ _ r'⟩
      | odk kvs =>
        obtain ⟨p, vs', a, b, c, g, r'⟩ := g
        have ne : p ≠ q := fun z => st.apart i j _ _ q e hi r hm rfl hv (by rw [← z]; exact get_some a)
        exact ⟨p, vs', a, b, c, by rw [upd_ne ne]; exact g, r'.imp kpA⟩
      | res R => exact res_keep g (fun a ha => upd_ne fun z => st.afar j i R _ (fun y => e y.symm) r hi a ha (by rw [hv, z]; exact (hh q hl1).mpr rfl)) (fun a ha => (g.2.2 a ha).1) kp
      | scr ns => exact g
      | any φ => exact g
  · obtain ⟨s1, a1, b1⟩ := mineset h1 m1
    obtain ⟨s2, a2, b2⟩ := mineset h2 m2
    exact st.apart j l s1 s2 q' hjl a1 a2 b1 b2
/-- what is one's own goes to another name -/
theorem own_move {j : Nat} {v : V} (st : StAt F O H σ δ) (hi : δ[i]? = some s) (hv : σ[i]? = some (some v)) (hij : i ≠ j) : StAt F O H (σ.set j (some v)) ((δ.set i .non).set j s) := by
  have hil : i < δ.length := (List.getElem?_eq_some_iff.mp hi).1
  have back : ∀ {l : Nat} {u : Slot} {p : Addr}, ((δ.set i .non).set j s)[l]? = some u → u.mine = true → (σ.set j (some v))[l]? = some (some (.ref p)) → ∃ m, δ[m]? = some u ∧ σ[m]? = some (some (.ref p)) ∧ (m = if l = j then i else l) ∧ l ≠ i := fun {l u p} a m b => by
    by_cases e : j = l
    · subst e
      have hj : j < (δ.set i .non).length := by
        have := (List.getElem?_eq_some_iff.mp a).1
        simpa using this
      rw [List.getElem?_set_self hj] at a
      cases a
      rw [List.getElem?_set_self (by rw [st.len]; simpa using hj)] at b
      cases b
      exact ⟨i, hi, hv, by rw [if_pos rfl], fun z => hij z.symm⟩
    · rw [List.getElem?_set_ne e] at a b
      by_cases e2 : i = l
      · subst e2
        rw [List.getElem?_set_self hil] at a
        cases a
        cases m
      · rw [List.getElem?_set_ne e2] at a
        exact ⟨l, a, b, by rw [if_neg fun z => e z.symm], fun z => e2 z.symm⟩
  refine ⟨by rw [List.length_set, List.length_set, List.length_set, st.len], st.o0, st.dom, st.tabs, st.ext, fun l u r => ?_, fun l m s' u' q' hjl h1 h2 m1 m2 e1 e2 => ?_, ?_⟩
  rotate_right
  · have a1 : Afar σ (δ.set i .non) := st.afar.turn st.len i _ (fun R z => by cases z) fun j R _ _ p _ z => z
    have hsl := st.slot i _ hi
    rw [hv] at hsl
    refine a1.set (by rw [List.length_set, st.len]) j _ _ (fun R eR l u hl hu p hp z => ?_) fun l R hl hR p hp z => ?_
    · by_cases hli : i = l
      · subst hli
        rw [List.getElem?_set_self hil] at hu
        cases hu
        exact z
      · rw [List.getElem?_set_ne hli] at hu
        exact st.afar i l R u hli (by rw [hi, eR]) hu p hp z
    · by_cases hli : i = l
      · subst hli
        rw [List.getElem?_set_self hil] at hR
        cases hR
      · rw [List.getElem?_set_ne hli] at hR
        exact st.afar l i R s (fun y => hli y.symm) hR hi p hp (by rw [hv]; exact z)
  · by_cases e : j = l
    · subst e
      have hj : j < (δ.set i .non).length := by
        have := (List.getElem?_eq_some_iff.mp r).1
        simpa using this
      rw [List.getElem?_set_self hj] at r
      cases r
      rw [List.getElem?_set_self (by rw [st.len]; simpa using hj)]
      have := st.slot i _ hi
      rw [hv] at this
      exact this
    · rw [List.getElem?_set_ne e] at r ⊢
      by_cases e2 : i = l
      · subst e2
        rw [List.getElem?_set_self hil] at r
        cases r
        trivial
      · rw [List.getElem?_set_ne e2] at r
        exact st.slot l u r
  · obtain ⟨a, a1, a2, a3, a4⟩ := back h1 m1 e1
    obtain ⟨b, b1, b2, b3, b4⟩ := back h2 m2 e2
    refine st.apart a b s' u' q' (fun z => hjl ?_) a1 b1 m1 m2 a2 b2
    rw [a3, b3] at z
    split at z <;> split at z
    · rename_i x y; rw [x, y]
    · exact absurd z.symm b4
    · exact absurd z a4
    · exact z
end
section
variable {Kf : PySem.W.Frag} {Tf : List (Addr × Str)} {F : Fx Kf Tf} {δ : List Slot} {X : Cx} {N : List Str} {sc : Scope} {pos apos p px py tpos pos' : Pos} {a b c e o tg it : Expr} {ds es : List PyData} {x y : Str} {rest : List Stmt} {P : Post} {d d1 : PyData} {kvs : List (Key × PyData)} {k : Key} {i j : Nat}
theorem kV_of {O : Addr → Prop} {H : Hp} {v : V} (h : Dt O H (keyD k) v) : v = kV k := by
  cases k with
  | inl i => exact h
  | inr s => exact h
theorem dk_slot {O : Addr → Prop} {H : Hp} {σ : L2.St} (st : StAt F O H σ δ) (hi : δ[i]? = some (.odk kvs)) : ∃ q vs, σ[i]? = some (some (.ref q)) ∧ H q = some (.dK vs) ∧ KvAll O H kvs vs := by
  obtain ⟨q, vs, e1, o1, nl, gq, r⟩ := st.slot i _ hi
  exact ⟨q, vs, get_some e1, gq, r⟩
/-- d[k] -/
theorem x_dget (i : Nat) (cx : Ctx X N sc) (hu : X.A.units + 1 < cLine) (hi : δ[i]? = some (.odk kvs)) (hk : PE X b (tD F δ d1)) (hkk : d1 = keyD k) (hv : getK kvs k = some d) (hN : N[i]? = some x := by rfl) (hvis : Vis sc x := by first | exact Or.inl rfl | exact Or.inr (Or.inl rfl) | exact Or.inr (Or.inr rfl)) (hd : (x == ("__debug__" : Str)) = false := by decide)
    (hcd : (x == ("__classdict__" : Str)) = false := by decide) (hs : NoSl b := by exact fun _ _ => rfl) : PE X (.Subscript (.Name x px) b pos) (tD F δ d) :=
  wkE (pe_dget hu (pe_var (i := i) (cx.at_ hN) (cx.vis hvis) hd hcd) hk hs) fun σ H Q h => by
    obtain ⟨O, st, w⟩ := h
    obtain ⟨q, vs, e1, gq, r⟩ := dk_slot st hi
    refine ⟨.ref q, e1, O, st, fun y H1 e' t' g' => ?_⟩
    obtain ⟨q2, vs2, e2, gq2, r2⟩ := dk_slot (st.grow e' t') hi
    rw [e1] at e2
    cases e2
    obtain ⟨z, z1, z2⟩ := (kv_get r2).1 d hv
    subst hkk
    rw [kV_of g']
    refine ⟨q, z, rfl, ?_, w z H1 e' t' z2⟩
    have := DGet.k (k := k) gq2
    rw [z1] at this
    exact this
theorem dget_of {O : Addr → Prop} {H : Hp} {vs : List (Key × V)} {q : Addr} (gq : H q = some (.dK vs)) (r : KvAll O H kvs vs) : ∃ ov, DGet H q (kV k) ov ∧ ov.isSome = (getK kvs k).isSome := by
  refine ⟨_, DGet.k gq, ?_⟩
  cases e : getK kvs k with
  | none => rw [(kv_get r).2 e]; rfl
  | some d => obtain ⟨z, z1, _⟩ := (kv_get r).1 d e; rw [z1]; rfl
/-- k in d -/
theorem c_din (i : Nat) (cx : Ctx X N sc) (hu : X.A.units + 1 < cLine) (hi : δ[i]? = some (.odk kvs)) (hk : PE X b (tD F δ d1)) (hkk : d1 = keyD k) (hN : N[i]? = some x := by rfl) (hvis : Vis sc x := by first | exact Or.inl rfl | exact Or.inr (Or.inl rfl) | exact Or.inr (Or.inr rfl)) (hd : (x == ("__debug__" : Str)) = false := by decide)
    (hcd : (x == ("__classdict__" : Str)) = false := by decide) (hm : behindInMarks .In (.Name x px) = false := by rfl) : PT X (.Compare b [.In] [.Name x px] pos) (cD F δ (getK kvs k).isSome) :=
  wkT (pt_cmp (pc_din hu hk (pe_var (i := i) (cx.at_ hN) (cx.vis hvis) hd hcd)) hm) fun σ H Q h => by
    obtain ⟨O, st, w⟩ := h
    refine ⟨O, st, fun y H1 e' t' g' => ?_⟩
    obtain ⟨q, vs, e1, gq, r⟩ := dk_slot (st.grow e' t') hi
    subst hkk
    rw [kV_of g']
    obtain ⟨ov, g1, g2⟩ := dget_of (k := k) gq r
    exact ⟨.ref q, e1, q, ov, rfl, g1, _, rfl, by rw [g2]; exact w H1 e' t'⟩
/-- d.get(k, x) -/
theorem x_dget2 (i : Nat) (cx : Ctx X N sc) (hu : X.A.units + 1 < cLine) (hi : δ[i]? = some (.odk kvs)) (hk : PE X b (tD F δ d1)) (hkk : d1 = keyD k) (hc : PE X c (tD F δ d)) (m : M2 X (.Name x px) "get" apos b c pos) (hN : N[i]? = some x := by rfl) (hvis : Vis sc x := by first | exact Or.inl rfl | exact Or.inr (Or.inl rfl) | exact Or.inr (Or.inr rfl)) (hd : (x == ("__debug__" : Str)) = false := by decide)
    (hcd : (x == ("__classdict__" : Str)) = false := by decide) : PE X (.Call (.Attribute (.Name x px) "get" apos) [b, c] [] pos) (tD F δ ((getK kvs k).getD d)) :=
  wkE (pe_dget2 hu (pe_var (i := i) (cx.at_ hN) (cx.vis hvis) hd hcd) hk hc m) fun σ H Q h => by
    obtain ⟨O, st, w⟩ := h
    obtain ⟨q, vs, e1, gq, r⟩ := dk_slot st hi
    refine ⟨.ref q, e1, q, rfl, .inl ⟨_, .inl gq⟩, O, st, fun y H1 e' t' g' => ⟨O, st.grow e' t', fun z H2 e2 t2 g2 => ?_⟩⟩
    obtain ⟨q2, vs2, e3, gq2, r2⟩ := dk_slot ((st.grow e' t').grow e2 t2) hi
    rw [e1] at e3
    cases e3
    subst hkk
    rw [kV_of g']
    refine ⟨_, DGet.k gq2, ?_⟩
    cases e4 : getK kvs k with
    | none =>
      rw [(kv_get r2).2 e4]
      rw [e4] at w
      exact w z H2 (e'.trans e2) t2 g2
    | some d' =>
      obtain ⟨u, u1, u2⟩ := (kv_get r2).1 d' e4
      rw [u1]
      rw [e4] at w
      exact w u H2 (e'.trans e2) t2 u2
/-- x = {} -/
theorem s_dnew (i : Nat) (cx : CtD X N sc F.E) (g : PSs X rest (sD F (δ.set i (.odk [])) P)) (hi : N[i]? = some x := by rfl) (hx : Loc sc x := by first | exact Or.inl rfl | exact Or.inr rfl)
    (hs : swapsWith (.Dict [] [] p) (some (.Name x pos')) pos.line X.env = pure false := by rfl) : PSs X (.Assign [.Name x pos'] (.Dict [] [] p) pos :: rest) (sD F δ P) :=
  wkSs (pss_cons (ps_set (cx.nd') (cx.at_ hi) (cx.loc hx) pe_dnewK hs (.inl (cx.fn x))) g) fun D σ H h' => by
    obtain ⟨O, τ, s0, tm, w⟩ := h'
    intro q hq
    obtain ⟨s1, t1⟩ := own_outG (s := .odk []) s0 tm i (ext_new (o := .dK []) hq) (tabs_new s0.tabs hq) (fun a l => l.ne hq) ⟨_, upd_same, fun _ z => by cases z⟩ fun nl => ⟨q, [], rfl, .inr rfl, nl, upd_same, kv_nil⟩
    exact ⟨Shut O q, τ, s1, t1, w⟩
/-- x = {k: v} -/
theorem s_dnew1 (i : Nat) (cx : CtD X N sc F.E) (hk : PE X b (tD F δ d1)) (hkk : d1 = keyD k) (hv : PE X c (tD F δ d)) (fl : flatD d = true) (g : PSs X rest (sD F (δ.set i (.odk [(k, d)])) P)) (hi : N[i]? = some x := by rfl) (hx : Loc sc x := by first | exact Or.inl rfl | exact Or.inr rfl)
    (hs : swapsWith (.Dict [some b] [c] p) (some (.Name x pos')) pos.line X.env = pure false := by rfl) : PSs X (.Assign [.Name x pos'] (.Dict [some b] [c] p) pos :: rest) (sD F δ P) :=
  wkSs (pss_cons (ps_set (cx.nd') (cx.at_ hi) (cx.loc hx) (pe_disp (pps_cons hk hv pps_nil) rfl rfl (by simp) (by show 1 ≤ 15; decide)) hs (.inl (cx.fn x))) g) fun D σ H h' => by
    obtain ⟨O, τ, s0, tm, w⟩ := h'
    intro q hq
    have e0 := ext_new (o := .dK []) hq
    have s0' := s0.grow e0 (tabs_new s0.tabs hq)
    refine ⟨O, s0', fun u H1 e1 t1 g1 => ⟨O, s0'.grow e1 t1, fun z H2 e2 t2 g2 => ?_⟩⟩
    have gq : H2 q = some (.dK []) := e2 _ _ (e1 _ _ upd_same (fun _ z => by cases z)) (fun _ z => by cases z)
    subst hkk
    rw [kV_of g1]
    refine ⟨gq, [(k, z)], rfl, by show 1 ≤ 15; decide, ?_⟩
    have ex : ExtN H (upd H2 q (.dK (mergeK [] [(k, z)]))) := fun b o gb tb => by
      have nb : b ≠ q := ne_of_none gb hq
      rw [upd_ne nb]
      exact e2 _ _ (e1 _ _ (by rw [upd_ne nb]; exact gb) tb) tb
    have tt : Tabs F.T (upd H2 q (.dK (mergeK [] [(k, z)]))) := tabs_turnK t2 gq
    obtain ⟨s1, t1'⟩ := own_outG (s := .odk [(k, d)]) s0 tm i ex tt (fun a l => l.ne hq) ⟨_, upd_same, fun _ z => by cases z⟩ fun nl => ⟨q, [(k, z)], rfl, .inr rfl, nl, upd_same, kv_cons.mpr ⟨rfl, g2.flat fl, kv_nil⟩⟩
    exact ⟨Shut O q, τ, s1, t1', w⟩
/-- d[k] = v -/
theorem s_dput (i : Nat) (cx : CtD X N sc F.E) (hu : X.A.units + 1 < cLine) (hi : δ[i]? = some (.odk kvs)) (h : PE X e (tD F δ d)) (hn : PE X b (tD F δ d1)) (hkk : d1 = keyD k) (hz : kvs.length < 100000) (g : PSs X rest (sD F (δ.set i (.odk (putD kvs k d))) P)) (hN : N[i]? = some x := by rfl) (hv : Vis sc x := by first | exact Or.inl rfl | exact Or.inr (Or.inl rfl) | exact Or.inr (Or.inr rfl))
    (hd : (x == ("__debug__" : Str)) = false := by decide) (hcd : (x == ("__classdict__" : Str)) = false := by decide) (hs : swapsWithSole [.Subscript (.Name x px) b tpos] e pos.line X.env = pure false := by rfl) (hw : swappedStores [.Subscript (.Name x px) b tpos] e (envS sc) = pure none := by rfl) (h1 : (assignEach [.Subscript (.Name x px) b tpos] X.env).map (·.2) = [assign (.Subscript (.Name x px) b tpos) X.env] := by rfl)
    (ha : ∀ v, assign (.Subscript (.Name x px) b tpos) X.env v = (do
      let ov ← holding [v] (eval (.Name x px) X.env)
      let iv ← holding [v, ov] (eval b X.env)
      standAt tpos
      holding [v, ov, iv] (setItem ov iv v)
      release [v, ov, iv] []) := by intro _; rfl) :
    PSs X (.Assign [.Subscript (.Name x px) b tpos] e pos :: rest) (sD F δ P) :=
  wkSs (pss_cons (ps_asg h (pg_sub (pe_var (i := i) (cx.at_ hN) (cx.vis hv) hd hcd) hn (set_dict hu) ha) hs (sw_eq cx.toCtx hw) h1) g) fun D σ H h' => by
    obtain ⟨O, τ, s0, tm, w⟩ := h'
    obtain ⟨q, vs, e1, gq, r⟩ := dk_slot s0 hi
    refine ⟨O, s0, fun v H1 ex1 t1 g1 => ⟨.ref q, e1, O, s0.grow ex1 t1, fun y H2 ex2 t2 g2 => ?_⟩⟩
    obtain ⟨q2, vs2, e2, gq2, r2⟩ := dk_slot ((s0.grow ex1 t1).grow ex2 t2) hi
    rw [e1] at e2
    cases e2
    subst hkk
    rw [kV_of g2]
    have ho : O q := by
      obtain ⟨p, e3, o1, _⟩ := own_at s0 hi rfl
      rw [e1] at e3
      cases e3
      exact o1
    obtain ⟨s1, tm1⟩ := own_turnG (s' := .odk (putD kvs k d)) ((s0.grow ex1 t1).grow ex2 t2) ((tm.grow ex1).grow ex2) hi rfl e1 (fun _ z => by cases z) (tabs_turnK t2 gq2) fun o1 nl => ⟨q, putK vs2 k v, rfl, o1, nl, upd_same, (kv_put r2 (g1.grow ex2)).imp fun _ _ z => z.turn ho⟩
    exact ⟨q, _, rfl, DPut.k gq2 (by rw [kv_len r2]; exact Nat.lt_of_lt_of_le hz (by decide)), O, τ, s1, tm1, w⟩
/-- y = x, and x is let go -/
theorem s_move (i j : Nat) {s : Slot} (cx : CtD X N sc F.E) (hi : δ[i]? = some s) (hm : s.mine = true) (g : PSs X rest (sD F ((δ.set i .non).set j s) P)) (hij : i ≠ j := by decide) (hN : N[i]? = some x := by rfl) (hv : Vis sc x := by first | exact Or.inl rfl | exact Or.inr (Or.inl rfl) | exact Or.inr (Or.inr rfl))
    (hd : (x == ("__debug__" : Str)) = false := by decide) (hcd : (x == ("__classdict__" : Str)) = false := by decide) (hj : N[j]? = some y := by rfl) (hy : Loc sc y := by first | exact Or.inl rfl | exact Or.inr rfl)
    (hs : swapsWith (.Name x px) (some (.Name y pos')) pos.line X.env = pure false := by rfl) : PSs X (.Assign [.Name y pos'] (.Name x px) pos :: rest) (sD F δ P) :=
  wkSs (pss_cons (ps_set (cx.nd') (cx.at_ hj) (cx.loc hy) (pe_var (i := i) (cx.at_ hN) (cx.vis hv) hd hcd) hs (.inl (cx.fn y))) g) fun D σ H h' => by
    obtain ⟨O, τ, s0, tm, w⟩ := h'
    obtain ⟨q, e1, _, _⟩ := own_at s0 hi hm
    exact ⟨.ref q, e1, O, τ, own_move s0 hi e1 hij, tm, w⟩
end
/-! ### sorted(dict) -/
def rSortK : List V → Hp → VK → Prop := fun vs H Q => ∃ (a : Addr) (kvs : List (Key × V)), vs = [V.ref a] ∧ H a = some (.dK kvs) ∧ PySem.W.AllAlike (kvs.map fun q => keyD q.1) ∧ PySem.W.Sortable (kvs.map fun q => keyD q.1) ∧
  ∀ (ys : List V) (p : Addr), DtAll (fun _ => False) H (sortD (kvs.map fun q => keyD q.1)) ys → H p = none → Q (.ref p) (upd H p (.lst ys))
theorem key_rel {k : Key} {v : Value} (h : keyIs k v = true) : RelV (kV k) v := by
  rcases keyIs_shape h with ⟨i, t, ek, ev⟩ | ⟨z, t, ek, ev⟩
  · subst ek; exact ⟨t, ev⟩
  · subst ek; exact ⟨t, ev⟩
theorem key_dt {O : Addr → Prop} {H : Hp} {k : Key} : Dt O H (keyD k) (kV k) := by
  cases k with
  | inl i => rfl
  | inr s => rfl
theorem each_of {R : Value → PyData → Prop} : ∀ {us : List Value} {ds : List PyData}, us.length = ds.length → (∀ (j : Nat) (u : Value) (d : PyData), us[j]? = some u → ds[j]? = some d → R u d) → PySem.W.EachIs R us ds
  | [], [], _, _ => .nil
  | [], _ :: _, e, _ => by simp at e
  | _ :: _, [], e, _ => by simp at e
  | u :: us, d :: ds, e, h => .cons (h 0 u d rfl rfl) (each_of (by simpa using e) fun j u' d' a b => h (j + 1) u' d' (by simpa using a) (by simpa using b))
theorem cr_sortK {X : Cx} (hcalm : X.calm = true) (hu : X.A.units + 65 < cLine) : CallR X (.builtin "sorted") rSortK := by
  intro pins s σ H xs us Q I r q
  obtain ⟨a, kvs, rfl, hd, al, so, q⟩ := q
  obtain ⟨u, eu, rx⟩ := vals1 r
  subst eu
  cases rx
  obtain ⟨z, lo, vs, rel, dd⟩ := dk_rd I.hok (.inl hd)
  obtain ⟨ep, hat⟩ := dd.dictAt
  have hkeys : vs.map (·.1) = kvs.map (·.1) := rel.keys.symm
  have hl : vs.length = kvs.length := by
    have e := congrArg List.length hkeys
    rw [List.length_map, List.length_map] at e
    exact e
  have h16 : vs.length ≤ sizeLine := by rw [hl]; exact z
  refine Calls.call_function_entry PyProof.Rows.kind_sorted PyProof.Rows.plain_sorted PyProof.Rows.entry_sorted (PyProof.Rows.args_sorted1 _) ?_
  unfold Builtin.«sorted»
  refine wpAny_bind (m := checkCount "sorted" 1 1 _) (wpAny_pure ?_)
  refine wpAny_bind (PySem.W.kdu_collect (A := X.A.in1) (PySem.W.kdl_dict (knd := mixKind X.prog X.w) (kvs := vs) (ep := ep) lo) (I.ok.hd hcalm) hat h16 fun h' tk acc hk hacc => ?_)
  have hal : acc.toList.length = kvs.length := by rw [Array.length_toList, hacc.1, hl]
  have hS : ∀ (j : Nat) (v : Value) (d : PyData), acc.toList[j]? = some v → (kvs.map fun q => keyD q.1)[j]? = some d → ∃ x, RelV x v ∧ Dt (fun _ => False) H d x := fun j v d e ed => by
    obtain ⟨k, x, e1, e2⟩ := hacc.2 j v (by rw [← Array.getElem?_toList]; exact e)
    have e3 : (vs.map (·.1))[j]? = some k := by rw [List.getElem?_map, e1]; rfl
    rw [hkeys, List.getElem?_map] at e3
    rw [List.getElem?_map] at ed
    cases e4 : kvs[j]? with
    | none => rw [e4] at e3; cases e3
    | some y =>
      rw [e4] at e3 ed
      cases e3
      cases ed
      exact ⟨kV y.1, key_rel e2, key_dt⟩
  have I1 : Inv X pins σ H { s with heap := h', toks := tk } := I.kept hk
  have hlenK : (kvs.map fun q => keyD q.1).length = acc.toList.length := by rw [List.length_map, hal]
  refine wpAny_bind (wpAny_newList ?_ (by rw [hal]; exact z))
  have hoL : (h'.push (seqObj "list" acc.toList.toArray 0)).get? h'.objs.size = some (seqObj "list" acc.toList.toArray 0) := Heap.get?_push_size _ rfl
  show wpAny _ _ _ _ _ { s with heap := h'.push (seqObj "list" acc.toList.toArray 0), toks := tk }
  have flatR : ∀ (hh : Heap) (v : Value) (d : PyData) (k : Key) (x : V), d = keyD k → RelV x v → Dt (fun _ => False) H d x → ∃ as, Reads hh v d as ∧ h'.objs.size ∉ as := fun hh v d k x ed rx dx => by
    subst ed
    rw [kV_of dx] at rx
    cases k with
    | inl i => obtain ⟨t, rfl⟩ := rx; exact ⟨[], .int _ _, by simp⟩
    | inr i => obtain ⟨t, rfl⟩ := rx; exact ⟨[], .str _ _, by simp⟩
  refine wpAny_bind (wpAny_holding (PySem.W.list_sort_data (enc := fun d => d) (R := fun u d => ∃ x, RelV x u ∧ Dt (fun _ => False) H d x) hoL (each_of hlenK.symm hS) (each_of hlenK.symm fun j v d e1 e2 => ?_) (by rw [List.map_id']; exact al) (by rw [List.map_id']; exact so) (by rw [hlenK, hal]; exact z) (fun d hb => ?_) fun out ho eo => ?_))
  · obtain ⟨x, rx, dx⟩ := hS j v d e1 e2
    obtain ⟨y, _, ey⟩ := List.mem_map.mp (List.mem_of_getElem? e2)
    exact flatR _ v d y.1 x ey.symm rx dx
  · obtain ⟨y, _, ey⟩ := List.mem_map.mp hb
    have : d.depth = 0 := by rw [← ey]; cases y.1 <;> rfl
    rw [this]
    have e : X.A.in1.units ≤ X.A.units + 1 := by show X.A.units + 1 ≤ _; omega
    omega
  · obtain ⟨ys, r1, d1⟩ := of_each eo
    obtain ⟨e', he'⟩ := PyProof.Rows.sortedHeap_at (vs := acc.toList) (out := out.toArray) hoL
    have hlen : ys.length ≤ sizeLine := by
      rw [r1.length, ho, hlenK, hal]
      exact z
    refine wpAny_pure ⟨_, rfl, .ref h'.objs.size, upd H h'.objs.size (.lst ys), I1.laid (t' := tk) (fun b u e => ?_) (Nat.le_refl _)
      (show ObjOk X.prog X.w _ _ _ (.lst ys) from ⟨hlen, out, e', r1, he'⟩), rfl, q ys _ d1 (I1.hok.fresh (Nat.le_refl _))⟩
    have hb : b < h'.objs.size := Heap.lt_size e
    rw [PyProof.Rows.sortedHeap_old (Nat.ne_of_lt hb) (by rw [size_push']; exact Nat.lt_succ_of_lt hb)]
    exact Heap.get?_push_of_some _ e
section
variable {Kf : PySem.W.Frag} {Tf : List (Addr × Str)} {F : Fx Kf Tf} {δ : List Slot} {X : Cx} {N : List Str} {sc : Scope} {pos p px : Pos} {x : Str} {kvs : List (Key × PyData)}
theorem x_sortK (i : Nat) (cx : Ctx X N sc) (hm : X.mg "sorted" = none) (hu : X.A.units + 65 < cLine) (hi : δ[i]? = some (.odk kvs)) (al : PySem.W.AllAlike (kvs.map fun q => keyD q.1)) (so : PySem.W.Sortable (kvs.map fun q => keyD q.1)) (hN : N[i]? = some x := by rfl) (hv : Vis sc x := by first | exact Or.inl rfl | exact Or.inr (Or.inl rfl) | exact Or.inr (Or.inr rfl))
    (hd : (x == ("__debug__" : Str)) = false := by decide) (hcd : (x == ("__classdict__" : Str)) = false := by decide) (hg : sc.names.lookup ("sorted" : Str) = some .globalImplicit := by rfl) (hs : starEach [.Name x px] X.env = [(false, eval (.Name x px) X.env)] := by rfl) :
    PE X (.Call (.Name "sorted" p) [.Name x px] [] pos) (tD F δ (.list (sortD (kvs.map fun q => keyD q.1)))) :=
  wkE (pe_callB (cr_sortK cx.calm hu) (cx.gl hg) hm (by decide +kernel) (pa_cons (pe_var (i := i) (cx.at_ hN) (cx.vis hv) hd hcd) pa_nil hs) (by decide) (by decide) hs) fun σ H Q h => by
    obtain ⟨O, st, k⟩ := h
    obtain ⟨q, vs, e1, gq, r⟩ := dk_slot st hi
    have ek : (vs.map fun q => keyD q.1) = kvs.map fun q => keyD q.1 := by
      have := congrArg (List.map keyD) r.1
      rwa [List.map_map, List.map_map] at this
    refine ⟨.ref q, e1, q, vs, rfl, gq, by rw [ek]; exact al, by rw [ek]; exact so, fun ys p hy hp => ?_⟩
    refine k _ _ (ext_new hp) (tabs_new st.tabs hp) ⟨p, ys, rfl, fresh_ok st.dom hp, upd_same, ?_⟩
    rw [ek] at hy
    refine DtAll.of hy.len fun i d v a b => ?_
    have hdv := hy.at_ a b
    have hm : d ∈ kvs.map fun q => keyD q.1 := (List.mergeSort_perm _ _).mem_iff.mp (List.mem_of_getElem? a)
    obtain ⟨y, _, rfl⟩ := List.mem_map.mp hm
    exact hdv.flat (by cases y.1 <;> rfl)
end
end Lf
set_option Elab.async false
set_option linter.all false
set_option maxRecDepth 100000
set_option maxHeartbeats 4000000
namespace Lf
open PySem PySem.Spec PyProof.Rows L2 L2H HotX LamX
/-! ### zip(text, list), zip(text, text) -/
def ItzL (K : PySem.W.Frag) (x : Str) (b : Addr) : It :=
  ⟨fun i H => i < x.cps.size ∧ ∃ (ys : List V) (y : V), SqL K H b ys ∧ ys[i]? = some y,
    fun i H v H' => ∃ T c y, v = .ref T ∧ H T = none ∧ H' = upd H T (.tup [.str ⟨#[c]⟩, y]) ∧ x.cps[i]? = some c ∧ ∀ ys, SqL K H b ys → ys[i]? = some y,
    fun i H => ∃ ys : List V, SqL K H b ys ∧ i ≤ x.cps.size ∧ i ≤ ys.length ∧ (i = x.cps.size ∨ i = ys.length)⟩
def ItzS (x y : Str) : It :=
  ⟨fun i H => i < x.cps.size ∧ i < y.cps.size,
    fun i H v H' => ∃ T c d, v = .ref T ∧ H T = none ∧ H' = upd H T (.tup [.str ⟨#[c]⟩, .str ⟨#[d]⟩]) ∧ x.cps[i]? = some c ∧ y.cps[i]? = some d,
    fun i H => i ≤ x.cps.size ∧ i ≤ y.cps.size ∧ (i = x.cps.size ∨ i = y.cps.size)⟩
theorem sep_of {z TI TO i1 i2 b : Addr} (D : ZipApart z TI TO i1 i2 b b) : ZipSep2 z TI TO i1 i2 [i1] [i2, b] where
  TIz := D.TIz
  TOz := D.TOz
  TITO := D.TITO
  TIi1 := D.TIi1
  mem1 := by simp
  zf1 := by simpa using D.i1z.symm
  Tf1 := by simpa using D.TOi1
  TIi2 := D.TIi2
  mem2 := by simp
  zf2 := by simpa using ⟨D.i2z.symm, D.l2z.symm⟩
  Tf2 := by simpa using ⟨D.TOi2, D.l2TO.symm⟩
  sep1_2 := by simpa using ⟨D.i12, D.l1i1.symm⟩
  sep2_1 := by simpa using D.i12.symm
theorem sep_ofS {z TI TO i1 i2 b : Addr} (D : ZipApart z TI TO i1 i2 b b) : ZipSep2 z TI TO i1 i2 [i1] [i2] where
  TIz := D.TIz
  TOz := D.TOz
  TITO := D.TITO
  TIi1 := D.TIi1
  mem1 := by simp
  zf1 := by simpa using D.i1z.symm
  Tf1 := by simpa using D.TOi1
  TIi2 := D.TIi2
  mem2 := by simp
  zf2 := by simpa using D.i2z.symm
  Tf2 := by simpa using D.TOi2
  sep1_2 := by simpa using D.i12
  sep2_1 := by simpa using D.i12.symm
theorem turn_zipSL {P : Program} {w : World} {K : PySem.W.Frag} {elts : List Expr} {kk : Nat} {tpos : Pos} {b z TI TO i1 i2 : Addr} (D : ZipApart z TI TO i1 i2 b b) (x : Str) (t : Tok) (ty : String) (hty : ty = "str_ascii_iterator" ∨ ty = "str_iterator") :
    Turn P w K (.Tuple elts kk tpos) (ItzL K x b) [z, TI, TO, i1, i2] z (fun i h => IsZip h z TI TO .none ∧ IsPair h TI (.ref i1) (.ref i2) ∧ (∃ x y, IsPair h TO x y) ∧ h.IsStrIter i1 ty x t i ∧ h.IsListIter i2 b i) where
  mem := by simp
  obj := fun i h st c hc => by
    obtain ⟨hz, hTI, ⟨x', y', hTO⟩, ⟨o1, e1, _, d1⟩, ⟨o2, e2, _, d2⟩⟩ := st
    have e' : c = z ∨ c = TI ∨ c = TO ∨ c = i1 ∨ c = i2 := by simpa using hc
    rcases e' with q | q | q | q | q
    · rw [q]; exact ⟨_, hz, fun v q => nomatch q⟩
    · rw [q]; exact ⟨_, hTI, fun v q => nomatch q⟩
    · rw [q]; exact ⟨_, hTO, fun v q => nomatch q⟩
    · rw [q]; exact ⟨o1, e1, fun v q => by rw [d1] at q; cases q⟩
    · rw [q]; exact ⟨o2, e2, fun v q => by rw [d2] at q; cases q⟩
  keep := fun i h h' st k => by
    obtain ⟨hz, hTI, ⟨x', y', hTO⟩, ⟨o1, e1, r1⟩, h2⟩ := st
    exact ⟨k z (by simp) _ hz, k TI (by simp) _ hTI, ⟨x', y', k TO (by simp) _ hTO⟩, ⟨o1, k i1 (by simp) o1 e1, r1⟩, h2.at fun o q => k i2 (by simp) o q⟩
  item := by
    intro X hP hw hK hc i pins s σ H E I hf st hg
    subst hP hw hK
    obtain ⟨hz, hTI, ⟨x0, y0, hTO⟩, h1, h2⟩ := st
    obtain ⟨hlt1, ys, y, hqy, hy⟩ := hg
    obtain ⟨its2, rv2, p2, _⟩ := I.list hqy
    obtain ⟨u2, hu2, ru2⟩ := rv2.get hy
    have hzl : z < s.heap.objs.size := Heap.lt_size hz
    have D1 := drawsS (P := X.prog) (w := X.w) (A := X.A.in1) (I.ok.hd hc) i1 x t ty hty
    have D2 := Draws.list (prog := X.prog) (w := X.w) (A := X.A.in1) (I.ok.hd hc) i2 b D.l2i2 its2.toArray
    have hlt2 : i < its2.toArray.size := by
      have := (List.getElem?_eq_some_iff.mp hu2).1
      simpa using this
    refine wpAny_pyNext_zipD2_item (sep_of D) D1 D2 hz hTI hTO h1 ⟨h2, p2.isList⟩ hlt1 hlt2 fun v1 v2 h' tk hP1 hP2 z' TO' h1' h2' hT hsz hk => ?_
    obtain ⟨c, t2, hcx, rfl⟩ := hP1
    have ev2 : v2 = u2 := by
      have : its2.toArray[i]? = some u2 := by simpa using hu2
      rw [this] at hP2
      exact (Option.some.inj hP2).symm
    subst ev2
    refine ⟨_, rfl, wpAny_letOwnedTupleGo_zip (s := { s with heap := h', toks := tk }) z' fun h'' z'' sb => ?_⟩
    have hT2 : h''.get? s.heap.objs.size = some { cls := .type "tuple", data := .seq #[.str ⟨#[c]⟩ t2, v2] } := (sb.2 _ (Nat.ne_of_gt hzl)).trans hT
    have new : ObjOk X.prog X.w (upd H s.heap.objs.size (.tup [.str ⟨#[c]⟩, y])) h'' s.heap.objs.size (.tup [.str ⟨#[c]⟩, y]) :=
      ⟨by show 2 ≤ sizeLine; decide, [.str ⟨#[c]⟩ t2, v2], .cons ⟨_, rfl⟩ (.cons ru2 .nil), ⟨_, hT2, rfl, _, rfl⟩⟩
    have I1 : Inv X pins σ (upd H s.heap.objs.size (.tup [.str ⟨#[c]⟩, y])) { s with heap := h'', toks := tk } :=
      I.turnedNew (t' := tk) (ch := [z, TI, TO, i1, i2]) (fun c o hb q => (sb.2 c (fun q' => hb (by simp [q']))).trans (hk c o (fun q' => hb (by simp [q'])) (fun q' => hb (by simp [q'])) (fun q' => hb (by simp [q'])) (fun q' => hb (by simp [q'])) q)) hf (Nat.le_refl _) new
    obtain ⟨oi, q1, q2⟩ := h1'
    refine ⟨.ref s.heap.objs.size, _, I1, rfl, ⟨_, c, y, rfl, I.hok.fresh (Nat.le_refl _), rfl, hcx, fun l hl => by rw [I.list_inj hl hqy]; exact hy⟩, ⟨z'', ?_, ⟨.str ⟨#[c]⟩ t2, v2, ?_⟩, ⟨oi, (sb.2 _ D.i1z).trans q1, q2⟩, ?_⟩, fun c hcm => ?_⟩
    · exact (sb.2 _ D.TIz).trans (hk _ _ D.TIz D.TITO D.TIi1 D.TIi2 hTI)
    · exact (sb.2 _ D.TOz).trans TO'
    · exact h2'.1.at fun o q => (sb.2 _ D.i2z).trans q
    · have hlt : c < s.heap.objs.size := by
        have e' : c = z ∨ c = TI ∨ c = TO ∨ c = i1 ∨ c = i2 := by simpa using hcm
        rcases e' with q | q | q | q | q
        · rw [q]; exact hzl
        · rw [q]; exact Heap.lt_size hTI
        · rw [q]; exact Heap.lt_size hTO
        · rw [q]; obtain ⟨_, e1, _⟩ := h1; exact Heap.lt_size e1
        · rw [q]; obtain ⟨_, e2, _⟩ := h2; exact Heap.lt_size e2
      rw [upd_ne (Nat.ne_of_lt hlt)]
      exact (hf c hcm).1
  done := by
    intro X hP hw hK hc i pins s σ H E I hf st hg
    subst hP hw hK
    obtain ⟨hz, hTI, ⟨x0, y0, hTO⟩, h1, h2⟩ := st
    obtain ⟨ys, hqy, hle1, hle2, hend⟩ := hg
    obtain ⟨its2, rv2, p2, _⟩ := I.list hqy
    have l2 := rv2.length
    have D1 := drawsS (P := X.prog) (w := X.w) (A := X.A.in1) (I.ok.hd hc) i1 x t ty hty
    have D2 := Draws.list (prog := X.prog) (w := X.w) (A := X.A.in1) (I.ok.hd hc) i2 b D.l2i2 its2.toArray
    exact wpAny_pyNext_zipD2_end (sep_of D) D1 D2 hz hTI hTO h1 ⟨h2, p2.isList⟩ hle1 (by simp; omega) (hend.imp id fun e => by simp; omega) fun h' tk hk => ⟨rfl, I.turnedL (t' := tk) (ch := [z, TI, TO, i1, i2]) (fun c o hb q =>
      hk c o (fun q' => hb (by simp [q'])) (fun q' => hb (by simp [q'])) (fun q' => hb (by simp [q'])) (fun q' => hb (by simp [q'])) q) hf⟩
  self := fun A i s Q E st h => wpAny_pyIter_zip st.1 h
theorem turn_zipSS {P : Program} {w : World} {K : PySem.W.Frag} {elts : List Expr} {kk : Nat} {tpos : Pos} {b z TI TO i1 i2 : Addr} (D : ZipApart z TI TO i1 i2 b b) (x y : Str) (t u : Tok) (ty ty' : String) (hty : ty = "str_ascii_iterator" ∨ ty = "str_iterator") (hty' : ty' = "str_ascii_iterator" ∨ ty' = "str_iterator") :
    Turn P w K (.Tuple elts kk tpos) (ItzS x y) [z, TI, TO, i1, i2] z (fun i h => IsZip h z TI TO .none ∧ IsPair h TI (.ref i1) (.ref i2) ∧ (∃ x y, IsPair h TO x y) ∧ h.IsStrIter i1 ty x t i ∧ h.IsStrIter i2 ty' y u i) where
  mem := by simp
  obj := fun i h st c hc => by
    obtain ⟨hz, hTI, ⟨x', y', hTO⟩, ⟨o1, e1, _, d1⟩, ⟨o2, e2, _, d2⟩⟩ := st
    have e' : c = z ∨ c = TI ∨ c = TO ∨ c = i1 ∨ c = i2 := by simpa using hc
    rcases e' with q | q | q | q | q
    · rw [q]; exact ⟨_, hz, fun v q => nomatch q⟩
    · rw [q]; exact ⟨_, hTI, fun v q => nomatch q⟩
    · rw [q]; exact ⟨_, hTO, fun v q => nomatch q⟩
    · rw [q]; exact ⟨o1, e1, fun v q => by rw [d1] at q; cases q⟩
    · rw [q]; exact ⟨o2, e2, fun v q => by rw [d2] at q; cases q⟩
  keep := fun i h h' st k => by
    obtain ⟨hz, hTI, ⟨x', y', hTO⟩, ⟨o1, e1, r1⟩, ⟨o2, e2, r2⟩⟩ := st
    exact ⟨k z (by simp) _ hz, k TI (by simp) _ hTI, ⟨x', y', k TO (by simp) _ hTO⟩, ⟨o1, k i1 (by simp) o1 e1, r1⟩, ⟨o2, k i2 (by simp) o2 e2, r2⟩⟩
  item := by
    intro X hP hw hK hc i pins s σ H E I hf st hg
    subst hP hw hK
    obtain ⟨hz, hTI, ⟨x0, y0, hTO⟩, h1, h2⟩ := st
    obtain ⟨hlt1, hlt2⟩ := hg
    have hzl : z < s.heap.objs.size := Heap.lt_size hz
    have D1 := drawsS (P := X.prog) (w := X.w) (A := X.A.in1) (I.ok.hd hc) i1 x t ty hty
    have D2 := drawsS (P := X.prog) (w := X.w) (A := X.A.in1) (I.ok.hd hc) i2 y u ty' hty'
    refine wpAny_pyNext_zipD2_item (sep_ofS D) D1 D2 hz hTI hTO h1 h2 hlt1 hlt2 fun v1 v2 h' tk hP1 hP2 z' TO' h1' h2' hT hsz hk => ?_
    obtain ⟨c, t2, hcx, rfl⟩ := hP1
    obtain ⟨d, u2, hdy, rfl⟩ := hP2
    refine ⟨_, rfl, wpAny_letOwnedTupleGo_zip (s := { s with heap := h', toks := tk }) z' fun h'' z'' sb => ?_⟩
    have hT2 : h''.get? s.heap.objs.size = some { cls := .type "tuple", data := .seq #[.str ⟨#[c]⟩ t2, .str ⟨#[d]⟩ u2] } := (sb.2 _ (Nat.ne_of_gt hzl)).trans hT
    have new : ObjOk X.prog X.w (upd H s.heap.objs.size (.tup [.str ⟨#[c]⟩, .str ⟨#[d]⟩])) h'' s.heap.objs.size (.tup [.str ⟨#[c]⟩, .str ⟨#[d]⟩]) :=
      ⟨by show 2 ≤ sizeLine; decide, [.str ⟨#[c]⟩ t2, .str ⟨#[d]⟩ u2], .cons ⟨_, rfl⟩ (.cons ⟨_, rfl⟩ .nil), ⟨_, hT2, rfl, _, rfl⟩⟩
    have I1 : Inv X pins σ (upd H s.heap.objs.size (.tup [.str ⟨#[c]⟩, .str ⟨#[d]⟩])) { s with heap := h'', toks := tk } :=
      I.turnedNew (t' := tk) (ch := [z, TI, TO, i1, i2]) (fun c o hb q => (sb.2 c (fun q' => hb (by simp [q']))).trans (hk c o (fun q' => hb (by simp [q'])) (fun q' => hb (by simp [q'])) (fun q' => hb (by simp [q'])) (fun q' => hb (by simp [q'])) q)) hf (Nat.le_refl _) new
    obtain ⟨oi, q1, q2⟩ := h1'
    obtain ⟨oj, q3, q4⟩ := h2'
    refine ⟨.ref s.heap.objs.size, _, I1, rfl, ⟨_, c, d, rfl, I.hok.fresh (Nat.le_refl _), rfl, hcx, hdy⟩, ⟨z'', ?_, ⟨.str ⟨#[c]⟩ t2, .str ⟨#[d]⟩ u2, ?_⟩, ⟨oi, (sb.2 _ D.i1z).trans q1, q2⟩, ⟨oj, (sb.2 _ D.i2z).trans q3, q4⟩⟩, fun c hcm => ?_⟩
    · exact (sb.2 _ D.TIz).trans (hk _ _ D.TIz D.TITO D.TIi1 D.TIi2 hTI)
    · exact (sb.2 _ D.TOz).trans TO'
    · have hlt : c < s.heap.objs.size := by
        have e' : c = z ∨ c = TI ∨ c = TO ∨ c = i1 ∨ c = i2 := by simpa using hcm
        rcases e' with q | q | q | q | q
        · rw [q]; exact hzl
        · rw [q]; exact Heap.lt_size hTI
        · rw [q]; exact Heap.lt_size hTO
        · rw [q]; obtain ⟨_, e1, _⟩ := h1; exact Heap.lt_size e1
        · rw [q]; obtain ⟨_, e2, _⟩ := h2; exact Heap.lt_size e2
      rw [upd_ne (Nat.ne_of_lt hlt)]
      exact (hf c hcm).1
  done := by
    intro X hP hw hK hc i pins s σ H E I hf st hg
    subst hP hw hK
    obtain ⟨hz, hTI, ⟨x0, y0, hTO⟩, h1, h2⟩ := st
    obtain ⟨hle1, hle2, hend⟩ := hg
    have D1 := drawsS (P := X.prog) (w := X.w) (A := X.A.in1) (I.ok.hd hc) i1 x t ty hty
    have D2 := drawsS (P := X.prog) (w := X.w) (A := X.A.in1) (I.ok.hd hc) i2 y u ty' hty'
    exact wpAny_pyNext_zipD2_end (sep_ofS D) D1 D2 hz hTI hTO h1 h2 hle1 hle2 hend fun h' tk hk => ⟨rfl, I.turnedL (t' := tk) (ch := [z, TI, TO, i1, i2]) (fun c o hb q =>
      hk c o (fun q' => hb (by simp [q'])) (fun q' => hb (by simp [q'])) (fun q' => hb (by simp [q'])) (fun q' => hb (by simp [q'])) q) hf⟩
  self := fun A i s Q E st h => wpAny_pyIter_zip st.1 h
theorem ty_str (x : Str) : strIterType x = "str_ascii_iterator" ∨ strIterType x = "str_iterator" := by
  unfold strIterType
  split
  · exact .inl rfl
  · exact .inr rfl
theorem five_le {n c : Nat} (h : c ∈ [n + 4, n + 2, n + 3, n, n + 1]) : n ≤ c := by
  have e' : c = n + 4 ∨ c = n + 2 ∨ c = n + 3 ∨ c = n ∨ c = n + 1 := by simpa using h
  omega
def iZipSL (K : PySem.W.Frag) (ta : TA) : TI := fun σ H R => ta σ H fun vs H1 => ∃ x b ys, vs = [.str x, .ref b] ∧ SqL K H1 b ys ∧ R (ItzL K x b) H1
def iZipSS (ta : TA) : TI := fun σ H R => ta σ H fun vs H1 => ∃ x y, vs = [.str x, .str y] ∧ R (ItzS x y) H1
theorem pi_zipSL {X : Cx} {e e2 : Expr} {ta : TA} {p pos tpos : Pos} {elts : List Expr} {kk : Nat} (hg : Gl X "zip") (hm : X.mg "zip" = none) (ha : PA X [e, e2] ta)
    (hs : starEach [e, e2] X.env = (false, eval e X.env) :: starEach [e2] X.env := by rfl) (hpl : (backTo pos (starEach [e2] X.env)).any (·.1) = false := by rfl) :
    PI X (.Tuple elts kk tpos) (.Call (.Name "zip" p) [e, e2] [] pos) (iZipSL X.K ta) := by
  refine ⟨fun pins s σ H R I h => ?_⟩
  refine Call_ (ld_blt I hg hm PyProof.Rows.boot_zip (PyProof.Rows.callWith_type1 (thn (ha.run pos pins s σ H _ I h) fun us s1 ⟨vs, H1, I1, r1, q1⟩ => ?_) hs hpl))
  obtain ⟨x, b, ys, ex, hqy, q⟩ := q1
  subst ex
  cases r1 with
  | cons r rr =>
    cases rr with
    | cons r' rr =>
      cases rr
      obtain ⟨t, rfl⟩ := r
      cases r'
      obtain ⟨its2, rv2, p2, _⟩ := I1.list hqy
      have lb : b < s1.heap.objs.size := p2.lt
      refine zip_begins2 (begins_text x t) (begins_list b its2.toArray) trivial p2.isList fun h' hz hTI hTO h1 h2 hsz hk => wpAny_pyIter_zip hz ?_
      have I2 : Inv X pins σ H1 { s1 with heap := h' } := I1.kept (t' := s1.toks) hk
      exact ⟨s1.heap.objs.size + 4, [s1.heap.objs.size + 4, s1.heap.objs.size + 2, s1.heap.objs.size + 3, s1.heap.objs.size, s1.heap.objs.size + 1], _, _, H1, rfl, I2, turn_zipSL (PySem.W.ktu_apart s1.heap.objs.size b b lb lb) x t _ (ty_str x), ⟨hz, hTI, ⟨_, _, hTO⟩, ⟨_, h1, rfl, rfl⟩, ⟨_, h2, rfl, rfl⟩⟩, fun c hcm => I1.fpOk (five_le hcm) (I1.hok.fresh (five_le hcm)), q⟩
theorem pi_zipSS {X : Cx} {e e2 : Expr} {ta : TA} {p pos tpos : Pos} {elts : List Expr} {kk : Nat} (hg : Gl X "zip") (hm : X.mg "zip" = none) (ha : PA X [e, e2] ta)
    (hs : starEach [e, e2] X.env = (false, eval e X.env) :: starEach [e2] X.env := by rfl) (hpl : (backTo pos (starEach [e2] X.env)).any (·.1) = false := by rfl) :
    PI X (.Tuple elts kk tpos) (.Call (.Name "zip" p) [e, e2] [] pos) (iZipSS ta) := by
  refine ⟨fun pins s σ H R I h => ?_⟩
  refine Call_ (ld_blt I hg hm PyProof.Rows.boot_zip (PyProof.Rows.callWith_type1 (thn (ha.run pos pins s σ H _ I h) fun us s1 ⟨vs, H1, I1, r1, q1⟩ => ?_) hs hpl))
  obtain ⟨x, y, ex, q⟩ := q1
  subst ex
  cases r1 with
  | cons r rr =>
    cases rr with
    | cons r' rr =>
      cases rr
      obtain ⟨t, rfl⟩ := r
      obtain ⟨u, rfl⟩ := r'
      have h0 : 0 < s1.heap.objs.size := Nat.lt_of_le_of_lt (Nat.zero_le _) I1.big
      refine zip_begins2 (begins_text x t) (begins_text y u) trivial trivial fun h' hz hTI hTO h1 h2 hsz hk => wpAny_pyIter_zip hz ?_
      have I2 : Inv X pins σ H1 { s1 with heap := h' } := I1.kept (t' := s1.toks) hk
      exact ⟨s1.heap.objs.size + 4, [s1.heap.objs.size + 4, s1.heap.objs.size + 2, s1.heap.objs.size + 3, s1.heap.objs.size, s1.heap.objs.size + 1], _, _, H1, rfl, I2, turn_zipSS (PySem.W.ktu_apart s1.heap.objs.size 0 0 h0 h0) x y t u _ _ (ty_str x) (ty_str y), ⟨hz, hTI, ⟨_, _, hTO⟩, ⟨_, h1, rfl, rfl⟩, ⟨_, h2, rfl, rfl⟩⟩, fun c hcm => I1.fpOk (five_le hcm) (I1.hok.fresh (five_le hcm)), q⟩
section
variable {Kf : PySem.W.Frag} {Tf : List (Addr × Str)} {F : Fx Kf Tf} {δ : List Slot} {X : Cx} {N : List Str} {sc : Scope} {pos p tpos : Pos} {a b : Expr} {elts : List Expr} {kk : Nat} {ds : List PyData} {l m : List Nat}
theorem i_zipSL (cx : Ctx X N sc) (hm : X.mg "zip" = none) (h : PA X [a, b] (aD F δ [tx l, .list ds])) (hg : sc.names.lookup ("zip" : Str) = some .globalImplicit := by rfl) (hs : starEach [a, b] X.env = (false, eval a X.env) :: starEach [b] X.env := by rfl) (hpl : (backTo pos (starEach [b] X.env)).any (·.1) = false := by rfl) :
    PI X (.Tuple elts kk tpos) (.Call (.Name "zip" p) [a, b] [] pos) (iD F δ (((l.map fun c => tx [c]).zip ds).map encZ)) := by
  refine wkI (pi_zipSL (cx.gl hg) hm h hs hpl) fun σ H R q => ?_
  obtain ⟨O, st, k⟩ := q
  refine ⟨O, st, fun vs H1 e1 t1 g1 => ?_⟩
  obtain ⟨v, r, rfl, ev, u, r', rfl, eu, rfl⟩ := g1
  rw [show v = V.str ⟨l.toArray⟩ from ev]
  obtain ⟨q2, ys, rfl, n2, h2, r2⟩ := id eu
  refine ⟨⟨l.toArray⟩, q2, ys, rfl, SqL.of h2, k (ItzL X.K ⟨l.toArray⟩ q2) [(.list ds, .ref q2)] H1 e1 t1 (fun w hw => ?_) (fun O1 H2 i d g2 dom t2 hd => ?_) fun O1 H2 g2 => ?_⟩
  · rw [List.mem_singleton.mp hw]; exact eu
  · obtain ⟨b2, ys2, eb2, nb2, gb2, rb2⟩ := g2 _ List.mem_cons_self
    cases eb2
    rw [List.getElem?_map] at hd
    obtain ⟨⟨d1, d2⟩, hz, rfl⟩ := Option.map_eq_some_iff.mp hd
    obtain ⟨hz1, hz2⟩ := List.getElem?_zip_eq_some.mp hz
    rw [List.getElem?_map] at hz1
    obtain ⟨c, hc, rfl⟩ := Option.map_eq_some_iff.mp hz1
    obtain ⟨y2, hy2, dy2⟩ := rb2.get hz2
    refine ⟨⟨by have := (List.getElem?_eq_some_iff.mp hc).1; simpa using this, ys2, y2, SqL.of gb2, hy2⟩, fun x H3 hyld => ?_⟩
    obtain ⟨T, c', x2, rfl, hT, rfl, hx1, hx2⟩ := hyld
    have f1 : l[i]? = some c' := by simpa using hx1
    have f2 := hx2 ys2 (SqL.of gb2)
    rw [hc] at f1
    rw [hy2] at f2
    cases f1
    cases f2
    exact ⟨ext_new hT, tabs_new t2 hT, T, _, rfl, fresh_ok dom hT, upd_same, _, [y2], rfl, rfl, y2, [], rfl, dy2.grow (ext_new hT), rfl⟩
  · obtain ⟨b2, ys2, eb2, nb2, gb2, rb2⟩ := g2 _ List.mem_cons_self
    cases eb2
    have e0 : (⟨l.toArray⟩ : Str).cps.size = l.length := by simp
    refine ⟨ys2, SqL.of gb2, ?_⟩
    rw [rb2.len, e0, List.length_map, List.length_zip, List.length_map]
    omega
theorem i_zipSS (cx : Ctx X N sc) (hm : X.mg "zip" = none) (h : PA X [a, b] (aD F δ [tx l, tx m])) (hg : sc.names.lookup ("zip" : Str) = some .globalImplicit := by rfl) (hs : starEach [a, b] X.env = (false, eval a X.env) :: starEach [b] X.env := by rfl) (hpl : (backTo pos (starEach [b] X.env)).any (·.1) = false := by rfl) :
    PI X (.Tuple elts kk tpos) (.Call (.Name "zip" p) [a, b] [] pos) (iD F δ (((l.map fun c => tx [c]).zip (m.map fun c => tx [c])).map encZ)) := by
  refine wkI (pi_zipSS (cx.gl hg) hm h hs hpl) fun σ H R q => ?_
  obtain ⟨O, st, k⟩ := q
  refine ⟨O, st, fun vs H1 e1 t1 g1 => ?_⟩
  obtain ⟨v, r, rfl, ev, u, r', rfl, eu, rfl⟩ := g1
  rw [show v = V.str ⟨l.toArray⟩ from ev, show u = V.str ⟨m.toArray⟩ from eu]
  refine ⟨⟨l.toArray⟩, ⟨m.toArray⟩, rfl, k (ItzS ⟨l.toArray⟩ ⟨m.toArray⟩) [] H1 e1 t1 (fun w hw => by cases hw) (fun O1 H2 i d g2 dom t2 hd => ?_) fun O1 H2 g2 => ?_⟩
  · rw [List.getElem?_map] at hd
    obtain ⟨⟨d1, d2⟩, hz, rfl⟩ := Option.map_eq_some_iff.mp hd
    obtain ⟨hz1, hz2⟩ := List.getElem?_zip_eq_some.mp hz
    rw [List.getElem?_map] at hz1 hz2
    obtain ⟨c, hc, rfl⟩ := Option.map_eq_some_iff.mp hz1
    obtain ⟨d, hd', rfl⟩ := Option.map_eq_some_iff.mp hz2
    refine ⟨⟨by have := (List.getElem?_eq_some_iff.mp hc).1; simpa using this, by have := (List.getElem?_eq_some_iff.mp hd').1; simpa using this⟩, fun x H3 hyld => ?_⟩
    obtain ⟨T, c', x2, rfl, hT, rfl, hx1, hx2⟩ := hyld
    have f1 : l[i]? = some c' := by simpa using hx1
    have f2 : m[i]? = some x2 := by simpa using hx2
    rw [hc] at f1
    rw [hd'] at f2
    cases f1
    cases f2
    exact ⟨ext_new hT, tabs_new t2 hT, T, _, rfl, fresh_ok dom hT, upd_same, _, [_], rfl, rfl, _, [], rfl, rfl, rfl⟩
  · have e0 : (⟨l.toArray⟩ : Str).cps.size = l.length := by simp
    have e1 : (⟨m.toArray⟩ : Str).cps.size = m.length := by simp
    show _ ≤ _ ∧ _ ≤ _ ∧ _
    rw [e0, e1, List.length_map, List.length_zip, List.length_map, List.length_map]
    omega
end
section
variable {Kf : PySem.W.Frag} {Tf : List (Addr × Str)} {F : Fx Kf Tf} {δ : List Slot} {X : Cx} {N : List Str} {sc : Scope} {pos p p2 rpos : Pos} {a b : Expr} {i j : Int}
theorem rg_data {O : Addr → Prop} {H : Hp} (lo : Int) (m : Nat) : DtAll O H ((List.range m).map fun (k : Nat) => PyData.int (lo + (k : Int))) ((List.range m).map fun (k : Nat) => V.int (lo + (k : Nat))) := by
  have := DtAll.of_ints (O := O) (H := H) ((List.range m).map fun (k : Nat) => lo + (k : Int))
  rw [List.map_map, List.map_map] at this
  exact this
/-- list(range(i)), list(range(i, j)) -/
theorem x_listRg1 (cx : Ctx X N sc) (hm : X.mg "list" = none) (hm2 : X.mg "range" = none) (h : PE X a (tD F δ (.int i))) (hi : 0 ≤ i ∧ i ≤ 1000000) (hg : sc.names.lookup ("list" : Str) = some .globalImplicit := by rfl) (hg2 : sc.names.lookup ("range" : Str) = some .globalImplicit := by rfl)
    (na : starEach [.Call (.Name "range" p2) [a] [] rpos] X.env = (false, eval (.Call (.Name "range" p2) [a] [] rpos) X.env) :: starEach [] X.env := by rfl) (nb : starEach [a] X.env = (false, eval a X.env) :: starEach [] X.env := by rfl) :
    PE X (.Call (.Name "list" p) [.Call (.Name "range" p2) [a] [] rpos] [] pos) (tD F δ (.list ((List.range i.toNat).map fun (k : Nat) => PyData.int (0 + (k : Int))))) :=
  wkE (pe_listRg cx.calm (cx.gl hg) hm (prg_1 (cx.gl hg2) hm2 h nb) na) fun σ H Q h => by
    obtain ⟨O, st, k⟩ := h
    refine ⟨O, st, fun v H1 e1 t1 g1 => ⟨i, g1, RgOk.of_le (by omega) (by omega) (by omega) (by omega), fun q hq => ?_⟩⟩
    refine k _ _ (e1.trans (ext_new hq)) (tabs_new t1 hq) ⟨q, _, rfl, fresh_ok (st.grow e1 t1).dom hq, upd_same, ?_⟩
    unfold rgV
    rw [Int.sub_zero]
    exact rg_data 0 i.toNat
theorem x_listRg2 (cx : Ctx X N sc) (hm : X.mg "list" = none) (hm2 : X.mg "range" = none) (h : PE X a (tD F δ (.int i))) (h2 : PE X b (tD F δ (.int j))) (hi : 0 ≤ i ∧ i ≤ 1000000) (hj : 0 ≤ j ∧ j ≤ 1000000) (hg : sc.names.lookup ("list" : Str) = some .globalImplicit := by rfl) (hg2 : sc.names.lookup ("range" : Str) = some .globalImplicit := by rfl)
    (na : starEach [.Call (.Name "range" p2) [a, b] [] rpos] X.env = (false, eval (.Call (.Name "range" p2) [a, b] [] rpos) X.env) :: starEach [] X.env := by rfl) (n1 : starEach [a, b] X.env = (false, eval a X.env) :: starEach [b] X.env := by rfl) (n2 : starEach [b] X.env = (false, eval b X.env) :: starEach [] X.env := by rfl) (n3 : (backTo rpos (starEach [b] X.env)).any (·.1) = false := by rfl) :
    PE X (.Call (.Name "list" p) [.Call (.Name "range" p2) [a, b] [] rpos] [] pos) (tD F δ (.list ((List.range (j - i).toNat).map fun (k : Nat) => PyData.int (i + (k : Int))))) :=
  wkE (pe_listRg cx.calm (cx.gl hg) hm (prg_2 (cx.gl hg2) hm2 h h2 n1 n2 n3) na) fun σ H Q h => by
    obtain ⟨O, st, k⟩ := h
    refine ⟨O, st, fun v H1 e1 t1 g1 => ⟨O, st.grow e1 t1, fun u H2 e2 t2 g2 => ⟨i, j, g1, g2, RgOk.of_le (by omega) (by omega) (by omega) (by omega), fun q hq => ?_⟩⟩⟩
    exact k _ _ ((e1.trans e2).trans (ext_new hq)) (tabs_new t2 hq) ⟨q, _, rfl, fresh_ok ((st.grow e1 t1).grow e2 t2).dom hq, upd_same, rg_data i _⟩
end
end Lf
set_option Elab.async false
set_option linter.all false
set_option maxRecDepth 100000
set_option maxHeartbeats 4000000
namespace Lf
open PySem PySem.Spec PyProof.Rows L2 LamX
/-! ### whole numbers between bounds -/
def isCnt (d : PyData) (lo hi : Int) : Bool :=
  match d with
  | .int i => decide (lo ≤ i) && decide (i ≤ hi)
  | _ => false
def R_is_count (ds : List PyData) (r : Res) : Prop := ∃ d lo hi, ds = [d, .int lo, .int hi] ∧ r = .ok (.bool (isCnt d lo hi))
/-! ### spots -/
def isLs : PyData → Bool
  | .list _ => true
  | _ => false
def lsOf : PyData → List PyData
  | .list ds => ds
  | _ => []
def riseI (ns : List Int) : Bool := (ns.dropLast.zip ns.tail).all fun q => decide (q.1 < q.2)
def intOf : PyData → Int
  | .int i => i
  | _ => 0
def spots (m : Nat) (d : PyData) : Bool := isLs d && ((lsOf d).all fun e => isCnt e 0 ((m : Int) - 1)) && riseI ((lsOf d).map intOf)
def R_are_spots (ds : List PyData) (r : Res) : Prop := ∃ n d, ds = [tx n, d] ∧ n.length ≤ 10000 ∧ (lsOf d).length ≤ 10000 ∧ r = .ok (.bool (spots n.length d))
theorem cnt_ints {lo hi : Int} : ∀ {ds : List PyData}, (ds.all fun e => isCnt e lo hi) = true → ds = (ds.map intOf).map PyData.int ∧ ∀ i ∈ ds.map intOf, lo ≤ i ∧ i ≤ hi
  | [], _ => ⟨rfl, fun _ h => by cases h⟩
  | d :: ds, h => by
    rw [List.all_cons, Bool.and_eq_true] at h
    obtain ⟨h1, h2⟩ := h
    obtain ⟨g1, g2⟩ := cnt_ints h2
    cases d with
    | int i =>
      have h1 : lo ≤ i ∧ i ≤ hi := by simpa [isCnt] using h1
      refine ⟨by rw [List.map_cons, List.map_cons, ← g1]; rfl, fun j hj => ?_⟩
      rw [List.map_cons] at hj
      rcases List.mem_cons.mp hj with e | hj
      · rw [e]; exact h1
      · exact g2 j hj
    | none => cases h1
    | bool _ => cases h1
    | str _ => cases h1
    | list _ => cases h1
    | tuple _ => cases h1
    | dict _ => cases h1
theorem map_intOf (ns : List Int) : (ns.map PyData.int).map intOf = ns := by rw [List.map_map]; exact List.map_id ns
theorem cut_init {α : Type} (l : List α) : cutL l none (some (-1)) = l.dropLast := by
  unfold cutL HT.sIx
  cases l with
  | nil => rfl
  | cons a l => simp [List.dropLast_eq_take]; try omega
theorem cut_tail {α : Type} (l : List α) : cutL l (some 1) none = l.tail := by
  cases l with
  | nil => rfl
  | cons a l =>
    unfold cutL HT.sIx
    simp
theorem zip_ints (ns : List Int) : ((cutL (ns.map PyData.int) none (some (-1))).zip (cutL (ns.map PyData.int) (some 1) none)).map encZ = (ns.dropLast.zip ns.tail).map fun q => PyData.tuple [.int q.1, .int q.2] := by
  rw [cut_init, cut_tail, ← List.map_dropLast, ← List.map_tail, List.zip_map, List.map_map]
  rfl
theorem kit_list {d : PyData} (h : isLs d = false) : kitB (tyN d) "list" = some false := by
  cases d with
  | list _ => cases h
  | _ => rfl
theorem ls_of {d : PyData} (h : isLs d = true) : d = .list (lsOf d) := by
  cases d with
  | list _ => rfl
  | _ => cases h
/-! ### a name with brackets -/
def inI (ps : List Nat) (i : Int) : Bool := (ps.map natI).any fun z => PyData.eqv z (.int i)
def ahd (ps : List Nat) (i : Nat) : List Nat := if (inI ps (i : Int) && !inI ps ((i : Int) - 1)) = true then [91] else []
def bhd (ps : List Nat) (i : Nat) : List Nat := if (inI ps (i : Int) && !inI ps ((i : Int) + 1)) = true then [93] else []
def shAt (ps : List Nat) (x : Nat × Nat) : List Nat := ahd ps x.1 ++ [x.2] ++ bhd ps x.1
def shL (ps : List Nat) (xs : List (Nat × Nat)) : List Nat := xs.flatMap (shAt ps)
def shownL (n ps : List Nat) : List Nat := shL ps (enumT n)
def R_shown_text (ds : List PyData) (r : Res) : Prop := ∃ n ps, ds = [tx n, .list (ps.map natI)] ∧ n.length ≤ 10000 ∧ r = .ok (tx (shownL n ps))
theorem sh_len (ps : List Nat) : ∀ xs : List (Nat × Nat), (shL ps xs).length ≤ 3 * xs.length
  | [] => Nat.le_refl _
  | x :: xs => by
    have ih := sh_len ps xs
    unfold shL at ih ⊢
    rw [List.flatMap_cons, List.length_append, List.length_cons]
    have : (shAt ps x).length ≤ 3 := by
      unfold shAt ahd bhd
      repeat' split
      all_goals simp
    omega
theorem sh_snoc (ps : List Nat) (xs : List (Nat × Nat)) (x : Nat × Nat) : shL ps (xs ++ [x]) = shL ps xs ++ ahd ps x.1 ++ [x.2] ++ bhd ps x.1 := by
  unfold shL
  rw [List.flatMap_append, List.flatMap_cons, List.flatMap_nil, List.append_nil]
  unfold shAt
  simp only [List.append_assoc]
def natsOf (d : PyData) : List Nat := (lsOf d).map fun e => (intOf e).toNat
/-- BadName, then BadPlaces, then f -/
def R_spots (C0 C3 : Addr) (f : List Nat → List Nat → PyData) (ds : List PyData) (r : Res) : Prop := ∃ d1 d2, ds = [d1, d2] ∧ okd d1 ∧ (lsOf d2).length ≤ 10000 ∧
  r = if isName d1 = true then (if spots (cod d1).length d2 = true then .ok (f (cod d1) (natsOf d2)) else .error C3) else .error C0
theorem spots_nats {m : Nat} {d : PyData} (h : spots m d = true) : d = .list ((natsOf d).map natI) ∧ (∀ i ∈ natsOf d, i < m) ∧ (natsOf d).Pairwise (· < ·) := by
  unfold spots at h
  rw [Bool.and_eq_true, Bool.and_eq_true] at h
  obtain ⟨⟨h1, h2⟩, h3⟩ := h
  obtain ⟨g1, g2⟩ := cnt_ints h2
  have e := ls_of h1
  have en : (lsOf d).map intOf = (natsOf d).map fun (i : Nat) => (i : Int) := by
    unfold natsOf
    rw [List.map_map]
    refine List.map_congr_left fun x hx => ?_
    have := g2 _ (List.mem_map_of_mem hx)
    show intOf x = ((intOf x).toNat : Int)
    omega
  refine ⟨?_, fun i hi => ?_, ?_⟩
  · rw [e]
    show PyData.list (lsOf d) = _
    rw [show natsOf (.list (lsOf d)) = natsOf d by rw [← e]]
    rw [g1, en, List.map_map]
    rfl
  · obtain ⟨x, hx, rfl⟩ := List.mem_map.mp hi
    have := g2 _ (List.mem_map_of_mem hx)
    omega
  · rw [en] at h3
    generalize natsOf d = l at h3
    clear e en g1 g2 h1 h2
    unfold riseI at h3
    induction l with
    | nil => exact .nil
    | cons a l ih =>
      cases l with
      | nil => exact List.pairwise_singleton _ _
      | cons b l =>
        simp only [List.map_cons, List.dropLast_cons₂, List.tail_cons, List.zip_cons_cons, List.all_cons, Bool.and_eq_true, decide_eq_true_eq] at h3
        have ih := ih (by simpa using h3.2)
        refine List.pairwise_cons.mpr ⟨fun x hx => ?_, ih⟩
        rcases List.mem_cons.mp hx with e | hx
        · rw [e]; omega
        · have := (List.pairwise_cons.mp ih).1 x hx
          omega
/-! ### the name and the places that a text shows -/
def rdStep (s : (List Nat × List Nat) × Bool) (c : Nat) : (List Nat × List Nat) × Bool :=
  if c ∈ ([91, 93] : List Nat) then (s.1, decide (c = 91)) else ((s.1.1 ++ [c], if s.2 = true then s.1.2 ++ [s.1.1.length] else s.1.2), s.2)
def rdF (pre : List Nat) : (List Nat × List Nat) × Bool := pre.foldl rdStep (([], []), false)
theorem rdF_snoc (pre : List Nat) (c : Nat) : rdF (pre ++ [c]) = rdStep (rdF pre) c := by
  unfold rdF
  rw [List.foldl_append]
  rfl
theorem snocRec {α : Type} {P : List α → Prop} (h0 : P []) (hs : ∀ l a, P l → P (l ++ [a])) (l : List α) : P l := by
  have : ∀ m : List α, P m.reverse := fun m => by
    induction m with
    | nil => exact h0
    | cons a m ih => rw [List.reverse_cons]; exact hs _ _ ih
  have h := this l.reverse
  rw [List.reverse_reverse] at h
  exact h
theorem rdF_len (pre : List Nat) : (rdF pre).1.1.length ≤ pre.length ∧ (rdF pre).1.2.length ≤ pre.length := by
  induction pre using snocRec with
  | h0 => exact ⟨Nat.le_refl _, Nat.le_refl _⟩
  | hs q c ih =>
    rw [rdF_snoc, List.length_append, List.length_singleton]
    unfold rdStep
    split
    · exact ⟨Nat.le_succ_of_le ih.1, Nat.le_succ_of_le ih.2⟩
    · refine ⟨by simp; omega, ?_⟩
      show (if _ then _ else _ : List Nat).length ≤ _
      split
      · simp; omega
      · omega
def readL (t : List Nat) : Option (List Nat × List Nat) := if isNm (rdF t).1.1 = true ∧ shownL (rdF t).1.1 (rdF t).1.2 = t then some (rdF t).1 else none
def R_read_shown (C7 : Addr) (ds : List PyData) (r : Res) : Prop := ∃ d, ds = [d] ∧ okd d ∧ r = if isTx d = true then (match readL (cod d) with | some q => .ok (.tuple [tx q.1, .list (q.2.map natI)]) | none => .error C7) else .error C7
/-! ### runs -/
def runD (q : Nat × Nat) : PyData := .tuple [natI q.1, natI q.2]
def ruStep (s : List (Nat × Nat)) (i : Nat) : List (Nat × Nat) :=
  match s.getLast? with
  | some q => if q.1 + q.2 = i then s.dropLast ++ [(q.1, q.2 + 1)] else s ++ [(i, 1)]
  | none => s ++ [(i, 1)]
def runsL (ps : List Nat) : List (Nat × Nat) := ps.foldl ruStep []
theorem runsL_snoc (ps : List Nat) (i : Nat) : runsL (ps ++ [i]) = ruStep (runsL ps) i := by
  unfold runsL
  rw [List.foldl_append]
  rfl
def shownD (n ps : List Nat) : PyData := tx (shownL n ps)
def runsD (n ps : List Nat) : PyData := .list ((runsL ps).map runD)
end Lf
namespace Lf
open PySem PySem.Spec PyProof.Rows L2 LamX
theorem runsL_len (ps : List Nat) : (runsL ps).length ≤ ps.length := by
  induction ps using snocRec with
  | h0 => exact Nat.le_refl _
  | hs q c ih =>
    rw [runsL_snoc, List.length_append, List.length_singleton]
    unfold ruStep
    split
    · split
      · simp; omega
      · simp; omega
    · simp; omega
theorem lay_runs (rs : List (Nat × Nat)) : Lay 2 (.list (rs.map runD)) := lay_list (n := 1) fun d hd => by
  obtain ⟨q, _, rfl⟩ := List.mem_map.mp hd
  refine lay_tuple (n := 0) fun e he => ?_
  simp at he
  rcases he with rfl | rfl <;> exact lay_int
theorem run_last {rs : List (Nat × Nat)} {q : Nat × Nat} (h : rs.getLast? = some q) : atI (rs.map runD) (-1) = some (runD q) := by
  obtain ⟨l, rfl⟩ := List.getLast?_eq_some_iff.mp h
  rw [List.map_append]
  unfold atI
  rw [show ixN ((l.map runD) ++ [q].map runD).length (-1) = some l.length by unfold ixN; simp; try omega]
  simp
theorem run_put {rs : List (Nat × Nat)} {q : Nat × Nat} (h : rs.getLast? = some q) : ixN (rs.map runD).length (-1) = some (rs.length - 1) := by
  obtain ⟨l, rfl⟩ := List.getLast?_eq_some_iff.mp h
  unfold ixN
  simp
  try omega
theorem run_set {rs : List (Nat × Nat)} {q : Nat × Nat} {d : PyData} (h : rs.getLast? = some q) : (rs.map runD).set (rs.length - 1) d = rs.dropLast.map runD ++ [d] := by
  obtain ⟨l, rfl⟩ := List.getLast?_eq_some_iff.mp h
  simp [List.set_append]
theorem run_ne {rs : List (Nat × Nat)} {q : Nat × Nat} (h : rs.getLast? = some q) : PyData.eqv (.list (rs.map runD)) (.list []) = false := by
  cases rs with
  | nil => cases h
  | cons a l => rfl
end Lf
set_option Elab.async false
set_option linter.all false
set_option maxRecDepth 100000
set_option maxHeartbeats 4000000
namespace Lf
open PySem PySem.Spec PyProof.Rows L2 LamX
section
variable {Kf : PySem.W.Frag} {Tf : List (Addr × Str)} {F : Fx Kf Tf}
theorem od_repSz {l : List Nat} {i : Int} (hn : 0 ≤ i) (hn2 : i ≤ 100000) (hz : l.length * i.toNat ≤ 100000) : OpD F rMulS (tx l) (.int i) (tx (List.replicate i.toNat l).flatten) := by
  by_cases h : 1 ≤ i
  · exact od_repSi h hn2 hz
  · have e : i = 0 := by omega
    subst e
    exact fun O H x y Q _ w hx hy k => ⟨_, _, hx, hy, ⟨by decide, fun z => absurd (by decide) z, fun z => absurd (by decide) z⟩, k _ H (ExtN.refl H) w rfl⟩
end
/-! ### the law's own showing -/
def bk2 (b : Bool) : Nat := if b then 93 else 91
def lsStep (ps : List Nat) (s : List Nat × Bool) (x : Nat × Nat) : List Nat × Bool := if (!decide (inI ps (x.1 : Int) = s.2)) = true then (s.1 ++ [bk2 s.2] ++ [x.2], !s.2) else (s.1 ++ [x.2], s.2)
def lsF (ps : List Nat) (xs : List (Nat × Nat)) : List Nat × Bool := xs.foldl (lsStep ps) ([], false)
theorem lsF_snoc (ps : List Nat) (xs : List (Nat × Nat)) (x : Nat × Nat) : lsF ps (xs ++ [x]) = lsStep ps (lsF ps xs) x := by
  unfold lsF
  rw [List.foldl_append]
  rfl
theorem lsF_len (ps : List Nat) (xs : List (Nat × Nat)) : (lsF ps xs).1.length ≤ 2 * xs.length := by
  induction xs using snocRec with
  | h0 => exact Nat.le_refl _
  | hs q c ih =>
    rw [lsF_snoc, List.length_append, List.length_singleton]
    unfold lsStep
    split <;> (simp; omega)
def lawSh (n ps : List Nat) : List Nat := (lsF ps (enumT n)).1 ++ (List.replicate (if (lsF ps (enumT n)).2 then (1 : Int) else 0).toNat [93]).flatten
def R_law_shown (ds : List PyData) (r : Res) : Prop := ∃ n ps, ds = [tx n, .list (ps.map natI)] ∧ n.length ≤ 10000 ∧ r = .ok (tx (lawSh n ps))
theorem bk_at (b : Bool) : atI [91, 93] (if b then (1 : Int) else 0) = some (bk2 b) := by cases b <;> rfl
/-! ### brackets one behind the other -/
def stB (b : Bool) (c : Nat) : Option Bool := if c = 91 then (if b then none else some true) else if c = 93 then (if b then some false else none) else some b
def brk (pre : List Nat) : Option Bool := pre.foldl (fun o c => o.bind fun b => stB b c) (some false)
theorem brk_snoc (pre : List Nat) (c : Nat) : brk (pre ++ [c]) = (brk pre).bind fun b => stB b c := by
  unfold brk
  rw [List.foldl_append]
  rfl
theorem brk_none (post : List Nat) : ∀ pre, brk pre = none → brk (pre ++ post) = none := by
  induction post with
  | nil => intro pre h; rw [List.append_nil]; exact h
  | cons c post ih =>
    intro pre h
    have := ih (pre ++ [c]) (by rw [brk_snoc, h]; rfl)
    rwa [List.append_assoc] at this
def noB (l : List Nat) : Prop := ∀ c ∈ l, c ≠ 91 ∧ c ≠ 93
theorem brk_ls (ps : List Nat) (xs : List (Nat × Nat)) : (∀ x ∈ xs, x.2 ≠ 91 ∧ x.2 ≠ 93) → brk (lsF ps xs).1 = some (lsF ps xs).2 := by
  induction xs using snocRec with
  | h0 => intro _; rfl
  | hs q c ih =>
    intro h
    have ih := ih fun x hx => h x (List.mem_append_left _ hx)
    have hc := h c (List.mem_append_right _ List.mem_cons_self)
    rw [lsF_snoc]
    unfold lsStep
    split
    · show brk ((lsF ps q).1 ++ [bk2 (lsF ps q).2] ++ [c.2]) = some (!(lsF ps q).2)
      rw [brk_snoc, brk_snoc, ih]
      cases (lsF ps q).2 <;> simp [stB, bk2, hc]
    · show brk ((lsF ps q).1 ++ [c.2]) = some (lsF ps q).2
      rw [brk_snoc, ih]
      simp [stB, hc]
theorem enum_noB {n : List Nat} (h : noB n) : ∀ x ∈ enumT n, x.2 ≠ 91 ∧ x.2 ≠ 93 := fun x hx => by
  obtain ⟨i, hi, rfl⟩ := List.mem_map.mp hx
  have hi : i < n.length := by simpa using hi
  have : n.getD i 0 ∈ n := by
    rw [List.getD_eq_getElem?_getD, List.getElem?_eq_getElem hi]
    exact List.getElem_mem hi
  exact h _ this
theorem brk_law {n ps : List Nat} (h : noB n) : brk (lawSh n ps) ≠ none := by
  unfold lawSh
  have := brk_ls ps (enumT n) (enum_noB h)
  cases e : (lsF ps (enumT n)).2 with
  | false =>
    rw [e] at this
    simp [this]
  | true =>
    rw [e] at this
    show brk (_ ++ [93]) ≠ none
    rw [brk_snoc, this]
    simp [stB]
/-! ### both show the same -/
theorem any_nat (ps : List Nat) (i : Nat) : inI ps (i : Int) = decide (i ∈ ps) := by
  unfold inI
  rw [List.any_map]
  induction ps with
  | nil => rfl
  | cons p ps ih =>
    rw [List.any_cons, ih]
    by_cases e : p = i
    · subst e; simp [natI, PyData.eqv, Function.comp]
    · have : ¬ i = p := fun z => e z.symm
      have e2 : ¬ (p : Int) = (i : Int) := by omega
      simp [natI, PyData.eqv, Function.comp, this, e2]
theorem any_neg (ps : List Nat) : inI ps (-1) = false := by
  unfold inI
  rw [List.any_map]
  induction ps with
  | nil => rfl
  | cons p ps ih =>
    rw [List.any_cons, ih]
    have e2 : ¬ (p : Int) = -1 := by omega
    simp [natI, PyData.eqv, Function.comp, e2]
def En (n : List Nat) (m : Nat) : List (Nat × Nat) := (List.range m).map fun i => (i, n.getD i 0)
theorem En_succ (n : List Nat) (m : Nat) : En n (m + 1) = En n m ++ [(m, n.getD m 0)] := by
  unfold En
  rw [List.range_succ, List.map_append]
  rfl
theorem ls_sh (n ps : List Nat) : ∀ m, (lsF ps (En n m)).2 = inI ps ((m : Int) - 1) ∧ shL ps (En n m) = (lsF ps (En n m)).1 ++ (if (inI ps ((m : Int) - 1) && !inI ps (m : Int)) = true then [93] else [])
  | 0 => by
    refine ⟨(any_neg ps).symm, ?_⟩
    show [] = [] ++ (if (inI ps (0 - 1) && !inI ps _) = true then [93] else [])
    rw [show (0 - 1 : Int) = -1 from rfl, any_neg]
    rfl
  | m + 1 => by
    obtain ⟨h1, h2⟩ := ls_sh n ps m
    rw [En_succ, lsF_snoc, sh_snoc, h2]
    have e1 : (((m + 1 : Nat) : Int) - 1) = (m : Int) := by omega
    have e2 : (((m + 1 : Nat) : Int)) = (m : Int) + 1 := by omega
    rw [e1, e2]
    unfold lsStep ahd bhd
    simp only
    rw [h1]
    cases inI ps (m : Int) <;> cases inI ps ((m : Int) - 1) <;> cases inI ps ((m : Int) + 1) <;> simp [bk2]
theorem lawSh_eq {n ps : List Nat} (h : ∀ i ∈ ps, i < n.length) : lawSh n ps = shownL n ps := by
  obtain ⟨h1, h2⟩ := ls_sh n ps n.length
  unfold lawSh shownL
  show (lsF ps (En n n.length)).1 ++ (List.replicate (if (lsF ps (En n n.length)).2 then (1 : Int) else 0).toNat [93]).flatten = shL ps (En n n.length)
  rw [h2, h1]
  have : inI ps (n.length : Int) = false := by
    rw [any_nat]
    exact decide_eq_false fun z => Nat.lt_irrefl _ (h _ z)
  rw [this]
  cases inI ps ((n.length : Int) - 1) <;> rfl
/-! ### read back -/
theorem rd_ls {n ps : List Nat} (hn : noB n) : ∀ m, m ≤ n.length → rdF (lsF ps (En n m)).1 = ((n.take m, (List.range m).filter fun i => decide (i ∈ ps)), (lsF ps (En n m)).2)
  | 0, _ => rfl
  | m + 1, h => by
    have ih := rd_ls (ps := ps) hn m (by omega)
    have hm : n.getD m 0 ∈ n := by
      rw [List.getD_eq_getElem?_getD, List.getElem?_eq_getElem (by omega)]
      exact List.getElem_mem _
    obtain ⟨c1, c2⟩ := hn _ hm
    have cn : ¬ n.getD m 0 ∈ ([91, 93] : List Nat) := by simp only [List.mem_cons, List.not_mem_nil, or_false]; omega
    have tk : n.take (m + 1) = n.take m ++ [n.getD m 0] := take_snoc (by omega)
    have tl : (n.take m).length = m := by rw [List.length_take]; omega
    rw [En_succ, lsF_snoc, tk, List.range_succ, List.filter_append]
    unfold lsStep
    simp only
    rw [any_nat]
    by_cases hp : decide (m ∈ ps) = (lsF ps (En n m)).2
    · rw [if_neg (by simpa using hp)]
      simp only
      rw [rdF_snoc, ih]
      unfold rdStep
      rw [if_neg cn]
      simp only [tl]
      rw [← hp]
      by_cases hq : m ∈ ps <;> simp [hq]
    · rw [if_pos (by simpa using hp)]
      simp only
      rw [rdF_snoc, rdF_snoc, ih]
      have cb : bk2 (lsF ps (En n m)).2 ∈ ([91, 93] : List Nat) := by cases (lsF ps (En n m)).2 <;> simp [bk2]
      have e3 : rdStep ((n.take m, (List.range m).filter fun i => decide (i ∈ ps)), (lsF ps (En n m)).2) (bk2 (lsF ps (En n m)).2) = ((n.take m, (List.range m).filter fun i => decide (i ∈ ps)), !(lsF ps (En n m)).2) := by
        unfold rdStep
        rw [if_pos cb]
        cases (lsF ps (En n m)).2 <;> rfl
      rw [e3]
      unfold rdStep
      rw [if_neg cn]
      simp only [tl]
      have : decide (m ∈ ps) = !(lsF ps (En n m)).2 := by
        cases h1 : decide (m ∈ ps) <;> cases h2 : (lsF ps (En n m)).2 <;> simp_all
      rw [← this]
      cases hh : decide (m ∈ ps) <;> simp_all
theorem read_law {n ps : List Nat} (hn : noB n) (h : (List.range n.length).filter (fun i => decide (i ∈ ps)) = ps) : (rdF (lawSh n ps)).1 = (n, ps) := by
  have := rd_ls (ps := ps) hn n.length (Nat.le_refl _)
  rw [List.take_length, h] at this
  unfold lawSh
  show (rdF ((lsF ps (En n n.length)).1 ++ (List.replicate (if (lsF ps (En n n.length)).2 then (1 : Int) else 0).toNat [93]).flatten)).1 = (n, ps)
  cases e : (lsF ps (En n n.length)).2 with
  | false =>
    show (rdF ((lsF ps (En n n.length)).1 ++ [])).1 = (n, ps)
    rw [List.append_nil, this]
  | true =>
    show (rdF ((lsF ps (En n n.length)).1 ++ [93])).1 = (n, ps)
    rw [rdF_snoc, this]
    rfl
theorem isNm_noB {n : List Nat} (h : isNm n = true) : noB n := fun c hc => by
  have := isNm_alpha h c hc
  exact ⟨fun z => by rw [z] at this; revert this; decide, fun z => by rw [z] at this; revert this; decide⟩
theorem readL_law {n ps : List Nat} (hn : isNm n = true) (h : (List.range n.length).filter (fun i => decide (i ∈ ps)) = ps) : readL (lawSh n ps) = some (n, ps) := by
  have e := read_law (isNm_noB hn) h
  unfold readL
  rw [e, if_pos]
  refine ⟨hn, (lawSh_eq fun i hi => ?_).symm⟩
  rw [← h] at hi
  have := (List.mem_filter.mp hi).1
  simpa using this
/-! ### what the law reads -/
def tlD (t : List Nat) : PyData := match readL t with | some q => .tuple [tx q.1, .list (q.2.map natI)] | none => .none
def R_law_tells (ds : List PyData) (r : Res) : Prop := ∃ t, ds = [tx t] ∧ t.length ≤ 5000 ∧ (∀ c ∈ t, c < 128) ∧ r = .ok (tlD t)
theorem rd_name (pre : List Nat) : (rdF pre).1.1 = pre.filter fun c => !decide (c ∈ ([91, 93] : List Nat)) := by
  induction pre using snocRec with
  | h0 => rfl
  | hs q c ih =>
    rw [rdF_snoc, List.filter_append, ← ih]
    unfold rdStep
    by_cases h : c ∈ ([91, 93] : List Nat)
    · rw [if_pos h]
      have : (!decide (c ∈ ([91, 93] : List Nat))) = false := by simp only [h]; rfl
      rw [List.filter_cons_of_neg (by rw [this]; decide), List.filter_nil, List.append_nil]
    · rw [if_neg h]
      have : (!decide (c ∈ ([91, 93] : List Nat))) = true := by simp only [h]; rfl
      rw [List.filter_cons_of_pos (p := fun c => !decide (c ∈ ([91, 93] : List Nat))) this, List.filter_nil]
theorem rd_noB (t : List Nat) : noB (rdF t).1.1 := fun c hc => by
  rw [rd_name] at hc
  have := (List.mem_filter.mp hc).2
  simp at this
  exact this
theorem rd_lt (t : List Nat) : ∀ i ∈ (rdF t).1.2, i < (rdF t).1.1.length := by
  induction t using snocRec with
  | h0 => intro i h; cases h
  | hs q c ih =>
    rw [rdF_snoc]
    unfold rdStep
    split
    · exact ih
    · intro i hi
      simp only at hi ⊢
      rw [List.length_append, List.length_singleton]
      split at hi
      · rcases List.mem_append.mp hi with h | h
        · have := ih i h; omega
        · rw [List.mem_singleton.mp h]; omega
      · have := ih i hi; omega
theorem tl_no {t : List Nat} (h : brk t = none) : tlD t = .none := by
  have : readL t = none := if_neg fun ⟨h1, h2⟩ => by
    rw [← lawSh_eq (rd_lt t)] at h2
    exact brk_law (rd_noB t) (by rw [h2]; exact h)
  unfold tlD
  rw [this]
theorem tl_yes {t : List Nat} (h : isNm (rdF t).1.1 = true) (g : lawSh (rdF t).1.1 (rdF t).1.2 = t) : tlD t = .tuple [tx (rdF t).1.1, .list ((rdF t).1.2.map natI)] := by
  have : readL t = some (rdF t).1 := if_pos ⟨h, by rw [← lawSh_eq (rd_lt t)]; exact g⟩
  unfold tlD
  rw [this]
theorem tl_no1 {t : List Nat} (h : isNm (rdF t).1.1 = false) : tlD t = .none := by
  have : readL t = none := if_neg fun z => by rw [h] at z; cases z.1
  unfold tlD
  rw [this]
theorem tl_no2 {t : List Nat} (g : ¬ lawSh (rdF t).1.1 (rdF t).1.2 = t) : tlD t = .none := by
  have : readL t = none := if_neg fun z => g (by rw [lawSh_eq (rd_lt t)]; exact z.2)
  unfold tlD
  rw [this]
def dpI (b : Bool) : Int := if b then 1 else 0
def oddL (n : List Nat) : List Nat := n.filter fun c => decide (kindL c = kNone) && !decide (c ∈ lOth)
theorem odd_nm (n : List Nat) : isNm n = (decide (0 < (n.length : Int)) && decide ((n.length : Int) < 31) && decide (oddL n = [])) := by
  have tab : ∀ c, (decide (kindL c = kNone) && !decide (c ∈ lOth)) = !decide (c ∈ alpha) := fun c => by
    unfold kindL alpha
    by_cases h1 : c ∈ lSmall
    · simp [h1, kSmall, kNone]
    · by_cases h2 : c ∈ lFig
      · simp [h1, h2, kFig, kNone]
      · by_cases h3 : c ∈ lGreat
        · simp [h1, h2, h3, kGreat, kNone]
        · simp [h1, h2, h3]
  unfold isNm oddL
  have e1 : decide ((1 : Nat) ≤ n.length) = decide (0 < (n.length : Int)) := by simp only [decide_eq_decide]; omega
  have e2 : decide (n.length ≤ 30) = decide ((n.length : Int) < 31) := by simp only [decide_eq_decide]; omega
  rw [e1, e2]
  congr 1
  have : (n.all fun c => decide (c ∈ lSmall ++ lGreat ++ lFig ++ lOth)) = decide (n.filter (fun c => decide (kindL c = kNone) && !decide (c ∈ lOth)) = []) := by
    rw [Bool.eq_iff_iff, decide_eq_true_iff, List.filter_eq_nil_iff, List.all_eq_true]
    refine forall_congr' fun c => forall_congr' fun _ => ?_
    rw [tab]
    show decide (c ∈ alpha) = true ↔ ¬ (!decide (c ∈ alpha)) = true
    cases decide (c ∈ alpha) <;> simp
  exact this
theorem ev_nil {α : Type} (f : α → PyData) (l : List α) : PyData.eqv (.list (l.map f)) (.list []) = decide (l = []) := by cases l <;> rfl
theorem odd_yes {n : List Nat} (h : (!(decide (0 < (n.length : Int)) && decide ((n.length : Int) < 31)) || !PyData.eqv (.list ((oddL n).map fun x => tx [x])) (.list [])) = false) : isNm n = true := by
  rw [ev_nil] at h
  rw [odd_nm]
  revert h
  generalize (decide (0 < (n.length : Int)) && decide ((n.length : Int) < 31)) = a
  cases a <;> cases decide (oddL n = []) <;> simp
theorem odd_no {n : List Nat} (h : (!(decide (0 < (n.length : Int)) && decide ((n.length : Int) < 31)) || !PyData.eqv (.list ((oddL n).map fun x => tx [x])) (.list [])) = true) : isNm n = false := by
  rw [ev_nil] at h
  rw [odd_nm]
  revert h
  generalize (decide (0 < (n.length : Int)) && decide ((n.length : Int) < 31)) = a
  cases a <;> cases decide (oddL n = []) <;> simp
theorem lay_signs {l : List Nat} (h : ∀ c ∈ l, c < 128) : Lay 1 (.list (l.map fun x => tx [x])) := lay_list (n := 0) fun d hd => by
  obtain ⟨c, hc, rfl⟩ := List.mem_map.mp hd
  exact lay_tx fun x hx => by rw [List.mem_singleton.mp hx]; have := h c hc; omega
theorem rd_low {t : List Nat} (h : ∀ c ∈ t, c < 128) : ∀ c ∈ (rdF t).1.1, c < 128 := fun c hc => by
  rw [rd_name] at hc
  exact h c (List.mem_filter.mp hc).1
theorem odd_low {t : List Nat} (h : ∀ c ∈ t, c < 128) : ∀ c ∈ oddL (rdF t).1.1, c < 128 := fun c hc => rd_low h c (List.mem_filter.mp hc).1
def R_true0 (ds : List PyData) (r : Res) : Prop := ds = [] ∧ r = .ok (.bool true)
theorem at_two {a b h : Int} : atI [PyData.int a, .int b] (h % 2) = some (.int (if h % 2 = 0 then a else b)) := by
  have h1 : h % 2 = 0 ∨ h % 2 = 1 := by omega
  rcases h1 with e | e <;> rw [e] <;> rfl
theorem filt_self {m : Nat} {q : Nat → Bool} {ps : List Nat} (h : (List.range m).filter q = ps) : (List.range m).filter (fun i => decide (i ∈ ps)) = ps := by
  rw [← h]
  refine List.filter_congr fun i hi => ?_
  have : i ∈ (List.range m).filter q ↔ q i = true := by
    rw [List.mem_filter]
    exact ⟨fun z => z.2, fun z => ⟨hi, z⟩⟩
  cases e : q i with
  | true => exact decide_eq_true (this.mpr e)
  | false => exact decide_eq_false fun z => by rw [this.mp z] at e; cases e
theorem filt_lt {m : Nat} {q : Nat → Bool} {ps : List Nat} (h : (List.range m).filter q = ps) : ∀ i ∈ ps, i < m := fun i hi => by
  rw [← h] at hi
  simpa using (List.mem_filter.mp hi).1
theorem filt_rise {m : Nat} {q : Nat → Bool} {ps : List Nat} (h : (List.range m).filter q = ps) : ps.Pairwise (· < ·) := by
  rw [← h]
  exact List.Pairwise.filter _ List.pairwise_lt_range
theorem rise_ok : ∀ {ps : List Nat}, ps.Pairwise (· < ·) → riseI (ps.map fun (i : Nat) => (i : Int)) = true
  | [], _ => rfl
  | [a], _ => rfl
  | a :: b :: l, h => by
    have h' := List.pairwise_cons.mp h
    have ih := rise_ok h'.2
    unfold riseI at ih ⊢
    simp only [List.map_cons, List.dropLast_cons₂, List.tail_cons, List.zip_cons_cons, List.all_cons, Bool.and_eq_true, decide_eq_true_eq]
    refine ⟨by have := h'.1 b List.mem_cons_self; omega, ?_⟩
    simpa using ih
theorem nats_self (ps : List Nat) : natsOf (.list (ps.map natI)) = ps := by
  unfold natsOf
  show (ps.map natI).map (fun e => (intOf e).toNat) = ps
  rw [List.map_map]
  exact List.map_id'' (fun i => by simp [natI, intOf]) ps
theorem ints_self (ps : List Nat) : (ps.map natI).map intOf = ps.map fun (i : Nat) => (i : Int) := by
  rw [List.map_map]
  rfl
theorem spots_ok {m : Nat} {ps : List Nat} (h : ∀ i ∈ ps, i < m) (g : ps.Pairwise (· < ·)) : spots m (.list (ps.map natI)) = true := by
  unfold spots
  rw [show lsOf (PyData.list (ps.map natI)) = ps.map natI from rfl, ints_self, rise_ok g]
  have : ((ps.map natI).all fun e => isCnt e 0 ((m : Int) - 1)) = true := by
    rw [List.all_eq_true]
    intro d hd
    obtain ⟨i, hi, rfl⟩ := List.mem_map.mp hd
    have := h i hi
    simp [natI, isCnt]
    omega
  rw [this]
  rfl
theorem R_spots_ok {C0 C3 : Addr} {f : List Nat → List Nat → PyData} {n ps : List Nat} (hn : isNm n = true) (h : ∀ i ∈ ps, i < n.length) (g : ps.Pairwise (· < ·)) (hz : ps.length ≤ 10000) : R_spots C0 C3 f [tx n, .list (ps.map natI)] (.ok (f n ps)) :=
  ⟨_, _, rfl, okd_tx (by have := isNm_len hn; omega), by show (ps.map natI).length ≤ 10000; rw [List.length_map]; exact hz, by rw [isName_tx, if_pos hn, cod_tx, if_pos (spots_ok h g), nats_self]⟩
theorem R_spots_er {C0 C3 : Addr} {f : List Nat → List Nat → PyData} {n : List Nat} {d : PyData} (hn : isNm n = true) (h : spots n.length d = false) (hz : (lsOf d).length ≤ 10000) : R_spots C0 C3 f [tx n, d] (.error C3) :=
  ⟨_, _, rfl, okd_tx (by have := isNm_len hn; omega), hz, by rw [isName_tx, if_pos hn, cod_tx, h]; rfl⟩
theorem R_spots_er0 {C0 C3 : Addr} {f : List Nat → List Nat → PyData} {n : List Nat} {d : PyData} (hl : n.length ≤ 10000) (hn : isNm n = false) (hz : (lsOf d).length ≤ 10000) : R_spots C0 C3 f [tx n, d] (.error C0) :=
  ⟨_, _, rfl, okd_tx hl, hz, by rw [isName_tx, hn]; rfl⟩
theorem pair_lay {n ps : List Nat} (h : ∀ c ∈ n, c < 128) : Lay 2 (.tuple [tx n, .list (ps.map natI)]) := lay_tuple (n := 1) fun d hd => by
  rcases List.mem_cons.mp hd with rfl | hd
  · exact lay_tx fun c hc => by have := h c hc; omega
  · rw [List.mem_singleton.mp hd]; exact lay_nats
theorem isNm_low {n : List Nat} (h : isNm n = true) : ∀ c ∈ n, c < 128 := fun c hc => (alpha_low c (isNm_alpha h c hc)).1
def rsR (C7 : Addr) (t : List Nat) : Res := match readL t with | some q => .ok (.tuple [tx q.1, .list (q.2.map natI)]) | none => .error C7
theorem R_read_of {C7 : Addr} {t : List Nat} (hz : t.length ≤ 10000) : R_read_shown C7 [tx t] (rsR C7 t) := ⟨_, rfl, okd_tx hz, by rw [if_pos (isTx_tx t), cod_tx]; rfl⟩
theorem R_read_ok {C7 : Addr} {t n ps : List Nat} (hz : t.length ≤ 10000) (h : readL t = some (n, ps)) : R_read_shown C7 [tx t] (.ok (.tuple [tx n, .list (ps.map natI)])) := ⟨_, rfl, okd_tx hz, by rw [if_pos (isTx_tx t), cod_tx, h]⟩
theorem R_read_er {C7 : Addr} {t : List Nat} (hz : t.length ≤ 10000) (h : readL t = none) : R_read_shown C7 [tx t] (.error C7) := ⟨_, rfl, okd_tx hz, by rw [if_pos (isTx_tx t), cod_tx, h]⟩
theorem R_read_er0 {C7 : Addr} {d : PyData} (h : isTx d = false) (hz : cod d = []) : R_read_shown C7 [d] (.error C7) := ⟨_, rfl, by unfold okd; rw [hz]; decide, by rw [h]; rfl⟩
def sdD (t : List Nat) : PyData := match readL t with | some q => .tuple [tx q.1, .list (q.2.map natI)] | none => tx [66, 97, 100, 84, 101, 120, 116]
theorem sd_none {t : List Nat} (h : isN (tlD t) = true) : tx [66, 97, 100, 84, 101, 120, 116] = sdD t := by
  unfold tlD at h
  unfold sdD
  cases e : readL t with
  | none => rfl
  | some q => rw [e] at h; cases h
theorem sd_some {t : List Nat} (h : isN (tlD t) = false) : tlD t = sdD t := by
  unfold tlD at h ⊢
  unfold sdD
  cases e : readL t with
  | none => rw [e] at h; cases h
  | some q => rfl
theorem sd_lay {t : List Nat} (h : ∀ c ∈ t, c < 128) : Lay 2 (sdD t) := by
  unfold sdD
  cases e : readL t with
  | none => exact lay_tx (by decide)
  | some q =>
    unfold readL at e
    split at e
    · cases e; exact pair_lay (rd_low h)
    · cases e
/-! ### runs, by what stands in the list -/
theorem runs_inv (pre : List Nat) : (runsL pre).getLast?.map (fun q => q.1 + q.2) = pre.getLast?.map (· + 1) := by
  induction pre using snocRec with
  | h0 => rfl
  | hs q c ih =>
    rw [runsL_snoc, List.getLast?_concat]
    unfold ruStep
    cases e : (runsL q).getLast? with
    | none => simp only [List.getLast?_concat]; rfl
    | some r =>
      simp only
      split
      · rename_i h; rw [List.getLast?_concat]; simp; omega
      · rw [List.getLast?_concat]; rfl
theorem due_in {ps pre post : List Nat} {i : Nat} (h : ps = pre ++ i :: post) (g : ps.Pairwise (· < ·)) : inI ps ((i : Int) - 1) = true → ∃ q, (runsL pre).getLast? = some q ∧ q.1 + q.2 = i := fun hi => by
  have g2 := g
  rw [h, List.pairwise_append] at g2
  obtain ⟨g3, g4, g5⟩ := g2
  have g4 := List.pairwise_cons.mp g4
  by_cases h0 : i = 0
  · subst h0; rw [show ((0 : Nat) : Int) - 1 = -1 from rfl, any_neg] at hi; cases hi
  · obtain ⟨j, rfl⟩ : ∃ j, i = j + 1 := ⟨i - 1, by omega⟩
    rw [show (((j + 1 : Nat) : Int) - 1) = (j : Int) by omega, any_nat] at hi
    have hj : j ∈ pre := by
      have := of_decide_eq_true hi
      rw [h] at this
      rcases List.mem_append.mp this with z | z
      · exact z
      · rcases List.mem_cons.mp z with z | z
        · omega
        · have := g4.1 j z; omega
    have hne : pre ≠ [] := fun z => by rw [z] at hj; cases hj
    obtain ⟨l, x, rfl⟩ : ∃ l x, pre = l ++ [x] := ⟨pre.dropLast, pre.getLast hne, (List.dropLast_concat_getLast hne).symm⟩
    have hx : x < j + 1 := g5 x (by simp) (j + 1) (by simp)
    have hjx : j = x := by
      rcases List.mem_append.mp hj with z | z
      · have := (List.pairwise_append.mp g3).2.2 j z x (by simp)
        omega
      · exact List.mem_singleton.mp z
    have := runs_inv (l ++ [x])
    rw [List.getLast?_concat] at this
    cases e : (runsL (l ++ [x])).getLast? with
    | none => rw [e] at this; cases this
    | some q =>
      rw [e] at this
      refine ⟨q, rfl, ?_⟩
      have : q.1 + q.2 = x + 1 := Option.some.inj this
      omega
theorem due_out {ps pre post : List Nat} {i : Nat} (h : ps = pre ++ i :: post) : inI ps ((i : Int) - 1) = false → ruStep (runsL pre) i = runsL pre ++ [(i, 1)] := fun hi => by
  unfold ruStep
  cases e : (runsL pre).getLast? with
  | none => rfl
  | some q =>
    simp only
    rw [if_neg]
    intro z
    have := runs_inv pre
    rw [e] at this
    cases e2 : pre.getLast? with
    | none => rw [e2] at this; cases this
    | some x =>
      rw [e2] at this
      have : q.1 + q.2 = x + 1 := Option.some.inj this
      have hx : x ∈ ps := by rw [h]; exact List.mem_append_left _ (List.mem_of_getLast? e2)
      have e3 : ((i : Int) - 1) = (x : Int) := by omega
      rw [e3, any_nat, decide_eq_true hx] at hi
      cases hi
/-! ### texts cut and put together -/
def l6 : List (List Nat) := [[91], [93], [], [91, 93], [43], [93, 91]]
theorem at_l6 (x : Int) : atI [tx [91], tx [93], tx [], tx [91, 93], tx [43], tx [93, 91]] (x % 6) = some (tx (l6.getD (x % 6).toNat [])) := by
  have h1 : x % 6 = 0 ∨ x % 6 = 1 ∨ x % 6 = 2 ∨ x % 6 = 3 ∨ x % 6 = 4 ∨ x % 6 = 5 := by omega
  rcases h1 with e | e | e | e | e | e <;> rw [e] <;> rfl
theorem cut_mem {α : Type} {l : List α} {lo hi : Option Int} {x : α} (h : x ∈ cutL l lo hi) : x ∈ l := by
  unfold cutL at h
  exact List.mem_of_mem_drop (List.mem_of_mem_take h)
theorem cut_len {α : Type} (l : List α) (lo hi : Option Int) : (cutL l lo hi).length ≤ l.length := by
  unfold cutL
  rw [List.length_take, List.length_drop]
  omega
theorem l6_len (i : Nat) : (l6.getD i []).length ≤ 2 := by
  rcases i with _ | _ | _ | _ | _ | _ | i <;> simp [l6]
theorem l6_low (i : Nat) : ∀ c ∈ l6.getD i [], c < 128 := by
  rcases i with _ | _ | _ | _ | _ | _ | i <;> simp [l6]
theorem law_low {n ps : List Nat} (h : ∀ c ∈ n, c < 128) : ∀ c ∈ lawSh n ps, c < 128 := by
  have k : ∀ xs : List (Nat × Nat), (∀ x ∈ xs, x.2 < 128) → ∀ c ∈ (lsF ps xs).1, c < 128 := fun xs => by
    induction xs using snocRec with
    | h0 => intro _ c hc; cases hc
    | hs q x ih =>
      intro hq c hc
      have ih := ih fun y hy => hq y (List.mem_append_left _ hy)
      have hx := hq x (List.mem_append_right _ List.mem_cons_self)
      rw [lsF_snoc] at hc
      unfold lsStep at hc
      split at hc
      · rcases List.mem_append.mp hc with z | z
        · rcases List.mem_append.mp z with z | z
          · exact ih c z
          · rw [List.mem_singleton.mp z]; unfold bk2; split <;> decide
        · rw [List.mem_singleton.mp z]; exact hx
      · rcases List.mem_append.mp hc with z | z
        · exact ih c z
        · rw [List.mem_singleton.mp z]; exact hx
  intro c hc
  unfold lawSh at hc
  rcases List.mem_append.mp hc with z | z
  · refine k (enumT n) (fun x hx => ?_) c z
    obtain ⟨i, hi, rfl⟩ := List.mem_map.mp hx
    have hi : i < n.length := by simpa using hi
    refine h _ ?_
    show n.getD i 0 ∈ n
    rw [List.getD_eq_getElem?_getD, List.getElem?_eq_getElem hi]
    exact List.getElem_mem hi
  · revert z
    cases (lsF ps (enumT n)).2
    · intro z; cases z
    · intro z
      have : c ∈ [93] := z
      rw [List.mem_singleton.mp this]; decide
theorem law_len (n ps : List Nat) : (lawSh n ps).length ≤ 2 * n.length + 1 := by
  unfold lawSh
  have h1 := lsF_len ps (enumT n)
  have h2 : (enumT n).length = n.length := by simp [enumT]
  rw [List.length_append]
  have : (List.replicate (if (lsF ps (enumT n)).2 then (1 : Int) else 0).toNat ([93] : List Nat)).flatten.length ≤ 1 := by cases (lsF ps (enumT n)).2 <;> simp
  omega
end Lf
set_option Elab.async false
set_option linter.all false
set_option maxRecDepth 100000
set_option maxHeartbeats 4000000
namespace Lf
open PySem PySem.Spec PyProof.Rows L2 LamX
/-! ### dicts as functions -/
section
variable {α : Type} {kvs : List (Key × α)} {k j : Key} {d : α}
theorem getK_nil : getK ([] : List (Key × α)) k = none := rfl
theorem getK_cons {q : Key × α} : getK (q :: kvs) k = if q.1 = k then some q.2 else getK kvs k := by
  by_cases e : q.1 = k
  · simp [getK, List.find?_cons, e]
  · simp [getK, List.find?_cons, e]
theorem getK_app (l m : List (Key × α)) : getK (l ++ m) k = (getK l k).or (getK m k) := by
  induction l with
  | nil => rfl
  | cons q l ih =>
    rw [List.cons_append, getK_cons, getK_cons, ih]
    split <;> rfl
theorem getK_any : (kvs.any fun q => decide (q.1 = k)) = (getK kvs k).isSome := by
  induction kvs with
  | nil => rfl
  | cons q l ih =>
    rw [List.any_cons, getK_cons, ih]
    by_cases e : q.1 = k
    · simp [e]
    · simp [e]
theorem getK_map : getK (kvs.map fun q => if q.1 = k then (q.1, d) else q) j = (getK kvs j).map fun x => if j = k then d else x := by
  induction kvs with
  | nil => rfl
  | cons q l ih =>
    rw [List.map_cons, getK_cons, getK_cons, ih]
    by_cases e : q.1 = k
    · rw [if_pos e]
      by_cases e2 : q.1 = j
      · rw [if_pos e2, if_pos e2, Option.map_some, if_pos (e2.symm.trans e)]
      · rw [if_neg e2, if_neg e2]
    · rw [if_neg e]
      by_cases e2 : q.1 = j
      · rw [if_pos e2, if_pos e2, Option.map_some, if_neg (fun z => e (e2.trans z))]
      · rw [if_neg e2, if_neg e2]
theorem getK_put : getK (putD kvs k d) j = if j = k then some d else getK kvs j := by
  unfold putD
  rw [getK_any]
  by_cases h : (getK kvs k).isSome = true
  · rw [if_pos h, getK_map]
    by_cases e : j = k
    · subst e
      rw [if_pos rfl]
      obtain ⟨x, hx⟩ := Option.isSome_iff_exists.mp h
      rw [hx]
      simp
    · rw [if_neg e]
      cases getK kvs j <;> simp [e]
  · rw [if_neg h, getK_app, getK_cons, getK_nil]
    have h : getK kvs k = none := by simpa using h
    by_cases e : j = k
    · subst e
      rw [h]
      simp
    · rw [if_neg (fun z => e z.symm), if_neg e]
      cases getK kvs j <;> rfl
theorem put_keys : (putD kvs k d).map (·.1) = if (getK kvs k).isSome = true then kvs.map (·.1) else kvs.map (·.1) ++ [k] := by
  unfold putD
  rw [getK_any]
  split
  · rw [List.map_map]
    refine List.map_congr_left fun q _ => ?_
    show (if q.1 = k then (q.1, d) else q).1 = q.1
    split <;> rfl
  · rw [List.map_append]
    rfl
theorem getK_mem : getK kvs k ≠ none ↔ k ∈ kvs.map (·.1) := by
  have h := getK_any (kvs := kvs) (k := k)
  constructor
  · intro hn
    have : (kvs.any fun q => decide (q.1 = k)) = true := by
      rw [h]
      exact Option.isSome_iff_ne_none.mpr hn
    obtain ⟨q, hq, e⟩ := List.any_eq_true.mp this
    exact List.mem_map.mpr ⟨q, hq, of_decide_eq_true e⟩
  · intro hm
    obtain ⟨q, hq, e⟩ := List.mem_map.mp hm
    have : (kvs.any fun q => decide (q.1 = k)) = true := List.any_eq_true.mpr ⟨q, hq, decide_eq_true e⟩
    rw [h] at this
    exact Option.isSome_iff_ne_none.mp this
theorem put_nodup (h : (kvs.map (·.1)).Nodup) : ((putD kvs k d).map (·.1)).Nodup := by
  rw [put_keys]
  split
  · exact h
  · rename_i hn
    have : k ∉ kvs.map (·.1) := fun z => hn (Option.isSome_iff_ne_none.mpr (getK_mem.mpr z))
    rw [List.nodup_append]
    refine ⟨h, by simp, fun a ha b hb e => ?_⟩
    rw [List.mem_singleton.mp hb] at e
    exact this (e ▸ ha)
end
/-! ### words over an alphabet, in order -/
def allW (A : List Nat) : Nat → List (List Nat)
  | 0 => [[]]
  | k + 1 => (allW A k).flatMap fun w => A.map fun c => w ++ [c]
theorem allW_mem (A : List Nat) : ∀ (k : Nat) (w : List Nat), w ∈ allW A k ↔ w.length = k ∧ ∀ c ∈ w, c ∈ A
  | 0, w => by
    rw [show allW A 0 = [[]] from rfl, List.mem_singleton]
    constructor
    · rintro rfl; exact ⟨rfl, fun c h => by cases h⟩
    · rintro ⟨h, _⟩; exact List.length_eq_zero_iff.mp h
  | k + 1, w => by
    rw [show allW A (k + 1) = (allW A k).flatMap fun w => A.map fun c => w ++ [c] from rfl, List.mem_flatMap]
    constructor
    · rintro ⟨u, hu, hw⟩
      obtain ⟨c, hc, rfl⟩ := List.mem_map.mp hw
      obtain ⟨h1, h2⟩ := (allW_mem A k u).mp hu
      refine ⟨by rw [List.length_append, h1]; rfl, fun x hx => ?_⟩
      rcases List.mem_append.mp hx with z | z
      · exact h2 x z
      · rw [List.mem_singleton.mp z]; exact hc
    · rintro ⟨h1, h2⟩
      have hne : w ≠ [] := fun z => by rw [z] at h1; cases h1
      refine ⟨w.dropLast, (allW_mem A k _).mpr ⟨by rw [List.length_dropLast, h1]; rfl, fun c hc => h2 c ((List.dropLast_subset _) hc)⟩, List.mem_map.mpr ⟨w.getLast hne, h2 _ (List.getLast_mem hne), List.dropLast_concat_getLast hne⟩⟩
theorem allW_len (A : List Nat) : ∀ k, (allW A k).length = A.length ^ k
  | 0 => rfl
  | k + 1 => by
    rw [show allW A (k + 1) = (allW A k).flatMap fun w => A.map fun c => w ++ [c] from rfl, List.length_flatMap]
    simp only [List.length_map]
    rw [List.map_const', List.sum_replicate_nat, allW_len A k, Nat.pow_succ]
theorem lt_app {u v : List Nat} (x y : List Nat) (h : u < v) (e : u.length = v.length) : u ++ x < v ++ y := by
  induction u generalizing v with
  | nil =>
    cases v with
    | nil => exact absurd h (by simp)
    | cons b v => simp at e
  | cons a u ih =>
    cases v with
    | nil => simp at e
    | cons b v =>
      rw [List.cons_append, List.cons_append, List.cons_lt_cons_iff]
      rw [List.cons_lt_cons_iff] at h
      rcases h with h | ⟨h1, h2⟩
      · exact .inl h
      · exact .inr ⟨h1, ih h2 (by simpa using e)⟩
theorem app_lt {u x y : List Nat} (h : x < y) : u ++ x < u ++ y := by
  induction u with
  | nil => exact h
  | cons a u ih => rw [List.cons_append, List.cons_append, List.cons_lt_cons_iff]; exact .inr ⟨rfl, ih⟩
theorem allW_sorted {A : List Nat} (h : A.Pairwise (· < ·)) : ∀ k, (allW A k).Pairwise (· < ·)
  | 0 => List.pairwise_singleton _ _
  | k + 1 => by
    rw [show allW A (k + 1) = (allW A k).flatMap fun w => A.map fun c => w ++ [c] from rfl, List.pairwise_flatMap]
    refine ⟨fun w hw => ?_, ?_⟩
    · rw [List.pairwise_map]
      exact h.imp fun {a b} hab => app_lt (by rw [List.cons_lt_cons_iff]; exact .inl hab)
    · have ih := allW_sorted h k
      have hl : ∀ u ∈ allW A k, u.length = k := fun u hu => ((allW_mem A k u).mp hu).1
      refine List.Pairwise.imp_of_mem (fun {u v} hu hv huv x hx y hy => ?_) ih
      obtain ⟨c, _, rfl⟩ := List.mem_map.mp hx
      obtain ⟨c', _, rfl⟩ := List.mem_map.mp hy
      exact lt_app _ _ huv ((hl u hu).trans (hl v hv).symm)
/-- figures and small letters, in order -/
def lFS : List Nat := lFig ++ lSmall
def fitB (n a : List Nat) : Bool := (gr a n 0).isSome
def asksOf (n : List Nat) (k : Nat) : List (List Nat) := (allW lFS k).filter (fitB n)
def R_asks_for (ds : List PyData) (r : Res) : Prop := ∃ n k, ds = [tx n, natI k] ∧ k ≤ 3 ∧ isNm n = true ∧ r = .ok (.list ((asksOf n k).map tx))
theorem asks_mem (n : List Nat) (k : Nat) (w : List Nat) : w ∈ asksOf n k ↔ w.length = k ∧ (∀ c ∈ w, c ∈ lFS) ∧ gr w n 0 ≠ none := by
  unfold asksOf
  rw [List.mem_filter, allW_mem]
  unfold fitB
  rw [Option.isSome_iff_ne_none, and_assoc]
theorem asks_sorted (n : List Nat) (k : Nat) : (asksOf n k).Pairwise (· < ·) := List.Pairwise.filter _ (allW_sorted (by decide) k)
theorem asks_len (n : List Nat) {k : Nat} (h : k ≤ 3) : (asksOf n k).length ≤ 46656 := by
  refine Nat.le_trans (List.length_filter_le _ _) ?_
  rw [allW_len]
  have h1 : k = 0 ∨ k = 1 ∨ k = 2 ∨ k = 3 := by omega
  rcases h1 with rfl | rfl | rfl | rfl <;> decide
/-! ### sorted texts -/
theorem le_tx (p q : List Nat) : PySem.W.dataLe false (fun d => d) (tx p) (tx q) = decide (p ≤ q) := by
  have h := congrFun (congrFun (PySem.W.dataLe_str (β := List Nat) fun l => ⟨l.toArray⟩) p) q
  exact h.trans (by simp)
theorem sort_txs {l m : List (List Nat)} (h : l.Nodup) (s : m.Pairwise (· < ·)) (e : ∀ w, w ∈ l ↔ w ∈ m) : sortD (l.map tx) = m.map tx := by
  have hm : m.Nodup := s.imp fun {a b} hab z => by rw [z] at hab; exact List.lt_irrefl _ hab
  have hp : l.Perm m := (List.perm_ext_iff_of_nodup h hm).mpr e
  have e1 : sortD (l.map tx) = (l.mergeSort fun p q => decide (p ≤ q)).map tx := by
    unfold sortD
    rw [List.map_mergeSort]
    intro a _ b _
    exact (le_tx a b).symm
  rw [e1]
  congr 1
  have tr : ∀ a b c : List Nat, decide (a ≤ b) = true → decide (b ≤ c) = true → decide (a ≤ c) = true := fun a b c h1 h2 => decide_eq_true (List.le_trans (of_decide_eq_true h1) (of_decide_eq_true h2))
  have to : ∀ a b : List Nat, (decide (a ≤ b) || decide (b ≤ a)) = true := fun a b => by
    rcases List.le_total a b with z | z
    · rw [decide_eq_true z]; rfl
    · rw [decide_eq_true z, Bool.or_true]
  have s1 : (l.mergeSort fun p q => decide (p ≤ q)).Pairwise fun a b => a ≤ b := (List.pairwise_mergeSort tr to l).imp fun h => of_decide_eq_true h
  have s2 : m.Pairwise fun a b => a ≤ b := s.imp fun h => List.le_of_lt h
  exact List.Perm.eq_of_pairwise (le := fun a b => a ≤ b) (fun a b _ _ h1 h2 => List.le_antisymm h1 h2) s1 s2 ((List.mergeSort_perm _ _).trans hp)
theorem txs_alike {α : Type} (l : List α) (f : α → List Nat) : PySem.W.AllAlike (l.map fun x => tx (f x)) ∧ PySem.W.Sortable (l.map fun x => tx (f x)) :=
  ⟨PySem.W.AllAlike.of (enc := fun x => tx (f x)) fun _ _ => rfl, PySem.W.Sortable.others (enc := fun x => tx (f x)) fun _ => ⟨(fun z => by cases z), fun _ z => by cases z⟩⟩
/-! ### the end of the first places -/
def kx (w : List Nat) : Key := .inr ⟨w.toArray⟩
theorem kx_inj {u w : List Nat} : kx u = kx w ↔ u = w := by
  unfold kx
  rw [Sum.inr.injEq, tx_inj]
theorem keyD_kx (w : List Nat) : keyD (kx w) = tx w := rfl
/-- one behind the last of the first places -/
def gN (w n : List Nat) : Option Nat := (gr w n 0).map nx
def nxS (s : Nat) (r : List Nat) : Nat := match r.getLast? with | none => s | some l => l + 1
theorem nxS0 (r : List Nat) : nxS 0 r = nx r := by
  unfold nxS nx
  cases r with
  | nil => rfl
  | cons a l => simp [List.getLast?_cons, List.getLastD_cons]
theorem pos_end (c : Nat) (n : List Nat) : posL c n n.length = [] := by simp [posL]
theorem gr_snoc (c : Nat) (n : List Nat) : ∀ (m s : Nat) (a : List Nat), n.length - s = m → s ≤ n.length → gr (a ++ [c]) (n.drop s) s = (gr a (n.drop s) s).bind fun r => ((posL c n (nxS s r)).head?).map fun p => r ++ [p]
  | 0, s, a, hm, hs => by
    have e : s = n.length := by omega
    subst e
    rw [List.drop_length]
    cases a with
    | nil => show none = _; rw [show gr [] [] n.length = some [] from rfl]; simp [nxS, pos_end]
    | cons o a => rfl
  | m + 1, s, [], hm, hs => by
    have hlt : s < n.length := by omega
    have ih := gr_snoc c n m (s + 1) [] (by omega) (by omega)
    have e0 : ∀ k, gr [] (n.drop k) k = some [] := fun k => by cases n.drop k <;> rfl
    rw [e0] at ih ⊢
    simp only [Option.bind_some, nxS, List.getLast?_nil, List.nil_append] at ih ⊢
    by_cases hh : hitC c (n.getD s 0) = true
    · rw [gr_hit hlt hh, e0, pos_step hlt, if_pos hh]
      rfl
    · have hh : hitC c (n.getD s 0) = false := by simpa using hh
      rw [gr_miss hlt hh, pos_step hlt, hh]
      exact ih
  | m + 1, s, o :: a, hm, hs => by
    have hlt : s < n.length := by omega
    rw [List.cons_append]
    by_cases hh : hitC o (n.getD s 0) = true
    · rw [gr_hit hlt hh, gr_hit hlt hh, gr_snoc c n m (s + 1) a (by omega) (by omega)]
      cases gr a (n.drop (s + 1)) (s + 1) with
      | none => rfl
      | some r =>
        simp only [Option.bind_some, Option.map_some]
        have : nxS s (s :: r) = nxS (s + 1) r := by
          unfold nxS
          cases r with
          | nil => rfl
          | cons x l => simp [List.getLast?_cons]
        rw [this]
        cases (posL c n (nxS (s + 1) r)).head? <;> rfl
    · have hh : hitC o (n.getD s 0) = false := by simpa using hh
      rw [gr_miss hlt hh, gr_miss hlt hh]
      have := gr_snoc c n m (s + 1) (o :: a) (by omega) (by omega)
      rw [List.cons_append] at this
      rw [this]
      cases e : gr (o :: a) (n.drop (s + 1)) (s + 1) with
      | none => rfl
      | some r =>
        have hl := gr_len _ _ _ _ e
        simp only [Option.bind_some]
        have : nxS s r = nxS (s + 1) r := by
          unfold nxS
          cases r with
          | nil => simp at hl
          | cons x l => simp [List.getLast?_cons]
        rw [this]
theorem gN_snoc (c : Nat) (n a : List Nat) : gN (a ++ [c]) n = (gN a n).bind fun s => ((posL c n s).head?).map (· + 1) := by
  have := gr_snoc c n n.length 0 a (by omega) (by omega)
  rw [List.drop_zero] at this
  unfold gN
  rw [this]
  cases gr a n 0 with
  | none => rfl
  | some r =>
    simp only [Option.bind_some, Option.map_some, nxS0]
    cases (posL c n (nx r)).head? with
    | none => rfl
    | some p => simp [nx_snoc]
theorem gN_nil (n : List Nat) : gN [] n = some 0 := by
  unfold gN
  cases n <;> rfl
theorem gN_le {a n : List Nat} {s : Nat} (h : gN a n = some s) : s ≤ n.length := by
  unfold gN at h
  obtain ⟨r, h1, h2⟩ := Option.map_eq_some_iff.mp h
  have := gr_lt _ _ _ _ h1
  rw [← nxS0] at h2
  unfold nxS at h2
  cases e : r.getLast? with
  | none => rw [e] at h2; simp at h2; omega
  | some l =>
    rw [e] at h2
    have := this l (List.mem_of_getLast? e)
    simp at h2
    omega
/-! ### the dicts of asks -/
def okc (c x : Nat) : Bool := decide (x ∈ alnum) && decide (smallC x = c)
def fpre (n : List Nat) (s c : Nat) (pre : List Nat) : Option Nat := (pre.find? fun i => okc c (n.getD (s + i) 0)).map (s + ·)
def fullP (n a : List Nat) (c : Nat) : Option Nat := (gN a n).bind fun s => fpre n s c (List.range (n.length - s))
theorem okc_hit : ∀ x ∈ alpha, ∀ c ∈ lFS, okc c x = hitC c x := by decide +kernel
theorem small_fs : ∀ x ∈ alnum, smallC x ∈ lFS := by decide +kernel
theorem full_gN {n : List Nat} (hn : ∀ c ∈ n, c ∈ alpha) {a : List Nat} {c : Nat} (hc : c ∈ lFS) : (fullP n a c).map (· + 1) = gN (a ++ [c]) n := by
  rw [gN_snoc]
  unfold fullP
  cases e : gN a n with
  | none => rfl
  | some s =>
    simp only [Option.bind_some]
    have : fpre n s c (List.range (n.length - s)) = (posL c n s).head? := by
      unfold fpre posL
      rw [List.head?_map, List.head?_filter]
      congr 1
      have hle := gN_le e
      have key : ∀ l : List Nat, (∀ i ∈ l, s + i < n.length) → l.find? (fun i => okc c (n.getD (s + i) 0)) = l.find? fun i => hitC c (n.getD (s + i) 0) := fun l => by
        induction l with
        | nil => intro _; rfl
        | cons i l ih =>
          intro h
          have hi := h i List.mem_cons_self
          have hx : n.getD (s + i) 0 ∈ alpha := by
            rw [List.getD_eq_getElem?_getD, List.getElem?_eq_getElem hi]
            exact hn _ (List.getElem_mem hi)
          rw [List.find?_cons, List.find?_cons, okc_hit _ hx _ hc, ih fun j hj => h j (List.mem_cons_of_mem _ hj)]
      exact key _ fun i hi => by have := List.mem_range.mp hi; omega
    rw [this]
structure DF (n : List Nat) (t : Nat) (kvs : List (Key × PyData)) : Prop where
  nd : (kvs.map (·.1)).Nodup
  ky : ∀ k ∈ kvs.map (·.1), ∃ w ∈ allW lFS t, k = kx w
  va : ∀ w ∈ allW lFS t, getK kvs (kx w) = (gN w n).map fun s => .int ((s : Int) - 1)
structure DI (n : List Nat) (t : Nat) (G : List Nat → Nat → Option Nat) (kvs : List (Key × PyData)) : Prop where
  nd : (kvs.map (·.1)).Nodup
  ky : ∀ k ∈ kvs.map (·.1), ∃ w ∈ allW lFS (t + 1), k = kx w
  va : ∀ a ∈ allW lFS t, ∀ c ∈ lFS, getK kvs (kx (a ++ [c])) = (G a c).map natI
def gDone (n : List Nat) (done : List (List Nat)) (a : List Nat) (c : Nat) : Option Nat := if a ∈ done then fullP n a c else none
def gAt (n : List Nat) (done : List (List Nat)) (a0 : List Nat) (s : Nat) (pre : List Nat) (a : List Nat) (c : Nat) : Option Nat := if a = a0 then fpre n s c pre else gDone n done a c
theorem DF.start (n : List Nat) : DF n 0 [(kx [], .int (-1))] where
  nd := by simp
  ky := fun k hk => by
    have : k = kx [] := by simpa using hk
    exact ⟨[], by simp [allW], this⟩
  va := fun w hw => by
    have : w = [] := by simpa [allW] using hw
    subst this
    rw [gN_nil, getK_cons, if_pos rfl]
    rfl
theorem DI.start (n : List Nat) (t : Nat) : DI n t (gDone n []) [] where
  nd := by simp
  ky := fun k hk => by cases hk
  va := fun a _ c _ => by simp [gDone, getK_nil]
theorem DI.same {n : List Nat} {t : Nat} {G G' : List Nat → Nat → Option Nat} {kvs : List (Key × PyData)} (h : DI n t G kvs) (e : ∀ a ∈ allW lFS t, ∀ c ∈ lFS, G a c = G' a c) : DI n t G' kvs where
  nd := h.nd
  ky := h.ky
  va := fun a ha c hc => by rw [← e a ha c hc]; exact h.va a ha c hc
theorem DI.len {n : List Nat} {t : Nat} {G : List Nat → Nat → Option Nat} {kvs : List (Key × PyData)} (h : DI n t G kvs) (ht : t + 1 ≤ 3) : kvs.length < 100000 := by
  have h1 : (kvs.map (·.1)).length ≤ ((allW lFS (t + 1)).map kx).length := List.Nodup.length_le_of_subset h.nd fun k hk => by
    obtain ⟨w, hw, e⟩ := h.ky k hk
    exact List.mem_map.mpr ⟨w, hw, e.symm⟩
  rw [List.length_map, List.length_map, allW_len] at h1
  have h2 : t = 0 ∨ t = 1 ∨ t = 2 := by omega
  refine Nat.lt_of_le_of_lt h1 ?_
  rcases h2 with rfl | rfl | rfl <;> decide
theorem DI.first {n : List Nat} {t : Nat} {done : List (List Nat)} {a0 : List Nat} {s : Nat} {kvs : List (Key × PyData)} (h : DI n t (gDone n done) kvs) (hd : a0 ∉ done) : DI n t (gAt n done a0 s []) kvs := h.same fun a _ c _ => by
  unfold gAt
  by_cases e : a = a0
  · subst e; rw [if_pos rfl]; simp [gDone, hd, fpre]
  · rw [if_neg e]
theorem fpre_snoc (n : List Nat) (s c i : Nat) (pre : List Nat) : fpre n s c (pre ++ [i]) = (fpre n s c pre).or (if okc c (n.getD (s + i) 0) = true then some (s + i) else none) := by
  unfold fpre
  rw [List.find?_append]
  cases pre.find? fun i => okc c (n.getD (s + i) 0) with
  | some j => rfl
  | none =>
    rw [Option.none_or, List.find?_cons, List.find?_nil]
    cases okc c (n.getD (s + i) 0) <;> rfl
theorem DI.skip {n : List Nat} {t : Nat} {done : List (List Nat)} {a0 : List Nat} {s i : Nat} {pre : List Nat} {kvs : List (Key × PyData)} (h : DI n t (gAt n done a0 s pre) kvs) (hx : n.getD (s + i) 0 ∉ alnum) : DI n t (gAt n done a0 s (pre ++ [i])) kvs := h.same fun a _ c _ => by
  unfold gAt
  rw [fpre_snoc]
  have : okc c (n.getD (s + i) 0) = false := by simp only [okc, hx, decide_false, Bool.false_and]
  rw [this]
  simp
theorem snoc_inj {a b : List Nat} {c d : Nat} (h : a ++ [c] = b ++ [d]) : a = b ∧ c = d := by
  have := List.append_inj' h rfl
  exact ⟨this.1, by simpa using this.2⟩
theorem DI.step {n : List Nat} {t : Nat} {done : List (List Nat)} {a0 : List Nat} {s i : Nat} {pre : List Nat} {kvs : List (Key × PyData)} (h : DI n t (gAt n done a0 s pre) kvs) (ha : a0 ∈ allW lFS t) (hx : n.getD (s + i) 0 ∈ alnum) :
    DI n t (gAt n done a0 s (pre ++ [i])) (putD kvs (kx (a0 ++ [smallC (n.getD (s + i) 0)])) (natI ((fpre n s (smallC (n.getD (s + i) 0)) pre).getD (s + i)))) where
  nd := put_nodup h.nd
  ky := fun k hk => by
    rw [put_keys] at hk
    split at hk
    · exact h.ky k hk
    · rcases List.mem_append.mp hk with z | z
      · exact h.ky k z
      · refine ⟨_, ?_, List.mem_singleton.mp z⟩
        rw [allW_mem] at ha ⊢
        refine ⟨by rw [List.length_append, ha.1]; rfl, fun c hc => ?_⟩
        rcases List.mem_append.mp hc with z | z
        · exact ha.2 c z
        · rw [List.mem_singleton.mp z]; exact small_fs _ hx
  va := fun a hal c hc => by
    rw [getK_put]
    by_cases e : kx (a ++ [c]) = kx (a0 ++ [smallC (n.getD (s + i) 0)])
    · obtain ⟨e1, e2⟩ := snoc_inj (kx_inj.mp e)
      subst e1
      rw [if_pos e, ← e2]
      unfold gAt
      rw [if_pos rfl, fpre_snoc, show okc c (n.getD (s + i) 0) = true by simp only [okc, hx, decide_true, Bool.true_and]; exact decide_eq_true e2.symm]
      cases fpre n s c pre <;> rfl
    · rw [if_neg e, h.va a hal c hc]
      unfold gAt
      by_cases e1 : a = a0
      · subst e1
        rw [if_pos rfl, if_pos rfl, fpre_snoc]
        have : okc c (n.getD (s + i) 0) = false := by
          have : ¬ smallC (n.getD (s + i) 0) = c := fun z => e (by rw [z])
          simp only [okc, this, decide_false, Bool.and_false]
        rw [this]
        simp
      · rw [if_neg e1, if_neg e1]
theorem DI.get {n : List Nat} {t : Nat} {done : List (List Nat)} {a0 : List Nat} {s : Nat} {pre : List Nat} {kvs : List (Key × PyData)} (h : DI n t (gAt n done a0 s pre) kvs) (ha : a0 ∈ allW lFS t) {c : Nat} (hc : c ∈ lFS) : getK kvs (kx (a0 ++ [c])) = (fpre n s c pre).map natI := by
  rw [h.va a0 ha c hc]
  unfold gAt
  rw [if_pos rfl]
theorem DI.done {n : List Nat} {t : Nat} {done : List (List Nat)} {a0 : List Nat} {s : Nat} {kvs : List (Key × PyData)} (h : DI n t (gAt n done a0 s (List.range (n.length - s))) kvs) (hs : gN a0 n = some s) : DI n t (gDone n (done ++ [a0])) kvs := h.same fun a _ c _ => by
  unfold gAt gDone
  by_cases e : a = a0
  · subst e
    rw [if_pos rfl, if_pos (by simp)]
    unfold fullP
    rw [hs]
    rfl
  · rw [if_neg e]
    have : a ∈ done ++ [a0] ↔ a ∈ done := by simp [e]
    simp [this]
theorem DI.all {n : List Nat} {t : Nat} {kvs : List (Key × PyData)} (hn : ∀ c ∈ n, c ∈ alpha) (h : DI n t (gDone n (asksOf n t)) kvs) : DF n (t + 1) kvs where
  nd := h.nd
  ky := h.ky
  va := fun w hw => by
    obtain ⟨a, ha, hx⟩ := List.mem_flatMap.mp (show w ∈ (allW lFS t).flatMap fun w => lFS.map fun c => w ++ [c] from hw)
    obtain ⟨c, hc, rfl⟩ := List.mem_map.mp hx
    rw [h.va a ha c hc, ← full_gN hn hc]
    unfold gDone
    by_cases e : a ∈ asksOf n t
    · rw [if_pos e]
      cases fullP n a c with
      | none => rfl
      | some p => simp [natI]
    · rw [if_neg e]
      have : gN a n = none := by
        unfold gN
        cases e2 : gr a n 0 with
        | none => rfl
        | some r => exact absurd ((asks_mem n t a).mpr ⟨((allW_mem lFS t a).mp ha).1, ((allW_mem lFS t a).mp ha).2, by rw [e2]; exact fun z => by cases z⟩) e
      unfold fullP
      rw [this]
      rfl
theorem DF.keys {n : List Nat} {t : Nat} {kvs : List (Key × PyData)} (h : DF n t kvs) : ∃ ws : List (List Nat), kvs.map (·.1) = ws.map kx ∧ ws.Nodup ∧ ∀ w, w ∈ ws ↔ w ∈ asksOf n t := by
  obtain ⟨ws, hw⟩ : ∃ ws : List (List Nat), kvs.map (·.1) = ws.map kx := by
    have hk := h.ky
    generalize kvs.map (·.1) = ks at hk
    induction ks with
    | nil => exact ⟨[], rfl⟩
    | cons k ks ih =>
      obtain ⟨ws, e⟩ := ih fun j hj => hk j (List.mem_cons_of_mem _ hj)
      obtain ⟨w, _, e2⟩ := hk k List.mem_cons_self
      exact ⟨w :: ws, by rw [List.map_cons, e, e2]⟩
  refine ⟨ws, hw, ?_, fun w => ?_⟩
  · have := h.nd
    rw [hw] at this
    exact List.Pairwise.of_map kx (fun a b hab z => hab (by rw [z])) this
  · have e1 : w ∈ ws ↔ kx w ∈ kvs.map (·.1) := by
      rw [hw, List.mem_map]
      exact ⟨fun z => ⟨w, z, rfl⟩, fun ⟨u, hu, e⟩ => kx_inj.mp e ▸ hu⟩
    rw [e1, ← getK_mem, asks_mem, ← and_assoc, ← allW_mem]
    constructor
    · intro hk
      have hm : w ∈ allW lFS t := by
        obtain ⟨u, hu, e⟩ := h.ky _ (getK_mem.mp hk)
        rw [kx_inj.mp e]
        exact hu
      refine ⟨hm, fun z => hk ?_⟩
      rw [h.va w hm]
      unfold gN
      rw [z]
      rfl
    · rintro ⟨hm, hg⟩ hk
      rw [h.va w hm] at hk
      unfold gN at hk
      cases e : gr w n 0 with
      | none => exact hg e
      | some r => rw [e] at hk; cases hk
theorem DF.sort {n : List Nat} {t : Nat} {kvs : List (Key × PyData)} (h : DF n t kvs) : sortD (kvs.map fun q => keyD q.1) = (asksOf n t).map tx := by
  obtain ⟨ws, h1, h2, h3⟩ := h.keys
  have : (kvs.map fun q => keyD q.1) = ws.map tx := by
    have := congrArg (List.map keyD) h1
    rw [List.map_map, List.map_map] at this
    exact this
  rw [this]
  exact sort_txs h2 (asks_sorted n t) h3
theorem DF.alike {n : List Nat} {t : Nat} {kvs : List (Key × PyData)} (h : DF n t kvs) : PySem.W.AllAlike (kvs.map fun q => keyD q.1) ∧ PySem.W.Sortable (kvs.map fun q => keyD q.1) := by
  obtain ⟨ws, h1, h2, h3⟩ := h.keys
  have : (kvs.map fun q => keyD q.1) = ws.map tx := by
    have := congrArg (List.map keyD) h1
    rw [List.map_map, List.map_map] at this
    exact this
  rw [this]
  exact txs_alike ws fun w => w
theorem DF.get {n : List Nat} {t : Nat} {kvs : List (Key × PyData)} (h : DF n t kvs) {w : List Nat} (hw : w ∈ asksOf n t) : ∃ s, gN w n = some s ∧ getK kvs (kx w) = some (.int ((s : Int) - 1)) := by
  obtain ⟨h1, h2, h3⟩ := (asks_mem n t w).mp hw
  cases e : gr w n 0 with
  | none => exact absurd e h3
  | some r =>
    have e2 : gN w n = some (nx r) := by unfold gN; rw [e]; rfl
    refine ⟨nx r, e2, ?_⟩
    rw [h.va w ((allW_mem lFS t w).mpr ⟨h1, h2⟩), e2]
    rfl
end Lf
set_option Elab.async false
set_option linter.all false
set_option maxRecDepth 100000
set_option maxHeartbeats 4000000
namespace Lf
open PySem PySem.Spec PyProof.Rows L2 LamX
theorem hu1 {k : Nat} {A : Around} (hr : Room k A) : A.units + 1 < cLine := by
  have := hr.un
  omega
theorem range_at {m : Nat} {pre post : List Nat} {x : Nat} (h : List.range m = pre ++ x :: post) : x = pre.length := by
  have hl : pre.length < m := by
    have := congrArg List.length h
    simp at this
    omega
  have h1 : (List.range m)[pre.length]? = some x := by rw [h]; simp
  rw [List.getElem?_range hl] at h1
  exact (Option.some.inj h1).symm
theorem range_pre {m : Nat} {pre post : List Nat} {x : Nat} (h : List.range m = pre ++ x :: post) : pre = List.range pre.length := by
  have hl : pre.length < m := by
    have := congrArg List.length h
    simp at this
    omega
  have : (List.range m).take pre.length = pre := by rw [h]; simp
  rw [List.take_range] at this
  rw [Nat.min_eq_left (by omega)] at this
  exact this.symm
/-! ### lists of names -/
def areNames (d : PyData) : Bool := isLs d && decide ((lsOf d).length ≤ 60) && (lsOf d).all isName
def okNs (d : PyData) : Prop := (lsOf d).length ≤ 10000 ∧ ∀ e ∈ lsOf d, okd e
def R_need_names (C : Addr) (ds : List PyData) (r : Res) : Prop := ∃ d, ds = [d] ∧ okNs d ∧ r = if areNames d = true then .ok .none else .error C
theorem R_need_names_ok {C : Addr} {d : PyData} (hz : okNs d) (hn : areNames d = true) : R_need_names C [d] (.ok .none) := ⟨_, rfl, hz, by rw [if_pos hn]⟩
theorem R_need_names_er {C : Addr} {d : PyData} (hz : okNs d) (hn : areNames d = false) : R_need_names C [d] (.error C) := ⟨_, rfl, hz, by rw [hn]; rfl⟩
theorem names_list (ds : List PyData) : areNames (.list ds) = (decide (ds.length ≤ 60) && ds.all isName) := rfl
def namesL (d : PyData) : List (List Nat) := (lsOf d).map cod
theorem namesL_self (ls : List (List Nat)) : namesL (.list (ls.map tx)) = ls := by
  unfold namesL
  show (ls.map tx).map cod = ls
  rw [List.map_map]
  exact List.map_id'' (fun l => cod_tx l) ls
theorem names_of {d : PyData} (h : areNames d = true) : ∃ ls : List (List Nat), d = .list (ls.map tx) ∧ ls.length ≤ 60 ∧ ∀ l ∈ ls, isNm l = true := by
  unfold areNames at h
  rw [Bool.and_eq_true, Bool.and_eq_true] at h
  obtain ⟨⟨h1, h2⟩, h3⟩ := h
  refine ⟨namesL d, ?_, ?_, fun l hl => ?_⟩
  · have e := ls_of h1
    have : (namesL d).map tx = lsOf d := by
      unfold namesL
      rw [List.map_map]
      conv => rhs; rw [← List.map_id (lsOf d)]
      refine List.map_congr_left fun x hx => ?_
      have := List.all_eq_true.mp h3 x hx
      obtain ⟨l, rfl, _⟩ := name_tx this
      show tx (cod (tx l)) = tx l
      rw [cod_tx]
    rw [this]
    exact e
  · unfold namesL
    rw [List.length_map]
    exact of_decide_eq_true h2
  · obtain ⟨x, hx, rfl⟩ := List.mem_map.mp hl
    obtain ⟨l, rfl, hl2⟩ := name_tx (List.all_eq_true.mp h3 x hx)
    rw [cod_tx]
    exact hl2
theorem names_ok {ls : List (List Nat)} (h : ls.length ≤ 60) (g : ∀ l ∈ ls, isNm l = true) : areNames (.list (ls.map tx)) = true ∧ okNs (.list (ls.map tx)) := by
  refine ⟨?_, ?_, fun e he => ?_⟩
  · rw [names_list, List.length_map, decide_eq_true h, Bool.true_and, List.all_eq_true]
    intro x hx
    obtain ⟨l, hl, rfl⟩ := List.mem_map.mp hx
    rw [isName_tx]
    exact g l hl
  · show (ls.map tx).length ≤ 10000
    rw [List.length_map]
    omega
  · obtain ⟨l, hl, rfl⟩ := List.mem_map.mp (show e ∈ ls.map tx from he)
    have := isNm_len (g l hl)
    exact okd_tx (by omega)
def othersL (ls : List (List Nat)) (i : Nat) : List (List Nat) := ls.take i ++ ls.drop (i + 1)
theorem others_mem {ls : List (List Nat)} {i : Nat} {o : List Nat} (h : o ∈ othersL ls i) : o ∈ ls := by
  unfold othersL at h
  rcases List.mem_append.mp h with z | z
  · exact List.mem_of_mem_take z
  · exact List.mem_of_mem_drop z
theorem others_cut (ls : List (List Nat)) (i : Nat) : cutL (ls.map tx) none (some (i : Int)) ++ cutL (ls.map tx) (some ((i : Int) + 1)) none = (othersL ls i).map tx := by
  rw [cut_take, show ((i : Int) + 1) = ((i + 1 : Nat) : Int) by omega, cut_drop]
  unfold othersL
  rw [List.map_append, List.map_take, List.map_drop]
theorem at_txs {ls : List (List Nat)} {i : Nat} (h : i < ls.length) : atI (ls.map tx) ((i : Nat) : Int) = some (tx (ls.getD i [])) := atI_nat (by rw [List.getElem?_map, List.getElem?_eq_getElem h, List.getD_eq_getElem?_getD, List.getElem?_eq_getElem h]; rfl)
theorem cnt_nat {d : PyData} {m : Int} (h : isCnt d 0 m = true) : ∃ i : Nat, d = natI i ∧ (i : Int) ≤ m := by
  cases d with
  | int i =>
    have h : 0 ≤ i ∧ i ≤ m := by simpa [isCnt] using h
    exact ⟨i.toNat, by unfold natI; rw [Int.toNat_of_nonneg h.1], by omega⟩
  | none => cases h
  | bool _ => cases h
  | str _ => cases h
  | list _ => cases h
  | tuple _ => cases h
  | dict _ => cases h
theorem getD_mem {ls : List (List Nat)} {i : Nat} (h : i < ls.length) : ls.getD i [] ∈ ls := by
  rw [List.getD_eq_getElem?_getD, List.getElem?_eq_getElem h]
  exact List.getElem_mem h
/-! ### the shortest asks -/
def aloneB (os : List (List Nat)) (a : List Nat) : Bool := os.all fun o => (gr a o 0).isNone
def leastL (n : List Nat) (os : List (List Nat)) : Option (List Nat) := ((List.range 4).flatMap (asksOf n)).find? (aloneB os)
def optT : Option (List Nat) → PyData
  | none => .none
  | some w => tx w
theorem isN_opt (q : Option (List Nat)) : isN (optD q) = q.isNone := by cases q <;> rfl
def R_least_of (ds : List PyData) (r : Res) : Prop := ∃ n os, ds = [tx n, .list (os.map tx)] ∧ isNm n = true ∧ (∀ o ∈ os, isNm o = true) ∧ os.length ≤ 10000 ∧ r = .ok (optT (leastL n os))
theorem find_no {α : Type} {p : α → Bool} {l : List α} (h : ∀ a ∈ l, p a = false) : l.find? p = none := List.find?_eq_none.mpr fun a ha => by rw [h a ha]; decide
theorem least_no {n : List Nat} {os : List (List Nat)} (h : ∀ a ∈ (List.range (3 + 1 : Int).toNat).flatMap (asksOf n), aloneB os a = false) : leastL n os = none := find_no h
theorem least_yes {n : List Nat} {os : List (List Nat)} {pre : List Nat} {pre1 post1 : List (List Nat)} {a : List Nat} (hp : pre = List.range pre.length) (ht : pre.length < 4) (h : ∀ a ∈ pre.flatMap (asksOf n), aloneB os a = false) (hx : asksOf n pre.length = pre1 ++ a :: post1) (h1 : ∀ a ∈ pre1, aloneB os a = false) (ha : aloneB os a = true) : leastL n os = some a := by
  unfold leastL
  have e : List.range 4 = pre ++ pre.length :: (List.range 4).drop (pre.length + 1) := by
    have e1 : (List.range 4).take pre.length = pre := by rw [List.take_range, Nat.min_eq_left (by omega), ← hp]
    have e2 : (List.range 4).drop pre.length = pre.length :: (List.range 4).drop (pre.length + 1) := by
      rw [List.drop_eq_getElem_cons (by simpa using ht)]
      simp
    conv => lhs; rw [← List.take_append_drop pre.length (List.range 4), e1, e2]
  rw [e, List.flatMap_append, List.flatMap_cons, hx, List.find?_append, find_no h, List.append_assoc, List.find?_append, find_no h1, List.cons_append, List.find?_cons, ha]
  rfl
def R_least_ask (C0 C4 : Addr) (ds : List PyData) (r : Res) : Prop := ∃ d1 d2, ds = [d1, d2] ∧ okNs d1 ∧ r = if areNames d1 = true then (if isCnt d2 0 (((namesL d1).length : Int) - 1) = true then .ok (optT (leastL ((namesL d1).getD (intOf d2).toNat []) (othersL (namesL d1) (intOf d2).toNat))) else .error C4) else .error C0
def R_parting (C0 : Addr) (ds : List PyData) (r : Res) : Prop := ∃ d1 d2, ds = [d1, d2] ∧ okd d1 ∧ okd d2 ∧ r = if isName d1 = true ∧ isName d2 = true then .ok (optT (leastL (cod d1) [cod d2])) else .error C0
def allLeast (ls : List (List Nat)) : List PyData := (List.range ls.length).map fun i => optT (leastL (ls.getD i []) (othersL ls i))
def R_all_least (C0 : Addr) (ds : List PyData) (r : Res) : Prop := ∃ d, ds = [d] ∧ okNs d ∧ r = if areNames d = true then .ok (.list (allLeast (namesL d))) else .error C0
theorem enum_tx (ls : List (List Nat)) : ∀ x ∈ enumL (ls.map tx), ∃ i, i < ls.length ∧ x = (i, tx (ls.getD i [])) := fun x hx => by
  unfold enumL at hx
  obtain ⟨i, hi, rfl⟩ := List.mem_map.mp hx
  have hi : i < ls.length := by simpa using hi
  refine ⟨i, hi, ?_⟩
  rw [List.getD_eq_getElem?_getD, List.getElem?_map, List.getElem?_eq_getElem hi, List.getD_eq_getElem?_getD, List.getElem?_eq_getElem hi]
  rfl
theorem allLeast_data (ls : List (List Nat)) : ((enumL (ls.map tx)).map fun x => optT (leastL (cod x.2) (othersL ls x.1))) = allLeast ls := by
  unfold enumL allLeast
  rw [List.map_map, List.length_map]
  refine List.map_congr_left fun i hi => ?_
  have hi : i < ls.length := by simpa using hi
  show optT (leastL (cod ((ls.map tx).getD i .none)) (othersL ls i)) = _
  rw [List.getD_eq_getElem?_getD, List.getElem?_map, List.getElem?_eq_getElem hi, List.getD_eq_getElem?_getD, List.getElem?_eq_getElem hi]
  show optT (leastL (cod (tx ls[i])) _) = _
  rw [cod_tx]
  rfl
theorem R_least_of_at {ls : List (List Nat)} (hls : ∀ l ∈ ls, isNm l = true) (hl : ls.length ≤ 60) {x : Nat × PyData} (hx : x ∈ enumL (ls.map tx)) : R_least_of [x.2, .list (cutL (ls.map tx) none (some (x.1 : Int)) ++ cutL (ls.map tx) (some ((x.1 : Int) + 1)) none)] (.ok (optT (leastL (cod x.2) (othersL ls x.1)))) := by
  obtain ⟨i, hi, rfl⟩ := enum_tx ls x hx
  refine ⟨ls.getD i [], othersL ls i, by rw [others_cut], hls _ (getD_mem hi), fun o ho => hls o (others_mem ho), ?_, by rw [cod_tx]⟩
  unfold othersL
  rw [List.length_append, List.length_take, List.length_drop]
  omega
end Lf
set_option Elab.async false
set_option linter.all false
set_option maxRecDepth 100000
set_option maxHeartbeats 4000000
namespace Lf
open PySem PySem.Spec PyProof.Rows L2 LamX
/-! ### marks -/
structure Mk where
  h : Int
  hd : Int
  st : Int
  rn : Int
  sm : Int
  sk : Int
def mkD (M : Mk) : PyData := .tuple [.int M.h, .int M.hd, .int M.st, .int M.rn, .int M.sm, .int M.sk]
structure okM (M : Mk) : Prop where
  h : 0 ≤ M.h ∧ M.h ≤ 50
  hd : 0 ≤ M.hd ∧ M.hd ≤ 50
  st : 0 ≤ M.st ∧ M.st ≤ 50
  rn : 0 ≤ M.rn ∧ M.rn ≤ 50
  sm : 0 ≤ M.sm ∧ M.sm ≤ 50
  sk : 0 ≤ M.sk ∧ M.sk ≤ 50
def isTp : PyData → Bool
  | .tuple _ => true
  | _ => false
def tpOf : PyData → List PyData
  | .tuple ds => ds
  | _ => []
def isMarks (d : PyData) : Bool := isTp d && decide ((tpOf d).length = 6) && (tpOf d).all fun e => isCnt e 0 50
def mkOf (d : PyData) : Mk := ⟨intOf ((tpOf d).getD 0 .none), intOf ((tpOf d).getD 1 .none), intOf ((tpOf d).getD 2 .none), intOf ((tpOf d).getD 3 .none), intOf ((tpOf d).getD 4 .none), intOf ((tpOf d).getD 5 .none)⟩
theorem mkOf_self (M : Mk) : mkOf (mkD M) = M := rfl
theorem marks_of {d : PyData} (h : isMarks d = true) : d = mkD (mkOf d) ∧ okM (mkOf d) := by
  unfold isMarks at h
  rw [Bool.and_eq_true, Bool.and_eq_true] at h
  obtain ⟨⟨h1, h2⟩, h3⟩ := h
  cases d with
  | tuple ds =>
    have h2 : ds.length = 6 := of_decide_eq_true h2
    have h3 : (ds.all fun e => isCnt e 0 50) = true := h3
    obtain ⟨g1, g2⟩ := cnt_ints h3
    match ds, h2 with
    | [a, b, c, d, e, f], _ =>
      simp only [List.map_cons, List.map_nil, List.cons.injEq, and_true] at g1
      obtain ⟨e1, e2, e3, e4, e5, e6⟩ := g1
      have k : ∀ x ∈ [a, b, c, d, e, f], 0 ≤ intOf x ∧ intOf x ≤ 50 := fun x hx => g2 _ (List.mem_map_of_mem hx)
      refine ⟨?_, k a (by simp), k b (by simp), k c (by simp), k d (by simp), k e (by simp), k f (by simp)⟩
      show PyData.tuple [a, b, c, d, e, f] = .tuple [.int (intOf a), .int (intOf b), .int (intOf c), .int (intOf d), .int (intOf e), .int (intOf f)]
      rw [← e1, ← e2, ← e3, ← e4, ← e5, ← e6]
  | none => cases h1
  | bool _ => cases h1
  | int _ => cases h1
  | str _ => cases h1
  | list _ => cases h1
  | dict _ => cases h1
theorem marks_ok {M : Mk} (h : okM M) : isMarks (mkD M) = true := by
  have h1 := h.h; have h2 := h.hd; have h3 := h.st; have h4 := h.rn; have h5 := h.sm; have h6 := h.sk
  simp [isMarks, mkD, isTp, tpOf, isCnt]
  omega
def R_need_marks (C : Addr) (ds : List PyData) (r : Res) : Prop := ∃ d, ds = [d] ∧ (tpOf d).length ≤ 10000 ∧ r = if isMarks d = true then .ok .none else .error C
theorem R_need_marks_ok {C : Addr} {M : Mk} (h : okM M) : R_need_marks C [mkD M] (.ok .none) := ⟨_, rfl, by show 6 ≤ 10000; decide, by rw [if_pos (marks_ok h)]⟩
theorem R_need_marks_er {C : Addr} {d : PyData} (hz : (tpOf d).length ≤ 10000) (h : isMarks d = false) : R_need_marks C [d] (.error C) := ⟨_, rfl, hz, by rw [h]; rfl⟩
theorem kit_tup {d : PyData} (h : isTp d = false) : kitB (tyN d) "tuple" = some false := by
  cases d with
  | tuple _ => cases h
  | _ => rfl
theorem tp_of {d : PyData} (h : isTp d = true) : d = .tuple (tpOf d) := by
  cases d with
  | tuple _ => rfl
  | _ => cases h
/-! ### a tuple of the module's top -/
structure KTp (K : PySem.W.Frag) (mg : Str → Option Value) (x : Str) (n : Nat) : Prop where
  ex : ∃ (a : Addr) (o : Obj) (its : Array Value) (m : Nat) (xs : List V), mg x = some (.ref a) ∧ K.lookup a = some o ∧ o.cls = .type "tuple" ∧ o.data = .seq its m ∧ its.size ≤ sizeLine ∧ Vals xs its.toList ∧ xs.length = n
theorem rel_abs {u : Value} {v : V} (h : absV u = some v) : RelV v u := by
  cases u <;> simp [absV] at h <;> subst h <;> first | rfl | exact ⟨_, rfl⟩
theorem vals_abs : ∀ {us : List Value}, (us.all fun u => (absV u).isSome) = true → ∃ xs, Vals xs us
  | [], _ => ⟨[], .nil⟩
  | u :: us, h => by
    rw [List.all_cons, Bool.and_eq_true] at h
    obtain ⟨v, hv⟩ := Option.isSome_iff_exists.mp h.1
    obtain ⟨xs, hx⟩ := vals_abs h.2
    exact ⟨v :: xs, .cons (rel_abs hv) hx⟩
theorem ktp_mk {K : PySem.W.Frag} {mg : Str → Option Value} {x : Str} {h : Heap} {a : Addr} {od : Option Addr} {its : Array Value} {m n : Nat} {sl : Array (Option Value)} (X : K.In h) (N : h.Ns mainGlobals mg) (c : PySem.W.nsIn K mainGlobals x = some (some (.ref a))) (l : K.lookup a = some ⟨.type "tuple", od, .seq its m, sl⟩)
    (z : (decide (its.size = n) && decide (n ≤ 1000) && its.toList.all fun u => (absV u).isSome) = true) : KTp K mg x n := by
  rw [Bool.and_eq_true, Bool.and_eq_true] at z
  obtain ⟨⟨z1, z2⟩, z3⟩ := z
  have z1 : its.size = n := of_decide_eq_true z1
  have z2 : n ≤ 1000 := of_decide_eq_true z2
  obtain ⟨xs, hx⟩ := vals_abs z3
  refine ⟨a, _, its, m, xs, PySem.W.mg_of X N c, l, rfl, rfl, ?_, hx, ?_⟩
  · rw [z1]
    exact Nat.le_trans z2 (by decide)
  · rw [hx.length, Array.length_toList, z1]
section
variable {Kf : PySem.W.Frag} {Tf : List (Addr × Str)} {F : Fx Kf Tf} {δ : List Slot} {X : Cx} {N : List Str} {sc : Scope} {pos p px : Pos} {x : Str} {n : Nat}
theorem x_lenK (cx : Ctx X N sc) (hT : KTp X.K X.mg x n) (hm : X.mg "len" = none) (hg : sc.names.lookup ("len" : Str) = some .globalImplicit := by rfl) (hg2 : sc.names.lookup x = some .globalImplicit := by rfl) (hd : (x == ("__debug__" : Str)) = false := by decide) (hs : starEach [.Name x px] X.env = [(false, eval (.Name x px) X.env)] := by rfl) :
    PE X (.Call (.Name "len" p) [.Name x px] [] pos) (tD F δ (.int (n : Nat))) := by
  obtain ⟨a, o, its, m, xs, h1, h2, h3, h4, h5, h6, h7⟩ := hT.ex
  refine wkE (pe_callB call_len (cx.gl hg) hm PySem.boot_len (pa_cons (pe_glob (v := .ref a) (cx.gl hg2) h1 rfl hd) pa_nil hs) (by decide) (by decide) hs) fun σ H Q h => ?_
  obtain ⟨O, st, k⟩ := h
  exact ⟨.ref a, n, rfl, .inr ⟨xs, .inr ⟨o, its, m, h2, h3, h4, h5, h6⟩, h7.symm⟩, k _ H (ExtN.refl H) st.tabs rfl⟩
end
/-! ### what places are worth -/
def ow (M : Mk) (c : Nat) (n : List Nat) (p : Nat) : Int := M.h + (if p = 0 then M.hd else 0) + (if begins n p = true then M.st else 0) + (if n.getD p 0 = c then M.sm else 0)
def gw (M : Mk) (i j : Nat) : Int := if j = i + 1 then M.rn else 0 - M.sk * ((j : Int) - (i : Int) - 1)
def gp (M : Mk) (p : Nat) : List Nat → Int
  | [] => 0
  | q :: _ => gw M p q
def wr (M : Mk) (n : List Nat) : List Nat → List Nat → Int
  | c :: a, p :: r => ow M c n p + gp M p r + wr M n a r
  | _, _ => 0
def R_own_worth (ds : List PyData) (r : Res) : Prop := ∃ M c n p, ds = [mkD M, tx [c], tx n, natI p] ∧ p < n.length ∧ n.length ≤ 10000 ∧ r = .ok (.int (ow M c n p))
def R_gap_worth (ds : List PyData) (r : Res) : Prop := ∃ M i j, ds = [mkD M, natI i, natI j] ∧ okM M ∧ i ≤ 10000 ∧ j ≤ 10000 ∧ r = .ok (.int (gw M i j))
/-! ### the first of the greatest -/
abbrev Bst := Option (Int × List Nat)
def cmb : Bst → Bst → Bst
  | a, none => a
  | none, some x => some x
  | some y, some x => if x.1 > y.1 then some x else some y
theorem cmb_none (a : Bst) : cmb a none = a := by cases a <;> rfl
theorem none_cmb (a : Bst) : cmb none a = a := by cases a <;> rfl
theorem cmb_assoc (a b c : Bst) : cmb (cmb a b) c = cmb a (cmb b c) := by
  cases c with
  | none => rw [cmb_none, cmb_none]
  | some z =>
    cases b with
    | none => rw [cmb_none, none_cmb]
    | some y =>
      cases a with
      | none => rw [none_cmb, none_cmb]
      | some x =>
        simp only [cmb]
        by_cases h1 : y.1 > x.1
        · rw [if_pos h1]
          by_cases h2 : z.1 > y.1
          · simp only [cmb, if_pos h2]
            rw [if_pos (by omega)]
          · simp only [cmb, if_neg h2, if_pos h1]
        · rw [if_neg h1]
          by_cases h2 : z.1 > y.1
          · simp only [cmb, if_pos h2]
          · simp only [cmb, if_neg h2, if_neg h1]
            rw [if_neg (by omega)]
def fmL (w : List Nat → Int) (l : List (List Nat)) : Bst := l.foldl (fun acc r => cmb acc (some (w r, r))) none
theorem fold_cmb {α : Type} (f : α → Bst) : ∀ (l : List α) (a : Bst), l.foldl (fun acc x => cmb acc (f x)) a = cmb a (l.foldl (fun acc x => cmb acc (f x)) none)
  | [], a => (cmb_none a).symm
  | x :: l, a => by
    rw [List.foldl_cons, List.foldl_cons, fold_cmb f l (cmb a (f x)), fold_cmb f l (cmb none (f x)), none_cmb, cmb_assoc]
theorem fm_app (w : List Nat → Int) (l m : List (List Nat)) : fmL w (l ++ m) = cmb (fmL w l) (fmL w m) := by
  unfold fmL
  rw [List.foldl_append, fold_cmb (fun r => some (w r, r)) m]
theorem fm_cons (w : List Nat → Int) (r : List Nat) (l : List (List Nat)) : fmL w (r :: l) = cmb (some (w r, r)) (fmL w l) := by
  rw [show r :: l = [r] ++ l from rfl, fm_app]
  rfl
theorem fm_flat {α : Type} (w : List Nat → Int) (f : α → List (List Nat)) : ∀ l : List α, fmL w (l.flatMap f) = l.foldl (fun acc x => cmb acc (fmL w (f x))) none
  | [] => rfl
  | x :: l => by
    rw [List.flatMap_cons, fm_app, fm_flat w f l, List.foldl_cons, none_cmb, fold_cmb (fun x => fmL w (f x)) l (fmL w (f x))]
theorem fm_map {w w' : List Nat → Int} {p : Nat} {K : Int} : ∀ {l : List (List Nat)}, (∀ r ∈ l, w (p :: r) = K + w' r) → fmL w (l.map (p :: ·)) = (fmL w' l).map fun q => (K + q.1, p :: q.2)
  | [], _ => rfl
  | r :: l, h => by
    rw [List.map_cons, fm_cons, fm_cons, fm_map fun s hs => h s (List.mem_cons_of_mem _ hs), h r List.mem_cons_self]
    cases fmL w' l with
    | none => rfl
    | some q =>
      simp only [Option.map_some, cmb]
      by_cases e : q.1 > w' r
      · rw [if_pos e, if_pos (by omega)]; rfl
      · rw [if_neg e, if_neg (by omega)]; rfl
/-! ### rows by their first place -/
def RB (n : List Nat) : List Nat → Nat → List (List Nat)
  | [], _ => []
  | c :: a, p => if hitC c (n.getD p 0) = true then (rowsS a (n.drop (p + 1)) (p + 1)).map (p :: ·) else []
theorem RB_hit {n : List Nat} {c : Nat} {a : List Nat} {p : Nat} (h : hitC c (n.getD p 0) = true) : RB n (c :: a) p = (rowsS a (n.drop (p + 1)) (p + 1)).map (p :: ·) := if_pos h
theorem RB_miss {n : List Nat} {c : Nat} {a : List Nat} {p : Nat} (h : hitC c (n.getD p 0) = false) : RB n (c :: a) p = [] := if_neg (by rw [h]; decide)
theorem rows_RB (n : List Nat) (c : Nat) (a : List Nat) : ∀ (m k : Nat), n.length - k = m → k ≤ n.length → rowsS (c :: a) (n.drop k) k = (List.range (n.length - k)).flatMap fun i => RB n (c :: a) (k + i)
  | 0, k, hm, hk => by
    rw [hm]
    have e : k = n.length := by omega
    rw [e, List.drop_length]
    rfl
  | m + 1, k, hm, hk => by
    have hlt : k < n.length := by omega
    have ih := rows_RB n c a m (k + 1) (by omega) (by omega)
    have hl : n.length - k = (n.length - (k + 1)) + 1 := by omega
    rw [hl, List.range_succ_eq_map, List.flatMap_cons, List.flatMap_map]
    have e2 : ((List.range (n.length - (k + 1))).flatMap fun i => RB n (c :: a) (k + (i + 1))) = rowsS (c :: a) (n.drop (k + 1)) (k + 1) := by
      rw [ih]
      exact fm_congr fun i _ => by rw [show k + (i + 1) = k + 1 + i by omega]
    show _ = RB n (c :: a) (k + 0) ++ ((List.range (n.length - (k + 1))).flatMap fun i => RB n (c :: a) (k + (i + 1)))
    rw [e2, Nat.add_zero]
    by_cases hh : hitC c (n.getD k 0) = true
    · rw [rows_hit hlt hh, RB_hit hh]
    · have hh' : hitC c (n.getD k 0) = false := by simpa using hh
      rw [rows_miss hlt hh', RB_miss hh', List.nil_append]
def bAt (M : Mk) (n a : List Nat) (p : Nat) : Bst := fmL (wr M n a) (RB n a p)
def bestL (M : Mk) (a n : List Nat) : Bst := fmL (wr M n a) (rowsS a n 0)
theorem bAt_nil (M : Mk) (n : List Nat) (p : Nat) : bAt M n [] p = none := rfl
/-- the start of a search at a place, and a step of it -/
def b0 (M : Mk) (n : List Nat) (c : Nat) (a : List Nat) (p : Nat) : Bst := if a = [] then some (ow M c n p, [p]) else none
def bSt (M : Mk) (n : List Nat) (c : Nat) (a : List Nat) (p i : Nat) : Bst := (bAt M n a (p + 1 + i)).map fun q => (ow M c n p + gw M p (p + 1 + i) + q.1, p :: q.2)
def bF (M : Mk) (n : List Nat) (c : Nat) (a : List Nat) (p : Nat) (pre : List Nat) : Bst := pre.foldl (fun acc i => cmb acc (bSt M n c a p i)) (b0 M n c a p)
theorem bF_snoc (M : Mk) (n : List Nat) (c : Nat) (a : List Nat) (p i : Nat) (pre : List Nat) : bF M n c a p (pre ++ [i]) = cmb (bF M n c a p pre) (bSt M n c a p i) := by
  unfold bF
  rw [List.foldl_append]
  rfl
theorem RB_head {n a : List Nat} {p : Nat} {r : List Nat} (h : r ∈ RB n a p) : ∃ t, r = p :: t := by
  cases a with
  | nil => cases h
  | cons c a =>
    by_cases hh : hitC c (n.getD p 0) = true
    · rw [RB_hit hh] at h
      obtain ⟨t, _, rfl⟩ := List.mem_map.mp h
      exact ⟨t, rfl⟩
    · rw [RB_miss (by simpa using hh)] at h
      cases h
theorem bAt_miss {M : Mk} {n : List Nat} {c : Nat} {a : List Nat} {p : Nat} (h : hitC c (n.getD p 0) = false) : bAt M n (c :: a) p = none := by
  unfold bAt
  rw [RB_miss h]
  rfl
theorem bAt_hit {M : Mk} {n : List Nat} {c : Nat} {a : List Nat} {p : Nat} (hp : p < n.length) (h : hitC c (n.getD p 0) = true) : bAt M n (c :: a) p = bF M n c a p (List.range (n.length - (p + 1))) := by
  unfold bAt
  rw [RB_hit h]
  cases a with
  | nil =>
    rw [rows_nil]
    have e : ∀ l : List Nat, l.foldl (fun acc i => cmb acc (bSt M n c [] p i)) (b0 M n c [] p) = b0 M n c [] p := fun l => by
      induction l with
      | nil => rfl
      | cons i l ih => rw [List.foldl_cons]; exact ih
    unfold bF
    rw [e]
    show some (ow M c n p + 0 + 0, [p]) = some (ow M c n p, [p])
    rw [Int.add_zero, Int.add_zero]
  | cons c' a =>
    rw [rows_RB n c' a _ (p + 1) rfl (by omega), List.map_flatMap, fm_flat]
    unfold bF
    rw [show b0 M n c (c' :: a) p = none from if_neg (by simp)]
    congr 1
    funext acc i
    congr 1
    unfold bSt bAt
    refine (fm_map (w' := wr M n (c' :: a)) (K := ow M c n p + gw M p (p + 1 + i)) fun r hr => ?_).trans ?_
    · obtain ⟨t, rfl⟩ := RB_head hr
      show ow M c n p + gw M p (p + 1 + i) + wr M n (c' :: a) ((p + 1 + i) :: t) = _
      rfl
    · rfl
theorem best_fold (M : Mk) (c : Nat) (a n : List Nat) : bestL M (c :: a) n = (List.range n.length).foldl (fun acc p => cmb acc (bAt M n (c :: a) p)) none := by
  unfold bestL
  have := rows_RB n c a n.length 0 rfl (Nat.zero_le _)
  rw [List.drop_zero] at this
  rw [this, fm_flat]
  simp only [Nat.sub_zero, Nat.zero_add]
  rfl
theorem best_nil (M : Mk) (n : List Nat) : bestL M [] n = some (0, []) := by
  unfold bestL
  rw [rows_nil]
  rfl
theorem fm_none {w : List Nat → Int} : ∀ {l : List (List Nat)}, fmL w l = none ↔ l = []
  | [] => ⟨fun _ => rfl, fun _ => rfl⟩
  | r :: l => by
    rw [fm_cons]
    cases fmL w l with
    | none => simp [cmb]
    | some q =>
      simp only [cmb]
      split <;> simp
theorem best_none {M : Mk} {a n : List Nat} : bestL M a n = none ↔ gr a n 0 = none := by
  unfold bestL
  rw [fm_none, gr_none]
/-! ### the dict of a level -/
def bD (q : Int × List Nat) : PyData := .tuple [.int q.1, rowD q.2]
def optB : Bst → PyData
  | none => .none
  | some q => bD q
def dOf (G : Nat → Bst) (m : Nat) : List (Key × PyData) := (List.range m).filterMap fun p => (G p).map fun q => (Sum.inl (p : Int), bD q)
theorem dOf_succ (G : Nat → Bst) (m : Nat) : dOf G (m + 1) = dOf G m ++ (match G m with | none => [] | some q => [(Sum.inl (m : Int), bD q)]) := by
  unfold dOf
  rw [List.range_succ, List.filterMap_append]
  congr 1
  cases h : G m <;> simp [h]
theorem dOf_get (G : Nat → Bst) : ∀ (m p : Nat), getK (dOf G m) (Sum.inl (p : Int)) = if p < m then (G p).map bD else none
  | 0, p => by simp [dOf, getK_nil]
  | m + 1, p => by
    rw [dOf_succ, getK_app, dOf_get G m p]
    by_cases h1 : p < m
    · rw [if_pos h1, if_pos (by omega)]
      cases e : G p with
      | some q => rfl
      | none =>
        show getK _ _ = none
        cases e2 : G m with
        | none => rfl
        | some q =>
          rw [getK_cons, if_neg]
          · rfl
          · intro z
            have : (m : Int) = (p : Int) := Sum.inl.inj z
            omega
    · rw [if_neg h1]
      by_cases h2 : p = m
      · subst h2
        rw [if_pos (by omega)]
        cases e2 : G p with
        | none => rfl
        | some q => rw [getK_cons, if_pos rfl]; rfl
      · rw [if_neg (by omega)]
        cases e2 : G m with
        | none => rfl
        | some q =>
          rw [getK_cons, if_neg]
          · rfl
          · intro z
            have : (m : Int) = (p : Int) := Sum.inl.inj z
            omega
theorem dOf_put {G : Nat → Bst} {m : Nat} {q : Int × List Nat} (h : G m = some q) : putD (dOf G m) (Sum.inl (m : Int)) (bD q) = dOf G (m + 1) := by
  unfold putD
  rw [getK_any, dOf_get, if_neg (Nat.lt_irrefl m), dOf_succ, h]
  rfl
theorem dOf_skip {G : Nat → Bst} {m : Nat} (h : G m = none) : dOf G m = dOf G (m + 1) := by
  rw [dOf_succ, h, List.append_nil]
theorem dOf_len (G : Nat → Bst) (m : Nat) : (dOf G m).length ≤ m := by
  unfold dOf
  refine Nat.le_trans (List.length_filterMap_le _ _) ?_
  rw [List.length_range]
  exact Nat.le_refl _
theorem dOf_none {G : Nat → Bst} (h : ∀ p, G p = none) (m : Nat) : dOf G m = [] := by
  unfold dOf
  rw [List.filterMap_eq_nil_iff]
  intro p _
  rw [h p]
  rfl
/-- the places of a level -/
def dPs (G : Nat → Bst) (m : Nat) : List Nat := (List.range m).filter fun p => (G p).isSome
theorem dOf_keys (G : Nat → Bst) (m : Nat) : ((dOf G m).map fun q => keyD q.1) = (dPs G m).map natI := by
  induction m with
  | zero => rfl
  | succ m ih =>
    rw [dOf_succ, List.map_append, ih]
    unfold dPs
    rw [List.range_succ, List.filter_append, List.map_append]
    congr 1
    cases h : G m <;> simp [h, natI, keyD]
theorem le_nats (p q : Nat) : PySem.W.dataLe false (fun d => d) (natI p) (natI q) = decide ((p : Int) ≤ (q : Int)) := congrFun (congrFun (PySem.W.dataLe_int (β := Nat) fun l => (l : Int)) p) q
theorem sort_nats {l : List Nat} (h : l.Pairwise (· < ·)) : sortD (l.map natI) = l.map natI := by
  unfold sortD
  refine List.mergeSort_of_pairwise ?_
  rw [List.pairwise_map]
  exact h.imp fun {a b} hab => by rw [le_nats]; exact decide_eq_true (by omega)
theorem nats_alike (l : List Nat) : PySem.W.AllAlike (l.map natI) ∧ PySem.W.Sortable (l.map natI) :=
  ⟨PySem.W.AllAlike.of (enc := natI) fun _ _ => rfl, PySem.W.Sortable.others (enc := natI) fun _ => ⟨(fun z => by cases z), fun _ z => by cases z⟩⟩
theorem dPs_rise (G : Nat → Bst) (m : Nat) : (dPs G m).Pairwise (· < ·) := List.Pairwise.filter _ List.pairwise_lt_range
theorem dOf_sort (G : Nat → Bst) (m : Nat) : sortD ((dOf G m).map fun q => keyD q.1) = (dPs G m).map natI := by rw [dOf_keys, sort_nats (dPs_rise G m)]
theorem fold_ps (G : Nat → Bst) : ∀ (l : List Nat) (acc : Bst), (l.filter fun p => (G p).isSome).foldl (fun acc p => cmb acc (G p)) acc = l.foldl (fun acc p => cmb acc (G p)) acc
  | [], acc => rfl
  | p :: l, acc => by
    cases e : G p with
    | none =>
      rw [List.filter_cons_of_neg (by rw [e]; decide), List.foldl_cons, e, cmb_none]
      exact fold_ps G l acc
    | some q =>
      rw [List.filter_cons_of_pos (by rw [e]; rfl), List.foldl_cons, List.foldl_cons]
      exact fold_ps G l _
def bFin (G : Nat → Bst) (pre : List Nat) : Bst := pre.foldl (fun acc p => cmb acc (G p)) none
theorem bFin_snoc (G : Nat → Bst) (pre : List Nat) (p : Nat) : bFin G (pre ++ [p]) = cmb (bFin G pre) (G p) := by
  unfold bFin
  rw [List.foldl_append]
  rfl
theorem best_fin (M : Mk) (c : Nat) (a n : List Nat) : bFin (bAt M n (c :: a)) (dPs (bAt M n (c :: a)) n.length) = bestL M (c :: a) n := by
  rw [best_fold]
  exact fold_ps _ _ none
def R_best_of (ds : List PyData) (r : Res) : Prop := ∃ M a n, ds = [mkD M, tx a, tx n] ∧ okM M ∧ a.length ≤ 100 ∧ n.length ≤ 1000 ∧ r = .ok (optB (bestL M a n))
def R_best (C0 C1 C2 : Addr) (ds : List PyData) (r : Res) : Prop := ∃ d1 d2 d3, ds = [d1, d2, d3] ∧ (tpOf d1).length ≤ 10000 ∧ okd d2 ∧ okd d3 ∧
  r = if isMarks d1 = true then (if isAsk d2 = true then (if isName d3 = true then .ok (optB (bestL (mkOf d1) (cod d2) (cod d3))) else .error C0) else .error C1) else .error C2
theorem map_selfT (l : List PyData) : PyData.tuple l = PyData.tuple (l.map fun d => d) := by rw [List.map_id']
theorem cm_small {a b : Int} (ha : -1000000 ≤ a ∧ a ≤ 1000000) (hb : -1000000 ≤ b ∧ b ≤ 1000000) : CMulW a b := by
  have h1 : a.natAbs ≤ 1000000 := by omega
  have h2 : b.natAbs ≤ 1000000 := by omega
  exact cmul_sq (Nat.lt_of_le_of_lt h1 (by decide)) (Nat.lt_of_le_of_lt h2 (by decide))
theorem fm_mem {w : List Nat → Int} : ∀ {l : List (List Nat)} {q : Int × List Nat}, fmL w l = some q → q.2 ∈ l ∧ q.1 = w q.2
  | [], q, h => by cases h
  | r :: l, q, h => by
    rw [fm_cons] at h
    cases e : fmL w l with
    | none =>
      rw [e] at h
      cases h
      exact ⟨List.mem_cons_self, rfl⟩
    | some q' =>
      rw [e] at h
      simp only [cmb] at h
      split at h
      · cases h
        exact ⟨List.mem_cons_of_mem _ (fm_mem e).1, (fm_mem e).2⟩
      · cases h
        exact ⟨List.mem_cons_self, rfl⟩
theorem bAt_len {M : Mk} {n a : List Nat} {p : Nat} {q : Int × List Nat} (h : bAt M n a p = some q) : q.2.length = a.length := by
  have hm := (fm_mem h).1
  cases a with
  | nil => cases hm
  | cons c a =>
    by_cases hh : hitC c (n.getD p 0) = true
    · rw [RB_hit hh] at hm
      obtain ⟨t, ht, e⟩ := List.mem_map.mp hm
      rw [← e, List.length_cons, List.length_cons, rows_mem ht]
    · rw [RB_miss (by simpa using hh)] at hm
      cases hm
end Lf
set_option Elab.async false
set_option linter.all false
set_option maxRecDepth 100000
set_option maxHeartbeats 4000000
namespace Lf
open PySem PySem.Spec PyProof.Rows L2 LamX
/-! ### bounds -/
def bo (M : Mk) (a : List Nat) : Int := if a = [] then 0 else (a.length : Int) * (M.h + M.st + M.sm) + M.hd + ((a.length : Int) - 1) * M.rn
def R_bound_of (ds : List PyData) (r : Res) : Prop := ∃ M a, ds = [mkD M, tx a] ∧ okM M ∧ a.length ≤ 1000 ∧ r = .ok (.int (bo M a))
def hdH (M : Mk) (a n : List Nat) : Int := if (!decide (a = []) && hitC (a.getD 0 0) (n.getD 0 0)) = true then M.hd else 0
def hdL (M : Mk) (a n : List Nat) : Int := if (!decide (a = [])) = true then M.hd - hdH M a n else 0
def lessB (a n : List Nat) : Int := if (a.length : Int) - ((startsL n).length : Int) > 0 then (a.length : Int) - ((startsL n).length : Int) else 0
def bd (M : Mk) (a n : List Nat) : Int := bo M a - lessB a n * M.st - hdL M a n
def optI : Option Int → PyData
  | none => .none
  | some i => .int i
def bdO (M : Mk) (a n : List Nat) : Option Int := if gr a n 0 = none then none else some (bd M a n)
def R_bound (C0 C1 C2 : Addr) (ds : List PyData) (r : Res) : Prop := ∃ d1 d2 d3, ds = [d1, d2, d3] ∧ (tpOf d1).length ≤ 10000 ∧ okd d2 ∧ okd d3 ∧
  r = if isMarks d1 = true then (if isAsk d2 = true then (if isName d3 = true then .ok (optI (bdO (mkOf d1) (cod d2) (cod d3))) else .error C0) else .error C1) else .error C2
/-! ### the law's own -/
def lawBd (M : Mk) (a n : List Nat) : Int := (a.length : Int) * (M.h + M.sm) + M.st * (if ((startsL n).length : Int) < (a.length : Int) then ((startsL n).length : Int) else (a.length : Int)) + M.rn * (if (a.length : Int) - 1 > 0 then (a.length : Int) - 1 else 0)
def lawBh (M : Mk) (a n : List Nat) : Int := if (decide ((a.length : Int) > 0) && hitL (a.getD 0 0) (n.getD 0 0)) = true then lawBd M a n + M.hd else lawBd M a n
theorem bd_law {M : Mk} {a n : List Nat} (hn : isNm n = true) : lawBh M a n = bd M a n := by
  have hnl := isNm_len hn
  have h0 : n.getD 0 0 ∈ alpha := by
    refine isNm_alpha hn _ ?_
    rw [List.getD_eq_getElem?_getD, List.getElem?_eq_getElem (by omega)]
    exact List.getElem_mem _
  unfold lawBh bd bo hdL hdH lessB lawBd
  rw [hit_same h0]
  cases a with
  | nil =>
    simp
    split <;> omega
  | cons c a =>
    simp only [List.length_cons, reduceCtorEq, decide_false, Bool.not_false, if_true, if_false, Bool.true_and]
    have hl : (0 : Int) < ((a.length + 1 : Nat) : Int) := by omega
    generalize ((a.length + 1 : Nat) : Int) = L at hl
    generalize ((startsL n).length : Int) = W
    have e1 : (decide (L > 0) && hitC ((c :: a).getD 0 0) (n.getD 0 0)) = hitC ((c :: a).getD 0 0) (n.getD 0 0) := by
      rw [decide_eq_true hl, Bool.true_and]
    rw [e1]
    have e2 : L * (M.h + M.st + M.sm) = L * (M.h + M.sm) + L * M.st := by
      rw [← Int.mul_add]
      congr 1
      omega
    have e3 : M.rn * (L - 1) = (L - 1) * M.rn := Int.mul_comm _ _
    have e4 : (if L - 1 > 0 then L - 1 else 0) = L - 1 := by split <;> omega
    rw [e2, e4, e3]
    by_cases hw : W < L
    · have e5 : (L - W) * M.st = L * M.st - W * M.st := Int.sub_mul _ _ _
      rw [if_pos hw, if_pos (show L - W > 0 by omega), e5, Int.mul_comm M.st W]
      cases hitC ((c :: a).getD 0 0) (n.getD 0 0)
      · rw [if_neg (by decide), if_neg (by decide)]
        omega
      · rw [if_pos rfl, if_pos rfl]
        omega
    · rw [if_neg hw, if_neg (show ¬ L - W > 0 by omega), Int.zero_mul, Int.mul_comm M.st L]
      cases hitC ((c :: a).getD 0 0) (n.getD 0 0)
      · rw [if_neg (by decide), if_neg (by decide)]
        omega
      · rw [if_pos rfl, if_pos rfl]
        omega
def R_law_bound (ds : List PyData) (r : Res) : Prop := ∃ M a n, ds = [mkD M, tx a, tx n] ∧ okM M ∧ a.length ≤ 100 ∧ isNm n = true ∧ r = .ok (optI (bdO M a n))
theorem bdO_none {M : Mk} {a n : List Nat} (h : rc a n = 0) : bdO M a n = none := by
  have : gr a n 0 = none := by
    rw [gr_none]
    have := rows_len a n 0
    rw [h] at this
    exact List.length_eq_zero_iff.mp this
  exact if_pos this
theorem bdO_some {M : Mk} {a n : List Nat} (h : ¬ rc a n = 0) (hn : isNm n = true) : bdO M a n = some (lawBh M a n) := by
  rw [bd_law hn]
  refine if_neg fun z => h ?_
  rw [gr_none] at z
  rw [← rows_len a n 0, z]
  rfl
/-! ### no worth is greater -/
def cntB (n r : List Nat) : Nat := (r.filter fun p => begins n p).length
theorem mulLe {x y z : Int} (h : x ≤ y) (hz : 0 ≤ z) : z * x ≤ z * y := Int.mul_le_mul_of_nonneg_left h hz
theorem gw_le {M : Mk} (h : okM M) {i j : Nat} (hij : i < j) : gw M i j ≤ M.rn := by
  unfold gw
  split
  · exact Int.le_refl _
  · have := Int.mul_nonneg h.sk.1 (show 0 ≤ (j : Int) - (i : Int) - 1 by omega)
    have := h.rn.1
    omega
theorem wr_le {M : Mk} (h : okM M) {n : List Nat} : ∀ (a r : List Nat) (k : Nat), r.length = a.length → (∀ i ∈ r, k ≤ i) → r.Pairwise (· < ·) → a ≠ [] → wr M n a r ≤ (a.length : Int) * (M.h + M.sm) + (cntB n r : Int) * M.st + (if k = 0 ∧ r.head? = some 0 then M.hd else 0) + ((a.length : Int) - 1) * M.rn
  | [], _, _, _, _, _, h0 => absurd rfl h0
  | c :: a, [], _, hl, _, _, _ => by simp at hl
  | c :: a, p :: r, k, hl, hk, hp, _ => by
    have hp' := List.pairwise_cons.mp hp
    have ho : ow M c n p ≤ M.h + M.sm + (if begins n p = true then M.st else 0) + (if k = 0 ∧ (p :: r).head? = some 0 then M.hd else 0) := by
      unfold ow
      have h1 := h.sm.1
      have h2 := h.hd.1
      have hkp := hk p List.mem_cons_self
      have e : (k = 0 ∧ (p :: r).head? = some 0) ↔ p = 0 := by
        simp only [List.head?_cons, Option.some.injEq]
        omega
      simp only [e]
      split <;> split <;> split <;> omega
    have hcnt : (cntB n (p :: r) : Int) * M.st = (if begins n p = true then M.st else 0) + (cntB n r : Int) * M.st := by
      unfold cntB
      by_cases hb : begins n p = true
      · rw [List.filter_cons_of_pos hb, if_pos hb, List.length_cons, show (((r.filter fun p => begins n p).length + 1 : Nat) : Int) = 1 + ((r.filter fun p => begins n p).length : Int) by omega, Int.add_mul, Int.one_mul]
      · rw [List.filter_cons_of_neg hb, if_neg hb, Int.zero_add]
    show ow M c n p + gp M p r + wr M n a r ≤ _
    rw [hcnt]
    have hlen : (((c :: a).length : Nat) : Int) = 1 + (a.length : Int) := by rw [List.length_cons]; omega
    rw [hlen, Int.add_mul, Int.one_mul]
    cases r with
    | nil =>
      have ha : a = [] := List.length_eq_zero_iff.mp (by simpa using hl.symm)
      subst ha
      show ow M c n p + 0 + 0 ≤ _
      simp only [List.length_nil, cntB, List.filter_nil]
      simp only [Int.natCast_zero, Int.zero_mul, Int.add_zero]
      have : ((1 : Int) - 1) * M.rn = 0 := by simp
      omega
    | cons q r =>
      have ha : a ≠ [] := fun z => by rw [z] at hl; simp at hl
      have hpq : p < q := hp'.1 q List.mem_cons_self
      have ih := wr_le (n := n) h a (q :: r) (p + 1) (by simpa using hl) (fun i hi => hp'.1 i hi) hp'.2 ha
      rw [if_neg (fun z => by omega)] at ih
      have hg := gw_le h hpq
      show ow M c n p + gw M p q + wr M n a (q :: r) ≤ _
      have : (1 + (a.length : Int) - 1) * M.rn = M.rn + ((a.length : Int) - 1) * M.rn := by
        rw [show (1 + (a.length : Int) - 1) = 1 + ((a.length : Int) - 1) by omega, Int.add_mul, Int.one_mul]
      omega
theorem rows_rise : ∀ {a n : List Nat} {k : Nat} {r : List Nat}, r ∈ rowsS a n k → r.Pairwise (· < ·) ∧ ∀ i ∈ r, i < k + n.length
  | [], n, k, r, h => by
    rw [rows_nil] at h
    rw [List.mem_singleton.mp h]
    exact ⟨.nil, fun i hi => by cases hi⟩
  | o :: a, [], k, r, h => by cases h
  | o :: a, c :: n, k, r, h => by
    unfold rowsS at h
    have rest : r ∈ rowsS (o :: a) n (k + 1) → r.Pairwise (· < ·) ∧ ∀ i ∈ r, i < k + (c :: n).length := fun hr => by
      obtain ⟨h1, h2⟩ := rows_rise hr
      exact ⟨h1, fun i hi => by have := h2 i hi; rw [List.length_cons]; omega⟩
    split at h
    · rcases List.mem_append.mp h with z | z
      · obtain ⟨t, ht, rfl⟩ := List.mem_map.mp z
        obtain ⟨h1, h2⟩ := rows_rise ht
        have h3 := rows_ge ht
        refine ⟨List.pairwise_cons.mpr ⟨fun i hi => by have := h3 i hi; omega, h1⟩, fun i hi => ?_⟩
        rcases List.mem_cons.mp hi with e | hi
        · rw [e, List.length_cons]; omega
        · have := h2 i hi; rw [List.length_cons]; omega
      · exact rest z
    · exact rest h
theorem rows_first {o : Nat} {a n : List Nat} {r : List Nat} (h : r ∈ rowsS (o :: a) n 0) (h0 : r.head? = some 0) : hitC o (n.getD 0 0) = true := by
  cases n with
  | nil => cases h
  | cons c n =>
    unfold rowsS at h
    by_cases hh : hitC o c = true
    · exact hh
    · rw [if_neg hh] at h
      have := rows_ge h
      cases r with
      | nil => cases h0
      | cons p r =>
        have := this p List.mem_cons_self
        cases h0
        omega
theorem best_bd {M : Mk} (h : okM M) {a n : List Nat} {q : Int × List Nat} (hb : bestL M a n = some q) : q.1 ≤ bd M a n := by
  obtain ⟨hm, hq⟩ := fm_mem hb
  rw [hq]
  cases a with
  | nil =>
    rw [rows_nil] at hm
    rw [List.mem_singleton.mp hm]
    show (0 : Int) ≤ bd M [] n
    unfold bd bo hdL lessB
    simp
    split <;> omega
  | cons c a =>
    obtain ⟨h1, h2⟩ := rows_rise hm
    have hl := rows_mem hm
    have hle := wr_le (n := n) h (c :: a) q.2 0 hl (fun i _ => Nat.zero_le i) h1 (by simp)
    have hc1 : cntB n q.2 ≤ (c :: a).length := by
      rw [← hl]
      exact List.length_filter_le _ _
    have hc2 : cntB n q.2 ≤ (startsL n).length := by
      refine List.Nodup.length_le_of_subset (List.Pairwise.filter _ (h1.imp fun {a b} hab => by omega)) fun i hi => ?_
      obtain ⟨g1, g2⟩ := List.mem_filter.mp hi
      exact List.mem_filter.mpr ⟨List.mem_range.mpr (by have := h2 i g1; omega), g2⟩
    have hhd : (if 0 = 0 ∧ q.2.head? = some 0 then M.hd else 0) ≤ hdH M (c :: a) n := by
      unfold hdH
      have := h.hd.1
      by_cases e : q.2.head? = some 0
      · have := rows_first hm e
        have this2 : (!decide (c :: a = []) && hitC ((c :: a).getD 0 0) (n.getD 0 0)) = true := by simpa using this
        rw [if_pos ⟨rfl, e⟩, if_pos this2]
        exact Int.le_refl _
      · simp only [e, and_false, if_false]
        split <;> omega
    refine Int.le_trans hle ?_
    have eb : bd M (c :: a) n = (((c :: a).length : Nat) : Int) * (M.h + M.st + M.sm) + M.hd + ((((c :: a).length : Nat) : Int) - 1) * M.rn - lessB (c :: a) n * M.st - (M.hd - hdH M (c :: a) n) := by
      unfold bd bo hdL
      rw [if_neg (List.cons_ne_nil c a), if_pos (show (!decide (c :: a = [])) = true by simp)]
    rw [eb]
    unfold lessB
    have hc1' : (cntB n q.2 : Int) ≤ (((c :: a).length : Nat) : Int) := by omega
    generalize (((c :: a).length : Nat) : Int) = L at *
    have e2 : L * (M.h + M.st + M.sm) = L * (M.h + M.sm) + L * M.st := by
      rw [← Int.mul_add]
      congr 1
      omega
    rw [e2]
    have hst := h.st.1
    by_cases hw : L - ((startsL n).length : Int) > 0
    · have e5 : (L - ((startsL n).length : Int)) * M.st = L * M.st - ((startsL n).length : Int) * M.st := Int.sub_mul _ _ _
      rw [if_pos hw, e5]
      have : (cntB n q.2 : Int) * M.st ≤ ((startsL n).length : Int) * M.st := Int.mul_le_mul_of_nonneg_right (by omega) hst
      omega
    · rw [if_neg hw, Int.zero_mul]
      have : (cntB n q.2 : Int) * M.st ≤ L * M.st := Int.mul_le_mul_of_nonneg_right (by omega) hst
      omega
/-! ### drawn marks -/
def mkC (h : Int) : Int := ([0, 1, 3, 10, 50, h / 8 % 51] : List Int).getD (h % 6).toNat 0
def mkL (m : Int) : Mk := ⟨mkC (drawn m 0), mkC (drawn m 1), mkC (drawn m 2), mkC (drawn m 3), mkC (drawn m 4), mkC (drawn m 5)⟩
theorem mkC_at (h : Int) : atI [PyData.int 0, .int 1, .int 3, .int 10, .int 50, .int (h / 8 % 51)] (h % 6) = some (.int (mkC h)) := by
  unfold mkC
  have h1 : h % 6 = 0 ∨ h % 6 = 1 ∨ h % 6 = 2 ∨ h % 6 = 3 ∨ h % 6 = 4 ∨ h % 6 = 5 := by omega
  rcases h1 with e | e | e | e | e | e <;> rw [e] <;> rfl
theorem mkC_ok (h : Int) : 0 ≤ mkC h ∧ mkC h ≤ 50 := by
  unfold mkC
  have h1 : h % 6 = 0 ∨ h % 6 = 1 ∨ h % 6 = 2 ∨ h % 6 = 3 ∨ h % 6 = 4 ∨ h % 6 = 5 := by omega
  have h2 : 0 ≤ h / 8 % 51 ∧ h / 8 % 51 ≤ 50 := by omega
  rcases h1 with e | e | e | e | e | e <;> rw [e] <;> first | exact h2 | exact (by decide : (0 : Int) ≤ 0 ∧ (0 : Int) ≤ 50) | exact (by decide : (0 : Int) ≤ 1 ∧ (1 : Int) ≤ 50) | exact (by decide : (0 : Int) ≤ 3 ∧ (3 : Int) ≤ 50) | exact (by decide : (0 : Int) ≤ 10 ∧ (10 : Int) ≤ 50) | exact (by decide : (0 : Int) ≤ 50 ∧ (50 : Int) ≤ 50)
theorem mkL_ok (m : Int) : okM (mkL m) := ⟨mkC_ok _, mkC_ok _, mkC_ok _, mkC_ok _, mkC_ok _, mkC_ok _⟩
def R_law_marks (ds : List PyData) (r : Res) : Prop := ∃ m, ds = [.int m] ∧ r = .ok (mkD (mkL m))
theorem R_best_ok {C0 C1 C2 : Addr} {M : Mk} {a n : List Nat} (hM : okM M) (ha : isAs a = true) (hn : isNm n = true) : R_best C0 C1 C2 [mkD M, tx a, tx n] (.ok (optB (bestL M a n))) :=
  ⟨_, _, _, rfl, by show 6 ≤ 10000; decide, okd_tx (by have := isAs_len ha; omega), okd_tx (by have := isNm_len hn; omega), by rw [if_pos (marks_ok hM), isAsk_tx, if_pos ha, isName_tx, if_pos hn, mkOf_self, cod_tx, cod_tx]⟩
theorem R_bound_ok {C0 C1 C2 : Addr} {M : Mk} {a n : List Nat} (hM : okM M) (ha : isAs a = true) (hn : isNm n = true) : R_bound C0 C1 C2 [mkD M, tx a, tx n] (.ok (optI (bdO M a n))) :=
  ⟨_, _, _, rfl, by show 6 ≤ 10000; decide, okd_tx (by have := isAs_len ha; omega), okd_tx (by have := isNm_len hn; omega), by rw [if_pos (marks_ok hM), isAsk_tx, if_pos ha, isName_tx, if_pos hn, mkOf_self, cod_tx, cod_tx]⟩
theorem lay_optI {o : Option Int} : Lay 0 (optI o) := by
  cases o with
  | none => exact lay_none
  | some i => exact lay_int
def askO (h : Int) (n : List Nat) : List Nat := if h / 2 % 4 > 0 then askIn (drawn h 2) n 8 else askL (h / 8) 3
end Lf
set_option Elab.async false
set_option linter.all false
set_option maxRecDepth 100000
set_option maxHeartbeats 4000000
namespace Lf
open PySem PySem.Spec PyProof.Rows L2 LamX
section
variable {Kf : PySem.W.Frag} {Tf : List (Addr × Str)} {F : Fx Kf Tf} {K : PySem.W.Frag} {ds : List PyData}
theorem cd_maxM {ns : List Int} {m : Int} (h : ds = ns.map PyData.int) (hm : m ∈ ns) (hu : ∀ y ∈ ns, y ≤ m) : ClD F (rMax K) [.list ds] (.int m) := fun O H xs Q _ w h2 k => by
  subst h
  obtain ⟨x, r, rfl, ⟨a, ys, ex, _, ga, ra⟩, rfl⟩ := h2
  subst ex
  refine ⟨a, ns, rfl, SqL.of (by rw [ga, ra.ints]), List.length_pos_of_mem hm, fun m' h1 h2 => ?_⟩
  have : m' = m := Int.le_antisymm (hu m' h1) (h2 m hm)
  rw [this]
  exact k _ H (ExtN.refl H) w rfl
end
/-! ### places -/
def hitsB (a n r : List Nat) : Bool := (a.zip r).all fun q => hitC q.1 (n.getD q.2 0)
def plB (a n : List Nat) (d : PyData) : Bool := isLs d && decide ((lsOf d).length = a.length) && ((lsOf d).all fun e => isCnt e 0 ((n.length : Int) - 1)) && riseI ((lsOf d).map intOf) && hitsB a n (natsOf d)
def R_are_places (ds : List PyData) (r : Res) : Prop := ∃ a n d, ds = [tx a, tx n, d] ∧ a.length ≤ 1000 ∧ n.length ≤ 10000 ∧ (lsOf d).length ≤ 10000 ∧ r = .ok (.bool (plB a n d))
theorem zip_nats (ps : List Nat) : ((cutL (ps.map natI) none (some (-1))).zip (cutL (ps.map natI) (some 1) none)).map encZ = (ps.dropLast.zip ps.tail).map fun q => PyData.tuple [natI q.1, natI q.2] := by
  rw [cut_init, cut_tail, ← List.map_dropLast, ← List.map_tail, List.zip_map, List.map_map]
  rfl
theorem zip_txn (a ps : List Nat) : ((a.map fun c => tx [c]).zip (ps.map natI)).map encZ = (a.zip ps).map fun q => PyData.tuple [tx [q.1], natI q.2] := by
  rw [List.zip_map, List.map_map]
  rfl
theorem cnt_nats {m : Nat} {ds : List PyData} (h : (ds.all fun e => isCnt e 0 ((m : Int) - 1)) = true) : ds = (ds.map fun e => (intOf e).toNat).map natI ∧ ∀ i ∈ ds.map fun e => (intOf e).toNat, i < m := by
  obtain ⟨g1, g2⟩ := cnt_ints h
  refine ⟨?_, fun i hi => ?_⟩
  · conv => lhs; rw [g1]
    rw [List.map_map, List.map_map]
    refine List.map_congr_left fun e he => ?_
    have := g2 _ (List.mem_map_of_mem he)
    show PyData.int (intOf e) = PyData.int (((intOf e).toNat : Nat) : Int)
    rw [Int.toNat_of_nonneg this.1]
  · obtain ⟨e, he, rfl⟩ := List.mem_map.mp hi
    have := g2 _ (List.mem_map_of_mem he)
    omega
theorem riseI_nats (ps : List Nat) : riseI (ps.map fun (i : Nat) => (i : Int)) = (ps.dropLast.zip ps.tail).all fun q => decide ((q.1 : Int) < (q.2 : Int)) := by
  unfold riseI
  rw [← List.map_dropLast, ← List.map_tail, List.zip_map, List.all_map]
  rfl
/-! ### rows, by what they are -/
theorem rows_iff (n : List Nat) : ∀ (a : List Nat) (k : Nat) (r : List Nat), k ≤ n.length → (r ∈ rowsS a (n.drop k) k ↔ r.length = a.length ∧ (∀ i ∈ r, k ≤ i ∧ i < n.length) ∧ r.Pairwise (· < ·) ∧ hitsB a n r = true)
  | [], k, r, hk => by
    rw [rows_nil, List.mem_singleton]
    constructor
    · rintro rfl; exact ⟨rfl, (fun i h => by cases h), .nil, rfl⟩
    · rintro ⟨h, _⟩; exact List.length_eq_zero_iff.mp h
  | c :: a, k, r, hk => by
    rw [rows_RB n c a _ k rfl hk, List.mem_flatMap]
    constructor
    · rintro ⟨i, hi, hr⟩
      have hi := List.mem_range.mp hi
      by_cases hh : hitC c (n.getD (k + i) 0) = true
      · rw [RB_hit hh] at hr
        obtain ⟨t, ht, rfl⟩ := List.mem_map.mp hr
        obtain ⟨g1, g2, g3, g4⟩ := (rows_iff n a (k + i + 1) t (by omega)).mp ht
        refine ⟨by rw [List.length_cons, List.length_cons, g1], fun j hj => ?_, List.pairwise_cons.mpr ⟨fun j hj => by have := (g2 j hj).1; omega, g3⟩, ?_⟩
        · rcases List.mem_cons.mp hj with e | hj
          · rw [e]; omega
          · have := g2 j hj; omega
        · unfold hitsB at g4 ⊢
          rw [List.zip_cons_cons, List.all_cons, g4, Bool.and_true]
          exact hh
      · rw [RB_miss (by simpa using hh)] at hr
        cases hr
    · rintro ⟨g1, g2, g3, g4⟩
      cases r with
      | nil => simp at g1
      | cons p t =>
        have hp := g2 p List.mem_cons_self
        have g3 := List.pairwise_cons.mp g3
        unfold hitsB at g4
        rw [List.zip_cons_cons, List.all_cons, Bool.and_eq_true] at g4
        refine ⟨p - k, List.mem_range.mpr (by omega), ?_⟩
        rw [show k + (p - k) = p by omega, RB_hit g4.1]
        refine List.mem_map.mpr ⟨t, (rows_iff n a (p + 1) t (by omega)).mpr ⟨by simpa using g1, fun j hj => ⟨g3.1 j hj, (g2 j (List.mem_cons_of_mem _ hj)).2⟩, g3.2, g4.2⟩, rfl⟩
theorem rows_iff0 (a n r : List Nat) : r ∈ rowsS a n 0 ↔ r.length = a.length ∧ (∀ i ∈ r, i < n.length) ∧ r.Pairwise (· < ·) ∧ hitsB a n r = true := by
  have := rows_iff n a 0 r (Nat.zero_le _)
  rw [List.drop_zero] at this
  rw [this]
  simp
theorem pl_rows {a n : List Nat} {d : PyData} (h : plB a n d = true) : d = rowD (natsOf d) ∧ natsOf d ∈ rowsS a n 0 := by
  unfold plB at h
  rw [Bool.and_eq_true, Bool.and_eq_true] at h
  obtain ⟨⟨h1, h2⟩, h3⟩ := h
  rw [Bool.and_eq_true, Bool.and_eq_true] at h1
  obtain ⟨⟨h0, hl⟩, hc⟩ := h1
  have hs : spots n.length d = true := by
    unfold spots
    rw [h0, hc, h2]
    rfl
  obtain ⟨e, g1, g2⟩ := spots_nats hs
  refine ⟨e, (rows_iff0 a n _).mpr ⟨?_, g1, g2, h3⟩⟩
  unfold natsOf
  rw [List.length_map]
  exact of_decide_eq_true hl
theorem rows_pl {a n r : List Nat} (h : r ∈ rowsS a n 0) : plB a n (rowD r) = true := by
  obtain ⟨g1, g2, g3, g4⟩ := (rows_iff0 a n r).mp h
  have hs := spots_ok g2 g3
  unfold spots at hs
  rw [Bool.and_eq_true, Bool.and_eq_true] at hs
  unfold plB
  rw [show (lsOf (rowD r)).length = r.length from by show (r.map natI).length = _; rw [List.length_map], decide_eq_true g1, show natsOf (rowD r) = r from nats_self r, g4]
  have e1 : (lsOf (rowD r)).all (fun e => isCnt e 0 ((n.length : Int) - 1)) = true := hs.1.2
  have e2 : riseI ((lsOf (rowD r)).map intOf) = true := hs.2
  rw [e1, e2]
  rfl
def R_need_places (C0 C1 C3 : Addr) (ds : List PyData) (r : Res) : Prop := ∃ d1 d2 d3, ds = [d1, d2, d3] ∧ okd d1 ∧ okd d2 ∧ (lsOf d3).length ≤ 10000 ∧
  r = if isAsk d1 = true then (if isName d2 = true then (if plB (cod d1) (cod d2) d3 = true then .ok .none else .error C3) else .error C0) else .error C1
def R_worth_of (ds : List PyData) (r : Res) : Prop := ∃ M a n q, ds = [mkD M, tx a, tx n, rowD q] ∧ okM M ∧ q ∈ rowsS a n 0 ∧ n.length ≤ 10000 ∧ r = .ok (.int (wr M n a q))
def R_worth (C0 C1 C2 C3 : Addr) (ds : List PyData) (r : Res) : Prop := ∃ d1 d2 d3 d4, ds = [d1, d2, d3, d4] ∧ (tpOf d1).length ≤ 10000 ∧ okd d2 ∧ okd d3 ∧ (lsOf d4).length ≤ 10000 ∧
  r = if isMarks d1 = true then (if isAsk d2 = true then (if isName d3 = true then (if plB (cod d2) (cod d3) d4 = true then .ok (.int (wr (mkOf d1) (cod d3) (cod d2) (natsOf d4))) else .error C3) else .error C0) else .error C1) else .error C2
theorem wr_sum {M : Mk} {n : List Nat} : ∀ {a r : List Nat}, r.length = a.length → ((a.zip r).map fun q => ow M q.1 n q.2).sum + ((r.dropLast.zip r.tail).map fun q => gw M q.1 q.2).sum = wr M n a r
  | [], r, h => by
    have : r = [] := List.length_eq_zero_iff.mp h
    subst this
    rfl
  | c :: a, [], h => by simp at h
  | c :: a, [p], h => by
    have : a = [] := List.length_eq_zero_iff.mp (by simpa using h.symm)
    subst this
    simp [wr, gp]
  | c :: a, p :: q :: r, h => by
    have ih := wr_sum (M := M) (n := n) (a := a) (r := q :: r) (by simpa using h)
    show _ = ow M c n p + gw M p q + wr M n a (q :: r)
    rw [← ih]
    simp only [List.zip_cons_cons, List.map_cons, List.sum_cons, List.dropLast_cons₂, List.tail_cons]
    omega
theorem gp_app (M : Mk) (p q : Nat) (r : List Nat) : gp M p (r ++ [q]) = match r with | [] => gw M p q | s :: _ => gw M p s := by cases r <;> rfl
def gl (M : Mk) (p : Nat) : Option Nat → Int
  | none => 0
  | some q => gw M q p
theorem wr_snoc (M : Mk) (n : List Nat) (c p : Nat) : ∀ (a r : List Nat), r.length = a.length → wr M n (a ++ [c]) (r ++ [p]) = wr M n a r + gl M p r.getLast? + ow M c n p
  | [], r, h => by
    have : r = [] := List.length_eq_zero_iff.mp h
    subst this
    simp [wr, gp, gl]
  | d :: a, [], h => by simp at h
  | d :: a, [q], h => by
    have : a = [] := List.length_eq_zero_iff.mp (by simpa using h.symm)
    subst this
    show ow M d n q + gw M q p + (ow M c n p + 0 + 0) = ow M d n q + 0 + 0 + gw M q p + ow M c n p
    omega
  | d :: a, q :: s :: r, h => by
    have ih := wr_snoc M n c p a (s :: r) (by simpa using h)
    show ow M d n q + gw M q s + wr M n (a ++ [c]) (s :: r ++ [p]) = ow M d n q + gw M q s + wr M n a (s :: r) + gl M p (q :: s :: r).getLast? + ow M c n p
    rw [ih, List.getLast?_cons_cons]
    omega
/-! ### the law's own reckoning -/
def R_law_worth (ds : List PyData) (r : Res) : Prop := ∃ M a n q, ds = [mkD M, tx a, tx n, rowD q] ∧ okM M ∧ isNm n = true ∧ a.length ≤ 100 ∧ q ∈ rowsS a n 0 ∧ r = .ok (.int (wr M n a q))
theorem enum_split {ds : List PyData} {pre post : List (Nat × PyData)} {x : Nat × PyData} (h : enumL ds = pre ++ x :: post) : pre.length < ds.length ∧ x = (pre.length, ds.getD pre.length .none) := by
  have hl : pre.length < ds.length := by
    have := congrArg List.length h
    unfold enumL at this
    simp at this
    omega
  refine ⟨hl, ?_⟩
  have h1 : (enumL ds)[pre.length]? = some x := by rw [h]; simp
  unfold enumL at h1
  rw [List.getElem?_map, List.getElem?_range hl] at h1
  exact (Option.some.inj h1).symm
theorem starts_in {n : List Nat} {p : Nat} (h : p < n.length) : inI (startsL n) (p : Int) = begins n p := by
  rw [any_nat]
  unfold startsL
  cases e : begins n p with
  | true => exact decide_eq_true (List.mem_filter.mpr ⟨List.mem_range.mpr h, e⟩)
  | false => exact decide_eq_false fun z => by rw [(List.mem_filter.mp z).2] at e; cases e
def R_law_best (ds : List PyData) (r : Res) : Prop := ∃ M a n, ds = [mkD M, tx a, tx n] ∧ okM M ∧ isNm n = true ∧ a.length ≤ 4 ∧ n.length ≤ 12 ∧ r = .ok (optB (bestL M a n))
theorem fm_spec {w : List Nat → Int} : ∀ {l : List (List Nat)}, l ≠ [] → ∃ m r, fmL w l = some (m, r) ∧ m ∈ l.map w ∧ (∀ y ∈ l.map w, y ≤ m) ∧ (l.filter fun x => decide (w x = m)).head? = some r
  | [], h => absurd rfl h
  | r :: l, _ => by
    rw [fm_cons]
    by_cases hl : l = []
    · subst hl
      refine ⟨w r, r, rfl, by simp, fun y hy => ?_, by simp⟩
      have : y = w r := by simpa using hy
      rw [this]
      exact Int.le_refl _
    · obtain ⟨m, q, h1, h2, h3, h4⟩ := fm_spec (w := w) hl
      rw [h1]
      simp only [cmb]
      by_cases hm : m > w r
      · rw [if_pos hm]
        refine ⟨m, q, rfl, List.mem_cons_of_mem _ h2, fun y hy => ?_, ?_⟩
        · rcases List.mem_cons.mp hy with e | hy
          · rw [e]; omega
          · exact h3 y hy
        · rw [List.filter_cons_of_neg (by simp; omega)]
          exact h4
      · rw [if_neg hm]
        refine ⟨w r, r, rfl, List.mem_cons_self, fun y hy => ?_, ?_⟩
        · rcases List.mem_cons.mp hy with e | hy
          · rw [e]; exact Int.le_refl _
          · have := h3 y hy; omega
        · rw [List.filter_cons_of_pos (by simp)]
          rfl
theorem at_head {α : Type} {f : α → PyData} {l : List α} {x : α} (h : l.head? = some x) : atI (l.map f) 0 = some (f x) := by
  cases l with
  | nil => cases h
  | cons a l => cases h; exact atI_nat (j := 0) rfl
theorem at_prev {q : List Nat} {k : Nat} (h : k < q.length) (h0 : 0 < k) : atI (q.map natI) ((k : Int) - 1) = some (natI (q.getD (k - 1) 0)) := by
  rw [show ((k : Int) - 1) = ((k - 1 : Nat) : Int) by omega]
  refine atI_nat ?_
  have hk1 : k - 1 < q.length := by omega
  rw [List.getElem?_map, List.getElem?_eq_getElem hk1, List.getD_eq_getElem?_getD, List.getElem?_eq_getElem hk1]
  rfl
theorem gw_at0 {M : Mk} {s p : Nat} (h : decide ((p : Int) - (s : Int) - 1 = 0) = true) : gw M s p = M.rn := by
  have := of_decide_eq_true h
  exact if_pos (by omega)
theorem gw_at1 {M : Mk} {s p : Nat} (h : decide ((p : Int) - (s : Int) - 1 = 0) = false) : gw M s p = 0 - M.sk * ((p : Int) - (s : Int) - 1) := by
  have := of_decide_eq_false h
  exact if_neg (by omega)
def R_law_refused (ds : List PyData) (r : Res) : Prop := ∃ M a n, ds = [mkD M, tx a, tx n] ∧ okM M ∧ isAs a = true ∧ r = .ok (.bool true)
theorem not_marks {d e : PyData} (h : e ∈ tpOf d) (g : isCnt e 0 50 = false) : isMarks d = false := by
  unfold isMarks
  have : ((tpOf d).all fun e => isCnt e 0 50) = false := by
    rw [Bool.eq_false_iff]
    intro z
    rw [List.all_eq_true.mp z e h] at g
    cases g
  rw [this, Bool.and_false]
theorem R_worth_er2 {C0 C1 C2 C3 : Addr} {d1 d2 d3 d4 : PyData} (h1 : (tpOf d1).length ≤ 10000) (h2 : okd d2) (h3 : okd d3) (h4 : (lsOf d4).length ≤ 10000) (h : isMarks d1 = false) : R_worth C0 C1 C2 C3 [d1, d2, d3, d4] (.error C2) := ⟨_, _, _, _, rfl, h1, h2, h3, h4, by rw [h]; rfl⟩
theorem R_best_er2 {C0 C1 C2 : Addr} {d1 d2 d3 : PyData} (h1 : (tpOf d1).length ≤ 10000) (h2 : okd d2) (h3 : okd d3) (h : isMarks d1 = false) : R_best C0 C1 C2 [d1, d2, d3] (.error C2) := ⟨_, _, _, rfl, h1, h2, h3, by rw [h]; rfl⟩
theorem R_worth_er1 {C0 C1 C2 C3 : Addr} {M : Mk} {d2 d3 d4 : PyData} (hM : okM M) (h2 : okd d2) (h3 : okd d3) (h4 : (lsOf d4).length ≤ 10000) (h : isAsk d2 = false) : R_worth C0 C1 C2 C3 [mkD M, d2, d3, d4] (.error C1) := ⟨_, _, _, _, rfl, by show 6 ≤ 10000; decide, h2, h3, h4, by rw [if_pos (marks_ok hM), h]; rfl⟩
theorem R_best_er1 {C0 C1 C2 : Addr} {M : Mk} {d2 d3 : PyData} (hM : okM M) (h2 : okd d2) (h3 : okd d3) (h : isAsk d2 = false) : R_best C0 C1 C2 [mkD M, d2, d3] (.error C1) := ⟨_, _, _, rfl, by show 6 ≤ 10000; decide, h2, h3, by rw [if_pos (marks_ok hM), h]; rfl⟩
theorem R_worth_er0 {C0 C1 C2 C3 : Addr} {M : Mk} {d2 d3 d4 : PyData} (hM : okM M) (h2 : okd d2) (h3 : okd d3) (h4 : (lsOf d4).length ≤ 10000) (ha : isAsk d2 = true) (h : isName d3 = false) : R_worth C0 C1 C2 C3 [mkD M, d2, d3, d4] (.error C0) := ⟨_, _, _, _, rfl, by show 6 ≤ 10000; decide, h2, h3, h4, by rw [if_pos (marks_ok hM), if_pos ha, h]; rfl⟩
theorem R_best_er0 {C0 C1 C2 : Addr} {M : Mk} {d2 d3 : PyData} (hM : okM M) (h2 : okd d2) (h3 : okd d3) (ha : isAsk d2 = true) (h : isName d3 = false) : R_best C0 C1 C2 [mkD M, d2, d3] (.error C0) := ⟨_, _, _, rfl, by show 6 ≤ 10000; decide, h2, h3, by rw [if_pos (marks_ok hM), if_pos ha, h]; rfl⟩
def rW (C3 : Addr) (M : Mk) (a n : List Nat) (d : PyData) : Res := if plB a n d = true then .ok (.int (wr M n a (natsOf d))) else .error C3
theorem R_worth_as {C0 C1 C2 C3 : Addr} {M : Mk} {a n : List Nat} {d : PyData} (hM : okM M) (ha : isAs a = true) (hn : isNm n = true) (hz : (lsOf d).length ≤ 10000) : R_worth C0 C1 C2 C3 [mkD M, tx a, tx n, d] (rW C3 M a n d) :=
  ⟨_, _, _, _, rfl, by show 6 ≤ 10000; decide, okd_tx (by have := isAs_len ha; omega), okd_tx (by have := isNm_len hn; omega), hz, by rw [if_pos (marks_ok hM), isAsk_tx, if_pos ha, isName_tx, if_pos hn, mkOf_self, cod_tx, cod_tx]; rfl⟩
theorem R_worth_ok {C0 C1 C2 C3 : Addr} {M : Mk} {a n q : List Nat} (hM : okM M) (ha : isAs a = true) (hn : isNm n = true) (hq : q ∈ rowsS a n 0) : R_worth C0 C1 C2 C3 [mkD M, tx a, tx n, rowD q] (.ok (.int (wr M n a q))) := by
  have hl := rows_mem hq
  have hal := isAs_len ha
  have := R_worth_as (C0 := C0) (C1 := C1) (C2 := C2) (C3 := C3) (d := rowD q) hM ha hn (by show (q.map natI).length ≤ 10000; rw [List.length_map]; omega)
  unfold rW at this
  rw [if_pos (rows_pl hq), show natsOf (rowD q) = q from nats_self q] at this
  exact this
def zW (M : Mk) (a n : List Nat) (d : PyData) : PyData := if plB a n d = true then .int (wr M n a (natsOf d)) else tx [66, 97, 100, 80, 108, 97, 99, 101, 115]
theorem zW_lay {M : Mk} {a n : List Nat} {d : PyData} : Lay 0 (zW M a n d) := by
  unfold zW
  split
  · exact lay_int
  · exact lay_tx (by decide)
def frL (a n : List Nat) : List Nat := (rowsS a n 0).headD (List.range a.length)
theorem fr_yes {a n : List Nat} (hb : (!PyData.eqv (.list ((rowsS a n 0).map rowD)) (.list [])) = true) : atI ((rowsS a n 0).map rowD) 0 = some (rowD (frL a n)) := by
  rw [rows_ne] at hb
  unfold frL
  cases q : rowsS a n 0 with
  | nil => rw [q] at hb; cases hb
  | cons r R => exact atI_nat (j := 0) rfl
theorem fr_no {a n : List Nat} (hb : (!PyData.eqv (.list ((rowsS a n 0).map rowD)) (.list [])) = false) : PyData.list ((List.range ((a.length : Nat) : Int).toNat).map fun (k : Nat) => PyData.int (0 + (k : Int))) = rowD (frL a n) := by
  rw [rows_ne] at hb
  have : rowsS a n 0 = [] := by simpa using hb
  unfold frL
  rw [this, Int.toNat_natCast]
  unfold rowD
  congr 1
  refine List.map_congr_left fun k _ => ?_
  simp [natI]
theorem fr_len {a n : List Nat} : (frL a n).length = a.length := by
  unfold frL
  cases q : rowsS a n 0 with
  | nil => simp
  | cons r R => exact rows_mem (a := a) (n := n) (k := 0) (by rw [q]; exact List.mem_cons_self)
theorem lay_flat {ds : List PyData} (h : ∀ d ∈ ds, Lay 0 d) : Lay 2 (.list ds) ∧ Lay 2 (.tuple ds) := ⟨(lay_list (n := 0) h).mono (by decide), (lay_tuple (n := 0) h).mono (by decide)⟩
theorem lay_best {b : Bst} : Lay 2 (optB b) := by
  cases b with
  | none => exact lay_none
  | some q =>
    refine lay_tuple (n := 1) fun d hd => ?_
    rcases List.mem_cons.mp hd with rfl | hd
    · exact lay_int
    · rw [List.mem_singleton.mp hd]; exact lay_nats
end Lf
set_option Elab.async false
set_option linter.all false
set_option maxRecDepth 100000
set_option maxHeartbeats 1000000
namespace Lf
open PySem PySem.Spec PyProof.Rows L2 L2H HotX LamX
/-! ### sorted(rows, key=lambda row: (0 - row[2], len(row[1]), row[0])) -/
section
variable {prog : Program} {w : World} {A : Around} {E : Value → Shared → Prop} {s : Shared} {env : Env} {m mg mb : Str → Option Value} {t : Addr}
theorem sk_row {Q : Value → Shared → Prop} {x : Str} {p pos pc : Pos} {j : Int} {i kd : Nat} {its : List Value} {v : Value} (hk : env.scope.kind = .function) (hl : env.kindOf x = some .local) (hn : s.heap.Ns env.locals m) (hv : m x = some (.ref t)) (ht : IsTup s.heap t its.toArray) (hz : its.length ≤ 64) (hi : its[i]? = some v) (hj : j = (i : Int))
    (h : ∀ tk, Q v { s with toks := tk }) (hdb : (x == ("__debug__" : Str)) = false := by decide) : wpAny (model prog w) A (eval (.Subscript (.Name x p) (.Constant (.int j) kd pc) pos) env) Q E s := by
  subst hj
  refine Subscript_ (wpAny_Name (wpAny_loadName_local hk hl hn hv (wpAny_Constant_int ?_)) hdb)
  have h2 : i < its.length := (List.getElem?_eq_some_iff.mp hi).1
  refine subscriptTail_builtinR (x := v) (IsTup.typeIs (s := { s with toks := s.toks + 1 }) ht) slot_tuple_getitem.lookup (getItem_tuple (j := i) ht (by omega) (by omega) ?_ (by simpa using hi) ⟨rfl, h _⟩)
  rw [List.size_toArray]
  unfold seqIndex?
  simp
  omega
theorem sk_body {x : Str} {a0 wv : Int} {t0 t1 t2 : Tok} {nm : Str} {pl : Value} {x1 : Nat} {k1 k2 k3 k4 : Nat} {p1 p2 p3 p4 p5 p6 p7 p8 p9 p10 p11 p12 p13 p14 : Pos} (hk : env.scope.kind = .function) (hl : env.kindOf x = some .local) (hg : env.kindOf "len" = some .globalImplicit) (hG : s.heap.Ns env.globals mg) (hmg : mg "len" = none)
    (hB : s.heap.Ns env.builtins mb) (hmb : mb "len" = some (.builtin "len")) (hn : s.heap.Ns env.locals m) (hv : m x = some (.ref t)) (ht : IsTup s.heap t [.int a0 t0, .str nm t1, .int wv t2, pl].toArray) (hz : nm.length ≤ sizeLine) (hdb : (x == ("__debug__" : Str)) = false := by decide) :
    wpAny (model prog w) A (eval (.Tuple [.BinOp (.Constant (.int 0) k1 p1) .Sub (.Subscript (.Name x p2) (.Constant (.int 2) k2 p3) p4) p5, .Call (.Name "len" p6) [.Subscript (.Name x p7) (.Constant (.int 1) k3 p8) p9] [] p10, .Subscript (.Name x p11) (.Constant (.int 0) k4 p12) p13] x1 p14) env)
      (PySem.W.KeyPure (.tuple [.int (0 - wv), .int nm.length, .int a0]) s) E s := by
  have hl63 := line63
  refine wpAny_Tuple_spliced ?_
  refine args_cons (wpAny_BinOp (wpAny_Constant_int (sk_row (i := 2) hk hl hn hv ht (by simp) rfl rfl (fun tk => sub_int ?_) hdb))) rfl
  refine args_cons (Call_ (Calls.Name_function_global hk hg (Calls.loadGlobal_builtin hG hmg hB hmb (PyProof.Rows.callWith_builtin1 (args_cons (sk_row (i := 1) hk hl hn hv ht (by simp) rfl rfl (fun tk => args_nil (len_str (by omega) ?_)) hdb) rfl) rfl rfl)))) rfl
  refine args_cons (sk_row (i := 0) hk hl hn hv ht (by simp) rfl rfl (fun tk => args_nil ⟨(by show 3 ≤ sizeLine; rw [sizeLine_eq]; decide), ?_⟩) hdb) rfl
  exact ⟨_, _, rfl, fun b o e => Heap.get?_push_of_some _ e, .tuple (as := []) (Heap.get?_push_size _ rfl) rfl rfl (.cons (.int _ _) (.cons (.int _ _) (.cons (.int _ _) .nil)))⟩
abbrev skBody (x : Str) (x1 : Nat) (k1 k2 k3 k4 : Nat) (p1 p2 p3 p4 p5 p6 p7 p8 p9 p10 p11 p12 p13 p14 : Pos) : Expr :=
  .Tuple [.BinOp (.Constant (.int 0) k1 p1) .Sub (.Subscript (.Name x p2) (.Constant (.int 2) k2 p3) p4) p5, .Call (.Name "len" p6) [.Subscript (.Name x p7) (.Constant (.int 1) k3 p8) p9] [] p10, .Subscript (.Name x p11) (.Constant (.int 0) k4 p12) p13] x1 p14
theorem sk_call {x q : Str} {f c' : Addr} {params : Arguments} {scope : Scope} {cl : List (Str × Addr)} {pm ctv : Value} {a0 wv : Int} {t0 t1 t2 : Tok} {nm : Str} {pl : Value} {x1 : Nat} {k1 k2 k3 k4 : Nat} {p1 p2 p3 p4 p5 p6 p7 p8 p9 p10 p11 p12 p13 p14 : Pos}
    (hd : A.depth < recursionLimit) (of : s.heap.get? f = some (PySem.W.kla_obj "<lambda>" q params (skBody x x1 k1 k2 k3 k4 p1 p2 p3 p4 p5 p6 p7 p8 p9 p10 p11 p12 p13 p14) scope cl pm c' ctv)) (hco : scope.isCoroutine = false) (hgen : scope.isGenerator = false) (hk : scope.kind = .function) (own : ∀ y ∈ scope.names, y.2 ≠ .cell)
    (hl : scope.names.lookup x = some .local) (hg : scope.names.lookup ("len" : Str) = some .globalImplicit) (hcode : s.heap.CodeRec (.ref c') q) (hlim : s.heap.NoLimit)
    (hbind : ∀ v, bindArgs (PySem.W.kla_fn "<lambda>" q params (skBody x x1 k1 k2 k3 k4 p1 p2 p3 p4 p5 p6 p7 p8 p9 p10 p11 p12 p13 p14) scope cl pm (.ref c') ctv) ⟨[v], []⟩ = pure [(x, v)])
    (hG : s.heap.Ns mainGlobals mg) (hmg : mg "len" = none) (hB : s.heap.Ns builtinsNs mb) (hmb : mb "len" = some (.builtin "len")) (ht : IsTup s.heap t [.int a0 t0, .str nm t1, .int wv t2, pl].toArray) (hz : nm.length ≤ sizeLine) (hdb : (x == ("__debug__" : Str)) = false := by decide) :
    wpAny (model prog w) A (call (.ref f) [.ref t]) (PySem.W.KeyPure (.tuple [.int (0 - wv), .int nm.length, .int a0]) s) (fun _ _ => False) s := by
  refine wpAny_call (PySem.W.kla_callFunE hd of rfl hco hgen rfl hcode ?_)
  rw [hbind]
  refine wpAny_pure (wpAny_newFunctionEnv own (fun y hy => ?_) (fun h1 hns hsb => ⟨hlim.fresh _ hsb, ?_⟩) hk)
  · obtain rfl : y = (x, Value.ref t) := by simpa using hy
    exact hl
  have kp : ∀ b o, s.heap.get? b = some o → h1.get? b = some o := fun b o e => hsb.extBut b o (Nat.ne_of_lt (Heap.lt_size e)) (Heap.get?_push_of_some _ e)
  refine PySem.W.kla_codeExpr (wpAny_mono (sk_body (s := { s with heap := h1, toks := s.toks + [(x, Value.ref t)].length }) (m := fun y => [(x, Value.ref t)].reverse.lookup y) hk hl hg (hG.keeps kp) hmg (hB.keeps kp) hmb hns (by simp) (ht.keeps kp) hz hdb) (fun v s' hq => ?_) fun e s' hq => hq)
  obtain ⟨h', tk, rfl, k2, r⟩ := hq
  exact ⟨h', tk, rfl, fun b o e => k2 b o (kp b o e), r⟩
end
/-- a row: number, name, worth, places -/
abbrev Rk := Int × Str × Int × PyData
def rkD (b : Rk) : PyData := .tuple [.int b.1, .str b.2.1, .int b.2.2.1, b.2.2.2]
def rkK (b : Rk) : PyData := .tuple [.int (0 - b.2.2.1), .int b.2.1.length, .int b.1]
def rkS (bs : List Rk) : List Rk := bs.mergeSort (PySem.W.dataLe false rkK)
theorem each_rk {O : Addr → Prop} {H : Hp} : ∀ {bs : List Rk} {xs : List V} {us : List Value}, DtAll O H (bs.map rkD) xs → Vals xs us → PySem.W.EachIs (fun u b => ∃ x, RelV x u ∧ Dt O H (rkD b) x) us bs
  | [], _, _, h, r => by
    cases (show _ = ([] : List V) from h)
    cases r
    exact .nil
  | b :: bs, _, _, h, r => by
    obtain ⟨x, xs, rfl, h1, h2⟩ := h
    cases r with
    | cons rx rr => exact .cons ⟨x, rx, h1⟩ (each_rk h2 rr)
theorem of_each_rk {O : Addr → Prop} {H : Hp} : ∀ {bs : List Rk} {us : List Value}, PySem.W.EachIs (fun u b => ∃ x, RelV x u ∧ Dt O H (rkD b) x) us bs → ∃ xs, Vals xs us ∧ DtAll O H (bs.map rkD) xs
  | _, _, .nil => ⟨[], .nil, rfl⟩
  | _, _, .cons ⟨x, r, h⟩ t => by
    obtain ⟨xs, a, b⟩ := of_each_rk t
    exact ⟨x :: xs, .cons r a, x, xs, rfl, h, b⟩
theorem rk_alike (bs : List Rk) : PySem.W.AllAlike (bs.map rkK) := PySem.W.AllAlike.of fun _ _ => by simp [PySem.W.alike, PySem.W.alikeAll, rkK]
theorem rk_sortable (bs : List Rk) : PySem.W.Sortable (bs.map rkK) := PySem.W.Sortable.tuples fun _ => ⟨_, _, rfl⟩
section
variable {Kf : PySem.W.Frag} {Tf : List (Addr × Str)} {F : Fx Kf Tf} {δ : List Slot} {X : Cx} {N : List Str} {sc : Scope} {pos p lpos kpos : Pos}
theorem x_ranked {e : Expr} {bs : List Rk} {c P : Addr} {q x : Str} {params : Arguments} {scope : Scope} {x1 k1 k2 k3 k4 : Nat} {p1 p2 p3 p4 p5 p6 p7 p8 p9 p10 p11 p12 p13 p14 : Pos} (cx : Ctx X N sc) (co : Co X c q) (TB : TabB X.base X.mg c P) (hm : (P, q ++ "<lambda>") ∈ Tf) (hu : ∀ p ∈ Tf, p.1 = P → p.2 = q ++ "<lambda>")
    (hr : Room 2 X.A) (hms : X.mg "sorted" = none) (hml : X.mg "len" = none) (ha : PE X e (tD F δ (.list (bs.map rkD)))) (hz : ∀ b ∈ bs, b.2.1.length ≤ sizeLine)
    (hk : scope.kind = .function := by rfl) (hco : scope.isCoroutine = false := by rfl) (hgen : scope.isGenerator = false := by rfl) (hnf : ∀ y ∈ scope.names, y.2 ≠ .free := by decide +kernel) (hlc : ∀ y ∈ scope.names, y.2 ≠ .cell := by decide +kernel) (hlx : scope.names.lookup x = some .local := by decide +kernel) (hll : scope.names.lookup ("len" : Str) = some .globalImplicit := by decide +kernel) (hg : sc.names.lookup ("sorted" : Str) = some .globalImplicit := by rfl) (hdef : defaultsOf params X.env = ([], []) := by rfl)
    (hbind : ∀ (q : Str) (cl : List (Str × Addr)) (pm cv ctv v : Value), bindArgs (PySem.W.kla_fn "<lambda>" q params (skBody x x1 k1 k2 k3 k4 p1 p2 p3 p4 p5 p6 p7 p8 p9 p10 p11 p12 p13 p14) scope cl pm cv ctv) ⟨[v], []⟩ = pure [(x, v)] := by intros; rfl) (hdb : (x == ("__debug__" : Str)) = false := by decide)
    (he : ∀ pos, backTo pos (starEach [e] X.env) = (false, eval e X.env) :: backTo pos (starEach [] X.env) := by intros; rfl) :
    PE X (.Call (.Name "sorted" p) [e] [⟨some "key", .Lambda params (skBody x x1 k1 k2 k3 k4 p1 p2 p3 p4 p5 p6 p7 p8 p9 p10 p11 p12 p13 p14) scope lpos, kpos⟩] pos) (tD F δ (.list ((rkS bs).map rkD))) := by
  refine ⟨fun pins s σ H Q I h => ?_⟩
  obtain ⟨O, st, w⟩ := h
  refine wpAny_Call_Name_kw (ld_blt I (cx.gl hg) hms PyProof.Rows.boot_sorted ?_)
  refine PyProof.Rows.callWith_kw (?_) (he pos) (by rw [he]; rfl) rfl rfl
  rw [he]
  refine Calls.spliced_cons (thn (ha.run pins s σ H _ I ⟨O, st, fun v H1 e1 t1 d1 => (show (∃ O, StAt F O H σ δ ∧ Dt O H1 (.list (bs.map rkD)) v ∧ ExtN H H1 ∧ Tabs F.T H1 ∧ ∀ v H', ExtN H H' → Tabs F.T H' → Dt O H' (.list ((rkS bs).map rkD)) v → Q v H') from ⟨O, st, d1, e1, t1, w⟩)⟩) fun u s1 hq => ?_)
  obtain ⟨v, H1, I1, r1, O, st, d1, e1, t1, w⟩ := hq
  refine Calls.spliced_nil ?_
  show wpAny _ _ (evalAll ((do let v ← eval (.Lambda params _ scope lpos) X.env; standAt pos; pure v) :: [])) _ _ s1
  refine wpAny_evalAll_cons (wpAny_bind (lam_make2 (T := Tf) I1 TB co.code (by rw [co.qual]; exact hm) (by rw [co.qual]; exact hu) t1 hdef (fun y hy e => absurd e (hnf y hy)) fun f c' pm ctv H2 s2 I2 e2 t2 hf hfn hfr hcc => wpAny_bind (wpAny_standAt (wpAny_pure (wpAny_evalAll_nil ?_)))))
  obtain ⟨a, xs, rfl, na, ga, da⟩ := d1
  obtain rfl : u = Value.ref a := r1
  have ga2 : H2 a = some (.lst xs) := e2 _ _ ga (fun ps z => by cases z)
  have da2 : DtAll O H2 (bs.map rkD) xs := da.grow e2
  obtain ⟨its, rv, hl, hzl⟩ := I2.list (SqL.of ga2)
  have hln : bs.length = xs.length := by
    have := da2.len
    rw [List.length_map] at this
    omega
  obtain ⟨⟨oc, vs, tq, hoc, hdc, hvc⟩, _, _⟩ := I2.hok c' _ hcc
  obtain ⟨mb, hB1, hB2⟩ := I2.mod.blt
  show wpAny _ _ (call (.builtin "sorted") [.ref a] [(Str.ofString "key", .ref f)]) _ _ _
  refine PySem.W.sorted_key_data (b := false) (R := fun u b => ∃ x, RelV x u ∧ Dt O H2 (rkD b) x) rkK hl.isList (each_rk da2 rv) (rk_alike bs) (rk_sortable bs) (by omega) (fun b hb => ?_) (PyProof.Rows.ksk_s1 _ _) (fun _ => PyProof.Rows.ksk_l1 _ _) (fun _ => PyProof.Rows.ksk_t1 _ _) (fun v b hR hb h tk kp => ?_) fun out cc h' tk kp hnone hD ho eo => ?_
  · have hd : (rkK b).depth = 1 := by simp [rkK, PyData.depth, PyData.depthAll]
    have := hr.un
    omega
  · obtain ⟨x0, rx, dx⟩ := hR
    obtain ⟨t, ys, rfl, nt, gt, dt⟩ := dx
    obtain ⟨y0, _, rfl, h0, y1, _, rfl, h1, y2, _, rfl, h2, y3, _, rfl, h3, hnil⟩ := dt
    cases hnil
    obtain rfl : y0 = .int b.1 := h0
    obtain rfl : y1 = .str b.2.1 := h1
    obtain rfl : y2 = .int b.2.2.1 := h2
    obtain rfl : v = Value.ref t := rx
    obtain ⟨its', r', pl, _⟩ := I2.tuple (SqT.of gt)
    cases r' with
    | cons r0 r' => cases r' with
      | cons r1 r' => cases r' with
        | cons r2 r' => cases r' with
          | cons r3 r' =>
            cases r'
            obtain ⟨t0, rfl⟩ := r0
            obtain ⟨t1, rfl⟩ := r1
            obtain ⟨t2, rfl⟩ := r2
            refine sk_call (s := { s2 with heap := h, toks := tk }) (mg := X.mg) (mb := mb) ?_ (kp _ _ hf) hco hgen hk hlc hlx hll ⟨c', oc, vs, tq, rfl, kp _ _ hoc, hdc, hvc⟩ (I2.nolimit.keeps kp) (fun v => hbind _ _ _ _ _ v) ((I2.mod.glob.keeps I2.bk).keeps kp) hml ((hB1.keeps I2.bk).keeps kp) ((hB2 _ (by decide)).trans PySem.boot_len) (pl.keeps kp) (hz b hb) hdb
            have := hr.dp
            show X.A.depth < recursionLimit
            omega
  · obtain ⟨ys, r1, d1⟩ := of_each_rk eo
    have hlen : ys.length ≤ sizeLine := by
      rw [r1.length, ho, hln]
      exact hzl
    have hp : H2 (s2.heap.objs.size + 1) = none := I2.hok.fresh (Nat.le_succ _)
    refine ⟨.ref _, upd H2 (s2.heap.objs.size + 1) (.lst ys), I2.laid (t' := tk) kp (Nat.le_succ _) ⟨hlen, out, cc, r1, hD⟩, rfl, w _ _ ((e1.trans e2).trans (ext_new hp)) (tabs_new t2 hp) ?_⟩
    exact ⟨_, ys, rfl, fresh_ok (st.grow (e1.trans e2) t2).dom hp, upd_same, d1.grow (ext_new hp)⟩
end
end Lf
set_option Elab.async false
set_option linter.all false
set_option maxRecDepth 100000
set_option maxHeartbeats 1000000
namespace Lf
open PySem PySem.Spec PyProof.Rows L2 L2H HotX LamX
/-! ### the same of rows of number, name, worth -/
section
variable {prog : Program} {w : World} {A : Around} {E : Value → Shared → Prop} {s : Shared} {env : Env} {m mg mb : Str → Option Value} {t : Addr}
theorem sk_body3 {x : Str} {a0 wv : Int} {t0 t1 t2 : Tok} {nm : Str} {x1 : Nat} {k1 k2 k3 k4 : Nat} {p1 p2 p3 p4 p5 p6 p7 p8 p9 p10 p11 p12 p13 p14 : Pos} (hk : env.scope.kind = .function) (hl : env.kindOf x = some .local) (hg : env.kindOf "len" = some .globalImplicit) (hG : s.heap.Ns env.globals mg) (hmg : mg "len" = none)
    (hB : s.heap.Ns env.builtins mb) (hmb : mb "len" = some (.builtin "len")) (hn : s.heap.Ns env.locals m) (hv : m x = some (.ref t)) (ht : IsTup s.heap t [.int a0 t0, .str nm t1, .int wv t2].toArray) (hz : nm.length ≤ sizeLine) (hdb : (x == ("__debug__" : Str)) = false := by decide) :
    wpAny (model prog w) A (eval (.Tuple [.BinOp (.Constant (.int 0) k1 p1) .Sub (.Subscript (.Name x p2) (.Constant (.int 2) k2 p3) p4) p5, .Call (.Name "len" p6) [.Subscript (.Name x p7) (.Constant (.int 1) k3 p8) p9] [] p10, .Subscript (.Name x p11) (.Constant (.int 0) k4 p12) p13] x1 p14) env)
      (PySem.W.KeyPure (.tuple [.int (0 - wv), .int nm.length, .int a0]) s) E s := by
  have hl63 := line63
  refine wpAny_Tuple_spliced ?_
  refine args_cons (wpAny_BinOp (wpAny_Constant_int (sk_row (i := 2) hk hl hn hv ht (by simp) rfl rfl (fun tk => sub_int ?_) hdb))) rfl
  refine args_cons (Call_ (Calls.Name_function_global hk hg (Calls.loadGlobal_builtin hG hmg hB hmb (PyProof.Rows.callWith_builtin1 (args_cons (sk_row (i := 1) hk hl hn hv ht (by simp) rfl rfl (fun tk => args_nil (len_str (by omega) ?_)) hdb) rfl) rfl rfl)))) rfl
  refine args_cons (sk_row (i := 0) hk hl hn hv ht (by simp) rfl rfl (fun tk => args_nil ⟨(by show 3 ≤ sizeLine; rw [sizeLine_eq]; decide), ?_⟩) hdb) rfl
  exact ⟨_, _, rfl, fun b o e => Heap.get?_push_of_some _ e, .tuple (as := []) (Heap.get?_push_size _ rfl) rfl rfl (.cons (.int _ _) (.cons (.int _ _) (.cons (.int _ _) .nil)))⟩
theorem sk_call3 {x q : Str} {f c' : Addr} {params : Arguments} {scope : Scope} {cl : List (Str × Addr)} {pm ctv : Value} {a0 wv : Int} {t0 t1 t2 : Tok} {nm : Str} {x1 : Nat} {k1 k2 k3 k4 : Nat} {p1 p2 p3 p4 p5 p6 p7 p8 p9 p10 p11 p12 p13 p14 : Pos}
    (hd : A.depth < recursionLimit) (of : s.heap.get? f = some (PySem.W.kla_obj "<lambda>" q params (skBody x x1 k1 k2 k3 k4 p1 p2 p3 p4 p5 p6 p7 p8 p9 p10 p11 p12 p13 p14) scope cl pm c' ctv)) (hco : scope.isCoroutine = false) (hgen : scope.isGenerator = false) (hk : scope.kind = .function) (own : ∀ y ∈ scope.names, y.2 ≠ .cell)
    (hl : scope.names.lookup x = some .local) (hg : scope.names.lookup ("len" : Str) = some .globalImplicit) (hcode : s.heap.CodeRec (.ref c') q) (hlim : s.heap.NoLimit)
    (hbind : ∀ v, bindArgs (PySem.W.kla_fn "<lambda>" q params (skBody x x1 k1 k2 k3 k4 p1 p2 p3 p4 p5 p6 p7 p8 p9 p10 p11 p12 p13 p14) scope cl pm (.ref c') ctv) ⟨[v], []⟩ = pure [(x, v)])
    (hG : s.heap.Ns mainGlobals mg) (hmg : mg "len" = none) (hB : s.heap.Ns builtinsNs mb) (hmb : mb "len" = some (.builtin "len")) (ht : IsTup s.heap t [.int a0 t0, .str nm t1, .int wv t2].toArray) (hz : nm.length ≤ sizeLine) (hdb : (x == ("__debug__" : Str)) = false := by decide) :
    wpAny (model prog w) A (call (.ref f) [.ref t]) (PySem.W.KeyPure (.tuple [.int (0 - wv), .int nm.length, .int a0]) s) (fun _ _ => False) s := by
  refine wpAny_call (PySem.W.kla_callFunE hd of rfl hco hgen rfl hcode ?_)
  rw [hbind]
  refine wpAny_pure (wpAny_newFunctionEnv own (fun y hy => ?_) (fun h1 hns hsb => ⟨hlim.fresh _ hsb, ?_⟩) hk)
  · obtain rfl : y = (x, Value.ref t) := by simpa using hy
    exact hl
  have kp : ∀ b o, s.heap.get? b = some o → h1.get? b = some o := fun b o e => hsb.extBut b o (Nat.ne_of_lt (Heap.lt_size e)) (Heap.get?_push_of_some _ e)
  refine PySem.W.kla_codeExpr (wpAny_mono (sk_body3 (s := { s with heap := h1, toks := s.toks + [(x, Value.ref t)].length }) (m := fun y => [(x, Value.ref t)].reverse.lookup y) hk hl hg (hG.keeps kp) hmg (hB.keeps kp) hmb hns (by simp) (ht.keeps kp) hz hdb) (fun v s' hq => ?_) fun e s' hq => hq)
  obtain ⟨h', tk, rfl, k2, r⟩ := hq
  exact ⟨h', tk, rfl, fun b o e => k2 b o (kp b o e), r⟩
end
/-- a row: number, name, worth, places -/
abbrev Rk3 := Int × Str × Int
def rkD3 (b : Rk3) : PyData := .tuple [.int b.1, .str b.2.1, .int b.2.2]
def rkK3 (b : Rk3) : PyData := .tuple [.int (0 - b.2.2), .int b.2.1.length, .int b.1]
def rkS3 (bs : List Rk3) : List Rk3 := bs.mergeSort (PySem.W.dataLe false rkK3)
theorem each_rk3 {O : Addr → Prop} {H : Hp} : ∀ {bs : List Rk3} {xs : List V} {us : List Value}, DtAll O H (bs.map rkD3) xs → Vals xs us → PySem.W.EachIs (fun u b => ∃ x, RelV x u ∧ Dt O H (rkD3 b) x) us bs
  | [], _, _, h, r => by
    cases (show _ = ([] : List V) from h)
    cases r
    exact .nil
  | b :: bs, _, _, h, r => by
    obtain ⟨x, xs, rfl, h1, h2⟩ := h
    cases r with
    | cons rx rr => exact .cons ⟨x, rx, h1⟩ (each_rk3 h2 rr)
theorem of_each_rk3 {O : Addr → Prop} {H : Hp} : ∀ {bs : List Rk3} {us : List Value}, PySem.W.EachIs (fun u b => ∃ x, RelV x u ∧ Dt O H (rkD3 b) x) us bs → ∃ xs, Vals xs us ∧ DtAll O H (bs.map rkD3) xs
  | _, _, .nil => ⟨[], .nil, rfl⟩
  | _, _, .cons ⟨x, r, h⟩ t => by
    obtain ⟨xs, a, b⟩ := of_each_rk3 t
    exact ⟨x :: xs, .cons r a, x, xs, rfl, h, b⟩
theorem rk_alike3 (bs : List Rk3) : PySem.W.AllAlike (bs.map rkK3) := PySem.W.AllAlike.of fun _ _ => by simp [PySem.W.alike, PySem.W.alikeAll, rkK3]
theorem rk_sortable3 (bs : List Rk3) : PySem.W.Sortable (bs.map rkK3) := PySem.W.Sortable.tuples fun _ => ⟨_, _, rfl⟩
section
variable {Kf : PySem.W.Frag} {Tf : List (Addr × Str)} {F : Fx Kf Tf} {δ : List Slot} {X : Cx} {N : List Str} {sc : Scope} {pos p lpos kpos : Pos}
theorem x_ranked3 {e : Expr} {bs : List Rk3} {c P : Addr} {q x : Str} {params : Arguments} {scope : Scope} {x1 k1 k2 k3 k4 : Nat} {p1 p2 p3 p4 p5 p6 p7 p8 p9 p10 p11 p12 p13 p14 : Pos} (cx : Ctx X N sc) (co : Co X c q) (TB : TabB X.base X.mg c P) (hm : (P, q ++ "<lambda>") ∈ Tf) (hu : ∀ p ∈ Tf, p.1 = P → p.2 = q ++ "<lambda>")
    (hr : Room 2 X.A) (hms : X.mg "sorted" = none) (hml : X.mg "len" = none) (ha : PE X e (tD F δ (.list (bs.map rkD3)))) (hz : ∀ b ∈ bs, b.2.1.length ≤ sizeLine)
    (hk : scope.kind = .function := by rfl) (hco : scope.isCoroutine = false := by rfl) (hgen : scope.isGenerator = false := by rfl) (hnf : ∀ y ∈ scope.names, y.2 ≠ .free := by decide +kernel) (hlc : ∀ y ∈ scope.names, y.2 ≠ .cell := by decide +kernel) (hlx : scope.names.lookup x = some .local := by decide +kernel) (hll : scope.names.lookup ("len" : Str) = some .globalImplicit := by decide +kernel) (hg : sc.names.lookup ("sorted" : Str) = some .globalImplicit := by rfl) (hdef : defaultsOf params X.env = ([], []) := by rfl)
    (hbind : ∀ (q : Str) (cl : List (Str × Addr)) (pm cv ctv v : Value), bindArgs (PySem.W.kla_fn "<lambda>" q params (skBody x x1 k1 k2 k3 k4 p1 p2 p3 p4 p5 p6 p7 p8 p9 p10 p11 p12 p13 p14) scope cl pm cv ctv) ⟨[v], []⟩ = pure [(x, v)] := by intros; rfl) (hdb : (x == ("__debug__" : Str)) = false := by decide)
    (he : ∀ pos, backTo pos (starEach [e] X.env) = (false, eval e X.env) :: backTo pos (starEach [] X.env) := by intros; rfl) :
    PE X (.Call (.Name "sorted" p) [e] [⟨some "key", .Lambda params (skBody x x1 k1 k2 k3 k4 p1 p2 p3 p4 p5 p6 p7 p8 p9 p10 p11 p12 p13 p14) scope lpos, kpos⟩] pos) (tD F δ (.list ((rkS3 bs).map rkD3))) := by
  refine ⟨fun pins s σ H Q I h => ?_⟩
  obtain ⟨O, st, w⟩ := h
  refine wpAny_Call_Name_kw (ld_blt I (cx.gl hg) hms PyProof.Rows.boot_sorted ?_)
  refine PyProof.Rows.callWith_kw (?_) (he pos) (by rw [he]; rfl) rfl rfl
  rw [he]
  refine Calls.spliced_cons (thn (ha.run pins s σ H _ I ⟨O, st, fun v H1 e1 t1 d1 => (show (∃ O, StAt F O H σ δ ∧ Dt O H1 (.list (bs.map rkD3)) v ∧ ExtN H H1 ∧ Tabs F.T H1 ∧ ∀ v H', ExtN H H' → Tabs F.T H' → Dt O H' (.list ((rkS3 bs).map rkD3)) v → Q v H') from ⟨O, st, d1, e1, t1, w⟩)⟩) fun u s1 hq => ?_)
  obtain ⟨v, H1, I1, r1, O, st, d1, e1, t1, w⟩ := hq
  refine Calls.spliced_nil ?_
  show wpAny _ _ (evalAll ((do let v ← eval (.Lambda params _ scope lpos) X.env; standAt pos; pure v) :: [])) _ _ s1
  refine wpAny_evalAll_cons (wpAny_bind (lam_make2 (T := Tf) I1 TB co.code (by rw [co.qual]; exact hm) (by rw [co.qual]; exact hu) t1 hdef (fun y hy e => absurd e (hnf y hy)) fun f c' pm ctv H2 s2 I2 e2 t2 hf hfn hfr hcc => wpAny_bind (wpAny_standAt (wpAny_pure (wpAny_evalAll_nil ?_)))))
  obtain ⟨a, xs, rfl, na, ga, da⟩ := d1
  obtain rfl : u = Value.ref a := r1
  have ga2 : H2 a = some (.lst xs) := e2 _ _ ga (fun ps z => by cases z)
  have da2 : DtAll O H2 (bs.map rkD3) xs := da.grow e2
  obtain ⟨its, rv, hl, hzl⟩ := I2.list (SqL.of ga2)
  have hln : bs.length = xs.length := by
    have := da2.len
    rw [List.length_map] at this
    omega
  obtain ⟨⟨oc, vs, tq, hoc, hdc, hvc⟩, _, _⟩ := I2.hok c' _ hcc
  obtain ⟨mb, hB1, hB2⟩ := I2.mod.blt
  show wpAny _ _ (call (.builtin "sorted") [.ref a] [(Str.ofString "key", .ref f)]) _ _ _
  refine PySem.W.sorted_key_data (b := false) (R := fun u b => ∃ x, RelV x u ∧ Dt O H2 (rkD3 b) x) rkK3 hl.isList (each_rk3 da2 rv) (rk_alike3 bs) (rk_sortable3 bs) (by omega) (fun b hb => ?_) (PyProof.Rows.ksk_s1 _ _) (fun _ => PyProof.Rows.ksk_l1 _ _) (fun _ => PyProof.Rows.ksk_t1 _ _) (fun v b hR hb h tk kp => ?_) fun out cc h' tk kp hnone hD ho eo => ?_
  · have hd : (rkK3 b).depth = 1 := by simp [rkK3, PyData.depth, PyData.depthAll]
    have := hr.un
    omega
  · obtain ⟨x0, rx, dx⟩ := hR
    obtain ⟨t, ys, rfl, nt, gt, dt⟩ := dx
    obtain ⟨y0, _, rfl, h0, y1, _, rfl, h1, y2, _, rfl, h2, hnil⟩ := dt
    cases hnil
    obtain rfl : y0 = .int b.1 := h0
    obtain rfl : y1 = .str b.2.1 := h1
    obtain rfl : y2 = .int b.2.2 := h2
    obtain rfl : v = Value.ref t := rx
    obtain ⟨its', r', pl, _⟩ := I2.tuple (SqT.of gt)
    cases r' with
    | cons r0 r' => cases r' with
      | cons r1 r' => cases r' with
        | cons r2 r' =>
            cases r'
            obtain ⟨t0, rfl⟩ := r0
            obtain ⟨t1, rfl⟩ := r1
            obtain ⟨t2, rfl⟩ := r2
            refine sk_call3 (s := { s2 with heap := h, toks := tk }) (mg := X.mg) (mb := mb) ?_ (kp _ _ hf) hco hgen hk hlc hlx hll ⟨c', oc, vs, tq, rfl, kp _ _ hoc, hdc, hvc⟩ (I2.nolimit.keeps kp) (fun v => hbind _ _ _ _ _ v) ((I2.mod.glob.keeps I2.bk).keeps kp) hml ((hB1.keeps I2.bk).keeps kp) ((hB2 _ (by decide)).trans PySem.boot_len) (pl.keeps kp) (hz b hb) hdb
            have := hr.dp
            show X.A.depth < recursionLimit
            omega
  · obtain ⟨ys, r1, d1⟩ := of_each_rk3 eo
    have hlen : ys.length ≤ sizeLine := by
      rw [r1.length, ho, hln]
      exact hzl
    have hp : H2 (s2.heap.objs.size + 1) = none := I2.hok.fresh (Nat.le_succ _)
    refine ⟨.ref _, upd H2 (s2.heap.objs.size + 1) (.lst ys), I2.laid (t' := tk) kp (Nat.le_succ _) ⟨hlen, out, cc, r1, hD⟩, rfl, w _ _ ((e1.trans e2).trans (ext_new hp)) (tabs_new t2 hp) ?_⟩
    exact ⟨_, ys, rfl, fresh_ok (st.grow (e1.trans e2) t2).dom hp, upd_same, d1.grow (ext_new hp)⟩
end
end Lf
set_option Elab.async false
set_option linter.all false
set_option maxRecDepth 100000
set_option maxHeartbeats 1000000
namespace Lf
open PySem PySem.Spec PySem.W PyProof.Rows
/-! ### list(enumerate(list)) -/
def EnHd (S e it l : Addr) (items : Array Value) (i : Nat) (h : Heap) : Prop :=
  h.IsListIter it l i ∧ h.IsList l items ∧ ((∃ old, IsEnum h e it i old) ∨ ∃ old T f oT, IsEnumHeld h e it i old T f ∧ h.get? T = some oT ∧ T ≠ e ∧ T ≠ it ∧ T ≠ S)
structure EnAcc (S : Addr) (items : Array Value) (h : Heap) (as : List Addr) : Prop where
  above : ∀ a ∈ as, S < a
  lt : ∀ a ∈ as, a < h.objs.size
  rise : as.Pairwise (· < ·)
  pairs : ∀ (j : Nat) (a : Addr), as[j]? = some a → ∃ t x, items[j]? = some x ∧ h.get? a = some { cls := .type "tuple", data := .seq #[.int (j : Int) t, x] }
theorem EnAcc.keep {S : Addr} {items : Array Value} {h h' : Heap} {as : List Addr} (x : EnAcc S items h as) (k : ∀ b o, S < b → h.get? b = some o → h'.get? b = some o) : EnAcc S items h' as where
  above := x.above
  lt := fun a ha => by
    obtain ⟨j, hj⟩ := List.getElem?_of_mem ha
    obtain ⟨t, y, _, e⟩ := x.pairs j a hj
    exact Heap.lt_size (k a _ (x.above a ha) e)
  rise := x.rise
  pairs := fun j a hj => by
    obtain ⟨t, y, e1, e2⟩ := x.pairs j a hj
    exact ⟨t, y, e1, k a _ (x.above a (List.mem_of_getElem? hj)) e2⟩
theorem EnAcc.nil {S : Addr} {items : Array Value} {h : Heap} : EnAcc S items h [] := ⟨(fun a ha => absurd ha (by simp)), (fun a ha => absurd ha (by simp)), List.Pairwise.nil, (fun j a hj => by simp at hj)⟩
theorem EnAcc.snoc {S T : Addr} {items : Array Value} {h : Heap} {as : List Addr} {t : Tok} {x : Value} (y : EnAcc S items h as) (hS : S < T) (hT : ∀ a ∈ as, a < T) (hx : items[as.length]? = some x) (ho : h.get? T = some { cls := .type "tuple", data := .seq #[.int (as.length : Int) t, x] }) : EnAcc S items h (as ++ [T]) where
  above := fun a ha => by
    rcases List.mem_append.mp ha with z | z
    · exact y.above a z
    · rw [List.mem_singleton.mp z]; exact hS
  lt := fun a ha => by
    rcases List.mem_append.mp ha with z | z
    · exact y.lt a z
    · rw [List.mem_singleton.mp z]; exact Heap.lt_size ho
  rise := List.pairwise_append.mpr ⟨y.rise, List.pairwise_singleton _ _, fun a ha b hb => by rw [List.mem_singleton.mp hb]; exact hT a ha⟩
  pairs := fun j a hj => by
    by_cases hl : j < as.length
    · rw [List.getElem?_append_left hl] at hj
      exact y.pairs j a hj
    · rw [List.getElem?_append_right (by omega)] at hj
      have : j - as.length = 0 := by
        have := (List.getElem?_eq_some_iff.mp hj).1
        simp at this
        omega
      rw [this] at hj
      have e : T = a := by simpa using hj
      have e2 : j = as.length := by omega
      subst e2
      rw [← e]
      exact ⟨t, x, hx, ho⟩
section
variable {prog : Program} {w : World} {A : Around} {R : Result → Shared → Prop} {S e it l : Addr} {items : Array Value}
theorem en_loop (hA : A.in1.handled = none) (hei : e ≠ it) (he : e < S) (hit : it < S) (hl : l < S) (hle : l ≠ e) (hli : l ≠ it) (hn : items.size ≤ sizeLine) (res : Value) :
    ∀ (k i : Nat) (s : Shared) (acc : Array Value) (c : Nat) (as : List Addr), items.size - i = k → i ≤ items.size → EnHd S e it l items i s.heap → s.heap.get? S = some { cls := .type "list", dict := none, data := .seq acc c, slots := #[] } → EnAcc S items s.heap as → acc.toList = as.map Value.ref → as.length = i →
    (∀ h' tk acc' c' as', (∀ b o, b ≠ S → b ≠ e → b ≠ it → s.heap.get? b = some o → h'.get? b = some o) → h'.get? S = some { cls := .type "list", dict := none, data := .seq acc' c', slots := #[] } → EnAcc S items h' as' → acc'.toList = as'.map Value.ref → as'.length = items.size → R (.ok (.ret res)) { s with heap := h', toks := tk }) →
    codeAny (model prog w) A (.builtin "list.extend.loop" ⟨[.ref S, .ref e, res], []⟩) R s := by
  intro k
  induction k with
  | zero =>
    intro i s acc c as hk hi hst hS ha hc hlen hR
    have hin : i = items.size := by omega
    subst hin
    refine codeAny_builtin F.entry_extend_loop ?_
    rw [Around.under_plainId F.plain_extend_loop _]
    show wpAny _ A.in1 (pyNext (.ref e) >>= _) _ _ s
    obtain ⟨h1, h2, h3⟩ := hst
    have hx : items[items.size]? = none := Array.getElem?_eq_none (Nat.le_refl _)
    have fin : ∀ h', Heap.ExtBut it s.heap h' → R (.ok (.ret res)) { s with heap := h' } := fun h' hk => hR h' s.toks acc c as (fun b o _ _ hb q => hk b o hb q) (hk S _ (Nat.ne_of_gt hit) hS) (ha.keep fun b o hb q => hk b o (Nat.ne_of_gt (Nat.lt_trans hit hb)) q) hc hlen
    rcases h3 with ⟨old, h3⟩ | ⟨old, T, f, oT, h3, hT, r1, r2, r3⟩
    · exact wpAny_bind (wpAny_pyNext_enum_end hA h3 h1 h2 hx fun h' hk => wpAny_pure (fin h' hk))
    · exact wpAny_bind (wpAny_pyNext_enum_end_held hA h3 h1 h2 hx fun h' hk => wpAny_pure (fin h' hk))
  | succ k ih =>
    intro i s acc c as hk hi hst hS ha hc hlen hR
    have hlt : i < items.size := by omega
    refine codeAny_builtin F.entry_extend_loop ?_
    rw [Around.under_plainId F.plain_extend_loop _]
    show wpAny _ A.in1 (pyNext (.ref e) >>= _) _ _ s
    obtain ⟨h1, h2, h3⟩ := hst
    have ex := Array.getElem?_eq_getElem hlt
    have hSs : S < s.heap.objs.size := Heap.lt_size hS
    have ec : ((i + 1 : Nat) : Int) = (i : Int) + 1 := by omega
    have hacc : acc.size = i := by
      have := congrArg List.length hc
      rw [Array.length_toList, List.length_map] at this
      omega
    -- what is common: the tuple at T is put behind the list
    have go : ∀ h', h'.IsListIter it l (i + 1) → (∃ old T f oT, IsEnumHeld h' e it ((i : Int) + 1) old T f ∧ h'.get? T = some oT ∧ T ≠ e ∧ T ≠ it ∧ T ≠ S) → h'.get? s.heap.objs.size = some { cls := .type "tuple", data := .seq #[.int (i : Int) s.toks, items[i]] } → (∀ b o, b ≠ e → b ≠ it → s.heap.get? b = some o → h'.get? b = some o) →
        wpAny (model prog w) A.in1 (updateSeq S (·.push (.ref s.heap.objs.size)) >>= fun _ => again (.builtin "list.extend.loop" ⟨[.ref S, .ref e, res], []⟩))
          (fun fin s' => match fin with | .done f => R (.ok f) s' | .again c' => c'.quiet = true ∧ codeAny (model prog w) A c' R s') (fun e s' => R (.error e) s') { s with heap := h', toks := s.toks + 1 } := by
      intro h' q1 ⟨old, T, f, oT, q2, qT, r1, r2, r3⟩ q3 q4
      have hS' : h'.get? S = some { cls := .type "list", dict := none, data := .seq acc c, slots := #[] } := q4 S _ (Nat.ne_of_gt he) (Nat.ne_of_gt hit) hS
      have up : ∀ b o, b ≠ S → h'.get? b = some o → (h'.update S (Obj.mapSeq (·.push (.ref s.heap.objs.size)))).get? b = some o := fun b o hb q => (Heap.get?_update_other _ _ (Ne.symm hb)).trans q
      refine wpAny_bind (wpAny_updateSeq hS' rfl (wpAny_pure ⟨plainId_quiet F.plain_extend_loop _, ih (i + 1) _ (acc.push (.ref s.heap.objs.size)) _ (as ++ [s.heap.objs.size]) (by omega) hlt ⟨?_, ?_, .inr ⟨old, T, f, oT, ?_, up T _ r3 qT, r1, r2, r3⟩⟩ (Heap.get?_update_self _ hS' rfl) ?_ ?_ ?_ fun h'' tk acc' c' as' k2 a1 a2 a3 a4 => ?_⟩) (by rw [hacc]; omega) (by show (acc.push _).size ≤ sizeLine + 1; rw [Array.size_push, hacc]; omega))
      · exact q1.at fun o q => up _ _ (Nat.ne_of_lt hit) q
      · exact h2.at fun o q => up _ _ (Nat.ne_of_lt hl) (q4 _ _ hle hli q)
      · rw [ec]
        exact up _ _ (Nat.ne_of_lt he) q2
      · refine EnAcc.snoc (t := s.toks) (x := items[i]) (ha.keep fun b o hb q => up b o (Nat.ne_of_gt hb) (q4 b o (Nat.ne_of_gt (Nat.lt_trans he hb)) (Nat.ne_of_gt (Nat.lt_trans hit hb)) q)) hSs ha.lt (by rw [hlen]; exact ex) ?_
        rw [hlen]
        exact up _ _ (Nat.ne_of_gt hSs) q3
      · simp [hc]
      · simp [hlen]
      · exact hR h'' tk acc' c' as' (fun b o b1 b2 b3 q => k2 b o b1 b2 b3 (up b o b1 (q4 b o b2 b3 q))) a1 a2 a3 a4
    rcases h3 with ⟨old, h3⟩ | ⟨old, T, f, oT, h3, hT, r1, r2, r3⟩
    · refine wpAny_bind (wpAny_pyNext_enum_item h3 h1 h2 ex hei fun h' ho hit' hT hsz hk => ?_)
      exact go h' hit' ⟨_, s.heap.objs.size, false, _, ho, hT, Nat.ne_of_gt (Nat.lt_trans he hSs), Nat.ne_of_gt (Nat.lt_trans hit hSs), Nat.ne_of_gt hSs⟩ hT hk
    · refine wpAny_bind (wpAny_pyNext_enum_item_held h3 hT r1 r2 h1 h2 ex hei fun h' ho hit' hT' hsz hk => ?_)
      exact go h' hit' ⟨old, T, true, oT, ho, hk _ _ r1 r2 hT, r1, r2, r3⟩ hT' hk
theorem en_no_len : typeLookup (.type "enumerate") "__len__" = pure none := by rw [typeLookup_type, builtinLookup_eq_fast]; kernel_rfl
theorem en_no_hint : typeLookup (.type "enumerate") "__length_hint__" = pure none := by rw [typeLookup_type, builtinLookup_eq_fast]; kernel_rfl
abbrev lstO (acc : Array Value) (c : Nat) : Obj := { cls := .type "list", dict := none, data := .seq acc c, slots := #[] }
theorem EnHd.upd {i : Nat} {h h' : Heap} (x : EnHd S e it l items i h) (he : e ≠ S) (hit : it ≠ S) (hl : l ≠ S) (k : ∀ b o, b ≠ S → h.get? b = some o → h'.get? b = some o) : EnHd S e it l items i h' := by
  obtain ⟨h1, h2, h3⟩ := x
  refine ⟨h1.at fun o q => k _ o hit q, h2.at fun o q => k _ o hl q, ?_⟩
  rcases h3 with ⟨old, h3⟩ | ⟨old, T, f, oT, h3, hT, r1, r2, r3⟩
  · exact .inl ⟨old, k _ _ he h3⟩
  · exact .inr ⟨old, T, f, oT, k _ _ he h3, k _ _ r3 hT, r1, r2, r3⟩
theorem en_extend {s : Shared} {old : Value} (hA : A.in1.handled = none) (hei : e ≠ it) (he : e < S) (hit : it < S) (hl : l < S) (hle : l ≠ e) (hli : l ≠ it) (hn : items.size ≤ sizeLine) (res : Value) (hst : EnHd S e it l items 0 s.heap) (hE : IsEnum s.heap e it 0 old) {c : Nat} (hS : s.heap.get? S = some (lstO #[] c))
    (hR : ∀ h' tk acc' c' as', (∀ b o, b ≠ S → b ≠ e → b ≠ it → s.heap.get? b = some o → h'.get? b = some o) → h'.get? S = some (lstO acc' c') → EnAcc S items h' as' → acc'.toList = as'.map Value.ref → as'.length = items.size → R (.ok (.ret res)) { s with heap := h', toks := tk }) :
    wpAny (model prog w) A.in1 (Builtin.List.listExtendWith (.ref S) (.ref e) res)
      (fun fin s' => match fin with | .done f => R (.ok f) s' | .again c' => c'.quiet = true ∧ codeAny (model prog w) A c' R s') (fun e s' => R (.error e) s') s := by
  have hT : s.TypeIs (.ref e) "enumerate" := ⟨_, hE, rfl⟩
  have hSI : S ≠ e := Nat.ne_of_gt he
  unfold Builtin.List.listExtendWith
  refine wpAny_bind (wpAny_typeOf hT ?_)
  have h1 : Builtin.List.listSameRef (.ref S) (.ref e) = false := by simp [Builtin.List.listSameRef, hSI]
  have h2 : (Value.type "enumerate" == Value.type "list") = false := by decide
  have h3 : (Value.type "enumerate" == Value.type "tuple") = false := by decide
  simp only [h1, h2, h3, Bool.or_false, Bool.false_eq_true, if_false]
  refine wpAny_bind (wpAny_pyIter_enum hE ?_)
  refine wpAny_bind (wpAny_holding ?_)
  unfold Builtin.List.listLengthHint
  refine wpAny_bind (wpAny_specialOf hT en_no_len ?_)
  show wpAny _ A.in1 (specialOf (Value.ref e) (Str.ofString "__length_hint__") >>= _) _ _ _
  refine wpAny_bind (wpAny_specialOf hT en_no_hint ?_)
  refine wpAny_pure ?_
  show wpAny _ A.in1 (rule "list.extend.makes-room" >>= fun _ => Builtin.List.listTouch (.ref S) >>= fun _ =>
    again (.builtin "list.extend.loop" ⟨[.ref S, .ref e, res], []⟩)) _ _ _
  refine wpAny_bind (wpAny_rule ?_)
  refine wpAny_bind ?_
  show wpAny _ A.in1 (updateSeq S (·.push .none) >>= fun _ => updateSeq S (·.pop)) _ _ _
  refine wpAny_bind (wpAny_updateSeq hS rfl ?_)
  have hS₂ := Heap.get?_update_self (Obj.mapSeq (·.push Value.none)) hS rfl
  refine wpAny_updateSeq (hz := by seq_fits) hS₂ rfl ?_
  have hS₃ := Heap.get?_update_self (Obj.mapSeq (·.pop)) hS₂ rfl
  have oth : ∀ b o, b ≠ S → s.heap.get? b = some o → ((s.heap.update S (Obj.mapSeq (·.push Value.none))).update S (Obj.mapSeq (·.pop))).get? b = some o :=
    fun b o hb e => (Heap.get?_update_other _ _ (Ne.symm hb)).trans ((Heap.get?_update_other _ _ (Ne.symm hb)).trans e)
  refine wpAny_pure ⟨plainId_quiet F.plain_extend_loop _, en_loop hA hei he hit hl hle hli hn res items.size 0 _ _ _ [] rfl (Nat.zero_le _) (hst.upd (Nat.ne_of_lt he) (Nat.ne_of_lt hit) (Nat.ne_of_lt hl) oth) hS₃ EnAcc.nil rfl rfl fun h' tk acc' c' as' k2 a1 a2 a3 a4 => ?_⟩
  exact hR h' tk acc' c' as' (fun b o b1 b2 b3 q => k2 b o b1 b2 b3 (oth b o b1 q)) a1 a2 a3 a4
theorem en_init {s : Shared} {old : Value} (hA : A.in1.handled = none) (hei : e ≠ it) (he : e < S) (hit : it < S) (hl : l < S) (hle : l ≠ e) (hli : l ≠ it) (hn : items.size ≤ sizeLine) (hst : EnHd S e it l items 0 s.heap) (hE : IsEnum s.heap e it 0 old) (hS : s.heap.get? S = some { cls := .type "list", data := .seq #[] })
    (hR : ∀ h' tk acc' c' as', (∀ b o, b ≠ S → b ≠ e → b ≠ it → s.heap.get? b = some o → h'.get? b = some o) → h'.get? S = some (lstO acc' c') → EnAcc S items h' as' → acc'.toList = as'.map Value.ref → as'.length = items.size → R (.ok (.ret .none)) { s with heap := h', toks := tk }) :
    wpAny (model prog w) A.in1 (Builtin.«list.__init__» ⟨[.ref S, .ref e], []⟩)
      (fun fin s' => match fin with | .done f => R (.ok f) s' | .again c' => c'.quiet = true ∧ codeAny (model prog w) A c' R s') (fun e s' => R (.error e) s') s := by
  show wpAny _ A.in1 (do let old ← Builtin.List.listItems (.ref S); Builtin.List.listUpdate (.ref S) (fun _ => #[]); letGo old.toList.reverse; Builtin.List.listExtendWith (.ref S) (.ref e) .none) _ _ s
  refine wpAny_bind ?_
  unfold Builtin.List.listItems
  refine wpAny_bind (wpAny_seqItems hS rfl (wpAny_pure ?_))
  show wpAny _ A.in1 (updateSeq S (fun _ => #[]) >>= fun _ => letGo (#[] : Array Value).toList.reverse >>= fun _ => Builtin.List.listExtendWith (.ref S) (.ref e) .none) _ _ s
  refine wpAny_bind (wpAny_updateSeq hS rfl ?_)
  have hS₂ := Heap.get?_update_self (Obj.mapSeq (fun _ => (#[] : Array Value))) hS rfl
  have oth : ∀ b o, b ≠ S → s.heap.get? b = some o → (s.heap.update S (Obj.mapSeq (fun _ => (#[] : Array Value)))).get? b = some o :=
    fun b o hb e => (Heap.get?_update_other _ _ (Ne.symm hb)).trans e
  refine wpAny_bind (wpAny_letGo ?_)
  refine en_extend (old := old) hA hei he hit hl hle hli hn .none (hst.upd (Nat.ne_of_lt he) (Nat.ne_of_lt hit) (Nat.ne_of_lt hl) oth) (oth _ _ (Nat.ne_of_lt he) hE) hS₂ fun h' tk acc' c' as' k2 a1 a2 a3 a4 => ?_
  exact hR h' tk acc' c' as' (fun b o b1 b2 b3 q => k2 b o b1 b2 b3 (oth b o b1 q)) a1 a2 a3 a4
theorem en_call {s : Shared} {E : Value → Shared → Prop} {Q : Value → Shared → Prop} {old : Value} (hA : A.handled = none) (hei : e ≠ it) (he : e < s.heap.objs.size) (hit : it < s.heap.objs.size) (hl : l < s.heap.objs.size) (hle : l ≠ e) (hli : l ≠ it) (hn : items.size ≤ sizeLine) (h1 : s.heap.IsListIter it l 0) (h2 : s.heap.IsList l items) (hE : IsEnum s.heap e it 0 old)
    (hQ : ∀ h' tk acc' c' as', (∀ b o, b ≠ e → b ≠ it → s.heap.get? b = some o → h'.get? b = some o) → h'.get? s.heap.objs.size = some (lstO acc' c') → EnAcc s.heap.objs.size items h' as' → acc'.toList = as'.map Value.ref → as'.length = items.size → Q (.ref s.heap.objs.size) { s with heap := h', toks := tk }) :
    wpAny (model prog w) A (call (.type "list") [.ref e]) Q E s := by
  refine callType_codes (Q₁ := fun obj s₁ => obj = .ref s.heap.objs.size ∧ s₁ = { s with heap := s.heap.push { cls := .type "list", data := .seq #[] } }) F.called_list (F.typeCall_list_1 _) F.entry_list_init
    (code_list_new _ ⟨rfl, rfl⟩) fun obj s₁ h₁ => ?_
  obtain ⟨rfl, rfl⟩ := h₁
  have hS : (s.heap.push { cls := .type "list", data := .seq #[] }).get? s.heap.objs.size = some { cls := .type "list", data := .seq #[] } := Heap.get?_push_size _ rfl
  have oth : ∀ b o, s.heap.get? b = some o → (s.heap.push { cls := .type "list", data := .seq #[] }).get? b = some o := fun b o q => Heap.get?_push_of_some _ q
  refine ⟨⟨_, hS, rfl⟩, F.args_list_init_2 _ _, en_init (old := old) (s := { s with heap := s.heap.push { cls := .type "list", data := .seq #[] } }) (A := A.in1) hA hei he hit hl hle hli hn ⟨h1.at fun o q => oth _ o q, h2.at fun o q => oth _ o q, .inl ⟨old, oth _ _ hE⟩⟩ (oth _ _ hE) hS fun h' tk acc' c' as' k2 a1 a2 a3 a4 => ?_⟩
  exact ⟨rfl, hQ h' tk acc' c' as' (fun b o b1 b2 q => k2 b o (Nat.ne_of_lt (Heap.lt_size q)) b1 b2 (oth b o q)) a1 a2 a3 a4⟩
end
section
open L2 L2H HotX LamX LiI
variable {X : Cx}
theorem en_laid {pins : List (Addr × Obj)} {σ : L2.St} {H : Hp} {s : Shared} {h' : Heap} {tk : Nat} {xs : List V} {its : List Value} {S : Addr} {acc : Array Value} {c : Nat} {as : List Addr} (I : Inv X pins σ H s) (rv : Vals xs its) (hz : xs.length ≤ sizeLine) (hSz : s.heap.objs.size ≤ S)
    (hk : ∀ b o, s.heap.get? b = some o → h'.get? b = some o) (hS : h'.get? S = some (lstO acc c)) (ha : EnAcc S its.toArray h' as) (hacc : acc.toList = as.map Value.ref) (hl : as.length = its.length) :
    ∃ H' : Hp, (∀ b o, H b = some o → H' b = some o) ∧ H S = none ∧ (∀ t ∈ as, H t = none) ∧ H' S = some (.lst (as.map V.ref)) ∧ (∀ (j : Nat) (t : Addr), as[j]? = some t → ∃ x, xs[j]? = some x ∧ H' t = some (.tup [.int (j : Int), x])) ∧ Inv X pins σ H' { s with heap := h', toks := tk } := by
  have lx : xs.length = its.length := rv.length
  obtain ⟨kvs, hkv⟩ : ∃ kvs : List (Key × V), kvs = (List.range xs.length).map fun (j : Nat) => ((Sum.inl (j : Int) : Key), xs.getD j .non) := ⟨_, rfl⟩
  have lk : as.length = kvs.length := by rw [hkv, List.length_map, List.length_range]; omega
  have kat : ∀ (j : Nat) (p : Key × V), kvs[j]? = some p → ∃ x, xs[j]? = some x ∧ p = ((Sum.inl (j : Int) : Key), x) := fun j p hp => by
    have hj : j < xs.length := by
      have := (List.getElem?_eq_some_iff.mp hp).1
      rw [hkv, List.length_map, List.length_range] at this
      exact this
    rw [hkv, List.getElem?_map, List.getElem?_range hj] at hp
    have e := (Option.some.inj hp).symm
    refine ⟨xs.getD j .non, ?_, e⟩
    rw [List.getD_eq_getElem?_getD, List.getElem?_eq_getElem hj]
    rfl
  have hSn : S ∉ as := fun z => Nat.lt_irrefl _ (ha.above _ z)
  have nd : as.Nodup := List.Pairwise.imp (fun {a b} (h : a < b) => Nat.ne_of_lt h) ha.rise
  have new : ∀ t ∈ as, H t = none := fun t ht => I.hok.fresh (Nat.le_of_lt (Nat.lt_of_le_of_lt hSz (ha.above t ht)))
  have newS : H S = none := I.hok.fresh hSz
  have atP := putT_at as kvs (upd H S (.lst (as.map V.ref))) lk nd
  have off : ∀ b, b ∉ as → b ≠ S → putT (upd H S (.lst (as.map V.ref))) as kvs b = H b := fun b h1 h2 => by rw [putT_off as kvs _ h1, upd_ne h2]
  have low : ∀ b o, s.heap.get? b = some o → b ∉ as ∧ b ≠ S := fun b o e => ⟨fun z => absurd (Heap.lt_size e) (Nat.not_lt.mpr (Nat.le_of_lt (Nat.lt_of_le_of_lt hSz (ha.above b z)))), Nat.ne_of_lt (Nat.lt_of_lt_of_le (Heap.lt_size e) hSz)⟩
  have kp : ∀ b u, H b = some u → (putT (upd H S (.lst (as.map V.ref))) as kvs) b = some u := fun b u e => by
    rw [off b (fun z => by rw [new b z] at e; cases e) (fun z => by rw [z, newS] at e; cases e)]
    exact e
  have eS : putT (upd H S (.lst (as.map V.ref))) as kvs S = some (.lst (as.map V.ref)) := by rw [putT_off as kvs _ hSn, upd_same]
  have eT : ∀ (j : Nat) (t : Addr), as[j]? = some t → ∃ x, xs[j]? = some x ∧ putT (upd H S (.lst (as.map V.ref))) as kvs t = some (.tup [.int (j : Int), x]) := fun j t hj => by
    obtain ⟨p, e2, e3⟩ := LiI.paired_get atP hj
    obtain ⟨x, f1, rfl⟩ := kat j p e2
    exact ⟨x, f1, e3⟩
  refine ⟨putT (upd H S (.lst (as.map V.ref))) as kvs, kp, newS, new, eS, eT, ?_⟩
  refine I.un ⟨fun b o q _ _ _ => hk b o q, fun b o q _ _ _ => ⟨o.slots, hk b o q⟩, fun b o q n _ => ?_, fun b o q _ => ⟨o, hk b o q⟩, fun b xs q => kp b _ q, fun b o u q => kp b _ q, fun b ps q => ⟨#[], by rw [kp b _ q]; simp⟩⟩ (fun b u q => ?_)
  · obtain ⟨z1, z2⟩ := low b o q
    rw [off b z1 z2]
    exact n
  · by_cases hb : b ∈ as
    · obtain ⟨j, hj⟩ := List.getElem?_of_mem hb
      obtain ⟨x, e1, e2⟩ := eT j b hj
      rw [e2] at q
      cases q
      obtain ⟨t, y, f1, f2⟩ := ha.pairs j b hj
      obtain ⟨y', g1, g2⟩ := rv.get e1
      have f1 : its[j]? = some y := by simpa using f1
      rw [f1] at g1
      cases g1
      exact ⟨by show 2 ≤ sizeLine; decide, [.int (j : Int) t, y], .cons ⟨t, rfl⟩ (.cons g2 .nil), ⟨_, f2, rfl, _, rfl⟩⟩
    · by_cases hb2 : b = S
      · rw [hb2] at q ⊢
        rw [eS] at q
        cases q
        refine ⟨by rw [List.length_map]; omega, acc.toList, c, by rw [hacc]; exact LiI.vals_refs as, ?_⟩
        rw [Array.toArray_toList]
        exact hS
      · rw [off b hb hb2] at q
        exact (I.hok b u q).stay (fun d v _ y => hk d v y) (fun d y => kp d _ y) fun d xs y => kp d _ y
variable {Kf : PySem.W.Frag} {Tf : List (Addr × Str)} {F : Fx Kf Tf} {δ : List Slot} {N : List Str} {sc : Scope} {pos p p2 pos2 : Pos} {e : Expr} {ds : List PyData}
theorem x_listEnum (cx : Ctx X N sc) (hm : X.mg "list" = none) (hm2 : X.mg "enumerate" = none) (h : PE X e (tD F δ (.list ds))) (hg : sc.names.lookup ("list" : Str) = some .globalImplicit := by rfl) (hg2 : sc.names.lookup ("enumerate" : Str) = some .globalImplicit := by rfl)
    (hs : starEach [e] X.env = (false, eval e X.env) :: starEach [] X.env := by rfl) (hs2 : starEach [.Call (.Name "enumerate" p2) [e] [] pos2] X.env = (false, eval (.Call (.Name "enumerate" p2) [e] [] pos2) X.env) :: starEach [] X.env := by rfl) :
    PE X (.Call (.Name "list" p) [.Call (.Name "enumerate" p2) [e] [] pos2] [] pos) (tD F δ (.list ((enumL ds).map encL))) := by
  refine ⟨fun pins s σ H Q I hq => ?_⟩
  obtain ⟨O, st, w⟩ := hq
  refine Call_ (ld_blt I (cx.gl hg) hm boot_list (PyProof.Rows.callWith_type1 (args_cons (Call_ (ld_blt I (cx.gl hg2) hm2 boot_enumerate (PyProof.Rows.callWith_type1 (args_cons (thn (h.run pins s σ H (fun v H1 => Dt O H1 (.list ds) v ∧ ExtN H H1 ∧ Tabs F.T H1) I ⟨O, st, fun v H1 e1 t1 d1 => ?_⟩) fun u s1 hq => args_nil ?_) hs) hs rfl))) hs2) hs2 rfl))
  · exact ⟨d1, e1, t1⟩
  · obtain ⟨v, H1, I1, r1, d1, e1, t1⟩ := hq
    obtain ⟨a, xs, rfl, na, ga, da⟩ := d1
    obtain rfl : u = Value.ref a := r1
    obtain ⟨its, rv, hl, hzl⟩ := I1.list (SqL.of ga)
    refine call_enumerate_list hl.isList fun h' he hit hsz hk => args_nil ?_
    have hal : a < s1.heap.objs.size := by
      obtain ⟨o, ho, _⟩ := hl.isList
      exact Heap.lt_size ho
    have lx := rv.length
    have hli : h'.IsList a its.toArray := by
      obtain ⟨o, ho, r⟩ := hl.isList
      exact ⟨o, hk _ _ ho, r⟩
    refine en_call (s := { s1 with heap := h' }) (e := s1.heap.objs.size + 1) (it := s1.heap.objs.size) (l := a) (items := its.toArray) (old := .none) (I1.ok.hd cx.calm) (Nat.succ_ne_self _) (by show s1.heap.objs.size + 1 < h'.objs.size; rw [hsz]; exact Nat.lt_succ_self _) (by show s1.heap.objs.size < h'.objs.size; rw [hsz]; exact Nat.lt_add_of_pos_right (by decide)) (by show a < h'.objs.size; rw [hsz]; exact Nat.lt_add_right 2 hal) (Nat.ne_of_lt (Nat.lt_succ_of_lt hal)) (Nat.ne_of_lt hal) (by rw [List.size_toArray, ← lx]; exact hzl) hit hli he fun h2 tk acc c as k2 a1 a2 a3 a4 => ?_
    have k3 : ∀ b o, s1.heap.get? b = some o → h2.get? b = some o := fun b o q => k2 b o (Nat.ne_of_lt (Nat.lt_succ_of_lt (Heap.lt_size q))) (Nat.ne_of_lt (Heap.lt_size q)) (hk b o q)
    obtain ⟨H', x1, x2, x3, x4, x5, J⟩ := en_laid (tk := tk) I1 rv hzl (show s1.heap.objs.size ≤ h'.objs.size by rw [hsz]; exact Nat.le_add_right _ 2) k3 a1 a2 a3 (by rw [a4, List.size_toArray])
    have eE : ExtN H1 H' := ExtN.of x1
    have t2 : Tabs F.T H' := t1.ext x1
    have dom := (st.grow e1 t1).dom
    have ln : as.length = ds.length := by
      have := da.len
      rw [a4, List.size_toArray]
      omega
    refine ⟨.ref _, H', J, rfl, w _ H' (e1.trans eE) t2 ⟨_, _, rfl, fresh_ok dom x2, x4, DtAll.of ?_ fun j d v hd hv => ?_⟩⟩
    · rw [List.length_map, List.length_map]
      unfold enumL
      rw [List.length_map, List.length_range]
      exact ln
    · have hj : j < ds.length := by
        have := (List.getElem?_eq_some_iff.mp hd).1
        simpa [enumL] using this
      have hx : ds[j]? = some (ds.getD j .none) := by rw [List.getD_eq_getElem?_getD, List.getElem?_eq_getElem hj]; rfl
      have hd' : d = encL (j, ds.getD j .none) := by
        unfold enumL at hd
        rw [List.getElem?_map, List.getElem?_map, List.getElem?_range hj] at hd
        exact (Option.some.inj hd).symm
      rw [List.getElem?_map] at hv
      cases et : as[j]? with
      | none => rw [et] at hv; cases hv
      | some t =>
        rw [et] at hv
        obtain rfl : V.ref t = v := Option.some.inj hv
        obtain ⟨x, f1, f2⟩ := x5 j t et
        subst hd'
        exact ⟨t, _, rfl, fresh_ok dom (x3 t (List.mem_of_getElem? et)), f2, _, _, rfl, rfl, _, _, rfl, (da.at_ hx f1).grow eE, rfl⟩
end
end Lf
set_option Elab.async false
set_option linter.all false
set_option maxRecDepth 100000
set_option maxHeartbeats 1000000
namespace Lf
open PySem PySem.Spec PySem.W PyProof.Rows L2 LamX
/-! ### names found, the best first -/
def nnD (p : Nat × List Nat) : PyData := .tuple [natI p.1, tx p.2]
def rkOf (M : Mk) (a : List Nat) (p : Nat × List Nat) : Option Rk := (bestL M a p.2).map fun b => ((p.1 : Int), (⟨p.2.toArray⟩ : Str), b.1, rowD b.2)
def rowsOf (M : Mk) (a : List Nat) (ps : List (Nat × List Nat)) : List Rk := ps.filterMap (rkOf M a)
def R_ranked (ds : List PyData) (r : Res) : Prop := ∃ bs : List Rk, ds = [.list (bs.map rkD)] ∧ (∀ b ∈ bs, b.2.1.length ≤ 10000) ∧ r = .ok (.list ((rkS bs).map rkD))
def R_hits_of (ds : List PyData) (r : Res) : Prop := ∃ M a ps, ds = [mkD M, tx a, .list (ps.map nnD)] ∧ okM M ∧ a.length ≤ 100 ∧ (∀ p ∈ ps, p.2.length ≤ 1000) ∧ ps.length ≤ 10000 ∧ r = .ok (.list ((rkS (rowsOf M a ps)).map rkD))
theorem rows_snoc (M : Mk) (a : List Nat) (ps : List (Nat × List Nat)) (p : Nat × List Nat) : rowsOf M a (ps ++ [p]) = rowsOf M a ps ++ (rkOf M a p).toList := by
  unfold rowsOf
  rw [List.filterMap_append]
  cases h : rkOf M a p <;> simp [h]
theorem rkr_len (M : Mk) (a : List Nat) (ps : List (Nat × List Nat)) : (rowsOf M a ps).length ≤ ps.length := List.length_filterMap_le _ _
theorem rk_mem {M : Mk} {a : List Nat} {ps : List (Nat × List Nat)} {b : Rk} (h : b ∈ rowsOf M a ps) : ∃ p ∈ ps, ∃ q, bestL M a p.2 = some q ∧ b = ((p.1 : Int), (⟨p.2.toArray⟩ : Str), q.1, rowD q.2) := by
  unfold rowsOf at h
  obtain ⟨p, hp, e⟩ := List.mem_filterMap.mp h
  unfold rkOf at e
  cases hq : bestL M a p.2 with
  | none => rw [hq] at e; cases e
  | some q =>
    rw [hq] at e
    exact ⟨p, hp, q, hq, (Option.some.inj e).symm⟩
theorem rk_short {M : Mk} {a : List Nat} {ps : List (Nat × List Nat)} (hp : ∀ p ∈ ps, p.2.length ≤ 1000) : ∀ b ∈ rowsOf M a ps, b.2.1.length ≤ 10000 := fun b hb => by
  obtain ⟨p, h1, q, _, rfl⟩ := rk_mem hb
  have := hp p h1
  show p.2.toArray.size ≤ 10000
  simp
  omega
/-- the law's own row -/
def lrD (b : Rk) : PyData := .tuple [.int (0 - b.2.2.1), .int b.2.1.length, .int b.1, b.2.2.2]
theorem lt_iii (x y z x' y' z' : Int) : PySem.W.dataLt (.tuple [.int x, .int y, .int z]) (.tuple [.int x', .int y', .int z']) = decide (x < x' ∨ (x = x' ∧ (y < y' ∨ (y = y' ∧ z < z')))) := by
  have e : PyProof.Rows.lexLt itemOrd (PySem.W.keyToksAll []) (PySem.W.keyToksAll []) = false := PyProof.Rows.lex_irrefl _
  rw [PySem.W.dataLt_tuple, PySem.W.dataLt_cons (by simp [PySem.W.alike]), PySem.W.dataLt_cons (by simp [PySem.W.alike]), PySem.W.dataLt_cons (by simp [PySem.W.alike]), e, PySem.W.dataLt_int, PySem.W.dataLt_int, PySem.W.dataLt_int]
  simp only [PyData.eqv, beq_iff_eq]
  by_cases h1 : x = x' <;> by_cases h2 : y = y' <;> by_cases h3 : z = z' <;> simp [h1, h2, h3]
theorem lt_self (d : PyData) : PySem.W.dataLt d d = false := lex_irrefl _
theorem lt_cI (x y : Int) (r r' : List PyData) : PyProof.Rows.lexLt itemOrd (PySem.W.keyToksAll (.int x :: r)) (PySem.W.keyToksAll (.int y :: r')) = if x = y then PyProof.Rows.lexLt itemOrd (PySem.W.keyToksAll r) (PySem.W.keyToksAll r') else decide (x < y) := by
  rw [PySem.W.dataLt_cons (by simp [PySem.W.alike]), PySem.W.dataLt_int]
  by_cases h : x = y <;> simp [PyData.eqv, h]
theorem lt_lr {b b' : Rk} (h : b.1 = b'.1 → b = b') : PySem.W.dataLt (lrD b) (lrD b') = PySem.W.dataLt (rkK b) (rkK b') := by
  by_cases e : b.1 = b'.1
  · rw [h e, lt_self, lt_self]
  · unfold lrD rkK
    rw [PySem.W.dataLt_tuple, PySem.W.dataLt_tuple]
    simp only [lt_cI, if_neg e]
theorem lr_sort {bs : List Rk} (h : ∀ b ∈ bs, ∀ b' ∈ bs, b.1 = b'.1 → b = b') : sortD (bs.map lrD) = (rkS bs).map lrD := by
  unfold sortD rkS
  refine (List.map_mergeSort fun b hb b' hb' => ?_).symm
  show (!PySem.W.dataLt (rkK b') (rkK b)) = (!PySem.W.dataLt (lrD b') (lrD b))
  rw [lt_lr (h b' hb' b hb)]
end Lf
set_option Elab.async false
set_option linter.all false
set_option maxRecDepth 100000
set_option maxHeartbeats 1000000
namespace Lf
open PySem PySem.Spec PyProof.Rows L2 LamX
def enumN (ls : List (List Nat)) : List (Nat × List Nat) := (List.range ls.length).map fun i => (i, ls.getD i [])
theorem enum_nn (ls : List (List Nat)) : (enumL (ls.map tx)).map encL = (enumN ls).map nnD := by
  unfold enumL enumN
  rw [List.map_map, List.map_map, List.length_map]
  refine List.map_congr_left fun i hi => ?_
  have hi : i < ls.length := List.mem_range.mp hi
  show encL (i, (ls.map tx).getD i .none) = nnD (i, ls.getD i [])
  unfold encL nnD
  simp only [List.getD_eq_getElem?_getD, List.getElem?_map, List.getElem?_eq_getElem hi, Option.map_some, Option.getD_some]
theorem enumN_len (ls : List (List Nat)) : (enumN ls).length = ls.length := by unfold enumN; rw [List.length_map, List.length_range]
theorem enumN_mem {ls : List (List Nat)} {p : Nat × List Nat} (h : p ∈ enumN ls) : p.2 ∈ ls := by
  unfold enumN at h
  obtain ⟨i, hi, rfl⟩ := List.mem_map.mp h
  have hi : i < ls.length := List.mem_range.mp hi
  show ls.getD i [] ∈ ls
  rw [List.getD_eq_getElem?_getD, List.getElem?_eq_getElem hi]
  exact List.getElem_mem hi
theorem enumN_fst {ls : List (List Nat)} {p q : Nat × List Nat} (h : p ∈ enumN ls) (h' : q ∈ enumN ls) (e : p.1 = q.1) : p = q := by
  unfold enumN at h h'
  obtain ⟨i, _, rfl⟩ := List.mem_map.mp h
  obtain ⟨j, _, rfl⟩ := List.mem_map.mp h'
  obtain rfl : i = j := e
  rfl
theorem rows_num {M : Mk} {a : List Nat} {ls : List (List Nat)} : ∀ b ∈ rowsOf M a (enumN ls), ∀ b' ∈ rowsOf M a (enumN ls), b.1 = b'.1 → b = b' := fun b hb b' hb' e => by
  obtain ⟨p, h1, q, h2, rfl⟩ := rk_mem hb
  obtain ⟨p', h1', q', h2', rfl⟩ := rk_mem hb'
  have : p = p' := enumN_fst h1 h1' (Int.ofNat.inj e)
  subst this
  rw [h2] at h2'
  cases h2'
  rfl
def rkT (b : Rk) : PyData := .tuple [.int b.1, .int b.2.2.1, b.2.2.2]
def hitsL (M : Mk) (a : List Nat) (ls : List (List Nat)) : List PyData := (rkS (rowsOf M a (enumN ls))).map rkT
def R_hits (C0 C1 C2 C4 : Addr) (ds : List PyData) (r : Res) : Prop := ∃ d1 d2 d3 d4, ds = [d1, d2, d3, d4] ∧ (tpOf d1).length ≤ 10000 ∧ okd d2 ∧ okNs d3 ∧
  r = if isMarks d1 = true then (if isAsk d2 = true then (if areNames d3 = true then (if isCnt d4 0 60 = true then .ok (.list (cutL (hitsL (mkOf d1) (cod d2) (namesL d3)) none (some (intOf d4)))) else .error C4) else .error C0) else .error C1) else .error C2
/-- the places of the names in which an ask fits -/
def fitN (a : List Nat) (ls : List (List Nat)) : List Nat := (List.range ls.length).filter fun i => (gr a (ls.getD i []) 0).isSome
def R_fitting (C0 C1 : Addr) (ds : List PyData) (r : Res) : Prop := ∃ d2 d3, ds = [d2, d3] ∧ okd d2 ∧ okNs d3 ∧
  r = if isAsk d2 = true then (if areNames d3 = true then .ok (.list ((fitN (cod d2) (namesL d3)).map natI)) else .error C0) else .error C1
/-! ### sorted numbers -/
theorem sort_ints {l : List Int} {m : List Nat} (hp : l.Perm (m.map fun (i : Nat) => (i : Int))) (s : m.Pairwise (· < ·)) : sortD (l.map PyData.int) = m.map natI := by
  have e1 : sortD (l.map PyData.int) = (l.mergeSort fun p q => decide (p ≤ q)).map PyData.int := by
    unfold sortD
    rw [List.map_mergeSort]
    intro a _ b _
    exact (congrFun (congrFun (PySem.W.dataLe_int (β := Int) fun b => b) a) b).symm
  have tr : ∀ a b c : Int, decide (a ≤ b) = true → decide (b ≤ c) = true → decide (a ≤ c) = true := fun a b c h1 h2 => decide_eq_true (Int.le_trans (of_decide_eq_true h1) (of_decide_eq_true h2))
  have to : ∀ a b : Int, (decide (a ≤ b) || decide (b ≤ a)) = true := fun a b => by
    rcases Int.le_total a b with z | z
    · rw [decide_eq_true z]; rfl
    · rw [decide_eq_true z, Bool.or_true]
  have s1 : (l.mergeSort fun p q => decide (p ≤ q)).Pairwise fun a b => a ≤ b := (List.pairwise_mergeSort tr to l).imp fun h => of_decide_eq_true h
  have s2 : (m.map fun (i : Nat) => (i : Int)).Pairwise fun a b => a ≤ b := by
    rw [List.pairwise_map]
    exact s.imp fun h => by omega
  have e2 := List.Perm.eq_of_pairwise (le := fun a b => a ≤ b) (fun a b _ _ h1 h2 => Int.le_antisymm h1 h2) s1 s2 ((List.mergeSort_perm _ _).trans hp)
  rw [e1, e2, List.map_map]
  rfl
theorem rows_fst (M : Mk) (a : List Nat) (ls : List (List Nat)) : (rowsOf M a (enumN ls)).map (·.1) = (fitN a ls).map fun (i : Nat) => (i : Int) := by
  unfold rowsOf enumN fitN
  rw [List.filterMap_map, List.map_filterMap]
  generalize List.range ls.length = l
  induction l with
  | nil => rfl
  | cons i l ih =>
    rw [List.filterMap_cons, List.filter_cons]
    cases hq : gr a (ls.getD i []) 0 with
    | none =>
      have hb : rkOf M a (i, ls.getD i []) = none := by
        unfold rkOf
        rw [show bestL M a (i, ls.getD i []).2 = none from best_none.mpr hq]
        rfl
      simp only [Function.comp_apply, hb, Option.map_none, Option.isSome_none, Bool.false_eq_true, if_false]
      exact ih
    | some q =>
      obtain ⟨b, hb⟩ : ∃ b, bestL M a (ls.getD i []) = some b := by
        cases h : bestL M a (ls.getD i []) with
        | none => rw [best_none.mp h] at hq; cases hq
        | some b => exact ⟨b, rfl⟩
      have hb : rkOf M a (i, ls.getD i []) = some ((i : Int), (⟨(ls.getD i []).toArray⟩ : Str), b.1, rowD b.2) := by
        unfold rkOf
        rw [show bestL M a (i, ls.getD i []).2 = some b from hb]
        rfl
      simp only [Function.comp_apply, hb, Option.map_some, Option.isSome_some, if_true, List.map_cons]
      exact congrArg _ ih
theorem fit_sort (M : Mk) (a : List Nat) (ls : List (List Nat)) {bs : List Rk} (h : bs.Perm (rowsOf M a (enumN ls))) : sortD ((bs.map (·.1)).map PyData.int) = (fitN a ls).map natI := by
  refine sort_ints ?_ (List.Pairwise.filter _ List.pairwise_lt_range)
  rw [← rows_fst M]
  exact h.map _
theorem rkS_perm (bs : List Rk) : (rkS bs).Perm bs := List.mergeSort_perm _ _
theorem ints_alike (l : List Int) : PySem.W.AllAlike (l.map PyData.int) ∧ PySem.W.Sortable (l.map PyData.int) :=
  ⟨PySem.W.AllAlike.of (enc := PyData.int) fun _ _ => rfl, PySem.W.Sortable.others (enc := PyData.int) fun _ => ⟨(fun z => by cases z), fun _ z => by cases z⟩⟩
def M00 : Mk := ⟨0, 0, 0, 0, 0, 0⟩
end Lf
set_option Elab.async false
set_option linter.all false
set_option maxRecDepth 100000
set_option maxHeartbeats 1000000
namespace Lf
open PySem PySem.Spec PyProof.Rows L2 LamX
/-! ### the law's own names and rows -/
def namesM (more many most : Int) : List (List Nat) := (List.range (more % (many + 1)).toNat).map fun (j : Nat) => nameL (drawn more (20 + (j : Int))) most
def R_law_names (ds : List PyData) (r : Res) : Prop := ∃ more many most, ds = [.int more, .int many, .int most] ∧ 0 ≤ many ∧ many ≤ 1000 ∧ 0 < most ∧ most ≤ 1000 ∧ r = .ok (.list ((namesM more many most).map tx))
theorem namesM_len {more many most : Int} (h : 0 ≤ many) : ((namesM more many most).length : Int) ≤ many := by
  unfold namesM
  rw [List.length_map, List.length_range]
  have h1 := Int.emod_nonneg more (show many + 1 ≠ 0 by omega)
  have h2 := Int.emod_lt_of_pos more (show 0 < many + 1 by omega)
  omega
theorem namesM_ok {more many most : Int} (h0 : 0 < most) (h : most ≤ 30) : ∀ l ∈ namesM more many most, isNm l = true ∧ (l.length : Int) ≤ most := fun l hl => by
  unfold namesM at hl
  obtain ⟨j, _, rfl⟩ := List.mem_map.mp hl
  exact ⟨nameL_ok h0 h, (nameL_len _ _ h0).2⟩
def R_law_rows (ds : List PyData) (r : Res) : Prop := ∃ M a ls, ds = [mkD M, tx a, .list (ls.map tx)] ∧ okM M ∧ a.length ≤ 4 ∧ (∀ l ∈ ls, isNm l = true ∧ l.length ≤ 12) ∧ ls.length ≤ 1000 ∧ r = .ok (.list (hitsL M a ls))
theorem alike_nats : ∀ p q : List Nat, PySem.W.alikeAll (p.map natI) (q.map natI) = true
  | [], q => by cases q <;> rfl
  | x :: p, [] => rfl
  | x :: p, y :: q => alike_nats p q
theorem lr_alike {bs : List Rk} (h : ∀ b ∈ bs, ∃ q, b.2.2.2 = rowD q) : PySem.W.AllAlike (bs.map lrD) ∧ PySem.W.Sortable (bs.map lrD) ∧ ∀ d ∈ bs.map lrD, d.depth ≤ 30 := by
  refine ⟨fun d hd d' hd' => ?_, PySem.W.Sortable.tuples fun _ => ⟨_, _, rfl⟩, fun d hd => ?_⟩
  · obtain ⟨b, hb, rfl⟩ := List.mem_map.mp hd
    obtain ⟨b', hb', rfl⟩ := List.mem_map.mp hd'
    obtain ⟨q, e⟩ := h b hb
    obtain ⟨q', e'⟩ := h b' hb'
    unfold lrD
    rw [e, e']
    have := alike_nats q q'
    unfold rowD
    simp only [PySem.W.alike, PySem.W.alikeAll, this, Bool.and_true]
  · obtain ⟨b, hb, rfl⟩ := List.mem_map.mp hd
    obtain ⟨q, e⟩ := h b hb
    have : Lay 2 (lrD b) := by
      unfold lrD
      rw [e]
      refine lay_tuple (n := 1) fun d hd => ?_
      simp only [List.mem_cons, List.not_mem_nil, or_false] at hd
      rcases hd with rfl | rfl | rfl | rfl
      · exact lay_int
      · exact lay_int
      · exact lay_int
      · exact lay_nats
    exact Nat.le_trans this.2 (by decide)
theorem rows_pl4 {M : Mk} {a : List Nat} {ps : List (Nat × List Nat)} : ∀ b ∈ rowsOf M a ps, ∃ q, b.2.2.2 = rowD q := fun b hb => by
  obtain ⟨p, h1, q, _, rfl⟩ := rk_mem hb
  exact ⟨_, rfl⟩
theorem rkS_mem {bs : List Rk} {b : Rk} (h : b ∈ rkS bs) : b ∈ bs := (rkS_perm bs).mem_iff.mp h
theorem rkS_len (bs : List Rk) : (rkS bs).length = bs.length := List.length_mergeSort _
theorem hitsL_len (M : Mk) (a : List Nat) (ls : List (List Nat)) : (hitsL M a ls).length ≤ ls.length := by
  unfold hitsL
  rw [List.length_map, rkS_len]
  have := rkr_len M a (enumN ls)
  rwa [enumN_len] at this
theorem hits_lay {M : Mk} {a : List Nat} {ls : List (List Nat)} : ∀ d ∈ hitsL M a ls, Lay 2 d := fun d hd => by
  unfold hitsL at hd
  obtain ⟨b, hb, rfl⟩ := List.mem_map.mp hd
  obtain ⟨q, e⟩ := rows_pl4 b (rkS_mem hb)
  unfold rkT
  rw [e]
  refine lay_tuple (n := 1) fun d hd => ?_
  simp only [List.mem_cons, List.not_mem_nil, or_false] at hd
  rcases hd with rfl | rfl | rfl
  · exact lay_int
  · exact lay_int
  · exact lay_nats
theorem lay_cut {n : Nat} {ds : List PyData} {lo hi : Option Int} (h : ∀ d ∈ ds, Lay n d) : Lay (n + 1) (.list (cutL ds lo hi)) := lay_list fun d hd => h d (cut_mem hd)
theorem hits_fst (M : Mk) (a : List Nat) (ls : List (List Nat)) : sortD ((rkS (rowsOf M a (enumN ls))).map fun b => PyData.int b.1) = (fitN a ls).map natI := by
  have e := fit_sort M a ls (rkS_perm (rowsOf M a (enumN ls)))
  rw [List.map_map] at e
  exact e
theorem hits_none (M : Mk) (a : List Nat) : hitsL M a [] = [] := by simp [hitsL, rowsOf, enumN, rkS]
theorem R_hits_as {C0 C1 C2 C4 : Addr} {M : Mk} {a : List Nat} {d3 d4 : PyData} (hM : okM M) (ha : isAs a = true) (hz : okNs d3) : R_hits C0 C1 C2 C4 [mkD M, tx a, d3, d4] (if areNames d3 = true then (if isCnt d4 0 60 = true then .ok (.list (cutL (hitsL M a (namesL d3)) none (some (intOf d4)))) else .error C4) else .error C0) :=
  ⟨_, _, _, _, rfl, by show 6 ≤ 10000; decide, okd_tx (by have := isAs_len ha; omega), hz, by rw [if_pos (marks_ok hM), isAsk_tx, if_pos ha, mkOf_self, cod_tx]⟩
theorem R_hits_ok {C0 C1 C2 C4 : Addr} {M : Mk} {a : List Nat} {ls : List (List Nat)} {i : Int} (hM : okM M) (ha : isAs a = true) (hl : ls.length ≤ 60) (hn : ∀ l ∈ ls, isNm l = true) (h0 : 0 ≤ i) (h1 : i ≤ 60) : R_hits C0 C1 C2 C4 [mkD M, tx a, .list (ls.map tx), .int i] (.ok (.list (cutL (hitsL M a ls) none (some i)))) := by
  have := R_hits_as (C0 := C0) (C1 := C1) (C2 := C2) (C4 := C4) (d4 := .int i) hM ha (names_ok hl hn).2
  rw [if_pos (names_ok hl hn).1, namesL_self, if_pos (show isCnt (.int i) 0 60 = true by simp [isCnt, h0, h1])] at this
  exact this
theorem R_hits_er4 {C0 C1 C2 C4 : Addr} {M : Mk} {a : List Nat} {ls : List (List Nat)} {d : PyData} (hM : okM M) (ha : isAs a = true) (hl : ls.length ≤ 60) (hn : ∀ l ∈ ls, isNm l = true) (h : isCnt d 0 60 = false) : R_hits C0 C1 C2 C4 [mkD M, tx a, .list (ls.map tx), d] (.error C4) := by
  have := R_hits_as (C0 := C0) (C1 := C1) (C2 := C2) (C4 := C4) (d4 := d) hM ha (names_ok hl hn).2
  rw [if_pos (names_ok hl hn).1, h] at this
  exact this
theorem R_hits_er0 {C0 C1 C2 C4 : Addr} {M : Mk} {a : List Nat} {d3 d4 : PyData} (hM : okM M) (ha : isAs a = true) (hz : okNs d3) (h : areNames d3 = false) : R_hits C0 C1 C2 C4 [mkD M, tx a, d3, d4] (.error C0) := by
  have := R_hits_as (C0 := C0) (C1 := C1) (C2 := C2) (C4 := C4) (d4 := d4) hM ha hz
  rw [h] at this
  exact this
theorem R_hits_er1 {C0 C1 C2 C4 : Addr} {M : Mk} {d2 d3 d4 : PyData} (hM : okM M) (h2 : okd d2) (hz : okNs d3) (h : isAsk d2 = false) : R_hits C0 C1 C2 C4 [mkD M, d2, d3, d4] (.error C1) := ⟨_, _, _, _, rfl, by show 6 ≤ 10000; decide, h2, hz, by rw [if_pos (marks_ok hM), h]; rfl⟩
theorem R_hits_er2 {C0 C1 C2 C4 : Addr} {d1 d2 d3 d4 : PyData} (h1 : (tpOf d1).length ≤ 10000) (h2 : okd d2) (hz : okNs d3) (h : isMarks d1 = false) : R_hits C0 C1 C2 C4 [d1, d2, d3, d4] (.error C2) := ⟨_, _, _, _, rfl, h1, h2, hz, by rw [h]; rfl⟩
theorem R_fitting_ok {C0 C1 : Addr} {a : List Nat} {ls : List (List Nat)} (ha : isAs a = true) (hl : ls.length ≤ 60) (hn : ∀ l ∈ ls, isNm l = true) : R_fitting C0 C1 [tx a, .list (ls.map tx)] (.ok (.list ((fitN a ls).map natI))) :=
  ⟨_, _, rfl, okd_tx (by have := isAs_len ha; omega), (names_ok hl hn).2, by rw [isAsk_tx, if_pos ha, if_pos (names_ok hl hn).1, cod_tx, namesL_self]⟩
theorem R_fitting_er0 {C0 C1 : Addr} {a : List Nat} {d : PyData} (ha : isAs a = true) (hz : okNs d) (h : areNames d = false) : R_fitting C0 C1 [tx a, d] (.error C0) := ⟨_, _, rfl, okd_tx (by have := isAs_len ha; omega), hz, by rw [isAsk_tx, if_pos ha, h]; rfl⟩
theorem R_fitting_er1 {C0 C1 : Addr} {d2 d : PyData} (h2 : okd d2) (hz : okNs d) (h : isAsk d2 = false) : R_fitting C0 C1 [d2, d] (.error C1) := ⟨_, _, rfl, h2, hz, by rw [h]; rfl⟩
theorem lay_sort {n : Nat} {ds : List PyData} (h : ∀ d ∈ ds, Lay n d) : Lay (n + 1) (.list (sortD ds)) := lay_list fun d hd => h d ((List.mergeSort_perm _ _).mem_iff.mp hd)
theorem lay_nms {ls : List (List Nat)} (h : ∀ l ∈ ls, isNm l = true) : Lay 1 (.list (ls.map tx)) := lay_list (n := 0) fun d hd => by
  obtain ⟨l, hl, rfl⟩ := List.mem_map.mp hd
  exact lay_tx fun c hc => by
    have := (alpha_low c (isNm_alpha (h l hl) c hc)).1
    omega
theorem ls_emp (ls : List (List Nat)) : PyData.eqv (.list (ls.map tx)) (.list []) = decide (ls = []) := by
  cases ls with
  | nil => rfl
  | cons l ls => rfl
/-! ### k40's asks -/
def askX (here : Int) (ls : List (List Nat)) : List Nat := if ls = [] then askL here 3 else askIn (here / 64) (ls.getD (here % (ls.length : Int)).toNat []) 3
theorem askX_ne {ls : List (List Nat)} (hb : (!PyData.eqv (.list (ls.map tx)) (.list [])) = true) : ls ≠ [] := by
  rw [ls_emp] at hb
  simpa using hb
theorem askX_pos {ls : List (List Nat)} (hb : (!PyData.eqv (.list (ls.map tx)) (.list [])) = true) : 0 < (((ls.map tx).length : Nat) : Int) := by
  have := List.length_pos_iff.mpr (askX_ne hb)
  rw [List.length_map]
  omega
theorem askX_lt {here : Int} {ls : List (List Nat)} (h : ls ≠ []) : (here % (ls.length : Int)).toNat < ls.length := by
  have := List.length_pos_iff.mpr h
  have h1 := Int.emod_nonneg here (show (ls.length : Int) ≠ 0 by omega)
  have h2 := Int.emod_lt_of_pos here (show 0 < (ls.length : Int) by omega)
  omega
theorem askX_at {here : Int} {ls : List (List Nat)} (hb : (!PyData.eqv (.list (ls.map tx)) (.list [])) = true) : atI (ls.map tx) (here % (((ls.map tx).length : Nat) : Int)) = some (tx (ls.getD (here % (ls.length : Int)).toNat [])) := by
  have h := askX_ne hb
  have := List.length_pos_iff.mpr h
  have h1 := Int.emod_nonneg here (show (ls.length : Int) ≠ 0 by omega)
  rw [List.length_map, show here % (ls.length : Int) = (((here % (ls.length : Int)).toNat : Nat) : Int) by omega]
  exact at_txs (askX_lt h)
theorem askX_nm {here : Int} {ls : List (List Nat)} (hn : ∀ l ∈ ls, isNm l = true) (hb : (!PyData.eqv (.list (ls.map tx)) (.list [])) = true) : isNm (ls.getD (here % (ls.length : Int)).toNat []) = true := hn _ (getD_mem (askX_lt (askX_ne hb)))
theorem askX_yes {here : Int} {ls : List (List Nat)} (hb : (!PyData.eqv (.list (ls.map tx)) (.list [])) = true) : tx (askIn (here / 64) (ls.getD (here % (ls.length : Int)).toNat []) 3) = tx (askX here ls) := by
  unfold askX
  rw [if_neg (askX_ne hb)]
theorem askX_no {here : Int} {ls : List (List Nat)} (hb : (!PyData.eqv (.list (ls.map tx)) (.list [])) = false) : tx (askL here 3) = tx (askX here ls) := by
  rw [ls_emp] at hb
  unfold askX
  rw [if_pos (by simpa using hb)]
theorem askX_ok {here : Int} {ls : List (List Nat)} (hn : ∀ l ∈ ls, isNm l = true) : isAs (askX here ls) = true ∧ (askX here ls).length ≤ 3 := by
  unfold askX
  by_cases h : ls = []
  · rw [if_pos h]
    have := askL_len here 3 (by decide)
    exact ⟨askL_ok (by decide) (by decide), by omega⟩
  · rw [if_neg h]
    obtain ⟨h1, h2⟩ := askIn_ok (more := here / 64) (most := 3) (hn _ (getD_mem (askX_lt (here := here) h))) (by decide) (by decide)
    exact ⟨h1, by omega⟩
def mostX (here : Int) : Int := here / 8 % (if here / 2 ^ (40 : Int).toNat % 2 = 0 then 4 else 61)
theorem mostX_ok (here : Int) : 0 < (if here / 2 ^ (40 : Int).toNat % 2 = 0 then (4 : Int) else 61) ∧ 0 ≤ mostX here ∧ mostX here ≤ 60 := by
  unfold mostX
  split
  · have h1 := Int.emod_nonneg (here / 8) (show (4 : Int) ≠ 0 by decide)
    have h2 := Int.emod_lt_of_pos (here / 8) (show (0 : Int) < 4 by decide)
    omega
  · have h1 := Int.emod_nonneg (here / 8) (show (61 : Int) ≠ 0 by decide)
    have h2 := Int.emod_lt_of_pos (here / 8) (show (0 : Int) < 61 by decide)
    omega
theorem bad_names {ls : List (List Nat)} (h : ls.length ≤ 100) (hn : ∀ l ∈ ls, isNm l = true) : ∀ d ∈ [PyData.list (ls.map tx ++ [tx []]), .list (List.replicate (61 : Int).toNat [tx [97]]).flatten, .tuple (ls.map tx), .none, .list [.int 5]], okNs d ∧ areNames d = false := fun d hd => by
  simp only [List.mem_cons, List.not_mem_nil, or_false] at hd
  rcases hd with rfl | rfl | rfl | rfl | rfl
  · refine ⟨⟨by show (ls.map tx ++ [tx []]).length ≤ 10000; rw [List.length_append, List.length_map]; simp only [List.length_cons, List.length_nil]; omega, fun e he => ?_⟩, ?_⟩
    · rcases List.mem_append.mp (show e ∈ ls.map tx ++ [tx []] from he) with z | z
      · obtain ⟨l, hl, rfl⟩ := List.mem_map.mp z
        have := isNm_len (hn l hl)
        exact okd_tx (by omega)
      · rw [List.mem_singleton.mp z]
        exact okd_tx (by decide)
    · rw [names_list, List.all_append, show [tx []].all isName = false from by decide, Bool.and_false, Bool.and_false]
  · refine ⟨⟨by decide, fun e he => ?_⟩, by decide⟩
    obtain ⟨l, hl, hm⟩ := List.mem_flatten.mp (show e ∈ (List.replicate (61 : Int).toNat [tx [97]]).flatten from he)
    rw [List.eq_of_mem_replicate hl] at hm
    rw [List.mem_singleton.mp hm]
    exact okd_tx (by decide)
  · exact ⟨⟨Nat.zero_le _, fun e he => by cases he⟩, rfl⟩
  · exact ⟨⟨by decide, fun e he => by cases he⟩, rfl⟩
  · exact ⟨⟨by decide, fun e he => by rw [List.mem_singleton.mp (show e ∈ [PyData.int 5] from he)]; unfold okd; decide⟩, rfl⟩
end Lf
set_option Elab.async false
set_option linter.all false
set_option maxRecDepth 100000
set_option maxHeartbeats 1000000
namespace Lf
open PySem PySem.Spec PyProof.Rows L2 LamX
/-! ### a dict of texts by texts, of the module's top -/
def dTab : List DictEntry → Option (List (List Nat × List Nat))
  | [] => some []
  | e :: r => match e.key, e.val, dTab r with
    | .str x _, .str y _, some t => some ((x.cps.toList, y.cps.toList) :: t)
    | _, _, _ => none
theorem dTab_cons {e : DictEntry} {r : List DictEntry} {tab : List (List Nat × List Nat)} (h : dTab (e :: r) = some tab) : ∃ x t y u s, e.key = .str x t ∧ e.val = .str y u ∧ dTab r = some s ∧ tab = (x.cps.toList, y.cps.toList) :: s := by
  unfold dTab at h
  split at h
  · rename_i x t y u s h1 h2 h3
    exact ⟨x, t, y, u, s, h1, h2, h3, (Option.some.inj h).symm⟩
  · cases h
theorem dTab_find {z : List Nat} : ∀ {es : List DictEntry} {tab : List (List Nat × List Nat)}, dTab es = some tab → (es.any (·.refKey)) = false ∧ (∀ y, tab.lookup z = some y → ∃ e t, es.find? (·.key.isStr ⟨z.toArray⟩) = some e ∧ e.val = .str ⟨y.toArray⟩ t) ∧ (tab.lookup z = none → es.find? (·.key.isStr ⟨z.toArray⟩) = none)
  | [], tab, h => by
    cases h
    exact ⟨rfl, fun y hy => (by cases hy), fun _ => rfl⟩
  | e :: r, tab, h => by
    obtain ⟨x, t, y, u, s, h1, h2, h3, rfl⟩ := dTab_cons h
    obtain ⟨g1, g2, g3⟩ := dTab_find (z := z) h3
    have hk : e.key.isStr ⟨z.toArray⟩ = decide (x.cps.toList = z) := by
      rw [h1]
      show (x == (⟨z.toArray⟩ : Str)) = _
      by_cases q : x.cps.toList = z
      · rw [decide_eq_true q]
        have : x = ⟨z.toArray⟩ := Str.ext' (by rw [← q])
        rw [this]
        exact beq_self_eq_true _
      · rw [decide_eq_false q]
        refine beq_eq_false_iff_ne.mpr fun e => q ?_
        rw [e]
    refine ⟨?_, fun y' hy => ?_, fun hy => ?_⟩
    · rw [List.any_cons, g1, Bool.or_false]
      unfold DictEntry.refKey
      rw [h1]
    · rw [List.lookup_cons] at hy
      rw [List.find?_cons, hk]
      by_cases q : x.cps.toList = z
      · rw [decide_eq_true q]
        rw [show (z == x.cps.toList) = true from by rw [q]; exact beq_self_eq_true _] at hy
        cases hy
        exact ⟨e, u, rfl, h2⟩
      · rw [decide_eq_false q]
        rw [show (z == x.cps.toList) = false from beq_eq_false_iff_ne.mpr fun w => q w.symm] at hy
        exact g2 y' hy
    · rw [List.lookup_cons] at hy
      rw [List.find?_cons, hk]
      by_cases q : x.cps.toList = z
      · rw [show (z == x.cps.toList) = true from by rw [q]; exact beq_self_eq_true _] at hy
        cases hy
      · rw [decide_eq_false q]
        rw [show (z == x.cps.toList) = false from beq_eq_false_iff_ne.mpr fun w => q w.symm] at hy
        exact g3 hy
structure KDs (K : PySem.W.Frag) (w : World) (mg : Str → Option Value) (x : Str) (tab : List (List Nat × List Nat)) : Prop where
  ex : ∃ d es n, mg x = some (.ref d) ∧ KDict K w d es n ∧ dTab es.toList = some tab
theorem KDs.get {K : PySem.W.Frag} {d : Addr} {es : Array DictEntry} {n : Nat} {tab : List (List Nat × List Nat)} (h : K.lookup d = some ⟨.type "dict", none, .dict es n, #[]⟩) (t : dTab es.toList = some tab) (z : List Nat) : ∃ r, PySem.W.nsIn K d ⟨z.toArray⟩ = some r ∧ r.isSome = (tab.lookup z).isSome ∧ ∀ y, tab.lookup z = some y → ∃ u, r = some (.str ⟨y.toArray⟩ u) := by
  obtain ⟨g1, g2, g3⟩ := dTab_find (z := z) t
  unfold PySem.W.nsIn
  rw [h]
  dsimp only
  cases e : tab.lookup z with
  | none =>
    rw [g3 e]
    refine ⟨none, ?_, rfl, fun y hy => by cases hy⟩
    rw [g1]
    rfl
  | some y =>
    obtain ⟨e1, u, g4, g5⟩ := g2 y e
    rw [g4]
    exact ⟨_, rfl, rfl, fun y' hy => by cases hy; exact ⟨u, by rw [g5]⟩⟩
theorem kds_mk {K : PySem.W.Frag} {w : World} {mg : Str → Option Value} {x : Str} {h : Heap} {d : Addr} {es : Array DictEntry} {n : Nat} {tab : List (List Nat × List Nat)} (X : K.In h) (N : h.Ns mainGlobals mg) (c : PySem.W.nsIn K mainGlobals x = some (some (.ref d))) (l : K.lookup d = some ⟨.type "dict", none, .dict es n, #[]⟩)
    (kl : PySem.W.KeysLit w.params es.toList) (lo : (d == sysModules) = false) (t : dTab es.toList = some tab) : KDs K w mg x tab := ⟨d, es, n, PySem.W.mg_of X N c, ⟨l, kl, lo⟩, t⟩
section
variable {Kf : PySem.W.Frag} {Tf : List (Addr × Str)} {F : Fx Kf Tf} {δ : List Slot} {X : Cx} {N : List Str} {sc : Scope} {pos p px : Pos} {e : Expr} {x : Str} {l y : List Nat} {tab : List (List Nat × List Nat)}
theorem c_inK (cx : Ctx X N sc) (D : KDs X.K X.w X.mg x tab) (h : PE X e (tD F δ (tx l))) (hg : sc.names.lookup x = some .globalImplicit := by rfl) (hd : (x == ("__debug__" : Str)) = false := by decide) (hm : behindInMarks .In (.Name x px) = false := by rfl) :
    PT X (.Compare e [.In] [.Name x px] pos) (cD F δ (tab.lookup l).isSome) := by
  obtain ⟨d, es, n, h1, kd, t⟩ := D.ex
  obtain ⟨r, e1, e2, _⟩ := KDs.get kd.at_ t l
  refine wkT (pt_cmpR (op_in_kd kd) h (pe_glob (v := .ref d) (cx.gl hg) h1 rfl hd) hm) fun σ H Q q => ?_
  obtain ⟨O, st, k⟩ := q
  exact ⟨O, st, fun v H1 ex1 t1 g1 => ⟨_, r, g1, rfl, e1, _, rfl, by rw [e2]; exact k H1 ex1 t1⟩⟩
theorem c_ninK (cx : Ctx X N sc) (D : KDs X.K X.w X.mg x tab) (h : PE X e (tD F δ (tx l))) (hg : sc.names.lookup x = some .globalImplicit := by rfl) (hd : (x == ("__debug__" : Str)) = false := by decide) (hm : behindInMarks .NotIn (.Name x px) = false := by rfl) :
    PT X (.Compare e [.NotIn] [.Name x px] pos) (cD F δ (!(tab.lookup l).isSome)) := by
  obtain ⟨d, es, n, h1, kd, t⟩ := D.ex
  obtain ⟨r, e1, e2, _⟩ := KDs.get kd.at_ t l
  refine wkT (pt_cmpR (op_notIn_kd kd) h (pe_glob (v := .ref d) (cx.gl hg) h1 rfl hd) hm) fun σ H Q q => ?_
  obtain ⟨O, st, k⟩ := q
  exact ⟨O, st, fun v H1 ex1 t1 g1 => ⟨_, r, g1, rfl, e1, _, rfl, by rw [e2]; exact k H1 ex1 t1⟩⟩
theorem x_getK (cx : Ctx X N sc) (D : KDs X.K X.w X.mg x tab) (h : PE X e (tD F δ (tx l))) (hy : tab.lookup l = some y) (hg : sc.names.lookup x = some .globalImplicit := by rfl) (hd : (x == ("__debug__" : Str)) = false := by decide) (hs : PlainIx e := by exact fun _ _ => rfl) :
    PE X (.Subscript (.Name x px) e pos) (tD F δ (tx y)) := by
  obtain ⟨d, es, n, h1, kd, t⟩ := D.ex
  obtain ⟨r, e1, _, e2⟩ := KDs.get kd.at_ t l
  obtain ⟨u, rfl⟩ := e2 y hy
  refine wkE (pe_ix ix_kdict (pe_glob (v := .ref d) (cx.gl hg) h1 rfl hd) h hs) fun σ H Q q => ?_
  obtain ⟨O, st, k⟩ := q
  exact ⟨O, st, fun v H1 ex1 t1 g1 => ⟨d, _, .str ⟨y.toArray⟩, rfl, g1, ⟨es, n, _, kd.at_, kd.lit, e1, ⟨u, rfl⟩⟩, k _ H1 ex1 t1 rfl⟩⟩
end
end Lf
set_option Elab.async false
set_option linter.all false
set_option maxRecDepth 100000
set_option maxHeartbeats 1000000
namespace Lf
open PySem PySem.Spec PyProof.Rows L2 LamX
section
variable {Kf : PySem.W.Frag} {Tf : List (Addr × Str)} {F : Fx Kf Tf} {X : Cx} {l m : List Nat}
/-- text.lower() -/
theorem md_low (h : ∀ c ∈ l, c < 128) (hz : l.length ≤ 100000) : MtD F (fun x xs H Q => ∃ a, x = .str a ∧ xs = [] ∧ a.length ≤ 5592405 ∧ Q (.str (Txt.lower a)) H) (tx l) [] (tx (l.map lowC)) := fun O H x xs Q _ w hx h2 k => by
  cases (show xs = [] from h2)
  cases (show x = V.str _ from hx)
  refine ⟨_, rfl, rfl, by rw [tx_len]; omega, ?_⟩
  have e : Txt.lower ⟨l.toArray⟩ = ⟨(l.map lowC).toArray⟩ := by
    rw [lower_ascii (x := ⟨l.toArray⟩) (by simpa using h)]
    refine Str.ext' ?_
    show l.toArray.map lo1 = (l.map lowC).toArray
    rw [List.map_toArray]
    rfl
  rw [e]
  exact k _ H (ExtN.refl H) w rfl
/-- text > text -/
theorem op_gtS : OpR X (compareOp .Gt) (fun x y H Q => ∃ i j, x = .str i ∧ y = .str j ∧ Q (.bl (decide (j.cps.toList < i.cps.toList))) H) := by
  intro pins s σ H x y v u Q I rx ry h
  obtain ⟨i, j, rfl, rfl, q⟩ := h
  obtain ⟨t, rfl⟩ := rx
  obtain ⟨t', rfl⟩ := ry
  exact PySem.P.gt_str (fin_bl I q rfl)
theorem od_gtS : OpD F (fun x y H Q => ∃ i j, x = .str i ∧ y = .str j ∧ Q (.bl (decide (j.cps.toList < i.cps.toList))) H) (tx l) (tx m) (.bool (decide (m < l))) := fun O H x y Q _ w hx hy k => ⟨_, _, hx, hy, k _ H (ExtN.refl H) w rfl⟩
end
end Lf
set_option Elab.async false
set_option linter.all false
set_option maxRecDepth 100000
set_option maxHeartbeats 1000000
namespace Lf
open PySem PySem.Spec PyProof.Rows L2 LamX
section
variable {Kf : PySem.W.Frag} {Tf : List (Addr × Str)} {F : Fx Kf Tf} {δ : List Slot} {X : Cx} {pos : Pos} {c : Expr} {rest body els : List Stmt} {P : Post}
/-- an if whose ways meet again -/
theorem s_ifm (δ1 : List Slot) {k : Bool} (h : PT X c (cD F δ k)) (g1 : k = true → PSs X body (sD F δ { P with nx := fun δ' => δ' = δ1 })) (g0 : k = false → δ = δ1) (g : PSs X rest (sD F δ1 P)) : PSs X (.If c body [] pos :: rest) (sD F δ P) :=
  s_when h (fun hk => s_imp (g1 hk) (fun δ' e => by rw [show δ' = δ1 from e]; exact g) (fun _ h => h) (fun _ h => h) (fun _ h => h) (fun _ h => h)) (fun hk => by rw [g0 hk]; exact g)
theorem s_ifm2 (δ1 : List Slot) {k : Bool} (h : PT X c (cD F δ k)) (g1 : k = true → PSs X body (sD F δ { P with nx := fun δ' => δ' = δ1 })) (g0 : k = false → PSs X els (sD F δ { P with nx := fun δ' => δ' = δ1 })) (g : PSs X rest (sD F δ1 P)) : PSs X (.If c body els pos :: rest) (sD F δ P) :=
  s_if h (fun hk => s_imp (g1 hk) (fun δ' e => by rw [show δ' = δ1 from e]; exact g) (fun _ h => h) (fun _ h => h) (fun _ h => h) (fun _ h => h)) (fun hk => s_imp (g0 hk) (fun δ' e => by rw [show δ' = δ1 from e]; exact g) (fun _ h => h) (fun _ h => h) (fun _ h => h) (fun _ h => h))
end
end Lf
set_option Elab.async false
set_option linter.all false
set_option maxRecDepth 100000
set_option maxHeartbeats 1000000
namespace Lf
open PySem PySem.Spec PyProof.Rows L2 LamX
/-! ### words -/
def kLet : List Nat := [108, 101, 116, 116, 101, 114, 115]
def kTail : List Nat := [116, 97, 105, 108]
def kPie : List Nat := [112, 105, 101, 99, 101]
def kHead : List Nat := [104, 101, 97, 100]
def kWo : List Nat := [119, 105, 116, 104, 111, 117, 116]
def signsT : List (List Nat × List Nat) := [(kPie, [39]), (kHead, [94]), (kWo, [33])]
def aheadT : List (List Nat × List Nat) := [([39], kPie), ([94], kHead), ([33], kWo)]
abbrev Wd := List Nat × List Nat
def wdD (w : Wd) : PyData := .tuple [tx w.1, tx w.2]
def isKind (k : List Nat) : Bool := (decide (k = kLet) || decide (k = kTail)) || (signsT.lookup k).isSome
def isWd (e : PyData) : Bool := isTp e && decide ((tpOf e).length = 2) && isTx ((tpOf e).getD 0 .none) && isKind (cod ((tpOf e).getD 0 .none)) && isAsk ((tpOf e).getD 1 .none) && !decide (cod ((tpOf e).getD 1 .none) = [])
def areWd (d : PyData) : Bool := isLs d && decide ((lsOf d).length ≤ 4) && (lsOf d).all isWd
def okWs (d : PyData) : Prop := (lsOf d).length ≤ 10000 ∧ ∀ e ∈ lsOf d, (tpOf e).length ≤ 10000 ∧ ∀ x ∈ tpOf e, okd x
def okW (w : Wd) : Prop := isKind w.1 = true ∧ isAs w.2 = true ∧ w.2 ≠ []
def R_are_words (ds : List PyData) (r : Res) : Prop := ∃ d, ds = [d] ∧ okWs d ∧ r = .ok (.bool (areWd d))
def R_need_words (C7 : Addr) (ds : List PyData) (r : Res) : Prop := ∃ d, ds = [d] ∧ okWs d ∧ r = if areWd d = true then .ok .none else .error C7
def wordsL (d : PyData) : List Wd := (lsOf d).map fun e => (cod ((tpOf e).getD 0 .none), cod ((tpOf e).getD 1 .none))
theorem isWd_of {e : PyData} (h : isWd e = true) : e = wdD (cod ((tpOf e).getD 0 .none), cod ((tpOf e).getD 1 .none)) ∧ okW (cod ((tpOf e).getD 0 .none), cod ((tpOf e).getD 1 .none)) := by
  unfold isWd at h
  simp only [Bool.and_eq_true] at h
  obtain ⟨⟨⟨⟨⟨h1, h2⟩, h3⟩, h4⟩, h5⟩, h6⟩ := h
  cases e with
  | tuple ds =>
    have h2 : ds.length = 2 := of_decide_eq_true h2
    match ds, h2 with
    | [a, b], _ =>
      have h3 : isTx a = true := h3
      have h5 : isAsk b = true := h5
      obtain ⟨l, rfl, hl⟩ := ask_tx h5
      obtain ⟨k, rfl⟩ : ∃ k, a = tx k := by
        cases a with
        | str s => exact ⟨s.cps.toList, str_tx s⟩
        | _ => cases h3
      refine ⟨?_, h4, ?_, ?_⟩
      · show PyData.tuple [tx k, tx l] = .tuple [tx (cod (tx k)), tx (cod (tx l))]
        rw [cod_tx, cod_tx]
      · show isAs (cod (tx l)) = true
        rw [cod_tx]
        exact hl
      · simpa using h6
  | _ => cases h1
theorem isWd_ok {w : Wd} (h : okW w) : isWd (wdD w) = true := by
  unfold isWd
  have e0 : (tpOf (wdD w)).getD 0 .none = tx w.1 := rfl
  have e1 : (tpOf (wdD w)).getD 1 .none = tx w.2 := rfl
  rw [e0, e1, cod_tx, cod_tx, isAsk_tx, h.1, h.2.1]
  simp [isTp, wdD, tpOf, isTx_tx, h.2.2]
theorem words_dat {d : PyData} (h : areWd d = true) : d = .list ((wordsL d).map wdD) ∧ (wordsL d).length ≤ 4 ∧ ∀ w ∈ wordsL d, okW w := by
  unfold areWd at h
  simp only [Bool.and_eq_true] at h
  obtain ⟨⟨h1, h2⟩, h3⟩ := h
  have hz := of_decide_eq_true h2
  rw [List.all_eq_true] at h3
  refine ⟨?_, by unfold wordsL; rw [List.length_map]; exact hz, fun w hw => ?_⟩
  · have : (wordsL d).map wdD = lsOf d := by
      unfold wordsL
      rw [List.map_map]
      conv => rhs; rw [← List.map_id (lsOf d)]
      exact List.map_congr_left fun e he => (isWd_of (h3 e he)).1.symm
    rw [this]
    exact ls_of h1
  · unfold wordsL at hw
    obtain ⟨e, he, rfl⟩ := List.mem_map.mp hw
    exact (isWd_of (h3 e he)).2
theorem wordsL_self (ws : List Wd) : wordsL (.list (ws.map wdD)) = ws := by
  unfold wordsL
  show (ws.map wdD).map _ = ws
  rw [List.map_map]
  refine List.map_id'' (fun w => ?_) ws
  show (cod (tx w.1), cod (tx w.2)) = w
  rw [cod_tx, cod_tx]
theorem words_ok {ws : List Wd} (h : ws.length ≤ 4) (g : ∀ w ∈ ws, okW w) : areWd (.list (ws.map wdD)) = true := by
  unfold areWd
  rw [show lsOf (.list (ws.map wdD)) = ws.map wdD from rfl, List.length_map, decide_eq_true h, show isLs (.list (ws.map wdD)) = true from rfl, Bool.true_and, Bool.true_and, List.all_eq_true]
  intro e he
  obtain ⟨w, hw, rfl⟩ := List.mem_map.mp he
  exact isWd_ok (g w hw)
theorem kind_len {k : List Nat} (h : isKind k = true) : k.length ≤ 7 := by
  unfold isKind at h
  rw [Bool.or_eq_true, Bool.or_eq_true] at h
  rcases h with (h | h) | h
  · rw [of_decide_eq_true h]; decide
  · rw [of_decide_eq_true h]; decide
  · unfold signsT at h
    simp only [List.lookup_cons] at h
    split at h
    · rename_i e; rw [eq_of_beq e]; decide
    · split at h
      · rename_i e; rw [eq_of_beq e]; decide
      · split at h
        · rename_i e; rw [eq_of_beq e]; decide
        · cases h
theorem words_sz {ws : List Wd} (h : ws.length ≤ 10000) (g : ∀ w ∈ ws, okW w) : okWs (.list (ws.map wdD)) := by
  refine ⟨by show (ws.map wdD).length ≤ 10000; rw [List.length_map]; exact h, fun e he => ?_⟩
  obtain ⟨w, hw, rfl⟩ := List.mem_map.mp (show e ∈ ws.map wdD from he)
  refine ⟨by show 2 ≤ 10000; decide, fun x hx => ?_⟩
  have hx : x ∈ [tx w.1, tx w.2] := hx
  simp only [List.mem_cons, List.not_mem_nil, or_false] at hx
  rcases hx with rfl | rfl
  · have := kind_len (g w hw).1
    exact okd_tx (by omega)
  · have := isAs_len (g w hw).2.1
    exact okd_tx (by omega)
/-! ### side by side -/
def stN (a n : List Nat) (i : Nat) : Bool := decide (i + a.length ≤ n.length) && (a.zip ((n.drop i).take a.length)).all fun q => hitC q.1 q.2
def stI (a n : List Nat) (i : Int) : Bool := if 0 ≤ i then stN a n i.toNat else false
def R_stands_at (ds : List PyData) (r : Res) : Prop := ∃ a n i, ds = [tx a, tx n, .int i] ∧ a.length ≤ 1000 ∧ n.length ≤ 10000 ∧ -10000 ≤ i ∧ i ≤ 10000 ∧ r = .ok (.bool (stI a n i))
theorem stI_nat (a n : List Nat) (i : Nat) : stI a n (i : Int) = stN a n i := by
  unfold stI
  rw [if_pos (by omega), Int.toNat_natCast]
theorem zip_tt (a b : List Nat) : ((a.map fun c => tx [c]).zip (b.map fun c => tx [c])).map encZ = (a.zip b).map fun q => PyData.tuple [tx [q.1], tx [q.2]] := by
  rw [List.zip_map, List.map_map]
  rfl
theorem cut_mid {α : Type} (l : List α) (i m : Nat) (h : i + m ≤ l.length) : cutL l (some (i : Int)) (some ((i : Int) + (m : Int))) = (l.drop i).take m := by
  unfold cutL
  have e1 : HT.sIx l.length 0 (some (i : Int)) = i := by
    unfold HT.sIx
    simp
    rw [if_neg (by omega)]
    omega
  have e2 : HT.sIx l.length l.length (some ((i : Int) + (m : Int))) = i + m := by
    unfold HT.sIx
    simp
    rw [if_neg (by omega)]
    omega
  rw [e1, e2, Nat.add_sub_cancel_left]
def homesN (k a n : List Nat) : List Nat := (if k = kHead then [0] else if k = kTail then (if a.length ≤ n.length then [n.length - a.length] else []) else List.range n.length).filter (stN a n)
def R_homes_of (ds : List PyData) (r : Res) : Prop := ∃ w n, ds = [wdD w, tx n] ∧ w.2.length ≤ 100 ∧ n.length ≤ 1000 ∧ r = .ok (.list ((homesN w.1 w.2 n).map natI))
theorem homes_nats {a n : List Nat} {l : List Nat} : (((l.map fun (k : Nat) => (k : Int)).filter (stI a n)).map PyData.int) = (l.filter (stN a n)).map natI := by
  rw [List.filter_map, List.map_map]
  have : (l.filter (stI a n ∘ fun (k : Nat) => (k : Int))) = l.filter (stN a n) := List.filter_congr fun i _ => stI_nat a n i
  rw [this]
  rfl
def letsB (w : Wd) (n : List Nat) : Bool := if w.1 = kLet then (gr w.2 n 0).isSome else decide (decide (homesN w.1 w.2 n = []) = decide (w.1 = kWo))
def R_lets (ds : List PyData) (r : Res) : Prop := ∃ w n, ds = [wdD w, tx n] ∧ w.2.length ≤ 100 ∧ n.length ≤ 1000 ∧ r = .ok (.bool (letsB w n))
def doesB (ws : List Wd) (n : List Nat) : Bool := ws.all fun w => letsB w n
def R_does (C0 C7 : Addr) (ds : List PyData) (r : Res) : Prop := ∃ d1 d2, ds = [d1, d2] ∧ okWs d1 ∧ okd d2 ∧ r = if areWd d1 = true then (if isName d2 = true then .ok (.bool (doesB (wordsL d1) (cod d2))) else .error C0) else .error C7
/-! ### what words are worth -/
def mxI : List Int → Int
  | [] => 0
  | x :: l => l.foldl (fun a b => if b > a then b else a) x
theorem mx_fold : ∀ (l : List Int) (x : Int), let m := l.foldl (fun a b => if b > a then b else a) x; (m = x ∨ m ∈ l) ∧ x ≤ m ∧ ∀ y ∈ l, y ≤ m
  | [], x => ⟨.inl rfl, Int.le_refl _, fun y hy => by cases hy⟩
  | z :: l, x => by
    obtain ⟨h1, h2, h3⟩ := mx_fold l (if z > x then z else x)
    rw [List.foldl_cons]
    refine ⟨?_, ?_, fun y hy => ?_⟩
    · rcases h1 with h | h
      · rw [h]
        split
        · exact .inr List.mem_cons_self
        · exact .inl rfl
      · exact .inr (List.mem_cons_of_mem _ h)
    · refine Int.le_trans ?_ h2
      split <;> omega
    · rcases List.mem_cons.mp hy with e | hy
      · rw [e]
        refine Int.le_trans ?_ h2
        split <;> omega
      · exact h3 y hy
theorem mx_spec {l : List Int} (h : l ≠ []) : mxI l ∈ l ∧ ∀ y ∈ l, y ≤ mxI l := by
  cases l with
  | nil => exact absurd rfl h
  | cons x l =>
    obtain ⟨h1, h2, h3⟩ := mx_fold l x
    refine ⟨?_, fun y hy => ?_⟩
    · rcases h1 with e | e
      · exact List.mem_cons.mpr (.inl e)
      · exact List.mem_cons_of_mem _ e
    · rcases List.mem_cons.mp hy with e | hy
      · rw [e]; exact h2
      · exact h3 y hy
def runR (i m : Nat) : List Nat := (List.range m).map (i + ·)
theorem runR_cons (i m : Nat) : runR i (m + 1) = i :: runR (i + 1) m := by
  unfold runR
  rw [List.range_succ_eq_map, List.map_cons, List.map_map]
  congr 1
  refine List.map_congr_left fun k _ => ?_
  simp only [Function.comp_apply]
  omega
theorem runR_mem {i m j : Nat} : j ∈ runR i m ↔ i ≤ j ∧ j < i + m := by
  unfold runR
  rw [List.mem_map]
  constructor
  · rintro ⟨k, hk, rfl⟩
    have := List.mem_range.mp hk
    omega
  · intro h
    exact ⟨j - i, List.mem_range.mpr (by omega), by omega⟩
theorem runR_rise (i m : Nat) : (runR i m).Pairwise (· < ·) := by
  unfold runR
  rw [List.pairwise_map]
  exact List.pairwise_lt_range.imp fun h => by omega
theorem zip_run {n : List Nat} : ∀ (a : List Nat) (i : Nat), i + a.length ≤ n.length → ((a.zip ((n.drop i).take a.length)).all fun q => hitC q.1 q.2) = hitsB a n (runR i a.length)
  | [], i, _ => rfl
  | c :: a, i, h => by
    have hi : i < n.length := by rw [List.length_cons] at h; omega
    have ih := zip_run (n := n) a (i + 1) (by rw [List.length_cons] at h; omega)
    rw [drop_at hi, List.length_cons, List.take_succ_cons, List.zip_cons_cons, List.all_cons, ih, runR_cons]
    rfl
theorem run_row {a n : List Nat} {i : Nat} (h : stN a n i = true) : runR i a.length ∈ rowsS a n 0 := by
  unfold stN at h
  rw [Bool.and_eq_true] at h
  have h1 := of_decide_eq_true h.1
  refine (rows_iff0 a n _).mpr ⟨by unfold runR; rw [List.length_map, List.length_range], fun j hj => ?_, runR_rise _ _, ?_⟩
  · have := runR_mem.mp hj
    omega
  · rw [← zip_run a i h1]
    exact h.2
def pwM (M : Mk) (w : Wd) (n : List Nat) : Int := if w.1 = kLet then ((bestL M w.2 n).getD (0, [])).1 else if w.1 = kWo then 0 else mxI ((homesN w.1 w.2 n).map fun i => wr M n w.2 (runR i w.2.length))
def R_word_worth (ds : List PyData) (r : Res) : Prop := ∃ M w n, ds = [mkD M, wdD w, tx n] ∧ okM M ∧ w.2.length ≤ 100 ∧ n.length ≤ 1000 ∧ letsB w n = true ∧ r = .ok (.int (pwM M w n))
def wsum (M : Mk) (ws : List Wd) (n : List Nat) : Option Int := if doesB ws n = true then some (ws.map fun w => pwM M w n).sum else none
def R_words_worth (ds : List PyData) (r : Res) : Prop := ∃ M ws n, ds = [mkD M, .list (ws.map wdD), tx n] ∧ okM M ∧ ws.length ≤ 4 ∧ (∀ w ∈ ws, okW w) ∧ n.length ≤ 1000 ∧ r = .ok (optI (wsum M ws n))
def R_worth_by (C0 C2 C7 : Addr) (ds : List PyData) (r : Res) : Prop := ∃ d1 d2 d3, ds = [d1, d2, d3] ∧ (tpOf d1).length ≤ 10000 ∧ okWs d2 ∧ okd d3 ∧
  r = if isMarks d1 = true then (if areWd d2 = true then (if isName d3 = true then .ok (optI (wsum (mkOf d1) (wordsL d2) (cod d3))) else .error C0) else .error C7) else .error C2
def rkW (M : Mk) (ws : List Wd) (p : Nat × List Nat) : Option Rk3 := (wsum M ws p.2).map fun v => ((p.1 : Int), (⟨p.2.toArray⟩ : Str), v)
def rowsW (M : Mk) (ws : List Wd) (ps : List (Nat × List Nat)) : List Rk3 := ps.filterMap (rkW M ws)
def rkT3 (b : Rk3) : PyData := .tuple [.int b.1, .int b.2.2]
def foundL (M : Mk) (ws : List Wd) (ls : List (List Nat)) : List PyData := (rkS3 (rowsW M ws (enumN ls))).map rkT3
def R_found_by (C0 C2 C4 C7 : Addr) (ds : List PyData) (r : Res) : Prop := ∃ d1 d2 d3 d4, ds = [d1, d2, d3, d4] ∧ (tpOf d1).length ≤ 10000 ∧ okWs d2 ∧ okNs d3 ∧
  r = if isMarks d1 = true then (if areWd d2 = true then (if areNames d3 = true then (if isCnt d4 0 60 = true then .ok (.list (cutL (foundL (mkOf d1) (wordsL d2) (namesL d3)) none (some (intOf d4)))) else .error C4) else .error C0) else .error C7) else .error C2
theorem rowsW_snoc (M : Mk) (ws : List Wd) (ps : List (Nat × List Nat)) (p : Nat × List Nat) : rowsW M ws (ps ++ [p]) = rowsW M ws ps ++ (rkW M ws p).toList := by
  unfold rowsW
  rw [List.filterMap_append]
  cases h : rkW M ws p <;> simp [h]
theorem rowsW_len (M : Mk) (ws : List Wd) (ps : List (Nat × List Nat)) : (rowsW M ws ps).length ≤ ps.length := List.length_filterMap_le _ _
theorem rowsW_short {M : Mk} {ws : List Wd} {ps : List (Nat × List Nat)} (hp : ∀ p ∈ ps, p.2.length ≤ 1000) : ∀ b ∈ rowsW M ws ps, b.2.1.length ≤ 10000 := fun b hb => by
  unfold rowsW at hb
  obtain ⟨p, h1, e⟩ := List.mem_filterMap.mp hb
  unfold rkW at e
  cases hq : wsum M ws p.2 with
  | none => rw [hq] at e; cases e
  | some q =>
    rw [hq] at e
    cases Option.some.inj e
    have := hp p h1
    show p.2.toArray.size ≤ 10000
    simp
    omega
theorem rkS3_len (bs : List Rk3) : (rkS3 bs).length = bs.length := List.length_mergeSort _
def R_ranked2 (ds : List PyData) (r : Res) : Prop := R_ranked ds r ∨ ∃ bs : List Rk3, ds = [.list (bs.map rkD3)] ∧ (∀ b ∈ bs, b.2.1.length ≤ 10000) ∧ r = .ok (.list ((rkS3 bs).map rkD3))
end Lf
set_option Elab.async false
set_option linter.all false
set_option maxRecDepth 100000
set_option maxHeartbeats 1000000
namespace Lf
open PySem PySem.Spec PyProof.Rows L2 LamX
/-! ### words drawn -/
def kinds6 : List (List Nat) := [kLet, kPie, kHead, kWo, kTail, kLet]
def kindG (here : Int) : List Nat := kinds6.getD (here / 8 % 6).toNat []
def sizeG (here : Int) : Int := 1 + here / 64 % 3
def spotH (here : Int) (nm : List Nat) : Int := if kindG here = kHead then 0 else here / 512 % (nm.length : Int)
def spotG (here : Int) (nm : List Nat) : Int := if kindG here = kTail then (if (nm.length : Int) - sizeG here > 0 then (nm.length : Int) - sizeG here else 0) else spotH here nm
def partG (here : Int) (nm : List Nat) : List Nat := (cutL nm (some (spotG here nm)) (some (spotG here nm + sizeG here))).filter fun c => !decide (c ∈ lOth)
def partL (here : Int) (nm : List Nat) : List Nat := if here / 2 ^ (30 : Int).toNat % 2 = 0 then (partG here nm).map lowC else partG here nm
def askG (here : Int) (nm : List Nat) : List Nat := if (!decide (kindG here = kLet) && decide (here / 2 ^ (20 : Int).toNat % 4 > 0)) = true then partL here nm else askIn (drawn here 1) nm 4
def wordG (here : Int) (nm : List Nat) : Wd := (kindG here, if askG here nm = [] then [97] else askG here nm)
def wordsG (more : Int) (nm : List Nat) : List Wd := (List.range (more % 5).toNat).map fun (j : Nat) => wordG (drawn more (30 + (j : Int))) nm
def R_law_wordlist (ds : List PyData) (r : Res) : Prop := ∃ more nm, ds = [.int more, tx nm] ∧ isNm nm = true ∧ r = .ok (.list ((wordsG more nm).map wdD))
theorem kindG_ok (here : Int) : isKind (kindG here) = true := by
  have h1 := Int.emod_nonneg (here / 8) (show (6 : Int) ≠ 0 by decide)
  have h2 := Int.emod_lt_of_pos (here / 8) (show (0 : Int) < 6 by decide)
  have : ∀ i, i < 6 → isKind (kinds6.getD i []) = true := by decide
  exact this _ (by omega)
theorem kindG_at (here : Int) : atI [tx kLet, tx kPie, tx kHead, tx kWo, tx kTail, tx kLet] (here / 8 % 6) = some (tx (kindG here)) := by
  have h1 := Int.emod_nonneg (here / 8) (show (6 : Int) ≠ 0 by decide)
  have h2 := Int.emod_lt_of_pos (here / 8) (show (0 : Int) < 6 by decide)
  obtain ⟨i, hi⟩ : ∃ i : Nat, here / 8 % 6 = (i : Int) := ⟨(here / 8 % 6).toNat, by omega⟩
  unfold kindG
  rw [hi, Int.toNat_natCast]
  have hi6 : i < 6 := by omega
  refine atI_nat ?_
  show (kinds6.map tx)[i]? = _
  rw [List.getElem?_map, List.getElem?_eq_getElem (show i < kinds6.length from hi6), List.getD_eq_getElem?_getD, List.getElem?_eq_getElem (show i < kinds6.length from hi6)]
  rfl
theorem oth_alnum : ∀ c ∈ alpha, c ∉ lOth → c ∈ alnum ∧ lowC c ∈ alnum := by decide +kernel
theorem cut_le3 {α : Type} (l : List α) (i s : Int) (h0 : 0 ≤ i) (hs : 0 ≤ s) : ((cutL l (some i) (some (i + s))).length : Int) ≤ s := by
  unfold cutL
  rw [List.length_take, List.length_drop]
  unfold HT.sIx
  simp
  rw [if_neg (by omega), if_neg (by omega)]
  omega
theorem sizeG_ok (here : Int) : 1 ≤ sizeG here ∧ sizeG here ≤ 3 := by
  unfold sizeG
  have h1 := Int.emod_nonneg (here / 64) (show (3 : Int) ≠ 0 by decide)
  have h2 := Int.emod_lt_of_pos (here / 64) (show (0 : Int) < 3 by decide)
  omega
theorem spotG_ok {here : Int} {nm : List Nat} (hn : isNm nm = true) : 0 ≤ spotG here nm ∧ spotG here nm ≤ 1000 := by
  have hl := isNm_len hn
  have h1 := Int.emod_nonneg (here / 512) (show (nm.length : Int) ≠ 0 by omega)
  have h2 := Int.emod_lt_of_pos (here / 512) (show (0 : Int) < (nm.length : Int) by omega)
  have h3 := sizeG_ok here
  unfold spotG spotH
  split
  · split <;> omega
  · split <;> omega
theorem part_ok {here : Int} {nm : List Nat} (hn : isNm nm = true) : (partG here nm).length ≤ 3 ∧ ∀ c ∈ partG here nm, c ∈ alnum ∧ lowC c ∈ alnum ∧ c < 128 := by
  have h1 := spotG_ok (here := here) hn
  have h3 := sizeG_ok here
  have h4 := cut_le3 nm (spotG here nm) (sizeG here) h1.1 (by omega)
  unfold partG
  refine ⟨?_, fun c hc => ?_⟩
  · refine Nat.le_trans (List.length_filter_le _ _) ?_
    omega
  · obtain ⟨q1, q2⟩ := List.mem_filter.mp hc
    have ha := isNm_alpha hn c (cut_mem q1)
    have := oth_alnum c ha (by simpa using q2)
    exact ⟨this.1, this.2, (alpha_low c ha).1⟩
theorem askG_ok {here : Int} {nm : List Nat} (hn : isNm nm = true) : isAs (askG here nm) = true := by
  obtain ⟨h1, h2⟩ := part_ok (here := here) hn
  have mk : ∀ l : List Nat, l.length ≤ 8 → (∀ c ∈ l, c ∈ alnum) → isAs l = true := fun l q1 q2 => by
    unfold isAs
    rw [decide_eq_true q1, Bool.true_and, List.all_eq_true]
    exact fun c hc => decide_eq_true (q2 c hc)
  unfold askG
  split
  · unfold partL
    split
    · refine mk _ (by rw [List.length_map]; omega) fun c hc => ?_
      obtain ⟨d, hd, rfl⟩ := List.mem_map.mp hc
      exact (h2 d hd).2.1
    · exact mk _ (by omega) fun c hc => (h2 c hc).1
  · exact (askIn_ok (more := drawn here 1) (most := 4) hn (by decide) (by decide)).1
theorem wordG_ok {here : Int} {nm : List Nat} (hn : isNm nm = true) : okW (wordG here nm) := by
  refine ⟨kindG_ok here, ?_, ?_⟩
  · show isAs (if askG here nm = [] then [97] else askG here nm) = true
    split
    · decide
    · exact askG_ok hn
  · show (if askG here nm = [] then [97] else askG here nm) ≠ []
    split
    · simp
    · assumption
theorem wordsG_ok {more : Int} {nm : List Nat} (hn : isNm nm = true) : (wordsG more nm).length ≤ 4 ∧ ∀ w ∈ wordsG more nm, okW w := by
  unfold wordsG
  refine ⟨?_, fun w hw => ?_⟩
  · rw [List.length_map, List.length_range]
    have h2 := Int.emod_lt_of_pos more (show (0 : Int) < 5 by decide)
    omega
  · obtain ⟨j, _, rfl⟩ := List.mem_map.mp hw
    exact wordG_ok hn
end Lf
set_option Elab.async false
set_option linter.all false
set_option maxRecDepth 100000
set_option maxHeartbeats 1000000
namespace Lf
open PySem PySem.Spec PyProof.Rows L2 LamX
/-! ### the law's own looking for words -/
def spotsN (a n : List Nat) : List Nat := (List.range n.length).filter (stN a n)
def R_law_spots (ds : List PyData) (r : Res) : Prop := ∃ a n, ds = [tx a, tx n] ∧ a ≠ [] ∧ a.length ≤ 100 ∧ isNm n = true ∧ r = .ok (.list ((spotsN a n).map natI))
theorem zip_range (f : Nat → Nat) (a : List Nat) : a.zip ((List.range a.length).map f) = (List.range a.length).map fun j => (a.getD j 0, f j) := by
  refine List.ext_getElem? fun i => ?_
  by_cases h : i < a.length
  · have e : (a.zip ((List.range a.length).map f))[i]? = some (a[i], f i) := List.getElem?_zip_eq_some.mpr ⟨List.getElem?_eq_getElem h, by rw [List.getElem?_map, List.getElem?_range h]; rfl⟩
    rw [e, List.getElem?_map, List.getElem?_range h]
    simp [List.getD_eq_getElem?_getD, h]
  · rw [List.getElem?_eq_none (by rw [List.length_zip, List.length_map, List.length_range]; omega), List.getElem?_eq_none (by rw [List.length_map, List.length_range]; omega)]
theorem all_enum (a n : List Nat) (i : Nat) : ((enumT a).all fun x => hitC x.2 (n.getD (i + x.1) 0)) = hitsB a n (runR i a.length) := by
  unfold hitsB runR enumT
  rw [zip_range, List.all_map, List.all_map]
  rfl
theorem st_hits {a n : List Nat} {i : Nat} (h : i + a.length ≤ n.length) : stN a n i = hitsB a n (runR i a.length) := by
  unfold stN
  rw [decide_eq_true h, Bool.true_and, zip_run a i h]
theorem range_more {p : Nat → Bool} {m : Nat} (h : ∀ i, m ≤ i → p i = false) : ∀ k, (List.range (m + k)).filter p = (List.range m).filter p
  | 0 => rfl
  | k + 1 => by
    rw [← Nat.add_assoc, List.range_succ, List.filter_append, range_more h k]
    simp [h (m + k) (by omega)]
theorem spots_all {a n : List Nat} (ha : a ≠ []) : (List.range (n.length + 1 - a.length)).filter (stN a n) = spotsN a n := by
  have h1 := List.length_pos_iff.mpr ha
  unfold spotsN
  have hf : ∀ i, n.length + 1 - a.length ≤ i → stN a n i = false := fun i hi => by
    unfold stN
    rw [decide_eq_false (by omega), Bool.false_and]
  have := range_more hf (n.length - (n.length + 1 - a.length))
  rw [show n.length + 1 - a.length + (n.length - (n.length + 1 - a.length)) = n.length by omega] at this
  exact this.symm
theorem spots_head {a n : List Nat} (hn : isNm n = true) : (spotsN a n).filter (fun (i : Nat) => decide ((i : Int) = 0)) = homesN kHead a n := by
  have hl := isNm_len hn
  unfold spotsN homesN
  rw [if_pos rfl, List.filter_filter]
  obtain ⟨m, hm⟩ : ∃ m, n.length = m + 1 := ⟨n.length - 1, by omega⟩
  rw [hm, Nat.add_comm m 1, range_more (m := 1) (fun i hi => by rw [decide_eq_false (show ¬ (i : Int) = 0 by omega), Bool.false_and]) m]
  refine List.filter_congr fun i hi => ?_
  have : i = 0 := by simpa using hi
  subst this
  simp
theorem spots_tail {a n : List Nat} (ha : a ≠ []) : (spotsN a n).filter (fun (i : Nat) => decide ((i : Int) + (a.length : Int) = (n.length : Int))) = homesN kTail a n := by
  have h1 := List.length_pos_iff.mpr ha
  unfold spotsN homesN
  rw [if_neg (by decide), if_pos rfl, List.filter_filter]
  by_cases h : a.length ≤ n.length
  · rw [if_pos h]
    have e : ∀ m k, k < m → ∀ q : Nat → Bool, (List.range m).filter (fun i => decide (i = k) && q i) = [k].filter q := fun m k hk q => by
      induction m with
      | zero => omega
      | succ m ih =>
        rw [List.range_succ, List.filter_append]
        by_cases z : k = m
        · subst z
          have : (List.range k).filter (fun i => decide (i = k) && q i) = [] := by
            rw [List.filter_eq_nil_iff]
            intro i hi
            have := List.mem_range.mp hi
            rw [decide_eq_false (by omega), Bool.false_and]
            decide
          rw [this]
          simp [List.filter_cons]
        · rw [ih (by omega)]
          have : decide (m = k) = false := decide_eq_false fun y => z y.symm
          simp [this]
    rw [← e n.length (n.length - a.length) (by omega) (stN a n)]
    refine List.filter_congr fun i hi => ?_
    congr 1
    exact decide_eq_decide.mpr ⟨fun z => by omega, fun z => by omega⟩
  · rw [if_neg h]
    rw [List.filter_nil, List.filter_eq_nil_iff]
    intro i hi
    rw [decide_eq_false (by omega), Bool.false_and]
    decide
theorem spots_pie {k a n : List Nat} (h1 : k ≠ kHead) (h2 : k ≠ kTail) : spotsN a n = homesN k a n := by
  unfold spotsN homesN
  rw [if_neg h1, if_neg h2]
def prM (M : Mk) (w : Wd) (n : List Nat) : Option Int := if letsB w n = true then some (pwM M w n) else none
def R_law_price (ds : List PyData) (r : Res) : Prop := ∃ M w n, ds = [mkD M, wdD w, tx n] ∧ okM M ∧ w.2 ≠ [] ∧ w.2.length ≤ 4 ∧ isNm n = true ∧ n.length ≤ 12 ∧ r = .ok (optI (prM M w n))
def R_law_sum (ds : List PyData) (r : Res) : Prop := ∃ M ws n, ds = [mkD M, .list (ws.map wdD), tx n] ∧ okM M ∧ ws.length ≤ 4 ∧ (∀ w ∈ ws, w.2 ≠ [] ∧ w.2.length ≤ 4) ∧ isNm n = true ∧ n.length ≤ 12 ∧ r = .ok (optI (wsum M ws n))
theorem askG_len {here : Int} {nm : List Nat} (hn : isNm nm = true) : (askG here nm).length ≤ 4 := by
  obtain ⟨h1, _⟩ := part_ok (here := here) hn
  unfold askG
  split
  · unfold partL
    split
    · rw [List.length_map]; omega
    · omega
  · have := (askIn_ok (more := drawn here 1) (most := 4) hn (by decide) (by decide)).2
    omega
theorem wordsG_len {more : Int} {nm : List Nat} (hn : isNm nm = true) : ∀ w ∈ wordsG more nm, w.2 ≠ [] ∧ w.2.length ≤ 4 := fun w hw => by
  refine ⟨((wordsG_ok (more := more) hn).2 w hw).2.2, ?_⟩
  unfold wordsG at hw
  obtain ⟨j, _, rfl⟩ := List.mem_map.mp hw
  show (if askG _ nm = [] then [97] else askG _ nm).length ≤ 4
  split
  · decide
  · exact askG_len hn
theorem rk3_sort (bs : List Rk3) : sortD (bs.map rkK3) = (rkS3 bs).map rkK3 := by
  unfold sortD rkS3
  rw [List.map_mergeSort]
  intro b _ b' _
  rfl
theorem rk3_dep (bs : List Rk3) : ∀ d ∈ bs.map rkK3, d.depth ≤ 30 := fun d hd => by
  obtain ⟨b, _, rfl⟩ := List.mem_map.mp hd
  simp [rkK3, PyData.depth, PyData.depthAll]
theorem lay_rk3 {bs : List Rk3} : ∀ d ∈ bs.map rkT3, Lay 1 d := fun d hd => by
  obtain ⟨b, _, rfl⟩ := List.mem_map.mp hd
  refine lay_tuple (n := 0) fun d hd => ?_
  simp only [List.mem_cons, List.not_mem_nil, or_false] at hd
  rcases hd with rfl | rfl
  · exact lay_int
  · exact lay_int
theorem found_lay {M : Mk} {ws : List Wd} {ls : List (List Nat)} : ∀ d ∈ foundL M ws ls, Lay 1 d := lay_rk3
theorem foundL_len (M : Mk) (ws : List Wd) (ls : List (List Nat)) : (foundL M ws ls).length ≤ ls.length := by
  unfold foundL
  rw [List.length_map, rkS3_len]
  have := rowsW_len M ws (enumN ls)
  rwa [enumN_len] at this
def mostW (here : Int) : Int := here / 8 % (if here / 2 ^ (40 : Int).toNat % 2 = 0 then 3 else 61)
theorem mostW_ok (here : Int) : 0 < (if here / 2 ^ (40 : Int).toNat % 2 = 0 then (3 : Int) else 61) ∧ 0 ≤ mostW here ∧ mostW here ≤ 60 := by
  unfold mostW
  split
  · have h1 := Int.emod_nonneg (here / 8) (show (3 : Int) ≠ 0 by decide)
    have h2 := Int.emod_lt_of_pos (here / 8) (show (0 : Int) < 3 by decide)
    omega
  · have h1 := Int.emod_nonneg (here / 8) (show (61 : Int) ≠ 0 by decide)
    have h2 := Int.emod_lt_of_pos (here / 8) (show (0 : Int) < 61 by decide)
    omega
/-! ### promises of the words' defs, put to use -/
theorem R_does_as {C0 C7 : Addr} {ws : List Wd} {d : PyData} (h4 : ws.length ≤ 4) (hw : ∀ w ∈ ws, okW w) (hd : okd d) : R_does C0 C7 [.list (ws.map wdD), d] (if isName d = true then .ok (.bool (doesB ws (cod d))) else .error C0) :=
  ⟨_, _, rfl, words_sz (by omega) hw, hd, by rw [if_pos (words_ok h4 hw), wordsL_self]⟩
theorem R_does_ok {C0 C7 : Addr} {ws : List Wd} {n : List Nat} (h4 : ws.length ≤ 4) (hw : ∀ w ∈ ws, okW w) (hn : isNm n = true) : R_does C0 C7 [.list (ws.map wdD), tx n] (.ok (.bool (doesB ws n))) := by
  have := R_does_as (C0 := C0) (C7 := C7) h4 hw (okd_tx (l := n) (by have := isNm_len hn; omega))
  rw [isName_tx, if_pos hn, cod_tx] at this
  exact this
theorem R_worth_by_as {C0 C2 C7 : Addr} {M : Mk} {ws : List Wd} {d : PyData} (hM : okM M) (h4 : ws.length ≤ 4) (hw : ∀ w ∈ ws, okW w) (hd : okd d) : R_worth_by C0 C2 C7 [mkD M, .list (ws.map wdD), d] (if isName d = true then .ok (optI (wsum M ws (cod d))) else .error C0) :=
  ⟨_, _, _, rfl, by show 6 ≤ 10000; decide, words_sz (by omega) hw, hd, by rw [if_pos (marks_ok hM), if_pos (words_ok h4 hw), wordsL_self, mkOf_self]⟩
theorem R_worth_by_ok {C0 C2 C7 : Addr} {M : Mk} {ws : List Wd} {n : List Nat} (hM : okM M) (h4 : ws.length ≤ 4) (hw : ∀ w ∈ ws, okW w) (hn : isNm n = true) : R_worth_by C0 C2 C7 [mkD M, .list (ws.map wdD), tx n] (.ok (optI (wsum M ws n))) := by
  have := R_worth_by_as (C0 := C0) (C2 := C2) (C7 := C7) hM h4 hw (okd_tx (l := n) (by have := isNm_len hn; omega))
  rw [isName_tx, if_pos hn, cod_tx] at this
  exact this
theorem R_found_by_as {C0 C2 C4 C7 : Addr} {M : Mk} {ws : List Wd} {d3 d4 : PyData} (hM : okM M) (h4 : ws.length ≤ 4) (hw : ∀ w ∈ ws, okW w) (hd : okNs d3) : R_found_by C0 C2 C4 C7 [mkD M, .list (ws.map wdD), d3, d4] (if areNames d3 = true then (if isCnt d4 0 60 = true then .ok (.list (cutL (foundL M ws (namesL d3)) none (some (intOf d4)))) else .error C4) else .error C0) :=
  ⟨_, _, _, _, rfl, by show 6 ≤ 10000; decide, words_sz (by omega) hw, hd, by rw [if_pos (marks_ok hM), if_pos (words_ok h4 hw), wordsL_self, mkOf_self]⟩
theorem R_found_by_ok {C0 C2 C4 C7 : Addr} {M : Mk} {ws : List Wd} {ls : List (List Nat)} {i : Int} (hM : okM M) (h4 : ws.length ≤ 4) (hw : ∀ w ∈ ws, okW w) (hl : ls.length ≤ 60) (hn : ∀ l ∈ ls, isNm l = true) (h0 : 0 ≤ i) (h1 : i ≤ 60) : R_found_by C0 C2 C4 C7 [mkD M, .list (ws.map wdD), .list (ls.map tx), .int i] (.ok (.list (cutL (foundL M ws ls) none (some i)))) := by
  have := R_found_by_as (C0 := C0) (C2 := C2) (C4 := C4) (C7 := C7) (d4 := .int i) hM h4 hw (names_ok hl hn).2
  rw [if_pos (names_ok hl hn).1, namesL_self, if_pos (show isCnt (.int i) 0 60 = true by simp [isCnt, h0, h1])] at this
  exact this
theorem at_pick {i : Int} {ls : List (List Nat)} (h : ls ≠ []) : atI (ls.map tx) (i % (((ls.map tx).length : Nat) : Int)) = some (tx (ls.getD (i % (ls.length : Int)).toNat [])) := askX_at (here := i) (by rw [ls_emp, decide_eq_false h]; rfl)
theorem pick_pos {ls : List (List Nat)} (h : ls ≠ []) : 0 < (((ls.map tx).length : Nat) : Int) := askX_pos (by rw [ls_emp, decide_eq_false h]; rfl)
theorem pick_mem {i : Int} {ls : List (List Nat)} (h : ls ≠ []) : ls.getD (i % (ls.length : Int)).toNat [] ∈ ls := getD_mem (askX_lt h)
theorem okWs_none : okWs .none := ⟨by decide, fun e he => by cases he⟩
theorem bad_word : okWs (.list [.tuple [tx kLet, tx []]]) ∧ areWd (.list [.tuple [tx kLet, tx []]]) = false := by
  refine ⟨⟨by decide, fun e he => ?_⟩, by decide⟩
  rw [List.mem_singleton.mp (show e ∈ [PyData.tuple [tx kLet, tx []]] from he)]
  refine ⟨by decide, fun x hx => ?_⟩
  have hx : x ∈ [tx kLet, tx []] := hx
  simp only [List.mem_cons, List.not_mem_nil, or_false] at hx
  rcases hx with rfl | rfl <;> exact okd_tx (by decide)
end Lf
set_option Elab.async false
set_option linter.all false
set_option maxRecDepth 100000
set_option maxHeartbeats 1000000
namespace Lf
open PySem PySem.Spec PyProof.Rows L2 LamX
/-! ### split at blanks -/
def spc (l : List Nat) : List (List Nat) := TL.spl [32] 0 [] l
theorem spl_bd : ∀ (l acc : List Nat), (TL.spl [32] 0 acc l).length ≤ l.length + 1 ∧ ∀ p ∈ TL.spl [32] 0 acc l, p.length ≤ acc.length + l.length
  | [], acc => by
    unfold TL.spl
    refine ⟨by simp, fun p hp => ?_⟩
    rw [List.mem_singleton.mp hp]
    simp
  | c :: r, acc => by
    unfold TL.spl
    split
    · obtain ⟨h1, h2⟩ := spl_bd r []
      refine ⟨by show (TL.spl [32] 0 [] r).length + 1 ≤ r.length + 1 + 1; omega, fun p hp => ?_⟩
      rcases List.mem_cons.mp hp with rfl | hp
      · omega
      · have := h2 p hp
        rw [List.length_nil] at this
        rw [List.length_cons]
        omega
    · obtain ⟨h1, h2⟩ := spl_bd r (acc ++ [c])
      refine ⟨by rw [List.length_cons]; omega, fun p hp => ?_⟩
      have := h2 p hp
      rw [List.length_append, List.length_cons, List.length_nil] at this
      rw [List.length_cons]
      omega
theorem spc_sz {l : List Nat} (h : l.length ≤ 10000) : (spc l).length ≤ 10001 ∧ ∀ p ∈ spc l, p.length ≤ 10000 := by
  obtain ⟨h1, h2⟩ := spl_bd l []
  exact ⟨by unfold spc; omega, fun p hp => by have := h2 p hp; rw [List.length_nil] at this; omega⟩
theorem spc_join {ps : List (List Nat)} (hne : ps ≠ []) (h : ∀ p ∈ ps, 32 ∉ p) : spc (TL.joinL [32] ps) = ps := TL.spl_join hne h
section
variable {Kf : PySem.W.Frag} {Tf : List (Addr × Str)} {F : Fx Kf Tf} {δ : List Slot} {X : Cx} {N : List Str} {sc : Scope} {pos p px : Pos} {e : Expr} {l y : List Nat}
theorem md_split (hz : l.length ≤ 10000) : MtD F (fun x xs H Q => ∃ a b, x = .str a ∧ xs = [.str b] ∧ (b.length == 0) = false ∧ a.length + 2 ≤ sizeLine ∧ rNewStrs (Txt.split a b) H Q) (tx l) [tx [32]] (.list ((spc l).map tx)) := fun O H x xs Q dom w hx h k => by
  obtain ⟨z, r, rfl, ez, rfl⟩ := h
  refine ⟨⟨l.toArray⟩, ⟨#[32]⟩, hx, by rw [show z = V.str ⟨#[32]⟩ from ez], rfl, ?_, fun q hq => ?_⟩
  · rw [tx_len]
    exact Nat.le_trans (Nat.add_le_add_right hz 2) (by decide)
  · have e1 : (Txt.split ⟨l.toArray⟩ ⟨#[32]⟩).map V.str = (spc l).map fun m => V.str ⟨m.toArray⟩ := by
      have e0 := TL.split_spl ⟨l.toArray⟩ ⟨#[32]⟩ (by simp [TL.tl]) (TL.kind_ok (by simp))
      have e2 : (Txt.split ⟨l.toArray⟩ ⟨#[32]⟩).map TL.tl = spc l := by rw [e0]; unfold spc; simp [TL.tl]
      rw [← e2, List.map_map]
      refine List.map_congr_left fun s _ => ?_
      show V.str s = V.str ⟨(TL.tl s).toArray⟩
      unfold TL.tl
      simp
    rw [e1]
    refine k _ _ (ext_new hq) (tabs_new w hq) ⟨q, _, rfl, fresh_ok dom hq, upd_same, ?_⟩
    have : ∀ ls : List (List Nat), DtAll O (upd H q (.lst ((spc l).map fun m => V.str ⟨m.toArray⟩))) (ls.map tx) (ls.map fun m => V.str ⟨m.toArray⟩) := fun ls => by
      induction ls with
      | nil => rfl
      | cons m t ih => exact ⟨_, _, rfl, rfl, ih⟩
    exact this _
/-! ### {..}[k] -/
def kvT (tab : List (List Nat × List Nat)) : List (Key × V) := tab.map fun q => (.inr ⟨q.1.toArray⟩, .str ⟨q.2.toArray⟩)
theorem pairs_run {O : Addr → Prop} {σ : L2.St} : ∀ (tab : List (List Nat × List Nat)) {H : Hp} {Q : List (V × V) → Hp → Prop}, StAt F O H σ δ → (∀ H', ExtN H H' → Tabs F.T H' → Q ((kvT tab).map fun kv => (kV kv.1, kv.2)) H') →
    tPairs (tab.map fun q => (tD F δ (tx q.1), tD F δ (tx q.2))) σ H Q
  | [], H, Q, st, h => h H (ExtN.refl H) st.tabs
  | q :: r, H, Q, st, h => ⟨O, st, fun x H1 e1 t1 g1 => ⟨O, st.grow e1 t1, fun y H2 e2 t2 g2 => pairs_run r ((st.grow e1 t1).grow e2 t2) fun H3 e3 t3 => by
      have := h H3 ((e1.trans e2).trans e3) t3
      rw [show x = V.str ⟨q.1.toArray⟩ from g1, show y = V.str ⟨q.2.toArray⟩ from g2]
      exact this⟩⟩
theorem x_disp {keys : List (Option Expr)} {values : List Expr} (tab : List (List Nat × List Nat)) (hu : X.A.units + 1 < cLine) (hp : PPs X p keys values (tab.map fun q => (tD F δ (tx q.1), tD F δ (tx q.2)))) (hk : PE X e (tD F δ (tx l))) (hz : tab.length ≤ 15)
    (hy : valV (mergeK [] (kvT tab)) (.inr ⟨l.toArray⟩) = some (.str ⟨y.toArray⟩)) (hall : keys.all (·.isSome) = true := by rfl) (hl : keys.length = values.length := by rfl) (h0 : keys ≠ [] := by simp) (h15 : keys.length ≤ 15 := by decide) (hs : NoSl e := by exact fun _ _ => rfl) :
    PE X (.Subscript (.Dict keys values p) e pos) (tD F δ (tx y)) :=
  wkE (pe_dget hu (pe_disp hp hall hl h0 h15) hk hs) fun σ H Q h => by
    obtain ⟨O, st, w⟩ := h
    intro q hq
    have e0 := ext_new (o := .dK []) hq
    have st1 := st.grow e0 (tabs_new st.tabs hq)
    refine pairs_run tab st1 fun H1 e1 t1 => ?_
    have gq : H1 q = some (.dK []) := e1 _ _ upd_same (fun _ z => by cases z)
    refine ⟨gq, kvT tab, rfl, by unfold kvT; rw [List.length_map]; exact hz, ?_⟩
    have ex : ExtN H (upd H1 q (.dK (mergeK [] (kvT tab)))) := fun b o gb tb => by
      have nb : b ≠ q := ne_of_none gb hq
      rw [upd_ne nb]
      exact e1 _ _ (by rw [upd_ne nb]; exact gb) tb
    have tt : Tabs F.T (upd H1 q (.dK (mergeK [] (kvT tab)))) := tabs_turnK t1 gq
    refine ⟨O, st.grow ex tt, fun v H2 e2 t2 g2 => ?_⟩
    have gq2 : H2 q = some (.dK (mergeK [] (kvT tab))) := e2 _ _ upd_same (fun _ z => by cases z)
    refine ⟨q, _, rfl, ?_, w _ H2 (ex.trans e2) t2 rfl⟩
    have := DGet.k (k := .inr ⟨l.toArray⟩) gq2
    rw [hy] at this
    rw [show v = V.str ⟨l.toArray⟩ from g2]
    exact this
end
/-! ### the word that a text tells -/
def wAk (l : List Nat) : List Nat := if (aheadT.lookup (cutL l none (some 1))).isSome = true then (aheadT.lookup (cutL l none (some 1))).getD [] else if cutL l (some (-1)) none = [36] then kTail else kLet
def wAa (l : List Nat) : List Nat := if (aheadT.lookup (cutL l none (some 1))).isSome = true then cutL l (some 1) none else if cutL l (some (-1)) none = [36] then cutL l none (some (-1)) else l
def wIn (l : List Nat) : Option Wd := if wAa l = [] ∨ isAs (wAa l) = false then none else some (wAk l, wAa l)
def R_word_in (C7 : Addr) (ds : List PyData) (r : Res) : Prop := ∃ l, ds = [tx l] ∧ l.length ≤ 10000 ∧ r = match wIn l with | some w => .ok (wdD w) | none => .error C7
def parts (l : List Nat) : List (List Nat) := if l = [] then [] else spc l
def wsOf (l : List Nat) : Option (List Wd) := if (parts l).length ≤ 4 then (parts l).mapM wIn else none
def wsD (C7 : Addr) (d : PyData) : Res := if isTx d = true then (match wsOf (cod d) with | some ws => .ok (.list (ws.map wdD)) | none => .error C7) else .error C7
def R_words_of (C7 : Addr) (ds : List PyData) (r : Res) : Prop := ∃ d, ds = [d] ∧ okd d ∧ r = wsD C7 d
def wt (w : Wd) : List Nat := if w.1 = kLet then w.2 else if w.1 = kTail then w.2 ++ [36] else (signsT.lookup w.1).getD [] ++ w.2
def R_word_text (ds : List PyData) (r : Res) : Prop := ∃ w, ds = [wdD w] ∧ okW w ∧ r = .ok (tx (wt w))
def wtx (ws : List Wd) : List Nat := TL.joinL [32] (ws.map wt)
def R_written (C7 : Addr) (ds : List PyData) (r : Res) : Prop := ∃ d, ds = [d] ∧ okWs d ∧ r = if areWd d = true then .ok (tx (wtx (wordsL d))) else .error C7
def R_law_text_of (ds : List PyData) (r : Res) : Prop := ∃ ws : List Wd, ds = [.list (ws.map wdD)] ∧ ws.length ≤ 4 ∧ (∀ w ∈ ws, okW w) ∧ r = .ok (tx (wtx ws))
def tellD (l : List Nat) : PyData := match wsOf l with | some ws => .list (ws.map wdD) | none => .none
def R_law_tells60 (ds : List PyData) (r : Res) : Prop := ∃ l, ds = [tx l] ∧ l.length ≤ 1000 ∧ (∀ c ∈ l, c < 128) ∧ r = .ok (tellD l)
theorem cut_last {α : Type} (l : List α) : cutL l (some (-1)) none = l.drop (l.length - 1) := by
  unfold cutL
  have e1 : HT.sIx l.length 0 (some (-1)) = l.length - 1 := by
    unfold HT.sIx
    dsimp only
    rw [if_pos (by decide)]
    omega
  rw [e1, show HT.sIx l.length l.length none = l.length from rfl]
  exact List.take_of_length_le (by rw [List.length_drop]; omega)
theorem as_mem {a : List Nat} (h : isAs a = true) : ∀ c ∈ a, c ∈ lSmall ++ lGreat ++ lFig := fun c hc => by
  unfold isAs at h
  rw [Bool.and_eq_true, List.all_eq_true] at h
  exact of_decide_eq_true (h.2 c hc)
theorem as_not {a : List Nat} (h : isAs a = true) {c : Nat} (hc : c ∉ lSmall ++ lGreat ++ lFig) : c ∉ a := fun z => hc (as_mem h c z)
theorem ahead_none {c : Nat} (h : c ∈ lSmall ++ lGreat ++ lFig) : aheadT.lookup [c] = none := by
  have : ∀ c ∈ lSmall ++ lGreat ++ lFig, aheadT.lookup [c] = none := by decide
  exact this c h
theorem kind_cases {k : List Nat} (h : isKind k = true) : k = kLet ∨ k = kTail ∨ k = kPie ∨ k = kHead ∨ k = kWo := by
  unfold isKind at h
  rw [Bool.or_eq_true, Bool.or_eq_true] at h
  rcases h with (h | h) | h
  · exact .inl (of_decide_eq_true h)
  · exact .inr (.inl (of_decide_eq_true h))
  · unfold signsT at h
    simp only [List.lookup_cons] at h
    split at h
    · rename_i e; exact .inr (.inr (.inl (eq_of_beq e)))
    · split at h
      · rename_i e; exact .inr (.inr (.inr (.inl (eq_of_beq e))))
      · split at h
        · rename_i e; exact .inr (.inr (.inr (.inr (eq_of_beq e))))
        · cases h
theorem wIn_of {l : List Nat} {k a : List Nat} (h1 : wAk l = k) (h2 : wAa l = a) (h3 : isAs a = true) (h4 : a ≠ []) : wIn l = some (k, a) := by
  unfold wIn
  rw [h1, h2, if_neg]
  rintro (h | h)
  · exact h4 h
  · rw [h3] at h; cases h
theorem take_one (l : List Nat) : cutL l none (some 1) = l.take 1 := cut_take l 1
theorem sgn_in {s : Nat} {k a : List Nat} (hk : aheadT.lookup [s] = some k) (h3 : isAs a = true) (h4 : a ≠ []) : wIn ([s] ++ a) = some (k, a) := by
  have e1 : cutL ([s] ++ a) none (some 1) = [s] := by rw [take_one]; rfl
  refine wIn_of ?_ ?_ h3 h4
  · unfold wAk
    rw [e1, hk]
    rfl
  · unfold wAa
    rw [e1, hk, cut_tail]
    rfl
theorem wIn_wt {w : Wd} (h : okW w) : wIn (wt w) = some w := by
  obtain ⟨k, a⟩ := w
  obtain ⟨h1, h2, h3⟩ := h
  have h2 : isAs a = true := h2
  have h3 : a ≠ [] := h3
  have hd : ∀ r : List Nat, aheadT.lookup (cutL (a ++ r) none (some 1)) = none := fun r => by
    rw [take_one]
    cases a with
    | nil => exact absurd rfl h3
    | cons c t => exact ahead_none (as_mem h2 c List.mem_cons_self)
  rcases kind_cases h1 with rfl | rfl | rfl | rfl | rfl
  · show wIn a = some (kLet, a)
    have hd0 := hd []
    rw [List.append_nil] at hd0
    have hl : cutL a (some (-1)) none ≠ [36] := fun e => by
      have : 36 ∈ cutL a (some (-1)) none := by rw [e]; exact List.mem_cons_self
      exact as_not h2 (by decide) (cut_mem this)
    refine wIn_of ?_ ?_ h2 h3
    · unfold wAk
      rw [hd0, if_neg (by decide), if_neg hl]
    · unfold wAa
      rw [hd0, if_neg (by decide), if_neg hl]
  · show wIn (a ++ [36]) = some (kTail, a)
    have hl : cutL (a ++ [36]) (some (-1)) none = [36] := by
      rw [cut_last, List.length_append]
      show (a ++ [36]).drop (a.length + 1 - 1) = _
      rw [Nat.add_sub_cancel, List.drop_left]
    refine wIn_of ?_ ?_ h2 h3
    · unfold wAk
      rw [hd, if_neg (by decide), if_pos hl]
    · unfold wAa
      rw [hd, if_neg (by decide), if_pos hl, cut_init, List.dropLast_concat]
  · exact sgn_in (s := 39) (by decide) h2 h3
  · exact sgn_in (s := 94) (by decide) h2 h3
  · exact sgn_in (s := 33) (by decide) h2 h3
theorem wt_free {w : Wd} (h : okW w) : 32 ∉ wt w ∧ wt w ≠ [] ∧ (wt w).length ≤ 9 := by
  obtain ⟨k, a⟩ := w
  obtain ⟨h1, h2, h3⟩ := h
  have h2 : isAs a = true := h2
  have h3 : a ≠ [] := h3
  have n32 : 32 ∉ a := as_not h2 (by decide)
  have hz := isAs_len h2
  rcases kind_cases h1 with rfl | rfl | rfl | rfl | rfl
  · exact ⟨n32, h3, by show a.length ≤ 9; omega⟩
  · refine ⟨?_, ?_, ?_⟩
    · show 32 ∉ a ++ [36]
      simp [n32]
    · show a ++ [36] ≠ []
      simp
    · show (a ++ [36]).length ≤ 9
      simp; omega
  all_goals
    refine ⟨?_, ?_, ?_⟩
    · show 32 ∉ _ ++ a
      simp [signsT, kPie, kHead, kWo, n32, List.lookup]
    · show _ ++ a ≠ []
      simp [h3]
    · show (_ ++ a).length ≤ 9
      simp [signsT, kPie, kHead, kWo, List.lookup]
      omega
theorem joinL_ne {p : List Nat} {ps : List (List Nat)} (h : p ≠ []) : TL.joinL [32] (p :: ps) ≠ [] := by
  cases ps with
  | nil => exact h
  | cons q r =>
    show p ++ _ ≠ []
    simp [h]
theorem parts_wtx {ws : List Wd} (g : ∀ w ∈ ws, okW w) : parts (wtx ws) = ws.map wt := by
  cases ws with
  | nil => rfl
  | cons w r =>
    have hne : wtx (w :: r) ≠ [] := joinL_ne (wt_free (g w List.mem_cons_self)).2.1
    unfold parts
    rw [if_neg hne]
    refine spc_join (by simp) fun p hp => ?_
    obtain ⟨v, hv, rfl⟩ := List.mem_map.mp hp
    exact (wt_free (g v hv)).1
theorem mapM_wt : ∀ {ws : List Wd}, (∀ w ∈ ws, okW w) → (ws.map wt).mapM wIn = some ws
  | [], _ => rfl
  | w :: r, g => by
    rw [List.map_cons, List.mapM_cons, wIn_wt (g w List.mem_cons_self), mapM_wt fun v hv => g v (List.mem_cons_of_mem _ hv)]
    rfl
theorem wsOf_wtx {ws : List Wd} (h : ws.length ≤ 4) (g : ∀ w ∈ ws, okW w) : wsOf (wtx ws) = some ws := by
  unfold wsOf
  rw [parts_wtx g, List.length_map, if_pos h]
  exact mapM_wt g
theorem wtx_len {ws : List Wd} (h : ws.length ≤ 4) (g : ∀ w ∈ ws, okW w) : (wtx ws).length ≤ 100 := by
  have key : ∀ ps : List (List Nat), (∀ p ∈ ps, p.length ≤ 9) → (TL.joinL [32] ps).length ≤ 10 * ps.length := by
    intro ps
    induction ps with
    | nil => intro _; exact Nat.le_refl 0
    | cons p r ih =>
      intro hp
      have h1 := hp p List.mem_cons_self
      cases r with
      | nil => show p.length ≤ 10 * 1; omega
      | cons q t =>
        have h2 := ih fun z hz => hp z (List.mem_cons_of_mem _ hz)
        show (p ++ ([32] ++ TL.joinL [32] (q :: t))).length ≤ _
        rw [List.length_append, List.length_append, List.length_cons (a := p)]
        simp only [List.length_cons, List.length_nil] at h2 ⊢
        omega
  have := key (ws.map wt) fun p hp => by
    obtain ⟨v, hv, rfl⟩ := List.mem_map.mp hp
    exact (wt_free (g v hv)).2.2
  rw [List.length_map] at this
  unfold wtx
  omega
/-- all parts tell words, or the first that tells none -/
theorem mapM_find : ∀ (ps : List (List Nat)), (∃ ws, ps.mapM wIn = some ws ∧ ws.length = ps.length ∧ ∀ p ∈ ps, (wIn p).isSome = true) ∨ ∃ ys y zs, ps = ys ++ y :: zs ∧ (∀ x ∈ ys, (wIn x).isSome = true) ∧ wIn y = none ∧ ps.mapM wIn = none
  | [] => .inl ⟨[], rfl, rfl, fun _ h => by cases h⟩
  | p :: r => by
    rw [List.mapM_cons]
    cases e : wIn p with
    | none => exact .inr ⟨[], p, r, rfl, (fun _ h => by cases h), e, rfl⟩
    | some w =>
      rcases mapM_find r with ⟨ws, h1, h2, h3⟩ | ⟨ys, y, zs, h1, h2, h3, h4⟩
      · refine .inl ⟨w :: ws, by rw [h1]; rfl, by simp [h2], fun x hx => ?_⟩
        rcases List.mem_cons.mp hx with rfl | hx
        · rw [e]; rfl
        · exact h3 x hx
      · refine .inr ⟨p :: ys, y, zs, by rw [h1]; rfl, fun x hx => ?_, h3, by rw [h4]; rfl⟩
        rcases List.mem_cons.mp hx with rfl | hx
        · rw [e]; rfl
        · exact h2 x hx
theorem mapM_map : ∀ {ps : List (List Nat)} {ws : List Wd}, ps.mapM wIn = some ws → ps.map (fun p => wdD ((wIn p).getD ([], []))) = ws.map wdD
  | [], ws, h => by cases h; rfl
  | p :: r, ws, h => by
    rw [List.mapM_cons] at h
    cases e : wIn p with
    | none => rw [e] at h; cases h
    | some w =>
      rw [e] at h
      cases e2 : r.mapM wIn with
      | none => rw [e2] at h; cases h
      | some vs =>
        rw [e2] at h
        cases h
        rw [List.map_cons, List.map_cons, e, mapM_map e2]
        rfl
end Lf
namespace Lf
open PySem PySem.Spec PyProof.Rows L2 LamX
theorem ahead_take {l : List Nat} (h : (aheadT.lookup (cutL l none (some 1))).isSome = true) : ∃ c r, l = c :: r ∧ cutL l none (some 1) = [c] := by
  rw [take_one] at h ⊢
  cases l with
  | nil => cases h
  | cons c r => exact ⟨c, r, rfl, rfl⟩
theorem ahead_ix {l : List Nat} (h : (aheadT.lookup (cutL l none (some 1))).isSome = true) : atI l 0 = some (l.getD 0 0) := by
  obtain ⟨c, r, rfl, _⟩ := ahead_take h
  exact getD_at (l := c :: r) (i := 0) (by simp)
theorem ahead_kd {l : List Nat} (h : (aheadT.lookup (cutL l none (some 1))).isSome = true) : aheadT.lookup [l.getD 0 0] = some (wAk l) := by
  unfold wAk
  rw [if_pos h]
  obtain ⟨c, r, rfl, e⟩ := ahead_take h
  rw [e] at h ⊢
  obtain ⟨y, hy⟩ := Option.isSome_iff_exists.mp h
  rw [hy]
  exact hy
theorem wAa_ahead {l : List Nat} (h : (aheadT.lookup (cutL l none (some 1))).isSome = true) : wAa l = cutL l (some 1) none := by
  unfold wAa
  rw [if_pos h]
theorem wA_tail {l : List Nat} (h : (aheadT.lookup (cutL l none (some 1))).isSome = false) (g : cutL l (some (-1)) none = [36]) : wAk l = kTail ∧ wAa l = cutL l none (some (-1)) := by
  unfold wAk wAa
  rw [if_neg (by rw [h]; decide), if_pos g, if_neg (by rw [h]; decide), if_pos g]
  exact ⟨rfl, rfl⟩
theorem wA_let {l : List Nat} (h : (aheadT.lookup (cutL l none (some 1))).isSome = false) (g : ¬ cutL l (some (-1)) none = [36]) : wAk l = kLet ∧ wAa l = l := by
  unfold wAk wAa
  rw [if_neg (by rw [h]; decide), if_neg g, if_neg (by rw [h]; decide), if_neg g]
  exact ⟨rfl, rfl⟩
theorem wIn_bad {l a : List Nat} (h : wAa l = a) (hb : a = [] ∨ isAs a = false) : wIn l = none := by
  unfold wIn
  rw [h, if_pos hb]
theorem wIn_good {l a k : List Nat} (hk : wAk l = k) (h : wAa l = a) (hb : ¬ (a = [] ∨ isAs a = false)) : wIn l = some (k, a) := by
  unfold wIn
  rw [hk, h, if_neg hb]
theorem ahead_any (m : List Nat) : ([tx [39], tx [94], tx [33]].any fun z => PyData.eqv z (tx m)) = (aheadT.lookup m).isSome := by
  have : ∀ u v : List Nat, PyData.eqv (tx u) (tx v) = decide (v = u) := fun u v => by
    show ((⟨u.toArray⟩ : Str) == ⟨v.toArray⟩) = _
    by_cases z : v = u
    · rw [decide_eq_true z, z]; exact beq_self_eq_true _
    · rw [decide_eq_false z]
      exact beq_eq_false_iff_ne.mpr fun y => z (tx_inj.mp y).symm
  rw [List.any_cons, List.any_cons, List.any_cons, List.any_nil, Bool.or_false, this, this, this]
  unfold aheadT
  simp only [List.lookup_cons, List.lookup_nil]
  by_cases h1 : m = [39]
  · subst h1; rfl
  · by_cases h2 : m = [94]
    · subst h2; rfl
    · by_cases h3 : m = [33]
      · subst h3; rfl
      · have b : ∀ u, ¬ m = u → (m == u) = false := fun u hu => beq_eq_false_iff_ne.mpr hu
        rw [decide_eq_false h1, decide_eq_false h2, decide_eq_false h3, b _ h1, b _ h2, b _ h3]
        rfl
theorem ahead3 {l : List Nat} (h : ([tx [39], tx [94], tx [33]].any fun z => PyData.eqv z (tx (cutL l none (some 1)))) = true) : (aheadT.lookup (cutL l none (some 1))).isSome = true := by
  rw [← ahead_any]
  exact h
theorem ahead3_ix {l : List Nat} (h : ([tx [39], tx [94], tx [33]].any fun z => PyData.eqv z (tx (cutL l none (some 1)))) = true) : atI l 0 = some (l.getD 0 0) := ahead_ix (ahead3 h)
theorem ahead3_disp {l : List Nat} (h : ([tx [39], tx [94], tx [33]].any fun z => PyData.eqv z (tx (cutL l none (some 1)))) = true) : valV (mergeK [] (kvT [([39], [112, 105, 101, 99, 101]), ([94], [104, 101, 97, 100]), ([33], [119, 105, 116, 104, 111, 117, 116])])) (.inr ⟨[l.getD 0 0].toArray⟩) = some (.str ⟨(wAk l).toArray⟩) := by
  have h1 := ahead_kd (ahead3 h)
  generalize l.getD 0 0 = c at h1
  generalize wAk l = y at h1
  unfold aheadT at h1
  simp only [List.lookup_cons, List.lookup_nil] at h1
  split at h1
  · rename_i e; obtain rfl : c = 39 := by simpa using e
    cases h1; decide +kernel
  · split at h1
    · rename_i e; obtain rfl : c = 94 := by simpa using e
      cases h1; decide +kernel
    · split at h1
      · rename_i e; obtain rfl : c = 33 := by simpa using e
        cases h1; decide +kernel
      · cases h1
/-- the law's writing of a word's sign -/
def sgT : List (List Nat × List Nat) := [([108, 101, 116, 116, 101, 114, 115], []), ([112, 105, 101, 99, 101], [39]), ([104, 101, 97, 100], [94]), ([119, 105, 116, 104, 111, 117, 116], [33]), ([116, 97, 105, 108], [])]
def sgn (k : List Nat) : List Nat := (sgT.lookup k).getD []
theorem sgn_disp {k : List Nat} (h : isKind k = true) : valV (mergeK [] (kvT sgT)) (.inr ⟨k.toArray⟩) = some (.str ⟨(sgn k).toArray⟩) := by
  rcases kind_cases h with rfl | rfl | rfl | rfl | rfl <;> decide +kernel
theorem sgn_wt {k a : List Nat} (h : isKind k = true) (hk : k ≠ kTail) : sgn k ++ a = wt (k, a) := by
  rcases kind_cases h with rfl | rfl | rfl | rfl | rfl
  · rfl
  · exact absurd rfl hk
  · rfl
  · rfl
  · rfl
/-- the law's look at the signs of an ask -/
theorem kind_none_as {a : List Nat} (h : a.length ≤ 8) : (a.filter fun c => decide (kindL c = [110, 111, 110, 101])) = [] ↔ isAs a = true := by
  unfold isAs
  rw [decide_eq_true h, Bool.true_and, List.all_eq_true, List.filter_eq_nil_iff]
  have key : ∀ c, kindL c = [110, 111, 110, 101] ↔ c ∉ lSmall ++ lGreat ++ lFig := fun c => by
    unfold kindL
    simp only [List.mem_append]
    split
    · rename_i h; simp [h]; decide
    · split
      · rename_i h; simp [h]; decide
      · split
        · rename_i h; simp [h]; decide
        · rename_i h1 h2 h3; simp [h1, h2, h3]; rfl
  constructor
  · intro g c hc
    refine decide_eq_true ?_
    have := g c hc
    rw [decide_eq_true_eq, key] at this
    exact Decidable.not_not.mp this
  · intro g c hc
    rw [decide_eq_true_eq, key]
    exact fun z => z (of_decide_eq_true (g c hc))
theorem mapM_len : ∀ {ps : List (List Nat)} {ws : List Wd}, ps.mapM wIn = some ws → ws.length = ps.length
  | [], ws, h => by cases h; rfl
  | p :: r, ws, h => by
    rw [List.mapM_cons] at h
    cases e : wIn p with
    | none => rw [e] at h; cases h
    | some w =>
      rw [e] at h
      cases e2 : r.mapM wIn with
      | none => rw [e2] at h; cases h
      | some vs =>
        rw [e2] at h
        cases h
        rw [List.length_cons, List.length_cons, mapM_len e2]
theorem mapM_snoc {ps : List (List Nat)} {ws : List Wd} {p : List Nat} {w : Wd} (h : ps.mapM wIn = some ws) (g : wIn p = some w) : (ps ++ [p]).mapM wIn = some (ws ++ [w]) := by
  rw [List.mapM_append, h, List.mapM_cons, g]
  rfl
theorem mapM_bad : ∀ {ps qs : List (List Nat)} {p : List Nat}, wIn p = none → (ps ++ p :: qs).mapM wIn = none
  | [], qs, p, g => by
    rw [List.nil_append, List.mapM_cons, g]
    rfl
  | x :: r, qs, p, g => by
    rw [List.cons_append, List.mapM_cons, mapM_bad g]
    cases wIn x <;> rfl
theorem sum_wt : ∀ {vs : List Wd}, (∀ w ∈ vs, okW w) → ((vs.map wt).map (·.length)).sum ≤ 9 * vs.length
  | [], _ => Nat.le_refl 0
  | v :: r, g => by
    have h1 := (wt_free (g v List.mem_cons_self)).2.2
    have h2 := sum_wt fun w hw => g w (List.mem_cons_of_mem _ hw)
    simp only [List.map_cons, List.sum_cons, List.length_cons]
    omega
theorem spl_mem : ∀ (l acc : List Nat), ∀ p ∈ TL.spl [32] 0 acc l, ∀ c ∈ p, c ∈ acc ∨ c ∈ l
  | [], acc => fun p hp c hc => by
    unfold TL.spl at hp
    rw [List.mem_singleton.mp hp] at hc
    exact .inl hc
  | d :: r, acc => fun p hp c hc => by
    unfold TL.spl at hp
    split at hp
    · rcases List.mem_cons.mp hp with rfl | hp
      · exact .inl hc
      · rcases spl_mem r [] p hp c hc with z | z
        · cases z
        · exact .inr (List.mem_cons_of_mem _ z)
    · rcases spl_mem r (acc ++ [d]) p hp c hc with z | z
      · rcases List.mem_append.mp z with z | z
        · exact .inl z
        · rw [List.mem_singleton.mp z]
          exact .inr List.mem_cons_self
      · exact .inr (List.mem_cons_of_mem _ z)
theorem parts_mem {l p : List Nat} (hp : p ∈ parts l) : ∀ c ∈ p, c ∈ l := fun c hc => by
  unfold parts at hp
  split at hp
  · cases hp
  · rcases spl_mem l [] p hp c hc with z | z
    · cases z
    · exact z
theorem line_le {n : Nat} (h : n ≤ 10000) : n ≤ sizeLine := Nat.le_trans h (by decide)
theorem wAa_mem {p : List Nat} : ∀ c ∈ wAa p, c ∈ p := fun c hc => by
  unfold wAa at hc
  split at hc
  · exact cut_mem hc
  · split at hc
    · exact cut_mem hc
    · exact hc
def tlB (a : List Nat) : Bool := !(decide ((0 : Int) < (a.length : Int)) && decide ((a.length : Int) < 9)) || !(PyData.list ((a.filter fun c => decide (kindL c = [110, 111, 110, 101])).map fun c => tx [c])).eqv (PyData.list [])
theorem eqv_nil (ds : List PyData) : (PyData.list ds).eqv (PyData.list []) = ds.isEmpty := by
  cases ds <;> rfl
theorem tlB_eq (a : List Nat) : tlB a = true ↔ (a = [] ∨ isAs a = false) := by
  unfold tlB
  rw [eqv_nil]
  by_cases h0 : a = []
  · subst h0
    simp
  · have hp : (0 : Int) < (a.length : Int) := by
      have := List.length_pos_iff.mpr h0
      omega
    rw [decide_eq_true hp, Bool.true_and]
    by_cases h9 : a.length ≤ 8
    · have h9' : (a.length : Int) < 9 := by omega
      rw [decide_eq_true h9', Bool.not_true, Bool.false_or]
      have key := kind_none_as h9
      cases e : (a.filter fun c => decide (kindL c = [110, 111, 110, 101])) with
      | nil =>
        have := key.mp e
        simp [this, h0]
      | cons c t =>
        have : isAs a = false := by
          cases q : isAs a with
          | false => rfl
          | true => rw [key.mpr q] at e; cases e
        simp [this]
    · have h9' : ¬ (a.length : Int) < 9 := by omega
      rw [decide_eq_false h9']
      have : isAs a = false := by
        unfold isAs
        rw [decide_eq_false h9, Bool.false_and]
      simp [this]
theorem tell_bad {l p a : List Nat} {pre post : List (List Nat)} (hx : parts l = pre ++ p :: post) (ha : wAa p = a) (h : tlB a = true) : tellD l = .none := by
  unfold tellD wsOf
  rw [hx, mapM_bad (wIn_bad ha ((tlB_eq a).mp h))]
  simp
theorem tell_good {p a k : List Nat} (hk : wAk p = k) (ha : wAa p = a) (h : tlB a = false) : wIn p = some (k, a) := wIn_good hk ha fun z => by
  rw [(tlB_eq a).mpr z] at h
  cases h
/-! ### for the law -/
def l9 : List (List Nat) := [[39], [94], [33], [36], [32], [], [95], [32, 97, 32, 98], [97, 98, 99, 100, 101, 102, 103]]
theorem at_l9 (x : Int) : atI [tx [39], tx [94], tx [33], tx [36], tx [32], tx [], tx [95], tx [32, 97, 32, 98], tx [97, 98, 99, 100, 101, 102, 103]] (x % 9) = some (tx (l9.getD (x % 9).toNat [])) := by
  have h1 : x % 9 = 0 ∨ x % 9 = 1 ∨ x % 9 = 2 ∨ x % 9 = 3 ∨ x % 9 = 4 ∨ x % 9 = 5 ∨ x % 9 = 6 ∨ x % 9 = 7 ∨ x % 9 = 8 := by omega
  rcases h1 with e | e | e | e | e | e | e | e | e <;> rw [e] <;> rfl
theorem l9_ok (n : Nat) : (l9.getD n []).length ≤ 7 ∧ ∀ c ∈ l9.getD n [], c < 128 := by
  by_cases h : n < 9
  · have : ∀ n, n < 9 → (l9.getD n []).length ≤ 7 ∧ ∀ c ∈ l9.getD n [], c < 128 := by decide
    exact this n h
  · rw [List.getD_eq_getElem?_getD, List.getElem?_eq_none (by show 9 ≤ n; omega)]
    exact ⟨by decide, fun c hc => by cases hc⟩
theorem kind_low {k : List Nat} (h : isKind k = true) : ∀ c ∈ k, c < 128 := by
  rcases kind_cases h with rfl | rfl | rfl | rfl | rfl <;> decide
theorem as_low {a : List Nat} (h : isAs a = true) : ∀ c ∈ a, c < 128 := fun c hc => by
  have : ∀ c ∈ lSmall ++ lGreat ++ lFig, c < 128 := by decide
  exact this c (as_mem h c hc)
theorem lay_wds {ws : List Wd} (h : ∀ w ∈ ws, okW w) : Lay 2 (.list (ws.map wdD)) := lay_list (n := 1) fun d hd => by
  obtain ⟨w, hw, rfl⟩ := List.mem_map.mp hd
  refine lay_tuple (n := 0) fun e he => ?_
  have he : e ∈ [tx w.1, tx w.2] := he
  simp only [List.mem_cons, List.not_mem_nil, or_false] at he
  rcases he with rfl | rfl
  · exact lay_tx fun c hc => by have := kind_low (h w hw).1 c hc; omega
  · exact lay_tx fun c hc => by have := as_low (h w hw).2.1 c hc; omega
theorem wt_low {w : Wd} (h : okW w) : ∀ c ∈ wt w, c < 128 := fun c hc => by
  obtain ⟨k, a⟩ := w
  obtain ⟨h1, h2, h3⟩ := h
  have ha := as_low (show isAs a = true from h2)
  rcases kind_cases h1 with rfl | rfl | rfl | rfl | rfl
  · exact ha c hc
  · rcases List.mem_append.mp (show c ∈ a ++ [36] from hc) with z | z
    · exact ha c z
    · rw [List.mem_singleton.mp z]; decide
  · rcases List.mem_append.mp (show c ∈ [39] ++ a from hc) with z | z
    · rw [List.mem_singleton.mp z]; decide
    · exact ha c z
  · rcases List.mem_append.mp (show c ∈ [94] ++ a from hc) with z | z
    · rw [List.mem_singleton.mp z]; decide
    · exact ha c z
  · rcases List.mem_append.mp (show c ∈ [33] ++ a from hc) with z | z
    · rw [List.mem_singleton.mp z]; decide
    · exact ha c z
theorem wtx_low {ws : List Wd} (h : ∀ w ∈ ws, okW w) : ∀ c ∈ wtx ws, c < 128 := by
  have key : ∀ ps : List (List Nat), (∀ p ∈ ps, ∀ c ∈ p, c < 128) → ∀ c ∈ TL.joinL [32] ps, c < 128 := by
    intro ps
    induction ps with
    | nil => intro _ c hc; cases hc
    | cons p r ih =>
      intro hp c hc
      cases r with
      | nil => exact hp p List.mem_cons_self c hc
      | cons q t =>
        rcases List.mem_append.mp (show c ∈ p ++ ([32] ++ TL.joinL [32] (q :: t)) from hc) with z | z
        · exact hp p List.mem_cons_self c z
        · rcases List.mem_append.mp z with z | z
          · rw [List.mem_singleton.mp z]; decide
          · exact ih (fun x hx => hp x (List.mem_cons_of_mem _ hx)) c z
  exact key _ fun p hp => by
    obtain ⟨w, hw, rfl⟩ := List.mem_map.mp hp
    exact wt_low (h w hw)
theorem wIn_ok {p : List Nat} {w : Wd} (h : wIn p = some w) : okW w := by
  unfold wIn at h
  split at h
  · cases h
  · rename_i g
    cases h
    refine ⟨?_, ?_, fun z => g (.inl z)⟩
    · show isKind (wAk p) = true
      unfold wAk
      split
      · rename_i q
        obtain ⟨y, hy⟩ := Option.isSome_iff_exists.mp q
        rw [hy]
        show isKind y = true
        unfold aheadT at hy
        simp only [List.lookup_cons, List.lookup_nil] at hy
        split at hy
        · cases hy; decide
        · split at hy
          · cases hy; decide
          · split at hy
            · cases hy; decide
            · cases hy
      · split <;> decide
    · show isAs (wAa p) = true
      cases q : isAs (wAa p) with
      | true => rfl
      | false => exact absurd (.inr q) g
theorem mapM_ok : ∀ {ps : List (List Nat)} {ws : List Wd}, ps.mapM wIn = some ws → ∀ w ∈ ws, okW w
  | [], ws, h => by cases h; intro w hw; cases hw
  | p :: r, ws, h => by
    rw [List.mapM_cons] at h
    cases e : wIn p with
    | none => rw [e] at h; cases h
    | some w =>
      rw [e] at h
      cases e2 : r.mapM wIn with
      | none => rw [e2] at h; cases h
      | some vs =>
        rw [e2] at h
        cases h
        intro x hx
        rcases List.mem_cons.mp hx with rfl | hx
        · exact wIn_ok e
        · exact mapM_ok e2 x hx
def sd60 (l : List Nat) : PyData := match wsOf l with | some ws => .list (ws.map wdD) | none => tx [66, 97, 100, 84, 101, 120, 116]
theorem sd60_lay (l : List Nat) : Lay 2 (sd60 l) := by
  unfold sd60
  cases e : wsOf l with
  | none => exact lay_tx (by decide)
  | some ws =>
    unfold wsOf at e
    split at e
    · exact lay_wds (mapM_ok e)
    · cases e
theorem sd60_none {l : List Nat} (h : isN (tellD l) = true) : tx [66, 97, 100, 84, 101, 120, 116] = sd60 l := by
  unfold tellD at h
  unfold sd60
  cases e : wsOf l with
  | none => rfl
  | some ws => rw [e] at h; cases h
theorem sd60_some {l : List Nat} (h : isN (tellD l) = false) : tellD l = sd60 l := by
  unfold tellD at h ⊢
  unfold sd60
  cases e : wsOf l with
  | none => rw [e] at h; cases h
  | some ws => rfl
theorem wsD_tx (C7 : Addr) (l : List Nat) : wsD C7 (tx l) = match wsOf l with | some ws => .ok (.list (ws.map wdD)) | none => .error C7 := by
  unfold wsD
  rw [if_pos (isTx_tx l), cod_tx]
theorem wsD_wtx {C7 : Addr} {ws : List Wd} (h : ws.length ≤ 4) (g : ∀ w ∈ ws, okW w) : wsD C7 (tx (wtx ws)) = .ok (.list (ws.map wdD)) := by
  rw [wsD_tx, wsOf_wtx h g]
def okWsB (d : PyData) : Bool := decide ((lsOf d).length ≤ 10000) && (lsOf d).all fun e => decide ((tpOf e).length ≤ 10000) && (tpOf e).all fun x => decide ((cod x).length ≤ 10000)
theorem okWs_of {d : PyData} (h : okWsB d = true) : okWs d := by
  unfold okWsB at h
  simp only [Bool.and_eq_true, List.all_eq_true, decide_eq_true_eq] at h
  exact ⟨h.1, fun e he => ⟨(h.2 e he).1, fun x hx => (h.2 e he).2 x hx⟩⟩
theorem R_written_er {C7 : Addr} {d : PyData} (h : (okWsB d && !areWd d) = true) : R_written C7 [d] (.error C7) := by
  rw [Bool.and_eq_true] at h
  refine ⟨d, rfl, okWs_of h.1, ?_⟩
  rw [if_neg (by simpa using h.2)]
def wsBad (d : PyData) : Bool := decide ((cod d).length ≤ 10000) && (!isTx d || (wsOf (cod d)).isNone)
theorem R_words_er {C7 : Addr} {d : PyData} (h : wsBad d = true) : R_words_of C7 [d] (.error C7) := by
  unfold wsBad at h
  rw [Bool.and_eq_true, Bool.or_eq_true] at h
  refine ⟨d, rfl, show (cod d).length ≤ 10000 from of_decide_eq_true h.1, ?_⟩
  unfold wsD
  rcases h.2 with z | z
  · rw [if_neg (by simpa using z)]
  · split
    · cases e : wsOf (cod d) with
      | none => rfl
      | some ws => rw [e] at z; cases z
    · rfl
end Lf
set_option Elab.async false
set_option linter.all false
set_option maxRecDepth 100000
set_option maxHeartbeats 4000000
namespace Lf
open PySem PySem.Spec PyProof.Rows L2 L2H HotX LamX
/-! ### what the head has written -/
structure ErrOk (K : PySem.W.Frag) (C : Addr) : Prop where
  x : PySem.W.excIn K C [.type "ValueError", .type "Exception", .type "BaseException", .type "object"] "ValueError.__new__" = true
  k : PySem.W.keepIn K (.ref C) = true
  e : PySem.W.subIn K (.ref C) (.type "BaseException") = some true
  t : PySem.W.typeIn K (.ref C) = some (.type "type")
structure EwX (K : PySem.W.Frag) (cs : List Addr) (CS C : Addr) (j : Nat) : Prop extends Ew K cs C j where
  ok : ErrOk K C
  exm : PySem.W.exmOne K (.ref C) (.ref CS) = some true
theorem told_d {K : PySem.W.Frag} {cs : List Addr} {CS : Addr} {d : PyData} : ToldIs K cs CS d (.ok d) := rfl
theorem told_w {K : PySem.W.Frag} {cs : List Addr} {CS C : Addr} {j : Nat} {w : Str} {l : List Nat} (h : EwX K cs CS C j) (hw : ewords[j]? = some w) (e : PyData.str w = tx l) : ToldIs K cs CS (tx l) (.error C) := ⟨j, w, h.toEw, h.exm, hw, e.symm⟩
def wBadName : List Nat := [66, 97, 100, 78, 97, 109, 101]
def wBadAsk : List Nat := [66, 97, 100, 65, 115, 107]
def wBadMarks : List Nat := [66, 97, 100, 77, 97, 114, 107, 115]
def wBadPlaces : List Nat := [66, 97, 100, 80, 108, 97, 99, 101, 115]
def wBadNumber : List Nat := [66, 97, 100, 78, 117, 109, 98, 101, 114]
def wNoName : List Nat := [78, 111, 78, 97, 109, 101]
def wNothing : List Nat := [78, 111, 116, 104, 105, 110, 103]
def wBadText : List Nat := [66, 97, 100, 84, 101, 120, 116]
theorem lay_words {d : PyData} (h : (d.canLay0 && decide (d.depth ≤ 2)) = true) : Lay 2 d := by
  simp only [Bool.and_eq_true, decide_eq_true_eq] at h
  exact h
def ewB (K : PySem.W.Frag) (cs : List Addr) (CS C : Addr) (j : Nat) : Bool :=
  decide (cs.length = 8) && decide (cs[j]? = some C) && (List.range 8).all (fun i => decide (PySem.W.kitOne K (.ref C) (.ref (cs.getD i 0)) = some (decide (i = j)))) && decide (PySem.W.kitOne K (.ref C) (.type "ValueError") = some true)
  && decide (PySem.W.exmOne K (.ref C) (.ref CS) = some true)
  && (PySem.W.excIn K C [.type "ValueError", .type "Exception", .type "BaseException", .type "object"] "ValueError.__new__" && PySem.W.keepIn K (.ref C) && decide (PySem.W.subIn K (.ref C) (.type "BaseException") = some true) && (PySem.W.typeIn K (.ref C) == some (.type "type")))
  && ((PySem.W.findIn K (.ref C) "__getattribute__" == some (some (.builtin "BaseException.__getattribute__"))) && (PySem.W.findIn K (.ref C) "__getattr__" == some none) && PySem.W.hasDictIn K C && (PySem.W.findIn K (.ref C) "__class__" == some (some (.builtin "object.__class__")))
    && (PySem.W.specialIn K (.builtin "object.__class__") "__get__" == some (some (.builtin "getset_descriptor.__get__"))) && decide (PySem.W.takesIn K (.builtin "object.__class__") = some true) && decide (PySem.W.mroIn K C (.type "object") = some true))
theorem ew_of {K : PySem.W.Frag} {cs : List Addr} {CS C : Addr} {j : Nat} (h : ewB K cs CS C j = true) : EwX K cs CS C j := by
  unfold ewB at h
  simp only [Bool.and_eq_true, decide_eq_true_eq, beq_iff_eq, List.all_eq_true, List.mem_range] at h
  obtain ⟨⟨⟨⟨⟨⟨h1, h2⟩, h3⟩, h4⟩, h5⟩, ⟨⟨h6, h7⟩, h8⟩, h9⟩, ⟨⟨⟨⟨⟨g1, g2⟩, g3⟩, g4⟩, g5⟩, g6⟩, g7⟩ := h
  refine ⟨⟨h1, h2, ⟨g1, g2, h8, g3, g4, g5, g6, g7⟩, fun i D e => ?_, h4⟩, ⟨h6, h7, h8, h9⟩, h5⟩
  have hi : i < 8 := by
    have := (List.getElem?_eq_some_iff.mp e).1
    omega
  have := h3 i hi
  rw [show cs.getD i 0 = D by simp [e]] at this
  exact this
theorem df_mk {G : Pg} {x : Str} {st : Stmt} {f : Addr} {h : Heap} {ps : List Str} {od an : Option Addr} {sl : Array (Option Value)} {oc kV dc pm cd ct : Value} (X : G.K.In h) (N : h.Ns mainGlobals G.mg) (a : PySem.W.nsIn G.K mainGlobals x = some (some (.ref f)))
    (l : G.K.lookup f = some ⟨oc, od, .func (PySem.W.fnOf x x (defArgs st) (defBody st) (defScope st) .none kV dc pm an cd ct), sl⟩) (c : PySem.W.codeIn G.K cd x = true) (k : PySem.W.keepIn G.K (.ref f) = true)
    (hb : ∀ fd, Fun G.K x x st f fd → Binds G.K fd ps []) : Df G x st ps :=
  let F := fun_mk (st := st) l c k
  ⟨_, _, F, PySem.W.mg_of X N a, hb _ F⟩
theorem tabs_empty {H : Hp} {P : Addr} {q : Str} (h : H P = some (.tbl #[])) : Tabs [(P, q)] H := fun p hp => by
  cases List.mem_singleton.mp hp
  exact ⟨#[], h, by trivial, fun pos cv hc => by cases hc⟩
theorem tabs_nil {H : Hp} : Tabs [] H := fun p hp => by cases hp
theorem tabs_cons {H : Hp} {P : Addr} {q : Str} {T : List (Addr × Str)} (h : H P = some (.tbl #[])) (g : Tabs T H) : Tabs ((P, q) :: T) H := fun p hp => by
  rcases List.mem_cons.mp hp with e | hp
  · rw [e]; exact tabs_empty h _ List.mem_cons_self
  · exact g p hp
/-- a def that makes lambdas, by its name -/
structure DfL (G : Pg) (x : Str) (st : Stmt) (ps : List Str) (c : Addr) : Prop where
  ex : ∃ f fd, Fun G.K x x st f fd ∧ G.mg x = some (.ref f) ∧ Binds G.K fd ps [] ∧ fd.code = .ref c
theorem dfl_mk {G : Pg} {x : Str} {st : Stmt} {f c0 : Addr} {h : Heap} {ps : List Str} {od an : Option Addr} {sl : Array (Option Value)} {oc kV dc pm ct : Value} (X : G.K.In h) (N : h.Ns mainGlobals G.mg) (a : PySem.W.nsIn G.K mainGlobals x = some (some (.ref f)))
    (l : G.K.lookup f = some ⟨oc, od, .func (PySem.W.fnOf x x (defArgs st) (defBody st) (defScope st) .none kV dc pm an (.ref c0) ct), sl⟩) (c : PySem.W.codeIn G.K (.ref c0) x = true) (k : PySem.W.keepIn G.K (.ref f) = true)
    (hb : ∀ fd, Fun G.K x x st f fd → Binds G.K fd ps []) : DfL G x st ps c0 :=
  let F := fun_mk (st := st) l c k
  ⟨_, _, F, PySem.W.mg_of X N a, hb _ F, rfl⟩
theorem fn_dataL {c : Addr} {G : Pg} {st : Stmt} {x qual : Str} {f : Addr} {fd : FuncData} {N ps : List Str} {k : Nat} {T : List (Addr × Str)} {R : List PyData → Res → Prop} (Fn : Fun G.K x qual st f fd) (S : FnScope N ps (defScope st)) (hc : fd.code = .ref c) (len : ∀ ds r, R ds r → ds.length = ps.length)
    (body : ∀ (r : Rest) (F : Fx G.K T) (ds : List PyData) (res : Res), CtD (G.cx N r) N (defScope st) F.E → Co (G.cx N r) c (qual ++ ".<locals>.") → Room k r.A → R ds res → PSs (G.cx N r) (defBody st) (sD F (start0 N ds) (postOf res))) :
    FnOk G.prog G.w G.K G.mg G.base (L2N.CX G.prog G.w) (k + 1) f fd ps (spD T R) := by
  obtain ⟨oc, od, kV, doc, pm, an, cdv, ct, osl, rfl, lk, hcd⟩ := Fn.ex
  obtain rfl : cdv = .ref c := hc
  refine fn_of lk hcd S (fun vs H Q E h => ?_) fun A outer s H vs Q E hr h => ?_
  · obtain ⟨O, ds, r, _, _, hd, hR, _⟩ := h
    rw [hd.len]
    exact len ds r hR
  · obtain ⟨O, ds, r, dom, tb, hd, hR, ok, er⟩ := h
    refine ⟨_, body ⟨A.deeper (envOfC qual (defScope st) s.heap.objs.size f (.ref c)), s, H, envOfC qual (defScope st) s.heap.objs.size f (.ref c), outer, envOfC qual (defScope st) s.heap.objs.size f (.ref c) :: outer, [], fun _ => true, true, [], _⟩ ⟨O, H, E, dom⟩ ds r ⟨⟨rfl, rfl, S.nd, rfl⟩, fun _ => rfl, passes_of rfl, L2N.takes_of rfl rfl rfl rfl, rfl, rfl⟩ ⟨rfl, rfl⟩ hr hR, O, [], ?_, (fun _ z => by cases z), ?_⟩
    · have hl := len ds r hR
      have hp : ps.length ≤ N.length := by
        have := congrArg List.length S.pre
        rw [List.length_take] at this
        omega
      have hv := hd.len
      refine ⟨?_, fun a z => z, dom, tb, ExtN.refl H, fun i u q => ?_, fun i j u w q n h1 h2 m1 m2 => ?_, fun i j R u n h1 h2 p hp => ?_⟩
      rotate_right
      · unfold start0 at h1
        by_cases hi : i < ds.length
        · rw [List.getElem?_append_left (by simpa using hi), List.getElem?_map] at h1
          cases e : ds[i]? with
          | none => rw [e] at h1; cases h1
          | some d => rw [e] at h1; cases h1
        · rw [List.getElem?_append_right (by simpa using hi), List.getElem?_replicate] at h1
          split at h1 <;> cases h1
      · simp [start0, L2.start, hv]
      · unfold start0 at q
        unfold L2.start
        by_cases hi : i < ds.length
        · rw [List.getElem?_append_left (by simpa using hi), List.getElem?_map] at q
          rw [List.getElem?_append_left (by simpa [hv] using hi), List.getElem?_map]
          cases e : ds[i]? with
          | none => rw [e] at q; cases q
          | some d =>
            rw [e] at q
            cases q
            obtain ⟨v, e1, e2⟩ := hd.get e
            rw [e1]
            exact ⟨v, rfl, e2⟩
        · rw [List.getElem?_append_right (by simpa using hi), List.getElem?_replicate] at q
          split at q
          · cases q; trivial
          · cases q
      · have no : ∀ {i : Nat} {u : Slot}, (start0 N ds)[i]? = some u → u.mine = false := fun {i u} q => by
          unfold start0 at q
          by_cases hi : i < ds.length
          · rw [List.getElem?_append_left (by simpa using hi), List.getElem?_map] at q
            cases e : ds[i]? with
            | none => rw [e] at q; cases q
            | some d => rw [e] at q; cases q; rfl
          · rw [List.getElem?_append_right (by simpa using hi), List.getElem?_replicate] at q
            split at q
            · cases q; rfl
            · cases q
        rw [no h1] at m1
        cases m1
    · exact ⟨fun δ O' σ' H' m s1 t1 => ok .none m .non H' s1.ext s1.tabs rfl, fun d v H' m e t g => ok d m v H' e t g, fun δ O' σ' H' m => m.elim, fun δ O' σ' H' m => m.elim, fun c H' m e t => er c m H' e t, fun _ _ _ _ _ _ m => m.elim, fun _ _ _ _ _ m => m.elim⟩
theorem fd_dataL {G : Pg} {st : Stmt} {x : Str} {N ps : List Str} {c : Addr} {k : Nat} {T : List (Addr × Str)} {R : List PyData → Res → Prop} (D : DfL G x st ps c) (S : FnScope N ps (defScope st)) (len : ∀ ds r, R ds r → ds.length = ps.length)
    (body : ∀ (r : Rest) (F : Fx G.K T) (ds : List PyData) (res : Res), CtD (G.cx N r) N (defScope st) F.E → Co (G.cx N r) c (x ++ ".<locals>.") → Room k r.A → R ds res → PSs (G.cx N r) (defBody st) (sD F (start0 N ds) (postOf res))) :
    Fd G.prog G.w G.K G.mg G.base x (k + 1) ps (spD T R) := by
  obtain ⟨f, fd, Fn, m, b, hc⟩ := D.ex
  exact ⟨f, fd, fn_dataL Fn S hc len body, m, Fn.kp, b⟩
theorem noCX {P : Program} {w : World} {st : List Env} {H : Hp} {s : Shared} {e : Value} {s' : Shared} (h : L2N.CX P w st H s (fun _ _ _ => False) e s') : False := by
  obtain ⟨_, _, _, _, _, _, _, _, _, _, _, _, z⟩ := h
  exact z.elim
end Lf
set_option Elab.async false
set_option linter.all false
set_option maxRecDepth 100000
set_option maxHeartbeats 1000000
namespace K60
open PySem PySem.Spec PyProof.Rows L2 LamX Lf
def topS (i : Nat) : Stmt := PySem.Challenge.pw_letterfinds_k60_whole_words_written.main.body.getD i (.Pass ⟨0, 0, 0, 0⟩)
abbrev st_is_ask : Stmt := topS 15
abbrev nm_is_ask : List Str := ["thing", "sign"]
theorem sc_is_ask : FnScope nm_is_ask ["thing"] (defScope st_is_ask) := ⟨rfl, rfl, rfl, by decide +kernel, rfl, by decide +kernel, by decide +kernel⟩
abbrev st_word_in : Stmt := topS 20
abbrev nm_word_in : List Str := ["text", "kind", "ask"]
theorem sc_word_in : FnScope nm_word_in ["text"] (defScope st_word_in) := ⟨rfl, rfl, rfl, by decide +kernel, rfl, by decide +kernel, by decide +kernel⟩
abbrev st_words_of : Stmt := topS 21
abbrev nm_words_of : List Str := ["text", "some", "one"]
theorem sc_words_of : FnScope nm_words_of ["text"] (defScope st_words_of) := ⟨rfl, rfl, rfl, by decide +kernel, rfl, by decide +kernel, by decide +kernel⟩
abbrev st_are_words : Stmt := topS 22
abbrev nm_are_words : List Str := ["thing", "word"]
theorem sc_are_words : FnScope nm_are_words ["thing"] (defScope st_are_words) := ⟨rfl, rfl, rfl, by decide +kernel, rfl, by decide +kernel, by decide +kernel⟩
abbrev st_need_words : Stmt := topS 23
abbrev nm_need_words : List Str := ["words"]
theorem sc_need_words : FnScope nm_need_words ["words"] (defScope st_need_words) := ⟨rfl, rfl, rfl, by decide +kernel, rfl, by decide +kernel, by decide +kernel⟩
abbrev st_word_text : Stmt := topS 24
abbrev nm_word_text : List Str := ["word", "kind", "ask"]
theorem sc_word_text : FnScope nm_word_text ["word"] (defScope st_word_text) := ⟨rfl, rfl, rfl, by decide +kernel, rfl, by decide +kernel, by decide +kernel⟩
abbrev st_written : Stmt := topS 25
abbrev nm_written : List Str := ["words", "word"]
theorem sc_written : FnScope nm_written ["words"] (defScope st_written) := ⟨rfl, rfl, rfl, by decide +kernel, rfl, by decide +kernel, by decide +kernel⟩
abbrev st_law_cell : Stmt := topS 27
abbrev nm_law_cell : List Str := ["script", "k"]
theorem sc_law_cell : FnScope nm_law_cell ["script", "k"] (defScope st_law_cell) := ⟨rfl, rfl, rfl, by decide +kernel, rfl, by decide +kernel, by decide +kernel⟩
abbrev st_law_drawn : Stmt := topS 28
abbrev nm_law_drawn : List Str := ["cell", "k", "more"]
theorem sc_law_drawn : FnScope nm_law_drawn ["cell", "k"] (defScope st_law_drawn) := ⟨rfl, rfl, rfl, by decide +kernel, rfl, by decide +kernel, by decide +kernel⟩
abbrev st_law_word : Stmt := topS 29
abbrev nm_law_word : List Str := ["e", "flags", "words_here", "flag"]
theorem sc_law_word : FnScope nm_law_word ["e"] (defScope st_law_word) := ⟨rfl, rfl, rfl, by decide +kernel, rfl, by decide +kernel, by decide +kernel⟩
abbrev st_law_told : Stmt := topS 30
abbrev nm_law_told : List Str := ["deed", "e"]
theorem sc_law_told : FnScope nm_law_told ["deed"] (defScope st_law_told) := ⟨rfl, rfl, rfl, by decide +kernel, rfl, by decide +kernel, by decide +kernel⟩
abbrev st_law_sign : Stmt := topS 31
abbrev nm_law_sign : List Str := ["more"]
theorem sc_law_sign : FnScope nm_law_sign ["more"] (defScope st_law_sign) := ⟨rfl, rfl, rfl, by decide +kernel, rfl, by decide +kernel, by decide +kernel⟩
abbrev st_law_name : Stmt := topS 32
abbrev nm_law_name : List Str := ["more", "most", "j"]
theorem sc_law_name : FnScope nm_law_name ["more", "most"] (defScope st_law_name) := ⟨rfl, rfl, rfl, by decide +kernel, rfl, by decide +kernel, by decide +kernel⟩
abbrev st_law_ask_in : Stmt := topS 33
abbrev nm_law_ask_in : List Str := ["more", "name", "most", "found", "at", "j", "here"]
theorem sc_law_ask_in : FnScope nm_law_ask_in ["more", "name", "most"] (defScope st_law_ask_in) := ⟨rfl, rfl, rfl, by decide +kernel, rfl, by decide +kernel, by decide +kernel⟩
abbrev st_law_kind : Stmt := topS 34
abbrev nm_law_kind : List Str := ["sign"]
theorem sc_law_kind : FnScope nm_law_kind ["sign"] (defScope st_law_kind) := ⟨rfl, rfl, rfl, by decide +kernel, rfl, by decide +kernel, by decide +kernel⟩
abbrev st_law_wordlist : Stmt := topS 35
abbrev nm_law_wordlist : List Str := ["more", "name", "found", "j", "here", "kind", "ask", "size", "spot", "sign"]
theorem sc_law_wordlist : FnScope nm_law_wordlist ["more", "name"] (defScope st_law_wordlist) := ⟨rfl, rfl, rfl, by decide +kernel, rfl, by decide +kernel, by decide +kernel⟩
abbrev st_law_text_of : Stmt := topS 36
abbrev nm_law_text_of : List Str := ["words_here", "found", "kind", "ask"]
theorem sc_law_text_of : FnScope nm_law_text_of ["words_here"] (defScope st_law_text_of) := ⟨rfl, rfl, rfl, by decide +kernel, rfl, by decide +kernel, by decide +kernel⟩
abbrev st_law_tells : Stmt := topS 37
abbrev nm_law_tells : List Str := ["text", "found", "one", "kind", "ask", "sign"]
theorem sc_law_tells : FnScope nm_law_tells ["text"] (defScope st_law_tells) := ⟨rfl, rfl, rfl, by decide +kernel, rfl, by decide +kernel, by decide +kernel⟩
abbrev st_law : Stmt := topS 38
abbrev nm_law : List Str := ["script", "k", "more", "j", "bad", "here", "words_here", "text", "n", "none", "deep", "spot", "more_signs", "own", "said"]
theorem sc_law : FnScope nm_law ["script"] (defScope st_law) := ⟨rfl, rfl, rfl, by decide +kernel, rfl, by decide +kernel, by decide +kernel⟩
structure Tx (G : Pg) (T : List (Addr × Str)) (c0 c1 c2 c3 c4 c5 c6 c7 cS cL PL : Addr) : Prop where
  c_SMALL : ∃ t, G.mg "SMALL" = some (.str ⟨lSmall.toArray⟩ t)
  c_GREAT : ∃ t, G.mg "GREAT" = some (.str ⟨lGreat.toArray⟩ t)
  c_FIGURES : ∃ t, G.mg "FIGURES" = some (.str ⟨lFig.toArray⟩ t)
  c_MOST_ASK : ∃ t, G.mg "MOST_ASK" = some (.int 8 t)
  c_MOST_WORDS : ∃ t, G.mg "MOST_WORDS" = some (.int 4 t)
  c_SIGNS : KDs G.K G.w G.mg "SIGNS" signsT
  c_AHEAD : KDs G.K G.w G.mg "AHEAD" aheadT
  b_all : G.mg "all" = none
  b_isinstance : G.mg "isinstance" = none
  b_str : G.mg "str" = none
  b_len : G.mg "len" = none
  b_list : G.mg "list" = none
  b_tuple : G.mg "tuple" = none
  b_sum : G.mg "sum" = none
  b_ValueError : G.mg "ValueError" = none
  b_int : G.mg "int" = none
  b_range : G.mg "range" = none
  b_max : G.mg "max" = none
  b_min : G.mg "min" = none
  d_is_ask : Df G "is_ask" st_is_ask ["thing"]
  d_word_in : Df G "word_in" st_word_in ["text"]
  d_words_of : Df G "words_of" st_words_of ["text"]
  d_are_words : Df G "are_words" st_are_words ["thing"]
  d_need_words : Df G "need_words" st_need_words ["words"]
  d_word_text : Df G "word_text" st_word_text ["word"]
  d_written : Df G "written" st_written ["words"]
  d_law_cell : Df G "_law_cell" st_law_cell ["script", "k"]
  d_law_drawn : Df G "_law_drawn" st_law_drawn ["cell", "k"]
  d_law_word : Df G "_law_word" st_law_word ["e"]
  d_law_told : Df G "_law_told" st_law_told ["deed"]
  d_law_sign : Df G "_law_sign" st_law_sign ["more"]
  d_law_name : Df G "_law_name" st_law_name ["more", "most"]
  d_law_ask_in : Df G "_law_ask_in" st_law_ask_in ["more", "name", "most"]
  d_law_kind : Df G "_law_kind" st_law_kind ["sign"]
  d_law_wordlist : Df G "_law_wordlist" st_law_wordlist ["more", "name"]
  d_law_text_of : Df G "_law_text_of" st_law_text_of ["words_here"]
  d_law_tells : Df G "_law_tells" st_law_tells ["text"]
  g_BadName : G.mg "BadName" = some (.ref c0)
  g_BadAsk : G.mg "BadAsk" = some (.ref c1)
  g_BadMarks : G.mg "BadMarks" = some (.ref c2)
  g_BadPlaces : G.mg "BadPlaces" = some (.ref c3)
  g_BadNumber : G.mg "BadNumber" = some (.ref c4)
  g_NoName : G.mg "NoName" = some (.ref c5)
  g_Nothing : G.mg "Nothing" = some (.ref c6)
  g_BadText : G.mg "BadText" = some (.ref c7)
  g_FindError : G.mg "FindError" = some (.ref cS)
  w_BadText : EwX G.K [c0, c1, c2, c3, c4, c5, c6, c7] cS c7 7
  tb_law : TabB G.base G.mg cL PL
  hm_law : (PL, ("law" : Str) ++ ".<locals>." ++ "<lambda>") ∈ T
  hu_law : ∀ p ∈ T, p.1 = PL → p.2 = ("law" : Str) ++ ".<locals>." ++ "<lambda>"
/-- the eight classes, as the module holds them -/
structure ErrG (mg : Str → Option Value) (c0 c1 c2 c3 c4 c5 c6 c7 : Addr) : Prop where
  g0 : mg "BadName" = some (.ref c0)
  g1 : mg "BadAsk" = some (.ref c1)
  g2 : mg "BadMarks" = some (.ref c2)
  g3 : mg "BadPlaces" = some (.ref c3)
  g4 : mg "BadNumber" = some (.ref c4)
  g5 : mg "NoName" = some (.ref c5)
  g6 : mg "Nothing" = some (.ref c6)
  g7 : mg "BadText" = some (.ref c7)
section
open L2H HotX
variable {P : Program} {w : World} {K : PySem.W.Frag} {mg : Str → Option Value} {base : Heap}
theorem ok_word {c0 c1 c2 c3 c4 c5 c6 c7 f : Addr} {fd : FuncData} (Fn : Fun K "_law_word" "_law_word" st_law_word f fd) (G : ErrG mg c0 c1 c2 c3 c4 c5 c6 c7) (b1 : mg "isinstance" = none) (b2 : mg "sum" = none) (b3 : mg "int" = none) (b4 : mg "ValueError" = none) :
    FnE P w K mg base 1 f fd "e" (spWord K [c0, c1, c2, c3, c4, c5, c6, c7]) := by
  obtain ⟨oc, od, kV, doc, pm, an, cdv, ct, osl, rfl, lk, hcd⟩ := Fn.ex
  refine fe_of lk hcd sc_law_word fun A outer s H Q p hot hr h => ?_
  obtain ⟨C, j, wd, hz, hf, ew, hw, q⟩ := h
  obtain ⟨a, oe⟩ := p
  have hc : HotC (cxH L2.CX0 P w K mg base nm_law_word "_law_word" (defScope st_law_word) f cdv A outer s H L2.E0 (a, oe)) := ⟨(a, oe), ⟨hot.1, hot.2⟩, List.mem_cons_self⟩
  have ci : CallR (cxH L2.CX0 P w K mg base nm_law_word "_law_word" (defScope st_law_word) f cdv A outer s H L2.E0 (a, oe)) (.builtin "isinstance") (rIsE K C a) := call_isP ew.exc List.mem_cons_self hz hf
  have hj : j < 8 := by
    have := (List.getElem?_eq_some_iff.mp ew.at_).1
    simpa using this
  refine ⟨_, pss_cons (ps_set (i := 1) sc_law_word.nd rfl (Or.inl rfl) (pe_lst (pa_cons (pe_callB ci rfl b1 (by decide +kernel) (pa_cons (pv 0) (pa_cons (pe_glob (v := .ref c0) rfl G.g0 rfl) pa_nil))) (pa_cons (pe_callB ci rfl b1 (by decide +kernel) (pa_cons (pv 0) (pa_cons (pe_glob (v := .ref c1) rfl G.g1 rfl) pa_nil))) (pa_cons (pe_callB ci rfl b1 (by decide +kernel) (pa_cons (pv 0) (pa_cons (pe_glob (v := .ref c2) rfl G.g2 rfl) pa_nil))) (pa_cons (pe_callB ci rfl b1 (by decide +kernel) (pa_cons (pv 0) (pa_cons (pe_glob (v := .ref c3) rfl G.g3 rfl) pa_nil))) pa_nil))))))
    (pss_cons (ps_set (i := 1) sc_law_word.nd rfl (Or.inl rfl) (pe_op op_cat (pv 1) (pe_lst (pa_cons (pe_callB ci rfl b1 (by decide +kernel) (pa_cons (pv 0) (pa_cons (pe_glob (v := .ref c4) rfl G.g4 rfl) pa_nil))) (pa_cons (pe_callB ci rfl b1 (by decide +kernel) (pa_cons (pv 0) (pa_cons (pe_glob (v := .ref c5) rfl G.g5 rfl) pa_nil))) (pa_cons (pe_callB ci rfl b1 (by decide +kernel) (pa_cons (pv 0) (pa_cons (pe_glob (v := .ref c6) rfl G.g6 rfl) pa_nil))) (pa_cons (pe_callB ci rfl b1 (by decide +kernel) (pa_cons (pv 0) (pa_cons (pe_glob (v := .ref c7) rfl G.g7 rfl) pa_nil))) pa_nil)))))))
    (pss_cons (ps_if (PW.pt (pw_or (pt_cmpR op_ne (pe_callB (cr_sumH hc) rfl b2 (by decide +kernel) (pa_cons (pe_bits hc b3 (pv 1) rfl rfl rfl (by decide) (by decide) (by decide)) pa_nil)) pe_int (nomark _)) (pw_or1 (pt_not (pt_val (pe_callB ci rfl b1 (by decide +kernel) (pa_cons (pv 0) (pa_cons (pe_bltn (v := .ty "ValueError") rfl b4 (by decide +kernel) rfl) pa_nil)))))))) (pss_one (ps_ret pe_str)) pss_nil)
    (pss_cons (ps_set (i := 2) sc_law_word.nd rfl (Or.inl rfl) (pe_lst (pa_cons pe_str (pa_cons pe_str (pa_cons pe_str (pa_cons pe_str (pa_cons pe_str (pa_cons pe_str (pa_cons pe_str (pa_cons pe_str pa_nil))))))))))
    (pss_one (ps_ret (pe_ix ix_list (pv 2) (pe_bm PySem.F.plainAttrs_list PySem.F.slot_list_index PySem.F.type_list_index mt_index (pv 1) (pa_cons pe_bl pa_nil)) (fun _ _ => rfl))))))), ?_⟩
  refine ⟨_, rfl, .ref c0, .ref c0, _, rfl, fun u r => r, ew.kit 0 c0 rfl, _, rfl, .ref c1, .ref c1, _, rfl, fun u r => r, ew.kit 1 c1 rfl, _, rfl, .ref c2, .ref c2, _, rfl, fun u r => r, ew.kit 2 c2 rfl, _, rfl, .ref c3, .ref c3, _, rfl, fun u r => r, ew.kit 3 c3 rfl, by show 4 ≤ sizeLine; decide, fun l1 n1 => ?_⟩
  refine ⟨_, rfl, _, rfl, .ref c4, .ref c4, _, rfl, fun u r => r, ew.kit 4 c4 rfl, _, rfl, .ref c5, .ref c5, _, rfl, fun u r => r, ew.kit 5 c5 rfl, _, rfl, .ref c6, .ref c6, _, rfl, fun u r => r, ew.kit 6 c6 rfl, _, rfl, .ref c7, .ref c7, _, rfl, fun u r => r, ew.kit 7 c7 rfl, by show 4 ≤ sizeLine; decide, fun l2 n2 => ?_⟩
  have n21 : l2 ≠ l1 := fun z => by rw [z, upd_same] at n2; cases n2
  refine ⟨l1, l2, _, _, rfl, rfl, by rw [upd_ne n21.symm, upd_same], upd_same, by show 4 + 4 ≤ sizeLine; decide, fun l3 n3 => ?_⟩
  have h3 : ∀ (bs : List V), (upd (upd (upd H l1 (.lst [V.bl (decide (0 = j)), V.bl (decide (1 = j)), V.bl (decide (2 = j)), V.bl (decide (3 = j))])) l2 (.lst [V.bl (decide (4 = j)), V.bl (decide (5 = j)), V.bl (decide (6 = j)), V.bl (decide (7 = j))])) l3 (.lst bs)) l3 = some (.lst bs) := fun bs => upd_same
  refine ⟨_, rfl, l3, bits j, rfl, SqL.of (h3 _), by show (List.map _ (List.range 8)).length ≤ 1000; rw [List.length_map, List.length_range]; decide, fun l4 n4 => ?_⟩
  have n43 : l3 ≠ l4 := fun z => by rw [← z, h3] at n4; cases n4
  refine ⟨l4, (bits j).map fun b => if b then 1 else 0, rfl, SqL.of (by rw [List.map_map]; exact upd_same), rfl, _, rfl, ?_⟩
  have hsum : ((bits j).map fun b => if b then (1 : Int) else 0).sum = 1 := by
    have hh : j = 0 ∨ j = 1 ∨ j = 2 ∨ j = 3 ∨ j = 4 ∨ j = 5 ∨ j = 6 ∨ j = 7 := by omega
    rcases hh with rfl | rfl | rfl | rfl | rfl | rfl | rfl | rfl <;> rfl
  rw [hsum]
  refine iteF ⟨_, rfl, .ty "ValueError", .type "ValueError", _, rfl, fun u r => r, ew.kv, _, rfl, iteF ?_⟩
  refine ⟨by show 8 ≤ sizeLine; decide, fun l5 n5 => ?_⟩
  have n53 : l3 ≠ l5 := fun z => by rw [← z, upd_ne n43, h3] at n5; cases n5
  have g3 : ∀ (o4 o5 : HO) (bs : List V), (upd (upd (upd (upd (upd H l1 (.lst [V.bl (decide (0 = j)), V.bl (decide (1 = j)), V.bl (decide (2 = j)), V.bl (decide (3 = j))])) l2 (.lst [V.bl (decide (4 = j)), V.bl (decide (5 = j)), V.bl (decide (6 = j)), V.bl (decide (7 = j))])) l3 (.lst bs)) l4 o4) l5 o5) l3 = some (.lst bs) := fun o4 o5 bs => by
    rw [upd_ne n53, upd_ne n43, upd_same]
  refine ⟨_, rfl, _, rfl, .inl ⟨rfl, _, SqL.of (g3 _ _ _)⟩, l3, (bits j).map V.bl, .bl true, j, .bl true, rfl, rfl, SqL.of (g3 _ _ _), rfl, ?_, ?_, rfl, ?_, l5, _, ((j : Nat) : Int), .str wd, rfl, rfl, SqL.of upd_same, atI_nat ?_, ?_⟩
  · simp [bits, flatV]
  · rw [List.getElem?_map]
    simp [bits, hj]
  · intro m z' hm hz'
    rw [List.getElem?_map] at hz'
    have hm8 : m < 8 := by omega
    simp [bits, hm8] at hz'
    rw [← hz']
    have : ¬ m = j := by omega
    simp [this, eqV]
  · have hh : j = 0 ∨ j = 1 ∨ j = 2 ∨ j = 3 ∨ j = 4 ∨ j = 5 ∨ j = 6 ∨ j = 7 := by omega
    rcases hh with rfl | rfl | rfl | rfl | rfl | rfl | rfl | rfl <;> (cases hw; rfl)
  · refine q _ fun b o e => ?_
    have f1 : b ≠ l1 := ne_of_none e n1
    have f2 : b ≠ l2 := fun z => by rw [← z, upd_ne f1, e] at n2; cases n2
    have f3 : b ≠ l3 := fun z => by rw [← z, upd_ne f2, upd_ne f1, e] at n3; cases n3
    have f4 : b ≠ l4 := fun z => by rw [← z, upd_ne f3, upd_ne f2, upd_ne f1, e] at n4; cases n4
    have f5 : b ≠ l5 := fun z => by rw [← z, upd_ne f4, upd_ne f3, upd_ne f2, upd_ne f1, e] at n5; cases n5
    rw [upd_ne f5, upd_ne f4, upd_ne f3, upd_ne f2, upd_ne f1]
    exact e
end
theorem p_told {G : Pg} {T : List (Addr × Str)} {c0 c1 c2 c3 c4 c5 c6 c7 cS cL PL : Addr} (Z : Tx G T c0 c1 c2 c3 c4 c5 c6 c7 cS cL PL) : ToldG G.prog G.w G.K G.mg G.base [c0, c1, c2, c3, c4, c5, c6, c7] cS st_law_told where
  d := Z.d_law_told.ex
  sc := sc_law_told
  bd := ⟨_, _, _, _, _, _, _, _, _, _, rfl⟩
  s1 := rfl
  s2 := rfl
  s3 := rfl
  s4 := rfl
  cls := Z.g_FindError
  word := by
    obtain ⟨f, fd, Fn, m, b⟩ := Z.d_law_word.ex
    exact ⟨f, fd, ok_word Fn ⟨Z.g_BadName, Z.g_BadAsk, Z.g_BadMarks, Z.g_BadPlaces, Z.g_BadNumber, Z.g_NoName, Z.g_Nothing, Z.g_BadText⟩ Z.b_isinstance Z.b_sum Z.b_int Z.b_ValueError, m, Fn.kp, b⟩
section
variable {G : Pg} {T : List (Addr × Str)} {c0 c1 c2 c3 c4 c5 c6 c7 cS cL PL : Addr}
theorem p_is_ask (Z : Tx G T c0 c1 c2 c3 c4 c5 c6 c7 cS cL PL) : Fd G.prog G.w G.K G.mg G.base "is_ask" 1 ["thing"] (spD T R_is_ask) := by
  refine fd_data Z.d_is_ask sc_is_ask (fun ds r h => by obtain ⟨d, rfl, _⟩ := h; rfl) fun r F ds res cd hr h => ?_
  have cx := cd.toCtx
  obtain ⟨d, rfl, hz, rfl⟩ := h
  by_cases ht : isTx d = true
  · obtain ⟨l, rfl⟩ : ∃ l, d = tx l := ⟨_, tx_of ht⟩
    rw [isAsk_tx]
    unfold okd at hz
    rw [cod_tx] at hz
    have hz2 : l.length ≤ sizeLine := Nat.le_trans hz (by decide)
    have hz3 : l.length ≤ 100000 := Nat.le_trans hz (by decide)
    refine (s_when (PW.pt (w_or (c_not (c_val (x_isi (T := "str") cx (x_var 0 cx rfl) Z.b_isinstance Z.b_str (by decide +kernel) (show kitB (tyN (tx l)) _ = some true from rfl)))) fun hb => (w_one (c_cmp op_gt od_b0 (x_bi cx call_len (cd_lenS (by first | omega | decide | (simp; omega) | assumption)) Z.b_len PySem.boot_len (a_cons (x_var 0 cx rfl) a_nil)) (x_kI cx Z.c_MOST_ASK))))) (fun hc1 => (s_ret x_bool ?_)) (fun hc1 => (s_ret (x_bi cx (cr_all cx.calm) (cd_allD mp_b) Z.b_all (by decide +kernel) (a_cons (x_dl (x_lc [("sign", 1)] (_) (fun (c : Nat) => tx [c]) _ _ _ cx (i_str (x_var 0 cx rfl)) (by first | omega | decide | (simp; omega) | assumption) (by decide +kernel) (fun s H C cl fp => g_nameB 1 (cx.blk s H _ C cl fp)) (fun x hx => tg_name) (wg_name (by decide)) (fun x hx s H C cl fp => ts_nil) (fun x hx hq s H C cl fp => (x_cmp op_inS od_inS (x_var 1 (cx.blk s H _ C cl fp) rfl) (x_op op_add_str (od_catS (by first | omega | decide | (simp; omega) | assumption)) (x_op op_add_str (od_catS (by first | omega | decide | (simp; omega) | assumption)) (x_kS (cx.blk s H _ C cl fp) Z.c_SMALL) (x_kS (cx.blk s H _ C cl fp) Z.c_GREAT)) (x_kS (cx.blk s H _ C cl fp) Z.c_FIGURES)))))) a_nil)) ?_)))
    · show Except.ok _ = Except.ok _
      refine congrArg (fun b => Except.ok (PyData.bool b)) ?_
      unfold isAs
      simp at hc1
      simp
      omega
    · show Except.ok _ = Except.ok _
      refine congrArg (fun b => Except.ok (PyData.bool b)) ?_
      unfold isAs
      simp at hc1
      simp [hc1, Function.comp_def, lSmall, lGreat, lFig]
      omega
  · have ht : isTx d = false := by simpa using ht
    refine (s_when (PW.pt (w_or (j := true) (c_not (c_val (x_isi cx (x_var 0 cx rfl) Z.b_isinstance Z.b_str (by decide +kernel) (kit_str ht)))) fun hb => (by cases hb))) (fun hc => (s_ret x_bool ?_)) (fun hc => (by cases hc)))
    show Except.ok _ = Except.ok _
    simp [isAsk, ht]
theorem p_word_in (Z : Tx G T c0 c1 c2 c3 c4 c5 c6 c7 cS cL PL) : Fd G.prog G.w G.K G.mg G.base "word_in" 3 ["text"] (spD T (R_word_in c7)) := by
  refine fd_data Z.d_word_in sc_word_in (fun ds r h => by obtain ⟨l, rfl, _⟩ := h; rfl) fun r F ds res cd hr h => ?_
  have cx := cd.toCtx
  obtain ⟨l, rfl, hz, rfl⟩ := h
  have hsl : l.length ≤ sizeLine := Nat.le_trans hz (by decide)
  have bad : ∀ {a : List Nat}, wAa l = a → ((decide (a = []) || !isAsk (tx a)) = true) → (match wIn l with | some w => Except.ok (wdD w) | none => .error c7 : Res) = .error c7 := fun {a} h hb => by
    rw [wIn_bad h (by rw [isAsk_tx] at hb; simpa using hb)]
  have good : ∀ {a k : List Nat}, wAk l = k → wAa l = a → ((decide (a = []) || !isAsk (tx a)) = false) → (match wIn l with | some w => Except.ok (wdD w) | none => .error c7 : Res) = .ok (.tuple [tx k, tx a]) := fun {a k} hk h hb => by
    rw [wIn_good hk h (by rw [isAsk_tx] at hb; simpa using hb)]
    rfl
  refine (s_par (i := 1) (j := 2) cd (a_cons (x_txt [108, 101, 116, 116, 101, 114, 115]) (a_cons (x_var 0 cx rfl) a_nil)) (s_if (c_inK cx Z.c_AHEAD (x_sl sl_str (sd_str (by first | omega | decide | (simp; omega) | assumption)) (x_var 0 cx rfl) o_none (o_some x_int))) (fun hc1 => (s_par (i := 1) (j := 2) cd (a_cons (x_getK cx Z.c_AHEAD (x_ix ix_str (od_ixS (by first | omega | decide | (simp; omega) | assumption) (ahead_ix hc1)) (x_var 0 cx rfl) x_int) (ahead_kd hc1)) (a_cons (x_sl sl_str (sd_str (by first | omega | decide | (simp; omega) | assumption)) (x_var 0 cx rfl) (o_some x_int) o_none) a_nil)) (s_nil (s_when (PW.pt (w_or (c_cmp op_eq od_eqS (x_var 2 cx rfl) (x_txt [])) fun hb => (w_one (c_not (c_val (x_call cx (p_is_ask Z) (hr.mono (by omega)) (a_cons (x_var 2 cx rfl) a_nil) ⟨_, rfl, okd_tx (by first | exact hz | exact Nat.le_trans (cut_len _ _ _) hz), rfl⟩)))))) (fun hc2 => (s_raise cd Z.w_BadText.ok.x Z.g_BadText Z.w_BadText.ok.k (raises_own Z.w_BadText.ok.e Z.w_BadText.ok.t) ?_)) (fun hc2 => (s_ret (x_tup (a_cons (x_var 1 cx rfl) (a_cons (x_var 2 cx rfl) a_nil))) ?_)))))) (fun hc1 => (s_when (c_cmp op_eq od_eqS (x_sl sl_str (sd_str (by first | omega | decide | (simp; omega) | assumption)) (x_var 0 cx rfl) (o_some (x_un un_neg ud_neg x_int)) o_none) (x_txt [36])) (fun hc3 => (s_par (i := 1) (j := 2) cd (a_cons (x_txt [116, 97, 105, 108]) (a_cons (x_sl sl_str (sd_str (by first | omega | decide | (simp; omega) | assumption)) (x_var 0 cx rfl) o_none (o_some (x_un un_neg ud_neg x_int))) a_nil)) (s_nil (s_nil (s_when (PW.pt (w_or (c_cmp op_eq od_eqS (x_var 2 cx rfl) (x_txt [])) fun hb => (w_one (c_not (c_val (x_call cx (p_is_ask Z) (hr.mono (by omega)) (a_cons (x_var 2 cx rfl) a_nil) ⟨_, rfl, okd_tx (by first | exact hz | exact Nat.le_trans (cut_len _ _ _) hz), rfl⟩)))))) (fun hc4 => (s_raise cd Z.w_BadText.ok.x Z.g_BadText Z.w_BadText.ok.k (raises_own Z.w_BadText.ok.e Z.w_BadText.ok.t) ?_)) (fun hc4 => (s_ret (x_tup (a_cons (x_var 1 cx rfl) (a_cons (x_var 2 cx rfl) a_nil))) ?_))))))) (fun hc3 => (s_nil (s_when (PW.pt (w_or (c_cmp op_eq od_eqS (x_var 2 cx rfl) (x_txt [])) fun hb => (w_one (c_not (c_val (x_call cx (p_is_ask Z) (hr.mono (by omega)) (a_cons (x_var 2 cx rfl) a_nil) ⟨_, rfl, okd_tx (by first | exact hz | exact Nat.le_trans (cut_len _ _ _) hz), rfl⟩)))))) (fun hc5 => (s_raise cd Z.w_BadText.ok.x Z.g_BadText Z.w_BadText.ok.k (raises_own Z.w_BadText.ok.e Z.w_BadText.ok.t) ?_)) (fun hc5 => (s_ret (x_tup (a_cons (x_var 1 cx rfl) (a_cons (x_var 2 cx rfl) a_nil))) ?_)))))))))
  · exact bad (wAa_ahead hc1) hc2
  · exact good rfl (wAa_ahead hc1) hc2
  · exact bad (wA_tail hc1 (of_decide_eq_true hc3)).2 hc4
  · exact good (wA_tail hc1 (of_decide_eq_true hc3)).1 (wA_tail hc1 (of_decide_eq_true hc3)).2 hc4
  · exact bad (wA_let hc1 (of_decide_eq_false hc3)).2 hc5
  · exact good (wA_let hc1 (of_decide_eq_false hc3)).1 (wA_let hc1 (of_decide_eq_false hc3)).2 hc5
theorem p_words_of (Z : Tx G T c0 c1 c2 c3 c4 c5 c6 c7 cS cL PL) : Fd G.prog G.w G.K G.mg G.base "words_of" 4 ["text"] (spD T (R_words_of c7)) := by
  refine fd_data Z.d_words_of sc_words_of (fun ds r h => by obtain ⟨d, rfl, _⟩ := h; rfl) fun r F ds res cd hr h => ?_
  have cx := cd.toCtx
  obtain ⟨d, rfl, hz0, rfl⟩ := h
  by_cases ht : isTx d = true
  · obtain ⟨l, rfl⟩ : ∃ l, d = tx l := by
      cases d with
      | str s => exact ⟨s.cps.toList, str_tx s⟩
      | _ => cases ht
    have hz : l.length ≤ 10000 := by unfold okd at hz0; rw [cod_tx] at hz0; exact hz0
    have e0 : wsD c7 (tx l) = match wsOf l with | some ws => .ok (.list (ws.map wdD)) | none => .error c7 := by
      unfold wsD
      rw [if_pos (isTx_tx l), cod_tx]
      all_goals (cases wsOf l <;> rfl)
    refine (s_when (c_not (c_val (x_isi (T := "str") cx (x_var 0 cx rfl) Z.b_isinstance Z.b_str (by decide +kernel) (show kitB (tyN (tx l)) _ = some true from rfl)))) (fun hc1 => (s_raise cd Z.w_BadText.ok.x Z.g_BadText Z.w_BadText.ok.k (raises_own Z.w_BadText.ok.e Z.w_BadText.ok.t) ?_)) (fun hc1 => (s_set 1 cd (x_if (d := .list ((parts l).map tx)) (c_cmp op_ne od_neS (x_var 0 cx rfl) (x_txt [])) (fun hb => (x_is (x_m1 PySem.F.slot_str_split PySem.F.type_str_split mt_split (md_split (by first | omega | decide | (simp; omega) | assumption)) (x_var 0 cx rfl) (x_txt [32])) (by unfold parts; rw [if_neg (by simpa using hb)]))) (fun hb => (x_is (x_lst a_nil) (by unfold parts; rw [if_pos (by simpa using hb)]; rfl)))) (s_when (c_cmp op_gt od_b0 (x_bi cx call_len cd_lenL Z.b_len PySem.boot_len (a_cons (x_var 1 cx rfl) a_nil)) (x_kI cx Z.c_MOST_WORDS)) (fun hc2 => (s_raise cd Z.w_BadText.ok.x Z.g_BadText Z.w_BadText.ok.k (raises_own Z.w_BadText.ok.e Z.w_BadText.ok.t) ?_)) (fun hc2 => ?_)))))
    · simp at hc1
    · show wsD c7 (tx l) = .error c7
      rw [e0]
      unfold wsOf
      rw [if_neg]
      have : ((4 : Nat) : Int) < (((parts l).map tx).length : Int) := by simpa using hc2
      rw [List.length_map] at this
      omega
    · have h4 : (parts l).length ≤ 4 := by
        have : ¬ ((4 : Nat) : Int) < (((parts l).map tx).length : Int) := by simpa using hc2
        rw [List.length_map] at this
        omega
      have hp : ∀ p ∈ parts l, p.length ≤ 10000 := fun p hp => by
        unfold parts at hp
        split at hp
        · cases hp
        · exact (spc_sz hz).2 p hp
      have hsz : (parts l).length ≤ 100000 := by omega
      have hwi : ∀ x ∈ parts l, (wIn x).isSome = true → R_word_in c7 [tx x] (.ok (wdD ((wIn x).getD ([], [])))) := fun x hx hs => by
        obtain ⟨w, hw⟩ := Option.isSome_iff_exists.mp hs
        exact ⟨x, rfl, hp x hx, by rw [hw]; rfl⟩
      rcases mapM_find (parts l) with ⟨ws, h1, h2, h3⟩ | ⟨ys, y, zs, h1, h2, h3, h5⟩
      · refine s_ret (x_dl (x_lc [("one", 2)] (parts l) tx (fun x => wdD ((wIn x).getD ([], []))) _ _ cx (i_list (x_var 1 cx rfl)) hsz (by decide +kernel) (fun s H C cl fp => g_nameB 2 (cx.blk s H _ C cl fp)) (fun x hx => tg_name) (wg_name (by decide)) (fun x hx s H C cl fp => ts_nil) (fun x hx hq s H C cl fp => (x_call (cx.blk s H _ C cl fp) (p_word_in Z) (hr.mono (by omega)) (a_cons (x_var 2 (cx.blk s H _ C cl fp) rfl) a_nil) (hwi x hx (h3 x hx)))))) ?_
        show wsD c7 (tx l) = _
        rw [e0]
        unfold wsOf
        rw [if_pos h4, h1]
        show Except.ok (PyData.list (ws.map wdD)) = .ok (.list _)
        rw [← mapM_map h1, filter_tt]
      · have hy : R_word_in c7 [tx y] (.error c7) := ⟨y, rfl, hp y (by rw [h1]; simp), by rw [h3]⟩
        have hys : ∀ x ∈ ys, x ∈ parts l := fun x hx => by rw [h1]; exact List.mem_append_left _ hx
        rw [h1] at hsz
        rw [h1]
        refine s_retX (x_lcE [("one", 2)] ys y zs tx (fun x => wdD ((wIn x).getD ([], []))) _ cd (i_list (x_var 1 cx rfl)) hsz (by decide +kernel) (fun s H C cl fp xe pa => g_nameB 2 (cx.blkE s H _ C cl fp xe)) (fun x hx => tg_name) (wg_name (by decide)) (fun x hx s H C cl fp xe pa => (x_call (cx.blkE s H _ C cl fp xe) (p_word_in Z) (hr.mono (by omega)) (a_cons (x_var 2 (cx.blkE s H _ C cl fp xe) rfl) a_nil) (hwi x (hys x hx) (h2 x hx)))) (fun s H C cl fp xe pa => (x_callXP (cx.blkE s H _ C cl fp xe) pa (p_word_in Z) (hr.mono (by omega)) (a_cons (x_var 2 (cx.blkE s H _ C cl fp xe) rfl) a_nil) hy))) ?_
        show wsD c7 (tx l) = .error c7
        rw [e0]
        unfold wsOf
        rw [if_pos h4, h5]
  · have ht' : isTx d = false := by simpa using ht
    refine s_when (k := true) (c_is (c_not (c_val (x_isi (T := "str") cx (x_var 0 cx rfl) Z.b_isinstance Z.b_str (by decide +kernel) (kit_str ht')))) rfl) (fun _ => s_raise cd Z.w_BadText.ok.x Z.g_BadText Z.w_BadText.ok.k (raises_own Z.w_BadText.ok.e Z.w_BadText.ok.t) ?_) (fun h => by cases h)
    show wsD c7 d = .error c7
    unfold wsD
    rw [if_neg ht]
theorem p_are_words (Z : Tx G T c0 c1 c2 c3 c4 c5 c6 c7 cS cL PL) : Fd G.prog G.w G.K G.mg G.base "are_words" 3 ["thing"] (spD T R_are_words) := by
  refine fd_data Z.d_are_words sc_are_words (fun ds r h => by obtain ⟨d, rfl, _⟩ := h; rfl) fun r F ds res cd hr h => ?_
  have cx := cd.toCtx
  obtain ⟨d, rfl, ⟨hz1, hz2⟩, rfl⟩ := h
  by_cases hl : isLs d = true
  · obtain ⟨ds, rfl⟩ : ∃ ds, d = .list ds := ⟨_, ls_of hl⟩
    have hz1 : ds.length ≤ 10000 := hz1
    have hz2 : ∀ e ∈ ds, (tpOf e).length ≤ 10000 ∧ ∀ x ∈ tpOf e, okd x := hz2
    have e0 : areWd (.list ds) = (decide (ds.length ≤ 4) && ds.all isWd) := by
      unfold areWd
      rw [show isLs (.list ds) = true from rfl, Bool.true_and]
      rfl
    have hno : ∀ e ∈ ds, isWd e = false → Except.ok (PyData.bool false) = (Except.ok (.bool (areWd (.list ds))) : Res) := fun e he h => by
      have : ds.all isWd = false := List.all_eq_false.mpr ⟨e, he, by rw [h]; decide⟩
      rw [e0, this, Bool.and_false]
    refine (s_when (PW.pt (w_or (c_not (c_val (x_isi (T := "list") cx (x_var 0 cx rfl) Z.b_isinstance Z.b_list (by decide +kernel) (show kitB (tyN (.list _)) _ = some true from rfl)))) fun hb => (w_one (c_cmp op_gt od_b0 (x_bi cx call_len cd_lenL Z.b_len PySem.boot_len (a_cons (x_var 0 cx rfl) a_nil)) (x_kI cx Z.c_MOST_WORDS))))) (fun hc1 => (s_ret x_bool ?_)) (fun hc1 => (s_for (ds) (fun (d : PyData) => d) (fun pre δ => ∃ s1, (∀ e ∈ pre, isWd e = true) ∧ δ = [.dat (.list ds), s1]) cd (i_list (x_is (x_var 0 cx rfl) (map_self _))) (g_name 1 cd) ?_ ?_ ?_)))
    · show Except.ok _ = Except.ok _
      have h4 : ¬ ds.length ≤ 4 := by
        have : (4 : Int) < (ds.length : Int) := by simpa using hc1
        omega
      rw [e0, decide_eq_false h4, Bool.false_and]
    · exact ⟨_, (fun e he => by cases he), rfl⟩
    · intro pre e post δ' hx hI
      obtain ⟨s1, hpre, rfl⟩ := hI
      have hem : e ∈ ds := by rw [hx]; simp
      obtain ⟨q1, q2⟩ := hz2 e hem
      refine ⟨_, tg_name, ?_⟩
      by_cases ht : isTp e = true
      · obtain ⟨es, rfl⟩ : ∃ es, e = .tuple es := ⟨_, tp_of ht⟩
        have q1 : es.length ≤ 10000 := q1
        have q2 : ∀ x ∈ es, okd x := q2
        by_cases h2 : es.length = 2
        · match es, h2 with
          | [a, b], _ =>
            by_cases ha : isTx a = true
            · obtain ⟨k, rfl⟩ : ∃ k, a = tx k := by
                cases a with
                | str s => exact ⟨s.cps.toList, str_tx s⟩
                | _ => cases ha
              have hzb : okd b := q2 b (by simp)
              have ew : isWd (.tuple [tx k, b]) = (isKind k && isAsk b && !decide (cod b = [])) := by
                unfold isWd
                show (isTp (.tuple [tx k, b]) && decide ([tx k, b].length = 2) && isTx (tx k) && isKind (cod (tx k)) && isAsk b && !decide (cod b = [])) = _
                rw [cod_tx, isTx_tx]
                rfl
              have ek : ((!([tx kLet, tx kTail].any fun z => PyData.eqv z (tx k))) && (!(signsT.lookup k).isSome)) = !isKind k := by
                have e1 : ([tx kLet, tx kTail].any fun z => PyData.eqv z (tx k)) = (decide (k = kLet) || decide (k = kTail)) := by
                  have : ∀ u v : List Nat, PyData.eqv (tx u) (tx v) = decide (v = u) := fun u v => by
                    show ((⟨u.toArray⟩ : Str) == ⟨v.toArray⟩) = _
                    by_cases z : v = u
                    · rw [decide_eq_true z, z]; exact beq_self_eq_true _
                    · rw [decide_eq_false z]
                      exact beq_eq_false_iff_ne.mpr fun y => z (tx_inj.mp y).symm
                  rw [List.any_cons, List.any_cons, List.any_nil, Bool.or_false, this, this]
                rw [e1]
                unfold isKind
                simp only [Bool.not_or]
              by_cases hb : isAsk b = true
              · obtain ⟨l, rfl, hl2⟩ := ask_tx hb
                rw [cod_tx] at ew
                refine (s_when (PW.pt (w_or (c_not (c_val (x_isi (T := "tuple") cx (x_var 1 cx rfl) Z.b_isinstance Z.b_tuple (by decide +kernel) (show kitB (tyN (.tuple _)) _ = some true from rfl)))) fun hb => (w_or (c_cmp op_ne od_neI (x_bi cx call_len cd_lenT Z.b_len PySem.boot_len (a_cons (x_var 1 cx rfl) a_nil)) x_int) fun hb => (w_one (c_not (c_val (x_isi (T := "str") cx (x_ix ix_tup (od_ixT rfl) (x_var 1 cx rfl) x_int) Z.b_isinstance Z.b_str (by decide +kernel) (show kitB (tyN (tx k)) _ = some true from rfl)))))))) (fun hc1 => (s_ret x_bool ?_)) (fun hc1 => (s_when (PW.pt (w_and (c_cmp op_notIn_seq (od_ninT rfl rfl) (x_ix ix_tup (od_ixT rfl) (x_var 1 cx rfl) x_int) (x_tup (a_cons (x_txt [108, 101, 116, 116, 101, 114, 115]) (a_cons (x_txt [116, 97, 105, 108]) a_nil)))) fun hb => (w_one (c_ninK cx Z.c_SIGNS (x_ix ix_tup (od_ixT rfl) (x_var 1 cx rfl) x_int))))) (fun hc2 => (s_ret x_bool ?_)) (fun hc2 => (s_when (PW.pt (w_or (c_not (c_val (x_call cx (p_is_ask Z) (hr.mono (by omega)) (a_cons (x_ix ix_tup (od_ixT rfl) (x_var 1 cx rfl) x_int) a_nil) ⟨_, rfl, hzb, rfl⟩))) fun hb => (w_one (c_cmp op_eq od_eqS (x_ix ix_tup (od_ixT rfl) (x_var 1 cx rfl) x_int) (x_txt []))))) (fun hc3 => (s_ret x_bool ?_)) (fun hc3 => (s_nil ?_)))))))
                · simp at hc1
                · refine (hno _ hem ?_).symm
                  have hc2' := ek.symm.trans hc2
                  rw [ew]
                  have : isKind k = false := by simpa using hc2'
                  rw [this]
                  rfl
                · refine (hno _ hem ?_).symm
                  rw [ew, hb]
                  have : l = [] := by simpa [hb] using hc3
                  rw [decide_eq_true this]
                  simp
                · refine ⟨_, fun x hx => ?_, rfl⟩
                  rcases List.mem_append.mp hx with z | z
                  · exact hpre x z
                  · rw [List.mem_singleton.mp z, ew, hb]
                    have hc2' := ek.symm.trans hc2
                    have h1 : isKind k = true := by simpa using hc2'
                    have h3 : ¬ l = [] := by simpa [hb] using hc3
                    rw [h1, decide_eq_false h3]
                    rfl
              · have hb' : isAsk b = false := by simpa using hb
                refine s_when (k := false) (c_is (PW.pt (w_or (c_not (c_val (x_isi (T := "tuple") cx (x_var 1 cx rfl) Z.b_isinstance Z.b_tuple (by decide +kernel) (show kitB (tyN (.tuple _)) _ = some true from rfl)))) fun _ => w_or (c_cmp op_ne od_neI (x_bi cx call_len cd_lenT Z.b_len PySem.boot_len (a_cons (x_var 1 cx rfl) a_nil)) x_int) fun _ => w_one (c_not (c_val (x_isi (T := "str") cx (x_ix ix_tup (od_ixT (show atI [tx k, b] 0 = some (tx k) from rfl)) (x_var 1 cx rfl) x_int) Z.b_isinstance Z.b_str (by decide +kernel) (show kitB (tyN (tx k)) _ = some true from rfl)))))) (by simp)) (fun h => by cases h) (fun _ => ?_)
                refine s_when (PW.pt (w_and (c_cmp op_notIn_seq (od_ninT rfl rfl) (x_ix ix_tup (od_ixT (show atI [tx k, b] 0 = some (tx k) from rfl)) (x_var 1 cx rfl) x_int) (x_tup (a_cons (x_txt kLet) (a_cons (x_txt kTail) a_nil)))) fun _ => w_one (c_ninK cx Z.c_SIGNS (x_ix ix_tup (od_ixT (show atI [tx k, b] 0 = some (tx k) from rfl)) (x_var 1 cx rfl) x_int)))) (fun hc => s_ret x_bool ?_) (fun hc => ?_)
                · refine (hno _ hem ?_).symm
                  rw [ew, hb']
                  simp
                · refine s_when (k := true) (c_is (PW.pt (w_or (j := true) (c_not (c_val (x_call cx (p_is_ask Z) (hr.mono (by omega)) (a_cons (x_ix ix_tup (od_ixT (show atI [tx k, b] 1 = some b from rfl)) (x_var 1 cx rfl) x_int) a_nil) ⟨_, rfl, hzb, rfl⟩))) fun z => by rw [hb'] at z; cases z)) (by rw [hb']; rfl)) (fun _ => s_ret x_bool ?_) (fun h => by cases h)
                  refine (hno _ hem ?_).symm
                  rw [ew, hb']
                  simp
            · have ha' : isTx a = false := by simpa using ha
              refine s_when (k := true) (c_is (PW.pt (w_or (c_not (c_val (x_isi (T := "tuple") cx (x_var 1 cx rfl) Z.b_isinstance Z.b_tuple (by decide +kernel) (show kitB (tyN (.tuple _)) _ = some true from rfl)))) fun _ => w_or (c_cmp op_ne od_neI (x_bi cx call_len cd_lenT Z.b_len PySem.boot_len (a_cons (x_var 1 cx rfl) a_nil)) x_int) fun _ => w_one (c_not (c_val (x_isi (T := "str") cx (x_ix ix_tup (od_ixT (show atI [a, b] 0 = some a from rfl)) (x_var 1 cx rfl) x_int) Z.b_isinstance Z.b_str (by decide +kernel) (kit_str ha')))))) (by simp)) (fun _ => s_ret x_bool ?_) (fun h => by cases h)
              refine (hno _ hem ?_).symm
              unfold isWd
              show (isTp (.tuple [a, b]) && decide ([a, b].length = 2) && isTx a && isKind (cod a) && isAsk b && !decide (cod b = [])) = false
              rw [ha']
              simp
        · have h2i : ¬ (es.length : Int) = 2 := by omega
          refine s_when (k := true) (c_is (PW.pt (w_or (c_not (c_val (x_isi (T := "tuple") cx (x_var 1 cx rfl) Z.b_isinstance Z.b_tuple (by decide +kernel) (show kitB (tyN (.tuple _)) _ = some true from rfl)))) fun _ => w_or (j := true) (c_cmp op_ne od_neI (x_bi cx call_len cd_lenT Z.b_len PySem.boot_len (a_cons (x_var 1 cx rfl) a_nil)) x_int) fun z => absurd (show (es.length : Int) = 2 by simpa using z) h2i)) (by simp [h2i])) (fun _ => s_ret x_bool ?_) (fun h => by cases h)
          refine (hno _ hem ?_).symm
          unfold isWd
          show (isTp (.tuple es) && decide (es.length = 2) && isTx (es.getD 0 .none) && isKind (cod (es.getD 0 .none)) && isAsk (es.getD 1 .none) && !decide (cod (es.getD 1 .none) = [])) = false
          rw [decide_eq_false h2]
          simp
      · have ht' : isTp e = false := by simpa using ht
        refine s_when (k := true) (c_is (PW.pt (w_or (j := true) (c_not (c_val (x_isi (T := "tuple") cx (x_var 1 cx rfl) Z.b_isinstance Z.b_tuple (by decide +kernel) (kit_tup ht')))) fun hb => by cases hb)) rfl) (fun _ => s_ret x_bool ?_) (fun h => by cases h)
        refine (hno _ hem ?_).symm
        unfold isWd
        rw [ht']
        rfl
    · intro δ' hI
      obtain ⟨s1, hall, rfl⟩ := hI
      refine (s_ret x_bool ?_)
      show Except.ok _ = Except.ok _
      have h4 : ds.length ≤ 4 := by
        have : (ds.length : Int) ≤ 4 := by simpa using hc1
        omega
      rw [e0, decide_eq_true h4, Bool.true_and, List.all_eq_true.mpr hall]
  · have hl' : isLs d = false := by simpa using hl
    refine s_when (k := true) (c_is (PW.pt (w_or (j := true) (c_not (c_val (x_isi (T := "list") cx (x_var 0 cx rfl) Z.b_isinstance Z.b_list (by decide +kernel) (kit_list hl')))) fun hb => by cases hb)) rfl) (fun _ => s_ret x_bool ?_) (fun h => by cases h)
    show Except.ok _ = Except.ok _
    unfold areWd
    rw [hl']
    rfl
theorem p_need_words (Z : Tx G T c0 c1 c2 c3 c4 c5 c6 c7 cS cL PL) : Fd G.prog G.w G.K G.mg G.base "need_words" 4 ["words"] (spD T (R_need_words c7)) := by
  refine fd_data Z.d_need_words sc_need_words (fun ds r h => by obtain ⟨d, rfl, _⟩ := h; rfl) fun r F ds res cd hr h => ?_
  have cx := cd.toCtx
  obtain ⟨d, rfl, hz, rfl⟩ := h
  refine s_when (c_not (c_val (x_call cx (p_are_words Z) (hr.mono (by omega)) (a_cons (x_var 0 cx rfl) a_nil) ⟨_, rfl, hz, rfl⟩))) (fun hc => (s_raise cd Z.w_BadText.ok.x Z.g_BadText Z.w_BadText.ok.k (raises_own Z.w_BadText.ok.e Z.w_BadText.ok.t) ?_)) (fun hc => s_nil ?_)
  · show (if _ then _ else _) = _
    rw [if_neg (by simpa using hc)]
  · show (if _ then _ else _) = _
    rw [if_pos (by simpa using hc)]
theorem p_word_text (Z : Tx G T c0 c1 c2 c3 c4 c5 c6 c7 cS cL PL) : Fd G.prog G.w G.K G.mg G.base "word_text" 2 ["word"] (spD T R_word_text) := by
  refine fd_data Z.d_word_text sc_word_text (fun ds r h => by obtain ⟨w, rfl, _⟩ := h; rfl) fun r F ds res cd hr h => ?_
  have cx := cd.toCtx
  obtain ⟨⟨k, a⟩, rfl, ⟨h1, h2, h3⟩, rfl⟩ := h
  have h1 : isKind k = true := h1
  have hza : a.length ≤ 8 := isAs_len h2
  by_cases hl : k = kLet
  · subst hl
    refine s_asg cd (x_var 0 cx rfl) (pg_tup cx.calm (pgs_cons (g_name 1 cd) (pgs_cons (g_name 2 cd) pgs_nil))) (tg_tup rfl (tg_cons tg_name (tg_cons tg_name tg_nil))) (s_when (k := true) (c_is (c_cmp op_eq od_eqS (x_var 1 cx rfl) (x_txt kLet)) (decide_eq_true rfl)) (fun hc1 => (s_ret (x_var 2 cx rfl) rfl)) (fun hc1 => by cases hc1))
  · have hkd : k ≠ kTail → signsT.lookup k = some ((signsT.lookup k).getD []) := fun ht => by
      rcases kind_cases h1 with rfl | rfl | rfl | rfl | rfl
      · exact absurd rfl hl
      · exact absurd rfl ht
      · rfl
      · rfl
      · rfl
    have hz2 : ((signsT.lookup k).getD []).length ≤ 10 := by
      rcases kind_cases h1 with rfl | rfl | rfl | rfl | rfl <;> decide
    have hbr0 : decide (k = kTail) = true → tx (a ++ [36]) = tx (wt (k, a)) := fun hb => by
      unfold wt
      rw [if_neg hl, if_pos (of_decide_eq_true hb)]
    have hbr1 : decide (k = kTail) = false → tx ((signsT.lookup k).getD [] ++ a) = tx (wt (k, a)) := fun hb => by
      unfold wt
      rw [if_neg hl, if_neg (of_decide_eq_false hb)]
    refine (s_asg cd (x_var 0 cx rfl) (pg_tup cx.calm (pgs_cons (g_name 1 cd) (pgs_cons (g_name 2 cd) pgs_nil))) (tg_tup rfl (tg_cons tg_name (tg_cons tg_name tg_nil))) (s_when (c_cmp op_eq od_eqS (x_var 1 cx rfl) (x_txt [108, 101, 116, 116, 101, 114, 115])) (fun hc1 => (s_ret (x_var 2 cx rfl) ?_)) (fun hc1 => (s_ret (x_if (d := tx (wt (k, a))) (c_cmp op_eq od_eqS (x_var 1 cx rfl) (x_txt [116, 97, 105, 108])) (fun hb => (x_is (x_op op_add_str (od_catS (line_le (by first | omega | (simp only [List.length_cons, List.length_nil]; omega)))) (x_var 2 cx rfl) (x_txt [36])) (hbr0 hb))) (fun hb => (x_is (x_op op_add_str (od_catS (line_le (by first | omega | (simp only [List.length_cons, List.length_nil]; omega)))) (x_getK cx Z.c_SIGNS (x_var 1 cx rfl) (hkd (of_decide_eq_false hb))) (x_var 2 cx rfl)) (hbr1 hb)))) ?_))))
    · exact absurd (of_decide_eq_true hc1) hl
    · rfl
theorem p_written (Z : Tx G T c0 c1 c2 c3 c4 c5 c6 c7 cS cL PL) : Fd G.prog G.w G.K G.mg G.base "written" 5 ["words"] (spD T (R_written c7)) := by
  refine fd_data Z.d_written sc_written (fun ds r h => by obtain ⟨d, rfl, _⟩ := h; rfl) fun r F ds res cd hr h => ?_
  have cx := cd.toCtx
  obtain ⟨d, rfl, hz, rfl⟩ := h
  by_cases hw : areWd d = true
  · obtain ⟨e0, h4, hws⟩ := words_dat hw
    rw [if_pos hw]
    generalize wordsL d = ws at e0 h4 hws
    subst e0
    have hsz : ws.length ≤ 100000 := by omega
    have hjz : ((ws.map wt).map (·.length)).sum + (ws.map wt).length * ([32] : List Nat).length ≤ 16777216 := by
      have := sum_wt hws
      rw [List.length_map]
      simp only [List.length_cons, List.length_nil]
      omega
    refine s_expr (x_call cx (p_need_words Z) (hr.mono (by omega)) (a_cons (x_var 0 cx rfl) a_nil) ⟨_, rfl, hz, (if_pos hw).symm⟩) ?_
    refine (s_ret (x_m1 PySem.F.slot_str_join PySem.F.type_str_join mt_join (cd_joinD mp_t (by rw [filter_tt]; exact hjz)) (x_txt [32]) (x_dl (x_lc [("word", 1)] (_) (_) _ _ _ cx (i_list (x_var 0 cx rfl)) hsz (by decide +kernel) (fun s H C cl fp => g_nameB 1 (cx.blk s H _ C cl fp)) (fun x hx => tg_name) (wg_name (by decide)) (fun x hx s H C cl fp => ts_nil) (fun x hx hq s H C cl fp => (x_call (cx.blk s H _ C cl fp) (p_word_text Z) (hr.mono (by omega)) (a_cons (x_var 1 (cx.blk s H _ C cl fp) rfl) a_nil) ⟨_, rfl, hws x hx, rfl⟩))))) ?_)
    show Except.ok _ = Except.ok _
    unfold wtx
    rw [filter_tt]
  · rw [if_neg hw]
    exact s_exprX (x_callX cx cd.tk (p_need_words Z) (hr.mono (by omega)) (a_cons (x_var 0 cx rfl) a_nil) ⟨_, rfl, hz, (if_neg hw).symm⟩) rfl
theorem p_law_cell (Z : Tx G T c0 c1 c2 c3 c4 c5 c6 c7 cS cL PL) : Fd G.prog G.w G.K G.mg G.base "_law_cell" 1 ["script", "k"] (Lf.spCell G.K) := by
  obtain ⟨f, fd, Fn, m, b⟩ := Z.d_law_cell.ex
  refine ⟨f, fd, ?_, m, Fn.kp, b⟩
  obtain ⟨oc, od, kV, doc, pm, an, cdv, ct, osl, rfl, lk, hcd⟩ := Fn.ex
  refine fn_of lk hcd sc_law_cell (fun vs H Q E h => by obtain ⟨a, ns, k, rfl, _⟩ := h; rfl) fun A outer s H vs Q E hr h => ⟨_, (pss_cons (ps_if (pt_cmpR (op_eqD hr.units) (pv 0) (pe_lst pa_nil) (nomark _)) (pss_one (ps_ret (pe_op op_mul (pv 1) pe_int))) pss_nil)
    (pss_one (ps_ret (pe_op op_add (pe_ix ix_list (pv 0) (pe_op op_mod (pv 1) (pe_callB call_len rfl Z.b_len PySem.boot_len (pa_cons (pv 0) pa_nil))) (fun _ _ => rfl)) (pe_op op_mul (pe_op op_fdivW (pv 1) (pe_callB call_len rfl Z.b_len PySem.boot_len (pa_cons (pv 0) pa_nil))) pe_int))))), ?_⟩
  obtain ⟨a, ns, k, rfl, hs, hl, hk, q⟩ := h
  refine ⟨.ref a, rfl, by decide, fun p hp => ⟨.list (ns.map PyData.int), .list [], .lst (sq_grow (ext_new hp) hs) (DtAll.dp _ _ (DtAll.of_ints (O := fun _ => False) (H := upd H p (.lst [])) ns)), .lst (SqL.of upd_same) .nil, (lay_list (n := 0) fun d hd => ?_).ok, by decide, PyData.eqv (.list (ns.map PyData.int)) (.list []), rfl, ?_⟩⟩
  · obtain ⟨i, _, rfl⟩ := List.mem_map.mp hd
    exact lay_int
  · cases ns with
    | nil => exact iteT ⟨_, rfl, _, _, rfl, rfl, .inr (by decide), q _ fun b o e => by rw [upd_ne (ne_of_none e hp)]; exact e⟩
    | cons n r =>
      have hs' := sq_grow (ext_new (o := .lst []) hp) hs
      refine iteF ⟨_, rfl, _, rfl, _, rfl, _, (n :: r).length, rfl, .inl ⟨_, hs', by rw [List.length_map]⟩, _, _, rfl, rfl, by show (0 : Int) < (((n :: r).length : Nat) : Int); simp, a, _, _, .int ((n :: r).getD (k % (n :: r).length) 0), rfl, rfl, hs', ?_, ?_⟩
      · show atI ((n :: r).map V.int) (((k : Nat) : Int) % (((n :: r).length : Nat) : Int)) = _
        rw [← Int.natCast_emod]
        refine atI_nat ?_
        have hlt : k % (n :: r).length < (n :: r).length := Nat.mod_lt _ (by simp)
        rw [List.getElem?_map, List.getElem?_eq_getElem hlt]
        rw [List.getD_eq_getElem?_getD, List.getElem?_eq_getElem hlt]
        rfl
      · refine ⟨_, rfl, _, rfl, _, (n :: r).length, rfl, .inl ⟨_, hs', by rw [List.length_map]⟩, _, _, rfl, rfl, ?_, _, _, rfl, rfl, .inr (by decide), _, _, rfl, rfl, ?_⟩
        · refine wide_div (b := 20) (by show (0 : Int) < (((n :: r).length : Nat) : Int); simp) ?_ (by decide) (by decide)
          show (((n :: r).length : Nat) : Int).natAbs < 2 ^ 20
          rw [Int.natAbs_natCast]
          omega
        · have e : cell (n :: r) k = (n :: r).getD (k % (n :: r).length) 0 + ((k : Int) / ((n :: r).length : Int)) * 104729 := by
            unfold cell
            rw [if_neg (by simp)]
          rw [e] at q
          exact q _ fun b o e => by rw [upd_ne (ne_of_none e hp)]; exact e
theorem p_law_drawn (Z : Tx G T c0 c1 c2 c3 c4 c5 c6 c7 cS cL PL) : Fd G.prog G.w G.K G.mg G.base "_law_drawn" 1 ["cell", "k"] (spD T R_law_drawn) := by
  refine fd_data Z.d_law_drawn sc_law_drawn (fun ds r h => by obtain ⟨c, k, rfl, _⟩ := h; rfl) fun r F ds res cd hr h => ?_
  have cx := cd.toCtx
  obtain ⟨c, k, rfl, rfl⟩ := h
  refine (s_set 2 cd (x_op op_mod (od_iC (by decide)) (x_op op_add od_i0 (x_op op_mul (od_iC (.inr (by decide))) (x_var 0 cx rfl) x_int) (x_op op_mul (od_iC (.inr (by decide))) (x_op op_add od_i0 (x_var 1 cx rfl) x_int) x_int)) x_int) (s_set 2 cd (x_op op_mod (od_iC (by decide)) (x_op op_mulW (od_iC (drawn_m1 _)) (x_var 2 cx rfl) (x_var 2 cx rfl)) x_int) (s_set 2 cd (x_op op_mulW (od_iC drawn_m3) (x_op op_mulW (od_iC drawn_m2) (x_op op_add od_i0 (x_op op_mod (od_iC (by decide)) (x_var 2 cx rfl) x_int) x_int) (x_op op_add od_i0 (x_op op_fdivW (od_iC div_big) (x_var 2 cx rfl) x_int) x_int)) (x_var 2 cx rfl)) (s_ret (x_op op_mod (od_iC (by decide)) (x_var 2 cx rfl) x_int) ?_))))
  rfl
theorem p_law_sign (Z : Tx G T c0 c1 c2 c3 c4 c5 c6 c7 cS cL PL) : Fd G.prog G.w G.K G.mg G.base "_law_sign" 1 ["more"] (spD T R_law_sign) := by
  refine fd_data Z.d_law_sign sc_law_sign (fun ds r h => by obtain ⟨m, rfl, _⟩ := h; rfl) fun r F ds res cd hr h => ?_
  have cx := cd.toCtx
  obtain ⟨m, rfl, rfl⟩ := h
  refine (s_when (c_cmp op_eq od_eqI (x_op op_mod (od_iC (by first | decide | omega)) (x_var 0 cx rfl) x_int) x_int) (fun hc1 => (s_ret (x_ix ix_str (od_ixS (by first | omega | decide | (simp; omega) | assumption) (at_rem rfl (by decide))) (x_txt [100, 101, 102, 103, 120, 121, 122, 68, 69, 70, 71, 88, 89, 90]) (x_op op_mod (od_iC (by first | decide | omega)) (x_op op_fdivW (od_iC (div_sm (by decide) (by decide))) (x_var 0 cx rfl) x_int) x_int)) ?_)) (fun hc1 => (s_ret (x_ix ix_str (od_ixS (by first | omega | decide | (simp; omega) | assumption) (at_rem rfl (by decide))) (x_txt [97, 97, 97, 98, 98, 98, 99, 65, 66, 67, 49, 50, 95, 45, 47, 46, 32]) (x_op op_mod (od_iC (by first | decide | omega)) (x_op op_fdivW (od_iC (div_sm (by decide) (by decide))) (x_var 0 cx rfl) x_int) x_int)) ?_)))
  · show Except.ok _ = Except.ok _
    unfold signC
    rw [if_pos (by simpa using hc1)]
    rfl
  · show Except.ok _ = Except.ok _
    unfold signC
    rw [if_neg (by simpa using hc1)]
    rfl
theorem p_law_name (Z : Tx G T c0 c1 c2 c3 c4 c5 c6 c7 cS cL PL) : Fd G.prog G.w G.K G.mg G.base "_law_name" 2 ["more", "most"] (spD T R_law_name) := by
  refine fd_data Z.d_law_name sc_law_name (fun ds r h => by obtain ⟨m, n, rfl, _⟩ := h; rfl) fun r F ds res cd hr h => ?_
  have cx := cd.toCtx
  obtain ⟨m, n, rfl, h1, h2, rfl⟩ := h
  have b1 := Int.emod_nonneg m (show n ≠ 0 by omega)
  have b2 := Int.emod_lt_of_pos m h1
  have b3 : (List.range (1 + m % n).toNat).length ≤ 100000 := by rw [List.length_range]; omega
  have hj : (((List.range (1 + m % n).toNat).filter fun _ => true).map fun (j : Nat) => [signC (drawn m (j : Int))]).length ≤ 10000 := by
    rw [List.length_map, filter_tt, List.length_range]
    omega
  refine (s_ret (x_m1 PySem.F.slot_str_join PySem.F.type_str_join mt_join (cd_joinD mp_t (join1_sz hj)) (x_txt []) (x_dl (x_lc [("j", 2)] (List.range _) (fun (i : Nat) => PyData.int (i : Int)) _ _ _ cx (i_range1 cx Z.b_range (a_cons (x_op op_add od_i0 x_int (x_op op_mod (od_iC (by first | decide | omega)) (x_var 0 cx rfl) (x_var 1 cx rfl))) a_nil) (by first | omega | decide | (simp; omega) | assumption) (by first | omega | decide | (simp; omega) | assumption)) (by first | omega | decide | (simp; omega) | assumption) (by decide +kernel) (fun s H C cl fp => g_nameB 2 (cx.blk s H _ C cl fp)) (fun x hx => tg_name) (wg_name (by decide)) (fun x hx s H C cl fp => ts_nil) (fun x hx hq s H C cl fp => (x_call (cx.blk s H _ C cl fp) (p_law_sign Z) (hr.mono (by omega)) (a_cons (x_call (cx.blk s H _ C cl fp) (p_law_drawn Z) (hr.mono (by omega)) (a_cons (x_var 0 (cx.blk s H _ C cl fp) rfl) (a_cons (x_var 2 (cx.blk s H _ C cl fp) rfl) a_nil)) ⟨_, _, rfl, rfl⟩) a_nil) ⟨_, rfl, rfl⟩))))) ?_)
  show Except.ok _ = Except.ok _
  rw [filter_tt, join1]
  rfl
theorem p_law_ask_in (Z : Tx G T c0 c1 c2 c3 c4 c5 c6 c7 cS cL PL) : Fd G.prog G.w G.K G.mg G.base "_law_ask_in" 2 ["more", "name", "most"] (spD T R_law_ask_in) := by
  refine fd_data Z.d_law_ask_in sc_law_ask_in (fun ds r h => by obtain ⟨m, n, k, rfl, _⟩ := h; rfl) fun r F ds res cd hr h => ?_
  have cx := cd.toCtx
  obtain ⟨more, nm, most, rfl, h0, h1, hn, rfl⟩ := h
  have b1 := Int.emod_nonneg more (show most + 1 ≠ 0 by omega)
  have b2 := Int.emod_lt_of_pos more (show 0 < most + 1 by omega)
  have hnl := isNm_len hn
  have hS : 10000 ≤ sizeLine := by decide
  refine (s_asg cd (x_tup (a_cons (x_txt []) (a_cons x_int a_nil))) (pg_tup cx.calm (pgs_cons (g_name 3 cd) (pgs_cons (g_name 4 cd) pgs_nil))) (tg_tup rfl (tg_cons tg_name (tg_cons tg_name tg_nil))) (s_for (List.range (more % (most + 1)).toNat) (natI) (fun pre δ => ∃ s5 s6, δ = [.dat (.int more), .dat (tx nm), .dat (.int most), .dat (tx (foldA more nm pre).1), .dat (natI (foldA more nm pre).2), s5, s6]) cd (i_range1 cx Z.b_range (a_cons (x_op op_mod (od_iC (by first | decide | omega)) (x_var 0 cx rfl) (x_op op_add od_i0 (x_var 2 cx rfl) x_int)) a_nil) (by first | omega | decide | (simp; omega) | assumption) (by first | omega | decide | (simp; omega) | assumption)) (g_name 5 cd) ?_ ?_ ?_))
  · exact ⟨_, _, rfl⟩
  · intro pre j post δ' hx hI
    obtain ⟨s5, s6, rfl⟩ := hI
    have hpl : pre.length < 200 := by
      have := congrArg List.length hx
      simp at this
      omega
    obtain ⟨l1, l2, l3⟩ := foldA_ok (more := more) hn pre
    refine ⟨_, tg_name, ?_⟩
    refine (s_set 6 cd (x_call cx (p_law_drawn Z) (hr.mono (by omega)) (a_cons (x_var 0 cx rfl) (a_cons (x_var 5 cx rfl) a_nil)) ⟨_, _, rfl, rfl⟩) ?_)
    obtain ⟨here, eh⟩ : ∃ h, h = drawn more (j : Int) := ⟨_, rfl⟩
    rw [← eh]
    refine (s_set 4 cd (x_op op_add od_i0 (x_var 4 cx rfl) (x_op op_mod (od_iC (by first | decide | omega)) (x_op op_fdivW (od_iC (div_sm (by decide) (by decide))) (x_var 6 cx rfl) x_int) x_int)) ?_)
    obtain ⟨p, ep⟩ : ∃ p : Nat, p = (foldA more nm pre).2 + (here / 8 % 3).toNat := ⟨_, rfl⟩
    have n1 := Int.emod_nonneg (here / 8) (show (3 : Int) ≠ 0 by decide)
    have e1 : ((foldA more nm pre).2 : Int) + here / 8 % 3 = (p : Int) := by omega
    rw [e1]
    have fin : foldA more nm (pre ++ [j]) = ((foldA more nm pre).1 ++ putA here nm p, p + 1) := by
      rw [foldA_snoc]
      unfold Lf.stepA
      rw [← eh, ← ep]
    refine (s_if (PW.pt (w_and (c_cmp op_lt od_b0 (x_var 4 cx rfl) (x_bi cx call_len (cd_lenS (by first | omega | decide | (simp only [List.length_cons, List.length_nil]; omega))) Z.b_len PySem.boot_len (a_cons (x_var 1 cx rfl) a_nil))) fun hb => (w_and (c_cmp op_notInS od_ninS (x_ix ix_str (od_ixS (by first | omega | decide | (simp only [List.length_cons, List.length_nil]; omega)) (getD_at (dec_lt hb))) (x_var 1 cx rfl) (x_var 4 cx rfl)) (x_txt [95, 45, 47, 46, 32])) fun hb => (w_one (c_cmp op_gt od_b0 (x_op op_mod (od_iC (by first | decide | omega)) (x_var 6 cx rfl) x_int) x_int))))) (fun hc1 => (s_set 3 cd (x_op op_add_str (od_catS (by first | omega | decide | (simp only [List.length_cons, List.length_nil]; omega))) (x_var 3 cx rfl) (x_if (d := tx [if here / 64 % 3 = 0 then nm.getD p 0 else lowC (nm.getD p 0)]) (c_cmp op_eq od_eqI (x_op op_mod (od_iC (by first | decide | omega)) (x_op op_fdivW (od_iC (div_sm (by decide) (by decide))) (x_var 6 cx rfl) x_int) x_int) x_int) (fun hb => (x_is (x_ix ix_str (od_ixS (by first | omega | decide | (simp only [List.length_cons, List.length_nil]; omega)) (getD_at (and_lt hc1))) (x_var 1 cx rfl) (x_var 4 cx rfl)) (by rw [if_pos (of_decide_eq_true hb)]))) (fun hb => (x_is (x_m0 PySem.F.slot_str_lower PySem.F.type_str_lower mt_lower (md_low1 (low8 hn (and_lt hc1))) (x_ix ix_str (od_ixS (by first | omega | decide | (simp only [List.length_cons, List.length_nil]; omega)) (getD_at (and_lt hc1))) (x_var 1 cx rfl) (x_var 4 cx rfl))) (by rw [if_neg (of_decide_eq_false hb)]))))) (s_nil (s_set 4 cd (x_op op_add od_i0 (x_var 4 cx rfl) x_int) (s_nil ?_))))) (fun hc1 => (s_when (c_cmp op_eq od_eqI (x_op op_mod (od_iC (by first | decide | omega)) (x_var 6 cx rfl) x_int) x_int) (fun hc2 => (s_set 3 cd (x_op op_add_str (od_catS (by first | omega | decide | (simp only [List.length_cons, List.length_nil]; omega))) (x_var 3 cx rfl) (x_ix ix_str (od_ixS (by first | omega | decide | (simp only [List.length_cons, List.length_nil]; omega)) (at_rem (l := l4) rfl (by decide))) (x_txt [97, 98, 65, 49]) (x_op op_mod (od_iC (by first | decide | omega)) (x_op op_fdivW (od_iC (div_sm (by decide) (by decide))) (x_var 6 cx rfl) x_int) x_int))) (s_nil (s_nil (s_set 4 cd (x_op op_add od_i0 (x_var 4 cx rfl) x_int) (s_nil ?_)))))) (fun hc2 => (s_nil (s_set 4 cd (x_op op_add od_i0 (x_var 4 cx rfl) x_int) (s_nil ?_)))))))
    · have hc : p < nm.length ∧ nm.getD p 0 ∉ lOth ∧ here % 13 > 0 := by simpa [lOth] using hc1
      show ∃ s5 s6, _ = [_, _, _, Lf.Slot.dat (tx (foldA more nm (pre ++ [j])).1), .dat (natI (foldA more nm (pre ++ [j])).2), s5, s6]
      rw [fin]
      unfold putA
      rw [if_pos hc]
      exact ⟨_, _, rfl⟩
    · have hc : ¬ (p < nm.length ∧ nm.getD p 0 ∉ lOth ∧ here % 13 > 0) := by
        intro h
        have : (decide ((p : Int) < (nm.length : Int)) && (!decide (nm.getD p 0 ∈ lOth) && decide (here % 13 > 0))) = true := by simpa using h
        exact absurd (hc1.symm.trans this) (by decide)
      show ∃ s5 s6, _ = [_, _, _, Lf.Slot.dat (tx (foldA more nm (pre ++ [j])).1), .dat (natI (foldA more nm (pre ++ [j])).2), s5, s6]
      rw [fin]
      unfold putA
      rw [if_neg hc, if_pos (of_decide_eq_true hc2)]
      exact ⟨_, _, rfl⟩
    · have hc : ¬ (p < nm.length ∧ nm.getD p 0 ∉ lOth ∧ here % 13 > 0) := by
        intro h
        have : (decide ((p : Int) < (nm.length : Int)) && (!decide (nm.getD p 0 ∈ lOth) && decide (here % 13 > 0))) = true := by simpa using h
        exact absurd (hc1.symm.trans this) (by decide)
      show ∃ s5 s6, _ = [_, _, _, Lf.Slot.dat (tx (foldA more nm (pre ++ [j])).1), .dat (natI (foldA more nm (pre ++ [j])).2), s5, s6]
      rw [fin]
      unfold putA
      rw [if_neg hc, if_neg (of_decide_eq_false hc2), List.append_nil]
      exact ⟨_, _, rfl⟩
  · intro δ' hI
    obtain ⟨s5, s6, rfl⟩ := hI
    refine (s_ret (x_var 3 cx rfl) ?_)
    rfl
theorem p_law_kind (Z : Tx G T c0 c1 c2 c3 c4 c5 c6 c7 cS cL PL) : Fd G.prog G.w G.K G.mg G.base "_law_kind" 1 ["sign"] (spD T R_law_kind) := by
  refine fd_data Z.d_law_kind sc_law_kind (fun ds r h => by obtain ⟨c, rfl, _⟩ := h; rfl) fun r F ds res cd hr h => ?_
  have cx := cd.toCtx
  obtain ⟨c, rfl, rfl⟩ := h
  refine (s_when (c_cmp op_inS od_inS (x_var 0 cx rfl) (x_txt [97, 98, 99, 100, 101, 102, 103, 104, 105, 106, 107, 108, 109, 110, 111, 112, 113, 114, 115, 116, 117, 118, 119, 120, 121, 122])) (fun hc1 => (s_ret (x_txt [115, 109, 97, 108, 108]) ?_)) (fun hc1 => (s_when (c_cmp op_inS od_inS (x_var 0 cx rfl) (x_txt [48, 49, 50, 51, 52, 53, 54, 55, 56, 57])) (fun hc2 => (s_ret (x_txt [102, 105, 103, 117, 114, 101]) ?_)) (fun hc2 => (s_ret (d := tx (kindL c)) (x_if (c_cmp op_inS od_inS (x_var 0 cx rfl) (x_txt [65, 66, 67, 68, 69, 70, 71, 72, 73, 74, 75, 76, 77, 78, 79, 80, 81, 82, 83, 84, 85, 86, 87, 88, 89, 90])) (fun hb => (x_is (x_txt [103, 114, 101, 97, 116]) (kd3 hc1 hc2 hb))) (fun hb => (x_is (x_txt [110, 111, 110, 101]) (kd4 hc1 hc2 hb)))) ?_)))))
  · exact congrArg Except.ok (kd1 hc1).symm
  · exact congrArg Except.ok (kd2 hc1 hc2).symm
  · rfl
theorem p_law_wordlist (Z : Tx G T c0 c1 c2 c3 c4 c5 c6 c7 cS cL PL) : Fd G.prog G.w G.K G.mg G.base "_law_wordlist" 4 ["more", "name"] (spD T R_law_wordlist) := by
  refine fd_data Z.d_law_wordlist sc_law_wordlist (fun ds r h => by obtain ⟨m, n, rfl, _⟩ := h; rfl) fun r F ds res cd hr h => ?_
  have cx := cd.toCtx
  obtain ⟨more, nm, rfl, hn, rfl⟩ := h
  have hnl := isNm_len hn
  have hS : 100000 ≤ sizeLine := by decide
  have b2 := Int.emod_lt_of_pos more (show (0 : Int) < 5 by decide)
  have b1 := Int.emod_nonneg more (show (5 : Int) ≠ 0 by decide)
  have hpos : (0 : Int) < ((nm.length : Nat) : Int) := by omega
  refine (s_own 2 cd (x_lstN a_nil) (s_for (List.range _) (natI) (fun pre δ => ∃ s3 s4 s5 s6 s7 s8 s9, δ = [.dat (.int more), .dat (tx nm), .own ((pre.map fun (j : Nat) => wordG (drawn more (30 + (j : Int))) nm).map wdD), s3, s4, s5, s6, s7, s8, s9]) cd (i_range1 cx Z.b_range (a_cons (x_op op_mod (od_iC (by first | decide | omega)) (x_var 0 cx rfl) x_int) a_nil) (by first | omega | decide | (simp; omega) | assumption) (by first | omega | decide | (simp; omega) | assumption)) (g_name 3 cd) ?_ ?_ ?_))
  · exact ⟨_, _, _, _, _, _, _, rfl⟩
  · intro pre j post δ' hx hI
    obtain ⟨s3, s4, s5, s6, s7, s8, s9, rfl⟩ := hI
    have hpl : pre.length < 5 := by
      have := congrArg List.length hx
      simp at this
      omega
    have hfo : ((pre.map fun (j : Nat) => wordG (drawn more (30 + (j : Int))) nm).map wdD).length < 100000 := by
      rw [List.length_map, List.length_map]
      omega
    have hsn : (((pre ++ [j]).map fun (j : Nat) => wordG (drawn more (30 + (j : Int))) nm).map wdD) = ((pre.map fun (j : Nat) => wordG (drawn more (30 + (j : Int))) nm).map wdD) ++ [wdD (wordG (drawn more (30 + (j : Int))) nm)] := by
      rw [List.map_append, List.map_append]
      rfl
    refine ⟨_, tg_name, ?_⟩
    show PSs _ _ (sD F _ { nx := fun δ => ∃ s3 s4 s5 s6 s7 s8 s9, δ = [.dat (.int more), .dat (tx nm), .own (((pre ++ [j]).map fun (j : Nat) => wordG (drawn more (30 + (j : Int))) nm).map wdD), s3, s4, s5, s6, s7, s8, s9], rt := _, bk := _, ct := fun δ => ∃ s3 s4 s5 s6 s7 s8 s9, δ = [.dat (.int more), .dat (tx nm), .own (((pre ++ [j]).map fun (j : Nat) => wordG (drawn more (30 + (j : Int))) nm).map wdD), s3, s4, s5, s6, s7, s8, s9], ex := _, rts := _, exs := _ })
    rw [hsn]
    generalize ((pre.map fun (j : Nat) => wordG (drawn more (30 + (j : Int))) nm).map wdD) = fo at hfo ⊢
    refine (s_set 4 cd (x_call cx (p_law_drawn Z) (hr.mono (by omega)) (a_cons (x_var 0 cx rfl) (a_cons (x_op op_add od_i0 x_int (x_var 3 cx rfl)) a_nil)) ⟨_, _, rfl, rfl⟩) ?_)
    generalize drawn more (30 + (j : Int)) = here
    have h1 := spotG_ok (here := here) hn
    have h3 := sizeG_ok here
    have hpt := part_ok (here := here) hn
    have hcz : (cutL nm (some (spotG here nm)) (some (spotG here nm + sizeG here))).length ≤ 100000 := by
      have := cut_len nm (some (spotG here nm)) (some (spotG here nm + sizeG here))
      omega
    have hj : ((((cutL nm (some (spotG here nm)) (some (spotG here nm + sizeG here))).filter fun c => !decide (c ∈ lOth)).map fun c => [c])).length ≤ 10000 := by
      rw [List.length_map]
      have := hpt.1
      unfold partG at this
      omega
    refine (s_set 5 cd (x_ix ix_list (od_ixL (kindG_at here)) (x_lst (a_cons (x_txt [108, 101, 116, 116, 101, 114, 115]) (a_cons (x_txt [112, 105, 101, 99, 101]) (a_cons (x_txt [104, 101, 97, 100]) (a_cons (x_txt [119, 105, 116, 104, 111, 117, 116]) (a_cons (x_txt [116, 97, 105, 108]) (a_cons (x_txt [108, 101, 116, 116, 101, 114, 115]) a_nil))))))) (x_op op_mod (od_iC (by first | decide | omega)) (x_op op_fdivW (od_iC (div_sm (by decide) (by decide))) (x_var 4 cx rfl) x_int) x_int)) (s_set 6 cd (x_call cx (p_law_ask_in Z) (hr.mono (by omega)) (a_cons (x_call cx (p_law_drawn Z) (hr.mono (by omega)) (a_cons (x_var 4 cx rfl) (a_cons x_int a_nil)) ⟨_, _, rfl, rfl⟩) (a_cons (x_var 1 cx rfl) (a_cons x_int a_nil))) ⟨_, _, _, rfl, by decide, by decide, hn, rfl⟩) (s_set 7 cd (x_op op_add od_i0 x_int (x_op op_mod (od_iC (by first | decide | omega)) (x_op op_fdivW (od_iC (div_sm (by decide) (by decide))) (x_var 4 cx rfl) x_int) x_int)) (s_set 8 cd (x_op op_mod (od_iC hpos) (x_op op_fdivW (od_iC (div_sm (by decide) (by decide))) (x_var 4 cx rfl) x_int) (x_bi cx call_len (cd_lenS (by first | omega | decide | exact hcz | exact hfo)) Z.b_len PySem.boot_len (a_cons (x_var 1 cx rfl) a_nil))) (s_ifm ([.dat (.int more), .dat (tx nm), .own fo, .dat (natI j), .dat (.int here), .dat (tx (kindG here)), .dat (tx (askIn (drawn here 1) nm 4)), .dat (.int (sizeG here)), .dat (.int (spotH here nm)), s9]) (c_cmp op_eq od_eqS (x_var 5 cx rfl) (x_txt [104, 101, 97, 100])) (fun hc1 => (s_set 8 cd x_int (s_nil (by unfold spotH; rw [if_pos (show kindG here = kHead from of_decide_eq_true hc1)]; rfl)))) (fun hc1 => (by unfold spotH; rw [if_neg (show ¬ kindG here = kHead from of_decide_eq_false hc1)]; rfl)) (s_ifm ([.dat (.int more), .dat (tx nm), .own fo, .dat (natI j), .dat (.int here), .dat (tx (kindG here)), .dat (tx (askIn (drawn here 1) nm 4)), .dat (.int (sizeG here)), .dat (.int (spotG here nm)), s9]) (c_cmp op_eq od_eqS (x_var 5 cx rfl) (x_txt [116, 97, 105, 108])) (fun hc2 => (s_set 8 cd (x_bi cx (call_max2 cx.calm) cd_max2 Z.b_max (by decide +kernel) (a_cons x_int (a_cons (x_op op_sub od_i0 (x_bi cx call_len (cd_lenS (by first | omega | decide | exact hcz | exact hfo)) Z.b_len PySem.boot_len (a_cons (x_var 1 cx rfl) a_nil)) (x_var 7 cx rfl)) a_nil))) (s_nil (by unfold spotG; rw [if_pos (show kindG here = kTail from of_decide_eq_true hc2)]; rfl)))) (fun hc2 => (by unfold spotG; rw [if_neg (show ¬ kindG here = kTail from of_decide_eq_false hc2)])) (s_ifm ([.dat (.int more), .dat (tx nm), .own fo, .dat (natI j), .dat (.int here), .dat (tx (kindG here)), .dat (tx (askG here nm)), .dat (.int (sizeG here)), .dat (.int (spotG here nm)), s9]) (PW.pt (w_and (c_cmp op_ne od_neS (x_var 5 cx rfl) (x_txt [108, 101, 116, 116, 101, 114, 115])) fun hb => (w_one (c_cmp op_gt od_b0 (x_op op_mod (od_iC (by first | decide | omega)) (x_op op_fdivW (od_iC (div_sm (by decide) (by decide))) (x_var 4 cx rfl) (x_op op_pow (od_iC ⟨by decide, by decide, by decide⟩) x_int x_int)) x_int) x_int)))) (fun hc3 => (s_set 6 cd (x_is (d1 := tx (partG here nm)) (x_m1 PySem.F.slot_str_join PySem.F.type_str_join mt_join (cd_joinD mp_t (join1_sz hj)) (x_txt []) (x_dl (x_lc [("sign", 9)] (_) (fun (c : Nat) => tx [c]) _ _ _ cx (i_str (x_sl sl_str (sd_str (by first | omega | decide | exact hcz | exact hfo)) (x_var 1 cx rfl) (o_some (x_var 8 cx rfl)) (o_some (x_op op_add od_i0 (x_var 8 cx rfl) (x_var 7 cx rfl))))) (by first | omega | decide | exact hcz | exact hfo) (by decide +kernel) (fun s H C cl fp => g_nameB 9 (cx.blk s H _ C cl fp)) (fun x hx => tg_name) (wg_name (by decide)) (fun x hx s H C cl fp => ts_one (c_cmp op_notInS od_ninS (x_var 9 (cx.blk s H _ C cl fp) rfl) (x_txt [95, 45, 47, 46, 32]))) (fun x hx hq s H C cl fp => (x_var 9 (cx.blk s H _ C cl fp) rfl))))) (congrArg tx ((join1 _ (fun c => c)).trans (List.map_id' _)))) (s_set 6 cd (x_if (d := tx (partL here nm)) (c_cmp op_eq od_eqI (x_op op_mod (od_iC (by first | decide | omega)) (x_op op_fdivW (od_iC (div_sm (by decide) (by decide))) (x_var 4 cx rfl) (x_op op_pow (od_iC ⟨by decide, by decide, by decide⟩) x_int x_int)) x_int) x_int) (fun hb => (x_is (x_m0 PySem.F.slot_str_lower PySem.F.type_str_lower mt_lower (md_low (fun c hc => (hpt.2 c hc).2.2) (by first | omega | decide | exact hcz | exact hfo)) (x_var 6 cx rfl)) (congrArg tx (if_pos (of_decide_eq_true hb)).symm))) (fun hb => (x_is (x_var 6 cx rfl) (congrArg tx (if_neg (of_decide_eq_false hb)).symm)))) (s_nil (by have hc3 : (!decide (kindG here = kLet) && decide (here / 2 ^ (20 : Int).toNat % 4 > 0)) = true := hc3; unfold askG; rw [if_pos hc3]; rfl))))) (fun hc3 => (by have hc3 : (!decide (kindG here = kLet) && decide (here / 2 ^ (20 : Int).toNat % 4 > 0)) = false := hc3; unfold askG; rw [if_neg (by rw [hc3]; decide)])) (s_appN 2 cx rfl (x_tup (a_cons (x_var 5 cx rfl) (a_cons (x_if (d := tx (wordG here nm).2) (c_cmp op_ne od_neS (x_var 6 cx rfl) (x_txt [])) (fun hb => (x_is (x_var 6 cx rfl) (congrArg tx (if_neg (show ¬ askG here nm = [] by simpa using hb)).symm))) (fun hb => (x_is (x_txt [97]) (congrArg tx (if_pos (show askG here nm = [] by simpa using hb)).symm)))) a_nil))) (by first | omega | decide | exact hcz | exact hfo) (s_nil ?_)))))))))
    exact ⟨_, _, _, _, _, _, _, rfl⟩
  · intro δ' hI
    obtain ⟨s3, s4, s5, s6, s7, s8, s9, rfl⟩ := hI
    refine (s_freeze 2 rfl (s_ret (x_var 2 cx rfl) ?_))
    rfl
theorem p_law_text_of (Z : Tx G T c0 c1 c2 c3 c4 c5 c6 c7 cS cL PL) : Fd G.prog G.w G.K G.mg G.base "_law_text_of" 2 ["words_here"] (spD T R_law_text_of) := by
  refine fd_data Z.d_law_text_of sc_law_text_of (fun ds r h => by obtain ⟨w, rfl, _⟩ := h; rfl) fun r F ds res cd hr h => ?_
  have cx := cd.toCtx
  obtain ⟨ws, rfl, h4, hws, rfl⟩ := h
  refine (s_own 1 cd (x_lstN a_nil) (s_for (ws) (wdD) (fun pre δ => ∃ s2 s3, δ = [.dat (.list (ws.map wdD)), .own (pre.map fun w => tx (wt w)), s2, s3]) cd (i_list (x_var 0 cx rfl)) (pg_tup cx.calm (pgs_cons (g_name 2 cd) (pgs_cons (g_name 3 cd) pgs_nil))) ?_ ?_ ?_))
  · exact ⟨_, _, rfl⟩
  · intro pre w post δ' hx hI
    obtain ⟨s2, s3, rfl⟩ := hI
    have hw : okW w := hws w (by rw [hx]; simp)
    have hpl : pre.length ≤ 4 := by
      have := congrArg List.length hx
      simp only [List.length_append, List.length_cons] at this
      omega
    obtain ⟨k, a⟩ := w
    have h1 : isKind k = true := hw.1
    have hza : a.length ≤ 8 := isAs_len hw.2.1
    have hzs : (sgn k).length ≤ 10 := by
      rcases kind_cases h1 with rfl | rfl | rfl | rfl | rfl <;> decide
    have hdisp := sgn_disp h1
    have hput : ixN ((pre.map fun w => tx (wt w)) ++ [tx (sgn k ++ a)]).length (-1) = some pre.length := by
      rw [List.length_append, List.length_map]
      show ixN (pre.length + 1) (-1) = some pre.length
      unfold ixN
      rw [if_neg (by decide), if_pos (by omega)]
      exact congrArg some (by omega)
    refine ⟨_, tg_tup rfl (tg_cons tg_name (tg_cons tg_name tg_nil)), ?_⟩
    refine (s_appN 1 cx rfl (x_op op_add_str (od_catS (by first | omega | exact line_le (by simp only [List.length_cons, List.length_nil]; omega) | exact line_le (by omega) | (simp only [List.length_append, List.length_cons, List.length_nil, List.length_map]; omega))) (x_disp [([108, 101, 116, 116, 101, 114, 115], []), ([112, 105, 101, 99, 101], [39]), ([104, 101, 97, 100], [94]), ([119, 105, 116, 104, 111, 117, 116], [33]), ([116, 97, 105, 108], [])] (hu1 hr) (pps_cons (x_txt [108, 101, 116, 116, 101, 114, 115]) (x_txt []) (pps_cons (x_txt [112, 105, 101, 99, 101]) (x_txt [39]) (pps_cons (x_txt [104, 101, 97, 100]) (x_txt [94]) (pps_cons (x_txt [119, 105, 116, 104, 111, 117, 116]) (x_txt [33]) (pps_cons (x_txt [116, 97, 105, 108]) (x_txt []) pps_nil))))) (x_var 2 cx rfl) (by decide) hdisp) (x_var 3 cx rfl)) (by first | omega | exact line_le (by simp only [List.length_cons, List.length_nil]; omega) | exact line_le (by omega) | (simp only [List.length_append, List.length_cons, List.length_nil, List.length_map]; omega)) (s_when (c_cmp op_eq od_eqS (x_var 2 cx rfl) (x_txt [116, 97, 105, 108])) (fun hc1 => (s_put 1 cd rfl (x_op op_add_str (od_catS (by first | omega | exact line_le (by simp only [List.length_cons, List.length_nil]; omega) | exact line_le (by omega) | (simp only [List.length_append, List.length_cons, List.length_nil, List.length_map]; omega))) (x_var 3 cx rfl) (x_txt [36])) (x_un un_neg ud_neg x_int) hput (s_nil (s_nil ?_)))) (fun hc1 => (s_nil ?_))))
    · obtain rfl : k = kTail := of_decide_eq_true hc1
      refine ⟨.dat (tx kTail), .dat (tx a), ?_⟩
      have e : ((pre.map fun w => tx (wt w)) ++ [tx (sgn kTail ++ a)]).set pre.length (tx (a ++ [36])) = (pre ++ [(kTail, a)]).map fun w => tx (wt w) := by
        rw [List.set_append_right _ _ (by simp)]
        simp
        rfl
      rw [← e]
      rfl
    · refine ⟨.dat (tx k), .dat (tx a), ?_⟩
      have e : ((pre.map fun w => tx (wt w)) ++ [tx (sgn k ++ a)]) = (pre ++ [(k, a)]).map fun w => tx (wt w) := by
        rw [sgn_wt h1 (of_decide_eq_false hc1)]
        simp
      rw [← e]
      rfl
  · intro δ' hI
    obtain ⟨s2, s3, rfl⟩ := hI
    have hjz : ((ws.map wt).map (·.length)).sum + (ws.map wt).length * ([32] : List Nat).length ≤ 16777216 := by
      have := sum_wt hws
      rw [List.length_map]
      simp only [List.length_cons, List.length_nil]
      omega
    refine (s_freeze 1 rfl (s_ret (x_m1 PySem.F.slot_str_join PySem.F.type_str_join mt_join (cd_joinD mp_t hjz) (x_txt [32]) (x_var 1 cx rfl)) ?_))
    rfl
theorem p_law_tells (Z : Tx G T c0 c1 c2 c3 c4 c5 c6 c7 cS cL PL) : Fd G.prog G.w G.K G.mg G.base "_law_tells" 3 ["text"] (spD T R_law_tells60) := by
  refine fd_data Z.d_law_tells sc_law_tells (fun ds r h => by obtain ⟨l, rfl, _⟩ := h; rfl) fun r F ds res cd hr h => ?_
  have cx := cd.toCtx
  obtain ⟨l, rfl, hz, hlow, rfl⟩ := h
  have hps : (parts l).length ≤ 1001 ∧ ∀ p ∈ parts l, p.length ≤ 1000 := by
    unfold parts
    split
    · exact ⟨by simp, fun p hp => by cases hp⟩
    · obtain ⟨h1, h2⟩ := spl_bd l []
      exact ⟨by unfold spc; omega, fun p hp => by have := h2 p hp; rw [List.length_nil] at this; omega⟩
  refine (s_own 1 cd (x_lstN a_nil) (s_for (parts l) (tx) (fun pre δ => ∃ s2 s3 s4 vs, pre.mapM wIn = some vs ∧ δ = [.dat (tx l), .own (vs.map wdD), s2, s3, s4, .non]) cd (i_list (x_if (d := .list ((parts l).map tx)) (c_cmp op_ne od_neS (x_var 0 cx rfl) (x_txt [])) (fun hb => (x_is (x_m1 PySem.F.slot_str_split PySem.F.type_str_split mt_split (md_split (by first | omega | decide | (simp; omega) | assumption)) (x_var 0 cx rfl) (x_txt [32])) (by unfold parts; rw [if_neg (by simpa using hb)]))) (fun hb => (x_is (x_lst a_nil) (by unfold parts; rw [if_pos (by simpa using hb)]; rfl))))) (g_name 2 cd) ?_ ?_ ?_))
  · exact ⟨_, _, _, [], rfl, rfl⟩
  · intro pre p post δ' hx hI
    obtain ⟨s2, s3, s4, vs, hvs, rfl⟩ := hI
    have hpm : p ∈ parts l := by rw [hx]; simp
    have hzp : p.length ≤ 1000 := hps.2 p hpm
    have hsl : p.length ≤ sizeLine := Nat.le_trans hzp (by decide)
    have hpre : pre.length ≤ 1001 := by
      have := congrArg List.length hx
      simp only [List.length_append, List.length_cons] at this
      omega
    have hvl : vs.length ≤ 1001 := by
      have := mapM_len hvs
      omega
    refine ⟨_, tg_name, ?_⟩
    refine (s_par (i := 3) (j := 4) cd (a_cons (x_txt [108, 101, 116, 116, 101, 114, 115]) (a_cons (x_var 2 cx rfl) a_nil)) (s_if (c_cmp (op_inD (hu65 hr)) (od_inD (lay_tx (n := 0) (fun c hc => by have := hlow c (parts_mem hpm c (cut_mem hc)); omega)) (lay_words (by decide +kernel))) (x_sl sl_str (sd_str (by first | omega | decide | (simp; omega) | assumption)) (x_var 2 cx rfl) o_none (o_some x_int)) (x_lst (a_cons (x_txt [39]) (a_cons (x_txt [94]) (a_cons (x_txt [33]) a_nil))))) (fun hc1 => (s_par (i := 3) (j := 4) cd (a_cons (x_disp [([39], [112, 105, 101, 99, 101]), ([94], [104, 101, 97, 100]), ([33], [119, 105, 116, 104, 111, 117, 116])] (hu1 hr) (pps_cons (x_txt [39]) (x_txt [112, 105, 101, 99, 101]) (pps_cons (x_txt [94]) (x_txt [104, 101, 97, 100]) (pps_cons (x_txt [33]) (x_txt [119, 105, 116, 104, 111, 117, 116]) pps_nil))) (x_ix ix_str (od_ixS (by first | omega | decide | (simp; omega) | assumption) (ahead3_ix hc1)) (x_var 2 cx rfl) x_int) (by decide) (ahead3_disp hc1)) (a_cons (x_sl sl_str (sd_str (by first | omega | decide | (simp; omega) | assumption)) (x_var 2 cx rfl) (o_some x_int) o_none) a_nil)) (s_nil ?_))) (fun hc1 => (s_when (c_cmp op_eq od_eqS (x_sl sl_str (sd_str (by first | omega | decide | (simp; omega) | assumption)) (x_var 2 cx rfl) (o_some (x_un un_neg ud_neg x_int)) o_none) (x_txt [36])) (fun hc2 => (s_par (i := 3) (j := 4) cd (a_cons (x_txt [116, 97, 105, 108]) (a_cons (x_sl sl_str (sd_str (by first | omega | decide | (simp; omega) | assumption)) (x_var 2 cx rfl) o_none (o_some (x_un un_neg ud_neg x_int))) a_nil)) (s_nil (s_nil ?_)))) (fun hc2 => (s_nil ?_))))))
    · have hk : wAk p = wAk p := rfl
      have ha := wAa_ahead (ahead3 hc1)
      have hza : (cutL p (some 1) none).length ≤ 1000 := Nat.le_trans (cut_len _ _ _) hzp
      generalize cutL p (some 1) none = a at ha hza ⊢
      have hla : ∀ c ∈ a, c < 128 := fun c hc => hlow c (parts_mem hpm c (wAa_mem c (by rw [ha]; exact hc)))
      have hsa : a.length ≤ sizeLine := line_le (by omega)
      have hlay : Lay 1 (PyData.list ((a.filter fun c => decide (kindL c = [110, 111, 110, 101])).map fun c => tx [c])) := lay_signs fun c hc => hla c (List.mem_filter.mp hc).1
      refine (s_when (PW.pt (w_or (c_not (c_chain op_lt op_lt od_b0 (fun hb => od_b0) x_int (x_bi cx call_len (cd_lenS (by first | exact hsa | omega | (rw [List.length_map]; omega))) Z.b_len PySem.boot_len (a_cons (x_var 4 cx rfl) a_nil)) x_int)) fun hb => (w_one (c_cmp (op_neD hr.units) (od_neD hlay lay_emp) (x_dl (x_lc [("sign", 5)] (_) (fun (c : Nat) => tx [c]) _ _ _ cx (i_str (x_var 4 cx rfl)) (by first | exact hsa | omega | (rw [List.length_map]; omega)) (by decide +kernel) (fun s H C cl fp => g_nameB 5 (cx.blk s H _ C cl fp)) (fun x hx => tg_name) (wg_name (by decide)) (fun x hx s H C cl fp => ts_one (c_cmp op_eq od_eqS (x_call (cx.blk s H _ C cl fp) (p_law_kind Z) (hr.mono (by omega)) (a_cons (x_var 5 (cx.blk s H _ C cl fp) rfl) a_nil) ⟨_, rfl, rfl⟩) (x_txt [110, 111, 110, 101]))) (fun x hx hq s H C cl fp => (x_var 5 (cx.blk s H _ C cl fp) rfl)))) (x_lst a_nil))))) (fun hc1 => (s_ret x_none ?_)) (fun hc1 => (s_appN 1 cx rfl (x_tup (a_cons (x_var 3 cx rfl) (a_cons (x_var 4 cx rfl) a_nil))) (by first | exact hsa | omega | (rw [List.length_map]; omega)) (s_nil ?_))))
      · show Except.ok (tellD l) = Except.ok PyData.none
        exact congrArg Except.ok (tell_bad hx ha hc1)
      · refine ⟨.dat (tx p), .dat (tx (wAk p)), .dat (tx a), vs ++ [(wAk p, a)], mapM_snoc hvs (tell_good hk ha hc1), ?_⟩
        rw [List.map_append]
        rfl
    · rw [ahead_any] at hc1
      obtain ⟨hk, ha⟩ := wA_tail hc1 (of_decide_eq_true hc2)
      have hza : (cutL p none (some (-1))).length ≤ 1000 := Nat.le_trans (cut_len _ _ _) hzp
      generalize cutL p none (some (-1)) = a at ha hza ⊢
      have hla : ∀ c ∈ a, c < 128 := fun c hc => hlow c (parts_mem hpm c (wAa_mem c (by rw [ha]; exact hc)))
      have hsa : a.length ≤ sizeLine := line_le (by omega)
      have hlay : Lay 1 (PyData.list ((a.filter fun c => decide (kindL c = [110, 111, 110, 101])).map fun c => tx [c])) := lay_signs fun c hc => hla c (List.mem_filter.mp hc).1
      refine (s_when (PW.pt (w_or (c_not (c_chain op_lt op_lt od_b0 (fun hb => od_b0) x_int (x_bi cx call_len (cd_lenS (by first | exact hsa | omega | (rw [List.length_map]; omega))) Z.b_len PySem.boot_len (a_cons (x_var 4 cx rfl) a_nil)) x_int)) fun hb => (w_one (c_cmp (op_neD hr.units) (od_neD hlay lay_emp) (x_dl (x_lc [("sign", 5)] (_) (fun (c : Nat) => tx [c]) _ _ _ cx (i_str (x_var 4 cx rfl)) (by first | exact hsa | omega | (rw [List.length_map]; omega)) (by decide +kernel) (fun s H C cl fp => g_nameB 5 (cx.blk s H _ C cl fp)) (fun x hx => tg_name) (wg_name (by decide)) (fun x hx s H C cl fp => ts_one (c_cmp op_eq od_eqS (x_call (cx.blk s H _ C cl fp) (p_law_kind Z) (hr.mono (by omega)) (a_cons (x_var 5 (cx.blk s H _ C cl fp) rfl) a_nil) ⟨_, rfl, rfl⟩) (x_txt [110, 111, 110, 101]))) (fun x hx hq s H C cl fp => (x_var 5 (cx.blk s H _ C cl fp) rfl)))) (x_lst a_nil))))) (fun hc1 => (s_ret x_none ?_)) (fun hc1 => (s_appN 1 cx rfl (x_tup (a_cons (x_var 3 cx rfl) (a_cons (x_var 4 cx rfl) a_nil))) (by first | exact hsa | omega | (rw [List.length_map]; omega)) (s_nil ?_))))
      · show Except.ok (tellD l) = Except.ok PyData.none
        exact congrArg Except.ok (tell_bad hx ha hc1)
      · refine ⟨.dat (tx p), .dat (tx (kTail)), .dat (tx a), vs ++ [(kTail, a)], mapM_snoc hvs (tell_good hk ha hc1), ?_⟩
        rw [List.map_append]
        rfl
    · rw [ahead_any] at hc1
      obtain ⟨hk, ha⟩ := wA_let hc1 (of_decide_eq_false hc2)
      have hla : ∀ c ∈ p, c < 128 := fun c hc => hlow c (parts_mem hpm c hc)
      have hsa : p.length ≤ sizeLine := line_le (by omega)
      have hlay : Lay 1 (PyData.list ((p.filter fun c => decide (kindL c = [110, 111, 110, 101])).map fun c => tx [c])) := lay_signs fun c hc => hla c (List.mem_filter.mp hc).1
      refine (s_when (PW.pt (w_or (c_not (c_chain op_lt op_lt od_b0 (fun hb => od_b0) x_int (x_bi cx call_len (cd_lenS (by first | exact hsa | omega | (rw [List.length_map]; omega))) Z.b_len PySem.boot_len (a_cons (x_var 4 cx rfl) a_nil)) x_int)) fun hb => (w_one (c_cmp (op_neD hr.units) (od_neD hlay lay_emp) (x_dl (x_lc [("sign", 5)] (_) (fun (c : Nat) => tx [c]) _ _ _ cx (i_str (x_var 4 cx rfl)) (by first | exact hsa | omega | (rw [List.length_map]; omega)) (by decide +kernel) (fun s H C cl fp => g_nameB 5 (cx.blk s H _ C cl fp)) (fun x hx => tg_name) (wg_name (by decide)) (fun x hx s H C cl fp => ts_one (c_cmp op_eq od_eqS (x_call (cx.blk s H _ C cl fp) (p_law_kind Z) (hr.mono (by omega)) (a_cons (x_var 5 (cx.blk s H _ C cl fp) rfl) a_nil) ⟨_, rfl, rfl⟩) (x_txt [110, 111, 110, 101]))) (fun x hx hq s H C cl fp => (x_var 5 (cx.blk s H _ C cl fp) rfl)))) (x_lst a_nil))))) (fun hc1 => (s_ret x_none ?_)) (fun hc1 => (s_appN 1 cx rfl (x_tup (a_cons (x_var 3 cx rfl) (a_cons (x_var 4 cx rfl) a_nil))) (by first | exact hsa | omega | (rw [List.length_map]; omega)) (s_nil ?_))))
      · show Except.ok (tellD l) = Except.ok PyData.none
        exact congrArg Except.ok (tell_bad hx ha hc1)
      · refine ⟨.dat (tx p), .dat (tx (kLet)), .dat (tx p), vs ++ [(kLet, p)], mapM_snoc hvs (tell_good hk ha hc1), ?_⟩
        rw [List.map_append]
        rfl
  · intro δ' hI
    obtain ⟨s2, s3, s4, vs, hvs, rfl⟩ := hI
    have hvl := mapM_len hvs
    have e0 : tellD l = if vs.length < 5 then .list (vs.map wdD) else .none := by
      unfold tellD wsOf
      by_cases h : (parts l).length ≤ 4
      · rw [if_pos h, hvs, if_pos (by omega)]
      · rw [if_neg h, if_neg (by omega)]
    have hbr0 : decide (((vs.map wdD).length : Int) < 5) = true → PyData.list (vs.map wdD) = tellD l := fun hb => by
      have := of_decide_eq_true hb
      rw [List.length_map] at this
      rw [e0, if_pos (by omega)]
    have hbr1 : decide (((vs.map wdD).length : Int) < 5) = false → PyData.none = tellD l := fun hb => by
      have := of_decide_eq_false hb
      rw [List.length_map] at this
      rw [e0, if_neg (by omega)]
    refine (s_freeze 1 rfl (s_ret (x_if (d := tellD l) (c_cmp op_lt od_b0 (x_bi cx call_len cd_lenL Z.b_len PySem.boot_len (a_cons (x_var 1 cx rfl) a_nil)) x_int) (fun hb => (x_is (x_var 1 cx rfl) (hbr0 hb))) (fun hb => (x_is x_none (hbr1 hb)))) ?_))
    rfl
end
end K60
set_option Elab.async false
set_option linter.all false
set_option maxRecDepth 100000
set_option maxHeartbeats 800000
namespace K60
open PySem PySem.Spec PyProof.Rows L2 LamX Lf
section
variable {G : Pg} {T : List (Addr × Str)} {c0 c1 c2 c3 c4 c5 c6 c7 cS cL PL : Addr}
theorem p_law (Z : Tx G T c0 c1 c2 c3 c4 c5 c6 c7 cS cL PL) {fL : Addr} {oc kV doc pm ct : Value} {od an : Option Addr} {osl : Array (Option Value)} (lk : G.K.lookup fL = some ⟨oc, od, .func (PySem.W.fnOf "law" "law" (defArgs st_law) (defBody st_law) (defScope st_law) .none kV doc pm an (.ref cL) ct), osl⟩) (hcd : PySem.W.codeIn G.K (.ref cL) "law" = true) :
    FnOk G.prog G.w G.K G.mg G.base (L2N.CX G.prog G.w) 20 fL (PySem.W.fnOf "law" "law" (defArgs st_law) (defBody st_law) (defScope st_law) .none kV doc pm an (.ref cL) ct) ["script"] (spLaw T G.K fun ns => ns.length ≤ 63) := by
  refine fn_law lk hcd sc_law fun r F ns cd co hr hl => ?_
  have cx := cd.toCtx
  have hns : ns.length ≤ 100000 := by omega
  have hS : 100000 ≤ sizeLine := by decide
  refine (s_for (List.range _) (natI) (fun pre_ δ => ∃ s1 s2 s3 s4 s5 s6 s7 s8 s9 s10 s11 s12 s13 s14, δ = [.scr ns, s1, s2, s3, s4, s5, s6, s7, s8, s9, s10, s11, s12, s13, s14]) cd (i_range1 cx Z.b_range (a_cons (x_bi cx (call_max2 cx.calm) cd_max2 Z.b_max (by decide +kernel) (a_cons x_int (a_cons (x_bi cx (call_min2 cx.calm) cd_min2 Z.b_min (by decide +kernel) (a_cons x_int (a_cons (x_slen 0 cx rfl rfl Z.b_len) a_nil))) a_nil))) a_nil) (by first | omega | decide | (simp; omega) | assumption) (by first | omega | decide | (simp; omega) | assumption)) (g_name 1 cd) ?_ ?_ ?_)
  · exact ⟨_, _, _, _, _, _, _, _, _, _, _, _, _, _, rfl⟩
  · intro pre k post δ' hx hI
    obtain ⟨s1, s2, s3, s4, s5, s6, s7, s8, s9, s10, s11, s12, s13, s14, rfl⟩ := hI
    have hk : k < 1000 := by
      have hm : k ∈ pre ++ k :: post := by simp
      rw [← hx] at hm
      have := List.mem_range.mp hm
      omega
    refine ⟨_, tg_name, ?_⟩
    obtain ⟨more, hmore⟩ : ∃ more, more = drawn (cell ns k) (k : Int) := ⟨_, rfl⟩
    refine (s_set 2 cd (x_call cx (p_law_drawn Z) (hr.mono (by omega)) (a_cons (x_cell 0 cx rfl rfl (p_law_cell Z) (hr.mono (by omega)) (x_var 1 cx rfl) hns hk) (a_cons (x_var 1 cx rfl) a_nil)) ⟨_, _, rfl, rfl⟩) (s_for (List.range _) (natI) (fun pre_ δ => ∃ s1 s3 s4 s5 s6 s7 s8 s9 s10 s11 s12 s13 s14, δ = [.scr ns, s1, .dat (.int more), s3, s4, s5, s6, s7, s8, s9, s10, s11, s12, s13, s14]) cd (i_range1 cx Z.b_range (a_cons x_int a_nil) (by first | omega | decide | (simp; omega) | assumption) (by first | omega | decide | (simp; omega) | assumption)) (g_name 3 cd) ?_ ?_ ?_))
    · rw [← hmore]
      exact ⟨_, _, _, _, _, _, _, _, _, _, _, _, _, rfl⟩
    · intro pre1 j post1 δ1 hx1 hI1
      obtain ⟨s1, s3, s4, s5, s6, s7, s8, s9, s10, s11, s12, s13, s14, rfl⟩ := hI1
      refine ⟨_, tg_name, ?_⟩
      refine (s_set 5 cd (x_call cx (p_law_drawn Z) (hr.mono (by omega)) (a_cons (x_var 2 cx rfl) (a_cons (x_op op_add od_i0 x_int (x_var 3 cx rfl)) a_nil)) ⟨_, _, rfl, rfl⟩) ?_)
      generalize drawn more (10 + (j : Int)) = here
      have hnm : isNm (nameL (here / 8) 12) = true := nameL_ok (by decide) (by decide)
      refine (s_set 6 cd (x_call cx (p_law_wordlist Z) (hr.mono (by omega)) (a_cons (x_var 5 cx rfl) (a_cons (x_call cx (p_law_name Z) (hr.mono (by omega)) (a_cons (x_op op_fdivW (od_iC (div_sm (by decide) (by decide))) (x_var 5 cx rfl) x_int) (a_cons x_int a_nil)) ⟨_, _, rfl, by decide, by decide, rfl⟩) a_nil)) ⟨_, _, rfl, hnm, rfl⟩) ?_)
      obtain ⟨hw4, hws⟩ := wordsG_ok (more := here) hnm
      generalize wordsG here (nameL (here / 8) 12) = ws at hw4 hws ⊢
      have htl := wtx_len hw4 hws
      have htlow := wtx_low hws
      obtain ⟨text, ht⟩ : ∃ text, text = wtx ws := ⟨_, rfl⟩
      refine (s_set 7 cd (x_call cx (p_law_text_of Z) (hr.mono (by omega)) (a_cons (x_var 6 cx rfl) a_nil) ⟨_, rfl, hw4, hws, rfl⟩) (s_when (PW.pt (w_or (c_cmp op_ne od_neS (x_call cx (p_written Z) (hr.mono (by omega)) (a_cons (x_var 6 cx rfl) a_nil) ⟨_, rfl, words_sz (by omega) hws, by rw [if_pos (words_ok hw4 hws), wordsL_self]⟩) (x_var 7 cx rfl)) fun hb => (w_one (c_cmp (op_neD hr.units) (od_neD (lay_wds hws) (lay_wds hws)) (x_call cx (p_words_of Z) (hr.mono (by omega)) (a_cons (x_var 7 cx rfl) a_nil) ⟨_, rfl, okd_tx (by omega), (wsD_wtx hw4 hws).symm⟩) (x_var 6 cx rfl))))) (fun hc1 => (s_ret x_bool ?_)) (fun hc1 => (s_for (List.range _) (natI) (fun pre_ δ => ∃ s1 s3 s4 s6 s8 s9 s10 s11 s12 s13 s14, δ = [.scr ns, s1, .dat (.int more), s3, s4, .dat (.int here), s6, .dat (tx text), s8, s9, s10, s11, s12, s13, s14]) cd (i_range1 cx Z.b_range (a_cons x_int a_nil) (by first | omega | decide | (simp; omega) | assumption) (by first | omega | decide | (simp; omega) | assumption)) (g_name 8 cd) ?_ ?_ ?_))))
      · exfalso
        have e1 : PyData.eqv (.list (ws.map wdD)) (.list (ws.map wdD)) = true := eqv_self (lay_wds hws)
        rw [e1] at hc1
        simp at hc1
      · rw [← ht]
        exact ⟨_, _, _, _, _, _, _, _, _, _, _, rfl⟩
      · rw [← ht] at htl htlow
        intro pre2 m post2 δ2 hx2 hI2
        obtain ⟨s1, s3, s4, s6, s8, s9, s10, s11, s12, s13, s14, rfl⟩ := hI2
        refine ⟨_, tg_name, ?_⟩
        refine (s_set 10 cd (x_call cx (p_law_drawn Z) (hr.mono (by omega)) (a_cons (x_var 5 cx rfl) (a_cons (x_op op_add od_i0 x_int (x_var 8 cx rfl)) a_nil)) ⟨_, _, rfl, rfl⟩) ?_)
        generalize drawn here (60 + (m : Int)) = deep
        have hmod : (0 : Int) < (text.length : Int) + 1 := by omega
        have k1 := cut_len text none (some (deep % ((text.length : Int) + 1)))
        have k2 := cut_len text (some (deep % ((text.length : Int) + 1) + deep / 1024 % 2)) none
        have k3 := (l9_ok (deep / 64 % 9).toNat).1
        have hc12 : (cutL text none (some (deep % ((text.length : Int) + 1))) ++ l9.getD (deep / 64 % 9).toNat []).length + (cutL text (some (deep % ((text.length : Int) + 1) + deep / 1024 % 2)) none).length ≤ sizeLine := by
          rw [List.length_append]
          omega
        refine (s_set 11 cd (x_op op_mod (od_iC (by first | decide | omega)) (x_var 10 cx rfl) (x_op op_add od_i0 (x_bi cx call_len (cd_lenS (by first | omega | exact hc12)) Z.b_len PySem.boot_len (a_cons (x_var 7 cx rfl) a_nil)) x_int)) (s_set 12 cd (x_ix ix_list (od_ixL (at_l9 _)) (x_lst (a_cons (x_txt [39]) (a_cons (x_txt [94]) (a_cons (x_txt [33]) (a_cons (x_txt [36]) (a_cons (x_txt [32]) (a_cons (x_txt []) (a_cons (x_txt [95]) (a_cons (x_txt [32, 97, 32, 98]) (a_cons (x_txt [97, 98, 99, 100, 101, 102, 103]) a_nil)))))))))) (x_op op_mod (od_iC (by first | decide | omega)) (x_op op_fdivW (od_iC (div_sm (by decide) (by decide))) (x_var 10 cx rfl) x_int) x_int)) (s_set 13 cd (x_op op_add_str (od_catS (by first | omega | exact hc12)) (x_op op_add_str (od_catS (by first | omega | exact hc12)) (x_sl sl_str (sd_str (by first | omega | exact hc12)) (x_var 7 cx rfl) o_none (o_some (x_var 11 cx rfl))) (x_var 12 cx rfl)) (x_sl sl_str (sd_str (by first | omega | exact hc12)) (x_var 7 cx rfl) (o_some (x_op op_add od_i0 (x_var 11 cx rfl) (x_op op_mod (od_iC (by first | decide | omega)) (x_op op_fdivW (od_iC (div_sm (by decide) (by decide))) (x_var 10 cx rfl) x_int) x_int))) o_none)) ?_)))
        have ho1 : (cutL text none (some (deep % ((text.length : Int) + 1))) ++ l9.getD (deep / 64 % 9).toNat [] ++ cutL text (some (deep % ((text.length : Int) + 1) + deep / 1024 % 2)) none).length ≤ 1000 := by
          rw [List.length_append, List.length_append]
          omega
        have ho2 : ∀ c ∈ (cutL text none (some (deep % ((text.length : Int) + 1))) ++ l9.getD (deep / 64 % 9).toNat [] ++ cutL text (some (deep % ((text.length : Int) + 1) + deep / 1024 % 2)) none), c < 128 := by
          intro c hc
          rcases List.mem_append.mp hc with z | z
          · rcases List.mem_append.mp z with z | z
            · exact htlow c (cut_mem z)
            · exact (l9_ok _).2 c z
          · exact htlow c (cut_mem z)
        generalize (cutL text none (some (deep % ((text.length : Int) + 1))) ++ l9.getD (deep / 64 % 9).toNat [] ++ cutL text (some (deep % ((text.length : Int) + 1) + deep / 1024 % 2)) none) = own at ho1 ho2 ⊢
        have htold : ToldIs G.K [c0, c1, c2, c3, c4, c5, c6, c7] cS (sd60 own) (wsD c7 (tx own)) := by
          rw [wsD_tx]
          unfold sd60
          cases wsOf own with
          | none => exact told_w (l := wBadText) Z.w_BadText rfl rfl
          | some q => rfl
        refine (s_set 14 cd (x_call cx (p_law_tells Z) (hr.mono (by omega)) (a_cons (x_var 13 cx rfl) a_nil) ⟨_, rfl, ho1, ho2, rfl⟩) (s_when (c_cmp (op_neD hr.units) (od_neD (sd60_lay own) (sd60_lay own)) (x_told (k := 10) cx co (p_told Z) Z.tb_law Z.hm_law Z.hu_law (hr.mono (by omega)) htold (fun A outer s H E f c' cy ty hy => (x_callR cy ty (p_words_of Z) (hy.mono (by omega)) (a_cons (x_var 13 cy rfl) a_nil) ⟨_, rfl, okd_tx (by omega), rfl⟩))) (x_if (d := sd60 own) (c_cmp op_isN od_isN (x_var 14 cx rfl) x_none) (fun hb => (x_is (x_txt [66, 97, 100, 84, 101, 120, 116]) (sd60_none hb))) (fun hb => (x_is (x_var 14 cx rfl) (sd60_some hb))))) (fun hc1 => (s_ret x_bool ?_)) (fun hc1 => (s_nil ?_))))
        · rw [eqv_self (sd60_lay own)] at hc1
          cases hc1
        · exact ⟨_, _, _, _, _, _, _, _, _, _, _, rfl⟩
      · intro δ2 hI2
        obtain ⟨s1, s3, s4, s6, s8, s9, s10, s11, s12, s13, s14, rfl⟩ := hI2
        refine (s_set 9 cd (x_tup (a_cons (x_lst (a_cons (x_tup (a_cons (x_txt [108, 101, 116, 116, 101, 114, 115]) (a_cons (x_txt []) a_nil))) a_nil)) (a_cons (x_lst (a_cons (x_tup (a_cons (x_txt [110, 101, 97, 114]) (a_cons (x_txt [97]) a_nil))) a_nil)) (a_cons (x_lst (a_cons (x_tup (a_cons (x_txt [108, 101, 116, 116, 101, 114, 115]) (a_cons (x_txt [97, 95]) a_nil))) a_nil)) (a_cons (x_lst (a_cons (x_lst (a_cons (x_txt [108, 101, 116, 116, 101, 114, 115]) (a_cons (x_txt [97]) a_nil))) a_nil)) (a_cons (x_tup (a_cons (x_tup (a_cons (x_txt [108, 101, 116, 116, 101, 114, 115]) (a_cons (x_txt [97]) a_nil))) a_nil)) a_nil)))))) (s_for (_) (fun (d : PyData) => d) (fun pre_ δ => ∃ s1 s3 s4 s5 s6 s7 s8 s9 s10 s11 s12 s13 s14, δ = [.scr ns, s1, .dat (.int more), s3, s4, s5, s6, s7, s8, s9, s10, s11, s12, s13, s14]) cd (i_list (x_is (x_op op_cat (od_catL (by decide)) (x_ty cx call_list_of cd_listT Z.b_list (by decide +kernel) (a_cons (x_var 9 cx rfl) a_nil)) (x_lst (a_cons (x_op op_rep (od_repL (by decide) (by decide) (by decide)) (x_lst (a_cons (x_tup (a_cons (x_txt [104, 101, 97, 100]) (a_cons (x_txt [97]) a_nil))) a_nil)) x_int) (a_cons x_none (a_cons (x_lst (a_cons x_none a_nil)) (a_cons (x_lst (a_cons (x_tup (a_cons (x_txt [116, 97, 105, 108]) (a_cons x_int a_nil))) a_nil)) (a_cons (x_lst (a_cons (x_tup (a_cons (x_txt [112, 105, 101, 99, 101]) (a_cons (x_txt [97]) (a_cons x_int a_nil)))) a_nil)) a_nil))))))) (map_self _))) (g_name 4 cd) ?_ ?_ ?_))
        · exact ⟨_, _, _, _, _, _, _, _, _, _, _, _, _, rfl⟩
        · intro pre3 d post3 δ3 hx3 hI3
          obtain ⟨s1, s3, s4, s5, s6, s7, s8, s9, s10, s11, s12, s13, s14, rfl⟩ := hI3
          have hall : ∀ d ∈ ([.list [.tuple [tx kLet, tx []]], .list [.tuple [tx [110, 101, 97, 114], tx [97]]], .list [.tuple [tx kLet, tx [97, 95]]], .list [.list [tx kLet, tx [97]]], .tuple [.tuple [tx kLet, tx [97]]]] ++ [.list (List.replicate (5 : Int).toNat [PyData.tuple [tx kHead, tx [97]]]).flatten, .none, .list [.none], .list [.tuple [tx kTail, .int 5]], .list [.tuple [tx kPie, tx [97], .int 1]]] : List PyData), (okWsB d && !areWd d) = true := by decide +kernel
          have hd := hall d (by
            have hm : d ∈ pre3 ++ d :: post3 := by simp
            rw [← hx3] at hm
            exact hm)
          refine ⟨_, tg_name, ?_⟩
          refine (s_when (c_cmp (op_neD hr.units) (od_neD (lay_words (by decide +kernel)) (lay_words (by decide +kernel))) (x_told (k := 10) cx co (p_told Z) Z.tb_law Z.hm_law Z.hu_law (hr.mono (by omega)) (told_w (l := wBadText) Z.w_BadText rfl rfl) (fun A outer s H E f c' cy ty hy => (x_callR cy ty (p_written Z) (hy.mono (by omega)) (a_cons (x_var 4 cy rfl) a_nil) (R_written_er hd)))) (x_txt [66, 97, 100, 84, 101, 120, 116])) (fun hc1 => (s_ret x_bool ?_)) (fun hc1 => (s_nil ?_)))
          · exact absurd hc1 (by decide)
          · exact ⟨_, _, _, _, _, _, _, _, _, _, _, _, _, rfl⟩
        · intro δ3 hI3
          obtain ⟨s1, s3, s4, s5, s6, s7, s8, s9, s10, s11, s12, s13, s14, rfl⟩ := hI3
          refine (s_nil ?_)
          exact ⟨_, _, _, _, _, _, _, _, _, _, _, _, _, rfl⟩
    · intro δ1 hI1
      obtain ⟨s1, s3, s4, s5, s6, s7, s8, s9, s10, s11, s12, s13, s14, rfl⟩ := hI1
      refine (s_for (_) (fun (d : PyData) => d) (fun pre_ δ => ∃ s1 s3 s4 s5 s6 s7 s8 s9 s10 s11 s12 s13 s14, δ = [.scr ns, s1, .dat (.int more), s3, s4, s5, s6, s7, s8, s9, s10, s11, s12, s13, s14]) cd (i_list (x_is (x_lst (a_cons (x_txt [32]) (a_cons (x_txt [97, 32]) (a_cons (x_txt [32, 97]) (a_cons (x_txt [97, 32, 32, 98]) (a_cons (x_txt [39]) (a_cons (x_txt [94]) (a_cons (x_txt [33]) (a_cons (x_txt [36]) (a_cons (x_txt [94, 97, 36]) (a_cons (x_txt [39, 97, 36]) (a_cons (x_txt [33, 33, 97]) (a_cons (x_txt [97, 32, 98, 32, 99, 32, 100, 32, 101]) (a_cons x_none (a_cons x_int (a_cons (x_lst (a_cons (x_txt [97]) a_nil)) a_nil)))))))))))))))) (map_self _))) (g_name 4 cd) ?_ ?_ ?_)
      · exact ⟨_, _, _, _, _, _, _, _, _, _, _, _, _, rfl⟩
      · intro pre4 d post4 δ4 hx4 hI4
        obtain ⟨s1, s3, s4, s5, s6, s7, s8, s9, s10, s11, s12, s13, s14, rfl⟩ := hI4
        have hall : ∀ d ∈ ([tx [32], tx [97, 32], tx [32, 97], tx [97, 32, 32, 98], tx [39], tx [94], tx [33], tx [36], tx [94, 97, 36], tx [39, 97, 36], tx [33, 33, 97], tx [97, 32, 98, 32, 99, 32, 100, 32, 101], .none, .int 5, .list [tx [97]]] : List PyData), wsBad d = true := by decide +kernel
        have hd := hall d (by
          have hm : d ∈ pre4 ++ d :: post4 := by simp
          rw [← hx4] at hm
          exact hm)
        refine ⟨_, tg_name, ?_⟩
        refine (s_when (c_cmp (op_neD hr.units) (od_neD (lay_words (by decide +kernel)) (lay_words (by decide +kernel))) (x_told (k := 10) cx co (p_told Z) Z.tb_law Z.hm_law Z.hu_law (hr.mono (by omega)) (told_w (l := wBadText) Z.w_BadText rfl rfl) (fun A outer s H E f c' cy ty hy => (x_callR cy ty (p_words_of Z) (hy.mono (by omega)) (a_cons (x_var 4 cy rfl) a_nil) (R_words_er hd)))) (x_txt [66, 97, 100, 84, 101, 120, 116])) (fun hc1 => (s_ret x_bool ?_)) (fun hc1 => (s_nil ?_)))
        · exact absurd hc1 (by decide)
        · exact ⟨_, _, _, _, _, _, _, _, _, _, _, _, _, rfl⟩
      · intro δ4 hI4
        obtain ⟨s1, s3, s4, s5, s6, s7, s8, s9, s10, s11, s12, s13, s14, rfl⟩ := hI4
        have hw0 : Except.ok (PyData.list []) = wsD c7 (tx []) := (wsD_wtx (ws := []) (by decide) (fun w h => by cases h)).symm
        have hw1 : (Except.ok (tx []) : Res) = if areWd (.list []) = true then .ok (tx (wtx (wordsL (.list [])))) else .error c7 := rfl
        refine (s_when (PW.pt (w_or (c_cmp (op_neD hr.units) (od_neD lay_emp lay_emp) (x_call cx (p_words_of Z) (hr.mono (by omega)) (a_cons (x_txt []) a_nil) ⟨_, rfl, okd_tx (by decide), hw0⟩) (x_lst a_nil)) fun hb => (w_one (c_cmp op_ne od_neS (x_call cx (p_written Z) (hr.mono (by omega)) (a_cons (x_lst a_nil) a_nil) ⟨_, rfl, okWs_of (by decide), hw1⟩) (x_txt []))))) (fun hc1 => (s_ret x_bool ?_)) (fun hc1 => (s_nil ?_)))
        · exact absurd hc1 (by decide)
        · exact ⟨_, _, _, _, _, _, _, _, _, _, _, _, _, _, rfl⟩
  · intro δ' hI
    obtain ⟨s1, s2, s3, s4, s5, s6, s7, s8, s9, s10, s11, s12, s13, s14, rfl⟩ := hI
    refine (s_ret x_bool ?_)
    rfl
end
theorem all_mk {l : PySem.W.OpenLaw} {w : World} {K : PySem.W.Frag} {h : Heap} {mg : Str → Option Value} {fa c0 c1 c2 c3 c4 c5 c6 c7 cS cL PL : Addr} (X : K.In h) (N : h.Ns mainGlobals mg) (hfa : mg "law" = some (.ref fa)) 
    {f_law : Addr} {od_law an_law : Option Addr} {sl_law : Array (Option Value)} {oc_law kV_law dc_law pm_law ct_law : Value}
    (a_law : PySem.W.nsIn K mainGlobals "law" = some (some (.ref f_law))) (l_law : K.lookup f_law = some ⟨oc_law, od_law, .func (PySem.W.fnOf "law" "law" (defArgs st_law) (defBody st_law) (defScope st_law) .none kV_law dc_law pm_law an_law (.ref cL) ct_law), sl_law⟩) (q_law : PySem.W.codeIn K (.ref cL) "law" = true)
    {f_is_ask : Addr} {od_is_ask an_is_ask : Option Addr} {sl_is_ask : Array (Option Value)} {oc_is_ask kV_is_ask dc_is_ask pm_is_ask cd_is_ask ct_is_ask : Value}
    (a_is_ask : PySem.W.nsIn K mainGlobals "is_ask" = some (some (.ref f_is_ask))) (l_is_ask : K.lookup f_is_ask = some ⟨oc_is_ask, od_is_ask, .func (PySem.W.fnOf "is_ask" "is_ask" (defArgs st_is_ask) (defBody st_is_ask) (defScope st_is_ask) .none kV_is_ask dc_is_ask pm_is_ask an_is_ask cd_is_ask ct_is_ask), sl_is_ask⟩) (q_is_ask : PySem.W.codeIn K cd_is_ask "is_ask" = true)
    (k_is_ask : PySem.W.keepIn K (.ref f_is_ask) = true)
    {f_word_in : Addr} {od_word_in an_word_in : Option Addr} {sl_word_in : Array (Option Value)} {oc_word_in kV_word_in dc_word_in pm_word_in cd_word_in ct_word_in : Value}
    (a_word_in : PySem.W.nsIn K mainGlobals "word_in" = some (some (.ref f_word_in))) (l_word_in : K.lookup f_word_in = some ⟨oc_word_in, od_word_in, .func (PySem.W.fnOf "word_in" "word_in" (defArgs st_word_in) (defBody st_word_in) (defScope st_word_in) .none kV_word_in dc_word_in pm_word_in an_word_in cd_word_in ct_word_in), sl_word_in⟩) (q_word_in : PySem.W.codeIn K cd_word_in "word_in" = true)
    (k_word_in : PySem.W.keepIn K (.ref f_word_in) = true)
    {f_words_of : Addr} {od_words_of an_words_of : Option Addr} {sl_words_of : Array (Option Value)} {oc_words_of kV_words_of dc_words_of pm_words_of cd_words_of ct_words_of : Value}
    (a_words_of : PySem.W.nsIn K mainGlobals "words_of" = some (some (.ref f_words_of))) (l_words_of : K.lookup f_words_of = some ⟨oc_words_of, od_words_of, .func (PySem.W.fnOf "words_of" "words_of" (defArgs st_words_of) (defBody st_words_of) (defScope st_words_of) .none kV_words_of dc_words_of pm_words_of an_words_of cd_words_of ct_words_of), sl_words_of⟩) (q_words_of : PySem.W.codeIn K cd_words_of "words_of" = true)
    (k_words_of : PySem.W.keepIn K (.ref f_words_of) = true)
    {f_are_words : Addr} {od_are_words an_are_words : Option Addr} {sl_are_words : Array (Option Value)} {oc_are_words kV_are_words dc_are_words pm_are_words cd_are_words ct_are_words : Value}
    (a_are_words : PySem.W.nsIn K mainGlobals "are_words" = some (some (.ref f_are_words))) (l_are_words : K.lookup f_are_words = some ⟨oc_are_words, od_are_words, .func (PySem.W.fnOf "are_words" "are_words" (defArgs st_are_words) (defBody st_are_words) (defScope st_are_words) .none kV_are_words dc_are_words pm_are_words an_are_words cd_are_words ct_are_words), sl_are_words⟩) (q_are_words : PySem.W.codeIn K cd_are_words "are_words" = true)
    (k_are_words : PySem.W.keepIn K (.ref f_are_words) = true)
    {f_need_words : Addr} {od_need_words an_need_words : Option Addr} {sl_need_words : Array (Option Value)} {oc_need_words kV_need_words dc_need_words pm_need_words cd_need_words ct_need_words : Value}
    (a_need_words : PySem.W.nsIn K mainGlobals "need_words" = some (some (.ref f_need_words))) (l_need_words : K.lookup f_need_words = some ⟨oc_need_words, od_need_words, .func (PySem.W.fnOf "need_words" "need_words" (defArgs st_need_words) (defBody st_need_words) (defScope st_need_words) .none kV_need_words dc_need_words pm_need_words an_need_words cd_need_words ct_need_words), sl_need_words⟩) (q_need_words : PySem.W.codeIn K cd_need_words "need_words" = true)
    (k_need_words : PySem.W.keepIn K (.ref f_need_words) = true)
    {f_word_text : Addr} {od_word_text an_word_text : Option Addr} {sl_word_text : Array (Option Value)} {oc_word_text kV_word_text dc_word_text pm_word_text cd_word_text ct_word_text : Value}
    (a_word_text : PySem.W.nsIn K mainGlobals "word_text" = some (some (.ref f_word_text))) (l_word_text : K.lookup f_word_text = some ⟨oc_word_text, od_word_text, .func (PySem.W.fnOf "word_text" "word_text" (defArgs st_word_text) (defBody st_word_text) (defScope st_word_text) .none kV_word_text dc_word_text pm_word_text an_word_text cd_word_text ct_word_text), sl_word_text⟩) (q_word_text : PySem.W.codeIn K cd_word_text "word_text" = true)
    (k_word_text : PySem.W.keepIn K (.ref f_word_text) = true)
    {f_written : Addr} {od_written an_written : Option Addr} {sl_written : Array (Option Value)} {oc_written kV_written dc_written pm_written cd_written ct_written : Value}
    (a_written : PySem.W.nsIn K mainGlobals "written" = some (some (.ref f_written))) (l_written : K.lookup f_written = some ⟨oc_written, od_written, .func (PySem.W.fnOf "written" "written" (defArgs st_written) (defBody st_written) (defScope st_written) .none kV_written dc_written pm_written an_written cd_written ct_written), sl_written⟩) (q_written : PySem.W.codeIn K cd_written "written" = true)
    (k_written : PySem.W.keepIn K (.ref f_written) = true)
    {f_law_cell : Addr} {od_law_cell an_law_cell : Option Addr} {sl_law_cell : Array (Option Value)} {oc_law_cell kV_law_cell dc_law_cell pm_law_cell cd_law_cell ct_law_cell : Value}
    (a_law_cell : PySem.W.nsIn K mainGlobals "_law_cell" = some (some (.ref f_law_cell))) (l_law_cell : K.lookup f_law_cell = some ⟨oc_law_cell, od_law_cell, .func (PySem.W.fnOf "_law_cell" "_law_cell" (defArgs st_law_cell) (defBody st_law_cell) (defScope st_law_cell) .none kV_law_cell dc_law_cell pm_law_cell an_law_cell cd_law_cell ct_law_cell), sl_law_cell⟩) (q_law_cell : PySem.W.codeIn K cd_law_cell "_law_cell" = true)
    (k_law_cell : PySem.W.keepIn K (.ref f_law_cell) = true)
    {f_law_drawn : Addr} {od_law_drawn an_law_drawn : Option Addr} {sl_law_drawn : Array (Option Value)} {oc_law_drawn kV_law_drawn dc_law_drawn pm_law_drawn cd_law_drawn ct_law_drawn : Value}
    (a_law_drawn : PySem.W.nsIn K mainGlobals "_law_drawn" = some (some (.ref f_law_drawn))) (l_law_drawn : K.lookup f_law_drawn = some ⟨oc_law_drawn, od_law_drawn, .func (PySem.W.fnOf "_law_drawn" "_law_drawn" (defArgs st_law_drawn) (defBody st_law_drawn) (defScope st_law_drawn) .none kV_law_drawn dc_law_drawn pm_law_drawn an_law_drawn cd_law_drawn ct_law_drawn), sl_law_drawn⟩) (q_law_drawn : PySem.W.codeIn K cd_law_drawn "_law_drawn" = true)
    (k_law_drawn : PySem.W.keepIn K (.ref f_law_drawn) = true)
    {f_law_word : Addr} {od_law_word an_law_word : Option Addr} {sl_law_word : Array (Option Value)} {oc_law_word kV_law_word dc_law_word pm_law_word cd_law_word ct_law_word : Value}
    (a_law_word : PySem.W.nsIn K mainGlobals "_law_word" = some (some (.ref f_law_word))) (l_law_word : K.lookup f_law_word = some ⟨oc_law_word, od_law_word, .func (PySem.W.fnOf "_law_word" "_law_word" (defArgs st_law_word) (defBody st_law_word) (defScope st_law_word) .none kV_law_word dc_law_word pm_law_word an_law_word cd_law_word ct_law_word), sl_law_word⟩) (q_law_word : PySem.W.codeIn K cd_law_word "_law_word" = true)
    (k_law_word : PySem.W.keepIn K (.ref f_law_word) = true)
    {f_law_told : Addr} {od_law_told an_law_told : Option Addr} {sl_law_told : Array (Option Value)} {oc_law_told kV_law_told dc_law_told pm_law_told cd_law_told ct_law_told : Value}
    (a_law_told : PySem.W.nsIn K mainGlobals "_law_told" = some (some (.ref f_law_told))) (l_law_told : K.lookup f_law_told = some ⟨oc_law_told, od_law_told, .func (PySem.W.fnOf "_law_told" "_law_told" (defArgs st_law_told) (defBody st_law_told) (defScope st_law_told) .none kV_law_told dc_law_told pm_law_told an_law_told cd_law_told ct_law_told), sl_law_told⟩) (q_law_told : PySem.W.codeIn K cd_law_told "_law_told" = true)
    (k_law_told : PySem.W.keepIn K (.ref f_law_told) = true)
    {f_law_sign : Addr} {od_law_sign an_law_sign : Option Addr} {sl_law_sign : Array (Option Value)} {oc_law_sign kV_law_sign dc_law_sign pm_law_sign cd_law_sign ct_law_sign : Value}
    (a_law_sign : PySem.W.nsIn K mainGlobals "_law_sign" = some (some (.ref f_law_sign))) (l_law_sign : K.lookup f_law_sign = some ⟨oc_law_sign, od_law_sign, .func (PySem.W.fnOf "_law_sign" "_law_sign" (defArgs st_law_sign) (defBody st_law_sign) (defScope st_law_sign) .none kV_law_sign dc_law_sign pm_law_sign an_law_sign cd_law_sign ct_law_sign), sl_law_sign⟩) (q_law_sign : PySem.W.codeIn K cd_law_sign "_law_sign" = true)
    (k_law_sign : PySem.W.keepIn K (.ref f_law_sign) = true)
    {f_law_name : Addr} {od_law_name an_law_name : Option Addr} {sl_law_name : Array (Option Value)} {oc_law_name kV_law_name dc_law_name pm_law_name cd_law_name ct_law_name : Value}
    (a_law_name : PySem.W.nsIn K mainGlobals "_law_name" = some (some (.ref f_law_name))) (l_law_name : K.lookup f_law_name = some ⟨oc_law_name, od_law_name, .func (PySem.W.fnOf "_law_name" "_law_name" (defArgs st_law_name) (defBody st_law_name) (defScope st_law_name) .none kV_law_name dc_law_name pm_law_name an_law_name cd_law_name ct_law_name), sl_law_name⟩) (q_law_name : PySem.W.codeIn K cd_law_name "_law_name" = true)
    (k_law_name : PySem.W.keepIn K (.ref f_law_name) = true)
    {f_law_ask_in : Addr} {od_law_ask_in an_law_ask_in : Option Addr} {sl_law_ask_in : Array (Option Value)} {oc_law_ask_in kV_law_ask_in dc_law_ask_in pm_law_ask_in cd_law_ask_in ct_law_ask_in : Value}
    (a_law_ask_in : PySem.W.nsIn K mainGlobals "_law_ask_in" = some (some (.ref f_law_ask_in))) (l_law_ask_in : K.lookup f_law_ask_in = some ⟨oc_law_ask_in, od_law_ask_in, .func (PySem.W.fnOf "_law_ask_in" "_law_ask_in" (defArgs st_law_ask_in) (defBody st_law_ask_in) (defScope st_law_ask_in) .none kV_law_ask_in dc_law_ask_in pm_law_ask_in an_law_ask_in cd_law_ask_in ct_law_ask_in), sl_law_ask_in⟩) (q_law_ask_in : PySem.W.codeIn K cd_law_ask_in "_law_ask_in" = true)
    (k_law_ask_in : PySem.W.keepIn K (.ref f_law_ask_in) = true)
    {f_law_kind : Addr} {od_law_kind an_law_kind : Option Addr} {sl_law_kind : Array (Option Value)} {oc_law_kind kV_law_kind dc_law_kind pm_law_kind cd_law_kind ct_law_kind : Value}
    (a_law_kind : PySem.W.nsIn K mainGlobals "_law_kind" = some (some (.ref f_law_kind))) (l_law_kind : K.lookup f_law_kind = some ⟨oc_law_kind, od_law_kind, .func (PySem.W.fnOf "_law_kind" "_law_kind" (defArgs st_law_kind) (defBody st_law_kind) (defScope st_law_kind) .none kV_law_kind dc_law_kind pm_law_kind an_law_kind cd_law_kind ct_law_kind), sl_law_kind⟩) (q_law_kind : PySem.W.codeIn K cd_law_kind "_law_kind" = true)
    (k_law_kind : PySem.W.keepIn K (.ref f_law_kind) = true)
    {f_law_wordlist : Addr} {od_law_wordlist an_law_wordlist : Option Addr} {sl_law_wordlist : Array (Option Value)} {oc_law_wordlist kV_law_wordlist dc_law_wordlist pm_law_wordlist cd_law_wordlist ct_law_wordlist : Value}
    (a_law_wordlist : PySem.W.nsIn K mainGlobals "_law_wordlist" = some (some (.ref f_law_wordlist))) (l_law_wordlist : K.lookup f_law_wordlist = some ⟨oc_law_wordlist, od_law_wordlist, .func (PySem.W.fnOf "_law_wordlist" "_law_wordlist" (defArgs st_law_wordlist) (defBody st_law_wordlist) (defScope st_law_wordlist) .none kV_law_wordlist dc_law_wordlist pm_law_wordlist an_law_wordlist cd_law_wordlist ct_law_wordlist), sl_law_wordlist⟩) (q_law_wordlist : PySem.W.codeIn K cd_law_wordlist "_law_wordlist" = true)
    (k_law_wordlist : PySem.W.keepIn K (.ref f_law_wordlist) = true)
    {f_law_text_of : Addr} {od_law_text_of an_law_text_of : Option Addr} {sl_law_text_of : Array (Option Value)} {oc_law_text_of kV_law_text_of dc_law_text_of pm_law_text_of cd_law_text_of ct_law_text_of : Value}
    (a_law_text_of : PySem.W.nsIn K mainGlobals "_law_text_of" = some (some (.ref f_law_text_of))) (l_law_text_of : K.lookup f_law_text_of = some ⟨oc_law_text_of, od_law_text_of, .func (PySem.W.fnOf "_law_text_of" "_law_text_of" (defArgs st_law_text_of) (defBody st_law_text_of) (defScope st_law_text_of) .none kV_law_text_of dc_law_text_of pm_law_text_of an_law_text_of cd_law_text_of ct_law_text_of), sl_law_text_of⟩) (q_law_text_of : PySem.W.codeIn K cd_law_text_of "_law_text_of" = true)
    (k_law_text_of : PySem.W.keepIn K (.ref f_law_text_of) = true)
    {f_law_tells : Addr} {od_law_tells an_law_tells : Option Addr} {sl_law_tells : Array (Option Value)} {oc_law_tells kV_law_tells dc_law_tells pm_law_tells cd_law_tells ct_law_tells : Value}
    (a_law_tells : PySem.W.nsIn K mainGlobals "_law_tells" = some (some (.ref f_law_tells))) (l_law_tells : K.lookup f_law_tells = some ⟨oc_law_tells, od_law_tells, .func (PySem.W.fnOf "_law_tells" "_law_tells" (defArgs st_law_tells) (defBody st_law_tells) (defScope st_law_tells) .none kV_law_tells dc_law_tells pm_law_tells an_law_tells cd_law_tells ct_law_tells), sl_law_tells⟩) (q_law_tells : PySem.W.codeIn K cd_law_tells "_law_tells" = true)
    (k_law_tells : PySem.W.keepIn K (.ref f_law_tells) = true)
    {eC_law : Value} {dC_law : Option Addr} {vC_law : Array Value} {sC_law : Array (Option Value)} (lC_law : K.lookup cL = some ⟨eC_law, dC_law, .fields vC_law, sC_law⟩) (lP_law : vC_law[11]? = some (.ref PL)) (nP_law : K.lookup PL = none) (hC_law : PySem.W.codeHdIn K cL PL = true) (hP_law : h.get? PL = some { cls := .none, data := .fields #[] })
    {t_SMALL : Tok} (c_SMALL : PySem.W.nsIn K mainGlobals "SMALL" = some (some (.str ⟨lSmall.toArray⟩ t_SMALL)))
    {t_GREAT : Tok} (c_GREAT : PySem.W.nsIn K mainGlobals "GREAT" = some (some (.str ⟨lGreat.toArray⟩ t_GREAT)))
    {t_FIGURES : Tok} (c_FIGURES : PySem.W.nsIn K mainGlobals "FIGURES" = some (some (.str ⟨lFig.toArray⟩ t_FIGURES)))
    {t_MOST_ASK : Tok} (c_MOST_ASK : PySem.W.nsIn K mainGlobals "MOST_ASK" = some (some (.int 8 t_MOST_ASK)))
    {t_MOST_WORDS : Tok} (c_MOST_WORDS : PySem.W.nsIn K mainGlobals "MOST_WORDS" = some (some (.int 4 t_MOST_WORDS)))
    {aD_SIGNS : Addr} {esD_SIGNS : Array DictEntry} {nD_SIGNS : Nat} (c_SIGNS : PySem.W.nsIn K mainGlobals "SIGNS" = some (some (.ref aD_SIGNS))) (lD_SIGNS : K.lookup aD_SIGNS = some ⟨.type "dict", none, .dict esD_SIGNS nD_SIGNS, #[]⟩) (kD_SIGNS : PySem.W.KeysLit w.params esD_SIGNS.toList) (oD_SIGNS : (aD_SIGNS == sysModules) = false) (tD_SIGNS : dTab esD_SIGNS.toList = some signsT)
    {aD_AHEAD : Addr} {esD_AHEAD : Array DictEntry} {nD_AHEAD : Nat} (c_AHEAD : PySem.W.nsIn K mainGlobals "AHEAD" = some (some (.ref aD_AHEAD))) (lD_AHEAD : K.lookup aD_AHEAD = some ⟨.type "dict", none, .dict esD_AHEAD nD_AHEAD, #[]⟩) (kD_AHEAD : PySem.W.KeysLit w.params esD_AHEAD.toList) (oD_AHEAD : (aD_AHEAD == sysModules) = false) (tD_AHEAD : dTab esD_AHEAD.toList = some aheadT)
    (b_all : PySem.W.nsIn K mainGlobals "all" = some none)
    (b_isinstance : PySem.W.nsIn K mainGlobals "isinstance" = some none)
    (b_str : PySem.W.nsIn K mainGlobals "str" = some none)
    (b_len : PySem.W.nsIn K mainGlobals "len" = some none)
    (b_list : PySem.W.nsIn K mainGlobals "list" = some none)
    (b_tuple : PySem.W.nsIn K mainGlobals "tuple" = some none)
    (b_sum : PySem.W.nsIn K mainGlobals "sum" = some none)
    (b_ValueError : PySem.W.nsIn K mainGlobals "ValueError" = some none)
    (b_int : PySem.W.nsIn K mainGlobals "int" = some none)
    (b_range : PySem.W.nsIn K mainGlobals "range" = some none)
    (b_max : PySem.W.nsIn K mainGlobals "max" = some none)
    (b_min : PySem.W.nsIn K mainGlobals "min" = some none)
    (g_BadName : PySem.W.nsIn K mainGlobals "BadName" = some (some (.ref c0)))
    (g_BadAsk : PySem.W.nsIn K mainGlobals "BadAsk" = some (some (.ref c1)))
    (g_BadMarks : PySem.W.nsIn K mainGlobals "BadMarks" = some (some (.ref c2)))
    (g_BadPlaces : PySem.W.nsIn K mainGlobals "BadPlaces" = some (some (.ref c3)))
    (g_BadNumber : PySem.W.nsIn K mainGlobals "BadNumber" = some (some (.ref c4)))
    (g_NoName : PySem.W.nsIn K mainGlobals "NoName" = some (some (.ref c5)))
    (g_Nothing : PySem.W.nsIn K mainGlobals "Nothing" = some (some (.ref c6)))
    (g_BadText : PySem.W.nsIn K mainGlobals "BadText" = some (some (.ref c7)))
    (g_FindError : PySem.W.nsIn K mainGlobals "FindError" = some (some (.ref cS)))
    (w_BadText : ewB K [c0, c1, c2, c3, c4, c5, c6, c7] cS c7 7 = true)
    : LawAtS l w K (L2N.CX l.prog w) 20 63 "script" mg fa h := by
  have e := hfa.symm.trans (PySem.W.mg_of X N a_law)
  cases e
  refine ⟨PySem.W.fnOf "law" "law" (defArgs st_law) (defBody st_law) (defScope st_law) .none kV_law dc_law pm_law an_law (.ref cL) ct_law, [(cL, PL)], spLaw [(PL, ("law" : Str) ++ ".<locals>." ++ "<lambda>")] K (fun ns => ns.length ≤ 63), fun p hp => ?_, fun p hp => ?_, fun p hp => ?_, fun s u => .of_eq rfl, fun H a ns hl hb ht hs => ?_, fun base kin bns tb => ?_⟩
  · cases List.mem_singleton.mp hp
    exact hP_law
  · cases List.mem_singleton.mp hp
    exact nP_law
  · cases List.mem_singleton.mp hp
    exact PySem.W.codeHd_of_K X hC_law
  · exact ⟨a, ns, rfl, hs, (tabs_cons (ht (cL, PL) (by simp)) tabs_nil), hl, fun _ => rfl⟩
  · have Z : Tx ⟨l.prog, w, K, mg, base⟩ [(PL, ("law" : Str) ++ ".<locals>." ++ "<lambda>")] c0 c1 c2 c3 c4 c5 c6 c7 cS cL PL :=
      { c_SMALL := ⟨_, PySem.W.mg_of X N c_SMALL⟩
        c_GREAT := ⟨_, PySem.W.mg_of X N c_GREAT⟩
        c_FIGURES := ⟨_, PySem.W.mg_of X N c_FIGURES⟩
        c_MOST_ASK := ⟨_, PySem.W.mg_of X N c_MOST_ASK⟩
        c_MOST_WORDS := ⟨_, PySem.W.mg_of X N c_MOST_WORDS⟩
        c_SIGNS := kds_mk X N c_SIGNS lD_SIGNS kD_SIGNS oD_SIGNS tD_SIGNS
        c_AHEAD := kds_mk X N c_AHEAD lD_AHEAD kD_AHEAD oD_AHEAD tD_AHEAD
        b_all := PySem.W.mg_none_of X N b_all
        b_isinstance := PySem.W.mg_none_of X N b_isinstance
        b_str := PySem.W.mg_none_of X N b_str
        b_len := PySem.W.mg_none_of X N b_len
        b_list := PySem.W.mg_none_of X N b_list
        b_tuple := PySem.W.mg_none_of X N b_tuple
        b_sum := PySem.W.mg_none_of X N b_sum
        b_ValueError := PySem.W.mg_none_of X N b_ValueError
        b_int := PySem.W.mg_none_of X N b_int
        b_range := PySem.W.mg_none_of X N b_range
        b_max := PySem.W.mg_none_of X N b_max
        b_min := PySem.W.mg_none_of X N b_min
        d_is_ask := df_mk X N a_is_ask l_is_ask q_is_ask k_is_ask fun fd F => F.binds (ps := ["thing"]) fun _ _ _ _ _ _ us hl => match us, hl with | [_], _ => rfl
        d_word_in := df_mk X N a_word_in l_word_in q_word_in k_word_in fun fd F => F.binds (ps := ["text"]) fun _ _ _ _ _ _ us hl => match us, hl with | [_], _ => rfl
        d_words_of := df_mk X N a_words_of l_words_of q_words_of k_words_of fun fd F => F.binds (ps := ["text"]) fun _ _ _ _ _ _ us hl => match us, hl with | [_], _ => rfl
        d_are_words := df_mk X N a_are_words l_are_words q_are_words k_are_words fun fd F => F.binds (ps := ["thing"]) fun _ _ _ _ _ _ us hl => match us, hl with | [_], _ => rfl
        d_need_words := df_mk X N a_need_words l_need_words q_need_words k_need_words fun fd F => F.binds (ps := ["words"]) fun _ _ _ _ _ _ us hl => match us, hl with | [_], _ => rfl
        d_word_text := df_mk X N a_word_text l_word_text q_word_text k_word_text fun fd F => F.binds (ps := ["word"]) fun _ _ _ _ _ _ us hl => match us, hl with | [_], _ => rfl
        d_written := df_mk X N a_written l_written q_written k_written fun fd F => F.binds (ps := ["words"]) fun _ _ _ _ _ _ us hl => match us, hl with | [_], _ => rfl
        d_law_cell := df_mk X N a_law_cell l_law_cell q_law_cell k_law_cell fun fd F => F.binds (ps := ["script", "k"]) fun _ _ _ _ _ _ us hl => match us, hl with | [_, _], _ => rfl
        d_law_drawn := df_mk X N a_law_drawn l_law_drawn q_law_drawn k_law_drawn fun fd F => F.binds (ps := ["cell", "k"]) fun _ _ _ _ _ _ us hl => match us, hl with | [_, _], _ => rfl
        d_law_word := df_mk X N a_law_word l_law_word q_law_word k_law_word fun fd F => F.binds (ps := ["e"]) fun _ _ _ _ _ _ us hl => match us, hl with | [_], _ => rfl
        d_law_told := df_mk X N a_law_told l_law_told q_law_told k_law_told fun fd F => F.binds (ps := ["deed"]) fun _ _ _ _ _ _ us hl => match us, hl with | [_], _ => rfl
        d_law_sign := df_mk X N a_law_sign l_law_sign q_law_sign k_law_sign fun fd F => F.binds (ps := ["more"]) fun _ _ _ _ _ _ us hl => match us, hl with | [_], _ => rfl
        d_law_name := df_mk X N a_law_name l_law_name q_law_name k_law_name fun fd F => F.binds (ps := ["more", "most"]) fun _ _ _ _ _ _ us hl => match us, hl with | [_, _], _ => rfl
        d_law_ask_in := df_mk X N a_law_ask_in l_law_ask_in q_law_ask_in k_law_ask_in fun fd F => F.binds (ps := ["more", "name", "most"]) fun _ _ _ _ _ _ us hl => match us, hl with | [_, _, _], _ => rfl
        d_law_kind := df_mk X N a_law_kind l_law_kind q_law_kind k_law_kind fun fd F => F.binds (ps := ["sign"]) fun _ _ _ _ _ _ us hl => match us, hl with | [_], _ => rfl
        d_law_wordlist := df_mk X N a_law_wordlist l_law_wordlist q_law_wordlist k_law_wordlist fun fd F => F.binds (ps := ["more", "name"]) fun _ _ _ _ _ _ us hl => match us, hl with | [_, _], _ => rfl
        d_law_text_of := df_mk X N a_law_text_of l_law_text_of q_law_text_of k_law_text_of fun fd F => F.binds (ps := ["words_here"]) fun _ _ _ _ _ _ us hl => match us, hl with | [_], _ => rfl
        d_law_tells := df_mk X N a_law_tells l_law_tells q_law_tells k_law_tells fun fd F => F.binds (ps := ["text"]) fun _ _ _ _ _ _ us hl => match us, hl with | [_], _ => rfl
        g_BadName := PySem.W.mg_of X N g_BadName
        g_BadAsk := PySem.W.mg_of X N g_BadAsk
        g_BadMarks := PySem.W.mg_of X N g_BadMarks
        g_BadPlaces := PySem.W.mg_of X N g_BadPlaces
        g_BadNumber := PySem.W.mg_of X N g_BadNumber
        g_NoName := PySem.W.mg_of X N g_NoName
        g_Nothing := PySem.W.mg_of X N g_Nothing
        g_BadText := PySem.W.mg_of X N g_BadText
        g_FindError := PySem.W.mg_of X N g_FindError
        w_BadText := ew_of w_BadText
        tb_law := tb (cL, PL) (by simp)
        hm_law := by simp
        hu_law := fun p hp _ => by cases List.mem_singleton.mp hp; rfl }
    exact p_law Z l_law q_law
end K60
set_option Elab.async false
set_option linter.all false
open PySem PySem.W PyProof.Rows
set_option maxRecDepth 100000 in
set_option maxHeartbeats 0 in
theorem PySem.Challenge.cw_letterfinds_k60_whole_words_written_holds : PySem.Challenge.rw_letterfinds_k60_whole_words_written.Holds := by
  w_on; o_law; k_head; (case hw => w_witness2)
  k_fill
  refine LamX.walk_ofTs (l := PySem.Challenge.rw_letterfinds_k60_whole_words_written) (n := 63) (k := 20) (x := "script") (CX := fun w => L2N.CX PySem.Challenge.rw_letterfinds_k60_whole_words_written.prog w) rfl (by decide) rfl ⟨rfl, by decide, by decide⟩ (fun w h Y => PySem.W.km_in_of Y) ?F (fun _ _ _ _ _ h => Lf.noCX h)
  case F =>
    intro w mg fa h Y KX G hmg
    refine' K60.all_mk KX G hmg ?a_law ?l_law ?q_law ?a_is_ask ?l_is_ask ?q_is_ask ?k_is_ask ?a_word_in ?l_word_in ?q_word_in ?k_word_in ?a_words_of ?l_words_of ?q_words_of ?k_words_of ?a_are_words ?l_are_words ?q_are_words ?k_are_words ?a_need_words ?l_need_words ?q_need_words ?k_need_words ?a_word_text ?l_word_text ?q_word_text ?k_word_text ?a_written ?l_written ?q_written ?k_written ?a_law_cell ?l_law_cell ?q_law_cell ?k_law_cell ?a_law_drawn ?l_law_drawn ?q_law_drawn ?k_law_drawn ?a_law_word ?l_law_word ?q_law_word ?k_law_word ?a_law_told ?l_law_told ?q_law_told ?k_law_told ?a_law_sign ?l_law_sign ?q_law_sign ?k_law_sign ?a_law_name ?l_law_name ?q_law_name ?k_law_name ?a_law_ask_in ?l_law_ask_in ?q_law_ask_in ?k_law_ask_in ?a_law_kind ?l_law_kind ?q_law_kind ?k_law_kind ?a_law_wordlist ?l_law_wordlist ?q_law_wordlist ?k_law_wordlist ?a_law_text_of ?l_law_text_of ?q_law_text_of ?k_law_text_of ?a_law_tells ?l_law_tells ?q_law_tells ?k_law_tells ?lC_law ?lP_law ?nP_law ?hC_law ?hP_law ?c_SMALL ?c_GREAT ?c_FIGURES ?c_MOST_ASK ?c_MOST_WORDS ?c_SIGNS ?lD_SIGNS ?kD_SIGNS ?oD_SIGNS ?tD_SIGNS ?c_AHEAD ?lD_AHEAD ?kD_AHEAD ?oD_AHEAD ?tD_AHEAD ?b_all ?b_isinstance ?b_str ?b_len ?b_list ?b_tuple ?b_sum ?b_ValueError ?b_int ?b_range ?b_max ?b_min ?g_BadName ?g_BadAsk ?g_BadMarks ?g_BadPlaces ?g_BadNumber ?g_NoName ?g_Nothing ?g_BadText ?g_FindError ?w_BadText
    (case a_law => k_is)
    (case l_law => k_is)
    (case q_law => k_is)
    (case a_is_ask => k_is)
    (case l_is_ask => k_is)
    (case q_is_ask => k_is)
    (case k_is_ask => k_is)
    (case a_word_in => k_is)
    (case l_word_in => k_is)
    (case q_word_in => k_is)
    (case k_word_in => k_is)
    (case a_words_of => k_is)
    (case l_words_of => k_is)
    (case q_words_of => k_is)
    (case k_words_of => k_is)
    (case a_are_words => k_is)
    (case l_are_words => k_is)
    (case q_are_words => k_is)
    (case k_are_words => k_is)
    (case a_need_words => k_is)
    (case l_need_words => k_is)
    (case q_need_words => k_is)
    (case k_need_words => k_is)
    (case a_word_text => k_is)
    (case l_word_text => k_is)
    (case q_word_text => k_is)
    (case k_word_text => k_is)
    (case a_written => k_is)
    (case l_written => k_is)
    (case q_written => k_is)
    (case k_written => k_is)
    (case a_law_cell => k_is)
    (case l_law_cell => k_is)
    (case q_law_cell => k_is)
    (case k_law_cell => k_is)
    (case a_law_drawn => k_is)
    (case l_law_drawn => k_is)
    (case q_law_drawn => k_is)
    (case k_law_drawn => k_is)
    (case a_law_word => k_is)
    (case l_law_word => k_is)
    (case q_law_word => k_is)
    (case k_law_word => k_is)
    (case a_law_told => k_is)
    (case l_law_told => k_is)
    (case q_law_told => k_is)
    (case k_law_told => k_is)
    (case a_law_sign => k_is)
    (case l_law_sign => k_is)
    (case q_law_sign => k_is)
    (case k_law_sign => k_is)
    (case a_law_name => k_is)
    (case l_law_name => k_is)
    (case q_law_name => k_is)
    (case k_law_name => k_is)
    (case a_law_ask_in => k_is)
    (case l_law_ask_in => k_is)
    (case q_law_ask_in => k_is)
    (case k_law_ask_in => k_is)
    (case a_law_kind => k_is)
    (case l_law_kind => k_is)
    (case q_law_kind => k_is)
    (case k_law_kind => k_is)
    (case a_law_wordlist => k_is)
    (case l_law_wordlist => k_is)
    (case q_law_wordlist => k_is)
    (case k_law_wordlist => k_is)
    (case a_law_text_of => k_is)
    (case l_law_text_of => k_is)
    (case q_law_text_of => k_is)
    (case k_law_text_of => k_is)
    (case a_law_tells => k_is)
    (case l_law_tells => k_is)
    (case q_law_tells => k_is)
    (case k_law_tells => k_is)
    (case lC_law => k_is)
    (case lP_law => rfl)
    (case nP_law => kernel_rfl)
    (case hC_law => kernel_rfl)
    (case hP_law => exact PySem.W.km_tabs_of Y _ (by decide))
    (case c_SMALL => k_is)
    (case c_GREAT => k_is)
    (case c_FIGURES => k_is)
    (case c_MOST_ASK => k_is)
    (case c_MOST_WORDS => k_is)
    (case c_SIGNS => k_is)
    (case lD_SIGNS => k_is)
    (case kD_SIGNS => exact ⟨⟨_, _, rfl, rfl⟩, ⟨_, _, rfl, rfl⟩, ⟨_, _, rfl, rfl⟩,  trivial⟩)
    (case oD_SIGNS => rfl)
    (case tD_SIGNS => rfl)
    (case c_AHEAD => k_is)
    (case lD_AHEAD => k_is)
    (case kD_AHEAD => exact ⟨⟨_, _, rfl, rfl⟩, ⟨_, _, rfl, rfl⟩, ⟨_, _, rfl, rfl⟩,  trivial⟩)
    (case oD_AHEAD => rfl)
    (case tD_AHEAD => rfl)
    (case b_all => k_is)
    (case b_isinstance => k_is)
    (case b_str => k_is)
    (case b_len => k_is)
    (case b_list => k_is)
    (case b_tuple => k_is)
    (case b_sum => k_is)
    (case b_ValueError => k_is)
    (case b_int => k_is)
    (case b_range => k_is)
    (case b_max => k_is)
    (case b_min => k_is)
    (case g_BadName => k_is)
    (case g_BadAsk => k_is)
    (case g_BadMarks => k_is)
    (case g_BadPlaces => k_is)
    (case g_BadNumber => k_is)
    (case g_NoName => k_is)
    (case g_Nothing => k_is)
    (case g_BadText => k_is)
    (case g_FindError => k_is)
    (case w_BadText => kernel_rfl)
