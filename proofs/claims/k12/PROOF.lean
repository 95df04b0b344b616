import PyProof.Rows.All
import Wide.All
import OpenK.AllK
import Wide.FinOn
import HandS.ForMost
import HandS.Walk
import HandS.Deep
import HandS.HeadHook1
import HandS.Style
import HandS.TupAny
import HandS.Wide
import HandS.SortInts
import HandS.IsInst
import HandS.Defaults
import HandS.HeadHook2
import HandS.Zip
import HandS.Set
import HandS.SetFor
import HandS.Strs
import HandS.TupSets
import HandS.Keys
import KE.SortData
import PySem.Challenge.RW_nagchain_k12_whole_way
import KE.KStateDown
import HandS.Exc
import HandS.More
import HandS.Head0
import HandS.Head1
import HandS.Head2
import HandS.HeadEnd
set_option Elab.async false
set_option linter.all false
set_option maxRecDepth 100000
/-! What a def computes, as a plain function: values as trees, lists that change as entries of a store. -/
namespace Nc
open PySem PySem.Spec PyProof.Rows L2

/-- a value: data (true: it may lean on what the caller handed in), the i-th object of the store, or the law's script itself -/
inductive OV where
  | dat (b : Bool) (d : PyData)
  | own (i : Nat)
  | scr (ns : List Int)
/-- an object that may change -/
inductive OO where
  | lst (vs : List OV)
  | tup (vs : List OV)
  | ins (c : Str) (fs : List (Str × OV))
  | dct (fs : List (Str × OV))
abbrev Env := List (Option OV)
abbrev Sto := List OO
/-- the heap at the entry of the outermost reading, what of it the arguments lean on -/
structure Gd where
  Hi : Hp
  F0 : Hp
  av : List Addr
def Gd.add (g : Gd) (p : Addr) : Gd := { g with av := p :: g.av }
def tupO : HO → Bool
  | .tup _ => true
  | .frz _ (.tup _) => true
  | _ => false
def Okf (g : Gd) (b : Bool) (F : Hp) : Prop := ∀ a o, F a = some o → tupO o = true ∨ g.Hi a = none ∨ (b = true ∧ g.F0 a ≠ none)
mutual
inductive Dq (F : Hp) : V → PyData → Prop
  | non : Dq F .non .none
  | bl (b : Bool) : Dq F (.bl b) (.bool b)
  | int (i : Int) : Dq F (.int i) (.int i)
  | str (x : Str) : Dq F (.str x) (.str x)
  | lst {a : Addr} {xs : List V} {ds : List PyData} : F a = some (.lst xs) → DqAll F xs ds → Dq F (.ref a) (.list ds)
  | tup {a : Addr} {xs : List V} {ds : List PyData} : F a = some (.tup xs) → DqAll F xs ds → Dq F (.ref a) (.tuple ds)
inductive DqAll (F : Hp) : List V → List PyData → Prop
  | nil : DqAll F [] []
  | cons {v : V} {vs : List V} {d : PyData} {ds : List PyData} : Dq F v d → DqAll F vs ds → DqAll F (v :: vs) (d :: ds)
end
/-- a part of the heap that the store does not touch -/
structure Pt (g : Gd) (H : Hp) (m : List Addr) (F : Hp) : Prop where
  le : Same F H
  no : ∀ p ∈ m, ∀ o, F p = some o → tupO o = true
  av : ∀ p ∈ g.av, F p = none
structure DatAt (g : Gd) (H : Hp) (m : List Addr) (b : Bool) (v : V) (d : PyData) : Prop where
  ex : ∃ F : Hp, Pt g H m F ∧ Okf g b F ∧ Dq F v d
def VR (K : PySem.W.Frag) (g : Gd) (H : Hp) (m : List Addr) : OV → V → Prop
  | .dat b d, v => DatAt g H m b v d
  | .own i, v => ∃ p, m[i]? = some p ∧ v = .ref p
  | .scr ns, v => ∃ (p : Addr) (F : Hp), v = .ref p ∧ Pt g H m F ∧ SqL K F p (ns.map V.int)
abbrev VsR (K : PySem.W.Frag) (g : Gd) (H : Hp) (m : List Addr) : List OV → List V → Prop := Paired (VR K g H m)
abbrev FsR (K : PySem.W.Frag) (g : Gd) (H : Hp) (m : List Addr) : List (Str × OV) → List (Str × V) → Prop := Paired fun a b => a.1 = b.1 ∧ VR K g H m a.2 b.2
def ObA (K : PySem.W.Frag) (g : Gd) (H : Hp) (m : List Addr) : OO → Addr → Prop
  | .lst vs, p => ∃ ws, H p = some (.lst ws) ∧ VsR K g H m vs ws
  | .tup vs, p => ∃ ws, H p = some (.tup ws) ∧ VsR K g H m vs ws
  | .ins c fs, p => ∃ dx ws, H p = some (.ins (He.ga K c) dx ws) ∧ FsR K g H m fs ws
  | .dct fs, p => ∃ ws, H p = some (.dK (ws.map fun (w : Str × V) => ((Sum.inr w.1 : Key), w.2))) ∧ FsR K g H m fs ws
structure Ob (K : PySem.W.Frag) (g : Gd) (H : Hp) (S : Sto) (m : List Addr) : Prop where
  len : m.length = S.length
  nd : m.Nodup
  dom : ∀ a, H a = none → g.Hi a = none
  avt : ∀ p ∈ g.av, ∃ o, H p = some o ∧ tupO o = false
  dis : ∀ p ∈ m, p ∉ g.av
  obj : ∀ (i : Nat) (o : OO) (p : Addr), S[i]? = some o → m[i]? = some p → ObA K g H m o p
/-- from one heap on to a later one: what is not of the store stays -/
structure Go (H : Hp) (m : List Addr) (H' : Hp) (m' : List Addr) : Prop where
  pre : ∃ ms, m' = m ++ ms
  new : ∀ p ∈ m', p ∈ m ∨ H p = none
  keep : ∀ a o, H a = some o → a ∉ m ∨ tupO o = true → H' a = some o
  dom : ∀ a, H' a = none → H a = none
section
variable {K : PySem.W.Frag} {g : Gd} {H H1 H2 H' : Hp} {m m1 m2 m' : List Addr} {S S' : Sto}
theorem Go.refl : Go H m H m := ⟨⟨[], by simp⟩, fun p h => .inl h, fun _ _ h _ => h, fun _ h => h⟩
theorem Go.trans (a : Go H m H1 m1) (b : Go H1 m1 H2 m2) : Go H m H2 m2 := by
  obtain ⟨x, rfl⟩ := a.pre
  obtain ⟨y, rfl⟩ := b.pre
  refine ⟨⟨x ++ y, by simp⟩, fun p h => ?_, fun q o h hq => ?_, fun q h => a.dom q (b.dom q h)⟩
  · rcases b.new p h with h | h
    · exact a.new p h
    · exact .inr (a.dom p h)
  · refine b.keep q o (a.keep q o h hq) ?_
    rcases hq with hq | hq
    · refine .inl fun hm => ?_
      rcases a.new q hm with h1 | h1
      · exact hq h1
      · rw [h] at h1
        cases h1
    · exact .inr hq
mutual
theorem Dq.mono {F F' : Hp} (k : Same F F') : ∀ {v : V} {d : PyData}, Dq F v d → Dq F' v d
  | _, _, .non => .non
  | _, _, .bl b => .bl b
  | _, _, .int i => .int i
  | _, _, .str x => .str x
  | _, _, .lst s a => .lst (k _ _ s) (DqAll.mono k a)
  | _, _, .tup s a => .tup (k _ _ s) (DqAll.mono k a)
theorem DqAll.mono {F F' : Hp} (k : Same F F') : ∀ {vs : List V} {ds : List PyData}, DqAll F vs ds → DqAll F' vs ds
  | _, _, .nil => .nil
  | _, _, .cons a b => .cons (Dq.mono k a) (DqAll.mono k b)
end
mutual
theorem Dq.dp {F : Hp} : ∀ {v : V} {d : PyData}, Dq F v d → Dp K F v d
  | _, _, .non => .non
  | _, _, .bl b => .bl b
  | _, _, .int i => .int i
  | _, _, .str x => .str x
  | _, _, .lst s a => .lst (SqL.of s) (DqAll.dp a)
  | _, _, .tup s a => .tup (SqT.of s) (DqAll.dp a)
theorem DqAll.dp {F : Hp} : ∀ {vs : List V} {ds : List PyData}, DqAll F vs ds → DpAll K F vs ds
  | _, _, .nil => .nil
  | _, _, .cons a b => .cons (Dq.dp a) (DqAll.dp b)
end
theorem DatAt.dq {b : Bool} {v : V} {d : PyData} (h : DatAt g H m b v d) : Dq H v d := by
  obtain ⟨F, h1, _, h4⟩ := h.ex
  exact Dq.mono h1.le h4
theorem Pt.go {F : Hp} (h : Pt g H m F) (k : Go H m H' m') : Pt g H' m' F := by
  refine ⟨fun a o e => k.keep a o (h.le a o e) ?_, fun p hp o e => ?_, h.av⟩
  · by_cases hm : a ∈ m
    · exact .inr (h.no a hm o e)
    · exact .inl hm
  · rcases k.new p hp with h5 | h5
    · exact h.no p h5 o e
    · rw [h.le p o e] at h5
      cases h5
theorem DatAt.go {b : Bool} {v : V} {d : PyData} (h : DatAt g H m b v d) (k : Go H m H' m') : DatAt g H' m' b v d := by
  obtain ⟨F, h1, h3, h4⟩ := h.ex
  exact ⟨F, h1.go k, h3, h4⟩
theorem VR.go {ov : OV} {v : V} (h : VR K g H m ov v) (k : Go H m H' m') : VR K g H' m' ov v := by
  cases ov with
  | dat b d => exact DatAt.go h k
  | own i =>
    obtain ⟨p, h1, h2⟩ := h
    obtain ⟨ms, e⟩ := k.pre
    refine ⟨p, ?_, h2⟩
    rw [e]
    have hi : i < m.length := (List.getElem?_eq_some_iff.mp h1).1
    rw [List.getElem?_append_left hi]
    exact h1
  | scr ns =>
    obtain ⟨p, F, h1, h2, h3⟩ := h
    exact ⟨p, F, h1, h2.go k, h3⟩
theorem VsR.go {vs : List OV} {ws : List V} (h : VsR K g H m vs ws) (k : Go H m H' m') : VsR K g H' m' vs ws := Paired.mapP h fun _ _ x => VR.go x k
theorem FsR.go {vs : List (Str × OV)} {ws : List (Str × V)} (h : FsR K g H m vs ws) (k : Go H m H' m') : FsR K g H' m' vs ws := Paired.mapP h fun _ _ x => ⟨x.1, VR.go x.2 k⟩
theorem ObA.go {o : OO} {p : Addr} (h : ObA K g H m o p) (k : Go H m H' m') (e : H' p = H p) : ObA K g H' m' o p := by
  cases o with
  | lst vs =>
    obtain ⟨ws, h1, h2⟩ := h
    exact ⟨ws, by rw [e]; exact h1, VsR.go h2 k⟩
  | tup vs =>
    obtain ⟨ws, h1, h2⟩ := h
    exact ⟨ws, by rw [e]; exact h1, VsR.go h2 k⟩
  | ins c fs =>
    obtain ⟨dx, ws, h1, h2⟩ := h
    exact ⟨dx, ws, by rw [e]; exact h1, FsR.go h2 k⟩
  | dct fs =>
    obtain ⟨ws, h1, h2⟩ := h
    exact ⟨ws, by rw [e]; exact h1, FsR.go h2 k⟩
theorem ObA.there {o : OO} {p : Addr} (h : ObA K g H m o p) : H p ≠ none := by
  cases o with
  | lst vs =>
    obtain ⟨ws, h1, h2⟩ := h
    rw [h1]; exact fun z => nomatch z
  | tup vs =>
    obtain ⟨ws, h1, h2⟩ := h
    rw [h1]; exact fun z => nomatch z
  | ins c fs =>
    obtain ⟨dx, ws, h1, h2⟩ := h
    rw [h1]; exact fun z => nomatch z
  | dct fs =>
    obtain ⟨ws, h1, h2⟩ := h
    rw [h1]; exact fun z => nomatch z
theorem Ob.get (h : Ob K g H S m) {i : Nat} {o : OO} (e : S[i]? = some o) : ∃ p, m[i]? = some p ∧ ObA K g H m o p := by
  have hi : i < S.length := (List.getElem?_eq_some_iff.mp e).1
  have hm : i < m.length := by rw [h.len]; exact hi
  exact ⟨m[i], List.getElem?_eq_getElem hm, h.obj i o _ e (List.getElem?_eq_getElem hm)⟩
theorem Ob.there (h : Ob K g H S m) {p : Addr} (hp : p ∈ m) : H p ≠ none := by
  obtain ⟨i, hi, e⟩ := List.mem_iff_getElem.mp hp
  have hS : i < S.length := by rw [← h.len]; exact hi
  exact (h.obj i S[i] p (List.getElem?_eq_getElem hS) (by rw [List.getElem?_eq_getElem hi, e])).there
theorem Ob.avn (h : Ob K g H S m) : ∀ p ∈ g.av, H p ≠ none := fun p hp z => by
  obtain ⟨o, e, _⟩ := h.avt p hp
  rw [e] at z
  cases z
theorem Ob.avk (h : Ob K g H S m) (k : Go H m H' m') : ∀ p ∈ g.av, ∃ o, H' p = some o ∧ tupO o = false := fun p hp => by
  obtain ⟨o, e, t⟩ := h.avt p hp
  exact ⟨o, k.keep p o e (.inl fun q => h.dis p q hp), t⟩
/-- the store as it was, in a later heap -/
theorem Ob.go (h : Ob K g H S m) (k : Go H m H' m) (e : ∀ p ∈ m, H' p = H p) : Ob K g H' S m :=
  ⟨h.len, h.nd, fun a z => h.dom a (k.dom a z), h.avk k, h.dis, fun i o p e1 e2 => (h.obj i o p e1 e2).go k (e p (List.mem_of_getElem? e2))⟩
/-- a new object that the store does not hold -/
theorem Go.fresh {p : Addr} {o : HO} (h : H p = none) : Go H m (upd H p o) m := by
  refine ⟨⟨[], by simp⟩, fun q hq => .inl hq, fun a u e _ => ?_, fun a e => ?_⟩
  · rw [upd_ne (ne_of_none e h)]
    exact e
  · by_cases q : a = p
    · rw [q]; exact h
    · rw [upd_ne q] at e
      exact e
theorem Ob.fresh (I : Ob K g H S m) {p : Addr} {o : HO} (h : H p = none) : Ob K g (upd H p o) S m :=
  I.go (Go.fresh h) fun q hq => upd_ne fun e => I.there hq (by rw [e]; exact h)
/-- a new object, the store's last -/
theorem Go.add {p : Addr} {o : HO} (h : H p = none) : Go H m (upd H p o) (m ++ [p]) := by
  refine ⟨⟨[p], rfl⟩, fun q hq => ?_, fun a u e _ => ?_, fun a e => ?_⟩
  · rcases List.mem_append.mp hq with h1 | h1
    · exact .inl h1
    · exact .inr (by rw [List.mem_singleton.mp h1]; exact h)
  · rw [upd_ne (ne_of_none e h)]
    exact e
  · by_cases q : a = p
    · rw [q]; exact h
    · rw [upd_ne q] at e
      exact e
theorem Ob.add (I : Ob K g H S m) {p : Addr} {o : HO} {oo : OO} (h : H p = none) (ho : ObA K g (upd H p o) (m ++ [p]) oo p) : Ob K g (upd H p o) (S ++ [oo]) (m ++ [p]) := by
  have hp : p ∉ m := fun q => I.there q h
  refine ⟨by simp [I.len], ?_, fun a z => I.dom a ((Go.add (m := m) h).dom a z), I.avk (Go.add (m := m) h), fun q hq => ?_, fun i u q e1 e2 => ?_⟩
  · refine List.nodup_append.mpr ⟨I.nd, by simp, fun a ha b hb => ?_⟩
    rw [List.mem_singleton.mp hb]
    exact fun e => hp (by rw [← e]; exact ha)
  · rcases List.mem_append.mp hq with h1 | h1
    · exact I.dis q h1
    · intro z
      exact I.avn q z (by rw [List.mem_singleton.mp h1]; exact h)
  · by_cases hi : i < S.length
    · rw [List.getElem?_append_left hi] at e1
      rw [List.getElem?_append_left (by rw [I.len]; exact hi)] at e2
      exact (I.obj i u q e1 e2).go (Go.add h) (upd_ne fun e => hp (by rw [← e]; exact List.mem_of_getElem? e2))
    · have h1 : i = S.length := by
        have := (List.getElem?_eq_some_iff.mp e1).1
        simp at this
        omega
      subst h1
      simp at e1
      rw [show S.length = m.length from I.len.symm] at e2
      simp at e2
      subst e1 e2
      exact ho
/-- an object of the store is changed -/
theorem Go.mut {p : Addr} {o : HO} (hp : p ∈ m) (ht : ∀ u, H p = some u → tupO u = false) : Go H m (upd H p o) m := by
  refine ⟨⟨[], by simp⟩, fun q hq => .inl hq, fun a u e ha => ?_, fun a e => ?_⟩
  · rw [upd_ne fun q => ?_]
    · exact e
    · subst q
      rcases ha with ha | ha
      · exact ha hp
      · rw [ht u e] at ha
        cases ha
  · by_cases q : a = p
    · subst q
      rw [upd_same] at e
      cases e
    · rw [upd_ne q] at e
      exact e
theorem Ob.mut (I : Ob K g H S m) {i : Nat} {p : Addr} {o : HO} {oo : OO} (hp : m[i]? = some p) (ht : ∀ u, H p = some u → tupO u = false) (ho : ObA K g (upd H p o) m oo p) : Ob K g (upd H p o) (S.set i oo) m := by
  have hm : p ∈ m := List.mem_of_getElem? hp
  refine ⟨by simp [I.len], I.nd, fun a z => I.dom a ((Go.mut (o := o) hm ht).dom a z), I.avk (Go.mut (o := o) hm ht), I.dis, fun j u q e1 e2 => ?_⟩
  by_cases hj : j = i
  · subst hj
    rw [hp] at e2
    cases e2
    rw [List.getElem?_set_self (by have := (List.getElem?_eq_some_iff.mp e1).1; simpa using this)] at e1
    cases e1
    exact ho
  · rw [List.getElem?_set_ne (fun e => hj e.symm)] at e1
    refine (I.obj j u q e1 e2).go (Go.mut hm ht) (upd_ne fun e => hj ?_)
    subst e
    obtain ⟨a1, b1⟩ := List.getElem?_eq_some_iff.mp e2
    obtain ⟨a2, b2⟩ := List.getElem?_eq_some_iff.mp hp
    exact (List.getElem_inj I.nd).mp (b1.trans b2.symm)

/-! ### an object set aside -/
theorem Pt.free {F : Hp} {p : Addr} (h : Pt g H m F) (hp : H p = none) : F p = none := by
  cases e : F p with
  | none => rfl
  | some u => rw [h.le p u e] at hp; cases hp
theorem Pt.add {F : Hp} {p : Addr} {o : HO} (h : Pt g H m F) (hp : H p = none) : Pt (g.add p) (upd H p o) m F := by
  refine ⟨fun a u e => ?_, h.no, fun q hq => ?_⟩
  · rw [upd_ne (ne_of_none (h.le a u e) hp)]
    exact h.le a u e
  · rcases List.mem_cons.mp hq with rfl | hq
    · exact h.free hp
    · exact h.av q hq
theorem Pt.put {F : Hp} {p : Addr} {o : HO} (h : Pt g H m F) (hp : p ∈ g.av) : Pt g (upd H p o) m F := by
  refine ⟨fun a u e => ?_, h.no, h.av⟩
  rw [upd_ne fun z => ?_]
  · exact h.le a u e
  · rw [z, h.av p hp] at e
    cases e
theorem Pt.drop {F : Hp} {p : Addr} (h : Pt (g.add p) H m F) : Pt g H m F := ⟨h.le, h.no, fun q hq => h.av q (List.mem_cons_of_mem _ hq)⟩
theorem Pt.take {F : Hp} {p : Addr} (h : Pt (g.add p) H m F) : Pt g H (m ++ [p]) F := by
  refine ⟨h.le, fun q hq o e => ?_, fun q hq => h.av q (List.mem_cons_of_mem _ hq)⟩
  rcases List.mem_append.mp hq with h6 | h6
  · exact h.no q h6 o e
  · rw [List.mem_singleton.mp h6, h.av p List.mem_cons_self] at e
    cases e
theorem VR.imp {g' : Gd} {ov : OV} {v : V} (h : VR K g H m ov v) (f : ∀ F, Pt g H m F → Pt g' H' m' F) (e1 : g'.Hi = g.Hi) (e2 : g'.F0 = g.F0) (e : ∃ ms, m' = m ++ ms) : VR K g' H' m' ov v := by
  cases ov with
  | dat b d =>
    obtain ⟨F, h1, h3, h4⟩ := DatAt.ex h
    exact ⟨F, f F h1, fun a o q => by rw [e1, e2]; exact h3 a o q, h4⟩
  | own i =>
    obtain ⟨p, h1, h2⟩ := h
    obtain ⟨ms, e⟩ := e
    exact ⟨p, by rw [e, List.getElem?_append_left (List.getElem?_eq_some_iff.mp h1).1]; exact h1, h2⟩
  | scr ns =>
    obtain ⟨p, F, h1, h2, h3⟩ := h
    exact ⟨p, F, h1, f F h2, h3⟩
theorem VR.add {ov : OV} {v : V} {p : Addr} {o : HO} (h : VR K g H m ov v) (hp : H p = none) : VR K (g.add p) (upd H p o) m ov v := h.imp (fun _ z => z.add hp) rfl rfl ⟨[], by simp⟩
theorem VR.put {ov : OV} {v : V} {p : Addr} {o : HO} (h : VR K g H m ov v) (hp : p ∈ g.av) : VR K g (upd H p o) m ov v := h.imp (fun _ z => z.put hp) rfl rfl ⟨[], by simp⟩
theorem VR.drop {ov : OV} {v : V} {p : Addr} (h : VR K (g.add p) H m ov v) : VR K g H m ov v := h.imp (fun _ z => z.drop) rfl rfl ⟨[], by simp⟩
/-- the object that was set aside goes to the store -/
theorem VR.take {ov : OV} {v : V} {p : Addr} (h : VR K (g.add p) H m ov v) : VR K g H (m ++ [p]) ov v := h.imp (fun _ z => z.take) rfl rfl ⟨[p], rfl⟩
theorem ObA.imp {g' : Gd} {o : OO} {p : Addr} (h : ObA K g H m o p) (e : H' p = H p) (f : ∀ ov v, VR K g H m ov v → VR K g' H' m' ov v) : ObA K g' H' m' o p := by
  cases o with
  | lst vs =>
    obtain ⟨ws, h1, h2⟩ := h
    exact ⟨ws, by rw [e]; exact h1, Paired.mapP h2 f⟩
  | tup vs =>
    obtain ⟨ws, h1, h2⟩ := h
    exact ⟨ws, by rw [e]; exact h1, Paired.mapP h2 f⟩
  | ins c fs =>
    obtain ⟨dx, ws, h1, h2⟩ := h
    exact ⟨dx, ws, by rw [e]; exact h1, Paired.mapP h2 fun a b z => ⟨z.1, f _ _ z.2⟩⟩
  | dct fs =>
    obtain ⟨ws, h1, h2⟩ := h
    exact ⟨ws, by rw [e]; exact h1, Paired.mapP h2 fun a b z => ⟨z.1, f _ _ z.2⟩⟩
theorem Ob.aside (I : Ob K g H S m) {p : Addr} {o : HO} (hp : H p = none) (ht : tupO o = false := by rfl) : Ob K (g.add p) (upd H p o) S m := by
  have hm : p ∉ m := fun q => I.there q hp
  refine ⟨I.len, I.nd, fun a z => I.dom a ((Go.fresh (m := m) hp).dom a z), fun q hq => ?_, fun q hq z => ?_, fun i u q e1 e2 => ?_⟩
  · rcases List.mem_cons.mp hq with rfl | hq
    · exact ⟨o, upd_same, ht⟩
    · obtain ⟨u, e, t⟩ := I.avt q hq
      exact ⟨u, by rw [upd_ne (ne_of_none e hp)]; exact e, t⟩
  · rcases List.mem_cons.mp z with rfl | z
    · exact hm hq
    · exact I.dis q hq z
  · exact (I.obj i u q e1 e2).imp (upd_ne fun e => hm (by rw [← e]; exact List.mem_of_getElem? e2)) fun _ _ z => z.add hp
theorem Ob.put (I : Ob K g H S m) {p : Addr} {o : HO} (hp : p ∈ g.av) (ht : tupO o = false := by rfl) : Ob K g (upd H p o) S m := by
  have nd : ∀ a, upd H p o a = none → H a = none := fun a e => by
    by_cases q : a = p
    · subst q; rw [upd_same] at e; cases e
    · rw [upd_ne q] at e; exact e
  have av : ∀ q ∈ g.av, ∃ u, upd H p o q = some u ∧ tupO u = false := fun q hq => by
    by_cases e : q = p
    · exact ⟨o, by rw [e]; exact upd_same, ht⟩
    · obtain ⟨u, e1, t⟩ := I.avt q hq
      exact ⟨u, by rw [upd_ne e]; exact e1, t⟩
  exact ⟨I.len, I.nd, fun a z => I.dom a (nd a z), av, I.dis, fun i u q e1 e2 =>
    (I.obj i u q e1 e2).imp (upd_ne fun e => I.dis q (List.mem_of_getElem? e2) (by rw [e]; exact hp)) fun _ _ z => z.put hp⟩
theorem Ob.drop {p : Addr} (I : Ob K (g.add p) H S m) : Ob K g H S m :=
  ⟨I.len, I.nd, I.dom, fun q hq => I.avt q (List.mem_cons_of_mem _ hq), fun q hq z => I.dis q hq (List.mem_cons_of_mem _ z), fun i u q e1 e2 => (I.obj i u q e1 e2).imp rfl fun _ _ z => z.drop⟩
theorem Ob.take {p : Addr} {oo : OO} (I : Ob K (g.add p) H S m) (hp : p ∉ g.av) (ho : ObA K (g.add p) H m oo p) : Ob K g H (S ++ [oo]) (m ++ [p]) := by
  have hm : p ∉ m := fun q => I.dis p q List.mem_cons_self
  refine ⟨by simp [I.len], ?_, I.dom, fun q hq => I.avt q (List.mem_cons_of_mem _ hq), fun q hq z => ?_, fun i u q e1 e2 => ?_⟩
  · refine List.nodup_append.mpr ⟨I.nd, by simp, fun a ha b hb => ?_⟩
    rw [List.mem_singleton.mp hb]
    exact fun e => hm (by rw [← e]; exact ha)
  · rcases List.mem_append.mp hq with h1 | h1
    · exact I.dis q h1 (List.mem_cons_of_mem _ z)
    · exact hp (by rw [← List.mem_singleton.mp h1]; exact z)
  · by_cases hi : i < S.length
    · rw [List.getElem?_append_left hi] at e1
      rw [List.getElem?_append_left (by rw [I.len]; exact hi)] at e2
      exact (I.obj i u q e1 e2).imp rfl fun _ _ z => z.take
    · have h1 : i = S.length := by
        have := (List.getElem?_eq_some_iff.mp e1).1
        simp at this
        omega
      subst h1
      simp at e1
      rw [show S.length = m.length from I.len.symm] at e2
      simp at e2
      subst e1 e2
      exact ho.imp rfl fun _ _ z => z.take
/-! ### data from its parts -/
theorem Same.union {F1 F2 : Hp} (h1 : Same F1 H) (h2 : Same F2 H) : ∃ F, Same F H ∧ Same F1 F ∧ Same F2 F ∧ ∀ a o, F a = some o → F1 a = some o ∨ F2 a = some o := by
  refine ⟨fun a => match F1 a with | some o => some o | none => F2 a, fun a o e => ?_, fun a o e => ?_, fun a o e => ?_, fun a o e => ?_⟩
  · cases q : F1 a with
    | some u =>
      have e1 : some u = some o := by simpa [q] using e
      cases e1
      exact h1 a _ q
    | none => exact h2 a o (by simpa [q] using e)
  · show (match F1 a with | some o => some o | none => F2 a) = some o
    rw [e]
  · show (match F1 a with | some o => some o | none => F2 a) = some o
    cases q : F1 a with
    | some u =>
      have := h1 a u q
      rw [h2 a o e] at this
      exact this.symm
    | none => exact e
  · cases q : F1 a with
    | some u =>
      have e1 : some u = some o := by simpa [q] using e
      cases e1
      exact .inl rfl
    | none => exact .inr (by simpa [q] using e)
theorem Okf.mono {b c : Bool} {F : Hp} (h : Okf g b F) (e : b = true → c = true) : Okf g c F := fun a o q => by
  rcases h a o q with h | h | ⟨h1, h2⟩
  · exact .inl h
  · exact .inr (.inl h)
  · exact .inr (.inr ⟨e h1, h2⟩)
/-- several data at once -/
structure DatsAt (g : Gd) (H : Hp) (m : List Addr) (b : Bool) (vs : List V) (ds : List PyData) : Prop where
  ex : ∃ F : Hp, Pt g H m F ∧ Okf g b F ∧ DqAll F vs ds
theorem Pt.emp : Pt g H m (fun _ => none) := ⟨fun _ _ e => (by cases e), fun _ _ _ e => (by cases e), fun _ _ => rfl⟩
theorem Pt.union {F1 F2 : Hp} (h1 : Pt g H m F1) (h2 : Pt g H m F2) : ∃ F, Pt g H m F ∧ Same F1 F ∧ Same F2 F ∧ ∀ a o, F a = some o → F1 a = some o ∨ F2 a = some o := by
  obtain ⟨F, c1, c2, c3, c4⟩ := Same.union h1.le h2.le
  have no : ∀ p, F1 p = none → F2 p = none → F p = none := fun p e1 e2 => by
    cases e : F p with
    | none => rfl
    | some o =>
      rcases c4 p o e with q | q
      · rw [e1] at q; cases q
      · rw [e2] at q; cases q
  exact ⟨F, ⟨c1, fun p hp o e => (c4 p o e).elim (h1.no p hp o) (h2.no p hp o), fun p hp => no p (h1.av p hp) (h2.av p hp)⟩, c2, c3, c4⟩
theorem Okf.emp {b : Bool} : Okf g b (fun _ => none) := fun _ _ e => (by cases e)
theorem DatsAt.nil {b : Bool} : DatsAt g H m b [] [] := ⟨_, Pt.emp, Okf.emp, DqAll.nil⟩
theorem DatsAt.cons {b c : Bool} {v : V} {d : PyData} {vs : List V} {ds : List PyData} (h : DatAt g H m b v d) (hs : DatsAt g H m c vs ds) : DatsAt g H m (b || c) (v :: vs) (d :: ds) := by
  obtain ⟨F1, a1, a4, a5⟩ := h.ex
  obtain ⟨F2, b1, b4, b5⟩ := hs.ex
  obtain ⟨F, c1, c2, c3, c4⟩ := a1.union b1
  refine ⟨F, c1, fun a o e => ?_, .cons (Dq.mono c2 a5) (DqAll.mono c3 b5)⟩
  rcases c4 a o e with q | q
  · exact a4.mono (fun z => by rw [z]; rfl) a o q
  · exact b4.mono (fun z => by rw [z, Bool.or_true]) a o q
/-- the values that are data, all -/
def allDat : List OV → Option (Bool × List PyData)
  | [] => some (false, [])
  | .dat b d :: r => match allDat r with
    | some (c, ds) => some (b || c, d :: ds)
    | none => none
  | .own _ :: _ => none
  | .scr _ :: _ => none
theorem allDat_at : ∀ {vs : List OV} {ws : List V} {b : Bool} {ds : List PyData}, allDat vs = some (b, ds) → VsR K g H m vs ws → DatsAt g H m b ws ds
  | [], _, b, ds, e, .nil => by
    cases e
    exact .nil
  | .dat b d :: r, _, c, ds, e, .cons h t => by
    unfold allDat at e
    cases q : allDat r with
    | none => rw [q] at e; cases e
    | some z =>
      obtain ⟨c', ds'⟩ := z
      rw [q] at e
      cases e
      exact .cons h (allDat_at q t)
  | .own _ :: _, _, _, _, e, _ => by cases e
  | .scr _ :: _, _, _, _, e, _ => by cases e
theorem DatsAt.list {b : Bool} {ws : List V} {ds : List PyData} {p : Addr} (h : DatsAt (g.add p) H m b ws ds) (hp : H p = some (.lst ws)) (hm : p ∉ m) (ha : p ∉ g.av) (hi : g.Hi p = none) : DatAt g H m b (.ref p) (.list ds) := by
  obtain ⟨F, a1, a4, a5⟩ := h.ex
  have sF : Same F (upd F p (.lst ws)) := fun a o e => by
    rw [upd_ne fun z => ?_]
    · exact e
    · rw [z, a1.av p List.mem_cons_self] at e; cases e
  refine ⟨upd F p (.lst ws), ⟨fun a o e => ?_, fun q hq o e => ?_, fun q hq => ?_⟩, fun a o e => ?_, .lst upd_same (DqAll.mono sF a5)⟩
  · by_cases q : a = p
    · subst q; rw [upd_same] at e; cases e; exact hp
    · rw [upd_ne q] at e; exact a1.le a o e
  · rw [upd_ne fun z => hm (by rw [← z]; exact hq)] at e
    exact a1.no q hq o e
  · rw [upd_ne fun z => ha (by rw [← z]; exact hq)]
    exact a1.av q (List.mem_cons_of_mem _ hq)
  · by_cases q : a = p
    · subst q; exact .inr (.inl hi)
    · rw [upd_ne q] at e; exact a4 a o e
/-- a new tuple -/
theorem DatsAt.tuple {b : Bool} {ws : List V} {ds : List PyData} {p : Addr} (h : DatsAt g H m b ws ds) (hp : H p = none) (hi : ∀ q ∈ m, H q ≠ none) (ha : ∀ q ∈ g.av, H q ≠ none) : DatAt g (upd H p (.tup ws)) m b (.ref p) (.tuple ds) := by
  obtain ⟨F, a1, a4, a5⟩ := h.ex
  have fp : F p = none := a1.free hp
  have sF : Same F (upd F p (.tup ws)) := fun a o e => by
    rw [upd_ne fun z => ?_]
    · exact e
    · rw [z, fp] at e; cases e
  refine ⟨upd F p (.tup ws), ⟨fun a o e => ?_, fun q hq o e => ?_, fun q hq => ?_⟩, fun a o e => ?_, .tup upd_same (DqAll.mono sF a5)⟩
  · by_cases q : a = p
    · subst q; rw [upd_same] at e ⊢; exact e
    · rw [upd_ne q] at e ⊢; exact a1.le a o e
  · rw [upd_ne fun z => hi q hq (by rw [z]; exact hp)] at e
    exact a1.no q hq o e
  · rw [upd_ne fun z => ha q hq (by rw [z]; exact hp)]
    exact a1.av q hq
  · by_cases q : a = p
    · subst q; rw [upd_same] at e; cases e; exact .inl rfl
    · rw [upd_ne q] at e; exact a4 a o e
/-! ### data without lists: tuples never change -/
mutual
def flat : PyData → Bool
  | .none => true
  | .bool _ => true
  | .int _ => true
  | .str _ => true
  | .tuple ds => flatAll ds
  | .list _ => false
  | .dict _ => false
def flatAll : List PyData → Bool
  | [] => true
  | d :: ds => flat d && flatAll ds
end
def mkD (b : Bool) (d : PyData) : OV := .dat (b && !flat d) d
def tupsOf (F : Hp) : Hp := fun a => match F a with
  | some o => if tupO o = true then some o else none
  | none => none
theorem tupsOf_some {F : Hp} {a : Addr} {o : HO} (h : F a = some o) (t : tupO o = true) : tupsOf F a = some o := by
  unfold tupsOf
  rw [h]
  exact if_pos t
theorem tupsOf_inv {F : Hp} {a : Addr} {o : HO} (h : tupsOf F a = some o) : F a = some o ∧ tupO o = true := by
  unfold tupsOf at h
  cases e : F a with
  | none => rw [e] at h; cases h
  | some u =>
    rw [e] at h
    by_cases t : tupO u = true
    · have h2 : (if tupO u = true then some u else none) = some o := h
      rw [if_pos t] at h2
      cases h2
      exact ⟨rfl, t⟩
    · have h2 : (if tupO u = true then some u else none) = some o := h
      rw [if_neg t] at h2
      cases h2
mutual
theorem Dq_flat {F : Hp} : ∀ (d : PyData) (v : V), Dq F v d → flat d = true → Dq (tupsOf F) v d
  | .none, _, h, _ => by cases h; exact .non
  | .bool b, _, h, _ => by cases h; exact .bl b
  | .int i, _, h, _ => by cases h; exact .int i
  | .str x, _, h, _ => by cases h; exact .str x
  | .list ds, _, _, e => by simp [flat] at e
  | .dict _, _, h, _ => by cases h
  | .tuple ds, _, h, e => by
    cases h with
    | tup s a =>
      exact .tup (tupsOf_some s rfl) (DqAll_flat ds _ a (by simpa [flat] using e))
theorem DqAll_flat {F : Hp} : ∀ (ds : List PyData) (vs : List V), DqAll F vs ds → flatAll ds = true → DqAll (tupsOf F) vs ds
  | [], _, h, _ => by cases h; exact .nil
  | d :: ds, _, h, e => by
    cases h with
    | cons a b =>
      have e2 : (flat d && flatAll ds) = true := by simpa [flatAll] using e
      rw [Bool.and_eq_true] at e2
      exact .cons (Dq_flat d _ a e2.1) (DqAll_flat ds _ b e2.2)
end
theorem Pt.tups {F : Hp} (h : Pt g H m F) : Pt g H m (tupsOf F) := by
  have no : ∀ p, F p = none → tupsOf F p = none := fun p q => by unfold tupsOf; rw [q]
  exact ⟨fun a o q => h.le a o (tupsOf_inv q).1, fun p q o e => (tupsOf_inv e).2, fun p q => no p (h.av p q)⟩
theorem DatAt.flt {b c : Bool} {v : V} {d : PyData} (h : DatAt g H m b v d) (e : flat d = true) : DatAt g H m c v d := by
  obtain ⟨F, h1, h3, h4⟩ := h.ex
  exact ⟨tupsOf F, h1.tups, fun a o q => .inl (tupsOf_inv q).2, Dq_flat _ _ h4 e⟩
theorem DatAt.mkD {b : Bool} {v : V} {d : PyData} (h : DatAt g H m b v d) : VR K g H m (mkD b d) v := by
  show DatAt g H m (b && !flat d) v d
  cases e : flat d with
  | true => exact h.flt e
  | false =>
    simpa using h
theorem DatAt.mono {b c : Bool} {v : V} {d : PyData} (h : DatAt g H m b v d) (e : b = true → c = true) : DatAt g H m c v d := by
  obtain ⟨F, h1, h3, h4⟩ := h.ex
  exact ⟨F, h1, h3.mono e, h4⟩
theorem DatAt.scal {b : Bool} {v : V} {d : PyData} (h : Dq (fun _ => none) v d) : DatAt g H m b v d := ⟨_, Pt.emp, Okf.emp, h⟩
/-- the items of a list, of a tuple that is data -/
theorem DatAt.items {b : Bool} {v : V} {ds : List PyData} (h : DatAt g H m b v (.list ds)) : ∃ p ws, v = .ref p ∧ H p = some (.lst ws) ∧ DatsAt g H m b ws ds := by
  obtain ⟨F, h1, h3, h4⟩ := h.ex
  cases h4 with
  | lst s a => exact ⟨_, _, rfl, h1.le _ _ s, ⟨F, h1, h3, a⟩⟩
theorem DatAt.itemsT {b : Bool} {v : V} {ds : List PyData} (h : DatAt g H m b v (.tuple ds)) : ∃ p ws, v = .ref p ∧ H p = some (.tup ws) ∧ DatsAt g H m b ws ds := by
  obtain ⟨F, h1, h3, h4⟩ := h.ex
  cases h4 with
  | tup s a => exact ⟨_, _, rfl, h1.le _ _ s, ⟨F, h1, h3, a⟩⟩
/-- the places of a list that is data are not written -/
theorem DatAt.itemsP {b : Bool} {v : V} {ds : List PyData} (h : DatAt g H m b v (.list ds)) : ∃ p ws F, v = .ref p ∧ Pt g H m F ∧ F p = some (.lst ws) ∧ DatsAt g H m b ws ds := by
  obtain ⟨F, h1, h3, h4⟩ := h.ex
  cases h4 with
  | lst s a => exact ⟨_, _, F, rfl, h1, s, ⟨F, h1, h3, a⟩⟩
theorem DatAt.itemsTP {b : Bool} {v : V} {ds : List PyData} (h : DatAt g H m b v (.tuple ds)) : ∃ p ws F, v = .ref p ∧ Pt g H m F ∧ F p = some (.tup ws) ∧ DatsAt g H m b ws ds := by
  obtain ⟨F, h1, h3, h4⟩ := h.ex
  cases h4 with
  | tup s a => exact ⟨_, _, F, rfl, h1, s, ⟨F, h1, h3, a⟩⟩
theorem DqAll.vs {F : Hp} : ∀ {ws : List V} {ds : List PyData}, DqAll F ws ds → ws.length = ds.length
  | _, _, .nil => rfl
  | _, _, .cons a b => by simp [DqAll.vs b]
/-- one by one -/
theorem DatsAt.vsR {b : Bool} {ws : List V} {ds : List PyData} (h : DatsAt g H m b ws ds) : VsR K g H m (ds.map (mkD b)) ws := by
  obtain ⟨F, h1, h3, h4⟩ := h.ex
  have : ∀ {ws : List V} {ds : List PyData}, DqAll F ws ds → VsR K g H m (ds.map (mkD b)) ws := by
    intro ws ds q
    induction ds generalizing ws with
    | nil => cases q; exact .nil
    | cons d ds ih =>
      cases q with
      | cons a r => exact .cons (DatAt.mkD ⟨F, h1, h3, a⟩) (ih r)
  exact this h4
theorem VsR.get : ∀ {vs : List OV} {ws : List V} {i : Nat} {x : OV}, VsR K g H m vs ws → vs[i]? = some x → ∃ w, ws[i]? = some w ∧ VR K g H m x w
  | _, _, _, _, .nil, e => by simp at e
  | _, _, 0, _, .cons r _, e => by simp at e; subst e; exact ⟨_, rfl, r⟩
  | _, _, i + 1, x, .cons _ t, e => by
    obtain ⟨u, h1, h2⟩ := VsR.get (i := i) (x := x) t (by simpa using e)
    exact ⟨u, by simpa using h1, h2⟩
theorem VsR.length {vs : List OV} {ws : List V} (h : VsR K g H m vs ws) : vs.length = ws.length := Paired.length h
theorem VsR.append : ∀ {vs us : List OV} {ws xs : List V}, VsR K g H m vs ws → VsR K g H m us xs → VsR K g H m (vs ++ us) (ws ++ xs)
  | _, _, _, _, .nil, s => s
  | _, _, _, _, .cons r t, s => .cons r (VsR.append t s)
theorem VsR.take : ∀ {vs : List OV} {ws : List V} (n : Nat), VsR K g H m vs ws → VsR K g H m (vs.take n) (ws.take n)
  | _, _, 0, _ => .nil
  | _, _, _ + 1, .nil => .nil
  | _, _, n + 1, .cons r t => .cons r (VsR.take n t)
theorem VsR.drop : ∀ {vs : List OV} {ws : List V} (n : Nat), VsR K g H m vs ws → VsR K g H m (vs.drop n) (ws.drop n)
  | _, _, 0, r => r
  | _, _, _ + 1, .nil => .nil
  | _, _, n + 1, .cons _ t => VsR.drop n t
theorem VsR.reverse {vs : List OV} {ws : List V} (h : VsR K g H m vs ws) : VsR K g H m vs.reverse ws.reverse := by
  induction h with
  | nil => exact .nil
  | cons r t ih =>
    simp only [List.reverse_cons]
    exact ih.append (.cons r .nil)
theorem VsR.set {x : OV} {w : V} (r : VR K g H m x w) : ∀ {vs : List OV} {ws : List V} (i : Nat), VsR K g H m vs ws → VsR K g H m (vs.set i x) (ws.set i w)
  | _, _, _, .nil => .nil
  | _, _, 0, .cons _ t => .cons r t
  | _, _, i + 1, .cons q t => .cons q (VsR.set r i t)
end
end Nc
set_option Elab.async false
set_option linter.all false
set_option maxRecDepth 100000
namespace Nc
open PySem PySem.Spec PyProof.Rows L2
/-! ### what an expression, a test, an argument list, a new list comes to -/
structure EnvR (K : PySem.W.Frag) (g : Gd) (H : Hp) (m : List Addr) (r : Env) (s : L2.St) : Prop where
  len : r.length = s.length
  at_ : ∀ (i : Nat) (ov : OV), r[i]? = some (some ov) → ∃ v, s[i]? = some (some v) ∧ VR K g H m ov v
abbrev SE := Env → Sto → Option (OV × Sto)
abbrev SC := Env → Sto → Option (Bool × Sto)
abbrev SA := Env → Sto → Option (List OV × Sto)
abbrev SO := Env → Sto → Option (Option Int × Sto)
def bnd {α β : Type} (x : Option (α × Sto)) (k : α → Sto → Option β) : Option β := match x with
  | some (a, S) => k a S
  | none => none
theorem bnd_some {α β : Type} {x : Option (α × Sto)} {k : α → Sto → Option β} {r : β} (h : bnd x k = some r) : ∃ a S, x = some (a, S) ∧ k a S = some r := by
  cases x with
  | none => cases h
  | some z => exact ⟨z.1, z.2, rfl, h⟩
@[simp] theorem bnd_mk {α β : Type} (a : α) (S : Sto) (k : α → Sto → Option β) : bnd (some (a, S)) k = k a S := rfl
structure SmE (K : PySem.W.Frag) (te : TE) (f : SE) : Prop where
  run : ∀ {g : Gd} {ρ : Env} {σ : L2.St} {H : Hp} {S : Sto} {m : List Addr} {r : OV} {S' : Sto}, Ob K g H S m → EnvR K g H m ρ σ → f ρ S = some (r, S') →
    ∀ Q : VK, (∀ v H' m', Go H m H' m' → Ob K g H' S' m' → VR K g H' m' r v → Q v H') → te σ H Q
structure SmC (K : PySem.W.Frag) (tt : TT) (f : SC) : Prop where
  run : ∀ {g : Gd} {ρ : Env} {σ : L2.St} {H : Hp} {S : Sto} {m : List Addr} {r : Bool} {S' : Sto}, Ob K g H S m → EnvR K g H m ρ σ → f ρ S = some (r, S') →
    ∀ Q : Bool → Hp → Prop, (∀ H' m', Go H m H' m' → Ob K g H' S' m' → Q r H') → tt σ H Q
structure SmA (K : PySem.W.Frag) (ta : TA) (f : SA) : Prop where
  run : ∀ {g : Gd} {ρ : Env} {σ : L2.St} {H : Hp} {S : Sto} {m : List Addr} {r : List OV} {S' : Sto}, Ob K g H S m → EnvR K g H m ρ σ → f ρ S = some (r, S') →
    ∀ Q : List V → Hp → Prop, (∀ vs H' m', Go H m H' m' → Ob K g H' S' m' → VsR K g H' m' r vs → Q vs H') → ta σ H Q
structure SmO (K : PySem.W.Frag) (to : TO) (f : SO) : Prop where
  run : ∀ {g : Gd} {ρ : Env} {σ : L2.St} {H : Hp} {S : Sto} {m : List Addr} {r : Option Int} {S' : Sto}, Ob K g H S m → EnvR K g H m ρ σ → f ρ S = some (r, S') →
    ∀ Q : Option Int → Hp → Prop, (∀ H' m', Go H m H' m' → Ob K g H' S' m' → Q r H') → to σ H Q
/-- a new list, of which nobody knows -/
structure SmL (K : PySem.W.Frag) (te : TE) (f : SA) : Prop where
  run : ∀ {g : Gd} {ρ : Env} {σ : L2.St} {H : Hp} {S : Sto} {m : List Addr} {r : List OV} {S' : Sto}, Ob K g H S m → EnvR K g H m ρ σ → f ρ S = some (r, S') →
    ∀ Q : VK, (∀ p ws H' m', Go H m H' m' → H p = none → H' p = some (.lst ws) → Ob K (g.add p) H' S' m' → VsR K (g.add p) H' m' r ws → Q (.ref p) H') → te σ H Q
section
variable {K : PySem.W.Frag} {g : Gd} {H H' H1 : Hp} {m m' m1 : List Addr} {S S' S1 : Sto} {ρ : Env} {σ : L2.St} {ta tb tc te : TE} {fa fb fc f : SE}
theorem EnvR.go (h : EnvR K g H m ρ σ) (k : Go H m H' m') : EnvR K g H' m' ρ σ := ⟨h.len, fun i ov e => by
  obtain ⟨v, h1, h2⟩ := h.at_ i ov e
  exact ⟨v, h1, h2.go k⟩⟩
theorem EnvR.set {ov : OV} {v : V} (h : EnvR K g H m ρ σ) (r : VR K g H m ov v) (i : Nat) : EnvR K g H m (ρ.set i (some ov)) (σ.set i (some v)) := by
  refine ⟨by simp [h.len], fun j u e => ?_⟩
  by_cases q : i = j
  · subst q
    have hi : i < ρ.length := by
      have := (List.getElem?_eq_some_iff.mp e).1
      simpa using this
    rw [List.getElem?_set_self hi] at e
    cases e
    exact ⟨v, List.getElem?_set_self (by rw [← h.len]; exact hi), r⟩
  · rw [List.getElem?_set_ne q] at e ⊢
    exact h.at_ j u e
theorem EnvR.unset (h : EnvR K g H m ρ σ) (i : Nat) (x : Option V) : EnvR K g H m (ρ.set i none) (σ.set i x) := by
  refine ⟨by simp [h.len], fun j u e => ?_⟩
  by_cases q : i = j
  · subst q
    have hi : i < ρ.length := by
      have := (List.getElem?_eq_some_iff.mp e).1
      simpa using this
    rw [List.getElem?_set_self hi] at e
    cases e
  · rw [List.getElem?_set_ne q] at e ⊢
    exact h.at_ j u e
theorem EnvR.forget (h : EnvR K g H m ρ σ) (i : Nat) : EnvR K g H m (ρ.set i none) σ := by
  refine ⟨by simp [h.len], fun j u e => ?_⟩
  by_cases q : i = j
  · subst q
    have hi : i < ρ.length := by
      have := (List.getElem?_eq_some_iff.mp e).1
      simpa using this
    rw [List.getElem?_set_self hi] at e
    cases e
  · rw [List.getElem?_set_ne q] at e
    exact h.at_ j u e
theorem EnvR.add {p : Addr} {o : HO} (h : EnvR K g H m ρ σ) (hp : H p = none) : EnvR K (g.add p) (upd H p o) m ρ σ := ⟨h.len, fun i ov e => by
  obtain ⟨v, h1, h2⟩ := h.at_ i ov e
  exact ⟨v, h1, h2.add hp⟩⟩
theorem EnvR.put {p : Addr} {o : HO} (h : EnvR K g H m ρ σ) (hp : p ∈ g.av) : EnvR K g (upd H p o) m ρ σ := ⟨h.len, fun i ov e => by
  obtain ⟨v, h1, h2⟩ := h.at_ i ov e
  exact ⟨v, h1, h2.put hp⟩⟩
theorem EnvR.drop {p : Addr} (h : EnvR K (g.add p) H m ρ σ) : EnvR K g H m ρ σ := ⟨h.len, fun i ov e => by
  obtain ⟨v, h1, h2⟩ := h.at_ i ov e
  exact ⟨v, h1, h2.drop⟩⟩
theorem VsR.add {p : Addr} {o : HO} {vs : List OV} {ws : List V} (h : VsR K g H m vs ws) (hp : H p = none) : VsR K (g.add p) (upd H p o) m vs ws := Paired.mapP h fun _ _ z => z.add hp
theorem VsR.put {p : Addr} {o : HO} {vs : List OV} {ws : List V} (h : VsR K g H m vs ws) (hp : p ∈ g.av) : VsR K g (upd H p o) m vs ws := Paired.mapP h fun _ _ z => z.put hp
theorem VsR.drop' {p : Addr} {vs : List OV} {ws : List V} (h : VsR K (g.add p) H m vs ws) : VsR K g H m vs ws := Paired.mapP h fun _ _ z => z.drop
/-- a new list is laid -/
theorem lay {Q : VK} {vs : List OV} {ws : List V} (I : Ob K g H1 S' m1) (k : Go H m H1 m1) (r : VsR K g H1 m1 vs ws)
    (q : ∀ p ws H' m', Go H m H' m' → H p = none → H' p = some (.lst ws) → Ob K (g.add p) H' S' m' → VsR K (g.add p) H' m' vs ws → Q (.ref p) H') (p : Addr) (hp : H1 p = none) : Q (.ref p) (upd H1 p (.lst ws)) :=
  q p ws _ m1 (k.trans (Go.fresh hp)) (k.dom p hp) upd_same (I.aside hp) (r.add hp)
/-! ### names, constants -/
def xVar (i : Nat) : SE := fun ρ S => match ρ[i]? with
  | some (some v) => some (v, S)
  | _ => none
theorem sm_var {i : Nat} : SmE K (tVar i) (xVar i) := ⟨fun {g ρ σ H S m r S'} I E e Q k => by
  unfold xVar at e
  cases h : ρ[i]? with
  | none => rw [h] at e; cases e
  | some o =>
    cases o with
    | none => rw [h] at e; cases e
    | some v =>
      rw [h] at e
      cases e
      obtain ⟨w, h1, h2⟩ := E.at_ i _ h
      exact ⟨w, h1, k w H m Go.refl I h2⟩⟩
def xC (d : PyData) : SE := fun _ S => some (.dat false d, S)
theorem sm_c {v : V} {d : PyData} (h : Dq (fun _ => none) v d) : SmE K (tC v) (xC d) := ⟨fun {g ρ σ H S m r S'} I E e Q k => by
  cases e
  exact k v H m Go.refl I (DatAt.scal h)⟩
theorem sm_int {i : Int} : SmE K (tC (.int i)) (xC (.int i)) := sm_c (.int i)
theorem sm_bl {b : Bool} : SmE K (tC (.bl b)) (xC (.bool b)) := sm_c (.bl b)
theorem sm_non : SmE K (tC .non) (xC .none) := sm_c .non
theorem sm_str {x : Str} : SmE K (tC (.str x)) (xC (.str x)) := sm_c (.str x)
/-! ### reading through the store -/
def rdL (f : OV → Option PyData) : List OV → Option (List PyData)
  | [] => some []
  | v :: vs => match f v with
    | some d => (match rdL f vs with
      | some ds => some (d :: ds)
      | none => none)
    | none => none
def rd : Nat → Sto → OV → Option PyData
  | 0, _, .dat _ d => some d
  | 0, _, .own _ => none
  | _, _, .scr ns => some (.list (ns.map .int))
  | _ + 1, _, .dat _ d => some d
  | n + 1, S, .own i => match S[i]? with
    | some (.lst vs) => (rdL (rd n S) vs).map .list
    | some (.tup vs) => (rdL (rd n S) vs).map .tuple
    | _ => none
@[simp] theorem rd_dat (n : Nat) (S : Sto) (b : Bool) (d : PyData) : rd n S (.dat b d) = some d := by cases n <;> rfl
@[simp] theorem rd_own (n : Nat) (S : Sto) (i : Nat) : rd (n + 1) S (.own i) = (match S[i]? with | some (.lst vs) => (rdL (rd n S) vs).map .list | some (.tup vs) => (rdL (rd n S) vs).map .tuple | _ => none) := rfl
@[simp] theorem rdL_nil (f : OV → Option PyData) : rdL f [] = some [] := rfl
theorem dpAll_ints {F : Hp} : ∀ ns : List Int, DpAll K F (ns.map V.int) (ns.map PyData.int)
  | [] => .nil
  | n :: ns => .cons (.int n) (dpAll_ints ns)
theorem rd_dp (I : Ob K g H S m) : ∀ {n : Nat} {x : OV} {v : V} {d : PyData}, VR K g H m x v → rd n S x = some d → Dp K H v d
  | n, .dat b d, v, d', r, e => by
    rw [rd_dat] at e
    cases e
    exact (DatAt.dq r).dp
  | n, .scr ns, v, d', r, e => by
    have e1 : d' = .list (ns.map .int) := by
      cases n <;> exact (Option.some.inj e).symm
    subst e1
    obtain ⟨p, F, rfl, h2, h3⟩ := r
    exact .lst (h2.le.seq h3) (dpAll_ints ns)
  | 0, .own i, v, d, r, e => by cases e
  | n + 1, .own i, v, d, r, e => by
    rw [rd_own] at e
    cases h : S[i]? with
    | none => rw [h] at e; cases e
    | some o =>
      rw [h] at e
      have all : ∀ {vs : List OV} {ws : List V} {ds : List PyData}, VsR K g H m vs ws → rdL (rd n S) vs = some ds → DpAll K H ws ds := by
        intro vs ws ds q
        induction q generalizing ds with
        | nil => intro e; cases e; exact .nil
        | cons a t ih =>
          intro e
          rename_i v w vs ws
          unfold rdL at e
          cases h5 : rd n S v with
          | none => rw [h5] at e; cases e
          | some d =>
            rw [h5] at e
            cases h6 : rdL (rd n S) vs with
            | none => rw [h6] at e; cases e
            | some ds' =>
              rw [h6] at e
              cases e
              exact .cons (rd_dp I a h5) (ih h6)
      cases o with
      | lst vs =>
        have e1 : (rdL (rd n S) vs).map PyData.list = some d := e
        cases h2 : rdL (rd n S) vs with
        | none => rw [h2] at e1; cases e1
        | some ds =>
          rw [h2] at e1
          cases e1
          obtain ⟨p, hp, rfl⟩ := r
          obtain ⟨p', hp', ws, h3, h4⟩ := I.get h
          rw [hp] at hp'
          cases hp'
          exact .lst (SqL.of h3) (all h4 h2)
      | tup vs =>
        have e1 : (rdL (rd n S) vs).map PyData.tuple = some d := e
        cases h2 : rdL (rd n S) vs with
        | none => rw [h2] at e1; cases e1
        | some ds =>
          rw [h2] at e1
          cases e1
          obtain ⟨p, hp, rfl⟩ := r
          obtain ⟨p', hp', ws, h3, h4⟩ := I.get h
          rw [hp] at hp'
          cases hp'
          exact .tup (SqT.of h3) (all h4 h2)
      | ins c fs => cases e
      | dct fs => cases e
/-! ### operators -/
abbrev O2 := OV → OV → Sto → Option (OV × Sto)
structure R2S (K : PySem.W.Frag) (r : R2) (o : O2) : Prop where
  run : ∀ {g : Gd} {H : Hp} {S : Sto} {m : List Addr} {a b z : OV} {x y : V} {S' : Sto}, Ob K g H S m → VR K g H m a x → VR K g H m b y → o a b S = some (z, S') →
    ∀ Q : VK, (∀ v H' m', Go H m H' m' → Ob K g H' S' m' → VR K g H' m' z v → Q v H') → r x y H Q
def xOp (o : O2) (fa fb : SE) : SE := fun ρ S => bnd (fa ρ S) fun a S1 => bnd (fb ρ S1) fun b S2 => o a b S2
theorem sm_op {r : R2} {o : O2} (hr : R2S K r o) (ha : SmE K ta fa) (hb : SmE K tb fb) : SmE K (tOp r ta tb) (xOp o fa fb) := ⟨fun {g ρ σ H S m z S'} I E e Q k => by
  obtain ⟨a, S1, e1, e⟩ := bnd_some e
  obtain ⟨b, S2, e2, e⟩ := bnd_some e
  refine ha.run I E e1 _ fun x H1 m1 k1 I1 r1 => ?_
  refine hb.run I1 (E.go k1) e2 _ fun y H2 m2 k2 I2 r2 => ?_
  exact hr.run I2 (r1.go k2) r2 e Q fun v H3 m3 k3 I3 r3 => k v H3 m3 ((k1.trans k2).trans k3) I3 r3⟩
theorem VR.int {b : Bool} {i : Int} {v : V} (h : VR K g H m (.dat b (.int i)) v) : v = .int i := by
  have := DatAt.dq h
  cases this
  rfl
theorem VR.bool {b : Bool} {i : Bool} {v : V} (h : VR K g H m (.dat b (.bool i)) v) : v = .bl i := by
  have := DatAt.dq h
  cases this
  rfl
theorem VR.ofInt {i : Int} : VR K g H m (.dat false (.int i)) (.int i) := DatAt.scal (.int i)
theorem VR.ofBool {i : Bool} : VR K g H m (.dat false (.bool i)) (.bl i) := DatAt.scal (.bl i)
def oInt (h : Int → Int → Int) : O2
  | .dat _ (.int i), .dat _ (.int j), S => some (.dat false (.int (h i j)), S)
  | _, _, _ => none
theorem oInt_inv {h : Int → Int → Int} {a b z : OV} (e : oInt h a b S = some (z, S')) : ∃ b1 b2 i j, a = .dat b1 (.int i) ∧ b = .dat b2 (.int j) ∧ z = .dat false (.int (h i j)) ∧ S' = S := by
  unfold oInt at e
  split at e
  · cases e; exact ⟨_, _, _, _, rfl, rfl, rfl, rfl⟩
  · cases e
theorem r2_int {h : Int → Int → Int} : R2S K (rI0 fun i j => .int (h i j)) (oInt h) := ⟨fun {g H S m a b z x y S'} I ra rb e Q k => by
  obtain ⟨b1, b2, i, j, rfl, rfl, rfl, rfl⟩ := oInt_inv e
  rw [ra.int, rb.int]
  exact ⟨i, j, rfl, rfl, k _ H m Go.refl I VR.ofInt⟩⟩
def oIntC (C : Int → Int → Prop) [∀ i j, Decidable (C i j)] (h : Int → Int → Int) : O2
  | .dat _ (.int i), .dat _ (.int j), S => if C i j then some (.dat false (.int (h i j)), S) else none
  | _, _, _ => none
theorem r2_intC {C C' : Int → Int → Prop} [∀ i j, Decidable (C i j)] {h : Int → Int → Int} (hC : ∀ i j, C i j → C' i j) : R2S K (rI C' fun i j => .int (h i j)) (oIntC C h) := ⟨fun {g H S m a b z x y S'} I ra rb e Q k => by
  unfold oIntC at e
  split at e
  · rename_i b1 i b2 j
    by_cases c : C i j
    · rw [if_pos c] at e
      cases e
      rw [ra.int, rb.int]
      exact ⟨i, j, rfl, rfl, hC i j c, k _ H m Go.refl I VR.ofInt⟩
    · rw [if_neg c] at e
      cases e
  · cases e⟩
def oBl (h : Int → Int → Bool) : O2
  | .dat _ (.int i), .dat _ (.int j), S => some (.dat false (.bool (h i j)), S)
  | _, _, _ => none
theorem r2_bl {h : Int → Int → Bool} : R2S K (rI0 fun i j => .bl (h i j)) (oBl h) := ⟨fun {g H S m a b z x y S'} I ra rb e Q k => by
  unfold oBl at e
  split at e
  · cases e
    rw [ra.int, rb.int]
    exact ⟨_, _, rfl, rfl, k _ H m Go.refl I VR.ofBool⟩
  · cases e⟩
/-- == of data, at any depth -/
def oEq (neg : Bool) : O2 := fun a b S => match rd 6 S a, rd 6 S b with
  | some d, some e => if SeqAt.shaped d = true ∧ SeqAt.shaped e = true then some (.dat false (.bool (if neg then !PyData.eqv d e else PyData.eqv d e)), S) else none
  | _, _ => none
theorem oEq_inv {neg : Bool} {a b z : OV} (e : oEq neg a b S = some (z, S')) : ∃ d e', rd 6 S a = some d ∧ rd 6 S b = some e' ∧ SeqAt.shaped d = true ∧ SeqAt.shaped e' = true ∧ z = .dat false (.bool (if neg then !PyData.eqv d e' else PyData.eqv d e')) ∧ S' = S := by
  unfold oEq at e
  split at e
  · rename_i d e' h1 h2
    split at e
    · rename_i h3
      cases e
      exact ⟨d, e', h1, h2, h3.1, h3.2, rfl, rfl⟩
    · cases e
  · cases e
theorem r2_eq : R2S K (rEqD K) (oEq false) := ⟨fun {g H S m a b z x y S'} I ra rb e Q k => by
  obtain ⟨d, e', h1, h2, h3, h4, rfl, rfl⟩ := oEq_inv e
  exact ⟨d, e', rd_dp I ra h1, rd_dp I rb h2, h3, h4, k _ H m Go.refl I VR.ofBool⟩⟩
theorem r2_ne : R2S K (rNeD K) (oEq true) := ⟨fun {g H S m a b z x y S'} I ra rb e Q k => by
  obtain ⟨d, e', h1, h2, h3, h4, rfl, rfl⟩ := oEq_inv e
  exact ⟨d, e', rd_dp I ra h1, rd_dp I rb h2, h3, h4, k _ H m Go.refl I VR.ofBool⟩⟩
/-- is None, is not None -/
def isNon : OV → Bool
  | .dat _ .none => true
  | _ => false
def oIsN (neg : Bool) : O2 := fun a b S => match b with
  | .dat _ .none => some (.dat false (.bool (if neg then !isNon a else isNon a)), S)
  | _ => none
theorem VR.isNon {a : OV} {x : V} (r : VR K g H m a x) : decide (x = V.non) = isNon a := by
  cases a with
  | dat b d =>
    have := DatAt.dq r
    cases this <;> rfl
  | own i =>
    obtain ⟨p, _, rfl⟩ := r
    rfl
  | scr ns =>
    obtain ⟨p, F, rfl, _⟩ := r
    rfl
theorem r2_isN : R2S K (fun x y H Q => y = .non ∧ Q (.bl (decide (x = .non))) H) (oIsN false) := ⟨fun {g H S m a b z x y S'} I ra rb e Q k => by
  unfold oIsN at e
  split at e
  · cases e
    have := DatAt.dq rb
    cases this
    refine ⟨rfl, ?_⟩
    rw [ra.isNon]
    exact k _ H m Go.refl I VR.ofBool
  · cases e⟩
theorem r2_notN : R2S K (fun x y H Q => y = .non ∧ Q (.bl (!decide (x = .non))) H) (oIsN true) := ⟨fun {g H S m a b z x y S'} I ra rb e Q k => by
  unfold oIsN at e
  split at e
  · cases e
    have := DatAt.dq rb
    cases this
    refine ⟨rfl, ?_⟩
    rw [ra.isNon]
    exact k _ H m Go.refl I VR.ofBool
  · cases e⟩
/-- is True, is not True (of truths) -/
def oIsB (neg : Bool) : O2
  | .dat _ (.bool a), .dat _ (.bool b), S => some (.dat false (.bool (if neg then !decide (a = b) else decide (a = b))), S)
  | _, _, _ => none
theorem r2_isB : R2S K rIsB (oIsB false) := ⟨fun {g H S m a b z x y S'} I ra rb e Q k => by
  unfold oIsB at e
  split at e
  · cases e
    rw [ra.bool, rb.bool]
    exact ⟨_, _, rfl, rfl, k _ H m Go.refl I VR.ofBool⟩
  · cases e⟩
theorem r2_notB : R2S K rNotB (oIsB true) := ⟨fun {g H S m a b z x y S'} I ra rb e Q k => by
  unfold oIsB at e
  split at e
  · cases e
    rw [ra.bool, rb.bool]
    exact ⟨_, _, rfl, rfl, k _ H m Go.refl I VR.ofBool⟩
  · cases e⟩
/-! ### in, of flat things; in, of data in a list -/
def flatD : PyData → Bool
  | .none => true
  | .bool _ => true
  | .int _ => true
  | .str _ => true
  | _ => false
theorem flatV_of {F : Hp} {v : V} {d : PyData} (h : Dp K F v d) (e : flatD d = true) : flatV v = true := by
  cases h <;> first | rfl | cases e
theorem eqV_of {F : Hp} {x y : V} {d e : PyData} (h : Dp K F x d) (h' : Dp K F y e) (f1 : flatD d = true) (f2 : flatD e = true) : eqV x y = PyData.eqv d e := by
  cases h <;> cases h' <;> first | rfl | (exact nomatch f1) | (exact nomatch f2) | (simp [eqV, PyData.eqv]; done)
theorem inV_of {F : Hp} {x : V} {d : PyData} (h : Dp K F x d) (f : flatD d = true) : ∀ {ws : List V} {ds : List PyData}, DpAll K F ws ds → ds.all flatD = true → ws.all flatV = true ∧ inV x ws = ds.any fun z => PyData.eqv z d
  | _, _, .nil, _ => ⟨rfl, rfl⟩
  | _, _, .cons a t, e => by
    rw [List.all_cons, Bool.and_eq_true] at e
    obtain ⟨h1, h2⟩ := inV_of h f t e.2
    refine ⟨by rw [List.all_cons, flatV_of a e.1, h1] <;> rfl, ?_⟩
    show (_ :: _ : List V).any _ = _
    rw [List.any_cons, List.any_cons, eqV_of a h e.1 f]
    rw [show (List.any _ fun y => eqV y x) = _ from h2]
def oIn (neg : Bool) : O2 := fun a b S => match rd 6 S a, rd 6 S b with
  | some d, some (.list ds) => if flatD d = true ∧ ds.all flatD = true then some (.dat false (.bool (if neg then !ds.any (fun z => PyData.eqv z d) else ds.any fun z => PyData.eqv z d)), S) else none
  | some d, some (.tuple ds) => if flatD d = true ∧ ds.all flatD = true then some (.dat false (.bool (if neg then !ds.any (fun z => PyData.eqv z d) else ds.any fun z => PyData.eqv z d)), S) else none
  | _, _ => none
theorem r2_in {neg : Bool} : R2S K (rIn K neg) (oIn neg) := ⟨fun {g H S m a b z x y S'} I ra rb e Q k => by
  unfold oIn at e
  split at e
  · rename_i d ds h1 h2
    split at e
    · rename_i h3
      cases e
      have h4 := rd_dp I rb h2
      cases h4 with
      | lst s a =>
        obtain ⟨h5, h6⟩ := inV_of (rd_dp I ra h1) h3.1 a h3.2
        refine ⟨_, _, rfl, .inl s, flatV_of (rd_dp I ra h1) h3.1, h5, ?_⟩
        rw [h6]
        exact k _ H m Go.refl I VR.ofBool
    · cases e
  · rename_i d ds h1 h2
    split at e
    · rename_i h3
      cases e
      have h4 := rd_dp I rb h2
      cases h4 with
      | tup s a =>
        obtain ⟨h5, h6⟩ := inV_of (rd_dp I ra h1) h3.1 a h3.2
        refine ⟨_, _, rfl, .inr s, flatV_of (rd_dp I ra h1) h3.1, h5, ?_⟩
        rw [h6]
        exact k _ H m Go.refl I VR.ofBool
    · cases e
  · cases e⟩
def oInD (neg : Bool) : O2 := fun a b S => match rd 6 S a, rd 6 S b with
  | some d, some (.list ds) => if SeqAt.shaped d = true ∧ SeqAt.shaped (.list ds) = true then some (.dat false (.bool (if neg then !ds.any (fun z => PyData.eqv z d) else ds.any fun z => PyData.eqv z d)), S) else none
  | _, _ => none
theorem oInD_inv {neg : Bool} {a b z : OV} (e : oInD neg a b S = some (z, S')) : ∃ d ds, rd 6 S a = some d ∧ rd 6 S b = some (.list ds) ∧ SeqAt.shaped d = true ∧ SeqAt.shaped (.list ds) = true ∧ z = .dat false (.bool (if neg then !ds.any (fun z => PyData.eqv z d) else ds.any fun z => PyData.eqv z d)) ∧ S' = S := by
  unfold oInD at e
  split at e
  · rename_i d ds h1 h2
    split at e
    · rename_i h3
      cases e
      exact ⟨d, ds, h1, h2, h3.1, h3.2, rfl, rfl⟩
    · cases e
  · cases e
theorem r2_inD : R2S K (rInD K) (oInD false) := ⟨fun {g H S m a b z x y S'} I ra rb e Q k => by
  obtain ⟨d, ds, h1, h2, h3, h4, rfl, rfl⟩ := oInD_inv e
  exact ⟨d, ds, rd_dp I ra h1, rd_dp I rb h2, h3, h4, k _ H m Go.refl I VR.ofBool⟩⟩
theorem r2_notInD : R2S K (rNotInD K) (oInD true) := ⟨fun {g H S m a b z x y S'} I ra rb e Q k => by
  obtain ⟨d, ds, h1, h2, h3, h4, rfl, rfl⟩ := oInD_inv e
  exact ⟨d, ds, rd_dp I ra h1, rd_dp I rb h2, h3, h4, k _ H m Go.refl I VR.ofBool⟩⟩
/-! ### places -/
def oIx : O2
  | .dat b (.list ds), .dat _ (.int i), S => (atI ds i).map fun d => (mkD b d, S)
  | .dat b (.tuple ds), .dat _ (.int i), S => (atI ds i).map fun d => (mkD b d, S)
  | .own j, .dat _ (.int i), S => match S[j]? with
    | some (.lst vs) => (atI vs i).map fun v => (v, S)
    | some (.tup vs) => (atI vs i).map fun v => (v, S)
    | _ => none
  | _, _, _ => none
theorem atI_rel {α β : Type} {R : α → β → Prop} {xs : List α} {ys : List β} {i : Int} {x : α} (hl : xs.length = ys.length) (h : atI xs i = some x) (r : ∀ (j : Nat) x, xs[j]? = some x → ∃ y, ys[j]? = some y ∧ R x y) : ∃ y, atI ys i = some y ∧ R x y := by
  unfold atI at h ⊢
  rw [← hl]
  cases e : ixN xs.length i with
  | none => rw [e] at h; cases h
  | some j =>
    rw [e] at h
    exact r j x h
theorem r2_ix : R2S K (rIx K) oIx := ⟨fun {g H S m a b z x y S'} I ra rb e Q k => by
  unfold oIx at e
  split at e
  · rename_i b ds b2 i
    cases h : atI ds i with
    | none => rw [h] at e; cases e
    | some d =>
      rw [h] at e
      cases e
      obtain ⟨p, ws, rfl, h2, h3⟩ := DatAt.items ra
      have h4 := h3.vsR (K := K)
      have h5 : atI (ds.map (mkD b)) i = some (mkD b d) := by
        unfold atI at h ⊢
        rw [List.length_map]
        cases e : ixN ds.length i with
        | none => rw [e] at h; cases h
        | some j =>
          rw [e] at h
          have h' : ds[j]? = some d := h
          show (ds.map (mkD b))[j]? = _
          rw [List.getElem?_map, h']; rfl
      obtain ⟨w, h6, h7⟩ := atI_rel (R := VR K g H m) h4.length h5 fun j x hx => VsR.get h4 hx
      rw [rb.int]
      exact .inl ⟨p, ws, i, w, rfl, rfl, SqL.of h2, h6, k w H m Go.refl I h7⟩
  · rename_i b ds b2 i
    cases h : atI ds i with
    | none => rw [h] at e; cases e
    | some d =>
      rw [h] at e
      cases e
      obtain ⟨p, ws, rfl, h2, h3⟩ := DatAt.itemsT ra
      have h4 := h3.vsR (K := K)
      have h5 : atI (ds.map (mkD b)) i = some (mkD b d) := by
        unfold atI at h ⊢
        rw [List.length_map]
        cases e : ixN ds.length i with
        | none => rw [e] at h; cases h
        | some j =>
          rw [e] at h
          have h' : ds[j]? = some d := h
          show (ds.map (mkD b))[j]? = _
          rw [List.getElem?_map, h']; rfl
      obtain ⟨w, h6, h7⟩ := atI_rel (R := VR K g H m) h4.length h5 fun j x hx => VsR.get h4 hx
      rw [rb.int]
      exact .inr (.inl ⟨p, ws, i, w, rfl, rfl, SqT.of h2, h6, k w H m Go.refl I h7⟩)
  · rename_i j b2 i
    split at e
    · rename_i vs hs
      cases h : atI vs i with
      | none => rw [h] at e; cases e
      | some d =>
        rw [h] at e
        cases e
        obtain ⟨p, hp, rfl⟩ := ra
        obtain ⟨p', hp', ws, h2, h4⟩ := I.get hs
        rw [hp] at hp'
        cases hp'
        obtain ⟨w, h6, h7⟩ := atI_rel (R := VR K g H m) h4.length h fun j x hx => VsR.get h4 hx
        rw [rb.int]
        exact .inl ⟨p, ws, i, w, rfl, rfl, SqL.of h2, h6, k w H m Go.refl I h7⟩
    · rename_i vs hs
      cases h : atI vs i with
      | none => rw [h] at e; cases e
      | some d =>
        rw [h] at e
        cases e
        obtain ⟨p, hp, rfl⟩ := ra
        obtain ⟨p', hp', ws, h2, h4⟩ := I.get hs
        rw [hp] at hp'
        cases hp'
        obtain ⟨w, h6, h7⟩ := atI_rel (R := VR K g H m) h4.length h fun j x hx => VsR.get h4 hx
        rw [rb.int]
        exact .inr (.inl ⟨p, ws, i, w, rfl, rfl, SqT.of h2, h6, k w H m Go.refl I h7⟩)
    · cases e
  · cases e⟩
/-! ### - n -/
def xNeg (fa : SE) : SE := fun ρ S => bnd (fa ρ S) fun a S1 => match a with
  | .dat _ (.int i) => some (.dat false (.int (-i)), S1)
  | _ => none
theorem sm_neg (ha : SmE K ta fa) : SmE K (tUn (rU fun i => .int (-i)) ta) (xNeg fa) := ⟨fun {g ρ σ H S m z S'} I E e Q k => by
  obtain ⟨a, S1, e1, e⟩ := bnd_some e
  refine ha.run I E e1 _ fun x H1 m1 k1 I1 r1 => ?_
  split at e
  · cases e
    rw [r1.int]
    exact ⟨_, rfl, k _ H1 m1 k1 I1 VR.ofInt⟩
  · cases e⟩
/-! ### tests -/
def isB (a : OV) : Option Bool := match a with
  | .dat _ (.bool b) => some b
  | _ => none
def xB (fa : SE) : SC := fun ρ S => bnd (fa ρ S) fun a S1 => match a with
  | .dat _ (.bool b) => some (b, S1)
  | _ => none
theorem smc_test (ha : SmE K ta fa) : SmC K (tTest ta) (xB fa) := ⟨fun {g ρ σ H S m z S'} I E e Q k => by
  obtain ⟨a, S1, e1, e⟩ := bnd_some e
  refine ha.run I E e1 _ fun x H1 m1 k1 I1 r1 => ?_
  split at e
  · cases e
    exact ⟨_, r1.bool, k H1 m1 k1 I1⟩
  · cases e⟩
theorem smc_B (ha : SmE K ta fa) : SmC K (tB ta) (xB fa) := ⟨fun {g ρ σ H S m z S'} I E e Q k => by
  obtain ⟨a, S1, e1, e⟩ := bnd_some e
  refine ha.run I E e1 _ fun x H1 m1 k1 I1 r1 => ?_
  split at e
  · cases e
    exact ⟨_, r1.bool, k H1 m1 k1 I1⟩
  · cases e⟩
variable {t u : TT} {ft fu : SC}
def xAnd (ft fu : SC) : SC := fun ρ S => bnd (ft ρ S) fun b S1 => if b = true then fu ρ S1 else some (false, S1)
def xOr (ft fu : SC) : SC := fun ρ S => bnd (ft ρ S) fun b S1 => if b = true then some (true, S1) else fu ρ S1
def xNot (ft : SC) : SC := fun ρ S => bnd (ft ρ S) fun b S1 => some (!b, S1)
theorem smc_and (h : SmC K t ft) (h' : SmC K u fu) : SmC K (tAnd t u) (xAnd ft fu) := ⟨fun {g ρ σ H S m z S'} I E e Q k => by
  obtain ⟨a, S1, e1, e⟩ := bnd_some e
  refine h.run I E e1 _ fun H1 m1 k1 I1 => ?_
  cases a with
  | true => exact iteT (h'.run I1 (E.go k1) e Q fun H2 m2 k2 I2 => k H2 m2 (k1.trans k2) I2)
  | false =>
    cases e
    exact iteF (k H1 m1 k1 I1)⟩
theorem smc_or (h : SmC K t ft) (h' : SmC K u fu) : SmC K (tOr t u) (xOr ft fu) := ⟨fun {g ρ σ H S m z S'} I E e Q k => by
  obtain ⟨a, S1, e1, e⟩ := bnd_some e
  refine h.run I E e1 _ fun H1 m1 k1 I1 => ?_
  cases a with
  | false => exact iteF (h'.run I1 (E.go k1) e Q fun H2 m2 k2 I2 => k H2 m2 (k1.trans k2) I2)
  | true =>
    cases e
    exact iteT (k H1 m1 k1 I1)⟩
theorem smc_not (h : SmC K t ft) : SmC K (tNot t) (xNot ft) := ⟨fun {g ρ σ H S m z S'} I E e Q k => by
  obtain ⟨a, S1, e1, e⟩ := bnd_some e
  cases e
  exact h.run I E e1 _ fun H1 m1 k1 I1 => k H1 m1 k1 I1⟩
def xYes : SC := fun _ S => some (true, S)
theorem smc_yes : SmC K tYes xYes := ⟨fun {g ρ σ H S m z S'} I E e Q k => by
  cases e
  exact k H m Go.refl I⟩
/-- as values -/
def xAndV (fa fb : SE) : SE := fun ρ S => bnd (fa ρ S) fun a S1 => match a with
  | .dat _ (.bool true) => fb ρ S1
  | .dat _ (.bool false) => some (.dat false (.bool false), S1)
  | _ => none
def xOrV (fa fb : SE) : SE := fun ρ S => bnd (fa ρ S) fun a S1 => match a with
  | .dat _ (.bool true) => some (.dat false (.bool true), S1)
  | .dat _ (.bool false) => fb ρ S1
  | _ => none
def xNotV (fa : SE) : SE := fun ρ S => bnd (fa ρ S) fun a S1 => match a with
  | .dat _ (.bool b) => some (.dat false (.bool (!b)), S1)
  | _ => none
theorem sm_andV (ha : SmE K ta fa) (hb : SmE K tb fb) : SmE K (tAndV ta tb) (xAndV fa fb) := ⟨fun {g ρ σ H S m z S'} I E e Q k => by
  obtain ⟨a, S1, e1, e⟩ := bnd_some e
  refine ha.run I E e1 _ fun x H1 m1 k1 I1 r1 => ?_
  split at e
  · exact ⟨true, r1.bool, iteT (hb.run I1 (E.go k1) e Q fun v H2 m2 k2 I2 r2 => k v H2 m2 (k1.trans k2) I2 r2)⟩
  · cases e
    exact ⟨false, r1.bool, iteF (k _ H1 m1 k1 I1 VR.ofBool)⟩
  · cases e⟩
theorem sm_orV (ha : SmE K ta fa) (hb : SmE K tb fb) : SmE K (tOrV ta tb) (xOrV fa fb) := ⟨fun {g ρ σ H S m z S'} I E e Q k => by
  obtain ⟨a, S1, e1, e⟩ := bnd_some e
  refine ha.run I E e1 _ fun x H1 m1 k1 I1 r1 => ?_
  split at e
  · cases e
    exact ⟨true, r1.bool, iteT (k _ H1 m1 k1 I1 VR.ofBool)⟩
  · exact ⟨false, r1.bool, iteF (hb.run I1 (E.go k1) e Q fun v H2 m2 k2 I2 r2 => k v H2 m2 (k1.trans k2) I2 r2)⟩
  · cases e⟩
theorem sm_notV (ha : SmE K ta fa) : SmE K (tNotV ta) (xNotV fa) := ⟨fun {g ρ σ H S m z S'} I E e Q k => by
  obtain ⟨a, S1, e1, e⟩ := bnd_some e
  refine ha.run I E e1 _ fun x H1 m1 k1 I1 r1 => ?_
  split at e
  · cases e
    exact ⟨_, r1.bool, k _ H1 m1 k1 I1 VR.ofBool⟩
  · cases e⟩
def xIf (ft : SC) (fa fb : SE) : SE := fun ρ S => bnd (ft ρ S) fun b S1 => if b = true then fa ρ S1 else fb ρ S1
theorem sm_if (h : SmC K t ft) (ha : SmE K ta fa) (hb : SmE K tb fb) : SmE K (tIf t ta tb) (xIf ft fa fb) := ⟨fun {g ρ σ H S m z S'} I E e Q k => by
  obtain ⟨a, S1, e1, e⟩ := bnd_some e
  refine h.run I E e1 _ fun H1 m1 k1 I1 => ?_
  cases a with
  | true => exact iteT (ha.run I1 (E.go k1) e Q fun v H2 m2 k2 I2 r2 => k v H2 m2 (k1.trans k2) I2 r2)
  | false => exact iteF (hb.run I1 (E.go k1) e Q fun v H2 m2 k2 I2 r2 => k v H2 m2 (k1.trans k2) I2 r2)⟩
/-- .. of two new lists -/
def xIfL (ft : SC) (fa fb : SA) : SA := fun ρ S => bnd (ft ρ S) fun b S1 => if b = true then fa ρ S1 else fb ρ S1
theorem sml_if {fa fb : SA} (h : SmC K t ft) (ha : SmL K ta fa) (hb : SmL K tb fb) : SmL K (tIf t ta tb) (xIfL ft fa fb) := ⟨fun {g ρ σ H S m z S'} I E e Q k => by
  obtain ⟨a, S1, e1, e⟩ := bnd_some e
  refine h.run I E e1 _ fun H1 m1 k1 I1 => ?_
  cases a with
  | true => exact iteT (ha.run I1 (E.go k1) e Q fun p ws H2 m2 k2 n2 h2 I2 r2 => k p ws H2 m2 (k1.trans k2) (k1.dom p n2) h2 I2 r2)
  | false => exact iteF (hb.run I1 (E.go k1) e Q fun p ws H2 m2 k2 n2 h2 I2 r2 => k p ws H2 m2 (k1.trans k2) (k1.dom p n2) h2 I2 r2)⟩
/-- a < b < c -/
def xChain (o o' : O2) (fa fb fc : SE) : SE := fun ρ S => bnd (fa ρ S) fun a S1 => bnd (fb ρ S1) fun b S2 => bnd (o a b S2) fun z S3 => match z with
  | .dat _ (.bool true) => bnd (fc ρ S3) fun c S4 => o' b c S4
  | .dat _ (.bool false) => some (.dat false (.bool false), S3)
  | _ => none
theorem sm_chain {r r' : R2} {o o' : O2} (hr : R2S K r o) (hr' : R2S K r' o') (ha : SmE K ta fa) (hb : SmE K tb fb) (hc : SmE K tc fc) : SmE K (tChain r r' ta tb tc) (xChain o o' fa fb fc) := ⟨fun {g ρ σ H S m z S'} I E e Q k => by
  obtain ⟨a, S1, e1, e⟩ := bnd_some e
  obtain ⟨b, S2, e2, e⟩ := bnd_some e
  obtain ⟨z, S3, e3, e⟩ := bnd_some e
  refine ha.run I E e1 _ fun x H1 m1 k1 I1 r1 => ?_
  refine hb.run I1 (E.go k1) e2 _ fun y H2 m2 k2 I2 r2 => ?_
  refine hr.run I2 (r1.go k2) r2 e3 _ fun v H3 m3 k3 I3 r3 => ?_
  split at e
  · obtain ⟨c, S4, e4, e⟩ := bnd_some e
    refine ⟨true, r3.bool, iteT ?_⟩
    refine hc.run I3 (((E.go k1).go k2).go k3) e4 _ fun w H4 m4 k4 I4 r4 => ?_
    exact hr'.run I4 ((r2.go k3).go k4) r4 e Q fun v H5 m5 k5 I5 r5 => k v H5 m5 ((((k1.trans k2).trans k3).trans k4).trans k5) I5 r5
  · cases e
    exact ⟨false, r3.bool, iteF (k _ H3 m3 ((k1.trans k2).trans k3) I3 VR.ofBool)⟩
  · cases e⟩
/-! ### argument lists, tuples, lists -/
def xNil : SA := fun _ S => some ([], S)
def xCons (f : SE) (fr : SA) : SA := fun ρ S => bnd (f ρ S) fun a S1 => bnd (fr ρ S1) fun as S2 => some (a :: as, S2)
theorem sma_nil : SmA K tNil xNil := ⟨fun {g ρ σ H S m z S'} I E e Q k => by
  cases e
  exact k [] H m Go.refl I .nil⟩
theorem sma_cons {tr : TA} {fr : SA} (ha : SmE K ta fa) (hr : SmA K tr fr) : SmA K (tCons ta tr) (xCons fa fr) := ⟨fun {g ρ σ H S m z S'} I E e Q k => by
  obtain ⟨a, S1, e1, e⟩ := bnd_some e
  obtain ⟨as, S2, e2, e⟩ := bnd_some e
  cases e
  refine ha.run I E e1 _ fun x H1 m1 k1 I1 r1 => ?_
  exact hr.run I1 (E.go k1) e2 _ fun xs H2 m2 k2 I2 r2 => k (x :: xs) H2 m2 (k1.trans k2) I2 (.cons (r1.go k2) r2)⟩
theorem sz_le {n : Nat} (h : n ≤ 100000) : n ≤ sizeLine := Nat.le_trans h (by decide)
def xTup (fr : SA) : SE := fun ρ S => bnd (fr ρ S) fun as S1 => if as.length ≤ 1000 then (match allDat as with
  | some (b, ds) => some (mkD b (.tuple ds), S1)
  | none => none) else none
theorem sm_tup {ta : TA} {fr : SA} (h : SmA K ta fr) : SmE K (tTup ta) (xTup fr) := ⟨fun {g ρ σ H S m z S'} I E e Q k => by
  obtain ⟨as, S1, e1, e⟩ := bnd_some e
  split at e
  · rename_i hl
    split at e
    · rename_i b ds hd
      cases e
      refine h.run I E e1 _ fun xs H1 m1 k1 I1 r1 => ⟨by rw [← r1.length]; exact sz_le (Nat.le_trans hl (by decide)), fun p hp => ?_⟩
      exact k _ _ m1 (k1.trans (Go.fresh hp)) (I1.fresh hp) ((allDat_at hd r1).tuple hp (fun q hq => I1.there hq) I1.avn).mkD
    · cases e
  · cases e⟩
def xLst (fr : SA) : SA := fun ρ S => bnd (fr ρ S) fun as S1 => if as.length ≤ 1000 then some (as, S1) else none
theorem sml_lst {ta : TA} {fr : SA} (h : SmA K ta fr) : SmL K (tLst ta) (xLst fr) := ⟨fun {g ρ σ H S m z S'} I E e Q k => by
  obtain ⟨as, S1, e1, e⟩ := bnd_some e
  split at e
  · rename_i hl
    cases e
    refine h.run I E e1 _ fun xs H1 m1 k1 I1 r1 => ⟨by rw [← r1.length]; exact sz_le (Nat.le_trans hl (by decide)), fun p hp => lay I1 k1 r1 k p hp⟩
  · cases e⟩
/-- a tuple that holds objects of the store -/
def xTupO (fr : SA) : SE := fun ρ S => bnd (fr ρ S) fun as S1 => if as.length ≤ 1000 then some (.own S1.length, S1 ++ [.tup as]) else none
theorem sm_tupO {ta : TA} {fr : SA} (h : SmA K ta fr) : SmE K (tTup ta) (xTupO fr) := ⟨fun {g ρ σ H S m z S'} I E e Q k => by
  obtain ⟨as, S1, e1, e⟩ := bnd_some e
  split at e
  · rename_i hl
    cases e
    refine h.run I E e1 _ fun xs H1 m1 k1 I1 r1 => ⟨by rw [← r1.length]; exact sz_le (Nat.le_trans hl (by decide)), fun p hp => ?_⟩
    have kp : Go H1 m1 (upd H1 p (.tup xs)) (m1 ++ [p]) := Go.add hp
    refine k _ _ (m1 ++ [p]) (k1.trans kp) (I1.add hp ⟨xs, upd_same, r1.go kp⟩) ⟨p, ?_, rfl⟩
    rw [← I1.len]
    simp
  · cases e⟩
/-- a new list is data; is an object of the store -/
def xDat (f : SA) : SE := fun ρ S => bnd (f ρ S) fun as S1 => match allDat as with
  | some (b, ds) => some (.dat b (.list ds), S1)
  | none => none
theorem sm_dat {f : SA} (h : SmL K te f) : SmE K te (xDat f) := ⟨fun {g ρ σ H S m z S'} I E e Q k => by
  obtain ⟨as, S1, e1, e⟩ := bnd_some e
  split at e
  · rename_i b ds hd
    cases e
    refine h.run I E e1 _ fun p ws H1 m1 k1 n1 h1 I1 r1 => ?_
    refine k _ H1 m1 k1 I1.drop ?_
    exact (allDat_at hd r1).list h1 (fun q => I1.dis p q List.mem_cons_self) (fun q => I.avn p q n1) (I.dom p n1)
  · cases e⟩
def xOwn (f : SA) : SE := fun ρ S => bnd (f ρ S) fun as S1 => some (.own S1.length, S1 ++ [.lst as])
theorem Go.more {p : Addr} (k : Go H m H' m') (hp : H p = none) : Go H m H' (m' ++ [p]) := by
  obtain ⟨ms, e⟩ := k.pre
  refine ⟨⟨ms ++ [p], by rw [e]; simp⟩, fun q hq => ?_, k.keep, k.dom⟩
  rcases List.mem_append.mp hq with h | h
  · exact k.new q h
  · exact .inr (by rw [List.mem_singleton.mp h]; exact hp)
theorem sm_own {f : SA} (h : SmL K te f) : SmE K te (xOwn f) := ⟨fun {g ρ σ H S m z S'} I E e Q k => by
  obtain ⟨as, S1, e1, e⟩ := bnd_some e
  cases e
  refine h.run I E e1 _ fun p ws H1 m1 k1 n1 h1 I1 r1 => ?_
  refine k _ H1 (m1 ++ [p]) (k1.more n1) (I1.take (fun q => I.avn p q n1) ⟨ws, h1, r1⟩) ⟨p, ?_, rfl⟩
  rw [← I1.len]
  simp⟩
end
end Nc
set_option Elab.async false
set_option linter.all false
set_option maxRecDepth 100000
namespace Nc
open PySem PySem.Spec PyProof.Rows L2
section
variable {K : PySem.W.Frag} {g g2 : Gd} {H H' H1 H2 : Hp} {m m' m1 m2 : List Addr} {S S' S1 S2 : Sto} {ρ : Env} {σ : L2.St} {ta tb tc te : TE} {fa fb fc f : SE}
/-! ### the items of a list that is read -/
def lstItems (S : Sto) : OV → Option (List OV)
  | .dat b (.list ds) => some (ds.map (mkD b))
  | .own i => match S[i]? with
    | some (.lst vs) => some vs
    | _ => none
  | _ => none
theorem lstItems_ok (I : Ob K g H S m) {v : OV} {x : V} {vs : List OV} (r : VR K g H m v x) (e : lstItems S v = some vs) : ∃ p ws, x = .ref p ∧ H p = some (.lst ws) ∧ VsR K g H m vs ws := by
  unfold lstItems at e
  split at e
  · cases e
    obtain ⟨p, ws, rfl, h2, h3⟩ := DatAt.items r
    exact ⟨p, ws, rfl, h2, h3.vsR⟩
  · split at e
    · rename_i i vs' h
      cases e
      obtain ⟨p, hp, rfl⟩ := r
      obtain ⟨p', hp', ws, h2, h4⟩ := I.get h
      rw [hp] at hp'
      cases hp'
      exact ⟨p, ws, rfl, h2, h4⟩
    · cases e
  · cases e
/-- .. the script too -/
def seqItems (S : Sto) : OV → Option (List OV)
  | .scr ns => some (ns.map fun n => .dat false (.int n))
  | v => lstItems S v
theorem vsR_ints : ∀ ns : List Int, VsR K g H m (ns.map fun n => OV.dat false (.int n)) (ns.map V.int)
  | [] => .nil
  | n :: ns => .cons VR.ofInt (vsR_ints ns)
theorem seqItems_ok (I : Ob K g H S m) {v : OV} {x : V} {vs : List OV} (r : VR K g H m v x) (e : seqItems S v = some vs) : ∃ p ws, x = .ref p ∧ SqL K H p ws ∧ VsR K g H m vs ws := by
  cases v with
  | scr ns =>
    cases e
    obtain ⟨p, F, rfl, h2, h3⟩ := r
    exact ⟨p, _, rfl, h2.le.seq h3, vsR_ints ns⟩
  | dat b d =>
    obtain ⟨p, ws, h1, h2, h3⟩ := lstItems_ok I r e
    exact ⟨p, ws, h1, SqL.of h2, h3⟩
  | own i =>
    obtain ⟨p, ws, h1, h2, h3⟩ := lstItems_ok I r e
    exact ⟨p, ws, h1, SqL.of h2, h3⟩
@[simp] theorem seqItems_dat (S : Sto) (b : Bool) (ds : List PyData) : seqItems S (.dat b (.list ds)) = some (ds.map (mkD b)) := rfl
@[simp] theorem seqItems_scr (S : Sto) (ns : List Int) : seqItems S (.scr ns) = some (ns.map fun n => .dat false (.int n)) := rfl
@[simp] theorem seqItems_own (S : Sto) (i : Nat) : seqItems S (.own i) = (match S[i]? with | some (.lst vs) => some vs | _ => none) := rfl
@[simp] theorem lstItems_dat (S : Sto) (b : Bool) (ds : List PyData) : lstItems S (.dat b (.list ds)) = some (ds.map (mkD b)) := rfl
@[simp] theorem lstItems_own (S : Sto) (i : Nat) : lstItems S (.own i) = (match S[i]? with | some (.lst vs) => some vs | _ => none) := rfl
/-! ### slices -/
def cutG {α : Type} (xs : List α) (lo hi : Option Int) : List α := (xs.drop (HT.sIx xs.length 0 lo)).take (HT.sIx xs.length xs.length hi - HT.sIx xs.length 0 lo)
theorem VsR.cut {vs : List OV} {ws : List V} (h : VsR K g H m vs ws) (lo hi : Option Int) : VsR K g H m (cutG vs lo hi) (cutV ws lo hi) := by
  unfold cutG cutV
  rw [h.length]
  exact (h.drop _).take _
theorem smo_none : SmO K tNoPart (fun _ S => some (none, S)) := ⟨fun {g ρ σ H S m z S'} I E e Q k => by
  cases e
  exact k H m Go.refl I⟩
def xPart (fa : SE) : SO := fun ρ S => bnd (fa ρ S) fun a S1 => match a with
  | .dat _ (.int i) => some (some i, S1)
  | _ => none
def xNoPart : SO := fun _ S => some (none, S)
theorem smo_no : SmO K tNoPart xNoPart := smo_none
theorem smo_part (ha : SmE K ta fa) : SmO K (tPart ta) (xPart fa) := ⟨fun {g ρ σ H S m z S'} I E e Q k => by
  obtain ⟨a, S1, e1, e⟩ := bnd_some e
  refine ha.run I E e1 _ fun x H1 m1 k1 I1 r1 => ?_
  split at e
  · cases e
    exact ⟨_, r1.int, k H1 m1 k1 I1⟩
  · cases e⟩
variable {tl th : TO} {fl fh : SO}
def xSl (fa : SE) (fl fh : SO) : SA := fun ρ S => bnd (fa ρ S) fun a S1 => bnd (fl ρ S1) fun lo S2 => bnd (fh ρ S2) fun hi S3 => match seqItems S3 a with
  | some vs => some (cutG vs lo hi, S3)
  | none => none
theorem sml_sl (ha : SmE K ta fa) (hl : SmO K tl fl) (hh : SmO K th fh) : SmL K (tSl (rSlL K) ta tl th) (xSl fa fl fh) := ⟨fun {g ρ σ H S m z S'} I E e Q k => by
  obtain ⟨a, S1, e1, e⟩ := bnd_some e
  obtain ⟨lo, S2, e2, e⟩ := bnd_some e
  obtain ⟨hi, S3, e3, e⟩ := bnd_some e
  refine ha.run I E e1 _ fun x H1 m1 k1 I1 r1 => ?_
  refine hl.run I1 (E.go k1) e2 _ fun H2 m2 k2 I2 => ?_
  refine hh.run I2 ((E.go k1).go k2) e3 _ fun H3 m3 k3 I3 => ?_
  split at e
  · rename_i vs h
    cases e
    obtain ⟨p, ws, rfl, h2, h3⟩ := seqItems_ok I3 ((r1.go k2).go k3) h
    exact ⟨p, ws, rfl, h2, fun q hq => lay I3 ((k1.trans k2).trans k3) (h3.cut lo hi) k q hq⟩
  · cases e⟩
theorem DqAll.drop {F : Hp} : ∀ (n : Nat) {ws : List V} {ds : List PyData}, DqAll F ws ds → DqAll F (ws.drop n) (ds.drop n)
  | 0, _, _, h => h
  | _ + 1, _, _, .nil => .nil
  | n + 1, _, _, .cons _ t => DqAll.drop n t
theorem DqAll.take {F : Hp} : ∀ (n : Nat) {ws : List V} {ds : List PyData}, DqAll F ws ds → DqAll F (ws.take n) (ds.take n)
  | 0, _, _, _ => .nil
  | _ + 1, _, _, .nil => .nil
  | n + 1, _, _, .cons a t => .cons a (DqAll.take n t)
theorem DqAll.append {F : Hp} : ∀ {ws : List V} {ds : List PyData} {ws' : List V} {ds' : List PyData}, DqAll F ws ds → DqAll F ws' ds' → DqAll F (ws ++ ws') (ds ++ ds')
  | _, _, _, _, .nil, h => h
  | _, _, _, _, .cons a t, h => .cons a (DqAll.append t h)
theorem DatsAt.len {b : Bool} {ws : List V} {ds : List PyData} (h : DatsAt g H m b ws ds) : ws.length = ds.length := by
  obtain ⟨F, _, _, h4⟩ := h.ex
  exact DqAll.vs h4
theorem DatsAt.cut {b : Bool} {ws : List V} {ds : List PyData} (h : DatsAt g H m b ws ds) (lo hi : Option Int) : DatsAt g H m b (cutV ws lo hi) (cutG ds lo hi) := by
  obtain ⟨F, h1, h3, h4⟩ := h.ex
  refine ⟨F, h1, h3, ?_⟩
  unfold cutG cutV
  rw [h.len]
  exact (h4.drop _).take _
theorem DatsAt.mono {b c : Bool} {ws : List V} {ds : List PyData} (h : DatsAt g H m b ws ds) (e : b = true → c = true) : DatsAt g H m c ws ds := by
  obtain ⟨F, h1, h3, h4⟩ := h.ex
  exact ⟨F, h1, h3.mono e, h4⟩
theorem DatsAt.append {b c : Bool} {ws ws' : List V} {ds ds' : List PyData} (h : DatsAt g H m b ws ds) (h' : DatsAt g H m c ws' ds') : DatsAt g H m (b || c) (ws ++ ws') (ds ++ ds') := by
  obtain ⟨F1, a1, a4, a5⟩ := h.ex
  obtain ⟨F2, b1, b4, b5⟩ := h'.ex
  obtain ⟨F, c1, c2, c3, c4⟩ := a1.union b1
  refine ⟨F, c1, fun a o e => ?_, (DqAll.mono c2 a5).append (DqAll.mono c3 b5)⟩
  rcases c4 a o e with q | q
  · exact a4.mono (fun z => by rw [z]; rfl) a o q
  · exact b4.mono (fun z => by rw [z, Bool.or_true]) a o q
def xSlT (fa : SE) (fl fh : SO) : SE := fun ρ S => bnd (fa ρ S) fun a S1 => bnd (fl ρ S1) fun lo S2 => bnd (fh ρ S2) fun hi S3 => match a with
  | .dat b (.tuple ds) => some (mkD b (.tuple (cutG ds lo hi)), S3)
  | _ => none
theorem cut_whole {α : Type} (xs : List α) {lo hi : Option Int} (h : HT.sIx xs.length 0 lo = 0 ∧ HT.sIx xs.length xs.length hi = xs.length) : cutG xs lo hi = xs := by
  unfold cutG
  rw [h.1, h.2]
  simp
theorem sm_slT (ha : SmE K ta fa) (hl : SmO K tl fl) (hh : SmO K th fh) : SmE K (tSl (rSlA K) ta tl th) (xSlT fa fl fh) := ⟨fun {g ρ σ H S m z S'} I E e Q k => by
  obtain ⟨a, S1, e1, e⟩ := bnd_some e
  obtain ⟨lo, S2, e2, e⟩ := bnd_some e
  obtain ⟨hi, S3, e3, e⟩ := bnd_some e
  refine ha.run I E e1 _ fun x H1 m1 k1 I1 r1 => ?_
  refine hl.run I1 (E.go k1) e2 _ fun H2 m2 k2 I2 => ?_
  refine hh.run I2 ((E.go k1).go k2) e3 _ fun H3 m3 k3 I3 => ?_
  have kk := (k1.trans k2).trans k3
  have rr := (r1.go k2).go k3
  split at e
  · rename_i b ds _ _
    cases e
    obtain ⟨p, ws, rfl, h2, h3⟩ := DatAt.itemsT rr
    refine ⟨p, ws, rfl, SqT.of h2, fun hw => ?_, fun _ q hq => ?_⟩
    · rw [h3.len] at hw
      refine k _ H3 m3 kk I3 ?_
      rw [cut_whole ds hw]
      exact DatAt.mkD rr
    · exact k _ _ m3 (kk.trans (Go.fresh hq)) (I3.fresh hq) ((h3.cut lo hi).tuple hq (fun q hq => I3.there hq) I3.avn).mkD
  · cases e⟩
/-- xs[::-1] -/
def xRev (fa : SE) : SA := fun ρ S => bnd (fa ρ S) fun a S1 => match seqItems S1 a with
  | some vs => some (vs.reverse, S1)
  | none => none
theorem sml_rev (ha : SmE K ta fa) : SmL K (tRevL K ta) (xRev fa) := ⟨fun {g ρ σ H S m z S'} I E e Q k => by
  obtain ⟨a, S1, e1, e⟩ := bnd_some e
  refine ha.run I E e1 _ fun x H1 m1 k1 I1 r1 => ?_
  split at e
  · rename_i vs h
    cases e
    obtain ⟨p, ws, rfl, h2, h3⟩ := seqItems_ok I1 r1 h
    exact ⟨p, ws, rfl, h2, fun q hq => lay I1 k1 h3.reverse k q hq⟩
  · cases e⟩
/-! ### + and * of lists, + of tuples -/
def xCat (fa fb : SE) : SA := fun ρ S => bnd (fa ρ S) fun a S1 => bnd (fb ρ S1) fun b S2 => match lstItems S2 a, lstItems S2 b with
  | some vs, some us => if vs.length + us.length ≤ 100000 then some (vs ++ us, S2) else none
  | _, _ => none
theorem sml_cat (ha : SmE K ta fa) (hb : SmE K tb fb) : SmL K (tOp rCat ta tb) (xCat fa fb) := ⟨fun {g ρ σ H S m z S'} I E e Q k => by
  obtain ⟨a, S1, e1, e⟩ := bnd_some e
  obtain ⟨b, S2, e2, e⟩ := bnd_some e
  refine ha.run I E e1 _ fun x H1 m1 k1 I1 r1 => ?_
  refine hb.run I1 (E.go k1) e2 _ fun y H2 m2 k2 I2 r2 => ?_
  split at e
  · rename_i vs us h h'
    split at e
    · rename_i hz
      cases e
      obtain ⟨p, ws, rfl, h2, h3⟩ := lstItems_ok I2 (r1.go k2) h
      obtain ⟨p', ws', rfl, h2', h3'⟩ := lstItems_ok I2 r2 h'
      refine ⟨p, p', ws, ws', rfl, rfl, h2, h2', by rw [← h3.length, ← h3'.length]; exact sz_le hz, fun q hq => lay I2 (k1.trans k2) (h3.append h3') k q hq⟩
    · cases e
  · cases e⟩
def xRep (fa fb : SE) : SA := fun ρ S => bnd (fa ρ S) fun a S1 => bnd (fb ρ S1) fun b S2 => match lstItems S2 a, b with
  | some vs, .dat _ (.int n) => if vs.length * n.toNat ≤ 100000 ∧ -100000 ≤ n ∧ n ≤ 100000 then some ((List.replicate n.toNat vs).flatten, S2) else none
  | _, _ => none
theorem VsR.rep {vs : List OV} {ws : List V} (h : VsR K g H m vs ws) : ∀ n : Nat, VsR K g H m (List.replicate n vs).flatten (List.replicate n ws).flatten
  | 0 => .nil
  | n + 1 => by
    rw [List.replicate_succ, List.replicate_succ, List.flatten_cons, List.flatten_cons]
    exact h.append (VsR.rep h n)
theorem sml_rep (ha : SmE K ta fa) (hb : SmE K tb fb) : SmL K (tOp rRep ta tb) (xRep fa fb) := ⟨fun {g ρ σ H S m z S'} I E e Q k => by
  obtain ⟨a, S1, e1, e⟩ := bnd_some e
  obtain ⟨b, S2, e2, e⟩ := bnd_some e
  refine ha.run I E e1 _ fun x H1 m1 k1 I1 r1 => ?_
  refine hb.run I1 (E.go k1) e2 _ fun y H2 m2 k2 I2 r2 => ?_
  split at e
  · rename_i vs _ _ n h
    split at e
    · rename_i hz
      cases e
      obtain ⟨p, ws, rfl, h2, h3⟩ := lstItems_ok I2 (r1.go k2) h
      refine ⟨p, n, ws, rfl, r2.int, h2, by omega, by omega, by rw [← h3.length]; exact sz_le hz.1, fun q hq => lay I2 (k1.trans k2) (h3.rep _) k q hq⟩
    · cases e
  · cases e⟩
def xCatT (fa fb : SE) : SE := fun ρ S => bnd (fa ρ S) fun a S1 => bnd (fb ρ S1) fun b S2 => match a, b with
  | .dat b (.tuple ds), .dat c (.tuple es) => if ds.length + es.length ≤ 100000 then some (mkD (b || c) (.tuple (ds ++ es)), S2) else none
  | _, _ => none
theorem sm_catT (ha : SmE K ta fa) (hb : SmE K tb fb) : SmE K (tOp (rCatA K) ta tb) (xCatT fa fb) := ⟨fun {g ρ σ H S m z S'} I E e Q k => by
  obtain ⟨a, S1, e1, e⟩ := bnd_some e
  obtain ⟨b, S2, e2, e⟩ := bnd_some e
  refine ha.run I E e1 _ fun x H1 m1 k1 I1 r1 => ?_
  refine hb.run I1 (E.go k1) e2 _ fun y H2 m2 k2 I2 r2 => ?_
  split at e
  · rename_i b ds c es _
    split at e
    · rename_i hz
      cases e
      have r1' := r1.go k2
      obtain ⟨p, ws, rfl, h2, h3⟩ := DatAt.itemsT r1'
      obtain ⟨p', ws', rfl, h2', h3'⟩ := DatAt.itemsT r2
      refine ⟨p, p', ws, ws', rfl, rfl, SqT.of h2, SqT.of h2', by rw [h3.len, h3'.len]; exact sz_le hz, fun hw => ?_, fun _ hw => ?_, fun _ _ q hq => ?_⟩
      · have : ds = [] := by
          have := h3.len
          rw [hw] at this
          exact List.eq_nil_of_length_eq_zero this.symm
        subst this
        exact k _ H2 m2 (k1.trans k2) I2 (DatAt.mkD (DatAt.mono r2 fun z => by rw [z, Bool.or_true]))
      · have : es = [] := by
          have := h3'.len
          rw [hw] at this
          exact List.eq_nil_of_length_eq_zero this.symm
        subst this
        refine k _ H2 m2 (k1.trans k2) I2 ?_
        rw [List.append_nil]
        exact DatAt.mkD (DatAt.mono r1' fun z => by rw [z]; rfl)
      · exact k _ _ m2 ((k1.trans k2).trans (Go.fresh hq)) (I2.fresh hq) ((h3.append h3').tuple hq (fun q hq => I2.there hq) I2.avn).mkD
    · cases e
  · cases e⟩
/-! ### calls of what is built in -/
structure RCS (K : PySem.W.Frag) (r : List V → Hp → VK → Prop) (o : List OV → Sto → Option (OV × Sto)) : Prop where
  run : ∀ {g : Gd} {H : Hp} {S : Sto} {m : List Addr} {as : List OV} {z : OV} {xs : List V} {S' : Sto}, Ob K g H S m → VsR K g H m as xs → o as S = some (z, S') →
    ∀ Q : VK, (∀ v H' m', Go H m H' m' → Ob K g H' S' m' → VR K g H' m' z v → Q v H') → r xs H Q
def xCB (o : List OV → Sto → Option (OV × Sto)) (fr : SA) : SE := fun ρ S => bnd (fr ρ S) fun as S1 => o as S1
theorem sm_cb {r : List V → Hp → VK → Prop} {o : List OV → Sto → Option (OV × Sto)} {tr : TA} {fr : SA} (h : RCS K r o) (ha : SmA K tr fr) : SmE K (tCB r tr) (xCB o fr) := ⟨fun {g ρ σ H S m z S'} I E e Q k => by
  obtain ⟨as, S1, e1, e⟩ := bnd_some e
  refine ha.run I E e1 _ fun xs H1 m1 k1 I1 r1 => ?_
  exact h.run I1 r1 e Q fun v H2 m2 k2 I2 r2 => k v H2 m2 (k1.trans k2) I2 r2⟩
theorem VsR.one {a : OV} {xs : List V} (h : VsR K g H m [a] xs) : ∃ x, xs = [x] ∧ VR K g H m a x := by
  cases h with
  | cons r t => cases t; exact ⟨_, rfl, r⟩
theorem VsR.two {a b : OV} {xs : List V} (h : VsR K g H m [a, b] xs) : ∃ x y, xs = [x, y] ∧ VR K g H m a x ∧ VR K g H m b y := by
  cases h with
  | cons r t => cases t with
    | cons r' t' => cases t'; exact ⟨_, _, rfl, r, r'⟩
/-- len -/
def oLen : List OV → Sto → Option (OV × Sto)
  | [.dat _ (.tuple ds)], S => some (.dat false (.int (ds.length : Int)), S)
  | [a], S => match seqItems S a with
    | some vs => some (.dat false (.int (vs.length : Int)), S)
    | none => none
  | _, _ => none
theorem rc_len : RCS K (fun xs H Q => ∃ p ys, xs = [.ref p] ∧ (SqL K H p ys ∨ SqT K H p ys) ∧ Q (.int ys.length) H) oLen := ⟨fun {g H S m as z xs S'} I ra e Q k => by
  unfold oLen at e
  split at e
  · cases e
    obtain ⟨x, rfl, r⟩ := VsR.one ra
    obtain ⟨p, ws, rfl, h2, h3⟩ := DatAt.itemsT r
    refine ⟨p, ws, rfl, .inr (SqT.of h2), ?_⟩
    rw [h3.len]
    exact k _ H m Go.refl I VR.ofInt
  · split at e
    · rename_i vs h
      cases e
      obtain ⟨x, rfl, r⟩ := VsR.one ra
      obtain ⟨p, ws, rfl, h2, h3⟩ := seqItems_ok I r h
      refine ⟨p, ws, rfl, .inl h2, ?_⟩
      rw [← h3.length]
      exact k _ H m Go.refl I VR.ofInt
    · cases e
  · cases e⟩
/-- a list of whole numbers -/
def intsOf : List OV → Option (List Int)
  | [] => some []
  | .dat _ (.int i) :: r => match intsOf r with
    | some ns => some (i :: ns)
    | none => none
  | _ => none
theorem intsOf_ok : ∀ {vs : List OV} {ws : List V} {ns : List Int}, intsOf vs = some ns → VsR K g H m vs ws → ws = ns.map V.int
  | [], _, ns, e, .nil => by cases e; rfl
  | v :: vs, _, ns, e, .cons r t => by
    unfold intsOf at e
    split at e
    · rename_i h; cases h
    · rename_i b i r' h
      cases h
      split at e
      · rename_i ns' h'
        cases e
        rw [r.int, intsOf_ok h' t]
        rfl
      · cases e
    · cases e
@[simp] theorem intsOf_map (b : Bool) : ∀ ns : List Int, intsOf ((ns.map PyData.int).map (mkD b)) = some ns
  | [] => rfl
  | n :: ns => by
    have := intsOf_map b ns
    show (match intsOf ((ns.map PyData.int).map (mkD b)) with | some ns => some (n :: ns) | none => none) = _
    rw [this]
@[simp] theorem intsOf_map2 : ∀ ns : List Int, intsOf (ns.map fun n => OV.dat false (.int n)) = some ns
  | [] => rfl
  | n :: ns => by
    have := intsOf_map2 ns
    show (match intsOf (ns.map fun n => OV.dat false (.int n)) with | some ns => some (n :: ns) | none => none) = _
    rw [this]
def seqInts (S : Sto) (a : OV) : Option (List Int) := match seqItems S a with
  | some vs => intsOf vs
  | none => none
theorem seqInts_ok (I : Ob K g H S m) {v : OV} {x : V} {ns : List Int} (r : VR K g H m v x) (e : seqInts S v = some ns) : ∃ p, x = .ref p ∧ SqL K H p (ns.map V.int) := by
  unfold seqInts at e
  split at e
  · rename_i vs h
    obtain ⟨p, ws, rfl, h2, h3⟩ := seqItems_ok I r h
    rw [intsOf_ok e h3] at h2
    exact ⟨p, rfl, h2⟩
  · cases e
def oSum : List OV → Sto → Option (OV × Sto)
  | [a], S => match seqInts S a with
    | some ns => some (.dat false (.int ns.sum), S)
    | none => none
  | _, _ => none
theorem rc_sum : RCS K (rSum K) oSum := ⟨fun {g H S m as z xs S'} I ra e Q k => by
  unfold oSum at e
  split at e
  · split at e
    · rename_i ns h
      cases e
      obtain ⟨x, rfl, r⟩ := VsR.one ra
      obtain ⟨p, rfl, h2⟩ := seqInts_ok I r h
      exact ⟨p, ns, rfl, h2, k _ H m Go.refl I VR.ofInt⟩
    · cases e
  · cases e⟩
/-- the greatest, the least of a list -/
def maxL (n : Int) (ns : List Int) : Int := ns.foldl max n
def minL (n : Int) (ns : List Int) : Int := ns.foldl min n
theorem foldl_max : ∀ (ns : List Int) (n : Int), n ≤ ns.foldl max n ∧ (∀ y ∈ ns, y ≤ ns.foldl max n) ∧ (ns.foldl max n = n ∨ ns.foldl max n ∈ ns)
  | [], n => ⟨Int.le_refl _, fun _ h => (by cases h), Or.inl rfl⟩
  | a :: r, n => by
    obtain ⟨h1, h2, h3⟩ := foldl_max r (max n a)
    refine ⟨Int.le_trans (Int.le_max_left _ _) h1, fun y hy => ?_, ?_⟩
    · rcases List.mem_cons.mp hy with rfl | hy
      · exact Int.le_trans (Int.le_max_right _ _) h1
      · exact h2 y hy
    · show List.foldl max (max n a) r = n ∨ List.foldl max (max n a) r ∈ a :: r
      rcases h3 with h3 | h3
      · rw [h3]
        by_cases q : a ≤ n
        · left; omega
        · right
          rw [show max n a = a by omega]
          exact List.mem_cons_self
      · exact .inr (List.mem_cons_of_mem _ h3)
theorem foldl_min : ∀ (ns : List Int) (n : Int), ns.foldl min n ≤ n ∧ (∀ y ∈ ns, ns.foldl min n ≤ y) ∧ (ns.foldl min n = n ∨ ns.foldl min n ∈ ns)
  | [], n => ⟨Int.le_refl _, fun _ h => (by cases h), Or.inl rfl⟩
  | a :: r, n => by
    obtain ⟨h1, h2, h3⟩ := foldl_min r (min n a)
    refine ⟨Int.le_trans h1 (Int.min_le_left _ _), fun y hy => ?_, ?_⟩
    · rcases List.mem_cons.mp hy with rfl | hy
      · exact Int.le_trans h1 (Int.min_le_right _ _)
      · exact h2 y hy
    · show List.foldl min (min n a) r = n ∨ List.foldl min (min n a) r ∈ a :: r
      rcases h3 with h3 | h3
      · rw [h3]
        by_cases q : n ≤ a
        · left; omega
        · right
          rw [show min n a = a by omega]
          exact List.mem_cons_self
      · exact .inr (List.mem_cons_of_mem _ h3)
theorem maxL_eq {n : Int} {ns : List Int} {k : Int} (h : k ∈ n :: ns) (h2 : ∀ y ∈ n :: ns, y ≤ k) : k = maxL n ns := by
  obtain ⟨h3, h4, h5⟩ := foldl_max ns n
  have a : k ≤ maxL n ns := by
    rcases List.mem_cons.mp h with rfl | h
    · exact h3
    · exact h4 k h
  have b : maxL n ns ≤ k := by
    rcases h5 with h5 | h5
    · unfold maxL; rw [h5]; exact h2 n List.mem_cons_self
    · exact h2 _ (List.mem_cons_of_mem _ h5)
  omega
theorem minL_eq {n : Int} {ns : List Int} {k : Int} (h : k ∈ n :: ns) (h2 : ∀ y ∈ n :: ns, k ≤ y) : k = minL n ns := by
  obtain ⟨h3, h4, h5⟩ := foldl_min ns n
  have a : minL n ns ≤ k := by
    rcases List.mem_cons.mp h with rfl | h
    · exact h3
    · exact h4 k h
  have b : k ≤ minL n ns := by
    rcases h5 with h5 | h5
    · unfold minL; rw [h5]; exact h2 n List.mem_cons_self
    · exact h2 _ (List.mem_cons_of_mem _ h5)
  omega
def oMaxL : List OV → Sto → Option (OV × Sto)
  | [a], S => match seqInts S a with
    | some (n :: ns) => some (.dat false (.int (maxL n ns)), S)
    | _ => none
  | _, _ => none
theorem rc_maxL : RCS K (rMax K) oMaxL := ⟨fun {g H S m as z xs S'} I ra e Q k => by
  unfold oMaxL at e
  split at e
  · split at e
    · rename_i n ns h
      cases e
      obtain ⟨x, rfl, r⟩ := VsR.one ra
      obtain ⟨p, rfl, h2⟩ := seqInts_ok I r h
      refine ⟨p, n :: ns, rfl, h2, by simp, fun y hy hy2 => ?_⟩
      rw [maxL_eq hy hy2]
      exact k _ H m Go.refl I VR.ofInt
    · cases e
  · cases e⟩
def oMinL : List OV → Sto → Option (OV × Sto)
  | [a], S => match seqInts S a with
    | some (n :: ns) => some (.dat false (.int (minL n ns)), S)
    | _ => none
  | _, _ => none
theorem rc_minL : RCS K (rMin K) oMinL := ⟨fun {g H S m as z xs S'} I ra e Q k => by
  unfold oMinL at e
  split at e
  · split at e
    · rename_i n ns h
      cases e
      obtain ⟨x, rfl, r⟩ := VsR.one ra
      obtain ⟨p, rfl, h2⟩ := seqInts_ok I r h
      refine ⟨p, n :: ns, rfl, h2, by simp, fun y hy hy2 => ?_⟩
      rw [minL_eq hy hy2]
      exact k _ H m Go.refl I VR.ofInt
    · cases e
  · cases e⟩
def oMax2 : List OV → Sto → Option (OV × Sto)
  | [.dat _ (.int i), .dat _ (.int j)], S => some (.dat false (.int (max i j)), S)
  | _, _ => none
theorem rc_max2 : RCS K (fun xs H Q => ∃ i j, xs = [.int i, .int j] ∧ Q (.int (if j > i then j else i)) H) oMax2 := ⟨fun {g H S m as z xs S'} I ra e Q k => by
  unfold oMax2 at e
  split at e
  · rename_i b i c j
    cases e
    obtain ⟨x, y, rfl, r1, r2⟩ := VsR.two ra
    rw [r1.int, r2.int]
    refine ⟨i, j, rfl, ?_⟩
    rw [show (if j > i then j else i) = max i j by split <;> omega]
    exact k _ H m Go.refl I VR.ofInt
  · cases e⟩
def oMin2 : List OV → Sto → Option (OV × Sto)
  | [.dat _ (.int i), .dat _ (.int j)], S => some (.dat false (.int (min i j)), S)
  | _, _ => none
theorem rc_min2 : RCS K (fun xs H Q => ∃ i j, xs = [.int i, .int j] ∧ Q (.int (if j < i then j else i)) H) oMin2 := ⟨fun {g H S m as z xs S'} I ra e Q k => by
  unfold oMin2 at e
  split at e
  · rename_i b i c j
    cases e
    obtain ⟨x, y, rfl, r1, r2⟩ := VsR.two ra
    rw [r1.int, r2.int]
    refine ⟨i, j, rfl, ?_⟩
    rw [show (if j < i then j else i) = min i j by split <;> omega]
    exact k _ H m Go.refl I VR.ofInt
  · cases e⟩
def oAbs : List OV → Sto → Option (OV × Sto)
  | [.dat _ (.int i)], S => some (.dat false (.int (if i < 0 then -i else i)), S)
  | _, _ => none
theorem rc_abs : RCS K (fun xs H Q => ∃ i, xs = [.int i] ∧ Q (.int (if i < 0 then -i else i)) H) oAbs := ⟨fun {g H S m as z xs S'} I ra e Q k => by
  unfold oAbs at e
  split at e
  · cases e
    obtain ⟨x, rfl, r1⟩ := VsR.one ra
    rw [r1.int]
    exact ⟨_, rfl, k _ H m Go.refl I VR.ofInt⟩
  · cases e⟩
def oIntF : List OV → Sto → Option (OV × Sto)
  | [.dat _ (.int i)], S => some (.dat false (.int i), S)
  | [.dat _ (.bool b)], S => some (.dat false (.int (if b then 1 else 0)), S)
  | _, _ => none
theorem rc_intF : RCS K (fun xs H Q => (∃ i, xs = [.int i] ∧ Q (.int i) H) ∨ ∃ k, xs = [.bl k] ∧ Q (.int (if k then 1 else 0)) H) oIntF := ⟨fun {g H S m as z xs S'} I ra e Q k => by
  unfold oIntF at e
  split at e
  · cases e
    obtain ⟨x, rfl, r1⟩ := VsR.one ra
    rw [r1.int]
    exact .inl ⟨_, rfl, k _ H m Go.refl I VR.ofInt⟩
  · cases e
    obtain ⟨x, rfl, r1⟩ := VsR.one ra
    rw [r1.bool]
    exact .inr ⟨_, rfl, k _ H m Go.refl I VR.ofInt⟩
  · cases e⟩
/-- a list of truths -/
def blsOf : List OV → Option (List Bool)
  | [] => some []
  | .dat _ (.bool i) :: r => match blsOf r with
    | some ns => some (i :: ns)
    | none => none
  | _ => none
theorem blsOf_ok : ∀ {vs : List OV} {ws : List V} {ns : List Bool}, blsOf vs = some ns → VsR K g H m vs ws → ws = ns.map V.bl
  | [], _, ns, e, .nil => by cases e; rfl
  | v :: vs, _, ns, e, .cons r t => by
    unfold blsOf at e
    split at e
    · rename_i h; cases h
    · rename_i b i r' h
      cases h
      split at e
      · rename_i ns' h'
        cases e
        rw [r.bool, blsOf_ok h' t]
        rfl
      · cases e
    · cases e
@[simp] theorem blsOf_map (b : Bool) : ∀ ns : List Bool, blsOf ((ns.map PyData.bool).map (mkD b)) = some ns
  | [] => rfl
  | n :: ns => by
    have := blsOf_map b ns
    show (match blsOf ((ns.map PyData.bool).map (mkD b)) with | some ns => some (n :: ns) | none => none) = _
    rw [this]
def oAll (any : Bool) : List OV → Sto → Option (OV × Sto)
  | [a], S => match seqItems S a with
    | some vs => (match blsOf vs with
      | some bs => some (.dat false (.bool (if any then bs.any id else bs.all id)), S)
      | none => none)
    | none => none
  | _, _ => none
theorem rc_all : RCS K (rAll K) (oAll false) := ⟨fun {g H S m as z xs S'} I ra e Q k => by
  unfold oAll at e
  split at e
  · split at e
    · rename_i vs h
      split at e
      · rename_i bs h'
        cases e
        obtain ⟨x, rfl, r⟩ := VsR.one ra
        obtain ⟨p, ws, rfl, h2, h3⟩ := seqItems_ok I r h
        rw [blsOf_ok h' h3] at h2
        exact ⟨p, bs, rfl, h2, k _ H m Go.refl I VR.ofBool⟩
      · cases e
    · cases e
  · cases e⟩
theorem rc_any : RCS K (rAny K) (oAll true) := ⟨fun {g H S m as z xs S'} I ra e Q k => by
  unfold oAll at e
  split at e
  · split at e
    · rename_i vs h
      split at e
      · rename_i bs h'
        cases e
        obtain ⟨x, rfl, r⟩ := VsR.one ra
        obtain ⟨p, ws, rfl, h2, h3⟩ := seqItems_ok I r h
        rw [blsOf_ok h' h3] at h2
        exact ⟨p, bs, rfl, h2, k _ H m Go.refl I VR.ofBool⟩
      · cases e
    · cases e
  · cases e⟩
/-! ### calls that give a new list -/
structure RCL (K : PySem.W.Frag) (r : List V → Hp → VK → Prop) (o : List OV → Sto → Option (List OV)) : Prop where
  run : ∀ {g : Gd} {H : Hp} {S : Sto} {m : List Addr} {as vs : List OV} {xs : List V}, Ob K g H S m → VsR K g H m as xs → o as S = some vs →
    ∀ Q : VK, (∀ ws, VsR K g H m vs ws → ∀ p, H p = none → Q (.ref p) (upd H p (.lst ws))) → r xs H Q
def xCL (o : List OV → Sto → Option (List OV)) (fr : SA) : SA := fun ρ S => bnd (fr ρ S) fun as S1 => match o as S1 with
  | some vs => some (vs, S1)
  | none => none
theorem sml_cb {r : List V → Hp → VK → Prop} {o : List OV → Sto → Option (List OV)} {tr : TA} {fr : SA} (h : RCL K r o) (ha : SmA K tr fr) : SmL K (tCB r tr) (xCL o fr) := ⟨fun {g ρ σ H S m z S'} I E e Q k => by
  obtain ⟨as, S1, e1, e⟩ := bnd_some e
  split at e
  · rename_i vs h'
    cases e
    refine ha.run I E e1 _ fun xs H1 m1 k1 I1 r1 => ?_
    exact h.run I1 r1 h' Q fun ws hw p hp => lay I1 k1 hw k p hp
  · cases e⟩
def oList : List OV → Sto → Option (List OV)
  | [.dat b (.tuple ds)], _ => some (ds.map (mkD b))
  | [a], S => seqItems S a
  | _, _ => none
theorem rl_list : RCL K (fun xs H Q => ∃ p ys, xs = [.ref p] ∧ (SqL K H p ys ∨ SqT K H p ys) ∧ ∀ l, H l = none → Q (.ref l) (upd H l (.lst ys))) oList := ⟨fun {g H S m as vs xs} I ra e Q k => by
  unfold oList at e
  split at e
  · cases e
    obtain ⟨x, rfl, r⟩ := VsR.one ra
    obtain ⟨p, ws, rfl, h2, h3⟩ := DatAt.itemsT r
    exact ⟨p, ws, rfl, .inr (SqT.of h2), k ws h3.vsR⟩
  · obtain ⟨x, rfl, r⟩ := VsR.one ra
    obtain ⟨p, ws, rfl, h2, h3⟩ := seqItems_ok I r e
    exact ⟨p, ws, rfl, .inl h2, k ws h3⟩
  · cases e⟩
/-- sorted, of whole numbers -/
def insI (a : Int) : List Int → List Int
  | [] => [a]
  | b :: r => if a ≤ b then a :: b :: r else b :: insI a r
def sortI : List Int → List Int
  | [] => []
  | a :: r => insI a (sortI r)
theorem insI_perm (a : Int) : ∀ l : List Int, (insI a l).Perm (a :: l)
  | [] => .refl _
  | b :: r => by
    unfold insI
    split
    · exact .refl _
    · exact ((insI_perm a r).cons b).trans (.swap a b r)
theorem sortI_perm : ∀ l : List Int, (sortI l).Perm l
  | [] => .refl _
  | a :: r => (insI_perm a _).trans ((sortI_perm r).cons a)
theorem insI_sorted (a : Int) : ∀ l : List Int, l.Pairwise (· ≤ ·) → (insI a l).Pairwise (· ≤ ·)
  | [], _ => by simp [insI]
  | b :: r, h => by
    unfold insI
    obtain ⟨h1, h2⟩ := List.pairwise_cons.mp h
    split
    · rename_i q
      refine List.pairwise_cons.mpr ⟨fun y hy => ?_, h⟩
      rcases List.mem_cons.mp hy with rfl | hy
      · exact q
      · exact Int.le_trans q (h1 y hy)
    · rename_i q
      refine List.pairwise_cons.mpr ⟨fun y hy => ?_, insI_sorted a r h2⟩
      rcases List.mem_cons.mp ((insI_perm a r).mem_iff.mp hy) with rfl | hy
      · omega
      · exact h1 y hy
theorem sortI_sorted : ∀ l : List Int, (sortI l).Pairwise (· ≤ ·)
  | [] => .nil
  | a :: r => insI_sorted a _ (sortI_sorted r)
theorem sortI_eq {l l' : List Int} (h : l'.Perm l) (s : l'.Pairwise (· ≤ ·)) : l' = sortI l :=
  List.Perm.eq_of_pairwise (le := (· ≤ ·)) (fun a b _ _ => Int.le_antisymm) s (sortI_sorted l) (h.trans (sortI_perm l).symm)
def oSorted : List OV → Sto → Option (List OV)
  | [a], S => match seqInts S a with
    | some ns => some ((sortI ns).map fun n => .dat false (.int n))
    | none => none
  | _, _ => none
theorem rl_sorted : RCL K (rSortedI K) oSorted := ⟨fun {g H S m as vs xs} I ra e Q k => by
  unfold oSorted at e
  split at e
  · split at e
    · rename_i ns h
      cases e
      obtain ⟨x, rfl, r⟩ := VsR.one ra
      obtain ⟨p, rfl, h2⟩ := seqInts_ok I r h
      refine ⟨p, ns, rfl, h2, fun ns' q hp hs hq => ?_⟩
      rw [sortI_eq hp hs]
      exact k _ (vsR_ints _) q hq
    · cases e
  · cases e⟩
/-! ### isinstance against a built-in class -/
def tyName : PyData → String
  | .none => "NoneType"
  | .bool _ => "bool"
  | .int _ => "int"
  | .str _ => "str"
  | .list _ => "list"
  | .tuple _ => "tuple"
  | .dict _ => "dict"
/-- isinstance(x, T), T one of the few -/
def isTy (a T : String) : Option Bool := kitB a T
def oIsi (T : String) : List OV → Sto → Option (OV × Sto)
  | [.dat _ d], S => match kitB (tyName d) T with
    | some b => some (.dat false (.bool b), S)
    | none => none
  | [.own i], S => match S[i]? with
    | some (.lst _) => (match kitB "list" T with
      | some b => some (.dat false (.bool b), S)
      | none => none)
    | some (.tup _) => (match kitB "tuple" T with
      | some b => some (.dat false (.bool b), S)
      | none => none)
    | _ => none
  | _, _ => none
theorem tyX_of {v : V} {d : PyData} (h : Dq H v d) : TyX K H v (.type (tyName d)) := by
  cases h with
  | non => exact .base .non
  | bl b => exact .base (.bl b)
  | int i => exact .base (.int i)
  | str x => exact .base (.str x)
  | lst e _ => exact .base (.lst e)
  | tup e _ => exact .base (.tup e)
def rIsiT1 (K : PySem.W.Frag) (T : String) : List V → Hp → VK → Prop := fun xs H Q => ∃ x, xs = [x] ∧ rIsi K [x, .ty T] H Q
theorem isi_run {T : String} {a z : OV} {x : V} (I : Ob K g H S m) (r : VR K g H m a x) (e : oIsi T [a] S = some (z, S')) (Q : VK) (k : ∀ v, VR K g H m z v → S' = S → Q v H) : rIsi K [x, .ty T] H Q := by
  unfold oIsi at e
  split at e
  · rename_i b d h
    cases h
    split at e
    · rename_i b' hk
      cases e
      exact ⟨x, .ty T, _, _, b', rfl, .ty T, tyX_of (DatAt.dq r), kit_ty hk, k _ VR.ofBool rfl⟩
    · cases e
  · rename_i i h
    cases h
    split at e
    · rename_i vs hs
      split at e
      · rename_i b' hk
        cases e
        obtain ⟨p, hp, rfl⟩ := r
        obtain ⟨p', hp', ws, h2, h4⟩ := I.get hs
        rw [hp] at hp'
        cases hp'
        exact ⟨_, .ty T, _, _, b', rfl, .ty T, .base (.lst h2), kit_ty hk, k _ VR.ofBool rfl⟩
      · cases e
    · rename_i vs hs
      split at e
      · rename_i b' hk
        cases e
        obtain ⟨p, hp, rfl⟩ := r
        obtain ⟨p', hp', ws, h2, h4⟩ := I.get hs
        rw [hp] at hp'
        cases hp'
        exact ⟨_, .ty T, _, _, b', rfl, .ty T, .base (.tup h2), kit_ty hk, k _ VR.ofBool rfl⟩
      · cases e
    · cases e
  · cases e
def xIsi (T : String) (fa : SE) : SE := fun ρ S => bnd (fa ρ S) fun a S1 => oIsi T [a] S1
theorem sm_isi {T : String} (ha : SmE K ta fa) : SmE K (tCB (rIsi K) (tCons ta (tCons (tC (.ty T)) tNil))) (xIsi T fa) := ⟨fun {g ρ σ H S m z S'} I E e Q k => by
  obtain ⟨a, S1, e1, e⟩ := bnd_some e
  refine ha.run I E e1 _ fun x H1 m1 k1 I1 r1 => ?_
  exact isi_run I1 r1 e Q fun v r h => k v H1 m1 k1 (h ▸ I1) r⟩
end
end Nc
set_option Elab.async false
set_option linter.all false
set_option maxRecDepth 100000
namespace Nc
open PySem PySem.Spec PyProof.Rows L2
/-! ### targets: names and tuples of names -/
abbrev BN := Sto → OV → Env → Option Env
abbrev BNs := Sto → List OV → Env → Option Env
structure SmN (K : PySem.W.Frag) (t : TG) (b : BN) (is : List Nat) : Prop where
  run : ∀ {g : Gd} {ρ ρ' : Env} {σ : L2.St} {H : Hp} {S : Sto} {m : List Addr} {ov : OV} {v : V}, Ob K g H S m → EnvR K g H m ρ σ → VR K g H m ov v → b S ov ρ = some ρ' →
    ∀ Q : L2.St → Hp → Prop, (∀ σ', EnvR K g H m ρ' σ' → σ'.length = σ.length → (∀ i, i ∉ is → σ'[i]? = σ[i]?) → Q σ' H) → t v σ H Q
structure SmNs (K : PySem.W.Frag) (t : TGs) (b : BNs) (is : List Nat) : Prop where
  run : ∀ {g : Gd} {ρ ρ' : Env} {σ : L2.St} {H : Hp} {S : Sto} {m : List Addr} {ov : List OV} {v : List V}, Ob K g H S m → EnvR K g H m ρ σ → VsR K g H m ov v → b S ov ρ = some ρ' →
    ∀ Q : L2.St → Hp → Prop, (∀ σ', EnvR K g H m ρ' σ' → σ'.length = σ.length → (∀ i, i ∉ is → σ'[i]? = σ[i]?) → Q σ' H) → t v σ H Q
def bName (i : Nat) : BN := fun _ v ρ => some (ρ.set i (some v))
def bNil : BNs := fun _ vs ρ => match vs with
  | [] => some ρ
  | _ => none
def bCons (b : BN) (r : BNs) : BNs := fun S vs ρ => match vs with
  | v :: vs => (match b S v ρ with
    | some ρ1 => r S vs ρ1
    | none => none)
  | _ => none
def bTup (n : Nat) (b : BNs) : BN := fun S v ρ => match v with
  | .dat c (.tuple ds) => if ds.length = n then b S (ds.map (mkD c)) ρ else none
  | .own i => (match S[i]? with
    | some (.tup vs) => if vs.length = n then b S vs ρ else none
    | _ => none)
  | _ => none
section
variable {K : PySem.W.Frag}
theorem smn_name {i : Nat} : SmN K (gName i) (bName i) [i] := ⟨fun {g ρ ρ' σ H S m ov v} I E r e Q k => by
  cases e
  exact k _ (E.set r i) (by simp) fun j hj => List.getElem?_set_ne fun q => hj (by simp [q])⟩
theorem smn_nil : SmNs K gNil bNil [] := ⟨fun {g ρ ρ' σ H S m ov v} I E r e Q k => by
  cases r with
  | nil =>
    cases e
    exact ⟨rfl, k σ E rfl fun _ _ => rfl⟩
  | cons a t => cases e⟩
theorem smn_cons {t : TG} {u : TGs} {b : BN} {r : BNs} {is js : List Nat} (h : SmN K t b is) (h' : SmNs K u r js) : SmNs K (gCons t u) (bCons b r) (is ++ js) := ⟨fun {g ρ ρ' σ H S m ov v} I E r e Q k => by
  cases r with
  | nil => cases e
  | cons a t =>
    unfold bCons at e
    simp only at e
    split at e
    · rename_i ρ1 h1
      refine ⟨_, _, rfl, h.run I E a h1 _ fun σ1 E1 l1 n1 => ?_⟩
      refine h'.run I E1 t e _ fun σ2 E2 l2 n2 => k σ2 E2 (l2.trans l1) fun i hi => ?_
      rw [n2 i fun q => hi (List.mem_append_right _ q), n1 i fun q => hi (List.mem_append_left _ q)]
    · cases e⟩
theorem smn_tup {n : Nat} {t : TGs} {b : BNs} {is : List Nat} (h : SmNs K t b is) : SmN K (gTup K n t) (bTup n b) is := ⟨fun {g ρ ρ' σ H S m ov v} I E r e Q k => by
  unfold bTup at e
  split at e
  · split at e
    · rename_i hl
      obtain ⟨p, ws, rfl, h2, h3⟩ := DatAt.itemsT r
      exact ⟨p, ws, rfl, SqT.of h2, by rw [h3.len]; exact hl, h.run I E h3.vsR e Q k⟩
    · cases e
  · split at e
    · rename_i vs hs
      split at e
      · rename_i hl
        obtain ⟨p, hp, rfl⟩ := r
        obtain ⟨p', hp', ws, h2, h4⟩ := I.get hs
        rw [hp] at hp'
        cases hp'
        exact ⟨p, ws, rfl, SqT.of h2, by rw [← h4.length]; exact hl, h.run I E h4 e Q k⟩
      · cases e
    · cases e
  · cases e⟩
end
/-! ### what is walked -/
/-- g2, H2, m2 lie behind g, H, m: no part that was set apart is touched -/
structure Later (g : Gd) (H : Hp) (m : List Addr) (g2 : Gd) (H2 : Hp) (m2 : List Addr) : Prop where
  pt : ∀ F, Pt g H m F → Pt g2 H2 m2 F
  e1 : g2.Hi = g.Hi
  e2 : g2.F0 = g.F0
  pre : ∃ ms, m2 = m ++ ms
structure IterOk (K : PySem.W.Frag) (J : It) (g : Gd) (H : Hp) (m : List Addr) (xs : List OV) (gd : Sto → Prop) : Prop where
  turn : ∀ {g2 : Gd} {H2 : Hp} {S2 : Sto} {m2 : List Addr}, Later g H m g2 H2 m2 → Ob K g2 H2 S2 m2 → gd S2 →
    J.stop xs.length H2 ∧ ∀ (i : Nat) (x : OV), xs[i]? = some x → J.go i H2 ∧ ∀ v H3, J.yld i H2 v H3 → (H3 = H2 ∨ ∃ T o, H2 T = none ∧ H3 = upd H2 T o) ∧ VR K g2 H3 m2 x v
structure Src where
  xs : List OV
  gd : Sto → Prop
abbrev SI := Env → Sto → Option (Src × Sto)
structure SmI (K : PySem.W.Frag) (wi : TI) (f : SI) : Prop where
  run : ∀ {g : Gd} {ρ : Env} {σ : L2.St} {H : Hp} {S : Sto} {m : List Addr} {r : Src} {S' : Sto}, Ob K g H S m → EnvR K g H m ρ σ → f ρ S = some (r, S') →
    ∀ R : It → Hp → Prop, (∀ J H' m', Go H m H' m' → Ob K g H' S' m' → r.gd S' → IterOk K J g H' m' r.xs r.gd → R J H') → wi σ H R
section
variable {K : PySem.W.Frag} {g g2 g3 : Gd} {H H' H1 H2 H3 : Hp} {m m' m1 m2 m3 : List Addr} {S S' S1 S2 : Sto} {ρ : Env} {σ : L2.St} {ta tb tc te : TE} {fa fb fc f : SE}
theorem Later.refl : Later g H m g H m := ⟨fun _ h => h, rfl, rfl, [], by simp⟩
theorem Later.go (l : Later g H m g2 H2 m2) (k : Go H2 m2 H3 m3) : Later g H m g2 H3 m3 := by
  obtain ⟨x, hx⟩ := l.pre
  obtain ⟨y, hy⟩ := k.pre
  exact ⟨fun F h => (l.pt F h).go k, l.e1, l.e2, x ++ y, by rw [hy, hx]; simp⟩
theorem Later.add (l : Later g H m g2 H2 m2) {p : Addr} {o : HO} (h : H2 p = none) : Later g H m (g2.add p) (upd H2 p o) m2 :=
  ⟨fun F z => (l.pt F z).add h, l.e1, l.e2, l.pre⟩
theorem Later.put (l : Later g H m g2 H2 m2) {p : Addr} {o : HO} (h : p ∈ g2.av) : Later g H m g2 (upd H2 p o) m2 :=
  ⟨fun F z => (l.pt F z).put h, l.e1, l.e2, l.pre⟩
theorem Later.vr (l : Later g H m g2 H2 m2) {ov : OV} {v : V} (h : VR K g H m ov v) : VR K g2 H2 m2 ov v := h.imp l.pt l.e1 l.e2 l.pre
theorem Later.vsR (l : Later g H m g2 H2 m2) {ov : List OV} {v : List V} (h : VsR K g H m ov v) : VsR K g2 H2 m2 ov v := Paired.mapP h fun _ _ => l.vr
theorem Later.env (l : Later g H m g2 H2 m2) (h : EnvR K g H m ρ σ) : EnvR K g2 H2 m2 ρ σ := ⟨h.len, fun i ov e => by
  obtain ⟨v, h1, h2⟩ := h.at_ i ov e
  exact ⟨v, h1, l.vr h2⟩⟩
/-- what of a list may be read while others are written -/
theorem seqItems_pt {v : OV} {x : V} {vs : List OV} (I : Ob K g H S m) (r : VR K g H m v x) (e : seqItems S v = some vs) :
    ∃ (p : Addr) (ws : List V), x = .ref p ∧ VsR K g H m vs ws ∧ SqL K H p ws ∧ ((∃ F, Pt g H m F ∧ SqL K F p ws) ∨ ∃ i, v = .own i ∧ m[i]? = some p ∧ S[i]? = some (.lst vs)) := by
  cases v with
  | scr ns =>
    cases e
    obtain ⟨p, F, rfl, h2, h3⟩ := r
    exact ⟨p, _, rfl, vsR_ints ns, h2.le.seq h3, .inl ⟨F, h2, h3⟩⟩
  | dat b d =>
    cases d with
    | list ds =>
      cases e
      obtain ⟨p, ws, F, rfl, h2, h3, h4⟩ := DatAt.itemsP r
      exact ⟨p, ws, rfl, h4.vsR, SqL.of (h2.le _ _ h3), .inl ⟨F, h2, SqL.of h3⟩⟩
    | _ => cases e
  | own i =>
    rw [seqItems_own] at e
    split at e
    · rename_i vs' h
      cases e
      obtain ⟨p, hp, rfl⟩ := r
      obtain ⟨p', hp', ws, h2, h4⟩ := I.get h
      rw [hp] at hp'
      cases hp'
      exact ⟨p, ws, rfl, h4, SqL.of h2, .inr ⟨i, rfl, hp, h⟩⟩
    · cases e
def gdOf (v : OV) (vs : List OV) : Sto → Prop := match v with
  | .own i => fun S => S[i]? = some (.lst vs)
  | _ => fun _ => True
/-- for x in xs -/
def xiList (fa : SE) : SI := fun ρ S => bnd (fa ρ S) fun a S1 => match seqItems S1 a with
  | some vs => some (⟨vs, gdOf a vs⟩, S1)
  | none => none
theorem gdOf_now {v : OV} {vs : List OV} (e : seqItems S v = some vs) : gdOf v vs S := by
  cases v with
  | own i =>
    rw [seqItems_own] at e
    split at e
    · rename_i vs' h
      cases e
      exact h
    · cases e
  | dat b d => trivial
  | scr ns => trivial
/-- at any later state the list reads so -/
theorem list_later {v : OV} {x : V} {vs : List OV} (I : Ob K g H S m) (r : VR K g H m v x) (e : seqItems S v = some vs) :
    ∃ p, x = .ref p ∧ (∃ ws, SqL K H p ws) ∧ ∀ {g2 : Gd} {H2 : Hp} {S2 : Sto} {m2 : List Addr}, Later g H m g2 H2 m2 → Ob K g2 H2 S2 m2 → gdOf v vs S2 → ∃ ws, SqL K H2 p ws ∧ VsR K g2 H2 m2 vs ws := by
  obtain ⟨p, ws, rfl, h1, h2, h3⟩ := seqItems_pt I r e
  refine ⟨p, rfl, ⟨ws, h2⟩, fun {g2 H2 S2 m2} l I2 gd => ?_⟩
  rcases h3 with ⟨F, h3, h4⟩ | ⟨i, rfl, hp, hs⟩
  · exact ⟨ws, (l.pt F h3).le.seq h4, l.vsR h1⟩
  · obtain ⟨p', hp', ws', h5, h6⟩ := I2.get (show S2[i]? = some (.lst vs) from gd)
    obtain ⟨ms, e⟩ := l.pre
    rw [e, List.getElem?_append_left (List.getElem?_eq_some_iff.mp hp).1, hp] at hp'
    cases hp'
    exact ⟨ws', SqL.of h5, h6⟩
theorem smi_list (ha : SmE K ta fa) : SmI K (iList K ta) (xiList fa) := ⟨fun {g ρ σ H S m r S'} I E e R k => by
  obtain ⟨a, S1, e1, e⟩ := bnd_some e
  split at e
  · rename_i vs h
    cases e
    refine ha.run I E e1 _ fun x H1 m1 k1 I1 r1 => ?_
    obtain ⟨p, rfl, hx, hl⟩ := list_later I1 r1 h
    refine ⟨p, rfl, hx, k _ H1 m1 k1 I1 (gdOf_now h) ⟨fun {g2 H2 S2 m2} l I2 gd => ?_⟩⟩
    obtain ⟨ws, h5, h6⟩ := hl l I2 gd
    refine ⟨⟨ws, h5, by rw [h6.length]; exact Nat.le_refl _⟩, fun i x hx => ?_⟩
    obtain ⟨w, h7, h8⟩ := VsR.get h6 hx
    refine ⟨⟨ws, w, h5, h7⟩, fun v H3 y => ?_⟩
    obtain ⟨rfl, y2⟩ := y
    have := y2 ws h5
    rw [h7] at this
    cases this
    exact ⟨.inl rfl, h8⟩
  · cases e⟩
/-- over a tuple that is data -/
def xiTup (fa : SE) : SI := fun ρ S => bnd (fa ρ S) fun a S1 => match a with
  | .dat b (.tuple ds) => some (⟨ds.map (mkD b), fun _ => True⟩, S1)
  | _ => none
theorem smi_tup (ha : SmE K ta fa) : SmI K (iTup K ta) (xiTup fa) := ⟨fun {g ρ σ H S m r S'} I E e R k => by
  obtain ⟨a, S1, e1, e⟩ := bnd_some e
  split at e
  · cases e
    refine ha.run I E e1 _ fun x H1 m1 k1 I1 r1 => ?_
    obtain ⟨p, ws, F, rfl, h2, h3, h4⟩ := DatAt.itemsTP r1
    refine ⟨p, rfl, ⟨ws, SqT.of (h2.le _ _ h3)⟩, k _ H1 m1 k1 I1 trivial ⟨fun {g2 H2 S2 m2} l I2 gd => ?_⟩⟩
    have h5 := (l.pt F h2).le _ _ h3
    have h6 := l.vsR (h4.vsR (K := K))
    refine ⟨⟨ws, SqT.of h5, by rw [h6.length]; exact Nat.le_refl _⟩, fun i x hx => ?_⟩
    obtain ⟨w, h7, h8⟩ := VsR.get h6 hx
    refine ⟨⟨ws, w, SqT.of h5, h7⟩, fun v H3 y => ?_⟩
    obtain ⟨rfl, y2⟩ := y
    have := y2 ws (SqT.of h5)
    rw [h7] at this
    cases this
    exact ⟨.inl rfl, h8⟩
  · cases e⟩
/-- range -/
def rangeI (lo : Int) (n : Nat) : List OV := (List.range n).map fun (i : Nat) => .dat false (.int (lo + (i : Int)))
theorem rangeI_ok (lo : Int) (n : Nat) : IterOk K (Itr lo n) g H m (rangeI lo n) (fun _ => True) := ⟨fun {g2 H2 S2 m2} l I2 gd => by
  refine ⟨by show n ≤ _; simp [rangeI], fun i x hx => ?_⟩
  unfold rangeI at hx
  rw [List.getElem?_map] at hx
  have hi : i < n := by
    cases e : (List.range n)[i]? with
    | none => rw [e] at hx; cases hx
    | some j =>
      have := (List.getElem?_eq_some_iff.mp e).1
      simpa using this
  rw [List.getElem?_range hi] at hx
  cases hx
  refine ⟨hi, fun v H3 y => ?_⟩
  obtain ⟨rfl, rfl⟩ := y
  exact ⟨.inl rfl, VR.ofInt⟩⟩
def xiRng1 (fr : SA) : SI := fun ρ S => bnd (fr ρ S) fun as S1 => match as with
  | [.dat _ (.int n)] => if -1000000 ≤ n ∧ n ≤ 1000000 then some (⟨rangeI 0 n.toNat, fun _ => True⟩, S1) else none
  | _ => none
def xiRng2 (fr : SA) : SI := fun ρ S => bnd (fr ρ S) fun as S1 => match as with
  | [.dat _ (.int a), .dat _ (.int b)] => if -1000000 ≤ a ∧ a ≤ 1000000 ∧ -1000000 ≤ b ∧ b ≤ 1000000 then some (⟨rangeI a (b - a).toNat, fun _ => True⟩, S1) else none
  | _ => none
variable {tr : TA} {fr : SA}
theorem smi_rng1 (ha : SmA K tr fr) : SmI K (iRng1 tr) (xiRng1 fr) := ⟨fun {g ρ σ H S m r S'} I E e R k => by
  obtain ⟨as, S1, e1, e⟩ := bnd_some e
  split at e
  · split at e
    · rename_i hn
      cases e
      refine ha.run I E e1 _ fun xs H1 m1 k1 I1 r1 => ?_
      obtain ⟨x, rfl, r⟩ := VsR.one r1
      rw [r.int]
      exact ⟨_, rfl, by omega, by omega, k _ H1 m1 k1 I1 trivial (rangeI_ok _ _)⟩
    · cases e
  · cases e⟩
theorem smi_rng2 (ha : SmA K tr fr) : SmI K (iRng2 tr) (xiRng2 fr) := ⟨fun {g ρ σ H S m r S'} I E e R k => by
  obtain ⟨as, S1, e1, e⟩ := bnd_some e
  split at e
  · split at e
    · rename_i hn
      cases e
      refine ha.run I E e1 _ fun xs H1 m1 k1 I1 r1 => ?_
      obtain ⟨x, y, rfl, r, r'⟩ := VsR.two r1
      rw [r.int, r'.int]
      exact ⟨_, _, rfl, ⟨by omega, by omega, by omega, by omega⟩, k _ H1 m1 k1 I1 trivial (rangeI_ok _ _)⟩
    · cases e
  · cases e⟩
/-- enumerate(xs), the items data -/
def enumI : Nat → List OV → Option (List OV)
  | _, [] => some []
  | n, .dat b d :: r => match enumI (n + 1) r with
    | some xs => some (mkD b (.tuple [.int (n : Int), d]) :: xs)
    | none => none
  | _, _ :: _ => none
theorem enumI_get : ∀ {vs xs : List OV} {n : Nat}, enumI n vs = some xs → xs.length = vs.length ∧ ∀ (i : Nat) (x : OV), xs[i]? = some x → ∃ b d, vs[i]? = some (.dat b d) ∧ x = mkD b (.tuple [.int ((n + i : Nat) : Int), d])
  | [], xs, n, e => by
    cases e
    exact ⟨rfl, fun i x h => by simp at h⟩
  | .dat b d :: r, xs, n, e => by
    unfold enumI at e
    split at e
    · rename_i ys h
      cases e
      obtain ⟨h1, h2⟩ := enumI_get h
      refine ⟨by simp [h1], fun i x hx => ?_⟩
      cases i with
      | zero =>
        simp at hx
        exact ⟨b, d, rfl, by rw [← hx] <;> rfl⟩
      | succ i =>
        obtain ⟨b', d', h3, h4⟩ := h2 i x (by simpa using hx)
        exact ⟨b', d', by simpa using h3, by rw [h4]; congr 4; congr 1; omega⟩
    · cases e
  | .own _ :: _, _, _, e => by cases e
  | .scr _ :: _, _, _, e => by cases e
def xiEnum (fr : SA) : SI := fun ρ S => bnd (fr ρ S) fun as S1 => match as with
  | [a] => (match seqItems S1 a with
    | some vs => (match enumI 0 vs with
      | some xs => some (⟨xs, gdOf a vs⟩, S1)
      | none => none)
    | none => none)
  | _ => none
theorem pair_new {b c : Bool} {d e : PyData} {x y : V} {T : Addr} (I : Ob K g H S m) (h1 : DatAt g H m b x d) (h2 : DatAt g H m c y e) (hT : H T = none) : VR K g (upd H T (.tup [x, y])) m (mkD (b || c) (.tuple [d, e])) (.ref T) := by
  have h3 : DatsAt g H m (b || (c || false)) [x, y] [d, e] := .cons h1 (.cons h2 .nil)
  rw [Bool.or_false] at h3
  exact (h3.tuple hT (fun q hq => I.there hq) I.avn).mkD
theorem smi_enum (ha : SmA K tr fr) : SmI K (iEnum K tr) (xiEnum fr) := ⟨fun {g ρ σ H S m r S'} I E e R k => by
  obtain ⟨as, S1, e1, e⟩ := bnd_some e
  split at e
  · split at e
    · rename_i vs h
      split at e
      · rename_i xs hxs
        cases e
        refine ha.run I E e1 _ fun ys H1 m1 k1 I1 r1 => ?_
        obtain ⟨x, rfl, r⟩ := VsR.one r1
        obtain ⟨p, rfl, ⟨ws0, hw0⟩, hl⟩ := list_later I1 r h
        obtain ⟨hlen, hget⟩ := enumI_get hxs
        refine ⟨p, ws0, rfl, hw0, k _ H1 m1 k1 I1 (gdOf_now h) ⟨fun {g2 H2 S2 m2} l I2 gd => ?_⟩⟩
        obtain ⟨ws, h5, h6⟩ := hl l I2 gd
        refine ⟨⟨ws, h5, by rw [hlen, h6.length]; exact Nat.le_refl _⟩, fun i x hx => ?_⟩
        obtain ⟨b, d, h9, rfl⟩ := hget i x hx
        obtain ⟨w, h7, h8⟩ := VsR.get h6 h9
        refine ⟨⟨ws, w, h5, h7⟩, fun v H3 y => ?_⟩
        obtain ⟨T, z, rfl, hT, rfl, y2⟩ := y
        have := y2 ws h5
        rw [h7] at this
        cases this
        refine ⟨.inr ⟨T, _, hT, rfl⟩, ?_⟩
        have q := pair_new (K := K) (b := false) (c := b) (d := .int ((i : Nat) : Int)) (e := d) I2 (DatAt.scal (.int _)) h8 hT
        rw [Bool.false_or] at q
        rw [Nat.zero_add]
        exact q
      · cases e
    · cases e
  · cases e⟩
/-! ### list comprehensions -/
def wipeE (ρ : Env) : List Nat → Env
  | [] => ρ
  | v :: vs => (wipeE ρ vs).set v none
theorem EnvR.wipe (h : EnvR K g H m ρ σ) : ∀ is : List Nat, EnvR K g H m (wipeE ρ is) (wipe σ is)
  | [] => h
  | i :: is => (EnvR.wipe h is).unset i none
open Classical in
noncomputable def chk {α : Type} (P : Prop) (x : Option α) : Option α := if P then x else none
@[simp] theorem chk_true {α : Type} (x : Option α) : chk True x = x := if_pos trivial
theorem chk_pos {α : Type} {P : Prop} (h : P) (x : Option α) : chk P x = x := if_pos h
theorem chk_some {α : Type} {P : Prop} {x : Option α} {r : α} (h : chk P x = some r) : P ∧ x = some r := by
  unfold chk at h
  split at h
  · exact ⟨by assumption, h⟩
  · cases h
noncomputable def compL (gd : Sto → Prop) (b : BN) (ft : SC) (fe : SE) : List OV → Env → Sto → Option (List OV × Sto)
  | [], _, S => chk (gd S) (some ([], S))
  | x :: xs, ρ, S => chk (gd S) (match b S x ρ with
    | some ρ1 => bnd (ft ρ1 S) fun c S1 => if c = true then bnd (fe ρ1 S1) fun v S2 => bnd (compL gd b ft fe xs ρ S2) fun vs S3 => some (v :: vs, S3) else compL gd b ft fe xs ρ S1
    | none => none)
noncomputable def xLc (fi : SI) (b : BN) (ft : SC) (fe : SE) (is : List Nat) : SA := fun ρ S => bnd (fi ρ S) fun r S1 =>
  if r.xs.length ≤ 100000 then compL r.gd b ft fe r.xs (wipeE ρ is) S1 else none
theorem wipe_agree : ∀ {is : List Nat} {σ σ' : L2.St}, σ'.length = σ.length → (∀ i, i ∉ is → σ'[i]? = σ[i]?) → wipe σ' is = wipe σ is := by
  intro is σ σ' hl h
  apply List.ext_getElem?
  intro i
  have key : ∀ (τ : L2.St) (js : List Nat), (wipe τ js)[i]? = if i ∈ js then (if i < τ.length then some none else none) else τ[i]? := by
    intro τ js
    induction js with
    | nil => simp [wipe]
    | cons j js ih =>
      unfold wipe
      by_cases q : j = i
      · subst q
        rw [List.getElem?_set]
        simp [wipe_length]
      · rw [List.getElem?_set_ne q, ih]
        simp [Ne.symm q]
  rw [key σ' is, key σ is, hl]
  split
  · rfl
  · rename_i q
    exact h i q
theorem wipe_wipe {σ : L2.St} {is : List Nat} : wipe (wipe σ is) is = wipe σ is := by
  apply wipe_agree (wipe_length σ is)
  intro i hi
  exact wipe_out hi
theorem Go.put (k : Go H m H1 m1) {p : Addr} {o : HO} (h : H p = none) : Go H m (upd H1 p o) m1 := by
  refine ⟨k.pre, k.new, fun a u e ha => ?_, fun a e => ?_⟩
  · rw [upd_ne (ne_of_none e h)]
    exact k.keep a u e ha
  · by_cases q : a = p
    · subst q; exact h
    · rw [upd_ne q] at e
      exact k.dom a e
theorem IterOk.step {J : It} {xs : List OV} {gd : Sto → Prop} (h : IterOk K J g H m xs gd) (l : Later g H m g2 H2 m2) (I2 : Ob K g2 H2 S2 m2) (q : gd S2) {i : Nat} {x : OV} (hx : xs[i]? = some x) :
    J.go i H2 ∧ ∀ v H3, J.yld i H2 v H3 → Go H2 m2 H3 m2 ∧ Ob K g2 H3 S2 m2 ∧ (∀ a o, H2 a = some o → H3 a = some o) ∧ VR K g2 H3 m2 x v := by
  obtain ⟨_, h2⟩ := h.turn l I2 q
  obtain ⟨h3, h4⟩ := h2 i x hx
  refine ⟨h3, fun v H3 y => ?_⟩
  obtain ⟨h5, h6⟩ := h4 v H3 y
  rcases h5 with rfl | ⟨T, o, hT, rfl⟩
  · exact ⟨Go.refl, I2, fun _ _ e => e, h6⟩
  · exact ⟨Go.fresh hT, I2.fresh hT, fun a u e => by rw [upd_ne (ne_of_none e hT)]; exact e, h6⟩
theorem sml_lc {wi : TI} {fi : SI} {t : TG} {b : BN} {is js : List Nat} {tt : TT} {ft : SC} {fe : SE} (hi : SmI K wi fi) (hb : SmN K t b js) (ht : SmC K tt ft) (he : SmE K te fe) (hj : ∀ j ∈ js, j ∈ is) :
    SmL K (tLc wi t tt te is) (xLc fi b ft fe is) := ⟨fun {g ρ σ H S m vs S'} I E e Q k => by
  obtain ⟨r, S1, e1, e⟩ := bnd_some e
  split at e
  · rename_i hlen
    refine hi.run I E e1 _ fun J H1 m1 k1 I1 _ J1 D hD => ?_
    have E1 := (E.go k1).wipe is
    refine ⟨fun i w H2 => w = r.xs.length - i ∧ i ≤ r.xs.length ∧ ∃ S2 m2 acc ws vs2, Later g H1 m1 (g.add D) H2 m2 ∧ Ob K (g.add D) H2 S2 m2 ∧ Go H1 m1 H2 m2 ∧ H2 D = some (.lst ws) ∧ VsR K (g.add D) H2 m2 acc ws ∧ acc.length ≤ i ∧
      compL r.gd b ft fe (r.xs.drop i) (wipeE ρ is) S2 = some (vs2, S') ∧ vs = acc ++ vs2, ⟨r.xs.length, ?_⟩, ?_⟩
    · exact ⟨by simp, Nat.zero_le _, S1, m1, [], [], vs, Later.refl.add hD, I1.aside hD, Go.fresh hD, upd_same, .nil, Nat.le_refl _, by simpa using e, rfl⟩
    · rintro i w H2 ⟨rfl, hle, S2, m2, acc, ws, vs2, L2, I2, k2, hD2, r2, hacc, e2, rfl⟩
      have E2 : EnvR K (g.add D) H2 m2 (wipeE ρ is) (wipe σ is) := L2.env E1
      have hHD : H D = none := k1.dom D hD
      by_cases hlt : i < r.xs.length
      · right
        have hx : r.xs[i]? = some r.xs[i] := List.getElem?_eq_getElem hlt
        rw [List.drop_eq_getElem_cons hlt] at e2
        unfold compL at e2
        obtain ⟨gd2, e2⟩ := chk_some e2
        obtain ⟨go, yl⟩ := J1.step L2 I2 gd2 hx
        refine ⟨go, fun H3 => ∃ m', m' < r.xs.length - i ∧ (m' = r.xs.length - (i + 1) ∧ i + 1 ≤ r.xs.length ∧ ∃ S2 m2 acc' ws vs2, Later g H1 m1 (g.add D) H3 m2 ∧ Ob K (g.add D) H3 S2 m2 ∧ Go H1 m1 H3 m2 ∧ H3 D = some (.lst ws) ∧ VsR K (g.add D) H3 m2 acc' ws ∧ acc'.length ≤ i + 1 ∧
          compL r.gd b ft fe (r.xs.drop (i + 1)) (wipeE ρ is) S2 = some (vs2, S') ∧ acc ++ _ = acc' ++ vs2), fun H3 h => h, fun v H3 y => ?_⟩
        obtain ⟨k3, I3, keep3, r3⟩ := yl v H3 y
        split at e2
        · rename_i ρ1 hb1
          refine hb.run I3 (E2.go k3) r3 hb1 _ fun σ3 E3 l3 n3 => ⟨?_, ?_⟩
          · rw [wipe_agree l3 (fun j hj' => n3 j fun q => hj' (hj j q)), wipe_wipe]
          obtain ⟨c, S4, e4, e2⟩ := bnd_some e2
          refine ht.run I3 E3 e4 _ fun H4 m4 k4 I4 => ?_
          have kk := (k2.trans k3).trans k4
          have ll := (L2.go k3).go k4
          have hm4 : D ∉ m4 := fun q => I4.dis D q List.mem_cons_self
          have hD4 : H4 D = some (.lst ws) := k4.keep D _ (keep3 D _ hD2) (.inl fun q => I3.dis D q List.mem_cons_self)
          cases c with
          | false =>
            refine iteF ⟨r.xs.length - (i + 1), by omega, rfl, hlt, S4, m4, acc, ws, vs2, ll, I4, kk, hD4, (r2.go k3).go k4, Nat.le_succ_of_le hacc, e2, rfl⟩
          | true =>
            refine iteT ?_
            obtain ⟨v5, S5, e5, e2⟩ := bnd_some e2
            obtain ⟨vs6, S6, e6, e2⟩ := bnd_some e2
            cases e2
            refine he.run I4 (E3.go k4) e5 _ fun w5 H5 m5 k5 I5 r5 => ?_
            have hm5 : D ∉ m5 := fun q => I5.dis D q List.mem_cons_self
            have hD5 : H5 D = some (.lst ws) := k5.keep D _ hD4 (.inl hm4)
            have r25 := ((r2.go k3).go k4).go k5
            refine ⟨ws, hD5, ?_, r.xs.length - (i + 1), by omega, rfl, hlt, S5, m5, acc ++ [v5], ws ++ [w5], vs6, (ll.go k5).put List.mem_cons_self, I5.put List.mem_cons_self, (kk.trans k5).put hD, upd_same, (r25.append (.cons r5 .nil)).put List.mem_cons_self, by simp; omega, e6, by simp⟩
            rw [← r25.length]
            exact Nat.lt_of_le_of_lt (Nat.le_trans hacc (Nat.le_trans hle hlen)) (by decide)
        · cases e2
      · left
        have hi0 : i = r.xs.length := by omega
        subst hi0
        rw [List.drop_length] at e2
        obtain ⟨gd2, e2⟩ := chk_some e2
        obtain ⟨hstop, _⟩ := J1.turn L2 I2 gd2
        refine ⟨hstop, ?_⟩
        cases e2
        rw [List.append_nil] at k
        exact k D ws H2 m2 (k1.trans k2) hHD hD2 I2 r2
  · cases e⟩
end
end Nc
set_option Elab.async false
set_option linter.all false
set_option maxRecDepth 100000
namespace Nc
open PySem PySem.Spec PyProof.Rows L2
/-! ### statements -/
inductive Fl where
  | nx | bk | ct
  | rt (v : OV)
abbrev SS := Env → Sto → Option (Fl × Env × Sto)
def FlK (K : PySem.W.Frag) (g : Gd) (H : Hp) (m : List Addr) (fl : Fl) (ρ' : Env) (S' : Sto) (D : Ends) : Prop := match fl with
  | .nx => ∀ σ' H' m', Go H m H' m' → Ob K g H' S' m' → EnvR K g H' m' ρ' σ' → D.nx σ' H'
  | .bk => ∀ σ' H' m', Go H m H' m' → Ob K g H' S' m' → EnvR K g H' m' ρ' σ' → D.bk σ' H'
  | .ct => ∀ σ' H' m', Go H m H' m' → Ob K g H' S' m' → EnvR K g H' m' ρ' σ' → D.ct σ' H'
  | .rt v => ∀ w H' m', Go H m H' m' → Ob K g H' S' m' → VR K g H' m' v w → D.rt w H'
structure SmS (K : PySem.W.Frag) (ts : TS) (f : SS) : Prop where
  run : ∀ {g : Gd} {ρ ρ' : Env} {σ : L2.St} {H : Hp} {S S' : Sto} {m : List Addr} {fl : Fl}, Ob K g H S m → EnvR K g H m ρ σ → f ρ S = some (fl, ρ', S') → ∀ D : Ends, FlK K g H m fl ρ' S' D → ts D σ H
section
variable {K : PySem.W.Frag} {g g2 g3 : Gd} {H H' H1 H2 H3 : Hp} {m m' m1 m2 m3 : List Addr} {S S' S1 S2 : Sto} {ρ ρ' : Env} {σ : L2.St} {ta tb tc te : TE} {fa fb fc f : SE} {fl : Fl} {D : Ends}
theorem FlK.go (h : FlK K g H m fl ρ' S' D) (k : Go H m H1 m1) : FlK K g H1 m1 fl ρ' S' D := by
  cases fl <;> exact fun w H' m' k' => h w H' m' (k.trans k')
def sNext : SS := fun ρ S => some (.nx, ρ, S)
theorem sms_next : SmS K tNext sNext := ⟨fun {g ρ ρ' σ H S S' m fl} I E e D k => by
  cases e
  exact k σ H m Go.refl I E⟩
def sNever : SS := fun _ _ => none
theorem sms_never : SmS K tNever sNever := ⟨fun {g ρ ρ' σ H S S' m fl} I E e D k => by cases e⟩
def sBreak : SS := fun ρ S => some (.bk, ρ, S)
theorem sms_break : SmS K tBreak sBreak := ⟨fun {g ρ ρ' σ H S S' m fl} I E e D k => by
  cases e
  exact k σ H m Go.refl I E⟩
def sSeq (f1 f2 : SS) : SS := fun ρ S => match f1 ρ S with
  | some (.nx, ρ1, S1) => f2 ρ1 S1
  | r => r
theorem sms_seq {t u : TS} {f1 f2 : SS} (h1 : SmS K t f1) (h2 : SmS K u f2) : SmS K (tSeq t u) (sSeq f1 f2) := ⟨fun {g ρ ρ' σ H S S' m fl} I E e D k => by
  unfold sSeq at e
  split at e
  · rename_i ρ1 S1 e1
    exact h1.run I E e1 _ fun σ1 H1 m1 k1 I1 E1 => h2.run I1 E1 e D (k.go k1)
  · rename_i hn
    refine h1.run I E e _ ?_
    cases fl with
    | nx => exact (hn _ _ e).elim
    | bk => exact k
    | ct => exact k
    | rt v => exact k⟩
def sAsg (f : SE) (b : BN) : SS := fun ρ S => bnd (f ρ S) fun v S1 => match b S1 v ρ with
  | some ρ1 => some (.nx, ρ1, S1)
  | none => none
theorem sms_asg {t : TG} {b : BN} {is : List Nat} (h : SmE K te f) (hb : SmN K t b is) : SmS K (tAsg te t) (sAsg f b) := ⟨fun {g ρ ρ' σ H S S' m fl} I E e D k => by
  obtain ⟨v, S1, e1, e⟩ := bnd_some e
  split at e
  · rename_i ρ1 e2
    cases e
    refine h.run I E e1 _ fun w H1 m1 k1 I1 r1 => ?_
    exact hb.run I1 (E.go k1) r1 e2 _ fun σ1 E1 _ _ => k σ1 H1 m1 k1 I1 E1
  · cases e⟩
def sDrop (f : SE) : SS := fun ρ S => bnd (f ρ S) fun _ S1 => some (.nx, ρ, S1)
theorem sms_drop (h : SmE K te f) : SmS K (tDrop te) (sDrop f) := ⟨fun {g ρ ρ' σ H S S' m fl} I E e D k => by
  obtain ⟨v, S1, e1, e⟩ := bnd_some e
  cases e
  exact h.run I E e1 _ fun w H1 m1 k1 I1 r1 => k σ H1 m1 k1 I1 (E.go k1)⟩
def sRet (f : SE) : SS := fun ρ S => bnd (f ρ S) fun v S1 => some (.rt v, ρ, S1)
theorem sms_ret (h : SmE K te f) : SmS K (tRet te) (sRet f) := ⟨fun {g ρ ρ' σ H S S' m fl} I E e D k => by
  obtain ⟨v, S1, e1, e⟩ := bnd_some e
  cases e
  exact h.run I E e1 _ fun w H1 m1 k1 I1 r1 => k w H1 m1 k1 I1 r1⟩
def sRetN : SS := fun ρ S => some (.rt (.dat false .none), ρ, S)
theorem sms_retN : SmS K tRetN sRetN := ⟨fun {g ρ ρ' σ H S S' m fl} I E e D k => by
  cases e
  exact k .non H m Go.refl I (DatAt.scal .non)⟩
def sIf (ft : SC) (f1 f2 : SS) : SS := fun ρ S => bnd (ft ρ S) fun c S1 => if c = true then f1 ρ S1 else f2 ρ S1
theorem sms_if {c : TT} {ft : SC} {t u : TS} {f1 f2 : SS} (hc : SmC K c ft) (h1 : SmS K t f1) (h2 : SmS K u f2) : SmS K (tIfS c t u) (sIf ft f1 f2) := ⟨fun {g ρ ρ' σ H S S' m fl} I E e D k => by
  obtain ⟨v, S1, e1, e⟩ := bnd_some e
  refine hc.run I E e1 _ fun H1 m1 k1 I1 => ?_
  cases v with
  | true => exact iteT (h1.run I1 (E.go k1) e D (k.go k1))
  | false => exact iteF (h2.run I1 (E.go k1) e D (k.go k1))⟩
/-- a, b = x, y -/
def sPar (i j : Nat) (fr : SA) : SS := fun ρ S => bnd (fr ρ S) fun as S1 => match as with
  | [a, b] => some (.nx, (ρ.set i (some a)).set j (some b), S1)
  | _ => none
theorem sms_par {i j : Nat} {tr : TA} {fr : SA} (h : SmA K tr fr) : SmS K (tPar i j tr) (sPar i j fr) := ⟨fun {g ρ ρ' σ H S S' m fl} I E e D k => by
  obtain ⟨as, S1, e1, e⟩ := bnd_some e
  split at e
  · cases e
    refine h.run I E e1 _ fun xs H1 m1 k1 I1 r1 => ?_
    obtain ⟨x, y, rfl, ra, rb⟩ := VsR.two r1
    exact ⟨x, y, rfl, k _ H1 m1 k1 I1 (((E.go k1).set ra i).set rb j)⟩
  · cases e⟩
def sPar3 (i j l : Nat) (fr : SA) : SS := fun ρ S => bnd (fr ρ S) fun as S1 => match as with
  | [a, b, c] => some (.nx, ((ρ.set i (some a)).set j (some b)).set l (some c), S1)
  | _ => none
theorem VsR.three {a b c : OV} {xs : List V} (h : VsR K g H m [a, b, c] xs) : ∃ x y z, xs = [x, y, z] ∧ VR K g H m a x ∧ VR K g H m b y ∧ VR K g H m c z := by
  cases h with
  | cons r t =>
    obtain ⟨y, z, rfl, r2, r3⟩ := VsR.two t
    exact ⟨_, y, z, rfl, r, r2, r3⟩
theorem sms_par3 {i j l : Nat} {tr : TA} {fr : SA} (h : SmA K tr fr) : SmS K (tPar3 i j l tr) (sPar3 i j l fr) := ⟨fun {g ρ ρ' σ H S S' m fl} I E e D k => by
  obtain ⟨as, S1, e1, e⟩ := bnd_some e
  split at e
  · cases e
    refine h.run I E e1 _ fun xs H1 m1 k1 I1 r1 => ?_
    obtain ⟨x, y, z, rfl, ra, rb, rc⟩ := VsR.three r1
    exact ⟨x, y, z, rfl, k _ H1 m1 k1 I1 ((((E.go k1).set ra i).set rb j).set rc l)⟩
  · cases e⟩
/-- x op= e, whole numbers -/
def sAug (i : Nat) (h : Int → Int → Int) (f : SE) : SS := fun ρ S => match ρ[i]? with
  | some (some (.dat _ (.int a))) => bnd (f ρ S) fun v S1 => match v with
    | .dat _ (.int b) => some (.nx, ρ.set i (some (.dat false (.int (h a b)))), S1)
    | _ => none
  | _ => none
theorem sms_aug {i : Nat} {h : Int → Int → Int} (he : SmE K te f) : SmS K (tAug i te (ipI h)) (sAug i h f) := ⟨fun {g ρ ρ' σ H S S' m fl} I E e D k => by
  unfold sAug at e
  split at e
  · rename_i hi
    obtain ⟨v, S1, e1, e⟩ := bnd_some e
    split at e
    · cases e
      obtain ⟨x, hx, rx⟩ := E.at_ i _ hi
      refine ⟨x, hx, he.run I E e1 _ fun w H1 m1 k1 I1 r1 => ?_⟩
      rw [rx.int, r1.int]
      exact ⟨_, _, rfl, rfl, k _ H1 m1 k1 I1 ((E.go k1).set VR.ofInt i)⟩
    · cases e
  · cases e⟩
/-! ### for -/
def turnS (b : BN) (f : SS) (ws : List Nat) (x : OV) : SS := fun ρ S => match b S x ρ with
  | some ρ1 => (match f ρ1 S with
    | some (fl, ρ2, S2) => some (fl, wipeE ρ2 ws, S2)
    | none => none)
  | none => none
noncomputable def forL (bd : OV → SS) (gd : Sto → Prop) : List OV → SS
  | [], ρ, S => chk (gd S) (some (.nx, ρ, S))
  | x :: xs, ρ, S => chk (gd S) (match bd x ρ S with
    | some (.nx, ρ1, S1) => forL bd gd xs ρ1 S1
    | some (.ct, ρ1, S1) => forL bd gd xs ρ1 S1
    | some (.bk, ρ1, S1) => some (.nx, ρ1, S1)
    | some (.rt v, ρ1, S1) => some (.rt v, ρ1, S1)
    | none => none)
/-- ws: the names that a turn stores for itself alone -/
noncomputable def sFor (fi : SI) (b : BN) (f : SS) (ws : List Nat) : SS := fun ρ S => bnd (fi ρ S) fun r S1 => forL (turnS b f ws) r.gd r.xs ρ S1
theorem EnvR.forgets (h : EnvR K g H m ρ σ) : ∀ is : List Nat, EnvR K g H m (wipeE ρ is) σ
  | [] => h
  | i :: is => (EnvR.forgets h is).forget i
theorem sms_for {wi : TI} {fi : SI} {t : TG} {b : BN} {is : List Nat} {tb : TS} {f : SS} {ws : List Nat} (hi : SmI K wi fi) (hb : SmN K t b is) (hf : SmS K tb f) : SmS K (tFor wi t tb) (sFor fi b f ws) := ⟨fun {g ρ ρ' σ H S S' m fl} I E e D k => by
  obtain ⟨r, S1, e1, e⟩ := bnd_some e
  refine hi.run I E e1 _ fun J H1 m1 k1 I1 _ J1 => ?_
  refine ⟨fun i w σ2 H2 => w = r.xs.length - i ∧ i ≤ r.xs.length ∧ ∃ ρ2 S2 m2, Go H1 m1 H2 m2 ∧ Ob K g H2 S2 m2 ∧ EnvR K g H2 m2 ρ2 σ2 ∧ forL (turnS b f ws) r.gd (r.xs.drop i) ρ2 S2 = some (fl, ρ', S'), ⟨r.xs.length, ?_⟩, ?_⟩
  · exact ⟨by simp, Nat.zero_le _, ρ, S1, m1, Go.refl, I1, E.go k1, by simpa using e⟩
  · rintro i w σ2 H2 ⟨rfl, hle, ρ2, S2, m2, k2, I2, E2, e2⟩
    by_cases hlt : i < r.xs.length
    · right
      rw [List.drop_eq_getElem_cons hlt] at e2
      unfold forL at e2
      obtain ⟨gd, e2⟩ := chk_some e2
      have hx : r.xs[i]? = some r.xs[i] := List.getElem?_eq_getElem hlt
      obtain ⟨go, yl⟩ := J1.step (Later.refl.go k2) I2 gd hx
      refine ⟨go, fun σ3 H3 => ∃ m', m' < r.xs.length - i ∧ m' = r.xs.length - (i + 1) ∧ i + 1 ≤ r.xs.length ∧ ∃ ρ2 S2 m2, Go H1 m1 H3 m2 ∧ Ob K g H3 S2 m2 ∧ EnvR K g H3 m2 ρ2 σ3 ∧ forL (turnS b f ws) r.gd (r.xs.drop (i + 1)) ρ2 S2 = some (fl, ρ', S'),
        fun σ' H' h => h, fun v H3 y => ?_⟩
      obtain ⟨k3, I3, _, r3⟩ := yl v H3 y
      have E3 := E2.go k3
      -- the turn
      cases hturn : turnS b f ws r.xs[i] ρ2 S2 with
      | none => rw [hturn] at e2; cases e2
      | some z =>
        obtain ⟨fl1, ρ5, S5⟩ := z
        rw [hturn] at e2
        unfold turnS at hturn
        split at hturn
        · rename_i ρ3 hb3
          split at hturn
          · rename_i fl4 ρ4 S4 e4
            cases hturn
            refine hb.run I3 E3 r3 hb3 _ fun σ3 E4 _ _ => ?_
            refine hf.run I3 E4 e4 _ ?_
            have kk := (k1.trans k2).trans k3
            cases fl1 with
            | nx => exact fun σ6 H6 m6 k6 I6 E6 => ⟨_, by omega, rfl, hlt, _, _, m6, (k2.trans k3).trans k6, I6, E6.forgets ws, e2⟩
            | ct => exact fun σ6 H6 m6 k6 I6 E6 => ⟨_, by omega, rfl, hlt, _, _, m6, (k2.trans k3).trans k6, I6, E6.forgets ws, e2⟩
            | bk =>
              intro σ6 H6 m6 k6 I6 E6
              cases e2
              exact k σ6 H6 m6 (kk.trans k6) I6 (E6.forgets ws)
            | rt u =>
              intro w6 H6 m6 k6 I6 r6
              cases e2
              exact k w6 H6 m6 (kk.trans k6) I6 r6
          · cases hturn
        · cases hturn
    · left
      have hi0 : i = r.xs.length := by omega
      subst hi0
      rw [List.drop_length] at e2
      obtain ⟨gd, e2⟩ := chk_some e2
      obtain ⟨hstop, _⟩ := J1.turn (Later.refl.go k2) I2 gd
      cases e2
      exact ⟨hstop, k σ2 H2 m2 (k1.trans k2) I2 E2⟩⟩
/-! ### while, so many turns at most -/
def whileL (ft : SC) (f : SS) : Nat → SS
  | 0, _, _ => none
  | n + 1, ρ, S => bnd (ft ρ S) fun c S1 => if c = true then (match f ρ S1 with
    | some (.nx, ρ1, S2) => whileL ft f n ρ1 S2
    | some (.ct, ρ1, S2) => whileL ft f n ρ1 S2
    | some (.bk, ρ1, S2) => some (.nx, ρ1, S2)
    | some (.rt v, ρ1, S2) => some (.rt v, ρ1, S2)
    | none => none) else some (.nx, ρ, S1)
theorem sms_while {c : TT} {ft : SC} {tb : TS} {f : SS} {n : Nat} (hc : SmC K c ft) (hf : SmS K tb f) : SmS K (tWhile c tb) (whileL ft f n) := ⟨fun {g ρ ρ' σ H S S' m fl} I E e D k => by
  refine ⟨fun w σ2 H2 => ∃ ρ2 S2 m2, Go H m H2 m2 ∧ Ob K g H2 S2 m2 ∧ EnvR K g H2 m2 ρ2 σ2 ∧ whileL ft f w ρ2 S2 = some (fl, ρ', S'), ⟨n, ρ, S, m, Go.refl, I, E, e⟩, ?_⟩
  rintro w σ2 H2 ⟨ρ2, S2, m2, k2, I2, E2, e2⟩
  cases w with
  | zero => cases e2
  | succ w =>
    unfold whileL at e2
    obtain ⟨c, S3, e3, e2⟩ := bnd_some e2
    refine hc.run I2 E2 e3 _ fun H3 m3 k3 I3 => ?_
    cases c with
    | false =>
      cases e2
      exact iteF (k σ2 H3 m3 (k2.trans k3) I3 (E2.go k3))
    | true =>
      refine iteT ⟨fun σ' H' => ∃ m', m' < w + 1 ∧ ∃ ρ2 S2 m2, Go H m H' m2 ∧ Ob K g H' S2 m2 ∧ EnvR K g H' m2 ρ2 σ' ∧ whileL ft f m' ρ2 S2 = some (fl, ρ', S'), fun _ _ h => h, ?_⟩
      have e4 : (match f ρ2 S3 with
        | some (.nx, ρ1, S2) => whileL ft f w ρ1 S2
        | some (.ct, ρ1, S2) => whileL ft f w ρ1 S2
        | some (.bk, ρ1, S2) => some (.nx, ρ1, S2)
        | some (.rt v, ρ1, S2) => some (.rt v, ρ1, S2)
        | none => none) = some (fl, ρ', S') := e2
      cases h : f ρ2 S3 with
      | none => rw [h] at e4; cases e4
      | some z =>
        obtain ⟨fl1, ρ5, S5⟩ := z
        rw [h] at e4
        refine hf.run I3 (E2.go k3) h _ ?_
        have kk := k2.trans k3
        cases fl1 with
        | nx => exact fun σ6 H6 m6 k6 I6 E6 => ⟨w, Nat.lt_succ_self w, _, _, m6, kk.trans k6, I6, E6, e4⟩
        | ct => exact fun σ6 H6 m6 k6 I6 E6 => ⟨w, Nat.lt_succ_self w, _, _, m6, kk.trans k6, I6, E6, e4⟩
        | bk =>
          intro σ6 H6 m6 k6 I6 E6
          cases e4
          exact k σ6 H6 m6 (kk.trans k6) I6 E6
        | rt u =>
          intro w6 H6 m6 k6 I6 r6
          cases e4
          exact k w6 H6 m6 (kk.trans k6) I6 r6⟩
/-! ### lists that change -/
def xMut (up : List OV → List OV → Option (OV × List OV)) (fo : SE) (fr : SA) : SE := fun ρ S => bnd (fo ρ S) fun o S1 => bnd (fr ρ S1) fun as S2 => match o with
  | .own i => (match S1[i]?, S2[i]? with
    | some (.lst _), some (.lst vs) => (match up vs as with
      | some (r, us) => some (r, S2.set i (.lst us))
      | none => none)
    | _, _ => none)
  | _ => none
def uApp (vs as : List OV) : Option (OV × List OV) := match as with
  | [a] => if vs.length < 100000 then some (.dat false .none, vs ++ [a]) else none
  | _ => none
theorem sz_lt {n : Nat} (h : n < 100000) : n < sizeLine := Nat.lt_of_lt_of_le h (by decide)
theorem own_at {i : Nat} {v : V} (r : VR K g H m (.own i) v) : ∃ p, m[i]? = some p ∧ v = .ref p := r
theorem Go.in {p : Addr} {i : Nat} {u : HO} (hp : m[i]? = some p) (hu : H p = some u) (o : HO) (ht : tupO u = false := by rfl) : Go H m (upd H p o) m := Go.mut (List.mem_of_getElem? hp) fun z hz => by
  rw [hu] at hz
  cases hz
  exact ht
theorem Ob.in (I : Ob K g H S m) {i : Nat} {p : Addr} {o u : HO} {oo : OO} (hp : m[i]? = some p) (hu : H p = some u) (ho : ObA K g (upd H p o) m oo p) (ht : tupO u = false := by rfl) : Ob K g (upd H p o) (S.set i oo) m := I.mut hp (fun z hz => by
  rw [hu] at hz
  cases hz
  exact ht) ho
theorem ltyp {T : String} {i : Nat} {x : V} (I : Ob K g H S m) (r : VR K g H m (.own i) x) {vs : List OV} (h : S[i]? = some (.lst vs)) : tyV K "list" x H := by
  obtain ⟨p, hp, rfl⟩ := own_at r
  obtain ⟨p', hp', ws, h2, h4⟩ := I.get h
  rw [hp] at hp'
  cases hp'
  exact .inl ⟨rfl, ws, SqL.of h2⟩
/-- a method that changes its list -/
structure MUS (K : PySem.W.Frag) (r : V → List V → Hp → VK → Prop) (up : List OV → List OV → Option (OV × List OV)) : Prop where
  run : ∀ {g : Gd} {H : Hp} {S : Sto} {m : List Addr} {p : Addr} {i : Nat} {vs as us : List OV} {z : OV} {ws xs : List V}, Ob K g H S m → H p = some (.lst ws) → m[i]? = some p → VsR K g H m vs ws → VsR K g H m as xs → up vs as = some (z, us) →
    ∀ Q : VK, (∀ v ws', VsR K g H m us ws' → VR K g H m z v → Q v (upd H p (.lst ws'))) → r (.ref p) xs H Q
theorem sm_mut {r : V → List V → Hp → VK → Prop} {up : List OV → List OV → Option (OV × List OV)} {tr : TA} {fr : SA} (hr : MUS K r up) (ho : SmE K ta fa) (ha : SmA K tr fr) : SmE K (tBM K "list" r ta tr) (xMut up fa fr) := ⟨fun {g ρ σ H S m z S'} I E e Q k => by
  obtain ⟨o, S1, e1, e⟩ := bnd_some e
  obtain ⟨as, S2, e2, e⟩ := bnd_some e
  split at e
  · rename_i i
    split at e
    · rename_i us0 vs hs0 hs
      split at e
      · rename_i r0 us hu
        cases e
        refine ho.run I E e1 _ fun x H1 m1 k1 I1 r1 => ?_
        refine ⟨ltyp (T := "list") I1 r1 hs0, ha.run I1 (E.go k1) e2 _ fun xs H2 m2 k2 I2 r2 => ?_⟩
        obtain ⟨p, hp, rfl⟩ := own_at (r1.go k2)
        obtain ⟨p', hp', ws, h2, h4⟩ := I2.get hs
        rw [hp] at hp'
        cases hp'
        refine hr.run I2 h2 hp h4 r2 hu Q fun v ws' hw hz => ?_
        have kp : Go H2 m2 (upd H2 p (.lst ws')) m2 := Go.in hp h2 _
        exact k v _ m2 ((k1.trans k2).trans kp) (I2.in hp h2 ⟨_, upd_same, hw.go kp⟩) (hz.go kp)
      · cases e
    · cases e
  · cases e⟩
theorem sm_mut0 {r : V → List V → Hp → VK → Prop} {up : List OV → List OV → Option (OV × List OV)} (hr : MUS K r up) (ho : SmE K ta fa) : SmE K (tBM0 K "list" r ta) (xMut up fa xNil) := ⟨fun {g ρ σ H S m z S'} I E e Q k => by
  obtain ⟨o, S1, e1, e⟩ := bnd_some e
  obtain ⟨as, S2, e2, e⟩ := bnd_some e
  cases e2
  split at e
  · rename_i i
    split at e
    · rename_i us0 vs hs0 hs
      split at e
      · rename_i r0 us hu
        cases e
        refine ho.run I E e1 _ fun x H1 m1 k1 I1 r1 => ?_
        refine ⟨ltyp (T := "list") I1 r1 hs0, ?_⟩
        obtain ⟨p, hp, rfl⟩ := own_at r1
        obtain ⟨p', hp', ws, h2, h4⟩ := I1.get hs
        rw [hp] at hp'
        cases hp'
        refine hr.run I1 h2 hp h4 .nil hu Q fun v ws' hw hz => ?_
        have kp : Go H1 m1 (upd H1 p (.lst ws')) m1 := Go.in hp h2 _
        exact k v _ m1 (k1.trans kp) (I1.in hp h2 ⟨_, upd_same, hw.go kp⟩) (hz.go kp)
      · cases e
    · cases e
  · cases e⟩
theorem mu_app : MUS K rAppend uApp := ⟨fun {g H S m p i vs as us z ws xs} I h2 hp h4 ra e Q k => by
  unfold uApp at e
  split at e
  · split at e
    · rename_i hl
      cases e
      obtain ⟨y, rfl, ry⟩ := VsR.one ra
      exact ⟨p, ws, y, rfl, rfl, h2, by rw [← h4.length]; exact sz_lt hl, k .non _ (h4.append (.cons ry .nil)) (DatAt.scal .non)⟩
    · cases e
  · cases e⟩
def uRev (vs as : List OV) : Option (OV × List OV) := match as with
  | [] => some (.dat false .none, vs.reverse)
  | _ => none
theorem mu_rev : MUS K rReverse uRev := ⟨fun {g H S m p i vs as us z ws xs} I h2 hp h4 ra e Q k => by
  unfold uRev at e
  split at e
  · cases e
    cases ra
    exact ⟨p, ws, rfl, rfl, h2, k .non _ h4.reverse (DatAt.scal .non)⟩
  · cases e⟩
def uPop (vs as : List OV) : Option (OV × List OV) := match as with
  | [] => (match vs[vs.length - 1]? with
    | some v => some (v, vs.dropLast)
    | none => none)
  | _ => none
theorem VsR.dropLast {vs : List OV} {ws : List V} (h : VsR K g H m vs ws) : VsR K g H m vs.dropLast ws.dropLast := by
  rw [List.dropLast_eq_take, List.dropLast_eq_take, h.length]
  exact h.take _
theorem mu_pop : MUS K rPop uPop := ⟨fun {g H S m p i vs as us z ws xs} I h2 hp h4 ra e Q k => by
  unfold uPop at e
  split at e
  · split at e
    · rename_i v hv
      cases e
      cases ra
      obtain ⟨w, h5, h6⟩ := VsR.get h4 hv
      exact ⟨p, ws, w, rfl, rfl, h2, by rw [← h4.length]; exact h5, k w _ h4.dropLast h6⟩
    · cases e
  · cases e⟩
/-- xs.extend(ys): ys a list that is read -/
def xExt (fo f2 : SE) : SE := fun ρ S => bnd (fo ρ S) fun o S1 => bnd (f2 ρ S1) fun a S2 => match o with
  | .own i => (match S1[i]?, S2[i]?, lstItems S2 a with
    | some (.lst _), some (.lst vs), some us => if vs.length + us.length ≤ 100000 then some (.dat false .none, S2.set i (.lst (vs ++ us))) else none
    | _, _, _ => none)
  | _ => none
theorem sm_ext (ho : SmE K ta fa) (ha : SmE K tb fb) : SmE K (tBM K "list" rExtend ta (tCons tb tNil)) (xExt fa fb) := ⟨fun {g ρ σ H S m z S'} I E e Q k => by
  obtain ⟨o, S1, e1, e⟩ := bnd_some e
  obtain ⟨a, S2, e2, e⟩ := bnd_some e
  split at e
  · rename_i i
    split at e
    · rename_i us0 vs us hs0 hs hu
      split at e
      · rename_i hl
        cases e
        refine ho.run I E e1 _ fun x H1 m1 k1 I1 r1 => ?_
        refine ⟨ltyp (T := "list") I1 r1 hs0, ha.run I1 (E.go k1) e2 _ fun y H2 m2 k2 I2 r2 => ?_⟩
        obtain ⟨p, hp, rfl⟩ := own_at (r1.go k2)
        obtain ⟨p', hp', ws, h2, h4⟩ := I2.get hs
        rw [hp] at hp'
        cases hp'
        obtain ⟨q, ws2, rfl, h5, h6⟩ := lstItems_ok I2 r2 hu
        have kp : Go H2 m2 (upd H2 p (.lst (ws ++ ws2))) m2 := Go.in hp h2 _
        refine ⟨p, q, ws, ws2, rfl, rfl, h2, h5, by rw [← h4.length, ← h6.length]; exact sz_le hl, k .non _ m2 ((k1.trans k2).trans kp) (I2.in hp h2 ⟨_, upd_same, (h4.append h6).go kp⟩) (DatAt.scal .non)⟩
      · cases e
    · cases e
  · cases e⟩
/-- xs[i] = e -/
def sSetIx (fe fo fi : SE) : SS := fun ρ S => bnd (fe ρ S) fun v S1 => bnd (fo ρ S1) fun o S2 => bnd (fi ρ S2) fun i S3 => match o, i with
  | .own j, .dat _ (.int n) => (match S3[j]? with
    | some (.lst vs) => (match ixN vs.length n with
      | some x => some (.nx, ρ, S3.set j (.lst (vs.set x v)))
      | none => none)
    | _ => none)
  | _, _ => none
theorem sms_setix (he : SmE K te f) (ho : SmE K ta fa) (hi : SmE K tb fb) : SmS K (tAsg te (gSub ta tb rSetL)) (sSetIx f fa fb) := ⟨fun {g ρ ρ' σ H S S' m fl} I E e D k => by
  obtain ⟨v, S1, e1, e⟩ := bnd_some e
  obtain ⟨o, S2, e2, e⟩ := bnd_some e
  obtain ⟨i, S3, e3, e⟩ := bnd_some e
  split at e
  · split at e
    · rename_i vs hs
      split at e
      · rename_i x hx
        cases e
        refine he.run I E e1 _ fun w H1 m1 k1 I1 r1 => ?_
        refine ho.run I1 (E.go k1) e2 _ fun ow H2 m2 k2 I2 r2 => ?_
        refine hi.run I2 ((E.go k1).go k2) e3 _ fun iw H3 m3 k3 I3 r3 => ?_
        obtain ⟨p, hp, rfl⟩ := own_at (r2.go k3)
        obtain ⟨p', hp', ws, h2, h4⟩ := I3.get hs
        rw [hp] at hp'
        cases hp'
        have r1' := (r1.go k2).go k3
        have kp : Go H3 m3 (upd H3 p (.lst (ws.set x w))) m3 := Go.in hp h2 _
        refine ⟨p, ws, _, x, rfl, r3.int, h2, by rw [← h4.length]; exact hx, ?_⟩
        exact k σ _ m3 (((k1.trans k2).trans k3).trans kp) (I3.in hp h2 ⟨_, upd_same, (VsR.set r1' x h4).go kp⟩) ((((E.go k1).go k2).go k3).go kp)
      · cases e
    · cases e
  · cases e⟩
/-! ### instances -/
theorem fsR_get : ∀ {fs : List (Str × OV)} {ws : List (Str × V)} {f : Str} {v : OV}, FsR K g H m fs ws → fs.lookup f = some v → ∃ w, ws.lookup f = some w ∧ VR K g H m v w
  | [], _, _, _, .nil, e => by cases e
  | (a, u) :: fs, _, f, v, .cons (b := b) r t, e => by
    obtain ⟨b1, b2⟩ := b
    obtain ⟨h1, h2⟩ := r
    simp only at h1 h2
    subst h1
    rw [List.lookup_cons] at e ⊢
    cases q : f == a with
    | true =>
      rw [q] at e
      cases e
      exact ⟨b2, rfl, h2⟩
    | false =>
      rw [q] at e
      exact fsR_get t e
theorem fsR_none : ∀ {fs : List (Str × OV)} {ws : List (Str × V)} {f : Str}, FsR K g H m fs ws → fs.lookup f = none → ws.lookup f = none
  | [], _, _, .nil, e => rfl
  | (a, u) :: fs, _, f, .cons (b := b) r t, e => by
    obtain ⟨b1, b2⟩ := b
    obtain ⟨h1, h2⟩ := r
    simp only at h1 h2
    subst h1
    rw [List.lookup_cons] at e ⊢
    cases q : f == a with
    | true =>
      rw [q] at e
      cases e
    | false =>
      rw [q] at e
      exact fsR_none t e
def putO (f : Str) (v : OV) : List (Str × OV) → List (Str × OV)
  | [] => [(f, v)]
  | (a, x) :: r => if a = f then (a, v) :: r else (a, x) :: putO f v r
theorem fsR_put {f : Str} {v : OV} {w : V} (hv : VR K g H m v w) : ∀ {fs : List (Str × OV)} {ws : List (Str × V)}, FsR K g H m fs ws → FsR K g H m (putO f v fs) (putF f w ws)
  | [], _, .nil => .cons ⟨rfl, hv⟩ .nil
  | (a, u) :: fs, _, .cons (b := b) r t => by
    obtain ⟨b1, b2⟩ := b
    obtain ⟨h1, h2⟩ := r
    simp only at h1 h2
    subst h1
    show FsR K g H m (if a = f then (a, v) :: fs else (a, u) :: putO f v fs) (if a = f then (a, w) :: _ else (a, b2) :: putF f w _)
    by_cases q : a = f
    · rw [if_pos q, if_pos q]
      exact .cons ⟨rfl, hv⟩ t
    · rw [if_neg q, if_neg q]
      exact .cons ⟨rfl, h2⟩ (fsR_put hv t)
theorem FsR.length {fs : List (Str × OV)} {ws : List (Str × V)} (h : FsR K g H m fs ws) : fs.length = ws.length := Paired.length h
theorem ins_at (I : Ob K g H S m) {i : Nat} {x : V} (r : VR K g H m (.own i) x) {c : Str} {fs : List (Str × OV)} (h : S[i]? = some (.ins c fs)) : ∃ p dx ws, m[i]? = some p ∧ x = .ref p ∧ H p = some (.ins (He.ga K c) dx ws) ∧ FsR K g H m fs ws := by
  obtain ⟨p, hp, rfl⟩ := own_at r
  obtain ⟨p', hp', dx, ws, h2, h4⟩ := I.get h
  rw [hp] at hp'
  cases hp'
  exact ⟨p, dx, ws, hp, rfl, h2, h4⟩
def xFld (c f : Str) (fo : SE) : SE := fun ρ S => bnd (fo ρ S) fun o S1 => match o with
  | .own i => (match S1[i]? with
    | some (.ins d fs) => if d = c then (match fs.lookup f with
      | some v => some (v, S1)
      | none => none) else none
    | _ => none)
  | _ => none
theorem sm_fld {c f : Str} (hc : Cls K (He.ga K c)) (hn : NoAttr K (He.ga K c) f) (ho : SmE K ta fa) : SmE K (tFld K ta f) (xFld c f fa) := ⟨fun {g ρ σ H S m z S'} I E e Q k => by
  have e0 := bnd_some e; clear e; obtain ⟨o, S1, e1, e⟩ := e0
  split at e
  · split at e
    · rename_i d fs hs
      split at e
      · rename_i hd
        subst hd
        split at e
        · rename_i v hv
          cases e
          refine ho.run I E e1 _ fun x H1 m1 k1 I1 r1 => ?_
          obtain ⟨p, dx, ws, hp, rfl, h2, h4⟩ := ins_at I1 r1 hs
          obtain ⟨w, h5, h6⟩ := fsR_get h4 hv
          exact ⟨p, _, dx, ws, w, rfl, h2, hc, hn, h5, k w H1 m1 k1 I1 h6⟩
        · cases e
      · cases e
    · cases e
  · cases e⟩
def sFldS (c f : Str) (fo fe : SE) : SS := fun ρ S => bnd (fe ρ S) fun v S1 => bnd (fo ρ S1) fun o S2 => match o with
  | .own i => (match S2[i]? with
    | some (.ins d fs) => if d = c ∧ fs.length < 100 then some (.nx, ρ, S2.set i (.ins d (putO f v fs))) else none
    | _ => none)
  | _ => none
theorem sms_fld {c f : Str} (hc : Cls K (He.ga K c)) (hn : NoAttr K (He.ga K c) f) (ho : SmE K ta fa) (he : SmE K te fb) : SmS K (sFld K ta te f) (sFldS c f fa fb) := ⟨fun {g ρ ρ' σ H S S' m fl} I E e D k => by
  have e0 := bnd_some e; clear e; obtain ⟨v, S1, e1, e⟩ := e0
  have e0 := bnd_some e; clear e; obtain ⟨o, S2, e2, e⟩ := e0
  split at e
  · split at e
    · rename_i d fs hs
      split at e
      · rename_i hd
        obtain ⟨rfl, hl⟩ := hd
        cases e
        refine he.run I E e1 _ fun w H1 m1 k1 I1 r1 => ?_
        refine ho.run I1 (E.go k1) e2 _ fun x H2 m2 k2 I2 r2 => ?_
        obtain ⟨p, dx, ws, hp, rfl, h2, h4⟩ := ins_at I2 r2 hs
        have kp : Go H2 m2 (upd H2 p (.ins (He.ga K d) dx (putF f w ws))) m2 := Go.in hp h2 _
        refine ⟨p, _, dx, ws, rfl, h2, hc, hn, by rw [← FsR.length h4]; omega, ?_⟩
        exact k σ _ m2 ((k1.trans k2).trans kp) (I2.in hp h2 ⟨dx, _, upd_same, (fsR_put (r1.go k2) h4).go kp⟩) (((E.go k1).go k2).go kp)
      · cases e
    · cases e
  · cases e⟩
/-- o.f op= e, whole numbers -/
def sFldA (c f : Str) (h : Int → Int → Int) (fo fe : SE) : SS := fun ρ S => bnd (fo ρ S) fun o S1 => match o with
  | .own i => (match S1[i]? with
    | some (.ins d fs) => if d = c then (match fs.lookup f with
      | some (.dat _ (.int a)) => bnd (fe ρ S1) fun v S2 => (match v with
        | .dat _ (.int b) => (match S2[i]? with
          | some (.ins d2 fs2) => if d2 = c ∧ fs2.length < 100 then some (.nx, ρ, S2.set i (.ins d2 (putO f (.dat false (.int (h a b))) fs2))) else none
          | _ => none)
        | _ => none)
      | _ => none) else none
    | _ => none)
  | _ => none
theorem sms_fldaug {c f : Str} {h : Int → Int → Int} (hc : Cls K (He.ga K c)) (hn : NoAttr K (He.ga K c) f) (ho : SmE K ta fa) (he : SmE K te fb) : SmS K (sFldAug K ta te (fun x y H Q => ∃ i j, x = .int i ∧ y = .int j ∧ Q (.int (h i j)) H) f) (sFldA c f h fa fb) := ⟨fun {g ρ ρ' σ H S S' m fl} I E e D k => by
  have e0 := bnd_some e; clear e; obtain ⟨o, S1, e1, e⟩ := e0
  split at e
  · split at e
    · rename_i d fs hs
      split at e
      · rename_i hd
        subst hd
        split at e
        · rename_i hv
          have e0 := bnd_some e; clear e; obtain ⟨v, S2, e2, e⟩ := e0
          split at e
          · split at e
            · rename_i d2 fs2 hs2
              split at e
              · rename_i hd2
                obtain ⟨rfl, hl⟩ := hd2
                cases e
                refine ho.run I E e1 _ fun x H1 m1 k1 I1 r1 => ?_
                obtain ⟨p, dx, ws, hp, rfl, h2, h4⟩ := ins_at I1 r1 hs
                obtain ⟨w, h5, h6⟩ := fsR_get h4 hv
                refine ⟨p, _, dx, ws, w, rfl, h2, hc, hn, h5, ?_⟩
                refine he.run I1 (E.go k1) e2 _ fun y H2 m2 k2 I2 r2 => ?_
                rw [h6.int, r2.int]
                obtain ⟨p', dx2, ws2, hp2, ep, h7, h8⟩ := ins_at I2 (r1.go k2) hs2
                cases ep
                refine ⟨_, _, rfl, rfl, dx2, ws2, h7, by rw [← FsR.length h8]; omega, ?_⟩
                exact k σ _ m2 ((k1.trans k2).trans (Go.in hp2 h7 _)) (I2.in hp2 h7 ⟨dx2, _, upd_same, (fsR_put VR.ofInt h8).go (Go.in hp2 h7 _)⟩) (((E.go k1).go k2).go (Go.in hp2 h7 _))
              · cases e
            · cases e
          · cases e
        · cases e
      · cases e
    · cases e
  · cases e⟩
end
end Nc
set_option Elab.async false
set_option linter.all false
set_option maxRecDepth 100000
namespace Nc
open PySem PySem.Spec PyProof.Rows L2
/-! ### defs -/
abbrev Sem2 := List OV → Sto → Option (OV × Sto)
def callS (n N : Nat) (body : SS) : Sem2 := fun as S => if as.length = n then (match body (as.map some ++ List.replicate (N - n) none) S with
  | some (.rt v, _, S') => some (v, S')
  | some (.nx, _, S') => some (.dat false .none, S')
  | _ => none) else none
def SpB (K : PySem.W.Frag) (sem : Sem2) (n : Nat) : Sp := fun vs H Q _ => ∃ (g : Gd) (S : Sto) (m : List Addr) (as : List OV) (r : OV) (S' : Sto), as.length = n ∧ Ob K g H S m ∧ VsR K g H m as vs ∧ sem as S = some (r, S') ∧
  ∀ v H' m', Go H m H' m' → Ob K g H' S' m' → VR K g H' m' r v → Q v H'
section
variable {K : PySem.W.Frag} {g g2 g3 : Gd} {H H' H1 H2 H3 : Hp} {m m' m1 m2 m3 : List Addr} {S S' S1 S2 : Sto} {ρ ρ' : Env} {σ : L2.St} {ta tb tc te : TE} {fa fb fc f : SE} {fl : Fl} {D : Ends}
theorem envR_start {as : List OV} {vs : List V} (r : VsR K g H m as vs) (N : List Str) : EnvR K g H m (as.map some ++ List.replicate (N.length - as.length) none) (L2.start N vs) := by
  unfold L2.start
  refine ⟨by simp [r.length], fun i ov e => ?_⟩
  by_cases hi : i < as.length
  · rw [List.getElem?_append_left (by simpa using hi), List.getElem?_map] at e
    cases h : as[i]? with
    | none => rw [h] at e; cases e
    | some a =>
      rw [h] at e
      cases e
      obtain ⟨w, h1, h2⟩ := VsR.get r h
      refine ⟨w, ?_, h2⟩
      rw [List.getElem?_append_left (by simpa [← r.length] using hi), List.getElem?_map, h1]
      rfl
  · rw [List.getElem?_append_right (by simpa using hi)] at e
    have := List.mem_of_getElem? e
    simp at this
theorem fn_ok {P : Program} {w : World} {mg : Str → Option Value} {base : Heap} {x qual : Str} {params : Arguments} {bd : List Stmt} {scope : Scope} {a : Addr} {fd : FuncData} {N ps : List Str} {k : Nat} (F : FunD K x qual params bd scope [] [] a fd) (sc : FnScope N ps scope) (body : SS)
    (hb : ∀ (cdv : Value) (A : Around) (outer : List PySem.Env) (s : Shared) (H : Hp) (E : XK), Room k (A.deeper (envOfC qual scope s.heap.objs.size a cdv)) → ∃ t, PSs (cxOf CX0 P w K mg base N qual scope a cdv A outer s H E).nox bd t ∧ SmS K t body) :
    FnOk P w K mg base CX0 (k + 1) a fd ps (SpB K (callS ps.length N.length body) ps.length) := by
  refine F.ok sc (fun vs H Q E h => ?_) (fun cdv A outer s H vs Q E hr h => ?_)
  · obtain ⟨g, S, m, as, r, S', h1, h2, h3, _⟩ := h
    rw [← h3.length, h1]
  · obtain ⟨t, ht, hs⟩ := hb cdv A outer s H E hr
    refine ⟨t, ht.nox, ?_⟩
    obtain ⟨g, S, m, as, r, S', h1, h2, h3, h4, h5⟩ := h
    have E0 := envR_start h3 N
    unfold callS at h4
    rw [if_pos h1] at h4
    rw [h1] at E0
    split at h4
    · rename_i v ρ1 S1 e
      cases h4
      exact hs.run h2 E0 e _ fun w H' m' k1 I1 r1 => h5 w H' m' k1 I1 r1
    · rename_i ρ1 S1 e
      cases h4
      exact hs.run h2 E0 e _ fun σ' H' m' k1 I1 _ => h5 .non H' m' k1 I1 (DatAt.scal .non)
    · cases h4
/-- a def that keeps its promise, with how it is called -/
structure Okd (P : Program) (w : World) (K : PySem.W.Frag) (mg : Str → Option Value) (base : Heap) (k : Nat) (a : Addr) (n : Nat) (sem : Sem2) : Prop where
  ex : ∃ (fd : FuncData) (ps : List Str), FnOk P w K mg base CX0 k a fd ps (SpB K sem n) ∧ Binds K fd ps []
  kp : PySem.W.keepIn K (.ref a) = true
variable {X : Cx} {k n : Nat} {a C : Addr} {sem : Sem2} {x mn : Str} {p pos apos : Pos} {e o : Expr} {es : List Expr} {t : TA}
theorem pe_callD (D : Okd X.prog X.w X.K X.mg X.base k a n sem) (hr : Room k X.A) (hg : Gl X x) (hm : X.mg x = some (.ref a)) (ha : PA X (e :: es) t) (hdb : (x == ("__debug__" : Str)) = false := by decide)
    (he : starEach (e :: es) X.env = (false, eval e X.env) :: starEach es X.env := by rfl) (hpl : (backTo pos (starEach es X.env)).any (·.1) = false := by rfl) : PE X (.Call (.Name x p) (e :: es) [] pos) (tCall (SpB X.K sem n) [] E0 t) := by
  obtain ⟨⟨fd, ps, F, b⟩, kp⟩ := D
  exact pe_call F hr hg hm kp b .nil pass0 ha hdb he hpl
theorem pe_callD0 (D : Okd X.prog X.w X.K X.mg X.base k a n sem) (hr : Room k X.A) (hg : Gl X x) (hm : X.mg x = some (.ref a)) (hdb : (x == ("__debug__" : Str)) = false := by decide) : PE X (.Call (.Name x p) [] [] pos) (tCall (SpB X.K sem n) [] E0 tNil) := by
  obtain ⟨⟨fd, ps, F, b⟩, kp⟩ := D
  exact pe_call0 F hr hg hm kp b .nil pass0 hdb
theorem pe_methD {pl : Sem Bool} (he : PE X o te) (c : Cls X.K C) (hm : Meth X.K C mn a) (D : Okd X.prog X.w X.K X.mg X.base k a n sem) (hr : Room k X.A) (ha : PA X (e :: es) t)
    (hst : starEach (e :: es) X.env = (false, eval e X.env) :: starEach es X.env := by rfl) (hpl : (backTo pos (starEach es X.env)).any (·.1) = false := by rfl)
    (ht : eval (.Call (.Attribute o mn apos) (e :: es) [] pos) X.env = (do
      let ov ← eval o X.env
      standAt apos.atName
      let (f, first) ← holding [ov] (getMethod ov mn pl)
      callWith pos f first (backTo pos (starEach (e :: es) X.env)) (backToKw pos (keywordEach [] X.env))) := by rfl) :
    PE X (.Call (.Attribute o mn apos) (e :: es) [] pos) (tMeth C mn (SpB X.K sem n) [] E0 te t) := by
  obtain ⟨⟨fd, ps, F, b⟩, kp⟩ := D
  exact pe_meth he c hm F hr b .nil pass0 ha hst hpl ht
theorem pe_methD0 {pl : Sem Bool} (he : PE X o te) (c : Cls X.K C) (hm : Meth X.K C mn a) (D : Okd X.prog X.w X.K X.mg X.base k a n sem) (hr : Room k X.A)
    (ht : eval (.Call (.Attribute o mn apos) [] [] pos) X.env = (do
      let ov ← eval o X.env
      standAt apos.atName
      let (f, first) ← holding [ov] (getMethod ov mn pl)
      callWith pos f first (backTo pos (starEach [] X.env)) (backToKw pos (keywordEach [] X.env))) := by rfl) :
    PE X (.Call (.Attribute o mn apos) [] [] pos) (tMeth C mn (SpB X.K sem n) [] E0 te tNil) := by
  obtain ⟨⟨fd, ps, F, b⟩, kp⟩ := D
  exact pe_meth0 he c hm F hr b .nil pass0 ht
theorem pe_makeD (M : Mk X.K C a) (D : Okd X.prog X.w X.K X.mg X.base k a n sem) (hr : Room (k + 1) X.A) (hg : Gl X x) (hm : X.mg x = some (.ref C)) (ha : PA X (e :: es) t) (hdb : (x == ("__debug__" : Str)) = false := by decide)
    (he : starEach (e :: es) X.env = (false, eval e X.env) :: starEach es X.env := by rfl) (hpl : (backTo pos (starEach es X.env)).any (·.1) = false := by rfl) :
    PE X (.Call (.Name x p) (e :: es) [] pos) (tMake C (SpB X.K sem n) [] E0 t) := by
  obtain ⟨⟨fd, ps, F, b⟩, kp⟩ := D
  exact pe_make M F hr hg hm b .nil pass0 ha hdb he hpl
/-- a, b, .. = x, y, ..: the tuple is let go at once -/
def sParT (n : Nat) (fr : SA) (b : BNs) : SS := fun ρ S => bnd (fr ρ S) fun as S1 => if as.length = n ∧ n ≤ 1000 then (match b S1 as ρ with
  | some ρ1 => some (.nx, ρ1, S1)
  | none => none) else none
theorem sms_parT {tr : TA} {fr : SA} {tg : TGs} {b : BNs} {is : List Nat} {n : Nat} (ha : SmA K tr fr) (hb : SmNs K tg b is) : SmS K (tAsg (tTup tr) (gTup K n tg)) (sParT n fr b) := ⟨fun {g ρ ρ' σ H S S' m fl} I E e D k => by
  obtain ⟨as, S1, e1, e⟩ := bnd_some e
  split at e
  · rename_i hl
    split at e
    · rename_i ρ1 hb1
      cases e
      refine ha.run I E e1 _ fun xs H1 m1 k1 I1 r1 => ?_
      refine ⟨by rw [← r1.length, hl.1]; exact sz_le (Nat.le_trans hl.2 (by decide)), fun p hp => ?_⟩
      have k2 : Go H1 m1 (upd H1 p (.tup xs)) m1 := Go.fresh hp
      refine ⟨p, xs, rfl, SqT.of upd_same, by rw [← r1.length]; exact hl.1, ?_⟩
      exact hb.run (I1.fresh hp) ((E.go k1).go k2) (r1.go k2) hb1 _ fun σ1 E1 _ _ => k σ1 _ m1 (k1.trans k2) (I1.fresh hp) E1
    · cases e
  · cases e⟩
/-! ### a call over the store -/
variable {tr : TA} {fr : SA}
def xCallM (sem : Sem2) (n : Nat) (fr : SA) : SE := fun ρ S => bnd (fr ρ S) fun as S1 => if as.length = n then sem as S1 else none
theorem sm_callM (ha : SmA K tr fr) : SmE K (tCall (SpB K sem n) [] E0 tr) (xCallM sem n fr) := ⟨fun {g ρ σ H S m z S'} I E e Q k => by
  obtain ⟨as, S1, e1, e⟩ := bnd_some e
  split at e
  · rename_i hl
    refine ha.run I E e1 _ fun xs H1 m1 k1 I1 r1 => ?_
    rw [List.append_nil]
    exact ⟨g, S1, m1, as, z, S', hl, I1, r1, e, fun v H2 m2 k2 I2 r2 => k v H2 m2 (k1.trans k2) I2 r2⟩
  · cases e⟩
def xMeth (c mn : Str) (sem : Sem2) (n : Nat) (fo : SE) (fr : SA) : SE := fun ρ S => bnd (fo ρ S) fun o S1 => match o with
  | .own i => (match S1[i]? with
    | some (.ins d fs) => if d = c ∧ fs.lookup mn = none then bnd (fr ρ S1) fun as S2 => if as.length + 1 = n then sem (.own i :: as) S2 else none else none
    | _ => none)
  | _ => none
theorem sm_meth {c : Str} (ho : SmE K ta fa) (ha : SmA K tr fr) : SmE K (tMeth (He.ga K c) mn (SpB K sem n) [] E0 ta tr) (xMeth c mn sem n fa fr) := ⟨fun {g ρ σ H S m z S'} I E e Q k => by
  have e0 := bnd_some e; clear e; obtain ⟨o, S1, e1, e⟩ := e0
  split at e
  · split at e
    · rename_i d fs hs
      split at e
      · rename_i hd
        obtain ⟨hd, hl⟩ := hd
        have e0 := bnd_some e; clear e; obtain ⟨as, S2, e2, e⟩ := e0
        split at e
        · rename_i hn
          subst hd
          refine ho.run I E e1 _ fun x H1 m1 k1 I1 r1 => ?_
          obtain ⟨p, dx, ws, hp, rfl, h2, h4⟩ := ins_at I1 r1 hs
          refine ⟨p, dx, ws, rfl, h2, fsR_none h4 hl, ?_⟩
          refine ha.run I1 (E.go k1) e2 _ fun xs H2 m2 k2 I2 r2 => ?_
          rw [List.append_nil]
          exact ⟨g, S2, m2, _, z, S', by simpa using hn, I2, .cons (r1.go k2) r2, e, fun v H3 m3 k3 I3 r3 => k v H3 m3 ((k1.trans k2).trans k3) I3 r3⟩
        · cases e
      · cases e
    · cases e
  · cases e⟩
def xMake (c : Str) (sem : Sem2) (n : Nat) (fr : SA) : SE := fun ρ S => bnd (fr ρ S) fun as S1 => if as.length + 1 = n then (match sem (.own S1.length :: as) (S1 ++ [.ins c []]) with
  | some (.dat _ .none, S2) => some (.own S1.length, S2)
  | _ => none) else none
theorem sm_make {c : Str} (ha : SmA K tr fr) : SmE K (tMake (He.ga K c) (SpB K sem n) [] E0 tr) (xMake c sem n fr) := ⟨fun {g ρ σ H S m z S'} I E e Q k => by
  obtain ⟨as, S1, e1, e⟩ := bnd_some e
  split at e
  · rename_i hn
    split at e
    · rename_i b S2 e2
      cases e
      refine ha.run I E e1 _ fun xs H1 m1 k1 I1 r1 => fun x dx nx ndx nex => ?_
      rw [List.append_nil]
      have nx2 : upd H1 dx (.own x) x = none := by rw [upd_ne (Ne.symm nex)]; exact nx
      have I2 := I1.fresh (o := .own x) ndx
      have k2 : Go H1 m1 (upd H1 dx (.own x)) m1 := Go.fresh ndx
      have k3 : Go (upd H1 dx (.own x)) m1 (upd (upd H1 dx (.own x)) x (.ins (He.ga K c) dx [])) (m1 ++ [x]) := Go.add nx2
      have I3 : Ob K g (upd (upd H1 dx (.own x)) x (.ins (He.ga K c) dx [])) (S1 ++ [.ins c []]) (m1 ++ [x]) := I2.add nx2 ⟨dx, [], upd_same, .nil⟩
      have hx : (m1 ++ [x])[S1.length]? = some x := by rw [← I1.len]; simp
      refine ⟨g, _, m1 ++ [x], _, _, S', by simpa using hn, I3, .cons (show VR K g _ (m1 ++ [x]) (.own S1.length) (.ref x) from ⟨x, hx, rfl⟩) ((r1.go k2).go k3), e2, fun v H4 m4 k4 I4 r4 => ?_⟩
      have := DatAt.dq r4
      cases this
      refine ⟨rfl, k _ H4 m4 (((k1.trans k2).trans k3).trans k4) I4 ?_⟩
      obtain ⟨ms, em⟩ := k4.pre
      exact ⟨x, by rw [em, List.getElem?_append_left (List.getElem?_eq_some_iff.mp hx).1]; exact hx, rfl⟩
    · cases e
  · cases e⟩
/-! ### what an expression has left behind is forgotten -/
def closedV (n : Nat) : OV → Bool
  | .own j => decide (j < n)
  | _ => true
def closedO (n : Nat) : OO → Bool
  | .lst vs => vs.all (closedV n)
  | .tup vs => vs.all (closedV n)
  | .ins _ fs => fs.all fun f => closedV n f.2
  | .dct fs => fs.all fun f => closedV n f.2
def xForget (f : SE) : SE := fun ρ S => match f ρ S with
  | some (v, S') => if closedV S.length v = true ∧ (S'.take S.length).all (closedO S.length) = true then some (v, S'.take S.length) else none
  | none => none
theorem VR.less {ms : List Addr} {v : OV} {w : V} (h : VR K g H (m ++ ms) v w) (c : closedV m.length v = true) : VR K g H m v w := by
  have pt : ∀ F, Pt g H (m ++ ms) F → Pt g H m F := fun F z => ⟨z.le, fun q hq o e => z.no q (List.mem_append_left _ hq) o e, z.av⟩
  cases v with
  | dat b d =>
    obtain ⟨F, h1, h3, h4⟩ := DatAt.ex h
    exact ⟨F, pt F h1, h3, h4⟩
  | own i =>
    obtain ⟨p, h1, h2⟩ := h
    have hi : i < m.length := of_decide_eq_true c
    rw [List.getElem?_append_left hi] at h1
    exact ⟨p, h1, h2⟩
  | scr ns =>
    obtain ⟨p, F, h1, h2, h3⟩ := h
    exact ⟨p, F, h1, pt F h2, h3⟩
theorem VsR.less {ms : List Addr} : ∀ {vs : List OV} {ws : List V}, VsR K g H (m ++ ms) vs ws → vs.all (closedV m.length) = true → VsR K g H m vs ws
  | _, _, .nil, _ => .nil
  | _, _, .cons r t, c => by
    rw [List.all_cons, Bool.and_eq_true] at c
    exact .cons (r.less c.1) (VsR.less t c.2)
theorem FsR.less {ms : List Addr} : ∀ {vs : List (Str × OV)} {ws : List (Str × V)}, FsR K g H (m ++ ms) vs ws → (vs.all fun f => closedV m.length f.2) = true → FsR K g H m vs ws
  | _, _, .nil, _ => .nil
  | _, _, .cons r t, c => by
    rw [List.all_cons, Bool.and_eq_true] at c
    exact .cons ⟨r.1, r.2.less c.1⟩ (FsR.less t c.2)
theorem ObA.less {ms : List Addr} {o : OO} {p : Addr} (h : ObA K g H (m ++ ms) o p) (c : closedO m.length o = true) : ObA K g H m o p := by
  cases o with
  | lst vs =>
    obtain ⟨ws, h1, h2⟩ := h
    exact ⟨ws, h1, VsR.less h2 c⟩
  | tup vs =>
    obtain ⟨ws, h1, h2⟩ := h
    exact ⟨ws, h1, VsR.less h2 c⟩
  | ins d fs =>
    obtain ⟨dx, ws, h1, h2⟩ := h
    exact ⟨dx, ws, h1, FsR.less h2 c⟩
  | dct fs =>
    obtain ⟨ws, h1, h2⟩ := h
    exact ⟨ws, h1, FsR.less h2 c⟩
theorem Ob.less {ms : List Addr} (I : Ob K g H S (m ++ ms)) (c : (S.take m.length).all (closedO m.length) = true) : Ob K g H (S.take m.length) m := by
  have hl := I.len
  refine ⟨by simp at hl ⊢; omega, (List.nodup_append.mp I.nd).1, I.dom, I.avt, fun p hp => I.dis p (List.mem_append_left _ hp), fun i o p e1 e2 => ?_⟩
  have hi : i < m.length := (List.getElem?_eq_some_iff.mp e2).1
  have h1 := List.all_eq_true.mp c o (List.mem_of_getElem? e1)
  rw [List.getElem?_take_of_lt hi] at e1
  exact (I.obj i o p e1 (by rw [List.getElem?_append_left hi]; exact e2)).less h1
theorem sm_forget (h : SmE K te f) : SmE K te (xForget f) := ⟨fun {g ρ σ H S m z S'} I E e Q k => by
  unfold xForget at e
  split at e
  · rename_i v S1 e1
    split at e
    · rename_i hc
      cases e
      refine h.run I E e1 Q fun v H1 m1 k1 I1 r1 => ?_
      obtain ⟨ms, rfl⟩ := k1.pre
      rw [← I.len] at hc k
      exact k v H1 m ⟨⟨[], by simp⟩, fun p hp => .inl hp, k1.keep, k1.dom⟩ (I1.less hc.2) (r1.less hc.1)
    · cases e
  · cases e⟩
/-! ### a call by values: what is handed in is data -/
def rdq : Nat → Sto → OV → Option PyData
  | 0, _, .dat _ d => some d
  | 0, _, .own _ => none
  | _, _, .scr _ => none
  | _ + 1, _, .dat _ d => some d
  | n + 1, S, .own i => match S[i]? with
    | some (.lst vs) => (rdL (rdq n S) vs).map .list
    | some (.tup vs) => (rdL (rdq n S) vs).map .tuple
    | _ => none
@[simp] theorem rdq_dat (n : Nat) (S : Sto) (b : Bool) (d : PyData) : rdq n S (.dat b d) = some d := by cases n <;> rfl
@[simp] theorem rdq_own (n : Nat) (S : Sto) (i : Nat) : rdq (n + 1) S (.own i) = (match S[i]? with | some (.lst vs) => (rdL (rdq n S) vs).map .list | some (.tup vs) => (rdL (rdq n S) vs).map .tuple | _ => none) := rfl
theorem rdq_dq (I : Ob K g H S m) : ∀ {n : Nat} {x : OV} {v : V} {d : PyData}, VR K g H m x v → rdq n S x = some d → Dq H v d
  | n, .dat b d, v, d', r, e => by
    rw [rdq_dat] at e
    cases e
    exact DatAt.dq r
  | n, .scr ns, v, d', r, e => by cases n <;> cases e
  | 0, .own i, v, d, r, e => by cases e
  | n + 1, .own i, v, d, r, e => by
    rw [rdq_own] at e
    cases h : S[i]? with
    | none => rw [h] at e; cases e
    | some o =>
      rw [h] at e
      have all : ∀ {vs : List OV} {ws : List V} {ds : List PyData}, VsR K g H m vs ws → rdL (rdq n S) vs = some ds → DqAll H ws ds := by
        intro vs ws ds q
        induction q generalizing ds with
        | nil => intro e; cases e; exact .nil
        | cons a t ih =>
          intro e
          rename_i v w vs ws
          unfold rdL at e
          cases h5 : rdq n S v with
          | none => rw [h5] at e; cases e
          | some d =>
            rw [h5] at e
            cases h6 : rdL (rdq n S) vs with
            | none => rw [h6] at e; cases e
            | some ds' =>
              rw [h6] at e
              cases e
              exact .cons (rdq_dq I a h5) (ih h6)
      cases o with
      | lst vs =>
        have e1 : (rdL (rdq n S) vs).map PyData.list = some d := e
        cases h2 : rdL (rdq n S) vs with
        | none => rw [h2] at e1; cases e1
        | some ds =>
          rw [h2] at e1
          cases e1
          obtain ⟨p, hp, rfl⟩ := r
          obtain ⟨p', hp', ws, h3, h4⟩ := I.get h
          rw [hp] at hp'
          cases hp'
          exact .lst h3 (all h4 h2)
      | tup vs =>
        have e1 : (rdL (rdq n S) vs).map PyData.tuple = some d := e
        cases h2 : rdL (rdq n S) vs with
        | none => rw [h2] at e1; cases e1
        | some ds =>
          rw [h2] at e1
          cases e1
          obtain ⟨p, hp, rfl⟩ := r
          obtain ⟨p', hp', ws, h3, h4⟩ := I.get h
          rw [hp] at hp'
          cases hp'
          exact .tup h3 (all h4 h2)
      | ins c fs => cases e
      | dct fs => cases e
def argF (S : Sto) : OV → Option OV
  | .scr ns => some (.scr ns)
  | v => (rdq 6 S v).map (mkD true)
@[simp] theorem argF_dat (S : Sto) (b : Bool) (d : PyData) : argF S (.dat b d) = some (mkD true d) := by simp [argF]
@[simp] theorem argF_scr (S : Sto) (ns : List Int) : argF S (.scr ns) = some (.scr ns) := rfl
def argsF (S : Sto) : List OV → Option (List OV)
  | [] => some []
  | v :: vs => match argF S v with
    | some a => (match argsF S vs with
      | some as => some (a :: as)
      | none => none)
    | none => none
abbrev g0 (H : Hp) : Gd := ⟨H, H, []⟩
theorem ob0 {F : Hp} : Ob K ⟨H, F, []⟩ H [] [] := ⟨rfl, .nil, fun _ h => h, fun _ h => (by cases h), fun _ h => (by cases h), fun i o p e _ => by simp at e⟩
theorem dat0 {v : V} {d : PyData} (h : Dq H v d) : DatAt (g0 H) H [] true v d :=
  ⟨H, ⟨fun _ _ e => e, fun _ h => (by cases h), fun _ h => (by cases h)⟩, fun a o e => .inr (.inr ⟨rfl, fun z => by rw [show H a = none from z] at e; cases e⟩), h⟩
theorem argF_ok (I : Ob K g H S m) {v a : OV} {x : V} (r : VR K g H m v x) (e : argF S v = some a) : VR K (g0 H) H [] a x := by
  cases v with
  | scr ns =>
    cases e
    obtain ⟨p, F, h1, h2, h3⟩ := r
    exact ⟨p, F, h1, ⟨h2.le, fun _ h => (by cases h), fun _ h => (by cases h)⟩, h3⟩
  | dat b d =>
    rw [argF_dat] at e
    cases e
    exact (dat0 (DatAt.dq r)).mkD
  | own i =>
    have e : (rdq 6 S (.own i)).map (Nc.mkD true) = some a := e
    cases h : rdq 6 S (.own i) with
    | none => rw [h] at e; cases e
    | some d =>
      rw [h] at e
      cases e
      exact (dat0 (rdq_dq I r h)).mkD
theorem argsF_ok (I : Ob K g H S m) : ∀ {vs as : List OV} {xs : List V}, VsR K g H m vs xs → argsF S vs = some as → VsR K (g0 H) H [] as xs ∧ as.length = vs.length
  | _, _, _, .nil, e => by cases e; exact ⟨.nil, rfl⟩
  | _, _, _, .cons r t, e => by
    unfold argsF at e
    split at e
    · rename_i a h1
      split at e
      · rename_i as h2
        cases e
        obtain ⟨h3, h4⟩ := argsF_ok I t h2
        exact ⟨.cons (argF_ok I r h1) h3, by simp [h4]⟩
      · cases e
    · cases e
/-- behind a call by values: the caller's state -/
theorem Go.back (I : Ob K g H S m) (k : Go H [] H' m') : Go H m H' m ∧ Ob K g H' S m := by
  have kk : Go H m H' m := ⟨⟨[], by simp⟩, fun p hp => .inl hp, fun a o e _ => k.keep a o e (.inl (by simp)), k.dom⟩
  refine ⟨kk, I.go kk fun p hp => ?_⟩
  cases e : H p with
  | none => exact (I.there hp e).elim
  | some o => exact k.keep p o e (.inl (by simp))
theorem Pt.back {F F0 : Hp} {b : Bool} (I : Ob K g H S m) (k : Go H [] H' m') (h : Pt ⟨H, F0, []⟩ H' m' F) (h2 : Okf ⟨H, F0, []⟩ b F) (h0 : Pt g H m F0 ∨ b = false) : Pt g H' m F := by
  have same : ∀ p u o, F0 p = some u → F p = some o → Pt g H m F0 → o = u := fun p u o hu ho z => by
    have e2 := h.le p o ho
    rw [k.keep p u (z.le p u hu) (.inl (by simp))] at e2
    exact (Option.some.inj e2).symm
  refine ⟨h.le, fun p hp o e => ?_, fun p hp => ?_⟩
  · rcases h2 p o e with z | z | ⟨z1, z2⟩
    · exact z
    · exact (I.there hp z).elim
    · rcases h0 with h0 | h0
      · have z2' : F0 p ≠ none := z2
        cases q : F0 p with
        | none => exact (z2' q).elim
        | some u => rw [same p u o q e h0]; exact h0.no p hp u q
      · rw [h0] at z1; cases z1
  · cases e : F p with
    | none => rfl
    | some o =>
      obtain ⟨u, hu, tu⟩ := I.avt p hp
      have e2 := h.le p o e
      rw [k.keep p u hu (.inl (by simp))] at e2
      cases e2
      rcases h2 p _ e with z | z | ⟨z1, z2⟩
      · rw [tu] at z; cases z
      · have z' : H p = none := z
        rw [hu] at z'; cases z'
      · rcases h0 with h0 | h0
        · exact (z2 (h0.av p hp)).elim
        · rw [h0] at z1; cases z1
theorem Okf.back {F F0 : Hp} {b c : Bool} (I : Ob K g H S m) (k : Go H [] H' m') (h : Pt ⟨H, F0, []⟩ H' m' F) (h2 : Okf ⟨H, F0, []⟩ b F) (h0 : (Pt g H m F0 ∧ Okf g c F0) ∨ b = false) : Okf g (b && c) F := fun a o e => by
  rcases h2 a o e with z | z | ⟨z1, z2⟩
  · exact .inl z
  · exact .inr (.inl (I.dom a z))
  · rcases h0 with ⟨h0, h3⟩ | h0
    · have z2' : F0 a ≠ none := z2
      cases q : F0 a with
      | none => exact (z2' q).elim
      | some u =>
        have e2 := h.le a o e
        rw [k.keep a u (h0.le a u q) (.inl (by simp))] at e2
        cases e2
        rcases h3 a _ q with y | y | ⟨y1, y2⟩
        · exact .inl y
        · exact .inr (.inl y)
        · exact .inr (.inr ⟨by rw [z1, y1]; rfl, y2⟩)
    · rw [h0] at z1; cases z1
/-- data, a new list: what a call by values may hand back -/
theorem DatAt.back {F0 : Hp} {b c : Bool} {v : V} {d : PyData} (I : Ob K g H S m) (k : Go H [] H' m') (h : DatAt ⟨H, F0, []⟩ H' m' b v d) (h0 : (Pt g H m F0 ∧ Okf g c F0) ∨ b = false) : DatAt g H' m (b && c) v d := by
  obtain ⟨F, h1, h3, h4⟩ := h.ex
  exact ⟨F, h1.back I k h3 (h0.imp And.left id), h3.back I k h1 h0, h4⟩
theorem DatsAt.back {F0 : Hp} {b c : Bool} {p : Addr} {vs : List V} {ds : List PyData} (I : Ob K g H S m) (k : Go H [] H' m') (hp : p ∈ m') (hl : ∀ o, H' p = some o → tupO o = false) (h : DatsAt ⟨H, F0, []⟩ H' m' b vs ds) (h0 : (Pt g H m F0 ∧ Okf g c F0) ∨ b = false) : DatsAt (g.add p) H' m (b && c) vs ds := by
  obtain ⟨F, h1, h3, h4⟩ := h.ex
  have q := h1.back I k h3 (h0.imp And.left id)
  refine ⟨F, ⟨q.le, q.no, fun z hz => ?_⟩, fun a o e => h3.back I k h1 h0 a o e, h4⟩
  rcases List.mem_cons.mp hz with rfl | hz
  · cases e : F z with
    | none => rfl
    | some o =>
      have t1 := h1.no z hp o e
      rw [hl o (h1.le z o e)] at t1
      cases t1
  · exact q.av z hz
def resF (S1 : Sto) (c : Bool) : Option (OV × Sto) → Option (OV × Sto)
  | some (.dat b d, _) => some (mkD (b && c) d, S1)
  | some (.own j, S2) => match S2[j]? with
    | some (.lst vs) => (match allDat vs with
      | some (b, ds) => some (.dat (b && c) (.list ds), S1)
      | none => none)
    | _ => none
  | _ => none
theorem spB_back {F0 : Hp} {c : Bool} {as : List OV} {xs : List V} {z : OV} {S' : Sto} (I : Ob K g H S m) (hl : as.length = n) (r : VsR K ⟨H, F0, []⟩ H [] as xs) (h0 : Pt g H m F0 ∧ Okf g c F0) (e : resF S c (sem as []) = some (z, S')) (Q : VK) (E : XK)
    (k : ∀ v H' m', Go H m H' m' → Ob K g H' S' m' → VR K g H' m' z v → Q v H') : SpB K sem n xs H Q E := by
  unfold resF at e
  split at e
  · rename_i b d S2 e2
    cases e
    refine ⟨⟨H, F0, []⟩, [], [], as, _, _, hl, ob0, r, e2, fun v H' m' k1 I1 r1 => ?_⟩
    obtain ⟨kk, I2⟩ := Go.back I k1
    exact k v H' m kk I2 (DatAt.back I k1 r1 (.inl h0)).mkD
  · rename_i j S2 e2
    split at e
    · rename_i vs hj
      split at e
      · rename_i b ds hd
        cases e
        refine ⟨⟨H, F0, []⟩, [], [], as, _, _, hl, ob0, r, e2, fun v H' m' k1 I1 r1 => ?_⟩
        obtain ⟨kk, I2⟩ := Go.back I k1
        obtain ⟨p, hp, rfl⟩ := r1
        obtain ⟨p', hp', ws, h3, h4⟩ := I1.get hj
        rw [hp] at hp'
        cases hp'
        have hpm := List.mem_of_getElem? hp
        have hH : H p = none := by
          rcases k1.new p hpm with q | q
          · cases q
          · exact q
        have q := DatsAt.back (c := c) I k1 hpm (fun o z => by rw [h3] at z; cases z; rfl) (allDat_at hd h4) (.inl h0)
        exact k _ H' m kk I2 (q.list h3 (fun z => I.there z hH) (fun z => I.avn p z hH) (I.dom p hH))
      · cases e
    · cases e
  · cases e
/-- any arguments; the answer is new -/
def natD : Option (OV × Sto) → Option (OV × Sto)
  | some (.dat false d, S) => some (.dat false d, S)
  | some (.own j, S2) => match S2[j]? with
    | some (.lst vs) => (match allDat vs with
      | some (false, ds) => some (.dat false (.list ds), S2)
      | _ => none)
    | _ => none
  | _ => none
def xCallF (sem : Sem2) (n : Nat) (fr : SA) : SE := fun ρ S => bnd (fr ρ S) fun as S1 => if as.length = n then (match argsF S1 as with
  | some as' => (match natD (sem as' []) with
    | some (z, _) => some (z, S1)
    | none => none)
  | none => none) else none
theorem sm_callF (ha : SmA K tr fr) : SmE K (tCall (SpB K sem n) [] E0 tr) (xCallF sem n fr) := ⟨fun {g ρ σ H S m z S'} I E e Q k => by
  obtain ⟨as, S1, e1, e⟩ := bnd_some e
  split at e
  · rename_i hl
    split at e
    · rename_i as' ha'
      split at e
      · rename_i z0 S0 hz
        cases e
        refine ha.run I E e1 _ fun xs H1 m1 k1 I1 r1 => ?_
        rw [List.append_nil]
        obtain ⟨r2, l2⟩ := argsF_ok I1 r1 ha'
        have kq : ∀ v H' m', Go H1 m1 H' m' → Ob K g H' S' m' → VR K g H' m' z v → Q v H' := fun v H2 m2 k2 I2 r2 => k v H2 m2 (k1.trans k2) I2 r2
        unfold natD at hz
        split at hz
        · rename_i d S2 e2
          cases hz
          refine ⟨g0 H1, [], [], as', _, _, by rw [l2]; exact hl, ob0, r2, e2, fun v H' m' k3 I3 r3 => ?_⟩
          obtain ⟨kk, I4⟩ := Go.back I1 k3
          exact kq v H' m1 kk I4 (DatAt.back (c := false) I1 k3 r3 (.inr rfl))
        · rename_i j S2 e2
          split at hz
          · rename_i vs hj
            split at hz
            · rename_i ds hd
              cases hz
              refine ⟨g0 H1, [], [], as', _, _, by rw [l2]; exact hl, ob0, r2, e2, fun v H' m' k3 I3 r3 => ?_⟩
              obtain ⟨kk, I4⟩ := Go.back I1 k3
              obtain ⟨p, hp, rfl⟩ := r3
              obtain ⟨p', hp', ws, h3, h4⟩ := I3.get hj
              rw [hp] at hp'
              cases hp'
              have hpm := List.mem_of_getElem? hp
              have hH : H1 p = none := by
                rcases k3.new p hpm with q | q
                · cases q
                · exact q
              have q := DatsAt.back (c := false) I1 k3 hpm (fun o z => by rw [h3] at z; cases z; rfl) (allDat_at hd h4) (.inr rfl)
              exact kq _ H' m1 kk I4 (q.list h3 (fun z => I1.there z hH) (fun z => I1.avn p z hH) (I1.dom p hH))
            · cases hz
          · cases hz
        · cases hz
      · cases e
    · cases e
  · cases e⟩
/-- .. a new list that the caller may change -/
def allNat : List OV → Bool
  | [] => true
  | .dat false _ :: r => allNat r
  | _ => false
def xCallL (sem : Sem2) (n : Nat) (fr : SA) : SA := fun ρ S => bnd (fr ρ S) fun as S1 => if as.length = n then (match argsF S1 as with
  | some as' => (match sem as' [] with
    | some (.own j, S2) => (match S2[j]? with
      | some (.lst vs) => if allNat vs = true then some (vs, S1) else none
      | _ => none)
    | _ => none)
  | none => none) else none
theorem VsR.back (I : Ob K g H S m) (k : Go H [] H' m') {p : Addr} (hp : p ∈ m') (hl : ∀ o, H' p = some o → tupO o = false) : ∀ {vs : List OV} {ws : List V}, VsR K (g0 H) H' m' vs ws → allNat vs = true → VsR K (g.add p) H' m vs ws
  | _, _, .nil, _ => .nil
  | .dat false d :: _, _, .cons r t, e => by
    have q : DatsAt (g0 H) H' m' (false || false) [_] [d] := .cons r .nil
    have q2 := DatsAt.back (c := false) I k hp hl q (.inr rfl)
    obtain ⟨F, h1, h3, h4⟩ := q2.ex
    cases h4 with
    | cons a _ => exact .cons ⟨F, h1, h3, a⟩ (VsR.back I k hp hl t e)
  | .dat true _ :: _, _, .cons _ _, e => by cases e
  | .own _ :: _, _, .cons _ _, e => by cases e
  | .scr _ :: _, _, .cons _ _, e => by cases e
theorem sml_callL (ha : SmA K tr fr) : SmL K (tCall (SpB K sem n) [] E0 tr) (xCallL sem n fr) := ⟨fun {g ρ σ H S m z S'} I E e Q k => by
  obtain ⟨as, S1, e1, e⟩ := bnd_some e
  split at e
  · rename_i hl
    split at e
    · rename_i as' ha'
      split at e
      · rename_i j S2 e2
        split at e
        · rename_i vs hj
          split at e
          · rename_i hn
            cases e
            refine ha.run I E e1 _ fun xs H1 m1 k1 I1 r1 => ?_
            rw [List.append_nil]
            obtain ⟨r2, l2⟩ := argsF_ok I1 r1 ha'
            refine ⟨g0 H1, [], [], as', _, _, by rw [l2]; exact hl, ob0, r2, e2, fun v H' m' k3 I3 r3 => ?_⟩
            obtain ⟨kk, I4⟩ := Go.back I1 k3
            obtain ⟨p, hp, rfl⟩ := r3
            obtain ⟨p', hp', ws, h3, h4⟩ := I3.get hj
            rw [hp] at hp'
            cases hp'
            have hpm := List.mem_of_getElem? hp
            have hH : H1 p = none := by
              rcases k3.new p hpm with q | q
              · cases q
              · exact q
            have q := VsR.back I1 k3 hpm (fun o z => by rw [h3] at z; cases z; rfl) h4 hn
            refine k p ws H' m1 (k1.trans kk) (k1.dom p hH) h3 ?_ q
            refine ⟨I4.len, I4.nd, I4.dom, fun z hz => ?_, fun z hz hz2 => ?_, fun i o z a1 a2 => ?_⟩
            · rcases List.mem_cons.mp hz with rfl | hz
              · exact ⟨_, h3, rfl⟩
              · exact I4.avt z hz
            · rcases List.mem_cons.mp hz2 with rfl | hz2
              · exact I1.there hz hH
              · exact I4.dis z hz hz2
            · have a3 := I1.obj i o z a1 a2
              have hz : H' z = H1 z := by
                cases e : H1 z with
                | none => exact (a3.there e).elim
                | some u => exact k3.keep z u e (.inl (by simp))
              refine a3.imp hz fun ov v y => y.imp (fun F hF => ?_) rfl rfl ⟨[], by simp⟩
              have hF' := hF.go kk
              refine ⟨hF'.le, hF'.no, fun q hq => ?_⟩
              rcases List.mem_cons.mp hq with rfl | hq
              · exact hF.free hH
              · exact hF'.av q hq
          · cases e
        · cases e
      · cases e
    · cases e
  · cases e⟩
/-- arguments that are data; the answer may lean on them -/
def xCallG (sem : Sem2) (n : Nat) (fr : SA) : SE := fun ρ S => bnd (fr ρ S) fun as S1 => if as.length = n then (match allDat as with
  | some (c, ds) => resF S1 c (sem (ds.map (.dat true)) [])
  | none => none) else none
theorem allDat_len : ∀ {vs : List OV} {b : Bool} {ds : List PyData}, allDat vs = some (b, ds) → ds.length = vs.length
  | [], b, ds, e => by cases e; rfl
  | .dat b d :: r, c, ds, e => by
    unfold allDat at e
    cases q : allDat r with
    | none => rw [q] at e; cases e
    | some z =>
      obtain ⟨c', ds'⟩ := z
      rw [q] at e
      cases e
      simp [allDat_len q]
  | .own _ :: _, _, _, e => by cases e
  | .scr _ :: _, _, _, e => by cases e
theorem sm_callG (ha : SmA K tr fr) : SmE K (tCall (SpB K sem n) [] E0 tr) (xCallG sem n fr) := ⟨fun {g ρ σ H S m z S'} I E e Q k => by
  obtain ⟨as, S1, e1, e⟩ := bnd_some e
  split at e
  · rename_i hl
    split at e
    · rename_i c ds hd
      refine ha.run I E e1 _ fun xs H1 m1 k1 I1 r1 => ?_
      rw [List.append_nil]
      obtain ⟨F0, h1, h3, h4⟩ := (allDat_at hd r1).ex
      have args : ∀ {ds : List PyData} {xs : List V}, DqAll F0 xs ds → VsR K ⟨H1, F0, []⟩ H1 [] (ds.map (OV.dat true)) xs := by
        intro ds xs q
        induction ds generalizing xs with
        | nil => cases q; exact .nil
        | cons d ds ih =>
          cases q with
          | cons a r => exact .cons ⟨F0, ⟨h1.le, fun _ h => (by cases h), fun _ h => (by cases h)⟩, fun a o e => .inr (.inr ⟨rfl, fun z => by rw [show F0 a = none from z] at e; cases e⟩), a⟩ (ih r)
      exact spB_back I1 (by rw [List.length_map, allDat_len hd]; exact hl) (args h4) ⟨h1, h3⟩ e Q E0 fun v H2 m2 k2 I2 r2 => k v H2 m2 (k1.trans k2) I2 r2
    · cases e
  · cases e⟩
end
end Nc
set_option Elab.async false
set_option linter.all false
set_option maxRecDepth 100000
namespace Nc
open PySem PySem.Spec PyProof.Rows L2
/-! ### bounds of the numbers' operators -/
abbrev mulN (i j : Int) : Prop := (i.natAbs < 2 ^ 63) ∨ (j.natAbs < 2 ^ 63)
instance (i j : Int) : Decidable (mulN i j) := by unfold mulN; infer_instance
theorem mulN_ok {i j : Int} (h : mulN i j) : CMul i j := by
  unfold mulN at h
  unfold CMul
  rcases h with h | h
  · left; omega
  · right; omega
abbrev mulW (i j : Int) : Prop := i.natAbs < 2 ^ 1000 ∧ j.natAbs < 2 ^ 1000
instance (i j : Int) : Decidable (mulW i j) := by unfold mulW; infer_instance
theorem mulW_ok {i j : Int} (h : mulW i j) : CMulW i j := wide_mul h.1 h.2 (by decide) (by decide) (by decide)
abbrev divN (_ j : Int) : Prop := 0 < j ∧ j < 1073741824
instance (i j : Int) : Decidable (divN i j) := by unfold divN; infer_instance
abbrev modN (_ j : Int) : Prop := 0 < j
instance (i j : Int) : Decidable (modN i j) := by unfold modN; infer_instance
abbrev powN (i j : Int) : Prop := 0 ≤ j ∧ j ≤ 1000000 ∧ i.natAbs < 2 ^ 64
instance (i j : Int) : Decidable (powN i j) := by unfold powN; infer_instance
section
variable {K : PySem.W.Frag} {ta tb tc te : TE} {fa fb fc f : SE}
/-- len(set(xs)), no number twice -/
def xLenSet (fa : SE) : SE := fun ρ S => bnd (fa ρ S) fun a S1 => match seqInts S1 a with
  | some ns => if ns.Nodup ∧ ns.length ≤ 4000 then some (.dat false (.int (ns.length : Int)), S1) else none
  | none => none
theorem sm_lenSet (ha : SmE K ta fa) : SmE K (RZ.tLenSetI K ta) (xLenSet fa) := ⟨fun {g ρ σ H S m z S'} I E e Q k => by
  obtain ⟨a, S1, e1, e⟩ := bnd_some e
  split at e
  · rename_i ns h
    split at e
    · rename_i hn
      cases e
      refine ha.run I E e1 _ fun x H1 m1 k1 I1 r1 => ?_
      obtain ⟨p, rfl, h2⟩ := seqInts_ok I1 r1 h
      exact ⟨p, ns, rfl, h2, hn.1, hn.2, k _ H1 m1 k1 I1 VR.ofInt⟩
    · cases e
  · cases e⟩
/-! ### zip of two lists, the items data -/
def zipI : List OV → List OV → Option (List OV)
  | .dat b d :: r, .dat c e :: t => match zipI r t with
    | some xs => some (mkD (b || c) (.tuple [d, e]) :: xs)
    | none => none
  | [], _ => some []
  | _, [] => some []
  | _, _ => none
theorem zipI_get : ∀ {vs us xs : List OV}, zipI vs us = some xs → xs.length = min vs.length us.length ∧ ∀ (i : Nat) (x : OV), xs[i]? = some x → ∃ b d c e, vs[i]? = some (.dat b d) ∧ us[i]? = some (.dat c e) ∧ x = mkD (b || c) (.tuple [d, e])
  | .dat b d :: r, .dat c e :: t, xs, h => by
    unfold zipI at h
    split at h
    · rename_i ys hy
      cases h
      obtain ⟨h1, h2⟩ := zipI_get hy
      refine ⟨by simp [h1], fun i x hx => ?_⟩
      cases i with
      | zero =>
        simp at hx
        exact ⟨b, d, c, e, rfl, rfl, hx.symm⟩
      | succ i =>
        obtain ⟨b', d', c', e', h3, h4, h5⟩ := h2 i x (by simpa using hx)
        exact ⟨b', d', c', e', by simpa using h3, by simpa using h4, h5⟩
    · cases h
  | [], us, xs, h => by
    cases us <;> (cases h; exact ⟨by simp, fun i x hx => by simp at hx⟩)
  | .dat _ _ :: _, [], xs, h => by cases h; exact ⟨by simp, fun i x hx => by simp at hx⟩
  | .own _ :: _, [], xs, h => by cases h; exact ⟨by simp, fun i x hx => by simp at hx⟩
  | .scr _ :: _, [], xs, h => by cases h; exact ⟨by simp, fun i x hx => by simp at hx⟩
  | .dat _ _ :: _, .own _ :: _, _, h => by cases h
  | .dat _ _ :: _, .scr _ :: _, _, h => by cases h
  | .own _ :: _, _ :: _, _, h => by cases h
  | .scr _ :: _, _ :: _, _, h => by cases h
def xiZip (fr : SA) : SI := fun ρ S => bnd (fr ρ S) fun as S1 => match as with
  | [a, b] => (match seqItems S1 a, seqItems S1 b with
    | some vs, some us => (match zipI vs us with
      | some xs => some (⟨xs, fun S => gdOf a vs S ∧ gdOf b us S⟩, S1)
      | none => none)
    | _, _ => none)
  | _ => none
theorem smi_zip {tr : TA} {fr : SA} (ha : SmA K tr fr) : SmI K (iZip K tr) (xiZip fr) := ⟨fun {g ρ σ H S m r S'} I E e R k => by
  obtain ⟨as, S1, e1, e⟩ := bnd_some e
  split at e
  · split at e
    · rename_i vs us h h'
      split at e
      · rename_i xs hxs
        cases e
        refine ha.run I E e1 _ fun ys H1 m1 k1 I1 r1 => ?_
        obtain ⟨x, y, rfl, ra, rb⟩ := VsR.two r1
        obtain ⟨p, rfl, ⟨ws0, hw0⟩, hl⟩ := list_later I1 ra h
        obtain ⟨p', rfl, ⟨ws0', hw0'⟩, hl'⟩ := list_later I1 rb h'
        obtain ⟨hlen, hget⟩ := zipI_get hxs
        refine ⟨p, p', ws0, ws0', rfl, hw0, hw0', k _ H1 m1 k1 I1 ⟨gdOf_now h, gdOf_now h'⟩ ⟨fun {g2 H2 S2 m2} l I2 gd => ?_⟩⟩
        obtain ⟨ws, h5, h6⟩ := hl l I2 gd.1
        obtain ⟨ws', h5', h6'⟩ := hl' l I2 gd.2
        refine ⟨⟨ws, ws', h5, h5', by rw [hlen, ← h6.length, ← h6'.length]; omega⟩, fun i x hx => ?_⟩
        obtain ⟨b, d, c, e, h9, h9', rfl⟩ := hget i x hx
        obtain ⟨w, h7, h8⟩ := VsR.get h6 h9
        obtain ⟨w', h7', h8'⟩ := VsR.get h6' h9'
        refine ⟨⟨ws, ws', w, w', h5, h5', h7, h7'⟩, fun v H3 y => ?_⟩
        obtain ⟨T, z, z', rfl, hT, rfl, y2, y3⟩ := y
        have e2 := y2 ws h5
        rw [h7] at e2
        cases e2
        have e3 := y3 ws' h5'
        rw [h7'] at e3
        cases e3
        exact ⟨.inr ⟨T, _, hT, rfl⟩, pair_new (K := K) I2 h8 h8' hT⟩
      · cases e
    · cases e
  · cases e⟩
end
end Nc
set_option Elab.async false
set_option linter.all false
set_option maxRecDepth 100000
namespace Nc
open PySem PySem.Spec PyProof.Rows L2
/-! ### what simp wants to know -/
@[simp] theorem kb_ii : kitB "int" "int" = some true := by decide +kernel
@[simp] theorem kb_ib : kitB "int" "bool" = some false := by decide +kernel
@[simp] theorem kb_bi : kitB "bool" "int" = some true := by decide +kernel
@[simp] theorem kb_bb : kitB "bool" "bool" = some true := by decide +kernel
@[simp] theorem kb_ll : kitB "list" "list" = some true := by decide +kernel
@[simp] theorem kb_tt : kitB "tuple" "tuple" = some true := by decide +kernel
@[simp] theorem kb_tl : kitB "tuple" "list" = some false := by decide +kernel
@[simp] theorem kb_lt : kitB "list" "tuple" = some false := by decide +kernel
@[simp] theorem kb_ss : kitB "str" "str" = some true := by decide +kernel
@[simp] theorem kb_is : kitB "int" "str" = some false := by decide +kernel
@[simp] theorem kb_il : kitB "int" "list" = some false := by decide +kernel
@[simp] theorem kb_it : kitB "int" "tuple" = some false := by decide +kernel
@[simp] theorem kb_sl : kitB "str" "list" = some false := by decide +kernel
@[simp] theorem kb_st : kitB "str" "tuple" = some false := by decide +kernel
@[simp] theorem kb_si : kitB "str" "int" = some false := by decide +kernel
@[simp] theorem kb_sb : kitB "str" "bool" = some false := by decide +kernel
@[simp] theorem kb_ni : kitB "NoneType" "int" = some false := by decide +kernel
@[simp] theorem kb_nb : kitB "NoneType" "bool" = some false := by decide +kernel
@[simp] theorem kb_nl : kitB "NoneType" "list" = some false := by decide +kernel
@[simp] theorem kb_nt : kitB "NoneType" "tuple" = some false := by decide +kernel
@[simp] theorem kb_ns : kitB "NoneType" "str" = some false := by decide +kernel
@[simp] theorem kb_li : kitB "list" "int" = some false := by decide +kernel
@[simp] theorem kb_lb : kitB "list" "bool" = some false := by decide +kernel
@[simp] theorem kb_ls : kitB "list" "str" = some false := by decide +kernel
@[simp] theorem kb_ti : kitB "tuple" "int" = some false := by decide +kernel
@[simp] theorem kb_tb : kitB "tuple" "bool" = some false := by decide +kernel
@[simp] theorem kb_ts : kitB "tuple" "str" = some false := by decide +kernel
@[simp] theorem kb_bl : kitB "bool" "list" = some false := by decide +kernel
@[simp] theorem kb_bt : kitB "bool" "tuple" = some false := by decide +kernel
@[simp] theorem kb_bs : kitB "bool" "str" = some false := by decide +kernel
@[simp] theorem mkD_int (b : Bool) (i : Int) : mkD b (.int i) = .dat false (.int i) := by simp [mkD, flat]
@[simp] theorem mkD_bool (b : Bool) (i : Bool) : mkD b (.bool i) = .dat false (.bool i) := by simp [mkD, flat]
@[simp] theorem mkD_str (b : Bool) (i : Str) : mkD b (.str i) = .dat false (.str i) := by simp [mkD, flat]
@[simp] theorem mkD_none (b : Bool) : mkD b .none = .dat false .none := by simp [mkD, flat]
@[simp] theorem mkD_list (b : Bool) (ds : List PyData) : mkD b (.list ds) = .dat b (.list ds) := by simp [mkD, flat]
theorem mkD_tup (b : Bool) (ds : List PyData) : mkD b (.tuple ds) = .dat (b && !flatAll ds) (.tuple ds) := by simp [mkD, flat]
@[simp] theorem mkD_false (d : PyData) : mkD false d = .dat false d := by simp [mkD]
@[simp] theorem flatAll_nil : flatAll [] = true := rfl
@[simp] theorem flatAll_cons (d : PyData) (ds : List PyData) : flatAll (d :: ds) = (flat d && flatAll ds) := rfl
@[simp] theorem flat_int (i : Int) : flat (.int i) = true := rfl
@[simp] theorem flat_bool (i : Bool) : flat (.bool i) = true := rfl
@[simp] theorem flat_str (i : Str) : flat (.str i) = true := rfl
@[simp] theorem flat_list (ds : List PyData) : flat (.list ds) = false := rfl
@[simp] theorem flat_tup (ds : List PyData) : flat (.tuple ds) = flatAll ds := by simp [flat]
/-! ### encodings -/
def eI (n : Int) : PyData := .int n
abbrev eIs (ns : List Int) : PyData := .list (ns.map .int)
abbrev Lev := List Int × Int × Int
def eLev (l : Lev) : PyData := .tuple [.list (l.1.map .int), .int l.2.1, .int l.2.2]
abbrev eCh (c : List Lev) : PyData := .list (c.map eLev)
inductive Wd where
  | take (p s h : Int)
  | off (p s h t : Int)
  | done (p s h : Int)
  deriving DecidableEq
def Wd.p : Wd → Int
  | .take p _ _ => p
  | .off p _ _ _ => p
  | .done p _ _ => p
def Wd.s : Wd → Int
  | .take _ s _ => s
  | .off _ s _ _ => s
  | .done _ s _ => s
def Wd.h : Wd → Int
  | .take _ _ h => h
  | .off _ _ h _ => h
  | .done _ _ h => h
def eWd : Wd → PyData
  | .take p s h => .tuple [.str "take", .int p, .int s, .int h]
  | .off p s h t => .tuple [.str "off", .int p, .int s, .int h, .int t]
  | .done p s h => .tuple [.str "done", .int p, .int s, .int h]
abbrev eWs (ws : List Wd) : PyData := .list (ws.map eWd)
abbrev eTab (t : List (List Int)) : PyData := .list (t.map eIs)
def ePr (p : Int × Int) : PyData := .tuple [.int p.1, .int p.2]
abbrev ePs (ps : List (Int × Int)) : PyData := .list (ps.map ePr)
@[simp] theorem flat_lev (l : Lev) : flat (eLev l) = false := rfl
@[simp] theorem flat_wd (w : Wd) : flat (eWd w) = true := by cases w <;> rfl
@[simp] theorem flat_pr (p : Int × Int) : flat (ePr p) = true := rfl
@[simp] theorem mkD_lev (b : Bool) (l : Lev) : mkD b (eLev l) = .dat b (eLev l) := by simp [mkD]
@[simp] theorem mkD_wd (b : Bool) (w : Wd) : mkD b (eWd w) = .dat false (eWd w) := by simp [mkD]
@[simp] theorem mkD_pr (b : Bool) (p : Int × Int) : mkD b (ePr p) = .dat false (ePr p) := by simp [mkD]
@[simp] theorem mkD_is (b : Bool) (ns : List Int) : mkD b (eIs ns) = .dat b (eIs ns) := by simp [mkD, eIs]
/-! ### loops, comprehensions -/
section
variable {α : Type}
/-- a for whose turns all go on -/
theorem forL_fold {bd : OV → SS} {β : Type} (emb : β → Env × Sto) (nice : β → α → β) (P : Nat → β → Prop) (en : α → OV) : ∀ (xs : List α) (n : Nat) (a : β), P n a →
    (∀ i a x, x ∈ xs → P i a → bd (en x) (emb a).1 (emb a).2 = some (.nx, (emb (nice a x)).1, (emb (nice a x)).2) ∧ P (i + 1) (nice a x)) →
    forL bd (fun _ => True) (xs.map en) (emb a).1 (emb a).2 = some (.nx, (emb (xs.foldl nice a)).1, (emb (xs.foldl nice a)).2) ∧ P (n + xs.length) (xs.foldl nice a)
  | [], n, a, h0, _ => ⟨by simp [forL], h0⟩
  | x :: xs, n, a, h0, h => by
    obtain ⟨h1, h2⟩ := h n a x List.mem_cons_self h0
    obtain ⟨h3, h4⟩ := forL_fold emb nice P en xs (n + 1) (nice a x) h2 fun i a y hy => h i a y (List.mem_cons_of_mem _ hy)
    refine ⟨?_, by rw [List.length_cons, List.foldl_cons, show n + (xs.length + 1) = n + 1 + xs.length by omega]; exact h4⟩
    rw [List.map_cons, forL, h1, chk_true, List.foldl_cons]
    exact h3
/-- a comprehension whose turns leave the store as it is -/
theorem compL_map {b : BN} {ft : SC} {fe : SE} {ρ : Env} {S : Sto} (en : α → OV) (p : α → Bool) (f : α → OV) : ∀ xs : List α,
    (∀ x ∈ xs, ∃ ρ1, b S (en x) ρ = some ρ1 ∧ ft ρ1 S = some (p x, S) ∧ (p x = true → fe ρ1 S = some (f x, S))) →
    compL (fun _ => True) b ft fe (xs.map en) ρ S = some ((xs.filter p).map f, S)
  | [], _ => by simp [compL]
  | x :: xs, h => by
    obtain ⟨ρ1, h1, h2, h3⟩ := h x List.mem_cons_self
    have ih := compL_map en p f xs fun y hy => h y (List.mem_cons_of_mem _ hy)
    rw [List.map_cons, compL, chk_true, h1]
    cases e : p x with
    | true =>
      simp only [h2, e, bnd_mk, h3 e, ih, if_true, List.filter_cons, List.map_cons]
    | false =>
      simp only [h2, e, bnd_mk, ih, List.filter_cons]
      simp
end
/-- new lists of data -/
@[simp] theorem allDat_nil : allDat [] = some (false, []) := rfl
@[simp] theorem allDat_cons (b : Bool) (d : PyData) (r : List OV) : allDat (.dat b d :: r) = (match allDat r with | some (c, ds) => some (b || c, d :: ds) | none => none) := rfl
theorem allDat_map {α : Type} (b : Bool) (f : α → PyData) : ∀ xs : List α, allDat (xs.map fun x => .dat b (f x)) = some (b && !xs.isEmpty, xs.map f)
  | [] => by simp
  | x :: xs => by
    rw [List.map_cons, allDat_cons, allDat_map b f xs]
    cases b <;> simp
@[simp] theorem allDat_false {α : Type} (f : α → PyData) (xs : List α) : allDat (xs.map fun x => .dat false (f x)) = some (false, xs.map f) := by
  rw [allDat_map]; rfl
@[simp] theorem allNat_false {α : Type} (f : α → PyData) : ∀ xs : List α, allNat (xs.map fun x => .dat false (f x)) = true
  | [] => rfl
  | x :: xs => allNat_false f xs
end Nc
set_option Elab.async false
set_option linter.all false
set_option maxRecDepth 100000
namespace Nc
open PySem PySem.Spec PyProof.Rows L2
/-! ### evaluation, one thing behind the other -/
@[simp] theorem bnd_no {α β : Type} (k : α → Sto → Option β) : bnd none k = none := rfl
def k2 {a b c : Type} (x : Option (a × Sto)) (g : Env → Sto → Option (b × Sto)) (r : Env) (h : a → b → Sto → Option c) : Option c := match x with
  | some (u, S1) => bnd (g r S1) (h u)
  | none => none
@[simp] theorem k2_e {a b c : Type} {u : a} {S : Sto} {g : Env → Sto → Option (b × Sto)} {r : Env} {h : a → b → Sto → Option c} : k2 (some (u, S)) g r h = bnd (g r S) (h u) := rfl
theorem k2_i {a b c : Type} {x : Option (a × Sto)} {g : Env → Sto → Option (b × Sto)} {r : Env} {h : a → b → Sto → Option c} : (bnd x fun u S1 => bnd (g r S1) fun v S2 => h u v S2) = k2 x g r h := by
  cases x <;> rfl
def k3 {a b c d : Type} (x : Option (a × Sto)) (g : Env → Sto → Option (b × Sto)) (g2 : Env → Sto → Option (c × Sto)) (r : Env) (h : a → b → c → Sto → Option d) : Option d := match x with
  | some (u, S1) => k2 (g r S1) g2 r (h u)
  | none => none
@[simp] theorem k3_e {a b c d : Type} {u : a} {S : Sto} {g : Env → Sto → Option (b × Sto)} {g2 : Env → Sto → Option (c × Sto)} {r : Env} {h : a → b → c → Sto → Option d} : k3 (some (u, S)) g g2 r h = k2 (g r S) g2 r (h u) := rfl
theorem k3_i {a b c d : Type} {x : Option (a × Sto)} {g : Env → Sto → Option (b × Sto)} {g2 : Env → Sto → Option (c × Sto)} {r : Env} {h : a → b → c → Sto → Option d} : (bnd x fun u S1 => bnd (g r S1) fun v S2 => bnd (g2 r S2) fun w S3 => h u v w S3) = k3 x g g2 r h := by
  cases x with
  | none => rfl
  | some z => exact k2_i
def kSeq (x : Option (Fl × Env × Sto)) (f : SS) : Option (Fl × Env × Sto) := match x with
  | some (.nx, r, S) => f r S
  | y => y
@[simp] theorem kSeq_nx {r : Env} {S : Sto} {f : SS} : kSeq (some (.nx, r, S)) f = f r S := rfl
@[simp] theorem kSeq_rt {r : Env} {S : Sto} {f : SS} {v : OV} : kSeq (some (.rt v, r, S)) f = some (.rt v, r, S) := rfl
@[simp] theorem kSeq_bk {r : Env} {S : Sto} {f : SS} : kSeq (some (.bk, r, S)) f = some (.bk, r, S) := rfl
@[simp] theorem kSeq_ct {r : Env} {S : Sto} {f : SS} : kSeq (some (.ct, r, S)) f = some (.ct, r, S) := rfl
def kTest {α : Type} (x : Option (Bool × Sto)) (f g : Env → Sto → Option α) (r : Env) : Option α := match x with
  | some (true, S) => f r S
  | some (false, S) => g r S
  | none => none
section
variable {α : Type} {f g : Env → Sto → Option α} {r : Env} {S : Sto}
@[simp] theorem kTest_t : kTest (some (true, S)) f g r = f r S := rfl
@[simp] theorem kTest_f : kTest (some (false, S)) f g r = g r S := rfl
theorem kTest_pos {c : Bool} (h : c = true) : kTest (some (c, S)) f g r = f r S := by rw [h]; rfl
theorem kTest_neg {c : Bool} (h : c = false) : kTest (some (c, S)) f g r = g r S := by rw [h]; rfl
end
section
variable {r : Env} {S : Sto}
@[simp] theorem sSeq_e {f1 f2 : SS} : sSeq f1 f2 r S = kSeq (f1 r S) f2 := rfl
theorem test_e {α : Type} {x : Option (Bool × Sto)} {f g : Env → Sto → Option α} : (bnd x fun c S1 => if c = true then f r S1 else g r S1) = kTest x f g r := by
  cases x with
  | none => rfl
  | some z =>
    obtain ⟨c, S1⟩ := z
    cases c <;> rfl
@[simp] theorem sIf_e {ft : SC} {f1 f2 : SS} : sIf ft f1 f2 r S = kTest (ft r S) f1 f2 r := test_e
@[simp] theorem xIf_e {ft : SC} {f1 f2 : SE} : xIf ft f1 f2 r S = kTest (ft r S) f1 f2 r := test_e
@[simp] theorem xIfL_e {ft : SC} {f1 f2 : SA} : xIfL ft f1 f2 r S = kTest (ft r S) f1 f2 r := test_e
def yT : SC := fun _ S => some (true, S)
def yF : SC := fun _ S => some (false, S)
@[simp] theorem yT_e : yT r S = some (true, S) := rfl
@[simp] theorem yF_e : yF r S = some (false, S) := rfl
@[simp] theorem xAnd_e {ft fu : SC} : xAnd ft fu r S = kTest (ft r S) fu yF r := test_e (g := yF)
@[simp] theorem xOr_e {ft fu : SC} : xOr ft fu r S = kTest (ft r S) yT fu r := test_e (f := yT)
@[simp] theorem xNot_e {ft : SC} : xNot ft r S = bnd (ft r S) fun b S1 => some (!b, S1) := rfl
def kB (x : Option (OV × Sto)) : Option (Bool × Sto) := match x with
  | some (.dat _ (.bool b), S) => some (b, S)
  | _ => none
@[simp] theorem kB_e {b c : Bool} : kB (some (.dat c (.bool b), S)) = some (b, S) := rfl
@[simp] theorem xB_e {fa : SE} : xB fa r S = kB (fa r S) := by
  unfold xB kB
  rcases fa r S with _ | ⟨⟨b, d⟩ | i | n, S1⟩ <;> try rfl
  cases d <;> try rfl
def yTV : SE := fun _ S => some (.dat false (.bool true), S)
def yFV : SE := fun _ S => some (.dat false (.bool false), S)
@[simp] theorem yTV_e : yTV r S = some (.dat false (.bool true), S) := rfl
@[simp] theorem yFV_e : yFV r S = some (.dat false (.bool false), S) := rfl
@[simp] theorem xAndV_e {fa fb : SE} : xAndV fa fb r S = kTest (kB (fa r S)) fb yFV r := by
  unfold xAndV kB
  rcases fa r S with _ | ⟨⟨b, d⟩ | i | n, S1⟩ <;> try rfl
  cases d <;> try rfl
  rename_i c
  cases c <;> rfl
@[simp] theorem xOrV_e {fa fb : SE} : xOrV fa fb r S = kTest (kB (fa r S)) yTV fb r := by
  unfold xOrV kB
  rcases fa r S with _ | ⟨⟨b, d⟩ | i | n, S1⟩ <;> try rfl
  cases d <;> try rfl
  rename_i c
  cases c <;> rfl
@[simp] theorem xNotV_e {fa : SE} : xNotV fa r S = bnd (kB (fa r S)) fun b S1 => some (.dat false (.bool (!b)), S1) := by
  unfold xNotV kB
  rcases fa r S with _ | ⟨⟨b, d⟩ | i | n, S1⟩ <;> try rfl
  cases d <;> try rfl
/-- a < b < c -/
def kCh (x : Option (OV × Sto)) (o' : O2) (fc : SE) (r : Env) (b : OV) : Option (OV × Sto) := match x with
  | some (.dat _ (.bool true), S3) => bnd (fc r S3) (o' b)
  | some (.dat _ (.bool false), S3) => some (.dat false (.bool false), S3)
  | _ => none
@[simp] theorem kCh_t {c : Bool} {o' : O2} {fc : SE} {b : OV} : kCh (some (.dat c (.bool true), S)) o' fc r b = bnd (fc r S) (o' b) := rfl
@[simp] theorem kCh_f {c : Bool} {o' : O2} {fc : SE} {b : OV} : kCh (some (.dat c (.bool false), S)) o' fc r b = some (.dat false (.bool false), S) := rfl
@[simp] theorem xChain_e {o o' : O2} {fa fb fc : SE} : xChain o o' fa fb fc r S = k2 (fa r S) fb r fun a b S2 => kCh (o a b S2) o' fc r b := by
  rw [← k2_i]
  unfold xChain kCh
  congr 1; funext a S1; congr 1; funext b S2
  cases o a b S2 with
  | none => rfl
  | some z =>
    obtain ⟨v, S3⟩ := z
    show (match v with | .dat _ (.bool true) => bnd (fc r S3) fun c S4 => o' b c S4 | .dat _ (.bool false) => some (.dat false (.bool false), S3) | _ => none) = _
    cases v <;> first | rfl | skip
    rename_i b d
    cases d <;> first | rfl | skip
    rename_i c
    cases c <;> rfl
end
section
variable {r : Env} {S : Sto} {b c : Bool} {i j : Int}
@[simp] theorem xC_e {d : PyData} : xC d r S = some (.dat false d, S) := rfl
def kV (x : Option (Option OV)) (S : Sto) : Option (OV × Sto) := match x with
  | some (some v) => some (v, S)
  | _ => none
@[simp] theorem kV_e {v : OV} : kV (some (some v)) S = some (v, S) := rfl
@[simp] theorem xVar_e {k : Nat} : xVar k r S = kV r[k]? S := rfl
@[simp] theorem xOp_e {o : O2} {fa fb : SE} : xOp o fa fb r S = k2 (fa r S) fb r o := k2_i
@[simp] theorem oInt_e {h : Int → Int → Int} : oInt h (.dat b (.int i)) (.dat c (.int j)) S = some (.dat false (.int (h i j)), S) := rfl
@[simp] theorem oBl_e {h : Int → Int → Bool} : oBl h (.dat b (.int i)) (.dat c (.int j)) S = some (.dat false (.bool (h i j)), S) := rfl
theorem oIntC_p {C : Int → Int → Prop} [∀ i j, Decidable (C i j)] {h : Int → Int → Int} (hC : C i j) : oIntC C h (.dat b (.int i)) (.dat c (.int j)) S = some (.dat false (.int (h i j)), S) := if_pos hC
@[simp] theorem xNeg_e {fa : SE} : xNeg fa r S = bnd (fa r S) fun a S1 => match a with
  | .dat _ (.int i) => some (.dat false (.int (-i)), S1)
  | _ => none := rfl
@[simp] theorem xYes_e : xYes r S = some (true, S) := rfl
@[simp] theorem sNext_e : sNext r S = some (.nx, r, S) := rfl
@[simp] theorem sNever_e : sNever r S = none := rfl
@[simp] theorem sBreak_e : sBreak r S = some (.bk, r, S) := rfl
@[simp] theorem sRet_e {f : SE} : sRet f r S = bnd (f r S) fun v S1 => some (.rt v, r, S1) := rfl
@[simp] theorem sRetN_e : sRetN r S = some (.rt (.dat false .none), r, S) := rfl
@[simp] theorem sDrop_e {f : SE} : sDrop f r S = bnd (f r S) fun _ S1 => some (.nx, r, S1) := rfl
def kAsg (x : Option Env) (S : Sto) : Option (Fl × Env × Sto) := match x with
  | some r1 => some (.nx, r1, S)
  | none => none
@[simp] theorem kAsg_e : kAsg (some r) S = some (.nx, r, S) := rfl
@[simp] theorem sAsg_e {f : SE} {bb : BN} : sAsg f bb r S = bnd (f r S) fun v S1 => kAsg (bb S1 v r) S1 := by
  unfold sAsg kAsg
  congr 1
@[simp] theorem bName_e {k : Nat} {v : OV} : bName k S v r = some (r.set k (some v)) := rfl
@[simp] theorem bNil_e : bNil S [] r = some r := rfl
def kCons (x : Option Env) (S : Sto) (rr : BNs) (vs : List OV) : Option Env := match x with
  | some r1 => rr S vs r1
  | none => none
@[simp] theorem kCons_e {rr : BNs} {vs : List OV} : kCons (some r) S rr vs = rr S vs r := rfl
@[simp] theorem bCons_e {bb : BN} {rr : BNs} {v : OV} {vs : List OV} : bCons bb rr S (v :: vs) r = kCons (bb S v r) S rr vs := by
  unfold bCons kCons
  rfl
@[simp] theorem bTup_d {n : Nat} {bb : BNs} {ds : List PyData} : bTup n bb S (.dat c (.tuple ds)) r = if ds.length = n then bb S (ds.map (mkD c)) r else none := rfl
def kPar (k l : Nat) (as : List OV) (r : Env) (S : Sto) : Option (Fl × Env × Sto) := match as with
  | [a, b] => some (.nx, (r.set k (some a)).set l (some b), S)
  | _ => none
@[simp] theorem kPar_e {k l : Nat} {v w : OV} : kPar k l [v, w] r S = some (.nx, (r.set k (some v)).set l (some w), S) := rfl
@[simp] theorem sPar_e {k l : Nat} {fr : SA} : sPar k l fr r S = bnd (fr r S) fun as S1 => kPar k l as r S1 := rfl
def kPar3 (k l m : Nat) (as : List OV) (r : Env) (S : Sto) : Option (Fl × Env × Sto) := match as with
  | [a, b, c] => some (.nx, ((r.set k (some a)).set l (some b)).set m (some c), S)
  | _ => none
@[simp] theorem kPar3_e {k l m : Nat} {v w u : OV} : kPar3 k l m [v, w, u] r S = some (.nx, ((r.set k (some v)).set l (some w)).set m (some u), S) := rfl
@[simp] theorem sPar3_e {k l m : Nat} {fr : SA} : sPar3 k l m fr r S = bnd (fr r S) fun as S1 => kPar3 k l m as r S1 := rfl
@[simp] theorem sParT_e {n : Nat} {fr : SA} {bb : BNs} : sParT n fr bb r S = bnd (fr r S) fun as S1 => if as.length = n ∧ n ≤ 1000 then kAsg (bb S1 as r) S1 else none := by
  unfold sParT kAsg
  rfl
def kAug (x : Option (Option OV)) (k : Nat) (h : Int → Int → Int) (f : SE) (r : Env) (S : Sto) : Option (Fl × Env × Sto) := match x with
  | some (some (.dat _ (.int a))) => bnd (f r S) fun v S1 => match v with
    | .dat _ (.int b) => some (.nx, r.set k (some (.dat false (.int (h a b)))), S1)
    | _ => none
  | _ => none
@[simp] theorem kAug_e {k : Nat} {h : Int → Int → Int} {f : SE} : kAug (some (some (.dat c (.int i)))) k h f r S = bnd (f r S) fun v S1 => match v with
    | .dat _ (.int b) => some (.nx, r.set k (some (.dat false (.int (h i b)))), S1)
    | _ => none := rfl
@[simp] theorem sAug_e {k : Nat} {h : Int → Int → Int} {f : SE} : sAug k h f r S = kAug r[k]? k h f r S := rfl
@[simp] theorem xNil_e : xNil r S = some ([], S) := rfl
@[simp] theorem xCons_e {f : SE} {fr : SA} : xCons f fr r S = k2 (f r S) fr r fun a as S2 => some (a :: as, S2) := k2_i
def kDs (x : Option (Bool × List PyData)) (S : Sto) (f : Bool → List PyData → OV) : Option (OV × Sto) := match x with
  | some (b, ds) => some (f b ds, S)
  | none => none
@[simp] theorem kDs_e {f : Bool → List PyData → OV} {ds : List PyData} : kDs (some (b, ds)) S f = some (f b ds, S) := rfl
@[simp] theorem xTup_e {fr : SA} : xTup fr r S = bnd (fr r S) fun as S1 => if as.length ≤ 1000 then kDs (allDat as) S1 (fun b ds => mkD b (.tuple ds)) else none := by
  unfold xTup kDs
  rfl
@[simp] theorem xLst_e {fr : SA} : xLst fr r S = bnd (fr r S) fun as S1 => if as.length ≤ 1000 then some (as, S1) else none := rfl
@[simp] theorem xTupO_e {fr : SA} : xTupO fr r S = bnd (fr r S) fun as S1 => if as.length ≤ 1000 then some (.own S1.length, S1 ++ [.tup as]) else none := rfl
@[simp] theorem xDat_e {f : SA} : xDat f r S = bnd (f r S) fun as S1 => kDs (allDat as) S1 (fun b ds => .dat b (.list ds)) := by
  unfold xDat kDs
  rfl
@[simp] theorem xOwn_e {f : SA} : xOwn f r S = bnd (f r S) fun as S1 => some (.own S1.length, S1 ++ [.lst as]) := rfl
@[simp] theorem xPart_e {fa : SE} : xPart fa r S = bnd (fa r S) fun a S1 => match a with
  | .dat _ (.int i) => some (some i, S1)
  | _ => none := rfl
@[simp] theorem xNoPart_e : xNoPart r S = some (none, S) := rfl
def kL (x : Option (List OV)) (S : Sto) (f : List OV → List OV) : Option (List OV × Sto) := match x with
  | some vs => some (f vs, S)
  | none => none
@[simp] theorem kL_e {vs : List OV} {f : List OV → List OV} : kL (some vs) S f = some (f vs, S) := rfl
@[simp] theorem xSl_e {fa : SE} {fl fh : SO} : xSl fa fl fh r S = k3 (fa r S) fl fh r fun a lo hi S3 => kL (seqItems S3 a) S3 fun vs => cutG vs lo hi := by
  rw [← k3_i]
  unfold xSl kL
  rfl
@[simp] theorem xSlT_e {fa : SE} {fl fh : SO} : xSlT fa fl fh r S = k3 (fa r S) fl fh r fun a lo hi S3 => match a with
  | .dat b (.tuple ds) => some (mkD b (.tuple (cutG ds lo hi)), S3)
  | _ => none := by
  rw [← k3_i]; rfl
@[simp] theorem xRev_e {fa : SE} : xRev fa r S = bnd (fa r S) fun a S1 => kL (seqItems S1 a) S1 List.reverse := by
  unfold xRev kL
  rfl
def kCat (x y : Option (List OV)) (S : Sto) : Option (List OV × Sto) := match x, y with
  | some vs, some us => if vs.length + us.length ≤ 100000 then some (vs ++ us, S) else none
  | _, _ => none
@[simp] theorem kCat_e {vs us : List OV} : kCat (some vs) (some us) S = if vs.length + us.length ≤ 100000 then some (vs ++ us, S) else none := rfl
@[simp] theorem xCat_e {fa fb : SE} : xCat fa fb r S = k2 (fa r S) fb r fun a b S2 => kCat (lstItems S2 a) (lstItems S2 b) S2 := by
  rw [← k2_i]
  unfold xCat kCat
  rfl
@[simp] theorem xCatT_e {fa fb : SE} : xCatT fa fb r S = k2 (fa r S) fb r fun a b S2 => match a, b with
  | .dat b (.tuple ds), .dat c (.tuple es) => if ds.length + es.length ≤ 100000 then some (mkD (b || c) (.tuple (ds ++ es)), S2) else none
  | _, _ => none := by
  rw [← k2_i]; rfl
@[simp] theorem xCB_e {o : List OV → Sto → Option (OV × Sto)} {fr : SA} : xCB o fr r S = bnd (fr r S) fun as S1 => o as S1 := rfl
@[simp] theorem xCL_e {o : List OV → Sto → Option (List OV)} {fr : SA} : xCL o fr r S = bnd (fr r S) fun as S1 => kL (o as S1) S1 id := by
  unfold xCL kL
  rfl
@[simp] theorem oLen_t {ds : List PyData} : oLen [.dat b (.tuple ds)] S = some (.dat false (.int (ds.length : Int)), S) := rfl
@[simp] theorem oLen_l {ds : List PyData} : oLen [.dat b (.list ds)] S = some (.dat false (.int (ds.length : Int)), S) := by
  simp [oLen, seqItems, lstItems]
def kI (x : Option (List Int)) (S : Sto) (f : List Int → OV) : Option (OV × Sto) := match x with
  | some ns => some (f ns, S)
  | none => none
@[simp] theorem kI_e {ns : List Int} {f : List Int → OV} : kI (some ns) S f = some (f ns, S) := rfl
@[simp] theorem seqItems_d {ds : List PyData} : seqItems S (.dat b (.list ds)) = some (ds.map (mkD b)) := rfl
@[simp] theorem lstItems_d {ds : List PyData} : lstItems S (.dat b (.list ds)) = some (ds.map (mkD b)) := rfl
@[simp] theorem intsOf_nil : intsOf [] = some [] := rfl
@[simp] theorem intsOf_cons {a : Int} {vs : List OV} : intsOf (.dat b (.int a) :: vs) = match intsOf vs with
    | some ns => some (a :: ns)
    | none => none := rfl
@[simp] theorem intsOf_mapf {α : Type} (f : α → Int) : ∀ xs : List α, intsOf (xs.map fun x => .dat false (.int (f x))) = some (xs.map f)
  | [] => rfl
  | x :: xs => by rw [List.map_cons, intsOf_cons, intsOf_mapf f xs]; rfl
@[simp] theorem seqInts_map {α : Type} (f : α → Int) (xs : List α) : seqInts S (.dat b (.list (xs.map fun x => .int (f x)))) = some (xs.map f) := by
  simp [seqInts, Function.comp_def, intsOf_mapf]
@[simp] theorem seqInts_is (xs : List Int) : seqInts S (.dat b (.list (xs.map .int))) = some xs := by
  have := seqInts_map (S := S) (b := b) id xs
  simpa using this
@[simp] theorem seqInts_nil : seqInts S (.dat b (.list [])) = some [] := rfl
@[simp] theorem seqInts_cons (a : Int) (ds : List PyData) : seqInts S (.dat b (.list (.int a :: ds))) = match seqInts S (.dat b (.list ds)) with
    | some ns => some (a :: ns)
    | none => none := by
  simp [seqInts]
@[simp] theorem oSum_e {v : OV} : oSum [v] S = kI (seqInts S v) S fun ns => .dat false (.int ns.sum) := by
  unfold oSum kI; rfl
@[simp] theorem oSorted_e {v : OV} : oSorted [v] S = match seqInts S v with
    | some ns => some ((sortI ns).map fun n => .dat false (.int n))
    | none => none := by
  unfold oSorted; rfl
@[simp] theorem oMaxL_e {v : OV} : oMaxL [v] S = match seqInts S v with
    | some (n :: ns) => some (.dat false (.int (maxL n ns)), S)
    | _ => none := by
  unfold oMaxL; rfl
@[simp] theorem oMinL_e {v : OV} : oMinL [v] S = match seqInts S v with
    | some (n :: ns) => some (.dat false (.int (minL n ns)), S)
    | _ => none := by
  unfold oMinL; rfl
@[simp] theorem oMax2_e : oMax2 [.dat b (.int i), .dat c (.int j)] S = some (.dat false (.int (max i j)), S) := rfl
@[simp] theorem oMin2_e : oMin2 [.dat b (.int i), .dat c (.int j)] S = some (.dat false (.int (min i j)), S) := rfl
@[simp] theorem oIntF_i : oIntF [.dat b (.int i)] S = some (.dat false (.int i), S) := rfl
@[simp] theorem oIntF_b : oIntF [.dat b (.bool c)] S = some (.dat false (.int (if c then 1 else 0)), S) := rfl
@[simp] theorem blsOf_nil : blsOf [] = some [] := rfl
@[simp] theorem blsOf_cons {vs : List OV} : blsOf (.dat b (.bool c) :: vs) = match blsOf vs with
    | some ns => some (c :: ns)
    | none => none := rfl
@[simp] theorem blsOf_mapf {α : Type} (f : α → Bool) : ∀ xs : List α, blsOf (xs.map fun x => .dat false (.bool (f x))) = some (xs.map f)
  | [] => rfl
  | x :: xs => by rw [List.map_cons, blsOf_cons, blsOf_mapf f xs]; rfl
def kBl (x : Option (List Bool)) (S : Sto) (f : List Bool → Bool) : Option (OV × Sto) := match x with
  | some ns => some (.dat false (.bool (f ns)), S)
  | none => none
@[simp] theorem kBl_e {ns : List Bool} {f : List Bool → Bool} : kBl (some ns) S f = some (.dat false (.bool (f ns)), S) := rfl
@[simp] theorem oAll_e {any : Bool} {ds : List PyData} : oAll any [.dat b (.list ds)] S = kBl (blsOf (ds.map (mkD b))) S fun bs => if any then bs.any id else bs.all id := by
  unfold oAll kBl; rfl
@[simp] theorem oList_t {ds : List PyData} : oList [.dat b (.tuple ds)] S = some (ds.map (mkD b)) := rfl
@[simp] theorem oList_l {ds : List PyData} : oList [.dat b (.list ds)] S = some (ds.map (mkD b)) := rfl
@[simp] theorem xIsi_e {T : String} {fa : SE} : xIsi T fa r S = bnd (fa r S) fun a S1 => oIsi T [a] S1 := rfl
def kIsi (x : Option Bool) (S : Sto) : Option (OV × Sto) := match x with
  | some b => some (.dat false (.bool b), S)
  | none => none
@[simp] theorem kIsi_e : kIsi (some b) S = some (.dat false (.bool b), S) := rfl
@[simp] theorem oIsi_e {T : String} {d : PyData} : oIsi T [.dat b d] S = kIsi (kitB (tyName d) T) S := by
  unfold oIsi kIsi; rfl
@[simp] theorem tyN_n : tyName .none = "NoneType" := rfl
@[simp] theorem tyN_b : tyName (.bool b) = "bool" := rfl
@[simp] theorem tyN_i : tyName (.int i) = "int" := rfl
@[simp] theorem tyN_s {s : Str} : tyName (.str s) = "str" := rfl
@[simp] theorem tyN_l {ds : List PyData} : tyName (.list ds) = "list" := rfl
@[simp] theorem tyN_t {ds : List PyData} : tyName (.tuple ds) = "tuple" := rfl
theorem atI_0 {α : Type} {a : α} {l : List α} : atI (a :: l) 0 = some a := by
  simp [atI, ixN]
@[simp] theorem atI_z {α : Type} {a : α} {l : List α} : atI (a :: l) 0 = some a := atI_0
theorem atI_n {α : Type} {l : List α} {n : Nat} : atI l (n : Int) = l[n]? := by
  unfold atI ixN
  rw [if_pos (Int.natCast_nonneg n)]
  by_cases h : n < l.length
  · rw [if_pos (by omega)]; simp
  · rw [if_neg (by omega), List.getElem?_eq_none (by omega)]; rfl
theorem atI_m1 {α : Type} {l : List α} : atI l (-1) = l.getLast? := by
  unfold atI ixN
  rw [if_neg (by omega)]
  by_cases h : l.length = 0
  · rw [if_neg (by omega)]
    rw [List.eq_nil_of_length_eq_zero h]; rfl
  · rw [if_pos (by omega), List.getLast?_eq_getElem?]
    simp only [Option.bind_some]
    congr 1; omega
theorem atI_map {α β : Type} {l : List α} {f : α → β} {i : Int} : atI (l.map f) i = (atI l i).map f := by
  unfold atI
  rw [List.length_map]
  cases ixN l.length i <;> simp
@[simp] theorem oIx_l {ds : List PyData} : oIx (.dat b (.list ds)) (.dat c (.int i)) S = (atI ds i).map fun d => (mkD b d, S) := rfl
@[simp] theorem oIx_t {ds : List PyData} : oIx (.dat b (.tuple ds)) (.dat c (.int i)) S = (atI ds i).map fun d => (mkD b d, S) := rfl
def kEq (x y : Option PyData) (neg : Bool) (S : Sto) : Option (OV × Sto) := match x, y with
  | some d, some e => if SeqAt.shaped d = true ∧ SeqAt.shaped e = true then some (.dat false (.bool (if neg then !PyData.eqv d e else PyData.eqv d e)), S) else none
  | _, _ => none
@[simp] theorem kEq_e {d e : PyData} {neg : Bool} : kEq (some d) (some e) neg S = if SeqAt.shaped d = true ∧ SeqAt.shaped e = true then some (.dat false (.bool (if neg then !PyData.eqv d e else PyData.eqv d e)), S) else none := rfl
@[simp] theorem oEq_e {neg : Bool} {u v : OV} : oEq neg u v S = kEq (rd 6 S u) (rd 6 S v) neg S := by
  unfold oEq kEq; rfl
@[simp] theorem oIsN_e {neg : Bool} {u : OV} : oIsN neg u (.dat b .none) S = some (.dat false (.bool (if neg then !isNon u else isNon u)), S) := rfl
@[simp] theorem isNon_n : isNon (.dat b .none) = true := rfl
@[simp] theorem isNon_i : isNon (.dat b (.int i)) = false := rfl
def kIn (x y : Option PyData) (neg : Bool) (S : Sto) : Option (OV × Sto) := match x, y with
  | some d, some (.list ds) => if flatD d = true ∧ ds.all flatD = true then some (.dat false (.bool (if neg then !ds.any (fun z => PyData.eqv z d) else ds.any fun z => PyData.eqv z d)), S) else none
  | some d, some (.tuple ds) => if flatD d = true ∧ ds.all flatD = true then some (.dat false (.bool (if neg then !ds.any (fun z => PyData.eqv z d) else ds.any fun z => PyData.eqv z d)), S) else none
  | _, _ => none
@[simp] theorem oIn_e {neg : Bool} {u v : OV} : oIn neg u v S = kIn (rd 6 S u) (rd 6 S v) neg S := by
  unfold oIn kIn; rfl
@[simp] theorem kIn_l {d : PyData} {ds : List PyData} {neg : Bool} : kIn (some d) (some (.list ds)) neg S = if flatD d = true ∧ ds.all flatD = true then some (.dat false (.bool (if neg then !ds.any (fun z => PyData.eqv z d) else ds.any fun z => PyData.eqv z d)), S) else none := rfl
@[simp] theorem kIn_t {d : PyData} {ds : List PyData} {neg : Bool} : kIn (some d) (some (.tuple ds)) neg S = if flatD d = true ∧ ds.all flatD = true then some (.dat false (.bool (if neg then !ds.any (fun z => PyData.eqv z d) else ds.any fun z => PyData.eqv z d)), S) else none := rfl
@[simp] theorem flatD_i : flatD (.int i) = true := rfl
@[simp] theorem flatD_b : flatD (.bool b) = true := rfl
@[simp] theorem flatD_s {s : Str} : flatD (.str s) = true := rfl
@[simp] theorem flatD_n : flatD .none = true := rfl
@[simp] theorem eqv_ii : PyData.eqv (.int i) (.int j) = (i == j) := by simp [PyData.eqv]
@[simp] theorem eqv_ss {s t : Str} : PyData.eqv (.str s) (.str t) = (s == t) := by simp [PyData.eqv]
@[simp] theorem eqv_si {s : Str} : PyData.eqv (.str s) (.int j) = false := by simp [PyData.eqv]
@[simp] theorem eqv_bb : PyData.eqv (.bool b) (.bool c) = (b == c) := by simp [PyData.eqv]
@[simp] theorem eqv_ll {ds es : List PyData} : PyData.eqv (.list ds) (.list es) = PyData.eqvAll ds es := by simp [PyData.eqv]
@[simp] theorem eqv_tt {ds es : List PyData} : PyData.eqv (.tuple ds) (.tuple es) = PyData.eqvAll ds es := by simp [PyData.eqv]
@[simp] theorem eqv_nn : PyData.eqvAll [] [] = true := by simp [PyData.eqvAll]
@[simp] theorem eqv_nc {d : PyData} {ds : List PyData} : PyData.eqvAll [] (d :: ds) = false := by simp [PyData.eqvAll]
@[simp] theorem eqv_cn {d : PyData} {ds : List PyData} : PyData.eqvAll (d :: ds) [] = false := by simp [PyData.eqvAll]
@[simp] theorem eqv_cc {d e : PyData} {ds es : List PyData} : PyData.eqvAll (d :: ds) (e :: es) = (PyData.eqv d e && PyData.eqvAll ds es) := by simp [PyData.eqvAll]
theorem eqv_none {ds : List PyData} : PyData.eqvAll ds [] = ds.isEmpty := by cases ds <;> simp
@[simp] theorem shaped_i : SeqAt.shaped (.int i) = true := by simp [SeqAt.shaped, PyData.canLay0, PyData.depth]
@[simp] theorem shaped_b : SeqAt.shaped (.bool b) = true := by simp [SeqAt.shaped, PyData.canLay0, PyData.depth]
@[simp] theorem shaped_e : SeqAt.shaped (.list []) = true := by simp [SeqAt.shaped, PyData.canLay0, PyData.depth, PyData.canLayAll0, PyData.depthAll]
/-- turns and comprehensions -/
@[simp] theorem xiList_e {fa : SE} : xiList fa r S = bnd (fa r S) fun a S1 => match seqItems S1 a with
  | some vs => some (⟨vs, gdOf a vs⟩, S1)
  | none => none := rfl
@[simp] theorem xiTup_e {fa : SE} : xiTup fa r S = bnd (fa r S) fun a S1 => match a with
  | .dat b (.tuple ds) => some (⟨ds.map (mkD b), fun _ => True⟩, S1)
  | _ => none := rfl
@[simp] theorem xiRng1_e {fr : SA} : xiRng1 fr r S = bnd (fr r S) fun as S1 => match as with
  | [.dat _ (.int n)] => if -1000000 ≤ n ∧ n ≤ 1000000 then some (⟨rangeI 0 n.toNat, fun _ => True⟩, S1) else none
  | _ => none := rfl
@[simp] theorem xiRng2_e {fr : SA} : xiRng2 fr r S = bnd (fr r S) fun as S1 => match as with
  | [.dat _ (.int a), .dat _ (.int b)] => if -1000000 ≤ a ∧ a ≤ 1000000 ∧ -1000000 ≤ b ∧ b ≤ 1000000 then some (⟨rangeI a (b - a).toNat, fun _ => True⟩, S1) else none
  | _ => none := rfl
@[simp] theorem gdOf_d {d : PyData} {vs : List OV} : gdOf (.dat b d) vs = fun _ => True := rfl
@[simp] theorem xiEnum_d {fa : SE} {fr : SA} : xiEnum fr r S = bnd (fr r S) fun as S1 => match as with
  | [a] => (match seqItems S1 a with
    | some vs => (match enumI 0 vs with
      | some xs => some (⟨xs, gdOf a vs⟩, S1)
      | none => none)
    | none => none)
  | _ => none := rfl
@[simp] theorem xiZip_e {fr : SA} : xiZip fr r S = bnd (fr r S) fun as S1 => match as with
  | [a, b] => (match seqItems S1 a, seqItems S1 b with
    | some vs, some us => (match zipI vs us with
      | some xs => some (⟨xs, fun S => gdOf a vs S ∧ gdOf b us S⟩, S1)
      | none => none)
    | _, _ => none)
  | _ => none := rfl
@[simp] theorem sFor_e {fi : SI} {bb : BN} {f : SS} {ws : List Nat} : sFor fi bb f ws r S = bnd (fi r S) fun s S1 => forL (turnS bb f ws) s.gd s.xs r S1 := rfl
@[simp] theorem xLc_e {fi : SI} {bb : BN} {ft : SC} {fe : SE} {is : List Nat} : xLc fi bb ft fe is r S = bnd (fi r S) fun s S1 => if s.xs.length ≤ 100000 then compL s.gd bb ft fe s.xs (wipeE r is) S1 else none := rfl
@[simp] theorem wipeE_n : wipeE r [] = r := rfl
@[simp] theorem wipeE_c {v : Nat} {vs : List Nat} : wipeE r (v :: vs) = (wipeE r vs).set v none := rfl
def kComp (x : Option Env) (f : Env → Option (List OV × Sto)) : Option (List OV × Sto) := match x with
  | some r1 => f r1
  | none => none
@[simp] theorem kComp_e {f : Env → Option (List OV × Sto)} : kComp (some r) f = f r := rfl
theorem compL_n {bb : BN} {ft : SC} {fe : SE} : compL (fun _ => True) bb ft fe [] r S = some ([], S) := by
  rw [compL, chk_true]
def kTurn (x : Option (Fl × Env × Sto)) (ws : List Nat) : Option (Fl × Env × Sto) := match x with
  | some (fl, r2, S2) => some (fl, wipeE r2 ws, S2)
  | none => none
@[simp] theorem kTurn_e {ws : List Nat} {fl : Fl} : kTurn (some (fl, r, S)) ws = some (fl, wipeE r ws, S) := rfl
def kBind (x : Option Env) (f : SS) (S : Sto) : Option (Fl × Env × Sto) := match x with
  | some r1 => f r1 S
  | none => none
@[simp] theorem kBind_e {f : SS} : kBind (some r) f S = f r S := rfl
@[simp] theorem turnS_e {bb : BN} {f : SS} {ws : List Nat} {x : OV} : turnS bb f ws x r S = kTurn (kBind (bb S x r) f S) ws := by
  unfold turnS kTurn kBind
  cases bb S x r <;> rfl
def kFor (x : Option (Fl × Env × Sto)) (f : SS) : Option (Fl × Env × Sto) := match x with
  | some (.nx, r1, S1) => f r1 S1
  | some (.ct, r1, S1) => f r1 S1
  | some (.bk, r1, S1) => some (.nx, r1, S1)
  | some (.rt v, r1, S1) => some (.rt v, r1, S1)
  | none => none
@[simp] theorem kFor_nx {f : SS} : kFor (some (.nx, r, S)) f = f r S := rfl
@[simp] theorem kFor_ct {f : SS} : kFor (some (.ct, r, S)) f = f r S := rfl
@[simp] theorem kFor_bk {f : SS} : kFor (some (.bk, r, S)) f = some (.nx, r, S) := rfl
@[simp] theorem kFor_rt {f : SS} {v : OV} : kFor (some (.rt v, r, S)) f = some (.rt v, r, S) := rfl
@[simp] theorem forL_n {bd : OV → SS} : forL bd (fun _ => True) [] r S = some (.nx, r, S) := by rw [forL, chk_true]
@[simp] theorem forL_c {bd : OV → SS} {x : OV} {xs : List OV} : forL bd (fun _ => True) (x :: xs) r S = kFor (bd x r S) (forL bd (fun _ => True) xs) := by
  rw [forL, chk_true]
  unfold kFor
  rfl
end
section
variable {r : Env} {S : Sto} {b c : Bool}
/-- the turns of a comprehension -/
def yComp (fe : SE) (rest : SA) (r : Env) : SA := fun r1 S1 => k2 (fe r1 S1) rest r fun v vs S3 => some (v :: vs, S3)
@[simp] theorem yComp_e {fe : SE} {rest : SA} {r1 : Env} : yComp fe rest r r1 S = k2 (fe r1 S) rest r fun v vs S3 => some (v :: vs, S3) := rfl
def yRest (rest : SA) (r : Env) : SA := fun _ S1 => rest r S1
@[simp] theorem yRest_e {rest : SA} {r1 : Env} : yRest rest r r1 S = rest r S := rfl
def kCmp (x : Option Env) (ft : SC) (fe : SE) (rest : SA) (r : Env) (S : Sto) : Option (List OV × Sto) := match x with
  | some r1 => kTest (ft r1 S) (yComp fe rest r) (yRest rest r) r1
  | none => none
@[simp] theorem kCmp_e {ft : SC} {fe : SE} {rest : SA} {r1 : Env} : kCmp (some r1) ft fe rest r S = kTest (ft r1 S) (yComp fe rest r) (yRest rest r) r1 := rfl
@[simp] theorem compL_nn {bb : BN} {ft : SC} {fe : SE} : compL (fun _ => True) bb ft fe [] r S = some ([], S) := compL_n
@[simp] theorem compL_cc {bb : BN} {ft : SC} {fe : SE} {x : OV} {xs : List OV} : compL (fun _ => True) bb ft fe (x :: xs) r S = kCmp (bb S x r) ft fe (compL (fun _ => True) bb ft fe xs) r S := by
  rw [compL, chk_true]
  unfold kCmp
  cases bb S x r with
  | none => rfl
  | some r1 =>
    refine Eq.trans ?_ test_e
    show bnd _ _ = bnd _ _
    congr 1
/-- calls -/
def kCall (x : Option (Fl × Env × Sto)) : Option (OV × Sto) := match x with
  | some (.rt v, _, S') => some (v, S')
  | some (.nx, _, S') => some (.dat false .none, S')
  | _ => none
@[simp] theorem kCall_rt {v : OV} : kCall (some (.rt v, r, S)) = some (v, S) := rfl
@[simp] theorem kCall_nx : kCall (some (.nx, r, S)) = some (.dat false .none, S) := rfl
@[simp] theorem callS_e {n N : Nat} {body : SS} {as : List OV} : callS n N body as S = if as.length = n then kCall (body (as.map some ++ List.replicate (N - n) none) S) else none := by
  unfold callS kCall; rfl
@[simp] theorem xCallM_e {sem : Sem2} {n : Nat} {fr : SA} : xCallM sem n fr r S = bnd (fr r S) fun as S1 => if as.length = n then sem as S1 else none := rfl
@[simp] theorem argF_d {d : PyData} : argF S (.dat b d) = some (mkD true d) := argF_dat S b d
@[simp] theorem argsF_n : argsF S [] = some [] := rfl
def kArg (x : Option OV) (y : Option (List OV)) : Option (List OV) := match x with
  | some a => (match y with
    | some as => some (a :: as)
    | none => none)
  | none => none
@[simp] theorem kArg_e {v : OV} {vs : List OV} : kArg (some v) (some vs) = some (v :: vs) := rfl
@[simp] theorem argsF_c {v : OV} {vs : List OV} : argsF S (v :: vs) = kArg (argF S v) (argsF S vs) := by
  rw [argsF]; unfold kArg; rfl
@[simp] theorem natD_f {d : PyData} : natD (some (.dat false d, S)) = some (.dat false d, S) := rfl
def kF (x : Option (OV × Sto)) (S : Sto) : Option (OV × Sto) := match x with
  | some (z, _) => some (z, S)
  | none => none
@[simp] theorem kF_e {v : OV} {S' : Sto} : kF (some (v, S')) S = some (v, S) := rfl
def kF1 (x : Option (List OV)) (sem : Sem2) (S : Sto) : Option (OV × Sto) := match x with
  | some as => kF (natD (sem as [])) S
  | none => none
@[simp] theorem kF1_e {sem : Sem2} {as : List OV} : kF1 (some as) sem S = kF (natD (sem as [])) S := rfl
@[simp] theorem xCallF_e {sem : Sem2} {n : Nat} {fr : SA} : xCallF sem n fr r S = bnd (fr r S) fun as S1 => if as.length = n then kF1 (argsF S1 as) sem S1 else none := by
  unfold xCallF kF1 kF
  rfl
end
theorem le_T {i j : Int} (h : i ≤ j) : decide (i ≤ j) = true := decide_eq_true h
theorem le_F {i j : Int} (h : j < i) : decide (i ≤ j) = false := decide_eq_false (by omega)
theorem lt_T {i j : Int} (h : i < j) : decide (i < j) = true := decide_eq_true h
theorem lt_F {i j : Int} (h : j ≤ i) : decide (i < j) = false := decide_eq_false (by omega)
theorem bq_F {i j : Int} (h : i ≠ j) : (i == j) = false := by simp [h]
section
variable {S : Sto} {b : Bool} {i : Int}
theorem all_flat_int (ns : List Int) : (ns.map PyData.int).all flatD = true := by
  induction ns with
  | nil => rfl
  | cons n ns ih => simpa using ih
theorem any_int (ns : List Int) (i : Int) : ((ns.map PyData.int).any fun z => PyData.eqv z (.int i)) = decide (i ∈ ns) := by
  induction ns with
  | nil => simp
  | cons n ns ih =>
    rw [List.map_cons, List.any_cons, ih, eqv_ii]
    by_cases h : n = i
    · subst h; simp
    · have h2 : ¬ i = n := fun e => h e.symm
      simp [h, h2]
@[simp high] theorem kIn_is {ns : List Int} {neg : Bool} : kIn (some (.int i)) (some (.list (ns.map .int))) neg S = some (.dat false (.bool (if neg then !decide (i ∈ ns) else decide (i ∈ ns))), S) := by
  rw [kIn_l, if_pos ⟨rfl, all_flat_int ns⟩, any_int]
def kNat (x : Option OO) (S : Sto) : Option (OV × Sto) := match x with
  | some (.lst vs) => (match allDat vs with
    | some (false, ds) => some (.dat false (.list ds), S)
    | _ => none)
  | _ => none
@[simp] theorem natD_own {j : Nat} : natD (some (.own j, S)) = kNat S[j]? S := rfl
@[simp] theorem kNat_e {vs : List OV} : kNat (some (.lst vs)) S = match allDat vs with
    | some (false, ds) => some (.dat false (.list ds), S)
    | _ => none := rfl
@[simp] theorem set_app {x y : OO} : (S ++ [x]).set S.length y = S ++ [y] := by
  simp
@[simp] theorem get_app {x : OO} : (S ++ [x])[S.length]? = some x := by
  simp
/-- a for whose turns all go on -/
theorem forL_env {bd : OV → SS} {α β : Type} (E : β → Env) (T : β → Sto) (nice : β → α → β) (P : Nat → β → Prop) (en : α → OV) : ∀ (xs : List α) (n : Nat) (a : β), P n a →
    (∀ i a x, xs[i]? = some x → P (n + i) a → bd (en x) (E a) (T a) = some (.nx, E (nice a x), T (nice a x)) ∧ P (n + i + 1) (nice a x)) →
    forL bd (fun _ => True) (xs.map en) (E a) (T a) = some (.nx, E (xs.foldl nice a), T (xs.foldl nice a)) ∧ P (n + xs.length) (xs.foldl nice a)
  | [], n, a, h0, _ => ⟨by simp, h0⟩
  | x :: xs, n, a, h0, h => by
    obtain ⟨h1, h2⟩ := h 0 a x rfl h0
    obtain ⟨h3, h4⟩ := forL_env E T nice P en xs (n + 1) (nice a x) h2 fun i a y hy => by
      have := h (i + 1) a y (by simpa using hy)
      rw [show n + 1 + i = n + (i + 1) by omega]
      exact this
    refine ⟨?_, by rw [List.length_cons, List.foldl_cons, show n + (xs.length + 1) = n + 1 + xs.length by omega]; exact h4⟩
    rw [List.map_cons, forL_c, h1, kFor_nx, List.foldl_cons]
    exact h3
theorem compL_ev {bb : BN} {ft : SC} {fe : SE} {r : Env} {α : Type} (en : α → OV) (p : α → Bool) (f : α → OV) (xs : List α)
    (h : ∀ x ∈ xs, ∃ r1, bb S (en x) r = some r1 ∧ ft r1 S = some (p x, S) ∧ (p x = true → fe r1 S = some (f x, S))) :
    compL (fun _ => True) bb ft fe (xs.map en) r S = some ((xs.filter p).map f, S) := compL_map en p f xs h
@[simp] theorem all_tt {α : Type} (xs : List α) : (xs.all fun _ => true) = true := by induction xs <;> simp_all
@[simp] theorem any_ff {α : Type} (xs : List α) : (xs.any fun _ => false) = false := by induction xs <;> simp_all
@[simp] theorem filt_tt {α : Type} (xs : List α) : (xs.filter fun _ => true) = xs := List.filter_eq_self.mpr (by simp)
theorem compL_y {bb : BN} {fe : SE} {r : Env} {α : Type} (en : α → OV) (f : α → OV) (xs : List α)
    (h : ∀ x ∈ xs, ∃ r1, bb S (en x) r = some r1 ∧ fe r1 S = some (f x, S)) :
    compL (fun _ => True) bb xYes fe (xs.map en) r S = some (xs.map f, S) := by
  rw [compL_ev en (fun _ => true) f xs fun x hx => by
    obtain ⟨r1, h1, h2⟩ := h x hx
    exact ⟨r1, h1, rfl, fun _ => h2⟩]
  rw [List.filter_eq_self.mpr (by simp)]
@[simp] theorem allDat_f {α : Type} (f : α → PyData) (xs : List α) : allDat (xs.map fun x => .dat false (f x)) = some (false, xs.map f) := allDat_false f xs
end
/-! ### things of the store -/
section
variable {S : Sto} {r : Env}
def hExt3 (x : Option OO) (y : Option (List OV)) (i : Nat) (S2 : Sto) : Option (OV × Sto) := match x, y with
  | some (.lst vs), some us => if vs.length + us.length ≤ 100000 then some (.dat false .none, S2.set i (.lst (vs ++ us))) else none
  | _, _ => none
@[simp] theorem hExt3_e {i : Nat} {vs us : List OV} : hExt3 (some (.lst vs)) (some us) i S = if vs.length + us.length ≤ 100000 then some (.dat false .none, S.set i (.lst (vs ++ us))) else none := rfl
def hExt2 (x : Option OO) (y : Option (OV × Sto)) (i : Nat) : Option (OV × Sto) := match x with
  | some (.lst _) => bnd y fun a S2 => hExt3 S2[i]? (lstItems S2 a) i S2
  | _ => none
@[simp] theorem hExt2_e {i : Nat} {vs : List OV} {y : Option (OV × Sto)} : hExt2 (some (.lst vs)) y i = bnd y fun a S2 => hExt3 S2[i]? (lstItems S2 a) i S2 := rfl
def hExt1 (x : Option (OV × Sto)) (f2 : SE) (r : Env) : Option (OV × Sto) := match x with
  | some (.own i, S1) => hExt2 S1[i]? (f2 r S1) i
  | _ => none
@[simp] theorem hExt1_e {i : Nat} {f2 : SE} : hExt1 (some (.own i, S)) f2 r = hExt2 S[i]? (f2 r S) i := rfl
@[simp] theorem xExt_e {fo f2 : SE} : xExt fo f2 r S = hExt1 (fo r S) f2 r := by
  unfold xExt hExt1
  rcases fo r S with _ | ⟨⟨b, d⟩ | i | n, S1⟩
  · rfl
  · show bnd (f2 r S1) _ = none
    cases f2 r S1 <;> rfl
  · show bnd (f2 r S1) _ = hExt2 S1[i]? (f2 r S1) i
    unfold hExt2
    rcases f2 r S1 with _ | ⟨a, S2⟩
    · rcases S1[i]? with _ | ⟨vs | vs | ⟨c, fs⟩ | fs⟩ <;> rfl
    · simp only [bnd_mk]
      unfold hExt3
      rcases S1[i]? with _ | ⟨vs | vs | ⟨c, fs⟩ | fs⟩ <;> rcases S2[i]? with _ | ⟨vs | vs | ⟨c, fs⟩ | fs⟩ <;> cases lstItems S2 a <;> rfl
  · show bnd (f2 r S1) _ = none
    cases f2 r S1 <;> rfl
def hMut4 (x : Option (OV × List OV)) (i : Nat) (S2 : Sto) : Option (OV × Sto) := match x with
  | some (z, us) => some (z, S2.set i (.lst us))
  | none => none
@[simp] theorem hMut4_e {i : Nat} {z : OV} {us : List OV} : hMut4 (some (z, us)) i S = some (z, S.set i (.lst us)) := rfl
def hMut3 (up : List OV → List OV → Option (OV × List OV)) (x : Option OO) (as : List OV) (i : Nat) (S2 : Sto) : Option (OV × Sto) := match x with
  | some (.lst vs) => hMut4 (up vs as) i S2
  | _ => none
@[simp] theorem hMut3_e {up : List OV → List OV → Option (OV × List OV)} {i : Nat} {vs as : List OV} : hMut3 up (some (.lst vs)) as i S = hMut4 (up vs as) i S := rfl
def hMut2 (up : List OV → List OV → Option (OV × List OV)) (x : Option OO) (y : Option (List OV × Sto)) (i : Nat) : Option (OV × Sto) := match x with
  | some (.lst _) => bnd y fun as S2 => hMut3 up S2[i]? as i S2
  | _ => none
@[simp] theorem hMut2_e {up : List OV → List OV → Option (OV × List OV)} {i : Nat} {vs : List OV} {y : Option (List OV × Sto)} : hMut2 up (some (.lst vs)) y i = bnd y fun as S2 => hMut3 up S2[i]? as i S2 := rfl
def hMut1 (up : List OV → List OV → Option (OV × List OV)) (x : Option (OV × Sto)) (fr : SA) (r : Env) : Option (OV × Sto) := match x with
  | some (.own i, S1) => hMut2 up S1[i]? (fr r S1) i
  | _ => none
@[simp] theorem hMut1_e {up : List OV → List OV → Option (OV × List OV)} {i : Nat} {fr : SA} : hMut1 up (some (.own i, S)) fr r = hMut2 up S[i]? (fr r S) i := rfl
@[simp] theorem xMut_e {up : List OV → List OV → Option (OV × List OV)} {fo : SE} {fr : SA} : xMut up fo fr r S = hMut1 up (fo r S) fr r := by
  unfold xMut hMut1
  rcases fo r S with _ | ⟨⟨b, d⟩ | i | n, S1⟩
  · rfl
  · show bnd (fr r S1) _ = none
    cases fr r S1 <;> rfl
  · show bnd (fr r S1) _ = hMut2 up S1[i]? (fr r S1) i
    unfold hMut2
    rcases fr r S1 with _ | ⟨a, S2⟩
    · rcases S1[i]? with _ | ⟨vs | vs | ⟨c, fs⟩ | fs⟩ <;> rfl
    · simp only [bnd_mk]
      unfold hMut3 hMut4
      rcases S1[i]? with _ | ⟨vs | vs | ⟨c, fs⟩ | fs⟩ <;> rcases S2[i]? with _ | ⟨vs | vs | ⟨c, fs⟩ | fs⟩ <;> rfl
  · show bnd (fr r S1) _ = none
    cases fr r S1 <;> rfl
@[simp] theorem uApp_e {vs : List OV} {a : OV} : uApp vs [a] = if vs.length < 100000 then some (.dat false .none, vs ++ [a]) else none := rfl
@[simp] theorem lk_c {a k : Str} {v : OV} {es : List (Str × OV)} : List.lookup a ((k, v) :: es) = if (a == k) = true then some v else List.lookup a es := by
  rw [List.lookup]
  cases a == k <;> rfl
def hFd (x : Option OV) (S1 : Sto) : Option (OV × Sto) := match x with
  | some v => some (v, S1)
  | none => none
@[simp] theorem hFd_e {v : OV} : hFd (some v) S = some (v, S) := rfl
def hFld (c f : Str) (x : Option OO) (S1 : Sto) : Option (OV × Sto) := match x with
  | some (.ins d fs) => if d = c then hFd (fs.lookup f) S1 else none
  | _ => none
@[simp] theorem hFld_e {c d f : Str} {fs : List (Str × OV)} : hFld c f (some (.ins d fs)) S = if d = c then hFd (fs.lookup f) S else none := rfl
def hFld1 (c f : Str) (o : OV) (S1 : Sto) : Option (OV × Sto) := match o with
  | .own i => hFld c f S1[i]? S1
  | _ => none
@[simp] theorem hFld1_e {c f : Str} {i : Nat} : hFld1 c f (.own i) S = hFld c f S[i]? S := rfl
@[simp] theorem xFld_e {c f : Str} {fo : SE} : xFld c f fo r S = bnd (fo r S) (hFld1 c f) := by
  unfold xFld
  congr 1
def hFs (c f : Str) (v : OV) (r : Env) (i : Nat) (x : Option OO) (S2 : Sto) : Option (Fl × Env × Sto) := match x with
  | some (.ins d fs) => if d = c ∧ fs.length < 100 then some (.nx, r, S2.set i (.ins d (putO f v fs))) else none
  | _ => none
@[simp] theorem hFs_e {c d f : Str} {v : OV} {i : Nat} {fs : List (Str × OV)} : hFs c f v r i (some (.ins d fs)) S = if d = c ∧ fs.length < 100 then some (.nx, r, S.set i (.ins d (putO f v fs))) else none := rfl
def hFs1 (c f : Str) (r : Env) (v o : OV) (S2 : Sto) : Option (Fl × Env × Sto) := match o with
  | .own i => hFs c f v r i S2[i]? S2
  | _ => none
@[simp] theorem hFs1_e {c f : Str} {v : OV} {i : Nat} : hFs1 c f r v (.own i) S = hFs c f v r i S[i]? S := rfl
@[simp] theorem sFldS_e {c f : Str} {fo fe : SE} : sFldS c f fo fe r S = k2 (fe r S) fo r (hFs1 c f r) := by
  rw [← k2_i]
  unfold sFldS
  congr 1
def hFa3 (c f : Str) (a : Int) (h : Int → Int → Int) (r : Env) (i : Nat) (b : Int) (x : Option OO) (S2 : Sto) : Option (Fl × Env × Sto) := match x with
  | some (.ins d2 fs2) => if d2 = c ∧ fs2.length < 100 then some (.nx, r, S2.set i (.ins d2 (putO f (.dat false (.int (h a b))) fs2))) else none
  | _ => none
@[simp] theorem hFa3_e {c f d2 : Str} {a b : Int} {h : Int → Int → Int} {i : Nat} {fs2 : List (Str × OV)} : hFa3 c f a h r i b (some (.ins d2 fs2)) S = if d2 = c ∧ fs2.length < 100 then some (.nx, r, S.set i (.ins d2 (putO f (.dat false (.int (h a b))) fs2))) else none := rfl
def hFa2 (c f : Str) (a : Int) (h : Int → Int → Int) (r : Env) (i : Nat) (v : OV) (S2 : Sto) : Option (Fl × Env × Sto) := match v with
  | .dat _ (.int b) => hFa3 c f a h r i b S2[i]? S2
  | _ => none
@[simp] theorem hFa2_e {c f : Str} {a b : Int} {h : Int → Int → Int} {i : Nat} {q : Bool} : hFa2 c f a h r i (.dat q (.int b)) S = hFa3 c f a h r i b S[i]? S := rfl
def hFa1 (c f : Str) (h : Int → Int → Int) (r : Env) (i : Nat) (x : Option OV) (y : Option (OV × Sto)) : Option (Fl × Env × Sto) := match x with
  | some (.dat _ (.int a)) => bnd y (hFa2 c f a h r i)
  | _ => none
@[simp] theorem hFa1_e {c f : Str} {a : Int} {h : Int → Int → Int} {i : Nat} {q : Bool} {y : Option (OV × Sto)} : hFa1 c f h r i (some (.dat q (.int a))) y = bnd y (hFa2 c f a h r i) := rfl
def hFa0 (c f : Str) (h : Int → Int → Int) (r : Env) (i : Nat) (x : Option OO) (fe : SE) (S1 : Sto) : Option (Fl × Env × Sto) := match x with
  | some (.ins d fs) => if d = c then hFa1 c f h r i (fs.lookup f) (fe r S1) else none
  | _ => none
@[simp] theorem hFa0_e {c f d : Str} {h : Int → Int → Int} {i : Nat} {fs : List (Str × OV)} {fe : SE} : hFa0 c f h r i (some (.ins d fs)) fe S = if d = c then hFa1 c f h r i (fs.lookup f) (fe r S) else none := rfl
def hFa (c f : Str) (h : Int → Int → Int) (r : Env) (x : Option (OV × Sto)) (fe : SE) : Option (Fl × Env × Sto) := match x with
  | some (.own i, S1) => hFa0 c f h r i S1[i]? fe S1
  | _ => none
@[simp] theorem hFa_e {c f : Str} {h : Int → Int → Int} {i : Nat} {fe : SE} : hFa c f h r (some (.own i, S)) fe = hFa0 c f h r i S[i]? fe S := rfl
@[simp] theorem sFldA_e {c f : Str} {h : Int → Int → Int} {fo fe : SE} : sFldA c f h fo fe r S = hFa c f h r (fo r S) fe := by
  unfold sFldA hFa hFa0 hFa1 hFa2 hFa3
  rcases fo r S with _ | ⟨⟨b, d⟩ | i | n, S1⟩ <;> rfl
def hMe (c mn : Str) (sem : Sem2) (n i : Nat) (fr : SA) (r : Env) (x : Option OO) (S1 : Sto) : Option (OV × Sto) := match x with
  | some (.ins d fs) => if d = c ∧ fs.lookup mn = none then bnd (fr r S1) fun as S2 => if as.length + 1 = n then sem (.own i :: as) S2 else none else none
  | _ => none
@[simp] theorem hMe_e {c mn d : Str} {sem : Sem2} {n i : Nat} {fr : SA} {fs : List (Str × OV)} : hMe c mn sem n i fr r (some (.ins d fs)) S = if d = c ∧ fs.lookup mn = none then bnd (fr r S) fun as S2 => if as.length + 1 = n then sem (.own i :: as) S2 else none else none := rfl
def hMe1 (c mn : Str) (sem : Sem2) (n : Nat) (fr : SA) (r : Env) (x : Option (OV × Sto)) : Option (OV × Sto) := match x with
  | some (.own i, S1) => hMe c mn sem n i fr r S1[i]? S1
  | _ => none
@[simp] theorem hMe1_e {c mn : Str} {sem : Sem2} {n i : Nat} {fr : SA} : hMe1 c mn sem n fr r (some (.own i, S)) = hMe c mn sem n i fr r S[i]? S := rfl
@[simp] theorem xMeth_e {c mn : Str} {sem : Sem2} {n : Nat} {fo : SE} {fr : SA} : xMeth c mn sem n fo fr r S = hMe1 c mn sem n fr r (fo r S) := by
  unfold xMeth hMe1 hMe
  rcases fo r S with _ | ⟨⟨b, d⟩ | i | n, S1⟩ <;> rfl
def hMk (x : Option (OV × Sto)) (i : Nat) : Option (OV × Sto) := match x with
  | some (.dat _ .none, S2) => some (.own i, S2)
  | _ => none
@[simp] theorem hMk_e {b : Bool} {i : Nat} : hMk (some (.dat b .none, S)) i = some (.own i, S) := rfl
@[simp] theorem xMake_e {c : Str} {sem : Sem2} {n : Nat} {fr : SA} : xMake c sem n fr r S = bnd (fr r S) fun as S1 => if as.length + 1 = n then hMk (sem (.own S1.length :: as) (S1 ++ [.ins c []])) S1.length else none := by
  unfold xMake hMk; rfl
def hSx (v : OV) (r : Env) (j : Nat) (n : Int) (x : Option OO) (S3 : Sto) : Option (Fl × Env × Sto) := match x with
  | some (.lst vs) => (match ixN vs.length n with
    | some x => some (.nx, r, S3.set j (.lst (vs.set x v)))
    | none => none)
  | _ => none
@[simp] theorem hSx_e {v : OV} {j : Nat} {n : Int} {vs : List OV} : hSx v r j n (some (.lst vs)) S = match ixN vs.length n with
    | some x => some (.nx, r, S.set j (.lst (vs.set x v)))
    | none => none := rfl
def hSx1 (r : Env) (v o i : OV) (S3 : Sto) : Option (Fl × Env × Sto) := match o, i with
  | .own j, .dat _ (.int n) => hSx v r j n S3[j]? S3
  | _, _ => none
@[simp] theorem hSx1_e {v : OV} {j : Nat} {n : Int} {b : Bool} : hSx1 r v (.own j) (.dat b (.int n)) S = hSx v r j n S[j]? S := rfl
@[simp] theorem sSetIx_e {fe fo fi : SE} : sSetIx fe fo fi r S = k3 (fe r S) fo fi r (hSx1 r) := by
  rw [← k3_i]
  unfold sSetIx
  congr 1
@[simp] theorem putO_n {f : Str} {v : OV} : putO f v [] = [(f, v)] := rfl
@[simp] theorem putO_c {f a : Str} {v x : OV} {t : List (Str × OV)} : putO f v ((a, x) :: t) = if a = f then (a, v) :: t else (a, x) :: putO f v t := rfl
def hL2 (x : Option OO) (S1 : Sto) : Option (List OV × Sto) := match x with
  | some (.lst vs) => if allNat vs = true then some (vs, S1) else none
  | _ => none
@[simp] theorem hL2_e {vs : List OV} : hL2 (some (.lst vs)) S = if allNat vs = true then some (vs, S) else none := rfl
def hL1 (x : Option (OV × Sto)) (S1 : Sto) : Option (List OV × Sto) := match x with
  | some (.own j, S2) => hL2 S2[j]? S1
  | _ => none
@[simp] theorem hL1_e {j : Nat} {S1 : Sto} : hL1 (some (.own j, S)) S1 = hL2 S[j]? S1 := rfl
def hL (x : Option (List OV)) (sem : Sem2) (S1 : Sto) : Option (List OV × Sto) := match x with
  | some as => hL1 (sem as []) S1
  | none => none
@[simp] theorem hL_e {as : List OV} {sem : Sem2} : hL (some as) sem S = hL1 (sem as []) S := rfl
@[simp] theorem xCallL_e {sem : Sem2} {n : Nat} {fr : SA} : xCallL sem n fr r S = bnd (fr r S) fun as S1 => if as.length = n then hL (argsF S1 as) sem S1 else none := by
  unfold xCallL hL hL1 hL2
  rfl
def hG (x : Option (Bool × List PyData)) (sem : Sem2) (S1 : Sto) : Option (OV × Sto) := match x with
  | some (c, ds) => resF S1 c (sem (ds.map (.dat true)) [])
  | none => none
@[simp] theorem hG_e {c : Bool} {ds : List PyData} {sem : Sem2} : hG (some (c, ds)) sem S = resF S c (sem (ds.map (.dat true)) []) := rfl
@[simp] theorem xCallG_e {sem : Sem2} {n : Nat} {fr : SA} : xCallG sem n fr r S = bnd (fr r S) fun as S1 => if as.length = n then hG (allDat as) sem S1 else none := by
  unfold xCallG hG
  rfl
@[simp] theorem resF_d {c b : Bool} {d : PyData} {S2 : Sto} : resF S c (some (.dat b d, S2)) = some (mkD (b && c) d, S) := rfl
def hR (x : Option OO) (c : Bool) (S1 : Sto) : Option (OV × Sto) := match x with
  | some (.lst vs) => (match allDat vs with
    | some (b, ds) => some (.dat (b && c) (.list ds), S1)
    | none => none)
  | _ => none
@[simp] theorem hR_e {c : Bool} {vs : List OV} : hR (some (.lst vs)) c S = match allDat vs with
    | some (b, ds) => some (.dat (b && c) (.list ds), S)
    | none => none := rfl
@[simp] theorem resF_o {c : Bool} {j : Nat} {S2 : Sto} : resF S c (some (.own j, S2)) = hR S2[j]? c S := rfl
def hLn (x : Option (List Int)) (S1 : Sto) : Option (OV × Sto) := match x with
  | some ns => if ns.Nodup ∧ ns.length ≤ 4000 then some (.dat false (.int (ns.length : Int)), S1) else none
  | none => none
@[simp] theorem hLn_e {ns : List Int} : hLn (some ns) S = if ns.Nodup ∧ ns.length ≤ 4000 then some (.dat false (.int (ns.length : Int)), S) else none := rfl
@[simp] theorem xLenSet_e {fa : SE} : xLenSet fa r S = bnd (fa r S) fun a S1 => hLn (seqInts S1 a) S1 := by
  unfold xLenSet hLn; rfl
end
theorem in_T {α : Type} [DecidableEq α] {a : α} {l : List α} (h : a ∈ l) : decide (a ∈ l) = true := decide_eq_true h
theorem in_F {α : Type} [DecidableEq α] {a : α} {l : List α} (h : a ∉ l) : decide (a ∈ l) = false := decide_eq_false h
@[simp] theorem sh_take : SeqAt.shaped (.str (Str.ofString "take")) = true := by decide +kernel
@[simp] theorem bq_take_off : (Str.ofString "take" == Str.ofString "off") = false := by decide +kernel
@[simp] theorem ne_take_off : (Str.ofString "take" = Str.ofString "off") = False := eq_false (by decide +kernel)
@[simp] theorem bq_take_done : (Str.ofString "take" == Str.ofString "done") = false := by decide +kernel
@[simp] theorem ne_take_done : (Str.ofString "take" = Str.ofString "done") = False := eq_false (by decide +kernel)
@[simp] theorem bq_take_chain : (Str.ofString "take" == Str.ofString "chain") = false := by decide +kernel
@[simp] theorem ne_take_chain : (Str.ofString "take" = Str.ofString "chain") = False := eq_false (by decide +kernel)
@[simp] theorem bq_take_clock : (Str.ofString "take" == Str.ofString "clock") = false := by decide +kernel
@[simp] theorem ne_take_clock : (Str.ofString "take" = Str.ofString "clock") = False := eq_false (by decide +kernel)
@[simp] theorem bq_take_quiet_to : (Str.ofString "take" == Str.ofString "quiet_to") = false := by decide +kernel
@[simp] theorem ne_take_quiet_to : (Str.ofString "take" = Str.ofString "quiet_to") = False := eq_false (by decide +kernel)
@[simp] theorem bq_take_taker : (Str.ofString "take" == Str.ofString "taker") = false := by decide +kernel
@[simp] theorem ne_take_taker : (Str.ofString "take" = Str.ofString "taker") = False := eq_false (by decide +kernel)
@[simp] theorem bq_take_since : (Str.ofString "take" == Str.ofString "since") = false := by decide +kernel
@[simp] theorem ne_take_since : (Str.ofString "take" = Str.ofString "since") = False := eq_false (by decide +kernel)
@[simp] theorem bq_take_over : (Str.ofString "take" == Str.ofString "over") = false := by decide +kernel
@[simp] theorem ne_take_over : (Str.ofString "take" = Str.ofString "over") = False := eq_false (by decide +kernel)
@[simp] theorem bq_take_told : (Str.ofString "take" == Str.ofString "told") = false := by decide +kernel
@[simp] theorem ne_take_told : (Str.ofString "take" = Str.ofString "told") = False := eq_false (by decide +kernel)
@[simp] theorem bq_take_due : (Str.ofString "take" == Str.ofString "due") = false := by decide +kernel
@[simp] theorem ne_take_due : (Str.ofString "take" = Str.ofString "due") = False := eq_false (by decide +kernel)
@[simp] theorem sh_off : SeqAt.shaped (.str (Str.ofString "off")) = true := by decide +kernel
@[simp] theorem bq_off_take : (Str.ofString "off" == Str.ofString "take") = false := by decide +kernel
@[simp] theorem ne_off_take : (Str.ofString "off" = Str.ofString "take") = False := eq_false (by decide +kernel)
@[simp] theorem bq_off_done : (Str.ofString "off" == Str.ofString "done") = false := by decide +kernel
@[simp] theorem ne_off_done : (Str.ofString "off" = Str.ofString "done") = False := eq_false (by decide +kernel)
@[simp] theorem bq_off_chain : (Str.ofString "off" == Str.ofString "chain") = false := by decide +kernel
@[simp] theorem ne_off_chain : (Str.ofString "off" = Str.ofString "chain") = False := eq_false (by decide +kernel)
@[simp] theorem bq_off_clock : (Str.ofString "off" == Str.ofString "clock") = false := by decide +kernel
@[simp] theorem ne_off_clock : (Str.ofString "off" = Str.ofString "clock") = False := eq_false (by decide +kernel)
@[simp] theorem bq_off_quiet_to : (Str.ofString "off" == Str.ofString "quiet_to") = false := by decide +kernel
@[simp] theorem ne_off_quiet_to : (Str.ofString "off" = Str.ofString "quiet_to") = False := eq_false (by decide +kernel)
@[simp] theorem bq_off_taker : (Str.ofString "off" == Str.ofString "taker") = false := by decide +kernel
@[simp] theorem ne_off_taker : (Str.ofString "off" = Str.ofString "taker") = False := eq_false (by decide +kernel)
@[simp] theorem bq_off_since : (Str.ofString "off" == Str.ofString "since") = false := by decide +kernel
@[simp] theorem ne_off_since : (Str.ofString "off" = Str.ofString "since") = False := eq_false (by decide +kernel)
@[simp] theorem bq_off_over : (Str.ofString "off" == Str.ofString "over") = false := by decide +kernel
@[simp] theorem ne_off_over : (Str.ofString "off" = Str.ofString "over") = False := eq_false (by decide +kernel)
@[simp] theorem bq_off_told : (Str.ofString "off" == Str.ofString "told") = false := by decide +kernel
@[simp] theorem ne_off_told : (Str.ofString "off" = Str.ofString "told") = False := eq_false (by decide +kernel)
@[simp] theorem bq_off_due : (Str.ofString "off" == Str.ofString "due") = false := by decide +kernel
@[simp] theorem ne_off_due : (Str.ofString "off" = Str.ofString "due") = False := eq_false (by decide +kernel)
@[simp] theorem sh_done : SeqAt.shaped (.str (Str.ofString "done")) = true := by decide +kernel
@[simp] theorem bq_done_take : (Str.ofString "done" == Str.ofString "take") = false := by decide +kernel
@[simp] theorem ne_done_take : (Str.ofString "done" = Str.ofString "take") = False := eq_false (by decide +kernel)
@[simp] theorem bq_done_off : (Str.ofString "done" == Str.ofString "off") = false := by decide +kernel
@[simp] theorem ne_done_off : (Str.ofString "done" = Str.ofString "off") = False := eq_false (by decide +kernel)
@[simp] theorem bq_done_chain : (Str.ofString "done" == Str.ofString "chain") = false := by decide +kernel
@[simp] theorem ne_done_chain : (Str.ofString "done" = Str.ofString "chain") = False := eq_false (by decide +kernel)
@[simp] theorem bq_done_clock : (Str.ofString "done" == Str.ofString "clock") = false := by decide +kernel
@[simp] theorem ne_done_clock : (Str.ofString "done" = Str.ofString "clock") = False := eq_false (by decide +kernel)
@[simp] theorem bq_done_quiet_to : (Str.ofString "done" == Str.ofString "quiet_to") = false := by decide +kernel
@[simp] theorem ne_done_quiet_to : (Str.ofString "done" = Str.ofString "quiet_to") = False := eq_false (by decide +kernel)
@[simp] theorem bq_done_taker : (Str.ofString "done" == Str.ofString "taker") = false := by decide +kernel
@[simp] theorem ne_done_taker : (Str.ofString "done" = Str.ofString "taker") = False := eq_false (by decide +kernel)
@[simp] theorem bq_done_since : (Str.ofString "done" == Str.ofString "since") = false := by decide +kernel
@[simp] theorem ne_done_since : (Str.ofString "done" = Str.ofString "since") = False := eq_false (by decide +kernel)
@[simp] theorem bq_done_over : (Str.ofString "done" == Str.ofString "over") = false := by decide +kernel
@[simp] theorem ne_done_over : (Str.ofString "done" = Str.ofString "over") = False := eq_false (by decide +kernel)
@[simp] theorem bq_done_told : (Str.ofString "done" == Str.ofString "told") = false := by decide +kernel
@[simp] theorem ne_done_told : (Str.ofString "done" = Str.ofString "told") = False := eq_false (by decide +kernel)
@[simp] theorem bq_done_due : (Str.ofString "done" == Str.ofString "due") = false := by decide +kernel
@[simp] theorem ne_done_due : (Str.ofString "done" = Str.ofString "due") = False := eq_false (by decide +kernel)
@[simp] theorem bq_chain_take : (Str.ofString "chain" == Str.ofString "take") = false := by decide +kernel
@[simp] theorem ne_chain_take : (Str.ofString "chain" = Str.ofString "take") = False := eq_false (by decide +kernel)
@[simp] theorem bq_chain_off : (Str.ofString "chain" == Str.ofString "off") = false := by decide +kernel
@[simp] theorem ne_chain_off : (Str.ofString "chain" = Str.ofString "off") = False := eq_false (by decide +kernel)
@[simp] theorem bq_chain_done : (Str.ofString "chain" == Str.ofString "done") = false := by decide +kernel
@[simp] theorem ne_chain_done : (Str.ofString "chain" = Str.ofString "done") = False := eq_false (by decide +kernel)
@[simp] theorem bq_chain_clock : (Str.ofString "chain" == Str.ofString "clock") = false := by decide +kernel
@[simp] theorem ne_chain_clock : (Str.ofString "chain" = Str.ofString "clock") = False := eq_false (by decide +kernel)
@[simp] theorem bq_chain_quiet_to : (Str.ofString "chain" == Str.ofString "quiet_to") = false := by decide +kernel
@[simp] theorem ne_chain_quiet_to : (Str.ofString "chain" = Str.ofString "quiet_to") = False := eq_false (by decide +kernel)
@[simp] theorem bq_chain_taker : (Str.ofString "chain" == Str.ofString "taker") = false := by decide +kernel
@[simp] theorem ne_chain_taker : (Str.ofString "chain" = Str.ofString "taker") = False := eq_false (by decide +kernel)
@[simp] theorem bq_chain_since : (Str.ofString "chain" == Str.ofString "since") = false := by decide +kernel
@[simp] theorem ne_chain_since : (Str.ofString "chain" = Str.ofString "since") = False := eq_false (by decide +kernel)
@[simp] theorem bq_chain_over : (Str.ofString "chain" == Str.ofString "over") = false := by decide +kernel
@[simp] theorem ne_chain_over : (Str.ofString "chain" = Str.ofString "over") = False := eq_false (by decide +kernel)
@[simp] theorem bq_chain_told : (Str.ofString "chain" == Str.ofString "told") = false := by decide +kernel
@[simp] theorem ne_chain_told : (Str.ofString "chain" = Str.ofString "told") = False := eq_false (by decide +kernel)
@[simp] theorem bq_chain_due : (Str.ofString "chain" == Str.ofString "due") = false := by decide +kernel
@[simp] theorem ne_chain_due : (Str.ofString "chain" = Str.ofString "due") = False := eq_false (by decide +kernel)
@[simp] theorem bq_clock_take : (Str.ofString "clock" == Str.ofString "take") = false := by decide +kernel
@[simp] theorem ne_clock_take : (Str.ofString "clock" = Str.ofString "take") = False := eq_false (by decide +kernel)
@[simp] theorem bq_clock_off : (Str.ofString "clock" == Str.ofString "off") = false := by decide +kernel
@[simp] theorem ne_clock_off : (Str.ofString "clock" = Str.ofString "off") = False := eq_false (by decide +kernel)
@[simp] theorem bq_clock_done : (Str.ofString "clock" == Str.ofString "done") = false := by decide +kernel
@[simp] theorem ne_clock_done : (Str.ofString "clock" = Str.ofString "done") = False := eq_false (by decide +kernel)
@[simp] theorem bq_clock_chain : (Str.ofString "clock" == Str.ofString "chain") = false := by decide +kernel
@[simp] theorem ne_clock_chain : (Str.ofString "clock" = Str.ofString "chain") = False := eq_false (by decide +kernel)
@[simp] theorem bq_clock_quiet_to : (Str.ofString "clock" == Str.ofString "quiet_to") = false := by decide +kernel
@[simp] theorem ne_clock_quiet_to : (Str.ofString "clock" = Str.ofString "quiet_to") = False := eq_false (by decide +kernel)
@[simp] theorem bq_clock_taker : (Str.ofString "clock" == Str.ofString "taker") = false := by decide +kernel
@[simp] theorem ne_clock_taker : (Str.ofString "clock" = Str.ofString "taker") = False := eq_false (by decide +kernel)
@[simp] theorem bq_clock_since : (Str.ofString "clock" == Str.ofString "since") = false := by decide +kernel
@[simp] theorem ne_clock_since : (Str.ofString "clock" = Str.ofString "since") = False := eq_false (by decide +kernel)
@[simp] theorem bq_clock_over : (Str.ofString "clock" == Str.ofString "over") = false := by decide +kernel
@[simp] theorem ne_clock_over : (Str.ofString "clock" = Str.ofString "over") = False := eq_false (by decide +kernel)
@[simp] theorem bq_clock_told : (Str.ofString "clock" == Str.ofString "told") = false := by decide +kernel
@[simp] theorem ne_clock_told : (Str.ofString "clock" = Str.ofString "told") = False := eq_false (by decide +kernel)
@[simp] theorem bq_clock_due : (Str.ofString "clock" == Str.ofString "due") = false := by decide +kernel
@[simp] theorem ne_clock_due : (Str.ofString "clock" = Str.ofString "due") = False := eq_false (by decide +kernel)
@[simp] theorem bq_quiet_to_take : (Str.ofString "quiet_to" == Str.ofString "take") = false := by decide +kernel
@[simp] theorem ne_quiet_to_take : (Str.ofString "quiet_to" = Str.ofString "take") = False := eq_false (by decide +kernel)
@[simp] theorem bq_quiet_to_off : (Str.ofString "quiet_to" == Str.ofString "off") = false := by decide +kernel
@[simp] theorem ne_quiet_to_off : (Str.ofString "quiet_to" = Str.ofString "off") = False := eq_false (by decide +kernel)
@[simp] theorem bq_quiet_to_done : (Str.ofString "quiet_to" == Str.ofString "done") = false := by decide +kernel
@[simp] theorem ne_quiet_to_done : (Str.ofString "quiet_to" = Str.ofString "done") = False := eq_false (by decide +kernel)
@[simp] theorem bq_quiet_to_chain : (Str.ofString "quiet_to" == Str.ofString "chain") = false := by decide +kernel
@[simp] theorem ne_quiet_to_chain : (Str.ofString "quiet_to" = Str.ofString "chain") = False := eq_false (by decide +kernel)
@[simp] theorem bq_quiet_to_clock : (Str.ofString "quiet_to" == Str.ofString "clock") = false := by decide +kernel
@[simp] theorem ne_quiet_to_clock : (Str.ofString "quiet_to" = Str.ofString "clock") = False := eq_false (by decide +kernel)
@[simp] theorem bq_quiet_to_taker : (Str.ofString "quiet_to" == Str.ofString "taker") = false := by decide +kernel
@[simp] theorem ne_quiet_to_taker : (Str.ofString "quiet_to" = Str.ofString "taker") = False := eq_false (by decide +kernel)
@[simp] theorem bq_quiet_to_since : (Str.ofString "quiet_to" == Str.ofString "since") = false := by decide +kernel
@[simp] theorem ne_quiet_to_since : (Str.ofString "quiet_to" = Str.ofString "since") = False := eq_false (by decide +kernel)
@[simp] theorem bq_quiet_to_over : (Str.ofString "quiet_to" == Str.ofString "over") = false := by decide +kernel
@[simp] theorem ne_quiet_to_over : (Str.ofString "quiet_to" = Str.ofString "over") = False := eq_false (by decide +kernel)
@[simp] theorem bq_quiet_to_told : (Str.ofString "quiet_to" == Str.ofString "told") = false := by decide +kernel
@[simp] theorem ne_quiet_to_told : (Str.ofString "quiet_to" = Str.ofString "told") = False := eq_false (by decide +kernel)
@[simp] theorem bq_quiet_to_due : (Str.ofString "quiet_to" == Str.ofString "due") = false := by decide +kernel
@[simp] theorem ne_quiet_to_due : (Str.ofString "quiet_to" = Str.ofString "due") = False := eq_false (by decide +kernel)
@[simp] theorem bq_taker_take : (Str.ofString "taker" == Str.ofString "take") = false := by decide +kernel
@[simp] theorem ne_taker_take : (Str.ofString "taker" = Str.ofString "take") = False := eq_false (by decide +kernel)
@[simp] theorem bq_taker_off : (Str.ofString "taker" == Str.ofString "off") = false := by decide +kernel
@[simp] theorem ne_taker_off : (Str.ofString "taker" = Str.ofString "off") = False := eq_false (by decide +kernel)
@[simp] theorem bq_taker_done : (Str.ofString "taker" == Str.ofString "done") = false := by decide +kernel
@[simp] theorem ne_taker_done : (Str.ofString "taker" = Str.ofString "done") = False := eq_false (by decide +kernel)
@[simp] theorem bq_taker_chain : (Str.ofString "taker" == Str.ofString "chain") = false := by decide +kernel
@[simp] theorem ne_taker_chain : (Str.ofString "taker" = Str.ofString "chain") = False := eq_false (by decide +kernel)
@[simp] theorem bq_taker_clock : (Str.ofString "taker" == Str.ofString "clock") = false := by decide +kernel
@[simp] theorem ne_taker_clock : (Str.ofString "taker" = Str.ofString "clock") = False := eq_false (by decide +kernel)
@[simp] theorem bq_taker_quiet_to : (Str.ofString "taker" == Str.ofString "quiet_to") = false := by decide +kernel
@[simp] theorem ne_taker_quiet_to : (Str.ofString "taker" = Str.ofString "quiet_to") = False := eq_false (by decide +kernel)
@[simp] theorem bq_taker_since : (Str.ofString "taker" == Str.ofString "since") = false := by decide +kernel
@[simp] theorem ne_taker_since : (Str.ofString "taker" = Str.ofString "since") = False := eq_false (by decide +kernel)
@[simp] theorem bq_taker_over : (Str.ofString "taker" == Str.ofString "over") = false := by decide +kernel
@[simp] theorem ne_taker_over : (Str.ofString "taker" = Str.ofString "over") = False := eq_false (by decide +kernel)
@[simp] theorem bq_taker_told : (Str.ofString "taker" == Str.ofString "told") = false := by decide +kernel
@[simp] theorem ne_taker_told : (Str.ofString "taker" = Str.ofString "told") = False := eq_false (by decide +kernel)
@[simp] theorem bq_taker_due : (Str.ofString "taker" == Str.ofString "due") = false := by decide +kernel
@[simp] theorem ne_taker_due : (Str.ofString "taker" = Str.ofString "due") = False := eq_false (by decide +kernel)
@[simp] theorem bq_since_take : (Str.ofString "since" == Str.ofString "take") = false := by decide +kernel
@[simp] theorem ne_since_take : (Str.ofString "since" = Str.ofString "take") = False := eq_false (by decide +kernel)
@[simp] theorem bq_since_off : (Str.ofString "since" == Str.ofString "off") = false := by decide +kernel
@[simp] theorem ne_since_off : (Str.ofString "since" = Str.ofString "off") = False := eq_false (by decide +kernel)
@[simp] theorem bq_since_done : (Str.ofString "since" == Str.ofString "done") = false := by decide +kernel
@[simp] theorem ne_since_done : (Str.ofString "since" = Str.ofString "done") = False := eq_false (by decide +kernel)
@[simp] theorem bq_since_chain : (Str.ofString "since" == Str.ofString "chain") = false := by decide +kernel
@[simp] theorem ne_since_chain : (Str.ofString "since" = Str.ofString "chain") = False := eq_false (by decide +kernel)
@[simp] theorem bq_since_clock : (Str.ofString "since" == Str.ofString "clock") = false := by decide +kernel
@[simp] theorem ne_since_clock : (Str.ofString "since" = Str.ofString "clock") = False := eq_false (by decide +kernel)
@[simp] theorem bq_since_quiet_to : (Str.ofString "since" == Str.ofString "quiet_to") = false := by decide +kernel
@[simp] theorem ne_since_quiet_to : (Str.ofString "since" = Str.ofString "quiet_to") = False := eq_false (by decide +kernel)
@[simp] theorem bq_since_taker : (Str.ofString "since" == Str.ofString "taker") = false := by decide +kernel
@[simp] theorem ne_since_taker : (Str.ofString "since" = Str.ofString "taker") = False := eq_false (by decide +kernel)
@[simp] theorem bq_since_over : (Str.ofString "since" == Str.ofString "over") = false := by decide +kernel
@[simp] theorem ne_since_over : (Str.ofString "since" = Str.ofString "over") = False := eq_false (by decide +kernel)
@[simp] theorem bq_since_told : (Str.ofString "since" == Str.ofString "told") = false := by decide +kernel
@[simp] theorem ne_since_told : (Str.ofString "since" = Str.ofString "told") = False := eq_false (by decide +kernel)
@[simp] theorem bq_since_due : (Str.ofString "since" == Str.ofString "due") = false := by decide +kernel
@[simp] theorem ne_since_due : (Str.ofString "since" = Str.ofString "due") = False := eq_false (by decide +kernel)
@[simp] theorem bq_over_take : (Str.ofString "over" == Str.ofString "take") = false := by decide +kernel
@[simp] theorem ne_over_take : (Str.ofString "over" = Str.ofString "take") = False := eq_false (by decide +kernel)
@[simp] theorem bq_over_off : (Str.ofString "over" == Str.ofString "off") = false := by decide +kernel
@[simp] theorem ne_over_off : (Str.ofString "over" = Str.ofString "off") = False := eq_false (by decide +kernel)
@[simp] theorem bq_over_done : (Str.ofString "over" == Str.ofString "done") = false := by decide +kernel
@[simp] theorem ne_over_done : (Str.ofString "over" = Str.ofString "done") = False := eq_false (by decide +kernel)
@[simp] theorem bq_over_chain : (Str.ofString "over" == Str.ofString "chain") = false := by decide +kernel
@[simp] theorem ne_over_chain : (Str.ofString "over" = Str.ofString "chain") = False := eq_false (by decide +kernel)
@[simp] theorem bq_over_clock : (Str.ofString "over" == Str.ofString "clock") = false := by decide +kernel
@[simp] theorem ne_over_clock : (Str.ofString "over" = Str.ofString "clock") = False := eq_false (by decide +kernel)
@[simp] theorem bq_over_quiet_to : (Str.ofString "over" == Str.ofString "quiet_to") = false := by decide +kernel
@[simp] theorem ne_over_quiet_to : (Str.ofString "over" = Str.ofString "quiet_to") = False := eq_false (by decide +kernel)
@[simp] theorem bq_over_taker : (Str.ofString "over" == Str.ofString "taker") = false := by decide +kernel
@[simp] theorem ne_over_taker : (Str.ofString "over" = Str.ofString "taker") = False := eq_false (by decide +kernel)
@[simp] theorem bq_over_since : (Str.ofString "over" == Str.ofString "since") = false := by decide +kernel
@[simp] theorem ne_over_since : (Str.ofString "over" = Str.ofString "since") = False := eq_false (by decide +kernel)
@[simp] theorem bq_over_told : (Str.ofString "over" == Str.ofString "told") = false := by decide +kernel
@[simp] theorem ne_over_told : (Str.ofString "over" = Str.ofString "told") = False := eq_false (by decide +kernel)
@[simp] theorem bq_over_due : (Str.ofString "over" == Str.ofString "due") = false := by decide +kernel
@[simp] theorem ne_over_due : (Str.ofString "over" = Str.ofString "due") = False := eq_false (by decide +kernel)
@[simp] theorem bq_told_take : (Str.ofString "told" == Str.ofString "take") = false := by decide +kernel
@[simp] theorem ne_told_take : (Str.ofString "told" = Str.ofString "take") = False := eq_false (by decide +kernel)
@[simp] theorem bq_told_off : (Str.ofString "told" == Str.ofString "off") = false := by decide +kernel
@[simp] theorem ne_told_off : (Str.ofString "told" = Str.ofString "off") = False := eq_false (by decide +kernel)
@[simp] theorem bq_told_done : (Str.ofString "told" == Str.ofString "done") = false := by decide +kernel
@[simp] theorem ne_told_done : (Str.ofString "told" = Str.ofString "done") = False := eq_false (by decide +kernel)
@[simp] theorem bq_told_chain : (Str.ofString "told" == Str.ofString "chain") = false := by decide +kernel
@[simp] theorem ne_told_chain : (Str.ofString "told" = Str.ofString "chain") = False := eq_false (by decide +kernel)
@[simp] theorem bq_told_clock : (Str.ofString "told" == Str.ofString "clock") = false := by decide +kernel
@[simp] theorem ne_told_clock : (Str.ofString "told" = Str.ofString "clock") = False := eq_false (by decide +kernel)
@[simp] theorem bq_told_quiet_to : (Str.ofString "told" == Str.ofString "quiet_to") = false := by decide +kernel
@[simp] theorem ne_told_quiet_to : (Str.ofString "told" = Str.ofString "quiet_to") = False := eq_false (by decide +kernel)
@[simp] theorem bq_told_taker : (Str.ofString "told" == Str.ofString "taker") = false := by decide +kernel
@[simp] theorem ne_told_taker : (Str.ofString "told" = Str.ofString "taker") = False := eq_false (by decide +kernel)
@[simp] theorem bq_told_since : (Str.ofString "told" == Str.ofString "since") = false := by decide +kernel
@[simp] theorem ne_told_since : (Str.ofString "told" = Str.ofString "since") = False := eq_false (by decide +kernel)
@[simp] theorem bq_told_over : (Str.ofString "told" == Str.ofString "over") = false := by decide +kernel
@[simp] theorem ne_told_over : (Str.ofString "told" = Str.ofString "over") = False := eq_false (by decide +kernel)
@[simp] theorem bq_told_due : (Str.ofString "told" == Str.ofString "due") = false := by decide +kernel
@[simp] theorem ne_told_due : (Str.ofString "told" = Str.ofString "due") = False := eq_false (by decide +kernel)
@[simp] theorem bq_due_take : (Str.ofString "due" == Str.ofString "take") = false := by decide +kernel
@[simp] theorem ne_due_take : (Str.ofString "due" = Str.ofString "take") = False := eq_false (by decide +kernel)
@[simp] theorem bq_due_off : (Str.ofString "due" == Str.ofString "off") = false := by decide +kernel
@[simp] theorem ne_due_off : (Str.ofString "due" = Str.ofString "off") = False := eq_false (by decide +kernel)
@[simp] theorem bq_due_done : (Str.ofString "due" == Str.ofString "done") = false := by decide +kernel
@[simp] theorem ne_due_done : (Str.ofString "due" = Str.ofString "done") = False := eq_false (by decide +kernel)
@[simp] theorem bq_due_chain : (Str.ofString "due" == Str.ofString "chain") = false := by decide +kernel
@[simp] theorem ne_due_chain : (Str.ofString "due" = Str.ofString "chain") = False := eq_false (by decide +kernel)
@[simp] theorem bq_due_clock : (Str.ofString "due" == Str.ofString "clock") = false := by decide +kernel
@[simp] theorem ne_due_clock : (Str.ofString "due" = Str.ofString "clock") = False := eq_false (by decide +kernel)
@[simp] theorem bq_due_quiet_to : (Str.ofString "due" == Str.ofString "quiet_to") = false := by decide +kernel
@[simp] theorem ne_due_quiet_to : (Str.ofString "due" = Str.ofString "quiet_to") = False := eq_false (by decide +kernel)
@[simp] theorem bq_due_taker : (Str.ofString "due" == Str.ofString "taker") = false := by decide +kernel
@[simp] theorem ne_due_taker : (Str.ofString "due" = Str.ofString "taker") = False := eq_false (by decide +kernel)
@[simp] theorem bq_due_since : (Str.ofString "due" == Str.ofString "since") = false := by decide +kernel
@[simp] theorem ne_due_since : (Str.ofString "due" = Str.ofString "since") = False := eq_false (by decide +kernel)
@[simp] theorem bq_due_over : (Str.ofString "due" == Str.ofString "over") = false := by decide +kernel
@[simp] theorem ne_due_over : (Str.ofString "due" = Str.ofString "over") = False := eq_false (by decide +kernel)
@[simp] theorem bq_due_told : (Str.ofString "due" == Str.ofString "told") = false := by decide +kernel
@[simp] theorem ne_due_told : (Str.ofString "due" = Str.ofString "told") = False := eq_false (by decide +kernel)
/-- what may be asked for being the same -/
theorem canLayAll_map {α : Type} (f : α → PyData) (xs : List α) (h : ∀ x, (f x).canLay0 = true) : PyData.canLayAll0 (xs.map f) = true := by
  induction xs with
  | nil => rfl
  | cons x xs ih => simp [PyData.canLayAll0, h x, ih]
theorem depthAll_map {α : Type} (f : α → PyData) (n : Nat) (xs : List α) (h : ∀ x, (f x).depth ≤ n) : PyData.depthAll (xs.map f) ≤ n := by
  induction xs with
  | nil => simp [PyData.depthAll]
  | cons x xs ih => simp only [List.map_cons, PyData.depthAll]; exact Nat.max_le.mpr ⟨h x, ih⟩
structure Lays (n : Nat) (d : PyData) : Prop where
  lay : d.canLay0 = true
  dep : d.depth ≤ n
theorem Lays.shaped {n : Nat} {d : PyData} (h : Lays n d) (hn : n ≤ 64) : SeqAt.shaped d = true := by
  unfold SeqAt.shaped
  rw [h.lay, Bool.true_and]
  exact decide_eq_true (Nat.le_trans h.dep hn)
theorem Lays.list {α : Type} {n : Nat} (f : α → PyData) (xs : List α) (h : ∀ x, Lays n (f x)) : Lays (n + 1) (.list (xs.map f)) :=
  ⟨by rw [PyData.canLay0]; exact canLayAll_map f xs fun x => (h x).lay, by rw [PyData.depth]; exact Nat.succ_le_succ (depthAll_map f n xs fun x => (h x).dep)⟩
theorem Lays.int (i : Int) : Lays 0 (.int i) := ⟨rfl, Nat.le_refl _⟩
theorem Lays.ints (ns : List Int) : Lays 1 (.list (ns.map .int)) := Lays.list _ _ Lays.int
theorem Lays.wd (w : Wd) : Lays 1 (eWd w) := by
  have h1 : (Str.ofString "take" |> PyData.str).canLay0 = true := by decide +kernel
  have h2 : (Str.ofString "off" |> PyData.str).canLay0 = true := by decide +kernel
  have h3 : (Str.ofString "done" |> PyData.str).canLay0 = true := by decide +kernel
  cases w <;> exact ⟨by simp [eWd, PyData.canLay0, PyData.canLayAll0] at *; assumption, by simp [eWd, PyData.depth, PyData.depthAll]⟩
theorem Lays.pr (p : Int × Int) : Lays 1 (ePr p) := ⟨by simp [ePr, PyData.canLay0, PyData.canLayAll0], by simp [ePr, PyData.depth, PyData.depthAll]⟩
theorem Lays.lev (l : Lev) : Lays 2 (eLev l) := by
  have h := Lays.ints l.1
  refine ⟨?_, ?_⟩
  · have := h.lay
    simp only [eLev, PyData.canLay0, PyData.canLayAll0, Bool.and_true] at this ⊢
    exact this
  · have := h.dep
    rw [PyData.depth] at this
    simp only [eLev, PyData.depth, PyData.depthAll]
    omega
@[simp] theorem sh_ints (ns : List Int) : SeqAt.shaped (.list (ns.map .int)) = true := (Lays.ints ns).shaped (by omega)
@[simp] theorem sh_intc (n : Int) (ns : List Int) : SeqAt.shaped (.list (.int n :: ns.map .int)) = true := sh_ints (n :: ns)
@[simp] theorem sh_wds (ws : List Wd) : SeqAt.shaped (.list (ws.map eWd)) = true := (Lays.list _ ws Lays.wd).shaped (by omega)
@[simp] theorem sh_prs (ps : List (Int × Int)) : SeqAt.shaped (.list (ps.map ePr)) = true := (Lays.list _ ps Lays.pr).shaped (by omega)
@[simp] theorem sh_levs (c : List Lev) : SeqAt.shaped (.list (c.map eLev)) = true := (Lays.list _ c Lays.lev).shaped (by omega)
@[simp] theorem eqv_mn {α : Type} (f : α → PyData) (xs : List α) : PyData.eqvAll (xs.map f) [] = xs.isEmpty := by cases xs <;> simp
theorem Lays.same {n : Nat} {d : PyData} (h : Lays n d) : PyData.eqv d d = true := SeqAt.eqv_refl d h.lay
theorem kSeq_to (r : Env) (S : Sto) {x : Option (Fl × Env × Sto)} {f : SS} (h : x = some (.nx, r, S)) : kSeq x f = f r S := by rw [h]; rfl
theorem forL_ex {bd : OV → SS} {α β : Type} (E : β → Env) (T : β → Sto) (P : Nat → β → Prop) (en : α → OV) : ∀ (xs : List α) (n : Nat) (a : β), P n a →
    (∀ i a x, xs[i]? = some x → P (n + i) a → ∃ a', bd (en x) (E a) (T a) = some (.nx, E a', T a') ∧ P (n + i + 1) a') →
    ∃ a', forL bd (fun _ => True) (xs.map en) (E a) (T a) = some (.nx, E a', T a') ∧ P (n + xs.length) a'
  | [], n, a, h0, _ => ⟨a, by simp, h0⟩
  | x :: xs, n, a, h0, h => by
    obtain ⟨a1, h1, h2⟩ := h 0 a x rfl h0
    obtain ⟨a2, h3, h4⟩ := forL_ex E T P en xs (n + 1) a1 h2 fun i a y hy => by
      have := h (i + 1) a y (by simpa using hy)
      rw [show n + 1 + i = n + (i + 1) by omega]
      exact this
    refine ⟨a2, ?_, by rw [List.length_cons, show n + (xs.length + 1) = n + 1 + xs.length by omega]; exact h4⟩
    rw [List.map_cons, forL_c, h1, kFor_nx]
    exact h3
theorem turn_ex {α : Type} (r : α → Env) (S : Sto) {x : Option (Fl × Env × Sto)} {f : SS} {ws : List Nat} {R : Option (Fl × Env × Sto)} (h : ∃ q, x = some (.nx, r q, S)) (k : ∀ q, kTurn (f (r q) S) ws = R) : kTurn (kSeq x f) ws = R := by
  obtain ⟨q, rfl⟩ := h
  exact k q
section
variable {S : Sto}
def hIsi (T : String) (x : Option OO) (S : Sto) : Option (OV × Sto) := match x with
  | some (.lst _) => kIsi (kitB "list" T) S
  | some (.tup _) => kIsi (kitB "tuple" T) S
  | _ => none
@[simp] theorem hIsi_l {T : String} {vs : List OV} : hIsi T (some (.lst vs)) S = kIsi (kitB "list" T) S := rfl
@[simp] theorem hIsi_t {T : String} {vs : List OV} : hIsi T (some (.tup vs)) S = kIsi (kitB "tuple" T) S := rfl
@[simp] theorem oIsi_own {T : String} {i : Nat} : oIsi T [.own i] S = hIsi T S[i]? S := by
  show (match S[i]? with | some (.lst _) => kIsi (kitB "list" T) S | some (.tup _) => kIsi (kitB "tuple" T) S | _ => none) = _
  rfl
def hRd (n : Nat) (S : Sto) (x : Option OO) : Option PyData := match x with
  | some (.lst vs) => (rdL (rd n S) vs).map .list
  | some (.tup vs) => (rdL (rd n S) vs).map .tuple
  | _ => none
@[simp] theorem hRd_l {n : Nat} {vs : List OV} : hRd n S (some (.lst vs)) = (rdL (rd n S) vs).map .list := rfl
@[simp] theorem hRd_t {n : Nat} {vs : List OV} : hRd n S (some (.tup vs)) = (rdL (rd n S) vs).map .tuple := rfl
theorem rd_ownh {n i : Nat} : rd (n + 1) S (.own i) = hRd n S S[i]? := by
  rw [rd]; unfold hRd
  rcases S[i]? with _ | ⟨vs | vs | ⟨c, fs⟩ | fs⟩ <;> rfl
@[simp] theorem rd_own6 {i : Nat} : rd 6 S (.own i) = hRd 5 S S[i]? := rd_ownh
@[simp] theorem rd_own5 {i : Nat} : rd 5 S (.own i) = hRd 4 S S[i]? := rd_ownh
@[simp] theorem rd_own4 {i : Nat} : rd 4 S (.own i) = hRd 3 S S[i]? := rd_ownh
@[simp] theorem rdL_n {f : OV → Option PyData} : rdL f [] = some [] := rfl
def hRc (x : Option PyData) (y : Option (List PyData)) : Option (List PyData) := match x with
  | some d => (match y with
    | some ds => some (d :: ds)
    | none => none)
  | none => none
@[simp] theorem hRc_e {d : PyData} {ds : List PyData} : hRc (some d) (some ds) = some (d :: ds) := rfl
@[simp] theorem rdL_c {f : OV → Option PyData} {v : OV} {vs : List OV} : rdL f (v :: vs) = hRc (f v) (rdL f vs) := by
  rw [rdL]; unfold hRc; rfl
theorem rdL_map {α : Type} {n : Nat} (b : Bool) (f : α → PyData) : ∀ xs : List α, rdL (rd n S) (xs.map fun x => .dat b (f x)) = some (xs.map f)
  | [] => rfl
  | x :: xs => by rw [List.map_cons, rdL_c, rd_dat, rdL_map b f xs]; rfl
@[simp] theorem rdL_mapf {α : Type} {n : Nat} (f : α → PyData) (xs : List α) : rdL (rd n S) (xs.map fun x => .dat false (f x)) = some (xs.map f) := rdL_map false f xs
end
theorem eqvAll_same {α : Type} (f : α → PyData) (h : ∀ x, PyData.eqv (f x) (f x) = true) : ∀ xs : List α, PyData.eqvAll (xs.map f) (xs.map f) = true
  | [] => by simp
  | x :: xs => by rw [List.map_cons, eqv_cc, h, eqvAll_same f h xs]; rfl
@[simp] theorem eqv_levs (c : List Lev) : PyData.eqvAll (c.map eLev) (c.map eLev) = true := eqvAll_same _ (fun l => (Lays.lev l).same) c
@[simp] theorem eqv_wds (c : List Wd) : PyData.eqvAll (c.map eWd) (c.map eWd) = true := eqvAll_same _ (fun l => (Lays.wd l).same) c
@[simp] theorem eqv_prs (c : List (Int × Int)) : PyData.eqvAll (c.map ePr) (c.map ePr) = true := eqvAll_same _ (fun l => (Lays.pr l).same) c
@[simp] theorem sh_two (c : List Lev) (ws : List Wd) : SeqAt.shaped (.list [.list (c.map eLev), .list (ws.map eWd)]) = true := by
  have h1 := Lays.list eLev c Lays.lev
  have h2 := Lays.list eWd ws Lays.wd
  have : Lays 4 (.list [.list (c.map eLev), .list (ws.map eWd)]) := by
    refine ⟨?_, ?_⟩
    · simp [PyData.canLay0, PyData.canLayAll0] at *
      have a := h1.lay; have b := h2.lay
      rw [PyData.canLay0] at a b
      exact ⟨a, b⟩
    · have a := h1.dep; have b := h2.dep
      rw [PyData.depth] at a b
      simp only [PyData.depth, PyData.depthAll]
      omega
  exact this.shaped (by omega)
/-- what a call gives, whatever it leaves behind -/
def Gives (x : Option (OV × Sto)) (v : OV) : Prop := ∃ S', x = some (v, S')
@[simp] theorem gives_i {v : OV} {S : Sto} : Gives (some (v, S)) v = True := eq_true ⟨S, rfl⟩
theorem Gives.f {x : Option (OV × Sto)} {d : PyData} {S : Sto} (h : Gives x (.dat false d)) : kF (natD x) S = some (.dat false d, S) := by
  obtain ⟨S', rfl⟩ := h
  rfl
@[simp] theorem rng2 : List.range 2 = [0, 1] := rfl
theorem flatMap_len {α β : Type} (f : α → List β) (k : Nat) : ∀ xs : List α, (∀ x ∈ xs, (f x).length ≤ k) → (xs.flatMap f).length ≤ k * xs.length
  | [], _ => by simp
  | x :: xs, h => by
    have h1 := h x List.mem_cons_self
    have h2 := flatMap_len f k xs fun y hy => h y (List.mem_cons_of_mem _ hy)
    simp only [List.flatMap_cons, List.length_append, List.length_cons, Nat.mul_add, Nat.mul_one]
    omega
theorem oIntC_w {h : Int → Int → Int} {b c : Bool} {i j : Int} {S : Sto} (h1 : i.natAbs < 2 ^ 200) (h2 : j.natAbs < 2 ^ 200) : oIntC mulW h (.dat b (.int i)) (.dat c (.int j)) S = some (.dat false (.int (h i j)), S) :=
  oIntC_p ⟨Nat.lt_of_lt_of_le h1 (Nat.pow_le_pow_right (by omega) (by omega)), Nat.lt_of_lt_of_le h2 (Nat.pow_le_pow_right (by omega) (by omega))⟩
theorem abs_mul_lt {i j : Int} {a b : Nat} (h1 : i.natAbs ≤ a) (h2 : j.natAbs ≤ b) : (i * j).natAbs ≤ a * b := by
  rw [Int.natAbs_mul]; exact Nat.mul_le_mul h1 h2
theorem Gives.k {x : Option (OV × Sto)} {v : OV} {S : Sto} (h : Gives x v) : kF x S = some (v, S) := by
  obtain ⟨S', rfl⟩ := h
  rfl
theorem Gives.n {x : Option (OV × Sto)} {d : PyData} (h : Gives x (.dat false d)) : Gives (natD x) (.dat false d) := by
  obtain ⟨S', rfl⟩ := h
  exact ⟨S', rfl⟩
@[simp] theorem allDat_take {α : Type} (f : α → PyData) (xs : List α) (n : Nat) : allDat ((xs.map fun x => .dat false (f x)).take n) = some (false, (xs.map f).take n) := by
  rw [← List.map_take, allDat_f, List.map_take]
@[simp] theorem allDat_drop {α : Type} (f : α → PyData) (xs : List α) (n : Nat) : allDat ((xs.map fun x => .dat false (f x)).drop n) = some (false, (xs.map f).drop n) := by
  rw [← List.map_drop, allDat_f, List.map_drop]
@[simp] theorem seqInts_take {S : Sto} {b : Bool} (ns : List Int) (n : Nat) : seqInts S (.dat b (.list ((ns.map .int).take n))) = some (ns.take n) := by
  rw [← List.map_take]; exact seqInts_is _
@[simp] theorem seqInts_drop {S : Sto} {b : Bool} (ns : List Int) (n : Nat) : seqInts S (.dat b (.list ((ns.map .int).drop n))) = some (ns.drop n) := by
  rw [← List.map_drop]; exact seqInts_is _
theorem forL_g {bd : OV → SS} {gd : Sto → Prop} {x : OV} {xs : List OV} {r : Env} {S : Sto} : forL bd gd (x :: xs) r S = chk (gd S) (kFor (bd x r S) (forL bd gd xs)) := by
  rw [forL]
  unfold kFor
  rfl
theorem forL_gn {bd : OV → SS} {gd : Sto → Prop} {r : Env} {S : Sto} : forL bd gd [] r S = chk (gd S) (some (.nx, r, S)) := by rw [forL]
@[simp] theorem gdOf_o {i : Nat} {vs : List OV} : gdOf (.own i) vs = fun S => S[i]? = some (.lst vs) := rfl
def hIt (x : Option OO) : Option (List OV) := match x with
  | some (.lst vs) => some vs
  | _ => none
@[simp] theorem hIt_e {vs : List OV} : hIt (some (.lst vs)) = some vs := rfl
@[simp] theorem lstItems_o {S : Sto} {i : Nat} : lstItems S (.own i) = hIt S[i]? := rfl
@[simp] theorem seqItems_o {S : Sto} {i : Nat} : seqItems S (.own i) = hIt S[i]? := rfl
@[simp] theorem rd_scr6 {S : Sto} {ns : List Int} : rd 6 S (.scr ns) = some (.list (ns.map .int)) := by simp [rd]
@[simp] theorem argF_s {S : Sto} {ns : List Int} : argF S (.scr ns) = some (.scr ns) := rfl
end Nc
set_option Elab.async false
set_option linter.all false
set_option maxRecDepth 100000
set_option maxHeartbeats 1000000
namespace Nc
open PySem PySem.Spec PyProof.Rows L2
/-! ### what isinstance says of an object of an own class -/
abbrev KT := List (Str × Str × Bool)
/-- a class that is made by object's own __init__ -/
def mk0B (K : PySem.W.Frag) (c : Str) : Bool := PySem.W.makesIn K (He.ga K c) && (He.eqO (PySem.W.findIn K (.ref (He.ga K c)) "__init__") (some (some (.builtin "object.__init__"))) && PySem.W.keepIn K (.ref (He.ga K c)))
def ktB (K : PySem.W.Frag) (q : Str × Str × Bool) : Bool := if (q.2.1 == "") = true then mk0B K q.1 else
  (He.Fa.cls q.1).ok K && (He.eqO (PySem.W.findIn K (.ref (He.ga K q.1)) "__class__") (some (some (.builtin "object.__class__"))) && (He.eqO (PySem.W.specialIn K (.builtin "object.__class__") "__get__") (some (some (.builtin "getset_descriptor.__get__"))) &&
    (decide (PySem.W.takesIn K (.builtin "object.__class__") = some true) && (decide (PySem.W.mroIn K (He.ga K q.1) (.type "object") = some true) && decide (PySem.W.kitOne K (.ref (He.ga K q.1)) (.ref (He.ga K q.2.1)) = some q.2.2)))))
def obsN (fa : List He.Fa) (fn : List He.DefD) (kt : KT) (K : PySem.W.Frag) : He.AlD × Bool := (He.obsD fa fn K, kt.all (ktB K))
def obsNG (n : Nat) (fa : List He.Fa) (fn : List He.DefD) (kt : KT) (g : Addr → Option Obj) : He.AlD × Bool := obsN fa fn kt (He.frG g (He.asD g n))
def hookN (n : Nat) (fa : List He.Fa) (fn : List He.DefD) (kt : KT) : PySem.W.Hook where
  α := He.AlD × Bool
  obs := fun s => obsNG n fa fn kt s.heap.get?
  val := fun _ => (He.valD fn, true)
  says := fun _ h => ∃ K : PySem.W.Frag, K.In h ∧ He.SaysD fa fn K ∧ kt.all (ktB K) = true
  of := fun _ _ e => ⟨_, He.frG_in, congrArg Prod.fst e, congrArg Prod.snd e⟩
  keeps := fun _ _ _ ⟨K, hK, c, d⟩ k => ⟨K, PySem.W.Frag.In.keeps hK k, c, d⟩
theorem obsNG_eq {n : Nat} {fa : List He.Fa} {fn : List He.DefD} {kt : KT} {g : Addr → Option Obj} {s : Shared} (h : ∀ a, g a = s.heap.get? a) : obsNG n fa fn kt g = (hookN n fa fn kt).obs s := by
  rw [show g = s.heap.get? from funext h]
  rfl
def xIsiO (kt : KT) (T : Str) (fa : SE) : SE := fun ρ S => bnd (fa ρ S) fun a S1 => match a with
  | .own i => (match S1[i]? with
    | some (.ins c _) => (match kt.find? fun q => q.1 == c && q.2.1 == T with
      | some q => some (.dat false (.bool q.2.2), S1)
      | none => none)
    | _ => none)
  | _ => none
theorem sm_isiO {K : PySem.W.Frag} {kt : KT} {T : Str} {ta : TE} {fa : SE} (hk : kt.all (ktB K) = true) (ha : SmE K ta fa) (hT : (T == "") = false := by decide +kernel) : SmE K (tCB (rIsi K) (tCons ta (tCons (tC (.ref (He.ga K T))) tNil))) (xIsiO kt T fa) := ⟨fun {g ρ σ H S m z S'} I E e Q k => by
  have e0 := bnd_some e; clear e; obtain ⟨a, S1, e1, e⟩ := e0
  refine ha.run I E e1 _ fun x H1 m1 k1 I1 r1 => ?_
  split at e
  · split at e
    · rename_i c fs hs
      split at e
      · rename_i q hq
        cases e
        obtain ⟨p, dx, ws, hp, rfl, h2, h4⟩ := ins_at I1 r1 hs
        have hq1 := List.find?_some hq
        have hq2 := List.all_eq_true.mp hk q (List.mem_of_find?_eq_some hq)
        simp only [Bool.and_eq_true, beq_iff_eq] at hq1
        obtain ⟨rfl, rfl⟩ := hq1
        unfold ktB at hq2
        rw [if_neg (by rw [hT]; decide)] at hq2
        simp only [Bool.and_eq_true, decide_eq_true_eq] at hq2
        obtain ⟨g1, g2, g3, g4, g5, g6⟩ := hq2
        exact ⟨_, _, _, _, q.2.2, rfl, .own _, .base (.ins h2 (He.cls_ok g1) (He.eqO_ok g2) (He.eqO_ok g3) g4 g5), g6, k _ H1 m1 k1 I1 VR.ofBool⟩
      · cases e
    · cases e
  · cases e⟩
/-! ### data in a tuple of data -/
def rInTD (K : PySem.W.Frag) (neg : Bool) : R2 := fun x y H Q => ∃ d ds, Dp K H x d ∧ Dp K H y (.tuple ds) ∧ SeqAt.shaped d = true ∧ SeqAt.shaped (.list ds) = true ∧ Q (.bl (if neg then !ds.any (fun z => PyData.eqv z d) else ds.any fun z => PyData.eqv z d)) H
theorem op_inTD {X : Cx} (hu : X.A.units + 65 < cLine) : OpR X (compareOp .In) (rInTD X.K false) := by
  intro pins s σ H x y v u Q I rx ry h
  obtain ⟨d, ds, hd, he, sd, se, q⟩ := h
  obtain ⟨as, r1⟩ := Dp.reads I d x v hd rx
  obtain ⟨bs, r2⟩ := Dp.reads I (.tuple ds) y u he ry
  exact SeqAt.in_tuple_reads r2 r1 (SeqAt.canLay_of_shaped se) (SeqAt.canLay_of_shaped sd) (room_in_shaped sd hu) ⟨.bl _, H, I, rfl, q⟩
theorem op_notInTD {X : Cx} (hu : X.A.units + 65 < cLine) : OpR X (compareOp .NotIn) (rInTD X.K true) := by
  intro pins s σ H x y v u Q I rx ry h
  obtain ⟨d, ds, hd, he, sd, se, q⟩ := h
  obtain ⟨as, r1⟩ := Dp.reads I d x v hd rx
  obtain ⟨bs, r2⟩ := Dp.reads I (.tuple ds) y u he ry
  exact SeqAt.notIn_tuple_reads r2 r1 (SeqAt.canLay_of_shaped se) (SeqAt.canLay_of_shaped sd) (room_in_shaped sd hu) ⟨.bl _, H, I, rfl, q⟩
def oInTD (neg : Bool) : O2 := fun a b S => match rd 6 S a, rd 6 S b with
  | some d, some (.tuple ds) => if SeqAt.shaped d = true ∧ SeqAt.shaped (.list ds) = true then some (.dat false (.bool (if neg then !ds.any (fun z => PyData.eqv z d) else ds.any fun z => PyData.eqv z d)), S) else none
  | _, _ => none
theorem r2_inTD {K : PySem.W.Frag} {neg : Bool} : R2S K (rInTD K neg) (oInTD neg) := ⟨fun {g H S m a b z x y S'} I ra rb e Q k => by
  unfold oInTD at e
  split at e
  · rename_i d ds h1 h2
    split at e
    · rename_i h3
      cases e
      exact ⟨d, ds, rd_dp I ra h1, rd_dp I rb h2, h3.1, h3.2, k _ H m Go.refl I VR.ofBool⟩
    · cases e
  · cases e⟩
/-! ### an object of a class without an __init__ of its own -/
section
variable {X : Cx} {C : Addr} {x : Str} {p pos : Pos}
structure Mk0 (K : PySem.W.Frag) (C : Addr) : Prop where
  makes : PySem.W.makesIn K C = true
  init : PySem.W.findIn K (.ref C) "__init__" = some (some (.builtin "object.__init__"))
  kp : PySem.W.keepIn K (.ref C) = true
theorem mk0_of {K : PySem.W.Frag} {kt : KT} {c : Str} {b : Bool} (hk : kt.all (ktB K) = true) (hc : (c, Str.ofString "", b) ∈ kt) : Mk0 K (He.ga K c) := by
  have h := List.all_eq_true.mp hk _ hc
  unfold ktB at h
  rw [if_pos (beq_self_eq_true _)] at h
  unfold mk0B at h
  simp only [Bool.and_eq_true] at h
  exact ⟨h.1, He.eqO_ok h.2.1, h.2.2⟩
theorem run_makeN {pins : List (Addr × Obj)} {σ : L2.St} {H : Hp} {s : Shared} {Q : VK} (M : Mk0 X.K C) (I : Inv X pins σ H s)
    (h : ∀ x dx, H x = none → H dx = none → dx ≠ x → Q (.ref x) (upd (upd H dx (.own x)) x (.ins C dx []))) :
    wpAny (model X.prog X.w) X.A (call (.ref C) []) (EP X pins σ Q) X.xe s := by
  have hq := h (s.heap.objs.size + 1) s.heap.objs.size (I.hok.fresh (Nat.le_succ _)) (I.hok.fresh (Nat.le_refl _)) (Nat.ne_of_lt (Nat.lt_succ_self _))
  have I2 := Inv.made (C := C) I
  have Y := PySem.W.makes_of (M := model X.prog X.w) I.kIn M.makes
  refine wpAny_call (make_map0 I.kIn M.makes M.init (fun self => PySem.W.Looks.of_pure (PySem.W.oi_bind self)) ?_)
  have hx : ((s.heap.push PySem.W.emptyDict).push (PySem.W.instObj C s.heap.objs.size)).get? (s.heap.objs.size + 1) = some (PySem.W.instObj C s.heap.objs.size) := by
    have z := Heap.get?_push_size (s.heap.push PySem.W.emptyDict) (o := PySem.W.instObj C s.heap.objs.size) rfl
    rwa [Heap.size_push] at z
  have t1 : PySem.W.Looks (model X.prog X.w) ((s.heap.push PySem.W.emptyDict).push (PySem.W.instObj C s.heap.objs.size)) (typeOf (.ref (s.heap.objs.size + 1))) (.ref C) := (PySem.W.Looks.ld hx).andThen .now
  have t2 : PySem.W.Looks (model X.prog X.w) ((s.heap.push PySem.W.emptyDict).push (PySem.W.instObj C s.heap.objs.size)) (isInstance (.ref (s.heap.objs.size + 1)) (.type "object")) true := t1.andThen (Y.top.keeps fun b o e => Heap.get?_push_of_some _ (Heap.get?_push_of_some _ e))
  refine codeAny_call_builtin PySem.W.oi_plain PySem.W.entry_oi (@PySem.W.check_slot (model X.prog X.w) _ _ _ "object.__init__" "object" "__init__" (.ref (s.heap.objs.size + 1)) [] [] _ PySem.W.oi_kind PySem.W.oi_split t2 (PySem.W.oi_args (.ref (s.heap.objs.size + 1))) ?_)
  rw [PySem.W.oi_run]
  exact wpAny_pure (And.intro rfl (Exists.intro (V.ref (s.heap.objs.size + 1)) (Exists.intro _ (And.intro I2 (And.intro rfl hq)))))
def tMakeN (C : Addr) : TE := fun _ H Q => ∀ x dx, H x = none → H dx = none → dx ≠ x → Q (.ref x) (upd (upd H dx (.own x)) x (.ins C dx []))
theorem pe_makeN (M : Mk0 X.K C) (hg : Gl X x) (hm : X.mg x = some (.ref C)) (hdb : (x == ("__debug__" : Str)) = false := by decide) : PE X (.Call (.Name x p) [] [] pos) (tMakeN C) := by
  refine ⟨fun pins s σ H Q I h => ?_⟩
  refine wpAny_Call_Name_kw (ld_glob I hg hm ?_ hdb)
  exact PySem.W.callWith_K0 I.kIn M.kp (run_makeN M I h)
end
def xMakeN (c : Str) : SE := fun _ S => some (.own S.length, S ++ [.ins c []])
theorem sm_makeN {K : PySem.W.Frag} {c : Str} : SmE K (tMakeN (He.ga K c)) (xMakeN c) := ⟨fun {g ρ σ H S m z S'} I E e Q k => fun x dx nx ndx nex => by
  cases e
  have nx2 : upd H dx (.own x) x = none := by rw [upd_ne (Ne.symm nex)]; exact nx
  have I2 := I.fresh (o := .own x) ndx
  have k2 : Go H m (upd H dx (.own x)) m := Go.fresh ndx
  have k3 : Go (upd H dx (.own x)) m (upd (upd H dx (.own x)) x (.ins (He.ga K c) dx [])) (m ++ [x]) := Go.add nx2
  have I3 : Ob K g (upd (upd H dx (.own x)) x (.ins (He.ga K c) dx [])) (S ++ [.ins c []]) (m ++ [x]) := I2.add nx2 ⟨dx, [], upd_same, .nil⟩
  have hx : (m ++ [x])[S.length]? = some x := by rw [← I.len]; simp
  exact k _ _ _ (k2.trans k3) I3 ⟨x, hx, rfl⟩⟩
def ktD : List Str := ["Answer", "Enough", "Right", "Wrong"]
def ktM : KT := ktD.tail.flatMap fun c => ktD.map fun d => (c, d, d == "Answer" || c == d)
def ktR : KT := [("Right", "", true)]
def ktA : KT := List.append ktM ktR
end Nc
set_option Elab.async false
set_option linter.all false
set_option maxRecDepth 100000
set_option maxHeartbeats 4000000
namespace Nc
open PySem PySem.Spec PyProof.Rows L2
/-! ### the set of a list of whole numbers, and sorted of it -/
section
variable {P : Program} {w : World} {A : Around} {E : Value → Shared → Prop} {s : Shared}
abbrev eSet (w : World) : Obj := { cls := .type "set", dict := none, data := .set #[] 0 (.fresh 0 0 (!w.params.followText "set-order")) }
abbrev hp1 (w : World) (s : Shared) : Heap := s.heap.push (eSet w)
abbrev hp2 (w : World) (s : Shared) (l : Addr) : Heap := (hp1 w s).push { cls := .type "list_iterator", data := .fields #[.ref l, .int 0 0] }
abbrev GotSet (w : World) (s : Shared) (ns : List Int) (h2 : Heap) (c : Nat) : Prop := SetR w h2 s.heap.objs.size (fun j => decide (j ∈ ns)) c ∧ c ≤ ns.length ∧ ∀ b o, s.heap.get? b = some o → h2.get? b = some o
theorem set_of_list {l : Addr} {us : Array Value} (ns : List Int) {Q : Value → Shared → Prop} (no : A.handled = none) (li : s.heap.IsList l us) (hu : IntsAre us.toList ns) (room : ns.length + 1 < scanBound)
    (goal : ∀ (h2 : Heap) (tk c : Nat), GotSet w s ns h2 c → Q (.ref s.heap.objs.size) { s with heap := h2, toks := tk }) :
    wpAny (model P w) A (call (.type "set") [.ref l]) Q E s := by
  have usz : us.size = ns.length := by have q := hu.length; rwa [Array.length_toList] at q
  obtain ⟨_, _, mro⟩ := F.called_set.mro
  have md := F.called_set.made; have sb := F.called_set.sub
  refine wpAny_call (codeAny_of_tree ?_); show wpAny _ _ (callAny (.type "set") _) _ _ _
  refine wpAny_pure ⟨Code.quiet_builtin _ (by decide +kernel), ?_⟩
  refine codeAny_builtin F.entry_type_call ?_; rw [Around.under_plain (weight_type_call_type "set" [.ref l] []) rfl]
  have n1 := F.called_set.notType; have n2 := F.called_set.canCreate; have n3 := F.typeCall_set_1 (.ref l)
  repeat (any_goals (first | assumption | wp_step))
  refine codeAny_mono (code_set_led1 (.ref l) (E := E) (Q₁ := fun x s1 => x = .ref s.heap.objs.size ∧ s1 = { s with heap := hp1 w s }) ⟨rfl, rfl⟩) fun rr s1 got => ?_
  match rr, got with
  | .error _, got => exact got
  | .ok .next, got => exact got.elim
  | .ok .brk, got => exact got.elim
  | .ok .cont, got => exact got.elim
  | .ok (.ret x), ⟨ex, es⟩ =>
    subst ex; subst es
    have at1 : (hp1 w s).get? s.heap.objs.size = some (eSet w) := Heap.get?_push_size _ rfl
    have ty1 : Shared.TypeIs { s with heap := hp1 w s } (.ref s.heap.objs.size) "set" := ⟨_, at1, rfl⟩
    have lk := F.called_set.init.lookup; have bd := F.called_set.init.bind (.ref s.heap.objs.size)
    repeat (any_goals (first | assumption | wp_step))
    refine codeAny_mono (codeAny_call_builtin (R := wants (fun r s2 => r = .none ∧ ∃ h2 tk c, s2 = { s with heap := h2, toks := tk } ∧ GotSet w s ns h2 c) E) F.called_set.init.plain F.entry_set_init (check_set_init_1 ty1 ?_)) fun r2 s2 got2 => ?_
    · obtain ⟨⟨oc, od, oo, os⟩, ho, hc, nl, hd⟩ := li
      simp only at hc hd; subst hc; subst hd
      have ho1 : (hp1 w s).get? l = some { cls := .type "list", dict := od, data := .seq us nl, slots := os } := Heap.get?_push_of_some _ ho
      have li1 : (hp1 w s).IsList l us := ⟨_, ho1, rfl, nl, rfl⟩
      have no1 := F.sub_list_set; have no2 := F.sub_list_frozenset; have no3 : (Value.type "list" == Value.type "dict") = false := by decide
      unfold Builtin.«set.__init__» noKeywords Builtin.Frozenset.updateFrom
      generalize hz : pyIter = IT; wp_walk; subst hz
      refine wpAny_pyIter_list li1 (wpAny_bind (wpAny_runValue ?_))
      have lS : l < s.heap.objs.size := Heap.lt_size ho
      have no4 : A.in1.in1.in1.handled = none := by simp [no]
      have sz1 : (hp1 w s).objs.size = s.heap.objs.size + 1 := Heap.size_push ..
      have lI : l ≠ (hp1 w s).objs.size := by rw [sz1]; exact Nat.ne_of_lt (Nat.lt_succ_of_lt lS)
      have SI : s.heap.objs.size ∉ [(hp1 w s).objs.size, l] := by rw [sz1]; simp only [List.mem_cons, List.not_mem_nil, or_false, not_or]; exact ⟨Nat.ne_of_lt (Nat.lt_succ_self _), Nat.ne_of_gt lS⟩
      have vals : ∀ (i : Nat) (v : Value), us[i]? = some v → ∃ k t, ns[i]? = some k ∧ v = .int k t := fun i v hv => by
        have hi : i < ns.length := usz ▸ (Array.getElem?_eq_some_iff.mp hv).1
        obtain ⟨t, e⟩ := IntsAre.int_at hu i v (by rw [Array.getElem?_toList]; exact hv)
        exact ⟨ns[i], t, List.getElem?_eq_getElem hi, by rw [e]; simp [List.getD_eq_getElem?_getD, hi]⟩
      refine set_update_ints ((Walks.list no4 _ l lI us).toS) s.heap.objs.size SI ns usz room vals (us.size - 0) 0 _ (by omega) (Nat.zero_le _) ⟨⟨_, Heap.get?_push_size _ rfl, rfl, rfl⟩, li1.push _⟩ ⟨0, Nat.le_refl 0, setR_new_at (show (hp2 w s l).get? s.heap.objs.size = some (eSet w) from Heap.get?_push_of_some _ at1)⟩ ?_
      rintro ⟨h2, g2, d2, t2, o2⟩ c mv cl rs
      obtain ⟨rfl, rfl, rfl⟩ : g2 = s.gens ∧ d2 = s.drawn ∧ o2 = s.os := ⟨mv.gens, mv.drawn, mv.os⟩
      show wpAny _ _ _ _ _ _
      refine wpAny_pure ?_; show wpAny _ _ (ret Value.none) _ _ _
      refine wpAny_pure ⟨rfl, h2, t2, c, rfl, rs, usz ▸ cl, fun b o e => ?_⟩
      have bl : b < s.heap.objs.size := Heap.lt_size e
      exact mv.heap b o (by rw [sz1]; simp only [List.mem_cons, List.not_mem_nil, or_false, not_or]; exact ⟨Nat.ne_of_lt bl, Nat.ne_of_lt (Nat.lt_succ_of_lt bl)⟩) (Heap.get?_push_of_some _ (Heap.get?_push_of_some _ e))
    · match r2, got2 with
      | .error _, got2 => exact got2
      | .ok .next, got2 => exact got2.elim
      | .ok .brk, got2 => exact got2.elim
      | .ok .cont, got2 => exact got2.elim
      | .ok (.ret x), ⟨ex, h2, tk, c, es, G⟩ =>
        subst ex; subst es
        repeat (any_goals (first | assumption | wp_step))
        exact goal _ _ c G
end
/-! ### sorted(set(xs)) -/
def tSortSet (K : PySem.W.Frag) (ta : TE) : TE := fun σ H Q => ta σ H fun x H1 => ∃ (l : Addr) (ns : List Int), x = .ref l ∧ SqL K H1 l (ns.map V.int) ∧ ns.length ≤ 60 ∧
  ∀ (ms : List Int) (p : Addr), ms.Pairwise (· < ·) → (∀ k : Int, k ∈ ms ↔ k ∈ ns) → H1 p = none → Q (.ref p) (upd H1 p (.lst (ms.map V.int)))
theorem inv_sorted {X : Cx} {pins : List (Addr × Obj)} {σ : L2.St} {H1 : Hp} {sa sb : Shared} {p3 : Addr} {out : Array Value} {cc : Nat} {ms : List Int} (I : Inv X pins σ H1 sa) (k3 : ∀ b o, sa.heap.get? b = some o → sb.heap.get? b = some o) (g3 : sb.gens = sa.gens) (o3 : sb.os = sa.os)
    (hp3 : sa.heap.objs.size ≤ p3) (hg3 : sb.heap.get? p3 = some (seqObj "list" out cc)) (hi3 : IntsAre out.toList ms) (hl : ms.length ≤ 64) : H1 p3 = none ∧ Inv X pins σ (upd H1 p3 (.lst (ms.map V.int))) sb := by
  have fr : H1 p3 = none := I.hok.fresh hp3
  have sz : (ms.map V.int).length ≤ sizeLine := by rw [List.length_map, sizeLine_eq]; omega
  have J : Inv X pins σ (upd H1 p3 (.lst (ms.map V.int))) { sa with heap := sb.heap, gens := sb.gens, drawn := sb.drawn, toks := sb.toks } := I.call (ch := []) (Un.laid k3 hp3 fr) (I.hok.laid k3 hp3 ⟨sz, out.toList, cc, vals_of_ints hi3, hg3⟩) (by rw [g3]; exact I.bare) (fun _ z => nomatch z)
  have e : sb = { sa with heap := sb.heap, gens := sb.gens, drawn := sb.drawn, toks := sb.toks } := by
    cases sb; cases sa; cases o3; rfl
  exact ⟨fr, by rw [e]; exact J⟩
theorem pe_sortSet {X : Cx} {a : Expr} {ta : TE} {p p2 q pos : Pos} (hg : Gl X "sorted") (hm : X.mg "sorted" = none) (hg2 : Gl X "set") (hm2 : X.mg "set" = none) (ha : PE X a ta) (hc : X.calm = true := by rfl)
    (na : starEach [a] X.env = (false, eval a X.env) :: starEach [] X.env := by rfl) : PE X (.Call (.Name "sorted" p) [.Call (.Name "set" p2) [a] [] q] [] pos) (tSortSet X.K ta) := by
  refine ⟨fun pins s σ H Q I h => Call_ (ld_blt I hg hm boot_sorted ?_)⟩
  refine PyProof.Rows.callWith_builtin1 (PyProof.Rows.args_cons ?_ rfl) rfl rfl
  refine Call_ (ld_blt I hg2 hm2 boot_set ?_)
  refine PyProof.Rows.callWith_type1 (PyProof.Rows.args_cons (thn (ha.run pins s σ H _ I h) fun v s1 ⟨x, H1, I1, r1, l, ns, e, hq, hl, q1⟩ => PyProof.Rows.args_nil ?_) na) na rfl
  subst e
  cases r1
  obtain ⟨its, r, pl, hz⟩ := I1.list hq
  refine set_of_list ns (I1.ok.hd hc) pl.isList (by simpa using RZ.intsAre_vals r) (by unfold scanBound; omega) fun h2 tk c ⟨R, cl, hk⟩ => PyProof.Rows.args_nil ?_
  have I2 : Inv X pins σ H1 { s1 with heap := h2, toks := tk } := I1.kept fun b o e => hk b o e
  refine sorted_set (s := { s1 with heap := h2, toks := tk }) R (I2.ok.hd hc) (by omega) fun s3 p3 out cc ms k3 g3 o3 hp3 hg3 hi3 hs3 hm3 hl3 => ?_
  obtain ⟨fr, J⟩ := inv_sorted I2 k3 g3 o3 hp3 hg3 hi3 (by omega)
  exact ⟨.ref p3, _, J, rfl, q1 ms p3 hs3 (fun k => by rw [hm3 k, decide_eq_true_eq]) fr⟩
def insU (a : Int) : List Int → List Int
  | [] => [a]
  | b :: r => if a < b then a :: b :: r else if a = b then b :: r else b :: insU a r
def sortU : List Int → List Int
  | [] => []
  | a :: r => insU a (sortU r)
theorem insU_mem {a x : Int} : ∀ {l : List Int}, x ∈ insU a l ↔ x = a ∨ x ∈ l
  | [] => by simp [insU]
  | b :: r => by
    unfold insU
    split
    · simp
    · split
      · rename_i e; subst e; simp
      · simp only [List.mem_cons, insU_mem (l := r)]
        constructor <;> (rintro (h | h | h) <;> simp [h])
theorem sortU_mem {x : Int} : ∀ {l : List Int}, x ∈ sortU l ↔ x ∈ l
  | [] => by simp [sortU]
  | a :: r => by simp [sortU, insU_mem, sortU_mem (l := r)]
theorem insU_up (a : Int) : ∀ l : List Int, l.Pairwise (· < ·) → (insU a l).Pairwise (· < ·)
  | [], _ => by simp [insU]
  | b :: r, h => by
    obtain ⟨h1, h2⟩ := List.pairwise_cons.mp h
    unfold insU
    split
    · rename_i q
      refine List.pairwise_cons.mpr ⟨fun y hy => ?_, h⟩
      rcases List.mem_cons.mp hy with rfl | hy
      · exact q
      · exact Int.lt_trans q (h1 y hy)
    · split
      · exact h
      · refine List.pairwise_cons.mpr ⟨fun y hy => ?_, insU_up a r h2⟩
        rcases insU_mem.mp hy with rfl | hy
        · omega
        · exact h1 y hy
theorem sortU_up : ∀ l : List Int, (sortU l).Pairwise (· < ·)
  | [] => .nil
  | a :: r => insU_up a _ (sortU_up r)
theorem sortU_eq {ms ns : List Int} (s : ms.Pairwise (· < ·)) (h : ∀ k : Int, k ∈ ms ↔ k ∈ ns) : ms = sortU ns := by
  have nd : ∀ {l : List Int}, l.Pairwise (· < ·) → l.Nodup := fun z => z.imp fun q => by omega
  have pm : ms.Perm (sortU ns) := (List.perm_ext_iff_of_nodup (nd s) (nd (sortU_up ns))).mpr fun k => by rw [h k, sortU_mem]
  exact List.Perm.eq_of_pairwise (le := (· ≤ ·)) (fun a b _ _ => Int.le_antisymm) (s.imp fun q => by omega) ((sortU_up ns).imp fun q => by omega) pm
section
variable {K : PySem.W.Frag} {ta : TE} {fa : SE}
def xSortSet (fa : SE) : SA := fun ρ S => bnd (fa ρ S) fun a S1 => match seqInts S1 a with
  | some ns => if ns.length ≤ 60 then some ((sortU ns).map fun n => .dat false (.int n), S1) else none
  | none => none
theorem sml_sortSet (ha : SmE K ta fa) : SmL K (tSortSet K ta) (xSortSet fa) := ⟨fun {g ρ σ H S m z S'} I E e Q k => by
  obtain ⟨a, S1, e1, e⟩ := bnd_some e
  split at e
  · rename_i ns h
    split at e
    · rename_i hn
      cases e
      refine ha.run I E e1 _ fun x H1 m1 k1 I1 r1 => ?_
      obtain ⟨p, rfl, h2⟩ := seqInts_ok I1 r1 h
      refine ⟨p, ns, rfl, h2, hn, fun ms q hs hm hq => ?_⟩
      rw [sortU_eq hs hm]
      exact lay I1 k1 (vsR_ints _) k q hq
    · cases e
  · cases e⟩
end
end Nc
set_option Elab.async false
set_option linter.all false
set_option maxRecDepth 100000
set_option maxHeartbeats 1000000
namespace Nc
open PySem PySem.Spec PyProof.Rows L2
/-! ### tuples of whole numbers: <, sorted -/
def intsD : List PyData → Option (List Int)
  | [] => some []
  | .int i :: r => match intsD r with
    | some ns => some (i :: ns)
    | none => none
  | _ => none
theorem intsD_ok : ∀ {ds : List PyData} {ns : List Int}, intsD ds = some ns → ds = ns.map PyData.int
  | [], ns, e => by cases e; rfl
  | d :: r, ns, e => by
    unfold intsD at e
    split at e
    · rename_i h; cases h
    · rename_i i r' h
      cases h
      split at e
      · rename_i ns' h'
        cases e
        rw [intsD_ok h']
        rfl
      · cases e
    · cases e
def oLtT : O2
  | .dat _ (.tuple ds), .dat _ (.tuple es), S => match intsD ds, intsD es with
    | some ns, some ms => some (.dat false (.bool (HT.lexLt ns ms)), S)
    | _, _ => none
  | _, _, _ => none
section
variable {K : PySem.W.Frag} {g g2 : Gd} {H H' H1 H2 : Hp} {m m' m1 m2 : List Addr} {S S' S1 S2 : Sto} {ρ : Env} {σ : L2.St} {ta tb tc te : TE} {fa fb fc f : SE}
theorem tup_ints {b : Bool} {ns : List Int} {x : V} (r : VR K g H m (.dat b (.tuple (ns.map .int))) x) : ∃ p, x = .ref p ∧ SqT K H p (ns.map V.int) := by
  obtain ⟨p, ws, rfl, h2, h3⟩ := DatAt.itemsT r
  have h4 := intsOf_ok (intsOf_map b ns) (h3.vsR (K := K))
  subst h4
  exact ⟨p, rfl, SqT.of h2⟩
theorem r2_ltT : R2S K (rLtT K) oLtT := ⟨fun {g H S m a b z x y S'} I ra rb e Q k => by
  unfold oLtT at e
  split at e
  · split at e
    · rename_i ns ms h1 h2
      cases e
      rw [intsD_ok h1] at ra
      rw [intsD_ok h2] at rb
      obtain ⟨p, rfl, h3⟩ := tup_ints ra
      obtain ⟨q, rfl, h4⟩ := tup_ints rb
      exact ⟨p, q, ns, ms, rfl, rfl, h3, h4, k _ H m Go.refl I VR.ofBool⟩
    · cases e
  · cases e⟩
/-- a list of pairs of whole numbers -/
def prsOf : List OV → Option (List (Int × Int))
  | [] => some []
  | .dat _ (.tuple [.int a, .int c]) :: r => match prsOf r with
    | some ps => some ((a, c) :: ps)
    | none => none
  | _ => none
theorem prsOf_ok : ∀ {vs : List OV} {ws : List V} {ps : List (Int × Int)}, prsOf vs = some ps → VsR K g H m vs ws → VsR K g H m (ps.map fun p => .dat false (ePr p)) ws
  | [], _, ps, e, .nil => by cases e; exact .nil
  | v :: vs, _, ps, e, .cons r t => by
    unfold prsOf at e
    split at e
    · rename_i h; cases h
    · rename_i b a c r' h
      cases h
      split at e
      · rename_i ps' h'
        cases e
        exact .cons (DatAt.flt r rfl) (prsOf_ok h' t)
      · cases e
    · cases e
abbrev lePr (p q : Int × Int) : Prop := p.1 * 64 + p.2 ≤ q.1 * 64 + q.2
def insP (a : Int × Int) : List (Int × Int) → List (Int × Int)
  | [] => [a]
  | b :: r => if lePr a b then a :: b :: r else b :: insP a r
def sortP : List (Int × Int) → List (Int × Int)
  | [] => []
  | a :: r => insP a (sortP r)
theorem insP_perm (a : Int × Int) : ∀ l : List (Int × Int), (insP a l).Perm (a :: l)
  | [] => .refl _
  | b :: r => by
    unfold insP
    split
    · exact .refl _
    · exact ((insP_perm a r).cons b).trans (.swap a b r)
theorem sortP_perm : ∀ l : List (Int × Int), (sortP l).Perm l
  | [] => .refl _
  | a :: r => (insP_perm a _).trans ((sortP_perm r).cons a)
theorem insP_sorted (a : Int × Int) : ∀ l : List (Int × Int), l.Pairwise lePr → (insP a l).Pairwise lePr
  | [], _ => by simp [insP]
  | b :: r, h => by
    unfold insP
    obtain ⟨h1, h2⟩ := List.pairwise_cons.mp h
    split
    · rename_i q
      refine List.pairwise_cons.mpr ⟨fun y hy => ?_, h⟩
      rcases List.mem_cons.mp hy with rfl | hy
      · exact q
      · exact Int.le_trans q (h1 y hy)
    · rename_i q
      refine List.pairwise_cons.mpr ⟨fun y hy => ?_, insP_sorted a r h2⟩
      rcases List.mem_cons.mp ((insP_perm a r).mem_iff.mp hy) with rfl | hy
      · unfold lePr at *; omega
      · exact h1 y hy
theorem sortP_sorted : ∀ l : List (Int × Int), (sortP l).Pairwise lePr
  | [] => .nil
  | a :: r => insP_sorted a _ (sortP_sorted r)
def okPr (p : Int × Int) : Bool := decide (0 ≤ p.1 ∧ p.1 < 64 ∧ 0 ≤ p.2 ∧ p.2 < 64)
theorem sortP_eq {l l' : List (Int × Int)} (ok : ∀ p ∈ l, okPr p = true) (h : l'.Perm l) (s : l'.Pairwise lePr) : l' = sortP l := by
  refine List.Perm.eq_of_pairwise (le := lePr) (fun a b ha hb h1 h2 => ?_) s (sortP_sorted l) (h.trans (sortP_perm l).symm)
  have o1 := of_decide_eq_true (ok a (h.mem_iff.mp ha))
  have o2 := of_decide_eq_true (ok b ((sortP_perm l).mem_iff.mp hb))
  unfold lePr at h1 h2
  exact Prod.ext (by omega) (by omega)
theorem paired_perm {α β : Type} {R : α → β → Prop} {ys xs : List β} (h : ys.Perm xs) : ∀ {as : List α}, Paired R as xs → ∃ bs, bs.Perm as ∧ Paired R bs ys := by
  induction h with
  | nil => intro as h; cases h; exact ⟨[], .refl _, .nil⟩
  | cons x _ ih =>
    intro as h
    cases h with
    | cons r t =>
      obtain ⟨bs, h1, h2⟩ := ih t
      exact ⟨_, h1.cons _, .cons r h2⟩
  | swap x y l =>
    intro as h
    cases h with
    | cons r t =>
      cases t with
      | cons r' t' => exact ⟨_, .swap _ _ _, .cons r' (.cons r t')⟩
  | trans _ _ ih1 ih2 =>
    intro as h
    obtain ⟨bs, h1, h2⟩ := ih2 h
    obtain ⟨cs, h3, h4⟩ := ih1 h2
    exact ⟨cs, h3.trans h1, h4⟩
theorem code2 (x y : Int) : TS.code 64 [x, y] = x * 64 + y := by
  simp [TS.code]
theorem tupI_pr {p : Int × Int} {x : V} (r : VR K g H m (.dat false (ePr p)) x) : TupI K H x [p.1, p.2] := by
  obtain ⟨q, e, h⟩ := tup_ints (ns := [p.1, p.2]) r
  exact ⟨q, e, h⟩
def oSortP : List OV → Sto → Option (List OV)
  | [a], S => match seqItems S a with
    | some vs => (match prsOf vs with
      | some ps => if ps.length < 64 ∧ ps.all okPr = true then some ((sortP ps).map fun p => .dat false (ePr p)) else none
      | none => none)
    | none => none
  | _, _ => none
theorem prs_code {bs : List (Int × Int)} {ys : List V} (h : VsR K g H m (bs.map fun p => .dat false (ePr p)) ys) (s : ys.Pairwise fun x y => ∀ n l, TupI K H x n → TupI K H y l → TS.code 64 n ≤ TS.code 64 l) : bs.Pairwise lePr := by
  induction bs generalizing ys with
  | nil => exact .nil
  | cons b bs ih =>
    cases h with
    | cons r t =>
      obtain ⟨h1, h2⟩ := List.pairwise_cons.mp s
      refine List.pairwise_cons.mpr ⟨fun c hc => ?_, ih t h2⟩
      obtain ⟨i, hi, e⟩ := List.mem_iff_getElem.mp hc
      have hx : (bs.map fun p => OV.dat false (ePr p))[i]? = some (.dat false (ePr c)) := by
        rw [List.getElem?_map, List.getElem?_eq_getElem hi, e]; rfl
      obtain ⟨w, hw, rw'⟩ := VsR.get t hx
      have := h1 w (List.mem_of_getElem? hw) _ _ (tupI_pr r) (tupI_pr rw')
      rw [code2, code2] at this
      exact this
theorem rl_sortP : RCL K (rSortU K 2 64) oSortP := ⟨fun {g H S m as vs xs} I ra e Q k => by
  unfold oSortP at e
  split at e
  · split at e
    · rename_i us h
      split at e
      · rename_i ps hp
        split at e
        · rename_i hn
          cases e
          obtain ⟨x, rfl, r⟩ := VsR.one ra
          obtain ⟨p, ws, rfl, h2, h3⟩ := seqItems_ok I r h
          have h4 := prsOf_ok hp h3
          have hl := h4.length
          rw [List.length_map] at hl
          have ok : ∀ q ∈ ps, okPr q = true := List.all_eq_true.mp hn.2
          refine ⟨p, ws, rfl, h2, by rw [← hl]; exact hn.1, fun x hx => ?_, fun ys q hpm hs hq => ?_⟩
          · obtain ⟨i, hi, e⟩ := List.mem_iff_getElem.mp hx
            have hi2 : i < ps.length := by rw [hl]; exact hi
            have hx2 : (ps.map fun p => OV.dat false (ePr p))[i]? = some (.dat false (ePr ps[i])) := by
              rw [List.getElem?_map, List.getElem?_eq_getElem hi2]; rfl
            obtain ⟨w, hw, rw'⟩ := VsR.get h4 hx2
            rw [List.getElem?_eq_getElem hi, e] at hw
            cases hw
            refine ⟨_, tupI_pr rw', rfl, fun z hz => ?_⟩
            have o := of_decide_eq_true (ok _ (List.getElem_mem hi2))
            simp at hz
            omega
          · obtain ⟨cs, h5, h6⟩ := paired_perm hpm h4
            obtain ⟨bs, rfl, h7⟩ : ∃ bs : List (Int × Int), cs = bs.map (fun p => OV.dat false (ePr p)) ∧ bs.Perm ps := by
              have gen : ∀ {cs ds : List OV}, cs.Perm ds → ∀ ps : List (Int × Int), ds = ps.map (fun p => OV.dat false (ePr p)) → ∃ bs : List (Int × Int), cs = bs.map (fun p => OV.dat false (ePr p)) ∧ bs.Perm ps := by
                intro cs ds h
                induction h with
                | nil => intro ps e; cases ps with
                  | nil => exact ⟨[], rfl, .refl _⟩
                  | cons a r => cases e
                | cons x _ ih => intro ps e; cases ps with
                  | nil => cases e
                  | cons a r =>
                    rw [List.map_cons] at e
                    cases e
                    obtain ⟨bs, e1, e2⟩ := ih r rfl
                    exact ⟨a :: bs, by rw [e1]; rfl, e2.cons a⟩
                | swap x y l => intro ps e; match ps, e with
                  | a :: c :: r, e =>
                    rw [List.map_cons, List.map_cons] at e
                    cases e
                    exact ⟨c :: a :: r, rfl, .swap _ _ _⟩
                | trans _ _ ih1 ih2 => intro ps e; obtain ⟨bs, e1, e2⟩ := ih2 ps e
                                       obtain ⟨ds, e3, e4⟩ := ih1 bs e1
                                       exact ⟨ds, e3, e4.trans e2⟩
              exact gen h5 ps rfl
            have e := sortP_eq ok h7 (prs_code h6 hs)
            rw [e] at h6
            exact k ys h6 q hq
        · cases e
      · cases e
    · cases e
  · cases e⟩
/-! ### a call by values that gives a new object, its fields new -/
def natF : List (Str × OV) → Bool
  | [] => true
  | (_, .dat false _) :: r => natF r
  | _ => false
def xCallO (sem : Sem2) (n : Nat) (fr : SA) : SE := fun ρ S => bnd (fr ρ S) fun as S1 => if as.length = n then (match argsF S1 as with
  | some as' => (match sem as' [] with
    | some (.own j, S2) => (match S2[j]? with
      | some (.ins c fs) => if natF fs = true then some (.own S1.length, S1 ++ [.ins c fs]) else none
      | _ => none)
    | _ => none)
  | none => none) else none
theorem FsR.back (I : Ob K g H S m) (k : Go H [] H' m') {p : Addr} (hp : p ∈ m') (hl : ∀ o, H' p = some o → tupO o = false) : ∀ {vs : List (Str × OV)} {ws : List (Str × V)}, FsR K (g0 H) H' m' vs ws → natF vs = true → FsR K (g.add p) H' m vs ws
  | _, _, .nil, _ => .nil
  | (_, .dat false d) :: _, _, .cons r t, e => by
    have q : DatsAt (g0 H) H' m' (false || false) [_] [d] := .cons r.2 .nil
    have q2 := DatsAt.back (c := false) I k hp hl q (.inr rfl)
    obtain ⟨F, h1, h3, h4⟩ := q2.ex
    cases h4 with
    | cons a _ => exact .cons ⟨r.1, F, h1, h3, a⟩ (FsR.back I k hp hl t e)
  | (_, .dat true _) :: _, _, .cons _ _, e => by cases e
  | (_, .own _) :: _, _, .cons _ _, e => by cases e
  | (_, .scr _) :: _, _, .cons _ _, e => by cases e
theorem Ob.behind (I : Ob K g H S m) (k : Go H [] H' m') {p : Addr} {o : HO} (hH : H p = none) (h3 : H' p = some o) (ht : tupO o = false := by rfl) : Ob K (g.add p) H' S m := by
  obtain ⟨kk, I4⟩ := Go.back I k
  refine ⟨I4.len, I4.nd, I4.dom, fun z hz => ?_, fun z hz hz2 => ?_, fun i o z a1 a2 => ?_⟩
  · rcases List.mem_cons.mp hz with rfl | hz
    · exact ⟨_, h3, ht⟩
    · exact I4.avt z hz
  · rcases List.mem_cons.mp hz2 with rfl | hz2
    · exact I.there hz hH
    · exact I4.dis z hz hz2
  · have a3 := I.obj i o z a1 a2
    have hz : H' z = H z := by
      cases e : H z with
      | none => exact (a3.there e).elim
      | some u => exact k.keep z u e (.inl (by simp))
    refine a3.imp hz fun ov v y => y.imp (fun F hF => ?_) rfl rfl ⟨[], by simp⟩
    have hF' := hF.go kk
    refine ⟨hF'.le, hF'.no, fun q hq => ?_⟩
    rcases List.mem_cons.mp hq with rfl | hq
    · exact hF.free hH
    · exact hF'.av q hq
theorem sm_callO {sem : Sem2} {n : Nat} {tr : TA} {fr : SA} (ha : SmA K tr fr) : SmE K (tCall (SpB K sem n) [] E0 tr) (xCallO sem n fr) := ⟨fun {g ρ σ H S m z S'} I E e Q k => by
  have e0 := bnd_some e; clear e; obtain ⟨as, S1, e1, e⟩ := e0
  split at e
  · rename_i hl
    split at e
    · rename_i as' ha'
      split at e
      · rename_i j S2 e2
        split at e
        · rename_i c fs hj
          split at e
          · rename_i hn
            cases e
            refine ha.run I E e1 _ fun xs H1 m1 k1 I1 r1 => ?_
            rw [List.append_nil]
            obtain ⟨r2, l2⟩ := argsF_ok I1 r1 ha'
            refine ⟨g0 H1, [], [], as', _, _, by rw [l2]; exact hl, ob0, r2, e2, fun v H' m' k3 I3 r3 => ?_⟩
            obtain ⟨p, hp, rfl⟩ := r3
            obtain ⟨p', hp', dx, ws, h3, h4⟩ := I3.get hj
            rw [hp] at hp'
            cases hp'
            have hpm := List.mem_of_getElem? hp
            have hH : H1 p = none := by
              rcases k3.new p hpm with q | q
              · cases q
              · exact q
            obtain ⟨kk, _⟩ := Go.back I1 k3
            have I4 := I1.behind k3 hH h3
            have q := FsR.back I1 k3 hpm (fun o z => by rw [h3] at z; cases z; rfl) h4 hn
            refine k (.ref p) H' (m1 ++ [p]) ((k1.trans kk).more (k1.dom p hH)) (I4.take (fun z => I1.avn p z hH) ⟨dx, ws, h3, q⟩) ⟨p, ?_, rfl⟩
            rw [← I1.len]
            simp
          · cases e
        · cases e
      · cases e
    · cases e
  · cases e⟩
/-! ### a method called by values: its object's fields are scalars and stay -/
def scal : PyData → Bool
  | .none => true
  | .bool _ => true
  | .int _ => true
  | .str _ => true
  | _ => false
def scalF : List (Str × OV) → Bool
  | [] => true
  | (_, .dat false d) :: r => scal d && scalF r
  | _ => false
theorem Dq_scal {F F' : Hp} {v : V} {d : PyData} (h : Dq F v d) (e : scal d = true) : Dq F' v d := by
  cases h with
  | non => exact .non
  | bl b => exact .bl b
  | int i => exact .int i
  | str x => exact .str x
  | lst s a => cases e
  | tup s a => cases e
theorem FsR.scal : ∀ {vs : List (Str × OV)} {ws : List (Str × V)}, FsR K g H m vs ws → scalF vs = true → FsR K g2 H' m' vs ws
  | _, _, .nil, _ => .nil
  | (_, .dat false d) :: _, _, .cons r t, e => by
    have e2 : (Nc.scal d && scalF _) = true := e
    rw [Bool.and_eq_true] at e2
    exact .cons ⟨r.1, DatAt.scal (Dq_scal (DatAt.dq r.2) e2.1)⟩ (FsR.scal t e2.2)
  | (_, .dat true _) :: _, _, .cons _ _, e => by cases e
  | (_, .own _) :: _, _, .cons _ _, e => by cases e
  | (_, .scr _) :: _, _, .cons _ _, e => by cases e
def less (F : Hp) (p : Addr) : Hp := fun a => if a = p then none else F a
theorem less_ne {F : Hp} {p a : Addr} {o : HO} (h : F a = some o) (e : a ≠ p) : less F p a = some o := by
  unfold less
  rw [if_neg e]
  exact h
mutual
theorem Dq_less {F : Hp} {p : Addr} {c dx : Addr} {fs : List (Str × V)} (hp : F p = some (.ins c dx fs)) : ∀ {v : V} {d : PyData}, Dq F v d → Dq (less F p) v d
  | _, _, .non => .non
  | _, _, .bl b => .bl b
  | _, _, .int i => .int i
  | _, _, .str x => .str x
  | _, _, .lst s a => .lst (less_ne s fun e => by rw [e, hp] at s; cases s) (DqAll_less hp a)
  | _, _, .tup s a => .tup (less_ne s fun e => by rw [e, hp] at s; cases s) (DqAll_less hp a)
theorem DqAll_less {F : Hp} {p : Addr} {c dx : Addr} {fs : List (Str × V)} (hp : F p = some (.ins c dx fs)) : ∀ {vs : List V} {ds : List PyData}, DqAll F vs ds → DqAll (less F p) vs ds
  | _, _, .nil => .nil
  | _, _, .cons a b => .cons (Dq_less hp a) (DqAll_less hp b)
end
theorem less_p {F : Hp} {p : Addr} : less F p p = none := if_pos rfl
theorem less_le {F : Hp} {p a : Addr} {o : HO} (h : less F p a = some o) : F a = some o := by
  unfold less at h
  split at h
  · cases h
  · exact h
theorem pt_less {p : Addr} : Pt (g0 H) H [p] (less H p) := by
  refine ⟨fun a o e => less_le e, fun q hq o e => ?_, fun _ h => nomatch h⟩
  rw [List.mem_singleton.mp hq, less_p] at e
  cases e
theorem dat0_less {p c dx : Addr} {fs : List (Str × V)} (hp : H p = some (.ins c dx fs)) {v : V} {d : PyData} (h : Dq H v d) : DatAt (g0 H) H [p] true v d :=
  ⟨less H p, pt_less, fun a o e => .inr (.inr ⟨rfl, fun z => by
    have z2 : H a = none := z
    rw [less_le e] at z2
    cases z2⟩), Dq_less hp h⟩
def argV (S : Sto) (v : OV) : Option OV := match v with
  | .scr _ => none
  | v => (rdq 6 S v).map (mkD true)
def argsV (S : Sto) : List OV → Option (List OV)
  | [] => some []
  | v :: vs => match argV S v with
    | some a => (match argsV S vs with
      | some as => some (a :: as)
      | none => none)
    | none => none
theorem argV_ok (I : Ob K g H S m) {p c dx : Addr} {fs : List (Str × V)} (hp : H p = some (.ins c dx fs)) {v a : OV} {x : V} (r : VR K g H m v x) (e : argV S v = some a) : VR K (g0 H) H [p] a x := by
  cases v with
  | scr ns => cases e
  | dat b d =>
    have e : (rdq 6 S (.dat b d)).map (Nc.mkD true) = some a := e
    cases h : rdq 6 S (.dat b d) with
    | none => rw [h] at e; cases e
    | some d' =>
      rw [h] at e
      cases e
      exact (dat0_less hp (rdq_dq I r h)).mkD
  | own i =>
    have e : (rdq 6 S (.own i)).map (Nc.mkD true) = some a := e
    cases h : rdq 6 S (.own i) with
    | none => rw [h] at e; cases e
    | some d =>
      rw [h] at e
      cases e
      exact (dat0_less hp (rdq_dq I r h)).mkD
theorem argsV_ok (I : Ob K g H S m) {p c dx : Addr} {fs : List (Str × V)} (hp : H p = some (.ins c dx fs)) : ∀ {vs as : List OV} {xs : List V}, VsR K g H m vs xs → argsV S vs = some as → VsR K (g0 H) H [p] as xs ∧ as.length = vs.length
  | _, _, _, .nil, e => by cases e; exact ⟨.nil, rfl⟩
  | _, _, _, .cons r t, e => by
    unfold argsV at e
    split at e
    · rename_i a h1
      split at e
      · rename_i as h2
        cases e
        obtain ⟨h3, h4⟩ := argsV_ok I hp t h2
        exact ⟨.cons (argV_ok I hp r h1) h3, by simp [h4]⟩
      · cases e
    · cases e
noncomputable def xMethV (c mn : Str) (sem : Sem2) (n : Nat) (fo : SE) (fr : SA) : SE := fun ρ S => bnd (fo ρ S) fun o S1 => match o with
  | .own i => (match S1[i]? with
    | some (.ins d fs) => if d = c ∧ fs.lookup mn = none ∧ scalF fs = true then bnd (fr ρ S1) fun as S2 => if as.length + 1 = n then chk (S2[i]? = some (.ins d fs)) (match argsV S2 as with
      | some as' => (match sem (.own 0 :: as') [.ins d fs] with
        | some (.dat false d2, S3) => if Nc.scal d2 = true then chk (S3[0]? = some (.ins d fs)) (some (.dat false d2, S2)) else none
        | _ => none)
      | none => none) else none else none
    | _ => none)
  | _ => none
theorem sm_methV {c mn : Str} {sem : Sem2} {n : Nat} {tr : TA} {fr : SA} (ho : SmE K ta fa) (ha : SmA K tr fr) : SmE K (tMeth (He.ga K c) mn (SpB K sem n) [] E0 ta tr) (xMethV c mn sem n fa fr) := ⟨fun {g ρ σ H S m z S'} I E e Q k => by
  have e0 := bnd_some e; clear e; obtain ⟨o, S1, e1, e⟩ := e0
  split at e
  · rename_i i
    split at e
    · rename_i d fs hs
      split at e
      · rename_i hd
        obtain ⟨hd, hl, hsc⟩ := hd
        have e0 := bnd_some e; clear e; obtain ⟨as, S2, e2, e⟩ := e0
        split at e
        · rename_i hn
          obtain ⟨hs2, e⟩ := chk_some e
          split at e
          · rename_i as' ha'
            split at e
            · rename_i d2 S3 e3
              split at e
              · rename_i hr1
                obtain ⟨hr2, e⟩ := chk_some e
                cases e
                subst hd
                refine ho.run I E e1 _ fun x H1 m1 k1 I1 r1 => ?_
                obtain ⟨p, dx, ws, hp, rfl, h2, h4⟩ := ins_at I1 r1 hs
                refine ⟨p, dx, ws, rfl, h2, fsR_none h4 hl, ?_⟩
                refine ha.run I1 (E.go k1) e2 _ fun xs H2 m2 k2 I2 r2 => ?_
                rw [List.append_nil]
                obtain ⟨p', dx2, ws2, hp2, ep, h5, h6⟩ := ins_at I2 (r1.go k2) hs2
                cases ep
                obtain ⟨r3, l3⟩ := argsV_ok I2 h5 r2 ha'
                have Ic : Ob K (g0 H2) H2 [.ins d fs] [p] := by
                  refine ⟨rfl, by simp, fun _ h => h, fun _ h => (by cases h), fun _ _ h => (by cases h), fun j o q a1 a2 => ?_⟩
                  cases j with
                  | zero =>
                    simp at a1 a2
                    subst a1 a2
                    exact ⟨dx2, ws2, h5, h6.scal hsc⟩
                  | succ j => simp at a1
                refine ⟨g0 H2, [.ins d fs], [p], _, _, _, by simp [l3, hn], Ic, .cons (show VR K (g0 H2) H2 [p] (.own 0) (.ref p) from ⟨p, rfl, rfl⟩) r3, e3, fun v H' m' k3 I3 rv => ?_⟩
                obtain ⟨ms, em⟩ := k3.pre
                have pm : p ∈ m2 := List.mem_of_getElem? hp2
                have old : ∀ q ∈ m2, q ≠ p → H' q = H2 q := fun q hq hne => by
                  cases e : H2 q with
                  | none => exact (I2.there hq e).elim
                  | some u => exact k3.keep q u e (.inl (by simpa using hne))
                have kk : Go H2 m2 H' m2 := ⟨⟨[], by simp⟩, fun q hq => .inl hq, fun a o e hz => by
                  refine k3.keep a o e ?_
                  rcases hz with hz | hz
                  · exact .inl (by simp; exact fun z => hz (by rw [z]; exact pm))
                  · exact .inr hz, k3.dom⟩
                obtain ⟨p3, hp3, dx3, ws3, h7, h8⟩ := I3.get hr2
                rw [em] at hp3
                simp at hp3
                subst hp3
                have I4 : Ob K g H' S' m2 := by
                  refine ⟨I2.len, I2.nd, fun a z => I2.dom a (kk.dom a z), I2.avk kk, I2.dis, fun j o q a1 a2 => ?_⟩
                  by_cases hq : q = p
                  · subst hq
                    have ij : j = i := by
                      obtain ⟨b1, c1⟩ := List.getElem?_eq_some_iff.mp a2
                      obtain ⟨b2, c2⟩ := List.getElem?_eq_some_iff.mp hp2
                      exact (List.getElem_inj I2.nd).mp (c1.trans c2.symm)
                    subst ij
                    rw [hs2] at a1
                    cases a1
                    exact ⟨dx3, ws3, h7, h8.scal hsc⟩
                  · exact (I2.obj j o q a1 a2).go kk (old q (List.mem_of_getElem? a2) hq)
                exact k v H' m2 ((k1.trans k2).trans kk) I4 (DatAt.scal (Dq_scal (DatAt.dq rv) hr1))
              · cases e
            · cases e
          · cases e
        · cases e
      · cases e
    · cases e
  · cases e⟩
end
theorem u65 {k : Nat} {A : Around} (r : Room k A) : A.units + 65 < cLine := by have := r.un; omega
/-! ### over a tuple that holds objects of the store -/
def xiTupO (fa : SE) : SI := fun ρ S => bnd (fa ρ S) fun a S1 => match a with
  | .own i => (match S1[i]? with
    | some (.tup vs) => some (⟨vs, fun S => S[i]? = some (.tup vs)⟩, S1)
    | _ => none)
  | _ => none
theorem smi_tupO {K : PySem.W.Frag} {ta : TE} {fa : SE} (ha : SmE K ta fa) : SmI K (iTup K ta) (xiTupO fa) := ⟨fun {g ρ σ H S m r S'} I E e R k => by
  have e0 := bnd_some e; clear e; obtain ⟨a, S1, e1, e⟩ := e0
  split at e
  · rename_i i
    split at e
    · rename_i vs hs
      cases e
      refine ha.run I E e1 _ fun x H1 m1 k1 I1 r1 => ?_
      obtain ⟨p, hp, rfl⟩ := own_at r1
      obtain ⟨p', hp', ws, h2, h4⟩ := I1.get hs
      rw [hp] at hp'
      cases hp'
      refine ⟨p, rfl, ⟨ws, SqT.of h2⟩, k _ H1 m1 k1 I1 hs ⟨fun {g2 H2 S2 m2} l I2 gd => ?_⟩⟩
      obtain ⟨p', hp', ws', h5, h6⟩ := I2.get (show S2[i]? = some (.tup vs) from gd)
      obtain ⟨ms, em⟩ := l.pre
      rw [em, List.getElem?_append_left (List.getElem?_eq_some_iff.mp hp).1, hp] at hp'
      cases hp'
      refine ⟨⟨ws', SqT.of h5, by rw [h6.length]; exact Nat.le_refl _⟩, fun j x hx => ?_⟩
      obtain ⟨w, h7, h8⟩ := VsR.get h6 hx
      refine ⟨⟨ws', w, SqT.of h5, h7⟩, fun v H3 y => ?_⟩
      obtain ⟨rfl, y2⟩ := y
      have := y2 ws' (SqT.of h5)
      rw [h7] at this
      cases this
      exact ⟨.inl rfl, h8⟩
    · cases e
  · cases e⟩
end Nc
set_option Elab.async false
set_option linter.all false
set_option maxRecDepth 100000
set_option maxHeartbeats 1000000
namespace Nc
open PySem PySem.Spec PyProof.Rows L2
/-! ### dicts of the store: their keys are texts -/
def rSetD : TSet := fun o i v H Q => ∃ a H4, o = .ref a ∧ DPut H a i v H4 ∧ Q H4
theorem set_dict {X : Cx} (hu : X.A.units + 1 < cLine) : PSet X rSetD := by
  intro pins s σ H o i v ov iv u Q I ro ri rv h
  obtain ⟨a, H4, rfl, g, q⟩ := h
  obtain rfl : ov = Value.ref a := ro
  exact d_setItem hu I g ri rv fun s4 I4 => ⟨H4, I4, q⟩
section
variable {K : PySem.W.Frag} {g : Gd} {H H1 H2 H' : Hp} {m m1 m2 m' : List Addr} {S S' S1 : Sto} {ta te to tb : TE} {fa fb f : SE} {tr : TA} {fr : SA}
abbrev dkOf (ws : List (Str × V)) : HO := .dK (ws.map fun (w : Str × V) => ((Sum.inr w.1 : Key), w.2))
theorem dct_at (I : Ob K g H S m) {i : Nat} {x : V} (r : VR K g H m (.own i) x) {fs : List (Str × OV)} (h : S[i]? = some (.dct fs)) : ∃ p ws, m[i]? = some p ∧ x = .ref p ∧ H p = some (dkOf ws) ∧ FsR K g H m fs ws := by
  obtain ⟨p, hp, rfl⟩ := own_at r
  obtain ⟨p', hp', ws, h2, h4⟩ := I.get h
  rw [hp] at hp'
  cases hp'
  exact ⟨p, ws, hp, rfl, h2, h4⟩
theorem valV_str (k : Str) : ∀ ws : List (Str × V), valV (ws.map fun (w : Str × V) => ((Sum.inr w.1 : Key), w.2)) (Sum.inr k) = ws.lookup k
  | [] => rfl
  | w :: ws => by
    obtain ⟨a, v⟩ := w
    rw [List.map_cons, List.lookup_cons]
    by_cases h : a = k
    · rw [valV_pos (by rw [h]), show (k == a) = true by rw [h]; simp]
    · rw [valV_neg (fun e => h (Sum.inr.inj e)), show (k == a) = false by simpa using fun e => h e.symm]
      exact valV_str k ws
theorem putK_str (k : Str) (v : V) : ∀ ws : List (Str × V), (ws.map (·.1)).Nodup → putK (ws.map fun (w : Str × V) => ((Sum.inr w.1 : Key), w.2)) (Sum.inr k) v = (putF k v ws).map fun (w : Str × V) => ((Sum.inr w.1 : Key), w.2) := by
  intro ws
  induction ws with
  | nil => intro _; rfl
  | cons w ws ih =>
    obtain ⟨a, u⟩ := w
    intro nd
    rw [List.map_cons, List.nodup_cons] at nd
    by_cases h : a = k
    · subst h
      unfold putK
      rw [if_pos (by simp)]
      show (if (Sum.inr a : Key) = Sum.inr a then ((Sum.inr a : Key), v) else (Sum.inr a, u)) :: List.map _ (List.map _ ws) = List.map _ (if a = a then (a, v) :: ws else (a, u) :: putF a v ws)
      rw [if_pos rfl, if_pos rfl]
      show _ = ((Sum.inr a : Key), v) :: List.map _ ws
      congr 1
      rw [List.map_map]
      apply List.map_congr_left
      intro x hx
      have : x.1 ≠ a := fun e => nd.1 (by rw [← e]; exact List.mem_map.mpr ⟨x, hx, rfl⟩)
      show (if (Sum.inr x.1 : Key) = Sum.inr a then _ else _) = _
      rw [if_neg (fun e => this (Sum.inr.inj e))]
    · have ih := ih nd.2
      show _ = List.map _ (if a = k then (a, v) :: ws else (a, u) :: putF k v ws)
      rw [if_neg h]
      show _ = ((Sum.inr a : Key), u) :: List.map _ (putF k v ws)
      rw [← ih]
      unfold putK
      have hn : ¬ (Sum.inr a : Key) = Sum.inr k := fun e => h (Sum.inr.inj e)
      rw [List.map_cons, List.any_cons, decide_eq_false hn, Bool.false_or]
      split
      · rw [List.map_cons, if_neg hn]
      · rfl
def xDGet (k : Str) (fo : SE) : SE := fun ρ S => bnd (fo ρ S) fun o S1 => match o with
  | .own i => (match S1[i]? with
    | some (.dct fs) => (match fs.lookup k with
      | some v => some (v, S1)
      | none => none)
    | _ => none)
  | _ => none
theorem sm_dget {k : Str} (ho : SmE K ta fa) : SmE K (tDGet ta (tC (.str k))) (xDGet k fa) := ⟨fun {g ρ σ H S m z S'} I E e Q q => by
  have e0 := bnd_some e; clear e; obtain ⟨o, S1, e1, e⟩ := e0
  split at e
  · split at e
    · rename_i fs hs
      split at e
      · rename_i v hv
        cases e
        refine ho.run I E e1 _ fun x H1 m1 k1 I1 r1 => ?_
        obtain ⟨p, ws, hp, rfl, h2, h4⟩ := dct_at I1 r1 hs
        obtain ⟨w, h5, h6⟩ := fsR_get h4 hv
        refine ⟨p, w, rfl, ?_, q w H1 m1 k1 I1 h6⟩
        have := DGet.k (k := Sum.inr k) h2
        rw [valV_str, h5] at this
        exact this
      · cases e
    · cases e
  · cases e⟩
def ndK (fs : List (Str × OV)) : Bool := decide (fs.map (·.1)).Nodup
theorem FsR.keys : ∀ {fs : List (Str × OV)} {ws : List (Str × V)}, FsR K g H m fs ws → ws.map (·.1) = fs.map (·.1)
  | _, _, .nil => rfl
  | _, _, .cons r t => by rw [List.map_cons, List.map_cons, FsR.keys t, r.1]
/-- d[k] = e -/
def putD (k : Str) (v : OV) (i : Nat) (S : Sto) : Option Sto := match S[i]? with
  | some (.dct fs) => if fs.length < 100 ∧ ndK fs = true then some (S.set i (.dct (putO k v fs))) else none
  | _ => none
theorem putD_ok {k : Str} {v : OV} {w x : V} {i : Nat} (I : Ob K g H S m) (r : VR K g H m (.own i) x) (hv : VR K g H m v w) (e : putD k v i S = some S') : ∃ a H4, x = .ref a ∧ DPut H a (.str k) w H4 ∧ Go H m H4 m ∧ Ob K g H4 S' m := by
  unfold putD at e
  split at e
  · rename_i fs hs
    split at e
    · rename_i hc
      obtain ⟨hl, hn⟩ := hc
      cases e
      obtain ⟨p, ws, hp, rfl, h2, h4⟩ := dct_at I r hs
      have nd : (ws.map (·.1)).Nodup := by rw [FsR.keys h4]; exact of_decide_eq_true hn
      have l : (ws.map fun (w : Str × V) => ((Sum.inr w.1 : Key), w.2)).length < sizeLine := by rw [List.length_map, ← FsR.length h4]; exact Nat.lt_of_lt_of_le hl (by decide)
      have g2 := DPut.k (k := Sum.inr k) (v := w) h2 l
      rw [putK_str k w ws nd] at g2
      have kp : Go H m (upd H p (dkOf (putF k w ws))) m := Go.in hp h2 _
      exact ⟨p, _, rfl, g2, kp, I.in hp h2 ⟨_, upd_same, (fsR_put hv h4).go kp⟩⟩
    · cases e
  · cases e
def sDPut (k : Str) (fo fe : SE) : SS := fun ρ S => bnd (fe ρ S) fun v S1 => bnd (fo ρ S1) fun o S2 => match o with
  | .own i => (match putD k v i S2 with
    | some S3 => some (.nx, ρ, S3)
    | none => none)
  | _ => none
theorem sms_dput {k : Str} (he : SmE K te f) (ho : SmE K ta fa) : SmS K (tAsg te (gSub ta (tC (.str k)) rSetD)) (Nc.sDPut k fa f) := ⟨fun {g ρ ρ' σ H S S' m fl} I E e D q => by
  obtain ⟨v, S1, e1, e⟩ := bnd_some e
  obtain ⟨o, S2, e2, e⟩ := bnd_some e
  split at e
  · split at e
    · rename_i S3 h3
      cases e
      refine he.run I E e1 _ fun w H1 m1 k1 I1 r1 => ?_
      refine ho.run I1 (E.go k1) e2 _ fun x H2 m2 k2 I2 r2 => ?_
      obtain ⟨a, H4, ex, g2, k4, I4⟩ := putD_ok I2 r2 (r1.go k2) h3
      exact ⟨a, H4, ex, g2, q σ _ m2 ((k1.trans k2).trans k4) I4 (((E.go k1).go k2).go k4)⟩
    · cases e
  · cases e⟩
/-- d[k], d[l] = a, b -/
def sDPut2 (k l : Str) (i : Nat) (fr : SA) : SS := fun ρ S => bnd (fr ρ S) fun as S1 => match as, ρ[i]? with
  | [v, w], some (some (.own j)) => (match putD k v j S1 with
    | some S2 => (match putD l w j S2 with
      | some S3 => some (.nx, ρ, S3)
      | none => none)
    | none => none)
  | _, _ => none
theorem sms_dput2 {k l : Str} {i : Nat} (ha : SmA K tr fr) : SmS K (tAsg (tTup tr) (gTup K 2 (gCons (gSub (tVar i) (tC (.str k)) rSetD) (gCons (gSub (tVar i) (tC (.str l)) rSetD) gNil)))) (sDPut2 k l i fr) := ⟨fun {g ρ ρ' σ H S S' m fl} I E e D q => by
  obtain ⟨as, S1, e1, e⟩ := bnd_some e
  split at e
  · rename_i v w j hj
    split at e
    · rename_i S2 h2
      split at e
      · rename_i S3 h3
        cases e
        refine ha.run I E e1 _ fun xs H1 m1 k1 I1 r1 => ?_
        have hl := r1.length
        refine ⟨by rw [← hl]; exact sz_le (by simp), fun p hp => ?_⟩
        have k2 : Go H1 m1 (upd H1 p (.tup xs)) m1 := Go.fresh hp
        refine ⟨p, xs, rfl, SqT.of upd_same, by rw [← hl]; rfl, ?_⟩
        have I2 := I1.fresh (o := .tup xs) hp
        have r2 := VsR.go r1 k2
        cases r2 with
        | cons rv t =>
          cases t with
          | cons rw t =>
            cases t
            have E2 := (E.go k1).go k2
            obtain ⟨x, hx, rx⟩ := E2.at_ i _ hj
            obtain ⟨a, H3, ex, g3, k3, I3⟩ := putD_ok I2 rx rv h2
            have rx3 := rx.go k3
            have rw3 := rw.go k3
            obtain ⟨a2, H4, ex2, g4, k4, I4⟩ := putD_ok I3 rx3 rw3 h3
            refine ⟨_, _, rfl, ?_⟩
            refine ⟨x, hx, a, H3, ex, g3, _, _, rfl, x, hx, a2, H4, ex2, g4, rfl, ?_⟩
            exact q σ _ m1 (((k1.trans k2).trans k3).trans k4) I4 ((E2.go k3).go k4)
      · cases e
    · cases e
  · cases e⟩
/-! ### displays -/
structure SmP (K : PySem.W.Frag) (ks : List Str) (trs : List (TE × TE)) (f : SA) : Prop where
  run : ∀ {g : Gd} {ρ : Env} {σ : L2.St} {H : Hp} {S : Sto} {m : List Addr} {r : List OV} {S' : Sto}, Ob K g H S m → EnvR K g H m ρ σ → f ρ S = some (r, S') →
    ∀ Q : List (V × V) → Hp → Prop, (∀ (ws : List (Str × V)) H' m', Go H m H' m' → Ob K g H' S' m' → FsR K g H' m' (ks.zip r) ws → r.length = ks.length → Q (ws.map fun w => (.str w.1, w.2)) H') → tPairs trs σ H Q
theorem smp_nil : SmP K [] [] xNil := ⟨fun {g ρ σ H S m z S'} I E e Q q => by
  cases e
  exact q [] H m Go.refl I .nil rfl⟩
theorem smp_cons {k : Str} {ks : List Str} {trs : List (TE × TE)} (ha : SmE K ta fa) (hr : SmP K ks trs fr) : SmP K (k :: ks) ((tC (.str k), ta) :: trs) (xCons fa fr) := ⟨fun {g ρ σ H S m z S'} I E e Q q => by
  obtain ⟨v, S1, e1, e⟩ := bnd_some e
  obtain ⟨as, S2, e2, e⟩ := bnd_some e
  cases e
  refine ha.run I E e1 _ fun w H1 m1 k1 I1 r1 => ?_
  refine hr.run I1 (E.go k1) e2 _ fun ws H2 m2 k2 I2 r2 hl => ?_
  exact q ((k, w) :: ws) H2 m2 (k1.trans k2) I2 (.cons ⟨rfl, r1.go k2⟩ r2) (by rw [List.length_cons, List.length_cons, hl])⟩
theorem merge_str : ∀ (more acc : List (Str × V)), ((acc ++ more).map (·.1)).Nodup → mergeK (acc.map fun (w : Str × V) => ((Sum.inr w.1 : Key), w.2)) (more.map fun (w : Str × V) => ((Sum.inr w.1 : Key), w.2)) = (acc ++ more).map fun (w : Str × V) => ((Sum.inr w.1 : Key), w.2)
  | [], acc, _ => by rw [List.append_nil]; rfl
  | w :: more, acc, h => by
    have h2 : ((acc ++ [w] ++ more).map (·.1)).Nodup := by rw [List.append_assoc]; exact h
    have ih := merge_str more (acc ++ [w]) h2
    rw [List.append_assoc] at ih
    rw [← show acc ++ ([w] ++ more) = acc ++ w :: more from rfl, ← ih]
    show mergeK (putK _ (Sum.inr w.1) w.2) _ = _
    rw [putK_new, List.map_append]
    · rfl
    · rw [valV_str]
      rw [List.map_append, List.map_cons, List.nodup_append] at h
      have hn : ∀ x ∈ acc, w.1 ≠ x.1 := fun x hx e => h.2.2 x.1 (List.mem_map.mpr ⟨x, hx, rfl⟩) w.1 List.mem_cons_self e.symm
      clear ih h h2
      induction acc with
      | nil => rfl
      | cons x acc ih =>
        rw [List.lookup_cons, show (w.1 == x.1) = false by simpa using hn x List.mem_cons_self]
        exact ih fun y hy => hn y (List.mem_cons_of_mem _ hy)
noncomputable def xDisp (ks : List Str) (fr : SA) : SE := fun ρ S => bnd (fr ρ (S ++ [.dct []])) fun as S1 => chk (S1[S.length]? = some (.dct [])) (if ks.length ≤ 15 ∧ ks.Nodup then some (.own S.length, S1.set S.length (.dct (ks.zip as))) else none)
theorem sm_disp {ks : List Str} {trs : List (TE × TE)} (hr : SmP K ks trs fr) : SmE K (tDisp trs) (xDisp ks fr) := ⟨fun {g ρ σ H S m z S'} I E e Q q => fun p np => by
  obtain ⟨as, S1, e1, e⟩ := bnd_some e
  obtain ⟨hs, e⟩ := chk_some e
  split at e
  · rename_i hk
    obtain ⟨h15, nd⟩ := hk
    cases e
    have k1 : Go H m (upd H p (.dK [])) (m ++ [p]) := Go.add np
    have I1 : Ob K g (upd H p (.dK [])) (S ++ [.dct []]) (m ++ [p]) := I.add np ⟨[], upd_same, .nil⟩
    refine hr.run I1 (E.go k1) e1 _ fun ws H2 m2 k2 I2 r2 hl => ?_
    have hx : (m ++ [p])[S.length]? = some p := by rw [← I.len]; simp
    obtain ⟨ms, em⟩ := k2.pre
    have hx2 : m2[S.length]? = some p := by rw [em, List.getElem?_append_left (List.getElem?_eq_some_iff.mp hx).1]; exact hx
    obtain ⟨p', hp', ws0, h2, h4⟩ := I2.get hs
    rw [hx2] at hp'
    cases hp'
    cases h4
    have kn : ws.map (·.1) = ks := by
      rw [FsR.keys r2]
      exact List.map_fst_zip (by omega)
    have hlen : ws.length ≤ 15 := by
      have := congrArg List.length kn
      rw [List.length_map] at this
      omega
    refine ⟨h2, ws.map fun (w : Str × V) => ((Sum.inr w.1 : Key), w.2), by rw [List.map_map]; rfl, by rw [List.length_map]; exact hlen, ?_⟩
    have mg := merge_str ws [] (by rw [List.nil_append, kn]; exact nd)
    rw [List.nil_append] at mg
    show Q (.ref p) (upd H2 p (.dK (mergeK [] _)))
    rw [show mergeK [] (ws.map fun (w : Str × V) => ((Sum.inr w.1 : Key), w.2)) = ws.map fun (w : Str × V) => ((Sum.inr w.1 : Key), w.2) from mg]
    have kp : Go H2 m2 (upd H2 p (dkOf ws)) m2 := Go.in hx2 h2 _
    exact q (.ref p) _ m2 ((k1.trans k2).trans kp) (I2.in hx2 h2 ⟨ws, upd_same, r2.go kp⟩) ⟨p, hx2, rfl⟩
  · cases e⟩
end
end Nc
set_option Elab.async false
set_option linter.all false
set_option maxRecDepth 100000
set_option maxHeartbeats 1000000
namespace Nc
open PySem PySem.Spec PyProof.Rows L2
/-! ### each c-th item from lo on -/
def pickI (n : Nat) (lo : Option Int) (c : Int) : List Nat := sliceRange (sliceBounds lo none (some c) n).1 (sliceBounds lo none (some c) n).2.1 (sliceBounds lo none (some c) n).2.2
def stepL {α : Type} (xs : List α) (lo : Option Int) (c : Int) : List α := (pickI xs.length lo c).filterMap fun i => xs[i]?
theorem paired_get {α β : Type} {R : α → β → Prop} : ∀ {xs : List α} {ys : List β}, Paired R xs ys → ∀ i : Nat, (xs[i]? = none ∧ ys[i]? = none) ∨ ∃ x y, xs[i]? = some x ∧ ys[i]? = some y ∧ R x y
  | _, _, .nil, i => .inl ⟨by simp, by simp⟩
  | _, _, .cons r t, 0 => .inr ⟨_, _, rfl, rfl, r⟩
  | _, _, .cons r t, i + 1 => by
    rw [List.getElem?_cons_succ, List.getElem?_cons_succ]
    exact paired_get t i
theorem paired_pick {α β : Type} {R : α → β → Prop} {xs : List α} {ys : List β} (h : Paired R xs ys) : ∀ is : List Nat, Paired R (is.filterMap fun i => xs[i]?) (is.filterMap fun i => ys[i]?)
  | [] => .nil
  | i :: is => by
    rw [List.filterMap_cons, List.filterMap_cons]
    rcases paired_get h i with ⟨h1, h2⟩ | ⟨x, y, h1, h2, h3⟩
    · rw [h1, h2]; exact paired_pick h is
    · rw [h1, h2]; exact .cons h3 (paired_pick h is)
theorem paired_step {α β : Type} {R : α → β → Prop} {xs : List α} {ys : List β} (h : Paired R xs ys) (lo : Option Int) (c : Int) : Paired R (stepL xs lo c) (stepL ys lo c) := by
  unfold stepL
  rw [h.length]
  exact paired_pick h _
theorem step_pick (its : List Value) (lo : Option Int) (c : Int) : slicePick its.toArray lo none (some c) = (stepL its lo c).toArray := by
  unfold slicePick stepL pickI
  rw [List.size_toArray]
  simp only [List.getElem?_toArray]
theorem step_len {α : Type} (xs : List α) (lo : Option Int) (c : Int) : (stepL xs lo c).length ≤ xs.length := by
  have h := slicePick_size_le (xs.map fun _ => Value.none).toArray lo none (some c)
  rw [step_pick, List.size_toArray, List.size_toArray] at h
  have e : ((stepL (xs.map fun _ => Value.none) lo c)).length = (stepL xs lo c).length := by
    unfold stepL
    rw [List.length_map]
    generalize pickI xs.length lo c = is
    induction is with
    | nil => rfl
    | cons i is ih =>
      rw [List.filterMap_cons, List.filterMap_cons, List.getElem?_map]
      cases xs[i]? with
      | none => exact ih
      | some x => simp only [Option.map_some, List.length_cons, ih]
  rw [e, List.length_map] at h
  exact h
theorem step_mem {α : Type} {xs : List α} {lo : Option Int} {c : Int} {x : α} (h : x ∈ stepL xs lo c) : x ∈ xs := by
  unfold stepL at h
  obtain ⟨i, _, e⟩ := List.mem_filterMap.mp h
  exact List.mem_of_getElem? e
theorem step_map {α β : Type} (f : α → β) (xs : List α) (lo : Option Int) (c : Int) : stepL (xs.map f) lo c = (stepL xs lo c).map f := by
  unfold stepL
  rw [List.length_map, List.map_filterMap]
  congr 1
  funext i
  rw [List.getElem?_map]
def tStep (K : PySem.W.Frag) (te : TE) (tl ts : TO) : TE := fun σ H Q => te σ H fun x H1 => tl σ H1 fun lo H2 => ts σ H2 fun o H3 => ∃ a xs c, x = .ref a ∧ o = some c ∧ 0 < c ∧ SqL K H3 a xs ∧ ∀ p, H3 p = none → Q (.ref p) (upd H3 p (.lst (stepL xs lo c)))
theorem pe_step {X : Cx} {e sx : Expr} {lo : Option Expr} {te : TE} {tl ts : TO} {p3 pos : Pos} (he : PE X e te) (hl : PO X lo tl) (hs : PO X (some sx) ts)
    (hu : ∀ (v : Value) (sl : Addr), subscriptTail e (.Slice lo none (some sx) p3) v (.ref sl) = subscriptTail e (.Slice lo none (some sx) p3) v (.ref sl) := by intro _ _; rfl) : PE X (.Subscript e (.Slice lo none (some sx) p3) pos) (tStep X.K te tl ts) := by
  refine ⟨fun pins s σ H Q I h => ?_⟩
  refine Subscript_ (thn (he.run pins s σ H _ I h) fun v s1 ⟨x, H1, I1, r1, q1⟩ => ?_)
  refine wpAny_Slice (thn (hl.run pins s1 σ H1 _ I1 q1) fun vl s2 ⟨l, H2, I2, pl, q2⟩ => ?_)
  refine thn (po_none.run pins s2 σ H2 (fun o H3 => o = none ∧ H3 = H2) I2 ⟨rfl, rfl⟩) fun vu s3 ⟨u, H3, I3, pu, eu, e3⟩ => ?_
  subst eu e3
  refine thn (hs.run pins s3 σ H3 _ I3 q2) fun vs s4 ⟨o, H4, I4, ps, a, xs, c, ex, eo, hc, hx, q⟩ => ?_
  subst ex eo
  cases r1
  have I5 : Inv X pins σ H4 { s4 with heap := s4.heap.push { cls := .type "slice", data := .fields #[vl, vu, vs] } } := I4.kept (t' := s4.toks) fun b ob q => Heap.get?_push_of_some _ q
  obtain ⟨its, r, ht, hz⟩ := I5.list hx
  have hlen := r.length
  show wpAny (model X.prog X.w) X.A (subscriptTail e (.Slice lo none (some sx) p3) (.ref a) (.ref s4.heap.objs.size)) (EP X pins σ Q) X.xe { s4 with heap := s4.heap.push { cls := .type "slice", data := .fields #[vl, vu, vs] } }
  refine tail_any (ops := [.ref a, .ref s4.heap.objs.size]) ht.isList.typeIs (PySem.slot_list_getitem.lookup) ?_ (by with_unfolding_all rfl)
  refine wpAny_getItem_list_slice ht.isList (Heap.IsSliceOf.new _ vl vu vs) pl pu ps (by simp; omega) ?_ (by rw [List.size_toArray]; omega)
  rw [step_pick]
  refine ⟨.ref _, _, I5.laid (t' := s4.toks) (o := .lst (stepL xs l c)) (fun b ob q => Heap.get?_push_of_some _ q) (Nat.le_refl _) ?_, rfl, q _ (I5.hok.fresh (Nat.le_refl _))⟩
  exact ⟨Nat.le_trans (step_len xs l c) hz, _, 0, paired_step r l c, Heap.get?_push_size _ rfl⟩
section
variable {K : PySem.W.Frag} {g : Gd} {H H1 H2 H' : Hp} {m m1 m2 m' : List Addr} {S S' S1 : Sto} {ta te to tb : TE} {fa fb f : SE} {tl ts : TO} {fl fs : SO}
def xStep (fa : SE) (fl fs : SO) : SA := fun ρ S => bnd (fa ρ S) fun a S1 => bnd (fl ρ S1) fun lo S2 => bnd (fs ρ S2) fun st S3 => match seqItems S3 a, st with
  | some vs, some c => if 0 < c then some (stepL vs lo c, S3) else none
  | _, _ => none
theorem sml_step (ha : SmE K ta fa) (hl : SmO K tl fl) (hs : SmO K ts fs) : SmL K (tStep K ta tl ts) (xStep fa fl fs) := ⟨fun {g ρ σ H S m z S'} I E e Q k => by
  obtain ⟨a, S1, e1, e⟩ := bnd_some e
  obtain ⟨lo, S2, e2, e⟩ := bnd_some e
  obtain ⟨hi, S3, e3, e⟩ := bnd_some e
  refine ha.run I E e1 _ fun x H1 m1 k1 I1 r1 => ?_
  refine hl.run I1 (E.go k1) e2 _ fun H2 m2 k2 I2 => ?_
  refine hs.run I2 ((E.go k1).go k2) e3 _ fun H3 m3 k3 I3 => ?_
  split at e
  · rename_i vs c h
    split at e
    · rename_i hc
      cases e
      obtain ⟨p, ws, rfl, h2, h3⟩ := seqItems_ok I3 ((r1.go k2).go k3) h
      exact ⟨p, ws, c, rfl, rfl, hc, h2, fun q hq => lay I3 ((k1.trans k2).trans k3) (paired_step h3 lo c) k q hq⟩
    · cases e
  · cases e⟩
end
end Nc
set_option Elab.async false
set_option linter.all false
set_option maxRecDepth 100000
set_option maxHeartbeats 1000000
namespace Nc
open PySem PySem.Spec PyProof.Rows L2
/-! ### sorted of a list of tuples that read as data, any length -/
def sortD (ds : List PyData) : List PyData := ds.mergeSort (PySem.W.dataLe false fun d => d)
def rSortD (K : PySem.W.Frag) : List V → Hp → VK → Prop := fun vs H Q => ∃ (a : Addr) (xs : List V) (ds : List PyData) (R : V → PyData → Prop), vs = [.ref a] ∧ SqL K H a xs ∧ Paired R xs ds ∧ DpAll K H xs ds ∧ PySem.W.AllAlike ds ∧ PySem.W.Sortable ds ∧ ds.length ≤ sizeLine ∧ (∀ d ∈ ds, d.depth ≤ 60) ∧
  ∀ (ys : List V) (p : Addr), Paired R ys (sortD ds) → H p = none → Q (.ref p) (upd H p (.lst ys))
theorem each_two {R : V → PyData → Prop} : ∀ {xs : List V} {its : List Value} {ds : List PyData}, Vals xs its → Paired R xs ds → PySem.W.EachIs (fun v d => ∃ x, RelV x v ∧ R x d) its ds
  | _, _, _, .nil, .nil => .nil
  | _, _, _, .cons r t, .cons q u => .cons ⟨_, r, q⟩ (each_two t u)
theorem each_reads {X : Cx} {pins : List (Addr × Obj)} {σ : L2.St} {H : Hp} {s : Shared} (I : Inv X pins σ H s) : ∀ {xs : List V} {its : List Value} {ds : List PyData}, Vals xs its → DpAll X.K H xs ds → PySem.W.EachIs (fun v d => ∃ as, Reads s.heap v d as) its ds
  | _, _, _, .nil, .nil => .nil
  | _, _, _, .cons r t, .cons q u => .cons (Dp.reads I _ _ _ q r) (each_reads I t u)
theorem each_back {R : V → PyData → Prop} : ∀ {out : List Value} {ds : List PyData}, PySem.W.EachIs (fun v d => ∃ x, RelV x v ∧ R x d) out ds → ∃ ys, Vals ys out ∧ Paired R ys ds
  | _, _, .nil => ⟨[], .nil, .nil⟩
  | _, _, .cons ⟨x, r, q⟩ t => by
    obtain ⟨ys, h1, h2⟩ := each_back t
    exact ⟨x :: ys, .cons r h1, .cons q h2⟩
theorem cr_sortD {X : Cx} (hu : X.A.units + 65 < cLine) : CallR X (.builtin "sorted") (rSortD X.K) := by
  intro pins s σ H vs us Q I r h
  obtain ⟨a, xs, ds, R, rfl, hs, hR, hd, hal, hk, hl, hdep, q⟩ := h
  obtain ⟨its, rv, hli, hz⟩ := I.list hs
  obtain ⟨u, rfl, ru⟩ := vals1 r
  obtain rfl : u = Value.ref a := ru
  have em : ds.map (fun d => d) = ds := List.map_id' ds
  refine PySem.W.sorted_data (vs := its) (bs := ds) (enc := fun d => d) (R := fun v d => ∃ x, RelV x v ∧ R x d) hli.isList (each_two rv hR) (each_reads I rv hd) (by rw [em]; exact hal) (by rw [em]; exact hk) hl (fun d hm => by have := hdep d hm; omega) fun out hlen he => ?_
  obtain ⟨ys, h1, h2⟩ := each_back he
  obtain ⟨n, hn⟩ := sortedAll_at s.heap its out.toArray
  have hb := I.hok.fresh (Nat.le_succ s.heap.objs.size)
  refine ⟨.ref (s.heap.objs.size + 1), upd H (s.heap.objs.size + 1) (.lst ys), I.laid (t' := s.toks) (fun b o e => sortedAll_old e) (Nat.le_succ _) ⟨?_, out, n, h1, hn⟩, rfl, q ys _ h2 hb⟩
  rw [h1.length, hlen]
  exact hl
def isTup1 : PyData → Bool
  | .tuple (_ :: _) => true
  | _ => false
def datsF : List OV → Option (List PyData)
  | [] => some []
  | .dat false d :: r => (datsF r).map (d :: ·)
  | _ :: _ => none
def oSortD : List OV → Sto → Option (List OV)
  | [a], S => match seqItems S a with
    | some vs => (match datsF vs with
      | some ds => if ds.length ≤ 100000 ∧ (ds.all fun d => isTup1 d && decide (d.depth ≤ 60)) = true ∧ (ds.all fun d => ds.all fun e => PySem.W.alike d e) = true then some ((sortD ds).map fun d => .dat false d) else none
      | none => none)
    | none => none
  | _, _ => none
theorem datsF_eq : ∀ {vs : List OV} {ds : List PyData}, datsF vs = some ds → vs = ds.map fun d => .dat false d
  | [], _, e => by cases e; rfl
  | .dat false d :: r, _, e => by
    unfold datsF at e
    cases h : datsF r with
    | none => rw [h] at e; cases e
    | some es =>
      rw [h] at e
      cases e
      rw [datsF_eq h]
      rfl
  | .dat true _ :: _, _, e => by cases e
  | .own _ :: _, _, e => by cases e
  | .scr _ :: _, _, e => by cases e
section
variable {K : PySem.W.Frag} {g : Gd} {H : Hp} {m : List Addr} {S : Sto}
theorem vs_paired : ∀ {ds : List PyData} {ws : List V}, VsR K g H m (ds.map fun d => .dat false d) ws → Paired (fun x d => DatAt g H m false x d) ws ds
  | [], _, .nil => .nil
  | _ :: _, _, .cons r t => .cons r (vs_paired t)
theorem paired_vs : ∀ {ds : List PyData} {ws : List V}, Paired (fun x d => DatAt g H m false x d) ws ds → VsR K g H m (ds.map fun d => .dat false d) ws
  | _, _, .nil => .nil
  | _, _, .cons r t => .cons r (paired_vs t)
theorem paired_dp : ∀ {ds : List PyData} {ws : List V}, Paired (fun x d => DatAt g H m false x d) ws ds → DpAll K H ws ds
  | _, _, .nil => .nil
  | _, _, .cons r t => .cons (DatAt.dq r).dp (paired_dp t)
theorem rl_sortD : RCL K (rSortD K) oSortD := ⟨fun {g H S m as vs xs} I ra e Q k => by
  unfold oSortD at e
  split at e
  · split at e
    · rename_i us h
      split at e
      · rename_i ds hd
        split at e
        · rename_i hc
          cases e
          obtain ⟨hl, ht, ha⟩ := hc
          obtain ⟨x, rfl, r⟩ := VsR.one ra
          obtain ⟨p, ws, rfl, h2, h3⟩ := seqItems_ok I r h
          rw [datsF_eq hd] at h3
          have h4 := vs_paired h3
          have ht2 := List.all_eq_true.mp ht
          refine ⟨p, ws, ds, _, rfl, h2, h4, paired_dp h4, fun d hd d' hd' => List.all_eq_true.mp (List.all_eq_true.mp ha d hd) d' hd', .inl fun d hd => ?_, sz_le hl, fun d hd => ?_, fun ys q hy hq => k ys (paired_vs hy) q hq⟩
          · have := ht2 d hd
            simp only [Bool.and_eq_true] at this
            have h5 := this.1
            cases d with
            | tuple xs =>
              cases xs with
              | nil => cases h5
              | cons x r => exact ⟨x, r, rfl⟩
            | _ => cases h5
          · have := ht2 d hd
            simp only [Bool.and_eq_true, decide_eq_true_eq] at this
            exact this.2
        · cases e
      · cases e
    · cases e
  · cases e⟩
end
/-! ### what sorts to the same -/
theorem le_iff (a b : PyData) : PySem.W.dataLe false (fun d : PyData => d) a b = !PyProof.Rows.lexLt PyProof.Rows.itemOrd (PySem.W.keyToks b) (PySem.W.keyToks a) := rfl
theorem sortD_perm (ds : List PyData) : (sortD ds).Perm ds := List.mergeSort_perm _ _
theorem sortD_sorted (ds : List PyData) : (sortD ds).Pairwise fun a b => PySem.W.dataLe false (fun d : PyData => d) a b = true := by
  refine List.pairwise_mergeSort (fun a b c h1 h2 => ?_) (fun a b => ?_) ds
  · rw [le_iff, Bool.not_eq_true'] at *
    cases h : PyProof.Rows.lexLt PyProof.Rows.itemOrd (PySem.W.keyToks c) (PySem.W.keyToks a) with
    | false => rfl
    | true =>
      rcases PyProof.Rows.lex_negTrans (O := PyProof.Rows.itemOrd) _ (PySem.W.keyToks b) _ h with h3 | h3
      · rw [h2] at h3; cases h3
      · rw [h1] at h3; cases h3
  · rw [le_iff, le_iff]
    cases h : PyProof.Rows.lexLt PyProof.Rows.itemOrd (PySem.W.keyToks b) (PySem.W.keyToks a) with
    | false => rfl
    | true =>
      cases h2 : PyProof.Rows.lexLt PyProof.Rows.itemOrd (PySem.W.keyToks a) (PySem.W.keyToks b) with
      | false => rfl
      | true =>
        have := PyProof.Rows.lex_trans (O := PyProof.Rows.itemOrd) _ _ _ h h2
        rw [PyProof.Rows.lex_irrefl] at this
        cases this
theorem sortD_eq {ds es : List PyData} (hi : ∀ d ∈ ds, ∀ e ∈ ds, PySem.W.keyToks d = PySem.W.keyToks e → d = e) (hp : es.Perm ds) (hs : es.Pairwise fun a b => PySem.W.dataLe false (fun d : PyData => d) a b = true) : sortD ds = es := by
  refine List.Perm.eq_of_pairwise (le := fun a b => PySem.W.dataLe false (fun d : PyData => d) a b = true) (fun a b ha hb h1 h2 => ?_) (sortD_sorted ds) hs ((sortD_perm ds).trans hp.symm)
  rw [le_iff, Bool.not_eq_true'] at h1 h2
  exact hi a ((sortD_perm ds).mem_iff.mp ha) b (hp.mem_iff.mp hb) (PyProof.Rows.lex_total (O := PyProof.Rows.itemOrd) _ _ h2 h1)
theorem sortD_same {ds es : List PyData} (hi : ∀ d ∈ ds, ∀ e ∈ ds, PySem.W.keyToks d = PySem.W.keyToks e → d = e) (hp : es.Perm ds) : sortD ds = sortD es := sortD_eq hi ((sortD_perm es).trans hp) (sortD_sorted es)
end Nc
set_option Elab.async false
set_option linter.all false
set_option maxRecDepth 100000
set_option maxHeartbeats 4000000
namespace Nc
open PySem PySem.Spec PyProof.Rows L2
noncomputable section
def body_is_whole : SS := (sRet (xAndV (xIsi "int" (xVar 0)) (xNotV (xIsi "bool" (xVar 0)))))
def sem_is_whole : Sem2 := callS 1 1 body_is_whole
def body_is_between : SS := (sRet (xAndV (xCallF sem_is_whole 1 (xCons (xVar 0) xNil)) (xChain (oBl fun i j => decide (i ≤ j)) (oBl fun i j => decide (i ≤ j)) (xVar 1) (xVar 0) (xVar 2))))
def sem_is_between : Sem2 := callS 3 3 body_is_between
def body_is_level : SS := (sSeq (sIf (xOr (xNot (xB (xIsi "tuple" (xVar 0)))) (xOr (xB (xOp (oEq true) (xCB oLen (xCons (xVar 0) xNil)) (xC (.int 3)))) (xNot (xB (xIsi "list" (xOp oIx (xVar 0) (xC (.int 0)))))))) (sRet (xC (.bool false))) sNext)
  (sSeq (sIf (xOr (xNot (xB (xChain (oBl fun i j => decide (i ≤ j)) (oBl fun i j => decide (i ≤ j)) (xC (.int 1)) (xCB oLen (xCons (xOp oIx (xVar 0) (xC (.int 0))) xNil)) (xC (.int 3))))) (xNot (xB (xCB (oAll false) (xCons (xDat (xLc (xiList (xOp oIx (xVar 0) (xC (.int 0)))) (bName 1) xYes (xCallF sem_is_between 3 (xCons (xVar 1) (xCons (xC (.int 0)) (xCons (xC (.int 7)) xNil)))) [1])) xNil))))) (sRet (xC (.bool false))) sNext)
  (sSeq (sIf (xB (xCB (oAll true) (xCons (xDat (xLc (xiZip (xCons (xOp oIx (xVar 0) (xC (.int 0))) (xCons (xDat (xSl (xOp oIx (xVar 0) (xC (.int 0))) (xPart (xC (.int 1))) xNoPart)) xNil))) (bTup 2 (bCons (bName 1) (bCons (bName 2) bNil))) xYes (xOp (oBl fun i j => decide (j ≤ i)) (xVar 1) (xVar 2)) [1, 2])) xNil))) (sRet (xC (.bool false))) sNext)
  (sRet (xAndV (xCallF sem_is_between 3 (xCons (xOp oIx (xVar 0) (xC (.int 1))) (xCons (xC (.int 1)) (xCons (xC (.int 9)) xNil)))) (xCallF sem_is_between 3 (xCons (xOp oIx (xVar 0) (xC (.int 2))) (xCons (xC (.int 1)) (xCons (xC (.int 5)) xNil)))))))))
def sem_is_level : Sem2 := callS 1 3 body_is_level
def body_people_of : SS := (sSeq (sAsg (xOwn (xLst xNil)) (bName 1))
  (sSeq (sFor (xiList (xVar 0)) (bTup 3 (bCons (bName 2) (bCons (bName 3) (bCons (bName 4) bNil)))) (sDrop (xExt (xVar 1) (xVar 2))) [2, 3, 4])
  (sRet (xVar 1))))
def sem_people_of : Sem2 := callS 1 5 body_people_of
def body_check_chain : SS := (sSeq (sIf (xOr (xNot (xB (xIsi "list" (xVar 0)))) (xOr (xNot (xB (xChain (oBl fun i j => decide (i ≤ j)) (oBl fun i j => decide (i ≤ j)) (xC (.int 1)) (xCB oLen (xCons (xVar 0) xNil)) (xC (.int 4))))) (xNot (xB (xCB (oAll false) (xCons (xDat (xLc (xiList (xVar 0)) (bName 1) xYes (xCallF sem_is_level 1 (xCons (xVar 1) xNil)) [1])) xNil)))))) sNever sNext)
  (sSeq (sAsg (xCallF sem_people_of 1 (xCons (xVar 0) xNil)) (bName 2))
  (sIf (xB (xOp (oEq true) (xLenSet (xVar 2)) (xCB oLen (xCons (xVar 2) xNil)))) sNever sNext)))
def sem_check_chain : Sem2 := callS 1 3 body_check_chain
def body_is_word : SS := (sSeq (sIf (xOr (xNot (xB (xIsi "tuple" (xVar 0)))) (xOr (xB (xOp (oBl fun i j => decide (i < j)) (xCB oLen (xCons (xVar 0) xNil)) (xC (.int 4)))) (xB (xOp (oIn true) (xOp oIx (xVar 0) (xC (.int 0))) (xTup (xCons (xC (.str "take")) (xCons (xC (.str "off")) (xCons (xC (.str "done")) xNil)))))))) (sRet (xC (.bool false))) sNext)
  (sSeq (sIf (xOr (xB (xOp (oEq true) (xCB oLen (xCons (xVar 0) xNil)) (xIf (xB (xOp (oEq false) (xOp oIx (xVar 0) (xC (.int 0))) (xC (.str "off")))) (xC (.int 5)) (xC (.int 4))))) (xOr (xNot (xB (xCallF sem_is_whole 1 (xCons (xOp oIx (xVar 0) (xC (.int 1))) xNil)))) (xB (xOp (oIn true) (xOp oIx (xVar 0) (xC (.int 1))) (xVar 1))))) (sRet (xC (.bool false))) sNext)
  (sSeq (sIf (xOr (xNot (xB (xCallF sem_is_between 3 (xCons (xOp oIx (xVar 0) (xC (.int 2))) (xCons (xC (.int 0)) (xCons (xC (.int 40)) xNil)))))) (xNot (xB (xCallF sem_is_between 3 (xCons (xOp oIx (xVar 0) (xC (.int 3))) (xCons (xOp oIx (xVar 0) (xC (.int 2))) (xCons (xC (.int 60)) xNil))))))) (sRet (xC (.bool false))) sNext)
  (sRet (xOrV (xOp (oEq true) (xOp oIx (xVar 0) (xC (.int 0))) (xC (.str "off"))) (xCallF sem_is_between 3 (xCons (xOp oIx (xVar 0) (xC (.int 4))) (xCons (xC (.int 1)) (xCons (xC (.int 20)) xNil)))))))))
def sem_is_word : Sem2 := callS 2 2 body_is_word
def body_check_words : SS := (sSeq (sDrop (xCallF sem_check_chain 1 (xCons (xVar 0) xNil)))
  (sSeq (sIf (xOr (xNot (xB (xIsi "list" (xVar 1)))) (xB (xOp (oBl fun i j => decide (j < i)) (xCB oLen (xCons (xVar 1) xNil)) (xC (.int 12))))) sNever sNext)
  (sIf (xNot (xB (xCB (oAll false) (xCons (xDat (xLc (xiList (xVar 1)) (bName 2) xYes (xCallF sem_is_word 2 (xCons (xVar 2) (xCons (xCallF sem_people_of 1 (xCons (xVar 0) xNil)) xNil))) [2])) xNil)))) sNever sNext)))
def sem_check_words : Sem2 := callS 2 3 body_check_words
def body_check_hold : SS := (sIf (xNot (xB (xCallF sem_is_between 3 (xCons (xVar 0) (xCons (xC (.int 0)) (xCons (xC (.int 60)) xNil)))))) sNever sNext)
def sem_check_hold : Sem2 := callS 1 1 body_check_hold
def body_level_at : SS := (sSeq (sFor (xiList (xVar 0)) (bTup 3 (bCons (bName 2) (bCons (bName 3) (bCons (bName 4) bNil)))) (sSeq (sIf (xB (xOp (oBl fun i j => decide (i < j)) (xVar 1) (xOp (oIntC mulN fun i j => i * j) (xVar 3) (xVar 4)))) (sRet (xTup (xCons (xDat (xCL oList (xCons (xVar 2) xNil))) (xCons (xOp (oEq false) (xOp (oIntC modN fun i j => i % j) (xVar 1) (xVar 3)) (xC (.int 0))) xNil)))) sNext)
  (sAug 1 (fun i j => i - j) (xOp (oIntC mulN fun i j => i * j) (xVar 3) (xVar 4)))) [2, 3, 4])
  (sRet (xTup (xCons (xDat (xLst xNil)) (xCons (xC (.bool false)) xNil)))))
def sem_level_at : Sem2 := callS 2 5 body_level_at
def body_every_of : SS := (sRet (xOp oIx (xDat (xLc (xiList (xVar 0)) (bTup 3 (bCons (bName 2) (bCons (bName 3) (bCons (bName 4) bNil)))) (xB (xOp (oIn false) (xVar 1) (xVar 2))) (xVar 3) [2, 3, 4])) (xC (.int 0))))
def sem_every_of : Sem2 := callS 2 5 body_every_of
def body_Matter_init : SS := (sSeq (sFldS "Matter" "chain" (xVar 0) (xVar 1))
  (sSeq (sFldS "Matter" "clock" (xVar 0) (xC (.int 0)))
  (sSeq (sFldS "Matter" "quiet_to" (xVar 0) (xC (.int 0)))
  (sSeq (sFldS "Matter" "taker" (xVar 0) (xC .none))
  (sSeq (sFldS "Matter" "since" (xVar 0) (xC (.int 0)))
  (sFldS "Matter" "over" (xVar 0) (xC (.bool false))))))))
def sem_Matter_init : Sem2 := callS 2 2 body_Matter_init
def body_Matter_told : SS := (sSeq (sAsg (xDat (xCL oSorted (xCons (xDat (xLc (xiList (xVar 1)) (bName 3) (xAnd (xB (xOp (oEq false) (xOp oIx (xVar 3) (xC (.int 0))) (xC (.str "take")))) (xB (xOp (oEq false) (xOp oIx (xVar 3) (xC (.int 2))) (xVar 2)))) (xOp oIx (xVar 3) (xC (.int 1))) [3])) xNil))) (bName 4))
  (sSeq (sIf (xAnd (xB (xOp (oIsN false) (xFld "Matter" "taker" (xVar 0)) (xC .none))) (xB (xOp (oEq true) (xVar 4) (xDat (xLst xNil))))) (sSeq (sFldS "Matter" "taker" (xVar 0) (xOp oIx (xVar 4) (xC (.int 0))))
  (sFldS "Matter" "since" (xVar 0) (xFld "Matter" "clock" (xVar 0)))) sNext)
  (sSeq (sIf (xB (xOp (oEq true) (xDat (xLc (xiList (xVar 1)) (bName 3) (xAnd (xB (xOp (oEq false) (xOp oIx (xVar 3) (xC (.int 0))) (xC (.str "done")))) (xB (xOp (oEq false) (xOp oIx (xVar 3) (xC (.int 2))) (xVar 2)))) (xVar 3) [3])) (xDat (xLst xNil)))) (sFldS "Matter" "over" (xVar 0) (xC (.bool true))) sNext)
  (sSeq (sAsg (xIf (xB (xOp (oIsN true) (xFld "Matter" "taker" (xVar 0)) (xC .none))) (xDat (xLst (xCons (xFld "Matter" "taker" (xVar 0)) xNil))) (xOp oIx (xCallF sem_level_at 2 (xCons (xFld "Matter" "chain" (xVar 0)) (xCons (xFld "Matter" "clock" (xVar 0)) xNil))) (xC (.int 0)))) (bName 5))
  (sFor (xiList (xVar 1)) (bName 3) (sIf (xAnd (xB (xOp (oEq false) (xOp oIx (xVar 3) (xC (.int 0))) (xC (.str "off")))) (xAnd (xB (xOp (oEq false) (xOp oIx (xVar 3) (xC (.int 2))) (xVar 2))) (xB (xOp (oIn false) (xOp oIx (xVar 3) (xC (.int 1))) (xVar 5))))) (sFldS "Matter" "quiet_to" (xVar 0) (xCB oMax2 (xCons (xFld "Matter" "quiet_to" (xVar 0)) (xCons (xOp (oInt fun i j => i + j) (xVar 2) (xOp oIx (xVar 3) (xC (.int 4)))) xNil)))) sNext) [3])))))
def sem_Matter_told : Sem2 := callS 3 6 body_Matter_told
def body_Matter_due : SS := (sSeq (sIf (xOr (xB (xFld "Matter" "over" (xVar 0))) (xB (xOp (oBl fun i j => decide (i < j)) (xVar 1) (xFld "Matter" "quiet_to" (xVar 0))))) (sRet (xDat (xLst xNil))) sNext)
  (sSeq (sIf (xB (xOp (oIsN true) (xFld "Matter" "taker" (xVar 0)) (xC .none))) (sSeq (sAsg (xOp (oInt fun i j => i - j) (xFld "Matter" "clock" (xVar 0)) (xFld "Matter" "since" (xVar 0))) (bName 2))
  (sRet (xIf (xAnd (xB (xOp (oBl fun i j => decide (j < i)) (xVar 2) (xC (.int 0)))) (xB (xOp (oEq false) (xOp (oIntC modN fun i j => i % j) (xVar 2) (xCallF sem_every_of 2 (xCons (xFld "Matter" "chain" (xVar 0)) (xCons (xFld "Matter" "taker" (xVar 0)) xNil)))) (xC (.int 0))))) (xDat (xLst (xCons (xFld "Matter" "taker" (xVar 0)) xNil))) (xDat (xLst xNil))))) sNext)
  (sSeq (sAsg (xCallF sem_level_at 2 (xCons (xFld "Matter" "chain" (xVar 0)) (xCons (xFld "Matter" "clock" (xVar 0)) xNil))) (bTup 2 (bCons (bName 3) (bCons (bName 4) bNil))))
  (sRet (xIf (xB (xVar 4)) (xVar 3) (xDat (xLst xNil)))))))
def sem_Matter_due : Sem2 := callS 2 5 body_Matter_due
def body_due_by : SS := (sSeq (sPar 2 3 (xCons (xMake "Matter" sem_Matter_init 2 (xCons (xVar 0) xNil)) (xCons (xOwn (xLst xNil)) xNil)))
  (sSeq (sFor (xiRng1 (xCons (xOp (oInt fun i j => i + j) (xC (.int 60)) (xC (.int 1))) xNil)) (bName 4) (sSeq (sDrop (xMeth "Matter" "told" sem_Matter_told 3 (xVar 2) (xCons (xVar 1) (xCons (xVar 4) xNil))))
  (sSeq (sDrop (xMut uApp (xVar 3) (xCons (xMeth "Matter" "due" sem_Matter_due 2 (xVar 2) (xCons (xVar 4) xNil)) xNil)))
  (sFldA "Matter" "clock" (fun i j => i + j) (xVar 2) (xCB oIntF (xCons (xOp (oBl fun i j => decide (j ≤ i)) (xVar 4) (xFld "Matter" "quiet_to" (xVar 2))) xNil))))) [4])
  (sRet (xVar 3))))
def sem_due_by : Sem2 := callS 2 5 body_due_by
def body_rows_by : SS := (sSeq (sPar 2 3 (xCons (xOwn (xLst xNil)) (xCons (xDat (xLst xNil)) xNil)))
  (sSeq (sAsg (xDat (xLc (xiList (xVar 1)) (bName 4) xYes (xOp oIx (xVar 4) (xC (.int 3))) [4])) (bName 5))
  (sSeq (sFor (xiRng1 (xCons (xOp (oInt fun i j => i + j) (xOp (oIntC mulN fun i j => i * j) (xC (.int 2)) (xC (.int 60))) (xC (.int 1))) xNil)) (bName 6) (sSeq (sIf (xOr (xB (xOp (oEq false) (xVar 6) (xC (.int 0)))) (xB (xOp (oIn false) (xVar 6) (xVar 5)))) (sAsg (xCallF sem_due_by 2 (xCons (xVar 0) (xCons (xDat (xLc (xiList (xVar 1)) (bName 4) (xB (xOp (oBl fun i j => decide (i ≤ j)) (xOp oIx (xVar 4) (xC (.int 3))) (xVar 6))) (xVar 4) [4])) xNil))) (bName 3)) sNext)
  (sDrop (xMut uApp (xVar 2) (xCons (xVar 3) xNil)))) [6])
  (sRet (xVar 2)))))
def sem_rows_by : Sem2 := callS 2 7 body_rows_by
def body_sent_in : SS := (sRet (xOwn (xLc (xiRng1 (xCons (xOp (oInt fun i j => i + j) (xC (.int 60)) (xC (.int 1))) xNil)) (bName 2) xYes (xOp oIx (xOp oIx (xVar 0) (xOp (oInt fun i j => i + j) (xVar 2) (xVar 1))) (xVar 2)) [2])))
def sem_sent_in : Sem2 := callS 2 3 body_sent_in
def body_sent_by : SS := (sRet (xCallG sem_sent_in 2 (xCons (xCallF sem_rows_by 2 (xCons (xVar 0) (xCons (xVar 1) xNil))) (xCons (xVar 2) xNil))))
def sem_sent_by : Sem2 := callS 3 3 body_sent_by
def body_pairs_of : SS := (sSeq (sAsg (xOwn (xLst xNil)) (bName 1))
  (sSeq (sFor (xiEnum (xCons (xVar 0) xNil)) (bTup 2 (bCons (bName 2) (bCons (bName 3) bNil))) (sDrop (xExt (xVar 1) (xDat (xLc (xiList (xVar 3)) (bName 4) xYes (xTup (xCons (xVar 2) (xCons (xVar 4) xNil))) [4])))) [2, 3])
  (sRet (xVar 1))))
def sem_pairs_of : Sem2 := callS 1 5 body_pairs_of
def body_least_hold : SS := (sSeq (sAsg (xCallF sem_rows_by 2 (xCons (xVar 0) (xCons (xVar 1) xNil))) (bName 2))
  (sSeq (sPar 4 5 (xCons (xOp oIx (xVar 2) (xNeg (xC (.int 1)))) (xCons (xCB oMaxL (xCons (xDat (xCat (xDat (xLst (xCons (xC (.int 0)) xNil))) (xDat (xLc (xiList (xVar 1)) (bName 3) xYes (xOp (oInt fun i j => i - j) (xOp oIx (xVar 3) (xC (.int 3))) (xOp oIx (xVar 3) (xC (.int 2)))) [3])))) xNil)) xNil)))
  (sSeq (whileL (xAnd (xB (xOp (oBl fun i j => decide (j < i)) (xVar 5) (xC (.int 0)))) (xB (xOp (oEq false) (xCallG sem_sent_in 2 (xCons (xVar 2) (xCons (xOp (oInt fun i j => i - j) (xVar 5) (xC (.int 1))) xNil))) (xVar 4)))) (sAug 5 (fun i j => i - j) (xC (.int 1))) 1000)
  (sRet (xVar 5)))))
def sem_least_hold : Sem2 := callS 2 6 body_least_hold
def body_mine_at : SS := (sSeq (sAsg (xDat (xLc (xiList (xVar 0)) (bName 3) (xAnd (xB (xOp (oBl fun i j => decide (i ≤ j)) (xOp oIx (xVar 3) (xC (.int 2))) (xVar 2))) (xOr (xB (xOp (oEq false) (xOp oIx (xVar 3) (xC (.int 1))) (xVar 1))) (xB (xOp (oBl fun i j => decide (i ≤ j)) (xOp oIx (xVar 3) (xC (.int 3))) (xVar 2))))) (xVar 3) [3])) (bName 4))
  (sSeq (sAsg (xDat (xCL oSortP (xCons (xDat (xLc (xiList (xVar 4)) (bName 3) (xB (xOp (oEq false) (xOp oIx (xVar 3) (xC (.int 0))) (xC (.str "take")))) (xTup (xCons (xOp oIx (xVar 3) (xC (.int 2))) (xCons (xOp oIx (xVar 3) (xC (.int 1))) xNil))) [3])) xNil))) (bName 5))
  (sRet (xAndV (xOp (oEq true) (xVar 5) (xDat (xLst xNil))) (xAndV (xOp (oEq false) (xOp oIx (xOp oIx (xVar 5) (xC (.int 0))) (xC (.int 1))) (xVar 1)) (xOp (oEq false) (xDat (xLc (xiList (xVar 4)) (bName 3) (xB (xOp (oEq false) (xOp oIx (xVar 3) (xC (.int 0))) (xC (.str "done")))) (xVar 3) [3])) (xDat (xLst xNil))))))))
def sem_mine_at : Sem2 := callS 3 6 body_mine_at
def body_due_all : SS := (sSeq (sDrop (xCallF sem_check_words 2 (xCons (xVar 0) (xCons (xVar 1) xNil))))
  (sRet (xOwn (xCallL sem_pairs_of 1 (xCons (xCallF sem_due_by 2 (xCons (xVar 0) (xCons (xVar 1) xNil))) xNil)))))
def sem_due_all : Sem2 := callS 2 2 body_due_all
def body_sent_all : SS := (sSeq (sDrop (xCallF sem_check_words 2 (xCons (xVar 0) (xCons (xVar 1) xNil))))
  (sSeq (sDrop (xCallF sem_check_hold 1 (xCons (xVar 2) xNil)))
  (sRet (xOwn (xCallL sem_pairs_of 1 (xCons (xCallF sem_sent_by 3 (xCons (xVar 0) (xCons (xVar 1) (xCons (xVar 2) xNil)))) xNil))))))
def sem_sent_all : Sem2 := callS 3 3 body_sent_all
def body_apart : SS := (sSeq (sParT 2 (xCons (xCallF sem_sent_all 3 (xCons (xVar 0) (xCons (xVar 1) (xCons (xVar 2) xNil)))) (xCons (xCallF sem_pairs_of 1 (xCons (xCallF sem_due_by 2 (xCons (xVar 0) (xCons (xVar 1) xNil))) xNil)) xNil)) (bCons (bName 3) (bCons (bName 4) bNil)))
  (sRet (xTup (xCons (xDat (xLc (xiList (xVar 3)) (bName 5) (xB (xOp (oInD true) (xVar 5) (xVar 4))) (xVar 5) [5])) (xCons (xDat (xLc (xiList (xVar 4)) (bName 5) (xB (xOp (oInD true) (xVar 5) (xVar 3))) (xVar 5) [5])) xNil)))))
def sem_apart : Sem2 := callS 3 6 body_apart
def body_doubled : SS := (sSeq (sDrop (xCallF sem_check_words 2 (xCons (xVar 0) (xCons (xVar 1) xNil))))
  (sSeq (sPar 2 3 (xCons (xDat (xCL oSorted (xCons (xCallF sem_people_of 1 (xCons (xVar 0) xNil)) xNil))) (xCons (xOwn (xLst xNil)) xNil)))
  (sSeq (sFor (xiRng1 (xCons (xOp (oInt fun i j => i + j) (xC (.int 60)) (xC (.int 1))) xNil)) (bName 4) (sSeq (sAsg (xDat (xLc (xiList (xVar 2)) (bName 5) (xB (xCallF sem_mine_at 3 (xCons (xVar 1) (xCons (xVar 5) (xCons (xVar 4) xNil))))) (xVar 5) [5])) (bName 6))
  (sIf (xB (xOp (oBl fun i j => decide (j < i)) (xCB oLen (xCons (xVar 6) xNil)) (xC (.int 1)))) (sDrop (xMut uApp (xVar 3) (xCons (xTup (xCons (xVar 4) (xCons (xVar 6) xNil))) xNil))) sNext)) [4, 6])
  (sRet (xVar 3)))))
def sem_doubled : Sem2 := callS 2 7 body_doubled
def body_apart_deep : SS := (sSeq (sParT 2 (xCons (xCallF sem_sent_all 3 (xCons (xVar 0) (xCons (xVar 1) (xCons (xVar 2) xNil)))) (xCons (xCallF sem_pairs_of 1 (xCons (xCallF sem_due_by 2 (xCons (xVar 0) (xCons (xVar 1) xNil))) xNil)) xNil)) (bCons (bName 3) (bCons (bName 4) bNil)))
  (sRet (xTupO (xCons (xOwn (xLc (xiList (xVar 3)) (bName 5) (xB (xOp (oInD true) (xVar 5) (xVar 4))) (xVar 5) [5])) (xCons (xOwn (xLc (xiList (xVar 4)) (bName 5) (xB (xOp (oInD true) (xVar 5) (xVar 3))) (xVar 5) [5])) xNil)))))
def sem_apart_deep : Sem2 := callS 3 6 body_apart_deep
def body_doubled_deep : SS := (sSeq (sDrop (xCallF sem_check_words 2 (xCons (xVar 0) (xCons (xVar 1) xNil))))
  (sSeq (sPar 2 3 (xCons (xDat (xCL oSorted (xCons (xCallF sem_people_of 1 (xCons (xVar 0) xNil)) xNil))) (xCons (xOwn (xLst xNil)) xNil)))
  (sSeq (sFor (xiRng1 (xCons (xOp (oInt fun i j => i + j) (xC (.int 60)) (xC (.int 1))) xNil)) (bName 4) (sSeq (sAsg (xOwn (xLc (xiList (xVar 2)) (bName 5) (xB (xCallF sem_mine_at 3 (xCons (xVar 1) (xCons (xVar 5) (xCons (xVar 4) xNil))))) (xVar 5) [5])) (bName 6))
  (sIf (xB (xOp (oBl fun i j => decide (j < i)) (xCB oLen (xCons (xVar 6) xNil)) (xC (.int 1)))) (sDrop (xMut uApp (xVar 3) (xCons (xTupO (xCons (xVar 4) (xCons (xVar 6) xNil))) xNil))) sNext)) [4, 6])
  (sRet (xVar 3)))))
def sem_doubled_deep : Sem2 := callS 2 7 body_doubled_deep
end
end Nc
set_option Elab.async false
set_option linter.all false
set_option maxRecDepth 100000
set_option maxHeartbeats 4000000
namespace Nc
open PySem PySem.Spec PyProof.Rows L2
noncomputable section
def body_Enough_init : SS := (sSeq (sFldS "Enough" "hold" (xVar 0) (xVar 1))
  (sSeq (sFldS "Enough" "tick" (xVar 0) (xVar 2))
  (sFldS "Enough" "person" (xVar 0) (xVar 3))))
def sem_Enough_init : Sem2 := callS 4 4 body_Enough_init
def body_Enough_shows : SS := (sSeq (sIf (xB (xOp (oEq true) (xFld "Enough" "hold" (xVar 0)) (xCallF sem_least_hold 2 (xCons (xVar 1) (xCons (xVar 2) xNil))))) (sRet (xC (.bool false))) sNext)
  (sSeq (sIf (xB (xOp (oEq false) (xFld "Enough" "hold" (xVar 0)) (xC (.int 0)))) (sRet (xAndV (xOp (oIsN false) (xFld "Enough" "tick" (xVar 0)) (xC .none)) (xOp (oIsN false) (xFld "Enough" "person" (xVar 0)) (xC .none)))) sNext)
  (sSeq (sAsg (xTup (xCons (xFld "Enough" "tick" (xVar 0)) (xCons (xFld "Enough" "person" (xVar 0)) xNil))) (bName 3))
  (sRet (xOp (oEq true) (xOp (oInD false) (xVar 3) (xCallF sem_pairs_of 1 (xCons (xCallF sem_due_by 2 (xCons (xVar 1) (xCons (xVar 2) xNil))) xNil))) (xOp (oInD false) (xVar 3) (xCallF sem_pairs_of 1 (xCons (xCallF sem_sent_by 3 (xCons (xVar 1) (xCons (xVar 2) (xCons (xOp (oInt fun i j => i - j) (xFld "Enough" "hold" (xVar 0)) (xC (.int 1))) xNil)))) xNil))))))))
def sem_Enough_shows : Sem2 := callS 3 4 body_Enough_shows
def body_enough : SS := (sSeq (sDrop (xCallF sem_check_words 2 (xCons (xVar 0) (xCons (xVar 1) xNil))))
  (sSeq (sAsg (xCallF sem_least_hold 2 (xCons (xVar 0) (xCons (xVar 1) xNil))) (bName 2))
  (sSeq (sIf (xB (xOp (oEq false) (xVar 2) (xC (.int 0)))) (sRet (xMake "Enough" sem_Enough_init 4 (xCons (xC (.int 0)) (xCons (xC .none) (xCons (xC .none) xNil))))) sNext)
  (sSeq (sAsg (xCallF sem_apart 3 (xCons (xVar 0) (xCons (xVar 1) (xCons (xOp (oInt fun i j => i - j) (xVar 2) (xC (.int 1))) xNil)))) (bTup 2 (bCons (bName 3) (bCons (bName 4) bNil))))
  (sSeq (sAsg (xOp oIx (xDat (xCat (xVar 3) (xVar 4))) (xC (.int 0))) (bTup 2 (bCons (bName 5) (bCons (bName 6) bNil))))
  (sRet (xMake "Enough" sem_Enough_init 4 (xCons (xVar 2) (xCons (xVar 5) (xCons (xVar 6) xNil))))))))))
def sem_enough : Sem2 := callS 2 7 body_enough
end
end Nc
set_option Elab.async false
set_option linter.all false
set_option maxRecDepth 100000
set_option maxHeartbeats 4000000
namespace Nc
open PySem PySem.Spec PyProof.Rows L2
noncomputable section
def body_is_line : SS := (sSeq (sIf (xOr (xNot (xB (xIsi "tuple" (xVar 0)))) (xB (xOp (oBl fun i j => decide (i < j)) (xCB oLen (xCons (xVar 0) xNil)) (xC (.int 2))))) (sRet (xC (.bool false))) sNext)
  (sSeq (sIf (xB (xOp (oEq false) (xOp oIx (xVar 0) (xC (.int 0))) (xC (.str "tick")))) (sRet (xAndV (xOp (oEq false) (xCB oLen (xCons (xVar 0) xNil)) (xC (.int 2))) (xAndV (xIsi "list" (xOp oIx (xVar 0) (xC (.int 1)))) (xCB (oAll false) (xCons (xDat (xLc (xiList (xOp oIx (xVar 0) (xC (.int 1)))) (bName 1) xYes (xCallF sem_is_whole 1 (xCons (xVar 1) xNil)) [1])) xNil))))) sNext)
  (sSeq (sIf (xOr (xB (xOp (oIn true) (xOp oIx (xVar 0) (xC (.int 0))) (xTup (xCons (xC (.str "take")) (xCons (xC (.str "off")) (xCons (xC (.str "done")) xNil)))))) (xB (xOp (oEq true) (xCB oLen (xCons (xVar 0) xNil)) (xIf (xB (xOp (oEq false) (xOp oIx (xVar 0) (xC (.int 0))) (xC (.str "off")))) (xC (.int 4)) (xC (.int 3)))))) (sRet (xC (.bool false))) sNext)
  (sRet (xCB (oAll false) (xCons (xDat (xLc (xiTup (xSlT (xVar 0) (xPart (xC (.int 1))) xNoPart)) (bName 1) xYes (xCallF sem_is_whole 1 (xCons (xVar 1) xNil)) [1])) xNil))))))
def sem_is_line : Sem2 := callS 1 2 body_is_line
def body_check_tale : SS := (sIf (xOr (xNot (xB (xIsi "list" (xVar 0)))) (xOr (xB (xOp (oBl fun i j => decide (j < i)) (xCB oLen (xCons (xVar 0) xNil)) (xC (.int 80)))) (xNot (xB (xCB (oAll false) (xCons (xDat (xLc (xiList (xVar 0)) (bName 1) xYes (xCallF sem_is_line 1 (xCons (xVar 1) xNil)) [1])) xNil)))))) sNever sNext)
def sem_check_tale : Sem2 := callS 1 2 body_check_tale
def body_Round_init : SS := (sSeq (sFldS "Round" "chain" (xVar 0) (xDat (xLc (xiList (xVar 1)) (bTup 3 (bCons (bName 3) (bCons (bName 4) (bCons (bName 5) bNil)))) xYes (xTup (xCons (xDat (xCL oList (xCons (xVar 3) xNil))) (xCons (xVar 4) (xCons (xVar 5) xNil)))) [3, 4, 5])))
  (sSeq (sFldS "Round" "people" (xVar 0) (xCallF sem_people_of 1 (xCons (xVar 1) xNil)))
  (sSeq (sFldS "Round" "hold" (xVar 0) (xVar 2))
  (sSeq (sFldS "Round" "known" (xVar 0) (xOwn (xLst xNil)))
  (sSeq (sFldS "Round" "row" (xVar 0) (xCallF sem_due_by 2 (xCons (xFld "Round" "chain" (xVar 0)) (xCons (xDat (xLst xNil)) xNil))))
  (sFldS "Round" "now" (xVar 0) (xC (.int 0))))))))
def sem_Round_init : Sem2 := callS 3 6 body_Round_init
def body_Round_can_say : SS := (sRet (xAndV (xOp (oIn false) (xVar 1) (xFld "Round" "people" (xVar 0))) (xChain (oBl fun i j => decide (i ≤ j)) (oBl fun i j => decide (i ≤ j)) (xC (.int 0)) (xVar 2) (xCB oMin2 (xCons (xFld "Round" "now" (xVar 0)) (xCons (xC (.int 40)) xNil))))))
def sem_Round_can_say : Sem2 := callS 3 3 body_Round_can_say
def body_Round_has_room : SS := (sRet (xOp (oBl fun i j => decide (i < j)) (xCB oLen (xCons (xFld "Round" "known" (xVar 0)) xNil)) (xC (.int 12))))
def sem_Round_has_room : Sem2 := callS 1 1 body_Round_has_room
def body_Round_hear : SS := (sSeq (sDrop (xMut uApp (xFld "Round" "known" (xVar 0)) (xCons (xCatT (xTup (xCons (xVar 1) (xCons (xVar 2) (xCons (xVar 3) (xCons (xFld "Round" "now" (xVar 0)) xNil))))) (xVar 4)) xNil)))
  (sFldS "Round" "row" (xVar 0) (xCallF sem_due_by 2 (xCons (xFld "Round" "chain" (xVar 0)) (xCons (xFld "Round" "known" (xVar 0)) xNil)))))
def sem_Round_hear : Sem2 := callS 5 5 body_Round_hear
def body_Round_is_over : SS := (sRet (xOp (oBl fun i j => decide (j < i)) (xFld "Round" "now" (xVar 0)) (xOp (oInt fun i j => i + j) (xC (.int 60)) (xFld "Round" "hold" (xVar 0)))))
def sem_Round_is_over : Sem2 := callS 1 1 body_Round_is_over
def body_Round_pass_one : SS := (sSeq (sAsg (xOp (oInt fun i j => i - j) (xFld "Round" "now" (xVar 0)) (xFld "Round" "hold" (xVar 0))) (bName 1))
  (sSeq (sFldA "Round" "now" (fun i j => i + j) (xVar 0) (xC (.int 1)))
  (sRet (xOwn (xIfL (xB (xOp (oBl fun i j => decide (j ≤ i)) (xVar 1) (xC (.int 0)))) (xCL oList (xCons (xOp oIx (xFld "Round" "row" (xVar 0)) (xVar 1)) xNil)) (xLst xNil))))))
def sem_Round_pass_one : Sem2 := callS 1 2 body_Round_pass_one
def body_Round_comes : SS := (sSeq (sIf (xB (xOp (oEq false) (xOp oIx (xVar 1) (xC (.int 0))) (xC (.str "tick")))) (sRet (xAndV (xNotV (xMeth "Round" "is_over" sem_Round_is_over 1 (xVar 0) xNil)) (xOp (oEq false) (xMeth "Round" "pass_one" sem_Round_pass_one 1 (xVar 0) xNil) (xOp oIx (xVar 1) (xC (.int 1)))))) sNext)
  (sSeq (sIf (xOr (xNot (xB (xMeth "Round" "can_say" sem_Round_can_say 3 (xVar 0) (xCons (xOp oIx (xVar 1) (xC (.int 1))) (xCons (xOp oIx (xVar 1) (xC (.int 2))) xNil))))) (xOr (xB (xOp (oBl fun i j => decide (j < i)) (xFld "Round" "now" (xVar 0)) (xC (.int 60)))) (xNot (xB (xMeth "Round" "has_room" sem_Round_has_room 1 (xVar 0) xNil))))) (sRet (xC (.bool false))) sNext)
  (sSeq (sIf (xAnd (xB (xOp (oEq false) (xOp oIx (xVar 1) (xC (.int 0))) (xC (.str "off")))) (xNot (xB (xChain (oBl fun i j => decide (i ≤ j)) (oBl fun i j => decide (i ≤ j)) (xC (.int 1)) (xOp oIx (xVar 1) (xC (.int 3))) (xC (.int 20)))))) (sRet (xC (.bool false))) sNext)
  (sSeq (sDrop (xMeth "Round" "hear" sem_Round_hear 5 (xVar 0) (xCons (xOp oIx (xVar 1) (xC (.int 0))) (xCons (xOp oIx (xVar 1) (xC (.int 1))) (xCons (xOp oIx (xVar 1) (xC (.int 2))) (xCons (xSlT (xVar 1) (xPart (xC (.int 3))) xNoPart) xNil))))))
  (sRet (xC (.bool true)))))))
def sem_Round_comes : Sem2 := callS 2 2 body_Round_comes
def body_first_wrong : SS := (sSeq (sAsg (xMake "Round" sem_Round_init 3 (xCons (xVar 0) (xCons (xVar 1) xNil))) (bName 3))
  (sSeq (sFor (xiEnum (xCons (xVar 2) xNil)) (bTup 2 (bCons (bName 4) (bCons (bName 5) bNil))) (sIf (xNot (xB (xMeth "Round" "comes" sem_Round_comes 2 (xVar 3) (xCons (xVar 5) xNil)))) (sRet (xVar 4)) sNext) [4, 5])
  (sRet (xNeg (xC (.int 1))))))
def sem_first_wrong : Sem2 := callS 3 6 body_first_wrong
def body_Right_shows : SS := (sRet (xOp (oBl fun i j => decide (i < j)) (xCallF sem_first_wrong 3 (xCons (xVar 1) (xCons (xVar 2) (xCons (xVar 3) xNil)))) (xC (.int 0))))
def sem_Right_shows : Sem2 := callS 4 4 body_Right_shows
def body_Wrong_init : SS := (sFldS "Wrong" "line" (xVar 0) (xVar 1))
def sem_Wrong_init : Sem2 := callS 2 2 body_Wrong_init
def body_Wrong_shows : SS := (sRet (xAndV (xOp (oBl fun i j => decide (j ≤ i)) (xFld "Wrong" "line" (xVar 0)) (xC (.int 0))) (xOp (oEq false) (xCallF sem_first_wrong 3 (xCons (xVar 1) (xCons (xVar 2) (xCons (xVar 3) xNil)))) (xFld "Wrong" "line" (xVar 0)))))
def sem_Wrong_shows : Sem2 := callS 4 4 body_Wrong_shows
def body_judged : SS := (sSeq (sDrop (xCallF sem_check_chain 1 (xCons (xVar 0) xNil)))
  (sSeq (sDrop (xCallF sem_check_hold 1 (xCons (xVar 1) xNil)))
  (sSeq (sDrop (xCallF sem_check_tale 1 (xCons (xVar 2) xNil)))
  (sSeq (sAsg (xCallF sem_first_wrong 3 (xCons (xVar 0) (xCons (xVar 1) (xCons (xVar 2) xNil)))) (bName 3))
  (sRet (xIf (xB (xOp (oBl fun i j => decide (i < j)) (xVar 3) (xC (.int 0)))) (xMakeN "Right") (xMake "Wrong" sem_Wrong_init 2 (xCons (xVar 3) xNil))))))))
def sem_judged : Sem2 := callS 3 4 body_judged
end
end Nc
set_option Elab.async false
set_option linter.all false
set_option maxRecDepth 100000
set_option maxHeartbeats 4000000
namespace Nc
open PySem PySem.Spec PyProof.Rows L2
noncomputable section
def body_Nag_init : SS := (sSeq (sDrop (xCallF sem_check_chain 1 (xCons (xVar 1) xNil)))
  (sSeq (sDrop (xCallF sem_check_hold 1 (xCons (xVar 2) xNil)))
  (sSeq (sFldS "Nag" "going" (xVar 0) (xMake "Round" sem_Round_init 3 (xCons (xVar 1) (xCons (xVar 2) xNil))))
  (sSeq (sFldS "Nag" "lines" (xVar 0) (xOwn (xLst xNil)))
  (sFldS "Nag" "log" (xVar 0) (xOwn (xLst xNil)))))))
def sem_Nag_init : Sem2 := callS 3 3 body_Nag_init
def body_Nag_check : SS := (sSeq (sIf (xOr (xNot (xB (xCallF sem_is_whole 1 (xCons (xVar 1) xNil)))) (xB (xOp (oIn true) (xVar 1) (xFld "Round" "people" (xFld "Nag" "going" (xVar 0)))))) sNever sNext)
  (sIf (xNot (xB (xCallF sem_is_between 3 (xCons (xVar 2) (xCons (xC (.int 0)) (xCons (xCB oMin2 (xCons (xFld "Round" "now" (xFld "Nag" "going" (xVar 0))) (xCons (xC (.int 40)) xNil))) xNil)))))) sNever sNext))
def sem_Nag_check : Sem2 := callS 3 3 body_Nag_check
def body_Nag_hear : SS := (sSeq (sIf (xB (xOp (oBl fun i j => decide (j < i)) (xFld "Round" "now" (xFld "Nag" "going" (xVar 0))) (xC (.int 60)))) sNever sNext)
  (sSeq (sIf (xNot (xB (xMeth "Round" "has_room" sem_Round_has_room 1 (xFld "Nag" "going" (xVar 0)) xNil))) sNever sNext)
  (sSeq (sDrop (xMeth "Round" "hear" sem_Round_hear 5 (xFld "Nag" "going" (xVar 0)) (xCons (xVar 1) (xCons (xVar 2) (xCons (xVar 3) (xCons (xVar 4) xNil))))))
  (sSeq (sDrop (xMut uApp (xFld "Nag" "lines" (xVar 0)) (xCons (xCatT (xTup (xCons (xVar 1) (xCons (xVar 2) (xCons (xVar 3) xNil)))) (xVar 4)) xNil)))
  (sRet (xCB oLen (xCons (xFld "Round" "known" (xFld "Nag" "going" (xVar 0))) xNil)))))))
def sem_Nag_hear : Sem2 := callS 5 5 body_Nag_hear
def body_Nag_take : SS := (sSeq (sDrop (xMeth "Nag" "check" sem_Nag_check 3 (xVar 0) (xCons (xVar 1) (xCons (xVar 2) xNil))))
  (sRet (xMeth "Nag" "hear" sem_Nag_hear 5 (xVar 0) (xCons (xC (.str "take")) (xCons (xVar 1) (xCons (xVar 2) (xCons (xTup xNil) xNil)))))))
def sem_Nag_take : Sem2 := callS 3 3 body_Nag_take
def body_Nag_put_off : SS := (sSeq (sDrop (xMeth "Nag" "check" sem_Nag_check 3 (xVar 0) (xCons (xVar 1) (xCons (xVar 2) xNil))))
  (sSeq (sIf (xNot (xB (xCallF sem_is_between 3 (xCons (xVar 3) (xCons (xC (.int 1)) (xCons (xC (.int 20)) xNil)))))) sNever sNext)
  (sRet (xMeth "Nag" "hear" sem_Nag_hear 5 (xVar 0) (xCons (xC (.str "off")) (xCons (xVar 1) (xCons (xVar 2) (xCons (xTup (xCons (xVar 3) xNil)) xNil))))))))
def sem_Nag_put_off : Sem2 := callS 4 4 body_Nag_put_off
def body_Nag_finish : SS := (sSeq (sDrop (xMeth "Nag" "check" sem_Nag_check 3 (xVar 0) (xCons (xVar 1) (xCons (xVar 2) xNil))))
  (sRet (xMeth "Nag" "hear" sem_Nag_hear 5 (xVar 0) (xCons (xC (.str "done")) (xCons (xVar 1) (xCons (xVar 2) (xCons (xTup xNil) xNil)))))))
def sem_Nag_finish : Sem2 := callS 3 3 body_Nag_finish
def body_Nag_pass_tick : SS := (sSeq (sIf (xB (xMeth "Round" "is_over" sem_Round_is_over 1 (xFld "Nag" "going" (xVar 0)) xNil)) sNever sNext)
  (sSeq (sAsg (xOp (oInt fun i j => i - j) (xFld "Round" "now" (xFld "Nag" "going" (xVar 0))) (xFld "Round" "hold" (xFld "Nag" "going" (xVar 0)))) (bName 1))
  (sSeq (sAsg (xMeth "Round" "pass_one" sem_Round_pass_one 1 (xFld "Nag" "going" (xVar 0)) xNil) (bName 2))
  (sSeq (sDrop (xMut uApp (xFld "Nag" "lines" (xVar 0)) (xCons (xTup (xCons (xC (.str "tick")) (xCons (xDat (xCL oList (xCons (xVar 2) xNil))) xNil))) xNil)))
  (sSeq (sDrop (xExt (xFld "Nag" "log" (xVar 0)) (xDat (xLc (xiList (xVar 2)) (bName 3) xYes (xTup (xCons (xVar 1) (xCons (xVar 3) xNil))) [3]))))
  (sRet (xVar 2)))))))
def sem_Nag_pass_tick : Sem2 := callS 1 4 body_Nag_pass_tick
def body_Nag_at : SS := (sRet (xFld "Round" "now" (xFld "Nag" "going" (xVar 0))))
def sem_Nag_at : Sem2 := callS 1 1 body_Nag_at
def body_Nag_words : SS := (sRet (xOwn (xCL oList (xCons (xFld "Round" "known" (xFld "Nag" "going" (xVar 0))) xNil))))
def sem_Nag_words : Sem2 := callS 1 1 body_Nag_words
def body_Nag_sent : SS := (sRet (xOwn (xCL oList (xCons (xFld "Nag" "log" (xVar 0)) xNil))))
def sem_Nag_sent : Sem2 := callS 1 1 body_Nag_sent
def body_Nag_tale : SS := (sRet (xOwn (xLc (xiList (xFld "Nag" "lines" (xVar 0))) (bName 1) xYes (xIf (xB (xOp (oEq false) (xOp oIx (xVar 1) (xC (.int 0))) (xC (.str "tick")))) (xTup (xCons (xC (.str "tick")) (xCons (xDat (xCL oList (xCons (xOp oIx (xVar 1) (xC (.int 1))) xNil))) xNil))) (xVar 1)) [1])))
def sem_Nag_tale : Sem2 := callS 1 2 body_Nag_tale
end
end Nc
set_option Elab.async false
set_option linter.all false
set_option maxRecDepth 100000
set_option maxHeartbeats 4000000
namespace Nc
open PySem PySem.Spec PyProof.Rows L2
noncomputable section
def body__law_number : SS := (sSeq (sIf (xB (xOp (oBl fun i j => decide (j ≤ i)) (xVar 0) (xOp (oIntC powN fun i j => i ^ j.toNat) (xC (.int 10)) (xC (.int 18))))) (sRet (xVar 0)) sNext)
  (sSeq (sAsg (xOp (oIntC modN fun i j => i % j) (xVar 0) (xC (.int 2147483647))) (bName 3))
  (sSeq (sAsg (xOp (oIntC modN fun i j => i % j) (xOp (oInt fun i j => i + j) (xOp (oIntC mulW fun i j => i * j) (xOp (oInt fun i j => i + j) (xVar 3) (xOp (oIntC mulW fun i j => i * j) (xC (.int 977)) (xVar 1))) (xC (.int 48271))) (xOp (oIntC modN fun i j => i % j) (xVar 2) (xC (.int 2147483647)))) (xC (.int 2147483647))) (bName 4))
  (sSeq (sAsg (xOp (oIntC mulW fun i j => i * j) (xOp (oIntC mulW fun i j => i * j) (xVar 4) (xOp (oInt fun i j => i + j) (xOp (oInt fun i j => i + j) (xVar 4) (xOp (oIntC mulW fun i j => i * j) (xC (.int 31)) (xVar 1))) (xC (.int 7)))) (xOp (oInt fun i j => i + j) (xOp (oInt fun i j => i + j) (xVar 4) (xVar 3)) (xC (.int 5)))) (bName 5))
  (sRet (xOp (oIntC divN fun i j => i / j) (xOp (oIntC mulW fun i j => i * j) (xVar 5) (xOp (oInt fun i j => i + j) (xVar 5) (xC (.int 48271)))) (xC (.int 1009))))))))
def sem__law_number : Sem2 := callS 3 6 body__law_number
def body__law_chain : SS := (sSeq (sAsg (xIf (xB (xOp (oEq true) (xVar 0) (xDat (xLst xNil)))) (xDat (xSl (xVar 0) xNoPart (xPart (xC (.int 63))))) (xDat (xLst (xCons (xC (.int 5)) xNil)))) (bName 2))
  (sSeq (sPar3 3 4 5 (xCons (xOp (oInt fun i j => i + j) (xCB oSum (xCons (xVar 2) xNil)) (xVar 1)) (xCons (xOwn (xLst xNil)) (xCons (xDat (xLst (xCons (xC (.int 3)) (xCons (xC (.int 0)) (xCons (xC (.int 7)) (xCons (xC (.int 5)) (xCons (xC (.int 1)) (xCons (xC (.int 6)) (xCons (xC (.int 2)) (xCons (xC (.int 4)) xNil)))))))))) xNil))))
  (sSeq (sPar 6 7 (xCons (xOp (oIntC modN fun i j => i % j) (xOp (oIntC divN fun i j => i / j) (xCallF sem__law_number 3 (xCons (xVar 3) (xCons (xOp (oInt fun i j => i + j) (xVar 1) (xC (.int 3))) (xCons (xC (.int 3)) xNil)))) (xC (.int 11))) (xC (.int 8))) (xCons (xOp oIx (xTup (xCons (xC (.int 9)) (xCons (xC (.int 3)) (xCons (xC (.int 4)) xNil)))) (xOp (oIntC modN fun i j => i % j) (xOp (oIntC divN fun i j => i / j) (xCallF sem__law_number 3 (xCons (xVar 3) (xCons (xOp (oInt fun i j => i + j) (xVar 1) (xC (.int 3))) (xCons (xC (.int 3)) xNil)))) (xC (.int 88))) (xC (.int 3)))) xNil)))
  (sSeq (sAsg (xDat (xCat (xDat (xSl (xVar 5) (xPart (xVar 6)) xNoPart)) (xDat (xSl (xVar 5) xNoPart (xPart (xVar 6)))))) (bName 5))
  (sSeq (sFor (xiRng1 (xCons (xOp (oInt fun i j => i + j) (xC (.int 1)) (xOp (oIntC modN fun i j => i % j) (xOp (oIntC divN fun i j => i / j) (xCallF sem__law_number 3 (xCons (xVar 3) (xCons (xOp (oInt fun i j => i + j) (xVar 1) (xC (.int 1))) (xCons (xC (.int 3)) xNil)))) (xC (.int 9))) (xC (.int 4)))) xNil)) (bName 8) (sSeq (sAsg (xOp (oIntC divN fun i j => i / j) (xCallF sem__law_number 3 (xCons (xOp (oInt fun i j => i + j) (xOp oIx (xVar 2) (xOp (oIntC modN fun i j => i % j) (xOp (oInt fun i j => i + j) (xVar 8) (xVar 1)) (xCB oLen (xCons (xVar 2) xNil)))) (xOp (oIntC mulN fun i j => i * j) (xC (.int 5)) (xVar 8))) (xCons (xOp (oInt fun i j => i + j) (xVar 8) (xVar 1)) (xCons (xVar 3) xNil)))) (xC (.int 3))) (bName 9))
  (sSeq (sAsg (xIf (xB (xOp (oBl fun i j => decide (i < j)) (xVar 8) (xC (.int 2)))) (xOp oIx (xTup (xCons (xC (.int 1)) (xCons (xC (.int 2)) (xCons (xC (.int 1)) (xCons (xC (.int 3)) xNil))))) (xOp (oIntC modN fun i j => i % j) (xVar 9) (xC (.int 4)))) (xC (.int 1))) (bName 10))
  (sSeq (sDrop (xMut uApp (xVar 4) (xCons (xTup (xCons (xDat (xCL oSorted (xCons (xDat (xSl (xVar 5) xNoPart (xPart (xVar 10)))) xNil))) (xCons (xOp (oInt fun i j => i + j) (xC (.int 1)) (xOp (oIntC modN fun i j => i % j) (xOp (oIntC divN fun i j => i / j) (xVar 9) (xC (.int 4))) (xVar 7))) (xCons (xOp (oInt fun i j => i + j) (xC (.int 1)) (xOp (oIntC modN fun i j => i % j) (xOp (oIntC divN fun i j => i / j) (xVar 9) (xC (.int 36))) (xCB oMin2 (xCons (xC (.int 5)) (xCons (xVar 7) xNil))))) xNil)))) xNil)))
  (sAsg (xDat (xSl (xVar 5) (xPart (xVar 10)) xNoPart)) (bName 5))))) [8, 9, 10])
  (sRet (xVar 4)))))))
def sem__law_chain : Sem2 := callS 2 11 body__law_chain
def body__law_words : SS := (sSeq (sAsg (xIf (xB (xOp (oEq true) (xVar 0) (xDat (xLst xNil)))) (xDat (xSl (xVar 0) xNoPart (xPart (xC (.int 63))))) (xDat (xLst (xCons (xC (.int 5)) xNil)))) (bName 3))
  (sSeq (sPar3 4 5 6 (xCons (xOp (oInt fun i j => i + j) (xCB oSum (xCons (xVar 3) xNil)) (xVar 1)) (xCons (xOwn (xLst xNil)) (xCons (xDat (xLst xNil)) xNil))))
  (sSeq (sFor (xiList (xVar 2)) (bTup 3 (bCons (bName 7) (bCons (bName 8) (bCons (bName 9) bNil)))) (sAsg (xDat (xCat (xVar 6) (xVar 7))) (bName 6)) [7, 8, 9])
  (sSeq (sPar 10 11 (xCons (xOp (oIntC modN fun i j => i % j) (xOp (oIntC divN fun i j => i / j) (xCallF sem__law_number 3 (xCons (xVar 4) (xCons (xOp (oInt fun i j => i + j) (xVar 1) (xC (.int 1))) (xCons (xC (.int 3)) xNil)))) (xC (.int 468))) (xC (.int 3))) (xCons (xOp oIx (xTup (xCons (xC (.int 41)) (xCons (xC (.int 12)) (xCons (xC (.int 41)) xNil)))) (xOp (oIntC modN fun i j => i % j) (xOp (oIntC divN fun i j => i / j) (xCallF sem__law_number 3 (xCons (xVar 4) (xCons (xOp (oInt fun i j => i + j) (xVar 1) (xC (.int 1))) (xCons (xC (.int 3)) xNil)))) (xC (.int 1404))) (xC (.int 3)))) xNil)))
  (sSeq (sFor (xiRng1 (xCons (xOp (oIntC modN fun i j => i % j) (xOp (oIntC divN fun i j => i / j) (xCallF sem__law_number 3 (xCons (xVar 4) (xCons (xOp (oInt fun i j => i + j) (xVar 1) (xC (.int 1))) (xCons (xC (.int 3)) xNil)))) (xC (.int 36))) (xC (.int 13))) xNil)) (bName 12) (sSeq (sAsg (xOp (oIntC divN fun i j => i / j) (xCallF sem__law_number 3 (xCons (xOp (oInt fun i j => i + j) (xOp oIx (xVar 3) (xOp (oIntC modN fun i j => i % j) (xOp (oInt fun i j => i + j) (xVar 12) (xVar 1)) (xCB oLen (xCons (xVar 3) xNil)))) (xOp (oIntC mulN fun i j => i * j) (xC (.int 7)) (xVar 12))) (xCons (xOp (oInt fun i j => i + j) (xVar 12) (xVar 1)) (xCons (xVar 4) xNil)))) (xC (.int 3))) (bName 13))
  (sSeq (sAsg (xOp oIx (xVar 6) (xOp (oIntC modN fun i j => i % j) (xOp (oIntC divN fun i j => i / j) (xVar 13) (xC (.int 8))) (xCB oLen (xCons (xVar 6) xNil)))) (bName 14))
  (sSeq (sAsg (xOp (oIntC modN fun i j => i % j) (xOp (oIntC divN fun i j => i / j) (xVar 13) (xC (.int 64))) (xVar 11)) (bName 15))
  (sSeq (sAsg (xCB oMin2 (xCons (xC (.int 60)) (xCons (xOp (oInt fun i j => i + j) (xVar 15) (xOp oIx (xTup (xCons (xC (.int 0)) (xCons (xOp (oIntC modN fun i j => i % j) (xOp (oIntC divN fun i j => i / j) (xVar 13) (xC (.int 2624))) (xC (.int 9))) (xCons (xOp (oIntC modN fun i j => i % j) (xOp (oIntC divN fun i j => i / j) (xVar 13) (xC (.int 2624))) (xC (.int 41))) xNil)))) (xVar 10))) xNil))) (bName 16))
  (sIf (xB (xOp (oBl fun i j => decide (i < j)) (xOp (oIntC modN fun i j => i % j) (xVar 13) (xC (.int 8))) (xC (.int 2)))) (sDrop (xMut uApp (xVar 5) (xCons (xTup (xCons (xC (.str "take")) (xCons (xVar 14) (xCons (xVar 15) (xCons (xVar 16) xNil))))) xNil))) (sIf (xB (xOp (oBl fun i j => decide (i < j)) (xOp (oIntC modN fun i j => i % j) (xVar 13) (xC (.int 8))) (xC (.int 7)))) (sDrop (xMut uApp (xVar 5) (xCons (xTup (xCons (xC (.str "off")) (xCons (xVar 14) (xCons (xVar 15) (xCons (xVar 16) (xCons (xOp (oInt fun i j => i + j) (xC (.int 1)) (xOp (oIntC modN fun i j => i % j) (xOp (oIntC divN fun i j => i / j) (xVar 13) (xC (.int 107584))) (xOp oIx (xTup (xCons (xC (.int 20)) (xCons (xC (.int 4)) xNil))) (xOp (oIntC modN fun i j => i % j) (xOp (oIntC divN fun i j => i / j) (xVar 13) (xC (.int 8))) (xC (.int 2)))))) xNil)))))) xNil))) (sDrop (xMut uApp (xVar 5) (xCons (xTup (xCons (xC (.str "done")) (xCons (xVar 14) (xCons (xOp (oInt fun i j => i - j) (xC (.int 40)) (xOp (oIntC divN fun i j => i / j) (xVar 15) (xC (.int 3)))) (xCons (xCB oMax2 (xCons (xVar 16) (xCons (xOp (oInt fun i j => i - j) (xC (.int 40)) (xOp (oIntC divN fun i j => i / j) (xVar 15) (xC (.int 3)))) xNil))) xNil))))) xNil))))))))) [12, 13, 14, 15, 16])
  (sRet (xVar 5)))))))
def sem__law_words : Sem2 := callS 3 17 body__law_words
def body__law_copied : SS := (sRet (xOwn (xLc (xiList (xVar 0)) (bTup 3 (bCons (bName 1) (bCons (bName 2) (bCons (bName 3) bNil)))) xYes (xTup (xCons (xDat (xCL oList (xCons (xVar 1) xNil))) (xCons (xVar 2) (xCons (xVar 3) xNil)))) [1, 2, 3])))
def sem__law_copied : Sem2 := callS 1 4 body__law_copied
def body__law_copied_deep : SS := (sRet (xOwn (xLc (xiList (xVar 0)) (bTup 3 (bCons (bName 1) (bCons (bName 2) (bCons (bName 3) bNil)))) xYes (xTupO (xCons (xOwn (xCL oList (xCons (xVar 1) xNil))) (xCons (xVar 2) (xCons (xVar 3) xNil)))) [1, 2, 3])))
def sem__law_copied_deep : Sem2 := callS 1 4 body__law_copied_deep
def body__law_rungs : SS := (sSeq (sAsg (xOwn (xLst xNil)) (bName 1))
  (sSeq (sFor (xiList (xVar 0)) (bTup 3 (bCons (bName 2) (bCons (bName 3) (bCons (bName 4) bNil)))) (sDrop (xExt (xVar 1) (xDat (xLc (xiRng1 (xCons (xOp (oIntC mulN fun i j => i * j) (xVar 3) (xVar 4)) xNil)) (bName 5) xYes (xTup (xCons (xVar 2) (xCons (xOp (oEq false) (xOp (oIntC modN fun i j => i % j) (xVar 5) (xVar 3)) (xC (.int 0))) xNil))) [5])))) [2, 3, 4])
  (sRet (xVar 1))))
def sem__law_rungs : Sem2 := callS 1 6 body__law_rungs
def body__law_table : SS := (sSeq (sParT 4 (xCons (xCallG sem__law_rungs 1 (xCons (xVar 0) xNil)) (xCons (xOwn (xLst xNil)) (xCons (xC (.int 0)) (xCons (xC (.int 0)) xNil)))) (bCons (bName 2) (bCons (bName 3) (bCons (bName 4) (bCons (bName 5) bNil)))))
  (sSeq (sParT 3 (xCons (xNeg (xC (.int 1))) (xCons (xC (.int 0)) (xCons (xC (.bool false)) xNil))) (bCons (bName 6) (bCons (bName 7) (bCons (bName 8) bNil))))
  (sSeq (sFor (xiRng1 (xCons (xC (.int 61)) xNil)) (bName 9) (sSeq (sAsg (xIf (xB (xOp (oBl fun i j => decide (i < j)) (xVar 4) (xCB oLen (xCons (xVar 2) xNil)))) (xOp oIx (xVar 2) (xVar 4)) (xTup (xCons (xDat (xLst xNil)) (xCons (xC (.bool false)) xNil)))) (bTup 2 (bCons (bName 10) (bCons (bName 11) bNil))))
  (sSeq (sAsg (xDat (xLc (xiList (xVar 1)) (bName 12) (xB (xOp (oEq false) (xOp oIx (xVar 12) (xC (.int 2))) (xVar 9))) (xVar 12) [12])) (bName 13))
  (sSeq (sAsg (xDat (xLc (xiList (xVar 13)) (bName 12) (xB (xOp (oEq false) (xOp oIx (xVar 12) (xC (.int 0))) (xC (.str "take")))) (xOp oIx (xVar 12) (xC (.int 1))) [12])) (bName 14))
  (sSeq (sIf (xAnd (xB (xOp (oBl fun i j => decide (i < j)) (xVar 6) (xC (.int 0)))) (xB (xOp (oEq true) (xVar 14) (xDat (xLst xNil))))) (sParT 2 (xCons (xCB oMinL (xCons (xVar 14) xNil)) (xCons (xVar 4) xNil)) (bCons (bName 6) (bCons (bName 7) bNil))) sNext)
  (sSeq (sAsg (xOrV (xVar 8) (xOp (oIn false) (xC (.str "done")) (xDat (xLc (xiList (xVar 13)) (bName 12) xYes (xOp oIx (xVar 12) (xC (.int 0))) [12])))) (bName 8))
  (sSeq (sAsg (xIf (xB (xOp (oBl fun i j => decide (i < j)) (xVar 6) (xC (.int 0)))) (xVar 10) (xDat (xLst (xCons (xVar 6) xNil)))) (bName 15))
  (sSeq (sAsg (xCB oMaxL (xCons (xDat (xCat (xDat (xLst (xCons (xVar 5) xNil))) (xDat (xLc (xiList (xVar 13)) (bName 12) (xAnd (xB (xOp (oEq false) (xOp oIx (xVar 12) (xC (.int 0))) (xC (.str "off")))) (xB (xOp (oIn false) (xOp oIx (xVar 12) (xC (.int 1))) (xVar 15)))) (xOp (oInt fun i j => i + j) (xVar 9) (xOp oIx (xVar 12) (xC (.int 4)))) [12])))) xNil)) (bName 5))
  (sSeq (sAsg (xIf (xB (xVar 11)) (xDat (xCL oList (xCons (xVar 10) xNil))) (xDat (xLst xNil))) (bName 16))
  (sSeq (sIf (xB (xOp (oBl fun i j => decide (j ≤ i)) (xVar 6) (xC (.int 0)))) (sSeq (sAsg (xOp oIx (xDat (xLc (xiList (xVar 0)) (bName 17) (xB (xOp (oIn false) (xVar 6) (xOp oIx (xVar 17) (xC (.int 0))))) (xOp oIx (xVar 17) (xC (.int 1))) [17])) (xC (.int 0))) (bName 18))
  (sAsg (xIf (xAnd (xB (xOp (oBl fun i j => decide (j < i)) (xVar 4) (xVar 7))) (xB (xOp (oEq false) (xOp (oIntC modN fun i j => i % j) (xOp (oInt fun i j => i - j) (xVar 4) (xVar 7)) (xVar 18)) (xC (.int 0))))) (xDat (xLst (xCons (xVar 6) xNil))) (xDat (xLst xNil))) (bName 16))) sNext)
  (sSeq (sDrop (xMut uApp (xVar 3) (xCons (xIf (xOr (xB (xVar 8)) (xB (xOp (oBl fun i j => decide (i < j)) (xVar 9) (xVar 5)))) (xDat (xLst xNil)) (xVar 16)) xNil)))
  (sAsg (xOp (oInt fun i j => i + j) (xVar 4) (xCB oIntF (xCons (xOp (oBl fun i j => decide (j ≤ i)) (xVar 9) (xVar 5)) xNil))) (bName 4)))))))))))) [9, 10, 11, 13, 14, 15, 16, 18])
  (sRet (xVar 3)))))
def sem__law_table : Sem2 := callS 2 19 body__law_table
def body__law_pairs : SS := (sSeq (sAsg (xOwn (xLst xNil)) (bName 1))
  (sSeq (sFor (xiEnum (xCons (xVar 0) xNil)) (bTup 2 (bCons (bName 2) (bCons (bName 3) bNil))) (sDrop (xExt (xVar 1) (xDat (xLc (xiList (xVar 3)) (bName 4) xYes (xTup (xCons (xVar 2) (xCons (xVar 4) xNil))) [4])))) [2, 3])
  (sRet (xVar 1))))
def sem__law_pairs : Sem2 := callS 1 5 body__law_pairs
def body__law_tables : SS := (sSeq (sPar 2 3 (xCons (xOwn (xLst xNil)) (xCons (xDat (xLst xNil)) xNil)))
  (sSeq (sFor (xiRng1 (xCons (xC (.int 121)) xNil)) (bName 4) (sSeq (sAsg (xDat (xLc (xiList (xVar 1)) (bName 5) (xB (xOp (oBl fun i j => decide (i ≤ j)) (xOp oIx (xVar 5) (xC (.int 3))) (xVar 4))) (xVar 5) [5])) (bName 6))
  (sSeq (sIf (xOr (xB (xOp (oEq false) (xVar 4) (xC (.int 0)))) (xB (xOp (oIn false) (xVar 4) (xDat (xLc (xiList (xVar 1)) (bName 5) xYes (xOp oIx (xVar 5) (xC (.int 3))) [5]))))) (sAsg (xCallF sem__law_table 2 (xCons (xVar 0) (xCons (xVar 6) xNil))) (bName 3)) sNext)
  (sDrop (xMut uApp (xVar 2) (xCons (xVar 3) xNil))))) [4, 6])
  (sRet (xVar 2))))
def sem__law_tables : Sem2 := callS 2 7 body__law_tables
def body__law_sent : SS := (sRet (xOwn (xLc (xiRng1 (xCons (xC (.int 61)) xNil)) (bName 2) xYes (xOp oIx (xOp oIx (xVar 0) (xOp (oInt fun i j => i + j) (xVar 2) (xVar 1))) (xVar 2)) [2])))
def sem__law_sent : Sem2 := callS 2 3 body__law_sent
end
end Nc
set_option Elab.async false
set_option linter.all false
set_option maxRecDepth 100000
set_option maxHeartbeats 4000000
namespace Nc
open PySem PySem.Spec PyProof.Rows L2
noncomputable section
def body__law_says : SS := (sRet (xAndV (xIsi "bool" (xVar 0)) (xOp (oEq false) (xVar 0) (xVar 1))))
def sem__law_says : Sem2 := callS 2 2 body__law_says
def body__law_whole : SS := (sRet (xAndV (xIsi "int" (xVar 0)) (xNotV (xIsi "bool" (xVar 0)))))
def sem__law_whole : Sem2 := callS 1 1 body__law_whole
def body__law_new : SS := (sSeq (sAsg (xDat (xLst xNil)) (bName 2))
  (sSeq (sFor (xiList (xVar 0)) (bName 3) (sAsg (xDat (xCat (xVar 2) (xOp oIx (xVar 3) (xC (.int 0))))) (bName 2)) [3])
  (sSeq (sAsg (xDisp ["chain", "people", "hold", "words", "now", "sent"] (xCons (xVar 0) (xCons (xVar 2) (xCons (xVar 1) (xCons (xDat (xLst xNil)) (xCons (xC (.int 0)) (xCons (xDat (xLst xNil)) xNil))))))) (bName 4))
  (sSeq (Nc.sDPut "row" (xVar 4) (xCallF sem__law_table 2 (xCons (xVar 0) (xCons (xDat (xLst xNil)) xNil))))
  (sRet (xVar 4))))))
def sem__law_new : Sem2 := callS 2 5 body__law_new
def body__law_can : SS := (sSeq (sPar 2 3 (xCons (xDGet "now" (xVar 0)) (xCons (xOp oIx (xVar 1) (xC (.int 0))) xNil)))
  (sSeq (sIf (xB (xOp (oEq false) (xVar 3) (xC (.str "tick")))) (sSeq (sAsg (xOp (oInt fun i j => i - j) (xVar 2) (xDGet "hold" (xVar 0))) (bName 4))
  (sSeq (sIf (xB (xOp (oBl fun i j => decide (j < i)) (xVar 4) (xC (.int 60)))) (sRet (xC (.bool false))) sNext)
  (sSeq (sAsg (xIf (xB (xOp (oBl fun i j => decide (j ≤ i)) (xVar 4) (xC (.int 0)))) (xOp oIx (xDGet "row" (xVar 0)) (xVar 4)) (xDat (xLst xNil))) (bName 5))
  (sSeq (sIf (xB (xOp (oEq true) (xVar 5) (xOp oIx (xVar 1) (xC (.int 1))))) (sRet (xC (.bool false))) sNext)
  (sSeq (sDPut2 "now" "sent" 0 (xCons (xOp (oInt fun i j => i + j) (xVar 2) (xC (.int 1))) (xCons (xDat (xCat (xDGet "sent" (xVar 0)) (xDat (xLc (xiList (xVar 5)) (bName 6) xYes (xTup (xCons (xVar 4) (xCons (xVar 6) xNil))) [6])))) xNil)))
  (sRet (xC (.bool true)))))))) sNext)
  (sSeq (sIf (xOr (xB (xOp (oIn true) (xOp oIx (xVar 1) (xC (.int 1))) (xDGet "people" (xVar 0)))) (xOr (xNot (xB (xChain (oBl fun i j => decide (i ≤ j)) (oBl fun i j => decide (i ≤ j)) (xC (.int 0)) (xOp oIx (xVar 1) (xC (.int 2))) (xCB oMin2 (xCons (xVar 2) (xCons (xC (.int 40)) xNil)))))) (xOr (xB (xOp (oBl fun i j => decide (j < i)) (xVar 2) (xC (.int 60)))) (xB (xOp (oBl fun i j => decide (j < i)) (xCB oLen (xCons (xDGet "words" (xVar 0)) xNil)) (xC (.int 11))))))) (sRet (xC (.bool false))) sNext)
  (sSeq (sIf (xAnd (xB (xOp (oEq false) (xVar 3) (xC (.str "off")))) (xNot (xB (xChain (oBl fun i j => decide (i ≤ j)) (oBl fun i j => decide (i ≤ j)) (xC (.int 1)) (xOp oIx (xVar 1) (xC (.int 3))) (xC (.int 20)))))) (sRet (xC (.bool false))) sNext)
  (sSeq (Nc.sDPut "words" (xVar 0) (xDat (xCat (xDGet "words" (xVar 0)) (xDat (xLst (xCons (xCatT (xTup (xCons (xVar 3) (xCons (xOp oIx (xVar 1) (xC (.int 1))) (xCons (xOp oIx (xVar 1) (xC (.int 2))) (xCons (xVar 2) xNil))))) (xSlT (xVar 1) (xPart (xC (.int 3))) xNoPart)) xNil))))))
  (sSeq (Nc.sDPut "row" (xVar 0) (xCallF sem__law_table 2 (xCons (xDGet "chain" (xVar 0)) (xCons (xDGet "words" (xVar 0)) xNil))))
  (sRet (xC (.bool true)))))))))
def sem__law_can : Sem2 := callS 2 7 body__law_can
def body__law_wrong : SS := (sSeq (sAsg (xCallM sem__law_new 2 (xCons (xVar 0) (xCons (xVar 1) xNil))) (bName 3))
  (sSeq (sFor (xiEnum (xCons (xVar 2) xNil)) (bTup 2 (bCons (bName 4) (bCons (bName 5) bNil))) (sIf (xNot (xB (xCallM sem__law_can 2 (xCons (xVar 3) (xCons (xVar 5) xNil))))) (sRet (xVar 4)) sNext) [4, 5])
  (sRet (xNeg (xC (.int 1))))))
def sem__law_wrong : Sem2 := callS 3 6 body__law_wrong
def body__law_tale : SS := (sSeq (sAsg (xIf (xB (xOp (oEq true) (xVar 0) (xDat (xLst xNil)))) (xDat (xSl (xVar 0) xNoPart (xPart (xC (.int 63))))) (xDat (xLst (xCons (xC (.int 5)) xNil)))) (bName 5))
  (sSeq (sPar3 6 7 8 (xCons (xOp (oInt fun i j => i + j) (xCB oSum (xCons (xVar 5) xNil)) (xVar 1)) (xCons (xCallM sem__law_new 2 (xCons (xVar 2) (xCons (xVar 3) xNil))) (xCons (xOwn (xLst xNil)) xNil))))
  (sSeq (sFor (xiRng1 (xCons (xOp (oIntC modN fun i j => i % j) (xOp (oIntC divN fun i j => i / j) (xCallF sem__law_number 3 (xCons (xVar 6) (xCons (xOp (oInt fun i j => i + j) (xVar 1) (xC (.int 2))) (xCons (xC (.int 3)) xNil)))) (xC (.int 5))) (xOp (oInt fun i j => i + j) (xVar 4) (xC (.int 1)))) xNil)) (bName 9) (sSeq (sAsg (xOp (oIntC divN fun i j => i / j) (xCallF sem__law_number 3 (xCons (xOp (oInt fun i j => i + j) (xOp oIx (xVar 5) (xOp (oIntC modN fun i j => i % j) (xOp (oInt fun i j => i + j) (xVar 9) (xVar 1)) (xCB oLen (xCons (xVar 5) xNil)))) (xOp (oIntC mulN fun i j => i * j) (xC (.int 7)) (xVar 9))) (xCons (xOp (oInt fun i j => i + j) (xVar 9) (xVar 1)) (xCons (xVar 6) xNil)))) (xC (.int 3))) (bName 10))
  (sSeq (sAsg (xOp oIx (xDGet "people" (xVar 7)) (xOp (oIntC modN fun i j => i % j) (xOp (oIntC divN fun i j => i / j) (xVar 10) (xC (.int 40))) (xCB oLen (xCons (xDGet "people" (xVar 7)) xNil)))) (bName 11))
  (sSeq (sAsg (xCB oMax2 (xCons (xC (.int 0)) (xCons (xOp (oInt fun i j => i - j) (xCB oMin2 (xCons (xDGet "now" (xVar 7)) (xCons (xC (.int 40)) xNil))) (xOp (oIntC modN fun i j => i % j) (xOp (oIntC divN fun i j => i / j) (xVar 10) (xC (.int 320))) (xC (.int 5)))) xNil))) (bName 12))
  (sSeq (sAsg (xOp oIx (xTup (xCons (xTup (xCons (xC (.str "take")) (xCons (xVar 11) (xCons (xVar 12) xNil)))) (xCons (xTup (xCons (xC (.str "done")) (xCons (xVar 11) (xCons (xVar 12) xNil)))) xNil))) (xOp (oIntC divN fun i j => i / j) (xOp (oIntC modN fun i j => i % j) (xOp (oIntC divN fun i j => i / j) (xVar 10) (xC (.int 1600))) (xC (.int 9))) (xC (.int 8)))) (bName 13))
  (sSeq (sIf (xOr (xB (xOp (oEq false) (xOp (oIntC modN fun i j => i % j) (xVar 10) (xC (.int 8))) (xC (.int 1)))) (xB (xOp (oEq false) (xOp (oIntC modN fun i j => i % j) (xVar 10) (xC (.int 8))) (xC (.int 2))))) (sAsg (xTup (xCons (xC (.str "off")) (xCons (xVar 11) (xCons (xVar 12) (xCons (xOp (oInt fun i j => i + j) (xC (.int 1)) (xOp (oIntC modN fun i j => i % j) (xOp (oIntC divN fun i j => i / j) (xVar 10) (xC (.int 1600))) (xC (.int 6)))) xNil))))) (bName 13)) sNext)
  (sSeq (sIf (xOr (xB (xOp (oBl fun i j => decide (j < i)) (xOp (oIntC modN fun i j => i % j) (xVar 10) (xC (.int 8))) (xC (.int 2)))) (xNot (xB (xCallM sem__law_can 2 (xCons (xVar 7) (xCons (xVar 13) xNil)))))) (sSeq (sAsg (xOp (oInt fun i j => i - j) (xDGet "now" (xVar 7)) (xVar 3)) (bName 14))
  (sSeq (sAsg (xTup (xCons (xC (.str "tick")) (xCons (xIf (xB (xChain (oBl fun i j => decide (i ≤ j)) (oBl fun i j => decide (i < j)) (xC (.int 0)) (xVar 14) (xC (.int 61)))) (xDat (xCL oList (xCons (xOp oIx (xDGet "row" (xVar 7)) (xVar 14)) xNil))) (xDat (xLst xNil))) xNil))) (bName 13))
  (sIf (xNot (xB (xCallM sem__law_can 2 (xCons (xVar 7) (xCons (xVar 13) xNil))))) (sRet (xVar 8)) sNext))) sNext)
  (sDrop (xMut uApp (xVar 8) (xCons (xVar 13) xNil))))))))) [9, 10, 11, 12, 13, 14])
  (sRet (xVar 8)))))
def sem__law_tale : Sem2 := callS 5 15 body__law_tale
def body__law_spoils : SS := (sSeq (sParT 2 (xCons (xOp oIx (xVar 0) (xVar 1)) (xCons (xDat (xLst (xCons (xDat (xCat (xDat (xSl (xVar 0) xNoPart (xPart (xVar 1)))) (xDat (xSl (xVar 0) (xPart (xOp (oInt fun i j => i + j) (xVar 1) (xC (.int 1)))) xNoPart)))) (xCons (xDat (xCat (xDat (xSl (xVar 0) xNoPart (xPart (xOp (oInt fun i j => i + j) (xVar 1) (xC (.int 1)))))) (xDat (xSl (xVar 0) (xPart (xVar 1)) xNoPart)))) (xCons (xDat (xCat (xDat (xSl (xVar 0) xNoPart (xPart (xVar 1)))) (xDat (xRev (xDat (xSl (xVar 0) (xPart (xVar 1)) xNoPart)))))) xNil))))) xNil)) (bCons (bName 3) (bCons (bName 4) bNil)))
  (sSeq (sAsg (xOwn (xLst (xCons (xTup (xCons (xC (.str "take")) (xCons (xVar 2) (xCons (xC (.int 0)) xNil)))) (xCons (xTup (xCons (xC (.str "done")) (xCons (xVar 2) (xCons (xC (.int 41)) xNil)))) (xCons (xTup (xCons (xC (.str "off")) (xCons (xVar 2) (xCons (xC (.int 0)) (xCons (xC (.int 21)) xNil))))) (xCons (xTup (xCons (xC (.str "tick")) (xCons (xDat (xLst (xCons (xVar 2) xNil))) xNil))) (xCons (xTup (xCons (xC (.str "tick")) (xCons (xDat (xLst (xCons (xC (.int 9)) xNil))) xNil))) xNil))))))) (bName 5))
  (sSeq (sIf (xB (xOp (oEq false) (xOp oIx (xVar 3) (xC (.int 0))) (xC (.str "tick")))) (sSeq (sAsg (xOwn (xCat (xVar 5) (xDat (xLst (xCons (xTup (xCons (xC (.str "tick")) (xCons (xDat (xSl (xOp oIx (xVar 3) (xC (.int 1))) (xPart (xC (.int 1))) xNoPart)) xNil))) (xCons (xTup (xCons (xC (.str "tick")) (xCons (xDat (xCat (xOp oIx (xVar 3) (xC (.int 1))) (xDat (xLst (xCons (xVar 2) xNil))))) xNil))) (xCons (xTup (xCons (xC (.str "tick")) (xCons (xDat (xRev (xOp oIx (xVar 3) (xC (.int 1))))) xNil))) (xCons (xTup (xCons (xC (.str "tick")) (xCons (xDat (xLst (xCons (xNeg (xC (.int 1))) xNil))) xNil))) xNil)))))))) (bName 5))
  (sDrop (xMut uApp (xVar 5) (xCons (xTup (xCons (xC (.str "take")) (xCons (xOp (oIntC powN fun i j => i ^ j.toNat) (xC (.int 10)) (xC (.int 20))) (xCons (xC (.int 0)) xNil)))) xNil)))) (sSeq (sAsg (xOwn (xCat (xDat (xCat (xVar 5) (xDat (xLc (xiTup (xTup (xCons (xC (.str "take")) (xCons (xC (.str "done")) xNil)))) (bName 6) xYes (xCatT (xTup (xCons (xVar 6) xNil)) (xSlT (xVar 3) (xPart (xC (.int 1))) (xPart (xC (.int 3))))) [6])))) (xDat (xLst (xCons (xCatT (xCatT (xTup (xCons (xC (.str "off")) xNil)) (xSlT (xVar 3) (xPart (xC (.int 1))) (xPart (xC (.int 3))))) (xTup (xCons (xC (.int 3)) xNil))) xNil))))) (bName 5))
  (sSeq (sAsg (xOwn (xCat (xVar 5) (xDat (xLst (xCons (xCatT (xTup (xCons (xOp oIx (xVar 3) (xC (.int 0))) (xCons (xVar 2) xNil))) (xSlT (xVar 3) (xPart (xC (.int 2))) xNoPart)) (xCons (xCatT (xTup (xCons (xOp oIx (xVar 3) (xC (.int 0))) (xCons (xNeg (xC (.int 1))) xNil))) (xSlT (xVar 3) (xPart (xC (.int 2))) xNoPart)) (xCons (xTup (xCons (xC (.str "tick")) (xCons (xDat (xLst xNil)) xNil))) xNil))))))) (bName 5))
  (sAsg (xOwn (xCat (xVar 5) (xDat (xLc (xiTup (xTup (xCons (xOp (oInt fun i j => i + j) (xOp oIx (xVar 3) (xC (.int 2))) (xC (.int 1))) (xCons (xOp (oInt fun i j => i - j) (xOp oIx (xVar 3) (xC (.int 2))) (xC (.int 1))) (xCons (xOp (oIntC powN fun i j => i ^ j.toNat) (xC (.int 10)) (xC (.int 20))) xNil))))) (bName 7) xYes (xCatT (xCatT (xSlT (xVar 3) xNoPart (xPart (xC (.int 2)))) (xTup (xCons (xVar 7) xNil))) (xSlT (xVar 3) (xPart (xC (.int 3))) xNoPart)) [7])))) (bName 5)))))
  (sSeq (sIf (xB (xOp (oEq false) (xOp oIx (xVar 3) (xC (.int 0))) (xC (.str "off")))) (sAsg (xOwn (xCat (xVar 5) (xDat (xLc (xiTup (xTup (xCons (xOp (oInt fun i j => i + j) (xOp oIx (xVar 3) (xC (.int 3))) (xC (.int 1))) (xCons (xOp (oInt fun i j => i - j) (xOp oIx (xVar 3) (xC (.int 3))) (xC (.int 1))) (xCons (xC (.int 0)) (xCons (xC (.int 20)) (xCons (xC (.int 21)) (xCons (xNeg (xC (.int 1))) (xCons (xOp (oIntC powN fun i j => i ^ j.toNat) (xC (.int 10)) (xC (.int 20))) xNil))))))))) (bName 8) xYes (xCatT (xSlT (xVar 3) xNoPart (xPart (xC (.int 3)))) (xTup (xCons (xVar 8) xNil))) [8])))) (bName 5)) sNext)
  (sRet (xOwn (xCat (xVar 4) (xDat (xLc (xiList (xVar 5)) (bName 9) xYes (xDat (xCat (xDat (xCat (xDat (xSl (xVar 0) xNoPart (xPart (xVar 1)))) (xDat (xLst (xCons (xVar 9) xNil))))) (xDat (xSl (xVar 0) (xPart (xOp (oInt fun i j => i + j) (xVar 1) (xC (.int 1)))) xNoPart)))) [9])))))))))
def sem__law_spoils : Sem2 := callS 3 10 body__law_spoils
def body__law_line_copied : SS := (sRet (xIf (xB (xOp (oEq false) (xOp oIx (xVar 0) (xC (.int 0))) (xC (.str "tick")))) (xTup (xCons (xC (.str "tick")) (xCons (xDat (xCL oList (xCons (xOp oIx (xVar 0) (xC (.int 1))) xNil))) xNil))) (xVar 0)))
def sem__law_line_copied : Sem2 := callS 1 1 body__law_line_copied
end
end Nc
set_option Elab.async false
set_option linter.all false
set_option maxRecDepth 100000
set_option maxHeartbeats 4000000
namespace Nc
open PySem PySem.Spec PyProof.Rows L2
noncomputable section
def body__law_nag : SS := (sSeq (sAsg (xMake "Nag" sem_Nag_init 3 (xCons (xVar 0) (xCons (xVar 2) xNil))) (bName 3))
  (sSeq (sFor (xiRng1 (xCons (xOp (oInt fun i j => i + j) (xC (.int 61)) (xVar 2)) xNil)) (bName 4) (sSeq (sFor (xiList (xDat (xLc (xiList (xVar 1)) (bName 5) (xB (xOp (oEq false) (xOp oIx (xVar 5) (xC (.int 3))) (xVar 4))) (xVar 5) [5]))) (bName 5) (sIf (xB (xOp (oEq false) (xOp oIx (xVar 5) (xC (.int 0))) (xC (.str "take")))) (sDrop (xMeth "Nag" "take" sem_Nag_take 3 (xVar 3) (xCons (xOp oIx (xVar 5) (xC (.int 1))) (xCons (xOp oIx (xVar 5) (xC (.int 2))) xNil)))) (sIf (xB (xOp (oEq false) (xOp oIx (xVar 5) (xC (.int 0))) (xC (.str "done")))) (sDrop (xMeth "Nag" "finish" sem_Nag_finish 3 (xVar 3) (xCons (xOp oIx (xVar 5) (xC (.int 1))) (xCons (xOp oIx (xVar 5) (xC (.int 2))) xNil)))) (sDrop (xMeth "Nag" "put_off" sem_Nag_put_off 4 (xVar 3) (xCons (xOp oIx (xVar 5) (xC (.int 1))) (xCons (xOp oIx (xVar 5) (xC (.int 2))) (xCons (xOp oIx (xVar 5) (xC (.int 4))) xNil))))))) [5])
  (sDrop (xMeth "Nag" "pass_tick" sem_Nag_pass_tick 1 (xVar 3) xNil))) [4, 5])
  (sRet (xVar 3))))
def sem__law_nag : Sem2 := callS 3 6 body__law_nag
def body_law : SS := (sSeq (sAsg (xCB oSum (xCons (xDat (xSl (xVar 0) xNoPart (xPart (xC (.int 63))))) xNil)) (bName 1))
  (sSeq (sAsg (xCallF sem__law_chain 2 (xCons (xVar 0) (xCons (xC (.int 0)) xNil))) (bName 2))
  (sSeq (sAsg (xCallF sem__law_words 3 (xCons (xVar 0) (xCons (xC (.int 0)) (xCons (xVar 2) xNil)))) (bName 3))
  (sSeq (sPar 4 5 (xCons (xCallF sem_due_all 2 (xCons (xVar 2) (xCons (xVar 3) xNil))) (xCons (xFld "Enough" "hold" (xCallO sem_enough 2 (xCons (xVar 2) (xCons (xVar 3) xNil)))) xNil)))
  (sSeq (sIf (xB (xOp (oEq true) (xMeth "Nag" "sent" sem_Nag_sent 1 (xCallM sem__law_nag 3 (xCons (xVar 2) (xCons (xVar 3) (xCons (xVar 5) xNil)))) xNil) (xVar 4))) (sRet (xC (.bool false))) sNext)
  (sSeq (sIf (xAnd (xB (xOp (oBl fun i j => decide (j < i)) (xVar 5) (xC (.int 0)))) (xB (xOp (oEq false) (xMeth "Nag" "sent" sem_Nag_sent 1 (xCallM sem__law_nag 3 (xCons (xVar 2) (xCons (xVar 3) (xCons (xOp (oInt fun i j => i - j) (xVar 5) (xC (.int 1))) xNil)))) xNil) (xVar 4)))) (sRet (xC (.bool false))) sNext)
  (sSeq (sAsg (xOp (oIntC modN fun i j => i % j) (xOp (oIntC divN fun i j => i / j) (xVar 1) (xC (.int 3))) (xC (.int 4))) (bName 6))
  (sSeq (sPar 7 8 (xCons (xCallM sem__law_nag 3 (xCons (xVar 2) (xCons (xVar 3) (xCons (xVar 6) xNil)))) (xCons (xCallM sem__law_nag 3 (xCons (xVar 2) (xCons (xDat (xRev (xVar 3))) (xCons (xVar 6) xNil)))) xNil)))
  (sSeq (sAsg (xCallF sem_sent_all 3 (xCons (xVar 2) (xCons (xVar 3) (xCons (xVar 6) xNil)))) (bName 9))
  (sSeq (sIf (xOr (xB (xOp (oEq true) (xMeth "Nag" "sent" sem_Nag_sent 1 (xVar 7) xNil) (xVar 9))) (xOr (xB (xOp (oEq true) (xMeth "Nag" "sent" sem_Nag_sent 1 (xVar 8) xNil) (xVar 9))) (xB (xOp (oEq true) (xDat (xCL oSortD (xCons (xMeth "Nag" "words" sem_Nag_words 1 (xVar 7) xNil) xNil))) (xDat (xCL oSortD (xCons (xVar 3) xNil))))))) (sRet (xC (.bool false))) sNext)
  (sSeq (sAsg (xCallF sem_apart 3 (xCons (xVar 2) (xCons (xVar 3) (xCons (xVar 6) xNil)))) (bTup 2 (bCons (bName 10) (bCons (bName 11) bNil))))
  (sSeq (sIf (xB (xOp (oEq true) (xDat (xCL oSortD (xCons (xDat (xCat (xDat (xLc (xiList (xVar 9)) (bName 12) (xB (xOp (oInD true) (xVar 12) (xVar 10))) (xVar 12) [12])) (xVar 11))) xNil))) (xVar 4))) (sRet (xC (.bool false))) sNext)
  (sSeq (sAsg (xMeth "Nag" "tale" sem_Nag_tale 1 (xVar 7) xNil) (bName 13))
  (sSeq (sIf (xAnd (xB (xOp (oBl fun i j => decide (i < j)) (xCB oLen (xCons (xVar 13) xNil)) (xC (.int 81)))) (xNot (xB (xIsiO ktA "Right" (xCallO sem_judged 3 (xCons (xVar 2) (xCons (xVar 6) (xCons (xVar 13) xNil)))))))) (sRet (xC (.bool false))) sNext)
  (sSeq (sIf (xB (xOp (oBl fun i j => decide (i < j)) (xCB oLen (xCons (xVar 13) xNil)) (xC (.int 80)))) (sSeq (sAsg (xCallO sem_judged 3 (xCons (xVar 2) (xCons (xVar 6) (xCons (xDat (xCat (xVar 13) (xDat (xLst (xCons (xTup (xCons (xC (.str "tick")) (xCons (xDat (xLst xNil)) xNil))) xNil))))) xNil)))) (bName 14))
  (sIf (xOr (xNot (xB (xIsiO ktA "Wrong" (xVar 14)))) (xB (xOp (oEq true) (xFld "Wrong" "line" (xVar 14)) (xCB oLen (xCons (xVar 13) xNil))))) (sRet (xC (.bool false))) sNext)) sNext)
  (sRet (xOp (oEq false) (xMeth "Nag" "sent" sem_Nag_sent 1 (xCallM sem__law_nag 3 (xCons (xDat (xLst (xCons (xTup (xCons (xDat (xLst (xCons (xC (.int 4)) xNil))) (xCons (xC (.int 1)) (xCons (xC (.int 1)) xNil)))) xNil))) (xCons (xDat (xLst xNil)) (xCons (xC (.int 0)) xNil)))) xNil) (xDat (xLst (xCons (xTup (xCons (xC (.int 0)) (xCons (xC (.int 4)) xNil))) xNil))))))))))))))))))))
def sem_law : Sem2 := callS 1 15 body_law
end
end Nc
set_option Elab.async false
set_option linter.all false
set_option maxRecDepth 100000
set_option maxHeartbeats 4000000
namespace Nc
open PySem PySem.Spec PyProof.Rows L2
def top (i : Nat) : Stmt := PySem.Challenge.pw_nagchain_k12_whole_way.main.body.getD i (.Pass ⟨0, 0, 0, 0⟩)
def fn0 : List He.DefD := [⟨("_wall", none), "_wall", "_wall", defArgs (top 0), defBody (top 0), defScope (top 0), [], []⟩, ⟨("is_whole", none), "is_whole", "is_whole", defArgs (top 23), defBody (top 23), defScope (top 23), [], []⟩, ⟨("is_between", none), "is_between", "is_between", defArgs (top 24), defBody (top 24), defScope (top 24), [], []⟩, ⟨("is_level", none), "is_level", "is_level", defArgs (top 25), defBody (top 25), defScope (top 25), [], []⟩, ⟨("people_of", none), "people_of", "people_of", defArgs (top 26), defBody (top 26), defScope (top 26), [], []⟩, ⟨("check_chain", none), "check_chain", "check_chain", defArgs (top 27), defBody (top 27), defScope (top 27), [], []⟩, ⟨("is_word", none), "is_word", "is_word", defArgs (top 28), defBody (top 28), defScope (top 28), [], []⟩, ⟨("check_words", none), "check_words", "check_words", defArgs (top 29), defBody (top 29), defScope (top 29), [], []⟩, ⟨("check_hold", none), "check_hold", "check_hold", defArgs (top 30), defBody (top 30), defScope (top 30), [], []⟩, ⟨("is_line", none), "is_line", "is_line", defArgs (top 31), defBody (top 31), defScope (top 31), [], []⟩, ⟨("check_tale", none), "check_tale", "check_tale", defArgs (top 32), defBody (top 32), defScope (top 32), [], []⟩, ⟨("level_at", none), "level_at", "level_at", defArgs (top 34), defBody (top 34), defScope (top 34), [], []⟩]
def fn1 : List He.DefD := [⟨("every_of", none), "every_of", "every_of", defArgs (top 35), defBody (top 35), defScope (top 35), [], []⟩, ⟨("Matter", some "__init__"), "__init__", "Matter.__init__", defArgs (inClass (top 36) 0), defBody (inClass (top 36) 0), defScope (inClass (top 36) 0), [], []⟩, ⟨("Matter", some "told"), "told", "Matter.told", defArgs (inClass (top 36) 1), defBody (inClass (top 36) 1), defScope (inClass (top 36) 1), [], []⟩, ⟨("Matter", some "due"), "due", "Matter.due", defArgs (inClass (top 36) 2), defBody (inClass (top 36) 2), defScope (inClass (top 36) 2), [], []⟩, ⟨("due_by", none), "due_by", "due_by", defArgs (top 37), defBody (top 37), defScope (top 37), [], []⟩, ⟨("rows_by", none), "rows_by", "rows_by", defArgs (top 38), defBody (top 38), defScope (top 38), [], []⟩, ⟨("sent_in", none), "sent_in", "sent_in", defArgs (top 39), defBody (top 39), defScope (top 39), [], []⟩, ⟨("sent_by", none), "sent_by", "sent_by", defArgs (top 40), defBody (top 40), defScope (top 40), [], []⟩, ⟨("pairs_of", none), "pairs_of", "pairs_of", defArgs (top 41), defBody (top 41), defScope (top 41), [], []⟩, ⟨("least_hold", none), "least_hold", "least_hold", defArgs (top 42), defBody (top 42), defScope (top 42), [], []⟩, ⟨("Round", some "__init__"), "__init__", "Round.__init__", defArgs (inClass (top 44) 0), defBody (inClass (top 44) 0), defScope (inClass (top 44) 0), [], []⟩, ⟨("Round", some "can_say"), "can_say", "Round.can_say", defArgs (inClass (top 44) 1), defBody (inClass (top 44) 1), defScope (inClass (top 44) 1), [], []⟩]
def fn2 : List He.DefD := [⟨("Round", some "has_room"), "has_room", "Round.has_room", defArgs (inClass (top 44) 2), defBody (inClass (top 44) 2), defScope (inClass (top 44) 2), [], []⟩, ⟨("Round", some "hear"), "hear", "Round.hear", defArgs (inClass (top 44) 3), defBody (inClass (top 44) 3), defScope (inClass (top 44) 3), [], []⟩, ⟨("Round", some "is_over"), "is_over", "Round.is_over", defArgs (inClass (top 44) 4), defBody (inClass (top 44) 4), defScope (inClass (top 44) 4), [], []⟩, ⟨("Round", some "pass_one"), "pass_one", "Round.pass_one", defArgs (inClass (top 44) 5), defBody (inClass (top 44) 5), defScope (inClass (top 44) 5), [], []⟩, ⟨("Round", some "comes"), "comes", "Round.comes", defArgs (inClass (top 44) 6), defBody (inClass (top 44) 6), defScope (inClass (top 44) 6), [], []⟩, ⟨("first_wrong", none), "first_wrong", "first_wrong", defArgs (top 45), defBody (top 45), defScope (top 45), [], []⟩, ⟨("Nag", some "__init__"), "__init__", "Nag.__init__", defArgs (inClass (top 47) 0), defBody (inClass (top 47) 0), defScope (inClass (top 47) 0), [], []⟩, ⟨("Nag", some "check"), "check", "Nag.check", defArgs (inClass (top 47) 1), defBody (inClass (top 47) 1), defScope (inClass (top 47) 1), [], []⟩, ⟨("Nag", some "hear"), "hear", "Nag.hear", defArgs (inClass (top 47) 2), defBody (inClass (top 47) 2), defScope (inClass (top 47) 2), [], []⟩, ⟨("Nag", some "take"), "take", "Nag.take", defArgs (inClass (top 47) 3), defBody (inClass (top 47) 3), defScope (inClass (top 47) 3), [], []⟩, ⟨("Nag", some "put_off"), "put_off", "Nag.put_off", defArgs (inClass (top 47) 4), defBody (inClass (top 47) 4), defScope (inClass (top 47) 4), [], []⟩, ⟨("Nag", some "finish"), "finish", "Nag.finish", defArgs (inClass (top 47) 5), defBody (inClass (top 47) 5), defScope (inClass (top 47) 5), [], []⟩]
def fn3 : List He.DefD := [⟨("Nag", some "pass_tick"), "pass_tick", "Nag.pass_tick", defArgs (inClass (top 47) 6), defBody (inClass (top 47) 6), defScope (inClass (top 47) 6), [], []⟩, ⟨("Nag", some "at"), "at", "Nag.at", defArgs (inClass (top 47) 7), defBody (inClass (top 47) 7), defScope (inClass (top 47) 7), [], []⟩, ⟨("Nag", some "words"), "words", "Nag.words", defArgs (inClass (top 47) 8), defBody (inClass (top 47) 8), defScope (inClass (top 47) 8), [], []⟩, ⟨("Nag", some "sent"), "sent", "Nag.sent", defArgs (inClass (top 47) 9), defBody (inClass (top 47) 9), defScope (inClass (top 47) 9), [], []⟩, ⟨("Nag", some "tale"), "tale", "Nag.tale", defArgs (inClass (top 47) 10), defBody (inClass (top 47) 10), defScope (inClass (top 47) 10), [], []⟩, ⟨("Enough", some "__init__"), "__init__", "Enough.__init__", defArgs (inClass (top 50) 0), defBody (inClass (top 50) 0), defScope (inClass (top 50) 0), [], []⟩, ⟨("Enough", some "shows"), "shows", "Enough.shows", defArgs (inClass (top 50) 1), defBody (inClass (top 50) 1), defScope (inClass (top 50) 1), [], []⟩, ⟨("Right", some "shows"), "shows", "Right.shows", defArgs (inClass (top 51) 0), defBody (inClass (top 51) 0), defScope (inClass (top 51) 0), [], []⟩, ⟨("Wrong", some "__init__"), "__init__", "Wrong.__init__", defArgs (inClass (top 52) 0), defBody (inClass (top 52) 0), defScope (inClass (top 52) 0), [], []⟩, ⟨("Wrong", some "shows"), "shows", "Wrong.shows", defArgs (inClass (top 52) 1), defBody (inClass (top 52) 1), defScope (inClass (top 52) 1), [], []⟩, ⟨("due_all", none), "due_all", "due_all", defArgs (top 54), defBody (top 54), defScope (top 54), [], []⟩, ⟨("sent_all", none), "sent_all", "sent_all", defArgs (top 55), defBody (top 55), defScope (top 55), [], []⟩]
def fn4 : List He.DefD := [⟨("apart", none), "apart", "apart", defArgs (top 56), defBody (top 56), defScope (top 56), [], []⟩, ⟨("enough", none), "enough", "enough", defArgs (top 57), defBody (top 57), defScope (top 57), [], []⟩, ⟨("judged", none), "judged", "judged", defArgs (top 58), defBody (top 58), defScope (top 58), [], []⟩, ⟨("_law_number", none), "_law_number", "_law_number", defArgs (top 60), defBody (top 60), defScope (top 60), [], []⟩, ⟨("_law_chain", none), "_law_chain", "_law_chain", defArgs (top 61), defBody (top 61), defScope (top 61), [], []⟩, ⟨("_law_words", none), "_law_words", "_law_words", defArgs (top 62), defBody (top 62), defScope (top 62), [], []⟩, ⟨("_law_nag", none), "_law_nag", "_law_nag", defArgs (top 63), defBody (top 63), defScope (top 63), [], []⟩, ⟨("law", none), "law", "law", defArgs (top 64), defBody (top 64), defScope (top 64), [], []⟩]
def fn : List He.DefD := fn0 ++ fn1 ++ fn2 ++ fn3 ++ fn4
def fa0 : List He.Fa := [.glo "_wall", .glo "is_whole", .glo "is_between", .glo "is_level", .glo "people_of", .glo "check_chain", .glo "is_word", .glo "check_words", .glo "check_hold", .glo "is_line", .glo "check_tale", .glo "level_at"]
def fa1 : List He.Fa := [.glo "every_of", .glo "due_by", .glo "rows_by", .glo "sent_in", .glo "sent_by", .glo "pairs_of", .glo "least_hold", .glo "first_wrong", .glo "due_all", .glo "sent_all", .glo "apart", .glo "enough"]
def fa2 : List He.Fa := [.glo "judged", .glo "_law_number", .glo "_law_chain", .glo "_law_words", .glo "_law_nag", .glo "law", .glo "NagError", .glo "BadChain", .glo "BadWords", .glo "BadHold", .glo "BadTale", .glo "BadPerson"]
def fa3 : List He.Fa := [.glo "BadSaid", .glo "BadTicks", .glo "TooMany", .glo "Over", .glo "Matter", .cls "Matter", .meth "Matter" "__init__", .meth "Matter" "told", .meth "Matter" "due", .noat "Matter" "chain", .noat "Matter" "clock", .noat "Matter" "quiet_to"]
def fa4 : List He.Fa := [.noat "Matter" "taker", .noat "Matter" "since", .noat "Matter" "over", .mkr "Matter", .glo "Round", .cls "Round", .meth "Round" "__init__", .meth "Round" "can_say", .meth "Round" "has_room", .meth "Round" "hear", .meth "Round" "is_over", .meth "Round" "pass_one"]
def fa5 : List He.Fa := [.meth "Round" "comes", .noat "Round" "chain", .noat "Round" "people", .noat "Round" "hold", .noat "Round" "known", .noat "Round" "row", .noat "Round" "now", .mkr "Round", .glo "Nag", .cls "Nag", .meth "Nag" "__init__", .meth "Nag" "check"]
def fa6 : List He.Fa := [.meth "Nag" "hear", .meth "Nag" "take", .meth "Nag" "put_off", .meth "Nag" "finish", .meth "Nag" "pass_tick", .meth "Nag" "at", .meth "Nag" "words", .meth "Nag" "sent", .meth "Nag" "tale", .noat "Nag" "going", .noat "Nag" "lines", .noat "Nag" "log"]
def fa7 : List He.Fa := [.mkr "Nag", .glo "Answer", .glo "Enough", .cls "Enough", .meth "Enough" "__init__", .meth "Enough" "shows", .noat "Enough" "hold", .noat "Enough" "tick", .noat "Enough" "person", .mkr "Enough", .glo "Right", .cls "Right"]
def fa8 : List He.Fa := [.meth "Right" "shows", .glo "Wrong", .cls "Wrong", .meth "Wrong" "__init__", .meth "Wrong" "shows", .noat "Wrong" "line", .mkr "Wrong", .int "MOST_LEVELS" 4, .int "MOST_PERSON" 7, .int "MOST_PEOPLE" 3, .int "MOST_EVERY" 9, .int "MOST_TIMES" 5]
def fa9 : List He.Fa := [.int "MOST_WORDS" 12, .int "MOST_SAID" 40, .int "LAST" 60, .int "MOST_QUIET" 20, .int "MOST_LINES" 80, .free "ValueError", .free "all", .free "any", .free "bool", .free "enumerate", .free "int", .free "isinstance"]
def fa10 : List He.Fa := [.free "len", .free "list", .free "max", .free "min", .free "range", .free "set", .free "sorted", .free "sum", .free "tuple", .free "zip"]
def fa : List He.Fa := fa0 ++ fa1 ++ fa2 ++ fa3 ++ fa4 ++ fa5 ++ fa6 ++ fa7 ++ fa8 ++ fa9 ++ fa10
def names : List PySem.Str := (["_wall", "__name__", "NagError", "BadChain", "BadWords", "BadHold", "BadTale", "BadPerson", "BadSaid", "BadTicks", "TooMany", "Over", "MOST_LEVELS", "MOST_PERSON", "MOST_PEOPLE"] : List PySem.Str) ++ (["MOST_EVERY", "MOST_TIMES", "MOST_WORDS", "MOST_SAID", "LAST", "MOST_QUIET", "MOST_LINES", "is_whole", "is_between", "is_level", "people_of", "check_chain", "is_word", "check_words", "check_hold"] : List PySem.Str) ++ (["is_line", "check_tale", "level_at", "every_of", "Matter", "due_by", "rows_by", "sent_in", "sent_by", "pairs_of", "least_hold", "Round", "first_wrong", "Nag", "Answer"] : List PySem.Str) ++ (["Enough", "Right", "Wrong", "due_all", "sent_all", "apart", "enough", "judged", "_law_number", "_law_chain", "_law_words", "_law_nag"] : List PySem.Str)
structure Tx (K : PySem.W.Frag) (mg : Str → Option Value) : Prop where
  c : He.SaysD fa fn K
  k : ktA.all (ktB K) = true
  h : ∃ h : Heap, K.In h ∧ h.Ns mainGlobals mg
section
variable {K : PySem.W.Frag} {mg : Str → Option Value}
theorem Tx.glo (T : Tx K mg) {i : Nat} {x : Str} (e : fa[i]? = some (.glo x)) : mg x = some (.ref (He.ga K x)) := by
  obtain ⟨h, X, G⟩ := T.h
  exact He.glo_ok X G (T.c.fact i e)
theorem Tx.free (T : Tx K mg) {i : Nat} {x : Str} (e : fa[i]? = some (.free x)) : mg x = none := by
  obtain ⟨h, X, G⟩ := T.h
  exact He.free_ok X G (T.c.fact i e)
theorem Tx.int (T : Tx K mg) {i : Nat} {x : Str} {n : Int} (e : fa[i]? = some (.int x n)) : ∃ t, mg x = some (.int n t) := by
  obtain ⟨h, X, G⟩ := T.h
  exact He.int_ok X G (T.c.fact i e)
theorem Tx.cls (T : Tx K mg) {i : Nat} {x : Str} (e : fa[i]? = some (.cls x)) : Cls K (He.ga K x) := He.cls_ok (T.c.fact i e)
theorem Tx.noat (T : Tx K mg) {i : Nat} {x f : Str} (e : fa[i]? = some (.noat x f)) : NoAttr K (He.ga K x) f := He.noat_ok (T.c.fact i e)
theorem Tx.meth (T : Tx K mg) {i : Nat} {x f : Str} (e : fa[i]? = some (.meth x f)) : Meth K (He.ga K x) f (He.ma K (He.ga K x) f) := He.meth_ok (T.c.fact i e)
theorem Tx.mkr (T : Tx K mg) {i : Nat} {x : Str} (e : fa[i]? = some (.mkr x)) : Mk K (He.ga K x) (He.ma K (He.ga K x) "__init__") := He.mkr_ok (T.c.fact i e)
end
def nm_is_whole : List Str := ["thing"]
theorem sc_is_whole : FnScope nm_is_whole ["thing"] (defScope (top 23)) := ⟨rfl, rfl, rfl, by decide +kernel, rfl, by decide +kernel, by decide +kernel⟩
theorem ok_is_whole {P : Program} {w : World} {K : PySem.W.Frag} {mg : Str → Option Value} {base : Heap} (T : Tx K mg) : Okd P w K mg base 1 (He.ga K "is_whole") 1 sem_is_whole := by
  obtain ⟨fd, F⟩ := T.c.def_ 1 rfl
  refine ⟨⟨fd, ["thing"], fn_ok F sc_is_whole body_is_whole (fun cdv A outer s H E hr => ?_), F.bindsN fun _ _ _ _ _ _ us hl => match us, hl with | [_], _ => rfl⟩, F.kp⟩
  exact ⟨_, (pss_one (ps_ret (pe_and (pe_callB call_isi (by rfl) (T.free (i := 119) rfl) (by decide +kernel) (pa_cons (pv 0) (pa_cons (pe_bltn (v := .ty "int") rfl (T.free (i := 118) rfl) (by decide +kernel) rfl) pa_nil))) (pe_one (pe_not (pe_callB call_isi (by rfl) (T.free (i := 119) rfl) (by decide +kernel) (pa_cons (pv 0) (pa_cons (pe_bltn (v := .ty "bool") rfl (T.free (i := 116) rfl) (by decide +kernel) rfl) pa_nil)))))))),
    (sms_ret (sm_andV (sm_isi (T := "int") (sm_var (i := 0))) (sm_notV (sm_isi (T := "bool") (sm_var (i := 0))))))⟩

def nm_is_between : List Str := ["thing", "least", "most"]
theorem sc_is_between : FnScope nm_is_between ["thing", "least", "most"] (defScope (top 24)) := ⟨rfl, rfl, rfl, by decide +kernel, rfl, by decide +kernel, by decide +kernel⟩
theorem ok_is_between {P : Program} {w : World} {K : PySem.W.Frag} {mg : Str → Option Value} {base : Heap} (T : Tx K mg) (D_is_whole : Okd P w K mg base 1 (He.ga K "is_whole") 1 sem_is_whole) : Okd P w K mg base 2 (He.ga K "is_between") 3 sem_is_between := by
  obtain ⟨fd, F⟩ := T.c.def_ 2 rfl
  refine ⟨⟨fd, ["thing", "least", "most"], fn_ok F sc_is_between body_is_between (fun cdv A outer s H E hr => ?_), F.bindsN fun _ _ _ _ _ _ us hl => match us, hl with | [_, _, _], _ => rfl⟩, F.kp⟩
  exact ⟨_, (pss_one (ps_ret (pe_and (pe_callD D_is_whole (hr.mono (by decide)) rfl (T.glo (i := 1) rfl) (pa_cons (pv 0) pa_nil)) (pe_one (pe_chain op_le op_le (pv 1) (pv 0) (pv 2)))))),
    (sms_ret (sm_andV (sm_callF (sma_cons (sm_var (i := 0)) sma_nil)) (sm_chain r2_bl r2_bl (sm_var (i := 1)) (sm_var (i := 0)) (sm_var (i := 2)))))⟩

def nm_is_level : List Str := ["thing", "one", "other"]
theorem sc_is_level : FnScope nm_is_level ["thing"] (defScope (top 25)) := ⟨rfl, rfl, rfl, by decide +kernel, rfl, by decide +kernel, by decide +kernel⟩
theorem ok_is_level {P : Program} {w : World} {K : PySem.W.Frag} {mg : Str → Option Value} {base : Heap} (T : Tx K mg) (D_is_between : Okd P w K mg base 2 (He.ga K "is_between") 3 sem_is_between) : Okd P w K mg base 3 (He.ga K "is_level") 1 sem_is_level := by
  obtain ⟨t_MOST_EVERY, g_MOST_EVERY⟩ := T.int (i := 106) (x := "MOST_EVERY") (n := 9) rfl
  obtain ⟨t_MOST_PEOPLE, g_MOST_PEOPLE⟩ := T.int (i := 105) (x := "MOST_PEOPLE") (n := 3) rfl
  obtain ⟨t_MOST_PERSON, g_MOST_PERSON⟩ := T.int (i := 104) (x := "MOST_PERSON") (n := 7) rfl
  obtain ⟨t_MOST_TIMES, g_MOST_TIMES⟩ := T.int (i := 107) (x := "MOST_TIMES") (n := 5) rfl
  obtain ⟨fd, F⟩ := T.c.def_ 3 rfl
  refine ⟨⟨fd, ["thing"], fn_ok F sc_is_level body_is_level (fun cdv A outer s H E hr => ?_), F.bindsN fun _ _ _ _ _ _ us hl => match us, hl with | [_], _ => rfl⟩, F.kp⟩
  exact ⟨_, (pss_cons (ps_if (PW.pt (pw_or (pt_not (pt_val (pe_callB call_isi (by rfl) (T.free (i := 119) rfl) (by decide +kernel) (pa_cons (pv 0) (pa_cons (pe_bltn (v := .ty "tuple") rfl (T.free (i := 128) rfl) (by decide +kernel) rfl) pa_nil))))) (pw_or (pt_cmpR (op_neD hr.units) (pe_callB call_len_seq (by rfl) (T.free (i := 120) rfl) (by decide +kernel) (pa_cons (pv 0) pa_nil)) pe_int (nomark _)) (pw_or1 (pt_not (pt_val (pe_callB call_isi (by rfl) (T.free (i := 119) rfl) (by decide +kernel) (pa_cons (pe_ix ix_seq (pv 0) pe_int (fun _ _ => rfl)) (pa_cons (pe_bltn (v := .ty "list") rfl (T.free (i := 121) rfl) (by decide +kernel) rfl) pa_nil))))))))) (pss_one (ps_ret pe_bl)) pss_nil)
    (pss_cons (ps_if (PW.pt (pw_or (pt_not (pt_chain op_le op_le pe_int (pe_callB call_len_seq (by rfl) (T.free (i := 120) rfl) (by decide +kernel) (pa_cons (pe_ix ix_seq (pv 0) pe_int (fun _ _ => rfl)) pa_nil)) (pe_glob (v := .int 3) rfl g_MOST_PEOPLE ⟨_, rfl⟩))) (pw_or1 (pt_not (pt_val (pe_callB (cr_all rfl) (by rfl) (T.free (i := 114) rfl) (by decide +kernel) (pa_cons (pe_lc (own := [("one", 1)]) (g := (gName 1)) (tt := tYes) (te := (tCall (SpB K sem_is_between 3) [] E0 (tCons (tVar 1) (tCons (tC (.int 0)) (tCons (tC (.int 7)) tNil))))) rfl sc_is_level.nd (pi_list (pe_ix ix_seq (pv 0) pe_int (fun _ _ => rfl))) (blkOk_by (own := [("one", 1)]) (N := nm_is_level) (sc := defScope (top 25)) (by decide +kernel)) (fun _ _ _ _ _ => (pg_name (i := 1) sc_is_level.nd rfl (Or.inl rfl))) (fun _ _ _ _ _ => pts_nil) (fun _ _ _ _ _ => (pe_callD D_is_between (hr.mono (by decide)) rfl (T.glo (i := 2) rfl) (pa_cons (pv 1) (pa_cons pe_int (pa_cons (pe_glob (v := .int 7) rfl g_MOST_PERSON ⟨_, rfl⟩) pa_nil)))))) pa_nil))))))) (pss_one (ps_ret pe_bl)) pss_nil)
    (pss_cons (ps_if (pt_val (pe_callB (cr_any rfl) (by rfl) (T.free (i := 115) rfl) (by decide +kernel) (pa_cons (pe_lc (own := [("one", 1), ("other", 2)]) (g := (gTup K 2 (gCons (gName 1) (gCons (gName 2) gNil)))) (tt := tYes) (te := (tOp (rI0 fun i j => .bl (decide (j ≤ i))) (tVar 1) (tVar 2))) rfl sc_is_level.nd (pi_zip (by rfl) (T.free (i := 129) rfl) (pa_cons (pe_ix ix_seq (pv 0) pe_int (fun _ _ => rfl)) (pa_cons (pe_slice sl_list (pe_ix ix_seq (pv 0) pe_int (fun _ _ => rfl)) (po_some pe_int) po_none) pa_nil))) (blkOk_by (own := [("one", 1), ("other", 2)]) (N := nm_is_level) (sc := defScope (top 25)) (by decide +kernel)) (fun _ _ _ _ _ => (pg_tup rfl (pgs_cons (pg_name (i := 1) sc_is_level.nd rfl (Or.inl rfl)) (pgs_cons (pg_name (i := 2) sc_is_level.nd rfl (Or.inl rfl)) pgs_nil)))) (fun _ _ _ _ _ => pts_nil) (fun _ _ _ _ _ => (pe_cmpR op_ge (pv 1) (pv 2) (nomark _)))) pa_nil))) (pss_one (ps_ret pe_bl)) pss_nil)
    (pss_one (ps_ret (pe_and (pe_callD D_is_between (hr.mono (by decide)) rfl (T.glo (i := 2) rfl) (pa_cons (pe_ix ix_seq (pv 0) pe_int (fun _ _ => rfl)) (pa_cons pe_int (pa_cons (pe_glob (v := .int 9) rfl g_MOST_EVERY ⟨_, rfl⟩) pa_nil)))) (pe_one (pe_callD D_is_between (hr.mono (by decide)) rfl (T.glo (i := 2) rfl) (pa_cons (pe_ix ix_seq (pv 0) pe_int (fun _ _ => rfl)) (pa_cons pe_int (pa_cons (pe_glob (v := .int 5) rfl g_MOST_TIMES ⟨_, rfl⟩) pa_nil))))))))))),
    (sms_seq (sms_if (smc_or (smc_not (smc_B (sm_isi (T := "tuple") (sm_var (i := 0))))) (smc_or (smc_test (sm_op r2_ne (sm_cb rc_len (sma_cons (sm_var (i := 0)) sma_nil)) sm_int)) (smc_not (smc_B (sm_isi (T := "list") (sm_op r2_ix (sm_var (i := 0)) sm_int)))))) (sms_ret sm_bl) sms_next)
    (sms_seq (sms_if (smc_or (smc_not (smc_test (sm_chain r2_bl r2_bl sm_int (sm_cb rc_len (sma_cons (sm_op r2_ix (sm_var (i := 0)) sm_int) sma_nil)) sm_int))) (smc_not (smc_B (sm_cb rc_all (sma_cons (sm_dat (sml_lc (smi_list (sm_op r2_ix (sm_var (i := 0)) sm_int)) (smn_name (i := 1)) smc_yes (sm_callF (sma_cons (sm_var (i := 1)) (sma_cons sm_int (sma_cons sm_int sma_nil)))) (by decide))) sma_nil))))) (sms_ret sm_bl) sms_next)
    (sms_seq (sms_if (smc_B (sm_cb rc_any (sma_cons (sm_dat (sml_lc (smi_zip (sma_cons (sm_op r2_ix (sm_var (i := 0)) sm_int) (sma_cons (sm_dat (sml_sl (sm_op r2_ix (sm_var (i := 0)) sm_int) (smo_part sm_int) smo_no)) sma_nil))) (smn_tup (smn_cons (smn_name (i := 1)) (smn_cons (smn_name (i := 2)) smn_nil))) smc_yes (sm_op r2_bl (sm_var (i := 1)) (sm_var (i := 2))) (by decide))) sma_nil))) (sms_ret sm_bl) sms_next)
    (sms_ret (sm_andV (sm_callF (sma_cons (sm_op r2_ix (sm_var (i := 0)) sm_int) (sma_cons sm_int (sma_cons sm_int sma_nil)))) (sm_callF (sma_cons (sm_op r2_ix (sm_var (i := 0)) sm_int) (sma_cons sm_int (sma_cons sm_int sma_nil)))))))))⟩

def nm_people_of : List Str := ["chain", "found", "people", "every", "times"]
theorem sc_people_of : FnScope nm_people_of ["chain"] (defScope (top 26)) := ⟨rfl, rfl, rfl, by decide +kernel, rfl, by decide +kernel, by decide +kernel⟩
theorem ok_people_of {P : Program} {w : World} {K : PySem.W.Frag} {mg : Str → Option Value} {base : Heap} (T : Tx K mg) : Okd P w K mg base 1 (He.ga K "people_of") 1 sem_people_of := by
  obtain ⟨fd, F⟩ := T.c.def_ 4 rfl
  refine ⟨⟨fd, ["chain"], fn_ok F sc_people_of body_people_of (fun cdv A outer s H E hr => ?_), F.bindsN fun _ _ _ _ _ _ us hl => match us, hl with | [_], _ => rfl⟩, F.kp⟩
  exact ⟨_, (pss_cons (ps_set (i := 1) sc_people_of.nd rfl (Or.inl rfl) (pe_lst pa_nil))
    (pss_cons (ps_for PassesOwn.never rfl (pi_list (pv 0)) (pg_tup rfl (pgs_cons (pg_name (i := 2) sc_people_of.nd rfl (Or.inl rfl)) (pgs_cons (pg_name (i := 3) sc_people_of.nd rfl (Or.inl rfl)) (pgs_cons (pg_name (i := 4) sc_people_of.nd rfl (Or.inl rfl)) pgs_nil)))) (pss_one (ps_expr (pe_bm PySem.F.plainAttrs_list PySem.F.slot_list_extend PySem.F.type_list_extend mt_extend (pv 1) (pa_cons (pv 2) pa_nil)))))
    (pss_one (ps_ret (pv 1))))),
    (sms_seq (sms_asg (sm_own (sml_lst sma_nil)) (smn_name (i := 1)))
    (sms_seq (sms_for (smi_list (sm_var (i := 0))) (smn_tup (smn_cons (smn_name (i := 2)) (smn_cons (smn_name (i := 3)) (smn_cons (smn_name (i := 4)) smn_nil)))) (sms_drop (sm_ext (sm_var (i := 1)) (sm_var (i := 2)))))
    (sms_ret (sm_var (i := 1)))))⟩

def nm_check_chain : List Str := ["chain", "one", "people"]
theorem sc_check_chain : FnScope nm_check_chain ["chain"] (defScope (top 27)) := ⟨rfl, rfl, rfl, by decide +kernel, rfl, by decide +kernel, by decide +kernel⟩
theorem ok_check_chain {P : Program} {w : World} {K : PySem.W.Frag} {mg : Str → Option Value} {base : Heap} (T : Tx K mg) (D_is_level : Okd P w K mg base 3 (He.ga K "is_level") 1 sem_is_level) (D_people_of : Okd P w K mg base 1 (He.ga K "people_of") 1 sem_people_of) : Okd P w K mg base 4 (He.ga K "check_chain") 1 sem_check_chain := by
  obtain ⟨t_MOST_LEVELS, g_MOST_LEVELS⟩ := T.int (i := 103) (x := "MOST_LEVELS") (n := 4) rfl
  obtain ⟨fd, F⟩ := T.c.def_ 5 rfl
  refine ⟨⟨fd, ["chain"], fn_ok F sc_check_chain body_check_chain (fun cdv A outer s H E hr => ?_), F.bindsN fun _ _ _ _ _ _ us hl => match us, hl with | [_], _ => rfl⟩, F.kp⟩
  exact ⟨_, (pss_cons (ps_if (PW.pt (pw_or (pt_not (pt_val (pe_callB call_isi (by rfl) (T.free (i := 119) rfl) (by decide +kernel) (pa_cons (pv 0) (pa_cons (pe_bltn (v := .ty "list") rfl (T.free (i := 121) rfl) (by decide +kernel) rfl) pa_nil))))) (pw_or (pt_not (pt_chain op_le op_le pe_int (pe_callB call_len_seq (by rfl) (T.free (i := 120) rfl) (by decide +kernel) (pa_cons (pv 0) pa_nil)) (pe_glob (v := .int 4) rfl g_MOST_LEVELS ⟨_, rfl⟩))) (pw_or1 (pt_not (pt_val (pe_callB (cr_all rfl) (by rfl) (T.free (i := 114) rfl) (by decide +kernel) (pa_cons (pe_lc (own := [("one", 1)]) (g := (gName 1)) (tt := tYes) (te := (tCall (SpB K sem_is_level 1) [] E0 (tCons (tVar 1) tNil))) rfl sc_check_chain.nd (pi_list (pv 0)) (blkOk_by (own := [("one", 1)]) (N := nm_check_chain) (sc := defScope (top 27)) (by decide +kernel)) (fun _ _ _ _ _ => (pg_name (i := 1) sc_check_chain.nd rfl (Or.inl rfl))) (fun _ _ _ _ _ => pts_nil) (fun _ _ _ _ _ => (pe_callD D_is_level (hr.mono (by decide)) rfl (T.glo (i := 3) rfl) (pa_cons (pv 1) pa_nil)))) pa_nil)))))))) (pss_one ps_never) pss_nil)
    (pss_cons (ps_set (i := 2) sc_check_chain.nd rfl (Or.inl rfl) (pe_callD D_people_of (hr.mono (by decide)) rfl (T.glo (i := 4) rfl) (pa_cons (pv 0) pa_nil)))
    (pss_one (ps_if (pt_cmpR (op_neD hr.units) (RZ.pe_lenSetI rfl (T.free (i := 120) rfl) rfl (T.free (i := 125) rfl) (pv 2)) (pe_callB call_len_seq (by rfl) (T.free (i := 120) rfl) (by decide +kernel) (pa_cons (pv 2) pa_nil)) (nomark _)) (pss_one ps_never) pss_nil)))),
    (sms_seq (sms_if (smc_or (smc_not (smc_B (sm_isi (T := "list") (sm_var (i := 0))))) (smc_or (smc_not (smc_test (sm_chain r2_bl r2_bl sm_int (sm_cb rc_len (sma_cons (sm_var (i := 0)) sma_nil)) sm_int))) (smc_not (smc_B (sm_cb rc_all (sma_cons (sm_dat (sml_lc (smi_list (sm_var (i := 0))) (smn_name (i := 1)) smc_yes (sm_callF (sma_cons (sm_var (i := 1)) sma_nil)) (by decide))) sma_nil)))))) sms_never sms_next)
    (sms_seq (sms_asg (sm_callF (sma_cons (sm_var (i := 0)) sma_nil)) (smn_name (i := 2)))
    (sms_if (smc_test (sm_op r2_ne (sm_lenSet (sm_var (i := 2))) (sm_cb rc_len (sma_cons (sm_var (i := 2)) sma_nil)))) sms_never sms_next)))⟩

def nm_is_word : List Str := ["thing", "people"]
theorem sc_is_word : FnScope nm_is_word ["thing", "people"] (defScope (top 28)) := ⟨rfl, rfl, rfl, by decide +kernel, rfl, by decide +kernel, by decide +kernel⟩
theorem ok_is_word {P : Program} {w : World} {K : PySem.W.Frag} {mg : Str → Option Value} {base : Heap} (T : Tx K mg) (D_is_between : Okd P w K mg base 2 (He.ga K "is_between") 3 sem_is_between) (D_is_whole : Okd P w K mg base 1 (He.ga K "is_whole") 1 sem_is_whole) : Okd P w K mg base 3 (He.ga K "is_word") 2 sem_is_word := by
  obtain ⟨t_LAST, g_LAST⟩ := T.int (i := 110) (x := "LAST") (n := 60) rfl
  obtain ⟨t_MOST_QUIET, g_MOST_QUIET⟩ := T.int (i := 111) (x := "MOST_QUIET") (n := 20) rfl
  obtain ⟨t_MOST_SAID, g_MOST_SAID⟩ := T.int (i := 109) (x := "MOST_SAID") (n := 40) rfl
  obtain ⟨fd, F⟩ := T.c.def_ 6 rfl
  refine ⟨⟨fd, ["thing", "people"], fn_ok F sc_is_word body_is_word (fun cdv A outer s H E hr => ?_), F.bindsN fun _ _ _ _ _ _ us hl => match us, hl with | [_, _], _ => rfl⟩, F.kp⟩
  exact ⟨_, (pss_cons (ps_if (PW.pt (pw_or (pt_not (pt_val (pe_callB call_isi (by rfl) (T.free (i := 119) rfl) (by decide +kernel) (pa_cons (pv 0) (pa_cons (pe_bltn (v := .ty "tuple") rfl (T.free (i := 128) rfl) (by decide +kernel) rfl) pa_nil))))) (pw_or (pt_cmpR op_lt (pe_callB call_len_seq (by rfl) (T.free (i := 120) rfl) (by decide +kernel) (pa_cons (pv 0) pa_nil)) pe_int (nomark _)) (pw_or1 (pt_cmpR op_notIn_seq (pe_ix ix_seq (pv 0) pe_int (fun _ _ => rfl)) (pe_tup (pa_cons pe_str (pa_cons pe_str (pa_cons pe_str pa_nil)))) (by first | rfl | with_unfolding_all rfl)))))) (pss_one (ps_ret pe_bl)) pss_nil)
    (pss_cons (ps_if (PW.pt (pw_or (pt_cmpR (op_neD hr.units) (pe_callB call_len_seq (by rfl) (T.free (i := 120) rfl) (by decide +kernel) (pa_cons (pv 0) pa_nil)) (pe_ifExp (pt_cmpR (op_eqD hr.units) (pe_ix ix_seq (pv 0) pe_int (fun _ _ => rfl)) pe_str (nomark _)) pe_int pe_int) (nomark _)) (pw_or (pt_not (pt_val (pe_callD D_is_whole (hr.mono (by decide)) rfl (T.glo (i := 1) rfl) (pa_cons (pe_ix ix_seq (pv 0) pe_int (fun _ _ => rfl)) pa_nil)))) (pw_or1 (pt_cmpR op_notIn_seq (pe_ix ix_seq (pv 0) pe_int (fun _ _ => rfl)) (pv 1) (by first | rfl | with_unfolding_all rfl)))))) (pss_one (ps_ret pe_bl)) pss_nil)
    (pss_cons (ps_if (PW.pt (pw_or (pt_not (pt_val (pe_callD D_is_between (hr.mono (by decide)) rfl (T.glo (i := 2) rfl) (pa_cons (pe_ix ix_seq (pv 0) pe_int (fun _ _ => rfl)) (pa_cons pe_int (pa_cons (pe_glob (v := .int 40) rfl g_MOST_SAID ⟨_, rfl⟩) pa_nil)))))) (pw_or1 (pt_not (pt_val (pe_callD D_is_between (hr.mono (by decide)) rfl (T.glo (i := 2) rfl) (pa_cons (pe_ix ix_seq (pv 0) pe_int (fun _ _ => rfl)) (pa_cons (pe_ix ix_seq (pv 0) pe_int (fun _ _ => rfl)) (pa_cons (pe_glob (v := .int 60) rfl g_LAST ⟨_, rfl⟩) pa_nil))))))))) (pss_one (ps_ret pe_bl)) pss_nil)
    (pss_one (ps_ret (pe_or (pe_cmpR (op_neD hr.units) (pe_ix ix_seq (pv 0) pe_int (fun _ _ => rfl)) pe_str (nomark _)) (pe_one (pe_callD D_is_between (hr.mono (by decide)) rfl (T.glo (i := 2) rfl) (pa_cons (pe_ix ix_seq (pv 0) pe_int (fun _ _ => rfl)) (pa_cons pe_int (pa_cons (pe_glob (v := .int 20) rfl g_MOST_QUIET ⟨_, rfl⟩) pa_nil))))))))))),
    (sms_seq (sms_if (smc_or (smc_not (smc_B (sm_isi (T := "tuple") (sm_var (i := 0))))) (smc_or (smc_test (sm_op r2_bl (sm_cb rc_len (sma_cons (sm_var (i := 0)) sma_nil)) sm_int)) (smc_test (sm_op r2_in (sm_op r2_ix (sm_var (i := 0)) sm_int) (sm_tup (sma_cons sm_str (sma_cons sm_str (sma_cons sm_str sma_nil)))))))) (sms_ret sm_bl) sms_next)
    (sms_seq (sms_if (smc_or (smc_test (sm_op r2_ne (sm_cb rc_len (sma_cons (sm_var (i := 0)) sma_nil)) (sm_if (smc_test (sm_op r2_eq (sm_op r2_ix (sm_var (i := 0)) sm_int) sm_str)) sm_int sm_int))) (smc_or (smc_not (smc_B (sm_callF (sma_cons (sm_op r2_ix (sm_var (i := 0)) sm_int) sma_nil)))) (smc_test (sm_op r2_in (sm_op r2_ix (sm_var (i := 0)) sm_int) (sm_var (i := 1)))))) (sms_ret sm_bl) sms_next)
    (sms_seq (sms_if (smc_or (smc_not (smc_B (sm_callF (sma_cons (sm_op r2_ix (sm_var (i := 0)) sm_int) (sma_cons sm_int (sma_cons sm_int sma_nil)))))) (smc_not (smc_B (sm_callF (sma_cons (sm_op r2_ix (sm_var (i := 0)) sm_int) (sma_cons (sm_op r2_ix (sm_var (i := 0)) sm_int) (sma_cons sm_int sma_nil))))))) (sms_ret sm_bl) sms_next)
    (sms_ret (sm_orV (sm_op r2_ne (sm_op r2_ix (sm_var (i := 0)) sm_int) sm_str) (sm_callF (sma_cons (sm_op r2_ix (sm_var (i := 0)) sm_int) (sma_cons sm_int (sma_cons sm_int sma_nil)))))))))⟩

def nm_check_words : List Str := ["chain", "words", "word"]
theorem sc_check_words : FnScope nm_check_words ["chain", "words"] (defScope (top 29)) := ⟨rfl, rfl, rfl, by decide +kernel, rfl, by decide +kernel, by decide +kernel⟩
theorem ok_check_words {P : Program} {w : World} {K : PySem.W.Frag} {mg : Str → Option Value} {base : Heap} (T : Tx K mg) (D_check_chain : Okd P w K mg base 4 (He.ga K "check_chain") 1 sem_check_chain) (D_is_word : Okd P w K mg base 3 (He.ga K "is_word") 2 sem_is_word) (D_people_of : Okd P w K mg base 1 (He.ga K "people_of") 1 sem_people_of) : Okd P w K mg base 5 (He.ga K "check_words") 2 sem_check_words := by
  obtain ⟨t_MOST_WORDS, g_MOST_WORDS⟩ := T.int (i := 108) (x := "MOST_WORDS") (n := 12) rfl
  obtain ⟨fd, F⟩ := T.c.def_ 7 rfl
  refine ⟨⟨fd, ["chain", "words"], fn_ok F sc_check_words body_check_words (fun cdv A outer s H E hr => ?_), F.bindsN fun _ _ _ _ _ _ us hl => match us, hl with | [_, _], _ => rfl⟩, F.kp⟩
  exact ⟨_, (pss_cons (ps_expr (pe_callD D_check_chain (hr.mono (by decide)) rfl (T.glo (i := 5) rfl) (pa_cons (pv 0) pa_nil)))
    (pss_cons (ps_if (PW.pt (pw_or (pt_not (pt_val (pe_callB call_isi (by rfl) (T.free (i := 119) rfl) (by decide +kernel) (pa_cons (pv 1) (pa_cons (pe_bltn (v := .ty "list") rfl (T.free (i := 121) rfl) (by decide +kernel) rfl) pa_nil))))) (pw_or1 (pt_cmpR op_gt (pe_callB call_len_seq (by rfl) (T.free (i := 120) rfl) (by decide +kernel) (pa_cons (pv 1) pa_nil)) (pe_glob (v := .int 12) rfl g_MOST_WORDS ⟨_, rfl⟩) (nomark _))))) (pss_one ps_never) pss_nil)
    (pss_one (ps_if (pt_not (pt_val (pe_callB (cr_all rfl) (by rfl) (T.free (i := 114) rfl) (by decide +kernel) (pa_cons (pe_lc (own := [("word", 2)]) (g := (gName 2)) (tt := tYes) (te := (tCall (SpB K sem_is_word 2) [] E0 (tCons (tVar 2) (tCons (tCall (SpB K sem_people_of 1) [] E0 (tCons (tVar 0) tNil)) tNil)))) rfl sc_check_words.nd (pi_list (pv 1)) (blkOk_by (own := [("word", 2)]) (N := nm_check_words) (sc := defScope (top 29)) (by decide +kernel)) (fun _ _ _ _ _ => (pg_name (i := 2) sc_check_words.nd rfl (Or.inl rfl))) (fun _ _ _ _ _ => pts_nil) (fun _ _ _ _ _ => (pe_callD D_is_word (hr.mono (by decide)) rfl (T.glo (i := 6) rfl) (pa_cons (pv 2) (pa_cons (pe_callD D_people_of (hr.mono (by decide)) rfl (T.glo (i := 4) rfl) (pa_cons (pv 0) pa_nil)) pa_nil))))) pa_nil)))) (pss_one ps_never) pss_nil)))),
    (sms_seq (sms_drop (sm_callF (sma_cons (sm_var (i := 0)) sma_nil)))
    (sms_seq (sms_if (smc_or (smc_not (smc_B (sm_isi (T := "list") (sm_var (i := 1))))) (smc_test (sm_op r2_bl (sm_cb rc_len (sma_cons (sm_var (i := 1)) sma_nil)) sm_int))) sms_never sms_next)
    (sms_if (smc_not (smc_B (sm_cb rc_all (sma_cons (sm_dat (sml_lc (smi_list (sm_var (i := 1))) (smn_name (i := 2)) smc_yes (sm_callF (sma_cons (sm_var (i := 2)) (sma_cons (sm_callF (sma_cons (sm_var (i := 0)) sma_nil)) sma_nil))) (by decide))) sma_nil)))) sms_never sms_next)))⟩

def nm_check_hold : List Str := ["hold"]
theorem sc_check_hold : FnScope nm_check_hold ["hold"] (defScope (top 30)) := ⟨rfl, rfl, rfl, by decide +kernel, rfl, by decide +kernel, by decide +kernel⟩
theorem ok_check_hold {P : Program} {w : World} {K : PySem.W.Frag} {mg : Str → Option Value} {base : Heap} (T : Tx K mg) (D_is_between : Okd P w K mg base 2 (He.ga K "is_between") 3 sem_is_between) : Okd P w K mg base 3 (He.ga K "check_hold") 1 sem_check_hold := by
  obtain ⟨t_LAST, g_LAST⟩ := T.int (i := 110) (x := "LAST") (n := 60) rfl
  obtain ⟨fd, F⟩ := T.c.def_ 8 rfl
  refine ⟨⟨fd, ["hold"], fn_ok F sc_check_hold body_check_hold (fun cdv A outer s H E hr => ?_), F.bindsN fun _ _ _ _ _ _ us hl => match us, hl with | [_], _ => rfl⟩, F.kp⟩
  exact ⟨_, (pss_one (ps_if (pt_not (pt_val (pe_callD D_is_between (hr.mono (by decide)) rfl (T.glo (i := 2) rfl) (pa_cons (pv 0) (pa_cons pe_int (pa_cons (pe_glob (v := .int 60) rfl g_LAST ⟨_, rfl⟩) pa_nil)))))) (pss_one ps_never) pss_nil)),
    (sms_if (smc_not (smc_B (sm_callF (sma_cons (sm_var (i := 0)) (sma_cons sm_int (sma_cons sm_int sma_nil)))))) sms_never sms_next)⟩

def nm_is_line : List Str := ["thing", "one"]
theorem sc_is_line : FnScope nm_is_line ["thing"] (defScope (top 31)) := ⟨rfl, rfl, rfl, by decide +kernel, rfl, by decide +kernel, by decide +kernel⟩
theorem ok_is_line {P : Program} {w : World} {K : PySem.W.Frag} {mg : Str → Option Value} {base : Heap} (T : Tx K mg) (D_is_whole : Okd P w K mg base 1 (He.ga K "is_whole") 1 sem_is_whole) : Okd P w K mg base 2 (He.ga K "is_line") 1 sem_is_line := by
  obtain ⟨fd, F⟩ := T.c.def_ 9 rfl
  refine ⟨⟨fd, ["thing"], fn_ok F sc_is_line body_is_line (fun cdv A outer s H E hr => ?_), F.bindsN fun _ _ _ _ _ _ us hl => match us, hl with | [_], _ => rfl⟩, F.kp⟩
  exact ⟨_, (pss_cons (ps_if (PW.pt (pw_or (pt_not (pt_val (pe_callB call_isi (by rfl) (T.free (i := 119) rfl) (by decide +kernel) (pa_cons (pv 0) (pa_cons (pe_bltn (v := .ty "tuple") rfl (T.free (i := 128) rfl) (by decide +kernel) rfl) pa_nil))))) (pw_or1 (pt_cmpR op_lt (pe_callB call_len_seq (by rfl) (T.free (i := 120) rfl) (by decide +kernel) (pa_cons (pv 0) pa_nil)) pe_int (nomark _))))) (pss_one (ps_ret pe_bl)) pss_nil)
    (pss_cons (ps_if (pt_cmpR (op_eqD hr.units) (pe_ix ix_seq (pv 0) pe_int (fun _ _ => rfl)) pe_str (nomark _)) (pss_one (ps_ret (pe_and (pe_cmpR (op_eqD hr.units) (pe_callB call_len_seq (by rfl) (T.free (i := 120) rfl) (by decide +kernel) (pa_cons (pv 0) pa_nil)) pe_int (nomark _)) (pe_and (pe_callB call_isi (by rfl) (T.free (i := 119) rfl) (by decide +kernel) (pa_cons (pe_ix ix_seq (pv 0) pe_int (fun _ _ => rfl)) (pa_cons (pe_bltn (v := .ty "list") rfl (T.free (i := 121) rfl) (by decide +kernel) rfl) pa_nil))) (pe_one (pe_callB (cr_all rfl) (by rfl) (T.free (i := 114) rfl) (by decide +kernel) (pa_cons (pe_lc (own := [("one", 1)]) (g := (gName 1)) (tt := tYes) (te := (tCall (SpB K sem_is_whole 1) [] E0 (tCons (tVar 1) tNil))) rfl sc_is_line.nd (pi_list (pe_ix ix_seq (pv 0) pe_int (fun _ _ => rfl))) (blkOk_by (own := [("one", 1)]) (N := nm_is_line) (sc := defScope (top 31)) (by decide +kernel)) (fun _ _ _ _ _ => (pg_name (i := 1) sc_is_line.nd rfl (Or.inl rfl))) (fun _ _ _ _ _ => pts_nil) (fun _ _ _ _ _ => (pe_callD D_is_whole (hr.mono (by decide)) rfl (T.glo (i := 1) rfl) (pa_cons (pv 1) pa_nil)))) pa_nil))))))) pss_nil)
    (pss_cons (ps_if (PW.pt (pw_or (pt_cmpR op_notIn_seq (pe_ix ix_seq (pv 0) pe_int (fun _ _ => rfl)) (pe_tup (pa_cons pe_str (pa_cons pe_str (pa_cons pe_str pa_nil)))) (by first | rfl | with_unfolding_all rfl)) (pw_or1 (pt_cmpR (op_neD hr.units) (pe_callB call_len_seq (by rfl) (T.free (i := 120) rfl) (by decide +kernel) (pa_cons (pv 0) pa_nil)) (pe_ifExp (pt_cmpR (op_eqD hr.units) (pe_ix ix_seq (pv 0) pe_int (fun _ _ => rfl)) pe_str (nomark _)) pe_int pe_int) (nomark _))))) (pss_one (ps_ret pe_bl)) pss_nil)
    (pss_one (ps_ret (pe_callB (cr_all rfl) (by rfl) (T.free (i := 114) rfl) (by decide +kernel) (pa_cons (pe_lc (own := [("one", 1)]) (g := (gName 1)) (tt := tYes) (te := (tCall (SpB K sem_is_whole 1) [] E0 (tCons (tVar 1) tNil))) rfl sc_is_line.nd (pi_tup (pe_slice sl_tupA (pv 0) (po_some pe_int) po_none)) (blkOk_by (own := [("one", 1)]) (N := nm_is_line) (sc := defScope (top 31)) (by decide +kernel)) (fun _ _ _ _ _ => (pg_name (i := 1) sc_is_line.nd rfl (Or.inl rfl))) (fun _ _ _ _ _ => pts_nil) (fun _ _ _ _ _ => (pe_callD D_is_whole (hr.mono (by decide)) rfl (T.glo (i := 1) rfl) (pa_cons (pv 1) pa_nil)))) pa_nil))))))),
    (sms_seq (sms_if (smc_or (smc_not (smc_B (sm_isi (T := "tuple") (sm_var (i := 0))))) (smc_test (sm_op r2_bl (sm_cb rc_len (sma_cons (sm_var (i := 0)) sma_nil)) sm_int))) (sms_ret sm_bl) sms_next)
    (sms_seq (sms_if (smc_test (sm_op r2_eq (sm_op r2_ix (sm_var (i := 0)) sm_int) sm_str)) (sms_ret (sm_andV (sm_op r2_eq (sm_cb rc_len (sma_cons (sm_var (i := 0)) sma_nil)) sm_int) (sm_andV (sm_isi (T := "list") (sm_op r2_ix (sm_var (i := 0)) sm_int)) (sm_cb rc_all (sma_cons (sm_dat (sml_lc (smi_list (sm_op r2_ix (sm_var (i := 0)) sm_int)) (smn_name (i := 1)) smc_yes (sm_callF (sma_cons (sm_var (i := 1)) sma_nil)) (by decide))) sma_nil))))) sms_next)
    (sms_seq (sms_if (smc_or (smc_test (sm_op r2_in (sm_op r2_ix (sm_var (i := 0)) sm_int) (sm_tup (sma_cons sm_str (sma_cons sm_str (sma_cons sm_str sma_nil)))))) (smc_test (sm_op r2_ne (sm_cb rc_len (sma_cons (sm_var (i := 0)) sma_nil)) (sm_if (smc_test (sm_op r2_eq (sm_op r2_ix (sm_var (i := 0)) sm_int) sm_str)) sm_int sm_int)))) (sms_ret sm_bl) sms_next)
    (sms_ret (sm_cb rc_all (sma_cons (sm_dat (sml_lc (smi_tup (sm_slT (sm_var (i := 0)) (smo_part sm_int) smo_no)) (smn_name (i := 1)) smc_yes (sm_callF (sma_cons (sm_var (i := 1)) sma_nil)) (by decide))) sma_nil))))))⟩

def nm_check_tale : List Str := ["tale", "line"]
theorem sc_check_tale : FnScope nm_check_tale ["tale"] (defScope (top 32)) := ⟨rfl, rfl, rfl, by decide +kernel, rfl, by decide +kernel, by decide +kernel⟩
theorem ok_check_tale {P : Program} {w : World} {K : PySem.W.Frag} {mg : Str → Option Value} {base : Heap} (T : Tx K mg) (D_is_line : Okd P w K mg base 2 (He.ga K "is_line") 1 sem_is_line) : Okd P w K mg base 3 (He.ga K "check_tale") 1 sem_check_tale := by
  obtain ⟨t_MOST_LINES, g_MOST_LINES⟩ := T.int (i := 112) (x := "MOST_LINES") (n := 80) rfl
  obtain ⟨fd, F⟩ := T.c.def_ 10 rfl
  refine ⟨⟨fd, ["tale"], fn_ok F sc_check_tale body_check_tale (fun cdv A outer s H E hr => ?_), F.bindsN fun _ _ _ _ _ _ us hl => match us, hl with | [_], _ => rfl⟩, F.kp⟩
  exact ⟨_, (pss_one (ps_if (PW.pt (pw_or (pt_not (pt_val (pe_callB call_isi (by rfl) (T.free (i := 119) rfl) (by decide +kernel) (pa_cons (pv 0) (pa_cons (pe_bltn (v := .ty "list") rfl (T.free (i := 121) rfl) (by decide +kernel) rfl) pa_nil))))) (pw_or (pt_cmpR op_gt (pe_callB call_len_seq (by rfl) (T.free (i := 120) rfl) (by decide +kernel) (pa_cons (pv 0) pa_nil)) (pe_glob (v := .int 80) rfl g_MOST_LINES ⟨_, rfl⟩) (nomark _)) (pw_or1 (pt_not (pt_val (pe_callB (cr_all rfl) (by rfl) (T.free (i := 114) rfl) (by decide +kernel) (pa_cons (pe_lc (own := [("line", 1)]) (g := (gName 1)) (tt := tYes) (te := (tCall (SpB K sem_is_line 1) [] E0 (tCons (tVar 1) tNil))) rfl sc_check_tale.nd (pi_list (pv 0)) (blkOk_by (own := [("line", 1)]) (N := nm_check_tale) (sc := defScope (top 32)) (by decide +kernel)) (fun _ _ _ _ _ => (pg_name (i := 1) sc_check_tale.nd rfl (Or.inl rfl))) (fun _ _ _ _ _ => pts_nil) (fun _ _ _ _ _ => (pe_callD D_is_line (hr.mono (by decide)) rfl (T.glo (i := 9) rfl) (pa_cons (pv 1) pa_nil)))) pa_nil)))))))) (pss_one ps_never) pss_nil)),
    (sms_if (smc_or (smc_not (smc_B (sm_isi (T := "list") (sm_var (i := 0))))) (smc_or (smc_test (sm_op r2_bl (sm_cb rc_len (sma_cons (sm_var (i := 0)) sma_nil)) sm_int)) (smc_not (smc_B (sm_cb rc_all (sma_cons (sm_dat (sml_lc (smi_list (sm_var (i := 0))) (smn_name (i := 1)) smc_yes (sm_callF (sma_cons (sm_var (i := 1)) sma_nil)) (by decide))) sma_nil)))))) sms_never sms_next)⟩

def nm_level_at : List Str := ["chain", "here", "people", "every", "times"]
theorem sc_level_at : FnScope nm_level_at ["chain", "here"] (defScope (top 34)) := ⟨rfl, rfl, rfl, by decide +kernel, rfl, by decide +kernel, by decide +kernel⟩
theorem ok_level_at {P : Program} {w : World} {K : PySem.W.Frag} {mg : Str → Option Value} {base : Heap} (T : Tx K mg) : Okd P w K mg base 1 (He.ga K "level_at") 2 sem_level_at := by
  obtain ⟨fd, F⟩ := T.c.def_ 11 rfl
  refine ⟨⟨fd, ["chain", "here"], fn_ok F sc_level_at body_level_at (fun cdv A outer s H E hr => ?_), F.bindsN fun _ _ _ _ _ _ us hl => match us, hl with | [_, _], _ => rfl⟩, F.kp⟩
  exact ⟨_, (pss_cons (ps_for PassesOwn.never rfl (pi_list (pv 0)) (pg_tup rfl (pgs_cons (pg_name (i := 2) sc_level_at.nd rfl (Or.inl rfl)) (pgs_cons (pg_name (i := 3) sc_level_at.nd rfl (Or.inl rfl)) (pgs_cons (pg_name (i := 4) sc_level_at.nd rfl (Or.inl rfl)) pgs_nil)))) (pss_cons (ps_if (pt_cmpR op_lt (pv 1) (pe_op op_mul (pv 3) (pv 4)) (nomark _)) (pss_one (ps_ret (pe_tup (pa_cons (pe_callTy call_list_of (by rfl) (T.free (i := 121) rfl) (by decide +kernel) (pa_cons (pv 2) pa_nil)) (pa_cons (pe_cmpR (op_eqD hr.units) (pe_op op_mod (pv 1) (pv 3)) pe_int (nomark _)) pa_nil))))) pss_nil)
    (pss_one (ps_aug (i := 1) sc_level_at.nd rfl (Or.inl rfl) (pe_op op_mul (pv 3) (pv 4)) ip_sub))))
    (pss_one (ps_ret (pe_tup (pa_cons (pe_lst pa_nil) (pa_cons pe_bl pa_nil)))))),
    (sms_seq (sms_for (smi_list (sm_var (i := 0))) (smn_tup (smn_cons (smn_name (i := 2)) (smn_cons (smn_name (i := 3)) (smn_cons (smn_name (i := 4)) smn_nil)))) (sms_seq (sms_if (smc_test (sm_op r2_bl (sm_var (i := 1)) (sm_op (r2_intC fun _ _ => mulN_ok) (sm_var (i := 3)) (sm_var (i := 4))))) (sms_ret (sm_tup (sma_cons (sm_dat (sml_cb rl_list (sma_cons (sm_var (i := 2)) sma_nil))) (sma_cons (sm_op r2_eq (sm_op (r2_intC fun _ _ h => h) (sm_var (i := 1)) (sm_var (i := 3))) sm_int) sma_nil)))) sms_next)
    (sms_aug (i := 1) (sm_op (r2_intC fun _ _ => mulN_ok) (sm_var (i := 3)) (sm_var (i := 4))))))
    (sms_ret (sm_tup (sma_cons (sm_dat (sml_lst sma_nil)) (sma_cons sm_bl sma_nil)))))⟩

def nm_every_of : List Str := ["chain", "person", "people", "every", "times"]
theorem sc_every_of : FnScope nm_every_of ["chain", "person"] (defScope (top 35)) := ⟨rfl, rfl, rfl, by decide +kernel, rfl, by decide +kernel, by decide +kernel⟩
theorem ok_every_of {P : Program} {w : World} {K : PySem.W.Frag} {mg : Str → Option Value} {base : Heap} (T : Tx K mg) : Okd P w K mg base 1 (He.ga K "every_of") 2 sem_every_of := by
  obtain ⟨fd, F⟩ := T.c.def_ 12 rfl
  refine ⟨⟨fd, ["chain", "person"], fn_ok F sc_every_of body_every_of (fun cdv A outer s H E hr => ?_), F.bindsN fun _ _ _ _ _ _ us hl => match us, hl with | [_, _], _ => rfl⟩, F.kp⟩
  exact ⟨_, (pss_one (ps_ret (pe_ix ix_seq (pe_lc (own := [("people", 2), ("every", 3), ("times", 4)]) (g := (gTup K 3 (gCons (gName 2) (gCons (gName 3) (gCons (gName 4) gNil))))) (tt := (tTest (tOp (rIn K false) (tVar 1) (tVar 2)))) (te := (tVar 3)) rfl sc_every_of.nd (pi_list (pv 0)) (blkOk_by (own := [("people", 2), ("every", 3), ("times", 4)]) (N := nm_every_of) (sc := defScope (top 35)) (by decide +kernel)) (fun _ _ _ _ _ => (pg_tup rfl (pgs_cons (pg_name (i := 2) sc_every_of.nd rfl (Or.inl rfl)) (pgs_cons (pg_name (i := 3) sc_every_of.nd rfl (Or.inl rfl)) (pgs_cons (pg_name (i := 4) sc_every_of.nd rfl (Or.inl rfl)) pgs_nil))))) (fun _ _ _ _ _ => (pts_one (pt_cmpR op_in_seq (pv 1) (pv 2) (by first | rfl | with_unfolding_all rfl)))) (fun _ _ _ _ _ => (pv 3))) pe_int (fun _ _ => rfl)))),
    (sms_ret (sm_op r2_ix (sm_dat (sml_lc (smi_list (sm_var (i := 0))) (smn_tup (smn_cons (smn_name (i := 2)) (smn_cons (smn_name (i := 3)) (smn_cons (smn_name (i := 4)) smn_nil)))) (smc_test (sm_op r2_in (sm_var (i := 1)) (sm_var (i := 2)))) (sm_var (i := 3)) (by decide))) sm_int))⟩

def nm_Matter_init : List Str := ["self", "chain"]
theorem sc_Matter_init : FnScope nm_Matter_init ["self", "chain"] (defScope (inClass (top 36) 0)) := ⟨rfl, rfl, rfl, by decide +kernel, rfl, by decide +kernel, by decide +kernel⟩
theorem ok_Matter_init {P : Program} {w : World} {K : PySem.W.Frag} {mg : Str → Option Value} {base : Heap} (T : Tx K mg) : Okd P w K mg base 1 (He.ma K (He.ga K "Matter") "__init__") 2 sem_Matter_init := by
  obtain ⟨fd, F⟩ := T.c.def_ 13 rfl
  refine ⟨⟨fd, ["self", "chain"], fn_ok F sc_Matter_init body_Matter_init (fun cdv A outer s H E hr => ?_), F.bindsN fun _ _ _ _ _ _ us hl => match us, hl with | [_, _], _ => rfl⟩, F.kp⟩
  exact ⟨_, (pss_cons (ps_fld (pv 0) (pv 1) rfl)
    (pss_cons (ps_fld (pv 0) pe_int rfl)
    (pss_cons (ps_fld (pv 0) pe_int rfl)
    (pss_cons (ps_fld (pv 0) pe_non rfl)
    (pss_cons (ps_fld (pv 0) pe_int rfl)
    (pss_one (ps_fld (pv 0) pe_bl rfl))))))),
    (sms_seq (sms_fld (c := "Matter") (T.cls (i := 41) rfl) (T.noat (i := 45) rfl) (sm_var (i := 0)) (sm_var (i := 1)))
    (sms_seq (sms_fld (c := "Matter") (T.cls (i := 41) rfl) (T.noat (i := 46) rfl) (sm_var (i := 0)) sm_int)
    (sms_seq (sms_fld (c := "Matter") (T.cls (i := 41) rfl) (T.noat (i := 47) rfl) (sm_var (i := 0)) sm_int)
    (sms_seq (sms_fld (c := "Matter") (T.cls (i := 41) rfl) (T.noat (i := 48) rfl) (sm_var (i := 0)) sm_non)
    (sms_seq (sms_fld (c := "Matter") (T.cls (i := 41) rfl) (T.noat (i := 49) rfl) (sm_var (i := 0)) sm_int)
    (sms_fld (c := "Matter") (T.cls (i := 41) rfl) (T.noat (i := 50) rfl) (sm_var (i := 0)) sm_bl))))))⟩

def nm_Matter_told : List Str := ["self", "words", "tick", "word", "takes", "able"]
theorem sc_Matter_told : FnScope nm_Matter_told ["self", "words", "tick"] (defScope (inClass (top 36) 1)) := ⟨rfl, rfl, rfl, by decide +kernel, rfl, by decide +kernel, by decide +kernel⟩
theorem ok_Matter_told {P : Program} {w : World} {K : PySem.W.Frag} {mg : Str → Option Value} {base : Heap} (T : Tx K mg) (D_level_at : Okd P w K mg base 1 (He.ga K "level_at") 2 sem_level_at) : Okd P w K mg base 2 (He.ma K (He.ga K "Matter") "told") 3 sem_Matter_told := by
  obtain ⟨fd, F⟩ := T.c.def_ 14 rfl
  refine ⟨⟨fd, ["self", "words", "tick"], fn_ok F sc_Matter_told body_Matter_told (fun cdv A outer s H E hr => ?_), F.bindsN fun _ _ _ _ _ _ us hl => match us, hl with | [_, _, _], _ => rfl⟩, F.kp⟩
  exact ⟨_, (pss_cons (ps_set (i := 4) sc_Matter_told.nd rfl (Or.inl rfl) (pe_callB cr_sortedI (by rfl) (T.free (i := 126) rfl) (by decide +kernel) (pa_cons (pe_lc (own := [("word", 3)]) (g := (gName 3)) (tt := (tAnd (tTest (tOp (rEqD K) (tOp (rIx K) (tVar 3) (tC (.int 0))) (tC (.str "take")))) (tTest (tOp (rEqD K) (tOp (rIx K) (tVar 3) (tC (.int 2))) (tVar 2))))) (te := (tOp (rIx K) (tVar 3) (tC (.int 1)))) rfl sc_Matter_told.nd (pi_list (pv 1)) (blkOk_by (own := [("word", 3)]) (N := nm_Matter_told) (sc := defScope (inClass (top 36) 1)) (by decide +kernel)) (fun _ _ _ _ _ => (pg_name (i := 3) sc_Matter_told.nd rfl (Or.inl rfl))) (fun _ _ _ _ _ => (pts_one (PW.pt (pw_and (pt_cmpR (op_eqD hr.units) (pe_ix ix_seq (pv 3) pe_int (fun _ _ => rfl)) pe_str (nomark _)) (pw_and1 (pt_cmpR (op_eqD hr.units) (pe_ix ix_seq (pv 3) pe_int (fun _ _ => rfl)) (pv 2) (nomark _))))))) (fun _ _ _ _ _ => (pe_ix ix_seq (pv 3) pe_int (fun _ _ => rfl)))) pa_nil)))
    (pss_cons (ps_if (PW.pt (pw_and (pt_cmpR op_isN (pe_fld (pv 0) rfl) pe_non (nomark _)) (pw_and1 (pt_cmpR (op_neD hr.units) (pv 4) (pe_lst pa_nil) (nomark _))))) (pss_cons (ps_fld (pv 0) (pe_ix ix_seq (pv 4) pe_int (fun _ _ => rfl)) rfl)
    (pss_one (ps_fld (pv 0) (pe_fld (pv 0) rfl) rfl))) pss_nil)
    (pss_cons (ps_if (pt_cmpR (op_neD hr.units) (pe_lc (own := [("word", 3)]) (g := (gName 3)) (tt := (tAnd (tTest (tOp (rEqD K) (tOp (rIx K) (tVar 3) (tC (.int 0))) (tC (.str "done")))) (tTest (tOp (rEqD K) (tOp (rIx K) (tVar 3) (tC (.int 2))) (tVar 2))))) (te := (tVar 3)) rfl sc_Matter_told.nd (pi_list (pv 1)) (blkOk_by (own := [("word", 3)]) (N := nm_Matter_told) (sc := defScope (inClass (top 36) 1)) (by decide +kernel)) (fun _ _ _ _ _ => (pg_name (i := 3) sc_Matter_told.nd rfl (Or.inl rfl))) (fun _ _ _ _ _ => (pts_one (PW.pt (pw_and (pt_cmpR (op_eqD hr.units) (pe_ix ix_seq (pv 3) pe_int (fun _ _ => rfl)) pe_str (nomark _)) (pw_and1 (pt_cmpR (op_eqD hr.units) (pe_ix ix_seq (pv 3) pe_int (fun _ _ => rfl)) (pv 2) (nomark _))))))) (fun _ _ _ _ _ => (pv 3))) (pe_lst pa_nil) (nomark _)) (pss_one (ps_fld (pv 0) pe_bl rfl)) pss_nil)
    (pss_cons (ps_set (i := 5) sc_Matter_told.nd rfl (Or.inl rfl) (pe_ifExp (pt_cmpR op_notN (pe_fld (pv 0) rfl) pe_non (nomark _)) (pe_lst (pa_cons (pe_fld (pv 0) rfl) pa_nil)) (pe_ix ix_seq (pe_callD D_level_at (hr.mono (by decide)) rfl (T.glo (i := 11) rfl) (pa_cons (pe_fld (pv 0) rfl) (pa_cons (pe_fld (pv 0) rfl) pa_nil))) pe_int (fun _ _ => rfl))))
    (pss_one (ps_for PassesOwn.never rfl (pi_list (pv 1)) (pg_name (i := 3) sc_Matter_told.nd rfl (Or.inl rfl)) (pss_one (ps_if (PW.pt (pw_and (pt_cmpR (op_eqD hr.units) (pe_ix ix_seq (pv 3) pe_int (fun _ _ => rfl)) pe_str (nomark _)) (pw_and (pt_cmpR (op_eqD hr.units) (pe_ix ix_seq (pv 3) pe_int (fun _ _ => rfl)) (pv 2) (nomark _)) (pw_and1 (pt_cmpR op_in_seq (pe_ix ix_seq (pv 3) pe_int (fun _ _ => rfl)) (pv 5) (by first | rfl | with_unfolding_all rfl)))))) (pss_one (ps_fld (pv 0) (pe_callB (call_max2 rfl) (by rfl) (T.free (i := 122) rfl) (by decide +kernel) (pa_cons (pe_fld (pv 0) rfl) (pa_cons (pe_op op_add (pv 2) (pe_ix ix_seq (pv 3) pe_int (fun _ _ => rfl))) pa_nil))) rfl)) pss_nil)))))))),
    (sms_seq (sms_asg (sm_dat (sml_cb rl_sorted (sma_cons (sm_dat (sml_lc (smi_list (sm_var (i := 1))) (smn_name (i := 3)) (smc_and (smc_test (sm_op r2_eq (sm_op r2_ix (sm_var (i := 3)) sm_int) sm_str)) (smc_test (sm_op r2_eq (sm_op r2_ix (sm_var (i := 3)) sm_int) (sm_var (i := 2))))) (sm_op r2_ix (sm_var (i := 3)) sm_int) (by decide))) sma_nil))) (smn_name (i := 4)))
    (sms_seq (sms_if (smc_and (smc_test (sm_op r2_isN (sm_fld (c := "Matter") (T.cls (i := 41) rfl) (T.noat (i := 48) rfl) (sm_var (i := 0))) sm_non)) (smc_test (sm_op r2_ne (sm_var (i := 4)) (sm_dat (sml_lst sma_nil))))) (sms_seq (sms_fld (c := "Matter") (T.cls (i := 41) rfl) (T.noat (i := 48) rfl) (sm_var (i := 0)) (sm_op r2_ix (sm_var (i := 4)) sm_int))
    (sms_fld (c := "Matter") (T.cls (i := 41) rfl) (T.noat (i := 49) rfl) (sm_var (i := 0)) (sm_fld (c := "Matter") (T.cls (i := 41) rfl) (T.noat (i := 46) rfl) (sm_var (i := 0))))) sms_next)
    (sms_seq (sms_if (smc_test (sm_op r2_ne (sm_dat (sml_lc (smi_list (sm_var (i := 1))) (smn_name (i := 3)) (smc_and (smc_test (sm_op r2_eq (sm_op r2_ix (sm_var (i := 3)) sm_int) sm_str)) (smc_test (sm_op r2_eq (sm_op r2_ix (sm_var (i := 3)) sm_int) (sm_var (i := 2))))) (sm_var (i := 3)) (by decide))) (sm_dat (sml_lst sma_nil)))) (sms_fld (c := "Matter") (T.cls (i := 41) rfl) (T.noat (i := 50) rfl) (sm_var (i := 0)) sm_bl) sms_next)
    (sms_seq (sms_asg (sm_if (smc_test (sm_op r2_notN (sm_fld (c := "Matter") (T.cls (i := 41) rfl) (T.noat (i := 48) rfl) (sm_var (i := 0))) sm_non)) (sm_dat (sml_lst (sma_cons (sm_fld (c := "Matter") (T.cls (i := 41) rfl) (T.noat (i := 48) rfl) (sm_var (i := 0))) sma_nil))) (sm_op r2_ix (sm_callF (sma_cons (sm_fld (c := "Matter") (T.cls (i := 41) rfl) (T.noat (i := 45) rfl) (sm_var (i := 0))) (sma_cons (sm_fld (c := "Matter") (T.cls (i := 41) rfl) (T.noat (i := 46) rfl) (sm_var (i := 0))) sma_nil))) sm_int)) (smn_name (i := 5)))
    (sms_for (smi_list (sm_var (i := 1))) (smn_name (i := 3)) (sms_if (smc_and (smc_test (sm_op r2_eq (sm_op r2_ix (sm_var (i := 3)) sm_int) sm_str)) (smc_and (smc_test (sm_op r2_eq (sm_op r2_ix (sm_var (i := 3)) sm_int) (sm_var (i := 2)))) (smc_test (sm_op r2_in (sm_op r2_ix (sm_var (i := 3)) sm_int) (sm_var (i := 5)))))) (sms_fld (c := "Matter") (T.cls (i := 41) rfl) (T.noat (i := 47) rfl) (sm_var (i := 0)) (sm_cb rc_max2 (sma_cons (sm_fld (c := "Matter") (T.cls (i := 41) rfl) (T.noat (i := 47) rfl) (sm_var (i := 0))) (sma_cons (sm_op r2_int (sm_var (i := 2)) (sm_op r2_ix (sm_var (i := 3)) sm_int)) sma_nil)))) sms_next))))))⟩

def nm_Matter_due : List Str := ["self", "tick", "gone", "people", "now"]
theorem sc_Matter_due : FnScope nm_Matter_due ["self", "tick"] (defScope (inClass (top 36) 2)) := ⟨rfl, rfl, rfl, by decide +kernel, rfl, by decide +kernel, by decide +kernel⟩
theorem ok_Matter_due {P : Program} {w : World} {K : PySem.W.Frag} {mg : Str → Option Value} {base : Heap} (T : Tx K mg) (D_every_of : Okd P w K mg base 1 (He.ga K "every_of") 2 sem_every_of) (D_level_at : Okd P w K mg base 1 (He.ga K "level_at") 2 sem_level_at) : Okd P w K mg base 2 (He.ma K (He.ga K "Matter") "due") 2 sem_Matter_due := by
  obtain ⟨fd, F⟩ := T.c.def_ 15 rfl
  refine ⟨⟨fd, ["self", "tick"], fn_ok F sc_Matter_due body_Matter_due (fun cdv A outer s H E hr => ?_), F.bindsN fun _ _ _ _ _ _ us hl => match us, hl with | [_, _], _ => rfl⟩, F.kp⟩
  exact ⟨_, (pss_cons (ps_if (PW.pt (pw_or (pt_val (pe_fld (pv 0) rfl)) (pw_or1 (pt_cmpR op_lt (pv 1) (pe_fld (pv 0) rfl) (nomark _))))) (pss_one (ps_ret (pe_lst pa_nil))) pss_nil)
    (pss_cons (ps_if (pt_cmpR op_notN (pe_fld (pv 0) rfl) pe_non (nomark _)) (pss_cons (ps_set (i := 2) sc_Matter_due.nd rfl (Or.inl rfl) (pe_op op_sub (pe_fld (pv 0) rfl) (pe_fld (pv 0) rfl)))
    (pss_one (ps_ret (pe_ifExp (PW.pt (pw_and (pt_cmpR op_gt (pv 2) pe_int (nomark _)) (pw_and1 (pt_cmpR (op_eqD hr.units) (pe_op op_mod (pv 2) (pe_callD D_every_of (hr.mono (by decide)) rfl (T.glo (i := 12) rfl) (pa_cons (pe_fld (pv 0) rfl) (pa_cons (pe_fld (pv 0) rfl) pa_nil)))) pe_int (nomark _))))) (pe_lst (pa_cons (pe_fld (pv 0) rfl) pa_nil)) (pe_lst pa_nil))))) pss_nil)
    (pss_cons (ps_asg (pe_callD D_level_at (hr.mono (by decide)) rfl (T.glo (i := 11) rfl) (pa_cons (pe_fld (pv 0) rfl) (pa_cons (pe_fld (pv 0) rfl) pa_nil))) (pg_tup rfl (pgs_cons (pg_name (i := 3) sc_Matter_due.nd rfl (Or.inl rfl)) (pgs_cons (pg_name (i := 4) sc_Matter_due.nd rfl (Or.inl rfl)) pgs_nil))))
    (pss_one (ps_ret (pe_ifExp (pt_val (pv 4)) (pv 3) (pe_lst pa_nil))))))),
    (sms_seq (sms_if (smc_or (smc_B (sm_fld (c := "Matter") (T.cls (i := 41) rfl) (T.noat (i := 50) rfl) (sm_var (i := 0)))) (smc_test (sm_op r2_bl (sm_var (i := 1)) (sm_fld (c := "Matter") (T.cls (i := 41) rfl) (T.noat (i := 47) rfl) (sm_var (i := 0)))))) (sms_ret (sm_dat (sml_lst sma_nil))) sms_next)
    (sms_seq (sms_if (smc_test (sm_op r2_notN (sm_fld (c := "Matter") (T.cls (i := 41) rfl) (T.noat (i := 48) rfl) (sm_var (i := 0))) sm_non)) (sms_seq (sms_asg (sm_op r2_int (sm_fld (c := "Matter") (T.cls (i := 41) rfl) (T.noat (i := 46) rfl) (sm_var (i := 0))) (sm_fld (c := "Matter") (T.cls (i := 41) rfl) (T.noat (i := 49) rfl) (sm_var (i := 0)))) (smn_name (i := 2)))
    (sms_ret (sm_if (smc_and (smc_test (sm_op r2_bl (sm_var (i := 2)) sm_int)) (smc_test (sm_op r2_eq (sm_op (r2_intC fun _ _ h => h) (sm_var (i := 2)) (sm_callF (sma_cons (sm_fld (c := "Matter") (T.cls (i := 41) rfl) (T.noat (i := 45) rfl) (sm_var (i := 0))) (sma_cons (sm_fld (c := "Matter") (T.cls (i := 41) rfl) (T.noat (i := 48) rfl) (sm_var (i := 0))) sma_nil)))) sm_int))) (sm_dat (sml_lst (sma_cons (sm_fld (c := "Matter") (T.cls (i := 41) rfl) (T.noat (i := 48) rfl) (sm_var (i := 0))) sma_nil))) (sm_dat (sml_lst sma_nil))))) sms_next)
    (sms_seq (sms_asg (sm_callF (sma_cons (sm_fld (c := "Matter") (T.cls (i := 41) rfl) (T.noat (i := 45) rfl) (sm_var (i := 0))) (sma_cons (sm_fld (c := "Matter") (T.cls (i := 41) rfl) (T.noat (i := 46) rfl) (sm_var (i := 0))) sma_nil))) (smn_tup (smn_cons (smn_name (i := 3)) (smn_cons (smn_name (i := 4)) smn_nil))))
    (sms_ret (sm_if (smc_B (sm_var (i := 4))) (sm_var (i := 3)) (sm_dat (sml_lst sma_nil)))))))⟩

def nm_due_by : List Str := ["chain", "words", "matter", "found", "tick"]
theorem sc_due_by : FnScope nm_due_by ["chain", "words"] (defScope (top 37)) := ⟨rfl, rfl, rfl, by decide +kernel, rfl, by decide +kernel, by decide +kernel⟩
theorem ok_due_by {P : Program} {w : World} {K : PySem.W.Frag} {mg : Str → Option Value} {base : Heap} (T : Tx K mg) (D_Matter_init : Okd P w K mg base 1 (He.ma K (He.ga K "Matter") "__init__") 2 sem_Matter_init) (D_Matter_due : Okd P w K mg base 2 (He.ma K (He.ga K "Matter") "due") 2 sem_Matter_due) (D_Matter_told : Okd P w K mg base 2 (He.ma K (He.ga K "Matter") "told") 3 sem_Matter_told) : Okd P w K mg base 3 (He.ga K "due_by") 2 sem_due_by := by
  obtain ⟨t_LAST, g_LAST⟩ := T.int (i := 110) (x := "LAST") (n := 60) rfl
  obtain ⟨fd, F⟩ := T.c.def_ 16 rfl
  refine ⟨⟨fd, ["chain", "words"], fn_ok F sc_due_by body_due_by (fun cdv A outer s H E hr => ?_), F.bindsN fun _ _ _ _ _ _ us hl => match us, hl with | [_, _], _ => rfl⟩, F.kp⟩
  exact ⟨_, (pss_cons (ps_par (by rfl) sc_due_by.nd rfl rfl (by decide) rfl rfl (pa_cons (pe_makeD (T.mkr (i := 51) rfl) D_Matter_init (hr.mono (by decide)) rfl (T.glo (i := 40) rfl) (pa_cons (pv 0) pa_nil)) (pa_cons (pe_lst pa_nil) pa_nil)) (by rfl))
    (pss_cons (ps_for PassesOwn.never rfl (pi_range1 rfl (T.free (i := 124) rfl) (pa_cons (pe_op op_add (pe_glob (v := .int 60) rfl g_LAST ⟨_, rfl⟩) pe_int) pa_nil)) (pg_name (i := 4) sc_due_by.nd rfl (Or.inl rfl)) (pss_cons (ps_expr (pe_methD (pv 2) (T.cls (i := 41) rfl) (T.meth (i := 43) rfl) D_Matter_told (hr.mono (by decide)) (pa_cons (pv 1) (pa_cons (pv 4) pa_nil))))
    (pss_cons (ps_expr (pe_bm PySem.F.plainAttrs_list PySem.F.slot_list_append PySem.F.type_list_append mt_append (pv 3) (pa_cons (pe_methD (pv 2) (T.cls (i := 41) rfl) (T.meth (i := 44) rfl) D_Matter_due (hr.mono (by decide)) (pa_cons (pv 4) pa_nil)) pa_nil)))
    (pss_one (ps_fldaug (pv 2) (pe_callTy call_int1 (by rfl) (T.free (i := 118) rfl) (by decide +kernel) (pa_cons (pe_cmpR op_ge (pv 4) (pe_fld (pv 2) rfl) (nomark _)) pa_nil)) in_add)))))
    (pss_one (ps_ret (pv 3))))),
    (sms_seq (sms_par (i := 2) (j := 3) (sma_cons (sm_make (c := "Matter") (sma_cons (sm_var (i := 0)) sma_nil)) (sma_cons (sm_own (sml_lst sma_nil)) sma_nil)))
    (sms_seq (sms_for (smi_rng1 (sma_cons (sm_op r2_int sm_int sm_int) sma_nil)) (smn_name (i := 4)) (sms_seq (sms_drop (sm_meth (c := "Matter") (sm_var (i := 2)) (sma_cons (sm_var (i := 1)) (sma_cons (sm_var (i := 4)) sma_nil))))
    (sms_seq (sms_drop (sm_mut mu_app (sm_var (i := 3)) (sma_cons (sm_meth (c := "Matter") (sm_var (i := 2)) (sma_cons (sm_var (i := 4)) sma_nil)) sma_nil)))
    (sms_fldaug (c := "Matter") (h := fun i j => i + j) (T.cls (i := 41) rfl) (T.noat (i := 46) rfl) (sm_var (i := 2)) (sm_cb rc_intF (sma_cons (sm_op r2_bl (sm_var (i := 4)) (sm_fld (c := "Matter") (T.cls (i := 41) rfl) (T.noat (i := 47) rfl) (sm_var (i := 2)))) sma_nil))))))
    (sms_ret (sm_var (i := 3)))))⟩

def nm_rows_by : List Str := ["chain", "words", "found", "row", "word", "times", "heard"]
theorem sc_rows_by : FnScope nm_rows_by ["chain", "words"] (defScope (top 38)) := ⟨rfl, rfl, rfl, by decide +kernel, rfl, by decide +kernel, by decide +kernel⟩
theorem ok_rows_by {P : Program} {w : World} {K : PySem.W.Frag} {mg : Str → Option Value} {base : Heap} (T : Tx K mg) (D_due_by : Okd P w K mg base 3 (He.ga K "due_by") 2 sem_due_by) : Okd P w K mg base 4 (He.ga K "rows_by") 2 sem_rows_by := by
  obtain ⟨t_LAST, g_LAST⟩ := T.int (i := 110) (x := "LAST") (n := 60) rfl
  obtain ⟨fd, F⟩ := T.c.def_ 17 rfl
  refine ⟨⟨fd, ["chain", "words"], fn_ok F sc_rows_by body_rows_by (fun cdv A outer s H E hr => ?_), F.bindsN fun _ _ _ _ _ _ us hl => match us, hl with | [_, _], _ => rfl⟩, F.kp⟩
  exact ⟨_, (pss_cons (ps_par (by rfl) sc_rows_by.nd rfl rfl (by decide) rfl rfl (pa_cons (pe_lst pa_nil) (pa_cons (pe_lst pa_nil) pa_nil)) (by rfl))
    (pss_cons (ps_setLc (i := 5) (own := [("word", 4)]) (g := (gName 4)) (tt := tYes) (te := (tOp (rIx K) (tVar 4) (tC (.int 3)))) rfl sc_rows_by.nd rfl rfl (sw_true rfl rfl rfl (by decide +kernel)) (pi_list (pv 1)) (blkOk_by (own := [("word", 4)]) (N := nm_rows_by) (sc := defScope (top 38)) (by decide +kernel)) (fun _ _ _ _ _ => (pg_name (i := 4) sc_rows_by.nd rfl (Or.inl rfl))) (fun _ _ _ _ _ => pts_nil) (fun _ _ _ _ _ => (pe_ix ix_seq (pv 4) pe_int (fun _ _ => rfl))))
    (pss_cons (ps_for PassesOwn.never rfl (pi_range1 rfl (T.free (i := 124) rfl) (pa_cons (pe_op op_add (pe_op op_mul pe_int (pe_glob (v := .int 60) rfl g_LAST ⟨_, rfl⟩)) pe_int) pa_nil)) (pg_name (i := 6) sc_rows_by.nd rfl (Or.inr rfl)) (pss_cons (ps_if (PW.pt (pw_or (pt_cmpR (op_eqD hr.units) (pv 6) pe_int (nomark _)) (pw_or1 (pt_cmpR op_in_seq (pv 6) (pv 5) (by first | rfl | with_unfolding_all rfl))))) (pss_one (ps_set (i := 3) sc_rows_by.nd rfl (Or.inl rfl) (pe_callD D_due_by (hr.mono (by decide)) rfl (T.glo (i := 13) rfl) (pa_cons (pv 0) (pa_cons (pe_lc (own := [("word", 4)]) (g := (gName 4)) (tt := (tTest (tOp (rI0 fun i j => .bl (decide (i ≤ j))) (tOp (rIx K) (tVar 4) (tC (.int 3))) (tVar 6)))) (te := (tVar 4)) rfl sc_rows_by.nd (pi_list (pv 1)) (blkOk_by (own := [("word", 4)]) (N := nm_rows_by) (sc := defScope (top 38)) (by decide +kernel)) (fun _ _ _ _ _ => (pg_name (i := 4) sc_rows_by.nd rfl (Or.inl rfl))) (fun _ _ _ _ _ => (pts_one (pt_cmpR op_le (pe_ix ix_seq (pv 4) pe_int (fun _ _ => rfl)) (pv 6) (nomark _)))) (fun _ _ _ _ _ => (pv 4))) pa_nil))))) pss_nil)
    (pss_one (ps_expr (pe_bm PySem.F.plainAttrs_list PySem.F.slot_list_append PySem.F.type_list_append mt_append (pv 2) (pa_cons (pv 3) pa_nil))))))
    (pss_one (ps_ret (pv 2)))))),
    (sms_seq (sms_par (i := 2) (j := 3) (sma_cons (sm_own (sml_lst sma_nil)) (sma_cons (sm_dat (sml_lst sma_nil)) sma_nil)))
    (sms_seq (sms_asg (sm_dat (sml_lc (smi_list (sm_var (i := 1))) (smn_name (i := 4)) smc_yes (sm_op r2_ix (sm_var (i := 4)) sm_int) (by decide))) (smn_name (i := 5)))
    (sms_seq (sms_for (smi_rng1 (sma_cons (sm_op r2_int (sm_op (r2_intC fun _ _ => mulN_ok) sm_int sm_int) sm_int) sma_nil)) (smn_name (i := 6)) (sms_seq (sms_if (smc_or (smc_test (sm_op r2_eq (sm_var (i := 6)) sm_int)) (smc_test (sm_op r2_in (sm_var (i := 6)) (sm_var (i := 5))))) (sms_asg (sm_callF (sma_cons (sm_var (i := 0)) (sma_cons (sm_dat (sml_lc (smi_list (sm_var (i := 1))) (smn_name (i := 4)) (smc_test (sm_op r2_bl (sm_op r2_ix (sm_var (i := 4)) sm_int) (sm_var (i := 6)))) (sm_var (i := 4)) (by decide))) sma_nil))) (smn_name (i := 3))) sms_next)
    (sms_drop (sm_mut mu_app (sm_var (i := 2)) (sma_cons (sm_var (i := 3)) sma_nil)))))
    (sms_ret (sm_var (i := 2))))))⟩

def nm_sent_in : List Str := ["rows", "hold", "tick"]
theorem sc_sent_in : FnScope nm_sent_in ["rows", "hold"] (defScope (top 39)) := ⟨rfl, rfl, rfl, by decide +kernel, rfl, by decide +kernel, by decide +kernel⟩
theorem ok_sent_in {P : Program} {w : World} {K : PySem.W.Frag} {mg : Str → Option Value} {base : Heap} (T : Tx K mg) : Okd P w K mg base 1 (He.ga K "sent_in") 2 sem_sent_in := by
  obtain ⟨t_LAST, g_LAST⟩ := T.int (i := 110) (x := "LAST") (n := 60) rfl
  obtain ⟨fd, F⟩ := T.c.def_ 18 rfl
  refine ⟨⟨fd, ["rows", "hold"], fn_ok F sc_sent_in body_sent_in (fun cdv A outer s H E hr => ?_), F.bindsN fun _ _ _ _ _ _ us hl => match us, hl with | [_, _], _ => rfl⟩, F.kp⟩
  exact ⟨_, (pss_one (ps_ret (pe_lc (own := [("tick", 2)]) (g := (gName 2)) (tt := tYes) (te := (tOp (rIx K) (tOp (rIx K) (tVar 0) (tOp (rI0 fun i j => .int (i + j)) (tVar 2) (tVar 1))) (tVar 2))) rfl sc_sent_in.nd (pi_range1 rfl (T.free (i := 124) rfl) (pa_cons (pe_op op_add (pe_glob (v := .int 60) rfl g_LAST ⟨_, rfl⟩) pe_int) pa_nil)) (blkOk_by (own := [("tick", 2)]) (N := nm_sent_in) (sc := defScope (top 39)) (by decide +kernel)) (fun _ _ _ _ _ => (pg_name (i := 2) sc_sent_in.nd rfl (Or.inl rfl))) (fun _ _ _ _ _ => pts_nil) (fun _ _ _ _ _ => (pe_ix ix_seq (pe_ix ix_seq (pv 0) (pe_op op_add (pv 2) (pv 1)) (fun _ _ => rfl)) (pv 2) (fun _ _ => rfl)))))),
    (sms_ret (sm_own (sml_lc (smi_rng1 (sma_cons (sm_op r2_int sm_int sm_int) sma_nil)) (smn_name (i := 2)) smc_yes (sm_op r2_ix (sm_op r2_ix (sm_var (i := 0)) (sm_op r2_int (sm_var (i := 2)) (sm_var (i := 1)))) (sm_var (i := 2))) (by decide))))⟩

def nm_sent_by : List Str := ["chain", "words", "hold"]
theorem sc_sent_by : FnScope nm_sent_by ["chain", "words", "hold"] (defScope (top 40)) := ⟨rfl, rfl, rfl, by decide +kernel, rfl, by decide +kernel, by decide +kernel⟩
theorem ok_sent_by {P : Program} {w : World} {K : PySem.W.Frag} {mg : Str → Option Value} {base : Heap} (T : Tx K mg) (D_rows_by : Okd P w K mg base 4 (He.ga K "rows_by") 2 sem_rows_by) (D_sent_in : Okd P w K mg base 1 (He.ga K "sent_in") 2 sem_sent_in) : Okd P w K mg base 5 (He.ga K "sent_by") 3 sem_sent_by := by
  obtain ⟨fd, F⟩ := T.c.def_ 19 rfl
  refine ⟨⟨fd, ["chain", "words", "hold"], fn_ok F sc_sent_by body_sent_by (fun cdv A outer s H E hr => ?_), F.bindsN fun _ _ _ _ _ _ us hl => match us, hl with | [_, _, _], _ => rfl⟩, F.kp⟩
  exact ⟨_, (pss_one (ps_ret (pe_callD D_sent_in (hr.mono (by decide)) rfl (T.glo (i := 15) rfl) (pa_cons (pe_callD D_rows_by (hr.mono (by decide)) rfl (T.glo (i := 14) rfl) (pa_cons (pv 0) (pa_cons (pv 1) pa_nil))) (pa_cons (pv 2) pa_nil))))),
    (sms_ret (sm_callG (sma_cons (sm_callF (sma_cons (sm_var (i := 0)) (sma_cons (sm_var (i := 1)) sma_nil))) (sma_cons (sm_var (i := 2)) sma_nil))))⟩

def nm_pairs_of : List Str := ["table", "found", "tick", "people", "person"]
theorem sc_pairs_of : FnScope nm_pairs_of ["table"] (defScope (top 41)) := ⟨rfl, rfl, rfl, by decide +kernel, rfl, by decide +kernel, by decide +kernel⟩
theorem ok_pairs_of {P : Program} {w : World} {K : PySem.W.Frag} {mg : Str → Option Value} {base : Heap} (T : Tx K mg) : Okd P w K mg base 1 (He.ga K "pairs_of") 1 sem_pairs_of := by
  obtain ⟨fd, F⟩ := T.c.def_ 20 rfl
  refine ⟨⟨fd, ["table"], fn_ok F sc_pairs_of body_pairs_of (fun cdv A outer s H E hr => ?_), F.bindsN fun _ _ _ _ _ _ us hl => match us, hl with | [_], _ => rfl⟩, F.kp⟩
  exact ⟨_, (pss_cons (ps_set (i := 1) sc_pairs_of.nd rfl (Or.inl rfl) (pe_lst pa_nil))
    (pss_cons (ps_for PassesOwn.never rfl (pi_enum (by rfl) (T.free (i := 117) rfl) (pa_cons (pv 0) pa_nil)) (pg_tup rfl (pgs_cons (pg_name (i := 2) sc_pairs_of.nd rfl (Or.inr rfl)) (pgs_cons (pg_name (i := 3) sc_pairs_of.nd rfl (Or.inl rfl)) pgs_nil))) (pss_one (ps_expr (pe_bm PySem.F.plainAttrs_list PySem.F.slot_list_extend PySem.F.type_list_extend mt_extend (pv 1) (pa_cons (pe_lc (own := [("person", 4)]) (g := (gName 4)) (tt := tYes) (te := (tTup (tCons (tVar 2) (tCons (tVar 4) tNil)))) rfl sc_pairs_of.nd (pi_list (pv 3)) (blkOk_by (own := [("person", 4)]) (N := nm_pairs_of) (sc := defScope (top 41)) (by decide +kernel)) (fun _ _ _ _ _ => (pg_name (i := 4) sc_pairs_of.nd rfl (Or.inl rfl))) (fun _ _ _ _ _ => pts_nil) (fun _ _ _ _ _ => (pe_tup (pa_cons (pv 2) (pa_cons (pv 4) pa_nil))))) pa_nil)))))
    (pss_one (ps_ret (pv 1))))),
    (sms_seq (sms_asg (sm_own (sml_lst sma_nil)) (smn_name (i := 1)))
    (sms_seq (sms_for (smi_enum (sma_cons (sm_var (i := 0)) sma_nil)) (smn_tup (smn_cons (smn_name (i := 2)) (smn_cons (smn_name (i := 3)) smn_nil))) (sms_drop (sm_ext (sm_var (i := 1)) (sm_dat (sml_lc (smi_list (sm_var (i := 3))) (smn_name (i := 4)) smc_yes (sm_tup (sma_cons (sm_var (i := 2)) (sma_cons (sm_var (i := 4)) sma_nil))) (by decide))))))
    (sms_ret (sm_var (i := 1)))))⟩

def nm_least_hold : List Str := ["chain", "words", "rows", "word", "due", "hold"]
theorem sc_least_hold : FnScope nm_least_hold ["chain", "words"] (defScope (top 42)) := ⟨rfl, rfl, rfl, by decide +kernel, rfl, by decide +kernel, by decide +kernel⟩
theorem ok_least_hold {P : Program} {w : World} {K : PySem.W.Frag} {mg : Str → Option Value} {base : Heap} (T : Tx K mg) (D_rows_by : Okd P w K mg base 4 (He.ga K "rows_by") 2 sem_rows_by) (D_sent_in : Okd P w K mg base 1 (He.ga K "sent_in") 2 sem_sent_in) : Okd P w K mg base 5 (He.ga K "least_hold") 2 sem_least_hold := by
  obtain ⟨fd, F⟩ := T.c.def_ 21 rfl
  refine ⟨⟨fd, ["chain", "words"], fn_ok F sc_least_hold body_least_hold (fun cdv A outer s H E hr => ?_), F.bindsN fun _ _ _ _ _ _ us hl => match us, hl with | [_, _], _ => rfl⟩, F.kp⟩
  exact ⟨_, (pss_cons (ps_set (i := 2) sc_least_hold.nd rfl (Or.inl rfl) (pe_callD D_rows_by (hr.mono (by decide)) rfl (T.glo (i := 14) rfl) (pa_cons (pv 0) (pa_cons (pv 1) pa_nil))))
    (pss_cons (ps_par (by rfl) sc_least_hold.nd rfl rfl (by decide) rfl rfl (pa_cons (pe_ix ix_seq (pv 2) (pe_un un_neg pe_int) (fun _ _ => rfl)) (pa_cons (pe_callB (cr_max rfl) (by rfl) (T.free (i := 122) rfl) (by decide +kernel) (pa_cons (pe_op op_cat (pe_lst (pa_cons pe_int pa_nil)) (pe_lc (own := [("word", 3)]) (g := (gName 3)) (tt := tYes) (te := (tOp (rI0 fun i j => .int (i - j)) (tOp (rIx K) (tVar 3) (tC (.int 3))) (tOp (rIx K) (tVar 3) (tC (.int 2))))) rfl sc_least_hold.nd (pi_list (pv 1)) (blkOk_by (own := [("word", 3)]) (N := nm_least_hold) (sc := defScope (top 42)) (by decide +kernel)) (fun _ _ _ _ _ => (pg_name (i := 3) sc_least_hold.nd rfl (Or.inl rfl))) (fun _ _ _ _ _ => pts_nil) (fun _ _ _ _ _ => (pe_op op_sub (pe_ix ix_seq (pv 3) pe_int (fun _ _ => rfl)) (pe_ix ix_seq (pv 3) pe_int (fun _ _ => rfl)))))) pa_nil)) pa_nil)) (by rfl))
    (pss_cons (ps_while PassesOwn.never (PW.pt (pw_and (pt_cmpR op_gt (pv 5) pe_int (nomark _)) (pw_and1 (pt_cmpR (op_eqD hr.units) (pe_callD D_sent_in (hr.mono (by decide)) rfl (T.glo (i := 15) rfl) (pa_cons (pv 2) (pa_cons (pe_op op_sub (pv 5) pe_int) pa_nil))) (pv 4) (nomark _))))) (pss_one (ps_aug (i := 5) sc_least_hold.nd rfl (Or.inl rfl) pe_int ip_sub)))
    (pss_one (ps_ret (pv 5)))))),
    (sms_seq (sms_asg (sm_callF (sma_cons (sm_var (i := 0)) (sma_cons (sm_var (i := 1)) sma_nil))) (smn_name (i := 2)))
    (sms_seq (sms_par (i := 4) (j := 5) (sma_cons (sm_op r2_ix (sm_var (i := 2)) (sm_neg sm_int)) (sma_cons (sm_cb rc_maxL (sma_cons (sm_dat (sml_cat (sm_dat (sml_lst (sma_cons sm_int sma_nil))) (sm_dat (sml_lc (smi_list (sm_var (i := 1))) (smn_name (i := 3)) smc_yes (sm_op r2_int (sm_op r2_ix (sm_var (i := 3)) sm_int) (sm_op r2_ix (sm_var (i := 3)) sm_int)) (by decide))))) sma_nil)) sma_nil)))
    (sms_seq (sms_while (n := 1000) (smc_and (smc_test (sm_op r2_bl (sm_var (i := 5)) sm_int)) (smc_test (sm_op r2_eq (sm_callG (sma_cons (sm_var (i := 2)) (sma_cons (sm_op r2_int (sm_var (i := 5)) sm_int) sma_nil))) (sm_var (i := 4))))) (sms_aug (i := 5) sm_int))
    (sms_ret (sm_var (i := 5))))))⟩

def nm_Round_init : List Str := ["self", "chain", "hold", "people", "every", "times"]
theorem sc_Round_init : FnScope nm_Round_init ["self", "chain", "hold"] (defScope (inClass (top 44) 0)) := ⟨rfl, rfl, rfl, by decide +kernel, rfl, by decide +kernel, by decide +kernel⟩
theorem ok_Round_init {P : Program} {w : World} {K : PySem.W.Frag} {mg : Str → Option Value} {base : Heap} (T : Tx K mg) (D_due_by : Okd P w K mg base 3 (He.ga K "due_by") 2 sem_due_by) (D_people_of : Okd P w K mg base 1 (He.ga K "people_of") 1 sem_people_of) : Okd P w K mg base 4 (He.ma K (He.ga K "Round") "__init__") 3 sem_Round_init := by
  obtain ⟨fd, F⟩ := T.c.def_ 22 rfl
  refine ⟨⟨fd, ["self", "chain", "hold"], fn_ok F sc_Round_init body_Round_init (fun cdv A outer s H E hr => ?_), F.bindsN fun _ _ _ _ _ _ us hl => match us, hl with | [_, _, _], _ => rfl⟩, F.kp⟩
  exact ⟨_, (pss_cons (ps_fld (pv 0) (pe_lc (own := [("people", 3), ("every", 4), ("times", 5)]) (g := (gTup K 3 (gCons (gName 3) (gCons (gName 4) (gCons (gName 5) gNil))))) (tt := tYes) (te := (tTup (tCons (tCB (fun xs H Q => ∃ p ys, xs = [.ref p] ∧ (SqL K H p ys ∨ SqT K H p ys) ∧ ∀ l, H l = none → Q (.ref l) (upd H l (.lst ys))) (tCons (tVar 3) tNil)) (tCons (tVar 4) (tCons (tVar 5) tNil))))) rfl sc_Round_init.nd (pi_list (pv 1)) (blkOk_by (own := [("people", 3), ("every", 4), ("times", 5)]) (N := nm_Round_init) (sc := defScope (inClass (top 44) 0)) (by decide +kernel)) (fun _ _ _ _ _ => (pg_tup rfl (pgs_cons (pg_name (i := 3) sc_Round_init.nd rfl (Or.inl rfl)) (pgs_cons (pg_name (i := 4) sc_Round_init.nd rfl (Or.inl rfl)) (pgs_cons (pg_name (i := 5) sc_Round_init.nd rfl (Or.inl rfl)) pgs_nil))))) (fun _ _ _ _ _ => pts_nil) (fun _ _ _ _ _ => (pe_tup (pa_cons (pe_callTy call_list_of (by rfl) (T.free (i := 121) rfl) (by decide +kernel) (pa_cons (pv 3) pa_nil)) (pa_cons (pv 4) (pa_cons (pv 5) pa_nil)))))) rfl)
    (pss_cons (ps_fld (pv 0) (pe_callD D_people_of (hr.mono (by decide)) rfl (T.glo (i := 4) rfl) (pa_cons (pv 1) pa_nil)) rfl)
    (pss_cons (ps_fld (pv 0) (pv 2) rfl)
    (pss_cons (ps_fld (pv 0) (pe_lst pa_nil) rfl)
    (pss_cons (ps_fld (pv 0) (pe_callD D_due_by (hr.mono (by decide)) rfl (T.glo (i := 13) rfl) (pa_cons (pe_fld (pv 0) rfl) (pa_cons (pe_lst pa_nil) pa_nil))) rfl)
    (pss_one (ps_fld (pv 0) pe_int rfl))))))),
    (sms_seq (sms_fld (c := "Round") (T.cls (i := 53) rfl) (T.noat (i := 61) rfl) (sm_var (i := 0)) (sm_dat (sml_lc (smi_list (sm_var (i := 1))) (smn_tup (smn_cons (smn_name (i := 3)) (smn_cons (smn_name (i := 4)) (smn_cons (smn_name (i := 5)) smn_nil)))) smc_yes (sm_tup (sma_cons (sm_dat (sml_cb rl_list (sma_cons (sm_var (i := 3)) sma_nil))) (sma_cons (sm_var (i := 4)) (sma_cons (sm_var (i := 5)) sma_nil)))) (by decide))))
    (sms_seq (sms_fld (c := "Round") (T.cls (i := 53) rfl) (T.noat (i := 62) rfl) (sm_var (i := 0)) (sm_callF (sma_cons (sm_var (i := 1)) sma_nil)))
    (sms_seq (sms_fld (c := "Round") (T.cls (i := 53) rfl) (T.noat (i := 63) rfl) (sm_var (i := 0)) (sm_var (i := 2)))
    (sms_seq (sms_fld (c := "Round") (T.cls (i := 53) rfl) (T.noat (i := 64) rfl) (sm_var (i := 0)) (sm_own (sml_lst sma_nil)))
    (sms_seq (sms_fld (c := "Round") (T.cls (i := 53) rfl) (T.noat (i := 65) rfl) (sm_var (i := 0)) (sm_callF (sma_cons (sm_fld (c := "Round") (T.cls (i := 53) rfl) (T.noat (i := 61) rfl) (sm_var (i := 0))) (sma_cons (sm_dat (sml_lst sma_nil)) sma_nil))))
    (sms_fld (c := "Round") (T.cls (i := 53) rfl) (T.noat (i := 66) rfl) (sm_var (i := 0)) sm_int))))))⟩

def nm_Round_can_say : List Str := ["self", "person", "said"]
theorem sc_Round_can_say : FnScope nm_Round_can_say ["self", "person", "said"] (defScope (inClass (top 44) 1)) := ⟨rfl, rfl, rfl, by decide +kernel, rfl, by decide +kernel, by decide +kernel⟩
theorem ok_Round_can_say {P : Program} {w : World} {K : PySem.W.Frag} {mg : Str → Option Value} {base : Heap} (T : Tx K mg) : Okd P w K mg base 1 (He.ma K (He.ga K "Round") "can_say") 3 sem_Round_can_say := by
  obtain ⟨t_MOST_SAID, g_MOST_SAID⟩ := T.int (i := 109) (x := "MOST_SAID") (n := 40) rfl
  obtain ⟨fd, F⟩ := T.c.def_ 23 rfl
  refine ⟨⟨fd, ["self", "person", "said"], fn_ok F sc_Round_can_say body_Round_can_say (fun cdv A outer s H E hr => ?_), F.bindsN fun _ _ _ _ _ _ us hl => match us, hl with | [_, _, _], _ => rfl⟩, F.kp⟩
  exact ⟨_, (pss_one (ps_ret (pe_and (pe_cmpR op_in_seq (pv 1) (pe_fld (pv 0) rfl) (by first | rfl | with_unfolding_all rfl)) (pe_one (pe_chain op_le op_le pe_int (pv 2) (pe_callB (call_min2 rfl) (by rfl) (T.free (i := 123) rfl) (by decide +kernel) (pa_cons (pe_fld (pv 0) rfl) (pa_cons (pe_glob (v := .int 40) rfl g_MOST_SAID ⟨_, rfl⟩) pa_nil)))))))),
    (sms_ret (sm_andV (sm_op r2_in (sm_var (i := 1)) (sm_fld (c := "Round") (T.cls (i := 53) rfl) (T.noat (i := 62) rfl) (sm_var (i := 0)))) (sm_chain r2_bl r2_bl sm_int (sm_var (i := 2)) (sm_cb rc_min2 (sma_cons (sm_fld (c := "Round") (T.cls (i := 53) rfl) (T.noat (i := 66) rfl) (sm_var (i := 0))) (sma_cons sm_int sma_nil))))))⟩

def nm_Round_has_room : List Str := ["self"]
theorem sc_Round_has_room : FnScope nm_Round_has_room ["self"] (defScope (inClass (top 44) 2)) := ⟨rfl, rfl, rfl, by decide +kernel, rfl, by decide +kernel, by decide +kernel⟩
theorem ok_Round_has_room {P : Program} {w : World} {K : PySem.W.Frag} {mg : Str → Option Value} {base : Heap} (T : Tx K mg) : Okd P w K mg base 1 (He.ma K (He.ga K "Round") "has_room") 1 sem_Round_has_room := by
  obtain ⟨t_MOST_WORDS, g_MOST_WORDS⟩ := T.int (i := 108) (x := "MOST_WORDS") (n := 12) rfl
  obtain ⟨fd, F⟩ := T.c.def_ 24 rfl
  refine ⟨⟨fd, ["self"], fn_ok F sc_Round_has_room body_Round_has_room (fun cdv A outer s H E hr => ?_), F.bindsN fun _ _ _ _ _ _ us hl => match us, hl with | [_], _ => rfl⟩, F.kp⟩
  exact ⟨_, (pss_one (ps_ret (pe_cmpR op_lt (pe_callB call_len_seq (by rfl) (T.free (i := 120) rfl) (by decide +kernel) (pa_cons (pe_fld (pv 0) rfl) pa_nil)) (pe_glob (v := .int 12) rfl g_MOST_WORDS ⟨_, rfl⟩) (nomark _)))),
    (sms_ret (sm_op r2_bl (sm_cb rc_len (sma_cons (sm_fld (c := "Round") (T.cls (i := 53) rfl) (T.noat (i := 64) rfl) (sm_var (i := 0))) sma_nil)) sm_int))⟩

def nm_Round_hear : List Str := ["self", "kind", "person", "said", "rest"]
theorem sc_Round_hear : FnScope nm_Round_hear ["self", "kind", "person", "said", "rest"] (defScope (inClass (top 44) 3)) := ⟨rfl, rfl, rfl, by decide +kernel, rfl, by decide +kernel, by decide +kernel⟩
theorem ok_Round_hear {P : Program} {w : World} {K : PySem.W.Frag} {mg : Str → Option Value} {base : Heap} (T : Tx K mg) (D_due_by : Okd P w K mg base 3 (He.ga K "due_by") 2 sem_due_by) : Okd P w K mg base 4 (He.ma K (He.ga K "Round") "hear") 5 sem_Round_hear := by
  obtain ⟨fd, F⟩ := T.c.def_ 25 rfl
  refine ⟨⟨fd, ["self", "kind", "person", "said", "rest"], fn_ok F sc_Round_hear body_Round_hear (fun cdv A outer s H E hr => ?_), F.bindsN fun _ _ _ _ _ _ us hl => match us, hl with | [_, _, _, _, _], _ => rfl⟩, F.kp⟩
  exact ⟨_, (pss_cons (ps_expr (pe_bm PySem.F.plainAttrs_list PySem.F.slot_list_append PySem.F.type_list_append mt_append (pe_fld (pv 0) rfl) (pa_cons (pe_op op_catA (pe_tup (pa_cons (pv 1) (pa_cons (pv 2) (pa_cons (pv 3) (pa_cons (pe_fld (pv 0) rfl) pa_nil))))) (pv 4)) pa_nil)))
    (pss_one (ps_fld (pv 0) (pe_callD D_due_by (hr.mono (by decide)) rfl (T.glo (i := 13) rfl) (pa_cons (pe_fld (pv 0) rfl) (pa_cons (pe_fld (pv 0) rfl) pa_nil))) rfl))),
    (sms_seq (sms_drop (sm_mut mu_app (sm_fld (c := "Round") (T.cls (i := 53) rfl) (T.noat (i := 64) rfl) (sm_var (i := 0))) (sma_cons (sm_catT (sm_tup (sma_cons (sm_var (i := 1)) (sma_cons (sm_var (i := 2)) (sma_cons (sm_var (i := 3)) (sma_cons (sm_fld (c := "Round") (T.cls (i := 53) rfl) (T.noat (i := 66) rfl) (sm_var (i := 0))) sma_nil))))) (sm_var (i := 4))) sma_nil)))
    (sms_fld (c := "Round") (T.cls (i := 53) rfl) (T.noat (i := 65) rfl) (sm_var (i := 0)) (sm_callF (sma_cons (sm_fld (c := "Round") (T.cls (i := 53) rfl) (T.noat (i := 61) rfl) (sm_var (i := 0))) (sma_cons (sm_fld (c := "Round") (T.cls (i := 53) rfl) (T.noat (i := 64) rfl) (sm_var (i := 0))) sma_nil)))))⟩

def nm_Round_is_over : List Str := ["self"]
theorem sc_Round_is_over : FnScope nm_Round_is_over ["self"] (defScope (inClass (top 44) 4)) := ⟨rfl, rfl, rfl, by decide +kernel, rfl, by decide +kernel, by decide +kernel⟩
theorem ok_Round_is_over {P : Program} {w : World} {K : PySem.W.Frag} {mg : Str → Option Value} {base : Heap} (T : Tx K mg) : Okd P w K mg base 1 (He.ma K (He.ga K "Round") "is_over") 1 sem_Round_is_over := by
  obtain ⟨t_LAST, g_LAST⟩ := T.int (i := 110) (x := "LAST") (n := 60) rfl
  obtain ⟨fd, F⟩ := T.c.def_ 26 rfl
  refine ⟨⟨fd, ["self"], fn_ok F sc_Round_is_over body_Round_is_over (fun cdv A outer s H E hr => ?_), F.bindsN fun _ _ _ _ _ _ us hl => match us, hl with | [_], _ => rfl⟩, F.kp⟩
  exact ⟨_, (pss_one (ps_ret (pe_cmpR op_gt (pe_fld (pv 0) rfl) (pe_op op_add (pe_glob (v := .int 60) rfl g_LAST ⟨_, rfl⟩) (pe_fld (pv 0) rfl)) (nomark _)))),
    (sms_ret (sm_op r2_bl (sm_fld (c := "Round") (T.cls (i := 53) rfl) (T.noat (i := 66) rfl) (sm_var (i := 0))) (sm_op r2_int sm_int (sm_fld (c := "Round") (T.cls (i := 53) rfl) (T.noat (i := 63) rfl) (sm_var (i := 0))))))⟩

def nm_Round_pass_one : List Str := ["self", "tick"]
theorem sc_Round_pass_one : FnScope nm_Round_pass_one ["self"] (defScope (inClass (top 44) 5)) := ⟨rfl, rfl, rfl, by decide +kernel, rfl, by decide +kernel, by decide +kernel⟩
theorem ok_Round_pass_one {P : Program} {w : World} {K : PySem.W.Frag} {mg : Str → Option Value} {base : Heap} (T : Tx K mg) : Okd P w K mg base 1 (He.ma K (He.ga K "Round") "pass_one") 1 sem_Round_pass_one := by
  obtain ⟨fd, F⟩ := T.c.def_ 27 rfl
  refine ⟨⟨fd, ["self"], fn_ok F sc_Round_pass_one body_Round_pass_one (fun cdv A outer s H E hr => ?_), F.bindsN fun _ _ _ _ _ _ us hl => match us, hl with | [_], _ => rfl⟩, F.kp⟩
  exact ⟨_, (pss_cons (ps_set (i := 1) sc_Round_pass_one.nd rfl (Or.inl rfl) (pe_op op_sub (pe_fld (pv 0) rfl) (pe_fld (pv 0) rfl)))
    (pss_cons (ps_fldaug (pv 0) pe_int in_add)
    (pss_one (ps_ret (pe_ifExp (pt_cmpR op_ge (pv 1) pe_int (nomark _)) (pe_callTy call_list_of (by rfl) (T.free (i := 121) rfl) (by decide +kernel) (pa_cons (pe_ix ix_seq (pe_fld (pv 0) rfl) (pv 1) (fun _ _ => rfl)) pa_nil)) (pe_lst pa_nil)))))),
    (sms_seq (sms_asg (sm_op r2_int (sm_fld (c := "Round") (T.cls (i := 53) rfl) (T.noat (i := 66) rfl) (sm_var (i := 0))) (sm_fld (c := "Round") (T.cls (i := 53) rfl) (T.noat (i := 63) rfl) (sm_var (i := 0)))) (smn_name (i := 1)))
    (sms_seq (sms_fldaug (c := "Round") (h := fun i j => i + j) (T.cls (i := 53) rfl) (T.noat (i := 66) rfl) (sm_var (i := 0)) sm_int)
    (sms_ret (sm_own (sml_if (smc_test (sm_op r2_bl (sm_var (i := 1)) sm_int)) (sml_cb rl_list (sma_cons (sm_op r2_ix (sm_fld (c := "Round") (T.cls (i := 53) rfl) (T.noat (i := 65) rfl) (sm_var (i := 0))) (sm_var (i := 1))) sma_nil)) (sml_lst sma_nil))))))⟩

def nm_Round_comes : List Str := ["self", "line"]
theorem sc_Round_comes : FnScope nm_Round_comes ["self", "line"] (defScope (inClass (top 44) 6)) := ⟨rfl, rfl, rfl, by decide +kernel, rfl, by decide +kernel, by decide +kernel⟩
theorem ok_Round_comes {P : Program} {w : World} {K : PySem.W.Frag} {mg : Str → Option Value} {base : Heap} (T : Tx K mg) (D_Round_can_say : Okd P w K mg base 1 (He.ma K (He.ga K "Round") "can_say") 3 sem_Round_can_say) (D_Round_has_room : Okd P w K mg base 1 (He.ma K (He.ga K "Round") "has_room") 1 sem_Round_has_room) (D_Round_hear : Okd P w K mg base 4 (He.ma K (He.ga K "Round") "hear") 5 sem_Round_hear) (D_Round_is_over : Okd P w K mg base 1 (He.ma K (He.ga K "Round") "is_over") 1 sem_Round_is_over) (D_Round_pass_one : Okd P w K mg base 1 (He.ma K (He.ga K "Round") "pass_one") 1 sem_Round_pass_one) : Okd P w K mg base 5 (He.ma K (He.ga K "Round") "comes") 2 sem_Round_comes := by
  obtain ⟨t_LAST, g_LAST⟩ := T.int (i := 110) (x := "LAST") (n := 60) rfl
  obtain ⟨t_MOST_QUIET, g_MOST_QUIET⟩ := T.int (i := 111) (x := "MOST_QUIET") (n := 20) rfl
  obtain ⟨fd, F⟩ := T.c.def_ 28 rfl
  refine ⟨⟨fd, ["self", "line"], fn_ok F sc_Round_comes body_Round_comes (fun cdv A outer s H E hr => ?_), F.bindsN fun _ _ _ _ _ _ us hl => match us, hl with | [_, _], _ => rfl⟩, F.kp⟩
  exact ⟨_, (pss_cons (ps_if (pt_cmpR (op_eqD hr.units) (pe_ix ix_seq (pv 1) pe_int (fun _ _ => rfl)) pe_str (nomark _)) (pss_one (ps_ret (pe_and (pe_not (pe_methD0 (pv 0) (T.cls (i := 53) rfl) (T.meth (i := 58) rfl) D_Round_is_over (hr.mono (by decide)))) (pe_one (pe_cmpR (op_eqD hr.units) (pe_methD0 (pv 0) (T.cls (i := 53) rfl) (T.meth (i := 59) rfl) D_Round_pass_one (hr.mono (by decide))) (pe_ix ix_seq (pv 1) pe_int (fun _ _ => rfl)) (nomark _)))))) pss_nil)
    (pss_cons (ps_if (PW.pt (pw_or (pt_not (pt_val (pe_methD (pv 0) (T.cls (i := 53) rfl) (T.meth (i := 55) rfl) D_Round_can_say (hr.mono (by decide)) (pa_cons (pe_ix ix_seq (pv 1) pe_int (fun _ _ => rfl)) (pa_cons (pe_ix ix_seq (pv 1) pe_int (fun _ _ => rfl)) pa_nil))))) (pw_or (pt_cmpR op_gt (pe_fld (pv 0) rfl) (pe_glob (v := .int 60) rfl g_LAST ⟨_, rfl⟩) (nomark _)) (pw_or1 (pt_not (pt_val (pe_methD0 (pv 0) (T.cls (i := 53) rfl) (T.meth (i := 56) rfl) D_Round_has_room (hr.mono (by decide))))))))) (pss_one (ps_ret pe_bl)) pss_nil)
    (pss_cons (ps_if (PW.pt (pw_and (pt_cmpR (op_eqD hr.units) (pe_ix ix_seq (pv 1) pe_int (fun _ _ => rfl)) pe_str (nomark _)) (pw_and1 (pt_not (pt_chain op_le op_le pe_int (pe_ix ix_seq (pv 1) pe_int (fun _ _ => rfl)) (pe_glob (v := .int 20) rfl g_MOST_QUIET ⟨_, rfl⟩)))))) (pss_one (ps_ret pe_bl)) pss_nil)
    (pss_cons (ps_expr (pe_methD (pv 0) (T.cls (i := 53) rfl) (T.meth (i := 57) rfl) D_Round_hear (hr.mono (by decide)) (pa_cons (pe_ix ix_seq (pv 1) pe_int (fun _ _ => rfl)) (pa_cons (pe_ix ix_seq (pv 1) pe_int (fun _ _ => rfl)) (pa_cons (pe_ix ix_seq (pv 1) pe_int (fun _ _ => rfl)) (pa_cons (pe_slice sl_tupA (pv 1) (po_some pe_int) po_none) pa_nil))))))
    (pss_one (ps_ret pe_bl)))))),
    (sms_seq (sms_if (smc_test (sm_op r2_eq (sm_op r2_ix (sm_var (i := 1)) sm_int) sm_str)) (sms_ret (sm_andV (sm_notV (sm_meth (c := "Round") (sm_var (i := 0)) sma_nil)) (sm_op r2_eq (sm_meth (c := "Round") (sm_var (i := 0)) sma_nil) (sm_op r2_ix (sm_var (i := 1)) sm_int)))) sms_next)
    (sms_seq (sms_if (smc_or (smc_not (smc_B (sm_meth (c := "Round") (sm_var (i := 0)) (sma_cons (sm_op r2_ix (sm_var (i := 1)) sm_int) (sma_cons (sm_op r2_ix (sm_var (i := 1)) sm_int) sma_nil))))) (smc_or (smc_test (sm_op r2_bl (sm_fld (c := "Round") (T.cls (i := 53) rfl) (T.noat (i := 66) rfl) (sm_var (i := 0))) sm_int)) (smc_not (smc_B (sm_meth (c := "Round") (sm_var (i := 0)) sma_nil))))) (sms_ret sm_bl) sms_next)
    (sms_seq (sms_if (smc_and (smc_test (sm_op r2_eq (sm_op r2_ix (sm_var (i := 1)) sm_int) sm_str)) (smc_not (smc_test (sm_chain r2_bl r2_bl sm_int (sm_op r2_ix (sm_var (i := 1)) sm_int) sm_int)))) (sms_ret sm_bl) sms_next)
    (sms_seq (sms_drop (sm_meth (c := "Round") (sm_var (i := 0)) (sma_cons (sm_op r2_ix (sm_var (i := 1)) sm_int) (sma_cons (sm_op r2_ix (sm_var (i := 1)) sm_int) (sma_cons (sm_op r2_ix (sm_var (i := 1)) sm_int) (sma_cons (sm_slT (sm_var (i := 1)) (smo_part sm_int) smo_no) sma_nil))))))
    (sms_ret sm_bl)))))⟩

def nm_first_wrong : List Str := ["chain", "hold", "tale", "going", "at", "line"]
theorem sc_first_wrong : FnScope nm_first_wrong ["chain", "hold", "tale"] (defScope (top 45)) := ⟨rfl, rfl, rfl, by decide +kernel, rfl, by decide +kernel, by decide +kernel⟩
theorem ok_first_wrong {P : Program} {w : World} {K : PySem.W.Frag} {mg : Str → Option Value} {base : Heap} (T : Tx K mg) (D_Round_init : Okd P w K mg base 4 (He.ma K (He.ga K "Round") "__init__") 3 sem_Round_init) (D_Round_comes : Okd P w K mg base 5 (He.ma K (He.ga K "Round") "comes") 2 sem_Round_comes) : Okd P w K mg base 6 (He.ga K "first_wrong") 3 sem_first_wrong := by
  obtain ⟨fd, F⟩ := T.c.def_ 29 rfl
  refine ⟨⟨fd, ["chain", "hold", "tale"], fn_ok F sc_first_wrong body_first_wrong (fun cdv A outer s H E hr => ?_), F.bindsN fun _ _ _ _ _ _ us hl => match us, hl with | [_, _, _], _ => rfl⟩, F.kp⟩
  exact ⟨_, (pss_cons (ps_set (i := 3) sc_first_wrong.nd rfl (Or.inl rfl) (pe_makeD (T.mkr (i := 67) rfl) D_Round_init (hr.mono (by decide)) rfl (T.glo (i := 52) rfl) (pa_cons (pv 0) (pa_cons (pv 1) pa_nil))))
    (pss_cons (ps_for PassesOwn.never rfl (pi_enum (by rfl) (T.free (i := 117) rfl) (pa_cons (pv 2) pa_nil)) (pg_tup rfl (pgs_cons (pg_name (i := 4) sc_first_wrong.nd rfl (Or.inl rfl)) (pgs_cons (pg_name (i := 5) sc_first_wrong.nd rfl (Or.inl rfl)) pgs_nil))) (pss_one (ps_if (pt_not (pt_val (pe_methD (pv 3) (T.cls (i := 53) rfl) (T.meth (i := 60) rfl) D_Round_comes (hr.mono (by decide)) (pa_cons (pv 5) pa_nil)))) (pss_one (ps_ret (pv 4))) pss_nil)))
    (pss_one (ps_ret (pe_un un_neg pe_int))))),
    (sms_seq (sms_asg (sm_make (c := "Round") (sma_cons (sm_var (i := 0)) (sma_cons (sm_var (i := 1)) sma_nil))) (smn_name (i := 3)))
    (sms_seq (sms_for (smi_enum (sma_cons (sm_var (i := 2)) sma_nil)) (smn_tup (smn_cons (smn_name (i := 4)) (smn_cons (smn_name (i := 5)) smn_nil))) (sms_if (smc_not (smc_B (sm_meth (c := "Round") (sm_var (i := 3)) (sma_cons (sm_var (i := 5)) sma_nil)))) (sms_ret (sm_var (i := 4))) sms_next))
    (sms_ret (sm_neg sm_int))))⟩

def nm_Nag_init : List Str := ["self", "chain", "hold"]
theorem sc_Nag_init : FnScope nm_Nag_init ["self", "chain", "hold"] (defScope (inClass (top 47) 0)) := ⟨rfl, rfl, rfl, by decide +kernel, rfl, by decide +kernel, by decide +kernel⟩
theorem ok_Nag_init {P : Program} {w : World} {K : PySem.W.Frag} {mg : Str → Option Value} {base : Heap} (T : Tx K mg) (D_Round_init : Okd P w K mg base 4 (He.ma K (He.ga K "Round") "__init__") 3 sem_Round_init) (D_check_chain : Okd P w K mg base 4 (He.ga K "check_chain") 1 sem_check_chain) (D_check_hold : Okd P w K mg base 3 (He.ga K "check_hold") 1 sem_check_hold) : Okd P w K mg base 6 (He.ma K (He.ga K "Nag") "__init__") 3 sem_Nag_init := by
  obtain ⟨fd, F⟩ := T.c.def_ 30 rfl
  refine ⟨⟨fd, ["self", "chain", "hold"], fn_ok F sc_Nag_init body_Nag_init (fun cdv A outer s H E hr => ?_), F.bindsN fun _ _ _ _ _ _ us hl => match us, hl with | [_, _, _], _ => rfl⟩, F.kp⟩
  exact ⟨_, (pss_cons (ps_expr (pe_callD D_check_chain (hr.mono (by decide)) rfl (T.glo (i := 5) rfl) (pa_cons (pv 1) pa_nil)))
    (pss_cons (ps_expr (pe_callD D_check_hold (hr.mono (by decide)) rfl (T.glo (i := 8) rfl) (pa_cons (pv 2) pa_nil)))
    (pss_cons (ps_fld (pv 0) (pe_makeD (T.mkr (i := 67) rfl) D_Round_init (hr.mono (by decide)) rfl (T.glo (i := 52) rfl) (pa_cons (pv 1) (pa_cons (pv 2) pa_nil))) rfl)
    (pss_cons (ps_fld (pv 0) (pe_lst pa_nil) rfl)
    (pss_one (ps_fld (pv 0) (pe_lst pa_nil) rfl)))))),
    (sms_seq (sms_drop (sm_callF (sma_cons (sm_var (i := 1)) sma_nil)))
    (sms_seq (sms_drop (sm_callF (sma_cons (sm_var (i := 2)) sma_nil)))
    (sms_seq (sms_fld (c := "Nag") (T.cls (i := 69) rfl) (T.noat (i := 81) rfl) (sm_var (i := 0)) (sm_make (c := "Round") (sma_cons (sm_var (i := 1)) (sma_cons (sm_var (i := 2)) sma_nil))))
    (sms_seq (sms_fld (c := "Nag") (T.cls (i := 69) rfl) (T.noat (i := 82) rfl) (sm_var (i := 0)) (sm_own (sml_lst sma_nil)))
    (sms_fld (c := "Nag") (T.cls (i := 69) rfl) (T.noat (i := 83) rfl) (sm_var (i := 0)) (sm_own (sml_lst sma_nil)))))))⟩

def nm_Nag_check : List Str := ["self", "person", "said"]
theorem sc_Nag_check : FnScope nm_Nag_check ["self", "person", "said"] (defScope (inClass (top 47) 1)) := ⟨rfl, rfl, rfl, by decide +kernel, rfl, by decide +kernel, by decide +kernel⟩
theorem ok_Nag_check {P : Program} {w : World} {K : PySem.W.Frag} {mg : Str → Option Value} {base : Heap} (T : Tx K mg) (D_is_between : Okd P w K mg base 2 (He.ga K "is_between") 3 sem_is_between) (D_is_whole : Okd P w K mg base 1 (He.ga K "is_whole") 1 sem_is_whole) : Okd P w K mg base 3 (He.ma K (He.ga K "Nag") "check") 3 sem_Nag_check := by
  obtain ⟨t_MOST_SAID, g_MOST_SAID⟩ := T.int (i := 109) (x := "MOST_SAID") (n := 40) rfl
  obtain ⟨fd, F⟩ := T.c.def_ 31 rfl
  refine ⟨⟨fd, ["self", "person", "said"], fn_ok F sc_Nag_check body_Nag_check (fun cdv A outer s H E hr => ?_), F.bindsN fun _ _ _ _ _ _ us hl => match us, hl with | [_, _, _], _ => rfl⟩, F.kp⟩
  exact ⟨_, (pss_cons (ps_if (PW.pt (pw_or (pt_not (pt_val (pe_callD D_is_whole (hr.mono (by decide)) rfl (T.glo (i := 1) rfl) (pa_cons (pv 1) pa_nil)))) (pw_or1 (pt_cmpR op_notIn_seq (pv 1) (pe_fld (pe_fld (pv 0) rfl) rfl) (by first | rfl | with_unfolding_all rfl))))) (pss_one ps_never) pss_nil)
    (pss_one (ps_if (pt_not (pt_val (pe_callD D_is_between (hr.mono (by decide)) rfl (T.glo (i := 2) rfl) (pa_cons (pv 2) (pa_cons pe_int (pa_cons (pe_callB (call_min2 rfl) (by rfl) (T.free (i := 123) rfl) (by decide +kernel) (pa_cons (pe_fld (pe_fld (pv 0) rfl) rfl) (pa_cons (pe_glob (v := .int 40) rfl g_MOST_SAID ⟨_, rfl⟩) pa_nil))) pa_nil)))))) (pss_one ps_never) pss_nil))),
    (sms_seq (sms_if (smc_or (smc_not (smc_B (sm_callF (sma_cons (sm_var (i := 1)) sma_nil)))) (smc_test (sm_op r2_in (sm_var (i := 1)) (sm_fld (c := "Round") (T.cls (i := 53) rfl) (T.noat (i := 62) rfl) (sm_fld (c := "Nag") (T.cls (i := 69) rfl) (T.noat (i := 81) rfl) (sm_var (i := 0))))))) sms_never sms_next)
    (sms_if (smc_not (smc_B (sm_callF (sma_cons (sm_var (i := 2)) (sma_cons sm_int (sma_cons (sm_cb rc_min2 (sma_cons (sm_fld (c := "Round") (T.cls (i := 53) rfl) (T.noat (i := 66) rfl) (sm_fld (c := "Nag") (T.cls (i := 69) rfl) (T.noat (i := 81) rfl) (sm_var (i := 0)))) (sma_cons sm_int sma_nil))) sma_nil)))))) sms_never sms_next))⟩

def nm_Nag_hear : List Str := ["self", "kind", "person", "said", "rest"]
theorem sc_Nag_hear : FnScope nm_Nag_hear ["self", "kind", "person", "said", "rest"] (defScope (inClass (top 47) 2)) := ⟨rfl, rfl, rfl, by decide +kernel, rfl, by decide +kernel, by decide +kernel⟩
theorem ok_Nag_hear {P : Program} {w : World} {K : PySem.W.Frag} {mg : Str → Option Value} {base : Heap} (T : Tx K mg) (D_Round_has_room : Okd P w K mg base 1 (He.ma K (He.ga K "Round") "has_room") 1 sem_Round_has_room) (D_Round_hear : Okd P w K mg base 4 (He.ma K (He.ga K "Round") "hear") 5 sem_Round_hear) : Okd P w K mg base 5 (He.ma K (He.ga K "Nag") "hear") 5 sem_Nag_hear := by
  obtain ⟨t_LAST, g_LAST⟩ := T.int (i := 110) (x := "LAST") (n := 60) rfl
  obtain ⟨fd, F⟩ := T.c.def_ 32 rfl
  refine ⟨⟨fd, ["self", "kind", "person", "said", "rest"], fn_ok F sc_Nag_hear body_Nag_hear (fun cdv A outer s H E hr => ?_), F.bindsN fun _ _ _ _ _ _ us hl => match us, hl with | [_, _, _, _, _], _ => rfl⟩, F.kp⟩
  exact ⟨_, (pss_cons (ps_if (pt_cmpR op_gt (pe_fld (pe_fld (pv 0) rfl) rfl) (pe_glob (v := .int 60) rfl g_LAST ⟨_, rfl⟩) (nomark _)) (pss_one ps_never) pss_nil)
    (pss_cons (ps_if (pt_not (pt_val (pe_methD0 (pe_fld (pv 0) rfl) (T.cls (i := 53) rfl) (T.meth (i := 56) rfl) D_Round_has_room (hr.mono (by decide))))) (pss_one ps_never) pss_nil)
    (pss_cons (ps_expr (pe_methD (pe_fld (pv 0) rfl) (T.cls (i := 53) rfl) (T.meth (i := 57) rfl) D_Round_hear (hr.mono (by decide)) (pa_cons (pv 1) (pa_cons (pv 2) (pa_cons (pv 3) (pa_cons (pv 4) pa_nil))))))
    (pss_cons (ps_expr (pe_bm PySem.F.plainAttrs_list PySem.F.slot_list_append PySem.F.type_list_append mt_append (pe_fld (pv 0) rfl) (pa_cons (pe_op op_catA (pe_tup (pa_cons (pv 1) (pa_cons (pv 2) (pa_cons (pv 3) pa_nil)))) (pv 4)) pa_nil)))
    (pss_one (ps_ret (pe_callB call_len_seq (by rfl) (T.free (i := 120) rfl) (by decide +kernel) (pa_cons (pe_fld (pe_fld (pv 0) rfl) rfl) pa_nil)))))))),
    (sms_seq (sms_if (smc_test (sm_op r2_bl (sm_fld (c := "Round") (T.cls (i := 53) rfl) (T.noat (i := 66) rfl) (sm_fld (c := "Nag") (T.cls (i := 69) rfl) (T.noat (i := 81) rfl) (sm_var (i := 0)))) sm_int)) sms_never sms_next)
    (sms_seq (sms_if (smc_not (smc_B (sm_meth (c := "Round") (sm_fld (c := "Nag") (T.cls (i := 69) rfl) (T.noat (i := 81) rfl) (sm_var (i := 0))) sma_nil))) sms_never sms_next)
    (sms_seq (sms_drop (sm_meth (c := "Round") (sm_fld (c := "Nag") (T.cls (i := 69) rfl) (T.noat (i := 81) rfl) (sm_var (i := 0))) (sma_cons (sm_var (i := 1)) (sma_cons (sm_var (i := 2)) (sma_cons (sm_var (i := 3)) (sma_cons (sm_var (i := 4)) sma_nil))))))
    (sms_seq (sms_drop (sm_mut mu_app (sm_fld (c := "Nag") (T.cls (i := 69) rfl) (T.noat (i := 82) rfl) (sm_var (i := 0))) (sma_cons (sm_catT (sm_tup (sma_cons (sm_var (i := 1)) (sma_cons (sm_var (i := 2)) (sma_cons (sm_var (i := 3)) sma_nil)))) (sm_var (i := 4))) sma_nil)))
    (sms_ret (sm_cb rc_len (sma_cons (sm_fld (c := "Round") (T.cls (i := 53) rfl) (T.noat (i := 64) rfl) (sm_fld (c := "Nag") (T.cls (i := 69) rfl) (T.noat (i := 81) rfl) (sm_var (i := 0)))) sma_nil)))))))⟩

def nm_Nag_take : List Str := ["self", "person", "said"]
theorem sc_Nag_take : FnScope nm_Nag_take ["self", "person", "said"] (defScope (inClass (top 47) 3)) := ⟨rfl, rfl, rfl, by decide +kernel, rfl, by decide +kernel, by decide +kernel⟩
theorem ok_Nag_take {P : Program} {w : World} {K : PySem.W.Frag} {mg : Str → Option Value} {base : Heap} (T : Tx K mg) (D_Nag_check : Okd P w K mg base 3 (He.ma K (He.ga K "Nag") "check") 3 sem_Nag_check) (D_Nag_hear : Okd P w K mg base 5 (He.ma K (He.ga K "Nag") "hear") 5 sem_Nag_hear) : Okd P w K mg base 6 (He.ma K (He.ga K "Nag") "take") 3 sem_Nag_take := by
  obtain ⟨fd, F⟩ := T.c.def_ 33 rfl
  refine ⟨⟨fd, ["self", "person", "said"], fn_ok F sc_Nag_take body_Nag_take (fun cdv A outer s H E hr => ?_), F.bindsN fun _ _ _ _ _ _ us hl => match us, hl with | [_, _, _], _ => rfl⟩, F.kp⟩
  exact ⟨_, (pss_cons (ps_expr (pe_methD (pv 0) (T.cls (i := 69) rfl) (T.meth (i := 71) rfl) D_Nag_check (hr.mono (by decide)) (pa_cons (pv 1) (pa_cons (pv 2) pa_nil))))
    (pss_one (ps_ret (pe_methD (pv 0) (T.cls (i := 69) rfl) (T.meth (i := 72) rfl) D_Nag_hear (hr.mono (by decide)) (pa_cons pe_str (pa_cons (pv 1) (pa_cons (pv 2) (pa_cons (pe_tup pa_nil) pa_nil)))))))),
    (sms_seq (sms_drop (sm_meth (c := "Nag") (sm_var (i := 0)) (sma_cons (sm_var (i := 1)) (sma_cons (sm_var (i := 2)) sma_nil))))
    (sms_ret (sm_meth (c := "Nag") (sm_var (i := 0)) (sma_cons sm_str (sma_cons (sm_var (i := 1)) (sma_cons (sm_var (i := 2)) (sma_cons (sm_tup sma_nil) sma_nil)))))))⟩

def nm_Nag_put_off : List Str := ["self", "person", "said", "ticks"]
theorem sc_Nag_put_off : FnScope nm_Nag_put_off ["self", "person", "said", "ticks"] (defScope (inClass (top 47) 4)) := ⟨rfl, rfl, rfl, by decide +kernel, rfl, by decide +kernel, by decide +kernel⟩
theorem ok_Nag_put_off {P : Program} {w : World} {K : PySem.W.Frag} {mg : Str → Option Value} {base : Heap} (T : Tx K mg) (D_Nag_check : Okd P w K mg base 3 (He.ma K (He.ga K "Nag") "check") 3 sem_Nag_check) (D_Nag_hear : Okd P w K mg base 5 (He.ma K (He.ga K "Nag") "hear") 5 sem_Nag_hear) (D_is_between : Okd P w K mg base 2 (He.ga K "is_between") 3 sem_is_between) : Okd P w K mg base 6 (He.ma K (He.ga K "Nag") "put_off") 4 sem_Nag_put_off := by
  obtain ⟨t_MOST_QUIET, g_MOST_QUIET⟩ := T.int (i := 111) (x := "MOST_QUIET") (n := 20) rfl
  obtain ⟨fd, F⟩ := T.c.def_ 34 rfl
  refine ⟨⟨fd, ["self", "person", "said", "ticks"], fn_ok F sc_Nag_put_off body_Nag_put_off (fun cdv A outer s H E hr => ?_), F.bindsN fun _ _ _ _ _ _ us hl => match us, hl with | [_, _, _, _], _ => rfl⟩, F.kp⟩
  exact ⟨_, (pss_cons (ps_expr (pe_methD (pv 0) (T.cls (i := 69) rfl) (T.meth (i := 71) rfl) D_Nag_check (hr.mono (by decide)) (pa_cons (pv 1) (pa_cons (pv 2) pa_nil))))
    (pss_cons (ps_if (pt_not (pt_val (pe_callD D_is_between (hr.mono (by decide)) rfl (T.glo (i := 2) rfl) (pa_cons (pv 3) (pa_cons pe_int (pa_cons (pe_glob (v := .int 20) rfl g_MOST_QUIET ⟨_, rfl⟩) pa_nil)))))) (pss_one ps_never) pss_nil)
    (pss_one (ps_ret (pe_methD (pv 0) (T.cls (i := 69) rfl) (T.meth (i := 72) rfl) D_Nag_hear (hr.mono (by decide)) (pa_cons pe_str (pa_cons (pv 1) (pa_cons (pv 2) (pa_cons (pe_tup (pa_cons (pv 3) pa_nil)) pa_nil))))))))),
    (sms_seq (sms_drop (sm_meth (c := "Nag") (sm_var (i := 0)) (sma_cons (sm_var (i := 1)) (sma_cons (sm_var (i := 2)) sma_nil))))
    (sms_seq (sms_if (smc_not (smc_B (sm_callF (sma_cons (sm_var (i := 3)) (sma_cons sm_int (sma_cons sm_int sma_nil)))))) sms_never sms_next)
    (sms_ret (sm_meth (c := "Nag") (sm_var (i := 0)) (sma_cons sm_str (sma_cons (sm_var (i := 1)) (sma_cons (sm_var (i := 2)) (sma_cons (sm_tup (sma_cons (sm_var (i := 3)) sma_nil)) sma_nil))))))))⟩

def nm_Nag_finish : List Str := ["self", "person", "said"]
theorem sc_Nag_finish : FnScope nm_Nag_finish ["self", "person", "said"] (defScope (inClass (top 47) 5)) := ⟨rfl, rfl, rfl, by decide +kernel, rfl, by decide +kernel, by decide +kernel⟩
theorem ok_Nag_finish {P : Program} {w : World} {K : PySem.W.Frag} {mg : Str → Option Value} {base : Heap} (T : Tx K mg) (D_Nag_check : Okd P w K mg base 3 (He.ma K (He.ga K "Nag") "check") 3 sem_Nag_check) (D_Nag_hear : Okd P w K mg base 5 (He.ma K (He.ga K "Nag") "hear") 5 sem_Nag_hear) : Okd P w K mg base 6 (He.ma K (He.ga K "Nag") "finish") 3 sem_Nag_finish := by
  obtain ⟨fd, F⟩ := T.c.def_ 35 rfl
  refine ⟨⟨fd, ["self", "person", "said"], fn_ok F sc_Nag_finish body_Nag_finish (fun cdv A outer s H E hr => ?_), F.bindsN fun _ _ _ _ _ _ us hl => match us, hl with | [_, _, _], _ => rfl⟩, F.kp⟩
  exact ⟨_, (pss_cons (ps_expr (pe_methD (pv 0) (T.cls (i := 69) rfl) (T.meth (i := 71) rfl) D_Nag_check (hr.mono (by decide)) (pa_cons (pv 1) (pa_cons (pv 2) pa_nil))))
    (pss_one (ps_ret (pe_methD (pv 0) (T.cls (i := 69) rfl) (T.meth (i := 72) rfl) D_Nag_hear (hr.mono (by decide)) (pa_cons pe_str (pa_cons (pv 1) (pa_cons (pv 2) (pa_cons (pe_tup pa_nil) pa_nil)))))))),
    (sms_seq (sms_drop (sm_meth (c := "Nag") (sm_var (i := 0)) (sma_cons (sm_var (i := 1)) (sma_cons (sm_var (i := 2)) sma_nil))))
    (sms_ret (sm_meth (c := "Nag") (sm_var (i := 0)) (sma_cons sm_str (sma_cons (sm_var (i := 1)) (sma_cons (sm_var (i := 2)) (sma_cons (sm_tup sma_nil) sma_nil)))))))⟩

def nm_Nag_pass_tick : List Str := ["self", "tick", "found", "person"]
theorem sc_Nag_pass_tick : FnScope nm_Nag_pass_tick ["self"] (defScope (inClass (top 47) 6)) := ⟨rfl, rfl, rfl, by decide +kernel, rfl, by decide +kernel, by decide +kernel⟩
theorem ok_Nag_pass_tick {P : Program} {w : World} {K : PySem.W.Frag} {mg : Str → Option Value} {base : Heap} (T : Tx K mg) (D_Round_is_over : Okd P w K mg base 1 (He.ma K (He.ga K "Round") "is_over") 1 sem_Round_is_over) (D_Round_pass_one : Okd P w K mg base 1 (He.ma K (He.ga K "Round") "pass_one") 1 sem_Round_pass_one) : Okd P w K mg base 2 (He.ma K (He.ga K "Nag") "pass_tick") 1 sem_Nag_pass_tick := by
  obtain ⟨fd, F⟩ := T.c.def_ 36 rfl
  refine ⟨⟨fd, ["self"], fn_ok F sc_Nag_pass_tick body_Nag_pass_tick (fun cdv A outer s H E hr => ?_), F.bindsN fun _ _ _ _ _ _ us hl => match us, hl with | [_], _ => rfl⟩, F.kp⟩
  exact ⟨_, (pss_cons (ps_if (pt_val (pe_methD0 (pe_fld (pv 0) rfl) (T.cls (i := 53) rfl) (T.meth (i := 58) rfl) D_Round_is_over (hr.mono (by decide)))) (pss_one ps_never) pss_nil)
    (pss_cons (ps_set (i := 1) sc_Nag_pass_tick.nd rfl (Or.inr rfl) (pe_op op_sub (pe_fld (pe_fld (pv 0) rfl) rfl) (pe_fld (pe_fld (pv 0) rfl) rfl)))
    (pss_cons (ps_set (i := 2) sc_Nag_pass_tick.nd rfl (Or.inl rfl) (pe_methD0 (pe_fld (pv 0) rfl) (T.cls (i := 53) rfl) (T.meth (i := 59) rfl) D_Round_pass_one (hr.mono (by decide))))
    (pss_cons (ps_expr (pe_bm PySem.F.plainAttrs_list PySem.F.slot_list_append PySem.F.type_list_append mt_append (pe_fld (pv 0) rfl) (pa_cons (pe_tup (pa_cons pe_str (pa_cons (pe_callTy call_list_of (by rfl) (T.free (i := 121) rfl) (by decide +kernel) (pa_cons (pv 2) pa_nil)) pa_nil))) pa_nil)))
    (pss_cons (ps_expr (pe_bm PySem.F.plainAttrs_list PySem.F.slot_list_extend PySem.F.type_list_extend mt_extend (pe_fld (pv 0) rfl) (pa_cons (pe_lc (own := [("person", 3)]) (g := (gName 3)) (tt := tYes) (te := (tTup (tCons (tVar 1) (tCons (tVar 3) tNil)))) rfl sc_Nag_pass_tick.nd (pi_list (pv 2)) (blkOk_by (own := [("person", 3)]) (N := nm_Nag_pass_tick) (sc := defScope (inClass (top 47) 6)) (by decide +kernel)) (fun _ _ _ _ _ => (pg_name (i := 3) sc_Nag_pass_tick.nd rfl (Or.inl rfl))) (fun _ _ _ _ _ => pts_nil) (fun _ _ _ _ _ => (pe_tup (pa_cons (pv 1) (pa_cons (pv 3) pa_nil))))) pa_nil)))
    (pss_one (ps_ret (pv 2)))))))),
    (sms_seq (sms_if (smc_B (sm_meth (c := "Round") (sm_fld (c := "Nag") (T.cls (i := 69) rfl) (T.noat (i := 81) rfl) (sm_var (i := 0))) sma_nil)) sms_never sms_next)
    (sms_seq (sms_asg (sm_op r2_int (sm_fld (c := "Round") (T.cls (i := 53) rfl) (T.noat (i := 66) rfl) (sm_fld (c := "Nag") (T.cls (i := 69) rfl) (T.noat (i := 81) rfl) (sm_var (i := 0)))) (sm_fld (c := "Round") (T.cls (i := 53) rfl) (T.noat (i := 63) rfl) (sm_fld (c := "Nag") (T.cls (i := 69) rfl) (T.noat (i := 81) rfl) (sm_var (i := 0))))) (smn_name (i := 1)))
    (sms_seq (sms_asg (sm_meth (c := "Round") (sm_fld (c := "Nag") (T.cls (i := 69) rfl) (T.noat (i := 81) rfl) (sm_var (i := 0))) sma_nil) (smn_name (i := 2)))
    (sms_seq (sms_drop (sm_mut mu_app (sm_fld (c := "Nag") (T.cls (i := 69) rfl) (T.noat (i := 82) rfl) (sm_var (i := 0))) (sma_cons (sm_tup (sma_cons sm_str (sma_cons (sm_dat (sml_cb rl_list (sma_cons (sm_var (i := 2)) sma_nil))) sma_nil))) sma_nil)))
    (sms_seq (sms_drop (sm_ext (sm_fld (c := "Nag") (T.cls (i := 69) rfl) (T.noat (i := 83) rfl) (sm_var (i := 0))) (sm_dat (sml_lc (smi_list (sm_var (i := 2))) (smn_name (i := 3)) smc_yes (sm_tup (sma_cons (sm_var (i := 1)) (sma_cons (sm_var (i := 3)) sma_nil))) (by decide)))))
    (sms_ret (sm_var (i := 2))))))))⟩

def nm_Nag_at : List Str := ["self"]
theorem sc_Nag_at : FnScope nm_Nag_at ["self"] (defScope (inClass (top 47) 7)) := ⟨rfl, rfl, rfl, by decide +kernel, rfl, by decide +kernel, by decide +kernel⟩
theorem ok_Nag_at {P : Program} {w : World} {K : PySem.W.Frag} {mg : Str → Option Value} {base : Heap} (T : Tx K mg) : Okd P w K mg base 1 (He.ma K (He.ga K "Nag") "at") 1 sem_Nag_at := by
  obtain ⟨fd, F⟩ := T.c.def_ 37 rfl
  refine ⟨⟨fd, ["self"], fn_ok F sc_Nag_at body_Nag_at (fun cdv A outer s H E hr => ?_), F.bindsN fun _ _ _ _ _ _ us hl => match us, hl with | [_], _ => rfl⟩, F.kp⟩
  exact ⟨_, (pss_one (ps_ret (pe_fld (pe_fld (pv 0) rfl) rfl))),
    (sms_ret (sm_fld (c := "Round") (T.cls (i := 53) rfl) (T.noat (i := 66) rfl) (sm_fld (c := "Nag") (T.cls (i := 69) rfl) (T.noat (i := 81) rfl) (sm_var (i := 0)))))⟩

def nm_Nag_words : List Str := ["self"]
theorem sc_Nag_words : FnScope nm_Nag_words ["self"] (defScope (inClass (top 47) 8)) := ⟨rfl, rfl, rfl, by decide +kernel, rfl, by decide +kernel, by decide +kernel⟩
theorem ok_Nag_words {P : Program} {w : World} {K : PySem.W.Frag} {mg : Str → Option Value} {base : Heap} (T : Tx K mg) : Okd P w K mg base 1 (He.ma K (He.ga K "Nag") "words") 1 sem_Nag_words := by
  obtain ⟨fd, F⟩ := T.c.def_ 38 rfl
  refine ⟨⟨fd, ["self"], fn_ok F sc_Nag_words body_Nag_words (fun cdv A outer s H E hr => ?_), F.bindsN fun _ _ _ _ _ _ us hl => match us, hl with | [_], _ => rfl⟩, F.kp⟩
  exact ⟨_, (pss_one (ps_ret (pe_callTy call_list_of (by rfl) (T.free (i := 121) rfl) (by decide +kernel) (pa_cons (pe_fld (pe_fld (pv 0) rfl) rfl) pa_nil)))),
    (sms_ret (sm_own (sml_cb rl_list (sma_cons (sm_fld (c := "Round") (T.cls (i := 53) rfl) (T.noat (i := 64) rfl) (sm_fld (c := "Nag") (T.cls (i := 69) rfl) (T.noat (i := 81) rfl) (sm_var (i := 0)))) sma_nil))))⟩

def nm_Nag_sent : List Str := ["self"]
theorem sc_Nag_sent : FnScope nm_Nag_sent ["self"] (defScope (inClass (top 47) 9)) := ⟨rfl, rfl, rfl, by decide +kernel, rfl, by decide +kernel, by decide +kernel⟩
theorem ok_Nag_sent {P : Program} {w : World} {K : PySem.W.Frag} {mg : Str → Option Value} {base : Heap} (T : Tx K mg) : Okd P w K mg base 1 (He.ma K (He.ga K "Nag") "sent") 1 sem_Nag_sent := by
  obtain ⟨fd, F⟩ := T.c.def_ 39 rfl
  refine ⟨⟨fd, ["self"], fn_ok F sc_Nag_sent body_Nag_sent (fun cdv A outer s H E hr => ?_), F.bindsN fun _ _ _ _ _ _ us hl => match us, hl with | [_], _ => rfl⟩, F.kp⟩
  exact ⟨_, (pss_one (ps_ret (pe_callTy call_list_of (by rfl) (T.free (i := 121) rfl) (by decide +kernel) (pa_cons (pe_fld (pv 0) rfl) pa_nil)))),
    (sms_ret (sm_own (sml_cb rl_list (sma_cons (sm_fld (c := "Nag") (T.cls (i := 69) rfl) (T.noat (i := 83) rfl) (sm_var (i := 0))) sma_nil))))⟩

def nm_Nag_tale : List Str := ["self", "line"]
theorem sc_Nag_tale : FnScope nm_Nag_tale ["self"] (defScope (inClass (top 47) 10)) := ⟨rfl, rfl, rfl, by decide +kernel, rfl, by decide +kernel, by decide +kernel⟩
theorem ok_Nag_tale {P : Program} {w : World} {K : PySem.W.Frag} {mg : Str → Option Value} {base : Heap} (T : Tx K mg) : Okd P w K mg base 1 (He.ma K (He.ga K "Nag") "tale") 1 sem_Nag_tale := by
  obtain ⟨fd, F⟩ := T.c.def_ 40 rfl
  refine ⟨⟨fd, ["self"], fn_ok F sc_Nag_tale body_Nag_tale (fun cdv A outer s H E hr => ?_), F.bindsN fun _ _ _ _ _ _ us hl => match us, hl with | [_], _ => rfl⟩, F.kp⟩
  exact ⟨_, (pss_one (ps_ret (pe_lc (own := [("line", 1)]) (g := (gName 1)) (tt := tYes) (te := (tIf (tTest (tOp (rEqD K) (tOp (rIx K) (tVar 1) (tC (.int 0))) (tC (.str "tick")))) (tTup (tCons (tC (.str "tick")) (tCons (tCB (fun xs H Q => ∃ p ys, xs = [.ref p] ∧ (SqL K H p ys ∨ SqT K H p ys) ∧ ∀ l, H l = none → Q (.ref l) (upd H l (.lst ys))) (tCons (tOp (rIx K) (tVar 1) (tC (.int 1))) tNil)) tNil))) (tVar 1))) rfl sc_Nag_tale.nd (pi_list (pe_fld (pv 0) rfl)) (blkOk_by (own := [("line", 1)]) (N := nm_Nag_tale) (sc := defScope (inClass (top 47) 10)) (by decide +kernel)) (fun _ _ _ _ _ => (pg_name (i := 1) sc_Nag_tale.nd rfl (Or.inl rfl))) (fun _ _ _ _ _ => pts_nil) (fun _ _ _ _ _ => (pe_ifExp (pt_cmpR (op_eqD hr.units) (pe_ix ix_seq (pv 1) pe_int (fun _ _ => rfl)) pe_str (nomark _)) (pe_tup (pa_cons pe_str (pa_cons (pe_callTy call_list_of (by rfl) (T.free (i := 121) rfl) (by decide +kernel) (pa_cons (pe_ix ix_seq (pv 1) pe_int (fun _ _ => rfl)) pa_nil)) pa_nil))) (pv 1)))))),
    (sms_ret (sm_own (sml_lc (smi_list (sm_fld (c := "Nag") (T.cls (i := 69) rfl) (T.noat (i := 82) rfl) (sm_var (i := 0)))) (smn_name (i := 1)) smc_yes (sm_if (smc_test (sm_op r2_eq (sm_op r2_ix (sm_var (i := 1)) sm_int) sm_str)) (sm_tup (sma_cons sm_str (sma_cons (sm_dat (sml_cb rl_list (sma_cons (sm_op r2_ix (sm_var (i := 1)) sm_int) sma_nil))) sma_nil))) (sm_var (i := 1))) (by decide))))⟩

def nm_Enough_init : List Str := ["self", "hold", "tick", "person"]
theorem sc_Enough_init : FnScope nm_Enough_init ["self", "hold", "tick", "person"] (defScope (inClass (top 50) 0)) := ⟨rfl, rfl, rfl, by decide +kernel, rfl, by decide +kernel, by decide +kernel⟩
theorem ok_Enough_init {P : Program} {w : World} {K : PySem.W.Frag} {mg : Str → Option Value} {base : Heap} (T : Tx K mg) : Okd P w K mg base 1 (He.ma K (He.ga K "Enough") "__init__") 4 sem_Enough_init := by
  obtain ⟨fd, F⟩ := T.c.def_ 41 rfl
  refine ⟨⟨fd, ["self", "hold", "tick", "person"], fn_ok F sc_Enough_init body_Enough_init (fun cdv A outer s H E hr => ?_), F.bindsN fun _ _ _ _ _ _ us hl => match us, hl with | [_, _, _, _], _ => rfl⟩, F.kp⟩
  exact ⟨_, (pss_cons (ps_fld (pv 0) (pv 1) rfl)
    (pss_cons (ps_fld (pv 0) (pv 2) rfl)
    (pss_one (ps_fld (pv 0) (pv 3) rfl)))),
    (sms_seq (sms_fld (c := "Enough") (T.cls (i := 87) rfl) (T.noat (i := 90) rfl) (sm_var (i := 0)) (sm_var (i := 1)))
    (sms_seq (sms_fld (c := "Enough") (T.cls (i := 87) rfl) (T.noat (i := 91) rfl) (sm_var (i := 0)) (sm_var (i := 2)))
    (sms_fld (c := "Enough") (T.cls (i := 87) rfl) (T.noat (i := 92) rfl) (sm_var (i := 0)) (sm_var (i := 3)))))⟩

def nm_Wrong_init : List Str := ["self", "line"]
theorem sc_Wrong_init : FnScope nm_Wrong_init ["self", "line"] (defScope (inClass (top 52) 0)) := ⟨rfl, rfl, rfl, by decide +kernel, rfl, by decide +kernel, by decide +kernel⟩
theorem ok_Wrong_init {P : Program} {w : World} {K : PySem.W.Frag} {mg : Str → Option Value} {base : Heap} (T : Tx K mg) : Okd P w K mg base 1 (He.ma K (He.ga K "Wrong") "__init__") 2 sem_Wrong_init := by
  obtain ⟨fd, F⟩ := T.c.def_ 44 rfl
  refine ⟨⟨fd, ["self", "line"], fn_ok F sc_Wrong_init body_Wrong_init (fun cdv A outer s H E hr => ?_), F.bindsN fun _ _ _ _ _ _ us hl => match us, hl with | [_, _], _ => rfl⟩, F.kp⟩
  exact ⟨_, (pss_one (ps_fld (pv 0) (pv 1) rfl)),
    (sms_fld (c := "Wrong") (T.cls (i := 98) rfl) (T.noat (i := 101) rfl) (sm_var (i := 0)) (sm_var (i := 1)))⟩

def nm_due_all : List Str := ["chain", "words"]
theorem sc_due_all : FnScope nm_due_all ["chain", "words"] (defScope (top 54)) := ⟨rfl, rfl, rfl, by decide +kernel, rfl, by decide +kernel, by decide +kernel⟩
theorem ok_due_all {P : Program} {w : World} {K : PySem.W.Frag} {mg : Str → Option Value} {base : Heap} (T : Tx K mg) (D_check_words : Okd P w K mg base 5 (He.ga K "check_words") 2 sem_check_words) (D_due_by : Okd P w K mg base 3 (He.ga K "due_by") 2 sem_due_by) (D_pairs_of : Okd P w K mg base 1 (He.ga K "pairs_of") 1 sem_pairs_of) : Okd P w K mg base 6 (He.ga K "due_all") 2 sem_due_all := by
  obtain ⟨fd, F⟩ := T.c.def_ 46 rfl
  refine ⟨⟨fd, ["chain", "words"], fn_ok F sc_due_all body_due_all (fun cdv A outer s H E hr => ?_), F.bindsN fun _ _ _ _ _ _ us hl => match us, hl with | [_, _], _ => rfl⟩, F.kp⟩
  exact ⟨_, (pss_cons (ps_expr (pe_callD D_check_words (hr.mono (by decide)) rfl (T.glo (i := 7) rfl) (pa_cons (pv 0) (pa_cons (pv 1) pa_nil))))
    (pss_one (ps_ret (pe_callD D_pairs_of (hr.mono (by decide)) rfl (T.glo (i := 17) rfl) (pa_cons (pe_callD D_due_by (hr.mono (by decide)) rfl (T.glo (i := 13) rfl) (pa_cons (pv 0) (pa_cons (pv 1) pa_nil))) pa_nil))))),
    (sms_seq (sms_drop (sm_callF (sma_cons (sm_var (i := 0)) (sma_cons (sm_var (i := 1)) sma_nil))))
    (sms_ret (sm_own (sml_callL (sma_cons (sm_callF (sma_cons (sm_var (i := 0)) (sma_cons (sm_var (i := 1)) sma_nil))) sma_nil)))))⟩

def nm_sent_all : List Str := ["chain", "words", "hold"]
theorem sc_sent_all : FnScope nm_sent_all ["chain", "words", "hold"] (defScope (top 55)) := ⟨rfl, rfl, rfl, by decide +kernel, rfl, by decide +kernel, by decide +kernel⟩
theorem ok_sent_all {P : Program} {w : World} {K : PySem.W.Frag} {mg : Str → Option Value} {base : Heap} (T : Tx K mg) (D_check_hold : Okd P w K mg base 3 (He.ga K "check_hold") 1 sem_check_hold) (D_check_words : Okd P w K mg base 5 (He.ga K "check_words") 2 sem_check_words) (D_pairs_of : Okd P w K mg base 1 (He.ga K "pairs_of") 1 sem_pairs_of) (D_sent_by : Okd P w K mg base 5 (He.ga K "sent_by") 3 sem_sent_by) : Okd P w K mg base 6 (He.ga K "sent_all") 3 sem_sent_all := by
  obtain ⟨fd, F⟩ := T.c.def_ 47 rfl
  refine ⟨⟨fd, ["chain", "words", "hold"], fn_ok F sc_sent_all body_sent_all (fun cdv A outer s H E hr => ?_), F.bindsN fun _ _ _ _ _ _ us hl => match us, hl with | [_, _, _], _ => rfl⟩, F.kp⟩
  exact ⟨_, (pss_cons (ps_expr (pe_callD D_check_words (hr.mono (by decide)) rfl (T.glo (i := 7) rfl) (pa_cons (pv 0) (pa_cons (pv 1) pa_nil))))
    (pss_cons (ps_expr (pe_callD D_check_hold (hr.mono (by decide)) rfl (T.glo (i := 8) rfl) (pa_cons (pv 2) pa_nil)))
    (pss_one (ps_ret (pe_callD D_pairs_of (hr.mono (by decide)) rfl (T.glo (i := 17) rfl) (pa_cons (pe_callD D_sent_by (hr.mono (by decide)) rfl (T.glo (i := 16) rfl) (pa_cons (pv 0) (pa_cons (pv 1) (pa_cons (pv 2) pa_nil)))) pa_nil)))))),
    (sms_seq (sms_drop (sm_callF (sma_cons (sm_var (i := 0)) (sma_cons (sm_var (i := 1)) sma_nil))))
    (sms_seq (sms_drop (sm_callF (sma_cons (sm_var (i := 2)) sma_nil)))
    (sms_ret (sm_own (sml_callL (sma_cons (sm_callF (sma_cons (sm_var (i := 0)) (sma_cons (sm_var (i := 1)) (sma_cons (sm_var (i := 2)) sma_nil)))) sma_nil))))))⟩

def nm_apart : List Str := ["chain", "words", "hold", "sent", "due", "pair"]
theorem sc_apart : FnScope nm_apart ["chain", "words", "hold"] (defScope (top 56)) := ⟨rfl, rfl, rfl, by decide +kernel, rfl, by decide +kernel, by decide +kernel⟩
theorem ok_apart {P : Program} {w : World} {K : PySem.W.Frag} {mg : Str → Option Value} {base : Heap} (T : Tx K mg) (D_due_by : Okd P w K mg base 3 (He.ga K "due_by") 2 sem_due_by) (D_pairs_of : Okd P w K mg base 1 (He.ga K "pairs_of") 1 sem_pairs_of) (D_sent_all : Okd P w K mg base 6 (He.ga K "sent_all") 3 sem_sent_all) : Okd P w K mg base 7 (He.ga K "apart") 3 sem_apart := by
  obtain ⟨fd, F⟩ := T.c.def_ 48 rfl
  refine ⟨⟨fd, ["chain", "words", "hold"], fn_ok F sc_apart body_apart (fun cdv A outer s H E hr => ?_), F.bindsN fun _ _ _ _ _ _ us hl => match us, hl with | [_, _, _], _ => rfl⟩, F.kp⟩
  exact ⟨_, (pss_cons (ps_asg (pe_tup (pa_cons (pe_callD D_sent_all (hr.mono (by decide)) rfl (T.glo (i := 21) rfl) (pa_cons (pv 0) (pa_cons (pv 1) (pa_cons (pv 2) pa_nil)))) (pa_cons (pe_callD D_pairs_of (hr.mono (by decide)) rfl (T.glo (i := 17) rfl) (pa_cons (pe_callD D_due_by (hr.mono (by decide)) rfl (T.glo (i := 13) rfl) (pa_cons (pv 0) (pa_cons (pv 1) pa_nil))) pa_nil)) pa_nil))) (pg_tup rfl (pgs_cons (pg_name (i := 3) sc_apart.nd rfl (Or.inr rfl)) (pgs_cons (pg_name (i := 4) sc_apart.nd rfl (Or.inr rfl)) pgs_nil))))
    (pss_one (ps_ret (pe_tup (pa_cons (pe_lc (own := [("pair", 5)]) (g := (gName 5)) (tt := (tTest (tOp (rNotInD K) (tVar 5) (tVar 4)))) (te := (tVar 5)) rfl sc_apart.nd (pi_list (pv 3)) (blkOk_by (own := [("pair", 5)]) (N := nm_apart) (sc := defScope (top 56)) (by decide +kernel)) (fun _ _ _ _ _ => (pg_name (i := 5) sc_apart.nd rfl (Or.inl rfl))) (fun _ _ _ _ _ => (pts_one (pt_cmpR (op_notInD (u65 hr)) (pv 5) (pv 4) (by first | rfl | with_unfolding_all rfl)))) (fun _ _ _ _ _ => (pv 5))) (pa_cons (pe_lc (own := [("pair", 5)]) (g := (gName 5)) (tt := (tTest (tOp (rNotInD K) (tVar 5) (tVar 3)))) (te := (tVar 5)) rfl sc_apart.nd (pi_list (pv 4)) (blkOk_by (own := [("pair", 5)]) (N := nm_apart) (sc := defScope (top 56)) (by decide +kernel)) (fun _ _ _ _ _ => (pg_name (i := 5) sc_apart.nd rfl (Or.inl rfl))) (fun _ _ _ _ _ => (pts_one (pt_cmpR (op_notInD (u65 hr)) (pv 5) (pv 3) (by first | rfl | with_unfolding_all rfl)))) (fun _ _ _ _ _ => (pv 5))) pa_nil)))))),
    (sms_seq (sms_parT (n := 2) (sma_cons (sm_callF (sma_cons (sm_var (i := 0)) (sma_cons (sm_var (i := 1)) (sma_cons (sm_var (i := 2)) sma_nil)))) (sma_cons (sm_callF (sma_cons (sm_callF (sma_cons (sm_var (i := 0)) (sma_cons (sm_var (i := 1)) sma_nil))) sma_nil)) sma_nil)) (smn_cons (smn_name (i := 3)) (smn_cons (smn_name (i := 4)) smn_nil)))
    (sms_ret (sm_tup (sma_cons (sm_dat (sml_lc (smi_list (sm_var (i := 3))) (smn_name (i := 5)) (smc_test (sm_op r2_notInD (sm_var (i := 5)) (sm_var (i := 4)))) (sm_var (i := 5)) (by decide))) (sma_cons (sm_dat (sml_lc (smi_list (sm_var (i := 4))) (smn_name (i := 5)) (smc_test (sm_op r2_notInD (sm_var (i := 5)) (sm_var (i := 3)))) (sm_var (i := 5)) (by decide))) sma_nil)))))⟩

theorem ok_apart_deep {P : Program} {w : World} {K : PySem.W.Frag} {mg : Str → Option Value} {base : Heap} (T : Tx K mg) (D_due_by : Okd P w K mg base 3 (He.ga K "due_by") 2 sem_due_by) (D_pairs_of : Okd P w K mg base 1 (He.ga K "pairs_of") 1 sem_pairs_of) (D_sent_all : Okd P w K mg base 6 (He.ga K "sent_all") 3 sem_sent_all) : Okd P w K mg base 7 (He.ga K "apart") 3 sem_apart_deep := by
  obtain ⟨fd, F⟩ := T.c.def_ 48 rfl
  refine ⟨⟨fd, ["chain", "words", "hold"], fn_ok F sc_apart body_apart_deep (fun cdv A outer s H E hr => ?_), F.bindsN fun _ _ _ _ _ _ us hl => match us, hl with | [_, _, _], _ => rfl⟩, F.kp⟩
  exact ⟨_, (pss_cons (ps_asg (pe_tup (pa_cons (pe_callD D_sent_all (hr.mono (by decide)) rfl (T.glo (i := 21) rfl) (pa_cons (pv 0) (pa_cons (pv 1) (pa_cons (pv 2) pa_nil)))) (pa_cons (pe_callD D_pairs_of (hr.mono (by decide)) rfl (T.glo (i := 17) rfl) (pa_cons (pe_callD D_due_by (hr.mono (by decide)) rfl (T.glo (i := 13) rfl) (pa_cons (pv 0) (pa_cons (pv 1) pa_nil))) pa_nil)) pa_nil))) (pg_tup rfl (pgs_cons (pg_name (i := 3) sc_apart.nd rfl (Or.inr rfl)) (pgs_cons (pg_name (i := 4) sc_apart.nd rfl (Or.inr rfl)) pgs_nil))))
    (pss_one (ps_ret (pe_tup (pa_cons (pe_lc (own := [("pair", 5)]) (g := (gName 5)) (tt := (tTest (tOp (rNotInD K) (tVar 5) (tVar 4)))) (te := (tVar 5)) rfl sc_apart.nd (pi_list (pv 3)) (blkOk_by (own := [("pair", 5)]) (N := nm_apart) (sc := defScope (top 56)) (by decide +kernel)) (fun _ _ _ _ _ => (pg_name (i := 5) sc_apart.nd rfl (Or.inl rfl))) (fun _ _ _ _ _ => (pts_one (pt_cmpR (op_notInD (u65 hr)) (pv 5) (pv 4) (by first | rfl | with_unfolding_all rfl)))) (fun _ _ _ _ _ => (pv 5))) (pa_cons (pe_lc (own := [("pair", 5)]) (g := (gName 5)) (tt := (tTest (tOp (rNotInD K) (tVar 5) (tVar 3)))) (te := (tVar 5)) rfl sc_apart.nd (pi_list (pv 4)) (blkOk_by (own := [("pair", 5)]) (N := nm_apart) (sc := defScope (top 56)) (by decide +kernel)) (fun _ _ _ _ _ => (pg_name (i := 5) sc_apart.nd rfl (Or.inl rfl))) (fun _ _ _ _ _ => (pts_one (pt_cmpR (op_notInD (u65 hr)) (pv 5) (pv 3) (by first | rfl | with_unfolding_all rfl)))) (fun _ _ _ _ _ => (pv 5))) pa_nil)))))),
    (sms_seq (sms_parT (n := 2) (sma_cons (sm_callF (sma_cons (sm_var (i := 0)) (sma_cons (sm_var (i := 1)) (sma_cons (sm_var (i := 2)) sma_nil)))) (sma_cons (sm_callF (sma_cons (sm_callF (sma_cons (sm_var (i := 0)) (sma_cons (sm_var (i := 1)) sma_nil))) sma_nil)) sma_nil)) (smn_cons (smn_name (i := 3)) (smn_cons (smn_name (i := 4)) smn_nil)))
    (sms_ret (sm_tupO (sma_cons (sm_own (sml_lc (smi_list (sm_var (i := 3))) (smn_name (i := 5)) (smc_test (sm_op r2_notInD (sm_var (i := 5)) (sm_var (i := 4)))) (sm_var (i := 5)) (by decide))) (sma_cons (sm_own (sml_lc (smi_list (sm_var (i := 4))) (smn_name (i := 5)) (smc_test (sm_op r2_notInD (sm_var (i := 5)) (sm_var (i := 3)))) (sm_var (i := 5)) (by decide))) sma_nil)))))⟩

def nm_enough : List Str := ["chain", "words", "hold", "needless", "lacking", "tick", "person"]
theorem sc_enough : FnScope nm_enough ["chain", "words"] (defScope (top 57)) := ⟨rfl, rfl, rfl, by decide +kernel, rfl, by decide +kernel, by decide +kernel⟩
theorem ok_enough {P : Program} {w : World} {K : PySem.W.Frag} {mg : Str → Option Value} {base : Heap} (T : Tx K mg) (D_Enough_init : Okd P w K mg base 1 (He.ma K (He.ga K "Enough") "__init__") 4 sem_Enough_init) (D_apart : Okd P w K mg base 7 (He.ga K "apart") 3 sem_apart) (D_check_words : Okd P w K mg base 5 (He.ga K "check_words") 2 sem_check_words) (D_least_hold : Okd P w K mg base 5 (He.ga K "least_hold") 2 sem_least_hold) : Okd P w K mg base 8 (He.ga K "enough") 2 sem_enough := by
  obtain ⟨fd, F⟩ := T.c.def_ 49 rfl
  refine ⟨⟨fd, ["chain", "words"], fn_ok F sc_enough body_enough (fun cdv A outer s H E hr => ?_), F.bindsN fun _ _ _ _ _ _ us hl => match us, hl with | [_, _], _ => rfl⟩, F.kp⟩
  exact ⟨_, (pss_cons (ps_expr (pe_callD D_check_words (hr.mono (by decide)) rfl (T.glo (i := 7) rfl) (pa_cons (pv 0) (pa_cons (pv 1) pa_nil))))
    (pss_cons (ps_set (i := 2) sc_enough.nd rfl (Or.inl rfl) (pe_callD D_least_hold (hr.mono (by decide)) rfl (T.glo (i := 18) rfl) (pa_cons (pv 0) (pa_cons (pv 1) pa_nil))))
    (pss_cons (ps_if (pt_cmpR (op_eqD hr.units) (pv 2) pe_int (nomark _)) (pss_one (ps_ret (pe_makeD (T.mkr (i := 93) rfl) D_Enough_init (hr.mono (by decide)) rfl (T.glo (i := 86) rfl) (pa_cons pe_int (pa_cons pe_non (pa_cons pe_non pa_nil)))))) pss_nil)
    (pss_cons (ps_asg (pe_callD D_apart (hr.mono (by decide)) rfl (T.glo (i := 22) rfl) (pa_cons (pv 0) (pa_cons (pv 1) (pa_cons (pe_op op_sub (pv 2) pe_int) pa_nil)))) (pg_tup rfl (pgs_cons (pg_name (i := 3) sc_enough.nd rfl (Or.inl rfl)) (pgs_cons (pg_name (i := 4) sc_enough.nd rfl (Or.inl rfl)) pgs_nil))))
    (pss_cons (ps_asg (pe_ix ix_seq (pe_op op_cat (pv 3) (pv 4)) pe_int (fun _ _ => rfl)) (pg_tup rfl (pgs_cons (pg_name (i := 5) sc_enough.nd rfl (Or.inl rfl)) (pgs_cons (pg_name (i := 6) sc_enough.nd rfl (Or.inl rfl)) pgs_nil))))
    (pss_one (ps_ret (pe_makeD (T.mkr (i := 93) rfl) D_Enough_init (hr.mono (by decide)) rfl (T.glo (i := 86) rfl) (pa_cons (pv 2) (pa_cons (pv 5) (pa_cons (pv 6) pa_nil))))))))))),
    (sms_seq (sms_drop (sm_callF (sma_cons (sm_var (i := 0)) (sma_cons (sm_var (i := 1)) sma_nil))))
    (sms_seq (sms_asg (sm_callF (sma_cons (sm_var (i := 0)) (sma_cons (sm_var (i := 1)) sma_nil))) (smn_name (i := 2)))
    (sms_seq (sms_if (smc_test (sm_op r2_eq (sm_var (i := 2)) sm_int)) (sms_ret (sm_make (c := "Enough") (sma_cons sm_int (sma_cons sm_non (sma_cons sm_non sma_nil))))) sms_next)
    (sms_seq (sms_asg (sm_callF (sma_cons (sm_var (i := 0)) (sma_cons (sm_var (i := 1)) (sma_cons (sm_op r2_int (sm_var (i := 2)) sm_int) sma_nil)))) (smn_tup (smn_cons (smn_name (i := 3)) (smn_cons (smn_name (i := 4)) smn_nil))))
    (sms_seq (sms_asg (sm_op r2_ix (sm_dat (sml_cat (sm_var (i := 3)) (sm_var (i := 4)))) sm_int) (smn_tup (smn_cons (smn_name (i := 5)) (smn_cons (smn_name (i := 6)) smn_nil))))
    (sms_ret (sm_make (c := "Enough") (sma_cons (sm_var (i := 2)) (sma_cons (sm_var (i := 5)) (sma_cons (sm_var (i := 6)) sma_nil))))))))))⟩

def nm_judged : List Str := ["chain", "hold", "tale", "wrong"]
theorem sc_judged : FnScope nm_judged ["chain", "hold", "tale"] (defScope (top 58)) := ⟨rfl, rfl, rfl, by decide +kernel, rfl, by decide +kernel, by decide +kernel⟩
theorem ok_judged {P : Program} {w : World} {K : PySem.W.Frag} {mg : Str → Option Value} {base : Heap} (T : Tx K mg) (D_Wrong_init : Okd P w K mg base 1 (He.ma K (He.ga K "Wrong") "__init__") 2 sem_Wrong_init) (D_check_chain : Okd P w K mg base 4 (He.ga K "check_chain") 1 sem_check_chain) (D_check_hold : Okd P w K mg base 3 (He.ga K "check_hold") 1 sem_check_hold) (D_check_tale : Okd P w K mg base 3 (He.ga K "check_tale") 1 sem_check_tale) (D_first_wrong : Okd P w K mg base 6 (He.ga K "first_wrong") 3 sem_first_wrong) : Okd P w K mg base 7 (He.ga K "judged") 3 sem_judged := by
  obtain ⟨fd, F⟩ := T.c.def_ 50 rfl
  refine ⟨⟨fd, ["chain", "hold", "tale"], fn_ok F sc_judged body_judged (fun cdv A outer s H E hr => ?_), F.bindsN fun _ _ _ _ _ _ us hl => match us, hl with | [_, _, _], _ => rfl⟩, F.kp⟩
  exact ⟨_, (pss_cons (ps_expr (pe_callD D_check_chain (hr.mono (by decide)) rfl (T.glo (i := 5) rfl) (pa_cons (pv 0) pa_nil)))
    (pss_cons (ps_expr (pe_callD D_check_hold (hr.mono (by decide)) rfl (T.glo (i := 8) rfl) (pa_cons (pv 1) pa_nil)))
    (pss_cons (ps_expr (pe_callD D_check_tale (hr.mono (by decide)) rfl (T.glo (i := 10) rfl) (pa_cons (pv 2) pa_nil)))
    (pss_cons (ps_set (i := 3) sc_judged.nd rfl (Or.inl rfl) (pe_callD D_first_wrong (hr.mono (by decide)) rfl (T.glo (i := 19) rfl) (pa_cons (pv 0) (pa_cons (pv 1) (pa_cons (pv 2) pa_nil)))))
    (pss_one (ps_ret (pe_ifExp (pt_cmpR op_lt (pv 3) pe_int (nomark _)) (pe_makeN (mk0_of (b := true) T.k (by decide +kernel)) rfl (T.glo (i := 94) rfl)) (pe_makeD (T.mkr (i := 102) rfl) D_Wrong_init (hr.mono (by decide)) rfl (T.glo (i := 97) rfl) (pa_cons (pv 3) pa_nil))))))))),
    (sms_seq (sms_drop (sm_callF (sma_cons (sm_var (i := 0)) sma_nil)))
    (sms_seq (sms_drop (sm_callF (sma_cons (sm_var (i := 1)) sma_nil)))
    (sms_seq (sms_drop (sm_callF (sma_cons (sm_var (i := 2)) sma_nil)))
    (sms_seq (sms_asg (sm_callF (sma_cons (sm_var (i := 0)) (sma_cons (sm_var (i := 1)) (sma_cons (sm_var (i := 2)) sma_nil)))) (smn_name (i := 3)))
    (sms_ret (sm_if (smc_test (sm_op r2_bl (sm_var (i := 3)) sm_int)) sm_makeN (sm_make (c := "Wrong") (sma_cons (sm_var (i := 3)) sma_nil))))))))⟩

def nm__law_number : List Str := ["_law_cell", "_law_at", "_law_whole", "_law_small", "_law_mixed", "_law_more"]
theorem sc__law_number : FnScope nm__law_number ["_law_cell", "_law_at", "_law_whole"] (defScope (top 60)) := ⟨rfl, rfl, rfl, by decide +kernel, rfl, by decide +kernel, by decide +kernel⟩
theorem ok__law_number {P : Program} {w : World} {K : PySem.W.Frag} {mg : Str → Option Value} {base : Heap} (T : Tx K mg) : Okd P w K mg base 1 (He.ga K "_law_number") 3 sem__law_number := by
  obtain ⟨fd, F⟩ := T.c.def_ 51 rfl
  refine ⟨⟨fd, ["_law_cell", "_law_at", "_law_whole"], fn_ok F sc__law_number body__law_number (fun cdv A outer s H E hr => ?_), F.bindsN fun _ _ _ _ _ _ us hl => match us, hl with | [_, _, _], _ => rfl⟩, F.kp⟩
  exact ⟨_, (pss_cons (ps_if (pt_cmpR op_ge (pv 0) (pe_op op_pow pe_int pe_int) (nomark _)) (pss_one (ps_ret (pv 0))) pss_nil)
    (pss_cons (ps_set (i := 3) sc__law_number.nd rfl (Or.inl rfl) (pe_op op_mod (pv 0) pe_int))
    (pss_cons (ps_set (i := 4) sc__law_number.nd rfl (Or.inl rfl) (pe_op op_mod (pe_op op_add (pe_op op_mulW (pe_op op_add (pv 3) (pe_op op_mulW pe_int (pv 1))) pe_int) (pe_op op_mod (pv 2) pe_int)) pe_int))
    (pss_cons (ps_set (i := 5) sc__law_number.nd rfl (Or.inl rfl) (pe_op op_mulW (pe_op op_mulW (pv 4) (pe_op op_add (pe_op op_add (pv 4) (pe_op op_mulW pe_int (pv 1))) pe_int)) (pe_op op_add (pe_op op_add (pv 4) (pv 3)) pe_int)))
    (pss_one (ps_ret (pe_op op_fdiv (pe_op op_mulW (pv 5) (pe_op op_add (pv 5) pe_int)) pe_int))))))),
    (sms_seq (sms_if (smc_test (sm_op r2_bl (sm_var (i := 0)) (sm_op (r2_intC fun _ _ h => h) sm_int sm_int))) (sms_ret (sm_var (i := 0))) sms_next)
    (sms_seq (sms_asg (sm_op (r2_intC fun _ _ h => h) (sm_var (i := 0)) sm_int) (smn_name (i := 3)))
    (sms_seq (sms_asg (sm_op (r2_intC fun _ _ h => h) (sm_op r2_int (sm_op (r2_intC fun _ _ => mulW_ok) (sm_op r2_int (sm_var (i := 3)) (sm_op (r2_intC fun _ _ => mulW_ok) sm_int (sm_var (i := 1)))) sm_int) (sm_op (r2_intC fun _ _ h => h) (sm_var (i := 2)) sm_int)) sm_int) (smn_name (i := 4)))
    (sms_seq (sms_asg (sm_op (r2_intC fun _ _ => mulW_ok) (sm_op (r2_intC fun _ _ => mulW_ok) (sm_var (i := 4)) (sm_op r2_int (sm_op r2_int (sm_var (i := 4)) (sm_op (r2_intC fun _ _ => mulW_ok) sm_int (sm_var (i := 1)))) sm_int)) (sm_op r2_int (sm_op r2_int (sm_var (i := 4)) (sm_var (i := 3))) sm_int)) (smn_name (i := 5)))
    (sms_ret (sm_op (r2_intC fun _ _ h => h) (sm_op (r2_intC fun _ _ => mulW_ok) (sm_var (i := 5)) (sm_op r2_int (sm_var (i := 5)) sm_int)) sm_int))))))⟩

def nm__law_chain : List Str := ["_law_script", "_law_by", "_law_cells", "_law_whole", "_law_found", "_law_left", "_law_shift", "_law_wide", "_law_at", "_law_number_here", "_law_many"]
theorem sc__law_chain : FnScope nm__law_chain ["_law_script", "_law_by"] (defScope (top 61)) := ⟨rfl, rfl, rfl, by decide +kernel, rfl, by decide +kernel, by decide +kernel⟩
theorem ok__law_chain {P : Program} {w : World} {K : PySem.W.Frag} {mg : Str → Option Value} {base : Heap} (T : Tx K mg) (D__law_number : Okd P w K mg base 1 (He.ga K "_law_number") 3 sem__law_number) : Okd P w K mg base 2 (He.ga K "_law_chain") 2 sem__law_chain := by
  obtain ⟨fd, F⟩ := T.c.def_ 52 rfl
  refine ⟨⟨fd, ["_law_script", "_law_by"], fn_ok F sc__law_chain body__law_chain (fun cdv A outer s H E hr => ?_), F.bindsN fun _ _ _ _ _ _ us hl => match us, hl with | [_, _], _ => rfl⟩, F.kp⟩
  exact ⟨_, (pss_cons (ps_set (i := 2) sc__law_chain.nd rfl (Or.inl rfl) (pe_ifExp (pt_cmpR (op_neD hr.units) (pv 0) (pe_lst pa_nil) (nomark _)) (pe_slice sl_list (pv 0) po_none (po_some pe_int)) (pe_lst (pa_cons pe_int pa_nil))))
    (pss_cons (ps_par3 (by rfl) sc__law_chain.nd rfl rfl rfl (by decide) (by decide) (by decide) rfl rfl rfl (pa_cons (pe_op op_add (pe_callB (cr_sum rfl) (by rfl) (T.free (i := 127) rfl) (by decide +kernel) (pa_cons (pv 2) pa_nil)) (pv 1)) (pa_cons (pe_lst pa_nil) (pa_cons (pe_lst (pa_cons pe_int (pa_cons pe_int (pa_cons pe_int (pa_cons pe_int (pa_cons pe_int (pa_cons pe_int (pa_cons pe_int (pa_cons pe_int pa_nil))))))))) pa_nil))) (by rfl))
    (pss_cons (ps_par (by rfl) sc__law_chain.nd rfl rfl (by decide) rfl rfl (pa_cons (pe_op op_mod (pe_op op_fdiv (pe_callD D__law_number (hr.mono (by decide)) rfl (T.glo (i := 25) rfl) (pa_cons (pv 3) (pa_cons (pe_op op_add (pv 1) pe_int) (pa_cons pe_int pa_nil)))) pe_int) pe_int) (pa_cons (pe_ix ix_seq (pe_tup (pa_cons pe_int (pa_cons pe_int (pa_cons pe_int pa_nil)))) (pe_op op_mod (pe_op op_fdiv (pe_callD D__law_number (hr.mono (by decide)) rfl (T.glo (i := 25) rfl) (pa_cons (pv 3) (pa_cons (pe_op op_add (pv 1) pe_int) (pa_cons pe_int pa_nil)))) pe_int) pe_int) (fun _ _ => rfl)) pa_nil)) (by rfl))
    (pss_cons (ps_set (i := 5) sc__law_chain.nd rfl (Or.inl rfl) (pe_op op_cat (pe_slice sl_list (pv 5) (po_some (pv 6)) po_none) (pe_slice sl_list (pv 5) po_none (po_some (pv 6)))))
    (pss_cons (ps_for PassesOwn.never rfl (pi_range1 rfl (T.free (i := 124) rfl) (pa_cons (pe_op op_add pe_int (pe_op op_mod (pe_op op_fdiv (pe_callD D__law_number (hr.mono (by decide)) rfl (T.glo (i := 25) rfl) (pa_cons (pv 3) (pa_cons (pe_op op_add (pv 1) pe_int) (pa_cons pe_int pa_nil)))) pe_int) pe_int)) pa_nil)) (pg_name (i := 8) sc__law_chain.nd rfl (Or.inl rfl)) (pss_cons (ps_set (i := 9) sc__law_chain.nd rfl (Or.inl rfl) (pe_op op_fdiv (pe_callD D__law_number (hr.mono (by decide)) rfl (T.glo (i := 25) rfl) (pa_cons (pe_op op_add (pe_ix ix_seq (pv 2) (pe_op op_mod (pe_op op_add (pv 8) (pv 1)) (pe_callB call_len_seq (by rfl) (T.free (i := 120) rfl) (by decide +kernel) (pa_cons (pv 2) pa_nil))) (fun _ _ => rfl)) (pe_op op_mul pe_int (pv 8))) (pa_cons (pe_op op_add (pv 8) (pv 1)) (pa_cons (pv 3) pa_nil)))) pe_int))
    (pss_cons (ps_set (i := 10) sc__law_chain.nd rfl (Or.inl rfl) (pe_ifExp (pt_cmpR op_lt (pv 8) pe_int (nomark _)) (pe_ix ix_seq (pe_tup (pa_cons pe_int (pa_cons pe_int (pa_cons pe_int (pa_cons pe_int pa_nil))))) (pe_op op_mod (pv 9) pe_int) (fun _ _ => rfl)) pe_int))
    (pss_cons (ps_expr (pe_bm PySem.F.plainAttrs_list PySem.F.slot_list_append PySem.F.type_list_append mt_append (pv 4) (pa_cons (pe_tup (pa_cons (pe_callB cr_sortedI (by rfl) (T.free (i := 126) rfl) (by decide +kernel) (pa_cons (pe_slice sl_list (pv 5) po_none (po_some (pv 10))) pa_nil)) (pa_cons (pe_op op_add pe_int (pe_op op_mod (pe_op op_fdiv (pv 9) pe_int) (pv 7))) (pa_cons (pe_op op_add pe_int (pe_op op_mod (pe_op op_fdiv (pv 9) pe_int) (pe_callB (call_min2 rfl) (by rfl) (T.free (i := 123) rfl) (by decide +kernel) (pa_cons pe_int (pa_cons (pv 7) pa_nil))))) pa_nil)))) pa_nil)))
    (pss_one (ps_set (i := 5) sc__law_chain.nd rfl (Or.inl rfl) (pe_slice sl_list (pv 5) (po_some (pv 10)) po_none)))))))
    (pss_one (ps_ret (pv 4)))))))),
    (sms_seq (sms_asg (sm_if (smc_test (sm_op r2_ne (sm_var (i := 0)) (sm_dat (sml_lst sma_nil)))) (sm_dat (sml_sl (sm_var (i := 0)) smo_no (smo_part sm_int))) (sm_dat (sml_lst (sma_cons sm_int sma_nil)))) (smn_name (i := 2)))
    (sms_seq (sms_par3 (i := 3) (j := 4) (l := 5) (sma_cons (sm_op r2_int (sm_cb rc_sum (sma_cons (sm_var (i := 2)) sma_nil)) (sm_var (i := 1))) (sma_cons (sm_own (sml_lst sma_nil)) (sma_cons (sm_dat (sml_lst (sma_cons sm_int (sma_cons sm_int (sma_cons sm_int (sma_cons sm_int (sma_cons sm_int (sma_cons sm_int (sma_cons sm_int (sma_cons sm_int sma_nil)))))))))) sma_nil))))
    (sms_seq (sms_par (i := 6) (j := 7) (sma_cons (sm_op (r2_intC fun _ _ h => h) (sm_op (r2_intC fun _ _ h => h) (sm_callF (sma_cons (sm_var (i := 3)) (sma_cons (sm_op r2_int (sm_var (i := 1)) sm_int) (sma_cons sm_int sma_nil)))) sm_int) sm_int) (sma_cons (sm_op r2_ix (sm_tup (sma_cons sm_int (sma_cons sm_int (sma_cons sm_int sma_nil)))) (sm_op (r2_intC fun _ _ h => h) (sm_op (r2_intC fun _ _ h => h) (sm_callF (sma_cons (sm_var (i := 3)) (sma_cons (sm_op r2_int (sm_var (i := 1)) sm_int) (sma_cons sm_int sma_nil)))) sm_int) sm_int)) sma_nil)))
    (sms_seq (sms_asg (sm_dat (sml_cat (sm_dat (sml_sl (sm_var (i := 5)) (smo_part (sm_var (i := 6))) smo_no)) (sm_dat (sml_sl (sm_var (i := 5)) smo_no (smo_part (sm_var (i := 6))))))) (smn_name (i := 5)))
    (sms_seq (sms_for (smi_rng1 (sma_cons (sm_op r2_int sm_int (sm_op (r2_intC fun _ _ h => h) (sm_op (r2_intC fun _ _ h => h) (sm_callF (sma_cons (sm_var (i := 3)) (sma_cons (sm_op r2_int (sm_var (i := 1)) sm_int) (sma_cons sm_int sma_nil)))) sm_int) sm_int)) sma_nil)) (smn_name (i := 8)) (sms_seq (sms_asg (sm_op (r2_intC fun _ _ h => h) (sm_callF (sma_cons (sm_op r2_int (sm_op r2_ix (sm_var (i := 2)) (sm_op (r2_intC fun _ _ h => h) (sm_op r2_int (sm_var (i := 8)) (sm_var (i := 1))) (sm_cb rc_len (sma_cons (sm_var (i := 2)) sma_nil)))) (sm_op (r2_intC fun _ _ => mulN_ok) sm_int (sm_var (i := 8)))) (sma_cons (sm_op r2_int (sm_var (i := 8)) (sm_var (i := 1))) (sma_cons (sm_var (i := 3)) sma_nil)))) sm_int) (smn_name (i := 9)))
    (sms_seq (sms_asg (sm_if (smc_test (sm_op r2_bl (sm_var (i := 8)) sm_int)) (sm_op r2_ix (sm_tup (sma_cons sm_int (sma_cons sm_int (sma_cons sm_int (sma_cons sm_int sma_nil))))) (sm_op (r2_intC fun _ _ h => h) (sm_var (i := 9)) sm_int)) sm_int) (smn_name (i := 10)))
    (sms_seq (sms_drop (sm_mut mu_app (sm_var (i := 4)) (sma_cons (sm_tup (sma_cons (sm_dat (sml_cb rl_sorted (sma_cons (sm_dat (sml_sl (sm_var (i := 5)) smo_no (smo_part (sm_var (i := 10))))) sma_nil))) (sma_cons (sm_op r2_int sm_int (sm_op (r2_intC fun _ _ h => h) (sm_op (r2_intC fun _ _ h => h) (sm_var (i := 9)) sm_int) (sm_var (i := 7)))) (sma_cons (sm_op r2_int sm_int (sm_op (r2_intC fun _ _ h => h) (sm_op (r2_intC fun _ _ h => h) (sm_var (i := 9)) sm_int) (sm_cb rc_min2 (sma_cons sm_int (sma_cons (sm_var (i := 7)) sma_nil))))) sma_nil)))) sma_nil)))
    (sms_asg (sm_dat (sml_sl (sm_var (i := 5)) (smo_part (sm_var (i := 10))) smo_no)) (smn_name (i := 5)))))))
    (sms_ret (sm_var (i := 4))))))))⟩

def nm__law_words : List Str := ["_law_script", "_law_by", "_law_chain_here", "_law_cells", "_law_whole", "_law_found", "_law_everybody", "_law_people", "_law_every", "_law_times", "_law_kind", "_law_wide", "_law_at", "_law_number_here", "_law_person", "_law_said", "_law_heard"]
theorem sc__law_words : FnScope nm__law_words ["_law_script", "_law_by", "_law_chain_here"] (defScope (top 62)) := ⟨rfl, rfl, rfl, by decide +kernel, rfl, by decide +kernel, by decide +kernel⟩
theorem ok__law_words {P : Program} {w : World} {K : PySem.W.Frag} {mg : Str → Option Value} {base : Heap} (T : Tx K mg) (D__law_number : Okd P w K mg base 1 (He.ga K "_law_number") 3 sem__law_number) : Okd P w K mg base 2 (He.ga K "_law_words") 3 sem__law_words := by
  obtain ⟨fd, F⟩ := T.c.def_ 53 rfl
  refine ⟨⟨fd, ["_law_script", "_law_by", "_law_chain_here"], fn_ok F sc__law_words body__law_words (fun cdv A outer s H E hr => ?_), F.bindsN fun _ _ _ _ _ _ us hl => match us, hl with | [_, _, _], _ => rfl⟩, F.kp⟩
  exact ⟨_, (pss_cons (ps_set (i := 3) sc__law_words.nd rfl (Or.inl rfl) (pe_ifExp (pt_cmpR (op_neD hr.units) (pv 0) (pe_lst pa_nil) (nomark _)) (pe_slice sl_list (pv 0) po_none (po_some pe_int)) (pe_lst (pa_cons pe_int pa_nil))))
    (pss_cons (ps_par3 (by rfl) sc__law_words.nd rfl rfl rfl (by decide) (by decide) (by decide) rfl rfl rfl (pa_cons (pe_op op_add (pe_callB (cr_sum rfl) (by rfl) (T.free (i := 127) rfl) (by decide +kernel) (pa_cons (pv 3) pa_nil)) (pv 1)) (pa_cons (pe_lst pa_nil) (pa_cons (pe_lst pa_nil) pa_nil))) (by rfl))
    (pss_cons (ps_for PassesOwn.never rfl (pi_list (pv 2)) (pg_tup rfl (pgs_cons (pg_name (i := 7) sc__law_words.nd rfl (Or.inl rfl)) (pgs_cons (pg_name (i := 8) sc__law_words.nd rfl (Or.inl rfl)) (pgs_cons (pg_name (i := 9) sc__law_words.nd rfl (Or.inl rfl)) pgs_nil)))) (pss_one (ps_set (i := 6) sc__law_words.nd rfl (Or.inl rfl) (pe_op op_cat (pv 6) (pv 7)))))
    (pss_cons (ps_par (by rfl) sc__law_words.nd rfl rfl (by decide) rfl rfl (pa_cons (pe_op op_mod (pe_op op_fdiv (pe_callD D__law_number (hr.mono (by decide)) rfl (T.glo (i := 25) rfl) (pa_cons (pv 4) (pa_cons (pe_op op_add (pv 1) pe_int) (pa_cons pe_int pa_nil)))) pe_int) pe_int) (pa_cons (pe_ix ix_seq (pe_tup (pa_cons pe_int (pa_cons pe_int (pa_cons pe_int pa_nil)))) (pe_op op_mod (pe_op op_fdiv (pe_callD D__law_number (hr.mono (by decide)) rfl (T.glo (i := 25) rfl) (pa_cons (pv 4) (pa_cons (pe_op op_add (pv 1) pe_int) (pa_cons pe_int pa_nil)))) pe_int) pe_int) (fun _ _ => rfl)) pa_nil)) (by rfl))
    (pss_cons (ps_for PassesOwn.never rfl (pi_range1 rfl (T.free (i := 124) rfl) (pa_cons (pe_op op_mod (pe_op op_fdiv (pe_callD D__law_number (hr.mono (by decide)) rfl (T.glo (i := 25) rfl) (pa_cons (pv 4) (pa_cons (pe_op op_add (pv 1) pe_int) (pa_cons pe_int pa_nil)))) pe_int) pe_int) pa_nil)) (pg_name (i := 12) sc__law_words.nd rfl (Or.inl rfl)) (pss_cons (ps_set (i := 13) sc__law_words.nd rfl (Or.inl rfl) (pe_op op_fdiv (pe_callD D__law_number (hr.mono (by decide)) rfl (T.glo (i := 25) rfl) (pa_cons (pe_op op_add (pe_ix ix_seq (pv 3) (pe_op op_mod (pe_op op_add (pv 12) (pv 1)) (pe_callB call_len_seq (by rfl) (T.free (i := 120) rfl) (by decide +kernel) (pa_cons (pv 3) pa_nil))) (fun _ _ => rfl)) (pe_op op_mul pe_int (pv 12))) (pa_cons (pe_op op_add (pv 12) (pv 1)) (pa_cons (pv 4) pa_nil)))) pe_int))
    (pss_cons (ps_set (i := 14) sc__law_words.nd rfl (Or.inl rfl) (pe_ix ix_seq (pv 6) (pe_op op_mod (pe_op op_fdiv (pv 13) pe_int) (pe_callB call_len_seq (by rfl) (T.free (i := 120) rfl) (by decide +kernel) (pa_cons (pv 6) pa_nil))) (fun _ _ => rfl)))
    (pss_cons (ps_set (i := 15) sc__law_words.nd rfl (Or.inl rfl) (pe_op op_mod (pe_op op_fdiv (pv 13) pe_int) (pv 11)))
    (pss_cons (ps_set (i := 16) sc__law_words.nd rfl (Or.inl rfl) (pe_callB (call_min2 rfl) (by rfl) (T.free (i := 123) rfl) (by decide +kernel) (pa_cons pe_int (pa_cons (pe_op op_add (pv 15) (pe_ix ix_seq (pe_tup (pa_cons pe_int (pa_cons (pe_op op_mod (pe_op op_fdiv (pv 13) pe_int) pe_int) (pa_cons (pe_op op_mod (pe_op op_fdiv (pv 13) pe_int) pe_int) pa_nil)))) (pv 10) (fun _ _ => rfl))) pa_nil))))
    (pss_one (ps_if (pt_cmpR op_lt (pe_op op_mod (pv 13) pe_int) pe_int (nomark _)) (pss_one (ps_expr (pe_bm PySem.F.plainAttrs_list PySem.F.slot_list_append PySem.F.type_list_append mt_append (pv 5) (pa_cons (pe_tup (pa_cons pe_str (pa_cons (pv 14) (pa_cons (pv 15) (pa_cons (pv 16) pa_nil))))) pa_nil)))) (pss_one (ps_if (pt_cmpR op_lt (pe_op op_mod (pv 13) pe_int) pe_int (nomark _)) (pss_one (ps_expr (pe_bm PySem.F.plainAttrs_list PySem.F.slot_list_append PySem.F.type_list_append mt_append (pv 5) (pa_cons (pe_tup (pa_cons pe_str (pa_cons (pv 14) (pa_cons (pv 15) (pa_cons (pv 16) (pa_cons (pe_op op_add pe_int (pe_op op_mod (pe_op op_fdiv (pv 13) pe_int) (pe_ix ix_seq (pe_tup (pa_cons pe_int (pa_cons pe_int pa_nil))) (pe_op op_mod (pe_op op_fdiv (pv 13) pe_int) pe_int) (fun _ _ => rfl)))) pa_nil)))))) pa_nil)))) (pss_one (ps_expr (pe_bm PySem.F.plainAttrs_list PySem.F.slot_list_append PySem.F.type_list_append mt_append (pv 5) (pa_cons (pe_tup (pa_cons pe_str (pa_cons (pv 14) (pa_cons (pe_op op_sub pe_int (pe_op op_fdiv (pv 15) pe_int)) (pa_cons (pe_callB (call_max2 rfl) (by rfl) (T.free (i := 122) rfl) (by decide +kernel) (pa_cons (pv 16) (pa_cons (pe_op op_sub pe_int (pe_op op_fdiv (pv 15) pe_int)) pa_nil))) pa_nil))))) pa_nil)))))))))))))
    (pss_one (ps_ret (pv 5)))))))),
    (sms_seq (sms_asg (sm_if (smc_test (sm_op r2_ne (sm_var (i := 0)) (sm_dat (sml_lst sma_nil)))) (sm_dat (sml_sl (sm_var (i := 0)) smo_no (smo_part sm_int))) (sm_dat (sml_lst (sma_cons sm_int sma_nil)))) (smn_name (i := 3)))
    (sms_seq (sms_par3 (i := 4) (j := 5) (l := 6) (sma_cons (sm_op r2_int (sm_cb rc_sum (sma_cons (sm_var (i := 3)) sma_nil)) (sm_var (i := 1))) (sma_cons (sm_own (sml_lst sma_nil)) (sma_cons (sm_dat (sml_lst sma_nil)) sma_nil))))
    (sms_seq (sms_for (smi_list (sm_var (i := 2))) (smn_tup (smn_cons (smn_name (i := 7)) (smn_cons (smn_name (i := 8)) (smn_cons (smn_name (i := 9)) smn_nil)))) (sms_asg (sm_dat (sml_cat (sm_var (i := 6)) (sm_var (i := 7)))) (smn_name (i := 6))))
    (sms_seq (sms_par (i := 10) (j := 11) (sma_cons (sm_op (r2_intC fun _ _ h => h) (sm_op (r2_intC fun _ _ h => h) (sm_callF (sma_cons (sm_var (i := 4)) (sma_cons (sm_op r2_int (sm_var (i := 1)) sm_int) (sma_cons sm_int sma_nil)))) sm_int) sm_int) (sma_cons (sm_op r2_ix (sm_tup (sma_cons sm_int (sma_cons sm_int (sma_cons sm_int sma_nil)))) (sm_op (r2_intC fun _ _ h => h) (sm_op (r2_intC fun _ _ h => h) (sm_callF (sma_cons (sm_var (i := 4)) (sma_cons (sm_op r2_int (sm_var (i := 1)) sm_int) (sma_cons sm_int sma_nil)))) sm_int) sm_int)) sma_nil)))
    (sms_seq (sms_for (smi_rng1 (sma_cons (sm_op (r2_intC fun _ _ h => h) (sm_op (r2_intC fun _ _ h => h) (sm_callF (sma_cons (sm_var (i := 4)) (sma_cons (sm_op r2_int (sm_var (i := 1)) sm_int) (sma_cons sm_int sma_nil)))) sm_int) sm_int) sma_nil)) (smn_name (i := 12)) (sms_seq (sms_asg (sm_op (r2_intC fun _ _ h => h) (sm_callF (sma_cons (sm_op r2_int (sm_op r2_ix (sm_var (i := 3)) (sm_op (r2_intC fun _ _ h => h) (sm_op r2_int (sm_var (i := 12)) (sm_var (i := 1))) (sm_cb rc_len (sma_cons (sm_var (i := 3)) sma_nil)))) (sm_op (r2_intC fun _ _ => mulN_ok) sm_int (sm_var (i := 12)))) (sma_cons (sm_op r2_int (sm_var (i := 12)) (sm_var (i := 1))) (sma_cons (sm_var (i := 4)) sma_nil)))) sm_int) (smn_name (i := 13)))
    (sms_seq (sms_asg (sm_op r2_ix (sm_var (i := 6)) (sm_op (r2_intC fun _ _ h => h) (sm_op (r2_intC fun _ _ h => h) (sm_var (i := 13)) sm_int) (sm_cb rc_len (sma_cons (sm_var (i := 6)) sma_nil)))) (smn_name (i := 14)))
    (sms_seq (sms_asg (sm_op (r2_intC fun _ _ h => h) (sm_op (r2_intC fun _ _ h => h) (sm_var (i := 13)) sm_int) (sm_var (i := 11))) (smn_name (i := 15)))
    (sms_seq (sms_asg (sm_cb rc_min2 (sma_cons sm_int (sma_cons (sm_op r2_int (sm_var (i := 15)) (sm_op r2_ix (sm_tup (sma_cons sm_int (sma_cons (sm_op (r2_intC fun _ _ h => h) (sm_op (r2_intC fun _ _ h => h) (sm_var (i := 13)) sm_int) sm_int) (sma_cons (sm_op (r2_intC fun _ _ h => h) (sm_op (r2_intC fun _ _ h => h) (sm_var (i := 13)) sm_int) sm_int) sma_nil)))) (sm_var (i := 10)))) sma_nil))) (smn_name (i := 16)))
    (sms_if (smc_test (sm_op r2_bl (sm_op (r2_intC fun _ _ h => h) (sm_var (i := 13)) sm_int) sm_int)) (sms_drop (sm_mut mu_app (sm_var (i := 5)) (sma_cons (sm_tup (sma_cons sm_str (sma_cons (sm_var (i := 14)) (sma_cons (sm_var (i := 15)) (sma_cons (sm_var (i := 16)) sma_nil))))) sma_nil))) (sms_if (smc_test (sm_op r2_bl (sm_op (r2_intC fun _ _ h => h) (sm_var (i := 13)) sm_int) sm_int)) (sms_drop (sm_mut mu_app (sm_var (i := 5)) (sma_cons (sm_tup (sma_cons sm_str (sma_cons (sm_var (i := 14)) (sma_cons (sm_var (i := 15)) (sma_cons (sm_var (i := 16)) (sma_cons (sm_op r2_int sm_int (sm_op (r2_intC fun _ _ h => h) (sm_op (r2_intC fun _ _ h => h) (sm_var (i := 13)) sm_int) (sm_op r2_ix (sm_tup (sma_cons sm_int (sma_cons sm_int sma_nil))) (sm_op (r2_intC fun _ _ h => h) (sm_op (r2_intC fun _ _ h => h) (sm_var (i := 13)) sm_int) sm_int)))) sma_nil)))))) sma_nil))) (sms_drop (sm_mut mu_app (sm_var (i := 5)) (sma_cons (sm_tup (sma_cons sm_str (sma_cons (sm_var (i := 14)) (sma_cons (sm_op r2_int sm_int (sm_op (r2_intC fun _ _ h => h) (sm_var (i := 15)) sm_int)) (sma_cons (sm_cb rc_max2 (sma_cons (sm_var (i := 16)) (sma_cons (sm_op r2_int sm_int (sm_op (r2_intC fun _ _ h => h) (sm_var (i := 15)) sm_int)) sma_nil))) sma_nil))))) sma_nil))))))))))
    (sms_ret (sm_var (i := 5))))))))⟩

def nm__law_nag : List Str := ["_law_chain_here", "_law_words_here", "_law_hold", "_law_nag_here", "_law_tick", "_law_word"]
theorem sc__law_nag : FnScope nm__law_nag ["_law_chain_here", "_law_words_here", "_law_hold"] (defScope (top 63)) := ⟨rfl, rfl, rfl, by decide +kernel, rfl, by decide +kernel, by decide +kernel⟩
theorem ok__law_nag {P : Program} {w : World} {K : PySem.W.Frag} {mg : Str → Option Value} {base : Heap} (T : Tx K mg) (D_Nag_init : Okd P w K mg base 6 (He.ma K (He.ga K "Nag") "__init__") 3 sem_Nag_init) (D_Nag_finish : Okd P w K mg base 6 (He.ma K (He.ga K "Nag") "finish") 3 sem_Nag_finish) (D_Nag_pass_tick : Okd P w K mg base 2 (He.ma K (He.ga K "Nag") "pass_tick") 1 sem_Nag_pass_tick) (D_Nag_put_off : Okd P w K mg base 6 (He.ma K (He.ga K "Nag") "put_off") 4 sem_Nag_put_off) (D_Nag_take : Okd P w K mg base 6 (He.ma K (He.ga K "Nag") "take") 3 sem_Nag_take) : Okd P w K mg base 8 (He.ga K "_law_nag") 3 sem__law_nag := by
  obtain ⟨fd, F⟩ := T.c.def_ 54 rfl
  refine ⟨⟨fd, ["_law_chain_here", "_law_words_here", "_law_hold"], fn_ok F sc__law_nag body__law_nag (fun cdv A outer s H E hr => ?_), F.bindsN fun _ _ _ _ _ _ us hl => match us, hl with | [_, _, _], _ => rfl⟩, F.kp⟩
  exact ⟨_, (pss_cons (ps_set (i := 3) sc__law_nag.nd rfl (Or.inl rfl) (pe_makeD (T.mkr (i := 84) rfl) D_Nag_init (hr.mono (by decide)) rfl (T.glo (i := 68) rfl) (pa_cons (pv 0) (pa_cons (pv 2) pa_nil))))
    (pss_cons (ps_for PassesOwn.never rfl (pi_range1 rfl (T.free (i := 124) rfl) (pa_cons (pe_op op_add pe_int (pv 2)) pa_nil)) (pg_name (i := 4) sc__law_nag.nd rfl (Or.inr rfl)) (pss_cons (ps_for PassesOwn.never rfl (pi_list (pe_lc (own := [("_law_word", 5)]) (g := (gName 5)) (tt := (tTest (tOp (rEqD K) (tOp (rIx K) (tVar 5) (tC (.int 3))) (tVar 4)))) (te := (tVar 5)) rfl sc__law_nag.nd (pi_list (pv 1)) (blkOk_by (own := [("_law_word", 5)]) (N := nm__law_nag) (sc := defScope (top 63)) (by decide +kernel)) (fun _ _ _ _ _ => (pg_name (i := 5) sc__law_nag.nd rfl (Or.inl rfl))) (fun _ _ _ _ _ => (pts_one (pt_cmpR (op_eqD hr.units) (pe_ix ix_seq (pv 5) pe_int (fun _ _ => rfl)) (pv 4) (nomark _)))) (fun _ _ _ _ _ => (pv 5)))) (pg_name (i := 5) sc__law_nag.nd rfl (Or.inl rfl)) (pss_one (ps_if (pt_cmpR (op_eqD hr.units) (pe_ix ix_seq (pv 5) pe_int (fun _ _ => rfl)) pe_str (nomark _)) (pss_one (ps_expr (pe_methD (pv 3) (T.cls (i := 69) rfl) (T.meth (i := 73) rfl) D_Nag_take (hr.mono (by decide)) (pa_cons (pe_ix ix_seq (pv 5) pe_int (fun _ _ => rfl)) (pa_cons (pe_ix ix_seq (pv 5) pe_int (fun _ _ => rfl)) pa_nil))))) (pss_one (ps_if (pt_cmpR (op_eqD hr.units) (pe_ix ix_seq (pv 5) pe_int (fun _ _ => rfl)) pe_str (nomark _)) (pss_one (ps_expr (pe_methD (pv 3) (T.cls (i := 69) rfl) (T.meth (i := 75) rfl) D_Nag_finish (hr.mono (by decide)) (pa_cons (pe_ix ix_seq (pv 5) pe_int (fun _ _ => rfl)) (pa_cons (pe_ix ix_seq (pv 5) pe_int (fun _ _ => rfl)) pa_nil))))) (pss_one (ps_expr (pe_methD (pv 3) (T.cls (i := 69) rfl) (T.meth (i := 74) rfl) D_Nag_put_off (hr.mono (by decide)) (pa_cons (pe_ix ix_seq (pv 5) pe_int (fun _ _ => rfl)) (pa_cons (pe_ix ix_seq (pv 5) pe_int (fun _ _ => rfl)) (pa_cons (pe_ix ix_seq (pv 5) pe_int (fun _ _ => rfl)) pa_nil)))))))))))
    (pss_one (ps_expr (pe_methD0 (pv 3) (T.cls (i := 69) rfl) (T.meth (i := 76) rfl) D_Nag_pass_tick (hr.mono (by decide)))))))
    (pss_one (ps_ret (pv 3))))),
    (sms_seq (sms_asg (sm_make (c := "Nag") (sma_cons (sm_var (i := 0)) (sma_cons (sm_var (i := 2)) sma_nil))) (smn_name (i := 3)))
    (sms_seq (sms_for (smi_rng1 (sma_cons (sm_op r2_int sm_int (sm_var (i := 2))) sma_nil)) (smn_name (i := 4)) (sms_seq (sms_for (smi_list (sm_dat (sml_lc (smi_list (sm_var (i := 1))) (smn_name (i := 5)) (smc_test (sm_op r2_eq (sm_op r2_ix (sm_var (i := 5)) sm_int) (sm_var (i := 4)))) (sm_var (i := 5)) (by decide)))) (smn_name (i := 5)) (sms_if (smc_test (sm_op r2_eq (sm_op r2_ix (sm_var (i := 5)) sm_int) sm_str)) (sms_drop (sm_meth (c := "Nag") (sm_var (i := 3)) (sma_cons (sm_op r2_ix (sm_var (i := 5)) sm_int) (sma_cons (sm_op r2_ix (sm_var (i := 5)) sm_int) sma_nil)))) (sms_if (smc_test (sm_op r2_eq (sm_op r2_ix (sm_var (i := 5)) sm_int) sm_str)) (sms_drop (sm_meth (c := "Nag") (sm_var (i := 3)) (sma_cons (sm_op r2_ix (sm_var (i := 5)) sm_int) (sma_cons (sm_op r2_ix (sm_var (i := 5)) sm_int) sma_nil)))) (sms_drop (sm_meth (c := "Nag") (sm_var (i := 3)) (sma_cons (sm_op r2_ix (sm_var (i := 5)) sm_int) (sma_cons (sm_op r2_ix (sm_var (i := 5)) sm_int) (sma_cons (sm_op r2_ix (sm_var (i := 5)) sm_int) sma_nil))))))))
    (sms_drop (sm_meth (c := "Nag") (sm_var (i := 3)) sma_nil))))
    (sms_ret (sm_var (i := 3)))))⟩

def nm_law : List Str := ["_law_script", "_law_whole", "_law_chain_here", "_law_words_here", "_law_due", "_law_hold", "_law_few", "_law_nag_here", "_law_other", "_law_sent", "_law_needless", "_law_lacking", "_law_pair", "_law_tale", "_law_more"]
theorem sc_law : FnScope nm_law ["_law_script"] (defScope (top 64)) := ⟨rfl, rfl, rfl, by decide +kernel, rfl, by decide +kernel, by decide +kernel⟩
theorem ok_law {P : Program} {w : World} {K : PySem.W.Frag} {mg : Str → Option Value} {base : Heap} (T : Tx K mg) (D_Nag_sent : Okd P w K mg base 1 (He.ma K (He.ga K "Nag") "sent") 1 sem_Nag_sent) (D_Nag_tale : Okd P w K mg base 1 (He.ma K (He.ga K "Nag") "tale") 1 sem_Nag_tale) (D_Nag_words : Okd P w K mg base 1 (He.ma K (He.ga K "Nag") "words") 1 sem_Nag_words) (D__law_chain : Okd P w K mg base 2 (He.ga K "_law_chain") 2 sem__law_chain) (D__law_nag : Okd P w K mg base 8 (He.ga K "_law_nag") 3 sem__law_nag) (D__law_words : Okd P w K mg base 2 (He.ga K "_law_words") 3 sem__law_words) (D_apart : Okd P w K mg base 7 (He.ga K "apart") 3 sem_apart) (D_due_all : Okd P w K mg base 6 (He.ga K "due_all") 2 sem_due_all) (D_enough : Okd P w K mg base 8 (He.ga K "enough") 2 sem_enough) (D_judged : Okd P w K mg base 7 (He.ga K "judged") 3 sem_judged) (D_sent_all : Okd P w K mg base 6 (He.ga K "sent_all") 3 sem_sent_all) : Okd P w K mg base 9 (He.ga K "law") 1 sem_law := by
  obtain ⟨fd, F⟩ := T.c.def_ 55 rfl
  refine ⟨⟨fd, ["_law_script"], fn_ok F sc_law body_law (fun cdv A outer s H E hr => ?_), F.bindsN fun _ _ _ _ _ _ us hl => match us, hl with | [_], _ => rfl⟩, F.kp⟩
  exact ⟨_, (pss_cons (ps_set (i := 1) sc_law.nd rfl (Or.inl rfl) (pe_callB (cr_sum rfl) (by rfl) (T.free (i := 127) rfl) (by decide +kernel) (pa_cons (pe_slice sl_list (pv 0) po_none (po_some pe_int)) pa_nil)))
    (pss_cons (ps_set (i := 2) sc_law.nd rfl (Or.inl rfl) (pe_callD D__law_chain (hr.mono (by decide)) rfl (T.glo (i := 26) rfl) (pa_cons (pv 0) (pa_cons pe_int pa_nil))))
    (pss_cons (ps_set (i := 3) sc_law.nd rfl (Or.inl rfl) (pe_callD D__law_words (hr.mono (by decide)) rfl (T.glo (i := 27) rfl) (pa_cons (pv 0) (pa_cons pe_int (pa_cons (pv 2) pa_nil)))))
    (pss_cons (ps_par (by rfl) sc_law.nd rfl rfl (by decide) rfl rfl (pa_cons (pe_callD D_due_all (hr.mono (by decide)) rfl (T.glo (i := 20) rfl) (pa_cons (pv 2) (pa_cons (pv 3) pa_nil))) (pa_cons (pe_fld (pe_callD D_enough (hr.mono (by decide)) rfl (T.glo (i := 23) rfl) (pa_cons (pv 2) (pa_cons (pv 3) pa_nil))) rfl) pa_nil)) (by rfl))
    (pss_cons (ps_if (pt_cmpR (op_neD hr.units) (pe_methD0 (pe_callD D__law_nag (hr.mono (by decide)) rfl (T.glo (i := 28) rfl) (pa_cons (pv 2) (pa_cons (pv 3) (pa_cons (pv 5) pa_nil)))) (T.cls (i := 69) rfl) (T.meth (i := 79) rfl) D_Nag_sent (hr.mono (by decide))) (pv 4) (nomark _)) (pss_one (ps_ret pe_bl)) pss_nil)
    (pss_cons (ps_if (PW.pt (pw_and (pt_cmpR op_gt (pv 5) pe_int (nomark _)) (pw_and1 (pt_cmpR (op_eqD hr.units) (pe_methD0 (pe_callD D__law_nag (hr.mono (by decide)) rfl (T.glo (i := 28) rfl) (pa_cons (pv 2) (pa_cons (pv 3) (pa_cons (pe_op op_sub (pv 5) pe_int) pa_nil)))) (T.cls (i := 69) rfl) (T.meth (i := 79) rfl) D_Nag_sent (hr.mono (by decide))) (pv 4) (nomark _))))) (pss_one (ps_ret pe_bl)) pss_nil)
    (pss_cons (ps_set (i := 6) sc_law.nd rfl (Or.inl rfl) (pe_op op_mod (pe_op op_fdiv (pv 1) pe_int) pe_int))
    (pss_cons (ps_par (by rfl) sc_law.nd rfl rfl (by decide) rfl rfl (pa_cons (pe_callD D__law_nag (hr.mono (by decide)) rfl (T.glo (i := 28) rfl) (pa_cons (pv 2) (pa_cons (pv 3) (pa_cons (pv 6) pa_nil)))) (pa_cons (pe_callD D__law_nag (hr.mono (by decide)) rfl (T.glo (i := 28) rfl) (pa_cons (pv 2) (pa_cons (pe_revL (pv 3)) (pa_cons (pv 6) pa_nil)))) pa_nil)) (by rfl))
    (pss_cons (ps_set (i := 9) sc_law.nd rfl (Or.inl rfl) (pe_callD D_sent_all (hr.mono (by decide)) rfl (T.glo (i := 21) rfl) (pa_cons (pv 2) (pa_cons (pv 3) (pa_cons (pv 6) pa_nil)))))
    (pss_cons (ps_if (PW.pt (pw_or (pt_cmpR (op_neD hr.units) (pe_methD0 (pv 7) (T.cls (i := 69) rfl) (T.meth (i := 79) rfl) D_Nag_sent (hr.mono (by decide))) (pv 9) (nomark _)) (pw_or (pt_cmpR (op_neD hr.units) (pe_methD0 (pv 8) (T.cls (i := 69) rfl) (T.meth (i := 79) rfl) D_Nag_sent (hr.mono (by decide))) (pv 9) (nomark _)) (pw_or1 (pt_cmpR (op_neD hr.units) (pe_callB (cr_sortD (u65 hr)) (by rfl) (T.free (i := 126) rfl) (by decide +kernel) (pa_cons (pe_methD0 (pv 7) (T.cls (i := 69) rfl) (T.meth (i := 78) rfl) D_Nag_words (hr.mono (by decide))) pa_nil)) (pe_callB (cr_sortD (u65 hr)) (by rfl) (T.free (i := 126) rfl) (by decide +kernel) (pa_cons (pv 3) pa_nil)) (nomark _)))))) (pss_one (ps_ret pe_bl)) pss_nil)
    (pss_cons (ps_asg (pe_callD D_apart (hr.mono (by decide)) rfl (T.glo (i := 22) rfl) (pa_cons (pv 2) (pa_cons (pv 3) (pa_cons (pv 6) pa_nil)))) (pg_tup rfl (pgs_cons (pg_name (i := 10) sc_law.nd rfl (Or.inr rfl)) (pgs_cons (pg_name (i := 11) sc_law.nd rfl (Or.inl rfl)) pgs_nil))))
    (pss_cons (ps_if (pt_cmpR (op_neD hr.units) (pe_callB (cr_sortD (u65 hr)) (by rfl) (T.free (i := 126) rfl) (by decide +kernel) (pa_cons (pe_op op_cat (pe_lc (own := [("_law_pair", 12)]) (g := (gName 12)) (tt := (tTest (tOp (rNotInD K) (tVar 12) (tVar 10)))) (te := (tVar 12)) rfl sc_law.nd (pi_list (pv 9)) (blkOk_by (own := [("_law_pair", 12)]) (N := nm_law) (sc := defScope (top 64)) (by decide +kernel)) (fun _ _ _ _ _ => (pg_name (i := 12) sc_law.nd rfl (Or.inl rfl))) (fun _ _ _ _ _ => (pts_one (pt_cmpR (op_notInD (u65 hr)) (pv 12) (pv 10) (by first | rfl | with_unfolding_all rfl)))) (fun _ _ _ _ _ => (pv 12))) (pv 11)) pa_nil)) (pv 4) (nomark _)) (pss_one (ps_ret pe_bl)) pss_nil)
    (pss_cons (ps_set (i := 13) sc_law.nd rfl (Or.inl rfl) (pe_methD0 (pv 7) (T.cls (i := 69) rfl) (T.meth (i := 80) rfl) D_Nag_tale (hr.mono (by decide))))
    (pss_cons (ps_if (PW.pt (pw_and (pt_cmpR op_lt (pe_callB call_len_seq (by rfl) (T.free (i := 120) rfl) (by decide +kernel) (pa_cons (pv 13) pa_nil)) pe_int (nomark _)) (pw_and1 (pt_not (pt_val (pe_callB call_isi (by rfl) (T.free (i := 119) rfl) (by decide +kernel) (pa_cons (pe_callD D_judged (hr.mono (by decide)) rfl (T.glo (i := 24) rfl) (pa_cons (pv 2) (pa_cons (pv 6) (pa_cons (pv 13) pa_nil)))) (pa_cons (pe_glob (v := .ref (He.ga K "Right")) rfl (T.glo (i := 94) rfl) rfl) pa_nil)))))))) (pss_one (ps_ret pe_bl)) pss_nil)
    (pss_cons (ps_if (pt_cmpR op_lt (pe_callB call_len_seq (by rfl) (T.free (i := 120) rfl) (by decide +kernel) (pa_cons (pv 13) pa_nil)) pe_int (nomark _)) (pss_cons (ps_set (i := 14) sc_law.nd rfl (Or.inl rfl) (pe_callD D_judged (hr.mono (by decide)) rfl (T.glo (i := 24) rfl) (pa_cons (pv 2) (pa_cons (pv 6) (pa_cons (pe_op op_cat (pv 13) (pe_lst (pa_cons (pe_tup (pa_cons pe_str (pa_cons (pe_lst pa_nil) pa_nil))) pa_nil))) pa_nil)))))
    (pss_one (ps_if (PW.pt (pw_or (pt_not (pt_val (pe_callB call_isi (by rfl) (T.free (i := 119) rfl) (by decide +kernel) (pa_cons (pv 14) (pa_cons (pe_glob (v := .ref (He.ga K "Wrong")) rfl (T.glo (i := 97) rfl) rfl) pa_nil))))) (pw_or1 (pt_cmpR (op_neD hr.units) (pe_fld (pv 14) rfl) (pe_callB call_len_seq (by rfl) (T.free (i := 120) rfl) (by decide +kernel) (pa_cons (pv 13) pa_nil)) (nomark _))))) (pss_one (ps_ret pe_bl)) pss_nil))) pss_nil)
    (pss_one (ps_ret (pe_cmpR (op_eqD hr.units) (pe_methD0 (pe_callD D__law_nag (hr.mono (by decide)) rfl (T.glo (i := 28) rfl) (pa_cons (pe_lst (pa_cons (pe_tup (pa_cons (pe_lst (pa_cons pe_int pa_nil)) (pa_cons pe_int (pa_cons pe_int pa_nil)))) pa_nil)) (pa_cons (pe_lst pa_nil) (pa_cons pe_int pa_nil)))) (T.cls (i := 69) rfl) (T.meth (i := 79) rfl) D_Nag_sent (hr.mono (by decide))) (pe_lst (pa_cons (pe_tup (pa_cons pe_int (pa_cons pe_int pa_nil))) pa_nil)) (nomark _))))))))))))))))))),
    (sms_seq (sms_asg (sm_cb rc_sum (sma_cons (sm_dat (sml_sl (sm_var (i := 0)) smo_no (smo_part sm_int))) sma_nil)) (smn_name (i := 1)))
    (sms_seq (sms_asg (sm_callF (sma_cons (sm_var (i := 0)) (sma_cons sm_int sma_nil))) (smn_name (i := 2)))
    (sms_seq (sms_asg (sm_callF (sma_cons (sm_var (i := 0)) (sma_cons sm_int (sma_cons (sm_var (i := 2)) sma_nil)))) (smn_name (i := 3)))
    (sms_seq (sms_par (i := 4) (j := 5) (sma_cons (sm_callF (sma_cons (sm_var (i := 2)) (sma_cons (sm_var (i := 3)) sma_nil))) (sma_cons (sm_fld (c := "Enough") (T.cls (i := 87) rfl) (T.noat (i := 90) rfl) (sm_callO (sma_cons (sm_var (i := 2)) (sma_cons (sm_var (i := 3)) sma_nil)))) sma_nil)))
    (sms_seq (sms_if (smc_test (sm_op r2_ne (sm_meth (c := "Nag") (sm_callM (sma_cons (sm_var (i := 2)) (sma_cons (sm_var (i := 3)) (sma_cons (sm_var (i := 5)) sma_nil)))) sma_nil) (sm_var (i := 4)))) (sms_ret sm_bl) sms_next)
    (sms_seq (sms_if (smc_and (smc_test (sm_op r2_bl (sm_var (i := 5)) sm_int)) (smc_test (sm_op r2_eq (sm_meth (c := "Nag") (sm_callM (sma_cons (sm_var (i := 2)) (sma_cons (sm_var (i := 3)) (sma_cons (sm_op r2_int (sm_var (i := 5)) sm_int) sma_nil)))) sma_nil) (sm_var (i := 4))))) (sms_ret sm_bl) sms_next)
    (sms_seq (sms_asg (sm_op (r2_intC fun _ _ h => h) (sm_op (r2_intC fun _ _ h => h) (sm_var (i := 1)) sm_int) sm_int) (smn_name (i := 6)))
    (sms_seq (sms_par (i := 7) (j := 8) (sma_cons (sm_callM (sma_cons (sm_var (i := 2)) (sma_cons (sm_var (i := 3)) (sma_cons (sm_var (i := 6)) sma_nil)))) (sma_cons (sm_callM (sma_cons (sm_var (i := 2)) (sma_cons (sm_dat (sml_rev (sm_var (i := 3)))) (sma_cons (sm_var (i := 6)) sma_nil)))) sma_nil)))
    (sms_seq (sms_asg (sm_callF (sma_cons (sm_var (i := 2)) (sma_cons (sm_var (i := 3)) (sma_cons (sm_var (i := 6)) sma_nil)))) (smn_name (i := 9)))
    (sms_seq (sms_if (smc_or (smc_test (sm_op r2_ne (sm_meth (c := "Nag") (sm_var (i := 7)) sma_nil) (sm_var (i := 9)))) (smc_or (smc_test (sm_op r2_ne (sm_meth (c := "Nag") (sm_var (i := 8)) sma_nil) (sm_var (i := 9)))) (smc_test (sm_op r2_ne (sm_dat (sml_cb rl_sortD (sma_cons (sm_meth (c := "Nag") (sm_var (i := 7)) sma_nil) sma_nil))) (sm_dat (sml_cb rl_sortD (sma_cons (sm_var (i := 3)) sma_nil))))))) (sms_ret sm_bl) sms_next)
    (sms_seq (sms_asg (sm_callF (sma_cons (sm_var (i := 2)) (sma_cons (sm_var (i := 3)) (sma_cons (sm_var (i := 6)) sma_nil)))) (smn_tup (smn_cons (smn_name (i := 10)) (smn_cons (smn_name (i := 11)) smn_nil))))
    (sms_seq (sms_if (smc_test (sm_op r2_ne (sm_dat (sml_cb rl_sortD (sma_cons (sm_dat (sml_cat (sm_dat (sml_lc (smi_list (sm_var (i := 9))) (smn_name (i := 12)) (smc_test (sm_op r2_notInD (sm_var (i := 12)) (sm_var (i := 10)))) (sm_var (i := 12)) (by decide))) (sm_var (i := 11)))) sma_nil))) (sm_var (i := 4)))) (sms_ret sm_bl) sms_next)
    (sms_seq (sms_asg (sm_meth (c := "Nag") (sm_var (i := 7)) sma_nil) (smn_name (i := 13)))
    (sms_seq (sms_if (smc_and (smc_test (sm_op r2_bl (sm_cb rc_len (sma_cons (sm_var (i := 13)) sma_nil)) sm_int)) (smc_not (smc_B (sm_isiO (T := "Right") T.k (sm_callO (sma_cons (sm_var (i := 2)) (sma_cons (sm_var (i := 6)) (sma_cons (sm_var (i := 13)) sma_nil)))))))) (sms_ret sm_bl) sms_next)
    (sms_seq (sms_if (smc_test (sm_op r2_bl (sm_cb rc_len (sma_cons (sm_var (i := 13)) sma_nil)) sm_int)) (sms_seq (sms_asg (sm_callO (sma_cons (sm_var (i := 2)) (sma_cons (sm_var (i := 6)) (sma_cons (sm_dat (sml_cat (sm_var (i := 13)) (sm_dat (sml_lst (sma_cons (sm_tup (sma_cons sm_str (sma_cons (sm_dat (sml_lst sma_nil)) sma_nil))) sma_nil))))) sma_nil)))) (smn_name (i := 14)))
    (sms_if (smc_or (smc_not (smc_B (sm_isiO (T := "Wrong") T.k (sm_var (i := 14))))) (smc_test (sm_op r2_ne (sm_fld (c := "Wrong") (T.cls (i := 98) rfl) (T.noat (i := 101) rfl) (sm_var (i := 14))) (sm_cb rc_len (sma_cons (sm_var (i := 13)) sma_nil))))) (sms_ret sm_bl) sms_next)) sms_next)
    (sms_ret (sm_op r2_eq (sm_meth (c := "Nag") (sm_callM (sma_cons (sm_dat (sml_lst (sma_cons (sm_tup (sma_cons (sm_dat (sml_lst (sma_cons sm_int sma_nil))) (sma_cons sm_int (sma_cons sm_int sma_nil)))) sma_nil))) (sma_cons (sm_dat (sml_lst sma_nil)) (sma_cons sm_int sma_nil)))) sma_nil) (sm_dat (sml_lst (sma_cons (sm_tup (sma_cons sm_int (sma_cons sm_int sma_nil))) sma_nil))))))))))))))))))))⟩

end Nc
set_option Elab.async false
set_option linter.all false
set_option maxRecDepth 100000
set_option maxHeartbeats 1000000
namespace Nc
open PySem PySem.Spec PyProof.Rows L2
local macro_rules | `(tactic| walk_at "nc") => `(tactic| repeat (first | simp [atI, ixN, zipI, cutG, HT.sIx, Function.comp_def] | simp (disch := first | assumption | omega) only [oIntC_p, le_T, le_F, lt_T, lt_F, bq_F, in_T, in_F] | rw [if_pos (by omega)] | rw [if_neg (by omega)] | omega))
@[simp] theorem is_whole_i (b : Bool) (i : Int) (S : Sto) : sem_is_whole [.dat b (.int i)] S = some (.dat false (.bool true), S) := by
  unfold sem_is_whole body_is_whole
  walk_at "nc"
@[simp] theorem is_between_i (b c d : Bool) (i lo hi : Int) (S : Sto) : sem_is_between [.dat b (.int i), .dat c (.int lo), .dat d (.int hi)] S = some (.dat false (.bool (decide (lo ≤ i) && decide (i ≤ hi))), S) := by
  unfold sem_is_between body_is_between
  walk_at "nc"
  by_cases h : lo ≤ i <;> simp [h]
/-! ### chains and words that are such -/
class OkLev (l : Lev) : Prop where
  l1 : 1 ≤ l.1.length
  l3 : l.1.length ≤ 3
  rg : ∀ x ∈ l.1, 0 ≤ x ∧ x ≤ 7
  up : l.1.Pairwise (· < ·)
  e1 : 1 ≤ l.2.1
  e9 : l.2.1 ≤ 9
  t1 : 1 ≤ l.2.2
  t5 : l.2.2 ≤ 5
def ppl (c : List Lev) : List Int := c.flatMap (·.1)
class OkCh (c : List Lev) : Prop where
  l1 : 1 ≤ c.length
  l4 : c.length ≤ 4
  lev : ∀ l ∈ c, OkLev l
  nd : (ppl c).Nodup
theorem list13 {α : Type} {l : List α} (h1 : 1 ≤ l.length) (h3 : l.length ≤ 3) : (∃ a, l = [a]) ∨ (∃ a b, l = [a, b]) ∨ ∃ a b c, l = [a, b, c] := by
  match l, h1, h3 with
  | [a], _, _ => exact .inl ⟨a, rfl⟩
  | [a, b], _, _ => exact .inr (.inl ⟨a, b, rfl⟩)
  | [a, b, c], _, _ => exact .inr (.inr ⟨a, b, c, rfl⟩)
@[simp] theorem is_level_ok {l : Lev} [h : OkLev l] (b : Bool) (S : Sto) : sem_is_level [.dat b (eLev l)] S = some (.dat false (.bool true), S) := by
  obtain ⟨ps, e, t⟩ := l
  have e1 := h.e1; have e9 := h.e9; have t1 := h.t1; have t5 := h.t5
  have rg := h.rg; have up := h.up
  simp only at e1 e9 t1 t5 rg up
  unfold sem_is_level body_is_level eLev
  rcases list13 h.l1 h.l3 with ⟨x, rfl⟩ | ⟨x, y, rfl⟩ | ⟨x, y, z, rfl⟩
  · simp at rg
    walk_at "nc"
  · simp at rg up
    walk_at "nc"
  · simp at rg up
    walk_at "nc"
theorem foldl_app {α β : Type} (f : α → List β) : ∀ (xs : List α) (a : List β), xs.foldl (fun a x => a ++ f x) a = a ++ xs.flatMap f
  | [], a => by simp
  | x :: xs, a => by rw [List.foldl_cons, foldl_app f xs]; simp
theorem people_of_e {c : List Lev} [h : OkCh c] (b : Bool) (S : Sto) : sem_people_of [.dat b (eCh c)] S = some (.own S.length, S ++ [.lst ((ppl c).map fun i => .dat false (.int i))]) := by
  unfold sem_people_of body_people_of eCh
  walk_at "nc"
  have key := forL_env (bd := turnS (bTup 3 (bCons (bName 2) (bCons (bName 3) (bCons (bName 4) bNil)))) (sDrop (xExt (xVar 1) (xVar 2))) [2, 3, 4])
    (fun _ : List Int => [some (.dat b (.list (c.map eLev))), some (.own S.length), none, none, none]) (fun a : List Int => S ++ [.lst (a.map fun i => .dat false (.int i))])
    (fun a (l : Lev) => a ++ l.1) (fun i a => a.length ≤ 3 * i) (fun l => .dat b (eLev l)) c 0 [] (by simp) (fun i a l hl ha => by
      have hi := (List.getElem?_eq_some_iff.mp hl).1
      have l4 := h.l4
      have l3 := (h.lev l (List.mem_of_getElem? hl)).l3
      refine ⟨?_, by simp; omega⟩
      unfold eLev
      walk_at "nc")
  have := key.1
  rw [foldl_app] at this
  simp at this
  rw [this]
  walk_at "nc"
  rfl
@[simp] theorem people_of_c {c : List Lev} [h : OkCh c] (b : Bool) : natD (sem_people_of [.dat b (eCh c)] []) = some (.dat false (.list ((ppl c).map .int)), [.lst ((ppl c).map fun i => .dat false (.int i))]) := by
  rw [people_of_e]
  walk_at "nc"
theorem ppl_len {c : List Lev} [h : OkCh c] : (ppl c).length ≤ 12 := by
  have : ∀ c : List Lev, (∀ l ∈ c, OkLev l) → (ppl c).length ≤ 3 * c.length := by
    intro c
    induction c with
    | nil => intro _; simp [ppl]
    | cons l r ih =>
      intro hc
      have h1 := (hc l List.mem_cons_self).l3
      have h2 := ih fun x hx => hc x (List.mem_cons_of_mem _ hx)
      simp only [ppl, List.flatMap_cons, List.length_append, List.length_cons] at h2 ⊢
      omega
  have h1 := this c h.lev
  have := h.l4
  omega
@[simp] theorem check_chain_e {c : List Lev} [h : OkCh c] (b : Bool) (S : Sto) : sem_check_chain [.dat b (eCh c)] S = some (.dat false .none, S) := by
  have l1 := h.l1; have l4 := h.l4
  have nd := h.nd
  have pl := ppl_len (c := c)
  unfold sem_check_chain body_check_chain
  walk_at "nc"
  rw [compL_y (fun l => .dat b (eLev l)) (fun _ => .dat false (.bool true)) c (fun l hl => by
    haveI := h.lev l hl
    refine ⟨_, rfl, ?_⟩
    walk_at "nc")]
  walk_at "nc"
  rw [if_pos ⟨nd, by omega⟩]
  walk_at "nc"
/-! ### words that are such -/
class OkWd (P : List Int) (w : Wd) : Prop where
  p : w.p ∈ P
  s0 : 0 ≤ w.s
  s40 : w.s ≤ 40
  hs : w.s ≤ w.h
  h60 : w.h ≤ 60
  t : ∀ p s h t, w = .off p s h t → 1 ≤ t ∧ t ≤ 20
class OkWs (P : List Int) (ws : List Wd) : Prop where
  len : ws.length ≤ 12
  wd : ∀ w ∈ ws, OkWd P w
@[simp] theorem is_word_e {P : List Int} {w : Wd} [h : OkWd P w] (b c : Bool) (S : Sto) : sem_is_word [.dat b (eWd w), .dat c (.list (P.map .int))] S = some (.dat false (.bool true), S) := by
  have p := h.p; have s0 := h.s0; have s40 := h.s40; have hs := h.hs; have h60 := h.h60; have t := h.t
  unfold sem_is_word body_is_word
  cases w with
  | take p s h =>
    simp only [Wd.p, Wd.s, Wd.h] at *
    unfold eWd
    walk_at "nc"
  | off p s h t' =>
    have t := t _ _ _ _ rfl
    obtain ⟨t1, t20⟩ := t
    simp only [Wd.p, Wd.s, Wd.h] at *
    unfold eWd
    walk_at "nc"
  | done p s h =>
    simp only [Wd.p, Wd.s, Wd.h] at *
    unfold eWd
    walk_at "nc"
@[simp] theorem check_words_e {c : List Lev} {ws : List Wd} [h : OkCh c] [hw : OkWs (ppl c) ws] (b d : Bool) (S : Sto) : sem_check_words [.dat b (eCh c), .dat d (eWs ws)] S = some (.dat false .none, S) := by
  have l := hw.len
  unfold sem_check_words body_check_words
  walk_at "nc"
  rw [compL_y (fun w => .dat false (eWd w)) (fun _ => .dat false (.bool true)) ws (fun w hw' => by
    haveI := hw.wd w hw'
    refine ⟨_, rfl, ?_⟩
    walk_at "nc")]
  walk_at "nc"
end Nc
set_option Elab.async false
set_option linter.all false
set_option maxRecDepth 100000
set_option maxHeartbeats 1000000
namespace Nc
open PySem PySem.Spec PyProof.Rows L2
local macro_rules | `(tactic| walk_at "nc") => `(tactic| repeat (first | simp [atI, ixN, zipI, cutG, HT.sIx, Function.comp_def] | simp (disch := first | assumption | omega) only [oIntC_p, le_T, le_F, lt_T, lt_F, bq_F, in_T, in_F] | rw [if_pos (by omega)] | rw [if_neg (by omega)] | omega))
def levAt : List Lev → Int → List Int × Bool
  | [], _ => ([], false)
  | l :: r, t => if t < l.2.1 * l.2.2 then (l.1, t % l.2.1 == 0) else levAt r (t - l.2.1 * l.2.2)
theorem Lev.prod {l : Lev} [h : OkLev l] : 1 ≤ l.2.1 * l.2.2 ∧ l.2.1 * l.2.2 ≤ 45 := by
  have e1 := h.e1; have e9 := h.e9; have t1 := h.t1; have t5 := h.t5
  obtain ⟨ps, e, t⟩ := l
  simp only at *
  constructor
  · have := Int.mul_le_mul e1 t1 (by omega) (by omega)
    simpa using this
  · have := Int.mul_le_mul e9 t5 (by omega) (by omega)
    simpa using this
theorem level_loop (X : OV) (b : Bool) (S : Sto) : ∀ (c : List Lev), (∀ l ∈ c, OkLev l) → ∀ (q : Bool) (t : Int),
    kCall (kSeq (forL (turnS (bTup 3 (bCons (bName 2) (bCons (bName 3) (bCons (bName 4) bNil)))) (sSeq (sIf (xB (xOp (oBl fun i j => decide (i < j)) (xVar 1) (xOp (oIntC mulN fun i j => i * j) (xVar 3) (xVar 4)))) (sRet (xTup (xCons (xDat (xCL oList (xCons (xVar 2) xNil))) (xCons (xOp (oEq false) (xOp (oIntC modN fun i j => i % j) (xVar 1) (xVar 3)) (xC (.int 0))) xNil)))) sNext)
  (sAug 1 (fun i j => i - j) (xOp (oIntC mulN fun i j => i * j) (xVar 3) (xVar 4)))) [2, 3, 4]) (fun _ => True) (c.map fun l => .dat b (eLev l)) [some X, some (.dat q (.int t)), none, none, none] S) (sRet (xTup (xCons (xDat (xLst xNil)) (xCons (xC (.bool false)) xNil))))) = some (.dat false (.tuple [.list ((levAt c t).1.map .int), .bool (levAt c t).2]), S)
  | [], _, q, t => by
    unfold levAt
    walk_at "nc"
  | l :: r, hc, q, t => by
    have ih := level_loop X b S r (fun x hx => hc x (List.mem_cons_of_mem _ hx)) false (t - l.2.1 * l.2.2)
    haveI hl := hc l List.mem_cons_self
    have := Lev.prod (l := l)
    have e1 := hl.e1; have e9 := hl.e9; have t1 := hl.t1; have t5 := hl.t5
    unfold levAt
    by_cases h : t < l.2.1 * l.2.2
    · rw [if_pos h]
      rw [List.map_cons]
      generalize List.map (fun l => OV.dat b (eLev l)) r = rr
      unfold eLev
      walk_at "nc"
    · rw [if_neg h, ← ih, List.map_cons]
      clear ih
      generalize List.map (fun l => OV.dat b (eLev l)) r = rr
      unfold eLev
      walk_at "nc"
@[simp] theorem level_at_e {c : List Lev} [h : OkCh c] (b q : Bool) (t : Int) (S : Sto) : sem_level_at [.dat b (eCh c), .dat q (.int t)] S = some (.dat false (.tuple [.list ((levAt c t).1.map .int), .bool (levAt c t).2]), S) := by
  unfold sem_level_at body_level_at
  have e := level_loop (.dat b (eCh c)) b S c h.lev q t
  simp [Function.comp_def]
  rw [e]
def evOf (c : List Lev) (p : Int) : Int := match c.filter (fun l => decide (p ∈ l.1)) with
  | l :: _ => l.2.1
  | [] => 0
theorem mem_ppl {c : List Lev} {p : Int} (h : p ∈ ppl c) : ∃ l r, c.filter (fun l => decide (p ∈ l.1)) = l :: r ∧ l ∈ c := by
  obtain ⟨l, hl, hp⟩ := List.mem_flatMap.mp h
  have hm : l ∈ c.filter (fun l => decide (p ∈ l.1)) := List.mem_filter.mpr ⟨hl, by simpa using hp⟩
  cases e : c.filter (fun l => decide (p ∈ l.1)) with
  | nil => rw [e] at hm; cases hm
  | cons x r => exact ⟨x, r, rfl, (List.mem_filter.mp (e ▸ List.mem_cons_self : x ∈ c.filter _)).1⟩
theorem every_of_e {c : List Lev} [h : OkCh c] {p : Int} (hp : p ∈ ppl c) (b q : Bool) (S : Sto) : sem_every_of [.dat b (eCh c), .dat q (.int p)] S = some (.dat false (.int (evOf c p)), S) := by
  have l4 := h.l4
  unfold sem_every_of body_every_of
  walk_at "nc"
  rw [compL_ev (fun l => .dat b (eLev l)) (fun l => decide (p ∈ l.1)) (fun l => .dat false (.int l.2.1)) c (fun l hl => by
    unfold eLev
    refine ⟨_, rfl, ?_, fun _ => ?_⟩
    · walk_at "nc"
    · walk_at "nc")]
  obtain ⟨l, r, e, _⟩ := mem_ppl hp
  unfold evOf
  rw [e]
  walk_at "nc"
/-! ### the matter -/
structure Mt where
  clock : Int
  quiet : Int
  taker : Option Int
  since : Int
  over : Bool
def eTk : Option Int → PyData
  | none => .none
  | some p => .int p
def eM (b : Bool) (c : List Lev) (m : Mt) : OO := .ins "Matter" [("chain", .dat b (eCh c)), ("clock", .dat false (.int m.clock)), ("quiet_to", .dat false (.int m.quiet)), ("taker", .dat false (eTk m.taker)), ("since", .dat false (.int m.since)), ("over", .dat false (.bool m.over))]
@[simp] theorem init_e (c : List Lev) (b : Bool) (S : Sto) : sem_Matter_init [.own S.length, .dat b (eCh c)] (S ++ [.ins "Matter" []]) = some (.dat false .none, S ++ [eM b c ⟨0, 0, none, 0, false⟩]) := by
  unfold sem_Matter_init body_Matter_init eM eTk
  walk_at "nc"
def Wd.tk : Wd → Bool
  | .take _ _ _ => true
  | _ => false
def Wd.dn : Wd → Bool
  | .done _ _ _ => true
  | _ => false
def Wd.of : Wd → Bool
  | .off _ _ _ _ => true
  | _ => false
def Wd.t : Wd → Int
  | .off _ _ _ t => t
  | _ => 0
def tkn (ws : List Wd) (t : Int) : List Int := (ws.filter fun w => w.tk && (w.s == t)).map Wd.p
def tell1 (ws : List Wd) (t : Int) (m : Mt) : Mt := match m.taker, sortI (tkn ws t) with
  | none, p :: _ => { m with taker := some p, since := m.clock }
  | _, _ => m
def tell2 (ws : List Wd) (t : Int) (m : Mt) : Mt := if (ws.filter fun w => w.dn && (w.s == t)).isEmpty then m else { m with over := true }
def may (c : List Lev) (m : Mt) : List Int := match m.taker with
  | some p => [p]
  | none => (levAt c m.clock).1
def hush (ws : List Wd) (t : Int) (ps : List Int) (q : Int) : Int := ws.foldl (fun q w => if (w.of && (w.s == t) && decide (w.p ∈ ps)) = true then max q (t + w.t) else q) q
def tell (c : List Lev) (ws : List Wd) (t : Int) (m : Mt) : Mt := let m2 := tell2 ws t (tell1 ws t m)
  { m2 with quiet := hush ws t (may c m2) m2.quiet }
section
variable {S : Sto} {b : Bool} {c : List Lev} {m : Mt} {r : Env} {i : Nat}
@[simp] theorem fM_chain : hFld "Matter" "chain" (some (eM b c m)) S = some (.dat b (eCh c), S) := by simp [eM]
@[simp] theorem fM_clock : hFld "Matter" "clock" (some (eM b c m)) S = some (.dat false (.int m.clock), S) := by simp [eM]
@[simp] theorem fM_quiet : hFld "Matter" "quiet_to" (some (eM b c m)) S = some (.dat false (.int m.quiet), S) := by simp [eM]
@[simp] theorem fM_taker : hFld "Matter" "taker" (some (eM b c m)) S = some (.dat false (eTk m.taker), S) := by simp [eM]
@[simp] theorem fM_since : hFld "Matter" "since" (some (eM b c m)) S = some (.dat false (.int m.since), S) := by simp [eM]
@[simp] theorem fM_over : hFld "Matter" "over" (some (eM b c m)) S = some (.dat false (.bool m.over), S) := by simp [eM]
@[simp] theorem sM_quiet {n : Int} : hFs "Matter" "quiet_to" (.dat false (.int n)) r i (some (eM b c m)) S = some (.nx, r, S.set i (eM b c { m with quiet := n })) := by simp [eM]
@[simp] theorem sM_taker {n : Int} : hFs "Matter" "taker" (.dat false (.int n)) r i (some (eM b c m)) S = some (.nx, r, S.set i (eM b c { m with taker := some n })) := by simp [eM, eTk]
@[simp] theorem sM_since {n : Int} : hFs "Matter" "since" (.dat false (.int n)) r i (some (eM b c m)) S = some (.nx, r, S.set i (eM b c { m with since := n })) := by simp [eM]
@[simp] theorem sM_over {n : Bool} : hFs "Matter" "over" (.dat false (.bool n)) r i (some (eM b c m)) S = some (.nx, r, S.set i (eM b c { m with over := n })) := by simp [eM]
@[simp] theorem aM_clock {h : Int → Int → Int} {f : SE} : hFa0 "Matter" "clock" h r i (some (eM b c m)) f S = bnd (f r S) (hFa2 "Matter" "clock" m.clock h r i) := by simp [eM]
@[simp] theorem aM_clock3 {h : Int → Int → Int} {n : Int} : hFa3 "Matter" "clock" m.clock h r i n (some (eM b c m)) S = some (.nx, r, S.set i (eM b c { m with clock := h m.clock n })) := by simp [eM]
@[simp] theorem cM_told {sem : Sem2} {n : Nat} {fr : SA} : hMe "Matter" "told" sem n i fr r (some (eM b c m)) S = bnd (fr r S) fun as S2 => if as.length + 1 = n then sem (.own i :: as) S2 else none := by simp [eM]
@[simp] theorem cM_due {sem : Sem2} {n : Nat} {fr : SA} : hMe "Matter" "due" sem n i fr r (some (eM b c m)) S = bnd (fr r S) fun as S2 => if as.length + 1 = n then sem (.own i :: as) S2 else none := by simp [eM]
@[simp] theorem isNon_tk {o : Option Int} : isNon (.dat b (eTk o)) = o.isNone := by cases o <;> rfl
end
@[simp] theorem lk_get {A B : Sto} {x : OO} : (A ++ x :: B)[A.length]? = some x := by simp
@[simp] theorem lk_set {A B : Sto} {x y : OO} : (A ++ x :: B).set A.length y = A ++ y :: B := by simp
theorem hush_loop (X0 X4 : OV) (b b2 d : Bool) (c : List Lev) (t : Int) (ps : List Int) (A B : Sto) (ws : List Wd) (m : Mt) :
    forL (turnS (bName 3) (sIf (xAnd (xB (xOp (oEq false) (xOp oIx (xVar 3) (xC (.int 0))) (xC (.str "off")))) (xAnd (xB (xOp (oEq false) (xOp oIx (xVar 3) (xC (.int 2))) (xVar 2))) (xB (xOp (oIn false) (xOp oIx (xVar 3) (xC (.int 1))) (xVar 5))))) (sFldS "Matter" "quiet_to" (xVar 0) (xCB oMax2 (xCons (xFld "Matter" "quiet_to" (xVar 0)) (xCons (xOp (oInt fun i j => i + j) (xVar 2) (xOp oIx (xVar 3) (xC (.int 4)))) xNil)))) sNext) [3]) (fun _ => True) (ws.map fun w => .dat false (eWd w))
      [some (.own A.length), some X0, some (.dat d (.int t)), none, some X4, some (.dat b2 (.list (ps.map .int)))] (A ++ eM b c m :: B) =
      some (.nx, [some (.own A.length), some X0, some (.dat d (.int t)), none, some X4, some (.dat b2 (.list (ps.map .int)))], A ++ eM b c { m with quiet := hush ws t ps m.quiet } :: B) := by
  have key := forL_env (bd := turnS (bName 3) (sIf (xAnd (xB (xOp (oEq false) (xOp oIx (xVar 3) (xC (.int 0))) (xC (.str "off")))) (xAnd (xB (xOp (oEq false) (xOp oIx (xVar 3) (xC (.int 2))) (xVar 2))) (xB (xOp (oIn false) (xOp oIx (xVar 3) (xC (.int 1))) (xVar 5))))) (sFldS "Matter" "quiet_to" (xVar 0) (xCB oMax2 (xCons (xFld "Matter" "quiet_to" (xVar 0)) (xCons (xOp (oInt fun i j => i + j) (xVar 2) (xOp oIx (xVar 3) (xC (.int 4)))) xNil)))) sNext) [3])
    (fun _ : Int => [some (.own A.length), some X0, some (.dat d (.int t)), none, some X4, some (.dat b2 (.list (ps.map .int)))]) (fun q : Int => A ++ eM b c { m with quiet := q } :: B)
    (fun q w => if (w.of && (w.s == t) && decide (w.p ∈ ps)) = true then max q (t + w.t) else q) (fun _ _ => True) (fun w => .dat false (eWd w)) ws 0 m.quiet trivial (fun i q w _ _ => by
      refine ⟨?_, trivial⟩
      cases w with
      | take p s h =>
        unfold eWd Wd.of
        walk_at "nc"
      | done p s h =>
        unfold eWd Wd.of
        walk_at "nc"
      | off p s h u =>
        simp only [Wd.of, Wd.s, Wd.p, Wd.t, Bool.true_and]
        unfold eWd
        by_cases h1 : s = t
        · subst h1
          by_cases h2 : p ∈ ps
          · walk_at "nc"
            simp [h2]
          · walk_at "nc"
            simp [h2]
        · walk_at "nc")
  exact key.1
end Nc
set_option Elab.async false
set_option linter.all false
set_option maxRecDepth 100000
set_option maxHeartbeats 1000000
namespace Nc
open PySem PySem.Spec PyProof.Rows L2
local macro_rules | `(tactic| walk_at "nc") => `(tactic| repeat (first | simp [atI, ixN, zipI, cutG, HT.sIx, Function.comp_def] | simp (disch := first | assumption | omega) only [oIntC_p, le_T, le_F, lt_T, lt_F, bq_F, in_T, in_F] | rw [if_pos (by omega)] | rw [if_neg (by omega)] | omega))
theorem told_e {c : List Lev} {ws : List Wd} [h : OkCh c] [hw : OkWs (ppl c) ws] (b b2 d : Bool) (t : Int) (A B : Sto) (m : Mt) :
    sem_Matter_told [.own A.length, .dat b2 (eWs ws), .dat d (.int t)] (A ++ eM b c m :: B) = some (.dat false .none, A ++ eM b c (tell c ws t m) :: B) := by
  have l := hw.len
  unfold sem_Matter_told body_Matter_told
  walk_at "nc"
  rw [compL_ev (fun w => .dat false (eWd w)) (fun w => w.tk && (w.s == t)) (fun w => .dat false (.int w.p)) ws (fun w hw' => by
    refine ⟨_, rfl, ?_, fun _ => ?_⟩
    · cases w <;> unfold eWd <;> simp only [Wd.tk, Wd.s] <;> walk_at "nc"
    · cases w <;> unfold eWd <;> simp only [Wd.p] <;> walk_at "nc")]
  walk_at "nc"
  rw [kSeq_to [some (.own A.length), some (.dat b2 (eWs ws)), some (.dat d (.int t)), none, some (.dat false (.list ((sortI (tkn ws t)).map .int))), none] (A ++ eM b c (tell1 ws t m) :: B)]
  rotate_left
  · unfold tell1 tkn
    cases e1 : m.taker with
    | some p => simp [e1]
    | none =>
      cases e2 : sortI (List.map Wd.p (List.filter (fun w => w.tk && w.s == t) ws)) with
      | nil => simp [e1, e2, atI, ixN]
      | cons x xs => simp [e1, e2, atI, ixN]
  unfold tell
  generalize tell1 ws t m = m1
  walk_at "nc"
  rw [compL_ev (fun w => .dat false (eWd w)) (fun w => w.dn && (w.s == t)) (fun w => .dat false (eWd w)) ws (fun w hw' => by
    refine ⟨_, rfl, ?_, fun _ => ?_⟩
    · cases w <;> unfold eWd <;> simp only [Wd.dn, Wd.s] <;> walk_at "nc"
    · cases w <;> unfold eWd <;> walk_at "nc")]
  walk_at "nc"
  rw [kSeq_to [some (.own A.length), some (.dat b2 (eWs ws)), some (.dat d (.int t)), none, some (.dat false (.list ((sortI (tkn ws t)).map .int))), none] (A ++ eM b c (tell2 ws t m1) :: B)]
  rotate_left
  · unfold tell2
    by_cases e1 : (ws.filter fun w => w.dn && w.s == t).isEmpty = true
    · simp [e1]
    · simp [e1]
  generalize tell2 ws t m1 = m2
  walk_at "nc"
  rw [kSeq_to [some (.own A.length), some (.dat b2 (eWs ws)), some (.dat d (.int t)), none, some (.dat false (.list ((sortI (tkn ws t)).map .int))), some (.dat false (.list ((may c m2).map .int)))] (A ++ eM b c m2 :: B)]
  rotate_left
  · unfold may
    cases e1 : m2.taker with
    | some p => simp [e1, eTk]
    | none => simp [e1, atI, ixN]
  walk_at "nc"
  rw [hush_loop]
  walk_at "nc"
def dueM (c : List Lev) (m : Mt) (t : Int) : List Int := if (m.over || decide (t < m.quiet)) = true then [] else match m.taker with
  | some p => if (decide (0 < m.clock - m.since) && ((m.clock - m.since) % evOf c p == 0)) = true then [p] else []
  | none => if (levAt c m.clock).2 = true then (levAt c m.clock).1 else []
theorem evOf_pos {c : List Lev} [h : OkCh c] {p : Int} (hp : p ∈ ppl c) : 0 < evOf c p := by
  obtain ⟨l, r, e, hl⟩ := mem_ppl hp
  unfold evOf
  rw [e]
  have := (h.lev l hl).e1
  simp only
  omega
theorem due_e {c : List Lev} [h : OkCh c] (b d : Bool) (t : Int) (A B : Sto) (m : Mt) (hm : ∀ p, m.taker = some p → p ∈ ppl c) :
    sem_Matter_due [.own A.length, .dat d (.int t)] (A ++ eM b c m :: B) = some (.dat false (.list ((dueM c m t).map .int)), A ++ eM b c m :: B) := by
  unfold sem_Matter_due body_Matter_due dueM
  walk_at "nc"
  by_cases e1 : m.over = true
  · simp [e1]
  by_cases e2 : t < m.quiet
  · simp [e1, e2]
  rw [if_neg (by simp [e1]; omega)]
  simp only [Bool.not_eq_true] at e1
  cases e3 : m.taker with
  | some p =>
    have hp := hm p e3
    have hq := evOf_pos hp
    simp [e1, e2, e3, eTk]
    by_cases e4 : m.since < m.clock
    · simp [e4, e3, eTk, every_of_e hp]
      simp (disch := first | assumption | omega) only [oIntC_p]
      by_cases e5 : (m.clock - m.since) % evOf c p = 0
      · simp [e5, e3, eTk]
      · simp [e5, bq_F e5]
    · simp [e4]
  | none =>
    simp [e1, e2, e3, eTk]
    by_cases e4 : (levAt c m.clock).2 = true
    · simp [e4]
    · simp [e4]
end Nc
set_option Elab.async false
set_option linter.all false
set_option maxRecDepth 100000
set_option maxHeartbeats 1000000
namespace Nc
open PySem PySem.Spec PyProof.Rows L2
local macro_rules | `(tactic| walk_at "nc") => `(tactic| repeat (first | simp [atI, ixN, zipI, cutG, HT.sIx, Function.comp_def] | simp (disch := first | assumption | omega) only [oIntC_p, le_T, le_F, lt_T, lt_F, bq_F, in_T, in_F] | rw [if_pos (by omega)] | rw [if_neg (by omega)] | omega))
theorem insI_mem {a x : Int} : ∀ {l : List Int}, x ∈ insI a l ↔ x = a ∨ x ∈ l
  | [] => by simp [insI]
  | b :: r => by
    unfold insI
    split
    · simp
    · simp only [List.mem_cons, insI_mem (l := r)]
      constructor
      · rintro (h | h | h) <;> simp [h]
      · rintro (h | h | h) <;> simp [h]
theorem sortI_mem {x : Int} : ∀ {l : List Int}, x ∈ sortI l ↔ x ∈ l
  | [] => by simp [sortI]
  | a :: r => by simp [sortI, insI_mem, sortI_mem (l := r)]
def stepM (c : List Lev) (ws : List Wd) (s : Mt × List (List Int)) (i : Nat) : Mt × List (List Int) :=
  let m1 := tell c ws (i : Int) s.1
  ({ m1 with clock := m1.clock + (if m1.quiet ≤ (i : Int) then 1 else 0) }, s.2 ++ [dueM c m1 (i : Int)])
def dueBy (c : List Lev) (ws : List Wd) : List (List Int) := ((List.range 61).foldl (stepM c ws) (⟨0, 0, none, 0, false⟩, [])).2
def endM (c : List Lev) (ws : List Wd) : Mt := ((List.range 61).foldl (stepM c ws) (⟨0, 0, none, 0, false⟩, [])).1
theorem tell_taker {c : List Lev} {ws : List Wd} [hw : OkWs (ppl c) ws] {t : Int} {m : Mt} (hm : ∀ p, m.taker = some p → p ∈ ppl c) : ∀ p, (tell c ws t m).taker = some p → p ∈ ppl c := by
  intro p hp
  have h2 : (tell c ws t m).taker = (tell1 ws t m).taker := by
    unfold tell tell2
    simp only
    split <;> rfl
  rw [h2] at hp
  unfold tell1 at hp
  split at hp
  · rename_i q qs e1 e2
    simp only [Option.some.injEq] at hp
    subst hp
    have : q ∈ tkn ws t := sortI_mem.mp (e2 ▸ List.mem_cons_self)
    unfold tkn at this
    obtain ⟨w, hw1, rfl⟩ := List.mem_map.mp this
    exact (hw.wd w (List.mem_filter.mp hw1).1).p
  · exact hm p hp
@[simp] theorem lk_get1 {A B : Sto} {x y : OO} : (A ++ x :: y :: B)[A.length + 1]? = some y := by
  rw [List.getElem?_append_right (by omega)]
  simp
@[simp] theorem lk_set1 {A B : Sto} {x y z : OO} : (A ++ x :: y :: B).set (A.length + 1) z = A ++ x :: z :: B := by
  rw [List.set_append_right _ _ (by omega)]
  simp
theorem due_by_e {c : List Lev} {ws : List Wd} [h : OkCh c] [hw : OkWs (ppl c) ws] (b b2 : Bool) (S : Sto) :
    sem_due_by [.dat b (eCh c), .dat b2 (eWs ws)] S = some (.own (S.length + 1), S ++ [eM b c (endM c ws), .lst ((dueBy c ws).map fun r => .dat false (eIs r))]) := by
  unfold sem_due_by body_due_by
  walk_at "nc"
  unfold rangeI
  simp only [Int.zero_add]
  rw [kSeq_to [some (.dat b (eCh c)), some (.dat b2 (eWs ws)), some (.own S.length), some (.own (S.length + 1)), none] (S ++ [eM b c (endM c ws), .lst ((dueBy c ws).map fun r => .dat false (eIs r))])]
  rotate_left
  · refine (forL_env (fun _ : Mt × List (List Int) => [some (.dat b (eCh c)), some (.dat b2 (eWs ws)), some (.own S.length), some (.own (S.length + 1)), none]) (fun s : Mt × List (List Int) => S ++ [eM b c s.1, .lst (s.2.map fun r => .dat false (eIs r))])
      (stepM c ws) (fun i s => s.2.length = i ∧ ∀ p, s.1.taker = some p → p ∈ ppl c) (fun (i : Nat) => .dat false (.int (i : Int))) (List.range 61) 0 (⟨0, 0, none, 0, false⟩, []) ⟨rfl, fun _ e => by cases e⟩ (fun i s x hx hP => ?_)).1
    obtain ⟨hl, ht⟩ := hP
    obtain ⟨m, rows⟩ := s
    have hi := (List.getElem?_eq_some_iff.mp hx).1
    simp only [List.length_range] at hi
    refine ⟨?_, by unfold stepM; simp at hl ⊢; omega, tell_taker ht⟩
    have ht' := tell_taker (ws := ws) (t := (x : Int)) ht
    simp only at hl
    unfold stepM
    generalize hm1 : tell c ws (x : Int) m = m1 at ht' ⊢
    have et := told_e (c := c) (ws := ws) b b2 false (x : Int) S [.lst (rows.map fun r => .dat false (eIs r))] m
    rw [hm1] at et
    have ed := due_e (c := c) b false (x : Int) S [.lst (rows.map fun r => .dat false (eIs r))] m1 ht'
    have hl2 : rows.length < 100000 := by omega
    simp [et, ed]
    walk_at "nc"
  walk_at "nc"
/-! ### pairs -/
theorem enumI_map {α : Type} (b : Bool) (f : α → PyData) : ∀ (xs : List α) (n : Nat), enumI n (xs.map fun x => .dat b (f x)) = some ((xs.zipIdx n).map fun p => mkD b (.tuple [.int (p.2 : Int), f p.1]))
  | [], n => rfl
  | x :: xs, n => by
    rw [List.map_cons, enumI, enumI_map b f xs (n + 1)]
    rfl
def prs (rows : List (List Int)) : List (Int × Int) := (rows.zipIdx).flatMap fun r => r.1.map fun p => ((r.2 : Int), p)
theorem mkD_row (b : Bool) (n : Int) (r : List Int) : mkD b (.tuple [.int n, eIs r]) = .dat b (.tuple [.int n, eIs r]) := by
  simp [mkD_tup]
theorem pairs_of_e {rows : List (List Int)} (hl : rows.length ≤ 100) (hr : ∀ r ∈ rows, r.length ≤ 100) (b : Bool) (S : Sto) :
    sem_pairs_of [.dat b (eTab rows)] S = some (.own S.length, S ++ [.lst ((prs rows).map fun p => .dat false (ePr p))]) := by
  unfold sem_pairs_of body_pairs_of
  walk_at "nc"
  rw [enumI_map b eIs rows 0]
  simp only [mkD_row]
  walk_at "nc"
  rw [kSeq_to [some (.dat b (eTab rows)), some (.own S.length), none, none, none] (S ++ [.lst ((prs rows).map fun p => .dat false (ePr p))])]
  rotate_left
  · have key := fun bd hh => (forL_env (bd := bd) (fun _ : List (Int × Int) => [some (.dat b (eTab rows)), some (.own S.length), none, none, none]) (fun s : List (Int × Int) => S ++ [.lst (s.map fun p => .dat false (ePr p))])
      (fun s (r : List Int × Nat) => s ++ r.1.map fun p => ((r.2 : Int), p)) (fun i s => s.length ≤ 100 * i) (fun (r : List Int × Nat) => .dat b (.tuple [.int (r.2 : Int), eIs r.1])) (rows.zipIdx) 0 [] (by simp) hh).1
    rw [foldl_app] at key
    refine key _ (fun i s x hx hP => ?_)
    obtain ⟨r, n⟩ := x
    have hi := (List.getElem?_eq_some_iff.mp hx).1
    have hm := List.mem_of_getElem? hx
    rw [List.mem_zipIdx_iff_getElem?] at hm
    have hrl := hr r (List.mem_of_getElem? hm)
    simp only [List.length_zipIdx] at hi
    refine ⟨?_, by simp; omega⟩
    walk_at "nc"
    rw [compL_y (fun p : Int => .dat false (.int p)) (fun p => .dat false (ePr ((n : Int), p))) r (fun p hp => by
      refine ⟨_, rfl, ?_⟩
      unfold ePr
      simp [mkD_tup])]
    walk_at "nc"
  walk_at "nc"
theorem levAt_len {c : List Lev} (h : ∀ l ∈ c, OkLev l) (t : Int) : (levAt c t).1.length ≤ 3 := by
  induction c generalizing t with
  | nil => simp [levAt]
  | cons l r ih =>
    unfold levAt
    split
    · exact (h l List.mem_cons_self).l3
    · exact ih (fun x hx => h x (List.mem_cons_of_mem _ hx)) _
theorem dueM_len {c : List Lev} [h : OkCh c] (m : Mt) (t : Int) : (dueM c m t).length ≤ 3 := by
  unfold dueM
  split
  · simp
  · cases m.taker with
    | some p => simp only; split <;> simp
    | none =>
      simp only
      split
      · exact levAt_len h.lev _
      · simp
theorem foldM_len {c : List Lev} {ws : List Wd} [h : OkCh c] (xs : List Nat) (s : Mt × List (List Int)) (hs : ∀ r ∈ s.2, r.length ≤ 3) : (xs.foldl (stepM c ws) s).2.length = s.2.length + xs.length ∧ ∀ r ∈ (xs.foldl (stepM c ws) s).2, r.length ≤ 3 := by
  induction xs generalizing s with
  | nil => exact ⟨rfl, hs⟩
  | cons x xs ih =>
    obtain ⟨h1, h2⟩ := ih (stepM c ws s x) (by
      intro r hr
      unfold stepM at hr
      rcases List.mem_append.mp hr with hr | hr
      · exact hs r hr
      · simp only [List.mem_singleton] at hr
        subst hr
        exact dueM_len _ _)
    refine ⟨?_, h2⟩
    rw [List.foldl_cons, h1]
    simp [stepM]
    omega
theorem dueBy_len {c : List Lev} {ws : List Wd} [h : OkCh c] : (dueBy c ws).length = 61 ∧ ∀ r ∈ dueBy c ws, r.length ≤ 3 := by
  have := foldM_len (c := c) (ws := ws) (List.range 61) (⟨0, 0, none, 0, false⟩, []) (by simp)
  simpa [dueBy] using this
theorem due_all_e {c : List Lev} {ws : List Wd} [h : OkCh c] [hw : OkWs (ppl c) ws] (b d : Bool) (S : Sto) :
    sem_due_all [.dat b (eCh c), .dat d (eWs ws)] S = some (.own S.length, S ++ [.lst ((prs (dueBy c ws)).map fun p => .dat false (ePr p))]) := by
  have hb := dueBy_len (c := c) (ws := ws)
  have hd := due_by_e (c := c) (ws := ws) true true []
  have hp := fun b S => pairs_of_e (rows := dueBy c ws) (by omega) (fun r hr => by have := hb.2 r hr; omega) b S
  unfold sem_due_all body_due_all
  simp [hd, hp]
end Nc
set_option Elab.async false
set_option linter.all false
set_option maxRecDepth 100000
set_option maxHeartbeats 1000000
namespace Nc
open PySem PySem.Spec PyProof.Rows L2
local macro_rules | `(tactic| walk_at "nc") => `(tactic| repeat (first | simp [atI, ixN, zipI, cutG, HT.sIx, Function.comp_def] | simp (disch := first | assumption | omega) only [oIntC_p, le_T, le_F, lt_T, lt_F, bq_F, in_T, in_F] | rw [if_pos (by omega)] | rw [if_neg (by omega)] | omega))
/-! ### the law's own walk -/
def rgs (c : List Lev) : List (List Int × Bool) := c.flatMap fun l => (List.range (l.2.1 * l.2.2).toNat).map fun (j : Nat) => (l.1, ((j : Int) % l.2.1 == 0))
theorem rgs_at {c : List Lev} (h : ∀ l ∈ c, OkLev l) : ∀ t : Int, 0 ≤ t → (t < (rgs c).length → (rgs c)[t.toNat]? = some (levAt c t)) ∧ (¬ t < (rgs c).length → levAt c t = ([], false)) := by
  induction c with
  | nil => intro t ht; exact ⟨fun h => absurd h (by simp [rgs]; omega), fun _ => rfl⟩
  | cons l r ih =>
    intro t ht
    haveI := h l List.mem_cons_self
    have hp := Lev.prod (l := l)
    have e1 := this.e1
    have ih := ih (fun x hx => h x (List.mem_cons_of_mem _ hx)) (t - l.2.1 * l.2.2)
    have e : rgs (l :: r) = ((List.range (l.2.1 * l.2.2).toNat).map fun (j : Nat) => (l.1, ((j : Int) % l.2.1 == 0))) ++ rgs r := rfl
    have hl : ((rgs (l :: r)).length : Int) = l.2.1 * l.2.2 + (rgs r).length := by
      rw [e]; simp; omega
    unfold levAt
    by_cases h1 : t < l.2.1 * l.2.2
    · rw [if_pos h1]
      refine ⟨fun _ => ?_, fun h2 => absurd h2 (by omega)⟩
      rw [e, List.getElem?_append_left (by simp; omega), List.getElem?_map, List.getElem?_range (by omega)]
      simp [Int.toNat_of_nonneg ht]
    · rw [if_neg h1]
      have ih := ih (by omega)
      refine ⟨fun h2 => ?_, fun h2 => ih.2 (by omega)⟩
      rw [e, List.getElem?_append_right (by simp; omega)]
      rw [← ih.1 (by omega)]
      congr 1
      simp
      omega
def eRg (p : List Int × Bool) : PyData := .tuple [.list (p.1.map .int), .bool p.2]
theorem rungs_e {c : List Lev} [h : OkCh c] (b : Bool) (S : Sto) : sem__law_rungs [.dat b (eCh c)] S = some (.own S.length, S ++ [.lst ((rgs c).map fun p => .dat b (eRg p))]) := by
  unfold sem__law_rungs body__law_rungs
  walk_at "nc"
  rw [kSeq_to [some (.dat b (eCh c)), some (.own S.length), none, none, none, none] (S ++ [.lst ((rgs c).map fun p => .dat b (eRg p))])]
  rotate_left
  · have key := fun bd hh => (forL_env (bd := bd) (fun _ : List (List Int × Bool) => [some (.dat b (eCh c)), some (.own S.length), none, none, none, none]) (fun s : List (List Int × Bool) => S ++ [.lst (s.map fun p => .dat b (eRg p))])
      (fun s (l : Lev) => s ++ (List.range (l.2.1 * l.2.2).toNat).map fun (j : Nat) => (l.1, ((j : Int) % l.2.1 == 0))) (fun i s => s.length ≤ 45 * i) (fun l => .dat b (eLev l)) c 0 [] (by simp) hh).1
    rw [foldl_app] at key
    refine key _ (fun i s l hx hP => ?_)
    have hi := (List.getElem?_eq_some_iff.mp hx).1
    have hm := List.mem_of_getElem? hx
    haveI hl := h.lev l hm
    have l4 := h.l4
    have hp := Lev.prod (l := l)
    have e1 := hl.e1; have e9 := hl.e9; have t1 := hl.t1; have t5 := hl.t5
    refine ⟨?_, by simp; omega⟩
    unfold eLev
    walk_at "nc"
    unfold rangeI
    simp only [Int.zero_add]
    rw [compL_y (fun i : Nat => .dat false (.int (i : Int))) (fun (j : Nat) => .dat b (eRg (l.1, ((j : Int) % l.2.1 == 0)))) (List.range (l.2.1 * l.2.2).toNat) (fun p hp => by
      refine ⟨_, rfl, ?_⟩
      unfold eRg
      walk_at "nc"
      simp [mkD_tup])]
    have hne : (List.range (l.2.1 * l.2.2).toNat).isEmpty = false := by
      rw [List.isEmpty_eq_false_iff]
      intro e
      have := congrArg List.length e
      simp at this
      omega
    rw [if_pos (by simp; omega)]
    simp only [bnd_mk]
    rw [allDat_map]
    simp only [hne, Bool.not_false, Bool.and_true]
    have hmk : ∀ p, mkD b (eRg p) = .dat b (eRg p) := fun p => by simp [eRg, mkD_tup]
    simp [Function.comp_def, hmk]
    walk_at "nc"
  walk_at "nc"
def eT : Option Int → Int
  | none => -1
  | some p => p
theorem minL_min (n : Int) : ∀ (ns : List Int) (a : Int), minL (min a n) ns = min a (minL n ns)
  | [], a => rfl
  | x :: ns, a => by
    show minL (min (min a n) x) ns = min a (minL (min n x) ns)
    rw [← minL_min (min n x) ns a]
    congr 1
    omega
theorem sortI_head (n : Int) : ∀ ns : List Int, ∃ r, sortI (n :: ns) = minL n ns :: r
  | [] => ⟨[], rfl⟩
  | x :: ns => by
    obtain ⟨r, e⟩ := sortI_head x ns
    have e2 : minL n (x :: ns) = min n (minL x ns) := minL_min x ns n
    show ∃ r, insI n (sortI (x :: ns)) = minL n (x :: ns) :: r
    rw [e, e2]
    unfold insI
    split
    · exact ⟨_, by rw [show min n (minL x ns) = n by omega]⟩
    · exact ⟨_, by rw [show min n (minL x ns) = minL x ns by omega]⟩
theorem tkn_now (ws : List Wd) (t : Int) : ((ws.filter fun w => w.s == t).filter fun w => w.tk).map Wd.p = tkn ws t := by
  unfold tkn
  rw [List.filter_filter]
def Wd.kd : Wd → Str
  | .take _ _ _ => "take"
  | .off _ _ _ _ => "off"
  | .done _ _ _ => "done"
theorem any_kd (ws : List Wd) : ((ws.map fun w => PyData.str w.kd).any fun z => PyData.eqv z (.str "done")) = ws.any Wd.dn := by
  induction ws with
  | nil => rfl
  | cons w ws ih =>
    rw [List.map_cons, List.any_cons, List.any_cons, ih]
    congr 1
    cases w <;> simp [Wd.kd, Wd.dn]
theorem all_kd (ws : List Wd) : ((ws.map fun w => PyData.str w.kd).all flatD) = true := by
  induction ws with
  | nil => rfl
  | cons w ws ih => simpa using ih
@[simp high] theorem kIn_kd {ws : List Wd} {S : Sto} : kIn (some (.str "done")) (some (.list (ws.map fun w => PyData.str w.kd))) false S = some (.dat false (.bool (ws.any Wd.dn)), S) := by
  rw [kIn_l, if_pos ⟨rfl, all_kd ws⟩, any_kd]
  rfl
theorem any_dn (ws : List Wd) (t : Int) : (ws.filter fun w => w.s == t).any Wd.dn = !(ws.filter fun w => w.dn && (w.s == t)).isEmpty := by
  induction ws with
  | nil => rfl
  | cons w ws ih =>
    rw [List.filter_cons, List.filter_cons]
    cases h1 : (w.s == t) <;> cases h2 : w.dn <;> simp [h2, ih]
theorem hush_max (ws : List Wd) (t : Int) (ps : List Int) (q : Int) : maxL q (List.map (fun w => t + w.t) (List.filter (fun w => w.of && decide (w.p ∈ ps)) (List.filter (fun w => w.s == t) ws))) = hush ws t ps q := by
  unfold maxL hush
  induction ws generalizing q with
  | nil => rfl
  | cons w ws ih =>
    rw [List.foldl_cons, ← ih]
    cases h1 : (w.s == t) <;> cases h2 : w.of <;> cases h3 : decide (w.p ∈ ps) <;> simp [List.filter_cons, h1, h2, h3]
def rowL (c : List Lev) (tk : Option Int) (ck si : Int) : List Int := match tk with
  | some p => if (decide (si < ck) && ((ck - si) % evOf c p == 0)) = true then [p] else []
  | none => if (levAt c ck).2 = true then (levAt c ck).1 else []
theorem table_e {c : List Lev} {ws : List Wd} [h : OkCh c] [hw : OkWs (ppl c) ws] (b b2 : Bool) (S : Sto) :
    sem__law_table [.dat b (eCh c), .dat b2 (eWs ws)] S = some (.own S.length, S ++ [.lst ((dueBy c ws).map fun r => .dat false (eIs r))]) := by
  have hwl := hw.len
  have hpos : ∀ p ∈ ppl c, 0 ≤ p := fun p hp => by
    obtain ⟨l, hl, hp⟩ := List.mem_flatMap.mp hp
    exact ((h.lev l hl).rg p hp).1
  have hr := rungs_e (c := c) true []
  unfold sem__law_table body__law_table
  simp [hr, allDat_map]
  generalize ((!(rgs c).isEmpty) && b) = q
  unfold rangeI
  simp only [Int.zero_add]
  rw [kSeq_to [some (.dat b (eCh c)), some (.dat b2 (eWs ws)), some (.dat q (.list ((rgs c).map eRg))), some (.own S.length), some (.dat false (.int (endM c ws).clock)), some (.dat false (.int (endM c ws).quiet)), some (.dat false (.int (eT (endM c ws).taker))), some (.dat false (.int (endM c ws).since)), some (.dat false (.bool (endM c ws).over)), none, none, none, none, none, none, none, none, none, none] (S ++ [.lst ((dueBy c ws).map fun r => .dat false (eIs r))])]
  rotate_left
  · refine (forL_env (fun s : Mt × List (List Int) => [some (.dat b (eCh c)), some (.dat b2 (eWs ws)), some (.dat q (.list ((rgs c).map eRg))), some (.own S.length), some (.dat false (.int s.1.clock)), some (.dat false (.int s.1.quiet)), some (.dat false (.int (eT s.1.taker))), some (.dat false (.int s.1.since)), some (.dat false (.bool s.1.over)), none, none, none, none, none, none, none, none, none, none]) (fun s : Mt × List (List Int) => S ++ [.lst (s.2.map fun r => .dat false (eIs r))])
      (stepM c ws) (fun i s => s.2.length = i ∧ (∀ p, s.1.taker = some p → p ∈ ppl c) ∧ 0 ≤ s.1.clock) (fun (i : Nat) => .dat false (.int (i : Int))) (List.range 61) 0 (⟨0, 0, none, 0, false⟩, []) ⟨rfl, fun _ e => (by cases e), Int.le_refl _⟩ (fun i s x hx hP => ?_)).1
    obtain ⟨hl, ht, hck⟩ := hP
    obtain ⟨m, rows⟩ := s
    have hi := (List.getElem?_eq_some_iff.mp hx).1
    simp only [List.length_range] at hi
    simp only at hl ht hck
    have hl2 : rows.length < 100000 := by omega
    have hcl : (tell c ws (x : Int) m).clock = m.clock := by
      unfold tell tell2 tell1
      simp only
      split <;> split <;> rfl
    refine ⟨?_, by unfold stepM; simp at hl ⊢; omega, tell_taker ht, by
      unfold stepM
      simp only [hcl]
      split <;> omega⟩
    have ht' := tell_taker (ws := ws) (t := (x : Int)) ht
    obtain ⟨m1, hm1⟩ : ∃ m1, m1 = tell1 ws (x : Int) m := ⟨_, rfl⟩
    obtain ⟨m2, hm2⟩ : ∃ m2, m2 = tell2 ws (x : Int) m1 := ⟨_, rfl⟩
    have k1 : m1.clock = m.clock ∧ m1.quiet = m.quiet ∧ m1.over = m.over := by
      rw [hm1]; unfold tell1; split <;> exact ⟨rfl, rfl, rfl⟩
    have k2 : m2.clock = m1.clock ∧ m2.quiet = m1.quiet ∧ m2.taker = m1.taker ∧ m2.since = m1.since ∧ m2.over = (m1.over || (ws.filter fun w => w.s == (x : Int)).any Wd.dn) := by
      rw [hm2, any_dn]; unfold tell2; split <;> rename_i e1
      · simp [e1]
      · simp [e1]
    have k2c : m2.clock = m.clock := k2.1.trans k1.1
    have k2q : m2.quiet = m.quiet := k2.2.1.trans k1.2.1
    have k2t := k2.2.2.1
    have k2s := k2.2.2.2.1
    have k2o : m2.over = (m.over || (ws.filter fun w => w.s == (x : Int)).any Wd.dn) := by rw [k2.2.2.2.2, k1.2.2]
    have hst : stepM c ws (m, rows) x = ({ m2 with quiet := hush ws (x : Int) (may c m2) m2.quiet, clock := m2.clock + (if hush ws (x : Int) (may c m2) m2.quiet ≤ (x : Int) then 1 else 0) }, rows ++ [dueM c { m2 with quiet := hush ws (x : Int) (may c m2) m2.quiet } (x : Int)]) := by
      rw [hm2, hm1]; rfl
    have k2t' : (tell c ws (x : Int) m).taker = m1.taker := by
      rw [← k2t, hm2, hm1]; rfl
    rw [hst]
    simp only [turnS_e, bName_e, kBind_e, sSeq_e]
    simp only [List.set_cons_succ, List.set_cons_zero]
    refine turn_ex (fun q1 => [some (.dat b (eCh c)), some (.dat b2 (eWs ws)), some (.dat q (.list ((rgs c).map eRg))), some (.own S.length), some (.dat false (.int m.clock)), some (.dat false (.int m.quiet)), some (.dat false (.int (eT m.taker))), some (.dat false (.int m.since)), some (.dat false (.bool m.over)), some (.dat false (.int (x : Int))), some (.dat q1 (.list ((levAt c m.clock).1.map .int))), some (.dat false (.bool (levAt c m.clock).2)), none, none, none, none, none, none, none]) (S ++ [.lst (rows.map fun r => .dat false (eIs r))]) ?_ (fun q1 => ?_)
    · obtain ⟨r1, r2⟩ := rgs_at h.lev m.clock hck
      by_cases hc : m.clock < (rgs c).length
      · have r1 := r1 hc
        refine ⟨q, ?_⟩
        simp [hc, atI, ixN, hck, r1, eRg, mkD_tup]
        obtain ⟨_, e⟩ := List.getElem?_eq_some_iff.mp r1
        rw [e]
        exact ⟨rfl, rfl⟩
      · have r2 := r2 hc
        refine ⟨false, ?_⟩
        rw [r2]
        simp [hc]
    have hN : (ws.filter fun w => w.s == (x : Int)).length ≤ 100000 := Nat.le_trans (List.length_filter_le _ _) (by omega)
    walk_at "nc"
    rw [compL_ev (fun w => .dat false (eWd w)) (fun w => w.s == (x : Int)) (fun w => .dat false (eWd w)) ws (fun w hw' => by
      refine ⟨_, rfl, ?_, fun _ => ?_⟩
      · cases w <;> unfold eWd <;> simp only [Wd.s] <;> walk_at "nc"
      · cases w <;> unfold eWd <;> walk_at "nc")]
    walk_at "nc"
    rw [compL_ev (fun w => .dat false (eWd w)) (fun w => w.tk) (fun w => .dat false (.int w.p)) (ws.filter fun w => w.s == (x : Int)) (fun w hw' => by
      refine ⟨_, rfl, ?_, fun _ => ?_⟩
      · cases w <;> unfold eWd <;> simp only [Wd.tk] <;> walk_at "nc"
      · cases w <;> unfold eWd <;> simp only [Wd.p] <;> walk_at "nc")]
    have eN : List.map (fun x => PyData.int x.p) (List.filter (fun w => w.tk) (List.filter (fun w => w.s == (x : Int)) ws)) = (tkn ws (x : Int)).map .int := by
      rw [← tkn_now]; simp [Function.comp_def]
    simp only [bnd_mk, allDat_f, kDs_e, bName_e, kAsg_e, kSeq_nx, eN, sSeq_e, List.set_cons_succ, List.set_cons_zero]
    rw [kSeq_to [some (.dat b (eCh c)), some (.dat b2 (eWs ws)), some (.dat q (.list ((rgs c).map eRg))), some (.own S.length), some (.dat false (.int m.clock)), some (.dat false (.int m.quiet)), some (.dat false (.int (eT (tell1 ws (x : Int) m).taker))), some (.dat false (.int (tell1 ws (x : Int) m).since)), some (.dat false (.bool m.over)), some (.dat false (.int (x : Int))), some (.dat q1 (.list ((levAt c m.clock).1.map .int))), some (.dat false (.bool (levAt c m.clock).2)), none, some (.dat false (.list ((ws.filter fun w => w.s == (x : Int)).map eWd))), some (.dat false (.list ((tkn ws (x : Int)).map .int))), none, none, none, none] (S ++ [.lst (rows.map fun r => .dat false (eIs r))])]
    rotate_left
    · unfold tell1
      cases e1 : m.taker with
      | some p =>
        have hp := hpos p (ht p e1)
        simp [e1, eT]
        simp (disch := first | assumption | omega) only [lt_F]
        simp
      | none =>
        obtain e2 | ⟨n, ns, e2⟩ : tkn ws (x : Int) = [] ∨ ∃ n ns, tkn ws (x : Int) = n :: ns := by
          cases tkn ws (x : Int) with
          | nil => exact .inl rfl
          | cons n ns => exact .inr ⟨n, ns, rfl⟩
        · simp [e1, e2, eT, sortI]
        · obtain ⟨r, e3⟩ := sortI_head n ns
          simp [e1, e2, e3, eT]
    rw [← hm1]
    rw [sSeq_e, kSeq_to [some (.dat b (eCh c)), some (.dat b2 (eWs ws)), some (.dat q (.list ((rgs c).map eRg))), some (.own S.length), some (.dat false (.int m.clock)), some (.dat false (.int m.quiet)), some (.dat false (.int (eT m1.taker))), some (.dat false (.int m1.since)), some (.dat false (.bool m2.over)), some (.dat false (.int (x : Int))), some (.dat q1 (.list ((levAt c m.clock).1.map .int))), some (.dat false (.bool (levAt c m.clock).2)), none, some (.dat false (.list ((ws.filter fun w => w.s == (x : Int)).map eWd))), some (.dat false (.list ((tkn ws (x : Int)).map .int))), none, none, none, none] (S ++ [.lst (rows.map fun r => .dat false (eIs r))])]
    rotate_left
    · simp
      cases e1 : m.over with
      | true => simp [k2o, e1]
      | false =>
        simp [Function.comp_def]
        rw [if_pos hN]
        rw [compL_y (fun w => .dat false (eWd w)) (fun w => .dat false (.str w.kd)) (ws.filter fun w => w.s == (x : Int)) (fun w hw' => by
          refine ⟨_, rfl, ?_⟩
          cases w <;> unfold eWd <;> simp only [Wd.kd] <;> walk_at "nc")]
        simp [k2o, e1]
    rw [sSeq_e]
    refine turn_ex (fun q2 => [some (.dat b (eCh c)), some (.dat b2 (eWs ws)), some (.dat q (.list ((rgs c).map eRg))), some (.own S.length), some (.dat false (.int m.clock)), some (.dat false (.int m.quiet)), some (.dat false (.int (eT m1.taker))), some (.dat false (.int m1.since)), some (.dat false (.bool m2.over)), some (.dat false (.int (x : Int))), some (.dat q1 (.list ((levAt c m.clock).1.map .int))), some (.dat false (.bool (levAt c m.clock).2)), none, some (.dat false (.list ((ws.filter fun w => w.s == (x : Int)).map eWd))), some (.dat false (.list ((tkn ws (x : Int)).map .int))), some (.dat q2 (.list ((may c m2).map .int))), none, none, none]) (S ++ [.lst (rows.map fun r => .dat false (eIs r))]) ?_ (fun q2 => ?_)
    · unfold may
      rw [k2t, k2c]
      cases e1 : m1.taker with
      | some p =>
        have hp := hpos p (ht' p (by rw [← k2t'] at e1; exact e1))
        refine ⟨false, ?_⟩
        simp [eT]
        simp (disch := first | assumption | omega) only [lt_F]
        simp
      | none => exact ⟨q1, by simp [eT]⟩
    rw [sSeq_e, kSeq_to [some (.dat b (eCh c)), some (.dat b2 (eWs ws)), some (.dat q (.list ((rgs c).map eRg))), some (.own S.length), some (.dat false (.int m.clock)), some (.dat false (.int (hush ws (x : Int) (may c m2) m.quiet))), some (.dat false (.int (eT m1.taker))), some (.dat false (.int m1.since)), some (.dat false (.bool m2.over)), some (.dat false (.int (x : Int))), some (.dat q1 (.list ((levAt c m.clock).1.map .int))), some (.dat false (.bool (levAt c m.clock).2)), none, some (.dat false (.list ((ws.filter fun w => w.s == (x : Int)).map eWd))), some (.dat false (.list ((tkn ws (x : Int)).map .int))), some (.dat q2 (.list ((may c m2).map .int))), none, none, none] (S ++ [.lst (rows.map fun r => .dat false (eIs r))])]
    rotate_left
    · simp [Function.comp_def]
      rw [if_pos hN]
      rw [compL_ev (fun w => .dat false (eWd w)) (fun w => w.of && decide (w.p ∈ may c m2)) (fun w => .dat false (.int ((x : Int) + w.t))) (ws.filter fun w => w.s == (x : Int)) (fun w hw' => by
        refine ⟨_, rfl, ?_, fun h1 => ?_⟩
        · cases w with
          | off p s h t =>
            unfold eWd
            simp only [Wd.of, Wd.p]
            walk_at "nc"
            exact decide_eq_decide.mpr Iff.rfl
          | take p s h => unfold eWd; simp only [Wd.of, Wd.p]; walk_at "nc"
          | done p s h => unfold eWd; simp only [Wd.of, Wd.p]; walk_at "nc"
        · cases w with
          | off p s h t =>
            unfold eWd
            simp only [Wd.t]
            walk_at "nc"
          | take p s h => simp [Wd.of] at h1
          | done p s h => simp [Wd.of] at h1)]
      have hN2 : (List.filter (fun a => a.of && decide (a.p ∈ may c m2) && a.s == (x : Int)) ws).length ≤ 12 := Nat.le_trans (List.length_filter_le _ _) hwl
      walk_at "nc"
      rw [← hush_max]
      simp
    rw [sSeq_e, kSeq_to [some (.dat b (eCh c)), some (.dat b2 (eWs ws)), some (.dat q (.list ((rgs c).map eRg))), some (.own S.length), some (.dat false (.int m.clock)), some (.dat false (.int (hush ws (x : Int) (may c m2) m.quiet))), some (.dat false (.int (eT m1.taker))), some (.dat false (.int m1.since)), some (.dat false (.bool m2.over)), some (.dat false (.int (x : Int))), some (.dat q1 (.list ((levAt c m.clock).1.map .int))), some (.dat false (.bool (levAt c m.clock).2)), none, some (.dat false (.list ((ws.filter fun w => w.s == (x : Int)).map eWd))), some (.dat false (.list ((tkn ws (x : Int)).map .int))), some (.dat q2 (.list ((may c m2).map .int))), some (.dat false (.list ((if (levAt c m.clock).2 = true then (levAt c m.clock).1 else []).map .int))), none, none] (S ++ [.lst (rows.map fun r => .dat false (eIs r))])]
    rotate_left
    · cases e1 : (levAt c m.clock).2 with
      | true => simp [Function.comp_def]
      | false => simp
    rw [sSeq_e]
    refine turn_ex (fun o => [some (.dat b (eCh c)), some (.dat b2 (eWs ws)), some (.dat q (.list ((rgs c).map eRg))), some (.own S.length), some (.dat false (.int m.clock)), some (.dat false (.int (hush ws (x : Int) (may c m2) m.quiet))), some (.dat false (.int (eT m1.taker))), some (.dat false (.int m1.since)), some (.dat false (.bool m2.over)), some (.dat false (.int (x : Int))), some (.dat q1 (.list ((levAt c m.clock).1.map .int))), some (.dat false (.bool (levAt c m.clock).2)), none, some (.dat false (.list ((ws.filter fun w => w.s == (x : Int)).map eWd))), some (.dat false (.list ((tkn ws (x : Int)).map .int))), some (.dat q2 (.list ((may c m2).map .int))), some (.dat false (.list ((rowL c m1.taker m.clock m1.since).map .int))), none, o]) (S ++ [.lst (rows.map fun r => .dat false (eIs r))]) ?_ (fun o => ?_)
    · unfold rowL
      have ht1 : ∀ p, m1.taker = some p → p ∈ ppl c := fun p e => ht' p (k2t'.trans e)
      cases e1 : m1.taker with
      | some p =>
        have hp := ht1 p e1
        have hp0 := hpos p hp
        have hq := evOf_pos hp
        have l4 := h.l4
        simp only [eT]
        refine ⟨some (.dat false (.int (evOf c p))), ?_⟩
        walk_at "nc"
        rw [compL_ev (fun l => .dat b (eLev l)) (fun l => decide (p ∈ l.1)) (fun l => .dat false (.int l.2.1)) c (fun l hl => by
          unfold eLev
          refine ⟨_, rfl, ?_, fun _ => ?_⟩
          · walk_at "nc"
          · walk_at "nc")]
        obtain ⟨l, r, e, _⟩ := mem_ppl hp
        have eE : evOf c p = l.2.1 := by unfold evOf; rw [e]
        rw [e]
        rw [eE] at hq ⊢
        by_cases e4 : m1.since < m.clock
        · walk_at "nc"
          by_cases e5 : (m.clock - m1.since) % l.2.1 = 0
          · simp [e5, e4]
          · simp [e5, bq_F e5]
        · walk_at "nc"
      | none => exact ⟨none, by simp [eT]⟩
    have hmay : may c m2 = may c m2 := rfl
    generalize hH : hush ws (x : Int) (may c m2) m.quiet = H at *
    simp only [k2q, hH, k2c, k2t, k2s]
    have hD : dueM c { clock := m.clock, quiet := H, taker := m1.taker, since := m1.since, over := m2.over } (x : Int) = if (m2.over || decide ((x : Int) < H)) = true then [] else rowL c m1.taker m.clock m1.since := by
      unfold dueM rowL
      simp only
      split
      · rfl
      · cases m1.taker with
        | none => rfl
        | some p => simp only [show (decide (0 < m.clock - m1.since)) = decide (m1.since < m.clock) from decide_eq_decide.mpr (by omega)]
    rw [hD]
    cases e1 : m2.over with
    | true =>
      simp [hl2]
    | false =>
      by_cases e2 : (x : Int) < H
      · simp [e2, hl2]
      · simp [e2, hl2]
  walk_at "nc"
end Nc
set_option Elab.async false
set_option linter.all false
set_option maxRecDepth 100000
set_option maxHeartbeats 1000000
namespace Nc
open PySem PySem.Spec PyProof.Rows L2
local macro_rules | `(tactic| walk_at "nc") => `(tactic| repeat (first | simp [atI, ixN, zipI, cutG, HT.sIx, Function.comp_def] | simp (disch := first | assumption | omega) only [oIntC_p, le_T, le_F, lt_T, lt_F, bq_F, in_T, in_F] | rw [if_pos (by omega)] | rw [if_neg (by omega)] | omega))
theorem pairs_same : sem__law_pairs = sem_pairs_of := rfl
theorem copied_e {c : List Lev} [h : OkCh c] (b : Bool) (S : Sto) : sem__law_copied [.dat b (eCh c)] S = some (.own S.length, S ++ [.lst (c.map fun l => .dat false (eLev l))]) := by
  have l4 := h.l4
  unfold sem__law_copied body__law_copied
  walk_at "nc"
  rw [compL_y (fun l => .dat b (eLev l)) (fun l => .dat false (eLev l)) c (fun l hl => by
    unfold eLev
    refine ⟨_, rfl, ?_⟩
    walk_at "nc")]
  walk_at "nc"
/-- all that is due, of a chain and words, as pairs -/
abbrev duePs (c : List Lev) (ws : List Wd) : List (Int × Int) := prs (dueBy c ws)
theorem duePs_len {c : List Lev} {ws : List Wd} [h : OkCh c] : (duePs c ws).length ≤ 183 := by
  have hb := dueBy_len (c := c) (ws := ws)
  have := flatMap_len (fun r : List Int × Nat => r.1.map fun p => ((r.2 : Int), p)) 3 (dueBy c ws).zipIdx (fun x hx => by
    obtain ⟨r, n⟩ := x
    rw [List.mem_zipIdx_iff_getElem?] at hx
    have := hb.2 r (List.mem_of_getElem? hx)
    simpa using this)
  unfold duePs prs
  simp only [List.length_zipIdx, hb.1] at this
  exact this
end Nc
set_option Elab.async false
set_option linter.all false
set_option maxRecDepth 100000
set_option maxHeartbeats 1000000
namespace Nc
open PySem PySem.Spec PyProof.Rows L2
local macro_rules | `(tactic| walk_at "nc") => `(tactic| repeat (first | simp [atI, ixN, zipI, cutG, HT.sIx, Function.comp_def] | simp (disch := first | assumption | omega) only [oIntC_p, le_T, le_F, lt_T, lt_F, bq_F, in_T, in_F] | rw [if_pos (by omega)] | rw [if_neg (by omega)] | omega))
local macro_rules | `(tactic| walk_at "ncw") => `(tactic| repeat (first | simp [atI, ixN, zipI, cutG, HT.sIx, Function.comp_def] | simp (disch := first | assumption | omega) only [oIntC_w, oIntC_p, le_T, le_F, lt_T, lt_F, bq_F, in_T, in_F] | rw [if_pos (by omega)] | rw [if_neg (by omega)] | omega))
def lawN (x y z : Int) : Int := if 1000000000000000000 ≤ x then x else
  let a := x % 2147483647
  let d := ((a + 977 * y) * 48271 + z % 2147483647) % 2147483647
  let e := d * (d + 31 * y + 7) * (d + a + 5)
  e * (e + 48271) / 1009
theorem number_e {x y z : Int} (hy : y.natAbs ≤ 1000) (b c : Bool) (S : Sto) : sem__law_number [.dat false (.int x), .dat b (.int y), .dat c (.int z)] S = some (.dat false (.int (lawN x y z)), S) := by
  unfold sem__law_number body__law_number lawN
  by_cases h : 1000000000000000000 ≤ x
  · rw [if_pos h]
    walk_at "ncw"
  · rw [if_neg h]
    simp only
    have hd : ∀ d a' : Int, 0 ≤ d → d < 2147483647 → 0 ≤ a' → a' < 2147483647 → (d * (d + 31 * y + 7)).natAbs ≤ 2147483647 * 4000000000 ∧ (d * (d + 31 * y + 7) * (d + a' + 5)).natAbs ≤ 2147483647 * 4000000000 * 5000000000 := by
      intro d a' h1 h2 h3 h4
      have e1 := abs_mul_lt (i := d) (j := d + 31 * y + 7) (a := 2147483647) (b := 4000000000) (by omega) (by omega)
      exact ⟨e1, abs_mul_lt e1 (by omega)⟩
    have h3 : 0 ≤ x % 2147483647 := by omega
    have h4 : x % 2147483647 < 2147483647 := by omega
    walk_at "ncw"
    generalize x % 2147483647 = a' at *
    generalize hD : ((a' + 977 * y) * 48271 + z) % 2147483647 = d
    have h1 : 0 ≤ d := by omega
    have h2 : d < 2147483647 := by omega
    obtain ⟨e1, e2⟩ := hd d a' h1 h2 h3 h4
    walk_at "ncw"
end Nc
set_option Elab.async false
set_option linter.all false
set_option maxRecDepth 100000
set_option maxHeartbeats 1000000
namespace Nc
open PySem PySem.Spec PyProof.Rows L2
local macro_rules | `(tactic| walk_at "nc") => `(tactic| repeat (first | simp [atI, ixN, zipI, cutG, HT.sIx, Function.comp_def] | simp (disch := first | assumption | omega) only [oIntC_p, le_T, le_F, lt_T, lt_F, bq_F, in_T, in_F] | rw [if_pos (by omega)] | rw [if_neg (by omega)] | omega))
/-- the numbers that a script gives -/
def lawMs (ns : List Int) : List Int := if ns = [] then [5] else ns.take 63
theorem lawMs_pos (ns : List Int) : 1 ≤ (lawMs ns).length := by
  unfold lawMs
  split
  · simp
  · rename_i h
    cases ns with
    | nil => exact absurd rfl h
    | cons a r => simp
theorem cut_take {α : Type} (xs : List α) (n : Nat) : cutG xs none (some (n : Int)) = xs.take n := by
  unfold cutG
  rw [HT.sIx_none, HT.sIx_nat]
  simp
theorem cut_drop {α : Type} (xs : List α) (n : Nat) : cutG xs (some (n : Int)) none = xs.drop n := by
  unfold cutG
  rw [HT.sIx_none, HT.sIx_nat]
  rcases Nat.le_total n xs.length with h | h
  · rw [Nat.min_eq_left h]
    exact List.take_of_length_le (by simp)
  · rw [Nat.min_eq_right h, List.drop_eq_nil_of_le h]
    simp
theorem cut_take63 {α : Type} (xs : List α) : cutG xs none (some 63) = xs.take 63 := cut_take xs 63
theorem insI_le (a : Int) : ∀ l : List Int, l.Pairwise (· ≤ ·) → (insI a l).Pairwise (· ≤ ·)
  | [], _ => by simp [insI]
  | b :: r, h => by
    unfold insI
    have h' := List.pairwise_cons.mp h
    split
    · rename_i hab
      refine List.pairwise_cons.mpr ⟨fun x hx => ?_, h⟩
      rcases List.mem_cons.mp hx with e | hx
      · omega
      · have := h'.1 x hx
        omega
    · refine List.pairwise_cons.mpr ⟨fun x hx => ?_, insI_le a r h'.2⟩
      rcases insI_mem.mp hx with e | hx
      · omega
      · exact h'.1 x hx
theorem sortI_le : ∀ l : List Int, (sortI l).Pairwise (· ≤ ·)
  | [] => .nil
  | a :: r => insI_le a _ (sortI_le r)
theorem sortI_lt {l : List Int} (h : l.Nodup) : (sortI l).Pairwise (· < ·) := by
  have h2 : (sortI l).Nodup := (sortI_perm l).nodup_iff.mpr h
  exact ((sortI_le l).and h2).imp fun h => by omega
theorem for_ex {bd : OV → SS} {α β C : Type} {f : SS} (E : β → Env) (T : β → Sto) (P : Nat → β → Prop) (en : α → OV) (xs : List α) (a : β) {Q : C → Prop} {d : C → PyData} (h0 : P 0 a)
    (h : ∀ i a x, xs[i]? = some x → P i a → ∃ a', bd (en x) (E a) (T a) = some (.nx, E a', T a') ∧ P (i + 1) a')
    (k : ∀ a', P xs.length a' → ∃ c, Q c ∧ Gives (natD (kCall (f (E a') (T a')))) (.dat false (d c))) :
    ∃ c, Q c ∧ Gives (natD (kCall (kSeq (forL bd (fun _ => True) (xs.map en) (E a) (T a)) f))) (.dat false (d c)) := by
  obtain ⟨a', e, hp⟩ := forL_ex (bd := bd) E T P en xs 0 a h0 (by simpa using h)
  rw [e]
  exact k a' (by simpa using hp)
theorem chain_e (ns : List Int) (k : Int) (h0 : 0 ≤ k) (h1 : k ≤ 1) : ∃ c, OkCh c ∧ Gives (natD (sem__law_chain [.scr ns, .dat false (.int k)] [])) (.dat false (eCh c)) := by
  have hms := lawMs_pos ns
  unfold sem__law_chain body__law_chain
  simp only [callS_e, sSeq_e]
  rw [if_pos (show [_, _].length = 2 from rfl)]
  simp only [List.map_cons, List.map_nil, List.cons_append, List.nil_append, Nat.reduceSub, List.reduceReplicate]
  rw [kSeq_to [some (.scr ns), some (.dat false (.int k)), some (.dat false (.list ((lawMs ns).map .int))), none, none, none, none, none, none, none, none] []]
  rotate_left
  · unfold lawMs
    by_cases hn : ns = []
    · simp [hn]
    · have hne : ns.isEmpty = false := by simpa [List.isEmpty_iff] using hn
      simp only [if_neg hn]
      simp [cut_take63, Function.comp_def, hne]
  generalize lawMs ns = ms at *
  generalize OV.scr ns = N0
  have hn1 := fun S => number_e (x := ms.sum + k) (y := k + 3) (z := 3) (by omega) false false S
  rw [sSeq_e, kSeq_to [some N0, some (.dat false (.int k)), some (.dat false (.list (ms.map .int))), some (.dat false (.int (ms.sum + k))), some (.own 0), some (.dat false (.list ([3, 0, 7, 5, 1, 6, 2, 4].map .int))), none, none, none, none, none] [.lst []]]
  rotate_left
  · simp
  generalize hX : ms.sum + k = X at *
  generalize hV : lawN X (k + 3) 3 = V at *
  obtain ⟨w7, hw7, h71, h79⟩ : ∃ w : Int, w = (if V / 88 % 3 = 0 then 9 else if V / 88 % 3 = 1 then 3 else 4) ∧ 1 ≤ w ∧ w ≤ 9 := ⟨_, rfl, by split <;> (try split) <;> omega, by split <;> (try split) <;> omega⟩
  rw [sSeq_e, kSeq_to [some N0, some (.dat false (.int k)), some (.dat false (.list (ms.map .int))), some (.dat false (.int X)), some (.own 0), some (.dat false (.list ([3, 0, 7, 5, 1, 6, 2, 4].map .int))), some (.dat false (.int (V / 11 % 8))), some (.dat false (.int w7)), none, none, none] [.lst []]]
  rotate_left
  · have h3 : V / 88 % 3 = 0 ∨ V / 88 % 3 = 1 ∨ V / 88 % 3 = 2 := by omega
    repeat (first | simp [hn1] | simp (disch := first | assumption | omega) only [oIntC_p])
    rw [hw7]
    rcases h3 with h3 | h3 | h3 <;> simp [h3, atI, ixN]
  obtain ⟨p, hp⟩ : ∃ p : Nat, V / 11 % 8 = (p : Int) := ⟨(V / 11 % 8).toNat, by omega⟩
  have hp8 : p < 8 := by omega
  rw [hp]
  generalize hL0 : ([3, 0, 7, 5, 1, 6, 2, 4] : List Int) = L0 at *
  have hLl : L0.length = 8 := by rw [← hL0]; rfl
  have hLn : L0.Nodup := by rw [← hL0]; decide
  have hLr : ∀ x ∈ L0, 0 ≤ x ∧ x ≤ 7 := by rw [← hL0]; decide
  rw [sSeq_e, kSeq_to [some N0, some (.dat false (.int k)), some (.dat false (.list (ms.map .int))), some (.dat false (.int X)), some (.own 0), some (.dat false (.list ((L0.drop p ++ L0.take p).map .int))), some (.dat false (.int p)), some (.dat false (.int w7)), none, none, none] [.lst []]]
  rotate_left
  · simp [cut_take, cut_drop, Function.comp_def]
    rw [if_pos (by omega)]
    simp only [bnd_mk]
    rw [← List.map_drop, ← List.map_take, ← List.map_append, allDat_f]
    simp
  have hRn : (L0.drop p ++ L0.take p).Nodup := (List.perm_append_comm.trans (List.Perm.of_eq (List.take_append_drop p L0))).nodup_iff.mpr hLn
  have hRr : ∀ x ∈ L0.drop p ++ L0.take p, 0 ≤ x ∧ x ≤ 7 := fun x hx => by
    rcases List.mem_append.mp hx with h | h
    · exact hLr x (List.mem_of_mem_drop h)
    · exact hLr x (List.mem_of_mem_take h)
  have hRl : (L0.drop p ++ L0.take p).length = 8 := by simp; omega
  generalize L0.drop p ++ L0.take p = R0 at *
  have hn2 := fun S => number_e (x := X) (y := k + 1) (z := 3) (by omega) false false S
  generalize hV2 : lawN X (k + 1) 3 = V2 at *
  obtain ⟨n, hn, hn4⟩ : ∃ n : Nat, 1 + V2 / 9 % 4 = (n : Int) ∧ 1 ≤ n ∧ n ≤ 4 := ⟨(1 + V2 / 9 % 4).toNat, by omega, by omega, by omega⟩
  repeat (first | simp [hn2] | simp (disch := first | assumption | omega) only [oIntC_p])
  rw [hn]
  rw [if_pos (by omega)]
  simp only [bnd_mk, Int.toNat_natCast, rangeI, Int.zero_add]
  refine for_ex (fun s : List Lev × List Int => [some N0, some (.dat false (.int k)), some (.dat false (.list (ms.map .int))), some (.dat false (.int X)), some (.own 0), some (.dat false (.list (s.2.map .int))), some (.dat false (.int p)), some (.dat false (.int w7)), none, none, none])
    (fun s : List Lev × List Int => [.lst (s.1.map fun l => .dat false (eLev l))])
    (fun i s => s.1.length = i ∧ (∀ l ∈ s.1, OkLev l) ∧ (ppl s.1 ++ s.2).Nodup ∧ (∀ x ∈ s.2, 0 ≤ x ∧ x ≤ 7) ∧ 8 ≤ s.2.length + 3 * min i 2 + (i - 2)) (fun (i : Nat) => .dat false (.int (i : Int))) (List.range n) ([], R0)
    (by simp [ppl, hRn, hRl]; exact hRr)
    (fun i s x hx hP => ?_) (fun s hP => ?_)
  rotate_left
  · obtain ⟨c, R⟩ := s
    obtain ⟨hc, hc2, hc3, hc4, hc5⟩ := hP
    simp only [List.length_range] at hc
    refine ⟨c, ⟨by omega, by omega, hc2, (List.nodup_append.mp hc3).1⟩, ?_⟩
    simp
  obtain ⟨c, R⟩ := s
  obtain ⟨hc, hc2, hc3, hc4, hc5⟩ := hP
  have hi := (List.getElem?_eq_some_iff.mp hx).1
  have hxi := (List.getElem?_eq_some_iff.mp hx).2
  simp only [List.length_range, List.getElem_range] at hi hxi
  subst hxi
  simp only at hc hc2 hc3 hc4 hc5
  obtain ⟨j, hj, ej⟩ : ∃ j : Nat, j < ms.length ∧ ((i : Int) + k) % (ms.length : Int) = (j : Int) := ⟨(((i : Int) + k) % (ms.length : Int)).toNat, by
    have h1 := Int.emod_lt_of_pos ((i : Int) + k) (b := (ms.length : Int)) (by omega)
    have h2 := Int.emod_nonneg ((i : Int) + k) (b := (ms.length : Int)) (by omega)
    omega, by
    have h2 := Int.emod_nonneg ((i : Int) + k) (b := (ms.length : Int)) (by omega)
    omega⟩
  obtain ⟨m0, hm0⟩ : ∃ m0, ms[j]? = some m0 := ⟨ms[j], List.getElem?_eq_getElem hj⟩
  have hm1 : ms[j] = m0 := (List.getElem?_eq_some_iff.mp hm0).2
  have hn3 := fun S => number_e (x := m0 + 5 * (i : Int)) (y := (i : Int) + k) (z := X) (by omega) false false S
  generalize hV9 : lawN (m0 + 5 * (i : Int)) ((i : Int) + k) X = V8 at *
  obtain ⟨w, hw, hw1, hw2, hw3⟩ : ∃ w : Nat, (w : Int) = (if i < 2 then (if V8 / 3 % 4 = 1 then 2 else if V8 / 3 % 4 = 3 then 3 else 1) else 1) ∧ 1 ≤ w ∧ w ≤ 3 ∧ (2 ≤ i → w = 1) := by
    by_cases h2 : i < 2
    · by_cases h3 : V8 / 3 % 4 = 1
      · exact ⟨2, by simp [h2, h3], by omega, by omega, by omega⟩
      · by_cases h4 : V8 / 3 % 4 = 3
        · exact ⟨3, by simp [h2, h4], by omega, by omega, by omega⟩
        · exact ⟨1, by simp [h2, h3, h4], by omega, by omega, by omega⟩
    · exact ⟨1, by simp [h2], by omega, by omega, by omega⟩
  refine ⟨(c ++ [(sortI (R.take w), 1 + V8 / 3 / 4 % w7, 1 + V8 / 3 / 36 % (min 5 w7))], R.drop w), ?_, by simp [hc], ?_, ?_, ?_, ?_⟩
  · simp only [turnS_e, bName_e, kBind_e]
    simp only [List.set_cons_succ, List.set_cons_zero]
    rw [sSeq_e, kSeq_to [some N0, some (.dat false (.int k)), some (.dat false (.list (ms.map .int))), some (.dat false (.int X)), some (.own 0), some (.dat false (.list (R.map .int))), some (.dat false (.int p)), some (.dat false (.int w7)), some (.dat false (.int (i : Int))), some (.dat false (.int (V8 / 3))), none] [.lst (c.map fun l => .dat false (eLev l))]]
    rotate_left
    · repeat (first | simp [ej, hj, hm0, hm1, hn3, atI, ixN] | simp (disch := first | assumption | omega) only [oIntC_p])
    rw [sSeq_e, kSeq_to [some N0, some (.dat false (.int k)), some (.dat false (.list (ms.map .int))), some (.dat false (.int X)), some (.own 0), some (.dat false (.list (R.map .int))), some (.dat false (.int p)), some (.dat false (.int w7)), some (.dat false (.int (i : Int))), some (.dat false (.int (V8 / 3))), some (.dat false (.int (w : Int)))] [.lst (c.map fun l => .dat false (eLev l))]]
    rotate_left
    · have h4 : V8 / 3 % 4 = 0 ∨ V8 / 3 % 4 = 1 ∨ V8 / 3 % 4 = 2 ∨ V8 / 3 % 4 = 3 := by omega
      rw [hw]
      by_cases h2 : i < 2
      · have h2' : (i : Int) < 2 := by omega
        repeat (first | simp [h2'] | simp (disch := first | assumption | omega) only [oIntC_p])
        rcases h4 with h4 | h4 | h4 | h4 <;> simp [h4, atI, ixN, h2]
      · have h2' : ¬ (i : Int) < 2 := by omega
        simp [h2', h2]
    have hcl : c.length < 100000 := by omega
    have hmk : mkD false (.tuple [.list ((sortI (R.take w)).map .int), .int (1 + V8 / 3 / 4 % w7), .int (1 + V8 / 3 / 36 % (min 5 w7))]) = .dat false (eLev (sortI (R.take w), 1 + V8 / 3 / 4 % w7, 1 + V8 / 3 / 36 % (min 5 w7))) := rfl
    repeat (first | simp [cut_take, cut_drop, Function.comp_def, hcl, eLev] | simp (disch := first | assumption | omega) only [oIntC_p])
  · intro l hl
    rcases List.mem_append.mp hl with hl | hl
    · exact hc2 l hl
    · simp only [List.mem_singleton] at hl
      subst hl
      have hlen : (sortI (R.take w)).length = w := by
        rw [(sortI_perm _).length_eq, List.length_take]; omega
      have q1 := Int.emod_nonneg (V8 / 3 / 4) (b := w7) (by omega)
      have q2 := Int.emod_lt_of_pos (V8 / 3 / 4) (b := w7) (by omega)
      have q3 := Int.emod_nonneg (V8 / 3 / 36) (b := min 5 w7) (by omega)
      have q4 := Int.emod_lt_of_pos (V8 / 3 / 36) (b := min 5 w7) (by omega)
      have hnd : (R.take w).Nodup := ((List.nodup_append.mp hc3).2.1).sublist (List.take_sublist w R)
      exact ⟨by simp only [hlen]; omega, by simp only [hlen]; omega, fun x hx => hc4 x (List.mem_of_mem_take (sortI_mem.mp hx)), sortI_lt hnd, by simp only; omega, by simp only; omega, by simp only; omega, by simp only; omega⟩
  · have e : ppl (c ++ [(sortI (R.take w), 1 + V8 / 3 / 4 % w7, 1 + V8 / 3 / 36 % (min 5 w7))]) = ppl c ++ sortI (R.take w) := by simp [ppl]
    simp only [e, List.append_assoc]
    refine (List.Perm.append_left (ppl c) ?_).nodup_iff.mpr hc3
    exact ((sortI_perm _).append_right _).trans (List.Perm.of_eq (List.take_append_drop w R))
  · intro x hx
    exact hc4 x (List.mem_of_mem_drop hx)
  · simp only [List.length_drop]
    omega
end Nc
set_option Elab.async false
set_option linter.all false
set_option maxRecDepth 100000
set_option maxHeartbeats 1000000
namespace Nc
open PySem PySem.Spec PyProof.Rows L2
local macro_rules | `(tactic| walk_at "nc") => `(tactic| repeat (first | simp [atI, ixN, zipI, cutG, HT.sIx, Function.comp_def] | simp (disch := first | assumption | omega) only [oIntC_p, le_T, le_F, lt_T, lt_F, bq_F, in_T, in_F] | rw [if_pos (by omega)] | rw [if_neg (by omega)] | omega))
theorem ppl_pos {c : List Lev} [h : OkCh c] : 1 ≤ (ppl c).length := by
  have h1 := h.l1
  cases c with
  | nil => simp at h1
  | cons l r =>
    have := (h.lev l List.mem_cons_self).l1
    simp [ppl]
    omega
theorem lawMs_first (ns : List Int) (N : Nat) (r : Env) : (sAsg (xIf (xB (xOp (oEq true) (xVar 0) (xDat (xLst xNil)))) (xDat (xSl (xVar 0) xNoPart (xPart (xC (.int 63))))) (xDat (xLst (xCons (xC (.int 5)) xNil)))) (bName N)) (some (.scr ns) :: r) [] = some (.nx, (some (.scr ns) :: r).set N (some (.dat false (.list ((lawMs ns).map .int)))), []) := by
  unfold lawMs
  by_cases hn : ns = []
  · simp [hn]
  · have hne : ns.isEmpty = false := by simpa [List.isEmpty_iff] using hn
    simp only [if_neg hn]
    simp [cut_take63, Function.comp_def, hne]
theorem words_e (ns : List Int) (k : Int) (h0 : 0 ≤ k) (h1 : k ≤ 1) {c : List Lev} [h : OkCh c] : ∃ ws, OkWs (ppl c) ws ∧ Gives (natD (sem__law_words [.scr ns, .dat false (.int k), .dat true (eCh c)] [])) (.dat false (eWs ws)) := by
  have hms := lawMs_pos ns
  have hp1 := ppl_pos (c := c)
  have hp2 := ppl_len (c := c)
  unfold sem__law_words body__law_words
  simp only [callS_e, sSeq_e]
  rw [if_pos (show [_, _, _].length = 3 from rfl)]
  simp only [List.map_cons, List.map_nil, List.cons_append, List.nil_append, Nat.reduceSub, List.reduceReplicate]
  rw [lawMs_first]
  simp only [kSeq_nx, List.set_cons_succ, List.set_cons_zero]
  generalize lawMs ns = ms at *
  generalize OV.scr ns = N0
  rw [sSeq_e, kSeq_to [some N0, some (.dat false (.int k)), some (.dat true (eCh c)), some (.dat false (.list (ms.map .int))), some (.dat false (.int (ms.sum + k))), some (.own 0), some (.dat false (.list [])), none, none, none, none, none, none, none, none, none, none] [.lst []]]
  rotate_left
  · simp
  generalize hX : ms.sum + k = X at *
  rw [sSeq_e, kSeq_to [some N0, some (.dat false (.int k)), some (.dat true (eCh c)), some (.dat false (.list (ms.map .int))), some (.dat false (.int X)), some (.own 0), some (.dat false (.list ((ppl c).map .int))), none, none, none, none, none, none, none, none, none, none] [.lst []]]
  rotate_left
  · simp only [sFor_e, xiList_e, xVar_e, List.getElem?_cons_succ, List.getElem?_cons_zero, kV_e, bnd_mk, seqItems_d, List.map_map, Function.comp_def, mkD_lev, gdOf_d]
    have key := fun bd hh => (forL_env (bd := bd) (fun a : List Int => [some N0, some (.dat false (.int k)), some (.dat true (eCh c)), some (.dat false (.list (ms.map .int))), some (.dat false (.int X)), some (.own 0), some (.dat false (.list (a.map .int))), none, none, none, none, none, none, none, none, none, none]) (fun _ : List Int => [.lst []])
      (fun a (l : Lev) => a ++ l.1) (fun i a => a.length ≤ 3 * i) (fun l => .dat true (eLev l)) c 0 [] (by simp) hh).1
    rw [foldl_app] at key
    refine key _ (fun i a l hl ha => ?_)
    have hi := (List.getElem?_eq_some_iff.mp hl).1
    have l4 := h.l4
    have l3 := (h.lev l (List.mem_of_getElem? hl)).l3
    refine ⟨?_, by simp; omega⟩
    unfold eLev
    walk_at "nc"
    rw [← List.map_append, allDat_f]
    walk_at "nc"
  have hn1 := fun S => number_e (x := X) (y := k + 1) (z := 3) (by omega) false false S
  generalize hV : lawN X (k + 1) 3 = V at *
  obtain ⟨v11, hv11, hv1, hv2⟩ : ∃ w : Int, w = (if V / 1404 % 3 = 1 then 12 else 41) ∧ 1 ≤ w ∧ w ≤ 41 := ⟨_, rfl, by split <;> omega, by split <;> omega⟩
  rw [sSeq_e, kSeq_to [some N0, some (.dat false (.int k)), some (.dat true (eCh c)), some (.dat false (.list (ms.map .int))), some (.dat false (.int X)), some (.own 0), some (.dat false (.list ((ppl c).map .int))), none, none, none, some (.dat false (.int (V / 468 % 3))), some (.dat false (.int v11)), none, none, none, none, none] [.lst []]]
  rotate_left
  · have h3 : V / 1404 % 3 = 0 ∨ V / 1404 % 3 = 1 ∨ V / 1404 % 3 = 2 := by omega
    repeat (first | simp [hn1] | simp (disch := first | assumption | omega) only [oIntC_p])
    rw [hv11]
    rcases h3 with h3 | h3 | h3 <;> simp [h3, atI, ixN]
  obtain ⟨v10, hv10, hv3⟩ : ∃ w : Int, V / 468 % 3 = w ∧ (w = 0 ∨ w = 1 ∨ w = 2) := ⟨_, rfl, by omega⟩
  rw [hv10]
  obtain ⟨n, hn, hn4⟩ : ∃ n : Nat, V / 36 % 13 = (n : Int) ∧ n ≤ 12 := ⟨(V / 36 % 13).toNat, by omega, by omega⟩
  repeat (first | simp [hn1] | simp (disch := first | assumption | omega) only [oIntC_p])
  rw [hn]
  rw [if_pos (by omega)]
  simp only [bnd_mk, Int.toNat_natCast, rangeI, Int.zero_add]
  refine for_ex (fun ws : List Wd => [some N0, some (.dat false (.int k)), some (.dat true (eCh c)), some (.dat false (.list (ms.map .int))), some (.dat false (.int X)), some (.own 0), some (.dat false (.list ((ppl c).map .int))), none, none, none, some (.dat false (.int v10)), some (.dat false (.int v11)), none, none, none, none, none])
    (fun ws : List Wd => [.lst (ws.map fun w => OV.dat false (eWd w))])
    (fun i ws => ws.length = i ∧ ∀ w ∈ ws, OkWd (ppl c) w) (fun (i : Nat) => .dat false (.int (i : Int))) (List.range n) []
    (by simp) (fun i ws x hx hP => ?_) (fun ws hP => ?_)
  rotate_left
  · obtain ⟨hc, hc2⟩ := hP
    simp only [List.length_range] at hc
    refine ⟨ws, ⟨by omega, hc2⟩, ?_⟩
    simp
  obtain ⟨hc, hc2⟩ := hP
  have hi := (List.getElem?_eq_some_iff.mp hx).1
  have hxi := (List.getElem?_eq_some_iff.mp hx).2
  simp only [List.length_range, List.getElem_range] at hi hxi
  subst hxi
  obtain ⟨j, hj, ej⟩ : ∃ j : Nat, j < ms.length ∧ ((i : Int) + k) % (ms.length : Int) = (j : Int) := ⟨(((i : Int) + k) % (ms.length : Int)).toNat, by
    have h1 := Int.emod_lt_of_pos ((i : Int) + k) (b := (ms.length : Int)) (by omega)
    have h2 := Int.emod_nonneg ((i : Int) + k) (b := (ms.length : Int)) (by omega)
    omega, by
    have h2 := Int.emod_nonneg ((i : Int) + k) (b := (ms.length : Int)) (by omega)
    omega⟩
  obtain ⟨m0, hm0⟩ : ∃ m0, ms[j]? = some m0 := ⟨ms[j], List.getElem?_eq_getElem hj⟩
  have hm1 : ms[j] = m0 := (List.getElem?_eq_some_iff.mp hm0).2
  have hn3 := fun S => number_e (x := m0 + 7 * (i : Int)) (y := (i : Int) + k) (z := X) (by omega) false false S
  generalize lawN (m0 + 7 * (i : Int)) ((i : Int) + k) X = V8 at *
  obtain ⟨V9, hV9⟩ : ∃ V9, V8 / 3 = V9 := ⟨_, rfl⟩
  obtain ⟨j2, hj2, ej2⟩ : ∃ j : Nat, j < (ppl c).length ∧ V9 / 8 % ((ppl c).length : Int) = (j : Int) := ⟨(V9 / 8 % ((ppl c).length : Int)).toNat, by
    have h1 := Int.emod_lt_of_pos (V9 / 8) (b := ((ppl c).length : Int)) (by omega)
    have h2 := Int.emod_nonneg (V9 / 8) (b := ((ppl c).length : Int)) (by omega)
    omega, by
    have h2 := Int.emod_nonneg (V9 / 8) (b := ((ppl c).length : Int)) (by omega)
    omega⟩
  obtain ⟨q0, hq0⟩ : ∃ q0, (ppl c)[j2]? = some q0 := ⟨(ppl c)[j2], List.getElem?_eq_getElem hj2⟩
  have hq1 : (ppl c)[j2] = q0 := (List.getElem?_eq_some_iff.mp hq0).2
  have hqm : q0 ∈ ppl c := List.mem_of_getElem? hq0
  have s1 := Int.emod_nonneg (V9 / 64) (b := v11) (by omega)
  have s2 := Int.emod_lt_of_pos (V9 / 64) (b := v11) (by omega)
  obtain ⟨z, hz, hz0⟩ : ∃ z : Int, z = (if v10 = 0 then 0 else if v10 = 1 then V9 / 2624 % 9 else V9 / 2624 % 41) ∧ 0 ≤ z := ⟨_, rfl, by split <;> (try split) <;> omega⟩
  have hwl : ws.length < 100000 := by omega
  refine ⟨ws ++ [if V9 % 8 < 2 then .take q0 (V9 / 64 % v11) (min 60 (V9 / 64 % v11 + z)) else if V9 % 8 < 7 then .off q0 (V9 / 64 % v11) (min 60 (V9 / 64 % v11 + z)) (1 + V9 / 107584 % (if V9 / 8 % 2 = 0 then 20 else 4)) else .done q0 (40 - V9 / 64 % v11 / 3) (max (min 60 (V9 / 64 % v11 + z)) (40 - V9 / 64 % v11 / 3))], ?_, by simp [hc], ?_⟩
  · simp only [turnS_e, bName_e, kBind_e]
    simp only [List.set_cons_succ, List.set_cons_zero]
    rw [sSeq_e, kSeq_to [some N0, some (.dat false (.int k)), some (.dat true (eCh c)), some (.dat false (.list (ms.map .int))), some (.dat false (.int X)), some (.own 0), some (.dat false (.list ((ppl c).map .int))), none, none, none, some (.dat false (.int v10)), some (.dat false (.int v11)), some (.dat false (.int (i : Int))), some (.dat false (.int V9)), none, none, none] [.lst (ws.map fun w => OV.dat false (eWd w))]]
    rotate_left
    · repeat (first | simp [ej, hj, hm0, hm1, hn3, hV9, atI, ixN] | simp (disch := first | assumption | omega) only [oIntC_p])
    rw [sSeq_e, kSeq_to [some N0, some (.dat false (.int k)), some (.dat true (eCh c)), some (.dat false (.list (ms.map .int))), some (.dat false (.int X)), some (.own 0), some (.dat false (.list ((ppl c).map .int))), none, none, none, some (.dat false (.int v10)), some (.dat false (.int v11)), some (.dat false (.int (i : Int))), some (.dat false (.int V9)), some (.dat false (.int q0)), none, none] [.lst (ws.map fun w => OV.dat false (eWd w))]]
    rotate_left
    · repeat (first | simp [ej2, hj2, hq0, hq1, atI, ixN] | simp (disch := first | assumption | omega) only [oIntC_p])
    rw [sSeq_e, kSeq_to [some N0, some (.dat false (.int k)), some (.dat true (eCh c)), some (.dat false (.list (ms.map .int))), some (.dat false (.int X)), some (.own 0), some (.dat false (.list ((ppl c).map .int))), none, none, none, some (.dat false (.int v10)), some (.dat false (.int v11)), some (.dat false (.int (i : Int))), some (.dat false (.int V9)), some (.dat false (.int q0)), some (.dat false (.int (V9 / 64 % v11))), none] [.lst (ws.map fun w => OV.dat false (eWd w))]]
    rotate_left
    · repeat (first | simp | simp (disch := first | assumption | omega) only [oIntC_p])
    generalize V9 / 64 % v11 = s at *
    rw [sSeq_e, kSeq_to [some N0, some (.dat false (.int k)), some (.dat true (eCh c)), some (.dat false (.list (ms.map .int))), some (.dat false (.int X)), some (.own 0), some (.dat false (.list ((ppl c).map .int))), none, none, none, some (.dat false (.int v10)), some (.dat false (.int v11)), some (.dat false (.int (i : Int))), some (.dat false (.int V9)), some (.dat false (.int q0)), some (.dat false (.int s)), some (.dat false (.int (min 60 (s + z))))] [.lst (ws.map fun w => OV.dat false (eWd w))]]
    rotate_left
    · rw [hz]
      repeat (first | simp [flatAll] | simp (disch := first | assumption | omega) only [oIntC_p])
      rcases hv3 with h3 | h3 | h3 <;> simp [h3, atI, ixN, mkD_tup]
    generalize min 60 (s + z) = hh at *
    by_cases c1 : V9 % 8 < 2
    · repeat (first | simp [c1, hwl, eWd, mkD_tup] | simp (disch := first | assumption | omega) only [oIntC_p])
    · by_cases c2 : V9 % 8 < 7
      · have h2 : V9 / 8 % 2 = 0 ∨ V9 / 8 % 2 = 1 := by omega
        rcases h2 with h2 | h2 <;> repeat (first | simp [c1, c2, h2, hwl, eWd, mkD_tup, atI, ixN] | simp (disch := first | assumption | omega) only [oIntC_p])
      · repeat (first | simp [c1, c2, hwl, eWd, mkD_tup] | simp (disch := first | assumption | omega) only [oIntC_p])
  · intro w hw
    rcases List.mem_append.mp hw with hw | hw
    · exact hc2 w hw
    · simp only [List.mem_singleton] at hw
      subst hw
      split
      · exact ⟨hqm, by simp only [Wd.s]; omega, by simp only [Wd.s]; omega, by simp only [Wd.s, Wd.h]; omega, by simp only [Wd.h]; omega, fun _ _ _ _ e => by cases e⟩
      · split
        · exact ⟨hqm, by simp only [Wd.s]; omega, by simp only [Wd.s]; omega, by simp only [Wd.s, Wd.h]; omega, by simp only [Wd.h]; omega, fun _ _ _ _ e => by cases e; split <;> omega⟩
        · exact ⟨hqm, by simp only [Wd.s]; omega, by simp only [Wd.s]; omega, by simp only [Wd.s, Wd.h]; omega, by simp only [Wd.h]; omega, fun _ _ _ _ e => by cases e⟩
end Nc
set_option Elab.async false
set_option linter.all false
set_option maxRecDepth 100000
set_option maxHeartbeats 1000000
namespace Nc
open PySem PySem.Spec PyProof.Rows L2
local macro_rules | `(tactic| walk_at "nc") => `(tactic| repeat (first | simp [atI, ixN, zipI, cutG, HT.sIx, Function.comp_def] | simp (disch := first | assumption | omega) only [oIntC_p, le_T, le_F, lt_T, lt_F, bq_F, in_T, in_F] | rw [if_pos (by omega)] | rw [if_neg (by omega)] | omega))
theorem cut_drop1 {α : Type} (xs : List α) (n : Nat) : cutG xs (some ((n : Int) + 1)) none = xs.drop (n + 1) := cut_drop xs (n + 1)
section
variable {α : Type} (xs : List α)
theorem cutT2 : cutG xs none (some 2) = xs.take 2 := cut_take xs 2
theorem cutT3 : cutG xs none (some 3) = xs.take 3 := cut_take xs 3
theorem cutT4 : cutG xs none (some 4) = xs.take 4 := cut_take xs 4
theorem cutD1 : cutG xs (some 1) none = xs.drop 1 := cut_drop xs 1
theorem cutD2 : cutG xs (some 2) none = xs.drop 2 := cut_drop xs 2
theorem cutD3 : cutG xs (some 3) none = xs.drop 3 := cut_drop xs 3
theorem cutD4 : cutG xs (some 4) none = xs.drop 4 := cut_drop xs 4
theorem cut14 {a b c d e : α} : cutG [a, b, c, d, e] (some 1) (some 4) = [b, c, d] := by
  simp [cutG, HT.sIx]
theorem atI1 {a b : α} {l : List α} : atI (a :: b :: l) 1 = some b := by simpa using atI_n (l := a :: b :: l) (n := 1)
theorem atI2 {a b c : α} {l : List α} : atI (a :: b :: c :: l) 2 = some c := by simpa using atI_n (l := a :: b :: c :: l) (n := 2)
theorem atI3 {a b c d : α} {l : List α} : atI (a :: b :: c :: d :: l) 3 = some d := by simpa using atI_n (l := a :: b :: c :: d :: l) (n := 3)
theorem atI4 {a b c d e : α} {l : List α} : atI (a :: b :: c :: d :: e :: l) 4 = some e := by simpa using atI_n (l := a :: b :: c :: d :: e :: l) (n := 4)
end
def hAp (x y : Option (Bool × List PyData)) : Option (Bool × List PyData) := match x, y with
  | some (b, ds), some (c, es) => some (b || c, ds ++ es)
  | _, _ => none
@[simp] theorem hAp_e {b c : Bool} {ds es : List PyData} : hAp (some (b, ds)) (some (c, es)) = some (b || c, ds ++ es) := rfl
@[simp] theorem allDat_app (ys : List OV) : ∀ xs : List OV, allDat (xs ++ ys) = hAp (allDat xs) (allDat ys)
  | [] => by
    rw [List.nil_append, allDat_nil]
    unfold hAp
    rcases allDat ys with _ | ⟨c, es⟩ <;> simp
  | .dat b d :: xs => by
    rw [List.cons_append, allDat_cons, allDat_cons, allDat_app ys xs]
    unfold hAp
    rcases allDat xs with _ | ⟨b1, ds⟩ <;> rcases allDat ys with _ | ⟨c, es⟩ <;> simp [Bool.or_assoc]
  | .own i :: xs => by
    rw [List.cons_append]
    show none = hAp none _
    rfl
  | .scr i :: xs => by
    rw [List.cons_append]
    show none = hAp none _
    rfl
theorem eWd_t (p s h : Int) : eWd (.take p s h) = .tuple [.str "take", .int p, .int s, .int h] := rfl
theorem eWd_o (p s h t : Int) : eWd (.off p s h t) = .tuple [.str "off", .int p, .int s, .int h, .int t] := rfl
theorem eWd_d (p s h : Int) : eWd (.done p s h) = .tuple [.str "done", .int p, .int s, .int h] := rfl
/-! ### things of the store behind a start -/
section
variable {S L : Sto} {n : Nat} {x : OO} {r : Env} {b : Bool} {i : Int}
@[simp] theorem get_off : (S ++ L)[S.length + n]? = L[n]? := by
  rw [List.getElem?_append_right (by omega)]; congr 1; omega
@[simp] theorem get_off0 : (S ++ L)[S.length]? = L[0]? := get_off (n := 0)
@[simp] theorem set_off : (S ++ L).set (S.length + n) x = S ++ L.set n x := by
  rw [List.set_append_right _ _ (by omega)]; congr 2; omega
@[simp] theorem set_off0 : (S ++ L).set S.length x = S ++ L.set 0 x := set_off (n := 0)
def hRq (n : Nat) (S : Sto) (x : Option OO) : Option PyData := match x with
  | some (.lst vs) => (rdL (rdq n S) vs).map .list
  | some (.tup vs) => (rdL (rdq n S) vs).map .tuple
  | _ => none
@[simp] theorem hRq_l {vs : List OV} : hRq n S (some (.lst vs)) = (rdL (rdq n S) vs).map .list := rfl
@[simp] theorem hRq_t {vs : List OV} : hRq n S (some (.tup vs)) = (rdL (rdq n S) vs).map .tuple := rfl
theorem rdq_ownh {j : Nat} : rdq (n + 1) S (.own j) = hRq n S S[j]? := by
  rw [rdq]; unfold hRq
  rcases S[j]? with _ | ⟨vs | vs | ⟨c, fs⟩ | fs⟩ <;> rfl
@[simp] theorem rdq6 {j : Nat} : rdq 6 S (.own j) = hRq 5 S S[j]? := rdq_ownh
@[simp] theorem rdq5 {j : Nat} : rdq 5 S (.own j) = hRq 4 S S[j]? := rdq_ownh
@[simp] theorem rdq4 {j : Nat} : rdq 4 S (.own j) = hRq 3 S S[j]? := rdq_ownh
@[simp] theorem rdq3 {j : Nat} : rdq 3 S (.own j) = hRq 2 S S[j]? := rdq_ownh
@[simp] theorem rdq_d {d : PyData} : rdq n S (.dat b d) = some d := by cases n <;> rfl
theorem rdLq_map {α : Type} (b : Bool) (f : α → PyData) : ∀ xs : List α, rdL (rdq n S) (xs.map fun x => .dat b (f x)) = some (xs.map f)
  | [] => rfl
  | x :: xs => by rw [List.map_cons, rdL_c, rdq_d, rdLq_map b f xs]; rfl
@[simp] theorem rdLq_mapf {α : Type} (f : α → PyData) (xs : List α) : rdL (rdq n S) (xs.map fun x => .dat false (f x)) = some (xs.map f) := rdLq_map false f xs
def hRa (x y : Option (List PyData)) : Option (List PyData) := match x, y with
  | some a, some b => some (a ++ b)
  | _, _ => none
@[simp] theorem hRa_e {x y : List PyData} : hRa (some x) (some y) = some (x ++ y) := rfl
@[simp] theorem rdL_app {f : OV → Option PyData} (ys : List OV) : ∀ xs : List OV, rdL f (xs ++ ys) = hRa (rdL f xs) (rdL f ys)
  | [] => by
    rw [List.nil_append, rdL_n]; unfold hRa
    cases rdL f ys <;> rfl
  | x :: xs => by
    rw [List.cons_append, rdL_c, rdL_c, rdL_app ys xs]; unfold hRa hRc
    cases f x <;> cases rdL f xs <;> cases rdL f ys <;> rfl
@[simp] theorem argF_o {j : Nat} : argF S (.own j) = (rdq 6 S (.own j)).map (mkD true) := rfl
def hIx (x : Option OO) (i : Int) (S : Sto) : Option (OV × Sto) := match x with
  | some (.lst vs) => (atI vs i).map fun v => (v, S)
  | some (.tup vs) => (atI vs i).map fun v => (v, S)
  | _ => none
@[simp] theorem hIx_l {vs : List OV} : hIx (some (.lst vs)) i S = (atI vs i).map fun v => (v, S) := rfl
@[simp] theorem hIx_t {vs : List OV} : hIx (some (.tup vs)) i S = (atI vs i).map fun v => (v, S) := rfl
@[simp] theorem oIx_o {j : Nat} : oIx (.own j) (.dat b (.int i)) S = hIx S[j]? i S := by
  unfold oIx hIx
  rfl
def hBt (n : Nat) (bb : BNs) (x : Option OO) (S : Sto) (r : Env) : Option Env := match x with
  | some (.tup vs) => if vs.length = n then bb S vs r else none
  | _ => none
@[simp] theorem hBt_e {bb : BNs} {vs : List OV} : hBt n bb (some (.tup vs)) S r = if vs.length = n then bb S vs r else none := rfl
@[simp] theorem bTup_o {bb : BNs} {j : Nat} : bTup n bb S (.own j) r = hBt n bb S[j]? S r := by
  unfold bTup hBt
  rfl
@[simp] theorem allNat_n : allNat [] = true := rfl
@[simp] theorem allNat_c {d : PyData} {vs : List OV} : allNat (.dat false d :: vs) = allNat vs := rfl
theorem bq_dec (a b : Int) : (a == b) = decide (a = b) := by
  by_cases h : a = b <;> simp [h]
theorem ixN_m1 (m : Nat) : ixN (m + 1) (-1) = some m := by
  unfold ixN
  rw [if_neg (by omega), if_pos (by omega)]
  congr 1; omega
theorem set_last {α β : Type} (f : α → β) (u : List α) (a y : β) : (u.map f ++ [a]).set u.length y = u.map f ++ [y] := by
  rw [List.set_append_right _ _ (by simp)]
  simp
end
@[simp] theorem oLen_own {S : Sto} {j : Nat} {vs : List OV} (h : S[j]? = some (.lst vs)) : oLen [.own j] S = some (.dat false (.int (vs.length : Int)), S) := by
  unfold oLen
  simp [h]
theorem two_turns {bd : OV → SS} {f : SS} {E : Env} {d : OV} (h : ∀ (i : Int) S, 0 ≤ i → i ≤ 1 → ∃ S', bd (.dat false (.int i)) E S = some (.nx, E, S')) (k : ∀ S', Gives (kCall (f E S')) d) :
    Gives (kCall (kSeq (forL bd (fun _ => True) ([0, 1].map fun (i : Nat) => OV.dat false (.int (i : Int))) E []) f)) d := by
  obtain ⟨S1, e1⟩ := h 0 [] (by omega) (by omega)
  obtain ⟨S2, e2⟩ := h 1 S1 (by omega) (by omega)
  simp [e1, e2, k S2]
theorem ex_seq {x : Option (Fl × Env × Sto)} {f : SS} {ws : List Nat} {E' : Env} (r : Env) (S : Sto) (h : x = some (.nx, r, S)) (k : ∃ S', kTurn (f r S) ws = some (.nx, E', S')) : ∃ S', kTurn (kSeq x f) ws = some (.nx, E', S') := by
  rw [h]; exact k
theorem ex_seq2 {α : Type} {x : Option (Fl × Env × Sto)} {f : SS} {ws : List Nat} {E' : Env} (r : α → Env) (S : Sto) (Q : α → Prop) (h : ∃ a, x = some (.nx, r a, S) ∧ Q a) (k : ∀ a, Q a → ∃ S', kTurn (f (r a) S) ws = some (.nx, E', S')) : ∃ S', kTurn (kSeq x f) ws = some (.nx, E', S') := by
  obtain ⟨a, h, q⟩ := h
  rw [h]; exact k a q
def hSS (x : Option (List Int)) (S : Sto) : Option (List OV × Sto) := match x with
  | some ns => if ns.length ≤ 60 then some ((sortU ns).map fun n => .dat false (.int n), S) else none
  | none => none
@[simp] theorem hSS_e {ns : List Int} {S : Sto} : hSS (some ns) S = if ns.length ≤ 60 then some ((sortU ns).map fun n => .dat false (.int n), S) else none := rfl
@[simp] theorem xSortSet_e {fa : SE} {r : Env} {S : Sto} : xSortSet fa r S = bnd (fa r S) fun a S1 => hSS (seqInts S1 a) S1 := by
  unfold xSortSet hSS; rfl
@[simp] theorem allDat_revf {α : Type} (f : α → PyData) (xs : List α) : allDat ((xs.map fun x => .dat false (f x)).reverse) = some (false, (xs.map f).reverse) := by
  rw [← List.map_reverse, allDat_f, List.map_reverse]
@[simp] theorem sh_nn : SeqAt.shaped (.tuple [.list [], .list []]) = true := by decide +kernel
section
variable {S : Sto} {b c : Bool} {w : Wd}
@[simp] theorem wd_ix0 : oIx (.dat b (eWd w)) (.dat c (.int 0)) S = some (.dat false (.str w.kd), S) := by cases w <;> simp [eWd, Wd.kd]
@[simp] theorem wd_ix1 : oIx (.dat b (eWd w)) (.dat c (.int 1)) S = some (.dat false (.int w.p), S) := by cases w <;> simp [eWd, Wd.p, atI1]
@[simp] theorem wd_ix2 : oIx (.dat b (eWd w)) (.dat c (.int 2)) S = some (.dat false (.int w.s), S) := by cases w <;> simp [eWd, Wd.s, atI2]
@[simp] theorem wd_ix3 : oIx (.dat b (eWd w)) (.dat c (.int 3)) S = some (.dat false (.int w.h), S) := by cases w <;> simp [eWd, Wd.h, atI3]
@[simp] theorem kd_take : (w.kd == Str.ofString "take") = w.tk := by cases w <;> simp [Wd.kd, Wd.tk]
@[simp] theorem kd_off : (w.kd == Str.ofString "off") = w.of := by cases w <;> simp [Wd.kd, Wd.of]
@[simp] theorem kd_done : (w.kd == Str.ofString "done") = w.dn := by cases w <;> simp [Wd.kd, Wd.dn]
@[simp] theorem sh_kd : SeqAt.shaped (.str w.kd) = true := by cases w <;> simp [Wd.kd]
end
end Nc
set_option Elab.async false
set_option linter.all false
set_option maxRecDepth 100000
set_option maxHeartbeats 1000000
namespace Nc
open PySem PySem.Spec PyProof.Rows L2
local macro_rules | `(tactic| walk_at "nc") => `(tactic| repeat (first | simp [atI, ixN, zipI, cutG, HT.sIx, Function.comp_def] | simp (disch := first | assumption | omega) only [oIntC_p, le_T, le_F, lt_T, lt_F, bq_F, in_T, in_F] | rw [if_pos (by omega)] | rw [if_neg (by omega)] | omega))
/-! ### what is due by the words heard by a tick -/
def heard (ws : List Wd) (h : Int) : List Wd := ws.filter fun w => decide (w.h ≤ h)
instance heard_ok {P : List Int} {ws : List Wd} [hw : OkWs P ws] {h : Int} : OkWs P (heard ws h) := ⟨Nat.le_trans (List.length_filter_le _ _) hw.len, fun w hm => hw.wd w (List.mem_filter.mp hm).1⟩
abbrev eTabs (rs : List (List (List Int))) : PyData := .list (rs.map eTab)
def rowsBy (c : List Lev) (ws : List Wd) : List (List (List Int)) := (List.range 121).map fun (i : Nat) => dueBy c (heard ws (i : Int))
theorem heard_same {ws : List Wd} {i : Nat} (h : ((i + 1 : Nat) : Int) ∉ ws.map Wd.h) : heard ws ((i + 1 : Nat) : Int) = heard ws (i : Int) := by
  unfold heard
  apply List.filter_congr
  intro w hw
  have : w.h ≠ ((i + 1 : Nat) : Int) := fun e => h (List.mem_map.mpr ⟨w, hw, e⟩)
  exact decide_eq_decide.mpr (by omega)
theorem foldl_two {α β : Type} (f : α → β) : ∀ (xs : List α) (s : β × List β), (xs.foldl (fun s i => (f i, s.2 ++ [f i])) s).2 = s.2 ++ xs.map f
  | [], s => by simp
  | x :: xs, s => by rw [List.foldl_cons, foldl_two f xs]; simp
theorem comp_heard {bb : Nat} {env : Env} {S : Sto} {ws : List Wd} {h : Int} {q : Bool} {k : Nat} (hk : env[k]? = some (some (.dat q (.int h)))) (hb : bb < env.length) (hn : k ≠ bb) :
    compL (fun _ => True) (bName bb) (xB (xOp (oBl fun i j => decide (i ≤ j)) (xOp oIx (xVar bb) (xC (.int 3))) (xVar k))) (xVar bb) (ws.map fun w => .dat false (eWd w)) env S = some ((heard ws h).map fun w => .dat false (eWd w), S) := by
  refine compL_ev (fun w => .dat false (eWd w)) (fun w => decide (w.h ≤ h)) (fun w => .dat false (eWd w)) ws (fun w _ => ⟨_, rfl, ?_, fun _ => ?_⟩)
  · cases w <;> unfold eWd <;> simp [hb, hk, Ne.symm hn, atI, ixN, Wd.h] <;> exact decide_eq_decide.mpr Iff.rfl
  · simp [hb]
theorem rows_by_e {c : List Lev} {ws : List Wd} [h : OkCh c] [hw : OkWs (ppl c) ws] (b b2 : Bool) (S : Sto) :
    sem_rows_by [.dat b (eCh c), .dat b2 (eWs ws)] S = some (.own S.length, S ++ [.lst ((rowsBy c ws).map fun r => .dat false (eTab r))]) := by
  have hwl := hw.len
  unfold sem_rows_by body_rows_by
  walk_at "nc"
  rw [compL_y (fun w => .dat false (eWd w)) (fun w => .dat false (.int w.h)) ws (fun w hw' => by
    refine ⟨_, rfl, ?_⟩
    cases w <;> unfold eWd <;> simp only [Wd.h] <;> walk_at "nc")]
  walk_at "nc"
  unfold rangeI
  simp only [Int.zero_add]
  have eT : List.map (fun w : Wd => PyData.int w.h) ws = (ws.map Wd.h).map .int := by simp [Function.comp_def]
  rw [eT]
  obtain ⟨q, e⟩ : ∃ q : List (List Int), forL (turnS (bName 6) (sSeq (sIf (xOr (xB (xOp (oEq false) (xVar 6) (xC (.int 0)))) (xB (xOp (oIn false) (xVar 6) (xVar 5)))) (sAsg (xCallF sem_due_by 2 (xCons (xVar 0) (xCons (xDat (xLc (xiList (xVar 1)) (bName 4) (xB (xOp (oBl fun i j => decide (i ≤ j)) (xOp oIx (xVar 4) (xC (.int 3))) (xVar 6))) (xVar 4) [4])) xNil))) (bName 3)) sNext) (sDrop (xMut uApp (xVar 2) (xCons (xVar 3) xNil)))) [6])
      (fun _ => True) ((List.range 121).map fun (i : Nat) => .dat false (.int (i : Int))) [some (.dat b (eCh c)), some (.dat b2 (eWs ws)), some (.own S.length), some (.dat false (.list [])), none, some (.dat false (.list ((ws.map Wd.h).map .int))), none] (S ++ [.lst []]) =
      some (.nx, [some (.dat b (eCh c)), some (.dat b2 (eWs ws)), some (.own S.length), some (.dat false (eTab q)), none, some (.dat false (.list ((ws.map Wd.h).map .int))), none], S ++ [.lst ((rowsBy c ws).map fun r => .dat false (eTab r))]) := by
    have key := fun bd hh => (forL_env (bd := bd) (fun s : List (List Int) × List (List (List Int)) => [some (.dat b (eCh c)), some (.dat b2 (eWs ws)), some (.own S.length), some (.dat false (eTab s.1)), none, some (.dat false (.list ((ws.map Wd.h).map .int))), none]) (fun s => S ++ [.lst (s.2.map fun r => .dat false (eTab r))])
      (fun s (i : Nat) => (dueBy c (heard ws (i : Int)), s.2 ++ [dueBy c (heard ws (i : Int))])) (fun i s => s.2.length = i ∧ ∀ k, i = k + 1 → s.1 = dueBy c (heard ws (k : Int))) (fun (i : Nat) => .dat false (.int (i : Int))) (List.range 121) 0 ([], []) ⟨rfl, fun k e => by omega⟩ hh).1
    refine ⟨((List.range 121).foldl (fun s (i : Nat) => (dueBy c (heard ws (i : Int)), s.2 ++ [dueBy c (heard ws (i : Int))])) (([], []) : List (List Int) × List (List (List Int)))).1, ?_⟩
    · refine (key _ (fun i s x hx hP => ?_)).trans ?_
      · obtain ⟨hl, hr⟩ := hP
        obtain ⟨row, rows⟩ := s
        obtain ⟨hi, ex⟩ := List.getElem?_eq_some_iff.mp hx
        simp only [List.length_range, List.getElem_range] at hi ex
        subst ex
        simp only [Nat.zero_add] at hl hr ⊢
        refine ⟨?_, by simp [hl], fun k e => by rw [show k = i by omega]⟩
        have hl2 : rows.length < 100000 := by omega
        have hd := due_by_e (c := c) (ws := heard ws (i : Int)) true true []
        have hhl : (heard ws (i : Int)).length ≤ 12 := (heard_ok (P := ppl c) (ws := ws)).len
        simp only [turnS_e, bName_e, kBind_e, sSeq_e]
        simp only [List.set_cons_succ, List.set_cons_zero]
        rw [kSeq_to [some (.dat b (eCh c)), some (.dat b2 (eWs ws)), some (.own S.length), some (.dat false (eTab (dueBy c (heard ws (i : Int))))), none, some (.dat false (.list ((ws.map Wd.h).map .int))), some (.dat false (.int (i : Int)))] (S ++ [.lst (rows.map fun r => .dat false (eTab r))])]
        rotate_left
        · have go : (sAsg (xCallF sem_due_by 2 (xCons (xVar 0) (xCons (xDat (xLc (xiList (xVar 1)) (bName 4) (xB (xOp (oBl fun i j => decide (i ≤ j)) (xOp oIx (xVar 4) (xC (.int 3))) (xVar 6))) (xVar 4) [4])) xNil))) (bName 3)) [some (.dat b (eCh c)), some (.dat b2 (eWs ws)), some (.own S.length), some (.dat false (eTab row)), none, some (.dat false (.list ((ws.map Wd.h).map .int))), some (.dat false (.int (i : Int)))] (S ++ [.lst (rows.map fun r => .dat false (eTab r))]) = some (.nx, [some (.dat b (eCh c)), some (.dat b2 (eWs ws)), some (.own S.length), some (.dat false (eTab (dueBy c (heard ws (i : Int))))), none, some (.dat false (.list ((ws.map Wd.h).map .int))), some (.dat false (.int (i : Int)))], S ++ [.lst (rows.map fun r => .dat false (eTab r))]) := by
            simp [Function.comp_def]
            rw [if_pos (by omega), comp_heard (h := (i : Int)) (q := false) (by rfl) (by simp) (by decide)]
            simp [hd]
          by_cases h0 : i = 0
          · subst h0
            have heq : (((0 : Nat) : Int) == 0) = true := rfl
            rw [sIf_e]
            have : xOr (xB (xOp (oEq false) (xVar 6) (xC (.int 0)))) (xB (xOp (oIn false) (xVar 6) (xVar 5))) [some (.dat b (eCh c)), some (.dat b2 (eWs ws)), some (.own S.length), some (.dat false (eTab row)), none, some (.dat false (.list ((ws.map Wd.h).map .int))), some (.dat false (.int ((0 : Nat) : Int)))] (S ++ [.lst (rows.map fun r => .dat false (eTab r))]) = some (true, S ++ [.lst (rows.map fun r => .dat false (eTab r))]) := by
              simp only [xOr_e, xB_e, xOp_e, xVar_e, xC_e, k2_e, bnd_mk, List.getElem?_cons_succ, List.getElem?_cons_zero, kV_e, oEq_e, rd_dat, kEq_e, shaped_i, and_self, if_true, eqv_ii, kB_e, heq]
              simp
            rw [this, kTest_t, go]
          · by_cases hm : (i : Int) ∈ ws.map Wd.h
            · have hm' := in_T hm
              rw [sIf_e]
              have : xOr (xB (xOp (oEq false) (xVar 6) (xC (.int 0)))) (xB (xOp (oIn false) (xVar 6) (xVar 5))) [some (.dat b (eCh c)), some (.dat b2 (eWs ws)), some (.own S.length), some (.dat false (eTab row)), none, some (.dat false (.list ((ws.map Wd.h).map .int))), some (.dat false (.int (i : Int)))] (S ++ [.lst (rows.map fun r => .dat false (eTab r))]) = some (true, S ++ [.lst (rows.map fun r => .dat false (eTab r))]) := by
                have hne : ((i : Int) == 0) = false := by simp; omega
                simp only [xOr_e, xB_e, xOp_e, xVar_e, xC_e, k2_e, bnd_mk, List.getElem?_cons_succ, List.getElem?_cons_zero, kV_e, oEq_e, rd_dat, kEq_e, shaped_i, and_self, if_true, eqv_ii, kB_e, hne, oIn_e, kIn_is, hm', kTest_f]
                simpa using hm
              rw [this, kTest_t, go]
            · have hm' := in_F hm
              rw [sIf_e]
              have : xOr (xB (xOp (oEq false) (xVar 6) (xC (.int 0)))) (xB (xOp (oIn false) (xVar 6) (xVar 5))) [some (.dat b (eCh c)), some (.dat b2 (eWs ws)), some (.own S.length), some (.dat false (eTab row)), none, some (.dat false (.list ((ws.map Wd.h).map .int))), some (.dat false (.int (i : Int)))] (S ++ [.lst (rows.map fun r => .dat false (eTab r))]) = some (false, S ++ [.lst (rows.map fun r => .dat false (eTab r))]) := by
                have hne : ((i : Int) == 0) = false := by simp; omega
                simp only [xOr_e, xB_e, xOp_e, xVar_e, xC_e, k2_e, bnd_mk, List.getElem?_cons_succ, List.getElem?_cons_zero, kV_e, oEq_e, rd_dat, kEq_e, shaped_i, and_self, if_true, eqv_ii, kB_e, hne, oIn_e, kIn_is, hm', kTest_f]
                simpa using hm
              rw [this, kTest_f]
              obtain ⟨k, rfl⟩ : ∃ k, i = k + 1 := ⟨i - 1, by omega⟩
              rw [hr k rfl, heard_same hm]
              rfl
        simp [hl2]
      · rw [foldl_two]
        simp [rowsBy]
  rw [e]
  simp
end Nc
set_option Elab.async false
set_option linter.all false
set_option maxRecDepth 100000
set_option maxHeartbeats 1000000
namespace Nc
open PySem PySem.Spec PyProof.Rows L2
local macro_rules | `(tactic| walk_at "nc") => `(tactic| repeat (first | simp [atI, ixN, zipI, cutG, HT.sIx, Function.comp_def] | simp (disch := first | assumption | omega) only [oIntC_p, le_T, le_F, lt_T, lt_F, bq_F, in_T, in_F] | rw [if_pos (by omega)] | rw [if_neg (by omega)] | omega))
def sentBy (c : List Lev) (ws : List Wd) (h : Int) : List (List Int) := (List.range 61).map fun (t : Nat) => ((dueBy c (heard ws ((t : Int) + h)))[t]?).getD []
theorem row_at {c : List Lev} [hc : OkCh c] (ws : List Wd) {t : Nat} (ht : t < 61) (h : Int) : (dueBy c (heard ws h))[t]? = some (((dueBy c (heard ws h))[t]?).getD []) := by
  have hl := (dueBy_len (c := c) (ws := heard ws h)).1
  cases e : (dueBy c (heard ws h))[t]? with
  | none =>
    rw [List.getElem?_eq_none_iff] at e
    omega
  | some r => rfl
theorem sentBy_len {c : List Lev} {ws : List Wd} [hc : OkCh c] {h : Int} : (sentBy c ws h).length = 61 ∧ ∀ r ∈ sentBy c ws h, r.length ≤ 3 := by
  refine ⟨by simp [sentBy], fun r hr => ?_⟩
  unfold sentBy at hr
  obtain ⟨t, ht, rfl⟩ := List.mem_map.mp hr
  exact (dueBy_len (c := c) (ws := heard ws ((t : Int) + h))).2 _ (List.mem_of_getElem? (row_at ws (List.mem_range.mp ht) _))
theorem rowsBy_at {c : List Lev} {ws : List Wd} {t : Nat} {h : Int} (ht : t < 61) (h0 : 0 ≤ h) (h60 : h ≤ 60) : atI ((rowsBy c ws).map eTab) ((t : Int) + h) = some (eTab (dueBy c (heard ws ((t : Int) + h)))) := by
  obtain ⟨n, rfl⟩ := Int.eq_ofNat_of_zero_le h0
  have e : ((t : Int) + (n : Int)) = ((t + n : Nat) : Int) := by omega
  rw [e, atI_n, List.getElem?_map]
  unfold rowsBy
  rw [List.getElem?_map, List.getElem?_range (by omega)]
  rfl
theorem comp_sent {c : List Lev} [hc : OkCh c] {ws : List Wd} {h : Int} (h0 : 0 ≤ h) (h60 : h ≤ 60) (b d : Bool) (S : Sto) :
    compL (fun _ => True) (bName 2) xYes (xOp oIx (xOp oIx (xVar 0) (xOp (oInt fun i j => i + j) (xVar 2) (xVar 1))) (xVar 2)) ((List.range 61).map fun (i : Nat) => .dat false (.int (i : Int))) [some (.dat b (eTabs (rowsBy c ws))), some (.dat d (.int h)), none] S = some ((sentBy c ws h).map fun r => .dat b (eIs r), S) := by
  have e : (sentBy c ws h).map (fun r => OV.dat b (eIs r)) = (List.range 61).map fun (t : Nat) => OV.dat b (eIs (((dueBy c (heard ws ((t : Int) + h)))[t]?).getD [])) := by
    unfold sentBy
    rw [List.map_map]
    rfl
  rw [e]
  refine compL_y (fun i : Nat => .dat false (.int (i : Int))) _ (List.range 61) fun t ht => ⟨_, rfl, ?_⟩
  have ht' := List.mem_range.mp ht
  simp
  rw [rowsBy_at ht' h0 h60]
  simp
  rw [atI_n, List.getElem?_map, row_at ws ht']
  simp
theorem sent_in_e {c : List Lev} {ws : List Wd} [hc : OkCh c] {h : Int} (h0 : 0 ≤ h) (h60 : h ≤ 60) (b d : Bool) (S : Sto) :
    sem_sent_in [.dat b (eTabs (rowsBy c ws)), .dat d (.int h)] S = some (.own S.length, S ++ [.lst ((sentBy c ws h).map fun r => .dat b (eIs r))]) := by
  unfold sem_sent_in body_sent_in
  walk_at "nc"
  unfold rangeI
  simp only [Int.zero_add]
  rw [comp_sent h0 h60]
  walk_at "nc"
theorem lawsent_e {c : List Lev} {ws : List Wd} [hc : OkCh c] {h : Int} (h0 : 0 ≤ h) (h60 : h ≤ 60) (b d : Bool) (S : Sto) :
    sem__law_sent [.dat b (eTabs (rowsBy c ws)), .dat d (.int h)] S = some (.own S.length, S ++ [.lst ((sentBy c ws h).map fun r => .dat b (eIs r))]) := by
  unfold sem__law_sent body__law_sent
  walk_at "nc"
  unfold rangeI
  simp only [Int.zero_add]
  rw [comp_sent h0 h60]
  walk_at "nc"
/-- .. called with what it leans on -/
theorem callG_tab {sem : Sem2} {x y : OV} {b : Bool} {rows : List (List Int)} {S S1 : Sto} (h : sem [x, y] [] = some (.own 0, [.lst (rows.map fun r => .dat b (eIs r))])) : resF S1 false (sem [x, y] []) = some (.dat false (eTab rows), S1) := by
  rw [h]
  simp [allDat_map]
theorem sent_by_e {c : List Lev} {ws : List Wd} [hc : OkCh c] [hw : OkWs (ppl c) ws] {h : Int} (h0 : 0 ≤ h) (h60 : h ≤ 60) (b d : Bool) (S : Sto) :
    sem_sent_by [.dat b (eCh c), .dat d (eWs ws), .dat false (.int h)] S = some (.dat false (eTab (sentBy c ws h)), S) := by
  have hr := rows_by_e (c := c) (ws := ws) true true []
  have hs := sent_in_e (c := c) (ws := ws) h0 h60 true true []
  unfold sem_sent_by body_sent_by
  simp [hr]
  simp at hs
  simp [hs, allDat_map]
@[simp] theorem check_hold_e {h : Int} (h0 : 0 ≤ h) (h60 : h ≤ 60) (b : Bool) (S : Sto) : sem_check_hold [.dat b (.int h)] S = some (.dat false .none, S) := by
  unfold sem_check_hold body_check_hold
  walk_at "nc"
abbrev sentPs (c : List Lev) (ws : List Wd) (h : Int) : List (Int × Int) := prs (sentBy c ws h)
theorem sent_all_e {c : List Lev} {ws : List Wd} [hc : OkCh c] [hw : OkWs (ppl c) ws] {h : Int} (h0 : 0 ≤ h) (h60 : h ≤ 60) (b d q : Bool) (S : Sto) :
    sem_sent_all [.dat b (eCh c), .dat d (eWs ws), .dat q (.int h)] S = some (.own S.length, S ++ [.lst ((sentPs c ws h).map fun p => .dat false (ePr p))]) := by
  have hb := sentBy_len (c := c) (ws := ws) (h := h)
  have hs := sent_by_e (c := c) (ws := ws) h0 h60 true true []
  have hp := fun b S => pairs_of_e (rows := sentBy c ws h) (by omega) (fun r hr => by have := hb.2 r hr; omega) b S
  unfold sem_sent_all body_sent_all
  simp [hs, hp, check_hold_e h0 h60]
/-! ### what is of one and not of the other -/
def minus (a b : List (Int × Int)) : List (Int × Int) := a.filter fun p => !decide (p ∈ b)
theorem any_pr (ps : List (Int × Int)) (p : Int × Int) : ((ps.map ePr).any fun z => PyData.eqv z (ePr p)) = decide (p ∈ ps) := by
  induction ps with
  | nil => simp
  | cons q ps ih =>
    rw [List.map_cons, List.any_cons, ih]
    have : PyData.eqv (ePr q) (ePr p) = decide (p = q) := by
      obtain ⟨a, b⟩ := p
      obtain ⟨c, d⟩ := q
      rw [Bool.eq_iff_iff]
      simp [ePr]
      constructor <;> (rintro ⟨rfl, rfl⟩; exact ⟨rfl, rfl⟩)
    rw [this]
    by_cases h : p = q
    · simp [h]
    · simp [h]
@[simp] theorem sh_pr (p : Int × Int) : SeqAt.shaped (ePr p) = true := (Lays.pr p).shaped (by omega)
theorem oInD_pr {S : Sto} {a b neg : Bool} {p : Int × Int} {ps : List (Int × Int)} : oInD neg (.dat a (ePr p)) (.dat b (ePs ps)) S = some (.dat false (.bool (if neg then !decide (p ∈ ps) else decide (p ∈ ps))), S) := by
  unfold oInD
  simp only [rd_dat, sh_pr, sh_prs, and_self, if_true, any_pr]
theorem comp_minus {env : Env} {S : Sto} {v k : Nat} {b : Bool} {ps qs : List (Int × Int)} (hk : env[k]? = some (some (.dat b (ePs qs)))) (hv : v < env.length) (hn : k ≠ v) :
    compL (fun _ => True) (bName v) (xB (xOp (oInD true) (xVar v) (xVar k))) (xVar v) (ps.map fun p => .dat false (ePr p)) env S = some ((minus ps qs).map fun p => .dat false (ePr p), S) := by
  refine compL_ev (fun p => .dat false (ePr p)) (fun p => !decide (p ∈ qs)) (fun p => .dat false (ePr p)) ps (fun p _ => ⟨_, rfl, ?_, fun _ => ?_⟩)
  · simp [hv, hk, Ne.symm hn, oInD_pr]
  · simp [hv]
theorem sentPs_len {c : List Lev} {ws : List Wd} [hc : OkCh c] {h : Int} : (sentPs c ws h).length ≤ 183 := by
  have hb := sentBy_len (c := c) (ws := ws) (h := h)
  have := flatMap_len (fun r : List Int × Nat => r.1.map fun p => ((r.2 : Int), p)) 3 (sentBy c ws h).zipIdx (fun x hx => by
    obtain ⟨r, n⟩ := x
    rw [List.mem_zipIdx_iff_getElem?] at hx
    have := hb.2 r (List.mem_of_getElem? hx)
    simpa using this)
  unfold sentPs prs
  rw [List.length_zipIdx, hb.1] at this
  exact this
theorem minus_len {a b : List (Int × Int)} : (minus a b).length ≤ a.length := List.length_filter_le _ _
def needless (c : List Lev) (ws : List Wd) (h : Int) : List (Int × Int) := minus (sentPs c ws h) (duePs c ws)
def lacking (c : List Lev) (ws : List Wd) (h : Int) : List (Int × Int) := minus (duePs c ws) (sentPs c ws h)
abbrev eTwo (a b : List (Int × Int)) : PyData := .tuple [ePs a, ePs b]
theorem mkD_two (b : Bool) (x y : List (Int × Int)) : mkD b (eTwo x y) = .dat b (eTwo x y) := by simp [mkD_tup]
theorem apart_e {c : List Lev} {ws : List Wd} [hc : OkCh c] [hw : OkWs (ppl c) ws] {h : Int} (h0 : 0 ≤ h) (h60 : h ≤ 60) (b d q : Bool) (S : Sto) :
    sem_apart [.dat b (eCh c), .dat d (eWs ws), .dat q (.int h)] S = some (.dat false (eTwo (needless c ws h) (lacking c ws h)), S) := by
  have hb := dueBy_len (c := c) (ws := ws)
  have hd := due_by_e (c := c) (ws := ws) true true []
  have hp := fun b S => pairs_of_e (rows := dueBy c ws) (by omega) (fun r hr => by have := hb.2 r hr; omega) b S
  have hs := sent_all_e (c := c) (ws := ws) h0 h60 true true false []
  have l1 := sentPs_len (c := c) (ws := ws) (h := h)
  have l2 := duePs_len (c := c) (ws := ws)
  unfold sem_apart body_apart
  simp [hs, hd, hp, Function.comp_def]
  rw [if_pos (by omega), comp_minus (by rfl) (by simp) (by decide)]
  simp [Function.comp_def]
  rw [if_pos (by unfold duePs at l2; omega), comp_minus (by rfl) (by simp) (by decide)]
  simp [needless, lacking, mkD_tup]
theorem apart_deep_e {c : List Lev} {ws : List Wd} [hc : OkCh c] [hw : OkWs (ppl c) ws] {h : Int} (h0 : 0 ≤ h) (h60 : h ≤ 60) (b d q : Bool) (S : Sto) :
    sem_apart_deep [.dat b (eCh c), .dat d (eWs ws), .dat q (.int h)] S = some (.own (S.length + 2), S ++ [.lst ((needless c ws h).map fun p => .dat false (ePr p)), .lst ((lacking c ws h).map fun p => .dat false (ePr p)), .tup [.own S.length, .own (S.length + 1)]]) := by
  have hb := dueBy_len (c := c) (ws := ws)
  have hd := due_by_e (c := c) (ws := ws) true true []
  have hp := fun b S => pairs_of_e (rows := dueBy c ws) (by omega) (fun r hr => by have := hb.2 r hr; omega) b S
  have hs := sent_all_e (c := c) (ws := ws) h0 h60 true true false []
  have l1 := sentPs_len (c := c) (ws := ws) (h := h)
  have l2 := duePs_len (c := c) (ws := ws)
  unfold sem_apart_deep body_apart_deep
  simp [hs, hd, hp, Function.comp_def]
  rw [if_pos (by omega), comp_minus (by rfl) (by simp) (by decide)]
  simp [Function.comp_def]
  rw [if_pos (by unfold duePs at l2; omega), comp_minus (by rfl) (by simp) (by decide)]
  simp [needless, lacking]
end Nc
set_option Elab.async false
set_option linter.all false
set_option maxRecDepth 100000
set_option maxHeartbeats 1000000
namespace Nc
open PySem PySem.Spec PyProof.Rows L2
local macro_rules | `(tactic| walk_at "nc") => `(tactic| repeat (first | simp [atI, ixN, zipI, cutG, HT.sIx, Function.comp_def] | simp (disch := first | assumption | omega) only [oIntC_p, le_T, le_F, lt_T, lt_F, bq_F, in_T, in_F] | rw [if_pos (by omega)] | rw [if_neg (by omega)] | omega))
theorem tables_e {c : List Lev} {ws : List Wd} [h : OkCh c] [hw : OkWs (ppl c) ws] (b b2 : Bool) (S : Sto) :
    sem__law_tables [.dat b (eCh c), .dat b2 (eWs ws)] S = some (.own S.length, S ++ [.lst ((rowsBy c ws).map fun r => .dat false (eTab r))]) := by
  have hwl := hw.len
  unfold sem__law_tables body__law_tables
  walk_at "nc"
  unfold rangeI
  simp only [Int.zero_add]
  obtain ⟨q, e⟩ : ∃ q : List (List Int), forL (turnS (bName 4) (sSeq (sAsg (xDat (xLc (xiList (xVar 1)) (bName 5) (xB (xOp (oBl fun i j => decide (i ≤ j)) (xOp oIx (xVar 5) (xC (.int 3))) (xVar 4))) (xVar 5) [5])) (bName 6))
  (sSeq (sIf (xOr (xB (xOp (oEq false) (xVar 4) (xC (.int 0)))) (xB (xOp (oIn false) (xVar 4) (xDat (xLc (xiList (xVar 1)) (bName 5) xYes (xOp oIx (xVar 5) (xC (.int 3))) [5]))))) (sAsg (xCallF sem__law_table 2 (xCons (xVar 0) (xCons (xVar 6) xNil))) (bName 3)) sNext)
  (sDrop (xMut uApp (xVar 2) (xCons (xVar 3) xNil))))) [4, 6])
      (fun _ => True) ((List.range 121).map fun (i : Nat) => .dat false (.int (i : Int))) [some (.dat b (eCh c)), some (.dat b2 (eWs ws)), some (.own S.length), some (.dat false (.list [])), none, none, none] (S ++ [.lst []]) =
      some (.nx, [some (.dat b (eCh c)), some (.dat b2 (eWs ws)), some (.own S.length), some (.dat false (eTab q)), none, none, none], S ++ [.lst ((rowsBy c ws).map fun r => .dat false (eTab r))]) := by
    have key := fun bd hh => (forL_env (bd := bd) (fun s : List (List Int) × List (List (List Int)) => [some (.dat b (eCh c)), some (.dat b2 (eWs ws)), some (.own S.length), some (.dat false (eTab s.1)), none, none, none]) (fun s => S ++ [.lst (s.2.map fun r => .dat false (eTab r))])
      (fun s (i : Nat) => (dueBy c (heard ws (i : Int)), s.2 ++ [dueBy c (heard ws (i : Int))])) (fun i s => s.2.length = i ∧ ∀ k, i = k + 1 → s.1 = dueBy c (heard ws (k : Int))) (fun (i : Nat) => .dat false (.int (i : Int))) (List.range 121) 0 ([], []) ⟨rfl, fun k e => by omega⟩ hh).1
    refine ⟨((List.range 121).foldl (fun s (i : Nat) => (dueBy c (heard ws (i : Int)), s.2 ++ [dueBy c (heard ws (i : Int))])) (([], []) : List (List Int) × List (List (List Int)))).1, ?_⟩
    refine (key _ (fun i s x hx hP => ?_)).trans ?_
    · obtain ⟨hl, hr⟩ := hP
      obtain ⟨row, rows⟩ := s
      obtain ⟨hi, ex⟩ := List.getElem?_eq_some_iff.mp hx
      simp only [List.length_range, List.getElem_range] at hi ex
      subst ex
      simp only [Nat.zero_add] at hl hr ⊢
      refine ⟨?_, by simp [hl], fun k e => by rw [show k = i by omega]⟩
      have hl2 : rows.length < 100000 := by omega
      have hd := table_e (c := c) (ws := heard ws (i : Int)) true true []
      have hhl : (heard ws (i : Int)).length ≤ 12 := (heard_ok (P := ppl c) (ws := ws)).len
      simp only [turnS_e, bName_e, kBind_e, sSeq_e]
      simp only [List.set_cons_succ, List.set_cons_zero]
      rw [kSeq_to [some (.dat b (eCh c)), some (.dat b2 (eWs ws)), some (.own S.length), some (.dat false (eTab row)), some (.dat false (.int (i : Int))), none, some (.dat false (eWs (heard ws (i : Int))))] (S ++ [.lst (rows.map fun r => .dat false (eTab r))])]
      rotate_left
      · simp [Function.comp_def]
        rw [if_pos (by omega), comp_heard (h := (i : Int)) (q := false) (by rfl) (by simp) (by decide)]
        simp
      rw [sSeq_e, kSeq_to [some (.dat b (eCh c)), some (.dat b2 (eWs ws)), some (.own S.length), some (.dat false (eTab (dueBy c (heard ws (i : Int))))), some (.dat false (.int (i : Int))), none, some (.dat false (eWs (heard ws (i : Int))))] (S ++ [.lst (rows.map fun r => .dat false (eTab r))])]
      rotate_left
      · have go : (sAsg (xCallF sem__law_table 2 (xCons (xVar 0) (xCons (xVar 6) xNil))) (bName 3)) [some (.dat b (eCh c)), some (.dat b2 (eWs ws)), some (.own S.length), some (.dat false (eTab row)), some (.dat false (.int (i : Int))), none, some (.dat false (eWs (heard ws (i : Int))))] (S ++ [.lst (rows.map fun r => .dat false (eTab r))]) = some (.nx, [some (.dat b (eCh c)), some (.dat b2 (eWs ws)), some (.own S.length), some (.dat false (eTab (dueBy c (heard ws (i : Int))))), some (.dat false (.int (i : Int))), none, some (.dat false (eWs (heard ws (i : Int))))], S ++ [.lst (rows.map fun r => .dat false (eTab r))]) := by
          simp [hd]
        have times : xDat (xLc (xiList (xVar 1)) (bName 5) xYes (xOp oIx (xVar 5) (xC (.int 3))) [5]) [some (.dat b (eCh c)), some (.dat b2 (eWs ws)), some (.own S.length), some (.dat false (eTab row)), some (.dat false (.int (i : Int))), none, some (.dat false (eWs (heard ws (i : Int))))] (S ++ [.lst (rows.map fun r => .dat false (eTab r))]) = some (.dat false (.list ((ws.map Wd.h).map .int)), S ++ [.lst (rows.map fun r => .dat false (eTab r))]) := by
          simp [Function.comp_def]
          rw [if_pos (by omega)]
          rw [compL_y (fun w => .dat false (eWd w)) (fun w => .dat false (.int w.h)) ws (fun w hw' => by
            refine ⟨_, rfl, ?_⟩
            cases w <;> unfold eWd <;> simp only [Wd.h] <;> walk_at "nc")]
          simp
        by_cases h0 : i = 0
        · subst h0
          have heq : (((0 : Nat) : Int) == 0) = true := rfl
          rw [sIf_e, xOr_e]
          simp only [xB_e, xOp_e, xVar_e, xC_e, k2_e, bnd_mk, List.getElem?_cons_succ, List.getElem?_cons_zero, kV_e, oEq_e, rd_dat, kEq_e, shaped_i, and_self, if_true, eqv_ii, kB_e, heq, Bool.false_eq_true, if_false, kTest_t, yT_e]
          rw [go]
        · have hne : ((i : Int) == 0) = false := by simp; omega
          rw [sIf_e, xOr_e]
          by_cases hm : (i : Int) ∈ ws.map Wd.h
          · have hm' := in_T hm
            rw [show xB (xOp (oEq false) (xVar 4) (xC (.int 0))) [some (.dat b (eCh c)), some (.dat b2 (eWs ws)), some (.own S.length), some (.dat false (eTab row)), some (.dat false (.int (i : Int))), none, some (.dat false (eWs (heard ws (i : Int))))] (S ++ [.lst (rows.map fun r => .dat false (eTab r))]) = some (false, S ++ [.lst (rows.map fun r => .dat false (eTab r))]) by
              simp; omega]
            rw [kTest_f]
            simp only [xB_e, xOp_e, xVar_e, k2_e, bnd_mk, List.getElem?_cons_succ, List.getElem?_cons_zero, kV_e, times, oIn_e, rd_dat, kIn_is, hm', Bool.false_eq_true, if_false, kB_e, kTest_t]
            rw [go]
          · have hm' := in_F hm
            rw [show xB (xOp (oEq false) (xVar 4) (xC (.int 0))) [some (.dat b (eCh c)), some (.dat b2 (eWs ws)), some (.own S.length), some (.dat false (eTab row)), some (.dat false (.int (i : Int))), none, some (.dat false (eWs (heard ws (i : Int))))] (S ++ [.lst (rows.map fun r => .dat false (eTab r))]) = some (false, S ++ [.lst (rows.map fun r => .dat false (eTab r))]) by
              simp; omega]
            rw [kTest_f]
            simp only [xB_e, xOp_e, xVar_e, k2_e, bnd_mk, List.getElem?_cons_succ, List.getElem?_cons_zero, kV_e, times, oIn_e, rd_dat, kIn_is, hm', Bool.false_eq_true, if_false, kB_e, kTest_f, sNext_e]
            obtain ⟨k, rfl⟩ : ∃ k, i = k + 1 := ⟨i - 1, by omega⟩
            rw [hr k rfl, heard_same hm]
      simp [hl2]
    · rw [foldl_two]
      simp [rowsBy]
  rw [e]
  simp
end Nc
set_option Elab.async false
set_option linter.all false
set_option maxRecDepth 100000
set_option maxHeartbeats 1000000
namespace Nc
open PySem PySem.Spec PyProof.Rows L2
local macro_rules | `(tactic| walk_at "nc") => `(tactic| repeat (first | simp [atI, ixN, zipI, cutG, HT.sIx, Function.comp_def] | simp (disch := first | assumption | omega) only [oIntC_p, le_T, le_F, lt_T, lt_F, bq_F, in_T, in_F] | rw [if_pos (by omega)] | rw [if_neg (by omega)] | omega))
theorem oks_put {P : List Int} {ws : List Wd} (h : OkWs P ws) {a : Nat} (ha : a < ws.length) {w : Wd} (hw : OkWd P w) : OkWs P (ws.take a ++ w :: ws.drop (a + 1)) := by
  refine ⟨?_, fun x hx => ?_⟩
  · have := h.len
    simp
    omega
  · rcases List.mem_append.mp hx with hx | hx
    · exact h.wd x (List.mem_of_mem_take hx)
    · rcases List.mem_cons.mp hx with rfl | hx
      · exact hw
      · exact h.wd x (List.mem_of_mem_drop hx)
theorem oks_out {P : List Int} {ws : List Wd} (h : OkWs P ws) {a : Nat} : OkWs P (ws.take a ++ ws.drop (a + 1)) := by
  refine ⟨?_, fun x hx => ?_⟩
  · have := h.len
    simp
    omega
  · rcases List.mem_append.mp hx with hx | hx
    · exact h.wd x (List.mem_of_mem_take hx)
    · exact h.wd x (List.mem_of_mem_drop hx)
theorem oks_rev {P : List Int} {ws : List Wd} (h : OkWs P ws) : OkWs P ws.reverse :=
  ⟨by simpa using h.len, fun x hx => h.wd x (List.mem_reverse.mp hx)⟩
theorem dfacts {c : List Lev} {ws : List Wd} (hc : OkCh c) (hws : OkWs (ppl c) ws) : (∀ S, kF (natD (sem_due_all [.dat true (eCh c), .dat true (eWs ws)] [])) S = some (.dat false (ePs (duePs c ws)), S)) ∧ (∀ S, kF (natD (sem__law_table [.dat true (eCh c), .dat true (eWs ws)] [])) S = some (.dat false (eTab (dueBy c ws)), S)) ∧ (∀ S, kF (natD (sem__law_pairs [.dat true (eTab (dueBy c ws))] [])) S = some (.dat false (ePs (duePs c ws)), S)) := by
  have hb := dueBy_len (c := c) (ws := ws)
  have hp := pairs_of_e (rows := dueBy c ws) (by omega) (fun r hr => by have := hb.2 r hr; omega) true []
  rw [← pairs_same] at hp
  refine ⟨fun S => ?_, fun S => ?_, fun S => ?_⟩
  · rw [due_all_e]; simp
  · rw [table_e]; simp
  · rw [hp]; simp
def lawC : List Lev := [([2, 5], 2, 2), ([0], 3, 1)]
theorem lawC_ok : OkCh lawC := by
  refine ⟨by decide, by decide, fun l hl => ?_, by decide⟩
  simp only [lawC, List.mem_cons, List.not_mem_nil, or_false] at hl
  rcases hl with rfl | rfl <;> exact ⟨by decide, by decide, by decide, by decide, by decide, by decide, by decide, by decide⟩
/-! ### what is due does not hang on the words' turn, nor at a tick on what is said later -/
theorem sortI_perm_eq {a b : List Int} (h : a.Perm b) : sortI a = sortI b := sortI_eq ((sortI_perm a).trans h) (sortI_sorted a)
theorem tkn_perm {ws us : List Wd} (h : ws.Perm us) (t : Int) : (tkn ws t).Perm (tkn us t) := (h.filter _).map _
theorem hush_perm {ws us : List Wd} (h : ws.Perm us) (t : Int) (ps : List Int) (q : Int) : hush ws t ps q = hush us t ps q := by
  unfold hush
  refine h.foldl_eq' (fun a _ b _ z => ?_) q
  split <;> split <;> omega
theorem isEmpty_perm {α : Type} {a b : List α} (h : a.Perm b) : a.isEmpty = b.isEmpty := by
  cases a with
  | nil => rw [h.nil_eq]
  | cons x a => cases b with
    | nil => exact absurd h.length_eq (by simp)
    | cons y b => rfl
theorem tell_perm {c : List Lev} {ws us : List Wd} (h : ws.Perm us) (t : Int) (m : Mt) : tell c ws t m = tell c us t m := by
  have e1 : tell1 ws t m = tell1 us t m := by
    unfold tell1
    rw [sortI_perm_eq (tkn_perm h t)]
  have e2 : ∀ m, tell2 ws t m = tell2 us t m := fun m => by
    unfold tell2
    rw [isEmpty_perm (h.filter _)]
  unfold tell
  simp only [e1, e2]
  rw [hush_perm h]
theorem foldl_same {α β : Type} {f g : β → α → β} : ∀ (xs : List α) (b : β), (∀ x ∈ xs, ∀ b, f b x = g b x) → xs.foldl f b = xs.foldl g b
  | [], _, _ => rfl
  | x :: xs, b, h => by
    rw [List.foldl_cons, List.foldl_cons, h x List.mem_cons_self b]
    exact foldl_same xs _ fun y hy => h y (List.mem_cons_of_mem _ hy)
theorem dueBy_perm {c : List Lev} {ws us : List Wd} (h : ws.Perm us) : dueBy c ws = dueBy c us := by
  unfold dueBy
  rw [foldl_same (List.range 61) _ fun x _ b => by unfold stepM; rw [tell_perm h]]
  rfl
theorem heard_perm {ws us : List Wd} (h : ws.Perm us) (t : Int) : (heard ws t).Perm (heard us t) := h.filter _
theorem sentBy_perm {c : List Lev} {ws us : List Wd} (h : ws.Perm us) (k : Int) : sentBy c ws k = sentBy c us k := by
  unfold sentBy
  apply List.map_congr_left
  intro t _
  rw [dueBy_perm (heard_perm h _)]
/-- what is said at a tick -/
def nowW (ws : List Wd) (t : Int) : List Wd := ws.filter fun w => w.s == t
theorem foldl_skip {α β : Type} (p : α → Bool) (f : β → α → β) (h : ∀ b x, p x = false → f b x = b) : ∀ (xs : List α) (b : β), xs.foldl f b = (xs.filter p).foldl f b
  | [], _ => rfl
  | x :: xs, b => by
    rw [List.foldl_cons, List.filter_cons]
    cases e : p x with
    | true => simp only [if_true, List.foldl_cons]; exact foldl_skip p f h xs _
    | false => rw [h b x e]; simp only [Bool.false_eq_true, if_false]; exact foldl_skip p f h xs _
theorem tell_now (c : List Lev) (ws : List Wd) (t : Int) (m : Mt) : tell c ws t m = tell c (nowW ws t) t m := by
  have e0 : tkn ws t = tkn (nowW ws t) t := by
    unfold tkn nowW
    rw [List.filter_filter]
    congr 1
    apply List.filter_congr
    intro w _
    cases w.tk <;> cases (w.s == t) <;> rfl
  have e1 : tell1 ws t m = tell1 (nowW ws t) t m := by
    unfold tell1
    rw [← e0]
  have e2 : ∀ m, tell2 ws t m = tell2 (nowW ws t) t m := fun m => by
    have : (ws.filter fun w => w.dn && (w.s == t)) = ((nowW ws t).filter fun w => w.dn && (w.s == t)) := by
      unfold nowW
      rw [List.filter_filter]
      apply List.filter_congr
      intro w _
      cases w.dn <;> cases (w.s == t) <;> rfl
    unfold tell2
    rw [this]
  have e3 : ∀ ps q, hush ws t ps q = hush (nowW ws t) t ps q := fun ps q => by
    unfold hush nowW
    refine foldl_skip _ _ (fun b w hw => ?_) ws q
    simp [hw]
  unfold tell
  simp only [e1, e2]
  rw [e3]
theorem tell_same {c : List Lev} {ws us : List Wd} {t : Int} (h : nowW ws t = nowW us t) (m : Mt) : tell c ws t m = tell c us t m := by
  rw [tell_now c ws, tell_now c us, h]
theorem foldM_pre (c : List Lev) (ws : List Wd) : ∀ (xs : List Nat) (s : Mt × List (List Int)), ∃ r, (xs.foldl (stepM c ws) s).2 = s.2 ++ r ∧ r.length = xs.length
  | [], s => ⟨[], by simp⟩
  | x :: xs, s => by
    obtain ⟨r, h1, h2⟩ := foldM_pre c ws xs (stepM c ws s x)
    exact ⟨[dueM c (tell c ws (x : Int) s.1) (x : Int)] ++ r, by rw [List.foldl_cons, h1]; simp [stepM], by simp [h2]⟩
theorem dueBy_upto {c : List Lev} {ws : List Wd} {t : Nat} (ht : t < 61) : (dueBy c ws)[t]? = (((List.range (t + 1)).foldl (stepM c ws) (⟨0, 0, none, 0, false⟩, [])).2)[t]? := by
  unfold dueBy
  have e : List.range 61 = List.range (t + 1) ++ (List.range (60 - t)).map fun i => t + 1 + i := by
    rw [show 61 = (t + 1) + (60 - t) by omega, List.range_add]
  rw [e, List.foldl_append]
  obtain ⟨r, h1, h2⟩ := foldM_pre c ws ((List.range (60 - t)).map fun i => t + 1 + i) ((List.range (t + 1)).foldl (stepM c ws) (⟨0, 0, none, 0, false⟩, []))
  rw [h1]
  obtain ⟨r0, h3, h4⟩ := foldM_pre c ws (List.range (t + 1)) (⟨0, 0, none, 0, false⟩, [])
  rw [h3]
  rw [List.getElem?_append_left (by simp [h4])]
theorem dueBy_at {c : List Lev} {ws us : List Wd} {t : Nat} (ht : t < 61) (h : ∀ i : Nat, i ≤ t → nowW ws (i : Int) = nowW us (i : Int)) : (dueBy c ws)[t]? = (dueBy c us)[t]? := by
  rw [dueBy_upto ht, dueBy_upto ht]
  rw [foldl_same (List.range (t + 1)) _ fun x hx b => by
    unfold stepM
    rw [tell_same (h x (by have := List.mem_range.mp hx; omega))]]
  rfl
/-- the greatest lateness -/
def lateOf (ws : List Wd) : Int := maxL 0 (ws.map fun w => w.h - w.s)
theorem lateOf_ge {ws : List Wd} : 0 ≤ lateOf ws ∧ ∀ w ∈ ws, w.h - w.s ≤ lateOf ws := by
  obtain ⟨h1, h2, _⟩ := foldl_max (ws.map fun w => w.h - w.s) 0
  exact ⟨h1, fun w hw => h2 _ (List.mem_map.mpr ⟨w, hw, rfl⟩)⟩
theorem lateOf_le {P : List Int} {ws : List Wd} [hw : OkWs P ws] : lateOf ws ≤ 60 := by
  obtain ⟨_, _, h3⟩ := foldl_max (ws.map fun w => w.h - w.s) 0
  unfold lateOf maxL
  rcases h3 with h3 | h3
  · omega
  · obtain ⟨w, hm, e⟩ := List.mem_map.mp h3
    have h1 := (hw.wd w hm).h60
    have h2 := (hw.wd w hm).s0
    omega
theorem sentBy_late {c : List Lev} [hc : OkCh c] {ws : List Wd} {h : Int} (hl : lateOf ws ≤ h) : sentBy c ws h = dueBy c ws := by
  have hlen := (dueBy_len (c := c) (ws := ws)).1
  apply List.ext_getElem?
  intro t
  unfold sentBy
  rw [List.getElem?_map]
  by_cases ht : t < 61
  · rw [List.getElem?_range ht]
    simp only [Option.map_some]
    rw [← row_at ws ht]
    refine dueBy_at ht fun i hi => ?_
    unfold nowW heard
    rw [List.filter_filter]
    apply List.filter_congr
    intro w hw
    have := lateOf_ge.2 w hw
    by_cases e : w.s = (i : Int)
    · have : w.h ≤ (t : Int) + h := by omega
      simp [e, this]
    · simp [e]
  · rw [List.getElem?_eq_none (by simp; omega), List.getElem?_eq_none (by omega)]
    rfl
theorem minus_self (a : List (Int × Int)) : minus a a = [] := by
  unfold minus
  rw [List.filter_eq_nil_iff]
  intro x hx
  simp [hx]
end Nc
set_option Elab.async false
set_option linter.all false
set_option maxRecDepth 100000
set_option maxHeartbeats 1000000
namespace Nc
open PySem PySem.Spec PyProof.Rows L2
local macro_rules | `(tactic| walk_at "nc") => `(tactic| repeat (first | simp [atI, ixN, zipI, cutG, HT.sIx, Function.comp_def] | simp (disch := first | assumption | omega) only [oIntC_p, le_T, le_F, lt_T, lt_F, bq_F, in_T, in_F] | rw [if_pos (by omega)] | rw [if_neg (by omega)] | omega))
theorem heard_all {P : List Int} {ws : List Wd} [hw : OkWs P ws] {h : Int} (hh : 60 ≤ h) : heard ws h = ws := by
  unfold heard
  refine List.filter_eq_self.mpr fun w hm => ?_
  have := (hw.wd w hm).h60
  exact decide_eq_true (by omega)
theorem rowsBy_120 {c : List Lev} {ws : List Wd} [hw : OkWs (ppl c) ws] : atI ((rowsBy c ws).map eTab) 120 = some (eTab (dueBy c ws)) := by
  have : (120 : Int) = ((120 : Nat) : Int) := rfl
  rw [this, atI_n, List.getElem?_map]
  unfold rowsBy
  rw [List.getElem?_map, List.getElem?_range (by omega)]
  simp only [Option.map_some]
  rw [heard_all (P := ppl c) (by omega)]
@[simp] theorem sh_two2 (a b : List (Int × Int)) : SeqAt.shaped (eTwo a b) = true := by
  have h1 := Lays.list ePr a Lays.pr
  have h2 := Lays.list ePr b Lays.pr
  have : Lays 4 (eTwo a b) := by
    refine ⟨?_, ?_⟩
    · simp [PyData.canLay0, PyData.canLayAll0] at *
      have a := h1.lay; have b := h2.lay
      rw [PyData.canLay0] at a b
      exact ⟨a, b⟩
    · have a := h1.dep; have b := h2.dep
      rw [PyData.depth] at a b
      simp only [PyData.depth, PyData.depthAll]
      omega
  exact this.shaped (by omega)
end Nc
set_option Elab.async false
set_option linter.all false
set_option maxRecDepth 100000
set_option maxHeartbeats 1000000
namespace Nc
open PySem PySem.Spec PyProof.Rows L2
local macro_rules | `(tactic| walk_at "nc") => `(tactic| repeat (first | simp [atI, ixN, zipI, cutG, HT.sIx, Function.comp_def] | simp (disch := first | assumption | omega) only [oIntC_p, le_T, le_F, lt_T, lt_F, bq_F, in_T, in_F] | rw [if_pos (by omega)] | rw [if_neg (by omega)] | omega))
/-! ### who thinks that they have it -/
def knows (p t : Int) (w : Wd) : Bool := decide (w.s ≤ t) && ((w.p == p) || decide (w.h ≤ t))
def knownW (ws : List Wd) (p t : Int) : List Wd := ws.filter (knows p t)
def tkPr (ws : List Wd) : List (Int × Int) := (ws.filter Wd.tk).map fun w => (w.s, w.p)
def mineP (ws : List Wd) (p t : Int) : Bool := match sortP (tkPr (knownW ws p t)) with
  | [] => false
  | q :: _ => (q.2 == p) && ((knownW ws p t).filter Wd.dn).isEmpty
theorem ppl_rg {c : List Lev} [h : OkCh c] {p : Int} (hp : p ∈ ppl c) : 0 ≤ p ∧ p ≤ 7 := by
  obtain ⟨l, hl, hp⟩ := List.mem_flatMap.mp hp
  exact (h.lev l hl).rg p hp
theorem tkPr_ok {c : List Lev} [h : OkCh c] {ws us : List Wd} [hw : OkWs (ppl c) ws] (hs : ∀ w ∈ us, w ∈ ws) : ∀ q ∈ tkPr us, okPr q = true := by
  intro q hq
  unfold tkPr at hq
  obtain ⟨w, hm, rfl⟩ := List.mem_map.mp hq
  have := hw.wd w (hs w (List.mem_filter.mp hm).1)
  have h1 := this.s0; have h2 := this.s40; have h3 := ppl_rg this.p
  exact decide_eq_true (by simp only; omega)
def hSP (x : Option (List OV)) : Option (List OV) := match x with
  | some vs => (match prsOf vs with
      | some ps => if ps.length < 64 ∧ ps.all okPr = true then some ((sortP ps).map fun p => .dat false (ePr p)) else none
      | none => none)
  | none => none
@[simp] theorem oSortP_e {a : OV} {S : Sto} : oSortP [a] S = hSP (seqItems S a) := by
  unfold oSortP hSP; rfl
theorem prsOf_map (ps : List (Int × Int)) : prsOf (ps.map fun p => .dat false (ePr p)) = some ps := by
  induction ps with
  | nil => rfl
  | cons p ps ih =>
    rw [List.map_cons]
    unfold ePr prsOf
    simp only [ePr] at ih
    rw [ih]
theorem hSP_e {ps : List (Int × Int)} (h1 : ps.length < 64) (h2 : ∀ q ∈ ps, okPr q = true) : hSP (some (ps.map fun p => .dat false (ePr p))) = some ((sortP ps).map fun p => .dat false (ePr p)) := by
  unfold hSP
  simp only [prsOf_map]
  rw [if_pos ⟨h1, List.all_eq_true.mpr h2⟩]
theorem tkPr_len (ws : List Wd) : (tkPr ws).length ≤ ws.length := by
  unfold tkPr
  rw [List.length_map]
  exact List.length_filter_le _ _
@[simp] theorem pr_ix1 {b c : Bool} {p : Int × Int} {S : Sto} : oIx (.dat b (ePr p)) (.dat c (.int 1)) S = some (.dat false (.int p.2), S) := by
  simp [ePr, atI1]
theorem mine_at_e {c : List Lev} {ws : List Wd} [h : OkCh c] [hw : OkWs (ppl c) ws] (b d q : Bool) (p t : Int) (S : Sto) :
    sem_mine_at [.dat b (eWs ws), .dat d (.int p), .dat q (.int t)] S = some (.dat false (.bool (mineP ws p t)), S) := by
  have hl := hw.len
  have hk : (knownW ws p t).length ≤ 12 := Nat.le_trans (List.length_filter_le _ _) hl
  have ht := tkPr_len (knownW ws p t)
  have ok := tkPr_ok (c := c) (ws := ws) (us := knownW ws p t) (fun w hw => (List.mem_filter.mp hw).1)
  unfold sem_mine_at body_mine_at
  rw [callS_e, if_pos (by rfl), sSeq_e, kSeq_to [some (.dat b (eWs ws)), some (.dat d (.int p)), some (.dat q (.int t)), none, some (.dat false (eWs (knownW ws p t))), none] S]
  rotate_left
  · simp [Function.comp_def]
    rw [if_pos (by omega)]
    rw [compL_ev (fun w => .dat false (eWd w)) (knows p t) (fun w => .dat false (eWd w)) ws (fun w hw' => by
      refine ⟨_, rfl, ?_, fun _ => ?_⟩
      · unfold knows
        by_cases h1 : w.s ≤ t <;> by_cases h2 : w.p = p <;> by_cases h3 : w.h ≤ t <;> simp [h1, h2, h3, bq_F]
      · simp)]
    simp [knownW]
  rw [sSeq_e, kSeq_to [some (.dat b (eWs ws)), some (.dat d (.int p)), some (.dat q (.int t)), none, some (.dat false (eWs (knownW ws p t))), some (.dat false (ePs (sortP (tkPr (knownW ws p t)))))] S]
  rotate_left
  · simp [Function.comp_def]
    rw [if_pos (by omega)]
    rw [compL_ev (fun w => .dat false (eWd w)) Wd.tk (fun w => .dat false (ePr (w.s, w.p))) (knownW ws p t) (fun w hw' => by
      refine ⟨_, rfl, ?_, fun _ => ?_⟩
      · simp
      · simp [ePr])]
    have e : (List.filter Wd.tk (knownW ws p t)).map (fun w => OV.dat false (ePr (w.s, w.p))) = (tkPr (knownW ws p t)).map fun p => .dat false (ePr p) := by
      unfold tkPr; rw [List.map_map]; rfl
    have e2 : (List.filter Wd.tk (knownW ws p t)).map (fun w => ePr (w.s, w.p)) = (tkPr (knownW ws p t)).map ePr := by
      unfold tkPr; rw [List.map_map]; rfl
    simp [Function.comp_def, e, e2]
    rw [hSP_e (by omega) ok]
    simp
  unfold mineP
  cases e : sortP (tkPr (knownW ws p t)) with
  | nil => simp
  | cons x r =>
    simp [Function.comp_def]
    by_cases h1 : x.2 = p
    · simp [h1, Function.comp_def]
      rw [if_pos (by omega)]
      rw [compL_ev (fun w => .dat false (eWd w)) Wd.dn (fun w => .dat false (eWd w)) (knownW ws p t) (fun w hw' => by
        refine ⟨_, rfl, ?_, fun _ => ?_⟩
        · simp
        · simp)]
      simp
    · simp [h1, bq_F]
end Nc
set_option Elab.async false
set_option linter.all false
set_option maxRecDepth 100000
set_option maxHeartbeats 1000000
namespace Nc
open PySem PySem.Spec PyProof.Rows L2
local macro_rules | `(tactic| walk_at "nc") => `(tactic| repeat (first | simp [atI, ixN, zipI, cutG, HT.sIx, Function.comp_def] | simp (disch := first | assumption | omega) only [oIntC_p, le_T, le_F, lt_T, lt_F, bq_F, in_T, in_F] | rw [if_pos (by omega)] | rw [if_neg (by omega)] | omega))
abbrev eDb (d : Int × List Int) : PyData := .tuple [.int d.1, .list (d.2.map .int)]
abbrev eDbs (ds : List (Int × List Int)) : PyData := .list (ds.map eDb)
def thinkers (ws : List Wd) (ps : List Int) (t : Int) : List Int := ps.filter fun p => mineP ws p t
def dblOf (ws : List Wd) (ps : List Int) : List (Int × List Int) := (List.range 61).flatMap fun (t : Nat) => if 1 < (thinkers ws ps (t : Int)).length then [((t : Int), thinkers ws ps (t : Int))] else []
theorem comp_think {ws : List Wd} {c : List Lev} [h : OkCh c] [hw : OkWs (ppl c) ws] {ps : List Int} {env : Env} {S : Sto} {y : OV} {q : Bool} {t : Int} {v k1 k2 : Nat} (hy : argF S y = some (.dat true (eWs ws))) (hk1 : env[k1]? = some (some y)) (hk2 : env[k2]? = some (some (.dat q (.int t)))) (hv : v < env.length) (n1 : k1 ≠ v) (n2 : k2 ≠ v) :
    compL (fun _ => True) (bName v) (xB (xCallF sem_mine_at 3 (xCons (xVar k1) (xCons (xVar v) (xCons (xVar k2) xNil))))) (xVar v) (ps.map fun p => .dat false (.int p)) env S = some ((thinkers ws ps t).map fun p => .dat false (.int p), S) := by
  refine compL_ev (fun p => .dat false (.int p)) (fun p => mineP ws p t) (fun p => .dat false (.int p)) ps (fun p _ => ⟨_, rfl, ?_, fun _ => ?_⟩)
  · have := mine_at_e (c := c) (ws := ws) true false false p t []
    simp [hv, hk1, hk2, Ne.symm n1, Ne.symm n2, this, hy]
  · simp [hv]
theorem sortI_len (l : List Int) : (sortI l).length = l.length := (sortI_perm l).length_eq
theorem doubled_e {c : List Lev} {ws : List Wd} [h : OkCh c] [hw : OkWs (ppl c) ws] (b d : Bool) (S : Sto) :
    sem_doubled [.dat b (eCh c), .dat d (eWs ws)] S = some (.own S.length, S ++ [.lst ((dblOf ws (sortI (ppl c))).map fun x => .dat false (eDb x))]) := by
  have hpl := ppl_len (c := c)
  have hsl := sortI_len (ppl c)
  unfold sem_doubled body_doubled
  rw [callS_e, if_pos (by rfl), sSeq_e, kSeq_to [some (.dat b (eCh c)), some (.dat d (eWs ws)), none, none, none, none, none] S]
  rotate_left
  · simp
  rw [sSeq_e, kSeq_to [some (.dat b (eCh c)), some (.dat d (eWs ws)), some (.dat false (.list ((sortI (ppl c)).map .int))), some (.own S.length), none, none, none] (S ++ [.lst []])]
  rotate_left
  · have hp := people_of_e (c := c) true []
    simp at hp
    simp [hp, Function.comp_def]
  generalize sortI (ppl c) = ps at *
  rw [sSeq_e, kSeq_to [some (.dat b (eCh c)), some (.dat d (eWs ws)), some (.dat false (.list (ps.map .int))), some (.own S.length), none, none, none] (S ++ [.lst ((dblOf ws ps).map fun x => .dat false (eDb x))])]
  rotate_left
  · simp
    unfold rangeI
    simp only [Int.zero_add]
    have key := fun bd hh => (forL_env (bd := bd) (fun _ : List (Int × List Int) => [some (.dat b (eCh c)), some (.dat d (eWs ws)), some (.dat false (.list (ps.map .int))), some (.own S.length), none, none, none]) (fun s : List (Int × List Int) => S ++ [.lst (s.map fun x => .dat false (eDb x))])
      (fun s (t : Nat) => s ++ if 1 < (thinkers ws ps (t : Int)).length then [((t : Int), thinkers ws ps (t : Int))] else []) (fun i s => s.length ≤ i) (fun (t : Nat) => .dat false (.int (t : Int))) (List.range 61) 0 [] (by simp) hh).1
    rw [foldl_app] at key
    refine key _ (fun i s x hx hP => ?_)
    have hi := (List.getElem?_eq_some_iff.mp hx).1
    simp only [List.length_range] at hi
    refine ⟨?_, by split <;> simp <;> omega⟩
    have htl : (thinkers ws ps (x : Int)).length ≤ ps.length := List.length_filter_le _ _
    have hs2 : s.length < 100000 := by omega
    simp only [turnS_e, bName_e, kBind_e, sSeq_e]
    simp only [List.set_cons_succ, List.set_cons_zero]
    rw [kSeq_to [some (.dat b (eCh c)), some (.dat d (eWs ws)), some (.dat false (.list (ps.map .int))), some (.own S.length), some (.dat false (.int (x : Int))), none, some (.dat false (.list ((thinkers ws ps (x : Int)).map .int)))] (S ++ [.lst (s.map fun x => .dat false (eDb x))])]
    rotate_left
    · simp [Function.comp_def]
      rw [if_pos (by omega)]
      rw [comp_think (c := c) (ws := ws) (t := (x : Int)) (y := .dat d (eWs ws)) (q := false) (by simp) (by rfl) (by rfl) (by simp) (by decide) (by decide)]
      simp
    by_cases h1 : 1 < (thinkers ws ps (x : Int)).length
    · have h1i : (1 : Int) < ((thinkers ws ps (x : Int)).length : Int) := by omega
      simp [h1, h1i, hs2, mkD_tup]
    · have h1i : ¬ (1 : Int) < ((thinkers ws ps (x : Int)).length : Int) := by omega
      simp [h1, h1i]
  simp
end Nc
set_option Elab.async false
set_option linter.all false
set_option maxRecDepth 100000
set_option maxHeartbeats 1000000
namespace Nc
open PySem PySem.Spec PyProof.Rows L2
local macro_rules | `(tactic| walk_at "nc") => `(tactic| repeat (first | simp [atI, ixN, zipI, cutG, HT.sIx, Function.comp_def] | simp (disch := first | assumption | omega) only [oIntC_p, le_T, le_F, lt_T, lt_F, bq_F, in_T, in_F] | rw [if_pos (by omega)] | rw [if_neg (by omega)] | omega))
/-! ### words that are data or a list of the store -/
structure WsAt (S : Sto) (x : OV) (us : List Wd) : Prop where
  items : ∀ M, seqItems (S ++ M) x = some (us.map fun w => .dat false (eWd w))
  lst : ∀ M, lstItems (S ++ M) x = some (us.map fun w => .dat false (eWd w))
  list : ∀ M, oList [x] (S ++ M) = some (us.map fun w => .dat false (eWd w))
  rd6 : ∀ M, rd 6 (S ++ M) x = some (eWs us)
  rd5 : ∀ M, rd 5 (S ++ M) x = some (eWs us)
  arg : ∀ M, argF (S ++ M) x = some (.dat true (eWs us))
  ix : ∀ M (i : Int) b, oIx x (.dat b (.int i)) (S ++ M) = (atI us i).map fun w => (.dat false (eWd w), S ++ M)
theorem map_mkD_wd (b : Bool) (us : List Wd) : (us.map eWd).map (mkD b) = us.map fun w => .dat false (eWd w) := by
  simp [Function.comp_def]
theorem WsAt.dat (S : Sto) (b : Bool) (us : List Wd) : WsAt S (.dat b (eWs us)) us :=
  ⟨fun M => by rw [seqItems_dat, map_mkD_wd], fun M => by rw [lstItems_dat, map_mkD_wd], fun M => by rw [oList_l, map_mkD_wd], fun M => by simp, fun M => by simp, fun M => by simp, fun M i c => by
    rw [oIx_l, atI_map]
    cases atI us i <;> simp⟩
theorem WsAt.own {S : Sto} {k : Nat} {us : List Wd} (h : S[k]? = some (.lst (us.map fun w => .dat false (eWd w)))) : WsAt S (.own k) us := by
  have hk : k < S.length := (List.getElem?_eq_some_iff.mp h).1
  have g : ∀ M, (S ++ M)[k]? = some (.lst (us.map fun w => .dat false (eWd w))) := fun M => by rw [List.getElem?_append_left hk]; exact h
  refine ⟨fun M => ?_, fun M => ?_, fun M => ?_, fun M => ?_, fun M => ?_, fun M => ?_, fun M i c => ?_⟩
  · rw [seqItems_o, g]; rfl
  · rw [lstItems_o, g]; rfl
  · show seqItems (S ++ M) (.own k) = _
    rw [seqItems_o, g]; rfl
  · rw [rd_own6, g]; simp
  · rw [rd_own5, g]; simp
  · rw [argF_o, rdq6, g]; simp
  · rw [oIx_o, g, hIx_l, atI_map]
    cases atI us i <;> simp
theorem WsAt.more {S : Sto} {x : OV} {us : List Wd} (h : WsAt S x us) (N : Sto) : WsAt (S ++ N) x us :=
  ⟨fun M => by rw [List.append_assoc]; exact h.items _, fun M => by rw [List.append_assoc]; exact h.lst _, fun M => by rw [List.append_assoc]; exact h.list _, fun M => by rw [List.append_assoc]; exact h.rd6 _, fun M => by rw [List.append_assoc]; exact h.rd5 _, fun M => by rw [List.append_assoc]; exact h.arg _, fun M i b => by rw [List.append_assoc]; exact h.ix _ i b⟩
def Ext (S S' : Sto) : Prop := ∃ M, S' = S ++ M
theorem Ext.refl (S : Sto) : Ext S S := ⟨[], by simp⟩
theorem Ext.trans {A B C : Sto} (h : Ext A B) (k : Ext B C) : Ext A C := by
  obtain ⟨M, rfl⟩ := h
  obtain ⟨N, rfl⟩ := k
  exact ⟨M ++ N, by simp⟩
theorem Ext.app (S M : Sto) : Ext S (S ++ M) := ⟨M, rfl⟩
theorem Ext.of {S S' : Sto} (hl : S.length ≤ S'.length) (h : ∀ j, j < S.length → S'[j]? = S[j]?) : Ext S S' := by
  refine ⟨S'.drop S.length, ?_⟩
  have : S'.take S.length = S := by
    apply List.ext_getElem?
    intro j
    by_cases hj : j < S.length
    · rw [List.getElem?_take_of_lt hj, h j hj]
    · rw [List.getElem?_eq_none (by simp; omega), List.getElem?_eq_none (by omega)]
  calc S' = S'.take S.length ++ S'.drop S.length := (List.take_append_drop _ _).symm
    _ = _ := by rw [this]
theorem WsAt.ext {S S' : Sto} {x : OV} {us : List Wd} (h : WsAt S x us) (e : Ext S S') : WsAt S' x us := by
  obtain ⟨M, rfl⟩ := e
  exact h.more M
theorem Ext.get {S S' : Sto} {k : Nat} {o : OO} (e : Ext S S') (h : S[k]? = some o) : S'[k]? = some o := by
  obtain ⟨M, rfl⟩ := e
  rw [List.getElem?_append_left (List.getElem?_eq_some_iff.mp h).1]
  exact h
theorem walk_ext {bd : OV → SS} {gd : Sto → Prop} {E : Env} {S : Sto} : ∀ (xs : List OV) (S0 : Sto), Ext S S0 → (∀ S', Ext S S' → gd S') → (∀ x ∈ xs, ∀ S', Ext S S' → ∃ S'', bd x E S' = some (.nx, E, S'') ∧ Ext S S'') → ∃ S', forL bd gd xs E S0 = some (.nx, E, S') ∧ Ext S S'
  | [], S0, e, hg, _ => ⟨S0, by rw [forL_gn, chk_pos (hg S0 e)], e⟩
  | x :: xs, S0, e, hg, h => by
    obtain ⟨S1, h1, e1⟩ := h x List.mem_cons_self S0 e
    obtain ⟨S2, h2, e2⟩ := walk_ext xs S1 e1 hg fun y hy => h y (List.mem_cons_of_mem _ hy)
    exact ⟨S2, by rw [forL_g, chk_pos (hg S0 e), h1, kFor_nx, h2], e2⟩
theorem ex_seqE {x : Option (Fl × Env × Sto)} {f : SS} {ws : List Nat} {E' : Env} {R : Sto → Prop} (r : Env) (S : Sto) (h : x = some (.nx, r, S)) (k : ∃ S', kTurn (f r S) ws = some (.nx, E', S') ∧ R S') : ∃ S', kTurn (kSeq x f) ws = some (.nx, E', S') ∧ R S' := by
  rw [h]; exact k
theorem ex_seqE2 {x : Option (Fl × Env × Sto)} {f : SS} {ws : List Nat} {E' : Env} {R Q : Sto → Prop} (r : Env) (h : ∃ S, x = some (.nx, r, S) ∧ Q S) (k : ∀ S, Q S → ∃ S', kTurn (f r S) ws = some (.nx, E', S') ∧ R S') : ∃ S', kTurn (kSeq x f) ws = some (.nx, E', S') ∧ R S' := by
  obtain ⟨S, h, q⟩ := h
  rw [h]; exact k S q
theorem ex_seqS {x : Option (Fl × Env × Sto)} {f : SS} {ws : List Nat} {E' : Env} {Q : Sto → Prop} (r : Env) (h : ∃ S, x = some (.nx, r, S) ∧ Q S) (k : ∀ S, Q S → ∃ S', kTurn (f r S) ws = some (.nx, E', S')) : ∃ S', kTurn (kSeq x f) ws = some (.nx, E', S') := by
  obtain ⟨S, h, q⟩ := h
  rw [h]; exact k S q
theorem Lays.db (d : Int × List Int) : Lays 2 (eDb d) := by
  have h := Lays.ints d.2
  have a := h.lay
  have b := h.dep
  rw [PyData.canLay0] at a
  rw [PyData.depth] at b
  refine ⟨by simp only [PyData.canLay0, PyData.canLayAll0]; simpa using a, by simp only [PyData.depth, PyData.depthAll]; omega⟩
@[simp] theorem sh_dbs (ds : List (Int × List Int)) : SeqAt.shaped (.list (ds.map eDb)) = true := (Lays.list _ ds Lays.db).shaped (by omega)
@[simp] theorem eqv_dbs (ds : List (Int × List Int)) : PyData.eqvAll (ds.map eDb) (ds.map eDb) = true := eqvAll_same _ (fun d => (Lays.db d).same) ds
end Nc
set_option Elab.async false
set_option linter.all false
set_option maxRecDepth 100000
set_option maxHeartbeats 1000000
namespace Nc
open PySem PySem.Spec PyProof.Rows L2
local macro_rules | `(tactic| walk_at "nc") => `(tactic| repeat (first | simp [atI, ixN, zipI, cutG, HT.sIx, Function.comp_def] | simp (disch := first | assumption | omega) only [oIntC_p, le_T, le_F, lt_T, lt_F, bq_F, in_T, in_F] | rw [if_pos (by omega)] | rw [if_neg (by omega)] | omega))
/-! ### the least hold -/
theorem eqv_ints : ∀ a b : List Int, PyData.eqvAll (a.map .int) (b.map .int) = decide (a = b)
  | [], [] => by simp
  | [], _ :: _ => by simp
  | _ :: _, [] => by simp
  | x :: a, y :: b => by
    rw [List.map_cons, List.map_cons, eqv_cc, eqv_ii, eqv_ints a b]
    by_cases h1 : x = y <;> by_cases h2 : a = b <;> simp [h1, h2]
theorem eqv_rows : ∀ a b : List (List Int), PyData.eqvAll (a.map eIs) (b.map eIs) = decide (a = b)
  | [], [] => by simp
  | [], _ :: _ => by simp
  | _ :: _, [] => by simp
  | x :: a, y :: b => by
    rw [List.map_cons, List.map_cons, eqv_cc, eqv_ll, eqv_ints, eqv_rows a b]
    by_cases h1 : x = y <;> by_cases h2 : a = b <;> simp [h1, h2]
@[simp] theorem sh_rows (t : List (List Int)) : SeqAt.shaped (.list (t.map eIs)) = true := (Lays.list eIs t Lays.ints).shaped (by omega)
def down (c : List Lev) (ws : List Wd) : Nat → Nat
  | 0 => 0
  | n + 1 => if sentBy c ws (n : Int) = dueBy c ws then down c ws n else n + 1
theorem down_0 (c : List Lev) (ws : List Wd) : down c ws 0 = 0 := rfl
theorem down_s (c : List Lev) (ws : List Wd) (n : Nat) : down c ws (n + 1) = if sentBy c ws (n : Int) = dueBy c ws then down c ws n else n + 1 := rfl
theorem down_le (c : List Lev) (ws : List Wd) (n : Nat) : down c ws n ≤ n := by
  induction n with
  | zero => exact Nat.le_refl _
  | succ n ih =>
    rw [down_s]
    split
    · exact Nat.le_succ_of_le ih
    · exact Nat.le_refl _
def leastH (c : List Lev) (ws : List Wd) : Int := ((down c ws (lateOf ws).toNat : Nat) : Int)
theorem leastH_rg {P : List Int} {c : List Lev} {ws : List Wd} (hw : OkWs P ws) : 0 ≤ leastH c ws ∧ leastH c ws ≤ 60 := by
  have h1 := down_le c ws (lateOf ws).toNat
  have h2 := lateOf_le (P := P) (ws := ws)
  have h3 := lateOf_ge (ws := ws)
  unfold leastH
  omega
theorem down_ne (c : List Lev) (ws : List Wd) (n k : Nat) (e : down c ws n = k + 1) : sentBy c ws (k : Int) ≠ dueBy c ws := by
  induction n with
  | zero =>
    rw [down_0] at e
    omega
  | succ n ih =>
    rw [down_s] at e
    split at e
    · exact ih e
    · rename_i h
      have : n = k := by omega
      subst this
      exact h
theorem leastH_ne {c : List Lev} {ws : List Wd} (h : leastH c ws ≠ 0) : sentBy c ws (leastH c ws - 1) ≠ dueBy c ws := by
  unfold leastH at h ⊢
  obtain ⟨k, hk⟩ : ∃ k, down c ws (lateOf ws).toNat = k + 1 := ⟨down c ws (lateOf ws).toNat - 1, by omega⟩
  rw [hk]
  have := down_ne c ws _ k hk
  rwa [show ((k + 1 : Nat) : Int) - 1 = (k : Int) by omega]
theorem rowsBy_last {c : List Lev} {ws : List Wd} [hw : OkWs (ppl c) ws] : atI ((rowsBy c ws).map eTab) (-1) = some (eTab (dueBy c ws)) := by
  rw [atI_m1, List.getLast?_map, List.getLast?_eq_getElem?]
  unfold rowsBy
  simp only [List.length_map, List.length_range]
  rw [List.getElem?_map, List.getElem?_range (by omega)]
  simp only [Option.map_some]
  rw [heard_all (P := ppl c) (by omega)]
theorem least_loop {c : List Lev} {ws : List Wd} [hc : OkCh c] [hw : OkWs (ppl c) ws] (X Y : OV) (b : Bool) (S : Sto) : ∀ (n fuel : Nat), n ≤ 60 → n < fuel →
    whileL (xAnd (xB (xOp (oBl fun i j => decide (j < i)) (xVar 5) (xC (.int 0)))) (xB (xOp (oEq false) (xCallG sem_sent_in 2 (xCons (xVar 2) (xCons (xOp (oInt fun i j => i - j) (xVar 5) (xC (.int 1))) xNil))) (xVar 4)))) (sAug 5 (fun i j => i - j) (xC (.int 1))) fuel [some X, some Y, some (.dat false (eTabs (rowsBy c ws))), none, some (.dat b (eTab (dueBy c ws))), some (.dat false (.int (n : Int)))] S =
      some (.nx, [some X, some Y, some (.dat false (eTabs (rowsBy c ws))), none, some (.dat b (eTab (dueBy c ws))), some (.dat false (.int ((down c ws n : Nat) : Int)))], S)
  | 0, fuel + 1, _, _ => by
    rw [whileL, down_0]
    simp
  | n + 1, fuel + 1, h60, hf => by
    have ih := least_loop (c := c) (ws := ws) X Y b S n fuel (by omega) (by omega)
    have hs := sent_in_e (c := c) (ws := ws) (h := (n : Int)) (by omega) (by omega) true true []
    simp only [List.length_nil, List.nil_append] at hs
    rw [whileL, down_s]
    have e1 : ((n + 1 : Nat) : Int) - 1 = (n : Int) := by omega
    have e2 : decide ((0 : Int) < ((n + 1 : Nat) : Int)) = true := decide_eq_true (by omega)
    have ht : (xAnd (xB (xOp (oBl fun i j => decide (j < i)) (xVar 5) (xC (.int 0)))) (xB (xOp (oEq false) (xCallG sem_sent_in 2 (xCons (xVar 2) (xCons (xOp (oInt fun i j => i - j) (xVar 5) (xC (.int 1))) xNil))) (xVar 4)))) [some X, some Y, some (.dat false (eTabs (rowsBy c ws))), none, some (.dat b (eTab (dueBy c ws))), some (.dat false (.int ((n + 1 : Nat) : Int)))] S = some (decide (sentBy c ws (n : Int) = dueBy c ws), S) := by
      rw [xAnd_e]
      simp only [xB_e, xOp_e, xVar_e, xC_e, k2_e, bnd_mk, List.getElem?_cons_succ, List.getElem?_cons_zero, kV_e, oBl_e, e2, kB_e, kTest_t, xCallG_e, xCons_e, xNil_e, oInt_e, e1, allDat_cons, allDat_nil, Bool.or_false, List.length_cons, List.length_nil, if_true, hG_e, List.map_cons, List.map_nil, hs, resF_o, List.getElem?_cons_zero, hR_e, allDat_map, oEq_e, rd_dat, kEq_e]
      simp [eqv_rows]
    rw [ht]
    by_cases h : sentBy c ws (n : Int) = dueBy c ws
    · rw [if_pos h]
      simp only [h, decide_true, bnd_mk, if_true]
      have ha : sAug 5 (fun i j => i - j) (xC (.int 1)) [some X, some Y, some (.dat false (eTabs (rowsBy c ws))), none, some (.dat b (eTab (dueBy c ws))), some (.dat false (.int ((n + 1 : Nat) : Int)))] S = some (.nx, [some X, some Y, some (.dat false (eTabs (rowsBy c ws))), none, some (.dat b (eTab (dueBy c ws))), some (.dat false (.int (n : Int)))], S) := by
        simp only [sAug_e, List.getElem?_cons_succ, List.getElem?_cons_zero, kAug_e, xC_e, bnd_mk, e1, List.set_cons_succ, List.set_cons_zero]
      rw [ha]
      exact ih
    · rw [if_neg h]
      simp [h]
theorem comp_lates {env : Env} {S : Sto} {v : Nat} {ws : List Wd} (hv : v < env.length) :
    compL (fun _ => True) (bName v) xYes (xOp (oInt fun i j => i - j) (xOp oIx (xVar v) (xC (.int 3))) (xOp oIx (xVar v) (xC (.int 2)))) (ws.map fun w => .dat false (eWd w)) env S = some (ws.map fun w => .dat false (.int (w.h - w.s)), S) := by
  refine compL_y (fun w => .dat false (eWd w)) (fun w => .dat false (.int (w.h - w.s))) ws (fun w hw' => ⟨_, rfl, ?_⟩)
  simp [hv]
theorem least_hold_e {c : List Lev} {ws : List Wd} [hc : OkCh c] [hw : OkWs (ppl c) ws] (b d : Bool) (S : Sto) :
    sem_least_hold [.dat b (eCh c), .dat d (eWs ws)] S = some (.dat false (.int (leastH c ws)), S) := by
  have hl := hw.len
  have hr := rows_by_e (c := c) (ws := ws) true true []
  have h1 := lateOf_ge (ws := ws)
  have h2 := lateOf_le (P := ppl c) (ws := ws)
  have hlast := rowsBy_last (c := c) (ws := ws)
  simp only [List.length_nil, List.nil_append] at hr
  unfold sem_least_hold body_least_hold
  rw [callS_e, if_pos (by rfl), sSeq_e, kSeq_to [some (.dat b (eCh c)), some (.dat d (eWs ws)), some (.dat false (eTabs (rowsBy c ws))), none, none, none] S]
  rotate_left
  · simp [hr]
  rw [sSeq_e, kSeq_to [some (.dat b (eCh c)), some (.dat d (eWs ws)), some (.dat false (eTabs (rowsBy c ws))), none, some (.dat false (eTab (dueBy c ws))), some (.dat false (.int (((lateOf ws).toNat : Nat) : Int)))] S]
  rotate_left
  · simp [hlast, Function.comp_def]
    rw [if_pos (by omega), comp_lates (by simp)]
    simp [Function.comp_def]
    rw [if_pos (by omega)]
    simp [lateOf]
    unfold lateOf at h1
    omega
  rw [sSeq_e, least_loop (c := c) (ws := ws) _ _ _ _ (lateOf ws).toNat 1000 (by omega) (by omega)]
  simp [leastH]
end Nc
set_option Elab.async false
set_option linter.all false
set_option maxRecDepth 100000
set_option maxHeartbeats 1000000
namespace Nc
open PySem PySem.Spec PyProof.Rows L2
local macro_rules | `(tactic| walk_at "nc") => `(tactic| repeat (first | simp [atI, ixN, zipI, cutG, HT.sIx, Function.comp_def] | simp (disch := first | assumption | omega) only [oIntC_p, le_T, le_F, lt_T, lt_F, bq_F, in_T, in_F] | rw [if_pos (by omega)] | rw [if_neg (by omega)] | omega))
/-! ### pairs that tell rows: the same pairs, the same rows -/
theorem mem_prs {rows : List (List Int)} {t p : Int} : (t, p) ∈ prs rows ↔ ∃ (n : Nat) (r : List Int), t = (n : Int) ∧ rows[n]? = some r ∧ p ∈ r := by
  unfold prs
  rw [List.mem_flatMap]
  constructor
  · rintro ⟨⟨r, n⟩, h1, h2⟩
    rw [List.mem_zipIdx_iff_getElem?] at h1
    obtain ⟨q, hq, e⟩ := List.mem_map.mp h2
    cases e
    exact ⟨n, r, rfl, h1, hq⟩
  · rintro ⟨n, r, rfl, h1, h2⟩
    exact ⟨(r, n), List.mem_zipIdx_iff_getElem?.mpr h1, List.mem_map.mpr ⟨p, h2, rfl⟩⟩
theorem up_same {a b : List Int} (ha : a.Pairwise (· < ·)) (hb : b.Pairwise (· < ·)) (h : ∀ x, x ∈ a ↔ x ∈ b) : a = b := by
  rw [sortU_eq ha h, ← sortU_eq hb (fun k => Iff.rfl)]
theorem rows_same {a b : List (List Int)} (hl : a.length = b.length) (ha : ∀ r ∈ a, r.Pairwise (· < ·)) (hb : ∀ r ∈ b, r.Pairwise (· < ·)) (h : ∀ q, q ∈ prs a ↔ q ∈ prs b) : a = b := by
  apply List.ext_getElem?
  intro n
  by_cases hn : n < a.length
  · have e1 : a[n]? = some a[n] := List.getElem?_eq_getElem hn
    have e2 : b[n]? = some (b[n]'(by omega)) := List.getElem?_eq_getElem (by omega)
    rw [e1, e2]
    congr 1
    refine up_same (ha _ (List.getElem_mem _)) (hb _ (List.getElem_mem _)) fun x => ?_
    have k : ∀ {rows : List (List Int)} {r : List Int}, rows[n]? = some r → (x ∈ r ↔ ((n : Int), x) ∈ prs rows) := fun {rows r} e => by
      rw [mem_prs]
      constructor
      · exact fun hx => ⟨n, r, rfl, e, hx⟩
      · rintro ⟨m, r', h1, h2, h3⟩
        have : m = n := by omega
        subst this
        rw [e] at h2
        cases h2
        exact h3
    rw [k e1, k e2, h]
  · rw [List.getElem?_eq_none (by omega), List.getElem?_eq_none (by omega)]
theorem levAt_up {c : List Lev} (h : ∀ l ∈ c, OkLev l) (t : Int) : (levAt c t).1.Pairwise (· < ·) := by
  induction c generalizing t with
  | nil => simp [levAt]
  | cons l r ih =>
    unfold levAt
    split
    · exact (h l List.mem_cons_self).up
    · exact ih (fun x hx => h x (List.mem_cons_of_mem _ hx)) _
theorem dueM_up {c : List Lev} [h : OkCh c] (m : Mt) (t : Int) : (dueM c m t).Pairwise (· < ·) := by
  unfold dueM
  split
  · simp
  · cases m.taker with
    | some p => simp only; split <;> simp
    | none =>
      simp only
      split
      · exact levAt_up h.lev _
      · simp
theorem foldM_up {c : List Lev} {ws : List Wd} [h : OkCh c] (xs : List Nat) (s : Mt × List (List Int)) (hs : ∀ r ∈ s.2, r.Pairwise (· < ·)) : ∀ r ∈ (xs.foldl (stepM c ws) s).2, r.Pairwise (· < ·) := by
  induction xs generalizing s with
  | nil => exact hs
  | cons x xs ih =>
    rw [List.foldl_cons]
    refine ih _ fun r hr => ?_
    unfold stepM at hr
    rcases List.mem_append.mp hr with hr | hr
    · exact hs r hr
    · simp only [List.mem_singleton] at hr
      subst hr
      exact dueM_up _ _
theorem dueBy_up {c : List Lev} {ws : List Wd} [h : OkCh c] : ∀ r ∈ dueBy c ws, r.Pairwise (· < ·) := foldM_up (List.range 61) (⟨0, 0, none, 0, false⟩, []) (by simp)
theorem sentBy_up {c : List Lev} {ws : List Wd} [h : OkCh c] {k : Int} : ∀ r ∈ sentBy c ws k, r.Pairwise (· < ·) := fun r hr => by
  unfold sentBy at hr
  obtain ⟨t, ht, rfl⟩ := List.mem_map.mp hr
  exact dueBy_up _ (List.mem_of_getElem? (row_at ws (List.mem_range.mp ht) _))
theorem apart_none {c : List Lev} {ws : List Wd} [h : OkCh c] {k : Int} (e : needless c ws k ++ lacking c ws k = []) : sentBy c ws k = dueBy c ws := by
  obtain ⟨e1, e2⟩ := List.append_eq_nil_iff.mp e
  refine rows_same (by rw [sentBy_len.1, dueBy_len.1]) sentBy_up dueBy_up fun q => ?_
  unfold needless minus at e1
  unfold lacking minus at e2
  rw [List.filter_eq_nil_iff] at e1 e2
  constructor
  · intro hq
    have := e1 q hq
    simpa using this
  · intro hq
    have := e2 q hq
    simpa using this
/-! ### an Enough -/
def fsE (h : Int) (t p : Option Int) : List (Str × OV) := [("hold", .dat false (.int h)), ("tick", .dat false (eTk t)), ("person", .dat false (eTk p))]
def oE (h : Int) (t p : Option Int) : OO := .ins "Enough" (fsE h t p)
def inP (t p : Option Int) (ps : List (Int × Int)) : Bool := ps.any fun q => decide (t = some q.1 ∧ p = some q.2)
def showsE (c : List Lev) (ws : List Wd) (h : Int) (t p : Option Int) : Bool := if h ≠ leastH c ws then false else if h = 0 then t.isNone && p.isNone else (inP t p (duePs c ws) != inP t p (sentPs c ws (h - 1)))
section
variable {S : Sto} {h : Int} {t p : Option Int} {r : Env} {b : Bool}
theorem E1 : (Str.ofString "tick" == Str.ofString "hold") = false := by decide +kernel
theorem E2 : (Str.ofString "person" == Str.ofString "hold") = false := by decide +kernel
theorem E3 : (Str.ofString "person" == Str.ofString "tick") = false := by decide +kernel
theorem E4 : (Str.ofString "shows" == Str.ofString "hold") = false := by decide +kernel
theorem E5 : (Str.ofString "shows" == Str.ofString "tick") = false := by decide +kernel
theorem E6 : (Str.ofString "shows" == Str.ofString "person") = false := by decide +kernel
theorem E7 : (Str.ofString "hold" = Str.ofString "tick") = False := eq_false (by decide +kernel)
theorem E8 : (Str.ofString "hold" = Str.ofString "person") = False := eq_false (by decide +kernel)
theorem E9 : (Str.ofString "tick" = Str.ofString "person") = False := eq_false (by decide +kernel)
@[simp] theorem fE_hold : hFld "Enough" "hold" (some (oE h t p)) S = some (.dat false (.int h), S) := by simp [oE, fsE]
@[simp] theorem fE_tick : hFld "Enough" "tick" (some (oE h t p)) S = some (.dat false (eTk t), S) := by simp [oE, fsE, E1]
@[simp] theorem fE_person : hFld "Enough" "person" (some (oE h t p)) S = some (.dat false (eTk p), S) := by simp [oE, fsE, E2, E3]
theorem lkE_shows : (fsE h t p).lookup ("shows" : Str) = none := by simp [fsE, E4, E5, E6]
theorem scE : scalF (fsE h t p) = true := by cases t <;> cases p <;> rfl
theorem natE : natF (fsE h t p) = true := rfl
theorem initE {q u v : Bool} : sem_Enough_init [.own S.length, .dat q (.int h), .dat u (eTk t), .dat v (eTk p)] (S ++ [.ins "Enough" []]) = some (.dat false .none, S ++ [.ins "Enough" [("hold", .dat q (.int h)), ("tick", .dat u (eTk t)), ("person", .dat v (eTk p))]]) := by
  unfold sem_Enough_init body_Enough_init
  simp [E7, E8, E9]
end
def eTP (t p : Option Int) : PyData := .tuple [eTk t, eTk p]
theorem Lays.tk (t : Option Int) : Lays 0 (eTk t) := by cases t <;> exact ⟨rfl, Nat.le_refl _⟩
theorem flat_tk (t : Option Int) : flat (eTk t) = true := by cases t <;> rfl
@[simp] theorem mkD_tk (b : Bool) (t : Option Int) : mkD b (eTk t) = .dat false (eTk t) := by simp [mkD, flat_tk]
@[simp] theorem sh_tk (t : Option Int) : SeqAt.shaped (eTk t) = true := (Lays.tk t).shaped (by omega)
theorem sh_tp (t p : Option Int) : SeqAt.shaped (eTP t p) = true := by
  have h1 := Lays.tk t; have h2 := Lays.tk p
  have : Lays 1 (eTP t p) := ⟨by simp [eTP, PyData.canLay0, PyData.canLayAll0, h1.lay, h2.lay], by have a := h1.dep; have b := h2.dep; simp only [eTP, PyData.depth, PyData.depthAll]; omega⟩
  exact this.shaped (by omega)
@[simp] theorem eqv_in (i : Int) : PyData.eqv (.int i) .none = false := by simp [PyData.eqv]
theorem eqv_pr_tp (q : Int × Int) (t p : Option Int) : PyData.eqv (ePr q) (eTP t p) = decide (t = some q.1 ∧ p = some q.2) := by
  obtain ⟨a, b⟩ := q
  have e1 : ∀ (a : Int) (t : Option Int), PyData.eqv (.int a) (eTk t) = decide (t = some a) := fun a t => by
    cases t with
    | none => simp [eTk]
    | some x =>
      rw [Bool.eq_iff_iff]
      simp [eTk]
      exact eq_comm
  unfold ePr eTP
  rw [eqv_tt, eqv_cc, eqv_cc, e1, e1, eqv_nn]
  by_cases h1 : t = some a <;> by_cases h2 : p = some b <;> simp [h1, h2]
theorem any_tp (ps : List (Int × Int)) (t p : Option Int) : ((ps.map ePr).any fun z => PyData.eqv z (eTP t p)) = inP t p ps := by
  unfold inP
  rw [List.any_map]
  congr 1
  funext q
  exact eqv_pr_tp q t p
theorem oInD_tp {S : Sto} {a b : Bool} {t p : Option Int} {ps : List (Int × Int)} : oInD false (.dat a (eTP t p)) (.dat b (ePs ps)) S = some (.dat false (.bool (inP t p ps)), S) := by
  unfold oInD
  simp only [rd_dat, sh_tp, sh_prs, and_self, if_true, any_tp]
  rfl
@[simp] theorem bool_ne (a b : Bool) : (!(a == b)) = (a != b) := rfl
theorem due_pairs {c : List Lev} {ws : List Wd} [hc : OkCh c] [hw : OkWs (ppl c) ws] : (∀ S, kF (natD (sem_due_by [.dat true (eCh c), .dat true (eWs ws)] [])) S = some (.dat false (eTab (dueBy c ws)), S)) ∧ (∀ S, kF (natD (sem_pairs_of [.dat true (eTab (dueBy c ws))] [])) S = some (.dat false (ePs (duePs c ws)), S)) := by
  have hb := dueBy_len (c := c) (ws := ws)
  have hd := due_by_e (c := c) (ws := ws) true true []
  have hp := pairs_of_e (rows := dueBy c ws) (by omega) (fun r hr => by have := hb.2 r hr; omega) true []
  exact ⟨fun S => by rw [hd]; simp, fun S => by rw [hp]; simp⟩
theorem sent_pairs {c : List Lev} {ws : List Wd} [hc : OkCh c] [hw : OkWs (ppl c) ws] {h : Int} (h0 : 0 ≤ h) (h60 : h ≤ 60) : (∀ S, kF (natD (sem_sent_by [.dat true (eCh c), .dat true (eWs ws), .dat false (.int h)] [])) S = some (.dat false (eTab (sentBy c ws h)), S)) ∧ (∀ S, kF (natD (sem_pairs_of [.dat true (eTab (sentBy c ws h))] [])) S = some (.dat false (ePs (sentPs c ws h)), S)) := by
  have hb := sentBy_len (c := c) (ws := ws) (h := h)
  have hs := sent_by_e (c := c) (ws := ws) h0 h60 true true []
  have hp := pairs_of_e (rows := sentBy c ws h) (by omega) (fun r hr => by have := hb.2 r hr; omega) true []
  exact ⟨fun S => by rw [hs]; simp, fun S => by rw [hp]; simp⟩
theorem shows_e {c : List Lev} {ws : List Wd} [hc : OkCh c] [hw : OkWs (ppl c) ws] (b d : Bool) (h : Int) (t p : Option Int) :
    sem_Enough_shows [.own 0, .dat b (eCh c), .dat d (eWs ws)] [oE h t p] = some (.dat false (.bool (showsE c ws h t p)), [oE h t p]) := by
  have hl := least_hold_e (c := c) (ws := ws) true true []
  have hr := leastH_rg (c := c) hw
  obtain ⟨d1, d2⟩ := due_pairs (c := c) (ws := ws)
  unfold sem_Enough_shows body_Enough_shows showsE
  by_cases e1 : h = leastH c ws
  · subst e1
    by_cases e2 : leastH c ws = 0
    · simp only [e2]
      rw [e2] at hl
      cases t <;> cases p <;> simp [hl, eTk, isNon]
    · obtain ⟨s1, s2⟩ := sent_pairs (c := c) (ws := ws) (h := leastH c ws - 1) (by omega) (by omega)
      have e3 := bq_F e2
      have tp : ∀ a b' : Option Int, PyData.tuple [eTk a, eTk b'] = eTP a b' := fun _ _ => rfl
      simp [hl, e2, e3, flat_tk, mkD, tp, d1, d2, s1, s2, oInD_tp]
  · have e3 := bq_F e1
    simp [hl, e1, e3]
/-- what enough tells -/
def enoughO (c : List Lev) (ws : List Wd) : Option Int × Option Int := if leastH c ws = 0 then (none, none) else match needless c ws (leastH c ws - 1) ++ lacking c ws (leastH c ws - 1) with
  | q :: _ => (some q.1, some q.2)
  | [] => (none, none)
theorem enough_some {c : List Lev} {ws : List Wd} [hc : OkCh c] (h : leastH c ws ≠ 0) : ∃ q r, needless c ws (leastH c ws - 1) ++ lacking c ws (leastH c ws - 1) = q :: r ∧ enoughO c ws = (some q.1, some q.2) := by
  cases e : needless c ws (leastH c ws - 1) ++ lacking c ws (leastH c ws - 1) with
  | nil => exact absurd (apart_none e) (leastH_ne h)
  | cons q r => exact ⟨q, r, rfl, by unfold enoughO; rw [if_neg h, e]⟩
theorem atI_app0 {a b : List (Int × Int)} {q : Int × Int} {r : List (Int × Int)} (h : a ++ b = q :: r) : atI (a.map ePr ++ b.map ePr) 0 = some (ePr q) := by
  rw [← List.map_append, h, List.map_cons, atI_0]
theorem enough_e {c : List Lev} {ws : List Wd} [hc : OkCh c] [hw : OkWs (ppl c) ws] (b d : Bool) :
    sem_enough [.dat b (eCh c), .dat d (eWs ws)] [] = some (.own 0, [oE (leastH c ws) (enoughO c ws).1 (enoughO c ws).2]) := by
  have hl := least_hold_e (c := c) (ws := ws) true true []
  have hr := leastH_rg (c := c) hw
  unfold sem_enough body_enough
  by_cases e2 : leastH c ws = 0
  · have i0 := initE (S := []) (h := 0) (t := none) (p := none) (q := false) (u := false) (v := false)
    simp only [List.length_nil, List.nil_append, eTk] at i0
    have eo : enoughO c ws = (none, none) := by unfold enoughO; rw [if_pos e2]
    rw [e2] at hl
    simp [hl, i0, eo, e2, oE, fsE, eTk]
  · obtain ⟨q, r, e3, e4⟩ := enough_some (c := c) (ws := ws) e2
    have ha := apart_e (c := c) (ws := ws) (h := leastH c ws - 1) (by omega) (by omega) true true false []
    have hn := atI_app0 e3
    have l1 := sentPs_len (c := c) (ws := ws) (h := leastH c ws - 1)
    have l2 := duePs_len (c := c) (ws := ws)
    have n1 : (needless c ws (leastH c ws - 1)).length ≤ 183 := Nat.le_trans minus_len l1
    have n2 : (lacking c ws (leastH c ws - 1)).length ≤ 183 := Nat.le_trans minus_len l2
    have i0 := initE (S := []) (h := leastH c ws) (t := some q.1) (p := some q.2) (q := false) (u := false) (v := false)
    simp only [List.length_nil, List.nil_append, eTk] at i0
    have e5 := bq_F e2
    simp [hl, e5, ha, mkD_tup, Function.comp_def]
    rw [if_pos (by omega)]
    simp [hn]
    simp [ePr, mkD_tup, i0, e4, oE, fsE, eTk]
end Nc
set_option Elab.async false
set_option linter.all false
set_option maxRecDepth 100000
set_option maxHeartbeats 1000000
namespace Nc
open PySem PySem.Spec PyProof.Rows L2
local macro_rules | `(tactic| walk_at "nc") => `(tactic| repeat (first | simp [atI, ixN, zipI, cutG, HT.sIx, Function.comp_def] | simp (disch := first | assumption | omega) only [oIntC_p, le_T, le_F, lt_T, lt_F, bq_F, in_T, in_F] | rw [if_pos (by omega)] | rw [if_neg (by omega)] | omega))
@[simp] theorem sh_tick : SeqAt.shaped (.str (Str.ofString "tick")) = true := by decide +kernel
@[simp] theorem bq_at_going : (Str.ofString "at" == Str.ofString "going") = false := by decide +kernel
@[simp] theorem ne_at_going : (Str.ofString "at" = Str.ofString "going") = False := eq_false (by decide +kernel)
@[simp] theorem bq_at_lines : (Str.ofString "at" == Str.ofString "lines") = false := by decide +kernel
@[simp] theorem ne_at_lines : (Str.ofString "at" = Str.ofString "lines") = False := eq_false (by decide +kernel)
@[simp] theorem bq_at_log : (Str.ofString "at" == Str.ofString "log") = false := by decide +kernel
@[simp] theorem ne_at_log : (Str.ofString "at" = Str.ofString "log") = False := eq_false (by decide +kernel)
@[simp] theorem bq_can_say_chain : (Str.ofString "can_say" == Str.ofString "chain") = false := by decide +kernel
@[simp] theorem ne_can_say_chain : (Str.ofString "can_say" = Str.ofString "chain") = False := eq_false (by decide +kernel)
@[simp] theorem bq_can_say_hold : (Str.ofString "can_say" == Str.ofString "hold") = false := by decide +kernel
@[simp] theorem ne_can_say_hold : (Str.ofString "can_say" = Str.ofString "hold") = False := eq_false (by decide +kernel)
@[simp] theorem bq_can_say_known : (Str.ofString "can_say" == Str.ofString "known") = false := by decide +kernel
@[simp] theorem ne_can_say_known : (Str.ofString "can_say" = Str.ofString "known") = False := eq_false (by decide +kernel)
@[simp] theorem bq_can_say_now : (Str.ofString "can_say" == Str.ofString "now") = false := by decide +kernel
@[simp] theorem ne_can_say_now : (Str.ofString "can_say" = Str.ofString "now") = False := eq_false (by decide +kernel)
@[simp] theorem bq_can_say_people : (Str.ofString "can_say" == Str.ofString "people") = false := by decide +kernel
@[simp] theorem ne_can_say_people : (Str.ofString "can_say" = Str.ofString "people") = False := eq_false (by decide +kernel)
@[simp] theorem bq_can_say_row : (Str.ofString "can_say" == Str.ofString "row") = false := by decide +kernel
@[simp] theorem ne_can_say_row : (Str.ofString "can_say" = Str.ofString "row") = False := eq_false (by decide +kernel)
@[simp] theorem bq_chain_can_say : (Str.ofString "chain" == Str.ofString "can_say") = false := by decide +kernel
@[simp] theorem ne_chain_can_say : (Str.ofString "chain" = Str.ofString "can_say") = False := eq_false (by decide +kernel)
@[simp] theorem bq_chain_comes : (Str.ofString "chain" == Str.ofString "comes") = false := by decide +kernel
@[simp] theorem ne_chain_comes : (Str.ofString "chain" = Str.ofString "comes") = False := eq_false (by decide +kernel)
@[simp] theorem bq_chain_has_room : (Str.ofString "chain" == Str.ofString "has_room") = false := by decide +kernel
@[simp] theorem ne_chain_has_room : (Str.ofString "chain" = Str.ofString "has_room") = False := eq_false (by decide +kernel)
@[simp] theorem bq_chain_hear : (Str.ofString "chain" == Str.ofString "hear") = false := by decide +kernel
@[simp] theorem ne_chain_hear : (Str.ofString "chain" = Str.ofString "hear") = False := eq_false (by decide +kernel)
@[simp] theorem bq_chain_hold : (Str.ofString "chain" == Str.ofString "hold") = false := by decide +kernel
@[simp] theorem ne_chain_hold : (Str.ofString "chain" = Str.ofString "hold") = False := eq_false (by decide +kernel)
@[simp] theorem bq_chain_is_over : (Str.ofString "chain" == Str.ofString "is_over") = false := by decide +kernel
@[simp] theorem ne_chain_is_over : (Str.ofString "chain" = Str.ofString "is_over") = False := eq_false (by decide +kernel)
@[simp] theorem bq_chain_known : (Str.ofString "chain" == Str.ofString "known") = false := by decide +kernel
@[simp] theorem ne_chain_known : (Str.ofString "chain" = Str.ofString "known") = False := eq_false (by decide +kernel)
@[simp] theorem bq_chain_now : (Str.ofString "chain" == Str.ofString "now") = false := by decide +kernel
@[simp] theorem ne_chain_now : (Str.ofString "chain" = Str.ofString "now") = False := eq_false (by decide +kernel)
@[simp] theorem bq_chain_pass_one : (Str.ofString "chain" == Str.ofString "pass_one") = false := by decide +kernel
@[simp] theorem ne_chain_pass_one : (Str.ofString "chain" = Str.ofString "pass_one") = False := eq_false (by decide +kernel)
@[simp] theorem bq_chain_people : (Str.ofString "chain" == Str.ofString "people") = false := by decide +kernel
@[simp] theorem ne_chain_people : (Str.ofString "chain" = Str.ofString "people") = False := eq_false (by decide +kernel)
@[simp] theorem bq_chain_row : (Str.ofString "chain" == Str.ofString "row") = false := by decide +kernel
@[simp] theorem ne_chain_row : (Str.ofString "chain" = Str.ofString "row") = False := eq_false (by decide +kernel)
@[simp] theorem bq_check_going : (Str.ofString "check" == Str.ofString "going") = false := by decide +kernel
@[simp] theorem ne_check_going : (Str.ofString "check" = Str.ofString "going") = False := eq_false (by decide +kernel)
@[simp] theorem bq_check_lines : (Str.ofString "check" == Str.ofString "lines") = false := by decide +kernel
@[simp] theorem ne_check_lines : (Str.ofString "check" = Str.ofString "lines") = False := eq_false (by decide +kernel)
@[simp] theorem bq_check_log : (Str.ofString "check" == Str.ofString "log") = false := by decide +kernel
@[simp] theorem ne_check_log : (Str.ofString "check" = Str.ofString "log") = False := eq_false (by decide +kernel)
@[simp] theorem bq_comes_chain : (Str.ofString "comes" == Str.ofString "chain") = false := by decide +kernel
@[simp] theorem ne_comes_chain : (Str.ofString "comes" = Str.ofString "chain") = False := eq_false (by decide +kernel)
@[simp] theorem bq_comes_hold : (Str.ofString "comes" == Str.ofString "hold") = false := by decide +kernel
@[simp] theorem ne_comes_hold : (Str.ofString "comes" = Str.ofString "hold") = False := eq_false (by decide +kernel)
@[simp] theorem bq_comes_known : (Str.ofString "comes" == Str.ofString "known") = false := by decide +kernel
@[simp] theorem ne_comes_known : (Str.ofString "comes" = Str.ofString "known") = False := eq_false (by decide +kernel)
@[simp] theorem bq_comes_now : (Str.ofString "comes" == Str.ofString "now") = false := by decide +kernel
@[simp] theorem ne_comes_now : (Str.ofString "comes" = Str.ofString "now") = False := eq_false (by decide +kernel)
@[simp] theorem bq_comes_people : (Str.ofString "comes" == Str.ofString "people") = false := by decide +kernel
@[simp] theorem ne_comes_people : (Str.ofString "comes" = Str.ofString "people") = False := eq_false (by decide +kernel)
@[simp] theorem bq_comes_row : (Str.ofString "comes" == Str.ofString "row") = false := by decide +kernel
@[simp] theorem ne_comes_row : (Str.ofString "comes" = Str.ofString "row") = False := eq_false (by decide +kernel)
@[simp] theorem bq_done_tick : (Str.ofString "done" == Str.ofString "tick") = false := by decide +kernel
@[simp] theorem ne_done_tick : (Str.ofString "done" = Str.ofString "tick") = False := eq_false (by decide +kernel)
@[simp] theorem bq_finish_going : (Str.ofString "finish" == Str.ofString "going") = false := by decide +kernel
@[simp] theorem ne_finish_going : (Str.ofString "finish" = Str.ofString "going") = False := eq_false (by decide +kernel)
@[simp] theorem bq_finish_lines : (Str.ofString "finish" == Str.ofString "lines") = false := by decide +kernel
@[simp] theorem ne_finish_lines : (Str.ofString "finish" = Str.ofString "lines") = False := eq_false (by decide +kernel)
@[simp] theorem bq_finish_log : (Str.ofString "finish" == Str.ofString "log") = false := by decide +kernel
@[simp] theorem ne_finish_log : (Str.ofString "finish" = Str.ofString "log") = False := eq_false (by decide +kernel)
@[simp] theorem bq_going_at : (Str.ofString "going" == Str.ofString "at") = false := by decide +kernel
@[simp] theorem ne_going_at : (Str.ofString "going" = Str.ofString "at") = False := eq_false (by decide +kernel)
@[simp] theorem bq_going_check : (Str.ofString "going" == Str.ofString "check") = false := by decide +kernel
@[simp] theorem ne_going_check : (Str.ofString "going" = Str.ofString "check") = False := eq_false (by decide +kernel)
@[simp] theorem bq_going_finish : (Str.ofString "going" == Str.ofString "finish") = false := by decide +kernel
@[simp] theorem ne_going_finish : (Str.ofString "going" = Str.ofString "finish") = False := eq_false (by decide +kernel)
@[simp] theorem bq_going_hear : (Str.ofString "going" == Str.ofString "hear") = false := by decide +kernel
@[simp] theorem ne_going_hear : (Str.ofString "going" = Str.ofString "hear") = False := eq_false (by decide +kernel)
@[simp] theorem bq_going_lines : (Str.ofString "going" == Str.ofString "lines") = false := by decide +kernel
@[simp] theorem ne_going_lines : (Str.ofString "going" = Str.ofString "lines") = False := eq_false (by decide +kernel)
@[simp] theorem bq_going_log : (Str.ofString "going" == Str.ofString "log") = false := by decide +kernel
@[simp] theorem ne_going_log : (Str.ofString "going" = Str.ofString "log") = False := eq_false (by decide +kernel)
@[simp] theorem bq_going_pass_tick : (Str.ofString "going" == Str.ofString "pass_tick") = false := by decide +kernel
@[simp] theorem ne_going_pass_tick : (Str.ofString "going" = Str.ofString "pass_tick") = False := eq_false (by decide +kernel)
@[simp] theorem bq_going_put_off : (Str.ofString "going" == Str.ofString "put_off") = false := by decide +kernel
@[simp] theorem ne_going_put_off : (Str.ofString "going" = Str.ofString "put_off") = False := eq_false (by decide +kernel)
@[simp] theorem bq_going_sent : (Str.ofString "going" == Str.ofString "sent") = false := by decide +kernel
@[simp] theorem ne_going_sent : (Str.ofString "going" = Str.ofString "sent") = False := eq_false (by decide +kernel)
@[simp] theorem bq_going_take : (Str.ofString "going" == Str.ofString "take") = false := by decide +kernel
@[simp] theorem ne_going_take : (Str.ofString "going" = Str.ofString "take") = False := eq_false (by decide +kernel)
@[simp] theorem bq_going_tale : (Str.ofString "going" == Str.ofString "tale") = false := by decide +kernel
@[simp] theorem ne_going_tale : (Str.ofString "going" = Str.ofString "tale") = False := eq_false (by decide +kernel)
@[simp] theorem bq_going_words : (Str.ofString "going" == Str.ofString "words") = false := by decide +kernel
@[simp] theorem ne_going_words : (Str.ofString "going" = Str.ofString "words") = False := eq_false (by decide +kernel)
@[simp] theorem bq_has_room_chain : (Str.ofString "has_room" == Str.ofString "chain") = false := by decide +kernel
@[simp] theorem ne_has_room_chain : (Str.ofString "has_room" = Str.ofString "chain") = False := eq_false (by decide +kernel)
@[simp] theorem bq_has_room_hold : (Str.ofString "has_room" == Str.ofString "hold") = false := by decide +kernel
@[simp] theorem ne_has_room_hold : (Str.ofString "has_room" = Str.ofString "hold") = False := eq_false (by decide +kernel)
@[simp] theorem bq_has_room_known : (Str.ofString "has_room" == Str.ofString "known") = false := by decide +kernel
@[simp] theorem ne_has_room_known : (Str.ofString "has_room" = Str.ofString "known") = False := eq_false (by decide +kernel)
@[simp] theorem bq_has_room_now : (Str.ofString "has_room" == Str.ofString "now") = false := by decide +kernel
@[simp] theorem ne_has_room_now : (Str.ofString "has_room" = Str.ofString "now") = False := eq_false (by decide +kernel)
@[simp] theorem bq_has_room_people : (Str.ofString "has_room" == Str.ofString "people") = false := by decide +kernel
@[simp] theorem ne_has_room_people : (Str.ofString "has_room" = Str.ofString "people") = False := eq_false (by decide +kernel)
@[simp] theorem bq_has_room_row : (Str.ofString "has_room" == Str.ofString "row") = false := by decide +kernel
@[simp] theorem ne_has_room_row : (Str.ofString "has_room" = Str.ofString "row") = False := eq_false (by decide +kernel)
@[simp] theorem bq_hear_chain : (Str.ofString "hear" == Str.ofString "chain") = false := by decide +kernel
@[simp] theorem ne_hear_chain : (Str.ofString "hear" = Str.ofString "chain") = False := eq_false (by decide +kernel)
@[simp] theorem bq_hear_going : (Str.ofString "hear" == Str.ofString "going") = false := by decide +kernel
@[simp] theorem ne_hear_going : (Str.ofString "hear" = Str.ofString "going") = False := eq_false (by decide +kernel)
@[simp] theorem bq_hear_hold : (Str.ofString "hear" == Str.ofString "hold") = false := by decide +kernel
@[simp] theorem ne_hear_hold : (Str.ofString "hear" = Str.ofString "hold") = False := eq_false (by decide +kernel)
@[simp] theorem bq_hear_known : (Str.ofString "hear" == Str.ofString "known") = false := by decide +kernel
@[simp] theorem ne_hear_known : (Str.ofString "hear" = Str.ofString "known") = False := eq_false (by decide +kernel)
@[simp] theorem bq_hear_lines : (Str.ofString "hear" == Str.ofString "lines") = false := by decide +kernel
@[simp] theorem ne_hear_lines : (Str.ofString "hear" = Str.ofString "lines") = False := eq_false (by decide +kernel)
@[simp] theorem bq_hear_log : (Str.ofString "hear" == Str.ofString "log") = false := by decide +kernel
@[simp] theorem ne_hear_log : (Str.ofString "hear" = Str.ofString "log") = False := eq_false (by decide +kernel)
@[simp] theorem bq_hear_now : (Str.ofString "hear" == Str.ofString "now") = false := by decide +kernel
@[simp] theorem ne_hear_now : (Str.ofString "hear" = Str.ofString "now") = False := eq_false (by decide +kernel)
@[simp] theorem bq_hear_people : (Str.ofString "hear" == Str.ofString "people") = false := by decide +kernel
@[simp] theorem ne_hear_people : (Str.ofString "hear" = Str.ofString "people") = False := eq_false (by decide +kernel)
@[simp] theorem bq_hear_row : (Str.ofString "hear" == Str.ofString "row") = false := by decide +kernel
@[simp] theorem ne_hear_row : (Str.ofString "hear" = Str.ofString "row") = False := eq_false (by decide +kernel)
@[simp] theorem bq_hold_can_say : (Str.ofString "hold" == Str.ofString "can_say") = false := by decide +kernel
@[simp] theorem ne_hold_can_say : (Str.ofString "hold" = Str.ofString "can_say") = False := eq_false (by decide +kernel)
@[simp] theorem bq_hold_chain : (Str.ofString "hold" == Str.ofString "chain") = false := by decide +kernel
@[simp] theorem ne_hold_chain : (Str.ofString "hold" = Str.ofString "chain") = False := eq_false (by decide +kernel)
@[simp] theorem bq_hold_comes : (Str.ofString "hold" == Str.ofString "comes") = false := by decide +kernel
@[simp] theorem ne_hold_comes : (Str.ofString "hold" = Str.ofString "comes") = False := eq_false (by decide +kernel)
@[simp] theorem bq_hold_has_room : (Str.ofString "hold" == Str.ofString "has_room") = false := by decide +kernel
@[simp] theorem ne_hold_has_room : (Str.ofString "hold" = Str.ofString "has_room") = False := eq_false (by decide +kernel)
@[simp] theorem bq_hold_hear : (Str.ofString "hold" == Str.ofString "hear") = false := by decide +kernel
@[simp] theorem ne_hold_hear : (Str.ofString "hold" = Str.ofString "hear") = False := eq_false (by decide +kernel)
@[simp] theorem bq_hold_is_over : (Str.ofString "hold" == Str.ofString "is_over") = false := by decide +kernel
@[simp] theorem ne_hold_is_over : (Str.ofString "hold" = Str.ofString "is_over") = False := eq_false (by decide +kernel)
@[simp] theorem bq_hold_known : (Str.ofString "hold" == Str.ofString "known") = false := by decide +kernel
@[simp] theorem ne_hold_known : (Str.ofString "hold" = Str.ofString "known") = False := eq_false (by decide +kernel)
@[simp] theorem bq_hold_now : (Str.ofString "hold" == Str.ofString "now") = false := by decide +kernel
@[simp] theorem ne_hold_now : (Str.ofString "hold" = Str.ofString "now") = False := eq_false (by decide +kernel)
@[simp] theorem bq_hold_pass_one : (Str.ofString "hold" == Str.ofString "pass_one") = false := by decide +kernel
@[simp] theorem ne_hold_pass_one : (Str.ofString "hold" = Str.ofString "pass_one") = False := eq_false (by decide +kernel)
@[simp] theorem bq_hold_people : (Str.ofString "hold" == Str.ofString "people") = false := by decide +kernel
@[simp] theorem ne_hold_people : (Str.ofString "hold" = Str.ofString "people") = False := eq_false (by decide +kernel)
@[simp] theorem bq_hold_row : (Str.ofString "hold" == Str.ofString "row") = false := by decide +kernel
@[simp] theorem ne_hold_row : (Str.ofString "hold" = Str.ofString "row") = False := eq_false (by decide +kernel)
@[simp] theorem bq_is_over_chain : (Str.ofString "is_over" == Str.ofString "chain") = false := by decide +kernel
@[simp] theorem ne_is_over_chain : (Str.ofString "is_over" = Str.ofString "chain") = False := eq_false (by decide +kernel)
@[simp] theorem bq_is_over_hold : (Str.ofString "is_over" == Str.ofString "hold") = false := by decide +kernel
@[simp] theorem ne_is_over_hold : (Str.ofString "is_over" = Str.ofString "hold") = False := eq_false (by decide +kernel)
@[simp] theorem bq_is_over_known : (Str.ofString "is_over" == Str.ofString "known") = false := by decide +kernel
@[simp] theorem ne_is_over_known : (Str.ofString "is_over" = Str.ofString "known") = False := eq_false (by decide +kernel)
@[simp] theorem bq_is_over_now : (Str.ofString "is_over" == Str.ofString "now") = false := by decide +kernel
@[simp] theorem ne_is_over_now : (Str.ofString "is_over" = Str.ofString "now") = False := eq_false (by decide +kernel)
@[simp] theorem bq_is_over_people : (Str.ofString "is_over" == Str.ofString "people") = false := by decide +kernel
@[simp] theorem ne_is_over_people : (Str.ofString "is_over" = Str.ofString "people") = False := eq_false (by decide +kernel)
@[simp] theorem bq_is_over_row : (Str.ofString "is_over" == Str.ofString "row") = false := by decide +kernel
@[simp] theorem ne_is_over_row : (Str.ofString "is_over" = Str.ofString "row") = False := eq_false (by decide +kernel)
@[simp] theorem bq_known_can_say : (Str.ofString "known" == Str.ofString "can_say") = false := by decide +kernel
@[simp] theorem ne_known_can_say : (Str.ofString "known" = Str.ofString "can_say") = False := eq_false (by decide +kernel)
@[simp] theorem bq_known_chain : (Str.ofString "known" == Str.ofString "chain") = false := by decide +kernel
@[simp] theorem ne_known_chain : (Str.ofString "known" = Str.ofString "chain") = False := eq_false (by decide +kernel)
@[simp] theorem bq_known_comes : (Str.ofString "known" == Str.ofString "comes") = false := by decide +kernel
@[simp] theorem ne_known_comes : (Str.ofString "known" = Str.ofString "comes") = False := eq_false (by decide +kernel)
@[simp] theorem bq_known_has_room : (Str.ofString "known" == Str.ofString "has_room") = false := by decide +kernel
@[simp] theorem ne_known_has_room : (Str.ofString "known" = Str.ofString "has_room") = False := eq_false (by decide +kernel)
@[simp] theorem bq_known_hear : (Str.ofString "known" == Str.ofString "hear") = false := by decide +kernel
@[simp] theorem ne_known_hear : (Str.ofString "known" = Str.ofString "hear") = False := eq_false (by decide +kernel)
@[simp] theorem bq_known_hold : (Str.ofString "known" == Str.ofString "hold") = false := by decide +kernel
@[simp] theorem ne_known_hold : (Str.ofString "known" = Str.ofString "hold") = False := eq_false (by decide +kernel)
@[simp] theorem bq_known_is_over : (Str.ofString "known" == Str.ofString "is_over") = false := by decide +kernel
@[simp] theorem ne_known_is_over : (Str.ofString "known" = Str.ofString "is_over") = False := eq_false (by decide +kernel)
@[simp] theorem bq_known_now : (Str.ofString "known" == Str.ofString "now") = false := by decide +kernel
@[simp] theorem ne_known_now : (Str.ofString "known" = Str.ofString "now") = False := eq_false (by decide +kernel)
@[simp] theorem bq_known_pass_one : (Str.ofString "known" == Str.ofString "pass_one") = false := by decide +kernel
@[simp] theorem ne_known_pass_one : (Str.ofString "known" = Str.ofString "pass_one") = False := eq_false (by decide +kernel)
@[simp] theorem bq_known_people : (Str.ofString "known" == Str.ofString "people") = false := by decide +kernel
@[simp] theorem ne_known_people : (Str.ofString "known" = Str.ofString "people") = False := eq_false (by decide +kernel)
@[simp] theorem bq_known_row : (Str.ofString "known" == Str.ofString "row") = false := by decide +kernel
@[simp] theorem ne_known_row : (Str.ofString "known" = Str.ofString "row") = False := eq_false (by decide +kernel)
@[simp] theorem bq_lines_at : (Str.ofString "lines" == Str.ofString "at") = false := by decide +kernel
@[simp] theorem ne_lines_at : (Str.ofString "lines" = Str.ofString "at") = False := eq_false (by decide +kernel)
@[simp] theorem bq_lines_check : (Str.ofString "lines" == Str.ofString "check") = false := by decide +kernel
@[simp] theorem ne_lines_check : (Str.ofString "lines" = Str.ofString "check") = False := eq_false (by decide +kernel)
@[simp] theorem bq_lines_finish : (Str.ofString "lines" == Str.ofString "finish") = false := by decide +kernel
@[simp] theorem ne_lines_finish : (Str.ofString "lines" = Str.ofString "finish") = False := eq_false (by decide +kernel)
@[simp] theorem bq_lines_going : (Str.ofString "lines" == Str.ofString "going") = false := by decide +kernel
@[simp] theorem ne_lines_going : (Str.ofString "lines" = Str.ofString "going") = False := eq_false (by decide +kernel)
@[simp] theorem bq_lines_hear : (Str.ofString "lines" == Str.ofString "hear") = false := by decide +kernel
@[simp] theorem ne_lines_hear : (Str.ofString "lines" = Str.ofString "hear") = False := eq_false (by decide +kernel)
@[simp] theorem bq_lines_log : (Str.ofString "lines" == Str.ofString "log") = false := by decide +kernel
@[simp] theorem ne_lines_log : (Str.ofString "lines" = Str.ofString "log") = False := eq_false (by decide +kernel)
@[simp] theorem bq_lines_pass_tick : (Str.ofString "lines" == Str.ofString "pass_tick") = false := by decide +kernel
@[simp] theorem ne_lines_pass_tick : (Str.ofString "lines" = Str.ofString "pass_tick") = False := eq_false (by decide +kernel)
@[simp] theorem bq_lines_put_off : (Str.ofString "lines" == Str.ofString "put_off") = false := by decide +kernel
@[simp] theorem ne_lines_put_off : (Str.ofString "lines" = Str.ofString "put_off") = False := eq_false (by decide +kernel)
@[simp] theorem bq_lines_sent : (Str.ofString "lines" == Str.ofString "sent") = false := by decide +kernel
@[simp] theorem ne_lines_sent : (Str.ofString "lines" = Str.ofString "sent") = False := eq_false (by decide +kernel)
@[simp] theorem bq_lines_take : (Str.ofString "lines" == Str.ofString "take") = false := by decide +kernel
@[simp] theorem ne_lines_take : (Str.ofString "lines" = Str.ofString "take") = False := eq_false (by decide +kernel)
@[simp] theorem bq_lines_tale : (Str.ofString "lines" == Str.ofString "tale") = false := by decide +kernel
@[simp] theorem ne_lines_tale : (Str.ofString "lines" = Str.ofString "tale") = False := eq_false (by decide +kernel)
@[simp] theorem bq_lines_words : (Str.ofString "lines" == Str.ofString "words") = false := by decide +kernel
@[simp] theorem ne_lines_words : (Str.ofString "lines" = Str.ofString "words") = False := eq_false (by decide +kernel)
@[simp] theorem bq_log_at : (Str.ofString "log" == Str.ofString "at") = false := by decide +kernel
@[simp] theorem ne_log_at : (Str.ofString "log" = Str.ofString "at") = False := eq_false (by decide +kernel)
@[simp] theorem bq_log_check : (Str.ofString "log" == Str.ofString "check") = false := by decide +kernel
@[simp] theorem ne_log_check : (Str.ofString "log" = Str.ofString "check") = False := eq_false (by decide +kernel)
@[simp] theorem bq_log_finish : (Str.ofString "log" == Str.ofString "finish") = false := by decide +kernel
@[simp] theorem ne_log_finish : (Str.ofString "log" = Str.ofString "finish") = False := eq_false (by decide +kernel)
@[simp] theorem bq_log_going : (Str.ofString "log" == Str.ofString "going") = false := by decide +kernel
@[simp] theorem ne_log_going : (Str.ofString "log" = Str.ofString "going") = False := eq_false (by decide +kernel)
@[simp] theorem bq_log_hear : (Str.ofString "log" == Str.ofString "hear") = false := by decide +kernel
@[simp] theorem ne_log_hear : (Str.ofString "log" = Str.ofString "hear") = False := eq_false (by decide +kernel)
@[simp] theorem bq_log_lines : (Str.ofString "log" == Str.ofString "lines") = false := by decide +kernel
@[simp] theorem ne_log_lines : (Str.ofString "log" = Str.ofString "lines") = False := eq_false (by decide +kernel)
@[simp] theorem bq_log_pass_tick : (Str.ofString "log" == Str.ofString "pass_tick") = false := by decide +kernel
@[simp] theorem ne_log_pass_tick : (Str.ofString "log" = Str.ofString "pass_tick") = False := eq_false (by decide +kernel)
@[simp] theorem bq_log_put_off : (Str.ofString "log" == Str.ofString "put_off") = false := by decide +kernel
@[simp] theorem ne_log_put_off : (Str.ofString "log" = Str.ofString "put_off") = False := eq_false (by decide +kernel)
@[simp] theorem bq_log_sent : (Str.ofString "log" == Str.ofString "sent") = false := by decide +kernel
@[simp] theorem ne_log_sent : (Str.ofString "log" = Str.ofString "sent") = False := eq_false (by decide +kernel)
@[simp] theorem bq_log_take : (Str.ofString "log" == Str.ofString "take") = false := by decide +kernel
@[simp] theorem ne_log_take : (Str.ofString "log" = Str.ofString "take") = False := eq_false (by decide +kernel)
@[simp] theorem bq_log_tale : (Str.ofString "log" == Str.ofString "tale") = false := by decide +kernel
@[simp] theorem ne_log_tale : (Str.ofString "log" = Str.ofString "tale") = False := eq_false (by decide +kernel)
@[simp] theorem bq_log_words : (Str.ofString "log" == Str.ofString "words") = false := by decide +kernel
@[simp] theorem ne_log_words : (Str.ofString "log" = Str.ofString "words") = False := eq_false (by decide +kernel)
@[simp] theorem bq_now_can_say : (Str.ofString "now" == Str.ofString "can_say") = false := by decide +kernel
@[simp] theorem ne_now_can_say : (Str.ofString "now" = Str.ofString "can_say") = False := eq_false (by decide +kernel)
@[simp] theorem bq_now_chain : (Str.ofString "now" == Str.ofString "chain") = false := by decide +kernel
@[simp] theorem ne_now_chain : (Str.ofString "now" = Str.ofString "chain") = False := eq_false (by decide +kernel)
@[simp] theorem bq_now_comes : (Str.ofString "now" == Str.ofString "comes") = false := by decide +kernel
@[simp] theorem ne_now_comes : (Str.ofString "now" = Str.ofString "comes") = False := eq_false (by decide +kernel)
@[simp] theorem bq_now_has_room : (Str.ofString "now" == Str.ofString "has_room") = false := by decide +kernel
@[simp] theorem ne_now_has_room : (Str.ofString "now" = Str.ofString "has_room") = False := eq_false (by decide +kernel)
@[simp] theorem bq_now_hear : (Str.ofString "now" == Str.ofString "hear") = false := by decide +kernel
@[simp] theorem ne_now_hear : (Str.ofString "now" = Str.ofString "hear") = False := eq_false (by decide +kernel)
@[simp] theorem bq_now_hold : (Str.ofString "now" == Str.ofString "hold") = false := by decide +kernel
@[simp] theorem ne_now_hold : (Str.ofString "now" = Str.ofString "hold") = False := eq_false (by decide +kernel)
@[simp] theorem bq_now_is_over : (Str.ofString "now" == Str.ofString "is_over") = false := by decide +kernel
@[simp] theorem ne_now_is_over : (Str.ofString "now" = Str.ofString "is_over") = False := eq_false (by decide +kernel)
@[simp] theorem bq_now_known : (Str.ofString "now" == Str.ofString "known") = false := by decide +kernel
@[simp] theorem ne_now_known : (Str.ofString "now" = Str.ofString "known") = False := eq_false (by decide +kernel)
@[simp] theorem bq_now_pass_one : (Str.ofString "now" == Str.ofString "pass_one") = false := by decide +kernel
@[simp] theorem ne_now_pass_one : (Str.ofString "now" = Str.ofString "pass_one") = False := eq_false (by decide +kernel)
@[simp] theorem bq_now_people : (Str.ofString "now" == Str.ofString "people") = false := by decide +kernel
@[simp] theorem ne_now_people : (Str.ofString "now" = Str.ofString "people") = False := eq_false (by decide +kernel)
@[simp] theorem bq_now_row : (Str.ofString "now" == Str.ofString "row") = false := by decide +kernel
@[simp] theorem ne_now_row : (Str.ofString "now" = Str.ofString "row") = False := eq_false (by decide +kernel)
@[simp] theorem bq_off_tick : (Str.ofString "off" == Str.ofString "tick") = false := by decide +kernel
@[simp] theorem ne_off_tick : (Str.ofString "off" = Str.ofString "tick") = False := eq_false (by decide +kernel)
@[simp] theorem bq_pass_one_chain : (Str.ofString "pass_one" == Str.ofString "chain") = false := by decide +kernel
@[simp] theorem ne_pass_one_chain : (Str.ofString "pass_one" = Str.ofString "chain") = False := eq_false (by decide +kernel)
@[simp] theorem bq_pass_one_hold : (Str.ofString "pass_one" == Str.ofString "hold") = false := by decide +kernel
@[simp] theorem ne_pass_one_hold : (Str.ofString "pass_one" = Str.ofString "hold") = False := eq_false (by decide +kernel)
@[simp] theorem bq_pass_one_known : (Str.ofString "pass_one" == Str.ofString "known") = false := by decide +kernel
@[simp] theorem ne_pass_one_known : (Str.ofString "pass_one" = Str.ofString "known") = False := eq_false (by decide +kernel)
@[simp] theorem bq_pass_one_now : (Str.ofString "pass_one" == Str.ofString "now") = false := by decide +kernel
@[simp] theorem ne_pass_one_now : (Str.ofString "pass_one" = Str.ofString "now") = False := eq_false (by decide +kernel)
@[simp] theorem bq_pass_one_people : (Str.ofString "pass_one" == Str.ofString "people") = false := by decide +kernel
@[simp] theorem ne_pass_one_people : (Str.ofString "pass_one" = Str.ofString "people") = False := eq_false (by decide +kernel)
@[simp] theorem bq_pass_one_row : (Str.ofString "pass_one" == Str.ofString "row") = false := by decide +kernel
@[simp] theorem ne_pass_one_row : (Str.ofString "pass_one" = Str.ofString "row") = False := eq_false (by decide +kernel)
@[simp] theorem bq_pass_tick_going : (Str.ofString "pass_tick" == Str.ofString "going") = false := by decide +kernel
@[simp] theorem ne_pass_tick_going : (Str.ofString "pass_tick" = Str.ofString "going") = False := eq_false (by decide +kernel)
@[simp] theorem bq_pass_tick_lines : (Str.ofString "pass_tick" == Str.ofString "lines") = false := by decide +kernel
@[simp] theorem ne_pass_tick_lines : (Str.ofString "pass_tick" = Str.ofString "lines") = False := eq_false (by decide +kernel)
@[simp] theorem bq_pass_tick_log : (Str.ofString "pass_tick" == Str.ofString "log") = false := by decide +kernel
@[simp] theorem ne_pass_tick_log : (Str.ofString "pass_tick" = Str.ofString "log") = False := eq_false (by decide +kernel)
@[simp] theorem bq_people_can_say : (Str.ofString "people" == Str.ofString "can_say") = false := by decide +kernel
@[simp] theorem ne_people_can_say : (Str.ofString "people" = Str.ofString "can_say") = False := eq_false (by decide +kernel)
@[simp] theorem bq_people_chain : (Str.ofString "people" == Str.ofString "chain") = false := by decide +kernel
@[simp] theorem ne_people_chain : (Str.ofString "people" = Str.ofString "chain") = False := eq_false (by decide +kernel)
@[simp] theorem bq_people_comes : (Str.ofString "people" == Str.ofString "comes") = false := by decide +kernel
@[simp] theorem ne_people_comes : (Str.ofString "people" = Str.ofString "comes") = False := eq_false (by decide +kernel)
@[simp] theorem bq_people_has_room : (Str.ofString "people" == Str.ofString "has_room") = false := by decide +kernel
@[simp] theorem ne_people_has_room : (Str.ofString "people" = Str.ofString "has_room") = False := eq_false (by decide +kernel)
@[simp] theorem bq_people_hear : (Str.ofString "people" == Str.ofString "hear") = false := by decide +kernel
@[simp] theorem ne_people_hear : (Str.ofString "people" = Str.ofString "hear") = False := eq_false (by decide +kernel)
@[simp] theorem bq_people_hold : (Str.ofString "people" == Str.ofString "hold") = false := by decide +kernel
@[simp] theorem ne_people_hold : (Str.ofString "people" = Str.ofString "hold") = False := eq_false (by decide +kernel)
@[simp] theorem bq_people_is_over : (Str.ofString "people" == Str.ofString "is_over") = false := by decide +kernel
@[simp] theorem ne_people_is_over : (Str.ofString "people" = Str.ofString "is_over") = False := eq_false (by decide +kernel)
@[simp] theorem bq_people_known : (Str.ofString "people" == Str.ofString "known") = false := by decide +kernel
@[simp] theorem ne_people_known : (Str.ofString "people" = Str.ofString "known") = False := eq_false (by decide +kernel)
@[simp] theorem bq_people_now : (Str.ofString "people" == Str.ofString "now") = false := by decide +kernel
@[simp] theorem ne_people_now : (Str.ofString "people" = Str.ofString "now") = False := eq_false (by decide +kernel)
@[simp] theorem bq_people_pass_one : (Str.ofString "people" == Str.ofString "pass_one") = false := by decide +kernel
@[simp] theorem ne_people_pass_one : (Str.ofString "people" = Str.ofString "pass_one") = False := eq_false (by decide +kernel)
@[simp] theorem bq_people_row : (Str.ofString "people" == Str.ofString "row") = false := by decide +kernel
@[simp] theorem ne_people_row : (Str.ofString "people" = Str.ofString "row") = False := eq_false (by decide +kernel)
@[simp] theorem bq_put_off_going : (Str.ofString "put_off" == Str.ofString "going") = false := by decide +kernel
@[simp] theorem ne_put_off_going : (Str.ofString "put_off" = Str.ofString "going") = False := eq_false (by decide +kernel)
@[simp] theorem bq_put_off_lines : (Str.ofString "put_off" == Str.ofString "lines") = false := by decide +kernel
@[simp] theorem ne_put_off_lines : (Str.ofString "put_off" = Str.ofString "lines") = False := eq_false (by decide +kernel)
@[simp] theorem bq_put_off_log : (Str.ofString "put_off" == Str.ofString "log") = false := by decide +kernel
@[simp] theorem ne_put_off_log : (Str.ofString "put_off" = Str.ofString "log") = False := eq_false (by decide +kernel)
@[simp] theorem bq_row_can_say : (Str.ofString "row" == Str.ofString "can_say") = false := by decide +kernel
@[simp] theorem ne_row_can_say : (Str.ofString "row" = Str.ofString "can_say") = False := eq_false (by decide +kernel)
@[simp] theorem bq_row_chain : (Str.ofString "row" == Str.ofString "chain") = false := by decide +kernel
@[simp] theorem ne_row_chain : (Str.ofString "row" = Str.ofString "chain") = False := eq_false (by decide +kernel)
@[simp] theorem bq_row_comes : (Str.ofString "row" == Str.ofString "comes") = false := by decide +kernel
@[simp] theorem ne_row_comes : (Str.ofString "row" = Str.ofString "comes") = False := eq_false (by decide +kernel)
@[simp] theorem bq_row_has_room : (Str.ofString "row" == Str.ofString "has_room") = false := by decide +kernel
@[simp] theorem ne_row_has_room : (Str.ofString "row" = Str.ofString "has_room") = False := eq_false (by decide +kernel)
@[simp] theorem bq_row_hear : (Str.ofString "row" == Str.ofString "hear") = false := by decide +kernel
@[simp] theorem ne_row_hear : (Str.ofString "row" = Str.ofString "hear") = False := eq_false (by decide +kernel)
@[simp] theorem bq_row_hold : (Str.ofString "row" == Str.ofString "hold") = false := by decide +kernel
@[simp] theorem ne_row_hold : (Str.ofString "row" = Str.ofString "hold") = False := eq_false (by decide +kernel)
@[simp] theorem bq_row_is_over : (Str.ofString "row" == Str.ofString "is_over") = false := by decide +kernel
@[simp] theorem ne_row_is_over : (Str.ofString "row" = Str.ofString "is_over") = False := eq_false (by decide +kernel)
@[simp] theorem bq_row_known : (Str.ofString "row" == Str.ofString "known") = false := by decide +kernel
@[simp] theorem ne_row_known : (Str.ofString "row" = Str.ofString "known") = False := eq_false (by decide +kernel)
@[simp] theorem bq_row_now : (Str.ofString "row" == Str.ofString "now") = false := by decide +kernel
@[simp] theorem ne_row_now : (Str.ofString "row" = Str.ofString "now") = False := eq_false (by decide +kernel)
@[simp] theorem bq_row_pass_one : (Str.ofString "row" == Str.ofString "pass_one") = false := by decide +kernel
@[simp] theorem ne_row_pass_one : (Str.ofString "row" = Str.ofString "pass_one") = False := eq_false (by decide +kernel)
@[simp] theorem bq_row_people : (Str.ofString "row" == Str.ofString "people") = false := by decide +kernel
@[simp] theorem ne_row_people : (Str.ofString "row" = Str.ofString "people") = False := eq_false (by decide +kernel)
@[simp] theorem bq_sent_going : (Str.ofString "sent" == Str.ofString "going") = false := by decide +kernel
@[simp] theorem ne_sent_going : (Str.ofString "sent" = Str.ofString "going") = False := eq_false (by decide +kernel)
@[simp] theorem bq_sent_lines : (Str.ofString "sent" == Str.ofString "lines") = false := by decide +kernel
@[simp] theorem ne_sent_lines : (Str.ofString "sent" = Str.ofString "lines") = False := eq_false (by decide +kernel)
@[simp] theorem bq_sent_log : (Str.ofString "sent" == Str.ofString "log") = false := by decide +kernel
@[simp] theorem ne_sent_log : (Str.ofString "sent" = Str.ofString "log") = False := eq_false (by decide +kernel)
@[simp] theorem bq_shows_line : (Str.ofString "shows" == Str.ofString "line") = false := by decide +kernel
@[simp] theorem ne_shows_line : (Str.ofString "shows" = Str.ofString "line") = False := eq_false (by decide +kernel)
@[simp] theorem bq_take_going : (Str.ofString "take" == Str.ofString "going") = false := by decide +kernel
@[simp] theorem ne_take_going : (Str.ofString "take" = Str.ofString "going") = False := eq_false (by decide +kernel)
@[simp] theorem bq_take_lines : (Str.ofString "take" == Str.ofString "lines") = false := by decide +kernel
@[simp] theorem ne_take_lines : (Str.ofString "take" = Str.ofString "lines") = False := eq_false (by decide +kernel)
@[simp] theorem bq_take_log : (Str.ofString "take" == Str.ofString "log") = false := by decide +kernel
@[simp] theorem ne_take_log : (Str.ofString "take" = Str.ofString "log") = False := eq_false (by decide +kernel)
@[simp] theorem bq_take_tick : (Str.ofString "take" == Str.ofString "tick") = false := by decide +kernel
@[simp] theorem ne_take_tick : (Str.ofString "take" = Str.ofString "tick") = False := eq_false (by decide +kernel)
@[simp] theorem bq_tale_going : (Str.ofString "tale" == Str.ofString "going") = false := by decide +kernel
@[simp] theorem ne_tale_going : (Str.ofString "tale" = Str.ofString "going") = False := eq_false (by decide +kernel)
@[simp] theorem bq_tale_lines : (Str.ofString "tale" == Str.ofString "lines") = false := by decide +kernel
@[simp] theorem ne_tale_lines : (Str.ofString "tale" = Str.ofString "lines") = False := eq_false (by decide +kernel)
@[simp] theorem bq_tale_log : (Str.ofString "tale" == Str.ofString "log") = false := by decide +kernel
@[simp] theorem ne_tale_log : (Str.ofString "tale" = Str.ofString "log") = False := eq_false (by decide +kernel)
@[simp] theorem bq_tick_done : (Str.ofString "tick" == Str.ofString "done") = false := by decide +kernel
@[simp] theorem ne_tick_done : (Str.ofString "tick" = Str.ofString "done") = False := eq_false (by decide +kernel)
@[simp] theorem bq_tick_off : (Str.ofString "tick" == Str.ofString "off") = false := by decide +kernel
@[simp] theorem ne_tick_off : (Str.ofString "tick" = Str.ofString "off") = False := eq_false (by decide +kernel)
@[simp] theorem bq_tick_take : (Str.ofString "tick" == Str.ofString "take") = false := by decide +kernel
@[simp] theorem ne_tick_take : (Str.ofString "tick" = Str.ofString "take") = False := eq_false (by decide +kernel)
@[simp] theorem bq_words_going : (Str.ofString "words" == Str.ofString "going") = false := by decide +kernel
@[simp] theorem ne_words_going : (Str.ofString "words" = Str.ofString "going") = False := eq_false (by decide +kernel)
@[simp] theorem bq_words_lines : (Str.ofString "words" == Str.ofString "lines") = false := by decide +kernel
@[simp] theorem ne_words_lines : (Str.ofString "words" = Str.ofString "lines") = False := eq_false (by decide +kernel)
@[simp] theorem bq_words_log : (Str.ofString "words" == Str.ofString "log") = false := by decide +kernel
@[simp] theorem ne_words_log : (Str.ofString "words" = Str.ofString "log") = False := eq_false (by decide +kernel)
/-! ### rounds -/
inductive Ln where
  | tick (ps : List Int)
  | take (p s : Int)
  | done (p s : Int)
  | off (p s t : Int)
  deriving DecidableEq
def eLn : Ln → PyData
  | .tick ps => .tuple [.str "tick", .list (ps.map .int)]
  | .take p s => .tuple [.str "take", .int p, .int s]
  | .done p s => .tuple [.str "done", .int p, .int s]
  | .off p s t => .tuple [.str "off", .int p, .int s, .int t]
abbrev eLns (ls : List Ln) : PyData := .list (ls.map eLn)
structure Rd where
  c : List Lev
  h : Int
  ws : List Wd
  row : List (List Int)
  now : Int
def Rd.new (c : List Lev) (h : Int) : Rd := ⟨c, h, [], dueBy c [], 0⟩
def Rd.hear (x : Rd) (w : Wd) : Rd := { x with ws := x.ws ++ [w], row := dueBy x.c (x.ws ++ [w]) }
def Rd.pass (x : Rd) : Rd := { x with now := x.now + 1 }
def Rd.toll (x : Rd) : List Int := if 0 ≤ x.now - x.h then x.row.getD (x.now - x.h).toNat [] else []
class OkRd (x : Rd) : Prop where
  c : OkCh x.c
  ws : OkWs (ppl x.c) x.ws
  row : x.row = dueBy x.c x.ws
  now : 0 ≤ x.now
def eR (k : Nat) (x : Rd) : OO := .ins "Round" [("chain", .dat false (eCh x.c)), ("people", .dat false (eIs (ppl x.c))), ("hold", .dat false (.int x.h)), ("known", .own k), ("row", .dat false (eTab x.row)), ("now", .dat false (.int x.now))]
abbrev oWs (ws : List Wd) : OO := .lst (ws.map fun w => .dat false (eWd w))
abbrev oIs (ns : List Int) : OO := .lst (ns.map fun w => .dat false (.int w))
theorem set_get {S : Sto} {j : Nat} {o : OO} (h : S[j]? = some o) (v : OO) : (S.set j v)[j]? = some v := List.getElem?_set_self (List.getElem?_eq_some_iff.mp h).1
theorem okws_nil (P : List Int) : OkWs P [] := ⟨by simp, by simp⟩
section
variable {S : Sto} {k : Nat} {x : Rd} {r : Env} {i : Nat}
@[simp] theorem fR_chain : hFld "Round" "chain" (some (eR k x)) S = some (.dat false (eCh x.c), S) := by simp [eR]
@[simp] theorem fR_people : hFld "Round" "people" (some (eR k x)) S = some (.dat false (eIs (ppl x.c)), S) := by simp [eR]
@[simp] theorem fR_hold : hFld "Round" "hold" (some (eR k x)) S = some (.dat false (.int x.h), S) := by simp [eR]
@[simp] theorem fR_known : hFld "Round" "known" (some (eR k x)) S = some (.own k, S) := by simp [eR]
@[simp] theorem fR_row : hFld "Round" "row" (some (eR k x)) S = some (.dat false (eTab x.row), S) := by simp [eR]
@[simp] theorem fR_now : hFld "Round" "now" (some (eR k x)) S = some (.dat false (.int x.now), S) := by simp [eR]
@[simp] theorem sR_row {t : List (List Int)} : hFs "Round" "row" (.dat false (.list (t.map eIs))) r i (some (eR k x)) S = some (.nx, r, S.set i (eR k { x with row := t })) := by simp [eR]
@[simp] theorem aR_now {h : Int → Int → Int} {f : SE} : hFa0 "Round" "now" h r i (some (eR k x)) f S = bnd (f r S) (hFa2 "Round" "now" x.now h r i) := by simp [eR]
@[simp] theorem aR_now3 {h : Int → Int → Int} {n : Int} : hFa3 "Round" "now" x.now h r i n (some (eR k x)) S = some (.nx, r, S.set i (eR k { x with now := h x.now n })) := by simp [eR]
@[simp] theorem cR_can {sem : Sem2} {n : Nat} {fr : SA} : hMe "Round" "can_say" sem n i fr r (some (eR k x)) S = bnd (fr r S) fun as S2 => if as.length + 1 = n then sem (.own i :: as) S2 else none := by simp [eR]
@[simp] theorem cR_room {sem : Sem2} {n : Nat} {fr : SA} : hMe "Round" "has_room" sem n i fr r (some (eR k x)) S = bnd (fr r S) fun as S2 => if as.length + 1 = n then sem (.own i :: as) S2 else none := by simp [eR]
@[simp] theorem cR_hear {sem : Sem2} {n : Nat} {fr : SA} : hMe "Round" "hear" sem n i fr r (some (eR k x)) S = bnd (fr r S) fun as S2 => if as.length + 1 = n then sem (.own i :: as) S2 else none := by simp [eR]
@[simp] theorem cR_over {sem : Sem2} {n : Nat} {fr : SA} : hMe "Round" "is_over" sem n i fr r (some (eR k x)) S = bnd (fr r S) fun as S2 => if as.length + 1 = n then sem (.own i :: as) S2 else none := by simp [eR]
@[simp] theorem cR_pass {sem : Sem2} {n : Nat} {fr : SA} : hMe "Round" "pass_one" sem n i fr r (some (eR k x)) S = bnd (fr r S) fun as S2 => if as.length + 1 = n then sem (.own i :: as) S2 else none := by simp [eR]
@[simp] theorem cR_comes {sem : Sem2} {n : Nat} {fr : SA} : hMe "Round" "comes" sem n i fr r (some (eR k x)) S = bnd (fr r S) fun as S2 => if as.length + 1 = n then sem (.own i :: as) S2 else none := by simp [eR]
end
theorem Rinit_e {c : List Lev} [hc : OkCh c] (b : Bool) (h : Int) (S : Sto) : sem_Round_init [.own S.length, .dat b (eCh c), .dat false (.int h)] (S ++ [.ins "Round" []]) = some (.dat false .none, S ++ [eR (S.length + 1) (Rd.new c h), oWs []]) := by
  have l4 := hc.l4
  haveI := okws_nil (ppl c)
  have hd := due_by_e (c := c) (ws := []) true true []
  have hp := people_of_c (c := c) true
  simp [eWs] at hd
  unfold sem_Round_init body_Round_init eR Rd.new
  simp [Function.comp_def]
  rw [if_pos (by omega), compL_y (fun l => .dat b (eLev l)) (fun l => .dat false (eLev l)) c (fun l hl => by
    unfold eLev
    refine ⟨_, rfl, ?_⟩
    walk_at "nc")]
  simp [hd, hp]
section
variable {S : Sto} {j k : Nat} {x : Rd} (hj : S[j]? = some (eR k x)) (hk : S[k]? = some (oWs x.ws))
include hj in
theorem can_say_e (a b : Bool) (p s : Int) : sem_Round_can_say [.own j, .dat a (.int p), .dat b (.int s)] S = some (.dat false (.bool (decide (p ∈ ppl x.c) && (decide (0 ≤ s) && decide (s ≤ min x.now 40)))), S) := by
  unfold sem_Round_can_say body_Round_can_say
  by_cases h1 : p ∈ ppl x.c <;> by_cases h2 : 0 ≤ s <;> simp [hj, h1, h2]
include hj hk in
theorem has_room_e : sem_Round_has_room [.own j] S = some (.dat false (.bool (decide (x.ws.length < 12))), S) := by
  unfold sem_Round_has_room body_Round_has_room
  simp [hj, oLen_own hk]
  omega
include hj in
theorem is_over_e : sem_Round_is_over [.own j] S = some (.dat false (.bool (decide (60 + x.h < x.now))), S) := by
  unfold sem_Round_is_over body_Round_is_over
  simp [hj]
include hj in
theorem pass_one_e (hl : x.row.length = 61) (ho : x.now ≤ 60 + x.h) : sem_Round_pass_one [.own j] S = some (.own S.length, S.set j (eR k x.pass) ++ [oIs x.toll]) := by
  have hs := set_get hj
  unfold sem_Round_pass_one body_Round_pass_one Rd.toll Rd.pass
  by_cases h : 0 ≤ x.now - x.h
  · have h2 : x.h ≤ x.now := by omega
    have h3 : (x.now - x.h).toNat < x.row.length := by omega
    have h4 : atI (x.row.map eIs) (x.now - x.h) = some (eIs (x.row.getD (x.now - x.h).toNat [])) := by
      rw [atI_map]
      have : atI x.row (x.now - x.h) = some (x.row.getD (x.now - x.h).toNat []) := by
        have e : x.now - x.h = (((x.now - x.h).toNat : Nat) : Int) := by omega
        rw [e, atI_n, List.getElem?_eq_getElem h3]
        simp only [Int.toNat_natCast]
        rw [List.getD_eq_getElem?_getD, List.getElem?_eq_getElem h3]
        rfl
      rw [this]
      rfl
    simp [hj, hs, h, h2, h4, Function.comp_def]
  · have h2 : ¬ x.h ≤ x.now := by omega
    simp [hj, hs, h, h2]
end
end Nc
set_option Elab.async false
set_option linter.all false
set_option maxRecDepth 100000
set_option maxHeartbeats 1000000
namespace Nc
open PySem PySem.Spec PyProof.Rows L2
local macro_rules | `(tactic| walk_at "nc") => `(tactic| repeat (first | simp [atI, ixN, zipI, cutG, HT.sIx, Function.comp_def] | simp (disch := first | assumption | omega) only [oIntC_p, le_T, le_F, lt_T, lt_F, bq_F, in_T, in_F] | rw [if_pos (by omega)] | rw [if_neg (by omega)] | omega))
/-! ### a line of a tale, a tale -/
def Ln.pq : Ln → Int × Int
  | .tick _ => (0, 0)
  | .take p s => (p, s)
  | .done p s => (p, s)
  | .off p s _ => (p, s)
def Ln.wd (now : Int) : Ln → Wd
  | .tick _ => .done 0 0 0
  | .take p s => .take p s now
  | .done p s => .done p s now
  | .off p s t => .off p s now t
def Ln.bad : Ln → Bool
  | .off _ _ t => !(decide (1 ≤ t) && decide (t ≤ 20))
  | _ => false
def Rd.can (x : Rd) (p s : Int) : Bool := decide (p ∈ ppl x.c) && (decide (0 ≤ s) && decide (s ≤ min x.now 40))
def Rd.hears (x : Rd) (l : Ln) : Bool × Rd := if (!x.can l.pq.1 l.pq.2 || (decide (60 < x.now) || !decide (x.ws.length < 12)) || l.bad) = true then (false, x) else (true, x.hear (l.wd x.now))
def Rd.comes (x : Rd) (l : Ln) : Bool × Rd := match l with
  | .tick ps => if 60 + x.h < x.now then (false, x) else (decide (x.toll = ps), x.pass)
  | l => x.hears l
theorem can_ok {x : Rd} {p s : Int} (h : x.can p s = true) : p ∈ ppl x.c ∧ 0 ≤ s ∧ s ≤ x.now ∧ s ≤ 40 := by
  unfold Rd.can at h
  simp only [Bool.and_eq_true, decide_eq_true_eq] at h
  obtain ⟨a, b, c⟩ := h
  refine ⟨a, b, ?_, ?_⟩ <;> omega
theorem hear_ok {x : Rd} (h : OkRd x) {w : Wd} (hw : OkWd (ppl x.c) w) (hl : x.ws.length < 12) : OkRd (x.hear w) := by
  refine ⟨h.c, ⟨?_, ?_⟩, rfl, h.now⟩
  · show (x.ws ++ [w]).length ≤ 12
    simp; omega
  · intro v hv
    rcases List.mem_append.mp hv with h1 | h1
    · exact h.ws.wd v h1
    · simp at h1; subst h1; exact hw
theorem pass_ok {x : Rd} (h : OkRd x) : OkRd x.pass := ⟨h.c, h.ws, h.row, by have := h.now; show 0 ≤ x.now + 1; omega⟩
theorem new_ok {c : List Lev} [hc : OkCh c] (h : Int) : OkRd (Rd.new c h) := ⟨hc, okws_nil _, rfl, Int.le_refl _⟩
theorem OkRd.len {x : Rd} (h : OkRd x) : x.row.length = 61 := by
  haveI := h.c
  rw [h.row]; exact (dueBy_len (c := x.c) (ws := x.ws)).1
theorem OkRd.toll {x : Rd} (h : OkRd x) : x.toll.length ≤ 3 := by
  haveI := h.c
  unfold Rd.toll
  split
  · rw [List.getD_eq_getElem?_getD]
    cases e : x.row[(x.now - x.h).toNat]? with
    | none => simp
    | some r =>
      have : r ∈ dueBy x.c x.ws := by rw [← h.row]; exact List.mem_of_getElem? e
      simpa using (dueBy_len (c := x.c) (ws := x.ws)).2 r this
  · simp
theorem line_wd {x : Rd} {l : Ln} (hl : ∀ ps, l ≠ .tick ps) (h : (!x.can l.pq.1 l.pq.2 || (decide (60 < x.now) || !decide (x.ws.length < 12)) || l.bad) = false) : OkWd (ppl x.c) (l.wd x.now) ∧ x.ws.length < 12 := by
  simp only [Bool.or_eq_false_iff, Bool.not_eq_false', decide_eq_false_iff_not, decide_eq_true_eq] at h
  obtain ⟨⟨h1, h2, h3⟩, h4⟩ := h
  obtain ⟨g1, g2, g3, g4⟩ := can_ok h1
  refine ⟨?_, h3⟩
  cases l with
  | tick ps => exact absurd rfl (hl ps)
  | take p s => exact ⟨g1, g2, g4, g3, by simp only [Ln.wd, Wd.h]; omega, fun _ _ _ _ e => by cases e⟩
  | done p s => exact ⟨g1, g2, g4, g3, by simp only [Ln.wd, Wd.h]; omega, fun _ _ _ _ e => by cases e⟩
  | off p s t =>
    simp only [Ln.bad, Bool.not_eq_false', Bool.and_eq_true, decide_eq_true_eq] at h4
    exact ⟨g1, g2, g4, g3, by simp only [Ln.wd, Wd.h]; omega, fun _ _ _ _ e => by cases e; exact h4⟩
theorem comes_ok {x : Rd} (h : OkRd x) (l : Ln) : OkRd (x.comes l).2 := by
  unfold Rd.comes
  cases l with
  | tick ps =>
    simp only
    split
    · exact h
    · exact pass_ok h
  | _ =>
    simp only
    unfold Rd.hears
    split
    · exact h
    · rename_i e
      obtain ⟨g1, g2⟩ := line_wd (fun _ e => by cases e) (Bool.eq_false_iff.mpr e)
      exact hear_ok h g1 g2
section
variable {S : Sto} {j k : Nat} {x : Rd}
/-- a round of the store -/
structure RdAt (S : Sto) (j k : Nat) (x : Rd) : Prop where
  r : S[j]? = some (eR k x)
  k : S[k]? = some (oWs x.ws)
  ok : OkRd x
theorem eR_ne {k k2 : Nat} {x : Rd} {vs : List OV} : eR k x ≠ .lst vs := by unfold eR; intro h; cases h
theorem RdAt.ne (h : RdAt S j k x) : j ≠ k := fun e => by
  have a := h.r; have b := h.k
  rw [e, b] at a
  simp only [Option.some.injEq] at a
  unfold eR at a
  cases a
theorem RdAt.app (h : RdAt S j k x) (M : Sto) : RdAt (S ++ M) j k x := by
  refine ⟨?_, ?_, h.ok⟩
  · rw [List.getElem?_append_left (List.getElem?_eq_some_iff.mp h.r).1]; exact h.r
  · rw [List.getElem?_append_left (List.getElem?_eq_some_iff.mp h.k).1]; exact h.k
theorem hear_e (h : RdAt S j k x) {w : Wd} {kd : Str} {p s : Int} {rs : List PyData} (e : eWd w = .tuple ([.str kd, .int p, .int s, .int x.now] ++ rs)) (hw : OkWd (ppl x.c) w) (hl : x.ws.length < 12) (hrs : rs.length ≤ 5 := by simp) :
    sem_Round_hear [.own j, .dat false (.str kd), .dat false (.int p), .dat false (.int s), .dat false (.tuple rs)] S = some (.dat false .none, (S.set k (oWs (x.hear w).ws)).set j (eR k (x.hear w))) := by
  have hj := h.r; have hk := h.k; have hn := h.ne
  have ok := hear_ok h.ok hw hl
  haveI : OkCh x.c := h.ok.c
  haveI : OkWs (ppl x.c) (x.ws ++ [w]) := ok.ws
  have hd := due_by_e (c := x.c) (ws := x.ws ++ [w]) true true []
  have hs := set_get hk
  have hr4 : rs.length + 4 ≤ 100000 := by omega
  have hr5 : 4 + rs.length ≤ 100000 := by omega
  have hl2 : x.ws.length < 100000 := by omega
  unfold sem_Round_hear body_Round_hear
  unfold Rd.hear
  simp [eWs, e] at hd
  simp [hj, hk, hs, hn, Ne.symm hn, hr4, hr5, hl2, hd, e, List.getElem?_set_ne]
  have e9 : oWs (x.ws ++ [w]) = .lst ((x.ws.map fun w => .dat false (eWd w)) ++ [.dat false (.tuple (.str kd :: .int p :: .int s :: .int x.now :: rs))]) := by simp [oWs, e]
  rw [e9]
  rfl
end
section
variable {S : Sto} {j k : Nat} {x : Rd}
/-- what a call leaves of all that is not of the round -/
structure Kp (S S' : Sto) (a b : Nat) : Prop where
  len : S.length ≤ S'.length
  get : ∀ i, i < S.length → i ≠ a → i ≠ b → S'[i]? = S[i]?
theorem Kp.refl {a b : Nat} : Kp S S a b := ⟨Nat.le_refl _, fun _ _ _ _ => rfl⟩
theorem Kp.trans {S1 S2 S3 : Sto} {a b : Nat} (h : Kp S1 S2 a b) (g : Kp S2 S3 a b) : Kp S1 S3 a b := ⟨Nat.le_trans h.len g.len, fun i hi ha hb => by rw [g.get i (Nat.lt_of_lt_of_le hi h.len) ha hb, h.get i hi ha hb]⟩
theorem hear_at (h : RdAt S j k x) {w : Wd} (hw : OkWd (ppl x.c) w) (hl : x.ws.length < 12) : RdAt ((S.set k (oWs (x.hear w).ws)).set j (eR k (x.hear w))) j k (x.hear w) ∧ Kp S ((S.set k (oWs (x.hear w).ws)).set j (eR k (x.hear w))) j k := by
  have hjl : j < S.length := (List.getElem?_eq_some_iff.mp h.r).1
  have hkl : k < S.length := (List.getElem?_eq_some_iff.mp h.k).1
  have hn := h.ne
  refine ⟨⟨?_, ?_, hear_ok h.ok hw hl⟩, ⟨by simp, fun i hi ha hb => ?_⟩⟩
  · rw [List.getElem?_set_self (by simpa using hjl)]
  · rw [List.getElem?_set_ne hn, List.getElem?_set_self hkl]
  · rw [List.getElem?_set_ne (Ne.symm ha), List.getElem?_set_ne (Ne.symm hb)]
theorem pass_at (h : RdAt S j k x) (M : Sto) : RdAt (S.set j (eR k x.pass) ++ M) j k x.pass ∧ Kp S (S.set j (eR k x.pass) ++ M) j k := by
  have hjl : j < S.length := (List.getElem?_eq_some_iff.mp h.r).1
  have hkl : k < S.length := (List.getElem?_eq_some_iff.mp h.k).1
  have hn := h.ne
  refine ⟨⟨?_, ?_, pass_ok h.ok⟩, ⟨by simp, fun i hi ha hb => ?_⟩⟩
  · rw [List.getElem?_append_left (by simpa using hjl), List.getElem?_set_self (by simpa using hjl)]
  · rw [List.getElem?_append_left (by simpa using hkl), List.getElem?_set_ne hn]; exact h.k
  · rw [List.getElem?_append_left (by simpa using hi), List.getElem?_set_ne (Ne.symm ha)]
theorem comes_e (h : RdAt S j k x) (l : Ln) (b : Bool) : ∃ S', sem_Round_comes [.own j, mkD b (eLn l)] S = some (.dat false (.bool (x.comes l).1), S') ∧ RdAt S' j k (x.comes l).2 ∧ Kp S S' j k := by
  have hj := h.r; have hk := h.k
  have ho := is_over_e hj
  have hr := has_room_e hj hk
  have hc := fun a b => can_say_e hj a b
  have dec := fun (l : Ln) (g : ∀ ps, l ≠ .tick ps) (e : (!x.can l.pq.1 l.pq.2 || (decide (60 < x.now) || !decide (x.ws.length < 12)) || l.bad) = false) => line_wd g e
  cases l with
  | tick ps =>
    unfold sem_Round_comes body_Round_comes Rd.comes
    by_cases e : 60 + x.h < x.now
    · refine ⟨S, ?_, ?_, Kp.refl⟩
      · simp [eLn, mkD_tup, atI1, atI2, hj, ho, e]
      · simp only [if_pos e]; exact h
    · have hp := pass_one_e hj h.ok.len (by omega)
      obtain ⟨g1, g2⟩ := pass_at h [oIs x.toll]
      refine ⟨_, ?_, ?_, g2⟩
      · simp [eLn, mkD_tup, atI1, atI2, hj, ho, e, hp, Function.comp_def, eqv_ints]
      · simp only [if_neg e]; exact g1
  | take p s =>
    have q := dec (.take p s) (fun _ e => by cases e)
    unfold sem_Round_comes body_Round_comes
    rw [show x.comes (.take p s) = x.hears (.take p s) from rfl]
    unfold Rd.hears
    simp only [Ln.pq, Ln.bad, Ln.wd, Bool.or_false] at q ⊢
    cases e1 : x.can p s with
    | false =>
      refine ⟨S, ?_, by simpa using h, Kp.refl⟩
      unfold Rd.can at e1
      simp [eLn, mkD_tup, atI1, atI2, hj, hc, e1]
    | true =>
      by_cases e2 : 60 < x.now
      · refine ⟨S, ?_, by simpa [e2] using h, Kp.refl⟩
        unfold Rd.can at e1
        simp [eLn, mkD_tup, atI1, atI2, hj, hc, e1, e2]
      · by_cases e3 : x.ws.length < 12
        · obtain ⟨g1, g2⟩ := q (by simp [e1, e2, e3])
          obtain ⟨r1, r2⟩ := hear_at h g1 g2
          refine ⟨_, ?_, by simpa [e2, e3] using r1, r2⟩
          have he := hear_e h (w := .take p s x.now) (kd := "take") (p := p) (s := s) (rs := []) rfl g1 g2
          unfold Rd.can at e1
          simp [eLn, mkD_tup, atI1, atI2, hj, hc, hr, e1, e2, e3, cutD3, he]
        · refine ⟨S, ?_, by simpa [e2, e3] using h, Kp.refl⟩
          unfold Rd.can at e1
          simp [eLn, mkD_tup, atI1, atI2, hj, hc, hr, e1, e2, e3]
  | done p s =>
    have q := dec (.done p s) (fun _ e => by cases e)
    unfold sem_Round_comes body_Round_comes
    rw [show x.comes (.done p s) = x.hears (.done p s) from rfl]
    unfold Rd.hears
    simp only [Ln.pq, Ln.bad, Ln.wd, Bool.or_false] at q ⊢
    cases e1 : x.can p s with
    | false =>
      refine ⟨S, ?_, by simpa using h, Kp.refl⟩
      unfold Rd.can at e1
      simp [eLn, mkD_tup, atI1, atI2, hj, hc, e1]
    | true =>
      by_cases e2 : 60 < x.now
      · refine ⟨S, ?_, by simpa [e2] using h, Kp.refl⟩
        unfold Rd.can at e1
        simp [eLn, mkD_tup, atI1, atI2, hj, hc, e1, e2]
      · by_cases e3 : x.ws.length < 12
        · obtain ⟨g1, g2⟩ := q (by simp [e1, e2, e3])
          obtain ⟨r1, r2⟩ := hear_at h g1 g2
          refine ⟨_, ?_, by simpa [e2, e3] using r1, r2⟩
          have he := hear_e h (w := .done p s x.now) (kd := "done") (p := p) (s := s) (rs := []) rfl g1 g2
          unfold Rd.can at e1
          simp [eLn, mkD_tup, atI1, atI2, hj, hc, hr, e1, e2, e3, cutD3, he]
        · refine ⟨S, ?_, by simpa [e2, e3] using h, Kp.refl⟩
          unfold Rd.can at e1
          simp [eLn, mkD_tup, atI1, atI2, hj, hc, hr, e1, e2, e3]
  | off p s t =>
    have q := dec (.off p s t) (fun _ e => by cases e)
    unfold sem_Round_comes body_Round_comes
    rw [show x.comes (.off p s t) = x.hears (.off p s t) from rfl]
    unfold Rd.hears
    simp only [Ln.pq, Ln.bad, Ln.wd] at q ⊢
    rcases (Bool.eq_false_or_eq_true (x.can p s)).symm with e1 | e1
    · refine ⟨S, ?_, by simpa [e1] using h, Kp.refl⟩
      simp only [e1]
      unfold Rd.can at e1
      simp [eLn, mkD_tup, atI1, atI2, hj, hc, e1]
    · 
      by_cases e2 : 60 < x.now
      · refine ⟨S, ?_, by simpa [e1, e2] using h, Kp.refl⟩
        simp only [e1]
        unfold Rd.can at e1
        simp [eLn, mkD_tup, atI1, atI2, hj, hc, e1, e2]
      · by_cases e3 : x.ws.length < 12
        · by_cases e4 : 1 ≤ t
          · by_cases e5 : t ≤ 20
            · obtain ⟨g1, g2⟩ := q (by simp [e1, e2, e3, e4, e5])
              obtain ⟨r1, r2⟩ := hear_at h g1 g2
              refine ⟨_, ?_, by simpa [e1, e2, e3, e4, e5] using r1, r2⟩
              have he := hear_e h (w := .off p s x.now t) (kd := "off") (p := p) (s := s) (rs := [.int t]) rfl g1 g2
              simp only [e1]
              unfold Rd.can at e1
              simp [eLn, mkD_tup, atI1, atI2, hj, hc, hr, e1, e2, e3, e4, e5, cutD3, he, atI3]
            · refine ⟨S, ?_, by simpa [e1, e2, e3, e4, e5] using h, Kp.refl⟩
              simp only [e1]
              unfold Rd.can at e1
              simp [eLn, mkD_tup, atI1, atI2, hj, hc, hr, e1, e2, e3, e4, e5, atI3]
          · refine ⟨S, ?_, by simpa [e1, e2, e3, e4] using h, Kp.refl⟩
            simp only [e1]
            unfold Rd.can at e1
            simp [eLn, mkD_tup, atI1, atI2, hj, hc, hr, e1, e2, e3, e4, atI3]
        · refine ⟨S, ?_, by simpa [e1, e2, e3] using h, Kp.refl⟩
          simp only [e1]
          unfold Rd.can at e1
          simp [eLn, mkD_tup, atI1, atI2, hj, hc, hr, e1, e2, e3]
/-- the first line that can't come, behind k lines -/
def wrongAt : Rd → List Ln → Nat → Int
  | _, [], _ => -1
  | x, l :: ls, n => if (x.comes l).1 = true then wrongAt (x.comes l).2 ls (n + 1) else (n : Int)
abbrev wrongOf (c : List Lev) (h : Int) (ls : List Ln) : Int := wrongAt (Rd.new c h) ls 0
end
end Nc
set_option Elab.async false
set_option linter.all false
set_option maxRecDepth 100000
set_option maxHeartbeats 1000000
namespace Nc
open PySem PySem.Spec PyProof.Rows L2
local macro_rules | `(tactic| walk_at "nc") => `(tactic| repeat (first | simp [atI, ixN, zipI, cutG, HT.sIx, Function.comp_def] | simp (disch := first | assumption | omega) only [oIntC_p, le_T, le_F, lt_T, lt_F, bq_F, in_T, in_F] | rw [if_pos (by omega)] | rw [if_neg (by omega)] | omega))
/-! ### tales -/
@[simp] theorem mkD_ln (l : Ln) : mkD false (eLn l) = .dat false (eLn l) := mkD_false _
def Ln.few : Ln → Bool
  | .tick ps => decide (ps.length ≤ 1000)
  | _ => true
theorem is_line_e (l : Ln) (hf : l.few = true) (b : Bool) (S : Sto) : sem_is_line [mkD b (eLn l)] S = some (.dat false (.bool true), S) := by
  unfold sem_is_line body_is_line
  cases l with
  | tick ps =>
    have hf2 : ps.length ≤ 1000 := of_decide_eq_true hf
    simp [eLn, mkD_tup, Function.comp_def, atI1]
    rw [if_pos (by omega), compL_y (fun i => .dat false (.int i)) (fun _ => .dat false (.bool true)) ps (fun l hl => by
      refine ⟨_, rfl, ?_⟩
      simp)]
    simp [atI1, Function.comp_def]
  | take p s =>
    simp [eLn, mkD_tup, Function.comp_def, cutD1, compL]
  | done p s =>
    simp [eLn, mkD_tup, Function.comp_def, cutD1, compL]
  | off p s t =>
    simp [eLn, mkD_tup, Function.comp_def, cutD1, compL]
theorem argF_ln (b : Bool) (l : Ln) (S : Sto) : argF S (mkD b (eLn l)) = some (mkD true (eLn l)) := by
  cases l <;> cases b <;> simp [eLn, mkD_tup]
theorem check_tale_e {ls : List Ln} (hl : ls.length ≤ 80) (hf : ∀ l ∈ ls, l.few = true) (b : Bool) (S : Sto) : sem_check_tale [.dat b (eLns ls)] S = some (.dat false .none, S) := by
  unfold sem_check_tale body_check_tale
  have h2 : ¬ (80 : Int) < (ls.length : Int) := by omega
  have h3 : ¬ 80 < ls.length := by omega
  simp [h2, h3, Function.comp_def]
  rw [compL_y (fun l => mkD b (eLn l)) (fun _ => .dat false (.bool true)) ls (fun l hl => by
    refine ⟨_, rfl, ?_⟩
    have := is_line_e l (hf l hl)
    simp [argF_ln, this]), if_pos (by omega)]
  simp [Function.comp_def]
theorem mkD_is2 (b : Bool) (d : PyData) : mkD b d = .dat (b && !flat d) d := rfl
theorem enumI_mk {α : Type} (b : Bool) (f : α → PyData) : ∀ (xs : List α) (n : Nat), enumI n (xs.map fun x => mkD b (f x)) = some ((xs.zipIdx n).map fun p => mkD b (.tuple [.int (p.2 : Int), f p.1]))
  | [], n => rfl
  | x :: xs, n => by
    rw [List.map_cons, mkD_is2, enumI, enumI_mk b f xs (n + 1), List.zipIdx_cons, List.map_cons]
    cases b <;> cases h : flat (f x) <;> simp [mkD_tup, h]
theorem wrong_loop {b : Bool} {X Y Z : Option OV} {j k : Nat} : ∀ (ls : List Ln) (n : Nat) (x : Rd) (S : Sto), RdAt S j k x → ∃ S',
    kCall (kSeq (forL (turnS (bTup 2 (bCons (bName 4) (bCons (bName 5) bNil))) (sIf (xNot (xB (xMeth "Round" "comes" sem_Round_comes 2 (xVar 3) (xCons (xVar 5) xNil)))) (sRet (xVar 4)) sNext) [4, 5]) (fun _ => True) ((ls.zipIdx n).map fun p => mkD b (.tuple [.int (p.2 : Int), eLn p.1])) [X, Y, Z, some (.own j), none, none] S) (sRet (xNeg (xC (.int 1))))) = some (.dat false (.int (wrongAt x ls n)), S')
  | [], n, x, S, h => ⟨S, by simp [wrongAt]⟩
  | l :: ls, n, x, S, h => by
    obtain ⟨S1, h1, h2, _⟩ := comes_e h l (b && !flat (eLn l))
    have hj := h.r
    unfold wrongAt
    cases e : (x.comes l).1 with
    | false =>
      rw [e] at h1
      refine ⟨S1, ?_⟩
      rw [List.zipIdx_cons, List.map_cons]
      simp [hj, h1, mkD_tup]
    | true =>
      obtain ⟨S2, h3⟩ := wrong_loop (b := b) (X := X) (Y := Y) (Z := Z) ls (n + 1) _ S1 h2
      rw [e] at h1
      refine ⟨S2, ?_⟩
      rw [List.zipIdx_cons, List.map_cons]
      simp only [if_true]
      rw [← h3]
      generalize List.map (fun p : Ln × Nat => mkD b (.tuple [.int (p.2 : Int), eLn p.1])) (ls.zipIdx (n + 1)) = rr
      simp [hj, h1, mkD_tup]
theorem first_wrong_e {c : List Lev} [hc : OkCh c] (b d : Bool) (h : Int) (ls : List Ln) : Gives (sem_first_wrong [.dat b (eCh c), .dat false (.int h), .dat d (eLns ls)] []) (.dat false (.int (wrongOf c h ls))) := by
  have hi := Rinit_e (c := c) b h []
  simp only [List.length_nil, List.nil_append, Nat.zero_add] at hi
  have at0 : RdAt [eR 1 (Rd.new c h), oWs []] 0 1 (Rd.new c h) := ⟨rfl, rfl, new_ok h⟩
  obtain ⟨S', e⟩ := wrong_loop (b := d) (X := some (.dat b (eCh c))) (Y := some (.dat false (.int h))) (Z := some (.dat d (eLns ls))) ls 0 (Rd.new c h) _ at0
  refine ⟨S', ?_⟩
  unfold sem_first_wrong body_first_wrong
  rw [← e]
  simp [hi, enumI_mk, Function.comp_def]
/-! ### a judging -/
abbrev oRight : OO := .ins "Right" []
def oWrong (n : Int) : OO := .ins "Wrong" [("line", .dat false (.int n))]
@[simp] theorem fW_line {S : Sto} {n : Int} : hFld "Wrong" "line" (some (oWrong n)) S = some (.dat false (.int n), S) := by simp [oWrong]
theorem Winit_e (S : Sto) (n : Int) : sem_Wrong_init [.own S.length, .dat false (.int n)] (S ++ [.ins "Wrong" []]) = some (.dat false .none, S ++ [oWrong n]) := by
  unfold sem_Wrong_init body_Wrong_init oWrong
  simp
@[simp] theorem xMakeN_e {c : Str} {r : Env} {S : Sto} : xMakeN c r S = some (.own S.length, S ++ [.ins c []]) := rfl
theorem judged_e {c : List Lev} [hc : OkCh c] {h : Int} (h0 : 0 ≤ h) (h60 : h ≤ 60) {ls : List Ln} (hl : ls.length ≤ 80) (hf : ∀ l ∈ ls, l.few = true) (b d : Bool) :
    sem_judged [.dat b (eCh c), .dat false (.int h), .dat d (eLns ls)] [] = some (.own 0, [if wrongOf c h ls < 0 then oRight else oWrong (wrongOf c h ls)]) := by
  have hw := first_wrong_e (c := c) true true h ls
  have hw2 := hw.f (S := [])
  have hi := Winit_e [] (wrongOf c h ls)
  simp only [List.length_nil, List.nil_append] at hi
  unfold sem_judged body_judged
  by_cases e : wrongOf c h ls < 0
  · simp [check_hold_e h0 h60, check_tale_e hl hf, hw2, e]
  · simp [check_hold_e h0 h60, check_tale_e hl hf, hw2, e, hi]
theorem rshows_e {c : List Lev} [hc : OkCh c] (h : Int) (ls : List Ln) (b d : Bool) :
    sem_Right_shows [.own 0, .dat b (eCh c), .dat false (.int h), .dat d (eLns ls)] [oRight] = some (.dat false (.bool (decide (wrongOf c h ls < 0))), [oRight]) := by
  have hw2 := (first_wrong_e (c := c) true true h ls).f (S := [oRight])
  unfold sem_Right_shows body_Right_shows
  simp [hw2]
theorem wshows_e {c : List Lev} [hc : OkCh c] (h : Int) (ls : List Ln) (n : Int) (b d : Bool) :
    sem_Wrong_shows [.own 0, .dat b (eCh c), .dat false (.int h), .dat d (eLns ls)] [oWrong n] = some (.dat false (.bool (decide (0 ≤ n) && decide (wrongOf c h ls = n))), [oWrong n]) := by
  have hw2 := (first_wrong_e (c := c) true true h ls).f (S := [oWrong n])
  unfold sem_Wrong_shows body_Wrong_shows
  by_cases e : 0 ≤ n
  · by_cases e2 : wrongOf c h ls = n
    · simp [hw2, e, e2]
    · simp [hw2, e, e2]
  · simp [hw2, e]
/-! ### a method called by values -/
theorem methW_e {c mn : Str} {sem : Sem2} {n i : Nat} {fo : SE} {fr : SA} {r : Env} {S S1 S3 : Sto} {fs : List (Str × OV)} {as as' : List OV} {b : Bool}
    (h1 : fo r S = some (.own i, S1)) (h2 : S1[i]? = some (.ins c fs)) (h3 : fs.lookup mn = none) (h4 : scalF fs = true) (h5 : fr r S1 = some (as, S1)) (h6 : as.length + 1 = n) (h7 : argsV S1 as = some as')
    (h8 : sem (.own 0 :: as') [.ins c fs] = some (.dat false (.bool b), .ins c fs :: S3)) : xMethV c mn sem n fo fr r S = some (.dat false (.bool b), S1) := by
  unfold xMethV
  rw [h1]
  simp only [bnd_mk, h2]
  rw [if_pos ⟨trivial, h3, h4⟩, h5]
  simp only [bnd_mk]
  rw [if_pos h6, chk_pos h2]
  simp only [h7, h8]
  rw [if_pos (by rfl), chk_pos (by rfl)]
end Nc
set_option Elab.async false
set_option linter.all false
set_option maxRecDepth 100000
set_option maxHeartbeats 1000000
namespace Nc
open PySem PySem.Spec PyProof.Rows L2
local macro_rules | `(tactic| walk_at "nc") => `(tactic| repeat (first | simp [atI, ixN, zipI, cutG, HT.sIx, Function.comp_def] | simp (disch := first | assumption | omega) only [oIntC_p, le_T, le_F, lt_T, lt_F, bq_F, in_T, in_F] | rw [if_pos (by omega)] | rw [if_neg (by omega)] | omega))
/-! ### a nag -/
structure Ng where
  r : Rd
  ls : List Ln
  lg : List (Int × Int)
def Ng.new (c : List Lev) (h : Int) : Ng := ⟨Rd.new c h, [], []⟩
def Ng.hear (x : Ng) (l : Ln) : Ng := ⟨x.r.hear (l.wd x.r.now), x.ls ++ [l], x.lg⟩
def Ng.pass (x : Ng) : Ng := ⟨x.r.pass, x.ls ++ [.tick x.r.toll], x.lg ++ x.r.toll.map fun p => (x.r.now - x.r.h, p)⟩
def oNag (i : Nat) : OO := .ins "Nag" [("going", .own (i + 1)), ("lines", .own (i + 3)), ("log", .own (i + 4))]
abbrev oLns (ls : List Ln) : OO := .lst (ls.map fun l => .dat false (eLn l))
abbrev oPs (ps : List (Int × Int)) : OO := .lst (ps.map fun p => .dat false (ePr p))
structure OkNg (x : Ng) : Prop where
  rd : OkRd x.r
  h0 : 0 ≤ x.r.h
  h60 : x.r.h ≤ 60
  now : x.r.now ≤ 61 + x.r.h
  ll : (x.ls.length : Int) = x.r.now + x.r.ws.length
  gl : (x.lg.length : Int) ≤ 3 * x.r.now
section
variable {S : Sto} {r : Env} {i n : Nat}
@[simp] theorem fN_going : hFld "Nag" "going" (some (oNag n)) S = some (.own (n + 1), S) := by simp [oNag]
@[simp] theorem fN_lines : hFld "Nag" "lines" (some (oNag n)) S = some (.own (n + 3), S) := by simp [oNag]
@[simp] theorem fN_log : hFld "Nag" "log" (some (oNag n)) S = some (.own (n + 4), S) := by simp [oNag]
variable {sem : Sem2} {m : Nat} {fr : SA}
@[simp] theorem cN_check : hMe "Nag" "check" sem m i fr r (some (oNag n)) S = bnd (fr r S) fun as S2 => if as.length + 1 = m then sem (.own i :: as) S2 else none := by simp [oNag]
@[simp] theorem cN_hear : hMe "Nag" "hear" sem m i fr r (some (oNag n)) S = bnd (fr r S) fun as S2 => if as.length + 1 = m then sem (.own i :: as) S2 else none := by simp [oNag]
@[simp] theorem cN_take : hMe "Nag" "take" sem m i fr r (some (oNag n)) S = bnd (fr r S) fun as S2 => if as.length + 1 = m then sem (.own i :: as) S2 else none := by simp [oNag]
@[simp] theorem cN_put : hMe "Nag" "put_off" sem m i fr r (some (oNag n)) S = bnd (fr r S) fun as S2 => if as.length + 1 = m then sem (.own i :: as) S2 else none := by simp [oNag]
@[simp] theorem cN_fin : hMe "Nag" "finish" sem m i fr r (some (oNag n)) S = bnd (fr r S) fun as S2 => if as.length + 1 = m then sem (.own i :: as) S2 else none := by simp [oNag]
@[simp] theorem cN_pass : hMe "Nag" "pass_tick" sem m i fr r (some (oNag n)) S = bnd (fr r S) fun as S2 => if as.length + 1 = m then sem (.own i :: as) S2 else none := by simp [oNag]
@[simp] theorem cN_at : hMe "Nag" "at" sem m i fr r (some (oNag n)) S = bnd (fr r S) fun as S2 => if as.length + 1 = m then sem (.own i :: as) S2 else none := by simp [oNag]
@[simp] theorem cN_words : hMe "Nag" "words" sem m i fr r (some (oNag n)) S = bnd (fr r S) fun as S2 => if as.length + 1 = m then sem (.own i :: as) S2 else none := by simp [oNag]
@[simp] theorem cN_sent : hMe "Nag" "sent" sem m i fr r (some (oNag n)) S = bnd (fr r S) fun as S2 => if as.length + 1 = m then sem (.own i :: as) S2 else none := by simp [oNag]
@[simp] theorem cN_tale : hMe "Nag" "tale" sem m i fr r (some (oNag n)) S = bnd (fr r S) fun as S2 => if as.length + 1 = m then sem (.own i :: as) S2 else none := by simp [oNag]
end
/-- a nag of the store: it, its round, the words, the lines, the log, side by side -/
structure NgAt (S : Sto) (i : Nat) (x : Ng) : Prop where
  n : S[i]? = some (oNag i)
  r : RdAt S (i + 1) (i + 2) x.r
  l : S[i + 3]? = some (oLns x.ls)
  g : S[i + 4]? = some (oPs x.lg)
  ok : OkNg x
/-- all but the parts of a nag stays -/
structure Kn (S S' : Sto) (i : Nat) : Prop where
  len : S.length ≤ S'.length
  get : ∀ q, q < S.length → (q ≤ i ∨ i + 4 < q) → S'[q]? = S[q]?
section
variable {S : Sto} {i : Nat} {x : Ng}
theorem Kn.refl {i : Nat} : Kn S S i := ⟨Nat.le_refl _, fun _ _ _ => rfl⟩
theorem Kn.trans {S1 S2 S3 : Sto} {i : Nat} (h : Kn S1 S2 i) (g : Kn S2 S3 i) : Kn S1 S3 i := ⟨Nat.le_trans h.len g.len, fun q hq ha => by rw [g.get q (Nat.lt_of_lt_of_le hq h.len) ha, h.get q hq ha]⟩
theorem Kn.app {i : Nat} (M : Sto) : Kn S (S ++ M) i := ⟨by simp, fun q hq _ => List.getElem?_append_left hq⟩
theorem lt_get {o : OO} {q : Nat} (h : S[q]? = some o) : q < S.length := (List.getElem?_eq_some_iff.mp h).1
theorem NgAt.app (h : NgAt S i x) (M : Sto) : NgAt (S ++ M) i x :=
  ⟨by rw [List.getElem?_append_left (lt_get h.n)]; exact h.n, h.r.app M, by rw [List.getElem?_append_left (lt_get h.l)]; exact h.l, by rw [List.getElem?_append_left (lt_get h.g)]; exact h.g, h.ok⟩
theorem NgAt.of {S' : Sto} (h : NgAt S i x) (e : ∀ q, q ≤ i + 4 → i ≤ q → S'[q]? = S[q]?) : NgAt S' i x :=
  ⟨by rw [e _ (by omega) (by omega)]; exact h.n, ⟨by rw [e _ (by omega) (by omega)]; exact h.r.r, by rw [e _ (by omega) (by omega)]; exact h.r.k, h.r.ok⟩, by rw [e _ (by omega) (by omega)]; exact h.l, by rw [e _ (by omega) (by omega)]; exact h.g, h.ok⟩
theorem Ninit_e {c : List Lev} [hc : OkCh c] {h : Int} (h0 : 0 ≤ h) (h60 : h ≤ 60) (b : Bool) (S : Sto) : sem_Nag_init [.own S.length, .dat b (eCh c), .dat false (.int h)] (S ++ [.ins "Nag" []]) = some (.dat false .none, S ++ [oNag S.length, eR (S.length + 2) (Rd.new c h), oWs [], oLns [], oPs []]) := by
  have hr := Rinit_e (c := c) b h (S ++ [.ins "Nag" []])
  simp at hr
  unfold sem_Nag_init body_Nag_init oNag
  simp [check_hold_e h0 h60, hr]
theorem Nnew_at {c : List Lev} [hc : OkCh c] {h : Int} (h0 : 0 ≤ h) (h60 : h ≤ 60) (S : Sto) : NgAt (S ++ [oNag S.length, eR (S.length + 2) (Rd.new c h), oWs [], oLns [], oPs []]) S.length (Ng.new c h) :=
  ⟨by simp, ⟨by simp [Ng.new], by simp [Ng.new, Rd.new], new_ok h⟩, by simp [Ng.new], by simp [Ng.new], ⟨new_ok h, h0, h60, by show (0 : Int) ≤ 61 + h; omega, rfl, by show (0 : Int) ≤ 3 * 0; omega⟩⟩
theorem check_e (h : NgAt S i x) {p s : Int} (hc : x.r.can p s = true) : sem_Nag_check [.own i, .dat false (.int p), .dat false (.int s)] S = some (.dat false .none, S) := by
  have hn := h.n
  have hr := h.r.r
  obtain ⟨g1, g2, g3, g4⟩ := can_ok hc
  have e1 : decide (s ≤ min x.r.now 40) = true := decide_eq_true (by omega)
  unfold sem_Nag_check body_Nag_check
  simp [hn, hr, g1, g2, e1]
theorem hear_ng (h : NgAt S i x) {l : Ln} (hw : OkWd (ppl x.r.c) (l.wd x.r.now)) (hl : x.r.ws.length < 12) : OkNg (x.hear l) := by
  have k := h.ok
  refine ⟨hear_ok k.rd hw hl, k.h0, k.h60, k.now, ?_, k.gl⟩
  show ((x.ls ++ [l]).length : Int) = x.r.now + ((x.r.ws ++ [l.wd x.r.now]).length : Int)
  have := k.ll
  simp; omega
theorem hear_n (h : NgAt S i x) {l : Ln} {kd : Str} {p s : Int} {rs : List PyData} (e : eLn l = .tuple ([.str kd, .int p, .int s] ++ rs)) (ew : eWd (l.wd x.r.now) = .tuple ([.str kd, .int p, .int s, .int x.r.now] ++ rs)) (hw : OkWd (ppl x.r.c) (l.wd x.r.now)) (h60 : x.r.now ≤ 60) (hl : x.r.ws.length < 12) (hrs : rs.length ≤ 5 := by simp) :
    ∃ S', sem_Nag_hear [.own i, .dat false (.str kd), .dat false (.int p), .dat false (.int s), .dat false (.tuple rs)] S = some (.dat false (.int ((x.r.ws.length : Int) + 1)), S') ∧ NgAt S' i (x.hear l) ∧ Kn S S' i := by
  have hn := h.n; have hr := h.r.r; have hk := h.r.k; have hll := h.l; have hg := h.g
  have he := hear_e h.r ew hw hl hrs
  obtain ⟨a1, a2⟩ := hear_at h.r hw hl
  have ho := has_room_e hr hk
  generalize hS1 : ((S.set (i + 2) (oWs (x.r.hear (l.wd x.r.now)).ws)).set (i + 1) (eR (i + 2) (x.r.hear (l.wd x.r.now)))) = S1 at he a1 a2
  have n1 : S1[i]? = some (oNag i) := by rw [a2.get i (lt_get hn) (by omega) (by omega)]; exact hn
  have l1 : S1[i + 3]? = some (oLns x.ls) := by rw [a2.get _ (lt_get hll) (by omega) (by omega)]; exact hll
  have g1 : S1[i + 4]? = some (oPs x.lg) := by rw [a2.get _ (lt_get hg) (by omega) (by omega)]; exact hg
  have r1 := a1.r; have k1 := a1.k
  have b1 := h.ok.ll
  have b2 := h.ok.now
  have b3 := h.ok.h60
  have b4 : x.ls.length < 100000 := by omega
  have nl : ¬ 60 < x.r.now := by omega
  have i3 := lt_get l1
  have k2 : (S1.set (i + 3) (oLns (x.ls ++ [l])))[i + 2]? = some (oWs (x.r.hear (l.wd x.r.now)).ws) := by rw [List.getElem?_set_ne (by omega)]; exact k1
  refine ⟨S1.set (i + 3) (oLns (x.ls ++ [l])), ?_, ⟨?_, ⟨?_, k2, a1.ok⟩, ?_, ?_, hear_ng h hw hl⟩, ⟨by simpa using a2.len, fun q hq hd => ?_⟩⟩
  · have k3 := oLen_own (S := S1.set (i + 3) (oLns (x.ls ++ [l]))) k2
    have e9 : oLns (x.ls ++ [l]) = .lst ((x.ls.map fun l => .dat false (eLn l)) ++ [.dat false (.tuple (.str kd :: .int p :: .int s :: rs))]) := by simp [oLns, e]
    have hr3 : 3 + rs.length ≤ 100000 := by omega
    rw [e9] at k3 ⊢
    simp [Rd.hear] at k3
    unfold sem_Nag_hear body_Nag_hear
    simp [hn, hr, nl, ho, hl, he, n1, l1, b4, r1, k3, hr3, List.getElem?_set_ne]
  · rw [List.getElem?_set_ne (by omega)]; exact n1
  · rw [List.getElem?_set_ne (by omega)]; exact r1
  · rw [List.getElem?_set_self i3]; rfl
  · rw [List.getElem?_set_ne (by omega)]; exact g1
  · rw [List.getElem?_set_ne (by omega), a2.get q hq (by omega) (by omega)]
theorem take_n (h : NgAt S i x) {p s : Int} (hc : x.r.can p s = true) (h60 : x.r.now ≤ 60) (hl : x.r.ws.length < 12) :
    ∃ S', sem_Nag_take [.own i, .dat false (.int p), .dat false (.int s)] S = some (.dat false (.int ((x.r.ws.length : Int) + 1)), S') ∧ NgAt S' i (x.hear (.take p s)) ∧ Kn S S' i := by
  have hw := (line_wd (x := x.r) (l := .take p s) (fun _ e => by cases e) (by simp [Ln.pq, Ln.bad, hc, hl]; omega)).1
  obtain ⟨S', e1, e2, e3⟩ := hear_n h (l := .take p s) (kd := "take") (rs := []) rfl rfl hw h60 hl
  refine ⟨S', ?_, e2, e3⟩
  unfold sem_Nag_take body_Nag_take
  simp [h.n, check_e h hc, e1]
theorem done_n (h : NgAt S i x) {p s : Int} (hc : x.r.can p s = true) (h60 : x.r.now ≤ 60) (hl : x.r.ws.length < 12) :
    ∃ S', sem_Nag_finish [.own i, .dat false (.int p), .dat false (.int s)] S = some (.dat false (.int ((x.r.ws.length : Int) + 1)), S') ∧ NgAt S' i (x.hear (.done p s)) ∧ Kn S S' i := by
  have hw := (line_wd (x := x.r) (l := .done p s) (fun _ e => by cases e) (by simp [Ln.pq, Ln.bad, hc, hl]; omega)).1
  obtain ⟨S', e1, e2, e3⟩ := hear_n h (l := .done p s) (kd := "done") (rs := []) rfl rfl hw h60 hl
  refine ⟨S', ?_, e2, e3⟩
  unfold sem_Nag_finish body_Nag_finish
  simp [h.n, check_e h hc, e1]
theorem off_n (h : NgAt S i x) {p s t : Int} (hc : x.r.can p s = true) (t1 : 1 ≤ t) (t20 : t ≤ 20) (h60 : x.r.now ≤ 60) (hl : x.r.ws.length < 12) :
    ∃ S', sem_Nag_put_off [.own i, .dat false (.int p), .dat false (.int s), .dat false (.int t)] S = some (.dat false (.int ((x.r.ws.length : Int) + 1)), S') ∧ NgAt S' i (x.hear (.off p s t)) ∧ Kn S S' i := by
  have hw := (line_wd (x := x.r) (l := .off p s t) (fun _ e => by cases e) (by simp [Ln.pq, Ln.bad, hc, hl, t1, t20]; omega)).1
  obtain ⟨S', e1, e2, e3⟩ := hear_n h (l := .off p s t) (kd := "off") (rs := [.int t]) rfl rfl hw h60 hl
  refine ⟨S', ?_, e2, e3⟩
  unfold sem_Nag_put_off body_Nag_put_off
  simp [h.n, check_e h hc, e1, t1, t20]
theorem at_n (h : NgAt S i x) : sem_Nag_at [.own i] S = some (.dat false (.int x.r.now), S) := by
  unfold sem_Nag_at body_Nag_at
  simp [h.n, h.r.r]
theorem words_n (h : NgAt S i x) : sem_Nag_words [.own i] S = some (.own S.length, S ++ [oWs x.r.ws]) := by
  have hk := h.r.k
  unfold sem_Nag_words body_Nag_words
  have : oList [.own (i + 2)] S = some (x.r.ws.map fun w => .dat false (eWd w)) := by
    show seqItems S (.own (i + 2)) = _
    rw [seqItems_o, hk]; rfl
  simp [h.n, h.r.r, this]
theorem sent_n (h : NgAt S i x) : sem_Nag_sent [.own i] S = some (.own S.length, S ++ [oPs x.lg]) := by
  have hk := h.g
  unfold sem_Nag_sent body_Nag_sent
  have : oList [.own (i + 4)] S = some (x.lg.map fun w => .dat false (ePr w)) := by
    show seqItems S (.own (i + 4)) = _
    rw [seqItems_o, hk]; rfl
  simp [h.n, this]
end
end Nc
set_option Elab.async false
set_option linter.all false
set_option maxRecDepth 100000
set_option maxHeartbeats 1000000
namespace Nc
open PySem PySem.Spec PyProof.Rows L2
local macro_rules | `(tactic| walk_at "nc") => `(tactic| repeat (first | simp [atI, ixN, zipI, cutG, HT.sIx, Function.comp_def] | simp (disch := first | assumption | omega) only [oIntC_p, le_T, le_F, lt_T, lt_F, bq_F, in_T, in_F] | rw [if_pos (by omega)] | rw [if_neg (by omega)] | omega))
theorem compL_evg {gd : Sto → Prop} {bb : BN} {ft : SC} {fe : SE} {r : Env} {S : Sto} {α : Type} (en : α → OV) (p : α → Bool) (f : α → OV) (hg : gd S) : ∀ (xs : List α)
    (h : ∀ x ∈ xs, ∃ r1, bb S (en x) r = some r1 ∧ ft r1 S = some (p x, S) ∧ (p x = true → fe r1 S = some (f x, S))),
    compL gd bb ft fe (xs.map en) r S = some ((xs.filter p).map f, S)
  | [], _ => by rw [List.map_nil, compL, chk_pos hg]; rfl
  | x :: xs, h => by
    obtain ⟨r1, h1, h2, h3⟩ := h x List.mem_cons_self
    have ih := compL_evg (gd := gd) en p f hg xs fun y hy => h y (List.mem_cons_of_mem _ hy)
    rw [List.map_cons, compL, chk_pos hg, h1]
    cases e : p x with
    | true =>
      simp only [h2, e, bnd_mk, h3 e, ih, if_true, List.filter_cons, List.map_cons]
    | false =>
      simp only [h2, e, bnd_mk, ih, List.filter_cons]
      simp
theorem compL_yg {gd : Sto → Prop} {bb : BN} {fe : SE} {r : Env} {S : Sto} {α : Type} (en : α → OV) (f : α → OV) (hg : gd S) (xs : List α)
    (h : ∀ x ∈ xs, ∃ r1, bb S (en x) r = some r1 ∧ fe r1 S = some (f x, S)) :
    compL gd bb xYes fe (xs.map en) r S = some (xs.map f, S) := by
  rw [compL_evg en (fun _ => true) f hg xs fun x hx => by
    obtain ⟨r1, h1, h2⟩ := h x hx
    exact ⟨r1, h1, rfl, fun _ => h2⟩]
  rw [List.filter_eq_self.mpr (by simp)]
section
variable {S : Sto} {i : Nat} {x : Ng}
theorem oList_at {S : Sto} {j : Nat} {vs : List OV} (h : S[j]? = some (.lst vs)) : oList [.own j] S = some vs := by
  show seqItems S (.own j) = _
  rw [seqItems_o, h]; rfl
theorem pass_ng (h : NgAt S i x) (ho : x.r.now ≤ 60 + x.r.h) : OkNg x.pass := by
  have k := h.ok
  have t := k.rd.toll
  refine ⟨pass_ok k.rd, k.h0, k.h60, ?_, ?_, ?_⟩
  · show x.r.now + 1 ≤ 61 + x.r.h
    omega
  · show ((x.ls ++ [Ln.tick x.r.toll]).length : Int) = x.r.now + 1 + (x.r.ws.length : Int)
    have := k.ll
    simp; omega
  · show ((x.lg ++ x.r.toll.map fun p => (x.r.now - x.r.h, p)).length : Int) ≤ 3 * (x.r.now + 1)
    have := k.gl
    simp; omega
theorem pass_n (h : NgAt S i x) (ho : x.r.now ≤ 60 + x.r.h) :
    ∃ S', sem_Nag_pass_tick [.own i] S = some (.own S.length, S') ∧ NgAt S' i x.pass ∧ S'[S.length]? = some (oIs x.r.toll) ∧ Kn S S' i ∧ S.length < S'.length := by
  have hn := h.n; have hr := h.r.r; have hk := h.r.k; have hll := h.l; have hg := h.g
  have ko := h.ok
  have t3 := ko.rd.toll
  have hov := is_over_e hr
  have no : ¬ 60 + x.r.h < x.r.now := by omega
  have hp := pass_one_e hr ko.rd.len ho
  obtain ⟨a1, a2⟩ := pass_at h.r [oIs x.r.toll]
  generalize hS1 : (S.set (i + 1) (eR (i + 2) x.r.pass) ++ [oIs x.r.toll]) = S1 at hp a1 a2
  have q1 : S1[S.length]? = some (oIs x.r.toll) := by rw [← hS1]; simp
  have len1 : S1.length = S.length + 1 := by rw [← hS1]; simp
  have n1 : S1[i]? = some (oNag i) := by rw [a2.get i (lt_get hn) (by omega) (by omega)]; exact hn
  have l1 : S1[i + 3]? = some (oLns x.ls) := by rw [a2.get _ (lt_get hll) (by omega) (by omega)]; exact hll
  have g1 : S1[i + 4]? = some (oPs x.lg) := by rw [a2.get _ (lt_get hg) (by omega) (by omega)]; exact hg
  have r1 := a1.r; have k1 := a1.k
  have b1 := ko.ll; have b2 := ko.now; have b3 := ko.h60; have b0 := ko.rd.now; have b5 := ko.gl; have b6 := ko.rd.ws.len
  have b4 : x.ls.length < 100000 := by omega
  have b7 : x.lg.length + x.r.toll.length ≤ 100000 := by omega
  have b8 : x.r.toll.length ≤ 100000 := by omega
  have il := lt_get hll
  have ig := lt_get hg
  have i3 := lt_get l1
  have o1 := oList_at q1
  generalize hS2 : S1.set (i + 3) (.lst ((x.ls.map fun l => .dat false (eLn l)) ++ [.dat false (eLn (.tick x.r.toll))])) = S2
  have len2 : S2.length = S.length + 1 := by rw [← hS2]; simpa using len1
  have q2 : S2[S.length]? = some (oIs x.r.toll) := by rw [← hS2, List.getElem?_set_ne (by omega)]; exact q1
  have n2 : S2[i]? = some (oNag i) := by rw [← hS2, List.getElem?_set_ne (by omega)]; exact n1
  have g2 : S2[i + 4]? = some (oPs x.lg) := by rw [← hS2, List.getElem?_set_ne (by omega)]; exact g1
  have r2 : S2[i + 1]? = some (eR (i + 2) x.r.pass) := by rw [← hS2, List.getElem?_set_ne (by omega)]; exact r1
  have k2 : S2[i + 2]? = some (oWs x.r.pass.ws) := by rw [← hS2, List.getElem?_set_ne (by omega)]; exact k1
  have l2 : S2[i + 3]? = some (oLns x.pass.ls) := by
    rw [← hS2, List.getElem?_set_self i3]
    simp [oLns, Ng.pass]
  have i4 := lt_get g2
  have o2 : seqItems S2 (.own S.length) = some (x.r.toll.map fun w => .dat false (.int w)) := by rw [seqItems_o, q2]; rfl
  refine ⟨S2.set (i + 4) (oPs x.pass.lg), ?_, ⟨?_, ⟨?_, ?_, a1.ok⟩, ?_, ?_, pass_ng h ho⟩, ?_, ⟨by simp; omega, fun q hq hd => ?_⟩, by simp; omega⟩
  · unfold sem_Nag_pass_tick body_Nag_pass_tick
    rw [callS_e, if_pos (by rfl), sSeq_e, kSeq_to [some (.own i), none, none, none] S]
    rotate_left
    · simp [hn, hr, hov, no]
    rw [sSeq_e, kSeq_to [some (.own i), some (.dat false (.int (x.r.now - x.r.h))), none, none] S]
    rotate_left
    · simp [hn, hr]
    rw [sSeq_e, kSeq_to [some (.own i), some (.dat false (.int (x.r.now - x.r.h))), some (.own S.length), none] S1]
    rotate_left
    · simp [hn, hr, hp]
    rw [sSeq_e, kSeq_to [some (.own i), some (.dat false (.int (x.r.now - x.r.h))), some (.own S.length), none] S2]
    rotate_left
    · simp [n1, o1, l1, b4]
      exact hS2
    rw [sSeq_e, kSeq_to [some (.own i), some (.dat false (.int (x.r.now - x.r.h))), some (.own S.length), none] (S2.set (i + 4) (oPs x.pass.lg))]
    rotate_left
    · have e9 : oPs x.pass.lg = .lst ((x.lg.map fun p => .dat false (ePr p)) ++ (x.r.toll.map fun p => .dat false (ePr (x.r.now - x.r.h, p)))) := by simp [oPs, Ng.pass, Function.comp_def]
      rw [e9]
      simp [n2, o2, g2, b8, Function.comp_def]
      rw [compL_yg (fun p => .dat false (.int p)) (fun p => .dat false (ePr (x.r.now - x.r.h, p))) (by simpa [Function.comp_def] using q2) x.r.toll (fun p _ => ⟨_, rfl, by simp [ePr]⟩)]
      simp [g2, b7, Function.comp_def]
    simp
  · rw [List.getElem?_set_ne (by omega)]; exact n2
  · rw [List.getElem?_set_ne (by omega)]; exact r2
  · rw [List.getElem?_set_ne (by omega)]; exact k2
  · rw [List.getElem?_set_ne (by omega)]; exact l2
  · rw [List.getElem?_set_self i4]
  · rw [List.getElem?_set_ne (by omega)]; exact q2
  · rw [List.getElem?_set_ne (by omega), ← hS2, List.getElem?_set_ne (by omega), a2.get q hq (by omega) (by omega)]
theorem tale_n (h : NgAt S i x) : sem_Nag_tale [.own i] S = some (.own S.length, S ++ [oLns x.ls]) := by
  have hk := h.l
  have ko := h.ok
  have b1 := ko.ll; have b2 := ko.now; have b3 := ko.h60; have b6 := ko.rd.ws.len
  have b4 : x.ls.length ≤ 100000 := by omega
  have o2 : seqItems S (.own (i + 3)) = some (x.ls.map fun w => .dat false (eLn w)) := by rw [seqItems_o, hk]; rfl
  unfold sem_Nag_tale body_Nag_tale
  simp [h.n, o2, b4]
  rw [compL_yg (fun l => .dat false (eLn l)) (fun l => .dat false (eLn l)) (by simpa using hk) x.ls (fun l _ => ⟨_, rfl, by
    cases l <;> simp [eLn, atI1, Function.comp_def]⟩)]
  simp
end
end Nc
set_option Elab.async false
set_option linter.all false
set_option maxRecDepth 100000
set_option maxHeartbeats 1000000
namespace Nc
open PySem PySem.Spec PyProof.Rows L2
local macro_rules | `(tactic| walk_at "nc") => `(tactic| repeat (first | simp [atI, ixN, zipI, cutG, HT.sIx, Function.comp_def] | simp (disch := first | assumption | omega) only [oIntC_p, le_T, le_F, lt_T, lt_F, bq_F, in_T, in_F] | rw [if_pos (by omega)] | rw [if_neg (by omega)] | omega))
/-! ### rows hold people of the chain -/
theorem levAt_ppl : ∀ (c : List Lev) (t : Int), ∀ p ∈ (levAt c t).1, p ∈ ppl c
  | [], t, p, hp => by simp [levAt] at hp
  | l :: c, t, p, hp => by
    unfold levAt at hp
    unfold ppl
    rw [List.flatMap_cons, List.mem_append]
    split at hp
    · exact .inl hp
    · exact .inr (levAt_ppl c _ p hp)
theorem dueM_ppl {c : List Lev} {m : Mt} {t : Int} (hm : ∀ p, m.taker = some p → p ∈ ppl c) : ∀ p ∈ dueM c m t, p ∈ ppl c := by
  intro p hp
  unfold dueM at hp
  split at hp
  · simp at hp
  · cases e : m.taker with
    | some q =>
      rw [e] at hp
      simp only at hp
      split at hp
      · simp at hp; subst hp; exact hm _ e
      · simp at hp
    | none =>
      rw [e] at hp
      simp only at hp
      split at hp
      · exact levAt_ppl c _ p hp
      · simp at hp
theorem foldM_ppl {c : List Lev} {ws : List Wd} [hw : OkWs (ppl c) ws] (xs : List Nat) (s : Mt × List (List Int)) (h0 : ∀ p, s.1.taker = some p → p ∈ ppl c) (hs : ∀ r ∈ s.2, ∀ p ∈ r, p ∈ ppl c) : ∀ r ∈ (xs.foldl (stepM c ws) s).2, ∀ p ∈ r, p ∈ ppl c := by
  induction xs generalizing s with
  | nil => exact hs
  | cons x xs ih =>
    rw [List.foldl_cons]
    have ht := tell_taker (ws := ws) (t := (x : Int)) h0
    refine ih _ (fun p hp => ht p (by unfold stepM at hp; exact hp)) fun r hr => ?_
    unfold stepM at hr
    rcases List.mem_append.mp hr with hr | hr
    · exact hs r hr
    · simp only [List.mem_singleton] at hr
      subst hr
      exact dueM_ppl ht
theorem dueBy_ppl {c : List Lev} {ws : List Wd} [hw : OkWs (ppl c) ws] : ∀ r ∈ dueBy c ws, ∀ p ∈ r, p ∈ ppl c := foldM_ppl (List.range 61) (⟨0, 0, none, 0, false⟩, []) (fun _ h => by cases h) (by simp)
theorem toll_ppl {x : Rd} (h : OkRd x) : ∀ p ∈ x.toll, p ∈ ppl x.c := by
  haveI := h.ws
  unfold Rd.toll
  intro p hp
  split at hp
  · rw [List.getD_eq_getElem?_getD] at hp
    cases e : x.row[(x.now - x.h).toNat]? with
    | none => rw [e] at hp; simp at hp
    | some r =>
      rw [e] at hp
      have : r ∈ dueBy x.c x.ws := by rw [← h.row]; exact List.mem_of_getElem? e
      exact dueBy_ppl r this p hp
  · simp at hp
theorem toll_rg {x : Rd} (h : OkRd x) : ∀ p ∈ x.toll, 0 ≤ p ∧ p ≤ 7 := fun p hp => by
  haveI := h.c
  exact ppl_rg (toll_ppl h p hp)
end Nc
set_option Elab.async false
set_option linter.all false
set_option maxRecDepth 100000
set_option maxHeartbeats 1000000
namespace Nc
open PySem PySem.Spec PyProof.Rows L2
local macro_rules | `(tactic| walk_at "nc") => `(tactic| repeat (first | simp [atI, ixN, zipI, cutG, HT.sIx, Function.comp_def] | simp (disch := first | assumption | omega) only [oIntC_p, le_T, le_F, lt_T, lt_F, bq_F, in_T, in_F] | rw [if_pos (by omega)] | rw [if_neg (by omega)] | omega))
/-! ### what is sent and enough, worked out by the few tables that there are -/
def fS (f : Int → List (List Int)) (h : Int) : List (List Int) := (List.range 61).map fun (t : Nat) => ((f ((t : Int) + h))[t]?).getD []
theorem sentBy_f {c : List Lev} {ws : List Wd} {f : Int → List (List Int)} (hf : ∀ t : Int, dueBy c (heard ws t) = f t) (h : Int) : sentBy c ws h = fS f h := by
  unfold sentBy fS
  apply List.map_congr_left
  intro t _
  rw [hf]
def fDown (f : Int → List (List Int)) (T : List (List Int)) : Nat → Nat
  | 0 => 0
  | n + 1 => if fS f (n : Int) = T then fDown f T n else n + 1
theorem down_f {c : List Lev} {ws : List Wd} {f : Int → List (List Int)} {T : List (List Int)} (hf : ∀ t : Int, dueBy c (heard ws t) = f t) (hT : dueBy c ws = T) : ∀ n : Nat, down c ws n = fDown f T n
  | 0 => rfl
  | n + 1 => by rw [down_s, down_f hf hT n, sentBy_f hf, hT]; rfl
def fOut (f : Int → List (List Int)) (T : List (List Int)) (h : Int) : Option Int × Option Int := if h = 0 then (none, none) else match minus (prs (fS f (h - 1))) (prs T) ++ minus (prs T) (prs (fS f (h - 1))) with
  | q :: _ => (some q.1, some q.2)
  | [] => (none, none)
theorem enough_f {c : List Lev} {ws : List Wd} {f : Int → List (List Int)} {T : List (List Int)} (hf : ∀ t : Int, dueBy c (heard ws t) = f t) (hT : dueBy c ws = T) {h : Nat} {r : Option Int × Option Int} (h1 : fDown f T (lateOf ws).toNat = h) (h2 : fOut f T (h : Int) = r) : leastH c ws = (h : Int) ∧ enoughO c ws = r := by
  have e : leastH c ws = (h : Int) := by unfold leastH; rw [down_f hf hT, h1]
  refine ⟨e, ?_⟩
  rw [← h2]
  unfold enoughO fOut
  rw [e]
  unfold needless lacking sentPs duePs
  rw [sentBy_f hf, hT]
  try rfl
end Nc
set_option Elab.async false
set_option linter.all false
set_option maxRecDepth 100000
set_option maxHeartbeats 1000000
namespace Nc
open PySem PySem.Spec PyProof.Rows L2
local macro_rules | `(tactic| walk_at "nc") => `(tactic| repeat (first | simp [atI, ixN, zipI, cutG, HT.sIx, Function.comp_def] | simp (disch := first | assumption | omega) only [oIntC_p, le_T, le_F, lt_T, lt_F, bq_F, in_T, in_F] | rw [if_pos (by omega)] | rw [if_neg (by omega)] | omega))
/-! ### a word more -/
def st (c : List Lev) (ws : List Wd) (n : Nat) : Mt × List (List Int) := (List.range n).foldl (stepM c ws) (⟨0, 0, none, 0, false⟩, [])
theorem st_0 (c : List Lev) (ws : List Wd) : st c ws 0 = (⟨0, 0, none, 0, false⟩, []) := rfl
theorem st_s (c : List Lev) (ws : List Wd) (n : Nat) : st c ws (n + 1) = stepM c ws (st c ws n) n := by
  unfold st
  rw [List.range_succ, List.foldl_append]
  rfl
theorem dueBy_st (c : List Lev) (ws : List Wd) : dueBy c ws = (st c ws 61).2 := rfl
theorem st_len (c : List Lev) (ws : List Wd) : ∀ n, (st c ws n).2.length = n
  | 0 => rfl
  | n + 1 => by
    rw [st_s]
    unfold stepM
    simp only [List.length_append, List.length_cons, List.length_nil, st_len c ws n]
theorem step_m (c : List Lev) (ws : List Wd) (s : Mt × List (List Int)) (i : Nat) : (stepM c ws s i).1 = { tell c ws (i : Int) s.1 with clock := (tell c ws (i : Int) s.1).clock + (if (tell c ws (i : Int) s.1).quiet ≤ (i : Int) then 1 else 0) } := rfl
theorem step_r (c : List Lev) (ws : List Wd) (s : Mt × List (List Int)) (i : Nat) : (stepM c ws s i).2 = s.2 ++ [dueM c (tell c ws (i : Int) s.1) (i : Int)] := rfl
theorem st_inv {c : List Lev} {ws us : List Wd} (P : Nat → Mt → Prop) (h0 : P 0 ⟨0, 0, none, 0, false⟩) (hs : ∀ i m, P i m → tell c us (i : Int) m = tell c ws (i : Int) m) (hp : ∀ i m rs, P i m → P (i + 1) (stepM c ws (m, rs) i).1) : ∀ n, st c us n = st c ws n ∧ P n (st c ws n).1
  | 0 => ⟨rfl, h0⟩
  | n + 1 => by
    obtain ⟨h1, h2⟩ := st_inv P h0 hs hp n
    have e := hs n _ h2
    refine ⟨?_, ?_⟩
    · rw [st_s, st_s, h1]
      unfold stepM
      rw [e]
    · rw [st_s]
      exact hp n (st c ws n).1 (st c ws n).2 h2
theorem dueBy_inv {c : List Lev} {ws us : List Wd} (P : Nat → Mt → Prop) (h0 : P 0 ⟨0, 0, none, 0, false⟩) (hs : ∀ i m, P i m → tell c us (i : Int) m = tell c ws (i : Int) m) (hp : ∀ i m rs, P i m → P (i + 1) (stepM c ws (m, rs) i).1) : dueBy c us = dueBy c ws := by
  rw [dueBy_st, dueBy_st, (st_inv P h0 hs hp 61).1]
theorem tkn_app (ws us : List Wd) (t : Int) : tkn (ws ++ us) t = tkn ws t ++ tkn us t := by
  unfold tkn
  rw [List.filter_append, List.map_append]
theorem hush_app (ws us : List Wd) (t : Int) (ps : List Int) (q : Int) : hush (ws ++ us) t ps q = hush us t ps (hush ws t ps q) := by
  unfold hush
  rw [List.foldl_append]
theorem hush_ge (t : Int) (ps : List Int) : ∀ (ws : List Wd) (q : Int), q ≤ hush ws t ps q ∧ ∀ w ∈ ws, (w.of && (w.s == t) && decide (w.p ∈ ps)) = true → t + w.t ≤ hush ws t ps q
  | [], q => ⟨Int.le_refl _, fun w h => by simp at h⟩
  | v :: ws, q => by
    have e : hush (v :: ws) t ps q = hush ws t ps (if (v.of && (v.s == t) && decide (v.p ∈ ps)) = true then max q (t + v.t) else q) := rfl
    rw [e]
    obtain ⟨h1, h2⟩ := hush_ge t ps ws (if (v.of && (v.s == t) && decide (v.p ∈ ps)) = true then max q (t + v.t) else q)
    refine ⟨?_, fun w hw hc => ?_⟩
    · exact Int.le_trans (by split <;> omega) h1
    · rcases List.mem_cons.mp hw with rfl | hw
      · rw [if_pos hc] at h1 ⊢
        omega
      · exact h2 w hw hc
theorem sort_nil {a : List Int} : sortI a = [] ↔ a = [] := by
  constructor
  · intro h
    have := (sortI_perm a).length_eq
    rw [h] at this
    exact List.length_eq_zero_iff.mp this.symm
  · rintro rfl; rfl
theorem tell1_head {ws us : List Wd} {t : Int} (h : (sortI (tkn us t)).head? = (sortI (tkn ws t)).head?) (m : Mt) : tell1 us t m = tell1 ws t m := by
  unfold tell1
  cases e1 : sortI (tkn us t) <;> cases e2 : sortI (tkn ws t) <;> rw [e1, e2] at h <;> simp at h
  subst h
  rcases m.taker with _ | p <;> rfl
theorem head_dup {a : List Int} {x : Int} (h : x ∈ a) : (sortI (a ++ [x])).head? = (sortI a).head? := by
  cases e1 : sortI a with
  | nil => rw [sort_nil.mp e1] at h; simp at h
  | cons p r =>
    cases e2 : sortI (a ++ [x]) with
    | nil => have := sort_nil.mp e2; simp at this
    | cons q s =>
      have s1 := sortI_sorted a
      have s2 := sortI_sorted (a ++ [x])
      have p1 : p ∈ a := sortI_mem.mp (by rw [e1]; exact List.mem_cons_self)
      have q1 : q ∈ a ++ [x] := sortI_mem.mp (by rw [e2]; exact List.mem_cons_self)
      have l1 : ∀ y ∈ a, p ≤ y := fun y hy => by
        have := sortI_mem.mpr hy
        rw [e1] at this s1
        rcases List.mem_cons.mp this with rfl | h
        · exact Int.le_refl _
        · exact (List.pairwise_cons.mp s1).1 y h
      have l2 : ∀ y ∈ a ++ [x], q ≤ y := fun y hy => by
        have := sortI_mem.mpr hy
        rw [e2] at this s2
        rcases List.mem_cons.mp this with rfl | h
        · exact Int.le_refl _
        · exact (List.pairwise_cons.mp s2).1 y h
      have q2 : q ∈ a := by
        rcases List.mem_append.mp q1 with h1 | h1
        · exact h1
        · rw [List.mem_singleton] at h1; rw [h1]; exact h
      have h1 := l1 q q2
      have h2 := l2 p (List.mem_append_left _ p1)
      simp only [List.head?_cons, Option.some.injEq]
      omega
/-- the parts that a word more touches -/
theorem tell_more {c : List Lev} {ws : List Wd} {w : Wd} {t : Int} {m : Mt} (h1 : tell1 (ws ++ [w]) t m = tell1 ws t m) (h2 : (w.dn && (w.s == t)) = true → (ws.filter fun w => w.dn && (w.s == t)).isEmpty = false)
    (h3 : (w.of && (w.s == t) && decide (w.p ∈ may c (tell2 ws t (tell1 ws t m)))) = true → t + w.t ≤ hush ws t (may c (tell2 ws t (tell1 ws t m))) (tell2 ws t (tell1 ws t m)).quiet) : tell c (ws ++ [w]) t m = tell c ws t m := by
  have e2 : ∀ m, tell2 (ws ++ [w]) t m = tell2 ws t m := fun m => by
    unfold tell2
    rw [List.filter_append]
    by_cases hd : (w.dn && (w.s == t)) = true
    · have := h2 hd
      cases e : (ws.filter fun w => w.dn && (w.s == t)) with
      | nil => rw [e] at this; simp at this
      | cons a b => rfl
    · rw [List.filter_cons, if_neg hd]
      simp
  unfold tell
  simp only
  rw [h1, e2, hush_app]
  congr 1
  show (if (w.of && (w.s == t) && decide (w.p ∈ may c (tell2 ws t (tell1 ws t m)))) = true then max _ (t + w.t) else _) = _
  split
  · rename_i hc
    have := h3 hc
    omega
  · rfl
/-- a word twice -/
theorem due_twice {c : List Lev} {ws : List Wd} {w : Wd} (h : w ∈ ws) : dueBy c (ws ++ [w]) = dueBy c ws := by
  refine dueBy_inv (fun _ _ => True) trivial (fun i m _ => tell_more ?_ (fun hd => ?_) (fun hc => (hush_ge _ _ ws _).2 w h hc)) (fun _ _ _ _ => trivial)
  · refine tell1_head ?_ m
    rw [tkn_app]
    by_cases ht : (w.tk && (w.s == (i : Int))) = true
    · have e : tkn [w] (i : Int) = [w.p] := by
        unfold tkn
        rw [List.filter_cons, if_pos ht]
        rfl
      rw [e]
      refine head_dup ?_
      unfold tkn
      exact List.mem_map.mpr ⟨w, List.mem_filter.mpr ⟨h, ht⟩, rfl⟩
    · have e : tkn [w] (i : Int) = [] := by
        unfold tkn
        rw [List.filter_cons, if_neg ht]
        rfl
      rw [e, List.append_nil]
  · cases e : (ws.filter fun w => w.dn && (w.s == (i : Int))) with
    | nil =>
      have : w ∈ ws.filter fun w => w.dn && (w.s == (i : Int)) := List.mem_filter.mpr ⟨h, hd⟩
      rw [e] at this
      simp at this
    | cons a b => rfl
/-! ### who has it -/
theorem tell_tk (c : List Lev) (ws : List Wd) (t : Int) (m : Mt) : (tell c ws t m).taker = (tell1 ws t m).taker := by
  unfold tell tell2
  simp only
  split <;> rfl
theorem tell2_tk (ws : List Wd) (t : Int) (m : Mt) : (tell2 ws t m).taker = m.taker := by
  unfold tell2
  split <;> rfl
theorem tell1_some {ws : List Wd} {t : Int} {m : Mt} {p : Int} (h : m.taker = some p) : tell1 ws t m = m := by
  unfold tell1
  rw [h]
theorem tell1_none {ws : List Wd} {t : Int} {m : Mt} (h : m.taker = none) : (tell1 ws t m).taker = (sortI (tkn ws t)).head? := by
  unfold tell1
  rw [h]
  cases sortI (tkn ws t) <;> simp [h]
theorem tell_same_tk {c : List Lev} {ws : List Wd} {w : Wd} {t : Int} {m : Mt} (h : w.tk = true) (h1 : w.s ≠ t ∨ m.taker ≠ none) : tell c (ws ++ [w]) t m = tell c ws t m := by
  refine tell_more ?_ (fun hd => ?_) (fun hc => ?_)
  · rcases h1 with h1 | h1
    · refine tell1_head ?_ m
      rw [tkn_app]
      have e : tkn [w] t = [] := by
        unfold tkn
        rw [List.filter_cons, if_neg (by simp [h1])]
        rfl
      rw [e, List.append_nil]
    · cases e : m.taker with
      | none => exact absurd e h1
      | some p => rw [tell1_some e, tell1_some e]
  · cases w <;> simp [Wd.tk, Wd.dn] at h hd
  · cases w <;> simp [Wd.tk, Wd.of] at h hc
/-- a taking later than one that there is -/
theorem due_later {c : List Lev} {ws : List Wd} {w v : Wd} (hv : v ∈ ws) (tv : v.tk = true) (v0 : 0 ≤ v.s) (tw : w.tk = true) (hl : v.s < w.s) : dueBy c (ws ++ [w]) = dueBy c ws := by
  refine dueBy_inv (fun i m => v.s < (i : Int) → m.taker ≠ none) (fun h => by omega) (fun i m hm => tell_same_tk tw ?_) (fun i m rs hm hi => ?_)
  · by_cases e : w.s = (i : Int)
    · exact .inr (hm (by omega))
    · exact .inl e
  · rw [step_m]
    show (tell c ws (i : Int) m).taker ≠ none
    rw [tell_tk]
    cases e : m.taker with
    | some p => rw [tell1_some e, e]; simp
    | none =>
      rw [tell1_none e]
      have hi2 : ¬ v.s < (i : Int) := fun h => hm h e
      have es : v.s = (i : Int) := by omega
      intro hn
      have : v.p ∈ tkn ws (i : Int) := List.mem_map.mpr ⟨v, List.mem_filter.mpr ⟨hv, by simp [tv, es]⟩, rfl⟩
      have := sortI_mem.mpr this
      cases e3 : sortI (tkn ws (i : Int)) with
      | nil => rw [e3] at this; simp at this
      | cons a b => rw [e3] at hn; simp at hn
/-- a putting-off by one who can't -/
theorem due_cant {c : List Lev} {ws : List Wd} {w : Wd} {e T : Int} (he : 0 ≤ e) (h1 : ∀ v ∈ ws, v.tk = true → e ≤ v.s) (hT : (sortI (tkn ws e)).head? = some T) (wo : w.of = true) (ws1 : e ≤ w.s) (wp : w.p ≠ T) : dueBy c (ws ++ [w]) = dueBy c ws := by
  have hno : ∀ t : Int, t < e → tkn ws t = [] := fun t ht => by
    unfold tkn
    rw [List.map_eq_nil_iff, List.filter_eq_nil_iff]
    intro v hv
    by_cases hk : v.tk = true
    · have := h1 v hv hk
      simp [show v.s ≠ t by omega]
    · simp [hk]
  have tk0 : w.tk = false := by cases w <;> simp [Wd.tk, Wd.of] at wo ⊢
  have dn0 : w.dn = false := by cases w <;> simp [Wd.dn, Wd.of] at wo ⊢
  have key : ∀ (i : Nat) (m : Mt), (if (i : Int) ≤ e then m.taker = none else m.taker = some T) → (tell1 ws (i : Int) m).taker = if (i : Int) < e then none else some T := fun i m hm => by
    by_cases c1 : (i : Int) < e
    · rw [if_pos c1]
      rw [if_pos (by omega)] at hm
      rw [tell1_none hm, hno _ c1]
      rfl
    · rw [if_neg c1]
      by_cases c2 : (i : Int) = e
      · rw [if_pos (by omega)] at hm
        rw [tell1_none hm, c2, hT]
      · rw [if_neg (by omega)] at hm
        rw [tell1_some hm, hm]
  refine dueBy_inv (fun i m => if (i : Int) ≤ e then m.taker = none else m.taker = some T) (by rw [if_pos (by omega)]) (fun i m hm => tell_more ?_ (fun hd => ?_) (fun hc => ?_)) (fun i m rs hm => ?_)
  · refine tell1_head ?_ m
    rw [tkn_app]
    have e : tkn [w] (i : Int) = [] := by
      unfold tkn
      rw [List.filter_cons, if_neg (by simp [tk0])]
      rfl
    rw [e, List.append_nil]
  · rw [dn0] at hd; simp at hd
  · simp only [Bool.and_eq_true, beq_iff_eq, decide_eq_true_eq] at hc
    obtain ⟨⟨_, hs⟩, hp⟩ := hc
    have := key i m hm
    rw [if_neg (by omega)] at this
    unfold may at hp
    rw [tell2_tk, this] at hp
    simp at hp
    exact absurd hp wp
  · rw [step_m]
    have := key i m hm
    show if ((i + 1 : Nat) : Int) ≤ e then (tell c ws (i : Int) m).taker = none else (tell c ws (i : Int) m).taker = some T
    rw [tell_tk, this]
    by_cases c1 : (i : Int) < e
    · rw [if_pos (by omega), if_pos c1]
    · rw [if_neg (by omega), if_neg c1]
end Nc
set_option Elab.async false
set_option linter.all false
set_option maxRecDepth 100000
set_option maxHeartbeats 1000000
namespace Nc
open PySem PySem.Spec PyProof.Rows L2
local macro_rules | `(tactic| walk_at "nc") => `(tactic| repeat (first | simp [atI, ixN, zipI, cutG, HT.sIx, Function.comp_def] | simp (disch := first | assumption | omega) only [oIntC_p, le_T, le_F, lt_T, lt_F, bq_F, in_T, in_F] | rw [if_pos (by omega)] | rw [if_neg (by omega)] | omega))
/-! ### a done more -/
def cutR (s : Int) : List (List Int) → Nat → List (List Int)
  | [], _ => []
  | r :: rs, k => (if (k : Int) < s then r else []) :: cutR s rs (k + 1)
theorem cutR_app (s : Int) (r : List Int) : ∀ (a : List (List Int)) (k : Nat), cutR s (a ++ [r]) k = cutR s a k ++ [if ((k + a.length : Nat) : Int) < s then r else []]
  | [], k => rfl
  | x :: a, k => by
    show (if (k : Int) < s then x else []) :: cutR s (a ++ [r]) (k + 1) = _
    rw [cutR_app s r a (k + 1)]
    rw [show k + 1 + a.length = k + (x :: a).length by simp only [List.length_cons]; omega]
    rfl
theorem prs_cutR (s : Int) : ∀ (a : List (List Int)) (k : Nat), ((cutR s a k).zipIdx k).flatMap (fun r => r.1.map fun p => ((r.2 : Int), p)) = ((a.zipIdx k).flatMap fun r => r.1.map fun p => ((r.2 : Int), p)).filter fun q => decide (q.1 < s)
  | [], k => rfl
  | r :: a, k => by
    have ih := prs_cutR s a (k + 1)
    show ((((if (k : Int) < s then r else []) :: cutR s a (k + 1)).zipIdx k).flatMap _) = _
    rw [List.zipIdx_cons, List.zipIdx_cons, List.flatMap_cons, List.flatMap_cons, List.filter_append, ih]
    congr 1
    by_cases h : (k : Int) < s
    · rw [if_pos h]
      refine (List.filter_eq_self.mpr fun q hq => ?_).symm
      obtain ⟨p, _, rfl⟩ := List.mem_map.mp hq
      exact decide_eq_true h
    · rw [if_neg h]
      refine (List.filter_eq_nil_iff.mpr fun q hq => ?_).symm
      obtain ⟨p, _, rfl⟩ := List.mem_map.mp hq
      simpa using h
theorem prs_cut (s : Int) (a : List (List Int)) : prs (cutR s a 0) = (prs a).filter fun q => decide (q.1 < s) := prs_cutR s a 0
theorem tell1_ov (ws : List Wd) (t : Int) (m : Mt) : (tell1 ws t m).over = m.over := by
  unfold tell1
  split <;> rfl
theorem tell2_ov (ws : List Wd) (t : Int) (m : Mt) : (tell2 ws t m).over = (m.over || !(ws.filter fun w => w.dn && (w.s == t)).isEmpty) := by
  unfold tell2
  split
  · rename_i h; rw [h]; simp
  · rename_i h; simp only [Bool.not_eq_true] at h; rw [h]; simp
theorem tell_ov (c : List Lev) (ws : List Wd) (t : Int) (m : Mt) : (tell c ws t m).over = (m.over || !(ws.filter fun w => w.dn && (w.s == t)).isEmpty) := by
  show (tell2 ws t (tell1 ws t m)).over = _
  rw [tell2_ov, tell1_ov]
theorem due_done {c : List Lev} {ws : List Wd} {w : Wd} (hd : w.dn = true) (h0 : 0 ≤ w.s) : dueBy c (ws ++ [w]) = cutR w.s (dueBy c ws) 0 := by
  have tk0 : w.tk = false := by cases w <;> simp [Wd.tk, Wd.dn] at hd ⊢
  have of0 : w.of = false := by cases w <;> simp [Wd.of, Wd.dn] at hd ⊢
  have key : ∀ n : Nat, (st c (ws ++ [w]) n).2 = cutR w.s (st c ws n).2 0 ∧ ((n : Int) ≤ w.s → (st c (ws ++ [w]) n).1 = (st c ws n).1) ∧ (w.s < (n : Int) → (st c (ws ++ [w]) n).1.over = true) := fun n => by
    induction n with
    | zero => exact ⟨rfl, fun _ => rfl, fun h => by omega⟩
    | succ n ih =>
      obtain ⟨i1, i2, i3⟩ := ih
      rw [st_s, st_s]
      by_cases c1 : (n : Int) < w.s
      · have e : tell c (ws ++ [w]) (n : Int) (st c ws n).1 = tell c ws (n : Int) (st c ws n).1 := by
          refine tell_more ?_ (fun hd => ?_) (fun hc => ?_)
          · refine tell1_head ?_ _
            rw [tkn_app]
            have e : tkn [w] (n : Int) = [] := by
              unfold tkn
              rw [List.filter_cons, if_neg (by simp [tk0])]
              rfl
            rw [e, List.append_nil]
          · simp only [Bool.and_eq_true, beq_iff_eq] at hd
            omega
          · rw [of0] at hc; simp at hc
        have i2 := i2 (by omega)
        refine ⟨?_, fun _ => ?_, fun h => by omega⟩
        · rw [step_r, step_r, i1, i2, e, cutR_app, st_len, if_pos (by omega)]
        · rw [step_m, step_m, i2, e]
      · have ho : (tell c (ws ++ [w]) (n : Int) (st c (ws ++ [w]) n).1).over = true := by
          rw [tell_ov]
          by_cases c2 : w.s < (n : Int)
          · rw [i3 c2]; rfl
          · have e : w.s = (n : Int) := by omega
            rw [List.filter_append]
            have : ([w].filter fun w => w.dn && (w.s == (n : Int))) = [w] := by
              rw [List.filter_cons, if_pos (by simp [hd, e])]
              rfl
            rw [this]
            simp
        refine ⟨?_, fun h => by omega, fun _ => ?_⟩
        · rw [step_r, step_r, i1, cutR_app, st_len, if_neg (by omega)]
          congr 2
          unfold dueM
          rw [ho]
          rfl
        · rw [step_m]
          exact ho
  rw [dueBy_st, dueBy_st]
  exact (key 61).1
/-! ### heard at once -/
def once : Wd → Wd
  | .take p s _ => .take p s s
  | .off p s _ t => .off p s s t
  | .done p s _ => .done p s s
theorem oks_once {P : List Int} {ws : List Wd} (h : OkWs P ws) : OkWs P (ws.map once) := by
  refine ⟨by simpa using h.len, fun x hx => ?_⟩
  obtain ⟨w, hw, rfl⟩ := List.mem_map.mp hx
  have hh := h.wd w hw
  have h0 := hh.p; have h1 := hh.s0; have h2 := hh.s40; have h5 := hh.t
  cases w <;> simp only [Wd.p, Wd.s] at * <;> exact ⟨by assumption, by simp only [once, Wd.s]; omega, by simp only [once, Wd.s]; omega, by simp only [once, Wd.s, Wd.h]; omega, by simp only [once, Wd.h]; omega, fun _ _ _ _ e => by cases e <;> exact h5 _ _ _ _ rfl⟩
theorem once_h (w : Wd) : (once w).h = (once w).s := by cases w <;> rfl
theorem once_p (w : Wd) : (once w).p = w.p := by cases w <;> rfl
theorem once_s (w : Wd) : (once w).s = w.s := by cases w <;> rfl
theorem once_t (w : Wd) : (once w).t = w.t := by cases w <;> rfl
theorem once_tk (w : Wd) : (once w).tk = w.tk := by cases w <;> rfl
theorem once_dn (w : Wd) : (once w).dn = w.dn := by cases w <;> rfl
theorem once_of (w : Wd) : (once w).of = w.of := by cases w <;> rfl
theorem tell_once (c : List Lev) (ws : List Wd) (t : Int) (m : Mt) : tell c (ws.map once) t m = tell c ws t m := by
  have e1 : tkn (ws.map once) t = tkn ws t := by
    unfold tkn
    rw [List.filter_map, List.map_map]
    simp only [Function.comp_def, once_tk, once_s, once_p]
  have e2 : ∀ m, tell2 (ws.map once) t m = tell2 ws t m := fun m => by
    unfold tell2
    rw [List.filter_map]
    simp only [Function.comp_def, once_dn, once_s, List.isEmpty_map]
  have e3 : ∀ ps q, hush (ws.map once) t ps q = hush ws t ps q := fun ps q => by
    unfold hush
    rw [List.foldl_map]
    simp only [once_of, once_s, once_p, once_t]
  unfold tell
  simp only
  have e4 : tell1 (ws.map once) t m = tell1 ws t m := by unfold tell1; rw [e1]
  rw [e4, e2, e3]
theorem due_once (c : List Lev) (ws : List Wd) : dueBy c (ws.map once) = dueBy c ws :=
  dueBy_inv (fun _ _ => True) trivial (fun i m _ => tell_once c ws (i : Int) m) (fun _ _ _ _ => trivial)
theorem late_once (ws : List Wd) : lateOf (ws.map once) = 0 := by
  unfold lateOf
  rw [List.map_map]
  refine (maxL_eq List.mem_cons_self fun y hy => ?_).symm
  rcases List.mem_cons.mp hy with rfl | hy
  · exact Int.le_refl _
  · obtain ⟨w, _, rfl⟩ := List.mem_map.mp hy
    simp only [Function.comp_def, once_h]
    omega
/-! ### enough -/
theorem down_up (c : List Lev) (ws : List Wd) (n k : Nat) (h1 : down c ws n ≤ k) (h2 : k < n) : sentBy c ws (k : Int) = dueBy c ws := by
  induction n with
  | zero => omega
  | succ n ih =>
    rw [down_s] at h1
    by_cases e : sentBy c ws (n : Int) = dueBy c ws
    · rw [if_pos e] at h1
      by_cases hk : k = n
      · subst hk; exact e
      · exact ih h1 (by omega)
    · rw [if_neg e] at h1
      omega
theorem sent_from {c : List Lev} [hc : OkCh c] {ws : List Wd} {k : Int} (h : leastH c ws ≤ k) (h0 : 0 ≤ k) : sentBy c ws k = dueBy c ws := by
  by_cases hl : lateOf ws ≤ k
  · exact sentBy_late hl
  · unfold leastH at h
    obtain ⟨n, rfl⟩ : ∃ n : Nat, k = (n : Int) := ⟨k.toNat, by omega⟩
    exact down_up c ws (lateOf ws).toNat n (by omega) (by omega)
theorem least_late (c : List Lev) (ws : List Wd) : leastH c ws ≤ lateOf ws := by
  have := down_le c ws (lateOf ws).toNat
  have := (lateOf_ge (ws := ws)).1
  unfold leastH
  omega
theorem prs_inj {c : List Lev} {ws : List Wd} [hc : OkCh c] {k : Int} (h : sentPs c ws k = duePs c ws) : sentBy c ws k = dueBy c ws :=
  rows_same (by rw [sentBy_len (c := c) (ws := ws) (h := k) |>.1, (dueBy_len (c := c) (ws := ws)).1]) sentBy_up dueBy_up fun q => by
    unfold sentPs duePs at h
    rw [h]
end Nc
set_option Elab.async false
set_option linter.all false
set_option maxRecDepth 100000
set_option maxHeartbeats 1000000
namespace Nc
open PySem PySem.Spec PyProof.Rows L2
local macro_rules | `(tactic| walk_at "nc") => `(tactic| repeat (first | simp [atI, ixN, zipI, cutG, HT.sIx, Function.comp_def] | simp (disch := first | assumption | omega) only [oIntC_p, le_T, le_F, lt_T, lt_F, bq_F, in_T, in_F] | rw [if_pos (by omega)] | rw [if_neg (by omega)] | omega))
@[simp] theorem bq_chain_words : (Str.ofString "chain" == Str.ofString "words") = false := by decide +kernel
@[simp] theorem ne_chain_words : (Str.ofString "chain" = Str.ofString "words") = False := eq_false (by decide +kernel)
@[simp] theorem bq_chain_sent : (Str.ofString "chain" == Str.ofString "sent") = false := by decide +kernel
@[simp] theorem ne_chain_sent : (Str.ofString "chain" = Str.ofString "sent") = False := eq_false (by decide +kernel)
@[simp] theorem bq_people_words : (Str.ofString "people" == Str.ofString "words") = false := by decide +kernel
@[simp] theorem ne_people_words : (Str.ofString "people" = Str.ofString "words") = False := eq_false (by decide +kernel)
@[simp] theorem bq_people_sent : (Str.ofString "people" == Str.ofString "sent") = false := by decide +kernel
@[simp] theorem ne_people_sent : (Str.ofString "people" = Str.ofString "sent") = False := eq_false (by decide +kernel)
@[simp] theorem bq_hold_words : (Str.ofString "hold" == Str.ofString "words") = false := by decide +kernel
@[simp] theorem ne_hold_words : (Str.ofString "hold" = Str.ofString "words") = False := eq_false (by decide +kernel)
@[simp] theorem bq_hold_sent : (Str.ofString "hold" == Str.ofString "sent") = false := by decide +kernel
@[simp] theorem ne_hold_sent : (Str.ofString "hold" = Str.ofString "sent") = False := eq_false (by decide +kernel)
@[simp] theorem bq_words_chain : (Str.ofString "words" == Str.ofString "chain") = false := by decide +kernel
@[simp] theorem ne_words_chain : (Str.ofString "words" = Str.ofString "chain") = False := eq_false (by decide +kernel)
@[simp] theorem bq_words_people : (Str.ofString "words" == Str.ofString "people") = false := by decide +kernel
@[simp] theorem ne_words_people : (Str.ofString "words" = Str.ofString "people") = False := eq_false (by decide +kernel)
@[simp] theorem bq_words_hold : (Str.ofString "words" == Str.ofString "hold") = false := by decide +kernel
@[simp] theorem ne_words_hold : (Str.ofString "words" = Str.ofString "hold") = False := eq_false (by decide +kernel)
@[simp] theorem bq_words_now : (Str.ofString "words" == Str.ofString "now") = false := by decide +kernel
@[simp] theorem ne_words_now : (Str.ofString "words" = Str.ofString "now") = False := eq_false (by decide +kernel)
@[simp] theorem bq_words_sent : (Str.ofString "words" == Str.ofString "sent") = false := by decide +kernel
@[simp] theorem ne_words_sent : (Str.ofString "words" = Str.ofString "sent") = False := eq_false (by decide +kernel)
@[simp] theorem bq_words_row : (Str.ofString "words" == Str.ofString "row") = false := by decide +kernel
@[simp] theorem ne_words_row : (Str.ofString "words" = Str.ofString "row") = False := eq_false (by decide +kernel)
@[simp] theorem bq_now_words : (Str.ofString "now" == Str.ofString "words") = false := by decide +kernel
@[simp] theorem ne_now_words : (Str.ofString "now" = Str.ofString "words") = False := eq_false (by decide +kernel)
@[simp] theorem bq_now_sent : (Str.ofString "now" == Str.ofString "sent") = false := by decide +kernel
@[simp] theorem ne_now_sent : (Str.ofString "now" = Str.ofString "sent") = False := eq_false (by decide +kernel)
@[simp] theorem bq_sent_chain : (Str.ofString "sent" == Str.ofString "chain") = false := by decide +kernel
@[simp] theorem ne_sent_chain : (Str.ofString "sent" = Str.ofString "chain") = False := eq_false (by decide +kernel)
@[simp] theorem bq_sent_people : (Str.ofString "sent" == Str.ofString "people") = false := by decide +kernel
@[simp] theorem ne_sent_people : (Str.ofString "sent" = Str.ofString "people") = False := eq_false (by decide +kernel)
@[simp] theorem bq_sent_hold : (Str.ofString "sent" == Str.ofString "hold") = false := by decide +kernel
@[simp] theorem ne_sent_hold : (Str.ofString "sent" = Str.ofString "hold") = False := eq_false (by decide +kernel)
@[simp] theorem bq_sent_words : (Str.ofString "sent" == Str.ofString "words") = false := by decide +kernel
@[simp] theorem ne_sent_words : (Str.ofString "sent" = Str.ofString "words") = False := eq_false (by decide +kernel)
@[simp] theorem bq_sent_now : (Str.ofString "sent" == Str.ofString "now") = false := by decide +kernel
@[simp] theorem ne_sent_now : (Str.ofString "sent" = Str.ofString "now") = False := eq_false (by decide +kernel)
@[simp] theorem bq_sent_row : (Str.ofString "sent" == Str.ofString "row") = false := by decide +kernel
@[simp] theorem ne_sent_row : (Str.ofString "sent" = Str.ofString "row") = False := eq_false (by decide +kernel)
@[simp] theorem bq_row_words : (Str.ofString "row" == Str.ofString "words") = false := by decide +kernel
@[simp] theorem ne_row_words : (Str.ofString "row" = Str.ofString "words") = False := eq_false (by decide +kernel)
@[simp] theorem bq_row_sent : (Str.ofString "row" == Str.ofString "sent") = false := by decide +kernel
@[simp] theorem ne_row_sent : (Str.ofString "row" = Str.ofString "sent") = False := eq_false (by decide +kernel)
/-! ### the law's own round: a dict -/
structure Hd where
  r : Rd
  sent : List (Int × Int)
def Hd.new (c : List Lev) (h : Int) : Hd := ⟨Rd.new c h, []⟩
def fsH (b : Bool) (x : Hd) : List (Str × OV) := [("chain", .dat b (eCh x.r.c)), ("people", .dat false (eIs (ppl x.r.c))), ("hold", .dat false (.int x.r.h)), ("words", .dat false (eWs x.r.ws)), ("now", .dat false (.int x.r.now)), ("sent", .dat false (ePs x.sent)), ("row", .dat false (eTab x.r.row))]
def eH (b : Bool) (x : Hd) : OO := .dct (fsH b x)
def hDG (k : Str) (x : Option OO) (S1 : Sto) : Option (OV × Sto) := match x with
  | some (.dct fs) => hFd (fs.lookup k) S1
  | _ => none
def hDG1 (k : Str) (o : OV) (S1 : Sto) : Option (OV × Sto) := match o with
  | .own i => hDG k S1[i]? S1
  | _ => none
@[simp] theorem hDG1_e {k : Str} {i : Nat} {S : Sto} : hDG1 k (.own i) S = hDG k S[i]? S := rfl
@[simp] theorem xDGet_e {k : Str} {fo : SE} {r : Env} {S : Sto} : xDGet k fo r S = bnd (fo r S) (hDG1 k) := by
  unfold xDGet
  congr 1
def hDP (r : Env) (x : Option Sto) : Option (Fl × Env × Sto) := match x with
  | some S3 => some (.nx, r, S3)
  | none => none
@[simp] theorem hDP_e {r : Env} {S : Sto} : hDP r (some S) = some (.nx, r, S) := rfl
def hDP1 (k : Str) (r : Env) (v : OV) (o : OV) (S2 : Sto) : Option (Fl × Env × Sto) := match o with
  | .own i => hDP r (putD k v i S2)
  | _ => none
@[simp] theorem hDP1_e {k : Str} {r : Env} {v : OV} {i : Nat} {S : Sto} : hDP1 k r v (.own i) S = hDP r (putD k v i S) := rfl
@[simp] theorem sDPut_e {k : Str} {fo fe : SE} {r : Env} {S : Sto} : Nc.sDPut k fo fe r S = k2 (fe r S) fo r (hDP1 k r) := by
  rw [← k2_i]
  unfold Nc.sDPut
  congr 1
def hDQ (k l : Str) (r : Env) (as : List OV) (o : Option (Option OV)) (S1 : Sto) : Option (Fl × Env × Sto) := match as, o with
  | [v, w], some (some (.own j)) => (match putD k v j S1 with
    | some S2 => hDP r (putD l w j S2)
    | none => none)
  | _, _ => none
@[simp] theorem hDQ_e {k l : Str} {r : Env} {v w : OV} {j : Nat} {S : Sto} : hDQ k l r [v, w] (some (some (.own j))) S = (match putD k v j S with
    | some S2 => hDP r (putD l w j S2)
    | none => none) := rfl
@[simp] theorem sDPut2_e {k l : Str} {i : Nat} {fr : SA} {r : Env} {S : Sto} : sDPut2 k l i fr r S = bnd (fr r S) fun as S1 => hDQ k l r as r[i]? S1 := rfl
@[simp] theorem xDisp_e {ks : List Str} {fr : SA} {r : Env} {S : Sto} : xDisp ks fr r S = bnd (fr r (S ++ [.dct []])) fun as S1 => chk (S1[S.length]? = some (.dct [])) (if ks.length ≤ 15 ∧ ks.Nodup then some (.own S.length, S1.set S.length (.dct (ks.zip as))) else none) := rfl
section
variable {S : Sto} {b : Bool} {x : Hd} {i : Nat}
@[simp] theorem fH_chain : hDG "chain" (some (eH b x)) S = some (.dat b (eCh x.r.c), S) := by simp [eH, fsH, hDG]
@[simp] theorem fH_people : hDG "people" (some (eH b x)) S = some (.dat false (eIs (ppl x.r.c)), S) := by simp [eH, fsH, hDG]
@[simp] theorem fH_hold : hDG "hold" (some (eH b x)) S = some (.dat false (.int x.r.h), S) := by simp [eH, fsH, hDG]
@[simp] theorem fH_words : hDG "words" (some (eH b x)) S = some (.dat false (eWs x.r.ws), S) := by simp [eH, fsH, hDG]
@[simp] theorem fH_now : hDG "now" (some (eH b x)) S = some (.dat false (.int x.r.now), S) := by simp [eH, fsH, hDG]
@[simp] theorem fH_sent : hDG "sent" (some (eH b x)) S = some (.dat false (ePs x.sent), S) := by simp [eH, fsH, hDG]
@[simp] theorem fH_row : hDG "row" (some (eH b x)) S = some (.dat false (eTab x.r.row), S) := by simp [eH, fsH, hDG]
theorem ndH : ndK (fsH b x) = true := by
  show decide ((["chain", "people", "hold", "words", "now", "sent", "row"] : List Str)).Nodup = true
  decide +kernel
theorem nd6 : (["chain", "people", "hold", "words", "now", "sent"] : List Str).Nodup := by decide +kernel
theorem putH (hS : S[i]? = some (eH b x)) (k : Str) (v : OV) : putD k v i S = some (S.set i (.dct (putO k v (fsH b x)))) := by
  unfold putD
  rw [hS]
  show (if (fsH b x).length < 100 ∧ ndK (fsH b x) = true then _ else _) = _
  rw [if_pos ⟨by simp [fsH], ndH⟩]
theorem pH_now {n : Int} : OO.dct (putO "now" (.dat false (.int n)) (fsH b x)) = eH b { x with r := { x.r with now := n } } := by simp [eH, fsH, putO]
theorem pH_words {ws : List Wd} : OO.dct (putO "words" (.dat false (.list (ws.map eWd))) (fsH b x)) = eH b { x with r := { x.r with ws := ws } } := by simp [eH, fsH, putO]
theorem pH_sent {ps : List (Int × Int)} : OO.dct (putO "sent" (.dat false (.list (ps.map ePr))) (fsH b x)) = eH b { x with sent := ps } := by simp [eH, fsH, putO]
theorem pH_row {t : List (List Int)} : OO.dct (putO "row" (.dat false (.list (t.map eIs))) (fsH b x)) = eH b { x with r := { x.r with row := t } } := by simp [eH, fsH, putO]
end
theorem set_same {S : Sto} {i : Nat} {o : OO} (h : S[i]? = some o) : S.set i o = S := by
  apply List.ext_getElem?
  intro j
  by_cases hj : i = j
  · subst hj
    rw [set_get h, h]
  · rw [List.getElem?_set_ne hj]
theorem table_F {c : List Lev} {ws : List Wd} [h : OkCh c] [hw : OkWs (ppl c) ws] (S : Sto) : kF (natD (sem__law_table [.dat true (eCh c), .dat true (eWs ws)] [])) S = some (.dat false (eTab (dueBy c ws)), S) := by
  rw [table_e]; simp
theorem hnew_e {c : List Lev} [hc : OkCh c] (b : Bool) (h : Int) (S : Sto) : sem__law_new [.dat b (eCh c), .dat false (.int h)] S = some (.own S.length, S ++ [eH b (Hd.new c h)]) := by
  unfold sem__law_new body__law_new
  rw [callS_e, if_pos (by rfl), sSeq_e, kSeq_to [some (.dat b (eCh c)), some (.dat false (.int h)), some (.dat false (.list [])), none, none] S]
  rotate_left
  · simp
  rw [sSeq_e, kSeq_to [some (.dat b (eCh c)), some (.dat false (.int h)), some (.dat false (eIs (ppl c))), none, none] S]
  rotate_left
  · simp [Function.comp_def]
    have key := fun bd hh => (forL_env (bd := bd) (fun a : List Int => [some (.dat b (eCh c)), some (.dat false (.int h)), some (.dat false (.list (a.map .int))), none, none]) (fun _ => S)
      (fun a (l : Lev) => a ++ l.1) (fun i a => a.length ≤ 3 * i) (fun l => .dat b (eLev l)) c 0 [] (by simp) hh).1
    rw [foldl_app] at key
    refine key _ (fun j a l hl ha => ?_)
    have hi := (List.getElem?_eq_some_iff.mp hl).1
    have l4 := hc.l4
    have l3 := (hc.lev l (List.mem_of_getElem? hl)).l3
    refine ⟨?_, by simp; omega⟩
    simp [eLev, Function.comp_def]
    rw [if_pos (by omega)]
    simp
  haveI := okws_nil (ppl c)
  have ht := table_F (c := c) (ws := [])
  simp [eWs] at ht
  rw [sSeq_e, kSeq_to [some (.dat b (eCh c)), some (.dat false (.int h)), some (.dat false (eIs (ppl c))), none, some (.own S.length)] (S ++ [.dct [("chain", .dat b (eCh c)), ("people", .dat false (eIs (ppl c))), ("hold", .dat false (.int h)), ("words", .dat false (.list [])), ("now", .dat false (.int 0)), ("sent", .dat false (.list []))]])]
  rotate_left
  · have nd := nd6
    simp
  have hput : putD "row" (.dat false (eTab (dueBy c []))) S.length (S ++ [.dct [("chain", .dat b (eCh c)), ("people", .dat false (eIs (ppl c))), ("hold", .dat false (.int h)), ("words", .dat false (.list [])), ("now", .dat false (.int 0)), ("sent", .dat false (.list []))]]) = some (S ++ [eH b (Hd.new c h)]) := by
    unfold putD
    simp only [get_app]
    rw [if_pos ⟨by simp, by show decide _ = true; exact decide_eq_true nd6⟩]
    simp [putO, eH, fsH, Hd.new, Rd.new]
  rw [sSeq_e, kSeq_to [some (.dat b (eCh c)), some (.dat false (.int h)), some (.dat false (eIs (ppl c))), none, some (.own S.length)] (S ++ [eH b (Hd.new c h)])]
  rotate_left
  · simp [ht, hput]
  simp
end Nc
set_option Elab.async false
set_option linter.all false
set_option maxRecDepth 100000
set_option maxHeartbeats 1000000
namespace Nc
open PySem PySem.Spec PyProof.Rows L2
local macro_rules | `(tactic| walk_at "nc") => `(tactic| repeat (first | simp [atI, ixN, zipI, cutG, HT.sIx, Function.comp_def] | simp (disch := first | assumption | omega) only [oIntC_p, le_T, le_F, lt_T, lt_F, bq_F, in_T, in_F] | rw [if_pos (by omega)] | rw [if_neg (by omega)] | omega))
def Hd.comes (x : Hd) : Ln → Bool × Hd
  | .tick ps => if 60 < x.r.now - x.r.h then (false, x) else if x.r.toll = ps then (true, ⟨x.r.pass, x.sent ++ x.r.toll.map fun p => (x.r.now - x.r.h, p)⟩) else (false, x)
  | l => if (!x.r.can l.pq.1 l.pq.2 || (decide (60 < x.r.now) || !decide (x.r.ws.length < 12)) || l.bad) = true then (false, x) else (true, ⟨x.r.hear (l.wd x.r.now), x.sent⟩)
structure OkHd (x : Hd) : Prop where
  rd : OkRd x.r
  h0 : 0 ≤ x.r.h
  h100 : x.r.h ≤ 100
  now : x.r.now ≤ 61 + x.r.h
  sl : (x.sent.length : Int) ≤ 3 * x.r.now
theorem hcomes_r (x : Hd) (l : Ln) : (x.comes l).1 = (x.r.comes l).1 ∧ ((x.comes l).1 = true → (x.comes l).2.r = (x.r.comes l).2) := by
  unfold Hd.comes Rd.comes
  cases l with
  | tick ps =>
    simp only
    by_cases e1 : 60 + x.r.h < x.r.now
    · rw [if_pos (by omega), if_pos e1]
      exact ⟨rfl, fun h => by cases h⟩
    · rw [if_neg (by omega), if_neg e1]
      by_cases e2 : x.r.toll = ps
      · rw [if_pos e2]
        exact ⟨by simp [e2], fun _ => rfl⟩
      · rw [if_neg e2]
        exact ⟨by simp [e2], fun h => by cases h⟩
  | _ =>
    simp only
    unfold Rd.hears
    split
    · exact ⟨rfl, fun h => by cases h⟩
    · exact ⟨rfl, fun _ => rfl⟩
theorem hnew_ok {c : List Lev} [hc : OkCh c] {h : Int} (h0 : 0 ≤ h) (h1 : h ≤ 100) : OkHd (Hd.new c h) := ⟨new_ok h, h0, h1, by show (0 : Int) ≤ 61 + h; omega, by show (0 : Int) ≤ 3 * 0; omega⟩
theorem hcomes_ok {x : Hd} (k : OkHd x) (l : Ln) : OkHd (x.comes l).2 := by
  unfold Hd.comes
  cases l with
  | tick ps =>
    simp only
    split
    · exact k
    · split
      · rename_i e1 e2
        have t := k.rd.toll
        refine ⟨pass_ok k.rd, k.h0, k.h100, ?_, ?_⟩
        · show x.r.now + 1 ≤ 61 + x.r.h
          omega
        · show ((x.sent ++ x.r.toll.map fun p => (x.r.now - x.r.h, p)).length : Int) ≤ 3 * (x.r.now + 1)
          have := k.sl
          simp; omega
      · exact k
  | _ =>
    simp only
    split
    · exact k
    · rename_i e
      obtain ⟨g1, g2⟩ := line_wd (fun _ e => by cases e) (Bool.eq_false_iff.mpr e)
      exact ⟨hear_ok k.rd g1 g2, k.h0, k.h100, k.now, k.sl⟩
theorem row_toll {x : Rd} (hl : x.row.length = 61) (h0 : 0 ≤ x.now - x.h) (h1 : x.now - x.h ≤ 60) : atI (x.row.map eIs) (x.now - x.h) = some (eIs x.toll) := by
  have h3 : (x.now - x.h).toNat < x.row.length := by omega
  unfold Rd.toll
  rw [if_pos h0, atI_map]
  have : atI x.row (x.now - x.h) = some (x.row.getD (x.now - x.h).toNat []) := by
    have e : x.now - x.h = (((x.now - x.h).toNat : Nat) : Int) := by omega
    rw [e, atI_n, List.getElem?_eq_getElem h3]
    simp only [Int.toNat_natCast]
    rw [List.getD_eq_getElem?_getD, List.getElem?_eq_getElem h3]
    rfl
  rw [this]
  rfl
theorem kcall_rt {x : Option (Fl × Env × Sto)} {f : SS} {v : OV} (r : Env) {S : Sto} (h : x = some (.rt v, r, S)) : kCall (kSeq x f) = some (v, S) := by rw [h]; rfl
abbrev canT : SC := (xOr (xB (xOp (oIn true) (xOp oIx (xVar 1) (xC (.int 1))) (xDGet "people" (xVar 0)))) (xOr (xNot (xB (xChain (oBl fun i j => decide (i ≤ j)) (oBl fun i j => decide (i ≤ j)) (xC (.int 0)) (xOp oIx (xVar 1) (xC (.int 2))) (xCB oMin2 (xCons (xVar 2) (xCons (xC (.int 40)) xNil)))))) (xOr (xB (xOp (oBl fun i j => decide (j < i)) (xVar 2) (xC (.int 60)))) (xB (xOp (oBl fun i j => decide (j < i)) (xCB oLen (xCons (xDGet "words" (xVar 0)) xNil)) (xC (.int 11)))))))
theorem canT_e {S : Sto} {i : Nat} {b : Bool} {x : Hd} {d : OV} {o3 o4 o5 o6 : Option OV} {p s : Int} (hS : S[i]? = some (eH b x)) (d1 : ∀ S, oIx d (.dat false (.int 1)) S = some (.dat false (.int p), S)) (d2 : ∀ S, oIx d (.dat false (.int 2)) S = some (.dat false (.int s), S)) :
    canT [some (.own i), some d, some (.dat false (.int x.r.now)), o3, o4, o5, o6] S = some (!x.r.can p s || (decide (60 < x.r.now) || !decide (x.r.ws.length < 12)), S) := by
  unfold canT Rd.can
  have e11 : decide ((11 : Int) < (x.r.ws.length : Int)) = !decide (x.r.ws.length < 12) := by
    rw [Bool.eq_iff_iff]; simp; omega
  by_cases h1 : p ∈ ppl x.r.c
  · by_cases h2 : 0 ≤ s
    · by_cases h3 : s ≤ min x.r.now 40
      · by_cases h4 : 60 < x.r.now
        · have h3' : decide (s ≤ min x.r.now 40) = true := decide_eq_true h3
          simp [hS, d1, d2, h1, h2, h3', h4]
        · have h3' : decide (s ≤ min x.r.now 40) = true := decide_eq_true h3
          have h4' : decide (60 < x.r.now) = false := decide_eq_false h4
          have e12 : decide (11 < x.r.ws.length) = !decide (x.r.ws.length < 12) := by rw [Bool.eq_iff_iff]; simp; omega
          simp [hS, d1, d2, h1, h2, h3', h4', e11, e12]
      · have h3' : decide (s ≤ min x.r.now 40) = false := decide_eq_false h3
        simp [hS, d1, d2, h1, h2, h3']
    · simp [hS, d1, d2, h1, h2]
  · simp [hS, d1, d2, h1]
section
variable {S : Sto} {i : Nat} {b : Bool} {x : Hd}
theorem hcan_e (hS : S[i]? = some (eH b x)) (k : OkHd x) (l : Ln) (q : Bool) : sem__law_can [.own i, mkD q (eLn l)] S = some (.dat false (.bool (x.comes l).1), S.set i (eH b (x.comes l).2)) := by
  have hs := set_get hS
  have same := set_same hS
  have hput := fun k v => putH hS k v
  have hput2 := fun (y : Hd) k v => putH (hs (eH b y)) k v
  have sl := k.sl; have nw := k.now; have h1 := k.h100; have tl := k.rd.toll; have wl := k.rd.ws.len; have n0 := k.rd.now
  have dec := fun (l : Ln) (g : ∀ ps, l ≠ .tick ps) (e : (!x.r.can l.pq.1 l.pq.2 || (decide (60 < x.r.now) || !decide (x.r.ws.length < 12)) || l.bad) = false) => line_wd g e
  cases l with
  | tick ps =>
    rw [show x.comes (.tick ps) = (if 60 < x.r.now - x.r.h then (false, x) else if x.r.toll = ps then (true, ⟨x.r.pass, x.sent ++ x.r.toll.map fun p => (x.r.now - x.r.h, p)⟩) else (false, x)) from rfl]
    unfold sem__law_can body__law_can
    by_cases e1 : 60 < x.r.now - x.r.h
    · simp [eLn, mkD_tup, hS, e1, same]
    · have row : x.r.h ≤ x.r.now → atI (x.r.row.map eIs) (x.r.now - x.r.h) = some (eIs x.r.toll) := fun h => row_toll k.rd.len (by omega) (by omega)
      have none : ¬ x.r.h ≤ x.r.now → x.r.toll = [] := fun h => by unfold Rd.toll; rw [if_neg (by omega)]
      have due : ∀ (e2 : x.r.toll = ps ∨ x.r.toll ≠ ps), True := fun _ => trivial
      have e9 : ∀ f : SS, (sSeq (sAsg (xIf (xB (xOp (oBl fun i j => decide (j ≤ i)) (xVar 4) (xC (.int 0)))) (xOp oIx (xDGet "row" (xVar 0)) (xVar 4)) (xDat (xLst xNil))) (bName 5)) f) [some (.own i), some (mkD q (eLn (.tick ps))), some (.dat false (.int x.r.now)), some (.dat false (.str "tick")), some (.dat false (.int (x.r.now - x.r.h))), Option.none, Option.none] S = f [some (.own i), some (mkD q (eLn (.tick ps))), some (.dat false (.int x.r.now)), some (.dat false (.str "tick")), some (.dat false (.int (x.r.now - x.r.h))), some (.dat false (eIs x.r.toll)), Option.none] S := fun f => by
        rw [sSeq_e]
        refine kSeq_to _ _ ?_
        by_cases e2 : x.r.h ≤ x.r.now
        · simp [hS, e2, row e2]
        · simp [hS, e2, none e2]
      rw [callS_e, if_pos (by rfl), sSeq_e, kSeq_to [some (.own i), some (mkD q (eLn (.tick ps))), some (.dat false (.int x.r.now)), some (.dat false (.str "tick")), Option.none, Option.none, Option.none] S]
      rotate_left
      · simp [eLn, mkD_tup, hS]
      have first : ∀ f g : SS, (sIf (xB (xOp (oEq false) (xVar 3) (xC (.str "tick")))) f sNext) [some (.own i), some (mkD q (eLn (.tick ps))), some (.dat false (.int x.r.now)), some (.dat false (.str "tick")), Option.none, Option.none, Option.none] S = f [some (.own i), some (mkD q (eLn (.tick ps))), some (.dat false (.int x.r.now)), some (.dat false (.str "tick")), Option.none, Option.none, Option.none] S := fun f g => by simp
      rw [sSeq_e, first _ sNext]
      refine kcall_rt [some (.own i), some (mkD q (eLn (.tick ps))), some (.dat false (.int x.r.now)), some (.dat false (.str "tick")), some (.dat false (.int (x.r.now - x.r.h))), some (.dat false (eIs x.r.toll)), Option.none] ?_
      rw [sSeq_e, kSeq_to [some (.own i), some (mkD q (eLn (.tick ps))), some (.dat false (.int x.r.now)), some (.dat false (.str "tick")), some (.dat false (.int (x.r.now - x.r.h))), Option.none, Option.none] S]
      rotate_left
      · simp [hS]
      rw [sSeq_e, kSeq_to [some (.own i), some (mkD q (eLn (.tick ps))), some (.dat false (.int x.r.now)), some (.dat false (.str "tick")), some (.dat false (.int (x.r.now - x.r.h))), Option.none, Option.none] S]
      rotate_left
      · have e1b : decide (60 < x.r.now - x.r.h) = false := decide_eq_false e1
        rw [sIf_e]
        simp only [xB_e, xOp_e, xVar_e, xC_e, k2_e, oBl_e, List.getElem?_cons_succ, List.getElem?_cons_zero, kV_e, bnd_mk, kB_e, e1b, kTest_f, sNext_e]
      rw [e9, if_neg e1]
      by_cases e3 : x.r.toll = ps
      · subst e3
        rw [if_pos rfl, sSeq_e, kSeq_to [some (.own i), some (mkD q (eLn (.tick x.r.toll))), some (.dat false (.int x.r.now)), some (.dat false (.str "tick")), some (.dat false (.int (x.r.now - x.r.h))), some (.dat false (eIs x.r.toll)), Option.none] S]
        rotate_left
        · simp [eLn, mkD_tup, atI1, eqv_ints]
        have b1 : x.sent.length + x.r.toll.length ≤ 100000 := by omega
        have b2 : x.r.toll.length ≤ 100000 := by omega
        have hp1 := hput "now" (.dat false (.int (x.r.now + 1)))
        rw [pH_now] at hp1
        have hp2 := hput2 { x with r := { x.r with now := x.r.now + 1 } } "sent" (.dat false (.list ((x.sent ++ x.r.toll.map fun p => (x.r.now - x.r.h, p)).map ePr)))
        rw [pH_sent] at hp2
        simp [Function.comp_def] at hp2
        simp [hS, b2, Function.comp_def]
        rw [compL_y (fun p => .dat false (.int p)) (fun p => .dat false (ePr (x.r.now - x.r.h, p))) x.r.toll (fun p _ => ⟨_, rfl, by simp [ePr]⟩)]
        simp [b1, Function.comp_def, hp1, hp2, Rd.pass]
      · rw [if_neg e3]
        simp [eLn, mkD_tup, atI1, eqv_ints, e3, same]
  | take p s =>
    have q1 := dec (.take p s) (fun _ e => by cases e)
    have ct := canT_e (d := mkD q (eLn (.take p s))) (o3 := some (.dat false (.str "take"))) (o4 := none) (o5 := none) (o6 := none) (p := p) (s := s) hS (fun S => by simp [eLn, mkD_tup, atI1]) (fun S => by simp [eLn, mkD_tup, atI2])
    have eq : x.comes (.take p s) = if (!x.r.can p s || (decide (60 < x.r.now) || !decide (x.r.ws.length < 12))) = true then (false, x) else (true, ⟨x.r.hear (.take p s x.r.now), x.sent⟩) := by
      show (if (!x.r.can p s || (decide (60 < x.r.now) || !decide (x.r.ws.length < 12)) || false) = true then _ else _) = _
      rw [Bool.or_false]
      rfl
    rw [eq]
    have q2 : (!x.r.can p s || (decide (60 < x.r.now) || !decide (x.r.ws.length < 12))) = false → OkWd (ppl x.r.c) (.take p s x.r.now) ∧ x.r.ws.length < 12 := fun e => q1 (by rw [← e]; exact Bool.or_false _)
    clear q1 eq dec
    unfold canT at ct
    generalize hT : (!x.r.can p s || (decide (60 < x.r.now) || !decide (x.r.ws.length < 12))) = T at *
    unfold sem__law_can body__law_can
    rw [callS_e, if_pos (by rfl), sSeq_e, kSeq_to [some (.own i), some (mkD q (eLn (.take p s))), some (.dat false (.int x.r.now)), some (.dat false (.str "take")), Option.none, Option.none, Option.none] S]
    rotate_left
    · simp [eLn, mkD_tup, hS]
    rw [sSeq_e, kSeq_to [some (.own i), some (mkD q (eLn (.take p s))), some (.dat false (.int x.r.now)), some (.dat false (.str "take")), Option.none, Option.none, Option.none] S]
    rotate_left
    · simp
    cases T with
    | true =>
      rw [sSeq_e, sIf_e, ct, kTest_t]
      simp [same]
    | false =>
      obtain ⟨g1, g2⟩ := q2 rfl
      have ok := hear_ok k.rd g1 g2
      haveI := ok.c
      haveI : OkCh x.r.c := k.rd.c
      haveI : OkWs (ppl x.r.c) (x.r.ws ++ [Wd.take p s x.r.now]) := ok.ws
      have ht := fun S => table_F (c := x.r.c) (ws := x.r.ws ++ [Wd.take p s x.r.now]) S
      have hp1 := hput "words" (.dat false (.list ((x.r.ws ++ [Wd.take p s x.r.now]).map eWd)))
      rw [pH_words] at hp1
      have hp2 := hput2 { x with r := { x.r with ws := x.r.ws ++ [Wd.take p s x.r.now] } } "row" (.dat false (.list ((dueBy x.r.c (x.r.ws ++ [Wd.take p s x.r.now])).map eIs)))
      rw [pH_row] at hp2
      have hg := hs (eH b { x with r := { x.r with ws := x.r.ws ++ [Wd.take p s x.r.now] } })
      have b1 : x.r.ws.length + 1 ≤ 100000 := by omega
      rw [sSeq_e, kSeq_to [some (.own i), some (mkD q (eLn (.take p s))), some (.dat false (.int x.r.now)), some (.dat false (.str "take")), Option.none, Option.none, Option.none] S]
      rotate_left
      · rw [sIf_e, ct, kTest_f]
        simp
      rw [sSeq_e, kSeq_to [some (.own i), some (mkD q (eLn (.take p s))), some (.dat false (.int x.r.now)), some (.dat false (.str "take")), Option.none, Option.none, Option.none] S]
      rotate_left
      · simp
      rw [sSeq_e, kSeq_to [some (.own i), some (mkD q (eLn (.take p s))), some (.dat false (.int x.r.now)), some (.dat false (.str "take")), Option.none, Option.none, Option.none] (S.set i (eH b { x with r := { x.r with ws := x.r.ws ++ [Wd.take p s x.r.now] } }))]
      rotate_left
      · simp [eWd] at hp1
        simp [eLn, mkD_tup, atI1, atI2, hS, cutD3, b1, Function.comp_def, hp1]
      rw [sSeq_e, kSeq_to [some (.own i), some (mkD q (eLn (.take p s))), some (.dat false (.int x.r.now)), some (.dat false (.str "take")), Option.none, Option.none, Option.none] (S.set i (eH b ⟨x.r.hear (.take p s x.r.now), x.sent⟩))]
      rotate_left
      · simp [hg, -List.map_append, ht, hp2]
        rfl
      simp
  | done p s =>
    have q1 := dec (.done p s) (fun _ e => by cases e)
    have ct := canT_e (d := mkD q (eLn (.done p s))) (o3 := some (.dat false (.str "done"))) (o4 := none) (o5 := none) (o6 := none) (p := p) (s := s) hS (fun S => by simp [eLn, mkD_tup, atI1]) (fun S => by simp [eLn, mkD_tup, atI2])
    have eq : x.comes (.done p s) = if (!x.r.can p s || (decide (60 < x.r.now) || !decide (x.r.ws.length < 12))) = true then (false, x) else (true, ⟨x.r.hear (.done p s x.r.now), x.sent⟩) := by
      show (if (!x.r.can p s || (decide (60 < x.r.now) || !decide (x.r.ws.length < 12)) || false) = true then _ else _) = _
      rw [Bool.or_false]
      rfl
    rw [eq]
    have q2 : (!x.r.can p s || (decide (60 < x.r.now) || !decide (x.r.ws.length < 12))) = false → OkWd (ppl x.r.c) (.done p s x.r.now) ∧ x.r.ws.length < 12 := fun e => q1 (by rw [← e]; exact Bool.or_false _)
    clear q1 eq dec
    unfold canT at ct
    generalize hT : (!x.r.can p s || (decide (60 < x.r.now) || !decide (x.r.ws.length < 12))) = T at *
    unfold sem__law_can body__law_can
    rw [callS_e, if_pos (by rfl), sSeq_e, kSeq_to [some (.own i), some (mkD q (eLn (.done p s))), some (.dat false (.int x.r.now)), some (.dat false (.str "done")), Option.none, Option.none, Option.none] S]
    rotate_left
    · simp [eLn, mkD_tup, hS]
    rw [sSeq_e, kSeq_to [some (.own i), some (mkD q (eLn (.done p s))), some (.dat false (.int x.r.now)), some (.dat false (.str "done")), Option.none, Option.none, Option.none] S]
    rotate_left
    · simp
    cases T with
    | true =>
      rw [sSeq_e, sIf_e, ct, kTest_t]
      simp [same]
    | false =>
      obtain ⟨g1, g2⟩ := q2 rfl
      have ok := hear_ok k.rd g1 g2
      haveI := ok.c
      haveI : OkCh x.r.c := k.rd.c
      haveI : OkWs (ppl x.r.c) (x.r.ws ++ [Wd.done p s x.r.now]) := ok.ws
      have ht := fun S => table_F (c := x.r.c) (ws := x.r.ws ++ [Wd.done p s x.r.now]) S
      have hp1 := hput "words" (.dat false (.list ((x.r.ws ++ [Wd.done p s x.r.now]).map eWd)))
      rw [pH_words] at hp1
      have hp2 := hput2 { x with r := { x.r with ws := x.r.ws ++ [Wd.done p s x.r.now] } } "row" (.dat false (.list ((dueBy x.r.c (x.r.ws ++ [Wd.done p s x.r.now])).map eIs)))
      rw [pH_row] at hp2
      have hg := hs (eH b { x with r := { x.r with ws := x.r.ws ++ [Wd.done p s x.r.now] } })
      have b1 : x.r.ws.length + 1 ≤ 100000 := by omega
      rw [sSeq_e, kSeq_to [some (.own i), some (mkD q (eLn (.done p s))), some (.dat false (.int x.r.now)), some (.dat false (.str "done")), Option.none, Option.none, Option.none] S]
      rotate_left
      · rw [sIf_e, ct, kTest_f]
        simp
      rw [sSeq_e, kSeq_to [some (.own i), some (mkD q (eLn (.done p s))), some (.dat false (.int x.r.now)), some (.dat false (.str "done")), Option.none, Option.none, Option.none] S]
      rotate_left
      · simp
      rw [sSeq_e, kSeq_to [some (.own i), some (mkD q (eLn (.done p s))), some (.dat false (.int x.r.now)), some (.dat false (.str "done")), Option.none, Option.none, Option.none] (S.set i (eH b { x with r := { x.r with ws := x.r.ws ++ [Wd.done p s x.r.now] } }))]
      rotate_left
      · simp [eWd] at hp1
        simp [eLn, mkD_tup, atI1, atI2, hS, cutD3, b1, Function.comp_def, hp1]
      rw [sSeq_e, kSeq_to [some (.own i), some (mkD q (eLn (.done p s))), some (.dat false (.int x.r.now)), some (.dat false (.str "done")), Option.none, Option.none, Option.none] (S.set i (eH b ⟨x.r.hear (.done p s x.r.now), x.sent⟩))]
      rotate_left
      · simp [hg, -List.map_append, ht, hp2]
        rfl
      simp
  | off p s t =>
    have q1 := dec (.off p s t) (fun _ e => by cases e)
    have ct := canT_e (d := mkD q (eLn (.off p s t))) (o3 := some (.dat false (.str "off"))) (o4 := none) (o5 := none) (o6 := none) (p := p) (s := s) hS (fun S => by simp [eLn, mkD_tup, atI1]) (fun S => by simp [eLn, mkD_tup, atI2])
    have eq : x.comes (.off p s t) = if (!x.r.can p s || (decide (60 < x.r.now) || !decide (x.r.ws.length < 12)) || !(decide (1 ≤ t) && decide (t ≤ 20))) = true then (false, x) else (true, ⟨x.r.hear (.off p s x.r.now t), x.sent⟩) := by
      rfl
    rw [eq]
    have q2 : (!x.r.can p s || (decide (60 < x.r.now) || !decide (x.r.ws.length < 12)) || !(decide (1 ≤ t) && decide (t ≤ 20))) = false → OkWd (ppl x.r.c) (.off p s x.r.now t) ∧ x.r.ws.length < 12 := fun e => q1 e
    clear q1 eq dec
    unfold canT at ct
    generalize hT : (!x.r.can p s || (decide (60 < x.r.now) || !decide (x.r.ws.length < 12))) = T at *
    unfold sem__law_can body__law_can
    rw [callS_e, if_pos (by rfl), sSeq_e, kSeq_to [some (.own i), some (mkD q (eLn (.off p s t))), some (.dat false (.int x.r.now)), some (.dat false (.str "off")), Option.none, Option.none, Option.none] S]
    rotate_left
    · simp [eLn, mkD_tup, hS]
    rw [sSeq_e, kSeq_to [some (.own i), some (mkD q (eLn (.off p s t))), some (.dat false (.int x.r.now)), some (.dat false (.str "off")), Option.none, Option.none, Option.none] S]
    rotate_left
    · simp
    cases T with
    | true =>
      rw [sSeq_e, sIf_e, ct, kTest_t]
      simp [same]
    | false =>
      rw [sSeq_e, kSeq_to [some (.own i), some (mkD q (eLn (.off p s t))), some (.dat false (.int x.r.now)), some (.dat false (.str "off")), Option.none, Option.none, Option.none] S]
      rotate_left
      · rw [sIf_e, ct, kTest_f]
        simp
      by_cases t1 : 1 ≤ t
      · by_cases t2 : t ≤ 20
        · obtain ⟨g1, g2⟩ := q2 (by simp [t1, t2])
          have ok := hear_ok k.rd g1 g2
          haveI := ok.c
          haveI : OkCh x.r.c := k.rd.c
          haveI : OkWs (ppl x.r.c) (x.r.ws ++ [Wd.off p s x.r.now t]) := ok.ws
          have ht := fun S => table_F (c := x.r.c) (ws := x.r.ws ++ [Wd.off p s x.r.now t]) S
          have hp1 := hput "words" (.dat false (.list ((x.r.ws ++ [Wd.off p s x.r.now t]).map eWd)))
          rw [pH_words] at hp1
          have hp2 := hput2 { x with r := { x.r with ws := x.r.ws ++ [Wd.off p s x.r.now t] } } "row" (.dat false (.list ((dueBy x.r.c (x.r.ws ++ [Wd.off p s x.r.now t])).map eIs)))
          rw [pH_row] at hp2
          have hg := hs (eH b { x with r := { x.r with ws := x.r.ws ++ [Wd.off p s x.r.now t] } })
          have b1 : x.r.ws.length + 1 ≤ 100000 := by omega
          rw [sSeq_e, kSeq_to [some (.own i), some (mkD q (eLn (.off p s t))), some (.dat false (.int x.r.now)), some (.dat false (.str "off")), Option.none, Option.none, Option.none] S]
          rotate_left
          · simp [eLn, mkD_tup, atI3, t1, t2]
          rw [sSeq_e, kSeq_to [some (.own i), some (mkD q (eLn (.off p s t))), some (.dat false (.int x.r.now)), some (.dat false (.str "off")), Option.none, Option.none, Option.none] (S.set i (eH b { x with r := { x.r with ws := x.r.ws ++ [Wd.off p s x.r.now t] } }))]
          rotate_left
          · simp [eWd] at hp1
            simp [eLn, mkD_tup, atI1, atI2, hS, cutD3, b1, Function.comp_def, hp1]
          rw [sSeq_e, kSeq_to [some (.own i), some (mkD q (eLn (.off p s t))), some (.dat false (.int x.r.now)), some (.dat false (.str "off")), Option.none, Option.none, Option.none] (S.set i (eH b ⟨x.r.hear (.off p s x.r.now t), x.sent⟩))]
          rotate_left
          · simp [hg, -List.map_append, ht, hp2]
            rfl
          simp [t1, t2]
        · simp [eLn, mkD_tup, atI3, t1, t2, same]
      · simp [eLn, mkD_tup, atI3, t1, same]
end
end Nc
set_option Elab.async false
set_option linter.all false
set_option maxRecDepth 100000
set_option maxHeartbeats 1000000
namespace Nc
open PySem PySem.Spec PyProof.Rows L2
local macro_rules | `(tactic| walk_at "nc") => `(tactic| repeat (first | simp [atI, ixN, zipI, cutG, HT.sIx, Function.comp_def] | simp (disch := first | assumption | omega) only [oIntC_p, le_T, le_F, lt_T, lt_F, bq_F, in_T, in_F] | rw [if_pos (by omega)] | rw [if_neg (by omega)] | omega))
theorem hwrong_loop {b q : Bool} {X Y Z : Option OV} {i : Nat} : ∀ (ls : List Ln) (n : Nat) (x : Hd) (S : Sto), S[i]? = some (eH b x) → OkHd x → ∃ S',
    kCall (kSeq (forL (turnS (bTup 2 (bCons (bName 4) (bCons (bName 5) bNil))) (sIf (xNot (xB (xCallM sem__law_can 2 (xCons (xVar 3) (xCons (xVar 5) xNil))))) (sRet (xVar 4)) sNext) [4, 5]) (fun _ => True) ((ls.zipIdx n).map fun p => mkD q (.tuple [.int (p.2 : Int), eLn p.1])) [X, Y, Z, some (.own i), none, none] S) (sRet (xNeg (xC (.int 1))))) = some (.dat false (.int (wrongAt x.r ls n)), S')
  | [], n, x, S, h, k => ⟨S, by simp [wrongAt]⟩
  | l :: ls, n, x, S, h, k => by
    have e1 := hcan_e h k l (q && !flat (eLn l))
    obtain ⟨r1, r2⟩ := hcomes_r x l
    unfold wrongAt
    rw [← r1]
    cases e : (x.comes l).1 with
    | false =>
      rw [e] at e1
      refine ⟨S.set i (eH b (x.comes l).2), ?_⟩
      rw [List.zipIdx_cons, List.map_cons]
      generalize S.set i (eH b (x.comes l).2) = S1 at *
      simp [xCallM, e1, mkD_tup]
    | true =>
      have r3 := r2 e
      obtain ⟨S2, h3⟩ := hwrong_loop (b := b) (q := q) (X := X) (Y := Y) (Z := Z) (i := i) ls (n + 1) (x.comes l).2 _ (set_get h _) (hcomes_ok k l)
      rw [r3] at h3
      rw [e] at e1
      refine ⟨S2, ?_⟩
      rw [List.zipIdx_cons, List.map_cons]
      simp only [if_true]
      rw [← h3]
      generalize List.map (fun p : Ln × Nat => mkD q (.tuple [.int (p.2 : Int), eLn p.1])) (ls.zipIdx (n + 1)) = rr
      generalize S.set i (eH b (x.comes l).2) = S1 at *
      simp [xCallM, e1, mkD_tup]
theorem hwrong_e {c : List Lev} [hc : OkCh c] (b d : Bool) {h : Int} (h0 : 0 ≤ h) (h1 : h ≤ 100) (ls : List Ln) : Gives (sem__law_wrong [.dat b (eCh c), .dat false (.int h), .dat d (eLns ls)] []) (.dat false (.int (wrongOf c h ls))) := by
  have hi := hnew_e (c := c) b h []
  simp only [List.length_nil, List.nil_append] at hi
  obtain ⟨S', e⟩ := hwrong_loop (b := b) (q := d) (X := some (.dat b (eCh c))) (Y := some (.dat false (.int h))) (Z := some (.dat d (eLns ls))) (i := 0) ls 0 (Hd.new c h) [eH b (Hd.new c h)] rfl (hnew_ok h0 h1)
  refine ⟨S', ?_⟩
  unfold sem__law_wrong body__law_wrong
  rw [show wrongOf c h ls = wrongAt (Hd.new c h).r ls 0 from rfl, ← e]
  simp [xCallM, hi, enumI_mk, Function.comp_def]
/-! ### a for with a way out -/
theorem forL_rt {bd : OV → SS} {α β : Type} (E : β → Env) (T : β → Sto) (P : Nat → β → Prop) (R : β → Prop) (en : α → OV) (v : OV) : ∀ (xs : List α) (n : Nat) (a : β), P n a →
    (∀ i a x, xs[i]? = some x → P (n + i) a → ∃ a', (bd (en x) (E a) (T a) = some (.nx, E a', T a') ∧ P (n + i + 1) a') ∨ ((∃ r, bd (en x) (E a) (T a) = some (.rt v, r, T a')) ∧ R a')) →
    (∀ a, P (n + xs.length) a → R a) →
    ∃ a', R a' ∧ (forL bd (fun _ => True) (xs.map en) (E a) (T a) = some (.nx, E a', T a') ∨ ∃ r, forL bd (fun _ => True) (xs.map en) (E a) (T a) = some (.rt v, r, T a'))
  | [], n, a, h0, _, k => ⟨a, k a h0, .inl (by simp)⟩
  | x :: xs, n, a, h0, h, k => by
    obtain ⟨a1, h1⟩ := h 0 a x rfl h0
    rcases h1 with ⟨h1, h2⟩ | ⟨⟨r, h1⟩, h2⟩
    · obtain ⟨a2, h3, h4⟩ := forL_rt (bd := bd) E T P R en v xs (n + 1) a1 h2 (fun i a y hy hp => by
        have := h (i + 1) a y (by simpa using hy) (by rw [show n + (i + 1) = n + 1 + i by omega]; exact hp)
        rw [show n + 1 + i = n + (i + 1) by omega]
        exact this) (fun a hp => k a (by rw [List.length_cons, show n + (xs.length + 1) = n + 1 + xs.length by omega]; exact hp))
      refine ⟨a2, h3, ?_⟩
      rw [List.map_cons, forL_c, h1, kFor_nx]
      exact h4
    · refine ⟨a1, h2, .inr ⟨r, ?_⟩⟩
      rw [List.map_cons, forL_c, h1]
      rfl
theorem for_exr {bd : OV → SS} {α β C : Type} {f : SS} (E : β → Env) (T : β → Sto) (P : Nat → β → Prop) (R : β → Prop) (en : α → OV) (v : OV) (xs : List α) (a : β) {Q : C → Prop} {d : C → PyData} (h0 : P 0 a) (hR : ∀ a, P xs.length a → R a)
    (h : ∀ i a x, xs[i]? = some x → P i a → ∃ a', (bd (en x) (E a) (T a) = some (.nx, E a', T a') ∧ P (i + 1) a') ∨ ((∃ r, bd (en x) (E a) (T a) = some (.rt v, r, T a')) ∧ R a'))
    (k : ∀ a', R a' → ∃ c, Q c ∧ Gives (natD (kCall (f (E a') (T a')))) (.dat false (d c)) ∧ Gives (natD (some (v, T a'))) (.dat false (d c))) :
    ∃ c, Q c ∧ Gives (natD (kCall (kSeq (forL bd (fun _ => True) (xs.map en) (E a) (T a)) f))) (.dat false (d c)) := by
  obtain ⟨a', hr, e⟩ := forL_rt (bd := bd) E T P R en v xs 0 a h0 (by simpa using h) (by simpa using hR)
  obtain ⟨c, q, g1, g2⟩ := k a' hr
  refine ⟨c, q, ?_⟩
  rcases e with e | ⟨r, e⟩
  · rw [e]; exact g1
  · rw [e]; exact g2
/-! ### a tale that can be -/
/-- the lines bring the round there -/
def Runs (c : List Lev) (h : Int) (ls : List Ln) (y : Rd) : Prop := ∀ more, wrongAt (Rd.new c h) (ls ++ more) 0 = wrongAt y more ls.length
theorem Runs.nil (c : List Lev) (h : Int) : Runs c h [] (Rd.new c h) := fun _ => rfl
theorem Runs.snoc {c : List Lev} {h : Int} {ls : List Ln} {y : Rd} {l : Ln} (r : Runs c h ls y) (e : (y.comes l).1 = true) : Runs c h (ls ++ [l]) (y.comes l).2 := fun more => by
  rw [List.append_assoc, r ([l] ++ more)]
  show wrongAt y (l :: more) ls.length = _
  rw [wrongAt, if_pos e, List.length_append]
  rfl
theorem Runs.right {c : List Lev} {h : Int} {ls : List Ln} {y : Rd} (r : Runs c h ls y) : wrongOf c h ls = -1 := by
  have := r []
  rw [List.append_nil] at this
  exact this
theorem hcomes_F {x : Hd} {l : Ln} (h : (x.comes l).1 = false) : (x.comes l).2 = x := by
  unfold Hd.comes at h ⊢
  cases l with
  | tick ps =>
    simp only at h ⊢
    split
    · rfl
    · rename_i e
      rw [if_neg e] at h
      split
      · rename_i e2
        rw [if_pos e2] at h
        cases h
      · rfl
  | _ =>
    simp only at h ⊢
    split
    · rfl
    · rename_i e
      rw [if_neg e] at h
      cases h
structure Tale (c : List Lev) (h : Int) (x : Hd) (ls : List Ln) : Prop where
  ok : OkHd x
  cc : x.r.c = c
  hh : x.r.h = h
  run : Runs c h ls x.r
  few : ∀ l ∈ ls, ∀ ps, l = .tick ps → ps.length ≤ 3
theorem hcomes_c (x : Hd) (l : Ln) : (x.comes l).2.r.c = x.r.c ∧ (x.comes l).2.r.h = x.r.h := by
  unfold Hd.comes
  cases l with
  | tick ps => simp only; split <;> (try split) <;> exact ⟨rfl, rfl⟩
  | _ => simp only; split <;> exact ⟨rfl, rfl⟩
theorem Tale.more {c : List Lev} {h : Int} {x : Hd} {ls : List Ln} (t : Tale c h x ls) {l : Ln} (e : (x.comes l).1 = true) (hf : ∀ ps, l = .tick ps → ps.length ≤ 3) : Tale c h (x.comes l).2 (ls ++ [l]) := by
  obtain ⟨r1, r2⟩ := hcomes_r x l
  refine ⟨hcomes_ok t.ok l, by rw [(hcomes_c x l).1]; exact t.cc, by rw [(hcomes_c x l).2]; exact t.hh, ?_, fun k hk => ?_⟩
  · rw [r2 e]
    exact t.run.snoc (by rw [← r1]; exact e)
  · rcases List.mem_append.mp hk with h1 | h1
    · exact t.few k h1
    · simp at h1; subst h1; exact hf
theorem Tale.fewb {c : List Lev} {h : Int} {x : Hd} {ls : List Ln} (t : Tale c h x ls) : ∀ l ∈ ls, l.few = true := fun l hl => by
  cases l with
  | tick ps => have := t.few _ hl ps rfl; exact decide_eq_true (by omega)
  | _ => rfl
theorem Tale.right {c : List Lev} {h : Int} {x : Hd} {ls : List Ln} (t : Tale c h x ls) : wrongOf c h ls = -1 := t.run.right
end Nc
set_option Elab.async false
set_option linter.all false
set_option maxRecDepth 100000
set_option maxHeartbeats 1000000
namespace Nc
open PySem PySem.Spec PyProof.Rows L2
local macro_rules | `(tactic| walk_at "nc") => `(tactic| repeat (first | simp [atI, ixN, zipI, cutG, HT.sIx, Function.comp_def] | simp (disch := first | assumption | omega) only [oIntC_p, le_T, le_F, lt_T, lt_F, bq_F, in_T, in_F] | rw [if_pos (by omega)] | rw [if_neg (by omega)] | omega))
/-! ### a nag that hears words when they are heard -/
def lnOf : Wd → Ln
  | .take p s _ => .take p s
  | .off p s _ t => .off p s t
  | .done p s _ => .done p s
theorem lnOf_wd {w : Wd} {n : Int} (h : w.h = n) : (lnOf w).wd n = w := by cases w <;> (simp only [Wd.h] at h; subst h; rfl)
def now (ws : List Wd) (t : Nat) : List Wd := ws.filter fun w => w.h == (t : Int)
/-- a nag at tick t, ahead of it: what it heard, sent and noted -/
structure Way (c : List Lev) (ws : List Wd) (h : Int) (t : Nat) (x : Ng) : Prop where
  ok : OkNg x
  cc : x.r.c = c
  hh : x.r.h = h
  nw : x.r.now = (t : Int)
  ks : x.r.ws.Perm (ws.filter fun w => decide (w.h < (t : Int)))
  lg : x.lg = prs ((sentBy c ws h).take (t - h.toNat))
  run : Runs c h x.ls x.r
  few : ∀ l ∈ x.ls, ∀ ps, l = .tick ps → ps.length ≤ 3
/-- .. amid it: some of the words of the tick were heard -/
structure Amid (c : List Lev) (ws : List Wd) (h : Int) (t : Nat) (L : List Wd) (x : Ng) : Prop where
  ok : OkNg x
  cc : x.r.c = c
  hh : x.r.h = h
  nw : x.r.now = (t : Int)
  ks : x.r.ws.Perm ((ws.filter fun w => decide (w.h < (t : Int))) ++ L)
  lg : x.lg = prs ((sentBy c ws h).take (t - h.toNat))
  run : Runs c h x.ls x.r
  few : ∀ l ∈ x.ls, ∀ ps, l = .tick ps → ps.length ≤ 3
theorem filt_len {α : Type} (p q : α → Bool) (hd : ∀ x, p x = true → q x = false) : ∀ xs : List α, (xs.filter p).length + (xs.filter q).length ≤ xs.length
  | [] => by simp
  | x :: xs => by
    have ih := filt_len p q hd xs
    rw [List.filter_cons, List.filter_cons]
    cases hp : p x with
    | true => rw [hd x hp]; simp; omega
    | false => cases q x <;> simp <;> omega
theorem filt_perm {α : Type} (p q r : α → Bool) (hr : ∀ x, r x = (p x || q x)) (hd : ∀ x, p x = true → q x = false) : ∀ xs : List α, (xs.filter p ++ xs.filter q).Perm (xs.filter r)
  | [] => by simp
  | x :: xs => by
    have ih := filt_perm p q r hr hd xs
    rw [List.filter_cons, List.filter_cons, List.filter_cons, hr x]
    cases hp : p x with
    | true => rw [hd x hp]; simpa using ih.cons x
    | false =>
      cases hq : q x with
      | true => simp only [Bool.false_or, if_true]; exact List.perm_middle.trans (ih.cons x)
      | false => simpa using ih
theorem now_len (ws : List Wd) (t : Nat) : (ws.filter fun w => decide (w.h < (t : Int))).length + (now ws t).length ≤ ws.length :=
  filt_len _ _ (fun w hw => by simp at hw ⊢; omega) ws
theorem wd_can {c : List Lev} {w : Wd} (k : OkWd (ppl c) w) {x : Rd} (hc : x.c = c) (hn : w.h = x.now) : x.can (lnOf w).pq.1 (lnOf w).pq.2 = true ∧ (lnOf w).bad = false := by
  have h1 := k.p; have h2 := k.s0; have h3 := k.s40; have h4 := k.hs; have h5 := k.t
  unfold Rd.can
  rw [hc]
  cases w with
  | take p s h => simp only [Wd.p, Wd.s, Wd.h] at *; exact ⟨by simp only [lnOf, Ln.pq, Bool.and_eq_true]; exact ⟨decide_eq_true h1, decide_eq_true h2, decide_eq_true (by omega)⟩, rfl⟩
  | done p s h => simp only [Wd.p, Wd.s, Wd.h] at *; exact ⟨by simp only [lnOf, Ln.pq, Bool.and_eq_true]; exact ⟨decide_eq_true h1, decide_eq_true h2, decide_eq_true (by omega)⟩, rfl⟩
  | off p s h t =>
    obtain ⟨t1, t2⟩ := h5 _ _ _ _ rfl
    simp only [Wd.p, Wd.s, Wd.h] at *
    exact ⟨by simp only [lnOf, Ln.pq, Bool.and_eq_true]; exact ⟨decide_eq_true h1, decide_eq_true h2, decide_eq_true (by omega)⟩, by simp [lnOf, Ln.bad, t1, t2]⟩
theorem comes_hear {x : Rd} {l : Ln} (nt : ∀ ps, l ≠ .tick ps) (h1 : x.can l.pq.1 l.pq.2 = true) (h2 : l.bad = false) (h3 : x.now ≤ 60) (h4 : x.ws.length < 12) : x.comes l = (true, x.hear (l.wd x.now)) := by
  have : x.comes l = x.hears l := by cases l <;> first | exact absurd rfl (nt _) | rfl
  rw [this]
  unfold Rd.hears
  rw [if_neg]
  simp only [h1, h2, h4, decide_true, Bool.not_true, Bool.or_false, Bool.false_or, decide_eq_true_eq]
  omega
theorem Amid.hear {c : List Lev} {ws : List Wd} {h : Int} {t : Nat} {L : List Wd} {x : Ng} (a : Amid c ws h t L x) {w : Wd} (k : OkWd (ppl c) w) (hn : w.h = (t : Int)) (t60 : t ≤ 60) (hl : x.r.ws.length < 12) (ok : OkNg (x.hear (lnOf w))) : Amid c ws h t (L ++ [w]) (x.hear (lnOf w)) := by
  have hw : (lnOf w).wd x.r.now = w := lnOf_wd (by rw [a.nw]; exact hn)
  obtain ⟨c1, c2⟩ := wd_can k a.cc (by rw [a.nw]; exact hn)
  have nt : ∀ ps, lnOf w ≠ .tick ps := fun ps e => by cases w <;> cases e
  have hc := comes_hear nt c1 c2 (by rw [a.nw]; omega) hl
  refine ⟨ok, a.cc, a.hh, a.nw, ?_, a.lg, ?_, fun l hl' ps e => ?_⟩
  · show (x.r.ws ++ [(lnOf w).wd x.r.now]).Perm _
    rw [hw, ← List.append_assoc]
    exact a.ks.append_right [w]
  · have := a.run.snoc (l := lnOf w) (by rw [hc])
    rw [hc] at this
    exact this
  · rcases List.mem_append.mp hl' with h1 | h1
    · exact a.few l h1 ps e
    · simp at h1; subst h1; exact absurd e (nt ps)
theorem prs_snocR : ∀ (a : List (List Int)) (r : List Int), prs (a ++ [r]) = prs a ++ r.map fun p => ((a.length : Int), p) := fun a r => by
  unfold prs
  rw [List.zipIdx_append, List.flatMap_append]
  simp
theorem Amid.pass {c : List Lev} {ws : List Wd} [hc : OkCh c] [hw : OkWs (ppl c) ws] {h : Int} (h0 : 0 ≤ h) {t : Nat} {x : Ng} (a : Amid c ws h t (now ws t) x) (ht : (t : Int) ≤ 60 + h) (ok : OkNg x.pass) : Way c ws h (t + 1) x.pass := by
  have hk : x.r.ws.Perm (ws.filter fun w => decide (w.h < ((t + 1 : Nat) : Int))) := a.ks.trans (filt_perm _ _ _ (fun w => by
    rw [Bool.eq_iff_iff]; simp; omega) (fun w hw => by simp at hw ⊢; omega) ws)
  have hh : x.r.ws.Perm (heard ws (t : Int)) := by
    have e : (ws.filter fun w => decide (w.h < ((t + 1 : Nat) : Int))) = heard ws (t : Int) := by
      unfold heard
      congr 1
      funext w
      rw [Bool.eq_iff_iff]; simp; omega
    rw [← e]; exact hk
  have row : x.r.row = dueBy c (heard ws (t : Int)) := by rw [a.ok.rd.row, a.cc]; exact dueBy_perm hh
  have hr := a.ok.rd.row
  have comes : x.r.comes (.tick x.r.toll) = (true, x.r.pass) := by
    show (if 60 + x.r.h < x.r.now then (false, x.r) else (decide (x.r.toll = x.r.toll), x.r.pass)) = _
    rw [if_neg (by rw [a.hh, a.nw]; omega)]
    simp
  refine ⟨ok, a.cc, a.hh, by show x.r.now + 1 = _; rw [a.nw]; omega, hk, ?_, ?_, fun l hl ps e => ?_⟩
  · show x.lg ++ x.r.toll.map (fun p => (x.r.now - x.r.h, p)) = _
    rw [a.lg]
    have tl : x.r.toll = if 0 ≤ (t : Int) - h then ((dueBy c (heard ws (t : Int)))[t - h.toNat]?).getD [] else [] := by
      unfold Rd.toll
      rw [a.nw, a.hh, row]
      split
      · rw [List.getD_eq_getElem?_getD]
        congr 2
        omega
      · rfl
    by_cases e : 0 ≤ (t : Int) - h
    · rw [if_pos e] at tl
      have i1 : t + 1 - h.toNat = (t - h.toNat) + 1 := by omega
      have i2 : t - h.toNat < 61 := by omega
      have sl := (sentBy_len (c := c) (ws := ws) (h := h)).1
      have sg : (sentBy c ws h)[t - h.toNat]? = some x.r.toll := by
        unfold sentBy
        rw [List.getElem?_map, List.getElem?_range i2, tl]
        simp only [Option.map_some]
        have e3 : ((t - h.toNat : Nat) : Int) + h = (t : Int) := by omega
        rw [e3]
      rw [i1, List.take_add_one, sg, Option.toList_some, prs_snocR]
      congr 1
      rw [List.length_take, sl, a.nw, a.hh]
      have e4 : ((min (t - h.toNat) 61 : Nat) : Int) = (t : Int) - h := by omega
      rw [e4]
    · rw [if_neg e] at tl
      rw [tl, show t + 1 - h.toNat = 0 by omega, show t - h.toNat = 0 by omega]
      simp
  · have := a.run.snoc (l := .tick x.r.toll) (by rw [comes])
    rw [comes] at this
    exact this
  · rcases List.mem_append.mp hl with h1 | h1
    · exact a.few l h1 ps e
    · simp at h1; subst h1; cases e; exact a.ok.rd.toll
theorem Way.start {c : List Lev} {ws : List Wd} {h : Int} {t : Nat} {x : Ng} (a : Way c ws h t x) : Amid c ws h t [] x := ⟨a.ok, a.cc, a.hh, a.nw, by rw [List.append_nil]; exact a.ks, a.lg, a.run, a.few⟩
theorem way_new {c : List Lev} [hc : OkCh c] {ws : List Wd} [hw : OkWs (ppl c) ws] {h : Int} (h0 : 0 ≤ h) (h60 : h ≤ 60) (S : Sto) : Way c ws h 0 (Ng.new c h) := by
  have k := Nnew_at (c := c) h0 h60 S
  refine ⟨k.ok, rfl, rfl, rfl, ?_, ?_, Runs.nil c h, by intro l hl; simp [Ng.new] at hl⟩
  · have : (ws.filter fun w => decide (w.h < ((0 : Nat) : Int))) = [] := List.filter_eq_nil_iff.mpr fun w hm => by
      have := (hw.wd w hm).s0; have := (hw.wd w hm).hs
      simp; omega
    rw [this]
    exact .refl _
  · rw [show 0 - h.toNat = 0 by omega]
    rfl
theorem Way.all {c : List Lev} {ws : List Wd} [hc : OkCh c] [hw : OkWs (ppl c) ws] {h : Int} (h0 : 0 ≤ h) {t : Nat} {x : Ng} (a : Way c ws h t x) (ht : (t : Int) = 61 + h) : x.lg = sentPs c ws h ∧ x.r.ws.Perm ws ∧ wrongOf c h x.ls = -1 ∧ wrongOf c h (x.ls ++ [.tick []]) = x.ls.length := by
  refine ⟨?_, ?_, a.run.right, ?_⟩
  · rw [a.lg, List.take_of_length_le]
    rw [(sentBy_len (c := c) (ws := ws) (h := h)).1]
    omega
  · refine a.ks.trans (List.Perm.of_eq (List.filter_eq_self.mpr fun w hm => ?_))
    have := (hw.wd w hm).h60
    simp; omega
  · have := a.run [.tick []]
    show wrongAt (Rd.new c h) (x.ls ++ [.tick []]) 0 = _
    rw [this, wrongAt, if_neg]
    show ¬ (if 60 + x.r.h < x.r.now then (false, x.r) else (decide (x.r.toll = []), x.r.pass)).1 = true
    rw [if_pos (by rw [a.hh, a.nw]; omega)]
    simp
end Nc
set_option Elab.async false
set_option linter.all false
set_option maxRecDepth 100000
set_option maxHeartbeats 1000000
namespace Nc
open PySem PySem.Spec PyProof.Rows L2
local macro_rules | `(tactic| walk_at "nc") => `(tactic| repeat (first | simp [atI, ixN, zipI, cutG, HT.sIx, Function.comp_def] | simp (disch := first | assumption | omega) only [oIntC_p, le_T, le_F, lt_T, lt_F, bq_F, in_T, in_F] | rw [if_pos (by omega)] | rw [if_neg (by omega)] | omega))
section
variable {c : List Lev} {ws : List Wd} [hc : OkCh c] [hw : OkWs (ppl c) ws] {h : Int} {v0 v1 v2 : Option OV} {i : Nat}
abbrev E12 (v0 v1 v2 : Option OV) (i : Nat) (v4 v5 : Option OV) : Env := [v0, v1, v2, some (.own i), v4, v5]
noncomputable abbrev bodyW : SS := (sIf (xB (xOp (oEq false) (xOp oIx (xVar 5) (xC (.int 0))) (xC (.str "take")))) (sDrop (xMeth "Nag" "take" sem_Nag_take 3 (xVar 3) (xCons (xOp oIx (xVar 5) (xC (.int 1))) (xCons (xOp oIx (xVar 5) (xC (.int 2))) xNil)))) (sIf (xB (xOp (oEq false) (xOp oIx (xVar 5) (xC (.int 0))) (xC (.str "done")))) (sDrop (xMeth "Nag" "finish" sem_Nag_finish 3 (xVar 3) (xCons (xOp oIx (xVar 5) (xC (.int 1))) (xCons (xOp oIx (xVar 5) (xC (.int 2))) xNil)))) (sDrop (xMeth "Nag" "put_off" sem_Nag_put_off 4 (xVar 3) (xCons (xOp oIx (xVar 5) (xC (.int 1))) (xCons (xOp oIx (xVar 5) (xC (.int 2))) (xCons (xOp oIx (xVar 5) (xC (.int 4))) xNil)))))))
theorem hear_one {t : Nat} {L : List Wd} {x : Ng} {S : Sto} (a : Amid c ws h t L x) (n : NgAt S i x) {w : Wd} (k : OkWd (ppl c) w) (hn : w.h = (t : Int)) (t60 : t ≤ 60) (hl : x.r.ws.length < 12) :
    ∃ x' S', turnS (bName 5) bodyW [5] (.dat false (eWd w)) (E12 v0 v1 v2 i (some (.dat false (.int (t : Int)))) none) S = some (.nx, E12 v0 v1 v2 i (some (.dat false (.int (t : Int)))) none, S') ∧ Amid c ws h t (L ++ [w]) x' ∧ NgAt S' i x' ∧ Kn S S' i := by
  obtain ⟨c1, c2⟩ := wd_can k a.cc (by rw [a.nw]; exact hn)
  have n60 : x.r.now ≤ 60 := by rw [a.nw]; omega
  have nn := n.n
  cases w with
  | take p s hh =>
    obtain ⟨S', e1, e2, e3⟩ := take_n n (p := p) (s := s) c1 n60 hl
    refine ⟨_, S', ?_, a.hear k hn t60 hl e2.ok, e2, e3⟩
    unfold bodyW
    simp [eWd, atI1, atI2, nn, e1]
  | done p s hh =>
    obtain ⟨S', e1, e2, e3⟩ := done_n n (p := p) (s := s) c1 n60 hl
    refine ⟨_, S', ?_, a.hear k hn t60 hl e2.ok, e2, e3⟩
    unfold bodyW
    simp [eWd, atI1, atI2, nn, e1]
  | off p s hh tt =>
    obtain ⟨t1, t2⟩ := k.t _ _ _ _ rfl
    obtain ⟨S', e1, e2, e3⟩ := off_n n (p := p) (s := s) (t := tt) c1 t1 t2 n60 hl
    refine ⟨_, S', ?_, a.hear k hn t60 hl e2.ok, e2, e3⟩
    unfold bodyW
    simp [eWd, atI1, atI2, atI4, nn, e1]
theorem hear_loop {t : Nat} (t60 : t ≤ 60) : ∀ (L1 L : List Wd) (x : Ng) (S : Sto), now ws t = L ++ L1 → Amid c ws h t L x → NgAt S i x →
    ∃ x' S', forL (turnS (bName 5) bodyW [5]) (fun _ => True) (L1.map fun w => .dat false (eWd w)) (E12 v0 v1 v2 i (some (.dat false (.int (t : Int)))) none) S = some (.nx, E12 v0 v1 v2 i (some (.dat false (.int (t : Int)))) none, S') ∧ Amid c ws h t (L ++ L1) x' ∧ NgAt S' i x' ∧ Kn S S' i
  | [], L, x, S, e, a, n => ⟨x, S, by simp, by rw [List.append_nil]; exact a, n, Kn.refl⟩
  | w :: L1, L, x, S, e, a, n => by
    have hm : w ∈ now ws t := by rw [e]; simp
    obtain ⟨hm1, hm2⟩ := List.mem_filter.mp hm
    have hl : x.r.ws.length < 12 := by
      have h1 := a.ks.length_eq
      have h2 := now_len ws t
      have h3 := hw.len
      rw [e] at h2
      simp at h1 h2
      omega
    obtain ⟨x1, S1, e1, a1, n1, k1⟩ := hear_one (v0 := v0) (v1 := v1) (v2 := v2) a n (hw.wd w hm1) (by simpa using hm2) t60 hl
    obtain ⟨x2, S2, e2, a2, n2, k2⟩ := hear_loop t60 L1 (L ++ [w]) x1 S1 (by rw [e]; simp) a1 n1
    refine ⟨x2, S2, ?_, by rw [List.append_assoc] at a2; exact a2, n2, k1.trans k2⟩
    rw [List.map_cons, forL_c, e1, kFor_nx, e2]
noncomputable abbrev bodyT : SS := (sSeq (sFor (xiList (xDat (xLc (xiList (xVar 1)) (bName 5) (xB (xOp (oEq false) (xOp oIx (xVar 5) (xC (.int 3))) (xVar 4))) (xVar 5) [5]))) (bName 5) bodyW [5])
  (sDrop (xMeth "Nag" "pass_tick" sem_Nag_pass_tick 1 (xVar 3) xNil)))
theorem tick_one (h0 : 0 ≤ h) {b : Bool} {t : Nat} (ht : (t : Int) ≤ 60 + h) {x : Ng} {S : Sto} (a : Way c ws h t x) (n : NgAt S i x) :
    ∃ x' S', turnS (bName 4) bodyT [4, 5] (.dat false (.int (t : Int))) (E12 v0 (some (.dat b (eWs ws))) v2 i none none) S = some (.nx, E12 v0 (some (.dat b (eWs ws))) v2 i none none, S') ∧ Way c ws h (t + 1) x' ∧ NgAt S' i x' ∧ Kn S S' i := by
  have hwl := hw.len
  have fst : ∃ x' S', sFor (xiList (xDat (xLc (xiList (xVar 1)) (bName 5) (xB (xOp (oEq false) (xOp oIx (xVar 5) (xC (.int 3))) (xVar 4))) (xVar 5) [5]))) (bName 5) bodyW [5] (E12 v0 (some (.dat b (eWs ws))) v2 i (some (.dat false (.int (t : Int)))) none) S = some (.nx, E12 v0 (some (.dat b (eWs ws))) v2 i (some (.dat false (.int (t : Int)))) none, S') ∧ Amid c ws h t (now ws t) x' ∧ NgAt S' i x' ∧ Kn S S' i := by
    have src : sFor (xiList (xDat (xLc (xiList (xVar 1)) (bName 5) (xB (xOp (oEq false) (xOp oIx (xVar 5) (xC (.int 3))) (xVar 4))) (xVar 5) [5]))) (bName 5) bodyW [5] (E12 v0 (some (.dat b (eWs ws))) v2 i (some (.dat false (.int (t : Int)))) none) S = forL (turnS (bName 5) bodyW [5]) (fun _ => True) ((now ws t).map fun w => .dat false (eWd w)) (E12 v0 (some (.dat b (eWs ws))) v2 i (some (.dat false (.int (t : Int)))) none) S := by
      rw [sFor_e]
      have : xiList (xDat (xLc (xiList (xVar 1)) (bName 5) (xB (xOp (oEq false) (xOp oIx (xVar 5) (xC (.int 3))) (xVar 4))) (xVar 5) [5])) (E12 v0 (some (.dat b (eWs ws))) v2 i (some (.dat false (.int (t : Int)))) none) S = some (⟨(now ws t).map fun w => .dat false (eWd w), fun _ => True⟩, S) := by
        simp [Function.comp_def]
        rw [if_pos (by omega), compL_ev (fun w => .dat false (eWd w)) (fun w : Wd => w.h == (t : Int)) (fun w => .dat false (eWd w)) ws (fun w hm => ⟨_, rfl, ?_, fun _ => ?_⟩)]
        · simp [now, Function.comp_def]
        · cases w <;> simp [eWd, atI3, Wd.h]
        · simp
      rw [this]
      rfl
    rw [src]
    by_cases t60 : t ≤ 60
    · exact hear_loop t60 (now ws t) [] x S rfl a.start n
    · have e : now ws t = [] := List.filter_eq_nil_iff.mpr fun w hm => by
        have := (hw.wd w hm).h60
        simp; omega
      rw [e]
      exact ⟨x, S, by simp, by have := a.start; exact this, n, Kn.refl⟩
  obtain ⟨x1, S1, e1, a1, n1, k1⟩ := fst
  have nn := n1.n
  obtain ⟨S2, e2, n2, _, k2, _⟩ := pass_n n1 (by rw [a1.nw, a1.hh]; omega)
  refine ⟨x1.pass, S2, ?_, a1.pass h0 ht n2.ok, n2, k1.trans k2⟩
  simp only [turnS_e, bName_e, kBind_e, List.set_cons_succ, List.set_cons_zero]
  unfold bodyT
  rw [sSeq_e, kSeq_to _ _ e1]
  simp [nn, e2]
theorem tick_loop (h0 : 0 ≤ h) {b : Bool} : ∀ (n t : Nat) (x : Ng) (S : Sto), (t : Int) + n = 61 + h → Way c ws h t x → NgAt S i x →
    ∃ x' S', forL (turnS (bName 4) bodyT [4, 5]) (fun _ => True) ((List.range' t n).map fun (k : Nat) => .dat false (.int (k : Int))) (E12 v0 (some (.dat b (eWs ws))) v2 i none none) S = some (.nx, E12 v0 (some (.dat b (eWs ws))) v2 i none none, S') ∧ Way c ws h (t + n) x' ∧ NgAt S' i x' ∧ Kn S S' i
  | 0, t, x, S, e, a, n => ⟨x, S, by simp, a, n, Kn.refl⟩
  | m + 1, t, x, S, e, a, n => by
    obtain ⟨x1, S1, e1, a1, n1, k1⟩ := tick_one (v0 := v0) (v2 := v2) (b := b) h0 (by omega) a n
    obtain ⟨x2, S2, e2, a2, n2, k2⟩ := tick_loop h0 m (t + 1) x1 S1 (by omega) a1 n1
    refine ⟨x2, S2, ?_, by rw [show t + (m + 1) = t + 1 + m by omega]; exact a2, n2, k1.trans k2⟩
    rw [List.range'_succ, List.map_cons, forL_c, e1, kFor_nx, e2]
end
theorem lawnag_e {c : List Lev} {ws : List Wd} [hc : OkCh c] [hw : OkWs (ppl c) ws] {h : Int} (h0 : 0 ≤ h) (h60 : h ≤ 60) (b d : Bool) (S : Sto) :
    ∃ x S', sem__law_nag [.dat b (eCh c), .dat d (eWs ws), .dat false (.int h)] S = some (.own S.length, S') ∧ Way c ws h (61 + h.toNat) x ∧ NgAt S' S.length x ∧ Ext S S' := by
  have hni := Ninit_e (c := c) h0 h60 b S
  have n0 := Nnew_at (c := c) h0 h60 S
  obtain ⟨x, S', e1, a1, n1, k1⟩ := tick_loop (ws := ws) (v0 := some (.dat b (eCh c))) (v2 := some (.dat false (.int h))) (b := d) h0 (61 + h.toNat) 0 _ _ (by omega) (way_new h0 h60 S) n0
  rw [Nat.zero_add] at a1
  refine ⟨x, S', ?_, a1, n1, ?_⟩
  · unfold sem__law_nag body__law_nag
    rw [callS_e, if_pos (by rfl), sSeq_e, kSeq_to (E12 (some (.dat b (eCh c))) (some (.dat d (eWs ws))) (some (.dat false (.int h))) S.length none none) (S ++ [oNag S.length, eR (S.length + 2) (Rd.new c h), oWs [], oLns [], oPs []])]
    rotate_left
    · simp [hni]
    have src : ∀ (bb : BN) (f : SS) (is : List Nat) (S1 : Sto), sFor (xiRng1 (xCons (xOp (oInt fun i j => i + j) (xC (.int 61)) (xVar 2)) xNil)) bb f is (E12 (some (.dat b (eCh c))) (some (.dat d (eWs ws))) (some (.dat false (.int h))) S.length none none) S1 = forL (turnS bb f is) (fun _ => True) ((List.range' 0 (61 + h.toNat)).map fun (k : Nat) => .dat false (.int (k : Int))) (E12 (some (.dat b (eCh c))) (some (.dat d (eWs ws))) (some (.dat false (.int h))) S.length none none) S1 := fun bb f is S1 => by
      simp
      rw [if_pos (by omega)]
      simp only [bnd_mk, rangeI, Int.zero_add]
      rw [show (61 + h).toNat = 61 + h.toNat by omega, List.range_eq_range']
    rw [sSeq_e, src, kSeq_to _ _ e1]
    simp
  · refine Ext.of (Nat.le_trans (by simp) k1.len) fun j hj => ?_
    rw [k1.get j (by simp; omega) (by omega), List.getElem?_append_left hj]
end Nc
set_option Elab.async false
set_option linter.all false
set_option maxRecDepth 100000
set_option maxHeartbeats 1000000
namespace Nc
open PySem PySem.Spec PyProof.Rows L2
local macro_rules | `(tactic| walk_at "nc") => `(tactic| repeat (first | simp [atI, ixN, zipI, cutG, HT.sIx, Function.comp_def] | simp (disch := first | assumption | omega) only [oIntC_p, le_T, le_F, lt_T, lt_F, bq_F, in_T, in_F] | rw [if_pos (by omega)] | rw [if_neg (by omega)] | omega))
/-! ### what is sorted -/
theorem prs_up : ∀ (rows : List (List Int)) (k : Nat), (∀ r ∈ rows, r.Pairwise (· < ·)) → ((rows.zipIdx k).flatMap fun r => r.1.map fun p => ((r.2 : Int), p)).Pairwise fun a b => a.1 < b.1 ∨ (a.1 = b.1 ∧ a.2 < b.2)
  | [], _, _ => by simp
  | r :: rows, k, h => by
    rw [List.zipIdx_cons, List.flatMap_cons, List.pairwise_append]
    refine ⟨?_, prs_up rows (k + 1) fun x hx => h x (List.mem_cons_of_mem _ hx), fun a ha b hb => ?_⟩
    · rw [List.pairwise_map]
      exact (h r List.mem_cons_self).imp fun hab => .inr ⟨rfl, hab⟩
    · obtain ⟨p, _, rfl⟩ := List.mem_map.mp ha
      obtain ⟨⟨q, n⟩, hq, hb⟩ := List.mem_flatMap.mp hb
      obtain ⟨p2, _, rfl⟩ := List.mem_map.mp hb
      have := List.le_snd_of_mem_zipIdx hq
      refine .inl ?_
      simp only at this ⊢
      omega
theorem prs_nodup {rows : List (List Int)} (h : ∀ r ∈ rows, r.Pairwise (· < ·)) : (prs rows).Nodup := by
  have := prs_up rows 0 h
  exact this.imp fun {a b} hab e => by subst e; omega
theorem toks_pr {p q : Int × Int} (h : PySem.W.keyToks (ePr p) = PySem.W.keyToks (ePr q)) : p = q := by
  obtain ⟨a, b⟩ := p
  obtain ⟨c, d⟩ := q
  simp [ePr, PySem.W.keyToks, PySem.W.keyToksAll] at h
  obtain ⟨h1, h2⟩ := h
  subst h1 h2
  rfl
theorem toks_wd {v w : Wd} (h : PySem.W.keyToks (eWd v) = PySem.W.keyToks (eWd w)) : eWd v = eWd w := by
  have e1 : (Str.ofString "take").cps.toList ≠ (Str.ofString "off").cps.toList := by decide +kernel
  have e2 : (Str.ofString "take").cps.toList ≠ (Str.ofString "done").cps.toList := by decide +kernel
  have e3 : (Str.ofString "off").cps.toList ≠ (Str.ofString "done").cps.toList := by decide +kernel
  cases v <;> cases w <;> simp [eWd, PySem.W.keyToks, PySem.W.keyToksAll] at h ⊢ <;> first | omega | exact h | (exfalso; first | exact e1 (congrArg _ h.1) | exact e2 (congrArg _ h.1) | exact e3 (congrArg _ h.1) | exact e1 (congrArg _ h.1).symm | exact e2 (congrArg _ h.1).symm | exact e3 (congrArg _ h.1).symm)
theorem le_pr (a b : Int × Int) : PySem.W.dataLe false (fun d : PyData => d) (ePr a) (ePr b) = decide (a.1 < b.1 ∨ (a.1 = b.1 ∧ a.2 ≤ b.2)) := by
  have := congrFun (congrFun (PySem.W.dataLe_ii (β := Int × Int) (fun p => p.1) (fun p => p.2)) a) b
  exact this
theorem sort_prs {ps qs : List (Int × Int)} (hp : qs.Perm ps) (hs : ps.Pairwise fun a b => a.1 < b.1 ∨ (a.1 = b.1 ∧ a.2 < b.2)) : sortD (qs.map ePr) = ps.map ePr := by
  refine sortD_eq (fun d hd e he h => ?_) (hp.map ePr).symm ?_
  · obtain ⟨p, _, rfl⟩ := List.mem_map.mp hd
    obtain ⟨q, _, rfl⟩ := List.mem_map.mp he
    rw [toks_pr h]
  · rw [List.pairwise_map]
    refine hs.imp fun {a b} hab => ?_
    rw [le_pr]
    exact decide_eq_true (by omega)
theorem sort_wds {ws us : List Wd} (hp : us.Perm ws) : sortD (us.map eWd) = sortD (ws.map eWd) := by
  refine sortD_same (fun d hd e he h => ?_) (hp.map eWd).symm
  obtain ⟨p, _, rfl⟩ := List.mem_map.mp hd
  obtain ⟨q, _, rfl⟩ := List.mem_map.mp he
  exact toks_wd h
theorem apart_perm {c : List Lev} {ws : List Wd} [hc : OkCh c] (h : Int) : (minus (sentPs c ws h) (needless c ws h) ++ lacking c ws h).Perm (duePs c ws) := by
  have n1 : (sentPs c ws h).Nodup := prs_nodup sentBy_up
  have n2 : (duePs c ws).Nodup := prs_nodup dueBy_up
  have e1 : minus (sentPs c ws h) (needless c ws h) = (sentPs c ws h).filter fun p => decide (p ∈ duePs c ws) := by
    unfold minus needless minus
    apply List.filter_congr
    intro p hp
    rw [Bool.eq_iff_iff]
    simp [hp]
  have e2 : ((sentPs c ws h).filter fun p => decide (p ∈ duePs c ws)).Perm ((duePs c ws).filter fun p => decide (p ∈ sentPs c ws h)) := by
    refine (List.perm_ext_iff_of_nodup (n1.filter _) (n2.filter _)).mpr fun p => ?_
    simp only [List.mem_filter, decide_eq_true_eq]
    exact And.comm
  rw [e1]
  refine (e2.append_right _).trans ?_
  have := filt_perm (fun p => decide (p ∈ sentPs c ws h)) (fun p => !decide (p ∈ sentPs c ws h)) (fun _ => true) (fun p => by cases decide (p ∈ sentPs c ws h) <;> rfl) (fun p hp => by simp only [hp, Bool.not_true]) (duePs c ws)
  rw [List.filter_eq_self.mpr (fun _ _ => rfl)] at this
  exact this
theorem eqv_prs2 : ∀ a b : List (Int × Int), PyData.eqvAll (a.map ePr) (b.map ePr) = decide (a = b)
  | [], [] => by simp
  | [], _ :: _ => by simp
  | _ :: _, [] => by simp
  | p :: a, q :: b => by
    obtain ⟨p1, p2⟩ := p
    obtain ⟨q1, q2⟩ := q
    rw [List.map_cons, List.map_cons, eqv_cc, eqv_prs2 a b, Bool.eq_iff_iff]
    simp [ePr, and_assoc]
theorem datsF_map {α : Type} (f : α → PyData) : ∀ xs : List α, datsF (xs.map fun x => .dat false (f x)) = some (xs.map f)
  | [] => rfl
  | x :: xs => by rw [List.map_cons, datsF, datsF_map f xs]; rfl
theorem oSortD_e {α : Type} {f : α → PyData} {xs : List α} {v : OV} {S : Sto} (h : seqItems S v = some (xs.map fun x => .dat false (f x))) (hl : xs.length ≤ 100000) (h1 : ∀ x, isTup1 (f x) = true ∧ (f x).depth ≤ 60) (h2 : ∀ x y, PySem.W.alike (f x) (f y) = true) : oSortD [v] S = some ((sortD (xs.map f)).map fun d => .dat false d) := by
  unfold oSortD
  simp only [h, datsF_map]
  have h3 : ((xs.map f).all fun d => isTup1 d && decide (d.depth ≤ 60)) = true := by
    rw [List.all_eq_true]
    intro d hd
    obtain ⟨x, _, rfl⟩ := List.mem_map.mp hd
    simp [h1 x]
  have h4 : ((xs.map f).all fun d => (xs.map f).all fun e => PySem.W.alike d e) = true := by
    rw [List.all_eq_true]
    intro d hd
    obtain ⟨x, _, rfl⟩ := List.mem_map.mp hd
    rw [List.all_eq_true]
    intro e he
    obtain ⟨y, _, rfl⟩ := List.mem_map.mp he
    exact h2 x y
  exact if_pos ⟨by simpa using hl, h3, h4⟩
theorem alike_pr (p q : Int × Int) : PySem.W.alike (ePr p) (ePr q) = true := by simp [ePr, PySem.W.alike, PySem.W.alikeAll]
theorem alike_wd (v w : Wd) : PySem.W.alike (eWd v) (eWd w) = true := by cases v <;> cases w <;> simp [eWd, PySem.W.alike, PySem.W.alikeAll]
theorem dep_pr (p : Int × Int) : isTup1 (ePr p) = true ∧ (ePr p).depth ≤ 60 := ⟨rfl, Nat.le_trans (Lays.pr p).dep (by decide)⟩
theorem dep_wd (w : Wd) : isTup1 (eWd w) = true ∧ (eWd w).depth ≤ 60 := ⟨by cases w <;> rfl, Nat.le_trans (Lays.wd w).dep (by decide)⟩
theorem allDat_d (ds : List PyData) : allDat (ds.map fun d => .dat false d) = some (false, ds) := by
  have := allDat_f (fun d : PyData => d) ds
  simpa using this
theorem isi_e {T c : Str} {fa : SE} {r : Env} {S S1 : Sto} {i : Nat} {fs : List (Str × OV)} {q : Str × Str × Bool} (h : fa r S = some (.own i, S1)) (hs : S1[i]? = some (.ins c fs)) (hk : ktA.find? (fun q => q.1 == c && q.2.1 == T) = some q) : xIsiO ktA T fa r S = some (.dat false (.bool q.2.2), S1) := by
  unfold xIsiO
  rw [h]
  simp only [bnd_mk, hs, hk]
theorem kt_rr : ktA.find? (fun q => q.1 == ("Right" : Str) && q.2.1 == ("Right" : Str)) = some (("Right" : Str), ("Right" : Str), true) := by decide +kernel
theorem kt_ww : ktA.find? (fun q => q.1 == ("Wrong" : Str) && q.2.1 == ("Wrong" : Str)) = some (("Wrong" : Str), ("Wrong" : Str), true) := by decide +kernel
abbrev c4 : List Lev := [([4], 1, 1)]
theorem c4_ok : OkCh c4 := ⟨by decide, by decide, fun l hl => by
  simp at hl; subst hl
  exact ⟨by decide, by decide, by decide, by decide, by decide, by decide, by decide, by decide⟩, by decide⟩
theorem s4 : sentPs c4 [] 0 = [(0, 4)] := by decide +kernel
end Nc
set_option Elab.async false
set_option linter.all false
set_option maxRecDepth 100000
set_option maxHeartbeats 1000000
namespace Nc
open PySem PySem.Spec PyProof.Rows L2
local macro_rules | `(tactic| walk_at "nc") => `(tactic| repeat (first | simp [atI, ixN, zipI, cutG, HT.sIx, Function.comp_def] | simp (disch := first | assumption | omega) only [oIntC_p, le_T, le_F, lt_T, lt_F, bq_F, in_T, in_F] | rw [if_pos (by omega)] | rw [if_neg (by omega)] | omega))
abbrev E15 (ns : List Int) (W : Int) (c : List Lev) (ws : List Wd) (H : Int) (v6 v7 v8 v9 v10 v11 v12 v13 v14 : Option OV) : Env := [some (.scr ns), some (.dat false (.int W)), some (.dat false (eCh c)), some (.dat false (eWs ws)), some (.dat false (ePs (duePs c ws))), some (.dat false (.int H)), v6, v7, v8, v9, v10, v11, v12, v13, v14]
theorem sent_cmp {S S1 : Sto} {j i : Nat} {x : Ng} {f : SE} {r : Env} {qs : List (Int × Int)} {g : SE} {neg : Bool} (h : f r S = some (.own i, S1)) (n : NgAt S1 i x) (hg : ∀ S, g r S = some (.dat false (ePs qs), S)) :
    xOp (oEq neg) (xMeth "Nag" "sent" sem_Nag_sent 1 f xNil) g r S = some (.dat false (.bool (if neg then !decide (x.lg = qs) else decide (x.lg = qs))), S1 ++ [oPs x.lg]) := by
  have hs := sent_n n
  simp [h, n.n, hs, hg, eqv_prs2]
theorem law_e (ns : List Int) : Gives (sem_law [.scr ns] []) (.dat false (.bool true)) := by
  unfold sem_law body_law
  simp only [callS_e, sSeq_e]
  rw [if_pos (show [_].length = 1 from rfl)]
  simp only [List.map_cons, List.map_nil, List.cons_append, List.nil_append, Nat.reduceSub, List.reduceReplicate]
  rw [kSeq_to [some (.scr ns), some (.dat false (.int (ns.take 63).sum)), none, none, none, none, none, none, none, none, none, none, none, none, none] []]
  rotate_left
  · simp [cut_take63, Function.comp_def]
  generalize (ns.take 63).sum = W
  obtain ⟨c, hc, hcg⟩ := chain_e ns 0 (by omega) (by omega)
  have hck := fun S => hcg.k (S := S)
  obtain ⟨ws, hws, hwg⟩ := words_e ns 0 (by omega) (by omega) (c := c)
  have hwk := fun S => hwg.k (S := S)
  have hwl := hws.len
  rw [sSeq_e, kSeq_to [some (.scr ns), some (.dat false (.int W)), some (.dat false (eCh c)), none, none, none, none, none, none, none, none, none, none, none, none] []]
  rotate_left
  · simp [hck]
  rw [sSeq_e, kSeq_to [some (.scr ns), some (.dat false (.int W)), some (.dat false (eCh c)), some (.dat false (eWs ws)), none, none, none, none, none, none, none, none, none, none, none] []]
  rotate_left
  · simp [hwk]
  have hdu := due_all_e (c := c) (ws := ws) true true []
  have hen := enough_e (c := c) (ws := ws) true true
  have hr := leastH_rg (c := c) hws
  generalize hH : leastH c ws = H at *
  rw [sSeq_e, kSeq_to (E15 ns W c ws H none none none none none none none none none) [oE H (enoughO c ws).1 (enoughO c ws).2]]
  rotate_left
  · simp [hdu, hen, xCallO, natF, oE, fsE]
  -- the told hold
  obtain ⟨x1, S1, e1, a1, n1, k1⟩ := lawnag_e (c := c) (ws := ws) (h := H) hr.1 hr.2 false false [oE H (enoughO c ws).1 (enoughO c ws).2]
  obtain ⟨g1, _, _, _⟩ := a1.all hr.1 (by omega)
  rw [sSeq_e, kSeq_to (E15 ns W c ws H none none none none none none none none none) (S1 ++ [oPs x1.lg])]
  rotate_left
  · have s1 : sentPs c ws H = duePs c ws := by unfold sentPs; rw [sent_from (by omega) hr.1]
    have cp := sent_cmp (j := 0) (f := xCallM sem__law_nag 3 (xCons (xVar 2) (xCons (xVar 3) (xCons (xVar 5) xNil)))) (r := E15 ns W c ws H none none none none none none none none none) (S := [oE H (enoughO c ws).1 (enoughO c ws).2]) (qs := duePs c ws) (g := xVar 4) (neg := true) (by unfold xCallM; simp [e1]) n1 (fun S => rfl)
    rw [sIf_e, xB_e, cp]
    simp [g1, s1]
  -- one less
  obtain ⟨S2, e2⟩ : ∃ S2, sIf (xAnd (xB (xOp (oBl fun i j => decide (j < i)) (xVar 5) (xC (.int 0)))) (xB (xOp (oEq false) (xMeth "Nag" "sent" sem_Nag_sent 1 (xCallM sem__law_nag 3 (xCons (xVar 2) (xCons (xVar 3) (xCons (xOp (oInt fun i j => i - j) (xVar 5) (xC (.int 1))) xNil)))) xNil) (xVar 4)))) (sRet (xC (.bool false))) sNext (E15 ns W c ws H none none none none none none none none none) (S1 ++ [oPs x1.lg]) = some (.nx, E15 ns W c ws H none none none none none none none none none, S2) := by
    by_cases h0 : 0 < H
    · obtain ⟨x2, S2, e2, a2, n2, k2⟩ := lawnag_e (c := c) (ws := ws) (h := H - 1) (by omega) (by omega) false false (S1 ++ [oPs x1.lg])
      obtain ⟨g2, _, _, _⟩ := a2.all (by omega) (by omega)
      have ne : sentPs c ws (H - 1) ≠ duePs c ws := fun e => by
        rw [← hH] at e h0
        exact leastH_ne (c := c) (ws := ws) (by omega) (prs_inj e)
      have cp := sent_cmp (j := 0) (f := xCallM sem__law_nag 3 (xCons (xVar 2) (xCons (xVar 3) (xCons (xOp (oInt fun i j => i - j) (xVar 5) (xC (.int 1))) xNil)))) (r := E15 ns W c ws H none none none none none none none none none) (S := S1 ++ [oPs x1.lg]) (qs := duePs c ws) (g := xVar 4) (neg := false) (by unfold xCallM; simp [e2]) n2 (fun S => rfl)
      refine ⟨S2 ++ [oPs x2.lg], ?_⟩
      have t1 : (xB (xOp (oBl fun i j => decide (j < i)) (xVar 5) (xC (.int 0)))) (E15 ns W c ws H none none none none none none none none none) (S1 ++ [oPs x1.lg]) = some (true, S1 ++ [oPs x1.lg]) := by simp [h0]
      rw [sIf_e, xAnd_e, t1, kTest_t, xB_e, cp, g2]
      simp [ne]
    · exact ⟨S1 ++ [oPs x1.lg], by simp [h0]⟩
  rw [sSeq_e, kSeq_to _ _ e2]
  obtain ⟨F, hF, F0, F4⟩ : ∃ F : Int, W / 3 % 4 = F ∧ 0 ≤ F ∧ F < 4 := ⟨_, rfl, by omega, by omega⟩
  rw [sSeq_e, kSeq_to (E15 ns W c ws H (some (.dat false (.int F))) none none none none none none none none) S2]
  rotate_left
  · rw [← hF]
    repeat (first | simp | simp (disch := first | assumption | omega) only [oIntC_p])
  obtain ⟨x3, S3, e3, a3, n3, k3⟩ := lawnag_e (c := c) (ws := ws) (h := F) F0 (by omega) false false S2
  haveI hwr := oks_rev hws
  obtain ⟨x4, S4, e4, a4, n4, k4⟩ := lawnag_e (c := c) (ws := ws.reverse) (h := F) F0 (by omega) false false S3
  obtain ⟨g3, p3, r3, r3'⟩ := a3.all F0 (by omega)
  obtain ⟨g4, _, _, _⟩ := a4.all F0 (by omega)
  have s4' : sentPs c ws.reverse F = sentPs c ws F := by unfold sentPs; rw [sentBy_perm (List.reverse_perm ws)]
  rw [s4'] at g4
  have n3' : NgAt S4 S2.length x3 := by
    obtain ⟨M, hM⟩ := k4
    rw [hM]; exact n3.app M
  rw [sSeq_e, kSeq_to (E15 ns W c ws H (some (.dat false (.int F))) (some (.own S2.length)) (some (.own S3.length)) none none none none none none) S4]
  rotate_left
  · unfold xCallM
    have rv : (ws.map eWd).reverse = ws.reverse.map eWd := (List.map_reverse ..).symm
    simp [e3]
    rw [← List.map_reverse, show (mkD false ∘ eWd) = fun w => OV.dat false (eWd w) from rfl, allDat_f]
    simp only [kDs_e, k2_e, xCons_e, xVar_e, List.getElem?_cons_succ, List.getElem?_cons_zero, kV_e, xNil_e, bnd_mk, List.length_cons, List.length_nil, if_true]
    rw [e4]
    simp
  have hse := fun S => sent_all_e (c := c) (ws := ws) (h := F) F0 (by omega) true true false S
  have lse := sentPs_len (c := c) (ws := ws) (h := F)
  have ldu := duePs_len (c := c) (ws := ws)
  rw [sSeq_e, kSeq_to (E15 ns W c ws H (some (.dat false (.int F))) (some (.own S2.length)) (some (.own S3.length)) (some (.dat false (ePs (sentPs c ws F)))) none none none none none) S4]
  rotate_left
  · simp [hse]
  -- what both sent, the words
  have n4' := n4
  rw [sSeq_e, kSeq_to (E15 ns W c ws H (some (.dat false (.int F))) (some (.own S2.length)) (some (.own S3.length)) (some (.dat false (ePs (sentPs c ws F)))) none none none none none) (S4 ++ [oPs x3.lg] ++ [oPs x4.lg] ++ [oWs x3.r.ws])]
  rotate_left
  · have cp3 := sent_cmp (j := 0) (f := xVar 7) (r := E15 ns W c ws H (some (.dat false (.int F))) (some (.own S2.length)) (some (.own S3.length)) (some (.dat false (ePs (sentPs c ws F)))) none none none none none) (S := S4) (qs := sentPs c ws F) (g := xVar 9) (neg := true) rfl n3' (fun S => rfl)
    have cp4 := sent_cmp (j := 0) (f := xVar 8) (r := E15 ns W c ws H (some (.dat false (.int F))) (some (.own S2.length)) (some (.own S3.length)) (some (.dat false (ePs (sentPs c ws F)))) none none none none none) (S := S4 ++ [oPs x3.lg]) (qs := sentPs c ws F) (g := xVar 9) (neg := true) rfl (n4.app _) (fun S => rfl)
    have nw := (n3'.app [oPs x3.lg]).app [oPs x4.lg]
    have hwo := words_n nw
    have xl : x3.r.ws.length ≤ 12 := nw.ok.rd.ws.len
    have so1 := oSortD_e (f := eWd) (xs := x3.r.ws) (v := .own (S4 ++ [oPs x3.lg] ++ [oPs x4.lg]).length) (S := S4 ++ [oPs x3.lg] ++ [oPs x4.lg] ++ [oWs x3.r.ws]) (by rw [seqItems_o, get_app]; rfl) (by omega) dep_wd alike_wd
    have so2 := oSortD_e (f := eWd) (xs := ws) (v := .dat false (eWs ws)) (S := S4 ++ [oPs x3.lg] ++ [oPs x4.lg] ++ [oWs x3.r.ws]) (by simp [Function.comp_def]) (by omega) dep_wd alike_wd
    rw [sort_wds p3] at so1
    rw [sIf_e, xOr_e, xB_e, cp3, g3]
    simp only [decide_true, Bool.not_true, if_true, kB_e, kTest_f]
    rw [g3] at cp4
    rw [xOr_e, xB_e, cp4, g4]
    simp only [decide_true, Bool.not_true, if_true, kB_e, kTest_f]
    rw [g3, g4] at hwo so1 so2 nw
    have shd : SeqAt.shaped (.list (sortD (ws.map eWd))) = true := by
      have l : ∀ d ∈ sortD (ws.map eWd), Lays 1 d := fun d hd => by
        obtain ⟨w, _, rfl⟩ := List.mem_map.mp ((sortD_perm _).mem_iff.mp hd)
        exact Lays.wd w
      have lay : PyData.canLayAll0 (sortD (ws.map eWd)) = true ∧ PyData.depthAll (sortD (ws.map eWd)) ≤ 1 := by
        generalize sortD (ws.map eWd) = ds at l
        induction ds with
        | nil => exact ⟨rfl, by simp [PyData.depthAll]⟩
        | cons d ds ih =>
          have h1 := l d List.mem_cons_self
          obtain ⟨i1, i2⟩ := ih fun d hd => l d (List.mem_cons_of_mem _ hd)
          exact ⟨by simp [PyData.canLayAll0, h1.lay, i1], by simp only [PyData.depthAll]; exact Nat.max_le.mpr ⟨h1.dep, i2⟩⟩
      have : Lays 2 (.list (sortD (ws.map eWd))) := ⟨by rw [PyData.canLay0]; exact lay.1, by rw [PyData.depth]; exact Nat.succ_le_succ lay.2⟩
      exact this.shaped (by omega)
    have same : PyData.eqvAll (sortD (ws.map eWd)) (sortD (ws.map eWd)) = true := by
      have l : ∀ d ∈ sortD (ws.map eWd), PyData.eqv d d = true := fun d hd => by
        obtain ⟨w, _, rfl⟩ := List.mem_map.mp ((sortD_perm _).mem_iff.mp hd)
        exact (Lays.wd w).same
      generalize sortD (ws.map eWd) = ds at l
      induction ds with
      | nil => simp
      | cons d ds ih => rw [eqv_cc, l d List.mem_cons_self, ih fun d hd => l d (List.mem_cons_of_mem _ hd)]; rfl
    have wo : xDat (xCL oSortD (xCons (xMeth "Nag" "words" sem_Nag_words 1 (xVar 7) xNil) xNil)) (E15 ns W c ws H (some (.dat false (.int F))) (some (.own S2.length)) (some (.own S3.length)) (some (.dat false (ePs (sentPs c ws F)))) none none none none none) (S4 ++ [oPs (sentPs c ws F)] ++ [oPs (sentPs c ws F)]) = some (.dat false (.list (sortD (ws.map eWd))), S4 ++ [oPs (sentPs c ws F)] ++ [oPs (sentPs c ws F)] ++ [oWs x3.r.ws]) := by
      have me : xMeth "Nag" "words" sem_Nag_words 1 (xVar 7) xNil (E15 ns W c ws H (some (.dat false (.int F))) (some (.own S2.length)) (some (.own S3.length)) (some (.dat false (ePs (sentPs c ws F)))) none none none none none) (S4 ++ [oPs (sentPs c ws F)] ++ [oPs (sentPs c ws F)]) = some (.own (S4 ++ [oPs (sentPs c ws F)] ++ [oPs (sentPs c ws F)]).length, S4 ++ [oPs (sentPs c ws F)] ++ [oPs (sentPs c ws F)] ++ [oWs x3.r.ws]) := by
        rw [← hwo]
        have := nw.n
        simp only [xMeth_e, xVar_e, List.getElem?_cons_succ, List.getElem?_cons_zero, kV_e, hMe1_e, this, cN_words, xNil_e, bnd_mk]
        rfl
      rw [xDat_e, xCL_e, xCons_e, me]
      simp only [k2_e, xNil_e, bnd_mk, so1, kL_e, id, allDat_d, kDs_e]
    have wo2 : xDat (xCL oSortD (xCons (xVar 3) xNil)) (E15 ns W c ws H (some (.dat false (.int F))) (some (.own S2.length)) (some (.own S3.length)) (some (.dat false (ePs (sentPs c ws F)))) none none none none none) (S4 ++ [oPs (sentPs c ws F)] ++ [oPs (sentPs c ws F)] ++ [oWs x3.r.ws]) = some (.dat false (.list (sortD (ws.map eWd))), S4 ++ [oPs (sentPs c ws F)] ++ [oPs (sentPs c ws F)] ++ [oWs x3.r.ws]) := by
      rw [xDat_e, xCL_e]
      simp only [xCons_e, xVar_e, List.getElem?_cons_succ, List.getElem?_cons_zero, kV_e, k2_e, xNil_e, bnd_mk, so2, kL_e, id, allDat_d, kDs_e]
    rw [xB_e, xOp_e, wo, k2_e, wo2]
    simp [shd, same]
  generalize hS5 : S4 ++ [oPs x3.lg] ++ [oPs x4.lg] ++ [oWs x3.r.ws] = S5
  have n5 : NgAt S5 S2.length x3 := by rw [← hS5]; exact ((n3'.app _).app _).app _
  have hap := fun S => apart_e (c := c) (ws := ws) (h := F) F0 (by omega) true true false S
  rw [sSeq_e, kSeq_to (E15 ns W c ws H (some (.dat false (.int F))) (some (.own S2.length)) (some (.own S3.length)) (some (.dat false (ePs (sentPs c ws F)))) (some (.dat false (ePs (needless c ws F)))) (some (.dat false (ePs (lacking c ws F)))) none none none) S5]
  rotate_left
  · simp [hap, mkD_tup]
  have hpm := apart_perm (c := c) (ws := ws) F
  have hso := sort_prs hpm (prs_up (dueBy c ws) 0 dueBy_up)
  have lq : (minus (sentPs c ws F) (needless c ws F) ++ lacking c ws F).length ≤ 183 := by rw [hpm.length_eq]; exact ldu
  rw [sSeq_e, kSeq_to (E15 ns W c ws H (some (.dat false (.int F))) (some (.own S2.length)) (some (.own S3.length)) (some (.dat false (ePs (sentPs c ws F)))) (some (.dat false (ePs (needless c ws F)))) (some (.dat false (ePs (lacking c ws F)))) none none none) S5]
  rotate_left
  · have inn : xDat (xCat (xDat (xLc (xiList (xVar 9)) (bName 12) (xB (xOp (oInD true) (xVar 12) (xVar 10))) (xVar 12) [12])) (xVar 11)) (E15 ns W c ws H (some (.dat false (.int F))) (some (.own S2.length)) (some (.own S3.length)) (some (.dat false (ePs (sentPs c ws F)))) (some (.dat false (ePs (needless c ws F)))) (some (.dat false (ePs (lacking c ws F)))) none none none) S5 = some (.dat false (ePs (minus (sentPs c ws F) (needless c ws F) ++ lacking c ws F)), S5) := by
      simp [Function.comp_def]
      rw [if_pos (by omega), comp_minus (by rfl) (by simp) (by decide)]
      rw [List.length_append] at lq
      have b1 : (minus (sentPs c ws F) (needless c ws F)).length + (lacking c ws F).length ≤ 100000 := by omega
      simp [b1, Function.comp_def]
    have so := oSortD_e (f := ePr) (xs := minus (sentPs c ws F) (needless c ws F) ++ lacking c ws F) (v := .dat false (ePs (minus (sentPs c ws F) (needless c ws F) ++ lacking c ws F))) (S := S5) (by simp [Function.comp_def]) (by omega) dep_pr alike_pr
    rw [hso] at so
    rw [sIf_e, xB_e, xOp_e, xDat_e, xCL_e, xCons_e, inn]
    simp only [k2_e, xNil_e, bnd_mk, so, kL_e, id, allDat_d, kDs_e]
    simp
  -- the tale
  have hta := tale_n n5
  have few : ∀ l ∈ x3.ls, l.few = true := fun l hl => by
    cases l with
    | tick ps => have := a3.few _ hl ps rfl; exact decide_eq_true (by omega)
    | _ => rfl
  rw [sSeq_e, kSeq_to (E15 ns W c ws H (some (.dat false (.int F))) (some (.own S2.length)) (some (.own S3.length)) (some (.dat false (ePs (sentPs c ws F)))) (some (.dat false (ePs (needless c ws F)))) (some (.dat false (ePs (lacking c ws F)))) none (some (.own S5.length)) none) (S5 ++ [oLns x3.ls])]
  rotate_left
  · simp [n5.n, hta]
  have gt : (S5 ++ [oLns x3.ls])[S5.length]? = some (oLns x3.ls) := by simp
  have le := oLen_own gt
  simp only [List.length_map] at le
  generalize x3.ls = TL at *
  obtain ⟨S6, e6, x6⟩ : ∃ S6, sIf (xAnd (xB (xOp (oBl fun i j => decide (i < j)) (xCB oLen (xCons (xVar 13) xNil)) (xC (.int 81)))) (xNot (xB (xIsiO ktA "Right" (xCallO sem_judged 3 (xCons (xVar 2) (xCons (xVar 6) (xCons (xVar 13) xNil)))))))) (sRet (xC (.bool false))) sNext (E15 ns W c ws H (some (.dat false (.int F))) (some (.own S2.length)) (some (.own S3.length)) (some (.dat false (ePs (sentPs c ws F)))) (some (.dat false (ePs (needless c ws F)))) (some (.dat false (ePs (lacking c ws F)))) none (some (.own S5.length)) none) (S5 ++ [oLns TL]) = some (.nx, E15 ns W c ws H (some (.dat false (.int F))) (some (.own S2.length)) (some (.own S3.length)) (some (.dat false (ePs (sentPs c ws F)))) (some (.dat false (ePs (needless c ws F)))) (some (.dat false (ePs (lacking c ws F)))) none (some (.own S5.length)) none, S6) ∧ Ext (S5 ++ [oLns TL]) S6 := by
    by_cases h81 : TL.length < 81
    · have hj := judged_e (c := c) (h := F) F0 (by omega) (ls := TL) (by omega) few true true
      rw [r3] at hj
      simp at hj
      have ca : xCallO sem_judged 3 (xCons (xVar 2) (xCons (xVar 6) (xCons (xVar 13) xNil))) (E15 ns W c ws H (some (.dat false (.int F))) (some (.own S2.length)) (some (.own S3.length)) (some (.dat false (ePs (sentPs c ws F)))) (some (.dat false (ePs (needless c ws F)))) (some (.dat false (ePs (lacking c ws F)))) none (some (.own S5.length)) none) (S5 ++ [oLns TL]) = some (.own (S5 ++ [oLns TL]).length, S5 ++ [oLns TL] ++ [oRight]) := by
        simp [xCallO, hj, natF]
      have is := isi_e (T := "Right") ca (by rw [get_app]) kt_rr
      refine ⟨S5 ++ [oLns TL] ++ [oRight], ?_, Ext.app _ _⟩
      have t1 : (xB (xOp (oBl fun i j => decide (i < j)) (xCB oLen (xCons (xVar 13) xNil)) (xC (.int 81)))) (E15 ns W c ws H (some (.dat false (.int F))) (some (.own S2.length)) (some (.own S3.length)) (some (.dat false (ePs (sentPs c ws F)))) (some (.dat false (ePs (needless c ws F)))) (some (.dat false (ePs (lacking c ws F)))) none (some (.own S5.length)) none) (S5 ++ [oLns TL]) = some (true, S5 ++ [oLns TL]) := by
        simp [le]
        omega
      rw [sIf_e, xAnd_e, t1, kTest_t, xNot_e, xB_e, is]
      simp
    · refine ⟨S5 ++ [oLns TL], ?_, Ext.refl _⟩
      have t1 : (xB (xOp (oBl fun i j => decide (i < j)) (xCB oLen (xCons (xVar 13) xNil)) (xC (.int 81)))) (E15 ns W c ws H (some (.dat false (.int F))) (some (.own S2.length)) (some (.own S3.length)) (some (.dat false (ePs (sentPs c ws F)))) (some (.dat false (ePs (needless c ws F)))) (some (.dat false (ePs (lacking c ws F)))) none (some (.own S5.length)) none) (S5 ++ [oLns TL]) = some (false, S5 ++ [oLns TL]) := by
        simp [le]
        omega
      rw [sIf_e, xAnd_e, t1, kTest_f]
      simp
  rw [sSeq_e, kSeq_to _ _ e6]
  have g6 := x6.get gt
  have le6 := oLen_own g6
  simp only [List.length_map] at le6
  obtain ⟨E7, S7, e7⟩ : ∃ E7 S7, sIf (xB (xOp (oBl fun i j => decide (i < j)) (xCB oLen (xCons (xVar 13) xNil)) (xC (.int 80)))) (sSeq (sAsg (xCallO sem_judged 3 (xCons (xVar 2) (xCons (xVar 6) (xCons (xDat (xCat (xVar 13) (xDat (xLst (xCons (xTup (xCons (xC (.str "tick")) (xCons (xDat (xLst xNil)) xNil))) xNil))))) xNil)))) (bName 14))
    (sIf (xOr (xNot (xB (xIsiO ktA "Wrong" (xVar 14)))) (xB (xOp (oEq true) (xFld "Wrong" "line" (xVar 14)) (xCB oLen (xCons (xVar 13) xNil))))) (sRet (xC (.bool false))) sNext)) sNext (E15 ns W c ws H (some (.dat false (.int F))) (some (.own S2.length)) (some (.own S3.length)) (some (.dat false (ePs (sentPs c ws F)))) (some (.dat false (ePs (needless c ws F)))) (some (.dat false (ePs (lacking c ws F)))) none (some (.own S5.length)) none) S6 = some (.nx, E7, S7) := by
    by_cases h80 : TL.length < 80
    · have few' : ∀ l ∈ TL ++ [.tick []], l.few = true := fun l hl => by
        rcases List.mem_append.mp hl with hl | hl
        · exact few l hl
        · rw [List.mem_singleton.mp hl]; rfl
      have hj := judged_e (c := c) (h := F) F0 (by omega) (ls := TL ++ [.tick []]) (by rw [List.length_append]; simp; omega) few' true true
      rw [r3', if_neg (by omega)] at hj
      simp only [eLns, eCh, List.map_append, List.map_cons, List.map_nil] at hj
      have ht : xDat (xCat (xVar 13) (xDat (xLst (xCons (xTup (xCons (xC (.str "tick")) (xCons (xDat (xLst xNil)) xNil))) xNil)))) (E15 ns W c ws H (some (.dat false (.int F))) (some (.own S2.length)) (some (.own S3.length)) (some (.dat false (ePs (sentPs c ws F)))) (some (.dat false (ePs (needless c ws F)))) (some (.dat false (ePs (lacking c ws F)))) none (some (.own S5.length)) none) S6 = some (.dat false (eLns (TL ++ [.tick []])), S6) := by
        simp [g6, Function.comp_def]
        rw [if_pos (by omega), show [OV.dat false (PyData.tuple [PyData.str (Str.ofString "tick"), PyData.list []])] = [Ln.tick []].map (fun l => OV.dat false (eLn l)) from rfl, ← List.map_append, bnd_mk, allDat_f]
        rfl
      have ca : xCallO sem_judged 3 (xCons (xVar 2) (xCons (xVar 6) (xCons (xDat (xCat (xVar 13) (xDat (xLst (xCons (xTup (xCons (xC (.str "tick")) (xCons (xDat (xLst xNil)) xNil))) xNil))))) xNil))) (E15 ns W c ws H (some (.dat false (.int F))) (some (.own S2.length)) (some (.own S3.length)) (some (.dat false (ePs (sentPs c ws F)))) (some (.dat false (ePs (needless c ws F)))) (some (.dat false (ePs (lacking c ws F)))) none (some (.own S5.length)) none) S6 = some (.own S6.length, S6 ++ [oWrong TL.length]) := by
        generalize xDat (xCat (xVar 13) (xDat (xLst (xCons (xTup (xCons (xC (.str "tick")) (xCons (xDat (xLst xNil)) xNil))) xNil)))) = X at ht ⊢
        simp [xCallO, ht, hj, natF, oWrong]
      refine ⟨E15 ns W c ws H (some (.dat false (.int F))) (some (.own S2.length)) (some (.own S3.length)) (some (.dat false (ePs (sentPs c ws F)))) (some (.dat false (ePs (needless c ws F)))) (some (.dat false (ePs (lacking c ws F)))) none (some (.own S5.length)) (some (.own S6.length)), S6 ++ [oWrong TL.length], ?_⟩
      have t1 : (xB (xOp (oBl fun i j => decide (i < j)) (xCB oLen (xCons (xVar 13) xNil)) (xC (.int 80)))) (E15 ns W c ws H (some (.dat false (.int F))) (some (.own S2.length)) (some (.own S3.length)) (some (.dat false (ePs (sentPs c ws F)))) (some (.dat false (ePs (needless c ws F)))) (some (.dat false (ePs (lacking c ws F)))) none (some (.own S5.length)) none) S6 = some (true, S6) := by
        simp [le6]
        omega
      rw [sIf_e, t1, kTest_t, sSeq_e, kSeq_to (E15 ns W c ws H (some (.dat false (.int F))) (some (.own S2.length)) (some (.own S3.length)) (some (.dat false (ePs (sentPs c ws F)))) (some (.dat false (ePs (needless c ws F)))) (some (.dat false (ePs (lacking c ws F)))) none (some (.own S5.length)) (some (.own S6.length))) (S6 ++ [oWrong TL.length])]
      rotate_left
      · rw [sAsg_e, ca]
        simp
      have is := isi_e (T := "Wrong") (fa := xVar 14) (r := E15 ns W c ws H (some (.dat false (.int F))) (some (.own S2.length)) (some (.own S3.length)) (some (.dat false (ePs (sentPs c ws F)))) (some (.dat false (ePs (needless c ws F)))) (some (.dat false (ePs (lacking c ws F)))) none (some (.own S5.length)) (some (.own S6.length))) (S := S6 ++ [oWrong TL.length]) rfl (by rw [get_app]; rfl) kt_ww
      have g7 : (S6 ++ [oWrong TL.length])[S5.length]? = some (oLns TL) := (Ext.app S6 [oWrong TL.length]).get g6
      have le7 := oLen_own g7
      simp only [List.length_map] at le7
      rw [sIf_e, xOr_e, xNot_e, xB_e, is]
      simp [le7]
    · refine ⟨E15 ns W c ws H (some (.dat false (.int F))) (some (.own S2.length)) (some (.own S3.length)) (some (.dat false (ePs (sentPs c ws F)))) (some (.dat false (ePs (needless c ws F)))) (some (.dat false (ePs (lacking c ws F)))) none (some (.own S5.length)) none, S6, ?_⟩
      have t1 : (xB (xOp (oBl fun i j => decide (i < j)) (xCB oLen (xCons (xVar 13) xNil)) (xC (.int 80)))) (E15 ns W c ws H (some (.dat false (.int F))) (some (.own S2.length)) (some (.own S3.length)) (some (.dat false (ePs (sentPs c ws F)))) (some (.dat false (ePs (needless c ws F)))) (some (.dat false (ePs (lacking c ws F)))) none (some (.own S5.length)) none) S6 = some (false, S6) := by
        simp [le6]
        omega
      rw [sIf_e, t1, kTest_f]
      rfl
  rw [sSeq_e, kSeq_to _ _ e7]
  -- the nag without words
  haveI := c4_ok
  haveI : OkWs (ppl c4) [] := ⟨by simp, by simp⟩
  obtain ⟨x8, S8, e8, a8, n8, k8⟩ := lawnag_e (c := c4) (ws := []) (h := 0) (by omega) (by omega) false false S7
  obtain ⟨g8, _, _, _⟩ := a8.all (by omega) (by omega)
  rw [s4] at g8
  have cp := sent_cmp (j := 0) (f := xCallM sem__law_nag 3 (xCons (xDat (xLst (xCons (xTup (xCons (xDat (xLst (xCons (xC (.int 4)) xNil))) (xCons (xC (.int 1)) (xCons (xC (.int 1)) xNil)))) xNil))) (xCons (xDat (xLst xNil)) (xCons (xC (.int 0)) xNil)))) (r := E7) (S := S7) (qs := [(0, 4)]) (g := xDat (xLst (xCons (xTup (xCons (xC (.int 0)) (xCons (xC (.int 4)) xNil))) xNil))) (neg := false) (by unfold xCallM; have : sem__law_nag [.dat false (.list [.tuple [.list [.int 4], .int 1, .int 1]]), .dat false (.list []), .dat false (.int 0)] S7 = some (.own S7.length, S8) := e8; simp [mkD_tup, this]) n8 (fun S => by simp [mkD_tup, ePr])
  rw [sRet_e, cp, g8]
  simp [Gives]
end Nc
set_option Elab.async false
set_option linter.all false
set_option maxRecDepth 100000
set_option maxHeartbeats 4000000
namespace Nc
open PySem PySem.Spec PyProof.Rows L2
theorem fn_law {P : Program} {w : World} {K : PySem.W.Frag} {mg : Str → Option Value} (T : Tx K mg) : ∃ fd : FuncData, (∀ (s : Shared) (v : Value), BindsTo s fd ⟨[v], []⟩ [("_law_script", v)]) ∧ ∀ (base : Heap) (D_Nag_sent : Okd P w K mg base 1 (He.ma K (He.ga K "Nag") "sent") 1 sem_Nag_sent) (D_Nag_tale : Okd P w K mg base 1 (He.ma K (He.ga K "Nag") "tale") 1 sem_Nag_tale) (D_Nag_words : Okd P w K mg base 1 (He.ma K (He.ga K "Nag") "words") 1 sem_Nag_words) (D__law_chain : Okd P w K mg base 2 (He.ga K "_law_chain") 2 sem__law_chain) (D__law_nag : Okd P w K mg base 8 (He.ga K "_law_nag") 3 sem__law_nag) (D__law_words : Okd P w K mg base 2 (He.ga K "_law_words") 3 sem__law_words) (D_apart : Okd P w K mg base 7 (He.ga K "apart") 3 sem_apart) (D_due_all : Okd P w K mg base 6 (He.ga K "due_all") 2 sem_due_all) (D_enough : Okd P w K mg base 8 (He.ga K "enough") 2 sem_enough) (D_judged : Okd P w K mg base 7 (He.ga K "judged") 3 sem_judged) (D_sent_all : Okd P w K mg base 6 (He.ga K "sent_all") 3 sem_sent_all), FnOk P w K mg base CX0 9 (He.ga K "law") fd ["_law_script"] (SpB K sem_law 1) := by
  obtain ⟨fd, F⟩ := T.c.def_ 55 rfl
  have b := FunD.bindsA (ps := ["_law_script"]) F fun _ _ _ _ _ _ us hl => match us, hl with | [_], _ => rfl
  refine ⟨fd, fun s v => b s [v] rfl, fun base D_Nag_sent D_Nag_tale D_Nag_words D__law_chain D__law_nag D__law_words D_apart D_due_all D_enough D_judged D_sent_all => fn_ok F sc_law body_law (fun cdv A outer s H E hr => ?_)⟩
  exact ⟨_, (pss_cons (ps_set (i := 1) sc_law.nd rfl (Or.inl rfl) (pe_callB (cr_sum rfl) (by rfl) (T.free (i := 127) rfl) (by decide +kernel) (pa_cons (pe_slice sl_list (pv 0) po_none (po_some pe_int)) pa_nil)))
    (pss_cons (ps_set (i := 2) sc_law.nd rfl (Or.inl rfl) (pe_callD D__law_chain (hr.mono (by decide)) rfl (T.glo (i := 26) rfl) (pa_cons (pv 0) (pa_cons pe_int pa_nil))))
    (pss_cons (ps_set (i := 3) sc_law.nd rfl (Or.inl rfl) (pe_callD D__law_words (hr.mono (by decide)) rfl (T.glo (i := 27) rfl) (pa_cons (pv 0) (pa_cons pe_int (pa_cons (pv 2) pa_nil)))))
    (pss_cons (ps_par (by rfl) sc_law.nd rfl rfl (by decide) rfl rfl (pa_cons (pe_callD D_due_all (hr.mono (by decide)) rfl (T.glo (i := 20) rfl) (pa_cons (pv 2) (pa_cons (pv 3) pa_nil))) (pa_cons (pe_fld (pe_callD D_enough (hr.mono (by decide)) rfl (T.glo (i := 23) rfl) (pa_cons (pv 2) (pa_cons (pv 3) pa_nil))) rfl) pa_nil)) (by rfl))
    (pss_cons (ps_if (pt_cmpR (op_neD hr.units) (pe_methD0 (pe_callD D__law_nag (hr.mono (by decide)) rfl (T.glo (i := 28) rfl) (pa_cons (pv 2) (pa_cons (pv 3) (pa_cons (pv 5) pa_nil)))) (T.cls (i := 69) rfl) (T.meth (i := 79) rfl) D_Nag_sent (hr.mono (by decide))) (pv 4) (nomark _)) (pss_one (ps_ret pe_bl)) pss_nil)
    (pss_cons (ps_if (PW.pt (pw_and (pt_cmpR op_gt (pv 5) pe_int (nomark _)) (pw_and1 (pt_cmpR (op_eqD hr.units) (pe_methD0 (pe_callD D__law_nag (hr.mono (by decide)) rfl (T.glo (i := 28) rfl) (pa_cons (pv 2) (pa_cons (pv 3) (pa_cons (pe_op op_sub (pv 5) pe_int) pa_nil)))) (T.cls (i := 69) rfl) (T.meth (i := 79) rfl) D_Nag_sent (hr.mono (by decide))) (pv 4) (nomark _))))) (pss_one (ps_ret pe_bl)) pss_nil)
    (pss_cons (ps_set (i := 6) sc_law.nd rfl (Or.inl rfl) (pe_op op_mod (pe_op op_fdiv (pv 1) pe_int) pe_int))
    (pss_cons (ps_par (by rfl) sc_law.nd rfl rfl (by decide) rfl rfl (pa_cons (pe_callD D__law_nag (hr.mono (by decide)) rfl (T.glo (i := 28) rfl) (pa_cons (pv 2) (pa_cons (pv 3) (pa_cons (pv 6) pa_nil)))) (pa_cons (pe_callD D__law_nag (hr.mono (by decide)) rfl (T.glo (i := 28) rfl) (pa_cons (pv 2) (pa_cons (pe_revL (pv 3)) (pa_cons (pv 6) pa_nil)))) pa_nil)) (by rfl))
    (pss_cons (ps_set (i := 9) sc_law.nd rfl (Or.inl rfl) (pe_callD D_sent_all (hr.mono (by decide)) rfl (T.glo (i := 21) rfl) (pa_cons (pv 2) (pa_cons (pv 3) (pa_cons (pv 6) pa_nil)))))
    (pss_cons (ps_if (PW.pt (pw_or (pt_cmpR (op_neD hr.units) (pe_methD0 (pv 7) (T.cls (i := 69) rfl) (T.meth (i := 79) rfl) D_Nag_sent (hr.mono (by decide))) (pv 9) (nomark _)) (pw_or (pt_cmpR (op_neD hr.units) (pe_methD0 (pv 8) (T.cls (i := 69) rfl) (T.meth (i := 79) rfl) D_Nag_sent (hr.mono (by decide))) (pv 9) (nomark _)) (pw_or1 (pt_cmpR (op_neD hr.units) (pe_callB (cr_sortD (u65 hr)) (by rfl) (T.free (i := 126) rfl) (by decide +kernel) (pa_cons (pe_methD0 (pv 7) (T.cls (i := 69) rfl) (T.meth (i := 78) rfl) D_Nag_words (hr.mono (by decide))) pa_nil)) (pe_callB (cr_sortD (u65 hr)) (by rfl) (T.free (i := 126) rfl) (by decide +kernel) (pa_cons (pv 3) pa_nil)) (nomark _)))))) (pss_one (ps_ret pe_bl)) pss_nil)
    (pss_cons (ps_asg (pe_callD D_apart (hr.mono (by decide)) rfl (T.glo (i := 22) rfl) (pa_cons (pv 2) (pa_cons (pv 3) (pa_cons (pv 6) pa_nil)))) (pg_tup rfl (pgs_cons (pg_name (i := 10) sc_law.nd rfl (Or.inr rfl)) (pgs_cons (pg_name (i := 11) sc_law.nd rfl (Or.inl rfl)) pgs_nil))))
    (pss_cons (ps_if (pt_cmpR (op_neD hr.units) (pe_callB (cr_sortD (u65 hr)) (by rfl) (T.free (i := 126) rfl) (by decide +kernel) (pa_cons (pe_op op_cat (pe_lc (own := [("_law_pair", 12)]) (g := (gName 12)) (tt := (tTest (tOp (rNotInD K) (tVar 12) (tVar 10)))) (te := (tVar 12)) rfl sc_law.nd (pi_list (pv 9)) (blkOk_by (own := [("_law_pair", 12)]) (N := nm_law) (sc := defScope (top 64)) (by decide +kernel)) (fun _ _ _ _ _ => (pg_name (i := 12) sc_law.nd rfl (Or.inl rfl))) (fun _ _ _ _ _ => (pts_one (pt_cmpR (op_notInD (u65 hr)) (pv 12) (pv 10) (by first | rfl | with_unfolding_all rfl)))) (fun _ _ _ _ _ => (pv 12))) (pv 11)) pa_nil)) (pv 4) (nomark _)) (pss_one (ps_ret pe_bl)) pss_nil)
    (pss_cons (ps_set (i := 13) sc_law.nd rfl (Or.inl rfl) (pe_methD0 (pv 7) (T.cls (i := 69) rfl) (T.meth (i := 80) rfl) D_Nag_tale (hr.mono (by decide))))
    (pss_cons (ps_if (PW.pt (pw_and (pt_cmpR op_lt (pe_callB call_len_seq (by rfl) (T.free (i := 120) rfl) (by decide +kernel) (pa_cons (pv 13) pa_nil)) pe_int (nomark _)) (pw_and1 (pt_not (pt_val (pe_callB call_isi (by rfl) (T.free (i := 119) rfl) (by decide +kernel) (pa_cons (pe_callD D_judged (hr.mono (by decide)) rfl (T.glo (i := 24) rfl) (pa_cons (pv 2) (pa_cons (pv 6) (pa_cons (pv 13) pa_nil)))) (pa_cons (pe_glob (v := .ref (He.ga K "Right")) rfl (T.glo (i := 94) rfl) rfl) pa_nil)))))))) (pss_one (ps_ret pe_bl)) pss_nil)
    (pss_cons (ps_if (pt_cmpR op_lt (pe_callB call_len_seq (by rfl) (T.free (i := 120) rfl) (by decide +kernel) (pa_cons (pv 13) pa_nil)) pe_int (nomark _)) (pss_cons (ps_set (i := 14) sc_law.nd rfl (Or.inl rfl) (pe_callD D_judged (hr.mono (by decide)) rfl (T.glo (i := 24) rfl) (pa_cons (pv 2) (pa_cons (pv 6) (pa_cons (pe_op op_cat (pv 13) (pe_lst (pa_cons (pe_tup (pa_cons pe_str (pa_cons (pe_lst pa_nil) pa_nil))) pa_nil))) pa_nil)))))
    (pss_one (ps_if (PW.pt (pw_or (pt_not (pt_val (pe_callB call_isi (by rfl) (T.free (i := 119) rfl) (by decide +kernel) (pa_cons (pv 14) (pa_cons (pe_glob (v := .ref (He.ga K "Wrong")) rfl (T.glo (i := 97) rfl) rfl) pa_nil))))) (pw_or1 (pt_cmpR (op_neD hr.units) (pe_fld (pv 14) rfl) (pe_callB call_len_seq (by rfl) (T.free (i := 120) rfl) (by decide +kernel) (pa_cons (pv 13) pa_nil)) (nomark _))))) (pss_one (ps_ret pe_bl)) pss_nil))) pss_nil)
    (pss_one (ps_ret (pe_cmpR (op_eqD hr.units) (pe_methD0 (pe_callD D__law_nag (hr.mono (by decide)) rfl (T.glo (i := 28) rfl) (pa_cons (pe_lst (pa_cons (pe_tup (pa_cons (pe_lst (pa_cons pe_int pa_nil)) (pa_cons pe_int (pa_cons pe_int pa_nil)))) pa_nil)) (pa_cons (pe_lst pa_nil) (pa_cons pe_int pa_nil)))) (T.cls (i := 69) rfl) (T.meth (i := 79) rfl) D_Nag_sent (hr.mono (by decide))) (pe_lst (pa_cons (pe_tup (pa_cons pe_int (pa_cons pe_int pa_nil))) pa_nil)) (nomark _))))))))))))))))))),
    (sms_seq (sms_asg (sm_cb rc_sum (sma_cons (sm_dat (sml_sl (sm_var (i := 0)) smo_no (smo_part sm_int))) sma_nil)) (smn_name (i := 1)))
    (sms_seq (sms_asg (sm_callF (sma_cons (sm_var (i := 0)) (sma_cons sm_int sma_nil))) (smn_name (i := 2)))
    (sms_seq (sms_asg (sm_callF (sma_cons (sm_var (i := 0)) (sma_cons sm_int (sma_cons (sm_var (i := 2)) sma_nil)))) (smn_name (i := 3)))
    (sms_seq (sms_par (i := 4) (j := 5) (sma_cons (sm_callF (sma_cons (sm_var (i := 2)) (sma_cons (sm_var (i := 3)) sma_nil))) (sma_cons (sm_fld (c := "Enough") (T.cls (i := 87) rfl) (T.noat (i := 90) rfl) (sm_callO (sma_cons (sm_var (i := 2)) (sma_cons (sm_var (i := 3)) sma_nil)))) sma_nil)))
    (sms_seq (sms_if (smc_test (sm_op r2_ne (sm_meth (c := "Nag") (sm_callM (sma_cons (sm_var (i := 2)) (sma_cons (sm_var (i := 3)) (sma_cons (sm_var (i := 5)) sma_nil)))) sma_nil) (sm_var (i := 4)))) (sms_ret sm_bl) sms_next)
    (sms_seq (sms_if (smc_and (smc_test (sm_op r2_bl (sm_var (i := 5)) sm_int)) (smc_test (sm_op r2_eq (sm_meth (c := "Nag") (sm_callM (sma_cons (sm_var (i := 2)) (sma_cons (sm_var (i := 3)) (sma_cons (sm_op r2_int (sm_var (i := 5)) sm_int) sma_nil)))) sma_nil) (sm_var (i := 4))))) (sms_ret sm_bl) sms_next)
    (sms_seq (sms_asg (sm_op (r2_intC fun _ _ h => h) (sm_op (r2_intC fun _ _ h => h) (sm_var (i := 1)) sm_int) sm_int) (smn_name (i := 6)))
    (sms_seq (sms_par (i := 7) (j := 8) (sma_cons (sm_callM (sma_cons (sm_var (i := 2)) (sma_cons (sm_var (i := 3)) (sma_cons (sm_var (i := 6)) sma_nil)))) (sma_cons (sm_callM (sma_cons (sm_var (i := 2)) (sma_cons (sm_dat (sml_rev (sm_var (i := 3)))) (sma_cons (sm_var (i := 6)) sma_nil)))) sma_nil)))
    (sms_seq (sms_asg (sm_callF (sma_cons (sm_var (i := 2)) (sma_cons (sm_var (i := 3)) (sma_cons (sm_var (i := 6)) sma_nil)))) (smn_name (i := 9)))
    (sms_seq (sms_if (smc_or (smc_test (sm_op r2_ne (sm_meth (c := "Nag") (sm_var (i := 7)) sma_nil) (sm_var (i := 9)))) (smc_or (smc_test (sm_op r2_ne (sm_meth (c := "Nag") (sm_var (i := 8)) sma_nil) (sm_var (i := 9)))) (smc_test (sm_op r2_ne (sm_dat (sml_cb rl_sortD (sma_cons (sm_meth (c := "Nag") (sm_var (i := 7)) sma_nil) sma_nil))) (sm_dat (sml_cb rl_sortD (sma_cons (sm_var (i := 3)) sma_nil))))))) (sms_ret sm_bl) sms_next)
    (sms_seq (sms_asg (sm_callF (sma_cons (sm_var (i := 2)) (sma_cons (sm_var (i := 3)) (sma_cons (sm_var (i := 6)) sma_nil)))) (smn_tup (smn_cons (smn_name (i := 10)) (smn_cons (smn_name (i := 11)) smn_nil))))
    (sms_seq (sms_if (smc_test (sm_op r2_ne (sm_dat (sml_cb rl_sortD (sma_cons (sm_dat (sml_cat (sm_dat (sml_lc (smi_list (sm_var (i := 9))) (smn_name (i := 12)) (smc_test (sm_op r2_notInD (sm_var (i := 12)) (sm_var (i := 10)))) (sm_var (i := 12)) (by decide))) (sm_var (i := 11)))) sma_nil))) (sm_var (i := 4)))) (sms_ret sm_bl) sms_next)
    (sms_seq (sms_asg (sm_meth (c := "Nag") (sm_var (i := 7)) sma_nil) (smn_name (i := 13)))
    (sms_seq (sms_if (smc_and (smc_test (sm_op r2_bl (sm_cb rc_len (sma_cons (sm_var (i := 13)) sma_nil)) sm_int)) (smc_not (smc_B (sm_isiO (T := "Right") T.k (sm_callO (sma_cons (sm_var (i := 2)) (sma_cons (sm_var (i := 6)) (sma_cons (sm_var (i := 13)) sma_nil)))))))) (sms_ret sm_bl) sms_next)
    (sms_seq (sms_if (smc_test (sm_op r2_bl (sm_cb rc_len (sma_cons (sm_var (i := 13)) sma_nil)) sm_int)) (sms_seq (sms_asg (sm_callO (sma_cons (sm_var (i := 2)) (sma_cons (sm_var (i := 6)) (sma_cons (sm_dat (sml_cat (sm_var (i := 13)) (sm_dat (sml_lst (sma_cons (sm_tup (sma_cons sm_str (sma_cons (sm_dat (sml_lst sma_nil)) sma_nil))) sma_nil))))) sma_nil)))) (smn_name (i := 14)))
    (sms_if (smc_or (smc_not (smc_B (sm_isiO (T := "Wrong") T.k (sm_var (i := 14))))) (smc_test (sm_op r2_ne (sm_fld (c := "Wrong") (T.cls (i := 98) rfl) (T.noat (i := 101) rfl) (sm_var (i := 14))) (sm_cb rc_len (sma_cons (sm_var (i := 13)) sma_nil))))) (sms_ret sm_bl) sms_next)) sms_next)
    (sms_ret (sm_op r2_eq (sm_meth (c := "Nag") (sm_callM (sma_cons (sm_dat (sml_lst (sma_cons (sm_tup (sma_cons (sm_dat (sml_lst (sma_cons sm_int sma_nil))) (sma_cons sm_int (sma_cons sm_int sma_nil)))) sma_nil))) (sma_cons (sm_dat (sml_lst sma_nil)) (sma_cons sm_int sma_nil)))) sma_nil) (sm_dat (sml_lst (sma_cons (sm_tup (sma_cons sm_int (sma_cons sm_int sma_nil))) sma_nil))))))))))))))))))))⟩

end Nc
set_option Elab.async false
set_option linter.all false
set_option maxRecDepth 100000
set_option maxHeartbeats 0
namespace Nc
open PySem PySem.Spec PyProof.Rows L2
theorem fn_all {P : Program} {w : World} {K : PySem.W.Frag} {mg : Str → Option Value} (T : Tx K mg) : ∃ fd : FuncData, (∀ (s : Shared) (v : Value), BindsTo s fd ⟨[v], []⟩ [("_law_script", v)]) ∧ ∀ base : Heap, FnOk P w K mg base CX0 9 (He.ga K "law") fd ["_law_script"] (SpB K sem_law 1) := by
  obtain ⟨fd, hb, hF⟩ := fn_law (P := P) (w := w) T
  refine ⟨fd, hb, fun base => ?_⟩
  have D_is_whole := ok_is_whole (P := P) (w := w) (base := base) T 
  have D_is_between := ok_is_between (P := P) (w := w) (base := base) T D_is_whole
  have D_is_level := ok_is_level (P := P) (w := w) (base := base) T D_is_between
  have D_people_of := ok_people_of (P := P) (w := w) (base := base) T 
  have D_check_chain := ok_check_chain (P := P) (w := w) (base := base) T D_is_level D_people_of
  have D_is_word := ok_is_word (P := P) (w := w) (base := base) T D_is_between D_is_whole
  have D_check_words := ok_check_words (P := P) (w := w) (base := base) T D_check_chain D_is_word D_people_of
  have D_check_hold := ok_check_hold (P := P) (w := w) (base := base) T D_is_between
  have D_is_line := ok_is_line (P := P) (w := w) (base := base) T D_is_whole
  have D_check_tale := ok_check_tale (P := P) (w := w) (base := base) T D_is_line
  have D_level_at := ok_level_at (P := P) (w := w) (base := base) T 
  have D_every_of := ok_every_of (P := P) (w := w) (base := base) T 
  have D_Matter_init := ok_Matter_init (P := P) (w := w) (base := base) T 
  have D_Matter_told := ok_Matter_told (P := P) (w := w) (base := base) T D_level_at
  have D_Matter_due := ok_Matter_due (P := P) (w := w) (base := base) T D_every_of D_level_at
  have D_due_by := ok_due_by (P := P) (w := w) (base := base) T D_Matter_init D_Matter_due D_Matter_told
  have D_rows_by := ok_rows_by (P := P) (w := w) (base := base) T D_due_by
  have D_sent_in := ok_sent_in (P := P) (w := w) (base := base) T 
  have D_sent_by := ok_sent_by (P := P) (w := w) (base := base) T D_rows_by D_sent_in
  have D_pairs_of := ok_pairs_of (P := P) (w := w) (base := base) T 
  have D_least_hold := ok_least_hold (P := P) (w := w) (base := base) T D_rows_by D_sent_in
  have D_Round_init := ok_Round_init (P := P) (w := w) (base := base) T D_due_by D_people_of
  have D_Round_can_say := ok_Round_can_say (P := P) (w := w) (base := base) T 
  have D_Round_has_room := ok_Round_has_room (P := P) (w := w) (base := base) T 
  have D_Round_hear := ok_Round_hear (P := P) (w := w) (base := base) T D_due_by
  have D_Round_is_over := ok_Round_is_over (P := P) (w := w) (base := base) T 
  have D_Round_pass_one := ok_Round_pass_one (P := P) (w := w) (base := base) T 
  have D_Round_comes := ok_Round_comes (P := P) (w := w) (base := base) T D_Round_can_say D_Round_has_room D_Round_hear D_Round_is_over D_Round_pass_one
  have D_first_wrong := ok_first_wrong (P := P) (w := w) (base := base) T D_Round_init D_Round_comes
  have D_Nag_init := ok_Nag_init (P := P) (w := w) (base := base) T D_Round_init D_check_chain D_check_hold
  have D_Nag_check := ok_Nag_check (P := P) (w := w) (base := base) T D_is_between D_is_whole
  have D_Nag_hear := ok_Nag_hear (P := P) (w := w) (base := base) T D_Round_has_room D_Round_hear
  have D_Nag_take := ok_Nag_take (P := P) (w := w) (base := base) T D_Nag_check D_Nag_hear
  have D_Nag_put_off := ok_Nag_put_off (P := P) (w := w) (base := base) T D_Nag_check D_Nag_hear D_is_between
  have D_Nag_finish := ok_Nag_finish (P := P) (w := w) (base := base) T D_Nag_check D_Nag_hear
  have D_Nag_pass_tick := ok_Nag_pass_tick (P := P) (w := w) (base := base) T D_Round_is_over D_Round_pass_one
  have D_Nag_at := ok_Nag_at (P := P) (w := w) (base := base) T 
  have D_Nag_words := ok_Nag_words (P := P) (w := w) (base := base) T 
  have D_Nag_sent := ok_Nag_sent (P := P) (w := w) (base := base) T 
  have D_Nag_tale := ok_Nag_tale (P := P) (w := w) (base := base) T 
  have D_Enough_init := ok_Enough_init (P := P) (w := w) (base := base) T 
  have D_Wrong_init := ok_Wrong_init (P := P) (w := w) (base := base) T 
  have D_due_all := ok_due_all (P := P) (w := w) (base := base) T D_check_words D_due_by D_pairs_of
  have D_sent_all := ok_sent_all (P := P) (w := w) (base := base) T D_check_hold D_check_words D_pairs_of D_sent_by
  have D_apart := ok_apart (P := P) (w := w) (base := base) T D_due_by D_pairs_of D_sent_all
  have D_apart_deep := ok_apart_deep (P := P) (w := w) (base := base) T D_due_by D_pairs_of D_sent_all
  have D_enough := ok_enough (P := P) (w := w) (base := base) T D_Enough_init D_apart D_check_words D_least_hold
  have D_judged := ok_judged (P := P) (w := w) (base := base) T D_Wrong_init D_check_chain D_check_hold D_check_tale D_first_wrong
  have D__law_number := ok__law_number (P := P) (w := w) (base := base) T 
  have D__law_chain := ok__law_chain (P := P) (w := w) (base := base) T D__law_number
  have D__law_words := ok__law_words (P := P) (w := w) (base := base) T D__law_number
  have D__law_nag := ok__law_nag (P := P) (w := w) (base := base) T D_Nag_init D_Nag_finish D_Nag_pass_tick D_Nag_put_off D_Nag_take
  exact hF base D_Nag_sent D_Nag_tale D_Nag_words D__law_chain D__law_nag D__law_words D_apart D_due_all D_enough D_judged D_sent_all
theorem sp_law {K : PySem.W.Frag} (H : Hp) (a : Addr) (ns : List Int) (hS : SqL K H a (ns.map V.int)) : SpB K sem_law 1 [.ref a] H (fun v _ => v = .bl true) fun _ _ _ => False := by
  obtain ⟨S', e⟩ := law_e ns
  refine ⟨g0 H, [], [], [.scr ns], _, S', rfl, ob0, .cons ⟨a, H, rfl, ⟨fun _ _ e => e, fun _ h => (by cases h), fun _ h => (by cases h)⟩, hS⟩ .nil, e, fun v H' m' _ _ r => r.bool⟩
abbrev R : PySem.W.OpenRow := PySem.W.OpenLaw.row PySem.Challenge.rw_nagchain_k12_whole_way
abbrev hk : PySem.W.Hook := hookN 6 fa fn ktA
def ob (s : PySem.W.SharedT) : He.AlD × Bool := obsNG 6 fa fn ktA (HandSHeadRun.getT s)
theorem ob_eq (s : PySem.W.SharedT) : ob s = hk.obs s.abs := obsNG_eq (HandSHeadRun.getT_eq s)
theorem run (w : World) : HandSHeadRun.RunEq R (PySem.W.view R.prog [64]) hk ob 6000 names w := by
  intro os
  kernel_rfl
end Nc
open PySem PySem.W PySem.Calls PyProof.Rows
theorem PySem.Challenge.cw_nagchain_k12_whole_way_holds : PySem.Challenge.rw_nagchain_k12_whole_way.Holds := by
  w_on; o_law
  refine HandSHeadRun.head_any (r := OpenLaw.row PySem.Challenge.rw_nagchain_k12_whole_way) (q := view (OpenLaw.row PySem.Challenge.rw_nagchain_k12_whole_way).prog [64]) (H := Nc.hk) (ob := Nc.ob) (M := 6000) (loose := Nc.names) (d := HandSHeadRun.topDef (OpenLaw.row PySem.Challenge.rw_nagchain_k12_whole_way).prog 64) (kwd := []) Nc.ob_eq
    (by kernel_rfl) (fun s => by kernel_rfl) Nc.run (by kernel_rfl) (by kernel_rfl) (by kernel_rfl) (by rfl) (by first | assumption | decide +kernel) (by decide +kernel) ⟨rfl, rfl, rfl, rfl, rfl, by decide +kernel⟩ ?hw ?hc
  case hw => w_witness2
  case hc =>
    refine L2.walk_ofE (l := PySem.Challenge.rw_nagchain_k12_whole_way) (n := 63) (k := 9) (x := "_law_script") (CX := L2.CX0) rfl (by decide) (by kernel_rfl) ⟨rfl, by decide, by decide⟩ ?F (fun _ _ _ _ z => z)
    intro w mg fa h Y G hmg0
    obtain ⟨K, KX, c, ck⟩ := Y
    have hmg : mg ("law" : PySem.Str) = some (.ref fa) := by
      have e : (HandSHeadRun.topDef (OpenLaw.row PySem.Challenge.rw_nagchain_k12_whole_way).prog 64).name = ("law" : PySem.Str) := by kernel_rfl
      rw [← e]
      exact hmg0
    have T : Nc.Tx K mg := ⟨c, ck, h, KX, G⟩
    obtain ⟨fd, hb, hF⟩ := Nc.fn_all (P := (PySem.Challenge.rw_nagchain_k12_whole_way).prog) (w := w) T
    have e := hmg.symm.trans (T.glo (i := 29) (x := "law") rfl)
    cases e
    exact ⟨K, fd, Nc.SpB K Nc.sem_law 1, KX, hb, fun H a ns _ _ hS => Nc.sp_law H a ns hS, fun base _ _ => hF base⟩
