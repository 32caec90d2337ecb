import PyProof.Rows.All
import Wide.All
import OpenK.AllK
import Wide.FinOn
import HandS.ForMost
import HandS.ForExc
import HandS.IsInst
import HandS.Wide
import HandS.EndBits
import HandS.Defaults
import HandS.CallSlots
import PyProof.ReprReads
import HandS.Flow
import HandS.TupAny
import HandS.RaiseMore
import PyProof.ReprRoads
import PyProof.StrBlock2
import KE.KExcIs
import HandS.Replace
import KE.KExcStr
import KE.KExcInit
import HandS.Codes
import HandS.Style
import KE.KUnpackStar
import HandS.TryOnly
import KE.IntTextText
import KE.GoesMore
import KE.KMinBuiltin
import HandS.SortKw
import PyProof.Rows.StrRev
import HandS.Strs
import HandS.Text
import PyProof.StrCalls6
import KE.KTryMore
import HandS.TupMul
import KE.KWords
import HandS.Lambda
import HandS.EndTab
import HandS.More
import KE.KDictKeyed
import KE.KeyNested
import HandS.TupLen
import HandS.SortInts
import PyProof.TupleOfSeq
import PyProof.Rows.SortStr
import PyProof.Rows.SortWalk
import PySem.Challenge.RW_callwords_k60_tables_of_kinds
set_option Elab.async false
set_option linter.all false
set_option maxRecDepth 100000
set_option maxHeartbeats 4000000
/-! Dw: a calculus over data. A value is known by its datum (Dt), what may change is a small store (Mu); the heap itself stays hidden behind Rep. -/
namespace Dw
open PySem PySem.Spec PyProof.Rows L2
/-- data; frz: a list that can only be read; raw: any value by itself (a thing of the store, a class, ..) -/
inductive Dt where
  | non | bl (b : Bool) | int (i : Int) | str (x : Str) | lst (ds : List Dt) | tup (ds : List Dt) | frz (ds : List Dt) | dct (kvs : List (Key × Dt)) | exc (C : Addr) (nm : Str) (ds : List Dt) | cau (a dx : Addr) (fs : List (Str × Dt)) | obj (φ : Addr → List V → HO) (ds : List Dt) | raw (v : V)
/-- what may change: a list, an instance, any thing of a shape with data in it (a dict) -/
inductive Mc where
  | lst (ds : List Dt) | ins (C dx : Addr) (fs : List (Str × Dt)) | gen (φ : List V → HO) (ds : List Dt)
abbrev En := List (Option Dt)
abbrev Mu := List (Addr × Mc)
def dom (m : Mu) : List Addr := m.map (·.1)
def H0 : Hp := fun _ => none
/-- a list that stands still, D: the addresses that may change -/
def SL (D : List Addr) (H : Hp) (a : Addr) (xs : List V) : Prop := a ∉ D ∧ H a = some (.lst xs)
def SZ (K : PySem.W.Frag) (D : List Addr) (H : Hp) (a : Addr) (xs : List V) : Prop := (a ∉ D ∧ Rd H a (.lst xs)) ∨ SqL K H0 a xs
def ST (K : PySem.W.Frag) (D : List Addr) (H : Hp) (a : Addr) (xs : List V) : Prop := (a ∉ D ∧ H a = some (.tup xs)) ∨ SqT K H0 a xs
theorem rd_none {a : Addr} {o : HO} (h : Rd H0 a o) : False := by
  rcases h with h | ⟨_, h⟩ <;> cases h
theorem SL.sq {K : PySem.W.Frag} {D : List Addr} {H : Hp} {a : Addr} {xs : List V} (h : SL D H a xs) : SqL K H a xs := SqL.of h.2
theorem SZ.sq {K : PySem.W.Frag} {D : List Addr} {H : Hp} {a : Addr} {xs : List V} (h : SZ K D H a xs) : SqL K H a xs := by
  rcases h with ⟨_, h⟩ | h
  · exact .inl h
  · rcases h with h | h
    · exact (rd_none h).elim
    · exact .inr h
theorem ST.sq {K : PySem.W.Frag} {D : List Addr} {H : Hp} {a : Addr} {xs : List V} (h : ST K D H a xs) : SqT K H a xs := by
  rcases h with ⟨_, h⟩ | h
  · exact SqT.of h
  · rcases h with h | h
    · exact (rd_none h).elim
    · exact .inr h
/-- an exception's object: its class, its arguments at t, its dict at dx -/
def ExO (a C t dx : Addr) : Heap → Prop := fun h => ∃ (o : Obj) (vs : Array Value), h.get? a = some o ∧ o.cls = .ref C ∧ o.data = .fields vs ∧ vs[0]? = some (.ref t) ∧ o.dict = some dx
mutual
inductive Da (K : PySem.W.Frag) (D : List Addr) (H : Hp) : Dt → V → Prop
  | non : Da K D H .non .non
  | bl (b : Bool) : Da K D H (.bl b) (.bl b)
  | int (i : Int) : Da K D H (.int i) (.int i)
  | str (x : Str) : Da K D H (.str x) (.str x)
  | lst {a : Addr} {xs : List V} {ds : List Dt} : SL D H a xs → DaL K D H ds xs → Da K D H (.lst ds) (.ref a)
  | frz {a : Addr} {xs : List V} {ds : List Dt} : SZ K D H a xs → DaL K D H ds xs → Da K D H (.frz ds) (.ref a)
  | tup {a : Addr} {xs : List V} {ds : List Dt} : ST K D H a xs → DaL K D H ds xs → Da K D H (.tup ds) (.ref a)
  | dct {a : Addr} {o : Obj} {ks : List (Key × Dt)} {vs : List (Key × V)} : a ∉ D → H a = some (.frz o (.dK vs)) → DaK K D H ks vs → Da K D H (.dct ks) (.ref a)
  | exc {a t C dx : Addr} {nm : Str} {xs : List V} {ds : List Dt} {us : List (Str × V)} : a ∉ D → H a = some (.ext (ExO a C t dx)) → t ∉ D → H t = some (.tup xs) → dx ∉ D → H dx = some (.xd us) → DaL K D H ds xs → Da K D H (.exc C nm ds) (.ref a)
  | cau {a dx : Addr} {fs : List (Str × Dt)} {us : List (Str × V)} : dx ∉ D → H dx = some (.xd us) → Fds K D H fs us → Da K D H (.cau a dx fs) (.ref a)
  | obj {a : Addr} {φ : Addr → List V → HO} {vs : List V} {ds : List Dt} : a ∉ D → H a = some (φ a vs) → DaL K D H ds vs → Da K D H (.obj φ ds) (.ref a)
  | raw (v : V) : Da K D H (.raw v) v
inductive DaL (K : PySem.W.Frag) (D : List Addr) (H : Hp) : List Dt → List V → Prop
  | nil : DaL K D H [] []
  | cons {d : Dt} {v : V} {ds : List Dt} {vs : List V} : Da K D H d v → DaL K D H ds vs → DaL K D H (d :: ds) (v :: vs)
inductive DaK (K : PySem.W.Frag) (D : List Addr) (H : Hp) : List (Key × Dt) → List (Key × V) → Prop
  | nil : DaK K D H [] []
  | cons {k : Key} {d : Dt} {v : V} {ds : List (Key × Dt)} {vs : List (Key × V)} : Da K D H d v → DaK K D H ds vs → DaK K D H ((k, d) :: ds) ((k, v) :: vs)
/-- fields, by name -/
inductive Fds (K : PySem.W.Frag) (D : List Addr) (H : Hp) : List (Str × Dt) → List (Str × V) → Prop
  | nil : Fds K D H [] []
  | cons {f : Str} {d : Dt} {v : V} {ds : List (Str × Dt)} {vs : List (Str × V)} : Da K D H d v → Fds K D H ds vs → Fds K D H ((f, d) :: ds) ((f, v) :: vs)
end
/-- from (D, H) to (D', H'): only D changes, what is in D' besides is new -/
structure Ext (D : List Addr) (H : Hp) (D' : List Addr) (H' : Hp) : Prop where
  keep : ∀ a o, a ∉ D → H a = some o → H' a = some o
  new : ∀ a, a ∈ D' → a ∈ D ∨ H a = none
theorem Ext.rfl' {D : List Addr} {H : Hp} : Ext D H D H := ⟨fun _ _ _ h => h, fun _ h => .inl h⟩
theorem Ext.trans {D D1 D2 : List Addr} {H H1 H2 : Hp} (x : Ext D H D1 H1) (y : Ext D1 H1 D2 H2) : Ext D H D2 H2 := by
  refine ⟨fun a o h e => ?_, fun a h => ?_⟩
  · refine y.keep a o (fun z => ?_) (x.keep a o h e)
    rcases x.new a z with q | q
    · exact h q
    · rw [e] at q; cases q
  · rcases y.new a h with q | q
    · exact x.new a q
    · by_cases hd : a ∈ D
      · exact .inl hd
      · cases e : H a with
        | none => exact .inr rfl
        | some o => rw [x.keep a o hd e] at q; cases q
theorem Ext.fresh {D : List Addr} {H : Hp} {p : Addr} {o : HO} (h : H p = none) : Ext D H D (upd H p o) :=
  ⟨fun a u _ e => by rw [upd_ne (ne_of_none e h)]; exact e, fun _ z => .inl z⟩
section
variable {K : PySem.W.Frag} {D D' : List Addr} {H H' : Hp}
theorem rd_move {a : Addr} {o : HO} (k : ∀ a o, a ∉ D → H a = some o → H' a = some o) (n : a ∉ D) (h : Rd H a o) : Rd H' a o := by
  rcases h with h | ⟨u, h⟩
  · exact .inl (k _ _ n h)
  · exact .inr ⟨u, k _ _ n h⟩
theorem rd_there {a : Addr} {o : HO} (h : Rd H a o) : H a ≠ none := by
  rcases h with h | ⟨u, h⟩ <;> (rw [h]; exact fun z => nomatch z)
theorem SL.move {a : Addr} {xs : List V} (x : Ext D H D' H') (h : SL D H a xs) : SL D' H' a xs := by
  refine ⟨fun z => ?_, x.keep _ _ h.1 h.2⟩
  rcases x.new a z with q | q
  · exact h.1 q
  · rw [h.2] at q; cases q
theorem SZ.move {a : Addr} {xs : List V} (x : Ext D H D' H') (h : SZ K D H a xs) : SZ K D' H' a xs := by
  rcases h with ⟨n, h⟩ | h
  · refine .inl ⟨fun z => ?_, rd_move x.keep n h⟩
    rcases x.new a z with q | q
    · exact n q
    · exact rd_there h q
  · exact .inr h
theorem ST.move {a : Addr} {xs : List V} (x : Ext D H D' H') (h : ST K D H a xs) : ST K D' H' a xs := by
  rcases h with ⟨n, h⟩ | h
  · refine .inl ⟨fun z => ?_, x.keep _ _ n h⟩
    rcases x.new a z with q | q
    · exact n q
    · rw [h] at q; cases q
  · exact .inr h
theorem NoD.move {a : Addr} {o : HO} (x : Ext D H D' H') (n : a ∉ D) (h : H a = some o) : a ∉ D' := fun z => by
  rcases x.new a z with q | q
  · exact n q
  · rw [h] at q; cases q
mutual
theorem Da.move (x : Ext D H D' H') : ∀ {d : Dt} {v : V}, Da K D H d v → Da K D' H' d v
  | _, _, .non => .non
  | _, _, .bl b => .bl b
  | _, _, .int i => .int i
  | _, _, .str y => .str y
  | _, _, .lst h1 h2 => .lst (h1.move x) (DaL.move x h2)
  | _, _, .tup h1 h2 => .tup (h1.move x) (DaL.move x h2)
  | _, _, .frz h1 h2 => .frz (h1.move x) (DaL.move x h2)
  | _, _, .dct n h1 h2 => .dct (NoD.move x n h1) (x.keep _ _ n h1) (DaK.move x h2)
  | _, _, .exc n h1 n2 h2 n4 h4 h3 => .exc (NoD.move x n h1) (x.keep _ _ n h1) (NoD.move x n2 h2) (x.keep _ _ n2 h2) (NoD.move x n4 h4) (x.keep _ _ n4 h4) (DaL.move x h3)
  | _, _, .cau n h1 h2 => .cau (NoD.move x n h1) (x.keep _ _ n h1) (Fds.move x h2)
  | _, _, .obj n h1 h2 => .obj (NoD.move x n h1) (x.keep _ _ n h1) (DaL.move x h2)
  | _, _, .raw v => .raw v
theorem DaL.move (x : Ext D H D' H') : ∀ {ds : List Dt} {vs : List V}, DaL K D H ds vs → DaL K D' H' ds vs
  | _, _, .nil => .nil
  | _, _, .cons h1 h2 => .cons (Da.move x h1) (DaL.move x h2)
theorem DaK.move (x : Ext D H D' H') : ∀ {ds : List (Key × Dt)} {vs : List (Key × V)}, DaK K D H ds vs → DaK K D' H' ds vs
  | _, _, .nil => .nil
  | _, _, .cons h1 h2 => .cons (Da.move x h1) (DaK.move x h2)
theorem Fds.move (x : Ext D H D' H') : ∀ {fs : List (Str × Dt)} {vs : List (Str × V)}, Fds K D H fs vs → Fds K D' H' fs vs
  | _, _, .nil => .nil
  | _, _, .cons h1 h2 => .cons (Da.move x h1) (Fds.move x h2)
end
theorem Fds.look {K : PySem.W.Frag} {D : List Addr} {H : Hp} {f : Str} : ∀ {fs : List (Str × Dt)} {vs : List (Str × V)} {d : Dt}, Fds K D H fs vs → fs.lookup f = some d → ∃ v, vs.lookup f = some v ∧ Da K D H d v
  | _, _, _, .nil, e => by cases e
  | (g, d0) :: fs, (_, v0) :: vs, d, .cons h1 h2, e => by
    rw [List.lookup_cons] at e ⊢
    cases hb : f == g with
    | true => rw [hb] at e; cases e; exact ⟨v0, rfl, h1⟩
    | false => rw [hb] at e; exact Fds.look h2 e
theorem DaL.length : ∀ {ds : List Dt} {vs : List V}, DaL K D H ds vs → ds.length = vs.length
  | _, _, .nil => rfl
  | _, _, .cons _ h => by rw [List.length_cons, List.length_cons, DaL.length h]
theorem DaL.append : ∀ {ds es : List Dt} {vs us : List V}, DaL K D H ds vs → DaL K D H es us → DaL K D H (ds ++ es) (vs ++ us)
  | _, _, _, _, .nil, q => q
  | _, _, _, _, .cons h t, q => .cons h (DaL.append t q)
theorem DaL.get : ∀ {ds : List Dt} {vs : List V} {i : Nat} {d : Dt}, DaL K D H ds vs → ds[i]? = some d → ∃ v, vs[i]? = some v ∧ Da K D H d v
  | _, _, _, _, .nil, e => by simp at e
  | _, _, 0, _, .cons h _, e => by simp at e; subst e; exact ⟨_, rfl, h⟩
  | _, _, i + 1, d, .cons _ t, e => by
    obtain ⟨v, h1, h2⟩ := DaL.get (i := i) (d := d) t (by simpa using e)
    exact ⟨v, by simpa using h1, h2⟩
theorem DaL.getV : ∀ {ds : List Dt} {vs : List V} {i : Nat} {v : V}, DaL K D H ds vs → vs[i]? = some v → ∃ d, ds[i]? = some d ∧ Da K D H d v
  | _, _, _, _, .nil, e => by simp at e
  | _, _, 0, _, .cons h _, e => by simp at e; subst e; exact ⟨_, rfl, h⟩
  | _, _, i + 1, v, .cons _ t, e => by
    obtain ⟨d, h1, h2⟩ := DaL.getV (i := i) (v := v) t (by simpa using e)
    exact ⟨d, by simpa using h1, h2⟩
theorem DaL.take : ∀ {ds : List Dt} {vs : List V} (n : Nat), DaL K D H ds vs → DaL K D H (ds.take n) (vs.take n)
  | _, _, 0, _ => .nil
  | _, _, _ + 1, .nil => .nil
  | _, _, n + 1, .cons h t => .cons h (DaL.take n t)
theorem DaL.drop : ∀ {ds : List Dt} {vs : List V} (n : Nat), DaL K D H ds vs → DaL K D H (ds.drop n) (vs.drop n)
  | _, _, 0, h => h
  | _, _, _ + 1, .nil => .nil
  | _, _, n + 1, .cons _ t => DaL.drop n t
theorem DaL.set {d : Dt} {v : V} (q : Da K D H d v) : ∀ {ds : List Dt} {vs : List V} (i : Nat), DaL K D H ds vs → DaL K D H (ds.set i d) (vs.set i v)
  | _, _, _, .nil => .nil
  | _, _, 0, .cons _ t => .cons q t
  | _, _, i + 1, .cons h t => .cons h (DaL.set q i t)
end
def McOk (K : PySem.W.Frag) (D : List Addr) (H : Hp) (a : Addr) : Mc → Prop
  | .lst ds => ∃ xs, H a = some (.lst xs) ∧ DaL K D H ds xs
  | .ins C dx fs => ∃ vs, H a = some (.ins C dx vs) ∧ Fds K D H fs vs
  | .gen φ ds => ∃ vs, H a = some (φ vs) ∧ DaL K D H ds vs ∧ ∀ xs, φ vs ≠ .tup xs
/-- there, and no tuple -/
def Live (o : Option HO) : Prop := o ≠ none ∧ ∀ xs, o ≠ some (.tup xs)
/-- the store; Z: what is hidden and stands still -/
structure So (K : PySem.W.Frag) (Z : List Addr) (m : Mu) (H : Hp) : Prop where
  nd : (dom m).Nodup
  zs : ∀ a ∈ Z, Live (H a)
  dj : ∀ a ∈ Z, a ∉ dom m
  ob : ∀ p ∈ m, McOk K (Z ++ dom m) H p.1 p.2
theorem McOk.there {K : PySem.W.Frag} {D : List Addr} {H : Hp} {a : Addr} {c : Mc} (h : McOk K D H a c) : H a ≠ none := by
  cases c with
  | lst ds => obtain ⟨xs, e, _⟩ := h; rw [e]; exact fun z => nomatch z
  | ins C dx fs => obtain ⟨vs, e, _⟩ := h; rw [e]; exact fun z => nomatch z
  | gen φ es => obtain ⟨vs, e, _⟩ := h; rw [e]; exact fun z => nomatch z
theorem So.there {K : PySem.W.Frag} {Z : List Addr} {m : Mu} {H : Hp} (s : So K Z m H) {a : Addr} (h : a ∈ Z ++ dom m) : H a ≠ none := by
  rcases List.mem_append.mp h with h | h
  · exact (s.zs a h).1
  · obtain ⟨p, hp, rfl⟩ := List.mem_map.mp h
    exact (s.ob p hp).there
theorem McOk.keep {K : PySem.W.Frag} {D D' : List Addr} {H H' : Hp} {a : Addr} {c : Mc} (h : McOk K D H a c) (k : ∀ o, H a = some o → H' a = some o) (x : Ext D H D' H') : McOk K D' H' a c := by
  cases c with
  | lst ds => obtain ⟨ys, e, d⟩ := h; exact ⟨ys, k _ e, d.move x⟩
  | ins C dx fs => obtain ⟨ys, e, d⟩ := h; exact ⟨ys, k _ e, d.move x⟩
  | gen φ es => obtain ⟨ys, e, d, n⟩ := h; exact ⟨ys, k _ e, d.move x, n⟩
theorem McOk.live {K : PySem.W.Frag} {D : List Addr} {H : Hp} {a : Addr} {c : Mc} (h : McOk K D H a c) : Live (H a) := by
  refine ⟨h.there, fun xs z => ?_⟩
  cases c with
  | lst ds => obtain ⟨ys, e, _⟩ := h; rw [e] at z; cases z
  | ins C dx fs => obtain ⟨ys, e, _⟩ := h; rw [e] at z; cases z
  | gen φ es => obtain ⟨ys, e, _, n⟩ := h; rw [e] at z; exact n xs (Option.some.inj z)
theorem So.live {K : PySem.W.Frag} {Z : List Addr} {m : Mu} {H : Hp} (s : So K Z m H) {a : Addr} (h : a ∈ Z ++ dom m) : Live (H a) := by
  rcases List.mem_append.mp h with h | h
  · exact s.zs a h
  · obtain ⟨p, hp, rfl⟩ := List.mem_map.mp h
    exact (s.ob p hp).live
theorem So.fresh {K : PySem.W.Frag} {Z : List Addr} {m : Mu} {H : Hp} (s : So K Z m H) {p : Addr} (h : H p = none) : p ∉ Z ++ dom m := fun z => s.there z h
/-- the steps' relation -/
abbrev Go (m : Mu) (H : Hp) (m' : Mu) (H' : Hp) : Prop := Ext (dom m) H (dom m') H'
theorem Go.full {m m' : Mu} {H H' : Hp} (Z : List Addr) (x : Go m H m' H') : Ext (Z ++ dom m) H (Z ++ dom m') H' :=
  ⟨fun a o n e => x.keep a o (fun z => n (List.mem_append_right _ z)) e, fun a h => by
    rcases List.mem_append.mp h with h | h
    · exact .inl (List.mem_append_left _ h)
    · rcases x.new a h with q | q
      · exact .inl (List.mem_append_right _ q)
      · exact .inr q⟩
/-- a new thing beside -/
theorem So.laid {K : PySem.W.Frag} {Z : List Addr} {m : Mu} {H : Hp} {p : Addr} {o : HO} (s : So K Z m H) (h : H p = none) : So K Z m (upd H p o) := by
  have x : Go m H m (upd H p o) := Ext.fresh h
  refine ⟨s.nd, fun a ha => ?_, s.dj, fun q hq => ?_⟩
  · have hn : a ≠ p := fun z => (s.zs a ha).1 (by rw [z]; exact h)
    rw [upd_ne hn]
    exact s.zs a ha
  · have hn : q.1 ≠ p := fun z => (s.ob q hq).there (by rw [z]; exact h)
    have y := s.ob q hq
    cases e : q.2 with
    | lst ds =>
      rw [e] at y
      obtain ⟨xs, e1, e2⟩ := y
      exact ⟨xs, by rw [upd_ne hn]; exact e1, e2.move (x.full Z)⟩
    | ins C dx fs =>
      rw [e] at y
      obtain ⟨vs, e1, e2⟩ := y
      exact ⟨vs, by rw [upd_ne hn]; exact e1, e2.move (x.full Z)⟩
    | gen φ es =>
      rw [e] at y
      obtain ⟨vs, e1, e2⟩ := y
      exact ⟨vs, by rw [upd_ne hn]; exact e1, e2.1.move (x.full Z), e2.2⟩
/-- the frame: what the slots hold -/
structure Rep (K : PySem.W.Frag) (Z : List Addr) (m : Mu) (H : Hp) (g : L2.St) (r : En) : Prop where
  so : So K Z m H
  len : g.length = r.length
  at' : ∀ (i : Nat) (d : Dt), r[i]? = some (some d) → ∃ v, g[i]? = some (some v) ∧ Da K (Z ++ dom m) H d v
theorem Rep.go {K : PySem.W.Frag} {Z : List Addr} {m m' : Mu} {H H' : Hp} {g : L2.St} {r : En} (h : Rep K Z m H g r) (x : Go m H m' H') (s : So K Z m' H') : Rep K Z m' H' g r :=
  ⟨s, h.len, fun i d e => by
    obtain ⟨v, h1, h2⟩ := h.at' i d e
    exact ⟨v, h1, h2.move (x.full Z)⟩⟩
theorem Rep.set {K : PySem.W.Frag} {Z : List Addr} {m : Mu} {H : Hp} {g : L2.St} {r : En} (h : Rep K Z m H g r) (i : Nat) {d : Dt} {v : V} (q : Da K (Z ++ dom m) H d v) : Rep K Z m H (g.set i (some v)) (r.set i (some d)) := by
  refine ⟨h.so, by rw [List.length_set, List.length_set]; exact h.len, fun j e hj => ?_⟩
  by_cases hij : i = j
  · subst hij
    by_cases hi : i < r.length
    · rw [List.getElem?_set_self hi] at hj
      cases hj
      exact ⟨v, List.getElem?_set_self (by rw [h.len]; exact hi), q⟩
    · rw [List.getElem?_eq_none (by simpa using hi)] at hj
      cases hj
  · rw [List.getElem?_set_ne hij] at hj
    rw [List.getElem?_set_ne hij]
    exact h.at' j e hj
theorem Rep.unset {K : PySem.W.Frag} {Z : List Addr} {m : Mu} {H : Hp} {g : L2.St} {r : En} (h : Rep K Z m H g r) (i : Nat) : Rep K Z m H (g.set i none) (r.set i none) := by
  refine ⟨h.so, by rw [List.length_set, List.length_set]; exact h.len, fun j e hj => ?_⟩
  by_cases hij : i = j
  · subst hij
    by_cases hi : i < r.length
    · rw [List.getElem?_set_self hi] at hj
      cases hj
    · rw [List.getElem?_eq_none (by simpa using hi)] at hj
      cases hj
  · rw [List.getElem?_set_ne hij] at hj
    rw [List.getElem?_set_ne hij]
    exact h.at' j e hj
end Dw
namespace Dw
open PySem PySem.Spec PyProof.Rows L2
abbrev Pd := Dt → Mu → Prop
/-- what is wanted of an exception: its class, its fields, the slots, the store -/
abbrev Xd := Value → List (Str × Dt) → En → Mu → Prop
def X0 : Xd := fun _ _ _ _ => False
/-! ### the weakest readings -/
def wE (X : Cx) (e : Expr) : TE := fun g H Q => ∀ (pins : List (Addr × Obj)) (s : Shared), Inv X pins g H s → wpAny (model X.prog X.w) X.A (eval e X.env) (EP X pins g Q) X.xe s
def wT (X : Cx) (e : Expr) : TT := fun g H Q => ∀ (pins : List (Addr × Obj)) (s : Shared), Inv X pins g H s → wpAny (model X.prog X.w) X.A (isTrue e X.env (eval e X.env)) (TP X pins g Q) X.xe s
def wA (X : Cx) (es : List Expr) : TA := fun g H Q => ∀ (pos : Pos) (pins : List (Addr × Obj)) (s : Shared), Inv X pins g H s → wpAny (model X.prog X.w) X.A (spliced (backTo pos (starEach es X.env))) (AP X pins g Q) X.xe s
def wS (X : Cx) (st : Stmt) : TS := fun D g H => ∀ (pins : List (Addr × Obj)) (s : Shared), Inv X pins g H s → wpAny (model X.prog X.w) X.A (exec st X.env) (SP X pins D) X.xe s
def wB (X : Cx) (st : List Stmt) : TS := fun D g H => ∀ (pins : List (Addr × Obj)) (s : Shared), Inv X pins g H s → wpAny (model X.prog X.w) X.A (execs st X.env) (SP X pins D) X.xe s
def wO (X : Cx) (f : Value → Value → Sem Value) : R2 := fun x y H Q => ∀ (pins : List (Addr × Obj)) (s : Shared) (g : L2.St), Inv X pins g H s → ∀ v u : Value, RelV x v → RelV y u → wpAny (model X.prog X.w) X.A (f v u) (EP X pins g Q) X.xe s
def wU (X : Cx) (f : Value → Sem Value) : V → Hp → VK → Prop := fun x H Q => ∀ (pins : List (Addr × Obj)) (s : Shared) (g : L2.St), Inv X pins g H s → ∀ v : Value, RelV x v → wpAny (model X.prog X.w) X.A (f v) (EP X pins g Q) X.xe s
def wC (X : Cx) (f : Value) : List V → Hp → VK → Prop := fun xs H Q => ∀ (pins : List (Addr × Obj)) (s : Shared) (g : L2.St), Inv X pins g H s → ∀ us : List Value, Vals xs us → wpAny (model X.prog X.w) X.A (call f us) (EP X pins g Q) X.xe s
section
variable {X : Cx}
theorem pe_w {e : Expr} : PE X e (wE X e) := ⟨fun pins s g H Q I h => h pins s I⟩
theorem pt_w {e : Expr} : PT X e (wT X e) := ⟨fun pins s g H Q I h => h pins s I⟩
theorem pa_w {es : List Expr} : PA X es (wA X es) := ⟨fun pos pins s g H Q I h => h pos pins s I⟩
theorem ps_w {st : Stmt} : PS X st (wS X st) := ⟨fun pins s g H D I h => h pins s I⟩
theorem pss_w {st : List Stmt} : PSs X st (wB X st) := ⟨fun pins s g H D I h => h pins s I⟩
theorem op_w {f : Value → Value → Sem Value} : OpR X f (wO X f) := fun pins s g H x y v u Q I rx ry h => h pins s g I v u rx ry
theorem un_w {f : Value → Sem Value} : UnR X f (wU X f) := fun pins s g H x v Q I rx h => h pins s g I v rx
theorem call_w {f : Value} : CallR X f (wC X f) := fun pins s g H xs us Q I r h => h pins s g I us r
theorem _root_.L2.PE.w {e : Expr} {t : TE} (h : PE X e t) {g : L2.St} {H : Hp} {Q : VK} (q : t g H Q) : wE X e g H Q := fun pins s I => h.run pins s g H Q I q
theorem _root_.L2.PT.w {e : Expr} {t : TT} (h : PT X e t) {g : L2.St} {H : Hp} {Q : Bool → Hp → Prop} (q : t g H Q) : wT X e g H Q := fun pins s I => h.run pins s g H Q I q
theorem _root_.L2.PA.w {e : List Expr} {t : TA} (h : PA X e t) {g : L2.St} {H : Hp} {Q : List V → Hp → Prop} (q : t g H Q) : wA X e g H Q := fun pos pins s I => h.run pos pins s g H Q I q
theorem _root_.L2.PS.w {e : Stmt} {t : TS} (h : PS X e t) {g : L2.St} {H : Hp} {D : Ends} (q : t D g H) : wS X e D g H := fun pins s I => h.run pins s g H D I q
theorem _root_.L2.PSs.w {e : List Stmt} {t : TS} (h : PSs X e t) {g : L2.St} {H : Hp} {D : Ends} (q : t D g H) : wB X e D g H := fun pins s I => h.run pins s g H D I q
end
/-! ### a new thing is locked at once: it is read from now on, never written -/
def tLk (t : TE) : TE := fun g H Q => t g H fun v H' => ∃ p u, v = .ref p ∧ H' p = some u ∧ Mut (some u) ∧ ∀ od, Q v (upd H' p (.frz od u))
theorem pe_lk {X : Cx} {e : Expr} {t : TE} (h : PE X e t) : PE X e (tLk t) := ⟨fun pins s g H Q I q => thn (h.run pins s g H _ I q) fun u s1 ⟨v, H1, I1, rv, p, o, e1, e2, mu, q1⟩ => by
  obtain ⟨od, I2⟩ := I1.lock e2 mu
  exact ⟨v, _, I2, rv, q1 od⟩⟩
theorem cr_lk {X : Cx} {f : Value} {R : List V → Hp → VK → Prop} (h : CallR X f R) : CallR X f (fun xs H Q => R xs H fun v H' => ∃ p u, v = .ref p ∧ H' p = some u ∧ Mut (some u) ∧ ∀ od, Q v (upd H' p (.frz od u))) := fun pins s g H xs us Q I r q =>
  thn (h pins s g H xs us _ I r q) fun u s1 ⟨v, H1, I1, rv, p, o, e1, e2, mu, q1⟩ => by
    obtain ⟨od, I2⟩ := I1.lock e2 mu
    exact ⟨v, _, I2, rv, q1 od⟩
/-! ### what stands behind -/
def NK (K : PySem.W.Frag) (Z : List Addr) (m : Mu) (H : Hp) (F : Pd) (Q : VK) : Prop := ∀ v H' d m', F d m' → Go m H m' H' → So K Z m' H' → Da K (Z ++ dom m') H' d v → Q v H'
def NB (K : PySem.W.Frag) (Z : List Addr) (m : Mu) (H : Hp) (F : Bool → Mu → Prop) (Q : Bool → Hp → Prop) : Prop := ∀ b H' m', F b m' → Go m H m' H' → So K Z m' H' → Q b H'
def NL (K : PySem.W.Frag) (Z : List Addr) (m : Mu) (H : Hp) (F : List Dt → Mu → Prop) (Q : List V → Hp → Prop) : Prop := ∀ vs H' ds m', F ds m' → Go m H m' H' → So K Z m' H' → DaL K (Z ++ dom m') H' ds vs → Q vs H'
def NX (K : PySem.W.Frag) (Z : List Addr) (m : Mu) (H : Hp) (E : Xd) (W : WX) : Prop := ∀ cls dx fs vs g' H' r' m', E cls fs r' m' → Go m H m' H' → Rep K Z m' H' g' r' → dx ∉ Z ++ dom m' → H' dx = some (.xd vs) → Fds K (Z ++ dom m') H' fs vs → W cls (some dx) g' H'
def NE (K : PySem.W.Frag) (Z : List Addr) (m : Mu) (H : Hp) (F : En → Mu → Prop) (Q : L2.St → Hp → Prop) : Prop := ∀ g' H' r' m', F r' m' → Go m H m' H' → Rep K Z m' H' g' r' → Q g' H'
section
variable {K : PySem.W.Frag} {Z : List Addr} {m m' : Mu} {H H' : Hp}
theorem NK.go {F : Pd} {Q : VK} (h : NK K Z m H F Q) (x : Go m H m' H') : NK K Z m' H' F Q := fun v H2 d m2 f y s a => h v H2 d m2 f (x.trans y) s a
theorem NB.go {F : Bool → Mu → Prop} {Q : Bool → Hp → Prop} (h : NB K Z m H F Q) (x : Go m H m' H') : NB K Z m' H' F Q := fun b H2 m2 f y s => h b H2 m2 f (x.trans y) s
theorem NL.go {F : List Dt → Mu → Prop} {Q : List V → Hp → Prop} (h : NL K Z m H F Q) (x : Go m H m' H') : NL K Z m' H' F Q := fun v H2 d m2 f y s a => h v H2 d m2 f (x.trans y) s a
theorem NX.go {E : Xd} {W : WX} (h : NX K Z m H E W) (x : Go m H m' H') : NX K Z m' H' E W := fun c d fs vs g2 H2 r2 m2 f y p n e q => h c d fs vs g2 H2 r2 m2 f (x.trans y) p n e q
theorem NE.go {F : En → Mu → Prop} {Q : L2.St → Hp → Prop} (h : NE K Z m H F Q) (x : Go m H m' H') : NE K Z m' H' F Q := fun g2 H2 r2 m2 f y p => h g2 H2 r2 m2 f (x.trans y) p
end
structure Pc where
  nx : En → Mu → Prop
  rt : Pd
  bk : En → Mu → Prop := fun _ _ => False
  ct : En → Mu → Prop := fun _ _ => False
  ex : Xd := X0
structure NP (K : PySem.W.Frag) (Z : List Addr) (m : Mu) (H : Hp) (P : Pc) (D : Ends) (W : WX) : Prop where
  nx : NE K Z m H P.nx D.nx
  rt : NK K Z m H P.rt D.rt
  bk : NE K Z m H P.bk D.bk
  ct : NE K Z m H P.ct D.ct
  ex : NX K Z m H P.ex W
theorem NP.go {K : PySem.W.Frag} {Z : List Addr} {m m' : Mu} {H H' : Hp} {P : Pc} {D : Ends} {W : WX} (h : NP K Z m H P D W) (x : Go m H m' H') : NP K Z m' H' P D W :=
  ⟨h.nx.go x, h.rt.go x, h.bk.go x, h.ct.go x, h.ex.go x⟩
/-! ### the judgements -/
structure LE (X : Cx) (e : Expr) (r : En) (m : Mu) (F : Pd) (E : Xd) : Prop where
  run : ∀ (Z : List Addr) (g : L2.St) (H : Hp) (Q : VK) (W : WX), Rep X.K Z m H g r → Takes X W → NK X.K Z m H F Q → NX X.K Z m H E W → wE X e g H Q
structure LT (X : Cx) (e : Expr) (r : En) (m : Mu) (F : Bool → Mu → Prop) (E : Xd) : Prop where
  run : ∀ (Z : List Addr) (g : L2.St) (H : Hp) (Q : Bool → Hp → Prop) (W : WX), Rep X.K Z m H g r → Takes X W → NB X.K Z m H F Q → NX X.K Z m H E W → wT X e g H Q
structure LA (X : Cx) (es : List Expr) (r : En) (m : Mu) (F : List Dt → Mu → Prop) (E : Xd) : Prop where
  run : ∀ (Z : List Addr) (g : L2.St) (H : Hp) (Q : List V → Hp → Prop) (W : WX), Rep X.K Z m H g r → Takes X W → NL X.K Z m H F Q → NX X.K Z m H E W → wA X es g H Q
structure LS (X : Cx) (st : Stmt) (r : En) (m : Mu) (P : Pc) : Prop where
  run : ∀ (Z : List Addr) (g : L2.St) (H : Hp) (D : Ends) (W : WX), Rep X.K Z m H g r → Takes X W → NP X.K Z m H P D W → wS X st D g H
structure LB (X : Cx) (st : List Stmt) (r : En) (m : Mu) (P : Pc) : Prop where
  run : ∀ (Z : List Addr) (g : L2.St) (H : Hp) (D : Ends) (W : WX), Rep X.K Z m H g r → Takes X W → NP X.K Z m H P D W → wB X st D g H
/-- an operation on two data; on one; a call with data -/
structure O2 (X : Cx) (f : Value → Value → Sem Value) (x y : Dt) (m : Mu) (F : Dt → Prop) : Prop where
  run : ∀ (Z : List Addr) (H : Hp) (vx vy : V) (Q : VK), So X.K Z m H → Da X.K (Z ++ dom m) H x vx → Da X.K (Z ++ dom m) H y vy → NK X.K Z m H (fun d m' => m' = m ∧ F d) Q → wO X f vx vy H Q
structure O1 (X : Cx) (f : Value → Sem Value) (x : Dt) (m : Mu) (F : Dt → Prop) : Prop where
  run : ∀ (Z : List Addr) (H : Hp) (vx : V) (Q : VK), So X.K Z m H → Da X.K (Z ++ dom m) H x vx → NK X.K Z m H (fun d m' => m' = m ∧ F d) Q → wU X f vx H Q
structure OC (X : Cx) (f : Value) (xs : List Dt) (m : Mu) (F : Pd) : Prop where
  run : ∀ (Z : List Addr) (H : Hp) (vs : List V) (Q : VK), So X.K Z m H → DaL X.K (Z ++ dom m) H xs vs → NK X.K Z m H F Q → wC X f vs H Q
/-- where one stands: room, no repr under way, the names -/
structure Gd (k : Nat) (N : List Str) (X : Cx) : Prop where
  room : Room k X.A
  gu : X.A.guards = some []
  calm : X.calm = true
  nd : N.Nodup
  hN : X.N = N
  po : PassesOwn (model X.prog X.w) X.A X.env X.xe
theorem Gd.mono {j k : Nat} {N : List Str} {X : Cx} (g : Gd k N X) (h : j ≤ k) : Gd j N X := ⟨g.room.mono h, g.gu, g.calm, g.nd, g.hN, g.po⟩
theorem Gd.hu {k : Nat} {N : List Str} {X : Cx} (g : Gd k N X) : X.A.units + 1 < cLine := hu_of g.room
theorem Gd.nd' {k : Nat} {N : List Str} {X : Cx} (g : Gd k N X) : X.N.Nodup := by rw [g.hN]; exact g.nd
/-- a name's slot -/
inductive At : List Str → En → Str → Dt → Prop
  | here {x : Str} {N : List Str} {d : Dt} {r : En} : At (x :: N) (some d :: r) x d
  | there {x y : Str} {N : List Str} {d : Dt} {o : Option Dt} {r : En} : At N r x d → At (y :: N) (o :: r) x d
theorem At.ix : ∀ {N : List Str} {r : En} {x : Str} {d : Dt}, At N r x d → ∃ i : Nat, N[i]? = some x ∧ r[i]? = some (some d)
  | _, _, _, _, .here => ⟨0, rfl, rfl⟩
  | _, _, _, _, .there h => by
    obtain ⟨i, h1, h2⟩ := h.ix
    exact ⟨i + 1, h1, h2⟩
/-- a name is stored -/
inductive Put : List Str → En → Str → (Dt → En) → Prop
  | here {x : Str} {N : List Str} {o : Option Dt} {r : En} : Put (x :: N) (o :: r) x (fun d => some d :: r)
  | there {x y : Str} {N : List Str} {o : Option Dt} {r : En} {f : Dt → En} : Put N r x f → Put (y :: N) (o :: r) x (fun d => o :: f d)
theorem Put.ix : ∀ {N : List Str} {r : En} {x : Str} {f : Dt → En}, Put N r x f → ∃ i : Nat, N[i]? = some x ∧ ∀ d, f d = r.set i (some d)
  | _, _, _, _, .here => ⟨0, rfl, fun _ => rfl⟩
  | _, _, _, _, .there h => by
    obtain ⟨i, h1, h2⟩ := h.ix
    exact ⟨i + 1, h1, fun d => congrArg (List.cons _) (h2 d)⟩
section
variable {X : Cx} {e a b c : Expr} {r : En} {m : Mu} {F : Pd} {E : Xd} {pos : Pos} {k : Nat} {N : List Str}
theorem LE.imp {F' : Pd} (h : LE X e r m F' E) (f : ∀ d m', F' d m' → F d m') : LE X e r m F E :=
  ⟨fun Z g H Q W rp tk nk nx => h.run Z g H Q W rp tk (fun v H' d m' q => nk v H' d m' (f d m' q)) nx⟩
theorem LE.exc {E' : Xd} (h : LE X e r m F E') (f : ∀ c fs r' m', E' c fs r' m' → E c fs r' m') : LE X e r m F E :=
  ⟨fun Z g H Q W rp tk nk nx => h.run Z g H Q W rp tk nk (fun cl d fs vs g2 H2 r2 m2 q => nx cl d fs vs g2 H2 r2 m2 (f cl fs r2 m2 q))⟩
theorem le_name {x : Str} {d : Dt} (g : Gd k N X) (h : At N r x d) (q : F d m) (hv : Vis X.env.scope x := by first | exact Or.inl rfl | exact Or.inr (Or.inl rfl) | exact Or.inr (Or.inr rfl))
    (hd : (x == ("__debug__" : Str)) = false := by decide) (hcd : (x == ("__classdict__" : Str)) = false := by decide) : LE X (.Name x pos) r m F E := by
  refine ⟨fun Z st H Q W rp tk nk nx => ?_⟩
  obtain ⟨i, h1, h2⟩ := h.ix
  obtain ⟨v, h3, h4⟩ := rp.at' i d h2
  exact (pe_var (i := i) (by rw [g.hN]; exact h1) hv hd hcd).w ⟨v, h3, nk v H d m q Ext.rfl' rp.so h4⟩
theorem le_int {i : Int} {j} (q : F (.int i) m) : LE X (.Constant (.int i) j pos) r m F E := ⟨fun Z st H Q W rp tk nk nx => (pe_int).w (nk _ H _ m q Ext.rfl' rp.so (.int i))⟩
theorem le_str {i : Str} {j} (q : F (.str i) m) : LE X (.Constant (.str i) j pos) r m F E := ⟨fun Z st H Q W rp tk nk nx => (pe_str).w (nk _ H _ m q Ext.rfl' rp.so (.str i))⟩
theorem le_bl {i : Bool} {j} (q : F (.bl i) m) : LE X (.Constant (.bool i) j pos) r m F E := ⟨fun Z st H Q W rp tk nk nx => (pe_bl).w (nk _ H _ m q Ext.rfl' rp.so (.bl i))⟩
theorem le_non {j} (q : F .non m) : LE X (.Constant .none j pos) r m F E := ⟨fun Z st H Q W rp tk nk nx => (pe_non).w (nk _ H _ m q Ext.rfl' rp.so .non)⟩
/-- a module's name -/
theorem le_glob {x : Str} {v : V} {u : Value} {d : Dt} (hm : X.mg x = some u) (rv : RelV v u) (hd : ∀ D H, Da X.K D H d v) (q : F d m) (hg : Gl X x := by rfl) (hdb : (x == ("__debug__" : Str)) = false := by decide) : LE X (.Name x pos) r m F E :=
  ⟨fun Z st H Q W rp tk nk nx => (pe_glob hg hm rv hdb).w (nk _ H _ m q Ext.rfl' rp.so (hd _ _))⟩
/-- a built-in's name as a value -/
theorem le_bltn {x : Str} {v : V} {u : Value} (hm : X.mg x = none) (hv : bootBuiltins x = some u) (rv : RelV v u) (q : F (.raw v) m) (hg : Gl X x := by rfl) (hn : x ≠ "__name__" := by decide) (hdb : (x == ("__debug__" : Str)) = false := by decide) : LE X (.Name x pos) r m F E :=
  ⟨fun Z st H Q W rp tk nk nx => (pe_bltn hg hm hv rv hn hdb).w (nk _ H _ m q Ext.rfl' rp.so (.raw v))⟩
theorem le_bin {op : Operator} (h : LE X a r m (fun x m1 => LE X b r m1 (fun y m2 => O2 X (binaryOp op) x y m2 (fun d => F d m2)) E) E) : LE X (.BinOp a op b pos) r m F E := by
  refine ⟨fun Z st H Q W rp tk nk nx => (pe_op op_w pe_w pe_w).w ?_⟩
  refine h.run Z st H _ W rp tk (fun v H1 d m1 q go so da => ?_) nx
  refine q.run Z st H1 _ W (rp.go go so) tk (fun v2 H2 d2 m2 q2 go2 so2 da2 => ?_) (nx.go go)
  refine q2.run Z H2 v v2 Q so2 (da.move (go2.full Z)) da2 (fun v3 H3 d3 m3 q3 go3 so3 da3 => ?_)
  obtain ⟨rfl, q3⟩ := q3
  exact nk v3 H3 d3 m3 q3 ((go.trans go2).trans go3) so3 da3
theorem le_un {op : UnaryOp} (h : LE X a r m (fun x m1 => O1 X (unaryOp op) x m1 (fun d => F d m1)) E) : LE X (.UnaryOp op a pos) r m F E := by
  refine ⟨fun Z st H Q W rp tk nk nx => (pe_un un_w pe_w).w ?_⟩
  refine h.run Z st H _ W rp tk (fun v H1 d m1 q go so da => ?_) nx
  refine q.run Z H1 v Q so da (fun v3 H3 d3 m3 q3 go3 so3 da3 => ?_)
  obtain ⟨rfl, q3⟩ := q3
  exact nk v3 H3 d3 m3 q3 (go.trans go3) so3 da3
theorem le_cmp {op : CmpOp} (h : LE X a r m (fun x m1 => LE X b r m1 (fun y m2 => O2 X (compareOp op) x y m2 (fun d => F d m2)) E) E) (hb : behindInMarks op b = false := by first | exact nobehind _ (by decide) (by decide) | rfl) : LE X (.Compare a [op] [b] pos) r m F E := by
  refine ⟨fun Z st H Q W rp tk nk nx => (pe_cmpR op_w pe_w pe_w hb).w ?_⟩
  refine h.run Z st H _ W rp tk (fun v H1 d m1 q go so da => ?_) nx
  refine q.run Z st H1 _ W (rp.go go so) tk (fun v2 H2 d2 m2 q2 go2 so2 da2 => ?_) (nx.go go)
  refine q2.run Z H2 v v2 Q so2 (da.move (go2.full Z)) da2 (fun v3 H3 d3 m3 q3 go3 so3 da3 => ?_)
  obtain ⟨rfl, q3⟩ := q3
  exact nk v3 H3 d3 m3 q3 ((go.trans go2).trans go3) so3 da3
end
end Dw
namespace Dw
open PySem PySem.Spec PyProof.Rows L2
/-! ### truth -/
def Tru : Dt → Bool → Prop
  | .non, k => k = false
  | .bl b, k => k = b
  | .int i, k => k = (i != 0)
  | .str x, k => x.length ≤ sizeLine ∧ k = ((x.length : Int) != 0)
  | .lst ds, k => k = !ds.isEmpty
  | .tup ds, k => k = !ds.isEmpty
  | .frz ds, k => k = !ds.isEmpty
  | .dct _, _ => False
  | .exc _ _ _, _ => False
  | .cau _ _ _, _ => False
  | .obj _ _, _ => False
  | .raw _, _ => False
theorem isEmpty_da {K : PySem.W.Frag} {D : List Addr} {H : Hp} {ds : List Dt} {vs : List V} (h : DaL K D H ds vs) : ds.isEmpty = vs.isEmpty := by
  cases h <;> rfl
theorem isEmpty_dk {K : PySem.W.Frag} {D : List Addr} {H : Hp} {ds : List (Key × Dt)} {vs : List (Key × V)} (h : DaK K D H ds vs) : ds.isEmpty = vs.isEmpty := by
  cases h <;> rfl
theorem Tru.v {K : PySem.W.Frag} {D : List Addr} {H : Hp} {d : Dt} {v : V} {k : Bool} (h : Da K D H d v) (t : Tru d k) : TruV K v H k := by
  cases h with
  | non => exact t
  | bl b => exact t
  | int i => exact t
  | str x => exact t
  | lst h1 h2 => exact .inl ⟨_, h1.sq, by rw [← isEmpty_da h2]; exact t⟩
  | tup h1 h2 => exact .inr (.inl ⟨_, h1.sq, by rw [← isEmpty_da h2]; exact t⟩)
  | frz h1 h2 => exact .inl ⟨_, h1.sq, by rw [← isEmpty_da h2]; exact t⟩
  | dct n h1 h2 => exact t.elim
  | exc n h1 n2 h2 n4 h4 h3 => exact t.elim
  | cau n h1 h2 => exact t.elim
  | obj n h1 h2 => exact t.elim
  | raw v => exact t.elim
section
variable {X : Cx} {e a b c : Expr} {es rest : List Expr} {r : En} {m : Mu} {F : Pd} {B : Bool → Mu → Prop} {E : Xd} {pos : Pos} {k : Nat} {N : List Str}
theorem lt_cmp {op : CmpOp} (h : LE X a r m (fun x m1 => LE X b r m1 (fun y m2 => O2 X (compareOp op) x y m2 (fun d => ∃ c, d = .bl c ∧ B c m2)) E) E) (hb : behindInMarks op b = false := by first | exact nobehind _ (by decide) (by decide) | rfl) : LT X (.Compare a [op] [b] pos) r m B E := by
  refine ⟨fun Z st H Q W rp tk nk nx => (pt_cmpR op_w pe_w pe_w hb).w ?_⟩
  refine h.run Z st H _ W rp tk (fun v H1 d m1 q go so da => ?_) nx
  refine q.run Z st H1 _ W (rp.go go so) tk (fun v2 H2 d2 m2 q2 go2 so2 da2 => ?_) (nx.go go)
  refine q2.run Z H2 v v2 _ so2 (da.move (go2.full Z)) da2 (fun v3 H3 d3 m3 q3 go3 so3 da3 => ?_)
  obtain ⟨rfl, c, rfl, q3⟩ := q3
  cases da3
  exact ⟨c, rfl, nk c H3 m3 q3 ((go.trans go2).trans go3) so3⟩
theorem le_chain {op op' : CmpOp} (h : LE X a r m (fun x m1 => LE X b r m1 (fun y m2 => O2 X (compareOp op) x y m2 (fun d => ∃ c', d = .bl c' ∧ if c' = true then LE X c r m2 (fun z m3 => O2 X (compareOp op') y z m3 (fun d => F d m3)) E else F (.bl false) m2)) E) E)
    (hm : lastMarks [op, op'] [b, c] = false := by with_unfolding_all rfl) : LE X (.Compare a [op, op'] [b, c] pos) r m F E := by
  refine ⟨fun Z st H Q W rp tk nk nx => (pe_chain op_w op_w pe_w pe_w pe_w hm).w ?_⟩
  refine h.run Z st H _ W rp tk (fun v H1 d m1 q go so da => ?_) nx
  refine q.run Z st H1 _ W (rp.go go so) tk (fun v2 H2 d2 m2 q2 go2 so2 da2 => ?_) (nx.go go)
  refine q2.run Z H2 v v2 _ so2 (da.move (go2.full Z)) da2 (fun v3 H3 d3 m3 q3 go3 so3 da3 => ?_)
  obtain ⟨rfl, c, rfl, q3⟩ := q3
  cases da3
  refine ⟨c, rfl, ?_⟩
  have g3 := (go.trans go2).trans go3
  cases c with
  | true =>
    have q4 : LE X _ r _ _ E := q3
    refine q4.run Z st H3 _ W (rp.go g3 so3) tk (fun v5 H5 d5 m5 q5 go5 so5 da5 => ?_) (nx.go g3)
    refine q5.run Z H5 v2 v5 Q so5 (da2.move (Go.full Z (go3.trans go5))) da5 (fun v6 H6 d6 m6 q6 go6 so6 da6 => ?_)
    obtain ⟨rfl, q6⟩ := q6
    exact nk v6 H6 d6 m6 q6 ((g3.trans go5).trans go6) so6 da6
  | false => exact nk _ H3 _ _ q3 g3 so3 (.bl false)
/-- a plain expression as a test -/
theorem lt_val (h : LE X e r m (fun d m1 => ∃ k, Tru d k ∧ B k m1) E) (he : ∀ whole, isTrue e X.env whole = (do let v ← whole; standAt e.pos; holding [v] (truthy v)) := by intro _; rfl) : LT X e r m B E := by
  refine ⟨fun Z st H Q W rp tk nk nx => (pt_truth pe_w he).w ?_⟩
  refine h.run Z st H _ W rp tk (fun v H1 d m1 q go so da => ?_) nx
  obtain ⟨k, t, q⟩ := q
  exact ⟨k, t.v da, nk k H1 m1 q go so⟩
theorem lt_not (h : LT X a r m (fun k m1 => B (!k) m1) E) : LT X (.UnaryOp .Not a pos) r m B E :=
  ⟨fun Z st H Q W rp tk nk nx => (pt_not pt_w).w (h.run Z st H _ W rp tk (fun k H1 m1 q go so => nk (!k) H1 m1 q go so) nx)⟩
/-- and, or as tests -/
structure LW (X : Cx) (e : Expr) (r : En) (m : Mu) (F : Bool → Mu → Prop) (E : Xd) : Prop where
  run : ∀ (Z : List Addr) (g : L2.St) (H : Hp) (Q : Bool → Hp → Prop) (W : WX), Rep X.K Z m H g r → Takes X W → NB X.K Z m H F Q → NX X.K Z m H E W →
    ∀ (whole : Sem Value) (pins : List (Addr × Obj)) (s : Shared), Inv X pins g H s → wpAny (model X.prog X.w) X.A (isTrue e X.env whole) (TP X pins g Q) X.xe s
theorem lt_w (h : LW X e r m B E) : LT X e r m B E := ⟨fun Z st H Q W rp tk nk nx pins s I => h.run Z st H Q W rp tk nk nx _ pins s I⟩
def wW (X : Cx) (e : Expr) : TT := fun g H Q => ∀ (whole : Sem Value) (pins : List (Addr × Obj)) (s : Shared), Inv X pins g H s → wpAny (model X.prog X.w) X.A (isTrue e X.env whole) (TP X pins g Q) X.xe s
theorem pw_w : PW X e (wW X e) := ⟨fun wh pins s g H Q I h => h wh pins s I⟩
theorem lw_and1 (h : LT X a r m B E) : LW X (.BoolOp .And [a] pos) r m B E :=
  ⟨fun Z st H Q W rp tk nk nx wh pins s I => (pw_and1 pt_w).run wh pins s st H Q I (h.run Z st H Q W rp tk nk nx)⟩
theorem lw_or1 (h : LT X a r m B E) : LW X (.BoolOp .Or [a] pos) r m B E :=
  ⟨fun Z st H Q W rp tk nk nx wh pins s I => (pw_or1 pt_w).run wh pins s st H Q I (h.run Z st H Q W rp tk nk nx)⟩
theorem lw_and (h : LT X a r m (fun k m1 => if k = true then LW X (.BoolOp .And (b :: rest) pos) r m1 B E else B false m1) E) : LW X (.BoolOp .And (a :: b :: rest) pos) r m B E := by
  refine ⟨fun Z st H Q W rp tk nk nx wh pins s I => (pw_and pt_w pw_w).run wh pins s st H Q I ?_⟩
  refine h.run Z st H _ W rp tk (fun k H1 m1 q go so => ?_) nx
  cases k with
  | true =>
    have q' : LW X _ r m1 B E := q
    exact q'.run Z st H1 Q W (rp.go go so) tk (nk.go go) (nx.go go)
  | false => exact nk false H1 m1 q go so
theorem lw_or (h : LT X a r m (fun k m1 => if k = true then B true m1 else LW X (.BoolOp .Or (b :: rest) pos) r m1 B E) E) : LW X (.BoolOp .Or (a :: b :: rest) pos) r m B E := by
  refine ⟨fun Z st H Q W rp tk nk nx wh pins s I => (pw_or pt_w pw_w).run wh pins s st H Q I ?_⟩
  refine h.run Z st H _ W rp tk (fun k H1 m1 q go so => ?_) nx
  cases k with
  | false =>
    have q' : LW X _ r m1 B E := q
    exact q'.run Z st H1 Q W (rp.go go so) tk (nk.go go) (nx.go go)
  | true => exact nk true H1 m1 q go so
/-- and, or, not as values -/
theorem le_one {op} (h : LE X a r m F E) : LE X (.BoolOp op [a] pos) r m F E := ⟨fun Z st H Q W rp tk nk nx => (pe_one pe_w).w (h.run Z st H Q W rp tk nk nx)⟩
theorem le_and (h : LE X a r m (fun d m1 => ∃ k, Tru d k ∧ if k = true then LE X (.BoolOp .And (b :: rest) pos) r m1 F E else F d m1) E) : LE X (.BoolOp .And (a :: b :: rest) pos) r m F E := by
  refine ⟨fun Z st H Q W rp tk nk nx => (pe_andT pe_w pe_w).w ?_⟩
  refine h.run Z st H _ W rp tk (fun v H1 d m1 q go so da => ?_) nx
  obtain ⟨k, t, q⟩ := q
  refine ⟨k, t.v da, ?_⟩
  cases k with
  | true =>
    have q' : LE X _ r m1 F E := q
    exact q'.run Z st H1 Q W (rp.go go so) tk (nk.go go) (nx.go go)
  | false => exact nk v H1 d m1 q go so da
theorem le_or (h : LE X a r m (fun d m1 => ∃ k, Tru d k ∧ if k = true then F d m1 else LE X (.BoolOp .Or (b :: rest) pos) r m1 F E) E) : LE X (.BoolOp .Or (a :: b :: rest) pos) r m F E := by
  refine ⟨fun Z st H Q W rp tk nk nx => (pe_orT pe_w pe_w).w ?_⟩
  refine h.run Z st H _ W rp tk (fun v H1 d m1 q go so da => ?_) nx
  obtain ⟨k, t, q⟩ := q
  refine ⟨k, t.v da, ?_⟩
  cases k with
  | false =>
    have q' : LE X _ r m1 F E := q
    exact q'.run Z st H1 Q W (rp.go go so) tk (nk.go go) (nx.go go)
  | true => exact nk v H1 d m1 q go so da
theorem le_not (h : LE X a r m (fun d m1 => ∃ k, Tru d k ∧ F (.bl (!k)) m1) E) : LE X (.UnaryOp .Not a pos) r m F E := by
  refine ⟨fun Z st H Q W rp tk nk nx => (pe_notT pe_w).w ?_⟩
  refine h.run Z st H _ W rp tk (fun v H1 d m1 q go so da => ?_) nx
  obtain ⟨k, t, q⟩ := q
  exact ⟨k, t.v da, nk _ H1 _ m1 q go so (.bl _)⟩
theorem le_ife (h : LT X c r m (fun k m1 => if k = true then LE X a r m1 F E else LE X b r m1 F E) E) : LE X (.IfExp c a b pos) r m F E := by
  refine ⟨fun Z st H Q W rp tk nk nx => (pe_ifExp pt_w pe_w pe_w).w ?_⟩
  refine h.run Z st H _ W rp tk (fun k H1 m1 q go so => ?_) nx
  cases k with
  | true =>
    have q' : LE X _ r m1 F E := q
    exact q'.run Z st H1 Q W (rp.go go so) tk (nk.go go) (nx.go go)
  | false =>
    have q' : LE X _ r m1 F E := q
    exact q'.run Z st H1 Q W (rp.go go so) tk (nk.go go) (nx.go go)
/-! ### argument lists, displays -/
theorem la_nil {L : List Dt → Mu → Prop} (q : L [] m) : LA X [] r m L E := ⟨fun Z st H Q W rp tk nk nx => (pa_nil).w (nk [] H [] m q Ext.rfl' rp.so .nil)⟩
theorem la_cons {L : List Dt → Mu → Prop} (h : LE X e r m (fun d m1 => LA X es r m1 (fun ds m2 => L (d :: ds) m2) E) E) (hs : starEach (e :: es) X.env = (false, eval e X.env) :: starEach es X.env := by rfl) : LA X (e :: es) r m L E := by
  refine ⟨fun Z st H Q W rp tk nk nx => (pa_cons pe_w pa_w hs).w ?_⟩
  refine h.run Z st H _ W rp tk (fun v H1 d m1 q go so da => ?_) nx
  refine q.run Z st H1 _ W (rp.go go so) tk (fun vs H2 ds m2 q2 go2 so2 da2 => ?_) (nx.go go)
  exact nk (v :: vs) H2 (d :: ds) m2 q2 (go.trans go2) so2 (.cons (da.move (go2.full Z)) da2)
theorem da_new_tup {K : PySem.W.Frag} {Z : List Addr} {m : Mu} {H : Hp} {p : Addr} {ds : List Dt} {vs : List V} (so : So K Z m H) (hp : H p = none) (h : DaL K (Z ++ dom m) H ds vs) : Da K (Z ++ dom m) (upd H p (.tup vs)) (.tup ds) (.ref p) :=
  .tup (.inl ⟨so.fresh hp, upd_same⟩) (h.move (Ext.fresh hp))
theorem da_new_lst {K : PySem.W.Frag} {Z : List Addr} {m : Mu} {H : Hp} {p : Addr} {ds : List Dt} {vs : List V} (so : So K Z m H) (hp : H p = none) (h : DaL K (Z ++ dom m) H ds vs) : Da K (Z ++ dom m) (upd H p (.lst vs)) (.lst ds) (.ref p) :=
  .lst ⟨so.fresh hp, upd_same⟩ (h.move (Ext.fresh hp))
theorem le_tup {x1} (h : LA X es r m (fun ds m1 => ds.length ≤ sizeLine ∧ F (.tup ds) m1) E) : LE X (.Tuple es x1 pos) r m F E := by
  refine ⟨fun Z st H Q W rp tk nk nx => (pe_tup pa_w).w ?_⟩
  refine h.run Z st H _ W rp tk (fun vs H1 ds m1 q go so da => ?_) nx
  exact ⟨by rw [← da.length]; exact q.1, fun p hp => nk _ _ _ m1 q.2 (go.trans (Ext.fresh hp)) (so.laid hp) (da_new_tup so hp da)⟩
theorem le_lst (h : LA X es r m (fun ds m1 => ds.length ≤ sizeLine ∧ F (.lst ds) m1) E) : LE X (.List es pos) r m F E := by
  refine ⟨fun Z st H Q W rp tk nk nx => (pe_lst pa_w).w ?_⟩
  refine h.run Z st H _ W rp tk (fun vs H1 ds m1 q go so da => ?_) nx
  exact ⟨by rw [← da.length]; exact q.1, fun p hp => nk _ _ _ m1 q.2 (go.trans (Ext.fresh hp)) (so.laid hp) (da_new_lst so hp da)⟩
/-- a new list that will change -/
theorem le_mut (h : LA X es r m (fun ds m1 => ds.length ≤ sizeLine ∧ ∀ p, p ∉ dom m1 → F (.raw (.ref p)) ((p, .lst ds) :: m1)) E) : LE X (.List es pos) r m F E := by
  refine ⟨fun Z st H Q W rp tk nk nx => (pe_lst pa_w).w ?_⟩
  refine h.run Z st H _ W rp tk (fun vs H1 ds m1 q go so da => ?_) nx
  refine ⟨by rw [← da.length]; exact q.1, fun p hp => ?_⟩
  have nf := so.fresh hp
  have np : p ∉ dom m1 := fun z => nf (List.mem_append_right _ z)
  have g1 : Go m1 H1 ((p, .lst ds) :: m1) (upd H1 p (.lst vs)) := ⟨(Ext.fresh (D := dom m1) hp).keep, fun a ha => by
    rcases List.mem_cons.mp ha with z | z
    · exact .inr (z ▸ hp)
    · exact .inl z⟩
  have s1 := so.laid (o := .lst vs) hp
  refine nk _ _ _ _ (q.2 p np) (go.trans g1) ⟨List.nodup_cons.mpr ⟨np, so.nd⟩, s1.zs, fun a ha z => ?_, fun y hy => ?_⟩ (.raw _)
  · rcases List.mem_cons.mp z with z | z
    · exact (so.zs a ha).1 (by rw [z]; exact hp)
    · exact so.dj a ha z
  · rcases List.mem_cons.mp hy with z | z
    · subst z
      exact ⟨vs, upd_same, da.move (g1.full Z)⟩
    · have y1 := so.ob y z
      have hn : y.1 ≠ p := fun w => y1.there (by rw [w]; exact hp)
      cases e2 : y.2 with
      | lst es2 =>
        rw [e2] at y1
        obtain ⟨xs, e1, e3⟩ := y1
        exact ⟨xs, by rw [upd_ne hn]; exact e1, e3.move (g1.full Z)⟩
      | ins C dx fs =>
        rw [e2] at y1
        obtain ⟨xs, e1, e3⟩ := y1
        exact ⟨xs, by rw [upd_ne hn]; exact e1, e3.move (g1.full Z)⟩
      | gen φ es =>
        rw [e2] at y1
        obtain ⟨xs, e1, e3⟩ := y1
        exact ⟨xs, by rw [upd_ne hn]; exact e1, e3.1.move (g1.full Z), e3.2⟩
/-! ### items, slices -/
def wI (X : Cx) : R2 := fun x y H Q => ∀ (value slice : Expr) (pins : List (Addr × Obj)) (s : Shared) (g : L2.St) (v u : Value), Inv X pins g H s → RelV x v → RelV y u →
    subscripted slice false v u = operate [v, u] (getItem v u) → wpAny (model X.prog X.w) X.A (subscriptTail value slice v u) (EP X pins g Q) X.xe s
theorem ix_w : IxR X (wI X) := fun value slice pins s g H x y v u Q I rx ry h hs => h value slice pins s g v u I rx ry hs
structure OI (X : Cx) (x y : Dt) (m : Mu) (F : Dt → Prop) : Prop where
  run : ∀ (Z : List Addr) (H : Hp) (vx vy : V) (Q : VK), So X.K Z m H → Da X.K (Z ++ dom m) H x vx → Da X.K (Z ++ dom m) H y vy → NK X.K Z m H (fun d m' => m' = m ∧ F d) Q → wI X vx vy H Q
theorem le_ix (h : LE X a r m (fun x m1 => LE X b r m1 (fun y m2 => OI X x y m2 (fun d => F d m2)) E) E) (hs : PlainIx b := by intro _ _; rfl) : LE X (.Subscript a b pos) r m F E := by
  refine ⟨fun Z st H Q W rp tk nk nx => (pe_ix ix_w pe_w pe_w hs).w ?_⟩
  refine h.run Z st H _ W rp tk (fun v H1 d m1 q go so da => ?_) nx
  refine q.run Z st H1 _ W (rp.go go so) tk (fun v2 H2 d2 m2 q2 go2 so2 da2 => ?_) (nx.go go)
  refine q2.run Z H2 v v2 Q so2 (da.move (go2.full Z)) da2 (fun v3 H3 d3 m3 q3 go3 so3 da3 => ?_)
  obtain ⟨rfl, q3⟩ := q3
  exact nk v3 H3 d3 m3 q3 ((go.trans go2).trans go3) so3 da3
theorem oi_of {R : R2} {x y : Dt} {G : Dt → Prop} (h : IxR X R) (q : ∀ (Z : List Addr) (H : Hp) (vx vy : V) (Q : VK), So X.K Z m H → Da X.K (Z ++ dom m) H x vx → Da X.K (Z ++ dom m) H y vy → NK X.K Z m H (fun d m' => m' = m ∧ G d) Q → R vx vy H Q) : OI X x y m G :=
  ⟨fun Z H vx vy Q so dx dy nk value slice pins s g v u I rx ry hs => h value slice pins s g H vx vy v u Q I rx ry (q Z H vx vy Q so dx dy nk) hs⟩
theorem o2_of {R : R2} {f : Value → Value → Sem Value} {x y : Dt} {G : Dt → Prop} (h : OpR X f R) (q : ∀ (Z : List Addr) (H : Hp) (vx vy : V) (Q : VK), So X.K Z m H → Da X.K (Z ++ dom m) H x vx → Da X.K (Z ++ dom m) H y vy → NK X.K Z m H (fun d m' => m' = m ∧ G d) Q → R vx vy H Q) : O2 X f x y m G :=
  ⟨fun Z H vx vy Q so dx dy nk pins s g I v u rx ry => h pins s g H vx vy v u Q I rx ry (q Z H vx vy Q so dx dy nk)⟩
theorem o1_of {R : V → Hp → VK → Prop} {f : Value → Sem Value} {x : Dt} {G : Dt → Prop} (h : UnR X f R) (q : ∀ (Z : List Addr) (H : Hp) (vx : V) (Q : VK), So X.K Z m H → Da X.K (Z ++ dom m) H x vx → NK X.K Z m H (fun d m' => m' = m ∧ G d) Q → R vx H Q) : O1 X f x m G :=
  ⟨fun Z H vx Q so dx nk pins s g I v rx => h pins s g H vx v Q I rx (q Z H vx Q so dx nk)⟩
theorem oc_of {R : List V → Hp → VK → Prop} {f : Value} {xs : List Dt} {G : Pd} (h : CallR X f R) (q : ∀ (Z : List Addr) (H : Hp) (vs : List V) (Q : VK), So X.K Z m H → DaL X.K (Z ++ dom m) H xs vs → NK X.K Z m H G Q → R vs H Q) : OC X f xs m G :=
  ⟨fun Z H vs Q so da nk pins s g I us rv => h pins s g H vs us Q I rv (q Z H vs Q so da nk)⟩
theorem at_da {K : PySem.W.Frag} {D : List Addr} {H : Hp} {ds : List Dt} {vs : List V} {i : Int} {d : Dt} (h : DaL K D H ds vs) (e : atI ds i = some d) : ∃ v, atI vs i = some v ∧ Da K D H d v := by
  unfold atI at e ⊢
  rw [← h.length]
  cases e1 : ixN ds.length i with
  | none => rw [e1] at e; cases e
  | some j =>
    rw [e1] at e
    exact h.get (show ds[j]? = some d from e)
theorem oi_lst {ds : List Dt} {i : Int} {d : Dt} {G : Dt → Prop} (h : atI ds i = some d) (q : G d) : OI X (.lst ds) (.int i) m G :=
  oi_of ix_list fun Z H vx vy Q so dx dy nk => by
    cases dx with
    | lst h1 h2 =>
      cases dy
      obtain ⟨v, e, hv⟩ := at_da h2 h
      exact ⟨_, _, i, v, rfl, rfl, h1.sq, e, nk v H d m ⟨rfl, q⟩ Ext.rfl' so hv⟩
theorem oi_frz {ds : List Dt} {i : Int} {d : Dt} {G : Dt → Prop} (h : atI ds i = some d) (q : G d) : OI X (.frz ds) (.int i) m G :=
  oi_of ix_list fun Z H vx vy Q so dx dy nk => by
    cases dx with
    | frz h1 h2 =>
      cases dy
      obtain ⟨v, e, hv⟩ := at_da h2 h
      exact ⟨_, _, i, v, rfl, rfl, h1.sq, e, nk v H d m ⟨rfl, q⟩ Ext.rfl' so hv⟩
theorem oi_tup {ds : List Dt} {i : Int} {d : Dt} {G : Dt → Prop} (h : atI ds i = some d) (q : G d) : OI X (.tup ds) (.int i) m G :=
  oi_of ix_tup fun Z H vx vy Q so dx dy nk => by
    cases dx with
    | tup h1 h2 =>
      cases dy
      obtain ⟨v, e, hv⟩ := at_da h2 h
      exact ⟨_, _, i, v, rfl, rfl, h1.sq, e, nk v H d m ⟨rfl, q⟩ Ext.rfl' so hv⟩
theorem oi_str {x : Str} {i : Int} {c : Nat} {G : Dt → Prop} (hz : x.length ≤ sizeLine) (h : atI x.cps.toList i = some c) (q : G (.str ⟨#[c]⟩)) : OI X (.str x) (.int i) m G :=
  oi_of ix_str fun Z H vx vy Q so dx dy nk => by
    cases dx
    cases dy
    exact ⟨x, i, c, rfl, rfl, hz, h, nk _ H _ m ⟨rfl, q⟩ Ext.rfl' so (.str _)⟩
/-- an item of a thing of the store -/
theorem So.lst_of {K : PySem.W.Frag} {Z : List Addr} {m : Mu} {H : Hp} (so : So K Z m H) {a : Addr} {ds : List Dt} (h : (a, Mc.lst ds) ∈ m) : ∃ xs, H a = some (.lst xs) ∧ DaL K (Z ++ dom m) H ds xs := so.ob _ h
theorem oi_mut {p : Addr} {ds : List Dt} {i : Int} {d : Dt} {G : Dt → Prop} (hm : (p, Mc.lst ds) ∈ m) (h : atI ds i = some d) (q : G d) : OI X (.raw (.ref p)) (.int i) m G :=
  oi_of ix_list fun Z H vx vy Q so dx dy nk => by
    cases dx
    cases dy
    obtain ⟨xs, e1, e2⟩ := so.lst_of hm
    obtain ⟨v, e, hv⟩ := at_da e2 h
    exact ⟨_, _, i, v, rfl, rfl, SqL.of e1, e, nk v H d m ⟨rfl, q⟩ Ext.rfl' so hv⟩
end
end Dw
namespace Dw
open PySem PySem.Spec PyProof.Rows L2
/-- a thing of the store is changed -/
def put (p : Addr) (c : Mc) (m : Mu) : Mu := m.map fun q => if q.1 = p then (p, c) else q
theorem put_dom {p : Addr} {c : Mc} (m : Mu) : dom (put p c m) = dom m := by
  unfold dom put
  rw [List.map_map]
  refine List.map_congr_left fun q _ => ?_
  show (if q.1 = p then (p, c) else q).1 = q.1
  split
  · rename_i h; exact h.symm
  · rfl
theorem put_mem {p : Addr} {c c' : Mc} {m : Mu} (h : (p, c') ∈ m) : (p, c) ∈ put p c m := List.mem_map.mpr ⟨(p, c'), h, if_pos rfl⟩
theorem put_other {p q : Addr} {c c' : Mc} {m : Mu} (h : (q, c') ∈ m) (n : q ≠ p) : (q, c') ∈ put p c m := List.mem_map.mpr ⟨(q, c'), h, if_neg n⟩
theorem So.put_lst {K : PySem.W.Frag} {Z : List Addr} {m : Mu} {H : Hp} {p : Addr} {c : Mc} {ds : List Dt} {vs : List V} (so : So K Z m H) (h : (p, c) ∈ m) (da : DaL K (Z ++ dom m) H ds vs) :
    So K Z (put p (.lst ds) m) (upd H p (.lst vs)) ∧ Go m H (put p (.lst ds) m) (upd H p (.lst vs)) := by
  have hp : p ∈ dom m := List.mem_map.mpr ⟨(p, c), h, rfl⟩
  have g : Go m H (put p (.lst ds) m) (upd H p (.lst vs)) := ⟨fun a o n e => by rw [upd_ne (show a ≠ p from fun z => n (by rw [z]; exact hp))]; exact e, fun a ha => .inl (by rw [put_dom] at ha; exact ha)⟩
  refine ⟨⟨by rw [put_dom]; exact so.nd, fun a ha => ?_, fun a ha => by rw [put_dom]; exact so.dj a ha, fun q hq => ?_⟩, g⟩
  · have n : a ≠ p := fun z => so.dj a ha (by rw [z]; exact hp)
    rw [upd_ne n]
    exact so.zs a ha
  · obtain ⟨q0, hq0, rfl⟩ := List.mem_map.mp hq
    by_cases e : q0.1 = p
    · rw [if_pos e]
      exact ⟨vs, upd_same, da.move (g.full Z)⟩
    · rw [if_neg e]
      have y := so.ob q0 hq0
      cases e2 : q0.2 with
      | lst es =>
        rw [e2] at y
        obtain ⟨xs, e1, e3⟩ := y
        exact ⟨xs, by rw [upd_ne e]; exact e1, e3.move (g.full Z)⟩
      | ins C dx fs =>
        rw [e2] at y
        obtain ⟨xs, e1, e3⟩ := y
        exact ⟨xs, by rw [upd_ne e]; exact e1, e3.move (g.full Z)⟩
      | gen φ es =>
        rw [e2] at y
        obtain ⟨xs, e1, e3⟩ := y
        exact ⟨xs, by rw [upd_ne e]; exact e1, e3.1.move (g.full Z), e3.2⟩
/-- the store forgets a thing: it stands still from now on -/
def forget (p : Addr) (m : Mu) : Mu := m.filter fun q => q.1 ≠ p
theorem forget_dom {p : Addr} {m : Mu} {a : Addr} (h : a ∈ dom (forget p m)) : a ∈ dom m ∧ a ≠ p := by
  obtain ⟨q, hq, rfl⟩ := List.mem_map.mp h
  obtain ⟨h1, h2⟩ := List.mem_filter.mp hq
  exact ⟨List.mem_map.mpr ⟨q, h1, rfl⟩, by simpa using h2⟩
theorem McOk.less {K : PySem.W.Frag} {D D' : List Addr} {H : Hp} {a : Addr} {c : Mc} (h : McOk K D H a c) (x : ∀ a, a ∈ D' → a ∈ D) : McOk K D' H a c := by
  have g : Ext D H D' H := ⟨fun _ _ _ e => e, fun a h => .inl (x a h)⟩
  cases c with
  | lst es =>
    obtain ⟨xs, e1, e3⟩ := h
    exact ⟨xs, e1, e3.move g⟩
  | ins C dx fs =>
    obtain ⟨xs, e1, e3⟩ := h
    exact ⟨xs, e1, e3.move g⟩
  | gen φ es =>
    obtain ⟨xs, e1, e3⟩ := h
    exact ⟨xs, e1, e3.1.move g, e3.2⟩
theorem So.forget {K : PySem.W.Frag} {Z : List Addr} {m : Mu} {H : Hp} (p : Addr) (so : So K Z m H) : So K Z (forget p m) H ∧ Go m H (forget p m) H := by
  refine ⟨⟨?_, so.zs, fun a ha z => so.dj a ha (forget_dom z).1, fun q hq => ?_⟩, ⟨fun _ _ _ e => e, fun a ha => .inl (forget_dom ha).1⟩⟩
  · have : (dom (Dw.forget p m)).Sublist (dom m) := (List.filter_sublist (l := m)).map _
    exact so.nd.sublist this
  · refine (so.ob q (List.mem_filter.mp hq).1).less fun a ha => ?_
    rcases List.mem_append.mp ha with z | z
    · exact List.mem_append_left _ z
    · exact List.mem_append_right _ (forget_dom z).1
theorem So.frozen {K : PySem.W.Frag} {Z : List Addr} {m : Mu} {H : Hp} {p : Addr} {ds : List Dt} (so : So K Z m H) (h : (p, Mc.lst ds) ∈ m) : Da K (Z ++ dom (Dw.forget p m)) H (.lst ds) (.ref p) := by
  obtain ⟨xs, e1, e2⟩ := so.lst_of h
  have hp : p ∈ dom m := List.mem_map.mpr ⟨_, h, rfl⟩
  refine .lst ⟨fun z => ?_, e1⟩ (e2.move (Go.full Z (so.forget p).2))
  rcases List.mem_append.mp z with z | z
  · exact so.dj p z hp
  · exact (forget_dom z).2 rfl
section
variable {X : Cx} {e a b c : Expr} {es : List Expr} {r : En} {m : Mu} {F : Pd} {B : Bool → Mu → Prop} {E : Xd} {P : Pc} {pos : Pos} {k : Nat} {N : List Str} {st : Stmt} {sts : List Stmt}
/-! ### slices -/
structure LO (X : Cx) (e : Option Expr) (r : En) (m : Mu) (F : Option Int → Mu → Prop) (E : Xd) : Prop where
  run : ∀ (Z : List Addr) (g : L2.St) (H : Hp) (Q : Option Int → Hp → Prop) (W : WX), Rep X.K Z m H g r → Takes X W → (∀ o H' m', F o m' → Go m H m' H' → So X.K Z m' H' → Q o H') → NX X.K Z m H E W →
    ∀ (pins : List (Addr × Obj)) (s : Shared), Inv X pins g H s → wpAny (model X.prog X.w) X.A (evalPart e X.env) (fun u s' => ∃ o H', Inv X pins g H' s' ∧ IsPart u o ∧ Q o H') X.xe s
def wPt (X : Cx) (e : Option Expr) : TO := fun g H Q => ∀ (pins : List (Addr × Obj)) (s : Shared), Inv X pins g H s → wpAny (model X.prog X.w) X.A (evalPart e X.env) (fun u s' => ∃ o H', Inv X pins g H' s' ∧ IsPart u o ∧ Q o H') X.xe s
theorem po_w {e : Option Expr} : PO X e (wPt X e) := ⟨fun pins s g H Q I h => h pins s I⟩
theorem lo_none {G : Option Int → Mu → Prop} (q : G none m) : LO X none r m G E := ⟨fun Z g H Q W rp tk nk nx pins s I => (po_none).run pins s g H Q I (nk none H m q Ext.rfl' rp.so)⟩
theorem lo_some {G : Option Int → Mu → Prop} (h : LE X e r m (fun d m1 => ∃ i, d = .int i ∧ G (some i) m1) E) : LO X (some e) r m G E :=
  ⟨fun Z g H Q W rp tk nk nx pins s I => (po_some pe_w).run pins s g H Q I (h.run Z g H _ W rp tk (fun v H1 d m1 q go so da => by
    obtain ⟨i, rfl, q⟩ := q
    cases da
    exact ⟨i, rfl, nk (some i) H1 m1 q go so⟩) nx)⟩
def cutD (ds : List Dt) (lo hi : Option Int) : List Dt := (ds.drop (HT.sIx ds.length 0 lo)).take (HT.sIx ds.length ds.length hi - HT.sIx ds.length 0 lo)
theorem cut_da {K : PySem.W.Frag} {D : List Addr} {H : Hp} {ds : List Dt} {vs : List V} (h : DaL K D H ds vs) (lo hi : Option Int) : DaL K D H (cutD ds lo hi) (cutV vs lo hi) := by
  unfold cutD cutV
  rw [h.length]
  exact (h.drop _).take _
theorem le_sl_str {lo hi : Option Expr} {p2 : Pos} (h : LE X a r m (fun d m1 => LO X lo r m1 (fun l m2 => LO X hi r m2 (fun u m3 => ∃ z, d = .str z ∧ z.length ≤ sizeLine ∧ F (.str (cutS z l u)) m3) E) E) E) : LE X (.Subscript a (.Slice lo hi none p2) pos) r m F E := by
  refine ⟨fun Z st H Q W rp tk nk nx => (pe_slice sl_str pe_w po_w po_w).w ?_⟩
  refine h.run Z st H _ W rp tk (fun v H1 d m1 q go so da => ?_) nx
  refine q.run Z st H1 _ W (rp.go go so) tk (fun l H2 m2 q2 go2 so2 => ?_) (nx.go go)
  refine q2.run Z st H2 _ W (rp.go (go.trans go2) so2) tk (fun u H3 m3 q3 go3 so3 => ?_) (nx.go (go.trans go2))
  obtain ⟨z, rfl, hz, q3⟩ := q3
  cases da
  exact ⟨z, rfl, hz, nk _ H3 _ m3 q3 ((go.trans go2).trans go3) so3 (.str _)⟩
theorem le_sl_lst {lo hi : Option Expr} {p2 : Pos} (h : LE X a r m (fun d m1 => LO X lo r m1 (fun l m2 => LO X hi r m2 (fun u m3 => ∃ ds, d = .lst ds ∧ F (.lst (cutD ds l u)) m3) E) E) E) : LE X (.Subscript a (.Slice lo hi none p2) pos) r m F E := by
  refine ⟨fun Z st H Q W rp tk nk nx => (pe_slice sl_list pe_w po_w po_w).w ?_⟩
  refine h.run Z st H _ W rp tk (fun v H1 d m1 q go so da => ?_) nx
  refine q.run Z st H1 _ W (rp.go go so) tk (fun l H2 m2 q2 go2 so2 => ?_) (nx.go go)
  refine q2.run Z st H2 _ W (rp.go (go.trans go2) so2) tk (fun u H3 m3 q3 go3 so3 => ?_) (nx.go (go.trans go2))
  obtain ⟨ds, rfl, q3⟩ := q3
  have da3 := da.move (Go.full Z (go2.trans go3))
  cases da3 with
  | lst h1 h2 =>
    exact ⟨_, _, rfl, h1.sq, fun p hp => nk _ _ _ m3 q3 (((go.trans go2).trans go3).trans (Ext.fresh hp)) (so3.laid hp) (da_new_lst so3 hp (cut_da h2 l u))⟩
/-! ### statements -/
theorem lb_nil (q : P.nx r m) : LB X [] r m P := ⟨fun Z g H D W rp tk np => (pss_nil).w (np.nx g H r m q Ext.rfl' rp)⟩
theorem lb_cons (h : LS X st r m { P with nx := fun r1 m1 => LB X sts r1 m1 P }) : LB X (st :: sts) r m P := by
  refine ⟨fun Z g H D W rp tk np => (pss_cons ps_w pss_w).w ?_⟩
  exact h.run Z g H _ W rp tk ⟨fun g1 H1 r1 m1 q go rp1 => q.run Z g1 H1 D W rp1 tk (np.go go), np.rt, np.bk, np.ct, np.ex⟩
theorem lb_one (h : LS X st r m P) : LB X [st] r m P := ⟨fun Z g H D W rp tk np => (pss_one ps_w).w (h.run Z g H D W rp tk np)⟩
theorem ls_pass (q : P.nx r m) : LS X (.Pass pos) r m P := ⟨fun Z g H D W rp tk np => (ps_pass).w (np.nx g H r m q Ext.rfl' rp)⟩
theorem ls_break (q : P.bk r m) : LS X (.Break pos) r m P := ⟨fun Z g H D W rp tk np => (ps_break).w (np.bk g H r m q Ext.rfl' rp)⟩
theorem ls_cont (q : P.ct r m) : LS X (.Continue pos) r m P := ⟨fun Z g H D W rp tk np => (ps_continue).w (np.ct g H r m q Ext.rfl' rp)⟩
theorem ls_ret (h : LE X e r m P.rt P.ex) : LS X (.Return (some e) pos) r m P := ⟨fun Z g H D W rp tk np => (ps_ret pe_w).w (h.run Z g H D.rt W rp tk np.rt np.ex)⟩
theorem ls_retN (q : P.rt .non m) : LS X (.Return none pos) r m P := ⟨fun Z g H D W rp tk np => (ps_retN).w (np.rt _ H _ m q Ext.rfl' rp.so .non)⟩
/-- a return of a thing of the store, which stands still then -/
theorem ls_ret_mut (h : LE X e r m (fun d m1 => ∃ p ds, d = .raw (.ref p) ∧ (p, Mc.lst ds) ∈ m1 ∧ P.rt (.lst ds) (forget p m1)) P.ex) : LS X (.Return (some e) pos) r m P := by
  refine ⟨fun Z g H D W rp tk np => (ps_ret pe_w).w (h.run Z g H D.rt W rp tk (fun v H1 d m1 q go so da => ?_) np.ex)⟩
  obtain ⟨p, ds, rfl, hm, q⟩ := q
  cases da
  exact np.rt _ H1 _ _ q (go.trans (so.forget p).2) (so.forget p).1 (so.frozen hm)
theorem ls_expr (h : LE X e r m (fun _ m1 => P.nx r m1) P.ex) (hs : swapsWith e none pos.line X.env = pure false := by rfl) : LS X (.Expr e pos) r m P :=
  ⟨fun Z g H D W rp tk np => (ps_expr pe_w hs).w (h.run Z g H _ W rp tk (fun v H1 d m1 q go so da => np.nx g H1 r m1 q go (rp.go go so)) np.ex)⟩
theorem ls_if {ya nb : List Stmt} (h : LT X c r m (fun k m1 => if k = true then LB X ya r m1 P else LB X nb r m1 P) P.ex) : LS X (.If c ya nb pos) r m P := by
  refine ⟨fun Z g H D W rp tk np => (ps_if pt_w pss_w pss_w).w (h.run Z g H _ W rp tk (fun k H1 m1 q go so => ?_) np.ex)⟩
  cases k with
  | true =>
    have q' : LB X ya r m1 P := q
    exact q'.run Z g H1 D W (rp.go go so) tk (np.go go)
  | false =>
    have q' : LB X nb r m1 P := q
    exact q'.run Z g H1 D W (rp.go go so) tk (np.go go)
/-- name = e -/
theorem ls_set {x : Str} {pos' : Pos} {f : Dt → En} (gd : Gd k N X) (hp : Put N r x f) (h : LE X e r m (fun d m1 => P.nx (f d) m1) P.ex) (hx : Loc X.env.scope x := by first | exact Or.inl rfl | exact Or.inr rfl) (hs : swapsWith e (some (.Name x pos')) pos.line X.env = pure false := by rfl)
    (hf : X.fn x = true ∨ X.env.scope.names.lookup x = some .local := by first | exact .inl rfl | exact .inr rfl) : LS X (.Assign [.Name x pos'] e pos) r m P := by
  obtain ⟨i, hi, hr⟩ := hp.ix
  refine ⟨fun Z g H D W rp tk np => (ps_set (i := i) gd.nd' (by rw [gd.hN]; exact hi) hx pe_w hs hf).w (h.run Z g H _ W rp tk (fun v H1 d m1 q go so da => ?_) np.ex)⟩
  have q' : P.nx (f d) m1 := q
  rw [hr d] at q'
  exact np.nx _ H1 _ m1 q' go ((rp.go go so).set i da)
/-- o[i] = e, o a list of the store -/
theorem ls_setix {o i : Expr} {p2 : Pos} (h : LE X e r m (fun d m1 => LE X o r m1 (fun x m2 => LE X i r m2 (fun y m3 => ∃ p ds j n, x = .raw (.ref p) ∧ y = .int j ∧ (p, Mc.lst ds) ∈ m3 ∧ ixN ds.length j = some n ∧ P.nx r (put p (.lst (ds.set n d)) m3)) P.ex) P.ex) P.ex)
    (hs : swapsWithSole [.Subscript o i p2] e pos.line X.env = pure false := by rfl) (hw : swappedStores [.Subscript o i p2] e X.env = pure none := by rfl) (h1 : (assignEach [.Subscript o i p2] X.env).map (·.2) = [assign (.Subscript o i p2) X.env] := by rfl)
    (ha : ∀ v, assign (.Subscript o i p2) X.env v = (do
      let ov ← holding [v] (eval o X.env)
      let iv ← holding [v, ov] (eval i X.env)
      standAt p2
      holding [v, ov, iv] (setItem ov iv v)
      release [v, ov, iv] []) := by intro _; rfl) : LS X (.Assign [.Subscript o i p2] e pos) r m P := by
  refine ⟨fun Z g H D W rp tk np => (ps_asg pe_w (pg_sub pe_w pe_w set_list ha) hs hw h1).w ?_⟩
  refine h.run Z g H _ W rp tk (fun v H1 d m1 q go so da => ?_) np.ex
  refine q.run Z g H1 _ W (rp.go go so) tk (fun v2 H2 d2 m2 q2 go2 so2 da2 => ?_) (np.ex.go go)
  refine q2.run Z g H2 _ W (rp.go (go.trans go2) so2) tk (fun v3 H3 d3 m3 q3 go3 so3 da3 => ?_) (np.ex.go (go.trans go2))
  obtain ⟨p, ds, j, n, rfl, rfl, hm, hn, q3⟩ := q3
  cases da2
  cases da3
  obtain ⟨xs, e1, e2⟩ := so3.lst_of hm
  have dv := da.move (Go.full Z (go2.trans go3))
  have gg := (go.trans go2).trans go3
  obtain ⟨s4, g4⟩ := so3.put_lst hm (e2.set dv n)
  exact ⟨p, xs, j, n, rfl, rfl, e1, by rw [← e2.length]; exact hn, np.nx g _ r _ q3 (gg.trans g4) (rp.go (gg.trans g4) s4)⟩
end
end Dw
namespace Dw
open PySem PySem.Spec PyProof.Rows L2
/-- a def's promise over data: arguments, store, what is wanted of the value, of an exception -/
abbrev Spd := List Dt → Mu → Pd → (Value → List (Str × Dt) → Mu → Prop) → Prop
def toSp (K : PySem.W.Frag) (W : Spd) : Sp := fun vs H Q E => ∃ (Z : List Addr) (ds : List Dt) (m : Mu) (F : Pd) (E' : Value → List (Str × Dt) → Mu → Prop),
  So K Z m H ∧ DaL K (Z ++ dom m) H ds vs ∧ W ds m F E' ∧ NK K Z m H F Q ∧
    ∀ cls dx fs us H' m', E' cls fs m' → Go m H m' H' → So K Z m' H' → dx ∉ Z ++ dom m' → H' dx = some (.xd us) → Fds K (Z ++ dom m') H' fs us → E cls (some dx) H'
/-- a def keeps its promise where no repr is under way -/
structure FnG (P : Program) (w : World) (K : PySem.W.Frag) (mg : Str → Option Value) (base : Heap) (k : Nat) (f : Addr) (fd : FuncData) (ps : List Str) (sp : Sp) : Prop where
  len : ∀ vs H Q E, sp vs H Q E → vs.length = ps.length
  run : ∀ (A : Around) (outer : List Env) (s : Shared) (H : Hp) (args : Args) (us : List Value) (vs : List V) (Q : VK) (E : XK), Room k A → A.guards = some [] → Env0 P w K mg base A outer s H → BindsTo s fd args (ps.zip us) → Vals vs us →
    sp vs H Q E → codeAny (model P w) A (.call (.ref f) args) (CR (L2.CX P w) outer P w H s Q E) s
section
variable {P : Program} {w : World} {K : PySem.W.Frag} {mg : Str → Option Value} {base : Heap}
theorem FnG.mono {j k : Nat} {f : Addr} {fd : FuncData} {ps : List Str} {sp : Sp} (F : FnG P w K mg base j f fd ps sp) (h : j ≤ k) : FnG P w K mg base k f fd ps sp :=
  ⟨F.len, fun A outer s H args us vs Q E hr => F.run A outer s H args us vs Q E (hr.mono h)⟩
/-- a def by its body -/
theorem fn_body {k : Nat} {f : Addr} {x qual : Str} {st : Stmt} {fd : FuncData} {N ps : List Str} {sp : Sp} (F : Fun K x qual st f fd) (S : FnScope N ps (defScope st)) (len : ∀ vs H Q E, sp vs H Q E → vs.length = ps.length)
    (hbody : ∀ (cdv : Value) (A : Around) (outer : List Env) (s : Shared) (H : Hp) (vs : List V) (Q : VK) (E : XK), Room k (A.deeper (envOfC qual (defScope st) s.heap.objs.size f cdv)) → A.guards = some [] → sp vs H Q E →
      ∃ t, PSs (cxOf (L2.CX P w) P w K mg base N qual (defScope st) f cdv A outer s H E) (defBody st) t ∧ t { nx := fun _ H' => Q .non H', rt := Q } (start N vs) H) :
    FnG P w K mg base (k + 1) f fd ps sp := by
  obtain ⟨oc, od, kV, doc, pm, an, cdv, ct, osl, rfl, lk, hcd⟩ := F.ex
  refine ⟨len, fun A outer s H args us vs Q E hr hgu e0 hb rv hsp => ?_⟩
  have hl := len _ _ _ _ hsp
  have inK : K.In s.heap := e0.mod.kin.keeps fun b o e => (e0.bs b o e).1
  have nol : s.heap.NoLimit := e0.mod.nolimit.keeps fun b o e => (e0.bs b o e).1
  have kinds : ∀ y ∈ ps.zip us, (defScope st).names.lookup y.1 = some .local ∨ ((defScope st).names.lookup y.1 = some .cell ∧ ((cellsFrom (s.heap.objs.size + 1) (defScope st).names []).lookup y.1).isSome = true) := fun ⟨n, v⟩ hy => by
    rcases S.par n (List.of_mem_zip hy).1 with q | q
    · exact .inl q
    · exact .inr ⟨q, PySem.W.cellsFrom_some _ _ _ (.inl q)⟩
  refine codeAny_call_function hr.depth (inK _ _ lk) rfl S.co S.gen rfl (PySem.W.codeRec_of inK hcd) (hb _ _ _ _ ?_)
  refine wpAny_newFunctionEnv_cells S.kind kinds fun env he s1 xx => ?_
  subst he
  refine ⟨nol.keeps xx.toInCall.keep, codeAny_func ?_⟩
  obtain ⟨t, ht, hq⟩ := hbody cdv A outer s H vs Q E (hr.deeper _) hgu hsp
  have I : Inv (cxOf (L2.CX P w) P w K mg base N qual (defScope st) f cdv A outer s H E) [] (start N vs) H s1 := inv_start S hr.hd e0 hl rv xx
  refine wpAny_mono (ht.run [] s1 (start N vs) H _ I hq) (fun fl s' hs => ?_) fun e s' hs => hs
  cases fl with
  | ret u =>
    obtain ⟨v, g', H', J, rv, q⟩ := hs
    exact ⟨v, H', J.os, J.bare, J.base, J.hok, rv, q⟩
  | next =>
    obtain ⟨g', H', J, q⟩ := hs
    exact ⟨V.non, H', J.os, J.bare, J.base, J.hok, rfl, q⟩
  | brk =>
    obtain ⟨_, _, _, q⟩ := hs
    exact q.elim
  | cont =>
    obtain ⟨_, _, _, q⟩ := hs
    exact q.elim
def startD (N : List Str) (ds : List Dt) : En := ds.map some ++ List.replicate (N.length - ds.length) none
theorem rep_start {Z : List Addr} {m : Mu} {H : Hp} {N : List Str} {ds : List Dt} {vs : List V} (so : So K Z m H) (da : DaL K (Z ++ dom m) H ds vs) : Rep K Z m H (start N vs) (startD N ds) := by
  refine ⟨so, by unfold L2.start startD; rw [List.length_append, List.length_append, List.length_map, List.length_map, List.length_replicate, List.length_replicate, da.length], fun i d e => ?_⟩
  unfold startD at e
  by_cases hi : i < ds.length
  · rw [List.getElem?_append_left (by rw [List.length_map]; exact hi), List.getElem?_map] at e
    cases e1 : ds[i]? with
    | none => rw [e1] at e; cases e
    | some d' =>
      rw [e1] at e
      cases e
      obtain ⟨v, e2, e3⟩ := da.get e1
      refine ⟨v, ?_, e3⟩
      unfold L2.start
      rw [List.getElem?_append_left (by rw [List.length_map, ← da.length]; exact hi), List.getElem?_map, e2]
      rfl
  · rw [List.getElem?_append_right (by rw [List.length_map]; omega), List.getElem?_replicate] at e
    split at e <;> cases e
/-- THE RULE for a def, over data -/
theorem fn_dw {k : Nat} {f : Addr} {x qual : Str} {st : Stmt} {fd : FuncData} {N ps : List Str} {W : Spd} (F : Fun K x qual st f fd) (S : FnScope N ps (defScope st)) (len : ∀ ds m Q E, W ds m Q E → ds.length = ps.length)
    (hbody : ∀ (cdv : Value) (A : Around) (outer : List Env) (s : Shared) (H : Hp) (E : XK), Gd k N (cxOf (L2.CX P w) P w K mg base N qual (defScope st) f cdv A outer s H E) → ∀ (ds : List Dt) (m : Mu) (Q : Pd) (E' : Value → List (Str × Dt) → Mu → Prop), W ds m Q E' →
      LB (cxOf (L2.CX P w) P w K mg base N qual (defScope st) f cdv A outer s H E) (defBody st) (startD N ds) m { nx := fun _ m' => Q .non m', rt := Q, ex := fun c fs _ m' => E' c fs m' }) :
    FnG P w K mg base (k + 1) f fd ps (toSp K W) := by
  refine fn_body F S (fun vs H Q E h => ?_) fun cdv A outer s H vs Q E hr hgu h => ⟨wB _ _, pss_w, ?_⟩
  · obtain ⟨Z, ds, m, Q', E', so, da, hw, nk, ne⟩ := h
    rw [← da.length]
    exact len _ _ _ _ hw
  · obtain ⟨Z, ds, m, Q', E', so, da, hw, nk, ne⟩ := h
    have gd : Gd k N (cxOf (L2.CX P w) P w K mg base N qual (defScope st) f cdv A outer s H E) := ⟨hr, hgu, rfl, S.nd, rfl, passes_of rfl⟩
    refine (hbody cdv A outer s H E gd ds m Q' E' hw).run Z (start N vs) H _ (fun cls d _ H' => E cls d H') (rep_start so da) (takes_of rfl rfl rfl rfl) ⟨fun g' H' r' m' q go rp => nk _ _ _ _ q go rp.so .non, nk, fun _ _ _ _ q => q.elim, fun _ _ _ _ q => q.elim, fun cls dx fs us g' H' r' m' q go rp nd e1 e2 => ne cls dx fs us H' m' q go rp.so nd e1 e2⟩
/-- a def by its name, n parameters, level k -/
structure FnD (P : Program) (w : World) (K : PySem.W.Frag) (mg : Str → Option Value) (base : Heap) (x : Str) (k : Nat) (W : Spd) : Prop where
  ex : ∃ (f : Addr) (fd : FuncData) (ps : List Str), FnG P w K mg base k f fd ps (toSp K W) ∧ mg x = some (.ref f) ∧ PySem.W.keepIn K (.ref f) = true ∧ Binds K fd ps []
theorem FnD.mk' {x qual : Str} {st : Stmt} {k : Nat} {f : Addr} {fd : FuncData} {ps : List Str} {W : Spd} (F : Fun K x qual st f fd) (G : FnG P w K mg base k f fd ps (toSp K W)) (hm : mg x = some (.ref f)) (hb : Binds K fd ps []) : FnD P w K mg base x k W := ⟨f, fd, ps, G, hm, F.kp, hb⟩
end
section
variable {X : Cx} {e : Expr} {es : List Expr} {r : En} {m : Mu} {F : Pd} {E : Xd} {p pos : Pos} {k j : Nat} {N : List Str} {x : Str} {W : Spd}
theorem run_g {pins : List (Addr × Obj)} {g : L2.St} {H : Hp} {s : Shared} {Q : VK} {us : List Value} {vs : List V} {f : Addr} {fd : FuncData} {ps : List Str} {sp : Sp} {Wx : WX} (G : FnG X.prog X.w X.K X.mg X.base k f fd ps sp) (hr : Room k X.A) (hgu : X.A.guards = some []) (hb : Binds X.K fd ps [])
    (tk : Takes X Wx) (I : Inv X pins g H s) (rv : Vals vs us) (h : sp vs H Q (WE Wx g)) : wpAny (model X.prog X.w) X.A (call (.ref f) us) (EP X pins g Q) X.xe s := by
  have hl : us.length = ps.length := by rw [← rv.length]; exact G.len _ _ _ _ h
  have b := hb s us I.kIn (by rw [List.append_nil]; exact hl)
  rw [List.append_nil] at b
  refine wpAny_call (codeAny_mono (G.run X.A X.stack s H ⟨us, []⟩ us vs Q (WE Wx g) hr hgu I.env0 b rv h) fun o s' hq => ?_)
  cases o with
  | error u => exact passAt tk g pins H s u s' I hq
  | ok fl =>
    cases fl with
    | ret u => exact I.after hq
    | next => exact hq.elim
    | brk => exact hq.elim
    | cont => exact hq.elim
theorem le_call (h : FnD X.prog X.w X.K X.mg X.base x j W) (gd : Gd k N X) (hj : j ≤ k) (ha : LA X (e :: es) r m (fun ds m1 => W ds m1 F (fun c fs m' => E c fs r m')) E) (hg : Gl X x := by rfl)
    (hdb : (x == ("__debug__" : Str)) = false := by decide) (he : starEach (e :: es) X.env = (false, eval e X.env) :: starEach es X.env := by rfl) (hpl : (backTo pos (starEach es X.env)).any (·.1) = false := by rfl) : LE X (.Call (.Name x p) (e :: es) [] pos) r m F E := by
  obtain ⟨f, fd, ps, G, hm, hk, hb⟩ := h.ex
  refine ⟨fun Z g H Q Wx rp tk nk nx pins s I => ?_⟩
  refine wpAny_Call_Name_kw (ld_glob I hg hm ?_ hdb)
  refine PySem.W.callWith_K (h₀ := X.base) I.ok.mod.kin hk (thn (ha.run Z g H (fun vs H1 => toSp X.K W vs H1 Q (WE Wx g)) Wx rp tk (fun vs H1 ds m1 q go so da => ?_) nx pos pins s I) fun us s1 ⟨vs, H1, I1, rv, q⟩ => ⟨I1.kIn, ?_⟩) he hpl
  · exact ⟨Z, ds, m1, F, _, so, da, q, nk.go go, fun cls dx fs us H' m' q2 go2 so2 nd e1 e2 => nx cls dx fs us g H' r m' q2 (go.trans go2) (rp.go (go.trans go2) so2) nd e1 e2⟩
  · exact run_g G (gd.room.mono hj) gd.gu hb tk I1 rv q
theorem le_call0 (h : FnD X.prog X.w X.K X.mg X.base x j W) (gd : Gd k N X) (hj : j ≤ k) (ha : W [] m F (fun c fs m' => E c fs r m')) (hg : Gl X x := by rfl)
    (hdb : (x == ("__debug__" : Str)) = false := by decide) : LE X (.Call (.Name x p) [] [] pos) r m F E := by
  obtain ⟨f, fd, ps, G, hm, hk, hb⟩ := h.ex
  refine ⟨fun Z g H Q Wx rp tk nk nx pins s I => ?_⟩
  refine wpAny_Call_Name_kw (ld_glob I hg hm ?_ hdb)
  refine PySem.W.callWith_K0 I.kIn hk (run_g (us := []) (vs := []) G (gd.room.mono hj) gd.gu hb tk I .nil ?_)
  exact ⟨Z, [], m, F, _, rp.so, .nil, ha, nk, fun cls dx fs us H' m' q2 go2 so2 nd e1 e2 => nx cls dx fs us g H' r m' q2 go2 (rp.go go2 so2) nd e1 e2⟩
/-- a built-in function, a built-in class, called -/
theorem le_callB {id : String} (hv : bootBuiltins x = some (.builtin id)) (hm : X.mg x = none) (ha : LA X (e :: es) r m (fun ds m1 => OC X (.builtin id) ds m1 F) E) (hg : Gl X x := by rfl) (hn : x ≠ "__name__" := by decide) (hdb : (x == ("__debug__" : Str)) = false := by decide)
    (he : starEach (e :: es) X.env = (false, eval e X.env) :: starEach es X.env := by rfl) (hpl : (backTo pos (starEach es X.env)).any (·.1) = false := by rfl) : LE X (.Call (.Name x p) (e :: es) [] pos) r m F E := by
  refine ⟨fun Z g H Q Wx rp tk nk nx => (pe_callB call_w hg hm hv pa_w hn hdb he hpl).w ?_⟩
  refine ha.run Z g H _ Wx rp tk (fun vs H1 ds m1 q go so da => ?_) nx
  exact q.run Z H1 vs Q so da (nk.go go)
theorem le_callT {T : String} (hv : bootBuiltins x = some (.type T)) (hm : X.mg x = none) (ha : LA X (e :: es) r m (fun ds m1 => OC X (.type T) ds m1 F) E) (hg : Gl X x := by rfl) (hn : x ≠ "__name__" := by decide) (hdb : (x == ("__debug__" : Str)) = false := by decide)
    (he : starEach (e :: es) X.env = (false, eval e X.env) :: starEach es X.env := by rfl) (hpl : (backTo pos (starEach es X.env)).any (·.1) = false := by rfl) : LE X (.Call (.Name x p) (e :: es) [] pos) r m F E := by
  refine ⟨fun Z g H Q Wx rp tk nk nx => (pe_callTy call_w hg hm hv pa_w hn hdb he hpl).w ?_⟩
  refine ha.run Z g H _ Wx rp tk (fun vs H1 ds m1 q go so da => ?_) nx
  exact q.run Z H1 vs Q so da (nk.go go)
/-! ### walks -/
def wIt (X : Cx) (tg iter : Expr) : TI := fun g H R => ∀ (pins : List (Addr × Obj)) (s : Shared), Inv X pins g H s → wpAny (model X.prog X.w) X.A (eval iter X.env) (fun v s1 => wpAny (model X.prog X.w) X.A (pyIter v) (PIE X pins g tg R) X.xe s1) X.xe s
theorem pi_w {tg iter : Expr} : PI X tg iter (wIt X tg iter) := ⟨fun pins s g H R I h => h pins s I⟩
theorem _root_.L2.PI.w {tg iter : Expr} {t : TI} (h : PI X tg iter t) {g : L2.St} {H : Hp} {R : It → Hp → Prop} (q : t g H R) : wIt X tg iter g H R := fun pins s I => h.run pins s g H R I q
/-- hidden things may be more -/
theorem Go.hide {m m' : Mu} {H H' : Hp} {Z Z' : List Addr} (x : Go m H m' H') (hz : ∀ a ∈ Z', a ∈ Z ∨ H a = none) : Ext (Z ++ dom m) H (Z' ++ dom m') H' :=
  ⟨fun a o n e => x.keep a o (fun z => n (List.mem_append_right _ z)) e, fun a h => by
    rcases List.mem_append.mp h with h | h
    · rcases hz a h with q | q
      · exact .inl (List.mem_append_left _ q)
      · exact .inr q
    · rcases x.new a h with q | q
      · exact .inl (List.mem_append_right _ q)
      · exact .inr q⟩
/-- the walk J yields the data ds -/
def ItD (K : PySem.W.Frag) (Z : List Addr) (m : Mu) (H : Hp) (J : It) (ds : List Dt) : Prop := ∀ (Z' : List Addr), (∀ a ∈ Z', a ∈ Z ∨ H a = none) → ∀ (i : Nat) (m2 : Mu) (H2 : Hp), Go m H m2 H2 → So K Z' m2 H2 →
  (i < ds.length → J.go i H2) ∧ (ds.length ≤ i → J.stop i H2) ∧ ∀ x H3 d, ds[i]? = some d → J.yld i H2 x H3 → Go m2 H2 m2 H3 ∧ So K Z' m2 H3 ∧ Da K (Z' ++ dom m2) H3 d x
structure LI (X : Cx) (tg iter : Expr) (r : En) (m : Mu) (F : List Dt → Mu → Prop) (E : Xd) : Prop where
  run : ∀ (Z : List Addr) (g : L2.St) (H : Hp) (R : It → Hp → Prop) (Wx : WX), Rep X.K Z m H g r → Takes X Wx → (∀ J ds m' H', F ds m' → Go m H m' H' → So X.K Z m' H' → ItD X.K Z m' H' J ds → R J H') → NX X.K Z m H E Wx → wIt X tg iter g H R
theorem li_lst {tg : Expr} {L : List Dt → Mu → Prop} (h : LE X e r m (fun d m1 => ∃ ds, d = .lst ds ∧ L ds m1) E) : LI X tg e r m L E := by
  refine ⟨fun Z g H R Wx rp tk nk nx => (pi_list pe_w).w (h.run Z g H _ Wx rp tk (fun v H1 d m1 q go so da => ?_) nx)⟩
  obtain ⟨ds, rfl, q⟩ := q
  cases da with
  | lst h1 h2 =>
    refine ⟨_, rfl, ⟨_, h1.sq⟩, nk _ ds m1 H1 q go so fun Z' hz i m2 H2 go2 so2 => ?_⟩
    have h1' := SL.sq (K := X.K) (h1.move (Go.hide go2 hz))
    refine ⟨fun hi => ?_, fun hi => ⟨_, h1', by rw [← h2.length]; exact hi⟩, fun x H3 d hd hy => ?_⟩
    · obtain ⟨v, e1, _⟩ := h2.get (List.getElem?_eq_getElem hi)
      exact ⟨_, v, h1', e1⟩
    · obtain ⟨rfl, hv⟩ := hy
      obtain ⟨v, e1, e2⟩ := h2.get hd
      have e3 := hv _ h1'
      rw [e1] at e3
      cases e3
      exact ⟨Ext.rfl', so2, e2.move (Go.hide go2 hz)⟩
theorem li_tup {tg : Expr} {L : List Dt → Mu → Prop} (h : LE X e r m (fun d m1 => ∃ ds, d = .tup ds ∧ L ds m1) E) : LI X tg e r m L E := by
  refine ⟨fun Z g H R Wx rp tk nk nx => (pi_tup pe_w).w (h.run Z g H _ Wx rp tk (fun v H1 d m1 q go so da => ?_) nx)⟩
  obtain ⟨ds, rfl, q⟩ := q
  cases da with
  | tup h1 h2 =>
    refine ⟨_, rfl, ⟨_, h1.sq⟩, nk _ ds m1 H1 q go so fun Z' hz i m2 H2 go2 so2 => ?_⟩
    have h1' := (h1.move (Go.hide go2 hz)).sq
    refine ⟨fun hi => ?_, fun hi => ⟨_, h1', by rw [← h2.length]; exact hi⟩, fun x H3 d hd hy => ?_⟩
    · obtain ⟨v, e1, _⟩ := h2.get (List.getElem?_eq_getElem hi)
      exact ⟨_, v, h1', e1⟩
    · obtain ⟨rfl, hv⟩ := hy
      obtain ⟨v, e1, e2⟩ := h2.get hd
      have e3 := hv _ h1'
      rw [e1] at e3
      cases e3
      exact ⟨Ext.rfl', so2, e2.move (Go.hide go2 hz)⟩
def signs (x : Str) : List Dt := x.cps.toList.map fun c => .str ⟨#[c]⟩
theorem li_str {tg : Expr} {L : List Dt → Mu → Prop} (h : LE X e r m (fun d m1 => ∃ x, d = .str x ∧ L (signs x) m1) E) : LI X tg e r m L E := by
  refine ⟨fun Z g H R Wx rp tk nk nx => (pi_str pe_w).w (h.run Z g H _ Wx rp tk (fun v H1 d m1 q go so da => ?_) nx)⟩
  obtain ⟨x, rfl, q⟩ := q
  cases da
  refine ⟨x, rfl, nk _ _ m1 H1 q go so fun Z' hz i m2 H2 go2 so2 => ?_⟩
  have hl : (signs x).length = x.cps.size := by unfold signs; rw [List.length_map, Array.length_toList]
  refine ⟨fun hi => by rw [hl] at hi; exact hi, fun hi => by rw [hl] at hi; exact hi, fun v H3 d hd hy => ?_⟩
  obtain ⟨rfl, c, hc, rfl⟩ := hy
  unfold signs at hd
  rw [List.getElem?_map, Array.getElem?_toList, hc] at hd
  cases hd
  exact ⟨Ext.rfl', so2, .str _⟩
def rng (lo : Int) (n : Nat) : List Dt := (List.range n).map fun i : Nat => .int (lo + i)
theorem rng_len (lo : Int) (n : Nat) : (rng lo n).length = n := by unfold rng; rw [List.length_map, List.length_range]
theorem itd_rng {K : PySem.W.Frag} {Z : List Addr} {m : Mu} {H : Hp} (lo : Int) (n : Nat) : ItD K Z m H (Itr lo n) (rng lo n) := fun Z' hz i m2 H2 go2 so2 => by
  refine ⟨fun hi => by rw [rng_len] at hi; exact hi, fun hi => by rw [rng_len] at hi; exact hi, fun v H3 d hd hy => ?_⟩
  obtain ⟨rfl, rfl⟩ := hy
  unfold rng at hd
  have hi : i < n := by
    have := List.getElem?_eq_some_iff.mp hd
    obtain ⟨h1, _⟩ := this
    rw [List.length_map, List.length_range] at h1
    exact h1
  rw [List.getElem?_map, List.getElem?_range hi] at hd
  cases hd
  exact ⟨Ext.rfl', so2, .int _⟩
theorem li_rng1 {tg a : Expr} {L : List Dt → Mu → Prop} (hm : X.mg "range" = none) (h : LA X [a] r m (fun ds m1 => ∃ j : Int, ds = [.int j] ∧ -(2 ^ 62) ≤ j ∧ j < 2 ^ 62 ∧ L (rng 0 j.toNat) m1) E) (hg : Gl X "range" := by rfl) (hs : starEach [a] X.env = [(false, eval a X.env)] := by rfl) : LI X tg (.Call (.Name "range" p) [a] [] pos) r m L E := by
  refine ⟨fun Z g H R Wx rp tk nk nx => (pi_range1 hg hm pa_w hs).w (h.run Z g H _ Wx rp tk (fun vs H1 ds m1 q go so da => ?_) nx)⟩
  obtain ⟨j, rfl, q1, q2, q⟩ := q
  cases da with
  | cons d1 d2 =>
    cases d1
    cases d2
    exact ⟨j, rfl, q1, q2, nk _ _ m1 H1 q go so (itd_rng 0 _)⟩
theorem li_rng2 {tg a b : Expr} {L : List Dt → Mu → Prop} (hm : X.mg "range" = none) (h : LA X [a, b] r m (fun ds m1 => ∃ i j : Int, ds = [.int i, .int j] ∧ (-(2 ^ 62) ≤ i ∧ i < 2 ^ 62 ∧ -(2 ^ 62) ≤ j ∧ j < 2 ^ 62) ∧ L (rng i (j - i).toNat) m1) E) (hg : Gl X "range" := by rfl)
    (hs : starEach [a, b] X.env = [(false, eval a X.env), (false, eval b X.env)] := by rfl) (hs2 : starEach [b] X.env = [(false, eval b X.env)] := by rfl) : LI X tg (.Call (.Name "range" p) [a, b] [] pos) r m L E := by
  refine ⟨fun Z g H R Wx rp tk nk nx => (pi_range2 hg hm pa_w hs hs2).w (h.run Z g H _ Wx rp tk (fun vs H1 ds m1 q go so da => ?_) nx)⟩
  obtain ⟨i, j, rfl, q1, q⟩ := q
  cases da with
  | cons d1 d2 =>
    cases d2 with
    | cons d3 d4 =>
      cases d1
      cases d3
      cases d4
      exact ⟨i, j, rfl, q1, nk _ _ m1 H1 q go so (itd_rng i _)⟩
/-! ### targets -/
structure LG (X : Cx) (tg : Expr) (r : En) (d : Dt) (f : En → Prop) : Prop where
  run : ∀ (Z : List Addr) (m : Mu) (g : L2.St) (H : Hp) (v : V) (Q : L2.St → Hp → Prop), Rep X.K Z m H g r → Da X.K (Z ++ dom m) H d v → (∀ g' r', f r' → Rep X.K Z m H g' r' → Q g' H) →
    ∀ (pins : List (Addr × Obj)) (s : Shared) (u : Value), Inv X pins g H s → RelV v u → wpAny (model X.prog X.w) X.A (assign tg X.env u) (fun _ s' => ∃ g' H', Inv X pins g' H' s' ∧ Q g' H') X.xe s
def wG (X : Cx) (tg : Expr) : TG := fun v g H Q => ∀ (pins : List (Addr × Obj)) (s : Shared) (u : Value), Inv X pins g H s → RelV v u → wpAny (model X.prog X.w) X.A (assign tg X.env u) (fun _ s' => ∃ g' H', Inv X pins g' H' s' ∧ Q g' H') X.xe s
theorem pg_w {tg : Expr} : PG X tg (wG X tg) := ⟨fun pins s g H v u Q I rv h => h pins s u I rv⟩
theorem lg_name {f : En → Prop} {d : Dt} {h : Dt → En} (gd : Gd k N X) (hp : Put N r x h) (q : f (h d)) (hx : Loc X.env.scope x := by first | exact Or.inl rfl | exact Or.inr rfl)
    (hf : X.fn x = true ∨ X.env.scope.names.lookup x = some .local := by first | exact .inl rfl | exact .inr rfl) : LG X (.Name x pos) r d f := by
  obtain ⟨i, hi, hr⟩ := hp.ix
  refine ⟨fun Z m g H v Q rp da hq pins s u I rv => (pg_name (i := i) gd.nd' (by rw [gd.hN]; exact hi) hx hf).run pins s g H v u Q I rv ?_⟩
  refine hq _ _ q ?_
  rw [hr d]
  exact rp.set i da
/-! ### for -/
theorem ls_for {tg iter : Expr} {body : List Stmt} {P : Pc} (gd : Gd k N X) (Iv : List Dt → Nat → En → Mu → Prop) (h : LI X tg iter r m (fun ds m1 => Iv ds 0 r m1 ∧
      (∀ i d r2 m2, ds[i]? = some d → Iv ds i r2 m2 → LG X tg r2 d fun r3 => LB X body r3 m2 { nx := Iv ds (i + 1), rt := P.rt, bk := P.nx, ct := Iv ds (i + 1), ex := P.ex }) ∧ ∀ r2 m2, Iv ds ds.length r2 m2 → P.nx r2 m2) P.ex)
    (hs : ∀ x, foldedSetIterable iter X.env x = pure x := by intro _; rfl) : LS X (.For tg iter body [] pos) r m P := by
  refine ⟨fun Z g H D Wx rp tk np => (ps_for gd.po gd.calm pi_w pg_w pss_w hs).w (h.run Z g H _ Wx rp tk (fun J ds m1 H1 q go so it => ?_) np.ex)⟩
  obtain ⟨q0, qs, qd⟩ := q
  refine ⟨fun i n g2 H2 => n = ds.length - i ∧ i ≤ ds.length ∧ ∃ r2 m2, Iv ds i r2 m2 ∧ Go m1 H1 m2 H2 ∧ Rep X.K Z m2 H2 g2 r2, ⟨ds.length, rfl, Nat.zero_le _, r, m1, q0, Ext.rfl', rp.go go so⟩, fun i n g2 H2 hw => ?_⟩
  obtain ⟨rfl, hi, r2, m2, iv, go2, rp2⟩ := hw
  obtain ⟨hgo, hstop, hy⟩ := it Z (fun _ h => .inl h) i m2 H2 go2 rp2.so
  by_cases hlt : i < ds.length
  · refine .inr ⟨hgo hlt, fun g3 H3 => ∃ r3 m3, Iv ds (i + 1) r3 m3 ∧ Go m1 H1 m3 H3 ∧ Rep X.K Z m3 H3 g3 r3, fun g3 H3 ⟨r3, m3, iv3, go3, rp3⟩ => ⟨ds.length - (i + 1), by omega, rfl, hlt, r3, m3, iv3, go3, rp3⟩, fun x H3 yx => ?_⟩
    obtain ⟨gy, sy, dy⟩ := hy x H3 ds[i] (List.getElem?_eq_getElem hlt) yx
    have rp3 : Rep X.K Z m2 H3 g2 r2 := rp2.go gy sy
    refine (qs i ds[i] r2 m2 (List.getElem?_eq_getElem hlt) iv).run Z m2 g2 H3 x _ rp3 dy fun g4 r4 lb rp4 => ?_
    have g4o : Go m1 H1 m2 H3 := go2.trans gy
    refine lb.run Z g4 H3 _ Wx rp4 tk ⟨fun g5 H5 r5 m5 q5 go5 rp5 => ⟨r5, m5, q5, g4o.trans go5, rp5⟩, np.rt.go (go.trans g4o), np.nx.go (go.trans g4o), fun g5 H5 r5 m5 q5 go5 rp5 => ⟨r5, m5, q5, g4o.trans go5, rp5⟩, np.ex.go (go.trans g4o)⟩
  · have e : i = ds.length := by omega
    subst e
    exact .inl ⟨hstop (Nat.le_refl _), np.nx g2 H2 r2 m2 (qd r2 m2 iv) (go.trans go2) rp2⟩
end
end Dw
namespace Dw
open PySem PySem.Spec PyProof.Rows L2
section
variable {X : Cx} {e : Expr} {es : List Expr} {r : En} {m : Mu} {F : Pd} {E : Xd} {p pos : Pos} {k j : Nat} {N : List Str} {x : Str}
/-! ### tests of a comprehension -/
structure LF (X : Cx) (ifs : List Expr) (r : En) (m : Mu) (B : Bool → Mu → Prop) (E : Xd) : Prop where
  run : ∀ (Z : List Addr) (g : L2.St) (H : Hp) (Q : Bool → Hp → Prop) (W : WX), Rep X.K Z m H g r → Takes X W → NB X.K Z m H B Q → NX X.K Z m H E W → ∃ t, PTs X ifs t ∧ t g H Q
theorem lf_nil {B : Bool → Mu → Prop} (q : B true m) : LF X [] r m B E := ⟨fun Z g H Q W rp tk nk nx => ⟨_, pts_nil, nk true H m q Ext.rfl' rp.so⟩⟩
theorem lf_one {c : Expr} {B : Bool → Mu → Prop} (h : LT X c r m B E) : LF X [c] r m B E := ⟨fun Z g H Q W rp tk nk nx => ⟨_, pts_one pt_w, h.run Z g H Q W rp tk nk nx⟩⟩
def wTs (X : Cx) (ifs : List Expr) : TT := fun g H Q => ∃ t, PTs X ifs t ∧ t g H Q
theorem pts_w {ifs : List Expr} : PTs X ifs (wTs X ifs) := ⟨fun pins s g H Q I ⟨t, h, q⟩ => h.run pins s g H Q I q⟩
/-- a block's context -/
abbrev bk (X : Cx) (scope : Scope) (s : Shared) (H : Hp) (C : Addr) (cl : List (Str × Addr)) (fp : List Addr) : Cx := X.blk s H scope (compEnvC scope cl C X.env) fp
theorem Gd.blk (gd : Gd k N X) (scope : Scope) (s : Shared) (H : Hp) (C : Addr) (cl : List (Str × Addr)) (fp : List Addr) : Gd k N (bk X scope s H C cl fp) := ⟨gd.room, gd.gu, gd.calm, gd.nd, gd.hN, PassesOwn.never⟩
def bE (X : Cx) (scope : Scope) (e : Expr) : TE := fun g H Q => ∀ s H' C cl fp, wE (bk X scope s H' C cl fp) e g H Q
def bT (X : Cx) (scope : Scope) (ifs : List Expr) : TT := fun g H Q => ∀ s H' C cl fp, wTs (bk X scope s H' C cl fp) ifs g H Q
theorem So.drop {K : PySem.W.Frag} {Z : List Addr} {m : Mu} {H : Hp} {D : Addr} (s : So K (D :: Z) m H) : So K Z m H :=
  ⟨s.nd, fun a ha => s.zs a (List.mem_cons_of_mem _ ha), fun a ha => s.dj a (List.mem_cons_of_mem _ ha), fun q hq => (s.ob q hq).less fun a ha => by
    rcases List.mem_append.mp ha with z | z
    · exact List.mem_append_left _ (List.mem_cons_of_mem _ z)
    · exact List.mem_append_right _ z⟩
/-- the hidden list is changed -/
theorem So.hid {K : PySem.W.Frag} {Z : List Addr} {m : Mu} {H : Hp} {D : Addr} {o : HO} (s : So K (D :: Z) m H) (ho : ∀ xs, o ≠ .tup xs := by intro _ z; cases z) : So K (D :: Z) m (upd H D o) ∧ Ext ((D :: Z) ++ dom m) H ((D :: Z) ++ dom m) (upd H D o) := by
  have x : Ext ((D :: Z) ++ dom m) H ((D :: Z) ++ dom m) (upd H D o) := ⟨fun a u n e => by
    rw [upd_ne (show a ≠ D from fun z => n (by rw [z]; exact List.mem_append_left _ List.mem_cons_self))]
    exact e, fun a h => .inl h⟩
  refine ⟨⟨s.nd, fun a ha => ?_, s.dj, fun q hq => ?_⟩, x⟩
  · by_cases h : a = D
    · rw [h, upd_same]
      exact ⟨(fun z => nomatch z), fun xs z => ho xs (Option.some.inj z)⟩
    · rw [upd_ne h]
      exact s.zs a ha
  · have y := s.ob q hq
    have hn : q.1 ≠ D := fun z => s.dj D List.mem_cons_self (by rw [← z]; exact List.mem_map.mpr ⟨q, hq, rfl⟩)
    cases e2 : q.2 with
    | lst es =>
      rw [e2] at y
      obtain ⟨xs, e1, e3⟩ := y
      exact ⟨xs, by rw [upd_ne hn]; exact e1, e3.move x⟩
    | ins C dx fs =>
      rw [e2] at y
      obtain ⟨xs, e1, e3⟩ := y
      exact ⟨xs, by rw [upd_ne hn]; exact e1, e3.move x⟩
    | gen φ es =>
      rw [e2] at y
      obtain ⟨xs, e1, e3⟩ := y
      exact ⟨xs, by rw [upd_ne hn]; exact e1, e3.1.move x, e3.2⟩
theorem So.hides {K : PySem.W.Frag} {Z : List Addr} {m : Mu} {H : Hp} {D : Addr} {o : HO} (s : So K Z m H) (h : H D = none) (ho : ∀ xs, o ≠ .tup xs := by intro _ z; cases z) : So K (D :: Z) m (upd H D o) := by
  have s1 := s.laid (o := o) h
  have nf := s.fresh h
  refine ⟨s1.nd, fun a ha => ?_, fun a ha => ?_, fun q hq => ?_⟩
  · rcases List.mem_cons.mp ha with z | z
    · rw [z, upd_same]
      exact ⟨(fun z => nomatch z), fun xs z => ho xs (Option.some.inj z)⟩
    · exact s1.zs a z
  · rcases List.mem_cons.mp ha with z | z
    · rw [z]
      exact fun y => nf (List.mem_append_right _ y)
    · exact s1.dj a z
  · have y := s.ob q hq
    have hn : q.1 ≠ D := fun z => y.there (by rw [z]; exact h)
    have x : Ext (Z ++ dom m) H ((D :: Z) ++ dom m) (upd H D o) := Go.hide (Ext.fresh h) fun a ha => by
      rcases List.mem_cons.mp ha with z | z
      · exact .inr (by rw [z]; exact h)
      · exact .inl z
    cases e2 : q.2 with
    | lst es =>
      rw [e2] at y
      obtain ⟨xs, e1, e3⟩ := y
      exact ⟨xs, by rw [upd_ne hn]; exact e1, e3.move x⟩
    | ins C dx fs =>
      rw [e2] at y
      obtain ⟨xs, e1, e3⟩ := y
      exact ⟨xs, by rw [upd_ne hn]; exact e1, e3.move x⟩
    | gen φ es =>
      rw [e2] at y
      obtain ⟨xs, e1, e3⟩ := y
      exact ⟨xs, by rw [upd_ne hn]; exact e1, e3.1.move x, e3.2⟩
/-- what is asked of a comprehension over the data ds -/
def LcOk (X : Cx) (scope : Scope) (elt : Expr) (ifs : List Expr) (f : Dt → En) (Iv : List Dt → Nat → List Dt → Mu → Prop) (F : Pd) (ds : List Dt) (m1 : Mu) : Prop :=
  ds.length ≤ sizeLine ∧ Iv ds 0 [] m1 ∧ (∀ i d acc m2, ds[i]? = some d → acc.length ≤ i → Iv ds i acc m2 → ∀ s H C cl fp, LF (bk X scope s H C cl fp) ifs (f d) m2 (fun b m3 => if b = true then (∀ s H C cl fp, LE (bk X scope s H C cl fp) elt (f d) m3 (fun y m4 => Iv ds (i + 1) (acc ++ [y]) m4) X0) else Iv ds (i + 1) acc m3) X0) ∧
    ∀ acc m2, acc.length ≤ ds.length → Iv ds ds.length acc m2 → F (.lst acc) m2
theorem set_set {α : Type} : ∀ (l : List α) (i : Nat) (a b : α), (l.set i a).set i b = l.set i b
  | [], _, _, _ => rfl
  | _ :: _, 0, _, _ => rfl
  | x :: l, i + 1, a, b => congrArg (List.cons x) (set_set l i a b)
theorem lc_read {scope : Scope} {elt tg iter : Expr} {ifs : List Expr} {i0 : Nat} {f : Dt → En} (hr : ∀ d, f d = r.set i0 (some d)) (Iv : List Dt → Nat → List Dt → Mu → Prop) (h : LI X tg iter r m (LcOk X scope elt ifs f Iv F) E)
    {Z : List Addr} {g : L2.St} {H : Hp} {Q : VK} {Wx : WX} (rp : Rep X.K Z m H g r) (tk : Takes X Wx) (nk : NK X.K Z m H F Q) (nx : NX X.K Z m H E Wx) :
    tLc (wIt X tg iter) (gName i0) (bT X scope ifs) (bE X scope elt) [i0] g H Q := by
  refine h.run Z g H _ Wx rp tk (fun J ds m1 H1 q go so it D hD => ?_) nx
  obtain ⟨hsz, q0, qs, qd⟩ := q
  have hz : ∀ a ∈ D :: Z, a ∈ Z ∨ H1 a = none := fun a ha => by
    rcases List.mem_cons.mp ha with z | z
    · exact .inr (by rw [z]; exact hD)
    · exact .inl z
  have rp1 : Rep X.K Z m1 H1 g r := rp.go go so
  refine ⟨fun i n H2 => n = ds.length - i ∧ i ≤ ds.length ∧ ∃ acc accV m2, Iv ds i acc m2 ∧ acc.length ≤ i ∧ Go m1 H1 m2 H2 ∧ So X.K (D :: Z) m2 H2 ∧ H2 D = some (.lst accV) ∧ DaL X.K ((D :: Z) ++ dom m2) H2 acc accV,
    ⟨ds.length, rfl, Nat.zero_le _, [], [], m1, q0, Nat.zero_le _, Ext.fresh hD, so.hides hD, upd_same, .nil⟩, fun i n H2 hw => ?_⟩
  obtain ⟨rfl, hi, acc, accV, m2, iv, hal, go2, so2, hd2, da2⟩ := hw
  obtain ⟨hgo, hstop, hy⟩ := it (D :: Z) hz i m2 H2 go2 so2
  by_cases hlt : i < ds.length
  · refine .inr ⟨hgo hlt, fun H3 => ∃ acc accV m2, Iv ds (i + 1) acc m2 ∧ acc.length ≤ i + 1 ∧ Go m1 H1 m2 H3 ∧ So X.K (D :: Z) m2 H3 ∧ H3 D = some (.lst accV) ∧ DaL X.K ((D :: Z) ++ dom m2) H3 acc accV,
      fun H3 hn => ⟨ds.length - (i + 1), by omega, rfl, hlt, hn⟩, fun v H3 yv => ?_⟩
    obtain ⟨gy, sy, dy⟩ := hy v H3 ds[i] (List.getElem?_eq_getElem hlt) yv
    have go3 : Go m1 H1 m2 H3 := go2.trans gy
    have nD : D ∉ dom m2 := so2.dj D List.mem_cons_self
    have hd3 : H3 D = some (.lst accV) := gy.keep D _ nD hd2
    have da3 : DaL X.K ((D :: Z) ++ dom m2) H3 acc accV := da2.move (Go.full (D :: Z) gy)
    have e1 : wipe g [i0] = g.set i0 none := rfl
    refine ⟨by show (((g.set i0 none).set i0 (some v)).set i0 none) = g.set i0 none; rw [set_set, set_set], fun s H' C cl fp => ?_⟩
    have rp3 : Rep X.K (D :: Z) m2 H3 ((g.set i0 none).set i0 (some v)) (f ds[i]) := by
      rw [set_set, hr]
      have b : Rep X.K (D :: Z) m2 H3 g r := ⟨sy, rp1.len, fun i d e => by
        obtain ⟨v, h1, h2⟩ := rp1.at' i d e
        exact ⟨v, h1, h2.move (Go.hide go3 hz)⟩⟩
      exact b.set i0 dy
    refine (qs i ds[i] acc m2 (List.getElem?_eq_getElem hlt) hal iv s H' C cl fp).run (D :: Z) _ H3 _ (fun _ _ _ _ => False) rp3 takes0 (fun b H4 m4 q4 go4 so4 => ?_) (fun _ _ _ _ _ _ _ _ q => q.elim)
    have nD4 : D ∉ dom m4 := so4.dj D List.mem_cons_self
    have hd4 : H4 D = some (.lst accV) := go4.keep D _ nD hd3
    have da4 : DaL X.K ((D :: Z) ++ dom m4) H4 acc accV := da3.move (Go.full (D :: Z) go4)
    cases b with
    | false => exact ⟨acc, accV, m4, q4, by omega, go3.trans go4, so4, hd4, da4⟩
    | true =>
      have q5 : ∀ s H C cl fp, LE (bk X scope s H C cl fp) elt (f ds[i]) m4 (fun y m4 => Iv ds (i + 1) (acc ++ [y]) m4) X0 := q4
      intro s H' C cl fp
      refine (q5 s H' C cl fp).run (D :: Z) _ H4 _ (fun _ _ _ _ => False) (rp3.go go4 so4) takes0 (fun v5 H5 d5 m5 q6 go5 so5 da5 => ?_) (fun _ _ _ _ _ _ _ _ q => q.elim)
      have hd5 : H5 D = some (.lst accV) := go5.keep D _ nD4 hd4
      have dl5 : DaL X.K ((D :: Z) ++ dom m5) H5 acc accV := da4.move (Go.full (D :: Z) go5)
      obtain ⟨s6, x6⟩ := so5.hid (o := .lst (accV ++ [v5]))
      have g6 : Go m1 H1 m5 H5 := (go3.trans go4).trans go5
      refine ⟨accV, hd5, by rw [← dl5.length]; omega, acc ++ [d5], accV ++ [v5], m5, q6, by rw [List.length_append, List.length_singleton]; omega, ⟨fun a o n e => ?_, g6.new⟩, s6, upd_same, (dl5.append (.cons da5 .nil)).move x6⟩
      rw [upd_ne (ne_of_none e hD)]
      exact g6.keep a o n e
  · have e : i = ds.length := by omega
    subst e
    have nD : D ∉ dom m2 := so2.dj D List.mem_cons_self
    refine .inl ⟨hstop (Nat.le_refl _), nk _ H2 _ m2 (qd acc m2 hal iv) (go.trans go2) so2.drop (.lst ⟨fun z => ?_, hd2⟩ (da2.move ⟨fun _ _ _ e => e, fun a ha => .inl ?_⟩))⟩
    · rcases List.mem_append.mp z with z | z
      · exact (so.zs D z).1 hD
      · exact nD z
    · rcases List.mem_append.mp ha with z | z
      · exact List.mem_append_left _ (List.mem_cons_of_mem _ z)
      · exact List.mem_append_right _ z
theorem le_lc {scope : Scope} {elt iter : Expr} {ifs : List Expr} {p2 : Pos} {f : Dt → En} (gd : Gd k N X) (hp : Put N r x f) (Iv : List Dt → Nat → List Dt → Mu → Prop) (h : LI X (.Name x p2) iter r m (LcOk X scope elt ifs f Iv F) E)
    (hb : ∀ i, N[i]? = some x → BlkOk X.N X.env.scope scope [(x, i)]) (hx : ∀ s H C cl fp, Loc (bk X scope s H C cl fp).env.scope x := by intro _ _ _ _ _; first | exact Or.inl rfl | exact Or.inr rfl)
    (hf : ∀ s H C cl fp, (bk X scope s H C cl fp).fn x = true ∨ (bk X scope s H C cl fp).env.scope.names.lookup x = some .local := by intro _ _ _ _ _; first | exact .inr rfl | exact .inl rfl)
    (hs : ∀ x, foldedSetIterable iter X.env x = pure x := by intro _; rfl) : LE X (.ListComp elt [⟨.Name x p2, iter, ifs, 0⟩] scope pos) r m F E := by
  obtain ⟨i, hi, hr⟩ := hp.ix
  refine ⟨fun Z g H Q Wx rp tk nk nx => (pe_lc (own := [(x, i)]) (g := gName i) (tt := bT X scope ifs) (te := bE X scope elt) gd.calm gd.nd' pi_w (hb i hi) (fun s H C cl fp => ?_) (fun s H C cl fp => ⟨fun pins s g H Q I h => pts_w.run pins s g H Q I (h _ _ _ _ _)⟩) (fun s H C cl fp => ⟨fun pins s g H Q I h => h _ _ _ _ _ pins s I⟩) hs).w (lc_read hr Iv h rp tk nk nx)⟩
  exact pg_name (i := i) gd.nd' (by show X.N[i]? = _; rw [gd.hN]; exact hi) (hx s H C cl fp) (hf s H C cl fp)
theorem ls_setlc {scope : Scope} {elt iter : Expr} {ifs : List Expr} {p2 py spos : Pos} {f h2 : Dt → En} {y : Str} {P : Pc} (gd : Gd k N X) (hp : Put N r x f) (hq : Put N r y h2) (Iv : List Dt → Nat → List Dt → Mu → Prop) (h : LI X (.Name x p2) iter r m (LcOk X scope elt ifs f Iv (fun d m1 => P.nx (h2 d) m1)) P.ex)
    (hyl : X.env.scope.names.lookup y = some .local) (hsw : swapsWith (.ListComp elt [⟨.Name x p2, iter, ifs, 0⟩] scope pos) (some (.Name y py)) spos.line X.env = pure true)
    (hb : ∀ i, N[i]? = some x → BlkOk X.N X.env.scope scope [(x, i)]) (hx : ∀ s H C cl fp, Loc (bk X scope s H C cl fp).env.scope x := by intro _ _ _ _ _; first | exact Or.inl rfl | exact Or.inr rfl)
    (hf : ∀ s H C cl fp, (bk X scope s H C cl fp).fn x = true ∨ (bk X scope s H C cl fp).env.scope.names.lookup x = some .local := by intro _ _ _ _ _; first | exact .inr rfl | exact .inl rfl)
    (hs : ∀ x, foldedSetIterable iter X.env x = pure x := by intro _; rfl) : LS X (.Assign [.Name y py] (.ListComp elt [⟨.Name x p2, iter, ifs, 0⟩] scope pos) spos) r m P := by
  obtain ⟨i, hi, hr⟩ := hp.ix
  obtain ⟨j, hj, hr2⟩ := hq.ix
  refine ⟨fun Z g H D Wx rp tk np => (ps_setLc (i := j) (own := [(x, i)]) (g := gName i) (tt := bT X scope ifs) (te := bE X scope elt) gd.calm gd.nd' (by rw [gd.hN]; exact hj) hyl hsw pi_w (hb i hi) (fun s H C cl fp => ?_) (fun s H C cl fp => ⟨fun pins s g H Q I h => pts_w.run pins s g H Q I (h _ _ _ _ _)⟩) (fun s H C cl fp => ⟨fun pins s g H Q I h => h _ _ _ _ _ pins s I⟩) hs).w
    (lc_read hr Iv h rp tk (fun v H1 d m1 q go so da => ?_) np.ex)⟩
  · exact pg_name (i := i) gd.nd' (by show X.N[i]? = _; rw [gd.hN]; exact hi) (hx s H C cl fp) (hf s H C cl fp)
  · have q' : P.nx (h2 d) m1 := q
    rw [hr2 d] at q'
    exact np.nx _ H1 _ m1 q' go ((rp.go go so).set j da)
end
end Dw
namespace Dw
open PySem PySem.Spec PyProof.Rows L2
section
variable {X : Cx} {m : Mu} {G : Dt → Prop} {F : Pd}
/-! ### whole numbers -/
theorem o_int {f : Value → Value → Sem Value} {g : Int → Int → V} {d : Dt} {i j : Int} (h : OpR X f (rI0 g)) (hd : ∀ D H, Da X.K D H d (g i j)) (q : G d) : O2 X f (.int i) (.int j) m G :=
  o2_of h fun Z H vx vy Q so dx dy nk => by
    cases dx
    cases dy
    exact ⟨i, j, rfl, rfl, nk _ H _ m ⟨rfl, q⟩ Ext.rfl' so (hd _ _)⟩
theorem o_intC {f : Value → Value → Sem Value} {C : Int → Int → Prop} {g : Int → Int → V} {d : Dt} {i j : Int} (h : OpR X f (rI C g)) (hc : C i j) (hd : ∀ D H, Da X.K D H d (g i j)) (q : G d) : O2 X f (.int i) (.int j) m G :=
  o2_of h fun Z H vx vy Q so dx dy nk => by
    cases dx
    cases dy
    exact ⟨i, j, rfl, rfl, hc, nk _ H _ m ⟨rfl, q⟩ Ext.rfl' so (hd _ _)⟩
theorem o_add {i j : Int} (q : G (.int (i + j))) : O2 X (binaryOp .Add) (.int i) (.int j) m G := o_int op_add (fun _ _ => .int _) q
theorem o_sub {i j : Int} (q : G (.int (i - j))) : O2 X (binaryOp .Sub) (.int i) (.int j) m G := o_int op_sub (fun _ _ => .int _) q
theorem o_mul {i j : Int} (h : CMul i j) (q : G (.int (i * j))) : O2 X (binaryOp .Mult) (.int i) (.int j) m G := o_intC op_mul h (fun _ _ => .int _) q
theorem o_mulW {i j : Int} (h : CMulW i j) (q : G (.int (i * j))) : O2 X (binaryOp .Mult) (.int i) (.int j) m G := o_intC op_mulW h (fun _ _ => .int _) q
theorem o_fdiv {i j : Int} (h : CDiv i j) (q : G (.int (i / j))) : O2 X (binaryOp .FloorDiv) (.int i) (.int j) m G := o_intC op_fdiv h (fun _ _ => .int _) q
theorem o_fdivW {i j : Int} (h : CDivW i j) (q : G (.int (i / j))) : O2 X (binaryOp .FloorDiv) (.int i) (.int j) m G := o_intC op_fdivW h (fun _ _ => .int _) q
theorem o_mod {i j : Int} (h : 0 < j) (q : G (.int (i % j))) : O2 X (binaryOp .Mod) (.int i) (.int j) m G := o_intC op_mod h (fun _ _ => .int _) q
theorem o_pow {i j : Int} (h : CPow i j) (q : G (.int (i ^ j.toNat))) : O2 X (binaryOp .Pow) (.int i) (.int j) m G := o_intC op_pow h (fun _ _ => .int _) q
theorem o_lt {i j : Int} (q : G (.bl (decide (i < j)))) : O2 X (compareOp .Lt) (.int i) (.int j) m G := o_int op_lt (fun _ _ => .bl _) q
theorem o_le {i j : Int} (q : G (.bl (decide (i ≤ j)))) : O2 X (compareOp .LtE) (.int i) (.int j) m G := o_int op_le (fun _ _ => .bl _) q
theorem o_gt {i j : Int} (q : G (.bl (decide (j < i)))) : O2 X (compareOp .Gt) (.int i) (.int j) m G := o_int op_gt (fun _ _ => .bl _) q
theorem o_ge {i j : Int} (q : G (.bl (decide (j ≤ i)))) : O2 X (compareOp .GtE) (.int i) (.int j) m G := o_int op_ge (fun _ _ => .bl _) q
theorem o_neg {i : Int} (q : G (.int (-i))) : O1 X (unaryOp .USub) (.int i) m G :=
  o1_of un_neg fun Z H vx Q so dx nk => by
    cases dx
    exact ⟨i, rfl, nk _ H _ m ⟨rfl, q⟩ Ext.rfl' so (.int _)⟩
/-! ### == and != of flat things -/
def flat : Dt → Option V
  | .non => some .non
  | .bl b => some (.bl b)
  | .int i => some (.int i)
  | .str x => some (.str x)
  | _ => none
theorem flat_da {K : PySem.W.Frag} {D : List Addr} {H : Hp} {d : Dt} {v u : V} (h : Da K D H d v) (e : flat d = some u) : v = u := by
  cases h <;> first | (cases e; rfl) | cases e
theorem o_eq {x y : Dt} {a b : V} (hx : flat x = some a) (hy : flat y = some b) (hs : scal a b = true) (q : G (.bl (decide (a = b)))) : O2 X (compareOp .Eq) x y m G :=
  o2_of op_eq fun Z H vx vy Q so dx dy nk => by
    rw [flat_da dx hx, flat_da dy hy]
    exact ⟨hs, nk _ H _ m ⟨rfl, q⟩ Ext.rfl' so (.bl _)⟩
theorem o_ne {x y : Dt} {a b : V} (hx : flat x = some a) (hy : flat y = some b) (hs : scal a b = true) (q : G (.bl (!decide (a = b)))) : O2 X (compareOp .NotEq) x y m G :=
  o2_of op_ne fun Z H vx vy Q so dx dy nk => by
    rw [flat_da dx hx, flat_da dy hy]
    exact ⟨hs, nk _ H _ m ⟨rfl, q⟩ Ext.rfl' so (.bl _)⟩
theorem o_eq_int {i j : Int} (q : G (.bl (decide (i = j)))) : O2 X (compareOp .Eq) (.int i) (.int j) m G := o_eq rfl rfl rfl (by rw [show decide (V.int i = V.int j) = decide (i = j) by simp]; exact q)
theorem o_ne_int {i j : Int} (q : G (.bl (!decide (i = j)))) : O2 X (compareOp .NotEq) (.int i) (.int j) m G := o_ne rfl rfl rfl (by rw [show decide (V.int i = V.int j) = decide (i = j) by simp]; exact q)
theorem o_eq_str {i j : Str} (q : G (.bl (decide (i = j)))) : O2 X (compareOp .Eq) (.str i) (.str j) m G := o_eq rfl rfl rfl (by rw [show decide (V.str i = V.str j) = decide (i = j) by simp]; exact q)
theorem o_ne_str {i j : Str} (q : G (.bl (!decide (i = j)))) : O2 X (compareOp .NotEq) (.str i) (.str j) m G := o_ne rfl rfl rfl (by rw [show decide (V.str i = V.str j) = decide (i = j) by simp]; exact q)
theorem isnon_da {K : PySem.W.Frag} {D : List Addr} {H : Hp} {d : Dt} {v : V} (h : Da K D H d v) (hr : ∀ u, d ≠ .raw u) : decide (v = .non) = (match d with | .non => true | _ => false) := by
  cases h <;> first | rfl | exact absurd rfl (hr _)
def isNon : Dt → Bool | .non => true | .raw .non => true | _ => false
theorem isNon_da {K : PySem.W.Frag} {D : List Addr} {H : Hp} {d : Dt} {v : V} (h : Da K D H d v) : decide (v = .non) = isNon d := by
  cases h with
  | raw => cases v <;> rfl
  | _ => rfl
theorem o_isN {x : Dt} (q : G (.bl (isNon x))) : O2 X (compareOp .Is) x .non m G :=
  o2_of op_isN fun Z H vx vy Q so dx dy nk => by
    cases dy
    exact ⟨rfl, nk _ H _ m ⟨rfl, by rw [isNon_da dx] ; exact q⟩ Ext.rfl' so (.bl _)⟩
theorem o_notN {x : Dt} (q : G (.bl (!isNon x))) : O2 X (compareOp .IsNot) x .non m G :=
  o2_of op_notN fun Z H vx vy Q so dx dy nk => by
    cases dy
    exact ⟨rfl, nk _ H _ m ⟨rfl, by rw [isNon_da dx] ; exact q⟩ Ext.rfl' so (.bl _)⟩
/-! ### texts -/
theorem o_adds {x y : Str} (h : x.length + y.length ≤ sizeLine) (q : G (.str (x ++ y))) : O2 X (binaryOp .Add) (.str x) (.str y) m G :=
  o2_of op_add_str fun Z H vx vy Q so dx dy nk => by
    cases dx
    cases dy
    exact ⟨x, y, rfl, rfl, h, nk _ H _ m ⟨rfl, q⟩ Ext.rfl' so (.str _)⟩
theorem op_muls : OpR X (binaryOp .Mult) (fun x y H Q => ∃ z i, x = .str z ∧ y = .int i ∧ MulOk z i ∧ Q (.str (Txt.mul z i)) H) := by
  intro pins s g H x y v u Q I rx ry h
  obtain ⟨z, i, rfl, rfl, hok, q⟩ := h
  obtain ⟨t, rfl⟩ := rx
  obtain ⟨t', rfl⟩ := ry
  exact SB.mul hok fun t2 k => ⟨.str _, H, I.tok k, ⟨_, rfl⟩, q⟩
theorem o_muls {x : Str} {i : Int} (h : MulOk x i) (q : G (.str (Txt.mul x i))) : O2 X (binaryOp .Mult) (.str x) (.int i) m G :=
  o2_of op_muls fun Z H vx vy Q so dx dy nk => by
    cases dx
    cases dy
    exact ⟨x, i, rfl, rfl, h, nk _ H _ m ⟨rfl, q⟩ Ext.rfl' so (.str _)⟩
theorem o_ltS {x y : Str} (q : G (.bl (decide (x.cps.toList < y.cps.toList)))) : O2 X (compareOp .Lt) (.str x) (.str y) m G :=
  o2_of op_lt_str fun Z H vx vy Q so dx dy nk => by
    cases dx
    cases dy
    exact ⟨x, y, rfl, rfl, nk _ H _ m ⟨rfl, q⟩ Ext.rfl' so (.bl _)⟩
theorem o_leS {x y : Str} (q : G (.bl (!decide (y.cps.toList < x.cps.toList)))) : O2 X (compareOp .LtE) (.str x) (.str y) m G :=
  o2_of op_le_str fun Z H vx vy Q so dx dy nk => by
    cases dx
    cases dy
    exact ⟨x, y, rfl, rfl, nk _ H _ m ⟨rfl, q⟩ Ext.rfl' so (.bl _)⟩
theorem o_inS {c : Nat} {y : Str} (q : G (.bl (decide (c ∈ y.cps.toList)))) : O2 X (compareOp .In) (.str ⟨#[c]⟩) (.str y) m G :=
  o2_of op_in_sign fun Z H vx vy Q so dx dy nk => by
    cases dx
    cases dy
    exact ⟨c, y, rfl, rfl, nk _ H _ m ⟨rfl, q⟩ Ext.rfl' so (.bl _)⟩
theorem o_notInS {c : Nat} {y : Str} (q : G (.bl (!decide (c ∈ y.cps.toList)))) : O2 X (compareOp .NotIn) (.str ⟨#[c]⟩) (.str y) m G :=
  o2_of op_notIn_sign fun Z H vx vy Q so dx dy nk => by
    cases dx
    cases dy
    exact ⟨c, y, rfl, rfl, nk _ H _ m ⟨rfl, q⟩ Ext.rfl' so (.bl _)⟩
/-! ### lists, tuples -/
theorem o_cat {xs ys : List Dt} (h : xs.length + ys.length ≤ sizeLine) (q : G (.lst (xs ++ ys))) : O2 X (binaryOp .Add) (.lst xs) (.lst ys) m G :=
  o2_of op_cat fun Z H vx vy Q so dx dy nk => by
    cases dx with
    | lst h1 h2 =>
      cases dy with
      | lst h3 h4 => exact ⟨_, _, _, _, rfl, rfl, h1.2, h3.2, by rw [← h2.length, ← h4.length]; exact h, fun p hp => nk _ _ _ m ⟨rfl, q⟩ (Ext.fresh hp) (so.laid hp) (da_new_lst so hp (h2.append h4))⟩
theorem o_catT {xs ys : List Dt} (h : xs.length + ys.length ≤ sizeLine) (q : G (.tup (xs ++ ys))) : O2 X (binaryOp .Add) (.tup xs) (.tup ys) m G :=
  o2_of op_catA fun Z H vx vy Q so dx dy nk => by
    have dx0 := dx
    have dy0 := dy
    cases dx with
    | tup h1 h2 =>
      cases dy with
      | tup h3 h4 =>
        refine ⟨_, _, _, _, rfl, rfl, h1.sq, h3.sq, by rw [← h2.length, ← h4.length]; exact h, fun e => ?_, fun _ e => ?_, fun _ _ p hp => nk _ _ _ m ⟨rfl, q⟩ (Ext.fresh hp) (so.laid hp) (da_new_tup so hp (h2.append h4))⟩
        · have ex : xs = [] := by
            have := h2.length
            rw [e] at this
            exact List.length_eq_zero_iff.mp this
          subst ex
          exact nk _ H _ m ⟨rfl, q⟩ Ext.rfl' so dy0
        · have ey : ys = [] := by
            have := h4.length
            rw [e] at this
            exact List.length_eq_zero_iff.mp this
          subst ey
          rw [List.append_nil] at q
          exact nk _ H _ m ⟨rfl, q⟩ Ext.rfl' so dx0
/-! ### built-ins -/
theorem c_len_lst {ds : List Dt} (q : F (.int ds.length) m) : OC X (.builtin "len") [.lst ds] m F :=
  oc_of call_len_seq fun Z H vs Q so da nk => by
    cases da with
    | cons d1 d2 =>
      cases d2
      cases d1 with
      | lst h1 h2 => exact ⟨_, _, rfl, .inl h1.sq, by rw [← h2.length]; exact nk _ H _ m q Ext.rfl' so (.int _)⟩
theorem c_len_frz {ds : List Dt} (q : F (.int ds.length) m) : OC X (.builtin "len") [.frz ds] m F :=
  oc_of call_len_seq fun Z H vs Q so da nk => by
    cases da with
    | cons d1 d2 =>
      cases d2
      cases d1 with
      | frz h1 h2 => exact ⟨_, _, rfl, .inl h1.sq, by rw [← h2.length]; exact nk _ H _ m q Ext.rfl' so (.int _)⟩
theorem c_len_tup {ds : List Dt} (q : F (.int ds.length) m) : OC X (.builtin "len") [.tup ds] m F :=
  oc_of call_len_seq fun Z H vs Q so da nk => by
    cases da with
    | cons d1 d2 =>
      cases d2
      cases d1 with
      | tup h1 h2 => exact ⟨_, _, rfl, .inr h1.sq, by rw [← h2.length]; exact nk _ H _ m q Ext.rfl' so (.int _)⟩
theorem c_len_str {x : Str} (h : x.length ≤ sizeLine) (q : F (.int x.length) m) : OC X (.builtin "len") [.str x] m F :=
  oc_of call_len_str fun Z H vs Q so da nk => by
    cases da with
    | cons d1 d2 =>
      cases d2
      cases d1
      exact ⟨x, rfl, h, nk _ H _ m q Ext.rfl' so (.int _)⟩
theorem c_abs {i : Int} (q : F (.int (if i < 0 then -i else i)) m) : OC X (.builtin "abs") [.int i] m F :=
  oc_of call_abs fun Z H vs Q so da nk => by
    cases da with
    | cons d1 d2 =>
      cases d2
      cases d1
      exact ⟨i, rfl, nk _ H _ m q Ext.rfl' so (.int _)⟩
theorem c_max2 {i j : Int} (hc : X.calm = true) (q : F (.int (if j > i then j else i)) m) : OC X (.builtin "max") [.int i, .int j] m F :=
  oc_of (call_max2 hc) fun Z H vs Q so da nk => by
    cases da with
    | cons d1 d2 =>
      cases d2 with
      | cons d2 d3 =>
        cases d3
        cases d1
        cases d2
        exact ⟨i, j, rfl, nk _ H _ m q Ext.rfl' so (.int _)⟩
theorem c_min2 {i j : Int} (hc : X.calm = true) (q : F (.int (if j < i then j else i)) m) : OC X (.builtin "min") [.int i, .int j] m F :=
  oc_of (call_min2 hc) fun Z H vs Q so da nk => by
    cases da with
    | cons d1 d2 =>
      cases d2 with
      | cons d2 d3 =>
        cases d3
        cases d1
        cases d2
        exact ⟨i, j, rfl, nk _ H _ m q Ext.rfl' so (.int _)⟩
theorem c_int_bl {b : Bool} (q : F (.int (if b then 1 else 0)) m) : OC X (.type "int") [.bl b] m F :=
  oc_of call_int1 fun Z H vs Q so da nk => by
    cases da with
    | cons d1 d2 =>
      cases d2
      cases d1
      exact .inr ⟨b, rfl, nk _ H _ m q Ext.rfl' so (.int _)⟩
theorem c_int_str {x : Str} {n : Int} (h : PySem.intText? x = some n) (hl : x.length ≤ 640) (q : F (.int n) m) : OC X (.type "int") [.str x] m F :=
  oc_of call_int_str fun Z H vs Q so da nk => by
    cases da with
    | cons d1 d2 =>
      cases d2
      cases d1
      exact ⟨x, n, rfl, h, hl, nk _ H _ m q Ext.rfl' so (.int _)⟩
theorem c_str_int {i : Int} (h : i.natAbs.log2 < 1920) (q : F (.str (toString i)) m) : OC X (.type "str") [.int i] m F :=
  oc_of call_str_int fun Z H vs Q so da nk => by
    cases da with
    | cons d1 d2 =>
      cases d2
      cases d1
      exact ⟨i, rfl, h, nk _ H _ m q Ext.rfl' so (.str _)⟩
theorem c_ord {c : Nat} (q : F (.int (c : Nat)) m) : OC X (.builtin "ord") [.str ⟨#[c]⟩] m F :=
  oc_of call_ord fun Z H vs Q so da nk => by
    cases da with
    | cons d1 d2 =>
      cases d2
      cases d1
      exact ⟨⟨#[c]⟩, rfl, rfl, nk _ H _ m q Ext.rfl' so (.int _)⟩
theorem bools_da {K : PySem.W.Frag} {D : List Addr} {H : Hp} : ∀ {bs : List Bool} {vs : List V}, DaL K D H (bs.map Dt.bl) vs → vs = bs.map V.bl
  | [], _, .nil => rfl
  | b :: bs, _, .cons h t => by
    cases h
    rw [bools_da t]
    rfl
theorem c_all {bs : List Bool} (hc : X.calm = true) (q : F (.bl (bs.all id)) m) : OC X (.builtin "all") [.lst (bs.map Dt.bl)] m F :=
  oc_of (cr_all hc) fun Z H vs Q so da nk => by
    cases da with
    | cons d1 d2 =>
      cases d2
      cases d1 with
      | lst h1 h2 =>
        have e := bools_da h2
        subst e
        exact ⟨_, bs, rfl, h1.sq, nk _ H _ m q Ext.rfl' so (.bl _)⟩
theorem c_any {bs : List Bool} (hc : X.calm = true) (q : F (.bl (bs.any id)) m) : OC X (.builtin "any") [.lst (bs.map Dt.bl)] m F :=
  oc_of (cr_any hc) fun Z H vs Q so da nk => by
    cases da with
    | cons d1 d2 =>
      cases d2
      cases d1 with
      | lst h1 h2 =>
        have e := bools_da h2
        subst e
        exact ⟨_, bs, rfl, h1.sq, nk _ H _ m q Ext.rfl' so (.bl _)⟩
/-! ### data and the library's data: repr, deep == -/
mutual
def py : Dt → PyData
  | .non => .none
  | .bl b => .bool b
  | .int i => .int i
  | .str x => .str x
  | .lst ds => .list (pys ds)
  | .tup ds => .tuple (pys ds)
  | .frz ds => .list (pys ds)
  | .dct ks => .dict (pyk ks)
  | .exc _ _ _ => .none
  | .cau _ _ _ => .none
  | .obj _ _ => .none
  | .raw _ => .none
def pys : List Dt → List PyData
  | [] => []
  | d :: ds => py d :: pys ds
def pyk : List (Key × Dt) → List (PyData × PyData)
  | [] => []
  | (k, d) :: ks => ((match k with | .inl i => .int i | .inr x => .str x), py d) :: pyk ks
end
mutual
def plain : Dt → Bool
  | .raw _ => false
  | .exc _ _ _ => false
  | .cau _ _ _ => false
  | .obj _ _ => false
  | .dct _ => false
  | .lst ds => plains ds
  | .tup ds => plains ds
  | .frz ds => plains ds
  | _ => true
def plains : List Dt → Bool
  | [] => true
  | d :: ds => plain d && plains ds
end
mutual
theorem Da.dp {K : PySem.W.Frag} {D : List Addr} {H : Hp} : ∀ {d : Dt} {v : V}, Da K D H d v → plain d = true → Dp K H v (py d)
  | _, _, .non, _ => .non
  | _, _, .bl b, _ => .bl b
  | _, _, .int i, _ => .int i
  | _, _, .str x, _ => .str x
  | _, _, .lst h1 h2, p => .lst h1.sq (DaL.dp h2 (by simpa [plain] using p))
  | _, _, .tup h1 h2, p => .tup h1.sq (DaL.dp h2 (by simpa [plain] using p))
  | _, _, .frz h1 h2, p => .lst h1.sq (DaL.dp h2 (by simpa [plain] using p))
  | _, _, .raw _, p => by simp [plain] at p
  | _, _, .cau _ _ _, p => by simp [plain] at p
  | _, _, .obj _ _ _, p => by simp [plain] at p
  | _, _, .dct _ _ _, p => by simp [plain] at p
  | _, _, .exc _ _ _ _ _ _ _, p => by simp [plain] at p
theorem DaL.dp {K : PySem.W.Frag} {D : List Addr} {H : Hp} : ∀ {ds : List Dt} {vs : List V}, DaL K D H ds vs → plains ds = true → DpAll K H vs (pys ds)
  | _, _, .nil, _ => .nil
  | d :: ds, _, .cons h t, p => by
    have p2 : plain d = true ∧ plains ds = true := by simpa [plains] using p
    exact .cons (Da.dp h p2.1) (DaL.dp t p2.2)
end
/-- what repr tells -/
def shows (d : Dt) : Str := (py d).shown
structure Shw (d : Dt) : Prop where
  pl : plain d = true
  sh : (py d).showable = true
  nd : (py d).hasDict = false
  dp : (py d).depth ≤ 60
  sz : (shows d).length ≤ sizeLine
theorem c_repr {k : Nat} {N : List Str} {d : Dt} (hg : X.A.guards = some []) (hu : X.A.units + 64 < cLine) (h : Shw d) (q : F (.str (shows d)) m) : OC X (.builtin "repr") [d] m F := by
  refine ⟨fun Z H vs Q so da nk pins s g I us rv => ?_⟩
  cases da with
  | cons d1 d2 =>
    cases d2
    cases rv with
    | cons r1 r2 =>
      cases r2
      have fin : ∀ (h' : Heap) (u : Tok) (tk : Nat), (∀ b o, s.heap.get? b = some o → h'.get? b = some o) → EP X pins g Q (.str (shows d) u) { s with heap := h', toks := tk } := fun h' u tk hk =>
        ⟨.str _, H, I.kept hk, ⟨_, rfl⟩, nk _ H _ m q Ext.rfl' so (.str _)⟩
      obtain ⟨as, rd⟩ := Dp.reads I (py d) _ _ (d1.dp h.pl) r1
      have sz := h.sz
      cases d1 with
      | non => cases r1; exact PySem.P.repr_of_none (fin _ _ _ fun _ _ e => e)
      | bl b => cases r1; exact PySem.P.repr_of_bool (fin _ _ _ fun _ _ e => e)
      | int i => obtain ⟨t, rfl⟩ := r1; exact PySem.P.repr_of_int (by have := h.sh; simpa [py, PyData.showable] using this) (fin _ _ _ fun _ _ e => e)
      | str x => obtain ⟨t, rfl⟩ := r1; exact PySem.P.repr_of_str (fin _ _ _ fun _ _ e => e) sz
      | lst h1 h2 => cases r1; exact repr_of_reads' rd h.sh (PyData.noDict_hsm h.nd) hg (by have := h.dp; omega) (fun _ _ e => e) (fun h' u tk hk => fin h' u tk hk) sz
      | tup h1 h2 => cases r1; exact repr_of_reads' rd h.sh (PyData.noDict_hsm h.nd) hg (by have := h.dp; omega) (fun _ _ e => e) (fun h' u tk hk => fin h' u tk hk) sz
      | frz h1 h2 => cases r1; exact repr_of_reads' rd h.sh (PyData.noDict_hsm h.nd) hg (by have := h.dp; omega) (fun _ _ e => e) (fun h' u tk hk => fin h' u tk hk) sz
      | dct n h1 h2 => have := h.pl; simp [plain] at this
      | exc n h1 n2 h2 n4 h4 h3 => have := h.pl; simp [plain] at this
      | cau n h1 h2 => have := h.pl; simp [plain] at this
      | obj n h1 h2 => have := h.pl; simp [plain] at this
      | raw v => have := h.pl; simp [plain] at this
theorem o_eqD {x y : Dt} (hu : X.A.units + 64 < cLine) (px : plain x = true) (py' : plain y = true) (sx : SeqAt.shaped (py x) = true) (sy : SeqAt.shaped (py y) = true) (q : G (.bl (PyData.eqv (py x) (py y)))) : O2 X (compareOp .Eq) x y m G :=
  o2_of (op_eqD hu) fun Z H vx vy Q so dx dy nk => ⟨_, _, dx.dp px, dy.dp py', sx, sy, nk _ H _ m ⟨rfl, q⟩ Ext.rfl' so (.bl _)⟩
theorem o_neD {x y : Dt} (hu : X.A.units + 64 < cLine) (px : plain x = true) (py' : plain y = true) (sx : SeqAt.shaped (py x) = true) (sy : SeqAt.shaped (py y) = true) (q : G (.bl (!PyData.eqv (py x) (py y)))) : O2 X (compareOp .NotEq) x y m G :=
  o2_of (op_neD hu) fun Z H vx vy Q so dx dy nk => ⟨_, _, dx.dp px, dy.dp py', sx, sy, nk _ H _ m ⟨rfl, q⟩ Ext.rfl' so (.bl _)⟩
end
end Dw
namespace Dw
open PySem PySem.Spec PyProof.Rows L2
/-! ### isinstance -/
def tyD : Dt → Option String
  | .non => some "NoneType"
  | .bl _ => some "bool"
  | .int _ => some "int"
  | .str _ => some "str"
  | .lst _ => some "list"
  | .frz _ => some "list"
  | .tup _ => some "tuple"
  | .dct _ => some "dict"
  | .exc _ _ _ => none
  | .cau _ _ _ => none
  | .obj _ _ => none
  | .raw _ => none
theorem sqL_K {K : PySem.W.Frag} {a : Addr} {xs : List V} (h : SqL K H0 a xs) : ∃ o, K.lookup a = some o ∧ o.cls = .type "list" := by
  rcases h with h | ⟨o, its, n, h1, h2, _⟩
  · exact (rd_none h).elim
  · exact ⟨o, h1, h2⟩
theorem sqT_K {K : PySem.W.Frag} {a : Addr} {xs : List V} (h : SqT K H0 a xs) : ∃ (o : Obj) (its : Array Value) (n : Nat), K.lookup a = some o ∧ o.cls = .type "tuple" ∧ o.data = .seq its n ∧ Vals xs its.toList := by
  rcases h with h | ⟨o, its, n, h1, h2, h3, _, h4⟩
  · exact (rd_none h).elim
  · exact ⟨o, its, n, h1, h2, h3, h4⟩
theorem tyx_da {K : PySem.W.Frag} {D : List Addr} {H : Hp} {d : Dt} {v : V} {T : String} (h : Da K D H d v) (e : tyD d = some T) : TyX K H v (.type T) := by
  cases h with
  | non => cases e; exact .base .non
  | bl b => cases e; exact .base (.bl b)
  | int i => cases e; exact .base (.int i)
  | str x => cases e; exact .base (.str x)
  | lst h1 h2 => cases e; exact .base (.lst h1.2)
  | frz h1 h2 =>
    cases e
    rcases h1 with ⟨_, h1 | ⟨o, h1⟩⟩ | h1
    · exact .base (.lst h1)
    · exact .base (.frz h1)
    · obtain ⟨o, e1, e2⟩ := sqL_K h1
      exact .kList e1 e2
  | tup h1 h2 =>
    cases e
    rcases h1 with ⟨_, h1⟩ | h1
    · exact .base (.tup h1)
    · obtain ⟨o, _, _, e1, e2, _⟩ := sqT_K h1
      exact .kTuple e1 e2
  | dct n h1 h2 => cases e; exact .fDict h1
  | exc n h1 n2 h2 n4 h4 h3 => cases e
  | cau n h1 h2 => cases e
  | obj n h1 h2 => cases e
  | raw v => cases e
section
variable {X : Cx} {m : Mu} {G : Dt → Prop} {F : Pd} {e o : Expr} {es : List Expr} {r : En} {E : Xd} {pos apos : Pos} {k : Nat} {N : List Str}
theorem c_isi {x : Dt} {T T' : String} {b : Bool} (h : tyD x = some T') (hb : kitB T' T = some b) (q : F (.bl b) m) : OC X (.builtin "isinstance") [x, .raw (.ty T)] m F :=
  oc_of call_isi fun Z H vs Q so da nk => by
    cases da with
    | cons d1 d2 =>
      cases d2 with
      | cons d2 d3 =>
        cases d3
        cases d2
        exact ⟨_, _, _, _, b, rfl, .ty T, tyx_da d1 h, kit_ty hb, nk _ H _ m q Ext.rfl' so (.bl _)⟩
theorem raws_da {K : PySem.W.Frag} {D : List Addr} {H : Hp} : ∀ {Ts : List String} {vs : List V}, DaL K D H (Ts.map fun T => Dt.raw (.ty T)) vs → vs = Ts.map V.ty
  | [], _, .nil => rfl
  | T :: Ts, _, .cons h t => by
    cases h
    rw [raws_da t]
    rfl
theorem cls_all : ∀ Ts : List String, Paired ClsV (Ts.map V.ty) (Ts.map Value.type)
  | [] => .nil
  | T :: Ts => .cons (.ty T) (cls_all Ts)
theorem vals_ty : ∀ {Ts : List String} {us : List Value}, Vals (Ts.map V.ty) us → us = Ts.map Value.type
  | [], _, .nil => rfl
  | T :: Ts, _, .cons h t => by
    rw [vals_ty t]
    cases h
    rfl
def kitAnyB (T : String) : List String → Option Bool
  | [] => some false
  | U :: Us => match kitB T U with
    | some true => some true
    | some false => kitAnyB T Us
    | none => none
theorem kitAny_ty {K : PySem.W.Frag} {T : String} : ∀ {Us : List String} {b : Bool}, kitAnyB T Us = some b → PySem.W.kitAny K (.type T) (Us.map Value.type) = some b
  | [], b, h => by cases h; rfl
  | U :: Us, b, h => by
    unfold kitAnyB at h
    cases e : kitB T U with
    | none => rw [e] at h; cases h
    | some c =>
      rw [e] at h
      cases c with
      | true => cases h; exact kitAny_cons (kit_ty e) (fun z => nomatch z) (fun _ => rfl)
      | false => exact kitAny_cons (kit_ty e) (fun _ => kitAny_ty h) (fun z => nomatch z)
theorem c_isiT {x : Dt} {T' : String} {Ts : List String} {b : Bool} (h : tyD x = some T') (hb : kitAnyB T' Ts = some b) (q : F (.bl b) m) : OC X (.builtin "isinstance") [x, .tup (Ts.map fun T => .raw (.ty T))] m F := by
  refine ⟨fun Z H vs Q so da nk pins s g I us rv => ?_⟩
  cases da with
  | cons d1 d2 =>
    cases d2 with
    | cons d2 d3 =>
      cases d3
      have q' := nk _ H _ m q Ext.rfl' so (.bl b)
      cases d2 with
      | tup h1 h2 =>
        have e := raws_da h2
        subst e
        rcases h1 with ⟨_, h1⟩ | h1
        · exact call_isiT pins s g H _ us Q I rv ⟨_, _, _, _, _, b, rfl, h1, cls_all Ts, tyx_da d1 h, kitAny_ty hb, q'⟩
        · obtain ⟨⟨oc, od, dt, sl⟩, its, n, e1, e2, e3, e4⟩ := sqT_K h1
          have e5 := vals_ty e4
          simp only at e2 e3
          subst e2 e3
          have e6 : its = (Ts.map Value.type).toArray := by rw [← e5]
          subst e6
          exact call_isiK pins s g H _ us Q I rv ⟨_, _, od, _, n, sl, _, b, rfl, e1, tyx_da d1 h, kitAny_ty hb, q'⟩
/-! ### methods of texts -/
structure OM (X : Cx) (R : V → List V → Hp → VK → Prop) (x : Dt) (xs : List Dt) (m : Mu) (F : Pd) : Prop where
  run : ∀ (Z : List Addr) (H : Hp) (vx : V) (vs : List V) (Q : VK), So X.K Z m H → Da X.K (Z ++ dom m) H x vx → DaL X.K (Z ++ dom m) H xs vs → NK X.K Z m H F Q → R vx vs H Q
theorem le_ms {name : Str} {id : String} {R : V → List V → Hp → VK → Prop} (slot : Slot "str" name id) (hty : typeOf (.builtin id) = pure (.type "method_descriptor")) (hm : MtR X id R)
    (h : LE X o r m (fun x m1 => (∃ z, x = .str z) ∧ LA X (e :: es) r m1 (fun ds m2 => OM X R x ds m2 F) E) E)
    (hbase : attributeBase o name X.env (eval o X.env) = eval o X.env := by rfl)
    (hfew : ((backTo pos (starEach (e :: es) X.env)).all (fun x => !x.1) && (backToKw pos (keywordEach [] X.env)).all (fun x => x.1.isSome)
      && decide ((e :: es).length + ([] : List Keyword).length + (if ([] : List Keyword).isEmpty then 0 else 1) < 30)) = true := by rfl)
    (hline : (apos.endLine == pos.line) = true := by rfl) (hs : starEach (e :: es) X.env = (false, eval e X.env) :: starEach es X.env := by rfl) (hplain : (backTo pos (starEach es X.env)).any (·.1) = false := by rfl) :
    LE X (.Call (.Attribute o name apos) (e :: es) [] pos) r m F E := by
  refine ⟨fun Z st H Q W rp tk nk nx => (pe_bm PySem.F.plainAttrs_str slot hty hm pe_w pa_w hbase hfew hline hs hplain).w ?_⟩
  refine h.run Z st H _ W rp tk (fun v H1 d m1 q go so da => ?_) nx
  obtain ⟨⟨z, rfl⟩, q⟩ := q
  cases da
  refine ⟨rfl, q.run Z st H1 _ W (rp.go go so) tk (fun vs H2 ds m2 q2 go2 so2 da2 => ?_) (nx.go go)⟩
  exact q2.run Z H2 _ vs Q so2 (.str z) da2 (nk.go (go.trans go2))
theorem strs_da {K : PySem.W.Frag} {D : List Addr} {H : Hp} : ∀ {ys : List Str} {vs : List V}, DaL K D H (ys.map Dt.str) vs → vs = ys.map V.str
  | [], _, .nil => rfl
  | b :: bs, _, .cons h t => by
    cases h
    rw [strs_da t]
    rfl
theorem le_join (h : LE X o r m (fun x m1 => (∃ z, x = .str z) ∧ LA X [e] r m1 (fun ds m2 => ∃ z ys, x = .str z ∧ (ds = [.lst (ys.map Dt.str)] ∨ ds = [.tup (ys.map Dt.str)]) ∧ (ys.map (·.length)).sum + ys.length * z.length ≤ 16777216 ∧ F (.str (Txt.join z ys)) m2) E) E)
    (hbase : attributeBase o "join" X.env (eval o X.env) = eval o X.env := by rfl)
    (hfew : ((backTo pos (starEach [e] X.env)).all (fun x => !x.1) && (backToKw pos (keywordEach [] X.env)).all (fun x => x.1.isSome)
      && decide ([e].length + ([] : List Keyword).length + (if ([] : List Keyword).isEmpty then 0 else 1) < 30)) = true := by rfl)
    (hline : (apos.endLine == pos.line) = true := by rfl) (hs : starEach [e] X.env = (false, eval e X.env) :: starEach [] X.env := by rfl) : LE X (.Call (.Attribute o "join" apos) [e] [] pos) r m F E := by
  refine le_ms PySem.F.slot_str_join PySem.F.type_str_join mt_join (h.imp fun x m1 q => ⟨q.1, ⟨fun Z st H Q W rp tk nk nx => q.2.run Z st H Q W rp tk (fun vs H1 ds m2 q2 => nk vs H1 ds m2 ⟨fun Z9 H9 vx vs9 Q9 so9 da9 dl9 nk9 => ?_⟩) nx⟩⟩) hbase hfew hline hs
  obtain ⟨z, ys, rfl, q2, q3, q4⟩ := q2
  cases da9
  rcases q2 with rfl | rfl
  · cases dl9 with
    | cons d1 d2 =>
      cases d2
      cases d1 with
      | lst h1 h2 =>
        have e := strs_da h2
        subst e
        exact ⟨z, _, ys, rfl, rfl, .inl h1.sq, q3, nk9 _ H9 _ m2 q4 Ext.rfl' so9 (.str _)⟩
  · cases dl9 with
    | cons d1 d2 =>
      cases d2
      cases d1 with
      | tup h1 h2 =>
        have e := strs_da h2
        subst e
        exact ⟨z, _, ys, rfl, rfl, .inr h1.sq, q3, nk9 _ H9 _ m2 q4 Ext.rfl' so9 (.str _)⟩
theorem m_str1 {R : V → List V → Hp → VK → Prop} {x y : Str} {d : Dt} {v : V} (hd : ∀ D H, Da X.K D H d v) (hr : ∀ H Q, Q v H → R (.str x) [.str y] H Q) (q : F d m) : OM X R (.str x) [.str y] m F := by
  refine ⟨fun Z H vx vs Q so da dl nk => ?_⟩
  cases da
  cases dl with
  | cons d1 d2 =>
    cases d2
    cases d1
    exact hr H Q (nk _ H _ m q Ext.rfl' so (hd _ _))
/-- list.append on a list of the store -/
theorem le_append (h : LE X o r m (fun x m1 => (∃ p ds, x = .raw (.ref p) ∧ (p, Mc.lst ds) ∈ m1) ∧ LA X [e] r m1 (fun es m2 => ∃ p ds d, x = .raw (.ref p) ∧ es = [d] ∧ (p, Mc.lst ds) ∈ m2 ∧ ds.length < sizeLine ∧ F .non (put p (.lst (ds ++ [d])) m2)) E) E)
    (hbase : attributeBase o "append" X.env (eval o X.env) = eval o X.env := by rfl)
    (hfew : ((backTo pos (starEach [e] X.env)).all (fun x => !x.1) && (backToKw pos (keywordEach [] X.env)).all (fun x => x.1.isSome)
      && decide ([e].length + ([] : List Keyword).length + (if ([] : List Keyword).isEmpty then 0 else 1) < 30)) = true := by rfl)
    (hline : (apos.endLine == pos.line) = true := by rfl) (hs : starEach [e] X.env = (false, eval e X.env) :: starEach [] X.env := by rfl) : LE X (.Call (.Attribute o "append" apos) [e] [] pos) r m F E := by
  refine ⟨fun Z st H Q W rp tk nk nx => (pe_bm PySem.F.plainAttrs_list PySem.F.slot_list_append PySem.F.type_list_append mt_append pe_w pa_w hbase hfew hline hs rfl).w ?_⟩
  refine h.run Z st H _ W rp tk (fun v H1 d m1 q go so da => ?_) nx
  obtain ⟨⟨p, ds, rfl, hm⟩, q⟩ := q
  cases da
  obtain ⟨xs, e1, e2⟩ := so.lst_of hm
  refine ⟨.inl ⟨rfl, _, SqL.of e1⟩, q.run Z st H1 _ W (rp.go go so) tk (fun vs H2 es m2 q2 go2 so2 da2 => ?_) (nx.go go)⟩
  obtain ⟨p', ds2, d2, e3, rfl, hm2, hz, q3⟩ := q2
  cases e3
  cases da2 with
  | cons d1 d3 =>
    cases d3
    obtain ⟨xs2, e4, e5⟩ := so2.lst_of hm2
    obtain ⟨s4, g4⟩ := so2.put_lst hm2 (e5.append (.cons d1 .nil))
    exact ⟨p, xs2, _, rfl, rfl, e4, by rw [← e5.length]; exact hz, nk _ _ _ _ q3 ((go.trans go2).trans g4) s4 .non⟩
/-- {} -/
theorem le_dct0 (q : F (.dct []) m) : LE X (.Dict [] [] pos) r m F E :=
  ⟨fun Z st H Q W rp tk nk nx => (pe_lk pe_dnewK).w fun p hp => ⟨p, _, rfl, upd_same, trivial, fun od => by
    rw [upd_upd]
    exact nk _ _ _ m q (Ext.fresh hp) (rp.so.laid hp) (.dct (rp.so.fresh hp) upd_same .nil)⟩⟩
/-- list(t), list(xs); tuple(xs), tuple(t) -/
theorem c_list_lst {ds : List Dt} (q : F (.lst ds) m) : OC X (.type "list") [.lst ds] m F :=
  oc_of call_list_of fun Z H vs Q so da nk => by
    cases da with
    | cons d1 d2 =>
      cases d2
      cases d1 with
      | lst h1 h2 => exact ⟨_, _, rfl, .inl h1.sq, fun p hp => nk _ _ _ m q (Ext.fresh hp) (so.laid hp) (da_new_lst so hp h2)⟩
theorem c_list_tup {ds : List Dt} (q : F (.lst ds) m) : OC X (.type "list") [.tup ds] m F :=
  oc_of call_list_of fun Z H vs Q so da nk => by
    cases da with
    | cons d1 d2 =>
      cases d2
      cases d1 with
      | tup h1 h2 => exact ⟨_, _, rfl, .inr h1.sq, fun p hp => nk _ _ _ m q (Ext.fresh hp) (so.laid hp) (da_new_lst so hp h2)⟩
theorem c_tup_lst {ds : List Dt} (q : F (.tup ds) m) : OC X (.type "tuple") [.lst ds] m F :=
  oc_of call_tuple_of fun Z H vs Q so da nk => by
    cases da with
    | cons d1 d2 =>
      cases d2
      cases d1 with
      | lst h1 h2 => exact ⟨_, _, rfl, .inl ⟨h1.sq, fun p hp => nk _ _ _ m q (Ext.fresh hp) (so.laid hp) (da_new_tup so hp h2)⟩⟩
end
end Dw
namespace Dw
open PySem PySem.Spec PyProof.Rows L2
open PySem.W PySem.Calls PySem.HandSPX
section
variable {prog : Program} {w : World} {A : Around} {R : Result → Shared → Prop} {hp : Heap} {g : Array GenState} {d : Drawn} {t : Nat} {os : OsState}
/-- the first field of a fresh exception of one's own class, over any of Python's -/
theorem osa_first {K : Frag} {B : String} {bmB : List Value} {name : Str} {tk : Tok} {v : Value} {x C : Addr} {fv : Array Value} {cd : ClassData} (SF : StoreFacts B bmB "object.__setattr__" "object")
    (X : K.In hp) (hx : hp.get? x = some { cls := .ref C, data := .fields fv }) (hcd : clsIn K C = some cd) (hov : excOver K C bmB = true) (hh : cd.hasDict = true) (ha : findIn K (.ref C) name = some none)
    (hq : ∀ h' tk' dx, (∀ b o, b ≠ x → hp.get? b = some o → h'.get? b = some o) → hp.objs.size ≤ dx → dx ≠ x → h'.get? x = some { cls := .ref C, dict := some dx, data := .fields fv } →
      h'.Ns1 dx (fun y => if y = name then some v else none) → R (.ok (.ret .none)) ⟨h', g, d, tk', os⟩) :
    codeAny (model prog w) A (.call (.builtin "object.__setattr__") ⟨[.ref x, .str name tk, v], []⟩) R ⟨hp, g, d, t, os⟩ := by
  have I : InstAt hp x { cls := .ref C, data := .fields fv } C none := ⟨hx, rfl, rfl, trivial⟩
  have hxs : x ≠ hp.objs.size := Nat.ne_of_lt (Heap.lt_size hx)
  have ht : takerIn K C name = some none := by unfold takerIn; rw [ha]; rfl
  have hcls : Looks (model prog w) hp (classData C) cd := looks_clsIn X hcd
  refine osa_openX SF X I hov ht fun b => ?_
  obtain ⟨nm, bs, mro, ns, qn, hd, sn, sb, ab, col, del⟩ := cd
  dsimp only at hh
  subst hh
  dsimp only
  unfold Builtin.ObjectAttr.storeInOwnDict Builtin.ObjectAttr.ownDictForStores
  repeat (first
    | (with_reducible refine PX.store_in_new ?_ ?_)
    | (with_reducible refine wpAny_loadPart_at hx ?_)
    | (with_reducible refine hcls.at ?_)
    | wp_step)
  · refine ⟨_, #[], _, (Heap.get?_update_ne _ _ _ _ hxs.symm).trans (Heap.get?_push_at rfl rfl), rfl, ?_, fun _ => rfl⟩
    exact fun e he => absurd he (by simp)
  · intro h' tk' hn' hs
    have hx1 : (hp.push { cls := .type "dict", data := .dict #[] }).get? x = some { cls := .ref C, data := .fields fv } := Heap.get?_push_of_some _ hx
    refine hq h' tk' hp.objs.size (fun b o hb ho => ?_) (Nat.le_refl _) hxs.symm ?_ hn'
    · refine (hs.2 b (Nat.ne_of_lt (Heap.lt_size ho))).trans ?_
      exact (Heap.get?_update_ne _ _ _ _ hb).trans (Heap.get?_push_of_some _ ho)
    · refine (hs.2 x hxs).trans ?_
      exact Heap.get?_update_self _ hx1 rfl
end
end Dw
namespace Dw
open PySem PySem.Spec PyProof.Rows L2
/-- what an except clause says of a class -/
theorem exm_cl {K : PySem.W.Frag} {t : Value} {S : Addr} {b : Bool} (x1 : PySem.W.subIn K (.ref S) (.type "BaseException") = some true) (x2 : PySem.W.isClsIn K S = true) (x3 : PySem.W.typeIn K (.ref S) = some (.type "type")) (x4 : PySem.W.subIn K t (.ref S) = some b) : PySem.W.exmOne K t (.ref S) = some b := by
  have x2' : (PySem.W.clsIn K S).isSome = true := x2
  unfold PySem.W.exmOne PySem.W.kitCls
  simp only [x1, x2', x3, x4]
  rfl
/-! ### exceptions of one field, found -/
namespace Ex_found
open PySem PySem.W PySem.Calls PyProof.Rows PySem.HandSPX
def iA (p1 p2 : Pos) : Arguments := { posonlyargs := [], args := [{ arg := "self", annotation := none, pos := p1 }, { arg := "found", annotation := none, pos := p2 }], vararg := none, kwonlyargs := [], kw_defaults := [], kwarg := none, defaults := [] }
def iB (q1 q2 q3 q4 : Pos) : List Stmt := [.Assign [.Attribute (.Name "self" q1) "found" q2] (.Name "found" q3) q4]
def iS (ms : List (Str × Const)) : Scope := { kind := .function, names := [(PySem.Str.ofString "self", .local), (PySem.Str.ofString "found", .local)], isGenerator := false, isCoroutine := false, more := ms }
/-- what the written part says of the class cn at C, and of its __init__, at fI -/
structure Txt (K : Frag) (mg : Str → Option Value) (cn : Str) (C fI : Addr) : Prop where
  gC : mg cn = some (.ref C)
  cls : ∃ q N bs bm sn sub ab col dd k0 k1 k2 k3 k5, K.lookup C = some (excClassObj cn q C N bs bm true sn sub ab col dd k0 k1 k2 k3 k5 "ValueError.__new__") ∧ excTail [.type "ValueError", .type "Exception", .type "BaseException", .type "object"] bm = true
  sa : findIn K (.ref C) "__setattr__" = some (some (.builtin "object.__setattr__"))
  ga : findIn K (.ref C) "__getattribute__" = some (some (.builtin "BaseException.__getattribute__"))
  gg : findIn K (.ref C) "__getattr__" = some none
  noN : findIn K (.ref C) "found" = some none
  iC : findIn K (.ref C) "__init__" = some (some (.ref fI))
  rC : findIn K (.ref C) "__repr__" = some (some (.builtin "BaseException.__repr__"))
  cC : findIn K (.ref C) "__class__" = some (some (.builtin "object.__class__"))
  spC : specialIn K (.builtin "object.__class__") "__get__" = some (some (.builtin "getset_descriptor.__get__"))
  tkC : takesIn K (.builtin "object.__class__") = some true
  mrC : mroIn K C (.type "object") = some true
  tC : typeIn K (.ref fI) = some (.type "function")
  kC : keepIn K (.ref C) = true
  exC : subIn K (.ref C) (.type "BaseException") = some true
  tyC : typeIn K (.ref C) = some (.type "type")
  hdC : hasDictIn K C = true
  te : exmOne K (.ref C) (.ref C) = some true
  fn : ∃ (qn : Str) (oc : Value) (od : Option Addr) (doc pm : Value) (an : Option Addr) (cdv ct : Value) (osl : Array (Option Value)) (p1 p2 q1 q2 q3 q4 : Pos) (ms : List (Str × Const)),
    K.lookup fI = some ⟨oc, od, .func (fnOf "__init__" qn (iA p1 p2) (iB q1 q2 q3 q4) (iS ms) .none .none doc pm an cdv ct), osl⟩ ∧ codeIn K cdv qn = true
theorem one_le (v : Value) : [v].length ≤ sizeLine := by
  rw [sizeLine_eq]
  exact (by decide : 1 ≤ 16777216)
theorem ldN {M : Model} {s : Shared} {name : Str} {scope : Scope} {L a : Addr} {cd : Value} {m : Str → Option Value} {x : Str} {pos : Pos} {v : Value} {Q : Value → Shared → Prop} {A : Around} {E : Value → Shared → Prop} (hn : s.heap.Ns L m) (hv : m x = some v) (h : Q v s)
    (hk : scope.kind = .function := by rfl) (hl : (envOfC name scope L a cd).kindOf x = some .local := by rfl) (hd : (x == ("__debug__" : Str)) = false := by decide) :
    wpAny M A (eval (.Name x pos) (envOfC name scope L a cd)) Q E s := wpAny_Name (wpAny_loadName_local hk hl hn hv h) hd
/-- what __init__ leaves of a fresh exception at x -/
structure InitEnd (h h' : Heap) (x C dx t1 : Addr) (v : Value) : Prop where
  keep : ∀ b o, b ≠ x → h.get? b = some o → h'.get? b = some o
  obj : h'.get? x = some { cls := .ref C, dict := some dx, data := .fields #[.ref t1, .none, .none, .none, .bool false, .none] }
  dbig : h.objs.size ≤ dx
  dne : dx ≠ x
  ns : h'.Ns1 dx (fun y => if y = "found" then some v else none)
/-- a made one: the arguments' tuple at t, the exception at e, its dict at d -/
structure Made (h h' : Heap) (t e C d : Addr) (v : Value) : Prop where
  keep : ∀ b o, (h.push (kdv_tup [v])).get? b = some o → h'.get? b = some o
  ht : t = h.objs.size
  he : e = h.objs.size + 1
  obj : h'.get? e = some { cls := .ref C, dict := some d, data := .fields #[.ref t, .none, .none, .none, .bool false, .none] }
  dbig : h.objs.size + 1 + 1 ≤ d
  dne : d ≠ e
  ns : h'.Ns1 d (fun y => if y = "found" then some v else none)
section
variable {prog : Program} {w : World} {A : Around} {E : Value → Shared → Prop} {R : Result → Shared → Prop} {s : Shared} {K : Frag} {mg : Str → Option Value} {cn : Str} {C fI : Addr}
theorem init_run (T : Txt K mg cn C fI) {x t0 : Addr} {v : Value} (X : K.In s.heap) (hlim : s.heap.NoLimit) (hx : s.heap.get? x = some (excO C t0)) (hnx : K.lookup x = none) (hroom : A.depth < recursionLimit)
    (hq : ∀ h' tk dx, InitEnd s.heap h' x C dx t0 v → R (.ok (.ret .none)) { s with heap := h', toks := tk }) :
    codeAny (model prog w) A (.call (.ref fI) ⟨[.ref x, v], []⟩) R s := by
  obtain ⟨qn, oc, od, doc, pm, an, cdv, ct, osl, p1, p2, q1, q2, q3, q4, ms, ho, hcd⟩ := T.fn
  obtain ⟨q, N, bs, bm, sn, sub, ab, col, dd, k0, k1, k2, k3, k5, hC, hbm⟩ := T.cls
  have hcl : clsIn K C = some { name := cn, bases := bs, mro := .ref C :: bm, ns := N, qualname := q, hasDict := true, slotNames := sn, subclasses := sub, abstract := ab, collection := col, hasDel := false } := by unfold clsIn; rw [hC] <;> rfl
  refine Att.call_fn (binds := [("self", .ref x), ("found", v)]) X hlim ho hcd hroom (BindsTo.of_eq (by first | rfl | with_unfolding_all rfl)) (by first | rfl | decide | with_unfolding_all rfl) (fun s₁ IC => ?_) rfl rfl rfl
  obtain ⟨h₁, tk₁, rfl⟩ := IC.toInCall.same
  have k : ∀ b o, s.heap.get? b = some o → h₁.get? b = some o := IC.toInCall.keep
  have hn := IC.toInCall.ns
  have X₁ : K.In h₁ := X.keeps k
  have hx₁ := k _ _ hx
  show wpAny _ _ (execs _ _) _ _ _
  refine wpAny_execs_cons (plainObj_wpAny_Assign_Attribute ?_)
  refine ldN (v := v) hn (by first | rfl | with_unfolding_all rfl | kernel_rfl) (ldN (v := .ref x) hn (by first | rfl | with_unfolding_all rfl | kernel_rfl) ?_)
  refine set_plain X₁ (ox := excO C t0) (od := none) ⟨hx₁, rfl, rfl, trivial⟩ T.sa ?_
  have hov : excOver K C [.type "ValueError", .type "Exception", .type "BaseException", .type "object"] = true := by
    unfold excOver
    rw [hcl]
    show ((C == C) && excTail _ bm) = true
    rw [hbm]
    simp
  refine Dw.osa_first F.store_ValueError X₁ hx₁ hcl hov rfl T.noN (fun h₃ tk₃ dx k₃ dn dne hx₃ hn₃ => ?_)
  show wpAny _ _ (execs _ _) _ _ _
  have z : s.heap.objs.size < h₁.objs.size := hn.lt
  exact wpAny_execs_nil (hq h₃ tk₃ dx ⟨fun b o hb e => k₃ b o hb (k b o e), hx₃, Nat.le_of_lt (Nat.lt_of_lt_of_le z dn), dne, hn₃⟩)
theorem make_run (T : Txt K mg cn C fI) {v : Value} (X : K.In s.heap) (hlim : s.heap.NoLimit) (hroom : A.depth + 1 < recursionLimit)
    (hq : ∀ h' tk t e d, Made s.heap h' t e C d v → R (.ok (.ret (.ref e))) { s with heap := h', toks := tk }) :
    codeAny (model prog w) A (.call (.ref C) ⟨[v], []⟩) R s := by
  obtain ⟨q, N, bs, bm, sn, sub, ab, col, dd, k0, k1, k2, k3, k5, hC, hbm⟩ := T.cls
  obtain ⟨hp, g, dr, tk, os⟩ := s
  have k : ∀ b o, hp.get? b = some o → ((hp.push (kdv_tup [v])).push (excO C hp.objs.size)).get? b = some o := fun b o e => Heap.get?_push_of_some _ (Heap.get?_push_of_some _ e)
  have hget : ((hp.push (kdv_tup [v])).push (excO C hp.objs.size)).get? (hp.objs.size + 1) = some (excO C hp.objs.size) := by heap_get
  have hnx : K.lookup (hp.objs.size + 1) = none := by
    cases e : K.lookup (hp.objs.size + 1) with
    | none => rfl
    | some o =>
      have z : hp.get? (hp.objs.size + 1) = some o := X _ _ e
      exact absurd (Nat.lt_of_succ_lt (Heap.lt_size z)) (Nat.lt_irrefl _)
  refine call_own F.excBase_ValueError (fun X => excTail_contains X bm hbm) (X _ _ hC) (looks_findIn X T.iC) (fun self => bind_fn X self T.tC) (one_le v) ?_
  refine init_run (s := ⟨(hp.push (kdv_tup [v])).push (excO C hp.objs.size), g, dr, tk, os⟩) T (X.keeps k) (hlim.keeps k) hget hnx ?_ fun h' tk' dx ⟨k', hx, dn, dne, hns⟩ => ?_
  · show A.depth + 1 < recursionLimit
    exact hroom
  · have old : ∀ b o, (hp.push (kdv_tup [v])).get? b = some o → h'.get? b = some o := fun b o e => by
      refine k' b o (Nat.ne_of_lt ?_) (Heap.get?_push_of_some _ e)
      have := Heap.lt_size e
      rw [Heap.size_push] at this
      exact this
    have z : hp.objs.size + 1 + 1 ≤ dx := by
      first
        | (simpa only [Heap.size_push] using dn)
        | exact dn
        | (have q := dn; rw [Heap.size_push, Heap.size_push] at q; exact q)
    exact ⟨rfl, hq h' tk' hp.objs.size (hp.objs.size + 1) dx ⟨old, rfl, rfl, hx, z, dne, hns⟩⟩
end
end Ex_found
section
open Ex_found
variable {X : Cx} {C fI : Addr} {cn : Str} {a : Expr} {r : En} {m : Mu} {F : Pd} {E : Xd} {P : Pc} {p pos pos2 : Pos} {k : Nat} {N : List Str}
theorem relo_found {v : V} {v' : Value} (rv : RelV v v') (f : Str) : RelO (List.lookup f [(("found" : Str), v)]) (if f = "found" then some v' else none) := by
  by_cases hw : f = "found"
  · subst hw
    rw [if_pos rfl, show List.lookup ("found" : Str) [(("found" : Str), v)] = some v by simp [List.lookup]]
    exact rv
  · have qw : (f == ("found" : Str)) = false := by simpa using hw
    rw [if_neg hw, show List.lookup f [(("found" : Str), v)] = none by simp [List.lookup, qw]]
    trivial
def tMk_found (C : Addr) (ta : TA) : L2.St → Hp → XK → Prop := fun g H Q => ta g H fun vs H1 => ∃ v, vs = [v] ∧ ∀ d, H1 d = none → Q (.ref C) (some d) (upd H1 d (.xd [(("found" : Str), v)]))
theorem pmk_found {ta : TA} (T : Txt X.K X.mg cn C fI) (hr : Room k X.A) (ha : PA X [a] ta) (hg : Gl X cn := by rfl) (hdb : (cn == ("__debug__" : Str)) = false := by decide)
    (he : starEach (a :: []) X.env = (false, eval a X.env) :: starEach [] X.env := by rfl) (hpl : (backTo pos (starEach [] X.env)).any (·.1) = false := by rfl) :
    PMk X (.Call (.Name cn p) [a] [] pos) (tMk_found C ta) := by
  intro pins s g H Q I h
  refine wpAny_Call_Name_kw (ld_glob I hg T.gC ?_ hdb)
  refine PySem.W.callWith_K (h₀ := X.base) I.ok.mod.kin T.kC (thn (ha.run pos pins s g H _ I h) fun us s1 hh => ?_) he hpl
  obtain ⟨vs, H1, I1, r1, v, ev, q1⟩ := hh
  subst ev
  refine ⟨I1.kIn, ?_⟩
  cases r1 with
  | cons rv rn =>
    rename_i v' us'
    cases rn
    show wpAny _ _ (call (.ref C) [v']) _ _ _
    have hlim := I1.nolimit
    obtain ⟨hp, gs, dr, tk, os⟩ := s1
    refine wpAny_call (make_run T I1.kIn hlim (by have := hr.dp; omega) fun h' tk' t e d M => ?_)
    show MkP X pins g Q (.ref e) ⟨h', gs, dr, tk', os⟩
    have hns := M.ns
    have bigE : hp.objs.size ≤ e := by rw [M.he]; exact Nat.le_succ _
    have bigD : hp.objs.size ≤ d := Nat.le_trans (Nat.le_trans (Nat.le_succ _) (Nat.le_succ _)) M.dbig
    obtain ⟨G', g1, g2⟩ := restrict h' fun b => decide (b ≠ e)
    have gk : ∀ b, b ≠ e → G'.get? b = h'.get? b := fun b hb => g1 b (decide_eq_true hb)
    have ge : G'.get? e = none := g2 e (by simp)
    have old : ∀ b o, hp.get? b = some o → G'.get? b = some o := fun b o q => (gk b (Nat.ne_of_lt (Nat.lt_of_lt_of_le (Heap.lt_size q) bigE))).trans (M.keep b o (Heap.get?_push_of_some _ q))
    have ob : ObjOk X.prog X.w (upd H1 d (.xd [(("found" : Str), v)])) G' d (.xd [(("found" : Str), v)]) := ⟨_, hns.at (fun o q => (gk d M.dne).trans q), fun f => relo_found rv f⟩
    have J : Inv X pins g (upd H1 d (.xd [(("found" : Str), v)])) ⟨G', gs, dr, tk', os⟩ := I1.laid (t' := tk') old bigD ob
    refine ⟨e, _, _, ⟨G', gs, dr, tk', os⟩, _, .ref C, some d, rfl, J, fun b o q => ?_, ge, M.obj, ⟨rfl, rfl⟩, rfl, rfl, ?_, rfl, I1.bare, raises_own T.exC T.tyC, q1 d (I1.hok.fresh bigD)⟩
    · by_cases hb : b = e
      · have q' : G'.get? b = some o := q
        rw [hb, ge] at q'; cases q'
      · exact (gk b hb).symm.trans q
    · rw [upd_ne (Ne.symm M.dne)]
      exact I1.hok.fresh bigE
/-- raise cn(e) -/
theorem ls_raise_found (T : Txt X.K X.mg cn C fI) (gd : Gd k N X) (h : LA X [a] r m (fun ds m1 => ∃ d, ds = [d] ∧ P.ex (.ref C) [(("found" : Str), d)] r m1) P.ex) (hg : Gl X cn := by rfl) (hdb : (cn == ("__debug__" : Str)) = false := by decide)
    (he : starEach (a :: []) X.env = (false, eval a X.env) :: starEach [] X.env := by rfl) (hpl : (backTo pos (starEach [] X.env)).any (·.1) = false := by rfl) :
    LS X (.Raise (some (.Call (.Name cn p) [a] [] pos)) none pos2) r m P := by
  refine ⟨fun Z g H D W rp tk np => (ps_raise gd.calm tk (pmk_found T gd.room pa_w hg hdb he hpl)).w ?_⟩
  refine h.run Z g H _ W rp tk (fun vs H1 ds m1 q go so da => ?_) np.ex
  obtain ⟨d, rfl, q⟩ := q
  cases da with
  | cons d1 d2 =>
    rename_i v vs
    cases d2
    refine ⟨_, rfl, fun dx hd => ?_⟩
    have gf : Go m1 H1 m1 (upd H1 dx (.xd [(("found" : Str), v)])) := Ext.fresh hd
    exact np.ex _ dx _ _ g _ r m1 q (go.trans gf) (rp.go (go.trans gf) (so.laid hd)) (so.fresh hd) upd_same (.cons (d1.move (Go.full Z gf)) .nil)
/-- cn(e) as a value -/
theorem le_exc_found (T : Txt X.K X.mg cn C fI) (gd : Gd k N X) (h : LA X [a] r m (fun ds m1 => ∃ d, ds = [d] ∧ F (.exc C cn [d]) m1) E) (hg : Gl X cn := by rfl) (hdb : (cn == ("__debug__" : Str)) = false := by decide)
    (he : starEach (a :: []) X.env = (false, eval a X.env) :: starEach [] X.env := by rfl) (hpl : (backTo pos (starEach [] X.env)).any (·.1) = false := by rfl) :
    LE X (.Call (.Name cn p) [a] [] pos) r m F E := by
  refine ⟨fun Z g H Q W rp tk nk nx pins s I => ?_⟩
  refine wpAny_Call_Name_kw (ld_glob I hg T.gC ?_ hdb)
  refine PySem.W.callWith_K (h₀ := X.base) I.ok.mod.kin T.kC (thn (h.run Z g H (fun vs H1 => ∃ v, vs = [v] ∧ ∀ t e dx, H1 t = none → H1 e = none → H1 dx = none → e ≠ t → dx ≠ t → dx ≠ e → Q (.ref e) (upd (upd (upd H1 t (.tup [v])) e (.ext (ExO e C t dx))) dx (.xd [(("found" : Str), v)]))) W rp tk (fun vs H1 ds m1 q go so da => ?_) nx pos pins s I) fun us s1 hh => ?_) he hpl
  · obtain ⟨d, rfl, q⟩ := q
    cases da with
    | cons d1 d2 =>
      rename_i v vs
      cases d2
      refine ⟨_, rfl, fun t e dx ht hee hdx n1 n2 n3 => ?_⟩
      have g1 : Go m1 H1 m1 (upd H1 t (.tup [v])) := Ext.fresh ht
      have s1 := so.laid (o := .tup [v]) ht
      have he2 : (upd H1 t (.tup [v])) e = none := by rw [upd_ne n1]; exact hee
      have g2 : Go m1 (upd H1 t (.tup [v])) m1 (upd (upd H1 t (.tup [v])) e (.ext (ExO e C t dx))) := Ext.fresh he2
      have s2 := s1.laid (o := .ext (ExO e C t dx)) he2
      have he3 : (upd (upd H1 t (.tup [v])) e (.ext (ExO e C t dx))) dx = none := by rw [upd_ne n3, upd_ne n2]; exact hdx
      have g3 : Go m1 (upd (upd H1 t (.tup [v])) e (.ext (ExO e C t dx))) m1 (upd (upd (upd H1 t (.tup [v])) e (.ext (ExO e C t dx))) dx (.xd [(("found" : Str), v)])) := Ext.fresh he3
      have s3 := s2.laid (o := .xd [(("found" : Str), v)]) he3
      refine nk _ _ _ m1 q (((go.trans g1).trans g2).trans g3) s3 (.exc (s1.fresh he2) ?_ (so.fresh ht) ?_ (s2.fresh he3) upd_same (.cons (d1.move (Go.full Z ((g1.trans g2).trans g3))) .nil))
      · rw [upd_ne (Ne.symm n3)]
        exact upd_same
      · rw [upd_ne (Ne.symm n2), upd_ne (Ne.symm n1)]
        exact upd_same
  · obtain ⟨vs, H1, I1, r1, v, ev, q1⟩ := hh
    subst ev
    refine ⟨I1.kIn, ?_⟩
    cases r1 with
    | cons rv rn =>
      rename_i v' us'
      cases rn
      show wpAny _ _ (call (.ref C) [v']) _ _ _
      have hlim := I1.nolimit
      obtain ⟨hp, gs, dr, tk', os⟩ := s1
      refine wpAny_call (make_run T I1.kIn hlim (by have := gd.room.dp; omega) fun h' tk2 t e d M => ?_)
      have et := M.ht
      have ee := M.he
      subst et ee
      have I2 : L2.Inv X pins g (upd H1 hp.objs.size (.tup [v])) ⟨hp.push (PySem.W.kdv_tup [v']), gs, dr, tk', os⟩ := I1.laid (t' := tk') (fun b o e => Heap.get?_push_of_some _ e) (Nat.le_refl _) ⟨by rw [sizeLine_eq]; exact (by decide : 1 ≤ 16777216), [v'], .cons rv .nil, ⟨_, Heap.get?_push_size _ rfl, rfl, _, rfl⟩⟩
      have hs : (hp.push (PySem.W.kdv_tup [v'])).objs.size = hp.objs.size + 1 := Heap.size_push ..
      let oe : Obj := { cls := .ref C, dict := some d, data := .fields #[.ref hp.objs.size, .none, .none, .none, .bool false, .none] }
      have hge : ((hp.push (PySem.W.kdv_tup [v'])).push oe).get? (hp.objs.size + 1) = some oe := by rw [← hs]; exact Heap.get?_push_size _ rfl
      have I3 : L2.Inv X pins g (upd (upd H1 hp.objs.size (.tup [v])) (hp.objs.size + 1) (.ext (ExO (hp.objs.size + 1) C hp.objs.size d))) ⟨(hp.push (PySem.W.kdv_tup [v'])).push oe, gs, dr, tk', os⟩ :=
        I2.laid (t' := tk') (fun b o e => Heap.get?_push_of_some _ e) (by show (hp.push (PySem.W.kdv_tup [v'])).objs.size ≤ _; rw [hs]; exact Nat.le_refl _) ⟨⟨oe, _, hge, rfl, rfl, rfl, rfl⟩, ⟨_, hge⟩, fun h1 h2 p kk => by
          obtain ⟨o, vs, e1, e2⟩ := p
          exact ⟨o, vs, kk o e1, e2⟩⟩
      have hs2 : ((hp.push (PySem.W.kdv_tup [v'])).push oe).objs.size = hp.objs.size + 1 + 1 := by rw [Heap.size_push, hs]
      have ob : ObjOk X.prog X.w (upd (upd (upd H1 hp.objs.size (.tup [v])) (hp.objs.size + 1) (.ext (ExO (hp.objs.size + 1) C hp.objs.size d))) d (.xd [(("found" : Str), v)])) h' d (.xd [(("found" : Str), v)]) := ⟨_, M.ns, fun f => relo_found rv f⟩
      have I4 : L2.Inv X pins g (upd (upd (upd H1 hp.objs.size (.tup [v])) (hp.objs.size + 1) (.ext (ExO (hp.objs.size + 1) C hp.objs.size d))) d (.xd [(("found" : Str), v)])) ⟨h', gs, dr, tk2, os⟩ := by
        refine I3.laid (t' := tk2) (fun b o e => ?_) (by show ((hp.push (PySem.W.kdv_tup [v'])).push oe).objs.size ≤ d; rw [hs2]; exact M.dbig) ob
        by_cases hb : b = hp.objs.size + 1
        · subst hb
          have e' : ((hp.push (PySem.W.kdv_tup [v'])).push oe).get? (hp.objs.size + 1) = some o := e
          rw [hge] at e'
          cases e'
          exact M.obj
        · refine M.keep b o ?_
          rw [← Heap.get?_push_ne _ b oe (by rw [hs]; exact hb)]
          exact e
      have bd : hp.objs.size + 1 + 1 ≤ d := M.dbig
      have f3 : hp.objs.size ≤ d := Nat.le_trans (Nat.le_trans (Nat.le_succ _) (Nat.le_succ _)) bd
      have n1 : hp.objs.size + 1 ≠ hp.objs.size := Nat.ne_of_gt (Nat.lt_succ_self _)
      have n2 : d ≠ hp.objs.size := Nat.ne_of_gt (Nat.lt_of_lt_of_le (Nat.lt_succ_of_lt (Nat.lt_succ_self _)) bd)
      have n3 : d ≠ hp.objs.size + 1 := Nat.ne_of_gt (Nat.lt_of_lt_of_le (Nat.lt_succ_self _) bd)
      exact ⟨.ref _, _, I4, rfl, q1 _ _ _ (I1.hok.fresh (Nat.le_refl _)) (I1.hok.fresh (Nat.le_succ _)) (I1.hok.fresh f3) n1 n2 n3⟩
end
section
open PySem.W PySem.Calls PySem.HandSPX
theorem Ex_found.mk {K : Frag} {h : Heap} {mg : Str → Option Value} {C fI N : Addr} {cn qn q : Str} {bs bm : List Value} {sn : List Str} {sub : List Value} {ab : Bool} {col : Option Bool} {dd od an : Option Addr} {m0 m1 m2 m3 m5 : Option Value}
    {oc dc pm cd ct : Value} {sl : Array (Option Value)} {p1 p2 q1 q2 q3 q4 : Pos} {ms : List (Str × Const)} (X : K.In h) (G : h.Ns mainGlobals mg)
    (aC : nsIn K mainGlobals cn = some (some (.ref C))) (xL : K.lookup C = some (excClassObj cn q C N bs bm true sn sub ab col dd m0 m1 m2 m3 m5 "ValueError.__new__")) (hbm : PySem.W.excTail [.type "ValueError", .type "Exception", .type "BaseException", .type "object"] bm = true)
    (sa : findIn K (.ref C) "__setattr__" = some (some (.builtin "object.__setattr__"))) (ga : findIn K (.ref C) "__getattribute__" = some (some (.builtin "BaseException.__getattribute__"))) (gg : findIn K (.ref C) "__getattr__" = some none) (noN : findIn K (.ref C) "found" = some none)
    (iC : findIn K (.ref C) "__init__" = some (some (.ref fI))) (rC : findIn K (.ref C) "__repr__" = some (some (.builtin "BaseException.__repr__"))) (cC : findIn K (.ref C) "__class__" = some (some (.builtin "object.__class__")))
    (spC : specialIn K (.builtin "object.__class__") "__get__" = some (some (.builtin "getset_descriptor.__get__"))) (tkC : takesIn K (.builtin "object.__class__") = some true) (mrC : mroIn K C (.type "object") = some true) (tC : typeIn K (.ref fI) = some (.type "function"))
    (kC : keepIn K (.ref C) = true) (exC : subIn K (.ref C) (.type "BaseException") = some true) (tyC : typeIn K (.ref C) = some (.type "type")) (hdC : hasDictIn K C = true) (isC : isClsIn K C = true) (suC : subIn K (.ref C) (.ref C) = some true)
    (l1 : K.lookup fI = some ⟨oc, od, .func (fnOf "__init__" qn (Ex_found.iA p1 p2) (Ex_found.iB q1 q2 q3 q4) (Ex_found.iS ms) .none .none dc pm an cd ct), sl⟩) (c1 : codeIn K cd qn = true) : Ex_found.Txt K mg cn C fI :=
  { gC := mg_of X G aC, cls := ⟨q, N, bs, bm, sn, sub, ab, col, dd, m0, m1, m2, m3, m5, xL, hbm⟩, sa := sa, ga := ga, gg := gg, noN := noN, iC := iC, rC := rC, cC := cC, spC := spC, tkC := tkC, mrC := mrC, tC := tC, kC := kC, exC := exC, tyC := tyC, hdC := hdC,
    te := exm_cl exC isC tyC suC, fn := ⟨qn, oc, od, dc, pm, an, cd, ct, sl, p1, p2, q1, q2, q3, q4, ms, l1, c1⟩ }
end
/-! ### exceptions of one field, at -/
namespace Ex_at
open PySem PySem.W PySem.Calls PyProof.Rows PySem.HandSPX
def iA (p1 p2 : Pos) : Arguments := { posonlyargs := [], args := [{ arg := "self", annotation := none, pos := p1 }, { arg := "at", annotation := none, pos := p2 }], vararg := none, kwonlyargs := [], kw_defaults := [], kwarg := none, defaults := [] }
def iB (q1 q2 q3 q4 : Pos) : List Stmt := [.Assign [.Attribute (.Name "self" q1) "at" q2] (.Name "at" q3) q4]
def iS (ms : List (Str × Const)) : Scope := { kind := .function, names := [(PySem.Str.ofString "self", .local), (PySem.Str.ofString "at", .local)], isGenerator := false, isCoroutine := false, more := ms }
/-- what the written part says of the class cn at C, and of its __init__, at fI -/
structure Txt (K : Frag) (mg : Str → Option Value) (cn : Str) (C fI : Addr) : Prop where
  gC : mg cn = some (.ref C)
  cls : ∃ q N bs bm sn sub ab col dd k0 k1 k2 k3 k5, K.lookup C = some (excClassObj cn q C N bs bm true sn sub ab col dd k0 k1 k2 k3 k5 "ValueError.__new__") ∧ excTail [.type "ValueError", .type "Exception", .type "BaseException", .type "object"] bm = true
  sa : findIn K (.ref C) "__setattr__" = some (some (.builtin "object.__setattr__"))
  ga : findIn K (.ref C) "__getattribute__" = some (some (.builtin "BaseException.__getattribute__"))
  gg : findIn K (.ref C) "__getattr__" = some none
  noN : findIn K (.ref C) "at" = some none
  iC : findIn K (.ref C) "__init__" = some (some (.ref fI))
  rC : findIn K (.ref C) "__repr__" = some (some (.builtin "BaseException.__repr__"))
  cC : findIn K (.ref C) "__class__" = some (some (.builtin "object.__class__"))
  spC : specialIn K (.builtin "object.__class__") "__get__" = some (some (.builtin "getset_descriptor.__get__"))
  tkC : takesIn K (.builtin "object.__class__") = some true
  mrC : mroIn K C (.type "object") = some true
  tC : typeIn K (.ref fI) = some (.type "function")
  kC : keepIn K (.ref C) = true
  exC : subIn K (.ref C) (.type "BaseException") = some true
  tyC : typeIn K (.ref C) = some (.type "type")
  hdC : hasDictIn K C = true
  te : exmOne K (.ref C) (.ref C) = some true
  fn : ∃ (qn : Str) (oc : Value) (od : Option Addr) (doc pm : Value) (an : Option Addr) (cdv ct : Value) (osl : Array (Option Value)) (p1 p2 q1 q2 q3 q4 : Pos) (ms : List (Str × Const)),
    K.lookup fI = some ⟨oc, od, .func (fnOf "__init__" qn (iA p1 p2) (iB q1 q2 q3 q4) (iS ms) .none .none doc pm an cdv ct), osl⟩ ∧ codeIn K cdv qn = true
theorem one_le (v : Value) : [v].length ≤ sizeLine := by
  rw [sizeLine_eq]
  exact (by decide : 1 ≤ 16777216)
theorem ldN {M : Model} {s : Shared} {name : Str} {scope : Scope} {L a : Addr} {cd : Value} {m : Str → Option Value} {x : Str} {pos : Pos} {v : Value} {Q : Value → Shared → Prop} {A : Around} {E : Value → Shared → Prop} (hn : s.heap.Ns L m) (hv : m x = some v) (h : Q v s)
    (hk : scope.kind = .function := by rfl) (hl : (envOfC name scope L a cd).kindOf x = some .local := by rfl) (hd : (x == ("__debug__" : Str)) = false := by decide) :
    wpAny M A (eval (.Name x pos) (envOfC name scope L a cd)) Q E s := wpAny_Name (wpAny_loadName_local hk hl hn hv h) hd
/-- what __init__ leaves of a fresh exception at x -/
structure InitEnd (h h' : Heap) (x C dx t1 : Addr) (v : Value) : Prop where
  keep : ∀ b o, b ≠ x → h.get? b = some o → h'.get? b = some o
  obj : h'.get? x = some { cls := .ref C, dict := some dx, data := .fields #[.ref t1, .none, .none, .none, .bool false, .none] }
  dbig : h.objs.size ≤ dx
  dne : dx ≠ x
  ns : h'.Ns1 dx (fun y => if y = "at" then some v else none)
/-- a made one: the arguments' tuple at t, the exception at e, its dict at d -/
structure Made (h h' : Heap) (t e C d : Addr) (v : Value) : Prop where
  keep : ∀ b o, (h.push (kdv_tup [v])).get? b = some o → h'.get? b = some o
  ht : t = h.objs.size
  he : e = h.objs.size + 1
  obj : h'.get? e = some { cls := .ref C, dict := some d, data := .fields #[.ref t, .none, .none, .none, .bool false, .none] }
  dbig : h.objs.size + 1 + 1 ≤ d
  dne : d ≠ e
  ns : h'.Ns1 d (fun y => if y = "at" then some v else none)
section
variable {prog : Program} {w : World} {A : Around} {E : Value → Shared → Prop} {R : Result → Shared → Prop} {s : Shared} {K : Frag} {mg : Str → Option Value} {cn : Str} {C fI : Addr}
theorem init_run (T : Txt K mg cn C fI) {x t0 : Addr} {v : Value} (X : K.In s.heap) (hlim : s.heap.NoLimit) (hx : s.heap.get? x = some (excO C t0)) (hnx : K.lookup x = none) (hroom : A.depth < recursionLimit)
    (hq : ∀ h' tk dx, InitEnd s.heap h' x C dx t0 v → R (.ok (.ret .none)) { s with heap := h', toks := tk }) :
    codeAny (model prog w) A (.call (.ref fI) ⟨[.ref x, v], []⟩) R s := by
  obtain ⟨qn, oc, od, doc, pm, an, cdv, ct, osl, p1, p2, q1, q2, q3, q4, ms, ho, hcd⟩ := T.fn
  obtain ⟨q, N, bs, bm, sn, sub, ab, col, dd, k0, k1, k2, k3, k5, hC, hbm⟩ := T.cls
  have hcl : clsIn K C = some { name := cn, bases := bs, mro := .ref C :: bm, ns := N, qualname := q, hasDict := true, slotNames := sn, subclasses := sub, abstract := ab, collection := col, hasDel := false } := by unfold clsIn; rw [hC] <;> rfl
  refine Att.call_fn (binds := [("self", .ref x), ("at", v)]) X hlim ho hcd hroom (BindsTo.of_eq (by first | rfl | with_unfolding_all rfl)) (by first | rfl | decide | with_unfolding_all rfl) (fun s₁ IC => ?_) rfl rfl rfl
  obtain ⟨h₁, tk₁, rfl⟩ := IC.toInCall.same
  have k : ∀ b o, s.heap.get? b = some o → h₁.get? b = some o := IC.toInCall.keep
  have hn := IC.toInCall.ns
  have X₁ : K.In h₁ := X.keeps k
  have hx₁ := k _ _ hx
  show wpAny _ _ (execs _ _) _ _ _
  refine wpAny_execs_cons (plainObj_wpAny_Assign_Attribute ?_)
  refine ldN (v := v) hn (by first | rfl | with_unfolding_all rfl | kernel_rfl) (ldN (v := .ref x) hn (by first | rfl | with_unfolding_all rfl | kernel_rfl) ?_)
  refine set_plain X₁ (ox := excO C t0) (od := none) ⟨hx₁, rfl, rfl, trivial⟩ T.sa ?_
  have hov : excOver K C [.type "ValueError", .type "Exception", .type "BaseException", .type "object"] = true := by
    unfold excOver
    rw [hcl]
    show ((C == C) && excTail _ bm) = true
    rw [hbm]
    simp
  refine Dw.osa_first F.store_ValueError X₁ hx₁ hcl hov rfl T.noN (fun h₃ tk₃ dx k₃ dn dne hx₃ hn₃ => ?_)
  show wpAny _ _ (execs _ _) _ _ _
  have z : s.heap.objs.size < h₁.objs.size := hn.lt
  exact wpAny_execs_nil (hq h₃ tk₃ dx ⟨fun b o hb e => k₃ b o hb (k b o e), hx₃, Nat.le_of_lt (Nat.lt_of_lt_of_le z dn), dne, hn₃⟩)
theorem make_run (T : Txt K mg cn C fI) {v : Value} (X : K.In s.heap) (hlim : s.heap.NoLimit) (hroom : A.depth + 1 < recursionLimit)
    (hq : ∀ h' tk t e d, Made s.heap h' t e C d v → R (.ok (.ret (.ref e))) { s with heap := h', toks := tk }) :
    codeAny (model prog w) A (.call (.ref C) ⟨[v], []⟩) R s := by
  obtain ⟨q, N, bs, bm, sn, sub, ab, col, dd, k0, k1, k2, k3, k5, hC, hbm⟩ := T.cls
  obtain ⟨hp, g, dr, tk, os⟩ := s
  have k : ∀ b o, hp.get? b = some o → ((hp.push (kdv_tup [v])).push (excO C hp.objs.size)).get? b = some o := fun b o e => Heap.get?_push_of_some _ (Heap.get?_push_of_some _ e)
  have hget : ((hp.push (kdv_tup [v])).push (excO C hp.objs.size)).get? (hp.objs.size + 1) = some (excO C hp.objs.size) := by heap_get
  have hnx : K.lookup (hp.objs.size + 1) = none := by
    cases e : K.lookup (hp.objs.size + 1) with
    | none => rfl
    | some o =>
      have z : hp.get? (hp.objs.size + 1) = some o := X _ _ e
      exact absurd (Nat.lt_of_succ_lt (Heap.lt_size z)) (Nat.lt_irrefl _)
  refine call_own F.excBase_ValueError (fun X => excTail_contains X bm hbm) (X _ _ hC) (looks_findIn X T.iC) (fun self => bind_fn X self T.tC) (one_le v) ?_
  refine init_run (s := ⟨(hp.push (kdv_tup [v])).push (excO C hp.objs.size), g, dr, tk, os⟩) T (X.keeps k) (hlim.keeps k) hget hnx ?_ fun h' tk' dx ⟨k', hx, dn, dne, hns⟩ => ?_
  · show A.depth + 1 < recursionLimit
    exact hroom
  · have old : ∀ b o, (hp.push (kdv_tup [v])).get? b = some o → h'.get? b = some o := fun b o e => by
      refine k' b o (Nat.ne_of_lt ?_) (Heap.get?_push_of_some _ e)
      have := Heap.lt_size e
      rw [Heap.size_push] at this
      exact this
    have z : hp.objs.size + 1 + 1 ≤ dx := by
      first
        | (simpa only [Heap.size_push] using dn)
        | exact dn
        | (have q := dn; rw [Heap.size_push, Heap.size_push] at q; exact q)
    exact ⟨rfl, hq h' tk' hp.objs.size (hp.objs.size + 1) dx ⟨old, rfl, rfl, hx, z, dne, hns⟩⟩
end
end Ex_at
section
open Ex_at
variable {X : Cx} {C fI : Addr} {cn : Str} {a : Expr} {r : En} {m : Mu} {F : Pd} {E : Xd} {P : Pc} {p pos pos2 : Pos} {k : Nat} {N : List Str}
theorem relo_at {v : V} {v' : Value} (rv : RelV v v') (f : Str) : RelO (List.lookup f [(("at" : Str), v)]) (if f = "at" then some v' else none) := by
  by_cases hw : f = "at"
  · subst hw
    rw [if_pos rfl, show List.lookup ("at" : Str) [(("at" : Str), v)] = some v by simp [List.lookup]]
    exact rv
  · have qw : (f == ("at" : Str)) = false := by simpa using hw
    rw [if_neg hw, show List.lookup f [(("at" : Str), v)] = none by simp [List.lookup, qw]]
    trivial
def tMk_at (C : Addr) (ta : TA) : L2.St → Hp → XK → Prop := fun g H Q => ta g H fun vs H1 => ∃ v, vs = [v] ∧ ∀ d, H1 d = none → Q (.ref C) (some d) (upd H1 d (.xd [(("at" : Str), v)]))
theorem pmk_at {ta : TA} (T : Txt X.K X.mg cn C fI) (hr : Room k X.A) (ha : PA X [a] ta) (hg : Gl X cn := by rfl) (hdb : (cn == ("__debug__" : Str)) = false := by decide)
    (he : starEach (a :: []) X.env = (false, eval a X.env) :: starEach [] X.env := by rfl) (hpl : (backTo pos (starEach [] X.env)).any (·.1) = false := by rfl) :
    PMk X (.Call (.Name cn p) [a] [] pos) (tMk_at C ta) := by
  intro pins s g H Q I h
  refine wpAny_Call_Name_kw (ld_glob I hg T.gC ?_ hdb)
  refine PySem.W.callWith_K (h₀ := X.base) I.ok.mod.kin T.kC (thn (ha.run pos pins s g H _ I h) fun us s1 hh => ?_) he hpl
  obtain ⟨vs, H1, I1, r1, v, ev, q1⟩ := hh
  subst ev
  refine ⟨I1.kIn, ?_⟩
  cases r1 with
  | cons rv rn =>
    rename_i v' us'
    cases rn
    show wpAny _ _ (call (.ref C) [v']) _ _ _
    have hlim := I1.nolimit
    obtain ⟨hp, gs, dr, tk, os⟩ := s1
    refine wpAny_call (make_run T I1.kIn hlim (by have := hr.dp; omega) fun h' tk' t e d M => ?_)
    show MkP X pins g Q (.ref e) ⟨h', gs, dr, tk', os⟩
    have hns := M.ns
    have bigE : hp.objs.size ≤ e := by rw [M.he]; exact Nat.le_succ _
    have bigD : hp.objs.size ≤ d := Nat.le_trans (Nat.le_trans (Nat.le_succ _) (Nat.le_succ _)) M.dbig
    obtain ⟨G', g1, g2⟩ := restrict h' fun b => decide (b ≠ e)
    have gk : ∀ b, b ≠ e → G'.get? b = h'.get? b := fun b hb => g1 b (decide_eq_true hb)
    have ge : G'.get? e = none := g2 e (by simp)
    have old : ∀ b o, hp.get? b = some o → G'.get? b = some o := fun b o q => (gk b (Nat.ne_of_lt (Nat.lt_of_lt_of_le (Heap.lt_size q) bigE))).trans (M.keep b o (Heap.get?_push_of_some _ q))
    have ob : ObjOk X.prog X.w (upd H1 d (.xd [(("at" : Str), v)])) G' d (.xd [(("at" : Str), v)]) := ⟨_, hns.at (fun o q => (gk d M.dne).trans q), fun f => relo_at rv f⟩
    have J : Inv X pins g (upd H1 d (.xd [(("at" : Str), v)])) ⟨G', gs, dr, tk', os⟩ := I1.laid (t' := tk') old bigD ob
    refine ⟨e, _, _, ⟨G', gs, dr, tk', os⟩, _, .ref C, some d, rfl, J, fun b o q => ?_, ge, M.obj, ⟨rfl, rfl⟩, rfl, rfl, ?_, rfl, I1.bare, raises_own T.exC T.tyC, q1 d (I1.hok.fresh bigD)⟩
    · by_cases hb : b = e
      · have q' : G'.get? b = some o := q
        rw [hb, ge] at q'; cases q'
      · exact (gk b hb).symm.trans q
    · rw [upd_ne (Ne.symm M.dne)]
      exact I1.hok.fresh bigE
/-- raise cn(e) -/
theorem ls_raise_at (T : Txt X.K X.mg cn C fI) (gd : Gd k N X) (h : LA X [a] r m (fun ds m1 => ∃ d, ds = [d] ∧ P.ex (.ref C) [(("at" : Str), d)] r m1) P.ex) (hg : Gl X cn := by rfl) (hdb : (cn == ("__debug__" : Str)) = false := by decide)
    (he : starEach (a :: []) X.env = (false, eval a X.env) :: starEach [] X.env := by rfl) (hpl : (backTo pos (starEach [] X.env)).any (·.1) = false := by rfl) :
    LS X (.Raise (some (.Call (.Name cn p) [a] [] pos)) none pos2) r m P := by
  refine ⟨fun Z g H D W rp tk np => (ps_raise gd.calm tk (pmk_at T gd.room pa_w hg hdb he hpl)).w ?_⟩
  refine h.run Z g H _ W rp tk (fun vs H1 ds m1 q go so da => ?_) np.ex
  obtain ⟨d, rfl, q⟩ := q
  cases da with
  | cons d1 d2 =>
    rename_i v vs
    cases d2
    refine ⟨_, rfl, fun dx hd => ?_⟩
    have gf : Go m1 H1 m1 (upd H1 dx (.xd [(("at" : Str), v)])) := Ext.fresh hd
    exact np.ex _ dx _ _ g _ r m1 q (go.trans gf) (rp.go (go.trans gf) (so.laid hd)) (so.fresh hd) upd_same (.cons (d1.move (Go.full Z gf)) .nil)
/-- cn(e) as a value -/
theorem le_exc_at (T : Txt X.K X.mg cn C fI) (gd : Gd k N X) (h : LA X [a] r m (fun ds m1 => ∃ d, ds = [d] ∧ F (.exc C cn [d]) m1) E) (hg : Gl X cn := by rfl) (hdb : (cn == ("__debug__" : Str)) = false := by decide)
    (he : starEach (a :: []) X.env = (false, eval a X.env) :: starEach [] X.env := by rfl) (hpl : (backTo pos (starEach [] X.env)).any (·.1) = false := by rfl) :
    LE X (.Call (.Name cn p) [a] [] pos) r m F E := by
  refine ⟨fun Z g H Q W rp tk nk nx pins s I => ?_⟩
  refine wpAny_Call_Name_kw (ld_glob I hg T.gC ?_ hdb)
  refine PySem.W.callWith_K (h₀ := X.base) I.ok.mod.kin T.kC (thn (h.run Z g H (fun vs H1 => ∃ v, vs = [v] ∧ ∀ t e dx, H1 t = none → H1 e = none → H1 dx = none → e ≠ t → dx ≠ t → dx ≠ e → Q (.ref e) (upd (upd (upd H1 t (.tup [v])) e (.ext (ExO e C t dx))) dx (.xd [(("at" : Str), v)]))) W rp tk (fun vs H1 ds m1 q go so da => ?_) nx pos pins s I) fun us s1 hh => ?_) he hpl
  · obtain ⟨d, rfl, q⟩ := q
    cases da with
    | cons d1 d2 =>
      rename_i v vs
      cases d2
      refine ⟨_, rfl, fun t e dx ht hee hdx n1 n2 n3 => ?_⟩
      have g1 : Go m1 H1 m1 (upd H1 t (.tup [v])) := Ext.fresh ht
      have s1 := so.laid (o := .tup [v]) ht
      have he2 : (upd H1 t (.tup [v])) e = none := by rw [upd_ne n1]; exact hee
      have g2 : Go m1 (upd H1 t (.tup [v])) m1 (upd (upd H1 t (.tup [v])) e (.ext (ExO e C t dx))) := Ext.fresh he2
      have s2 := s1.laid (o := .ext (ExO e C t dx)) he2
      have he3 : (upd (upd H1 t (.tup [v])) e (.ext (ExO e C t dx))) dx = none := by rw [upd_ne n3, upd_ne n2]; exact hdx
      have g3 : Go m1 (upd (upd H1 t (.tup [v])) e (.ext (ExO e C t dx))) m1 (upd (upd (upd H1 t (.tup [v])) e (.ext (ExO e C t dx))) dx (.xd [(("at" : Str), v)])) := Ext.fresh he3
      have s3 := s2.laid (o := .xd [(("at" : Str), v)]) he3
      refine nk _ _ _ m1 q (((go.trans g1).trans g2).trans g3) s3 (.exc (s1.fresh he2) ?_ (so.fresh ht) ?_ (s2.fresh he3) upd_same (.cons (d1.move (Go.full Z ((g1.trans g2).trans g3))) .nil))
      · rw [upd_ne (Ne.symm n3)]
        exact upd_same
      · rw [upd_ne (Ne.symm n2), upd_ne (Ne.symm n1)]
        exact upd_same
  · obtain ⟨vs, H1, I1, r1, v, ev, q1⟩ := hh
    subst ev
    refine ⟨I1.kIn, ?_⟩
    cases r1 with
    | cons rv rn =>
      rename_i v' us'
      cases rn
      show wpAny _ _ (call (.ref C) [v']) _ _ _
      have hlim := I1.nolimit
      obtain ⟨hp, gs, dr, tk', os⟩ := s1
      refine wpAny_call (make_run T I1.kIn hlim (by have := gd.room.dp; omega) fun h' tk2 t e d M => ?_)
      have et := M.ht
      have ee := M.he
      subst et ee
      have I2 : L2.Inv X pins g (upd H1 hp.objs.size (.tup [v])) ⟨hp.push (PySem.W.kdv_tup [v']), gs, dr, tk', os⟩ := I1.laid (t' := tk') (fun b o e => Heap.get?_push_of_some _ e) (Nat.le_refl _) ⟨by rw [sizeLine_eq]; exact (by decide : 1 ≤ 16777216), [v'], .cons rv .nil, ⟨_, Heap.get?_push_size _ rfl, rfl, _, rfl⟩⟩
      have hs : (hp.push (PySem.W.kdv_tup [v'])).objs.size = hp.objs.size + 1 := Heap.size_push ..
      let oe : Obj := { cls := .ref C, dict := some d, data := .fields #[.ref hp.objs.size, .none, .none, .none, .bool false, .none] }
      have hge : ((hp.push (PySem.W.kdv_tup [v'])).push oe).get? (hp.objs.size + 1) = some oe := by rw [← hs]; exact Heap.get?_push_size _ rfl
      have I3 : L2.Inv X pins g (upd (upd H1 hp.objs.size (.tup [v])) (hp.objs.size + 1) (.ext (ExO (hp.objs.size + 1) C hp.objs.size d))) ⟨(hp.push (PySem.W.kdv_tup [v'])).push oe, gs, dr, tk', os⟩ :=
        I2.laid (t' := tk') (fun b o e => Heap.get?_push_of_some _ e) (by show (hp.push (PySem.W.kdv_tup [v'])).objs.size ≤ _; rw [hs]; exact Nat.le_refl _) ⟨⟨oe, _, hge, rfl, rfl, rfl, rfl⟩, ⟨_, hge⟩, fun h1 h2 p kk => by
          obtain ⟨o, vs, e1, e2⟩ := p
          exact ⟨o, vs, kk o e1, e2⟩⟩
      have hs2 : ((hp.push (PySem.W.kdv_tup [v'])).push oe).objs.size = hp.objs.size + 1 + 1 := by rw [Heap.size_push, hs]
      have ob : ObjOk X.prog X.w (upd (upd (upd H1 hp.objs.size (.tup [v])) (hp.objs.size + 1) (.ext (ExO (hp.objs.size + 1) C hp.objs.size d))) d (.xd [(("at" : Str), v)])) h' d (.xd [(("at" : Str), v)]) := ⟨_, M.ns, fun f => relo_at rv f⟩
      have I4 : L2.Inv X pins g (upd (upd (upd H1 hp.objs.size (.tup [v])) (hp.objs.size + 1) (.ext (ExO (hp.objs.size + 1) C hp.objs.size d))) d (.xd [(("at" : Str), v)])) ⟨h', gs, dr, tk2, os⟩ := by
        refine I3.laid (t' := tk2) (fun b o e => ?_) (by show ((hp.push (PySem.W.kdv_tup [v'])).push oe).objs.size ≤ d; rw [hs2]; exact M.dbig) ob
        by_cases hb : b = hp.objs.size + 1
        · subst hb
          have e' : ((hp.push (PySem.W.kdv_tup [v'])).push oe).get? (hp.objs.size + 1) = some o := e
          rw [hge] at e'
          cases e'
          exact M.obj
        · refine M.keep b o ?_
          rw [← Heap.get?_push_ne _ b oe (by rw [hs]; exact hb)]
          exact e
      have bd : hp.objs.size + 1 + 1 ≤ d := M.dbig
      have f3 : hp.objs.size ≤ d := Nat.le_trans (Nat.le_trans (Nat.le_succ _) (Nat.le_succ _)) bd
      have n1 : hp.objs.size + 1 ≠ hp.objs.size := Nat.ne_of_gt (Nat.lt_succ_self _)
      have n2 : d ≠ hp.objs.size := Nat.ne_of_gt (Nat.lt_of_lt_of_le (Nat.lt_succ_of_lt (Nat.lt_succ_self _)) bd)
      have n3 : d ≠ hp.objs.size + 1 := Nat.ne_of_gt (Nat.lt_of_lt_of_le (Nat.lt_succ_self _) bd)
      exact ⟨.ref _, _, I4, rfl, q1 _ _ _ (I1.hok.fresh (Nat.le_refl _)) (I1.hok.fresh (Nat.le_succ _)) (I1.hok.fresh f3) n1 n2 n3⟩
end
section
open PySem.W PySem.Calls PySem.HandSPX
theorem Ex_at.mk {K : Frag} {h : Heap} {mg : Str → Option Value} {C fI N : Addr} {cn qn q : Str} {bs bm : List Value} {sn : List Str} {sub : List Value} {ab : Bool} {col : Option Bool} {dd od an : Option Addr} {m0 m1 m2 m3 m5 : Option Value}
    {oc dc pm cd ct : Value} {sl : Array (Option Value)} {p1 p2 q1 q2 q3 q4 : Pos} {ms : List (Str × Const)} (X : K.In h) (G : h.Ns mainGlobals mg)
    (aC : nsIn K mainGlobals cn = some (some (.ref C))) (xL : K.lookup C = some (excClassObj cn q C N bs bm true sn sub ab col dd m0 m1 m2 m3 m5 "ValueError.__new__")) (hbm : PySem.W.excTail [.type "ValueError", .type "Exception", .type "BaseException", .type "object"] bm = true)
    (sa : findIn K (.ref C) "__setattr__" = some (some (.builtin "object.__setattr__"))) (ga : findIn K (.ref C) "__getattribute__" = some (some (.builtin "BaseException.__getattribute__"))) (gg : findIn K (.ref C) "__getattr__" = some none) (noN : findIn K (.ref C) "at" = some none)
    (iC : findIn K (.ref C) "__init__" = some (some (.ref fI))) (rC : findIn K (.ref C) "__repr__" = some (some (.builtin "BaseException.__repr__"))) (cC : findIn K (.ref C) "__class__" = some (some (.builtin "object.__class__")))
    (spC : specialIn K (.builtin "object.__class__") "__get__" = some (some (.builtin "getset_descriptor.__get__"))) (tkC : takesIn K (.builtin "object.__class__") = some true) (mrC : mroIn K C (.type "object") = some true) (tC : typeIn K (.ref fI) = some (.type "function"))
    (kC : keepIn K (.ref C) = true) (exC : subIn K (.ref C) (.type "BaseException") = some true) (tyC : typeIn K (.ref C) = some (.type "type")) (hdC : hasDictIn K C = true) (isC : isClsIn K C = true) (suC : subIn K (.ref C) (.ref C) = some true)
    (l1 : K.lookup fI = some ⟨oc, od, .func (fnOf "__init__" qn (Ex_at.iA p1 p2) (Ex_at.iB q1 q2 q3 q4) (Ex_at.iS ms) .none .none dc pm an cd ct), sl⟩) (c1 : codeIn K cd qn = true) : Ex_at.Txt K mg cn C fI :=
  { gC := mg_of X G aC, cls := ⟨q, N, bs, bm, sn, sub, ab, col, dd, m0, m1, m2, m3, m5, xL, hbm⟩, sa := sa, ga := ga, gg := gg, noN := noN, iC := iC, rC := rC, cC := cC, spC := spC, tkC := tkC, mrC := mrC, tC := tC, kC := kC, exC := exC, tyC := tyC, hdC := hdC,
    te := exm_cl exC isC tyC suC, fn := ⟨qn, oc, od, dc, pm, an, cd, ct, sl, p1, p2, q1, q2, q3, q4, ms, l1, c1⟩ }
end
/-! ### exceptions of one field, many -/
namespace Ex_many
open PySem PySem.W PySem.Calls PyProof.Rows PySem.HandSPX
def iA (p1 p2 : Pos) : Arguments := { posonlyargs := [], args := [{ arg := "self", annotation := none, pos := p1 }, { arg := "many", annotation := none, pos := p2 }], vararg := none, kwonlyargs := [], kw_defaults := [], kwarg := none, defaults := [] }
def iB (q1 q2 q3 q4 : Pos) : List Stmt := [.Assign [.Attribute (.Name "self" q1) "many" q2] (.Name "many" q3) q4]
def iS (ms : List (Str × Const)) : Scope := { kind := .function, names := [(PySem.Str.ofString "self", .local), (PySem.Str.ofString "many", .local)], isGenerator := false, isCoroutine := false, more := ms }
/-- what the written part says of the class cn at C, and of its __init__, at fI -/
structure Txt (K : Frag) (mg : Str → Option Value) (cn : Str) (C fI : Addr) : Prop where
  gC : mg cn = some (.ref C)
  cls : ∃ q N bs bm sn sub ab col dd k0 k1 k2 k3 k5, K.lookup C = some (excClassObj cn q C N bs bm true sn sub ab col dd k0 k1 k2 k3 k5 "LookupError.__new__") ∧ excTail [.type "LookupError", .type "Exception", .type "BaseException", .type "object"] bm = true
  sa : findIn K (.ref C) "__setattr__" = some (some (.builtin "object.__setattr__"))
  ga : findIn K (.ref C) "__getattribute__" = some (some (.builtin "BaseException.__getattribute__"))
  gg : findIn K (.ref C) "__getattr__" = some none
  noN : findIn K (.ref C) "many" = some none
  iC : findIn K (.ref C) "__init__" = some (some (.ref fI))
  rC : findIn K (.ref C) "__repr__" = some (some (.builtin "BaseException.__repr__"))
  cC : findIn K (.ref C) "__class__" = some (some (.builtin "object.__class__"))
  spC : specialIn K (.builtin "object.__class__") "__get__" = some (some (.builtin "getset_descriptor.__get__"))
  tkC : takesIn K (.builtin "object.__class__") = some true
  mrC : mroIn K C (.type "object") = some true
  tC : typeIn K (.ref fI) = some (.type "function")
  kC : keepIn K (.ref C) = true
  exC : subIn K (.ref C) (.type "BaseException") = some true
  tyC : typeIn K (.ref C) = some (.type "type")
  hdC : hasDictIn K C = true
  te : exmOne K (.ref C) (.ref C) = some true
  fn : ∃ (qn : Str) (oc : Value) (od : Option Addr) (doc pm : Value) (an : Option Addr) (cdv ct : Value) (osl : Array (Option Value)) (p1 p2 q1 q2 q3 q4 : Pos) (ms : List (Str × Const)),
    K.lookup fI = some ⟨oc, od, .func (fnOf "__init__" qn (iA p1 p2) (iB q1 q2 q3 q4) (iS ms) .none .none doc pm an cdv ct), osl⟩ ∧ codeIn K cdv qn = true
theorem one_le (v : Value) : [v].length ≤ sizeLine := by
  rw [sizeLine_eq]
  exact (by decide : 1 ≤ 16777216)
theorem ldN {M : Model} {s : Shared} {name : Str} {scope : Scope} {L a : Addr} {cd : Value} {m : Str → Option Value} {x : Str} {pos : Pos} {v : Value} {Q : Value → Shared → Prop} {A : Around} {E : Value → Shared → Prop} (hn : s.heap.Ns L m) (hv : m x = some v) (h : Q v s)
    (hk : scope.kind = .function := by rfl) (hl : (envOfC name scope L a cd).kindOf x = some .local := by rfl) (hd : (x == ("__debug__" : Str)) = false := by decide) :
    wpAny M A (eval (.Name x pos) (envOfC name scope L a cd)) Q E s := wpAny_Name (wpAny_loadName_local hk hl hn hv h) hd
/-- what __init__ leaves of a fresh exception at x -/
structure InitEnd (h h' : Heap) (x C dx t1 : Addr) (v : Value) : Prop where
  keep : ∀ b o, b ≠ x → h.get? b = some o → h'.get? b = some o
  obj : h'.get? x = some { cls := .ref C, dict := some dx, data := .fields #[.ref t1, .none, .none, .none, .bool false, .none] }
  dbig : h.objs.size ≤ dx
  dne : dx ≠ x
  ns : h'.Ns1 dx (fun y => if y = "many" then some v else none)
/-- a made one: the arguments' tuple at t, the exception at e, its dict at d -/
structure Made (h h' : Heap) (t e C d : Addr) (v : Value) : Prop where
  keep : ∀ b o, (h.push (kdv_tup [v])).get? b = some o → h'.get? b = some o
  ht : t = h.objs.size
  he : e = h.objs.size + 1
  obj : h'.get? e = some { cls := .ref C, dict := some d, data := .fields #[.ref t, .none, .none, .none, .bool false, .none] }
  dbig : h.objs.size + 1 + 1 ≤ d
  dne : d ≠ e
  ns : h'.Ns1 d (fun y => if y = "many" then some v else none)
section
variable {prog : Program} {w : World} {A : Around} {E : Value → Shared → Prop} {R : Result → Shared → Prop} {s : Shared} {K : Frag} {mg : Str → Option Value} {cn : Str} {C fI : Addr}
theorem init_run (T : Txt K mg cn C fI) {x t0 : Addr} {v : Value} (X : K.In s.heap) (hlim : s.heap.NoLimit) (hx : s.heap.get? x = some (excO C t0)) (hnx : K.lookup x = none) (hroom : A.depth < recursionLimit)
    (hq : ∀ h' tk dx, InitEnd s.heap h' x C dx t0 v → R (.ok (.ret .none)) { s with heap := h', toks := tk }) :
    codeAny (model prog w) A (.call (.ref fI) ⟨[.ref x, v], []⟩) R s := by
  obtain ⟨qn, oc, od, doc, pm, an, cdv, ct, osl, p1, p2, q1, q2, q3, q4, ms, ho, hcd⟩ := T.fn
  obtain ⟨q, N, bs, bm, sn, sub, ab, col, dd, k0, k1, k2, k3, k5, hC, hbm⟩ := T.cls
  have hcl : clsIn K C = some { name := cn, bases := bs, mro := .ref C :: bm, ns := N, qualname := q, hasDict := true, slotNames := sn, subclasses := sub, abstract := ab, collection := col, hasDel := false } := by unfold clsIn; rw [hC] <;> rfl
  refine Att.call_fn (binds := [("self", .ref x), ("many", v)]) X hlim ho hcd hroom (BindsTo.of_eq (by first | rfl | with_unfolding_all rfl)) (by first | rfl | decide | with_unfolding_all rfl) (fun s₁ IC => ?_) rfl rfl rfl
  obtain ⟨h₁, tk₁, rfl⟩ := IC.toInCall.same
  have k : ∀ b o, s.heap.get? b = some o → h₁.get? b = some o := IC.toInCall.keep
  have hn := IC.toInCall.ns
  have X₁ : K.In h₁ := X.keeps k
  have hx₁ := k _ _ hx
  show wpAny _ _ (execs _ _) _ _ _
  refine wpAny_execs_cons (plainObj_wpAny_Assign_Attribute ?_)
  refine ldN (v := v) hn (by first | rfl | with_unfolding_all rfl | kernel_rfl) (ldN (v := .ref x) hn (by first | rfl | with_unfolding_all rfl | kernel_rfl) ?_)
  refine set_plain X₁ (ox := excO C t0) (od := none) ⟨hx₁, rfl, rfl, trivial⟩ T.sa ?_
  have hov : excOver K C [.type "LookupError", .type "Exception", .type "BaseException", .type "object"] = true := by
    unfold excOver
    rw [hcl]
    show ((C == C) && excTail _ bm) = true
    rw [hbm]
    simp
  refine Dw.osa_first F.store_LookupError X₁ hx₁ hcl hov rfl T.noN (fun h₃ tk₃ dx k₃ dn dne hx₃ hn₃ => ?_)
  show wpAny _ _ (execs _ _) _ _ _
  have z : s.heap.objs.size < h₁.objs.size := hn.lt
  exact wpAny_execs_nil (hq h₃ tk₃ dx ⟨fun b o hb e => k₃ b o hb (k b o e), hx₃, Nat.le_of_lt (Nat.lt_of_lt_of_le z dn), dne, hn₃⟩)
theorem make_run (T : Txt K mg cn C fI) {v : Value} (X : K.In s.heap) (hlim : s.heap.NoLimit) (hroom : A.depth + 1 < recursionLimit)
    (hq : ∀ h' tk t e d, Made s.heap h' t e C d v → R (.ok (.ret (.ref e))) { s with heap := h', toks := tk }) :
    codeAny (model prog w) A (.call (.ref C) ⟨[v], []⟩) R s := by
  obtain ⟨q, N, bs, bm, sn, sub, ab, col, dd, k0, k1, k2, k3, k5, hC, hbm⟩ := T.cls
  obtain ⟨hp, g, dr, tk, os⟩ := s
  have k : ∀ b o, hp.get? b = some o → ((hp.push (kdv_tup [v])).push (excO C hp.objs.size)).get? b = some o := fun b o e => Heap.get?_push_of_some _ (Heap.get?_push_of_some _ e)
  have hget : ((hp.push (kdv_tup [v])).push (excO C hp.objs.size)).get? (hp.objs.size + 1) = some (excO C hp.objs.size) := by heap_get
  have hnx : K.lookup (hp.objs.size + 1) = none := by
    cases e : K.lookup (hp.objs.size + 1) with
    | none => rfl
    | some o =>
      have z : hp.get? (hp.objs.size + 1) = some o := X _ _ e
      exact absurd (Nat.lt_of_succ_lt (Heap.lt_size z)) (Nat.lt_irrefl _)
  refine call_own F.excBase_LookupError (fun X => excTail_contains X bm hbm) (X _ _ hC) (looks_findIn X T.iC) (fun self => bind_fn X self T.tC) (one_le v) ?_
  refine init_run (s := ⟨(hp.push (kdv_tup [v])).push (excO C hp.objs.size), g, dr, tk, os⟩) T (X.keeps k) (hlim.keeps k) hget hnx ?_ fun h' tk' dx ⟨k', hx, dn, dne, hns⟩ => ?_
  · show A.depth + 1 < recursionLimit
    exact hroom
  · have old : ∀ b o, (hp.push (kdv_tup [v])).get? b = some o → h'.get? b = some o := fun b o e => by
      refine k' b o (Nat.ne_of_lt ?_) (Heap.get?_push_of_some _ e)
      have := Heap.lt_size e
      rw [Heap.size_push] at this
      exact this
    have z : hp.objs.size + 1 + 1 ≤ dx := by
      first
        | (simpa only [Heap.size_push] using dn)
        | exact dn
        | (have q := dn; rw [Heap.size_push, Heap.size_push] at q; exact q)
    exact ⟨rfl, hq h' tk' hp.objs.size (hp.objs.size + 1) dx ⟨old, rfl, rfl, hx, z, dne, hns⟩⟩
end
end Ex_many
section
open Ex_many
variable {X : Cx} {C fI : Addr} {cn : Str} {a : Expr} {r : En} {m : Mu} {F : Pd} {E : Xd} {P : Pc} {p pos pos2 : Pos} {k : Nat} {N : List Str}
theorem relo_many {v : V} {v' : Value} (rv : RelV v v') (f : Str) : RelO (List.lookup f [(("many" : Str), v)]) (if f = "many" then some v' else none) := by
  by_cases hw : f = "many"
  · subst hw
    rw [if_pos rfl, show List.lookup ("many" : Str) [(("many" : Str), v)] = some v by simp [List.lookup]]
    exact rv
  · have qw : (f == ("many" : Str)) = false := by simpa using hw
    rw [if_neg hw, show List.lookup f [(("many" : Str), v)] = none by simp [List.lookup, qw]]
    trivial
def tMk_many (C : Addr) (ta : TA) : L2.St → Hp → XK → Prop := fun g H Q => ta g H fun vs H1 => ∃ v, vs = [v] ∧ ∀ d, H1 d = none → Q (.ref C) (some d) (upd H1 d (.xd [(("many" : Str), v)]))
theorem pmk_many {ta : TA} (T : Txt X.K X.mg cn C fI) (hr : Room k X.A) (ha : PA X [a] ta) (hg : Gl X cn := by rfl) (hdb : (cn == ("__debug__" : Str)) = false := by decide)
    (he : starEach (a :: []) X.env = (false, eval a X.env) :: starEach [] X.env := by rfl) (hpl : (backTo pos (starEach [] X.env)).any (·.1) = false := by rfl) :
    PMk X (.Call (.Name cn p) [a] [] pos) (tMk_many C ta) := by
  intro pins s g H Q I h
  refine wpAny_Call_Name_kw (ld_glob I hg T.gC ?_ hdb)
  refine PySem.W.callWith_K (h₀ := X.base) I.ok.mod.kin T.kC (thn (ha.run pos pins s g H _ I h) fun us s1 hh => ?_) he hpl
  obtain ⟨vs, H1, I1, r1, v, ev, q1⟩ := hh
  subst ev
  refine ⟨I1.kIn, ?_⟩
  cases r1 with
  | cons rv rn =>
    rename_i v' us'
    cases rn
    show wpAny _ _ (call (.ref C) [v']) _ _ _
    have hlim := I1.nolimit
    obtain ⟨hp, gs, dr, tk, os⟩ := s1
    refine wpAny_call (make_run T I1.kIn hlim (by have := hr.dp; omega) fun h' tk' t e d M => ?_)
    show MkP X pins g Q (.ref e) ⟨h', gs, dr, tk', os⟩
    have hns := M.ns
    have bigE : hp.objs.size ≤ e := by rw [M.he]; exact Nat.le_succ _
    have bigD : hp.objs.size ≤ d := Nat.le_trans (Nat.le_trans (Nat.le_succ _) (Nat.le_succ _)) M.dbig
    obtain ⟨G', g1, g2⟩ := restrict h' fun b => decide (b ≠ e)
    have gk : ∀ b, b ≠ e → G'.get? b = h'.get? b := fun b hb => g1 b (decide_eq_true hb)
    have ge : G'.get? e = none := g2 e (by simp)
    have old : ∀ b o, hp.get? b = some o → G'.get? b = some o := fun b o q => (gk b (Nat.ne_of_lt (Nat.lt_of_lt_of_le (Heap.lt_size q) bigE))).trans (M.keep b o (Heap.get?_push_of_some _ q))
    have ob : ObjOk X.prog X.w (upd H1 d (.xd [(("many" : Str), v)])) G' d (.xd [(("many" : Str), v)]) := ⟨_, hns.at (fun o q => (gk d M.dne).trans q), fun f => relo_many rv f⟩
    have J : Inv X pins g (upd H1 d (.xd [(("many" : Str), v)])) ⟨G', gs, dr, tk', os⟩ := I1.laid (t' := tk') old bigD ob
    refine ⟨e, _, _, ⟨G', gs, dr, tk', os⟩, _, .ref C, some d, rfl, J, fun b o q => ?_, ge, M.obj, ⟨rfl, rfl⟩, rfl, rfl, ?_, rfl, I1.bare, raises_own T.exC T.tyC, q1 d (I1.hok.fresh bigD)⟩
    · by_cases hb : b = e
      · have q' : G'.get? b = some o := q
        rw [hb, ge] at q'; cases q'
      · exact (gk b hb).symm.trans q
    · rw [upd_ne (Ne.symm M.dne)]
      exact I1.hok.fresh bigE
/-- raise cn(e) -/
theorem ls_raise_many (T : Txt X.K X.mg cn C fI) (gd : Gd k N X) (h : LA X [a] r m (fun ds m1 => ∃ d, ds = [d] ∧ P.ex (.ref C) [(("many" : Str), d)] r m1) P.ex) (hg : Gl X cn := by rfl) (hdb : (cn == ("__debug__" : Str)) = false := by decide)
    (he : starEach (a :: []) X.env = (false, eval a X.env) :: starEach [] X.env := by rfl) (hpl : (backTo pos (starEach [] X.env)).any (·.1) = false := by rfl) :
    LS X (.Raise (some (.Call (.Name cn p) [a] [] pos)) none pos2) r m P := by
  refine ⟨fun Z g H D W rp tk np => (ps_raise gd.calm tk (pmk_many T gd.room pa_w hg hdb he hpl)).w ?_⟩
  refine h.run Z g H _ W rp tk (fun vs H1 ds m1 q go so da => ?_) np.ex
  obtain ⟨d, rfl, q⟩ := q
  cases da with
  | cons d1 d2 =>
    rename_i v vs
    cases d2
    refine ⟨_, rfl, fun dx hd => ?_⟩
    have gf : Go m1 H1 m1 (upd H1 dx (.xd [(("many" : Str), v)])) := Ext.fresh hd
    exact np.ex _ dx _ _ g _ r m1 q (go.trans gf) (rp.go (go.trans gf) (so.laid hd)) (so.fresh hd) upd_same (.cons (d1.move (Go.full Z gf)) .nil)
/-- cn(e) as a value -/
theorem le_exc_many (T : Txt X.K X.mg cn C fI) (gd : Gd k N X) (h : LA X [a] r m (fun ds m1 => ∃ d, ds = [d] ∧ F (.exc C cn [d]) m1) E) (hg : Gl X cn := by rfl) (hdb : (cn == ("__debug__" : Str)) = false := by decide)
    (he : starEach (a :: []) X.env = (false, eval a X.env) :: starEach [] X.env := by rfl) (hpl : (backTo pos (starEach [] X.env)).any (·.1) = false := by rfl) :
    LE X (.Call (.Name cn p) [a] [] pos) r m F E := by
  refine ⟨fun Z g H Q W rp tk nk nx pins s I => ?_⟩
  refine wpAny_Call_Name_kw (ld_glob I hg T.gC ?_ hdb)
  refine PySem.W.callWith_K (h₀ := X.base) I.ok.mod.kin T.kC (thn (h.run Z g H (fun vs H1 => ∃ v, vs = [v] ∧ ∀ t e dx, H1 t = none → H1 e = none → H1 dx = none → e ≠ t → dx ≠ t → dx ≠ e → Q (.ref e) (upd (upd (upd H1 t (.tup [v])) e (.ext (ExO e C t dx))) dx (.xd [(("many" : Str), v)]))) W rp tk (fun vs H1 ds m1 q go so da => ?_) nx pos pins s I) fun us s1 hh => ?_) he hpl
  · obtain ⟨d, rfl, q⟩ := q
    cases da with
    | cons d1 d2 =>
      rename_i v vs
      cases d2
      refine ⟨_, rfl, fun t e dx ht hee hdx n1 n2 n3 => ?_⟩
      have g1 : Go m1 H1 m1 (upd H1 t (.tup [v])) := Ext.fresh ht
      have s1 := so.laid (o := .tup [v]) ht
      have he2 : (upd H1 t (.tup [v])) e = none := by rw [upd_ne n1]; exact hee
      have g2 : Go m1 (upd H1 t (.tup [v])) m1 (upd (upd H1 t (.tup [v])) e (.ext (ExO e C t dx))) := Ext.fresh he2
      have s2 := s1.laid (o := .ext (ExO e C t dx)) he2
      have he3 : (upd (upd H1 t (.tup [v])) e (.ext (ExO e C t dx))) dx = none := by rw [upd_ne n3, upd_ne n2]; exact hdx
      have g3 : Go m1 (upd (upd H1 t (.tup [v])) e (.ext (ExO e C t dx))) m1 (upd (upd (upd H1 t (.tup [v])) e (.ext (ExO e C t dx))) dx (.xd [(("many" : Str), v)])) := Ext.fresh he3
      have s3 := s2.laid (o := .xd [(("many" : Str), v)]) he3
      refine nk _ _ _ m1 q (((go.trans g1).trans g2).trans g3) s3 (.exc (s1.fresh he2) ?_ (so.fresh ht) ?_ (s2.fresh he3) upd_same (.cons (d1.move (Go.full Z ((g1.trans g2).trans g3))) .nil))
      · rw [upd_ne (Ne.symm n3)]
        exact upd_same
      · rw [upd_ne (Ne.symm n2), upd_ne (Ne.symm n1)]
        exact upd_same
  · obtain ⟨vs, H1, I1, r1, v, ev, q1⟩ := hh
    subst ev
    refine ⟨I1.kIn, ?_⟩
    cases r1 with
    | cons rv rn =>
      rename_i v' us'
      cases rn
      show wpAny _ _ (call (.ref C) [v']) _ _ _
      have hlim := I1.nolimit
      obtain ⟨hp, gs, dr, tk', os⟩ := s1
      refine wpAny_call (make_run T I1.kIn hlim (by have := gd.room.dp; omega) fun h' tk2 t e d M => ?_)
      have et := M.ht
      have ee := M.he
      subst et ee
      have I2 : L2.Inv X pins g (upd H1 hp.objs.size (.tup [v])) ⟨hp.push (PySem.W.kdv_tup [v']), gs, dr, tk', os⟩ := I1.laid (t' := tk') (fun b o e => Heap.get?_push_of_some _ e) (Nat.le_refl _) ⟨by rw [sizeLine_eq]; exact (by decide : 1 ≤ 16777216), [v'], .cons rv .nil, ⟨_, Heap.get?_push_size _ rfl, rfl, _, rfl⟩⟩
      have hs : (hp.push (PySem.W.kdv_tup [v'])).objs.size = hp.objs.size + 1 := Heap.size_push ..
      let oe : Obj := { cls := .ref C, dict := some d, data := .fields #[.ref hp.objs.size, .none, .none, .none, .bool false, .none] }
      have hge : ((hp.push (PySem.W.kdv_tup [v'])).push oe).get? (hp.objs.size + 1) = some oe := by rw [← hs]; exact Heap.get?_push_size _ rfl
      have I3 : L2.Inv X pins g (upd (upd H1 hp.objs.size (.tup [v])) (hp.objs.size + 1) (.ext (ExO (hp.objs.size + 1) C hp.objs.size d))) ⟨(hp.push (PySem.W.kdv_tup [v'])).push oe, gs, dr, tk', os⟩ :=
        I2.laid (t' := tk') (fun b o e => Heap.get?_push_of_some _ e) (by show (hp.push (PySem.W.kdv_tup [v'])).objs.size ≤ _; rw [hs]; exact Nat.le_refl _) ⟨⟨oe, _, hge, rfl, rfl, rfl, rfl⟩, ⟨_, hge⟩, fun h1 h2 p kk => by
          obtain ⟨o, vs, e1, e2⟩ := p
          exact ⟨o, vs, kk o e1, e2⟩⟩
      have hs2 : ((hp.push (PySem.W.kdv_tup [v'])).push oe).objs.size = hp.objs.size + 1 + 1 := by rw [Heap.size_push, hs]
      have ob : ObjOk X.prog X.w (upd (upd (upd H1 hp.objs.size (.tup [v])) (hp.objs.size + 1) (.ext (ExO (hp.objs.size + 1) C hp.objs.size d))) d (.xd [(("many" : Str), v)])) h' d (.xd [(("many" : Str), v)]) := ⟨_, M.ns, fun f => relo_many rv f⟩
      have I4 : L2.Inv X pins g (upd (upd (upd H1 hp.objs.size (.tup [v])) (hp.objs.size + 1) (.ext (ExO (hp.objs.size + 1) C hp.objs.size d))) d (.xd [(("many" : Str), v)])) ⟨h', gs, dr, tk2, os⟩ := by
        refine I3.laid (t' := tk2) (fun b o e => ?_) (by show ((hp.push (PySem.W.kdv_tup [v'])).push oe).objs.size ≤ d; rw [hs2]; exact M.dbig) ob
        by_cases hb : b = hp.objs.size + 1
        · subst hb
          have e' : ((hp.push (PySem.W.kdv_tup [v'])).push oe).get? (hp.objs.size + 1) = some o := e
          rw [hge] at e'
          cases e'
          exact M.obj
        · refine M.keep b o ?_
          rw [← Heap.get?_push_ne _ b oe (by rw [hs]; exact hb)]
          exact e
      have bd : hp.objs.size + 1 + 1 ≤ d := M.dbig
      have f3 : hp.objs.size ≤ d := Nat.le_trans (Nat.le_trans (Nat.le_succ _) (Nat.le_succ _)) bd
      have n1 : hp.objs.size + 1 ≠ hp.objs.size := Nat.ne_of_gt (Nat.lt_succ_self _)
      have n2 : d ≠ hp.objs.size := Nat.ne_of_gt (Nat.lt_of_lt_of_le (Nat.lt_succ_of_lt (Nat.lt_succ_self _)) bd)
      have n3 : d ≠ hp.objs.size + 1 := Nat.ne_of_gt (Nat.lt_of_lt_of_le (Nat.lt_succ_self _) bd)
      exact ⟨.ref _, _, I4, rfl, q1 _ _ _ (I1.hok.fresh (Nat.le_refl _)) (I1.hok.fresh (Nat.le_succ _)) (I1.hok.fresh f3) n1 n2 n3⟩
end
section
open PySem.W PySem.Calls PySem.HandSPX
theorem Ex_many.mk {K : Frag} {h : Heap} {mg : Str → Option Value} {C fI N : Addr} {cn qn q : Str} {bs bm : List Value} {sn : List Str} {sub : List Value} {ab : Bool} {col : Option Bool} {dd od an : Option Addr} {m0 m1 m2 m3 m5 : Option Value}
    {oc dc pm cd ct : Value} {sl : Array (Option Value)} {p1 p2 q1 q2 q3 q4 : Pos} {ms : List (Str × Const)} (X : K.In h) (G : h.Ns mainGlobals mg)
    (aC : nsIn K mainGlobals cn = some (some (.ref C))) (xL : K.lookup C = some (excClassObj cn q C N bs bm true sn sub ab col dd m0 m1 m2 m3 m5 "LookupError.__new__")) (hbm : PySem.W.excTail [.type "LookupError", .type "Exception", .type "BaseException", .type "object"] bm = true)
    (sa : findIn K (.ref C) "__setattr__" = some (some (.builtin "object.__setattr__"))) (ga : findIn K (.ref C) "__getattribute__" = some (some (.builtin "BaseException.__getattribute__"))) (gg : findIn K (.ref C) "__getattr__" = some none) (noN : findIn K (.ref C) "many" = some none)
    (iC : findIn K (.ref C) "__init__" = some (some (.ref fI))) (rC : findIn K (.ref C) "__repr__" = some (some (.builtin "BaseException.__repr__"))) (cC : findIn K (.ref C) "__class__" = some (some (.builtin "object.__class__")))
    (spC : specialIn K (.builtin "object.__class__") "__get__" = some (some (.builtin "getset_descriptor.__get__"))) (tkC : takesIn K (.builtin "object.__class__") = some true) (mrC : mroIn K C (.type "object") = some true) (tC : typeIn K (.ref fI) = some (.type "function"))
    (kC : keepIn K (.ref C) = true) (exC : subIn K (.ref C) (.type "BaseException") = some true) (tyC : typeIn K (.ref C) = some (.type "type")) (hdC : hasDictIn K C = true) (isC : isClsIn K C = true) (suC : subIn K (.ref C) (.ref C) = some true)
    (l1 : K.lookup fI = some ⟨oc, od, .func (fnOf "__init__" qn (Ex_many.iA p1 p2) (Ex_many.iB q1 q2 q3 q4) (Ex_many.iS ms) .none .none dc pm an cd ct), sl⟩) (c1 : codeIn K cd qn = true) : Ex_many.Txt K mg cn C fI :=
  { gC := mg_of X G aC, cls := ⟨q, N, bs, bm, sn, sub, ab, col, dd, m0, m1, m2, m3, m5, xL, hbm⟩, sa := sa, ga := ga, gg := gg, noN := noN, iC := iC, rC := rC, cC := cC, spC := spC, tkC := tkC, mrC := mrC, tC := tC, kC := kC, exC := exC, tyC := tyC, hdC := hdC,
    te := exm_cl exC isC tyC suC, fn := ⟨qn, oc, od, dc, pm, an, cd, ct, sl, p1, p2, q1, q2, q3, q4, ms, l1, c1⟩ }
end
end Dw
namespace Dw
open PySem PySem.Spec PyProof.Rows L2
open Builtin Builtin.Str Builtin.BaseException Builtin.Exceptions
open PySem.W (Looks Frag findIn subIn looks_findIn looks_subIn)
section
variable {prog : Program} {w : World} {M : Model} {A : Around} {E : Value → Shared → Prop} {s : Shared} {K : Frag} {C e t0 : Addr}
theorem callIf_C {v tp : Value} {name : Str} {i : String} {Q : Option Value → Shared → Prop} (hT : Looks M s.heap (typeOf v) tp) (hf : Looks M s.heap (typeLookup tp name) (some (.builtin i))) (hb : bindSpecial (.builtin i) v = pure (.builtin i, [v]))
    (hc : wpAny M A (call (.builtin i) [v]) (fun q => Q (some q)) E s) : wpAny M A (callSpecialIfBound? v name) Q E s := by
  simp only [callSpecialIfBound?, bindSpecialIfBound?]
  refine wpAny_holding (wpAny_bind (wpAny_bind ?_))
  unfold specialOf
  refine wpAny_bind (hT.here (hf.here ?_))
  simp only [hb]
  refine wpAny_bind (wpAny_askSetting (wpAny_ite ?_))
  have fin : wpAny M A (call (.builtin i) ([v] ++ []) >>= fun q => pure (some q)) Q E s := wpAny_bind (wpAny_mono hc (fun q s' h' => wpAny_pure h') fun _ _ h' => h')
  split
  · exact wpAny_bind (wpAny_pure (wpAny_pure fin))
  · exact wpAny_tryCatch (wpAny_bind (wpAny_pure (wpAny_pure fin)))
/-- the class's name -/
def NmC (K : Frag) (C : Addr) (cn : Str) : Prop := ∃ o cd, K.lookup C = some o ∧ o.data = .cls cd ∧ cd.name = cn
theorem nameW_C {cn : Str} {Q : String → Shared → Prop} (x : ExcC K C e t0 s.heap) (hn : NmC K C cn) (hq : Q cn.toString s) : wpAny M A (typeNameOfWhole (.ref e)) Q E s := by
  unfold typeNameOfWhole shownTypeOf
  refine wpAny_bind (wpAny_bind (x.LT.here ?_))
  rw [if_neg (show ¬ ((Value.ref C == Value.type "builtin_function_or_method") = true) from fun z => nomatch (beq_iff_eq.mp z))]
  refine wpAny_pure ?_
  obtain ⟨o, cd, h1, h2, h3⟩ := hn
  unfold typeNameWhole classData
  refine wpAny_bind (wpAny_bind (wpAny_load (x.1 _ _ h1) ?_))
  rw [h2]
  refine wpAny_pure (wpAny_pure ?_)
  rw [h3]
  exact hq
def leafV (v : Value) : Prop := ∀ a, v ≠ .ref a
theorem bexcRepr_C {cn : Str} {u : Value} {tx : Str} {Q : Fin → Shared → Prop} (x : ExcC K C e t0 s.heap) (hn : NmC K C cn) (ht : s.heap.TupAt t0 [u]) (hl : leafV u) (hz : (excReprHead cn.toString).length + 1 ≤ sizeLine)
    (hz2 : (excReprHead cn.toString ++ "(" ++ tx ++ ")").length ≤ sizeLine)
    (hu : ∀ (Q' : Str → Shared → Prop), (∀ tk, Q' tx { s with toks := tk }) → wpAny (model prog w) A (pyRepr u) Q' E s)
    (hq : ∀ t tk, Q (.done (.ret (.str (excReprHead cn.toString ++ "(" ++ tx ++ ")") t))) { s with toks := tk }) : wpAny (model prog w) A (Builtin.«BaseException.__repr__» ⟨[.ref e], []⟩) Q E s := by
  unfold Builtin.«BaseException.__repr__» Builtin.bexcReprAt
  refine wpAny_bind (wpAny_of_eq (a := ((Value.ref e : Value), ([] : List Value))) (by first | rfl | (simp only [slotArgs]; rfl)) ?_)
  refine wpAny_bind (nameW_C x hn ?_)
  refine wpAny_bind (bexcArgs_C x ht ?_)
  refine wpAny_bind (wpAny_rule ?_)
  rw [pyReprUnder_leaf (by have := hz; unfold excReprHead at this; omega) hl]
  refine wpAny_bind (hu _ fun tk => ?_)
  unfold retStr
  exact wpAny_bind (wpAny_mkStr (wpAny_pure (hq _ _)) hz2)
theorem repr_C {cn : Str} {u : Value} {tx : Str} {Q : Value → Shared → Prop} (x : ExcC K C e t0 s.heap) (hn : NmC K C cn) (hrp : findIn K (.ref C) "__repr__" = some (some (.builtin "BaseException.__repr__"))) (hB : subIn K (.ref C) (.type "BaseException") = some true)
    (ht : s.heap.TupAt t0 [u]) (hl : leafV u) (hz : (excReprHead cn.toString).length + 1 ≤ sizeLine) (hz2 : (excReprHead cn.toString ++ "(" ++ tx ++ ")").length ≤ sizeLine) (hun : A.units + 2 < cLine)
    (hu : ∀ (A' : Around) (E' : Value → Shared → Prop) (Q' : Str → Shared → Prop), (∀ tk, Q' tx { s with toks := tk }) → wpAny (model prog w) A' (pyRepr u) Q' E' s)
    (hq : ∀ t tk, Q (.str (excReprHead cn.toString ++ "(" ++ tx ++ ")") t) { s with toks := tk }) : wpAny (model prog w) A (call (.builtin "repr") [.ref e]) Q E s := by
  have hf : Looks (model prog w) s.heap (typeLookup (.ref C) "__repr__") (some (.builtin "BaseException.__repr__")) := looks_findIn x.1 hrp
  refine Calls.call_function_entry F.kind_repr F.plain_repr F.entry_repr (F.args_repr1 _) ?_
  unfold Builtin.«repr»
  refine wpAny_bind (m := oneArg "repr" _) (wpAny_pure ?_)
  refine wpAny_bind (wpAny_cRoomFor (by show A.units + 1 < cLine; omega) ?_)
  refine wpAny_bind ?_
  unfold specialOf
  refine wpAny_bind (x.LT.here (hf.here ?_))
  rw [if_neg (by simp)]
  refine wpAny_bind (m := callSpecialIfBound? (.ref e) (Str.ofString "__repr__") _) (callIf_C x.LT hf (F.excStr_Exception.repr.bind _) ?_)
  refine wpAny_call (codeAny_call_builtin F.excStr_Exception.repr.plain F.entry_bexc_repr (@PySem.W.check_slot (model prog w) _ _ s "BaseException.__repr__" "BaseException" "__repr__" (.ref e) [] [] _ (by decide +kernel) (by decide +kernel) (x.LI hB) (F.args_bexc_repr _) ?_))
  refine bexcRepr_C x hn ht hl hz hz2 (fun Q' h => hu _ _ Q' h) fun t tk => ?_
  refine wpAny_bind (wpAny_isInstance (typeIs_str _ _ _) isSubtype_str_str ?_)
  rw [if_pos rfl]
  exact wpAny_pure ⟨_, rfl, hq t tk⟩
end
/-- what is known of an exception's class -/
structure XF (K : Frag) (C : Addr) (cn : Str) : Prop where
  nm : NmC K C cn
  rp : findIn K (.ref C) "__repr__" = some (some (.builtin "BaseException.__repr__"))
  ex : subIn K (.ref C) (.type "BaseException") = some true
  cl : (PySem.W.clsIn K C).isSome = true
  ga : findIn K (.ref C) "__getattribute__" = some (some (.builtin "BaseException.__getattribute__"))
  gg : findIn K (.ref C) "__getattr__" = some none
  cc : findIn K (.ref C) "__class__" = some (some (.builtin "object.__class__"))
  sp : PySem.W.specialIn K (.builtin "object.__class__") "__get__" = some (some (.builtin "getset_descriptor.__get__"))
  tk : PySem.W.takesIn K (.builtin "object.__class__") = some true
  mr : PySem.W.mroIn K C (.type "object") = some true
  len : (excReprHead cn.toString).length ≤ 100
theorem ExO.at {X : Cx} {pins : List (Addr × Obj)} {g : L2.St} {H : Hp} {s : Shared} (I : L2.Inv X pins g H s) {a C t dx : Addr} {xs : List V} (h1 : H a = some (.ext (ExO a C t dx))) (h2 : H t = some (.tup xs)) :
    ExcC X.K C a t s.heap ∧ ∃ us, Vals xs us ∧ s.heap.TupAt t us := by
  obtain ⟨⟨o, vs, e1, e2, e3, e4, _⟩, _⟩ := (show ObjOk X.prog X.w H s.heap a (.ext (ExO a C t dx)) from I.hok a _ h1)
  obtain ⟨_, us, rv, o2, f1, f2, n, f3⟩ := (show ObjOk X.prog X.w H s.heap t (.tup xs) from I.hok t _ h2)
  exact ⟨⟨I.kIn, o, vs, e1, e2, e3, e4⟩, us, rv, o2, n, f1, f2, f3⟩
/-- a thing that has no things in it -/
def leaf : Dt → Bool
  | .non => true
  | .bl _ => true
  | .int _ => true
  | .str _ => true
  | _ => false
def rep : Dt → Str
  | .exc _ nm [d] => excReprHead nm.toString ++ "(" ++ shows d ++ ")"
  | d => shows d
section
variable {X : Cx} {m : Mu} {F : Pd} {k : Nat} {N : List Str}
theorem c_repr_exc {C : Addr} {cn : Str} {d : Dt} (hu : X.A.units + 64 < cLine) (T : XF X.K C cn) (hl : leaf d = true) (h : Shw d) (hz : (shows d).length ≤ 10000) (q : F (.str (rep (.exc C cn [d]))) m) : OC X (.builtin "repr") [.exc C cn [d]] m F := by
  refine ⟨fun Z H vs Q so da nk pins s g I us rv => ?_⟩
  cases da with
  | cons d1 d2 =>
    cases d2
    cases rv with
    | cons r1 r2 =>
      cases r2
      cases d1 with
      | exc n1 h1 n2 h2 n4 h4 h3 =>
        cases r1
        obtain ⟨x, ws, rw', ht⟩ := ExO.at I h1 h2
        cases h3 with
        | cons e1 e2 =>
          cases e2
          cases rw' with
          | cons ru rn =>
            cases rn
            have hsl : sizeLine = 16777216 := sizeLine_eq
            have hp : (Str.ofString "(").length = 1 := by decide +kernel
            have hp2 : (Str.ofString ")").length = 1 := by decide +kernel
            refine repr_C (tx := shows d) x T.nm T.rp T.ex ht ?_ (by have := T.len; omega) ?_ (by omega) ?_ fun t tk => ⟨.str _, H, I.tok tk, ⟨_, rfl⟩, nk _ H _ m q Ext.rfl' so (.str _)⟩
            · intro a z
              subst z
              cases e1 with
              | non => exact nomatch (show Value.ref a = Value.none from ru)
              | bl b => exact nomatch (show Value.ref a = Value.bool b from ru)
              | int i => obtain ⟨t, e⟩ := ru; cases e
              | str y => obtain ⟨t, e⟩ := ru; cases e
              | _ => cases hl
            · rw [strLen_append, strLen_append, strLen_append, hp, hp2]
              have := T.len
              omega
            · intro A' E' Q' hq
              cases e1 with
              | non => cases ru; unfold pyRepr; exact wpAny_bind (pyReprObj_none (wpAny_pure (hq _)))
              | bl b => cases ru; unfold pyRepr; exact wpAny_bind (pyReprObj_bool (wpAny_pure (hq _)))
              | int i => obtain ⟨t, rfl⟩ := ru; unfold pyRepr; exact wpAny_bind (pyReprObj_int (by have := h.sh; simpa [py, PyData.showable] using this) (wpAny_pure (hq _)))
              | str y => obtain ⟨t, rfl⟩ := ru; unfold pyRepr; exact wpAny_bind (pyReprObj_str (wpAny_pure (hq _)) (by have := h.sz; simpa only [shows, py, PyData.shown] using this))
              | _ => cases hl
theorem c_repr_dct0 (hg : X.A.guards = some []) (hu : X.A.units + 64 < cLine) (q : F (.str (shows (.dct []))) m) : OC X (.builtin "repr") [.dct []] m F := by
  refine ⟨fun Z H vs Q so da nk pins s g I us rv => ?_⟩
  cases da with
  | cons d1 d2 =>
    cases d2
    cases rv with
    | cons r1 r2 =>
      cases r2
      cases d1 with
      | dct n1 h1 h2 =>
        cases h2
        cases r1
        obtain ⟨_, ns, vs, kv, o, es, ep, e1, e2, e3, e4, e5, _⟩ := (show ObjOk X.prog X.w H s.heap _ (.dK []) from (I.hok _ _ h1).2)
        cases kv
        have e6 : es.toList = [] := by
          cases e : es.toList with
          | nil => rfl
          | cons y ys => rw [e] at e5; cases e5
        have h10 : PyData.depth (.dict []) ≤ 10 := (by decide)
        have rd : Reads s.heap (.ref _) (.dict []) _ := .dict (as := []) (bs := []) e1 e2.1 e3 (by rw [e6]; exact .nil) (by rw [e6]; exact .nil)
        refine repr_of_reads' rd (by decide) (fun _ z => ?_) hg (by omega) (fun _ _ e => e) (fun h' u tk hk => ⟨.str _, H, I.kept hk, ⟨_, rfl⟩, nk _ H _ m q Ext.rfl' so (.str _)⟩) (by decide +kernel)
        simp only [List.append_nil, List.mem_singleton] at z
        rw [← z] at ns
        simp at ns
theorem c_isi_exc {C : Addr} {cn : Str} {ds : List Dt} {T : String} {b : Bool} (hX : XF X.K C cn) (hb : PySem.W.kitOne X.K (.ref C) (.type T) = some b) (q : F (.bl b) m) : OC X (.builtin "isinstance") [.exc C cn ds, .raw (.ty T)] m F := by
  refine ⟨fun Z H vs Q so da nk pins s g I us rv => ?_⟩
  cases da with
  | cons d1 d2 =>
    cases d2 with
    | cons d2 d3 =>
      cases d3
      cases d2
      cases d1 with
      | exc n1 h1 n2 h2 n4 h4 h3 =>
        cases rv with
        | cons r1 r2 =>
          cases r2 with
          | cons r2 r3 =>
            cases r3
            cases r1
            cases r2
            obtain ⟨⟨o, vs, e1, e2, e3, e4, e5⟩, _⟩ := (show ObjOk X.prog X.w H s.heap _ (.ext (ExO _ C _ _)) from I.hok _ _ h1)
            obtain ⟨mA, ⟨od, es, ep, f1, _⟩, _⟩ := (show ObjOk X.prog X.w H s.heap _ (.xd _) from I.hok _ _ h4)
            have J : PySem.W.InstAt s.heap _ o C (some od) := ⟨e1, e2, by unfold PySem.W.notCls; rw [e3], by rw [e5]; exact f1⟩
            exact PySem.W.kia_one (PySem.W.kitx_exc hX.cl hX.ga hX.gg hX.ex hX.cc hX.sp hX.tk hX.mr) I.kIn J hb (fun z => nomatch z) fun tk => ⟨.bl b, H, I.tok tk, rfl, nk _ H _ m q Ext.rfl' so (.bl _)⟩
end
end Dw
namespace Dw
open PySem PySem.Spec PyProof.Rows L2
/-- the clauses of a try: the class, the name's slot (or none), the suite -/
abbrev Hdl := Option (Value × Option Nat × (Addr → Value → Option Addr → TS))
def gone (i : Nat) (D : Ends) : Ends := { nx := fun g H => D.nx (g.set i none) H, rt := D.rt, bk := fun g H => D.bk (g.set i none) H, ct := fun g H => D.ct (g.set i none) H }
def wHd (K : PySem.W.Frag) (Wo : WX) (D : Ends) : List Hdl → WX
  | [] => Wo
  | none :: _ => fun _ _ _ _ => False
  | some (c, none, ts) :: l => fun cls d g H => ∃ b, PySem.W.exmOne K cls c = some b ∧ (b = true → ∀ a, H a = none → ts a cls d D g H) ∧ (b = false → wHd K Wo D l cls d g H)
  | some (c, some i, ts) :: l => fun cls d g H => ∃ b, PySem.W.exmOne K cls c = some b ∧ (b = true → ∀ a, H a = none → ts a cls d (gone i D) (g.set i (some (.ref a))) H) ∧ (b = false → wHd K Wo D l cls d g H)
inductive HdA (X : Cx) : List ExceptHandler → List Hdl → Prop
  | nil : HdA X [] []
  | rest {h : ExceptHandler} {hds : List ExceptHandler} : HdA X (h :: hds) [none]
  | bare {x : Str} {c : Value} {ts : Addr → Value → Option Addr → TS} {b0 : Stmt} {su : List Stmt} {np ps : Pos} {hds : List ExceptHandler} {l : List Hdl} (hc : Names X x c)
      (hsu : ∀ (a : Addr) (oe : Obj) (cls : Value) (d : Option Addr) (pn : List (Addr × Obj)), Zc cls d oe → (∃ vs, oe.data = .fields vs) → PSs (X.suite a ((a, oe) :: pn)) (b0 :: su) (ts a cls d)) (r : HdA X hds l) :
      HdA X (.ExceptHandler (some (.Name x np)) none (b0 :: su) ps :: hds) (some (c, none, ts) :: l)
  | named {x n : Str} {i : Nat} {c : Value} {ts : Addr → Value → Option Addr → TS} {b0 : Stmt} {su : List Stmt} {np ps : Pos} {hds : List ExceptHandler} {l : List Hdl} (hc : Names X x c) (hi : X.N[i]? = some n) (hln : X.env.kindOf n = some .local)
      (hsu : ∀ (a : Addr) (oe : Obj) (cls : Value) (d : Option Addr) (pn : List (Addr × Obj)), Zc cls d oe → (∃ vs, oe.data = .fields vs) → PSs (X.suite a ((a, oe) :: pn)) (b0 :: su) (ts a cls d)) (r : HdA X hds l) :
      HdA X (.ExceptHandler (some (.Name x np)) (some n) (b0 :: su) ps :: hds) (some (c, some i, ts) :: l)
section
variable {X : Cx} {body : List Stmt} {h0 : ExceptHandler} {hds : List ExceptHandler} {l : List Hdl} {pos : Pos} {tb : WX → TS} {Wo : WX}
theorem ps_tryA (hs : X.stack = X.env :: X.outer) (hf : X.env.frame = some X.env.locals) (hN : X.N.Nodup) (tk : Takes X Wo)
    (hb : ∀ (W : WX) (pn : List (Addr × Obj)) (xe : Value → Shared → Prop), Takes (X.tr pn xe) W → PassesOwn (model X.prog X.w) X.A X.env xe → PSs (X.tr pn xe) body (tb W))
    (hh : HdA X (h0 :: hds) l) : PS X (.Try body (h0 :: hds) [] [] pos) (fun D g H => tb (wHd X.K Wo D l) D g H) := by
  refine ⟨fun pins s g H D I hw => ?_⟩
  have okX := I.ok
  have frX : X.A.frames = some (X.env :: X.outer) := by rw [okX.frames, hs]
  refine wpAny_Try_except (wpAny_mono ((hb (wHd X.K Wo D l) (X.pn ++ pins) (fun u s₁ => wpAny (model X.prog X.w) X.A (noteFrame u X.env) (fun _ s₂ => wpAny (model X.prog X.w) X.A (setFlight u none) (fun _ s₃ =>
    wpAny (model X.prog X.w) X.A (handleBy u X.env (h0 :: hds)) (SP X pins D) X.xe s₃) X.xe s₂) X.xe s₁) (fun u s' xx => ?_) PassesOwn.looking).run [] s g H D (I.toTry _) hw) (fun f s1 hsp => ?_) (fun u s1 hu => hu))
  · obtain ⟨a, B, sI, pins2, g2, H2, cls, d, rfl, J0, nb, up, sky, na, os, ag, wi⟩ := xx
    have J : L2.Inv X pins g2 H2 sI := J0.ofTry okX
    have sky2 : Sky B (X.env :: X.outer) a (Zc cls d) X.env.locals s'.heap := by rw [← hs]; exact sky
    show wpAny (model X.prog X.w) X.A (noteFrame (.ref a) X.env) _ _ _
    refine Sky.land Zc.steady frX hf sky2 fun h3 fl up3 => ?_
    have J3 : L2.Inv X pins g2 H2 { s' with heap := h3 } := J.landed nb fl.1 (up.trans up3) os ag
    obtain ⟨o3, vs3, he3, hz3, hd3⟩ := fl.there
    have offF : a ∉ frs (X.env :: X.outer) := fun hm => by
      obtain ⟨_, o', e', hnf⟩ := fl.2.2.1.mem hm
      rw [he3] at e'
      cases e'
      exact hnf _ hd3
    have offL : a ≠ X.env.locals := fun z => offF (List.mem_filterMap.mpr ⟨X.env, List.mem_cons_self, by rw [hf, z]⟩)
    have offS : a ∉ X.fs := fun hm => by
      obtain ⟨en, h1, h2⟩ := List.mem_filterMap.mp hm
      exact offF (List.mem_filterMap.mpr ⟨en, List.mem_cons_of_mem _ h1, h2⟩)
    have S3 := J3.suite he3 hd3 na offL offS
    have look : ∀ {x : Str} {c : Value} {np : Pos} {b : Bool} {Q : Bool → Shared → Prop} {E : Value → Shared → Prop}, Names X x c → PySem.W.exmOne X.K cls c = some b → True := fun _ _ => trivial
    have step : ∀ {hs' : List ExceptHandler} {l' : List Hdl}, HdA X hs' l' → wHd X.K Wo D l' cls d g2 H2 → wpAny (model X.prog X.w) X.A (handleBy (.ref a) X.env hs') (SP X pins D) X.xe { s' with heap := h3 } := by
      intro hs' l' hk
      have LT : PySem.W.Looks (model X.prog X.w) h3 (typeOf (.ref a)) cls := fun A Q E s k q => wpAny_typeOf_ref (k _ _ he3) (by rw [hz3.1]; exact q)
      have named : ∀ {x : Str} {c : Value} {np : Pos} {Q : Value → Shared → Prop} {E : Value → Shared → Prop}, Names X x c → Q c { s' with heap := h3 } → wpAny (model X.prog X.w) (X.A.mark (some (.ref a))) (eval (.Name x np) X.env) Q E { s' with heap := h3 } := fun {x c np Q E} hc q => by
        obtain ⟨hg, hdbg, hm | ⟨hm, hv, hnn⟩⟩ := hc
        · exact ld_glob (X := X.suite a ((a, o3) :: (X.pn ++ pins))) S3 hg hm q hdbg
        · exact ld_blt (X := X.suite a ((a, o3) :: (X.pn ++ pins))) S3 hg hm hv q hnn hdbg
      induction hk with
      | nil =>
        intro wi
        refine wpAny_handleBy_nil ?_
        obtain ⟨_, _, _, oe, vs, T, _, _, he, _, hd, h1, _⟩ := id fl
        unfold PySem.passOn
        refine wpAny_bind (wpAny_field he hd h1 ?_)
        rw [if_neg (show ¬ ((Value.ref T == Value.none) = true) from by simp)]
        have out : wpAny (model X.prog X.w) X.A (setFlight (.ref a) X.env.frame) (fun _ s4 => wpAny (model X.prog X.w) X.A (throw (.ref a) : Sem Flow) (SP X pins D) X.xe s4) X.xe { s' with heap := h3 } := by
          rw [hf]
          exact HandSPX.setFlight_upZ fl fun h4 hh4 up4 => wpAny_throw (tk _ _ ⟨a, B, sI, pins, g2, H2, cls, d, rfl, J, nb, (up.trans up3).trans up4, .inr (.inr (by rw [hs]; exact hh4)), na, os, ag, wi⟩)
        first
          | exact wpAny_bind (wpAny_pure (wpAny_bind out))
          | exact wpAny_bind out
      | rest => exact fun wi => wi.elim
      | @bare x c ts b0 su np ps hds2 l2 hc hsu r ih =>
        intro wi
        obtain ⟨b, hb1, hyes, hno⟩ := wi
        have LM := PySem.W.exm_one (M := model X.prog X.w) J3.kIn LT hb1
        refine wpAny_handleBy_cons (codeAny_handlers_test (named hc (LM.here ?_))) (by intro q; cases q)
        cases b with
        | false => exact ih (hno rfl)
        | true =>
          refine codeAny_handlers_suite (HandSPX.lands_againZ fl fun h4 fl4 up4 => ?_)
          have J4 : L2.Inv X pins g2 H2 { s' with heap := h4 } := J.landed nb fl4.1 ((up.trans up3).trans up4) os ag
          obtain ⟨o4, vs4, he4, hz4, hd4⟩ := fl4.there
          refine wpAny_mono ((hsu a o4 cls d (X.pn ++ pins) hz4 ⟨_, hd4⟩).run [] _ _ H2 D (J4.suite he4 hd4 na offL offS) (hyes rfl a na)) (fun f s6 hsp => ?_) (fun _ _ z => False.elim z)
          cases f with
          | next => obtain ⟨g6, H6, S6, q6⟩ := hsp; exact ⟨g6, H6, S6.unsuite okX, q6⟩
          | brk => obtain ⟨g6, H6, S6, q6⟩ := hsp; exact ⟨g6, H6, S6.unsuite okX, q6⟩
          | cont => obtain ⟨g6, H6, S6, q6⟩ := hsp; exact ⟨g6, H6, S6.unsuite okX, q6⟩
          | ret u => obtain ⟨v6, g6, H6, S6, r6, q6⟩ := hsp; exact ⟨v6, g6, H6, S6.unsuite okX, r6, q6⟩
      | @named x n i c ts b0 su np ps hds2 l2 hc hi hln hsu r ih =>
        intro wi
        obtain ⟨b, hb1, hyes, hno⟩ := wi
        have LM := PySem.W.exm_one (M := model X.prog X.w) J3.kIn LT hb1
        refine wpAny_handleBy_cons (codeAny_handlers_test (named hc (LM.here ?_))) (by intro q; cases q)
        cases b with
        | false => exact ih (hno rfl)
        | true =>
          refine codeAny_handlers_suite_as (HandSPX.lands_againZ fl fun h4 fl4 up4 => ?_)
          have J4 : L2.Inv X pins g2 H2 { s' with heap := h4 } := J.landed nb fl4.1 ((up.trans up3).trans up4) os ag
          obtain ⟨o4, vs4, he4, hz4, hd4⟩ := fl4.there
          refine store_ok (X := X.suite a ((a, o4) :: (X.pn ++ pins))) (v := .ref a) (J4.suite he4 hd4 na offL offS) hN hi (.inl hln) rfl (fun s5 S5 => ?_) (.inr hln)
          refine wpAny_mono ((hsu a o4 cls d (X.pn ++ pins) hz4 ⟨_, hd4⟩).run [] s5 _ H2 _ S5 (hyes rfl a na)) (fun f s6 hsp => ?_) (fun _ _ z => False.elim z)
          have fin : ∀ {g6 : L2.St} {H6 : Hp} {Q : Shared → Prop}, L2.Inv (X.suite a ((a, o4) :: (X.pn ++ pins))) [] g6 H6 s6 → (∀ s7, L2.Inv X pins (g6.set i none) H6 s7 → Q s7) →
              wpAny (model X.prog X.w) X.A (do bindName X.env n .none; unbindBehindTheSuite X.env n ps) (fun _ s7 => Q s7) X.xe s6 := fun {g6 H6 Q} S6 hq => gone_ok (S6.unsuite okX) hN hi hln hq
          cases f with
          | next => obtain ⟨g6, H6, S6, q6⟩ := hsp; exact fin S6 fun s7 J7 => ⟨_, _, J7, q6⟩
          | brk => obtain ⟨g6, H6, S6, q6⟩ := hsp; exact fin S6 fun s7 J7 => ⟨_, _, J7, q6⟩
          | cont => obtain ⟨g6, H6, S6, q6⟩ := hsp; exact fin S6 fun s7 J7 => ⟨_, _, J7, q6⟩
          | ret u => obtain ⟨v6, g6, H6, S6, r6, q6⟩ := hsp; exact fin S6 fun s7 J7 => ⟨_, _, _, J7, r6, q6⟩
    exact step hh wi
  · cases f with
    | next => obtain ⟨g2, H2, J2, q⟩ := hsp; exact wpAny_execs_nil ⟨g2, H2, J2.ofTry okX, q⟩
    | brk => obtain ⟨g2, H2, J2, q⟩ := hsp; exact ⟨g2, H2, J2.ofTry okX, q⟩
    | cont => obtain ⟨g2, H2, J2, q⟩ := hsp; exact ⟨g2, H2, J2.ofTry okX, q⟩
    | ret u => obtain ⟨v, g2, H2, J2, rv, q⟩ := hsp; exact ⟨v, g2, H2, J2.ofTry okX, rv, q⟩
end
/-! ### over data -/
def unput : List Str → Str → En → En
  | n :: N, x, o :: r => if n = x then none :: r else o :: unput N x r
  | _, _, r => r
theorem unput_set {x : Str} : ∀ {N : List Str} {i : Nat} {r : En}, N.Nodup → N[i]? = some x → r.set i none = unput N x r
  | [], i, r, _, h => by simp at h
  | n :: N, i, [], _, _ => by simp [unput]
  | n :: N, 0, o :: r, _, h => by
    simp at h
    subst h
    simp [unput]
  | n :: N, i + 1, o :: r, nd, h => by
    have hm : x ∈ N := List.mem_of_getElem? (show N[i]? = some x by simpa using h)
    have hne : n ≠ x := fun z => (List.nodup_cons.mp nd).1 (z ▸ hm)
    show o :: r.set i none = unput (n :: N) x (o :: r)
    rw [unput, if_neg hne, unput_set (List.nodup_cons.mp nd).2 (by simpa using h)]
/-- the clauses, with their classes -/
inductive HdS (X : Cx) (N : List Str) : List ExceptHandler → List Value → Prop
  | nil : HdS X N [] []
  | rest {h : ExceptHandler} {hds : List ExceptHandler} : HdS X N (h :: hds) []
  | bare {x : Str} {c : Value} {b0 : Stmt} {su : List Stmt} {np ps : Pos} {hds : List ExceptHandler} {cs : List Value} (hc : Names X x c) (r : HdS X N hds cs) : HdS X N (.ExceptHandler (some (.Name x np)) none (b0 :: su) ps :: hds) (c :: cs)
  | named {x n : Str} {c : Value} {b0 : Stmt} {su : List Stmt} {np ps : Pos} {hds : List ExceptHandler} {cs : List Value} (hc : Names X x c) (hi : ∃ i : Nat, N[i]? = some n) (hln : X.env.kindOf n = some .local) (r : HdS X N hds cs) :
      HdS X N (.ExceptHandler (some (.Name x np)) (some n) (b0 :: su) ps :: hds) (c :: cs)
def Lh (X : Cx) (N : List Str) (P : Pc) (cls : Value) (fs : List (Str × Dt)) (r : En) (m : Mu) : List ExceptHandler → List Value → Prop
  | [], _ => P.ex cls fs r m
  | .ExceptHandler _ none su _ :: hds, c :: cs => ∃ b, PySem.W.exmOne X.K cls c = some b ∧ (b = true → ∀ a oe pn, LB (X.suite a ((a, oe) :: pn)) su r m { P with ex := X0 }) ∧ (b = false → Lh X N P cls fs r m hds cs)
  | .ExceptHandler _ (some n) su _ :: hds, c :: cs => ∃ b, PySem.W.exmOne X.K cls c = some b ∧
      (b = true → ∃ f, Put N r n f ∧ ∀ a oe pn dx, Zc cls (some dx) oe → (∃ vs, oe.data = .fields vs) → LB (X.suite a ((a, oe) :: pn)) su (f (.cau a dx fs)) m { nx := fun r m => P.nx (unput N n r) m, rt := P.rt, bk := fun r m => P.bk (unput N n r) m, ct := fun r m => P.ct (unput N n r) m, ex := X0 }) ∧ (b = false → Lh X N P cls fs r m hds cs)
  | _ :: _, [] => False
def bS (X : Cx) (su : List Stmt) : Addr → Value → Option Addr → TS := fun a cls d D g H => ∀ oe pn, Zc cls d oe → (∃ vs, oe.data = .fields vs) → wB (X.suite a ((a, oe) :: pn)) su D g H
section
variable {X : Cx} {N : List Str} {k : Nat} {r : En} {m : Mu} {P : Pc} {pos : Pos} {body : List Stmt} {h0 : ExceptHandler} {hds : List ExceptHandler} {cs : List Value}
theorem HdS.to (gd : Gd k N X) : ∀ {hds : List ExceptHandler} {cs : List Value}, HdS X N hds cs → ∃ l, HdA X hds l ∧ ∀ (Z : List Addr) (D : Ends) (W : WX) (P : Pc) (m : Mu) (H : Hp), NP X.K Z m H P D W →
      ∀ cls dx fs vs g' H' r' m', Lh X N P cls fs r' m' hds cs → Go m H m' H' → Rep X.K Z m' H' g' r' → dx ∉ Z ++ dom m' → H' dx = some (.xd vs) → Fds X.K (Z ++ dom m') H' fs vs → wHd X.K W D l cls (some dx) g' H'
  | _, _, .nil => ⟨[], .nil, fun Z D W P m H np cls dx fs vs g' H' r' m' q go rp nd e1 e2 => np.ex cls dx fs vs g' H' r' m' q go rp nd e1 e2⟩
  | _, _, .rest (h := h) => ⟨[none], .rest, fun Z D W P m H np cls dx fs vs g' H' r' m' q go rp nd e1 e2 => by
    cases h
    rename_i o _ _
    cases o <;> exact (show False from q).elim⟩
  | _, _, .bare (x := x) (c := c) (b0 := b0) (su := su) hc rr => by
    obtain ⟨l, hl, hw⟩ := HdS.to gd rr
    refine ⟨some (c, none, bS X (b0 :: su)) :: l, .bare hc (fun a oe cls d pn hz hv => ⟨fun pins s g H D I q => q oe pn hz hv pins s I⟩) hl, fun Z D W P m H np cls dx fs vs g' H' r' m' q go rp nd e1 e2 => ?_⟩
    obtain ⟨b, hb, h1, h2⟩ := q
    refine ⟨b, hb, fun e a _ oe pn _ _ => ?_, fun e => hw Z D W P m H np cls dx fs vs g' H' r' m' (h2 e) go rp nd e1 e2⟩
    have n2 := np.go go
    exact (h1 e a oe pn).run Z g' H' D (fun _ _ _ _ => False) rp takes0 ⟨n2.nx, n2.rt, n2.bk, n2.ct, fun _ _ _ _ _ _ _ _ q => q.elim⟩
  | _, _, .named (x := x) (n := n) (c := c) (b0 := b0) (su := su) hc hi hk rr => by
    obtain ⟨l, hl, hw⟩ := HdS.to gd rr
    obtain ⟨i, hi⟩ := hi
    refine ⟨some (c, some i, bS X (b0 :: su)) :: l, .named hc (by rw [gd.hN]; exact hi) hk (fun a oe cls d pn hz hv => ⟨fun pins s g H D I q => q oe pn hz hv pins s I⟩) hl, fun Z D W P m H np cls dx fs vs g' H' r' m' q go rp nd e1 e2 => ?_⟩
    obtain ⟨b, hb, h1, h2⟩ := q
    refine ⟨b, hb, fun e a _ oe pn hz hv => ?_, fun e => hw Z D W P m H np cls dx fs vs g' H' r' m' (h2 e) go rp nd e1 e2⟩
    obtain ⟨f, hp, h1⟩ := h1 e
    obtain ⟨j, hj, hf⟩ := hp.ix
    have ej : i = j := nodup_ix gd.nd hi hj
    subst ej
    have n2 := np.go go
    have rp2 : Rep X.K Z m' H' (g'.set i (some (.ref a))) (f (.cau a dx fs)) := by
      rw [hf]
      exact rp.set i (.cau nd e1 e2)
    have un : ∀ {Fd : En → Mu → Prop} {Q : L2.St → Hp → Prop}, NE X.K Z m' H' Fd Q → NE X.K Z m' H' (fun r m => Fd (unput N n r) m) (fun g H => Q (g.set i none) H) := fun {Fd Q} h g2 H2 r2 m2 q2 go2 rp3 => by
      have q3 : Fd (unput N n r2) m2 := q2
      rw [← unput_set gd.nd hi] at q3
      exact h _ _ _ _ q3 go2 (rp3.unset i)
    exact (h1 a oe pn dx hz hv).run Z _ H' (gone i D) (fun _ _ _ _ => False) rp2 takes0 ⟨un n2.nx, n2.rt, un n2.bk, un n2.ct, fun _ _ _ _ _ _ _ _ q => q.elim⟩
theorem Gd.tr {pn : List (Addr × Obj)} {xe : Value → Shared → Prop} (gd : Gd k N X) (hp : PassesOwn (model X.prog X.w) X.A X.env xe) : Gd k N (X.tr pn xe) := ⟨gd.room, gd.gu, gd.calm, gd.nd, gd.hN, hp⟩
/-- try: body except ..: .. -/
theorem ls_try (gd : Gd k N X) (cs : List Value) (hd : HdS X N (h0 :: hds) cs) (h : ∀ pn xe, Gd k N (X.tr pn xe) → LB (X.tr pn xe) body r m { nx := P.nx, rt := P.rt, bk := P.bk, ct := P.ct, ex := fun cls fs r' m' => Lh X N P cls fs r' m' (h0 :: hds) cs })
    (hs : X.stack = X.env :: X.outer := by rfl) (hf : X.env.frame = some X.env.locals := by rfl) : LS X (.Try body (h0 :: hds) [] [] pos) r m P := by
  obtain ⟨l, hl, hw⟩ := hd.to gd
  refine ⟨fun Z g H D W rp tk np => (ps_tryA (tb := fun W' D g H => ∀ pn xe, Takes (X.tr pn xe) W' → PassesOwn (model X.prog X.w) X.A X.env xe → wB (X.tr pn xe) body D g H) hs hf gd.nd' tk (fun W' pn xe t p => ⟨fun pins s g H D I q => q pn xe t p pins s I⟩) hl).w fun pn xe t p => ?_⟩
  exact (h pn xe (gd.tr p)).run Z g H D _ rp t ⟨np.nx, np.rt, np.bk, np.ct, fun cls dx fs vs g' H' r' m' q go rp2 nd e1 e2 => hw Z D W P m H np cls dx fs vs g' H' r' m' q go rp2 nd e1 e2⟩
/-- where one stands in an except suite -/
structure Gs (N : List Str) (X : Cx) : Prop where
  un : X.A.units + 64 < cLine
  gu : X.A.guards = some []
  nd : N.Nodup
  hN : X.N = N
theorem Gd.su (gd : Gd k N X) (a : Addr) (pn : List (Addr × Obj)) : Gs N (X.suite a pn) := ⟨gd.room.units, gd.gu, gd.nd, gd.hN⟩
theorem le_nameS {x : Str} {d : Dt} {F : Pd} {E : Xd} (g : Gs N X) (h : At N r x d) (q : F d m) (hv : Vis X.env.scope x := by first | exact Or.inl rfl | exact Or.inr (Or.inl rfl) | exact Or.inr (Or.inr rfl))
    (hd : (x == ("__debug__" : Str)) = false := by decide) (hcd : (x == ("__classdict__" : Str)) = false := by decide) : LE X (.Name x pos) r m F E := by
  refine ⟨fun Z st H Q W rp tk nk nx => ?_⟩
  obtain ⟨i, h1, h2⟩ := h.ix
  obtain ⟨v, h3, h4⟩ := rp.at' i d h2
  exact (pe_var (i := i) (by rw [g.hN]; exact h1) hv hd hcd).w ⟨v, h3, nk v H d m q Ext.rfl' rp.so h4⟩
/-- e.f, e the exception that the suite holds -/
theorem le_exfld {cls : Value} {C dx a : Addr} {oe : Obj} {pn : List (Addr × Obj)} {e : Expr} {f : Str} {F : Pd} {E : Xd} (hz : Zc (.ref C) (some dx) oe) (hv : ∃ vs, oe.data = .fields vs)
    (ga : PySem.W.findIn X.K (.ref C) "__getattribute__" = some (some (.builtin "BaseException.__getattribute__"))) (gg : PySem.W.findIn X.K (.ref C) "__getattr__" = some none) (ex : PySem.W.subIn X.K (.ref C) (.type "BaseException") = some true) (hdC : PySem.W.hasDictIn X.K C = true) (noN : PySem.W.findIn X.K (.ref C) f = some none)
    (h : LE (X.suite a ((a, oe) :: pn)) e r m (fun d m1 => ∃ fs d', d = .cau a dx fs ∧ fs.lookup f = some d' ∧ F d' m1) E) (hb : attributeBase e f X.env (eval e X.env) = eval e X.env := by rfl) : LE (X.suite a ((a, oe) :: pn)) (.Attribute e f pos) r m F E := by
  refine ⟨fun Z st H Q W rp tk nk nx pins s I => ?_⟩
  refine attr_of hb (thn (h.run Z st H (fun v H1 => ∃ us u, v = .ref a ∧ H1 dx = some (.xd us) ∧ us.lookup f = some u ∧ Q u H1) W rp tk (fun v H1 d m1 q go so da => ?_) nx pins s I) fun u s1 hh => ?_)
  · obtain ⟨fs, d', rfl, e1, q⟩ := q
    cases da with
    | cau n h1 h2 =>
      obtain ⟨w, e2, e3⟩ := h2.look e1
      exact ⟨_, w, rfl, h1, e2, nk w H1 d' m1 q go so e3⟩
  · obtain ⟨x, H1, I1, rx, us, w, ex', ea, el, q⟩ := hh
    subst ex'
    obtain rfl : u = Value.ref a := rx
    obtain ⟨ha, _⟩ := I1.pin (a, oe) (List.mem_append_left _ List.mem_cons_self)
    obtain ⟨vs, hd⟩ := hv
    obtain ⟨mA, hns, hr⟩ := (show ObjOk X.prog X.w H1 s1.heap dx (.xd us) from I1.hok dx _ ea)
    obtain ⟨od, ho, hl⟩ := lookIn_ns hns
    obtain ⟨z, hu, ru⟩ := RelO.some_of (v := w) (o := mA f) (by rw [← el]; exact hr f)
    have J : PySem.W.InstAt s1.heap a oe C (some od) := ⟨ha, hz.1, by unfold PySem.W.notCls; rw [hd] <;> rfl, by rw [hz.2]; exact ho⟩
    exact HandSPX.exc_get I1.kIn J ga gg ex (PySem.W.findObj_own hdC noN rfl (by rw [hl, hu])) (handed_of ru) ⟨w, H1, I1.tok _, ru, q⟩
end
end Dw
namespace Dw
open PySem PySem.Spec PyProof.Rows L2
theorem da_script {K : PySem.W.Frag} {H : Hp} {a : Addr} {ns : List Int} (h : SqL K H a (ns.map V.int)) : Da K ([] ++ dom []) H (.frz (ns.map Dt.int)) (.ref a) := by
  refine .frz (xs := ns.map V.int) ?_ ?_
  · rcases h with h | h
    · exact .inl ⟨by simp [dom], h⟩
    · exact .inr (.inr h)
  · induction ns with
    | nil => exact .nil
    | cons n ns ih =>
      refine .cons (.int n) ?_
      have : ∀ l : List Int, DaL K ([] ++ dom []) H (l.map Dt.int) (l.map V.int) := fun l => by
        induction l with
        | nil => exact .nil
        | cons z l ih => exact .cons (.int z) ih
      exact this ns
theorem sp_script {K : PySem.W.Frag} {H : Hp} {a : Addr} {ns : List Int} {W : Spd} (h : SqL K H a (ns.map V.int)) (hW : W [.frz (ns.map Dt.int)] [] (fun d _ => d = .bl true) (fun _ _ _ => False)) : toSp K W [.ref a] H (fun v _ => v = .bl true) fun _ _ _ => False := by
  refine ⟨[], [.frz (ns.map Dt.int)], [], _, _, ⟨List.Pairwise.nil, fun _ z => (by cases z), fun _ z => (by cases z), fun _ z => (by cases z)⟩, .cons (da_script h) .nil, hW, fun v H' d m' q go so da => ?_, fun _ _ _ _ _ _ q => q.elim⟩
  have q' : d = .bl true := q
  subst q'
  cases da
  rfl
/-- the law's def is called with the script -/
theorem lawG {P : Program} {w : World} {K : PySem.W.Frag} {mg mb : Str → Option Value} {k : Nat} {fa a : Addr} {fd : FuncData} {x : Str} {W : Spd} {s1 : Shared} {vs : List Value} {ns : List Int}
    (KX : K.In s1.heap) (hns : s1.heap.Ns mainGlobals mg) (hb : s1.heap.Ns builtinsNs mb) (hbb : ∀ x : Str, x ≠ "__name__" → mb x = bootBuiltins x) (hlim : s1.heap.NoLimit) (hg : s1.gens = #[])
    (ha : s1.heap.get? a = some { cls := .type "list", data := .seq vs.toArray }) (hi : IntsAre vs ns) (hl : ns.length ≤ sizeLine) (hr : Room k callerA)
    (F : ∀ base : Heap, K.In base → base.Ns mainGlobals mg → FnG P w K mg base k fa fd [x] (toSp K W)) (hbind : ∀ (s : Shared) (u : Value), BindsTo s fd ⟨[u], []⟩ [(x, u)])
    (hW : W [.frz (ns.map Dt.int)] [] (fun d _ => d = .bl true) (fun _ _ _ => False)) :
    codeAny (model P w) callerA (.call (.ref fa) ⟨[.ref a], []⟩) (fun r s' => r = .ok (.ret (.bool true)) ∧ OldK s1.heap s'.heap ∧ s'.os = s1.os ∧ AllBare s'.gens) s1 := by
  have rv := vals_ints hi
  have lenV := hi.length
  have core : ∀ H : Hp, Only H → SqL K H a (ns.map V.int) → HOk P w H s1.heap → (∀ b, H b ≠ none → b = a) → (H a ≠ none → K.lookup a = none) →
      codeAny (model P w) callerA (.call (.ref fa) ⟨[.ref a], []⟩) (fun r s' => r = .ok (.ret (.bool true)) ∧ OldK s1.heap s'.heap ∧ s'.os = s1.os ∧ AllBare s'.gens) s1 := by
    intro H hO hS hok hA hK
    have offA : ∀ {b : Addr}, b ≠ a → H b = none := fun {b} n => by
      cases q : H b with
      | none => rfl
      | some u => exact absurd (hA b (by rw [q]; simp)) n
    have nsK : ∀ {b : Addr} {m : Str → Option Value}, s1.heap.Ns b m → (hidT s1.heap H).Ns b m := fun {b m} ⟨o, es, ep, e, d, r⟩ => by
      refine ⟨o, es, ep, hidT_get e (offA fun z => ?_), d, r⟩
      subst z
      rw [ha] at e
      cases e
      cases d
    have hKb : K.In (hidT s1.heap H) := fun b o e => by
      refine hidT_get (KX b o e) ?_
      cases q : H b with
      | none => rfl
      | some u =>
        have e' : b = a := hA b (by rw [q]; simp)
        subst e'
        rw [hK (by rw [q]; simp)] at e
        cases e
    have hM : Mod K mg (hidT s1.heap H) := ⟨hKb, nsK hns, ⟨mb, nsK hb, hbb⟩, let ⟨mc, h1, h2⟩ := hlim; ⟨mc, nsK h1, h2⟩⟩
    have e0 : Env0 P w K mg (hidT s1.heap H) callerA [] s1 H := ⟨rfl, hM, fun b o e => of_hidT e, Nat.le_of_eq (hidT_size _ _), trivial, fun b z => absurd (show b ∈ ([] : List Addr) from z) (by simp), hok, .of_eq hg⟩
    refine codeAny_mono ((F _ hKb (nsK hns)).run callerA [] s1 H ⟨[.ref a], []⟩ [.ref a] [.ref a] _ _ hr rfl e0 (hbind s1 (.ref a)) (.cons rfl .nil) (sp_script hS hW)) fun o s' h => ?_
    cases o with
    | error u =>
      obtain ⟨_, _, _, _, _, _, _, _, _, _, _, _, z⟩ := h
      exact z.elim
    | ok fl =>
      cases fl with
      | next => exact h.elim
      | brk => exact h.elim
      | cont => exact h.elim
      | ret u =>
        obtain ⟨v, H', os, bare, un, hok', r', q⟩ := h
        have q' : v = .bl true := q
        subst q'
        obtain rfl : u = Value.bool true := r'
        refine ⟨rfl, OldK.of_keep fun b o e => ?_, os, bare⟩
        cases q : H b with
        | none => exact un.keep b o e q (fun z => absurd (show b ∈ ([] : List Addr) from z) (by simp)) (by simp)
        | some u =>
          rcases hO b with z | ⟨ob, xs, z⟩
          · rw [q] at z; cases z
          · obtain ⟨e1, _⟩ := hok b _ z
            obtain ⟨e2, _⟩ := hok' b _ (un.frzs b ob _ z)
            rw [e] at e1
            cases e1
            exact e2
  cases hk : K.lookup a with
  | some o =>
    have e := KX a o hk
    rw [ha] at e
    cases e
    exact core (fun _ => none) (fun _ => .inl rfl) (.inr ⟨_, vs.toArray, _, hk, rfl, rfl, rfl, by rw [List.size_toArray, lenV]; exact hl, by simpa using rv⟩) (fun b u z => nomatch (show (none : Option HO) = some u from z)) (fun b z => absurd rfl z) fun z => absurd rfl z
  | none =>
    let ob : Obj := { cls := .type "list", data := .seq vs.toArray }
    refine core (upd H0 a (.frz ob (.lst (ns.map V.int)))) (fun b => ?_) (.inl (.inr ⟨ob, upd_same⟩)) (fun b u z => ?_) (fun b z => ?_) fun _ => hk
    · by_cases hb : b = a
      · exact .inr ⟨_, _, by rw [hb]; exact upd_same⟩
      · exact .inl (upd_ne hb)
    · by_cases hb : b = a
      · subst hb
        rw [upd_same] at z
        cases z
        exact ⟨ha, by rw [List.length_map]; exact hl, vs, _, rv, ha⟩
      · rw [upd_ne hb] at z
        cases z
    · by_cases hb : b = a
      · exact hb
      · exact absurd (upd_ne hb) z
/-- the goal that k_head leaves -/
theorem walkG {l : PySem.W.OpenLaw} {n k : Nat} {q : Program} {loose : List Str} {XP : (Str → Option Value) → Heap → Prop} {YP : World → Heap → Prop} {d : DefRec} {K : Params → PySem.W.Frag} {W : Spd} {x : Str}
    (hn : l.most = some n) (hn2 : n ≤ sizeLine) (hdf : d.params.defaults = []) (hr : Room k callerA) (hY : ∀ (w : World) (h : Heap), YP w h → (K w.params).In h)
    (F : ∀ (w : World) (mg : Str → Option Value) (fa : Addr) (h : Heap), (K w.params).In h → h.Ns mainGlobals mg → mg d.name = some (.ref fa) →
      ∃ fd : FuncData, (∀ (s : Shared) (u : Value), BindsTo s fd ⟨[u], []⟩ [(x, u)]) ∧ ∀ base : Heap, (K w.params).In base → base.Ns mainGlobals mg → FnG l.prog w (K w.params) mg base k fa fd [x] (toSp (K w.params) W))
    (hW : ∀ ns : List Int, ns.length ≤ n → W [.frz (ns.map Dt.int)] [] (fun d _ => d = .bl true) (fun _ _ _ => False)) : PySem.W.WalkO q loose XP YP l.row.toRowW d [] (fun f vs => PySem.call f vs) := by
  refine Att.attach_call hn hdf fun w s0 s1 mg mb fa o pm cd doc a vs ns G Y ho hd hcd hmg hobj hints hlen hg => ?_
  have KX := hY w _ Y
  obtain ⟨fd, hb, hF⟩ := F w mg fa _ KX G.T.g hmg
  exact lawG KX G.T.g G.T.b G.T.builtins G.T.nolimit hg hobj hints (Nat.le_trans hlen hn2) hr hF hb (hW ns hlen)
end Dw
namespace Dw
open PySem PySem.Spec PyProof.Rows L2
/-- the built-ins are the built-ins -/
structure Bi (mg : Str → Option Value) : Prop where
  abs : mg "abs" = none
  all : mg "all" = none
  any : mg "any" = none
  bool : mg "bool" = none
  dict : mg "dict" = none
  enumerate : mg "enumerate" = none
  int : mg "int" = none
  isinstance : mg "isinstance" = none
  len : mg "len" = none
  list : mg "list" = none
  max : mg "max" = none
  min : mg "min" = none
  ord : mg "ord" = none
  range : mg "range" = none
  repr : mg "repr" = none
  set : mg "set" = none
  sorted : mg "sorted" = none
  str : mg "str" = none
  sum : mg "sum" = none
  tuple : mg "tuple" = none
  zip : mg "zip" = none
section
variable {X : Cx} {x : Str} {e : Expr} {es : List Expr} {r : En} {m : Mu} {F : Pd} {E : Xd} {p pos : Pos} {k : Nat} {N : List Str}
theorem le_ty {T : String} (hm : X.mg x = none) (hv : bootBuiltins x = some (.type T)) (q : F (.raw (.ty T)) m) (hg : Gl X x := by rfl) (hn : x ≠ "__name__" := by decide) (hdb : (x == ("__debug__" : Str)) = false := by decide) : LE X (.Name x pos) r m F E :=
  le_bltn hm hv (v := .ty T) rfl q hg hn hdb
theorem bt_abs : bootBuiltins "abs" = some (.builtin "abs") := by decide +kernel
theorem bt_all : bootBuiltins "all" = some (.builtin "all") := by decide +kernel
theorem bt_any : bootBuiltins "any" = some (.builtin "any") := by decide +kernel
theorem bt_isinstance : bootBuiltins "isinstance" = some (.builtin "isinstance") := by decide +kernel
theorem bt_len : bootBuiltins "len" = some (.builtin "len") := by decide +kernel
theorem bt_max : bootBuiltins "max" = some (.builtin "max") := by decide +kernel
theorem bt_min : bootBuiltins "min" = some (.builtin "min") := by decide +kernel
theorem bt_ord : bootBuiltins "ord" = some (.builtin "ord") := by decide +kernel
theorem bt_repr : bootBuiltins "repr" = some (.builtin "repr") := by decide +kernel
theorem bt_sorted : bootBuiltins "sorted" = some (.builtin "sorted") := by decide +kernel
theorem bt_int : bootBuiltins "int" = some (.type "int") := by decide +kernel
theorem bt_str : bootBuiltins "str" = some (.type "str") := by decide +kernel
theorem bt_bool : bootBuiltins "bool" = some (.type "bool") := by decide +kernel
theorem bt_list : bootBuiltins "list" = some (.type "list") := by decide +kernel
theorem bt_tuple : bootBuiltins "tuple" = some (.type "tuple") := by decide +kernel
theorem bt_dict : bootBuiltins "dict" = some (.type "dict") := by decide +kernel
theorem bt_set : bootBuiltins "set" = some (.type "set") := by decide +kernel
/-- a value that repr takes, where one stands -/
theorem c_reprG {d : Dt} (gd : Gd k N X) (h : Shw d) (q : F (.str (shows d)) m) : OC X (.builtin "repr") [d] m F := c_repr (k := k) (N := N) gd.gu gd.room.units h q
theorem c_reprS {d : Dt} (gd : Gs N X) (h : Shw d) (q : F (.str (shows d)) m) : OC X (.builtin "repr") [d] m F := c_repr (k := 0) (N := N) gd.gu gd.un h q
end
end Dw
namespace Dw
open PySem PySem.Spec PyProof.Rows L2
inductive Ty6 | int | str | bool | list | tuple | dict
def Ty6.nm : Ty6 → String | .int => "int" | .str => "str" | .bool => "bool" | .list => "list" | .tuple => "tuple" | .dict => "dict"
def isi : Ty6 → Dt → Bool
  | .int, .int _ => true
  | .int, .bl _ => true
  | .bool, .bl _ => true
  | .str, .str _ => true
  | .list, .lst _ => true
  | .list, .frz _ => true
  | .tuple, .tup _ => true
  | .dict, .dct _ => true
  | _, _ => false
theorem isi_kb {x : Dt} {T' : String} (t : Ty6) (h : tyD x = some T') : kitB T' t.nm = some (isi t x) := by
  cases x <;> cases h <;> cases t <;> first | (show kitB _ _ = some true; decide +kernel) | (show kitB _ _ = some false; decide +kernel)
/-- exceptions are of none of these -/
structure X6 (K : PySem.W.Frag) (C : Addr) : Prop where
  no : ∀ t : Ty6, PySem.W.kitOne K (.ref C) (.type t.nm) = some false
/-- a thing of which isinstance is known -/
def Thg (K : PySem.W.Frag) : Dt → Prop
  | .exc C cn _ => XF K C cn ∧ X6 K C
  | d => (tyD d).isSome = true
section
variable {X : Cx} {m : Mu} {F : Pd}
theorem c_isiX {x : Dt} (t : Ty6) (h : Thg X.K x) (q : F (.bl (isi t x)) m) : OC X (.builtin "isinstance") [x, .raw (.ty t.nm)] m F := by
  cases x with
  | exc C cn ds => exact c_isi_exc h.1 (h.2.no t) (by cases t <;> exact q)
  | _ =>
    obtain ⟨T', e⟩ := Option.isSome_iff_exists.mp h
    exact c_isi e (isi_kb t e) q
theorem c_isi_int {x : Dt} (h : Thg X.K x) (q : F (.bl (isi .int x)) m) : OC X (.builtin "isinstance") [x, .raw (.ty "int")] m F := c_isiX .int h q
theorem c_isi_str {x : Dt} (h : Thg X.K x) (q : F (.bl (isi .str x)) m) : OC X (.builtin "isinstance") [x, .raw (.ty "str")] m F := c_isiX .str h q
theorem c_isi_bool {x : Dt} (h : Thg X.K x) (q : F (.bl (isi .bool x)) m) : OC X (.builtin "isinstance") [x, .raw (.ty "bool")] m F := c_isiX .bool h q
theorem c_isi_list {x : Dt} (h : Thg X.K x) (q : F (.bl (isi .list x)) m) : OC X (.builtin "isinstance") [x, .raw (.ty "list")] m F := c_isiX .list h q
theorem c_isi_tuple {x : Dt} (h : Thg X.K x) (q : F (.bl (isi .tuple x)) m) : OC X (.builtin "isinstance") [x, .raw (.ty "tuple")] m F := c_isiX .tuple h q
theorem c_isi_dict {x : Dt} (h : Thg X.K x) (q : F (.bl (isi .dict x)) m) : OC X (.builtin "isinstance") [x, .raw (.ty "dict")] m F := c_isiX .dict h q
end
end Dw
namespace Dw
open PySem PySem.Spec PyProof.Rows L2
section
variable {X : Cx} {a b c : Expr} {r : En} {m : Mu} {B : Bool → Mu → Prop} {E : Xd} {pos : Pos}
theorem lt_chain {op op' : CmpOp} (h : LE X a r m (fun x m1 => LE X b r m1 (fun y m2 => O2 X (compareOp op) x y m2 (fun d => ∃ c', d = .bl c' ∧ if c' = true then LE X c r m2 (fun z m3 => O2 X (compareOp op') y z m3 (fun d => ∃ k, d = .bl k ∧ B k m3)) E else B false m2)) E) E)
    (hm : lastMarks [op, op'] [b, c] = false := by with_unfolding_all rfl) : LT X (.Compare a [op, op'] [b, c] pos) r m B E := by
  refine ⟨fun Z st H Q W rp tk nk nx => (pt_chain op_w op_w pe_w pe_w pe_w hm).w ?_⟩
  refine h.run Z st H _ W rp tk (fun v H1 d m1 q go so da => ?_) nx
  refine q.run Z st H1 _ W (rp.go go so) tk (fun v2 H2 d2 m2 q2 go2 so2 da2 => ?_) (nx.go go)
  refine q2.run Z H2 v v2 _ so2 (da.move (go2.full Z)) da2 (fun v3 H3 d3 m3 q3 go3 so3 da3 => ?_)
  obtain ⟨rfl, c, rfl, q3⟩ := q3
  cases da3
  refine ⟨c, rfl, ?_⟩
  have g3 := (go.trans go2).trans go3
  cases c with
  | true =>
    have q4 : LE X _ r _ _ E := q3
    refine q4.run Z st H3 _ W (rp.go g3 so3) tk (fun v5 H5 d5 m5 q5 go5 so5 da5 => ?_) (nx.go g3)
    refine q5.run Z H5 v2 v5 _ so5 (da2.move (Go.full Z (go3.trans go5))) da5 (fun v6 H6 d6 m6 q6 go6 so6 da6 => ?_)
    obtain ⟨rfl, k, rfl, q6⟩ := q6
    cases da6
    exact ⟨k, rfl, nk k H6 m6 q6 ((g3.trans go5).trans go6) so6⟩
  | false => exact ⟨false, rfl, nk _ H3 _ q3 g3 so3⟩
end
end Dw
namespace Dw
open PySem PySem.Spec PyProof.Rows L2
theorem pix_const {c : Const} {j : Nat} {p : Pos} : PlainIx (.Constant c j p) := fun _ _ => rfl
theorem pix_name {x : Str} {p : Pos} : PlainIx (.Name x p) := fun _ _ => rfl
theorem pix_bin {a b : Expr} {o : Operator} {p : Pos} : PlainIx (.BinOp a o b p) := fun _ _ => rfl
theorem pix_call {f : Expr} {es : List Expr} {ks : List Keyword} {p : Pos} : PlainIx (.Call f es ks p) := fun _ _ => rfl
theorem pix_un {a : Expr} {o : UnaryOp} {p : Pos} : PlainIx (.UnaryOp o a p) := fun _ _ => rfl
theorem pix_sub {a b : Expr} {p : Pos} : PlainIx (.Subscript a b p) := fun _ _ => rfl
theorem pix_cmp {a : Expr} {o : List CmpOp} {b : List Expr} {p : Pos} : PlainIx (.Compare a o b p) := fun _ _ => rfl
end Dw
namespace Dw
open PySem PySem.Spec PyProof.Rows L2
section
variable {X : Cx} {r : En} {m : Mu} {F : Pd} {E : Xd} {P : Pc} {p pos p2 py spos : Pos} {k : Nat} {N : List Str} {x y : Str} {scope sc : Scope} {elt iter : Expr} {ifs : List Expr} {f h2 : Dt → En}
theorem blk_of (gd : Gd k N X) (hsc : X.env.scope = sc) (hb : blkC N sc scope [(x, N.idxOf x)] = true) : ∀ i, N[i]? = some x → BlkOk X.N X.env.scope scope [(x, i)] := fun i hi => by
  have b : BlkOk N sc scope [(x, N.idxOf x)] := blkOk_by hb
  have e : N[N.idxOf x]? = some x := b.ix _ List.mem_cons_self
  rw [nodup_ix gd.nd hi e, hsc, gd.hN]
  exact b
theorem le_lcS (sc : Scope) (gd : Gd k N X) (hp : Put N r x f) (Iv : List Dt → Nat → List Dt → Mu → Prop) (h : LI X (.Name x p2) iter r m (LcOk X scope elt ifs f Iv F) E) (hsc : X.env.scope = sc := by rfl) (hb : blkC N sc scope [(x, N.idxOf x)] = true := by decide +kernel)
    (hx : ∀ s H C cl fp, Loc (bk X scope s H C cl fp).env.scope x := by intro _ _ _ _ _; first | exact Or.inl rfl | exact Or.inr rfl)
    (hf : ∀ s H C cl fp, (bk X scope s H C cl fp).fn x = true ∨ (bk X scope s H C cl fp).env.scope.names.lookup x = some .local := by intro _ _ _ _ _; first | exact .inr rfl | exact .inl rfl)
    (hs : ∀ x, foldedSetIterable iter X.env x = pure x := by intro _; rfl) : LE X (.ListComp elt [⟨.Name x p2, iter, ifs, 0⟩] scope pos) r m F E := le_lc gd hp Iv h (blk_of gd hsc hb) hx hf hs
theorem ls_setlcS (sc : Scope) (gd : Gd k N X) (hp : Put N r x f) (hq : Put N r y h2) (Iv : List Dt → Nat → List Dt → Mu → Prop) (h : LI X (.Name x p2) iter r m (LcOk X scope elt ifs f Iv (fun d m1 => P.nx (h2 d) m1)) P.ex)
    (hyl : X.env.scope.names.lookup y = some .local := by rfl) (hk : X.env.scope.kind = .function := by rfl) (hl : (py.line == pos.line) = true := by rfl) (hav : (scope.names.any fun (n, k) => n == y && (k == .local || k == .cell)) = false := by decide +kernel)
    (hsc : X.env.scope = sc := by rfl) (hb : blkC N sc scope [(x, N.idxOf x)] = true := by decide +kernel)
    (hx : ∀ s H C cl fp, Loc (bk X scope s H C cl fp).env.scope x := by intro _ _ _ _ _; first | exact Or.inl rfl | exact Or.inr rfl)
    (hf : ∀ s H C cl fp, (bk X scope s H C cl fp).fn x = true ∨ (bk X scope s H C cl fp).env.scope.names.lookup x = some .local := by intro _ _ _ _ _; first | exact .inr rfl | exact .inl rfl)
    (hs : ∀ x, foldedSetIterable iter X.env x = pure x := by intro _; rfl) : LS X (.Assign [.Name y py] (.ListComp elt [⟨.Name x p2, iter, ifs, 0⟩] scope pos) spos) r m P := ls_setlc gd hp hq Iv h hyl (sw_true hk hyl hl hav) (blk_of gd hsc hb) hx hf hs
/-- [g(x) for x in ..], nothing changes -/
theorem lc_map {ds : List Dt} {m1 : Mu} {G : Pd} (g : Dt → Dt) (gd : Gd k N X) (hz : ds.length ≤ sizeLine) (hs : ∀ d ∈ ds, ∀ s H C cl fp, Gd k N (bk X scope s H C cl fp) → LE (bk X scope s H C cl fp) elt (f d) m1 (fun y m4 => y = g d ∧ m4 = m1) X0) (hd : G (.lst (ds.map g)) m1) :
    LcOk X scope elt [] f (fun ds i acc m2 => acc = (ds.take i).map g ∧ m2 = m1) G ds m1 := by
  refine ⟨hz, ⟨rfl, rfl⟩, fun i d acc m2 hi _ iv s H C cl fp => lf_nil ?_, fun acc m2 _ iv => ?_⟩
  · obtain ⟨rfl, rfl⟩ := iv
    show ∀ s H C cl fp, LE (bk X scope s H C cl fp) elt (f d) m2 _ X0
    intro s H C cl fp
    refine (hs d (List.mem_of_getElem? hi) s H C cl fp (gd.blk _ _ _ _ _ _)).imp fun y m4 h => ?_
    obtain ⟨rfl, rfl⟩ := h
    exact ⟨by rw [List.take_add_one, hi, List.map_append]; rfl, rfl⟩
  · obtain ⟨rfl, rfl⟩ := iv
    rw [List.take_length]
    exact hd
/-- [x for x in .. if q(x)] -/
theorem lc_filter {ds : List Dt} {m1 : Mu} {G : Pd} {c : Expr} (q : Dt → Bool) (gd : Gd k N X) (hz : ds.length ≤ sizeLine) (ht : ∀ d ∈ ds, ∀ s H C cl fp, Gd k N (bk X scope s H C cl fp) → LT (bk X scope s H C cl fp) c (f d) m1 (fun b m4 => b = q d ∧ m4 = m1) X0)
    (hs : ∀ d ∈ ds, ∀ s H C cl fp, Gd k N (bk X scope s H C cl fp) → LE (bk X scope s H C cl fp) elt (f d) m1 (fun y m4 => y = d ∧ m4 = m1) X0) (hd : G (.lst (ds.filter q)) m1) :
    LcOk X scope elt [c] f (fun ds i acc m2 => acc = (ds.take i).filter q ∧ m2 = m1) G ds m1 := by
  refine ⟨hz, ⟨rfl, rfl⟩, fun i d acc m2 hi _ iv s H C cl fp => lf_one ?_, fun acc m2 _ iv => ?_⟩
  · obtain ⟨rfl, rfl⟩ := iv
    refine ⟨fun Z g H' Q W rp tk nk nx => (ht d (List.mem_of_getElem? hi) s H C cl fp (gd.blk _ _ _ _ _ _)).run Z g H' Q W rp tk (fun b H1 m3 h go so => nk b H1 m3 ?_ go so) nx⟩
    obtain ⟨rfl, rfl⟩ := h
    have e : ds.take (i + 1) = ds.take i ++ [d] := by rw [List.take_add_one, hi]; rfl
    cases hq : q d with
    | true =>
      show ∀ s H C cl fp, LE (bk X scope s H C cl fp) elt (f d) m3 _ X0
      intro s H C cl fp
      refine (hs d (List.mem_of_getElem? hi) s H C cl fp (gd.blk _ _ _ _ _ _)).imp fun y m4 h => ?_
      obtain ⟨rfl, rfl⟩ := h
      refine ⟨?_, rfl⟩
      rw [e, List.filter_append, List.filter_cons, if_pos hq]
      rfl
    | false =>
      refine ⟨?_, rfl⟩
      rw [e, List.filter_append, List.filter_cons, if_neg (by rw [hq]; exact Bool.false_ne_true)]
      simp
  · obtain ⟨rfl, rfl⟩ := iv
    rw [List.take_length]
    exact hd
end
end Dw
namespace Dw
open PySem PySem.Spec PyProof.Rows L2
theorem itT {A B : Prop} [Decidable (true = true)] (h : A) : if true = true then A else B := by rw [if_pos rfl]; exact h
theorem itF {A B : Prop} [Decidable (false = true)] (h : B) : if false = true then A else B := by rw [if_neg Bool.false_ne_true]; exact h
theorem lenS {α : Type} {l : List α} (h : Nat.ble l.length 100 = true) : l.length ≤ sizeLine := Nat.le_trans (Nat.le_of_ble_eq_true h) (by decide)
/-! ### texts by their codes -/
theorem S_ex (x : Str) : ∃ l, x = SX.S l := ⟨x.cps.toList, (SX.S_tl x).symm⟩
theorem cut_from {a : List Nat} {i : Int} (h : 0 ≤ i) : cutS (SX.S a) (some i) none = SX.S (a.drop i.toNat) := by rw [C8.cutS_slice, SX.slice_from h]
theorem cut_to {a : List Nat} {i : Int} (h : 0 ≤ i) : cutS (SX.S a) none (some i) = SX.S (a.take i.toNat) := by rw [C8.cutS_slice, SX.slice_to h]
theorem signsS (a : List Nat) : signs (SX.S a) = a.map fun c => Dt.str (SX.S [c]) := rfl
theorem atS {a : List Nat} {n c : Nat} (h : a[n]? = some c) : atI (SX.S a).cps.toList (n : Int) = some c := atI_nat h
section
variable {X : Cx} {m : Mu} {G : Dt → Prop} {F : Pd}
theorem o_neRs {i : Str} (q : G (.bl false)) : O2 X (compareOp .NotEq) (.str i) (.str i) m G := o_ne_str (by rw [decide_eq_true rfl]; exact q)
theorem o_eqRs {i : Str} (q : G (.bl true)) : O2 X (compareOp .Eq) (.str i) (.str i) m G := o_eq_str (by rw [decide_eq_true rfl]; exact q)
theorem o_neRi {i : Int} (q : G (.bl false)) : O2 X (compareOp .NotEq) (.int i) (.int i) m G := o_ne_int (by rw [decide_eq_true rfl]; exact q)
theorem o_eqRi {i : Int} (q : G (.bl true)) : O2 X (compareOp .Eq) (.int i) (.int i) m G := o_eq_int (by rw [decide_eq_true rfl]; exact q)
theorem o_eqS {a b : List Nat} (q : G (.bl (decide (a = b)))) : O2 X (compareOp .Eq) (.str (SX.S a)) (.str (SX.S b)) m G := o_eq_str (by rw [show decide (SX.S a = SX.S b) = decide (a = b) from decide_eq_decide.mpr ⟨SX.S_inj, fun h => h ▸ rfl⟩]; exact q)
theorem o_neS {a b : List Nat} (q : G (.bl (!decide (a = b)))) : O2 X (compareOp .NotEq) (.str (SX.S a)) (.str (SX.S b)) m G := o_ne_str (by rw [show decide (SX.S a = SX.S b) = decide (a = b) from decide_eq_decide.mpr ⟨SX.S_inj, fun h => h ▸ rfl⟩]; exact q)
theorem o_addS {a b : List Nat} (h : a.length + b.length ≤ sizeLine) (q : G (.str (SX.S (a ++ b)))) : O2 X (binaryOp .Add) (.str (SX.S a)) (.str (SX.S b)) m G := o_adds (by rw [SX.S_len, SX.S_len]; exact h) (by rw [SX.S_cat]; exact q)
theorem c_lenS {a : List Nat} (h : a.length ≤ sizeLine) (q : F (.int a.length) m) : OC X (.builtin "len") [.str (SX.S a)] m F := c_len_str (by rw [SX.S_len]; exact h) (by rw [SX.S_len]; exact q)
theorem oi_S {a : List Nat} {n c : Nat} (hz : a.length ≤ sizeLine) (h : a[n]? = some c) (q : G (.str (SX.S [c]))) : OI X (.str (SX.S a)) (.int (n : Int)) m G := oi_str (by rw [SX.S_len]; exact hz) (atS h) q
theorem py_lst_strs (l : List Nat) : plains (l.map fun c => Dt.str (SX.S [c])) = true := by
  induction l with
  | nil => rfl
  | cons a t ih => exact ih
theorem lay_strs {l : List Nat} (h : ∀ c ∈ l, c < 0x110000) : PyData.canLayAll0 (pys (l.map fun c => Dt.str (SX.S [c]))) = true ∧ PyData.depthAll (pys (l.map fun c => Dt.str (SX.S [c]))) = 0 := by
  induction l with
  | nil => exact ⟨by simp [pys, PyData.canLayAll0], by simp [pys, PyData.depthAll]⟩
  | cons a t ih =>
    have := ih fun c hc => h c (List.mem_cons_of_mem _ hc)
    have ha := h a List.mem_cons_self
    constructor
    · simp only [List.map_cons, pys, PyData.canLayAll0, this.1, Bool.and_true]
      simp only [py, PyData.canLay0, PyData.strOk, SX.S]
      simpa using ha
    · simp only [List.map_cons, pys, PyData.depthAll, this.2]
      simp [py, PyData.depth]
theorem shaped_strs {l : List Nat} (h : ∀ c ∈ l, c < 0x110000) : SeqAt.shaped (py (.lst (l.map fun c => Dt.str (SX.S [c])))) = true := by
  unfold SeqAt.shaped
  simp only [py, PyData.canLay0, PyData.depth, (lay_strs h).1, (lay_strs h).2]
  decide
/-- [..] != [] -/
theorem o_neNil {ds : List Dt} (hu : X.A.units + 64 < cLine) (hp : plains ds = true) (hs : SeqAt.shaped (py (.lst ds)) = true) (q : G (.bl (!ds.isEmpty))) : O2 X (compareOp .NotEq) (.lst ds) (.lst []) m G := by
  refine o_neD hu hp rfl hs (by decide +kernel) ?_
  rw [show PyData.eqv (py (.lst ds)) (py (.lst [])) = ds.isEmpty by cases ds <;> simp [py, pys, PyData.eqv, PyData.eqvAll]]
  exact q
theorem o_neNil0 (hu : X.A.units + 64 < cLine) (q : G (.bl false)) : O2 X (compareOp .NotEq) (.lst []) (.lst []) m G := o_neNil hu rfl (by decide +kernel) q
end
section
variable {X : Cx} {r : En} {m : Mu} {P : Pc} {st : Stmt} {rest : List Stmt}
theorem le_globS {e : Str} {x : Str} {t : Tok} {pos : Pos} {F : Pd} {E : Xd} (hm : X.mg x = some (.str e t)) (q : F (.str e) m) (hg : Gl X x := by rfl) (hdb : (x == ("__debug__" : Str)) = false := by decide) : Dw.LE X (.Name x pos) r m F E := le_glob (v := .str e) (d := .str e) hm ⟨_, rfl⟩ (fun _ _ => .str _) q hg hdb
theorem le_globI {e : Int} {x : Str} {t : Tok} {pos : Pos} {F : Pd} {E : Xd} (hm : X.mg x = some (.int e t)) (q : F (.int e) m) (hg : Gl X x := by rfl) (hdb : (x == ("__debug__" : Str)) = false := by decide) : Dw.LE X (.Name x pos) r m F E := le_glob (v := .int e) (d := .int e) hm ⟨_, rfl⟩ (fun _ _ => .int _) q hg hdb
/-- an if whose test changes nothing and answers b -/
theorem ls_ifP {c : Expr} {ya nb : List Stmt} {pos : Pos} (b : Bool) (ht : LT X c r m (fun k m1 => k = b ∧ m1 = m) P.ex) (h1 : b = true → LB X ya r m P) (h2 : b = false → LB X nb r m P) : LS X (.If c ya nb pos) r m P := by
  refine ls_if ⟨fun Z g H Q W rp tk nk nx => ht.run Z g H Q W rp tk (fun k H1 m1 q => nk k H1 m1 ?_) nx⟩
  obtain ⟨rfl, rfl⟩ := q
  cases k with
  | true => exact itT (h1 rfl)
  | false => exact itF (h2 rfl)
/-- a cut between statements -/
theorem lb_mid (Mid : En → Mu → Prop) (h1 : LS X st r m { P with nx := Mid }) (h2 : ∀ r1 m1, Mid r1 m1 → LB X rest r1 m1 P) : LB X (st :: rest) r m P :=
  lb_cons ⟨fun Z g H D W rp tk np => h1.run Z g H D W rp tk ⟨fun g1 H1 r1 m1 q => np.nx g1 H1 r1 m1 (h2 r1 m1 q), np.rt, np.bk, np.ct, np.ex⟩⟩
/-- a plain cut: the slots are known, the store too -/
theorem lb_midP (r2 : En) (m2 : Mu) (h1 : LS X st r m { P with nx := fun r1 m1 => r1 = r2 ∧ m1 = m2 }) (h2 : LB X rest r2 m2 P) : LB X (st :: rest) r m P :=
  lb_mid _ h1 fun r1 m1 h => by obtain ⟨rfl, rfl⟩ := h; exact h2
end
end Dw
namespace Dw
open PySem PySem.Spec PyProof.Rows L2
/-- what repr can tell -/
inductive Rp (K : PySem.W.Frag) : Dt → Prop
  | pl {d : Dt} (h : Shw d) : Rp K d
  | d0 : Rp K (.dct [])
  | ex {C : Addr} {cn : Str} {d : Dt} (T : XF K C cn) (hl : leaf d = true) (h : Shw d) (hz : (shows d).length ≤ 10000) : Rp K (.exc C cn [d])
section
variable {X : Cx} {m : Mu} {F : Pd} {k : Nat} {N : List Str} {d : Dt}
theorem c_rp (hg : X.A.guards = some []) (hu : X.A.units + 64 < cLine) (h : Rp X.K d) (q : F (.str (rep d)) m) : OC X (.builtin "repr") [d] m F := by
  cases h with
  | pl h => 
    refine c_repr (k := 0) (N := []) hg hu h ?_
    have e : rep d = shows d := by cases d <;> first | rfl | (have := h.pl; simp [plain] at this)
    rw [← e]; exact q
  | d0 => exact c_repr_dct0 hg hu q
  | ex T hl h hz => exact c_repr_exc hu T hl h hz q
end
end Dw
namespace Dw
open PySem PySem.Spec PyProof.Rows L2
theorem x6_mk {K : PySem.W.Frag} {C : Addr} (h1 : PySem.W.subIn K (.ref C) (.type "int") = some false) (h2 : PySem.W.subIn K (.ref C) (.type "str") = some false) (h3 : PySem.W.subIn K (.ref C) (.type "bool") = some false) (h4 : PySem.W.subIn K (.ref C) (.type "list") = some false)
    (h5 : PySem.W.subIn K (.ref C) (.type "tuple") = some false) (h6 : PySem.W.subIn K (.ref C) (.type "dict") = some false) : X6 K C := by
  have go : ∀ T : String, PySem.W.kitMeta T = true → PySem.W.subIn K (.ref C) (.type T) = some false → PySem.W.kitOne K (.ref C) (.type T) = some false := fun T hk hs => by
    unfold PySem.W.kitOne PySem.W.kitCls
    rw [if_neg (show ¬ ((Value.ref C == Value.type T) = true) from fun z => nomatch (beq_iff_eq.mp z))]
    simp only [hk, hs, if_true]
  refine ⟨fun t => ?_⟩
  cases t
  · exact go _ (by decide +kernel) h1
  · exact go _ (by decide +kernel) h2
  · exact go _ (by decide +kernel) h3
  · exact go _ (by decide +kernel) h4
  · exact go _ (by decide +kernel) h5
  · exact go _ (by decide +kernel) h6
theorem Ex_found.Txt.xf {K : PySem.W.Frag} {mg : Str → Option Value} {cn : Str} {C fI : Addr} (T : Ex_found.Txt K mg cn C fI) (hc : PySem.W.isClsIn K C = true) (hl : (excReprHead cn.toString).length ≤ 100) : XF K C cn := by
  obtain ⟨q, N, bs, bm, sn, sub, ab, col, dd, k0, k1, k2, k3, k5, hL, _⟩ := T.cls
  exact ⟨⟨_, _, hL, rfl, rfl⟩, T.rC, T.exC, hc, T.ga, T.gg, T.cC, T.spC, T.tkC, T.mrC, hl⟩
theorem Ex_at.Txt.xf {K : PySem.W.Frag} {mg : Str → Option Value} {cn : Str} {C fI : Addr} (T : Ex_at.Txt K mg cn C fI) (hc : PySem.W.isClsIn K C = true) (hl : (excReprHead cn.toString).length ≤ 100) : XF K C cn := by
  obtain ⟨q, N, bs, bm, sn, sub, ab, col, dd, k0, k1, k2, k3, k5, hL, _⟩ := T.cls
  exact ⟨⟨_, _, hL, rfl, rfl⟩, T.rC, T.exC, hc, T.ga, T.gg, T.cC, T.spC, T.tkC, T.mrC, hl⟩
theorem Ex_many.Txt.xf {K : PySem.W.Frag} {mg : Str → Option Value} {cn : Str} {C fI : Addr} (T : Ex_many.Txt K mg cn C fI) (hc : PySem.W.isClsIn K C = true) (hl : (excReprHead cn.toString).length ≤ 100) : XF K C cn := by
  obtain ⟨q, N, bs, bm, sn, sub, ab, col, dd, k0, k1, k2, k3, k5, hL, _⟩ := T.cls
  exact ⟨⟨_, _, hL, rfl, rfl⟩, T.rC, T.exC, hc, T.ga, T.gg, T.cC, T.spC, T.tkC, T.mrC, hl⟩
end Dw
namespace Dw
open PySem PySem.Spec PyProof.Rows L2
section
variable {X : Cx} {a b c e : Expr} {r : En} {m : Mu} {P : Pc} {F : Pd} {E : Xd} {pos : Pos} {k : Nat} {N : List Str}
/-- a, b = e1, e2 with plain local names -/
theorem ls_par {x y : Str} {px py pt pt2 : Pos} {kt k2 : Nat} {f : Dt → En} {g : Dt → Dt → En} (gd : Gd k N X) (hp : Put N r x f) (hq : ∀ d, Put N (f d) y (g d)) (h : LA X [a, b] r m (fun ds m1 => ∃ d1 d2, ds = [d1, d2] ∧ P.nx (g d1 d2) m1) P.ex)
    (hxy : x ≠ y := by decide) (hx : X.env.scope.names.lookup x = some .local := by rfl) (hy : X.env.scope.names.lookup y = some .local := by rfl)
    (hw : swappedStores [.Tuple [.Name x px, .Name y py] kt pt] (.Tuple [a, b] k2 pt2) X.env = pure (some [x, y]) := by rfl) (hs : swapsWithSole [.Tuple [.Name x px, .Name y py] kt pt] (.Tuple [a, b] k2 pt2) pos.line X.env = pure false := by rfl) :
    LS X (.Assign [.Tuple [.Name x px, .Name y py] kt pt] (.Tuple [a, b] k2 pt2) pos) r m P := by
  obtain ⟨i, hi, hr⟩ := hp.ix
  obtain ⟨j, hj, _⟩ := (hq .non).ix
  have hij : i ≠ j := fun z => hxy (Option.some.inj (hi.symm.trans (z ▸ hj)))
  refine ⟨fun Z g' H D W rp tk np => (ps_par gd.calm gd.nd' (by rw [gd.hN]; exact hi) (by rw [gd.hN]; exact hj) hij hx hy pa_w hw hs).w (h.run Z g' H _ W rp tk (fun vs H1 ds m1 q go so da => ?_) np.ex)⟩
  obtain ⟨d1, d2, rfl, q⟩ := q
  cases da with
  | cons h1 h2 =>
    cases h2 with
    | cons h2 h3 =>
      cases h3
      refine ⟨_, _, rfl, ?_⟩
      obtain ⟨j2, hj2, hr2⟩ := (hq d1).ix
      have ej : j = j2 := nodup_ix gd.nd hj hj2
      subst ej
      rw [hr2 d2, hr d1] at q
      exact np.nx _ H1 _ m1 q go (((rp.go go so).set i h1).set j h2)
/-- target = e -/
theorem ls_asg {tg : Expr} (h : LE X e r m (fun d m1 => LG X tg r d fun r1 => P.nx r1 m1) P.ex) (hs : swapsWithSole [tg] e pos.line X.env = pure false := by rfl) (hw : swappedStores [tg] e X.env = pure none := by rfl)
    (h1 : (assignEach [tg] X.env).map (·.2) = [assign tg X.env] := by rfl) : LS X (.Assign [tg] e pos) r m P :=
  ⟨fun Z g H D W rp tk np => (ps_asg pe_w pg_w hs hw h1).w (h.run Z g H _ W rp tk (fun v H1 d m1 q go so da pins s u I rv => q.run Z m1 g H1 v _ (rp.go go so) da (fun g' r' q' rp' => np.nx g' H1 r' m1 q' go rp') pins s u I rv) np.ex)⟩
/-- t[lo:hi] of a tuple -/
theorem le_sl_tup {lo hi : Option Expr} {p2 : Pos} (h : LE X a r m (fun d m1 => LO X lo r m1 (fun l m2 => LO X hi r m2 (fun u m3 => ∃ ds, d = .tup ds ∧ F (.tup (cutD ds l u)) m3) E) E) E) : LE X (.Subscript a (.Slice lo hi none p2) pos) r m F E := by
  refine ⟨fun Z st H Q W rp tk nk nx => (pe_slice sl_tupA pe_w po_w po_w).w ?_⟩
  refine h.run Z st H _ W rp tk (fun v H1 d m1 q go so da => ?_) nx
  refine q.run Z st H1 _ W (rp.go go so) tk (fun l H2 m2 q2 go2 so2 => ?_) (nx.go go)
  refine q2.run Z st H2 _ W (rp.go (go.trans go2) so2) tk (fun u H3 m3 q3 go3 so3 => ?_) (nx.go (go.trans go2))
  obtain ⟨ds, rfl, q3⟩ := q3
  have da3 := da.move (Go.full Z (go2.trans go3))
  cases da3 with
  | tup h1 h2 =>
    rename_i vs p
    refine ⟨_, _, rfl, h1.sq, fun hw => ?_, fun hw p hp => nk _ _ _ m3 q3 (((go.trans go2).trans go3).trans (Ext.fresh hp)) (so3.laid hp) (da_new_tup so3 hp (cut_da h2 l u))⟩
    refine nk _ H3 (.tup (cutD ds l u)) m3 q3 ((go.trans go2).trans go3) so3 ?_
    have e : cutD ds l u = ds := by
      unfold cutD
      rw [← h2.length] at hw
      rw [hw.1, hw.2, List.drop_zero, Nat.sub_zero, List.take_length]
    rw [e]
    exact .tup h1 h2
end
section
open PySem.W PySem.Calls
variable {prog : Program} {w : World} {A : Around} {E : Value → Shared → Prop} {s : Shared}
/-- the head and the rest of a tuple of one thing at least -/
theorem unpack_head {t : Addr} {x : Value} {its : List Value} {n : Nat} {Q : List Value → Shared → Prop} (hn : A.handled = none) (ht : IsTup s.heap t (x :: its).toArray) (hz : its.length ≤ 16000)
    (hq : ∀ (h' : Heap) (tk : Nat), (∀ b o, s.heap.get? b = some o → h'.get? b = some o) → Q [x, .ref h'.objs.size] { s with heap := h'.push { cls := .type "list", data := .seq its.toArray }, toks := tk }) : wpAny (model prog w) A (unpackItems (.ref t) 2 (some 1)) Q E s := by
  have ne : t ≠ s.heap.objs.size := by obtain ⟨o, ho, _⟩ := ht; exact Nat.ne_of_lt (Heap.lt_size ho)
  unfold unpackItems notIterableAtAll
  refine wpAny_bind (wpAny_bind (wpAny_specialOf ht.typeIs slot_tuple_iter.lookup (wpAny_pure ?_)))
  rw [if_neg (by exact Bool.false_ne_true)]
  refine wpAny_bind (wpAny_holding (iter_tuple ht (wpAny_bind (wpAny_holding (draw_tuple ne 1 0 _ _ ⟨_, Heap.get?_push_size _ rfl, rfl, rfl⟩ (ht.push _) (by simp) fun g1 it1 sb1 => ?_)))))
  have ht1 : IsTup g1 t (x :: its).toArray := (ht.push _).extBut sb1.extBut ne
  have e1 : ((x :: its).toArray.toList.drop 0).take 1 = [x] := rfl
  rw [e1]
  obtain ⟨oi, hoi, _⟩ := id it1
  obtain ⟨ol, hol, _⟩ := id ht1
  rw [if_neg (show ¬ [x].length < 1 by simp)]
  refine wpAny_bind (wpAny_holding (kun_collect (s := { s with heap := g1 }) (T := "tuple_iterator") (.inr (.inr (.inr rfl))) (Walks.tuple (A := A.in1) hn s.heap.objs.size t ne _) (fun j u st => st.1.typeIs) (k := 1) (by simp) ⟨it1, ht1⟩ (Heap.lt_size hoi) (Heap.lt_size hol) (fun g2 tk kp => ?_) (by rw [sizeLine_eq]; simp; omega)))
  have e2 : (x :: its).toArray.toList.drop 1 = its := rfl
  rw [e2]
  show wpAny _ _ (if its.length < 0 then _ else _) _ _ _
  rw [if_neg (by omega)]
  show wpAny _ _ (newList (its.take (its.length - 0)) >>= fun d => pure ([x] ++ [d] ++ its.drop (its.length - 0))) _ _ _
  rw [Nat.sub_zero, List.take_length, List.drop_length]
  refine wpAny_bind (wpAny_newList (wpAny_pure (hq g2 tk fun b o e => kp b o (Nat.ne_of_lt (Heap.lt_size e)) (sb1.extBut b o (Nat.ne_of_lt (Heap.lt_size e)) (Heap.get?_push_of_some _ e)))) ?_)
  rw [sizeLine_eq]
  omega
end
section
variable {X : Cx} {r : En} {m : Mu} {P : Pc} {e : Expr} {pos : Pos} {k : Nat} {N : List Str}
/-- w, *t = e, e a tuple of one thing at least -/
theorem ls_star {x y : Str} {px py ps pt : Pos} {kt : Nat} {f : Dt → En} {g : Dt → Dt → En} (gd : Gd k N X) (hp : Put N r x f) (hq : ∀ d, Put N (f d) y (g d)) (h : LE X e r m (fun d m1 => ∃ d1 ds, d = .tup (d1 :: ds) ∧ ds.length ≤ 16000 ∧ P.nx (g d1 (.lst ds)) m1) P.ex)
    (hx : Loc X.env.scope x := by first | exact Or.inl rfl | exact Or.inr rfl) (hy : Loc X.env.scope y := by first | exact Or.inl rfl | exact Or.inr rfl)
    (hfx : X.fn x = true ∨ X.env.scope.names.lookup x = some .local := by first | exact .inl rfl | exact .inr rfl) (hfy : X.fn y = true ∨ X.env.scope.names.lookup y = some .local := by first | exact .inl rfl | exact .inr rfl)
    (hs : swapsWithSole [.Tuple [.Name x px, .Starred (.Name y py) ps] kt pt] e pos.line X.env = pure false := by rfl) (hw : swappedStores [.Tuple [.Name x px, .Starred (.Name y py) ps] kt pt] e X.env = pure none := by rfl)
    (h1 : (assignEach [.Tuple [.Name x px, .Starred (.Name y py) ps] kt pt] X.env).map (·.2) = [assign (.Tuple [.Name x px, .Starred (.Name y py) ps] kt pt) X.env] := by rfl) :
    LS X (.Assign [.Tuple [.Name x px, .Starred (.Name y py) ps] kt pt] e pos) r m P := by
  obtain ⟨i, hi, hr⟩ := hp.ix
  refine ⟨fun Z g0 H D W rp tk np => (ps_asg pe_w pg_w hs hw h1).w (h.run Z g0 H _ W rp tk (fun v H1 d m1 q go so da pins s u I rv => ?_) np.ex)⟩
  obtain ⟨d1, ds, rfl, hz, q⟩ := q
  obtain ⟨j, hj, hr2⟩ := (hq d1).ix
  rw [hr2, hr] at q
  cases da with
  | tup h1 h2 =>
    cases rv
    cases h2 with
    | cons h2 h3 =>
      rename_i v1 vs
      obtain ⟨its, rv, ht, hsz⟩ := I.tuple h1.sq
      rw [arm_assign_Tuple]
      refine wpAny_bind (wpAny_standAt ?_)
      cases rv with
      | cons r1 r2 =>
        rename_i u1 us
        have hlen : us.length ≤ 16000 := by rw [← r2.length, ← h3.length]; exact hz
        have hlv : vs.length ≤ sizeLine := by rw [← h3.length]; exact Nat.le_trans hz (by decide)
        show wpAny _ _ (unpack _ [(false, assign (.Name x px) X.env), (true, assign (.Name y py) X.env)]) _ _ _
        unfold unpack
        refine wpAny_bind (wpAny_holding (unpack_head (n := 0) (I.ok.hd gd.calm) ht hlen fun h' tk kp => ?_))
        have I0 : Inv X pins g0 H1 { s with heap := h', toks := tk } := I.kept kp
        have hfr : H1 h'.objs.size = none := I0.hok.fresh (Nat.le_refl _)
        have I1 : Inv X pins g0 (upd H1 h'.objs.size (.lst vs)) { s with heap := h'.push { cls := .type "list", data := .seq us.toArray }, toks := tk } := I0.laid (t' := tk) (fun b o e => Heap.get?_push_of_some _ e) (Nat.le_refl _) ⟨hlv, us, 0, r2, Heap.get?_push_size _ rfl⟩
        have dl : Da X.K (Z ++ dom m1) (upd H1 h'.objs.size (.lst vs)) (.lst ds) (.ref h'.objs.size) := da_new_lst so hfr h3
        have so2 := so.laid (o := .lst vs) hfr
        have go2 := go.trans (Ext.fresh (o := .lst vs) hfr)
        refine assignInOrder_cons (thn ((pg_name (i := i) (X := X) gd.nd' (by rw [gd.hN]; exact hi) hx hfx).run pins _ g0 _ v1 u1 (fun g' H' => g' = g0.set i (some v1) ∧ H' = upd H1 h'.objs.size (.lst vs)) I1 r1 ⟨rfl, rfl⟩) fun _ s2 hh => ?_)
        obtain ⟨g', H', I2, rfl, rfl⟩ := hh
        refine assignInOrder_cons (thn ((pg_name (i := j) (X := X) gd.nd' (by rw [gd.hN]; exact hj) hy hfy).run pins _ _ _ (.ref h'.objs.size) (.ref h'.objs.size) (fun g' H' => g' = (g0.set i (some v1)).set j (some (.ref h'.objs.size)) ∧ H' = upd H1 h'.objs.size (.lst vs)) I2 rfl ⟨rfl, rfl⟩) fun _ s3 hh => ?_)
        obtain ⟨g'', H'', I3, rfl, rfl⟩ := hh
        refine assignInOrder_nil ⟨_, _, I3, np.nx _ _ _ m1 q go2 ?_⟩
        exact ((rp.go go2 so2).set i (h2.move (Ext.fresh hfr))).set j dl
end
section
variable {X : Cx} {m : Mu} {G : Dt → Prop}
theorem o_modG {i j : Int} (h : 0 < j) (q : ∀ n : Int, 0 ≤ n → n < j → G (.int n)) : O2 X (binaryOp .Mod) (.int i) (.int j) m G := o_mod h (q _ (Int.emod_nonneg _ (by omega)) (Int.emod_lt_of_pos _ h))
end
end Dw
namespace Dw
open PySem PySem.Spec PyProof.Rows L2
/-! ### several targets -/
structure LGs (X : Cx) (tgs : List Expr) (r : En) (ds : List Dt) (f : En → Prop) : Prop where
  run : ∀ (Z : List Addr) (m : Mu) (g : L2.St) (H : Hp) (vs : List V) (Q : L2.St → Hp → Prop), Rep X.K Z m H g r → DaL X.K (Z ++ dom m) H ds vs → (∀ g' r', f r' → Rep X.K Z m H g' r' → Q g' H) →
    ∀ (pins : List (Addr × Obj)) (s : Shared) (us : List Value), Inv X pins g H s → Vals vs us → wpAny (model X.prog X.w) X.A (assignInOrder ((assignEach tgs X.env).map (·.2)) us) (fun _ s' => ∃ g' H', Inv X pins g' H' s' ∧ Q g' H') X.xe s
def wGs (X : Cx) (tgs : List Expr) : TGs := fun vs g H Q => ∀ (pins : List (Addr × Obj)) (s : Shared) (us : List Value), Inv X pins g H s → Vals vs us → wpAny (model X.prog X.w) X.A (assignInOrder ((assignEach tgs X.env).map (·.2)) us) (fun _ s' => ∃ g' H', Inv X pins g' H' s' ∧ Q g' H') X.xe s
section
variable {X : Cx} {t : Expr} {ts : List Expr} {r : En} {d : Dt} {ds : List Dt} {f : En → Prop} {pos : Pos} {k kt : Nat} {N : List Str}
theorem pgs_w : PGs X ts (wGs X ts) := ⟨fun pins s g H vs us Q I rv h => h pins s us I rv⟩
theorem lgs_nil (q : f r) : LGs X [] r [] f := ⟨fun Z m g H vs Q rp da hq pins s us I rv => by
  cases da
  exact (pgs_nil).run pins s g H _ us Q I rv ⟨rfl, hq g r q rp⟩⟩
theorem lgs_cons (h : LG X t r d fun r1 => LGs X ts r1 ds f) (hs : (assignEach (t :: ts) X.env).map (·.2) = assign t X.env :: (assignEach ts X.env).map (·.2) := by rfl) : LGs X (t :: ts) r (d :: ds) f := by
  refine ⟨fun Z m g H vs Q rp da hq pins s us I rv => ?_⟩
  cases da with
  | cons h1 h2 =>
    refine (pgs_cons pg_w pgs_w hs).run pins s g H _ us Q I rv ⟨_, _, rfl, ?_⟩
    exact h.run Z m g H _ _ rp h1 fun g' r' q rp' => q.run Z m g' H _ Q rp' h2 hq
theorem lg_tup (gd : Gd k N X) (h : LGs X ts r ds f) (hn : (assignEach ts X.env).length = ds.length := by rfl) (hst : (assignEach ts X.env).findIdx? (·.1) = none := by rfl) : LG X (.Tuple ts kt pos) r (.tup ds) f := by
  refine ⟨fun Z m g H v Q rp da hq pins s u I rv => ?_⟩
  cases da with
  | tup h1 h2 => exact (pg_tup gd.calm pgs_w rfl hst).run pins s g H _ u Q I rv ⟨_, _, rfl, h1.sq, by rw [← h2.length]; exact hn.symm, h.run Z m g H _ Q rp h2 hq⟩
theorem lg_lst (gd : Gd k N X) (h : LGs X ts r ds f) (hn : (assignEach ts X.env).length = ds.length := by rfl) (hst : (assignEach ts X.env).findIdx? (·.1) = none := by rfl) : LG X (.Tuple ts kt pos) r (.lst ds) f := by
  refine ⟨fun Z m g H v Q rp da hq pins s u I rv => ?_⟩
  cases da with
  | lst h1 h2 => exact (pg_lst gd.calm pgs_w rfl hst).run pins s g H _ u Q I rv ⟨_, _, rfl, h1.sq, by rw [← h2.length]; exact hn.symm, h.run Z m g H _ Q rp h2 hq⟩
end
end Dw
namespace Dw
open PySem PySem.Spec PyProof.Rows L2
section
variable {X : Cx} {m : Mu} {G : Dt → Prop}
/-- t == () -/
theorem o_eqT0 {ds : List Dt} (hu : X.A.units + 64 < cLine) (q : G (.bl ds.isEmpty)) : O2 X (compareOp .Eq) (.tup ds) (.tup []) m G := by
  refine ⟨fun Z H vx vy Q so dx dy nk pins s g I v u rx ry => ?_⟩
  cases dx with
  | tup h1 h2 =>
    cases dy with
    | tup h3 h4 =>
      cases h4
      cases rx
      cases ry
      obtain ⟨its, rv, ht, _⟩ := I.tuple h1.sq
      obtain ⟨its2, rv2, ht2, _⟩ := I.tuple h3.sq
      cases rv2
      refine SeqAt.eq_tupleAt (e := fun _ => true) ht ht2 (by omega) (fun j a1 a2 => absurd a2 (by simp)) ?_
      have e : ((List.range (min its.toArray.size ([] : List Value).toArray.size)).all (fun _ => true) && its.toArray.size == ([] : List Value).toArray.size) = ds.isEmpty := by
        have hl : its.length = ds.length := by rw [← rv.length, h2.length]
        cases ds with
        | nil => cases its with
          | nil => rfl
          | cons a t => cases hl
        | cons d t => cases its with
          | nil => cases hl
          | cons a t => simp
      rw [e]
      exact ⟨.bl _, H, I, rfl, nk _ H _ m ⟨rfl, q⟩ Ext.rfl' so (.bl _)⟩
/-- xs == [] -/
theorem o_eqL0 {ds : List Dt} (hu : X.A.units + 64 < cLine) (q : G (.bl ds.isEmpty)) : O2 X (compareOp .Eq) (.lst ds) (.lst []) m G := by
  refine ⟨fun Z H vx vy Q so dx dy nk pins s g I v u rx ry => ?_⟩
  cases dx with
  | lst h1 h2 =>
    cases dy with
    | lst h3 h4 =>
      cases h4
      cases rx
      cases ry
      obtain ⟨its, rv, ht, _⟩ := I.list h1.sq
      obtain ⟨its2, rv2, ht2, _⟩ := I.list h3.sq
      cases rv2
      have hl : its.length = ds.length := by rw [← rv.length, h2.length]
      have fin : EP X pins g Q (.bool ds.isEmpty) s := ⟨.bl _, H, I, rfl, nk _ H _ m ⟨rfl, q⟩ Ext.rfl' so (.bl _)⟩
      cases ds with
      | nil =>
        cases its with
        | nil => exact SeqAt.eq_listAt (e := fun _ => true) ht.isList ht2.isList rfl (by omega) (fun j a1 a2 => absurd a2 (by simp)) fin
        | cons a t => cases hl
      | cons d t =>
        cases its with
        | nil => cases hl
        | cons a t => exact SeqAt.eq_list_lengthsAt ht.isList ht2.isList (by simp) (by omega) fin
/-- (w, ..) == (y,), texts ahead -/
theorem o_eqT1 {x y : Str} {ds : List Dt} (hu : X.A.units + 64 < cLine) (q : G (.bl (decide (x = y) && ds.isEmpty))) : O2 X (compareOp .Eq) (.tup (.str x :: ds)) (.tup [.str y]) m G := by
  refine ⟨fun Z H vx vy Q so dx dy nk pins s g I v u rx ry => ?_⟩
  cases dx with
  | tup h1 h2 =>
    cases dy with
    | tup h3 h4 =>
      cases rx
      cases ry
      obtain ⟨its, rv, ht, _⟩ := I.tuple h1.sq
      obtain ⟨its2, rv2, ht2, _⟩ := I.tuple h3.sq
      cases h2 with
      | cons a1 a2 =>
        cases a1
        cases h4 with
        | cons b1 b2 =>
          cases b1
          cases b2
          cases rv with
          | cons c1 c2 =>
            cases rv2 with
            | cons d1 d2 =>
              cases d2
              obtain ⟨t1, rfl⟩ := c1
              obtain ⟨t2, rfl⟩ := d1
              rename_i vs us
              refine SeqAt.eq_tupleAt (e := fun _ => x == y) ht ht2 (by omega) (fun j e1 e2 => ?_) ?_
              · have hj : j = 0 := by simp at e2; omega
                subst hj
                exact SeqAt.EqAt.str_str x t1 y t2
              · have e : ((List.range (min (Value.str x t1 :: us).toArray.size [Value.str y t2].toArray.size)).all (fun _ => x == y) && (Value.str x t1 :: us).toArray.size == [Value.str y t2].toArray.size) = (decide (x = y) && ds.isEmpty) := by
                  have hl : us.length = ds.length := by rw [← c2.length, a2.length]
                  have hb : (x == y) = decide (x = y) := by by_cases z : x = y <;> simp [z]
                  rw [hb]
                  cases ds with
                  | nil =>
                    cases us with
                    | nil => simp
                    | cons a t => cases hl
                  | cons d t =>
                    cases us with
                    | nil => cases hl
                    | cons a t => simp
                rw [e]
                exact ⟨.bl _, H, I, rfl, nk _ H _ m ⟨rfl, q⟩ Ext.rfl' so (.bl _)⟩
end
section
variable {X : Cx} {m : Mu} {F : Pd}
theorem kit_none {K : PySem.W.Frag} {C : Addr} (h : X6 K C) : ∀ Ts : List Ty6, PySem.W.kitAny K (.ref C) (Ts.map fun t => Value.type t.nm) = some false
  | [] => rfl
  | t :: Ts => by
    show (match PySem.W.kitOne K (.ref C) (.type t.nm) with | some true => some true | some false => PySem.W.kitAny K (.ref C) (Ts.map fun t => Value.type t.nm) | none => none) = some false
    rw [h.no t]
    exact kit_none h Ts
theorem c_isiTE {C : Addr} {cn : Str} {ds : List Dt} {Ts : List Ty6} (hX : XF X.K C cn) (h6 : X6 X.K C) (q : F (.bl false) m) : OC X (.builtin "isinstance") [.exc C cn ds, .tup (Ts.map fun t => .raw (.ty t.nm))] m F := by
  refine ⟨fun Z H vs Q so da nk pins s g I us rv => ?_⟩
  cases da with
  | cons d1 d2 =>
    cases d2 with
    | cons d2 d3 =>
      cases d3
      cases d1 with
      | exc n1 h1 n2 h2 n4 h4 h3 =>
        cases rv with
        | cons r1 r2 =>
          cases r2 with
          | cons r2 r3 =>
            cases r3
            cases r1
            cases d2 with
            | tup t1 t2 =>
              have e : Ts.map (fun t => Dt.raw (.ty t.nm)) = (Ts.map Ty6.nm).map fun T => Dt.raw (.ty T) := by rw [List.map_map]; rfl
              rw [e] at t2
              have e := raws_da t2
              subst e
              cases r2
              obtain ⟨its, rv, ⟨o2, ho2, hc2, n, hd2⟩, _⟩ := I.tuple t1.sq
              have e2 := vals_ty rv
              subst e2
              obtain ⟨⟨o, vs, e1, e2, e3, e4, e5⟩, _⟩ := (show ObjOk X.prog X.w H s.heap _ (.ext (ExO _ C _ _)) from I.hok _ _ h1)
              obtain ⟨mA, ⟨od, es, ep, f1, _⟩, _⟩ := (show ObjOk X.prog X.w H s.heap _ (.xd _) from I.hok _ _ h4)
              have J : PySem.W.InstAt s.heap _ o C (some od) := ⟨e1, e2, by unfold PySem.W.notCls; rw [e3], by rw [e5]; exact f1⟩
              obtain ⟨oc2, od2, dt2, sl2⟩ := o2
              simp only at hc2 hd2
              subst hc2 hd2
              refine PySem.W.kia_tup (PySem.W.kitx_exc hX.cl hX.ga hX.gg hX.ex hX.cc hX.sp hX.tk hX.mr) I.kIn J ho2 (b := false) ?_ (fun z => nomatch z) fun tk => ⟨.bl false, H, I.tok tk, rfl, nk _ H _ m q Ext.rfl' so (.bl _)⟩
              rw [List.map_map]
              exact kit_none h6 Ts
end
end Dw
namespace Dw
open PySem PySem.Spec PyProof.Rows L2
/-! ### t[::-1] -/
section
variable {prog : Program} {w : World} {A : Around} {E : Value → Shared → Prop} {s : Shared}
theorem places_back (n : Nat) : Builtin.Slice.slicePlaces ((n : Int) - 1) (-1) (-1) = n := by
  unfold Builtin.Slice.slicePlaces
  rw [if_neg (by decide)]
  by_cases h : n = 0
  · subst h; rfl
  · rw [if_pos (by omega), show (-(-1 : Int)) = 1 from rfl, Int.ediv_one]
    omega
theorem applied_back {sl : Addr} {vl vu vs : Value} {n : Nat} {Q : Int × Int × Nat → Shared → Prop} (hs : s.heap.IsSliceOf sl vl vu vs) (pl : IsPart vl none) (pu : IsPart vu none) (ps : IsPart vs (some (-1)))
    (h : Q ((n : Int) - 1, -1, n) s) : wpAny (model prog w) A (Builtin.Slice.sliceApplied (.ref sl) (pure (n : Int))) Q E s := by
  obtain ⟨os, ho, hc, hd⟩ := id hs
  unfold Builtin.Slice.sliceApplied Builtin.Slice.sliceFields
  refine wpAny_bind (wpAny_bind (wpAny_field ho hd (x := vl) rfl (wpAny_bind (wpAny_field ho hd (x := vu) rfl (wpAny_bind (wpAny_field ho hd (x := vs) rfl (wpAny_pure ?_)))))))
  refine wpAny_bind (HT.slicePart_ ps ?_)
  show wpAny _ _ (if ((-1 : Int) == 0) = true then _ else _) _ _ s
  rw [if_neg (by decide)]
  refine wpAny_bind (HT.slicePart_ pl (wpAny_bind (HT.slicePart_ pu (wpAny_bind (wpAny_pure ?_)))))
  show wpAny _ _ (pure ((n : Int) - 1, (-1 : Int), Builtin.Slice.slicePlaces ((n : Int) - 1) (-1) (-1))) _ _ s
  rw [places_back]
  exact wpAny_pure h
theorem fm_map {α β : Type} {f : α → Option β} {g : α → β} : ∀ {l : List α}, (∀ x ∈ l, f x = some (g x)) → l.filterMap f = l.map g
  | [], _ => rfl
  | x :: l, h => by rw [List.filterMap_cons_some (h x List.mem_cons_self), List.map_cons, fm_map fun y hy => h y (List.mem_cons_of_mem _ hy)]
theorem pick_back (xs : Array Value) : ((List.range xs.size).filterMap fun (k : Nat) => xs[(((xs.size : Int) - 1) + (k : Int) * (-1)).toNat]?) = xs.toList.reverse := by
  apply List.ext_getElem?
  intro j
  have e : ((List.range xs.size).filterMap fun (k : Nat) => xs[(((xs.size : Int) - 1) + (k : Int) * (-1)).toNat]?) = (List.range xs.size).map fun k => xs.getD (xs.size - 1 - k) .none := by
    refine fm_map fun k hk => ?_
    have hk : k < xs.size := List.mem_range.mp hk
    have e1 : (((xs.size : Int) - 1) + (k : Int) * (-1)).toNat = xs.size - 1 - k := by omega
    rw [e1]
    have h2 : xs.size - 1 - k < xs.size := by omega
    simp [Array.getD, h2]
  rw [e, List.getElem?_map]
  by_cases hj : j < xs.size
  · rw [List.getElem?_range hj, List.getElem?_reverse (by simpa using hj)]
    have h2 : xs.size - 1 - j < xs.size := by omega
    simp [Array.getD, h2]
  · rw [List.getElem?_eq_none (by simpa using hj), List.getElem?_eq_none (by simpa using hj)]
    rfl
theorem item_back {t sl : Addr} {items : Array Value} {vl vu vs : Value} {Q : Value → Shared → Prop} (ht : IsTup s.heap t items) (hs : s.heap.IsSliceOf sl vl vu vs) (pl : IsPart vl none) (pu : IsPart vu none) (ps : IsPart vs (some (-1)))
    (h : Q (.ref s.heap.objs.size) { s with heap := s.heap.push { cls := .type "tuple", data := .seq items.toList.reverse.toArray } }) (hz : items.size ≤ sizeLine) : wpAny (model prog w) A (getItem (.ref t) (.ref sl)) Q E s := by
  have ok : sizeOk (.seq items.toList.reverse.toArray) := by
    show items.toList.reverse.toArray.size ≤ sizeLine
    simpa using hz
  obtain ⟨os, ho, hc, hd⟩ := id hs
  have ts : s.TypeIs (.ref sl) "slice" := ⟨os, ho, hc⟩
  unfold getItem
  try with_reducible refine wpAny_holding ?_
  first | refine wpAny_bind (wpAny_pure ?_) | skip
  refine wpAny_bind (wpAny_sequenceKey ht.typeIs (by decide) ?_)
  refine wpAny_bind (wpAny_callSpecial?_slot (name := Str.ofString "__getitem__") ht.typeIs PyProof.Rows.slot_tuple_getitem (wpAny_call_entry PyProof.Rows.slot_tuple_getitem ht.typeIs entry_tuple_getitem ?_ (args_tuple_getitem _ _)))
  show wpAny _ _ (Builtin.Tuple.tupleItemsOf (.ref t) >>= _) _ _ s
  refine wpAny_bind (tupleItemsOf_ ht (wpAny_bind (wpAny_typeOf ts ?_)))
  rw [if_pos (by decide)]
  refine wpAny_bind (applied_back hs pl pu ps ?_)
  show wpAny _ _ (if ((((items.size : Int) - 1) == 0 && (-1 : Int) == 1 && items.size == items.size) = true) then _ else _) _ _ s
  rw [if_neg (by simp), pick_back]
  first
    | exact wpAny_bind (m := Builtin.Tuple.tupleExact _) (wpAny_newObj_type (wpAny_pure ⟨_, rfl, wpAny_pure h⟩) ok)
    | exact wpAny_bind (m := Builtin.Tuple.tupleExact _) (wpAny_newObj_type (wpAny_bind (wpAny_pure (wpAny_pure ⟨_, rfl, wpAny_pure h⟩))) ok)
    | exact wpAny_bind (wpAny_bind (m := Builtin.Tuple.tupleExact _) (wpAny_newObj_type (wpAny_pure (wpAny_pure ⟨_, rfl, wpAny_pure h⟩)) ok))
    | exact wpAny_bind (wpAny_bind (m := Builtin.Tuple.tupleExact _) (wpAny_newObj_type (wpAny_pure ⟨_, rfl, wpAny_pure h⟩) ok))
end
section
variable {X : Cx} {e : Expr} {r : En} {m : Mu} {F : Pd} {E : Xd} {k : Nat} {p1 p2 p3 pos : Pos}
theorem DaL.reverse {K : PySem.W.Frag} {D : List Addr} {H : Hp} : ∀ {ds : List Dt} {vs : List V}, DaL K D H ds vs → DaL K D H ds.reverse vs.reverse
  | _, _, .nil => .nil
  | d :: ds, v :: vs, .cons a b => by
    rw [List.reverse_cons, List.reverse_cons]
    exact b.reverse.append (.cons a .nil)
theorem le_back (h : LE X e r m (fun d m1 => ∃ ds, d = .tup ds ∧ F (.tup ds.reverse) m1) E) : LE X (.Subscript e (.Slice none none (some (.UnaryOp .USub (.Constant (.int 1) k p1) p2)) p3) pos) r m F E := by
  refine ⟨fun Z g H Q W rp tk nk nx pins s I => ?_⟩
  refine Subscript_ (thn (h.run Z g H (fun v H1 => ∃ a xs, v = .ref a ∧ SqT X.K H1 a xs ∧ ∀ p, H1 p = none → Q (.ref p) (upd H1 p (.tup xs.reverse))) W rp tk (fun v H1 d m1 q go so da => ?_) nx pins s I) fun v s1 hh => ?_)
  · obtain ⟨ds, rfl, q⟩ := q
    cases da with
    | tup a1 a2 => exact ⟨_, _, rfl, a1.sq, fun p hp => nk _ _ _ m1 q (go.trans (Ext.fresh hp)) (so.laid hp) (da_new_tup so hp a2.reverse)⟩
  · obtain ⟨x, H1, I1, r1, a, xs, rfl, hx, q⟩ := hh
    cases r1
    have part : PO X (some (.UnaryOp .USub (.Constant (.int 1) k p1) p2)) (tPart (tUn (rU fun i => .int (-i)) (tC (.int 1)))) := po_some (pe_un un_neg pe_int)
    refine wpAny_Slice (thn (po_none.run pins s1 g H1 (fun o H2 => o = none ∧ H2 = H1) I1 ⟨rfl, rfl⟩) fun vl s2 h2 => ?_)
    obtain ⟨l, H2, I2, pl, rfl, rfl⟩ := h2
    refine thn (po_none.run pins s2 g H2 (fun o H3 => o = none ∧ H3 = H2) I2 ⟨rfl, rfl⟩) fun vu s3 h3 => ?_
    obtain ⟨u, H3, I3, pu, rfl, rfl⟩ := h3
    refine thn (part.run pins s3 g H3 (fun o H4 => o = some (-1) ∧ H4 = H3) I3 ⟨1, rfl, -1, rfl, rfl, rfl⟩) fun vs s4 h4 => ?_
    obtain ⟨o, H4, I4, ps, rfl, rfl⟩ := h4
    have I5 : Inv X pins g H4 { s4 with heap := s4.heap.push { cls := .type "slice", data := .fields #[vl, vu, vs] } } := I4.kept (t' := s4.toks) fun b ob z => Heap.get?_push_of_some _ z
    obtain ⟨its, rv, ht, hz⟩ := I5.tuple hx
    show wpAny (model X.prog X.w) X.A (subscriptTail e (.Slice none none (some (.UnaryOp .USub (.Constant (.int 1) k p1) p2)) p3) (.ref a) (.ref s4.heap.objs.size)) (EP X pins g Q) X.xe _
    refine tail_any (ops := [.ref a, .ref s4.heap.objs.size]) ht.typeIs PyProof.Rows.slot_tuple_getitem.lookup ?_ (by with_unfolding_all rfl)
    refine item_back ht (Heap.IsSliceOf.new _ vl vu vs) pl pu ps ?_ (by rw [List.size_toArray, ← rv.length]; exact hz)
    refine ⟨.ref _, _, I5.laid (t' := s4.toks) (o := .tup xs.reverse) (fun b ob z => Heap.get?_push_of_some _ z) (Nat.le_refl _) ?_, rfl, q _ (I5.hok.fresh (Nat.le_refl _))⟩
    exact ⟨by rw [List.length_reverse]; exact hz, _, rv.reverse, IsTup.new _ _⟩
end
end Dw
namespace Dw
open PySem PySem.Spec PyProof.Rows L2
/-! ### repr of nested data, empty dicts among them -/
mutual
def tell : Dt → Bool
  | .raw _ => false
  | .exc _ _ _ => false
  | .cau _ _ _ => false
  | .obj _ _ => false
  | .dct ks => tellk ks
  | .lst ds => tells ds
  | .tup ds => tells ds
  | .frz ds => tells ds
  | _ => true
def tells : List Dt → Bool
  | [] => true
  | d :: ds => tell d && tells ds
def tellk : List (Key × Dt) → Bool
  | [] => true
  | kd :: ds => tell kd.2 && tellk ds
end
def pyKey (k : Key) : PyData := match k with | .inl i => .int i | .inr x => .str x
theorem pyk_cons (k : Key) (d : Dt) (ks : List (Key × Dt)) : pyk ((k, d) :: ks) = (pyKey k, py d) :: pyk ks := by cases k <;> rfl
section
variable {X : Cx} {pins : List (Addr × Obj)} {g : L2.St} {H : Hp} {s : Shared} {D : List Addr}
theorem ReprEntriesK.more_le' {as cs : List Addr} {h₀ : Heap} {d e : Nat} {P : Program} {w : World} (hc : ∀ b ∈ as, b ∈ cs) (hd : d ≤ e) : ∀ {es : List DictEntry} {ps : List Str}, ReprEntriesK P w as h₀ d es ps → ReprEntriesK P w cs h₀ e es ps
  | _, _, .nil => .nil
  | _, _, .cons h1 h2 h3 => .cons ((h1.more hc).level_le hd) ((h2.more hc).level_le hd) (more_le' hc hd h3)
theorem shown_lst (ds : List Dt) : (py (.lst ds)).shown = listText (PyData.shownAll (pys ds)) := by simp [py, PyData.shown]
theorem shown_tup (ds : List Dt) : (py (.tup ds)).shown = tupleText (PyData.shownAll (pys ds)) := by simp [py, PyData.shown]
mutual
theorem rk (I : Inv X pins g H s) : ∀ (d : Dt) (v : V) (u : Value), Da X.K D H d v → RelV v u → tell d = true → (py d).showable = true → (py d).shown.length ≤ sizeLine → ∃ as bs, Reads s.heap u (py d) as ∧ ReadAtMost s.heap (py d).depth bs ∧ ReprK X.prog X.w bs s.heap (py d).depth u (py d).shown
  | .non, _, _, h, r, _, _, _ => by
    cases h; cases r
    exact ⟨_, [], .none, (fun _ h => nomatch h), by simp only [py, PyData.shown]; exact .of_is ReprIs.none _ _ _⟩
  | .bl b, _, _, h, r, _, _, _ => by
    cases h; cases r
    exact ⟨_, [], .bool b, (fun _ h => nomatch h), by simp only [py, PyData.shown]; exact .of_is (ReprIs.bool b) _ _ _⟩
  | .int i, _, _, h, r, _, hs, _ => by
    cases h; obtain ⟨t, rfl⟩ := r
    exact ⟨_, [], .int i t, (fun _ h => nomatch h), by simp only [py, PyData.shown]; exact .of_is (ReprIs.int t (by simpa [py, PyData.showable] using hs)) _ _ _⟩
  | .str x, _, _, h, r, _, _, hz => by
    cases h; obtain ⟨t, rfl⟩ := r
    exact ⟨_, [], .str x t, (fun _ h => nomatch h), by simp only [py, PyData.shown]; exact .of_is (ReprIs.str x t (by simpa only [py, PyData.shown] using hz)) _ _ _⟩
  | .lst ds, _, _, h, r, ht, hs, hz => by
    cases h with
    | lst h1 h2 =>
      cases r
      obtain ⟨its, rv, ⟨o, n, ho, hc, _, hd⟩, _⟩ := I.list h1.sq
      rw [shown_lst] at hz
      obtain ⟨as, bs, rs, hb, hk⟩ := rks I ds _ its h2 rv (by simpa [tell] using ht) (by simpa [py, PyData.showable] using hs) (fun t ht => Nat.le_trans (listText_mem_le ht) hz)
      have rd : Reads s.heap (.ref _) (.list (pys ds)) _ := .list ho hc hd rs
      have na := not_mem_of_deeper rd (by simp only [PyData.depth]; omega) hb
      refine ⟨_, _ :: bs, by rw [py]; exact rd, by rw [py]; exact ReadAtMost.cons rd (by simp only [PyData.depth]; omega) hb, ?_⟩
      rw [shown_lst]
      simp only [py, PyData.depth]
      cases its with
      | nil =>
        cases rv
        cases h2
        simp only [pys, PyData.shownAll, PyData.depthAll, listText_nil]
        exact ReprK.listEmpty ho hc hd
      | cons x l => exact ReprK.list ho hc hd na (by simpa using hk.length_eq) (fun i y e => hk.item i y (by simpa using e))
  | .frz ds, _, _, h, r, ht, hs, hz => by
    cases h with
    | frz h1 h2 =>
      cases r
      obtain ⟨its, rv, ⟨o, n, ho, hc, _, hd⟩, _⟩ := I.list h1.sq
      rw [show (py (.frz ds)).shown = listText (PyData.shownAll (pys ds)) by simp [py, PyData.shown]] at hz
      obtain ⟨as, bs, rs, hb, hk⟩ := rks I ds _ its h2 rv (by simpa [tell] using ht) (by simpa [py, PyData.showable] using hs) (fun t ht => Nat.le_trans (listText_mem_le ht) hz)
      have rd : Reads s.heap (.ref _) (.list (pys ds)) _ := .list ho hc hd rs
      have na := not_mem_of_deeper rd (by simp only [PyData.depth]; omega) hb
      refine ⟨_, _ :: bs, by rw [py]; exact rd, by rw [py]; exact ReadAtMost.cons rd (by simp only [PyData.depth]; omega) hb, ?_⟩
      simp only [py, PyData.depth, PyData.shown]
      cases its with
      | nil =>
        cases rv
        cases h2
        simp only [pys, PyData.shownAll, PyData.depthAll, listText_nil]
        exact ReprK.listEmpty ho hc hd
      | cons x l => exact ReprK.list ho hc hd na (by simpa using hk.length_eq) (fun i y e => hk.item i y (by simpa using e))
  | .tup ds, _, _, h, r, ht, hs, hz => by
    cases h with
    | tup h1 h2 =>
      cases r
      obtain ⟨its, rv, ⟨o, ho, hc, n, hd⟩, _⟩ := I.tuple h1.sq
      rw [shown_tup] at hz
      obtain ⟨as, bs, rs, hb, hk⟩ := rks I ds _ its h2 rv (by simpa [tell] using ht) (by simpa [py, PyData.showable] using hs) (fun t ht => Nat.le_trans (tupleText_mem_le ht) hz)
      have rd : Reads s.heap (.ref _) (.tuple (pys ds)) _ := .tuple ho hc hd rs
      have na := not_mem_of_deeper rd (by simp only [PyData.depth]; omega) hb
      refine ⟨_, _ :: bs, by rw [py]; exact rd, by rw [py]; exact ReadAtMost.cons rd (by simp only [PyData.depth]; omega) hb, ?_⟩
      simp only [py, PyData.depth, PyData.shown]
      exact ReprK.tuple ho hc hd na hk
  | .dct ks, _, _, h, r, ht, hs, hz => by
    cases h with
    | dct n1 h1 h2 =>
      cases r
      obtain ⟨_, ns, vs, kv, o, es, ep, e1, e2, e3, e4, e5, _⟩ := (show ObjOk X.prog X.w H s.heap _ (.dK _) from (I.hok _ _ h1).2)
      rw [show (py (.dct ks)).shown = dictText (PyData.shownKv (pyk ks)) by simp [py, PyData.shown]] at hz
      obtain ⟨a1, a2, bs, r1, r2, hb, hk⟩ := rkk I ks _ vs es.toList h2 kv e5 (by simpa [tell] using ht) (by simpa [py, PyData.showable] using hs) (fun t ht => Nat.le_trans (dictText_mem_le ht) hz)
      have rd : Reads s.heap (.ref _) (.dict (pyk ks)) _ := .dict e1 e2.1 e3 r1 r2
      have na := not_mem_of_deeper rd (by simp only [PyData.depth]; omega) hb
      refine ⟨_, _ :: bs, by rw [py]; exact rd, by rw [py]; exact ReadAtMost.cons rd (by simp only [PyData.depth]; omega) hb, ?_⟩
      simp only [py, PyData.depth, PyData.shown]
      exact ReprK.dict e1 e2.1 e3 ns na hk
  | .exc _ _ _, _, _, _, _, ht, _, _ => by simp [tell] at ht
  | .cau _ _ _, _, _, _, _, ht, _, _ => by simp [tell] at ht
  | .obj _ _, _, _, _, _, ht, _, _ => by simp [tell] at ht
  | .raw _, _, _, _, _, ht, _, _ => by simp [tell] at ht
theorem rks (I : Inv X pins g H s) : ∀ (ds : List Dt) (vs : List V) (us : List Value), DaL X.K D H ds vs → Vals vs us → tells ds = true → PyData.showableAll (pys ds) = true → (∀ t ∈ PyData.shownAll (pys ds), t.length ≤ sizeLine) →
    ∃ as bs, ReadsAll s.heap us (pys ds) as ∧ ReadAtMost s.heap (PyData.depthAll (pys ds)) bs ∧ ReprAllK X.prog X.w bs s.heap (PyData.depthAll (pys ds)) us (PyData.shownAll (pys ds))
  | [], _, _, h, r, _, _, _ => by
    cases h; cases r
    exact ⟨_, [], .nil, (fun _ h => nomatch h), by simp only [pys, PyData.shownAll]; exact .nil⟩
  | d :: ds, _, _, h, r, ht, hs, hz => by
    cases h with
    | cons h1 h2 =>
      cases r with
      | cons r1 r2 =>
        have ht : tell d = true ∧ tells ds = true := by simpa [tells] using ht
        have hs : (py d).showable = true ∧ PyData.showableAll (pys ds) = true := by simpa [pys, PyData.showableAll] using hs
        obtain ⟨a1, b1, q1, p1, k1⟩ := rk I d _ _ h1 r1 ht.1 hs.1 (hz _ (by simp only [pys, PyData.shownAll]; exact List.mem_cons_self ..))
        obtain ⟨a2, b2, q2, p2, k2⟩ := rks I ds _ _ h2 r2 ht.2 hs.2 (fun t z => hz t (by simp only [pys, PyData.shownAll]; exact List.mem_cons_of_mem _ z))
        refine ⟨_, b1 ++ b2, .cons q1 q2, ?_, ?_⟩
        · simp only [pys, PyData.depthAll]
          exact (p1.mono (Nat.le_max_left _ _)).append (p2.mono (Nat.le_max_right _ _))
        · simp only [pys, PyData.depthAll, PyData.shownAll]
          exact .cons ((k1.more fun b hb => List.mem_append_left _ hb).level_le (Nat.le_max_left _ _)) (k2.more_le (fun b hb => List.mem_append_right _ hb) (Nat.le_max_right _ _))
theorem rkk (I : Inv X pins g H s) : ∀ (ks : List (Key × Dt)) (vs : List (Key × V)) (us : List (Key × Value)) (es : List DictEntry), DaK X.K D H ks vs → KV vs us → Pairs (mixKind X.prog X.w) es us → tellk ks = true → PyData.showableKv (pyk ks) = true → (∀ t ∈ PyData.shownKv (pyk ks), t.length ≤ sizeLine) →
    ∃ a1 a2 bs, ReadsAll s.heap (es.map (·.key)) ((pyk ks).map (·.1)) a1 ∧ ReadsAll s.heap (es.map (·.val)) ((pyk ks).map (·.2)) a2 ∧ ReadAtMost s.heap (PyData.depthKv (pyk ks)) bs ∧ ReprEntriesK X.prog X.w bs s.heap (PyData.depthKv (pyk ks)) es (PyData.shownKv (pyk ks))
  | [], _, _, _, h, r, q, _, _, _ => by
    cases h; cases r; cases q
    exact ⟨_, _, [], .nil, .nil, (fun _ h => nomatch h), by simp only [pyk, PyData.shownKv]; exact .nil⟩
  | (k, d) :: ks, _, _, _, h, r, q, ht, hs, hz => by
    cases h with
    | cons h1 h2 =>
      cases r with
      | cons r1 r2 =>
        cases q with
        | @cons ee _ _ _ q1 q2 q3 =>
          rw [pyk_cons] at hs hz ⊢
          have ht : tell d = true ∧ tellk ks = true := by simpa [tellk] using ht
          have hs : ((pyKey k).showable = true ∧ (py d).showable = true) ∧ PyData.showableKv (pyk ks) = true := by simpa [PyData.showableKv] using hs
          have hz0 : ((pyKey k).shown ++ ": " ++ (py d).shown).length ≤ sizeLine := hz _ (by simp only [PyData.shownKv]; exact List.mem_cons_self ..)
          have hzk : (pyKey k).shown.length ≤ sizeLine := by rw [strLen_append, strLen_append] at hz0; omega
          have hzd : (py d).shown.length ≤ sizeLine := by rw [strLen_append] at hz0; omega
          obtain ⟨a1, b1, x1, p1, k1⟩ := rk I d _ _ h1 r1.2 ht.1 hs.1.2 hzd
          obtain ⟨a2, a3, b2, x2, x3, p2, k2⟩ := rkk I ks _ _ _ h2 r2 q3 ht.2 hs.2 (fun t z => hz t (by simp only [PyData.shownKv]; exact List.mem_cons_of_mem _ z))
          have kk : Reads s.heap ee.key (pyKey k) [] ∧ ReprK X.prog X.w [] s.heap 0 ee.key (pyKey k).shown := by
            have e : keyIs k ee.key = true := by have e0 : k = _ := r1.1; rw [e0]; exact q1
            rcases keyIs_shape e with ⟨i, t, rfl, e2⟩ | ⟨x, t, rfl, e2⟩
            · rw [e2]
              exact ⟨.int i t, by simp only [pyKey, PyData.shown]; exact .of_is (ReprIs.int t (by simpa [pyKey, PyData.showable] using hs.1.1)) _ _ _⟩
            · rw [e2]
              exact ⟨.str x t, by simp only [pyKey, PyData.shown]; exact .of_is (ReprIs.str x t (by simpa only [pyKey, PyData.shown] using hzk)) _ _ _⟩
          have d0 : (pyKey k).depth = 0 := by cases k <;> simp [pyKey, PyData.depth]
          refine ⟨_, _, b1 ++ b2, .cons kk.1 x2, .cons (by show Reads s.heap ee.val (py d) _; rw [q2]; exact x1) x3, ?_, ?_⟩
          · simp only [PyData.depthKv]
            exact (p1.mono (Nat.le_trans (Nat.le_max_right _ _) (Nat.le_max_left _ _))).append (p2.mono (Nat.le_max_right _ _))
          · simp only [PyData.depthKv, PyData.shownKv]
            refine .cons ((kk.2.more fun b hb => nomatch hb).level_le (Nat.zero_le _)) (by rw [q2]; exact (k1.more fun b hb => List.mem_append_left _ hb).level_le (Nat.le_trans (Nat.le_max_right _ _) (Nat.le_max_left _ _))) ?_
            exact ReprEntriesK.more_le' (fun b hb => List.mem_append_right _ hb) (Nat.le_max_right _ _) k2
end
end
/-- what repr tells of nested data -/
structure Sht (d : Dt) : Prop where
  tl : tell d = true
  sh : (py d).showable = true
  dp : (py d).depth ≤ 60
  sz : (shows d).length ≤ sizeLine
theorem Shw.sht {d : Dt} (h : Shw d) (ht : tell d = true) : Sht d := ⟨ht, h.sh, h.dp, h.sz⟩
section
variable {X : Cx} {m : Mu} {F : Pd} {k : Nat} {N : List Str}
theorem top_lst {D : List Addr} {pins : List (Addr × Obj)} {g : L2.St} {H : Hp} {s : Shared} {a : Addr} {xs : List V} {ds : List Dt} {Q : Value → Shared → Prop} {E : Value → Shared → Prop} (I : Inv X pins g H s) (hg : X.A.guards = some []) (hu : X.A.units + 64 < cLine) (h1 : SqL X.K H a xs) (h2 : DaL X.K D H ds xs) (h : Sht (.lst ds))
    (hq : ∀ h' u tk, (∀ b o, s.heap.get? b = some o → h'.get? b = some o) → Q (.str (shows (.lst ds)) u) { s with heap := h', toks := tk }) : wpAny (model X.prog X.w) X.A (call (.builtin "repr") [.ref a]) Q E s := by
  obtain ⟨its, rv, ⟨o, n, ho, hc, _, hd⟩, _⟩ := I.list h1
  have hz := h.sz
  have hp := h.dp
  have e : shows (.lst ds) = listText (PyData.shownAll (pys ds)) := shown_lst ds
  rw [e] at hz hq
  obtain ⟨as, bs, rs, hb, hk⟩ := rks I ds _ its h2 rv (by simpa [tell] using h.tl) (by simpa [py, PyData.showable] using h.sh) (fun t ht => Nat.le_trans (listText_mem_le ht) hz)
  have na := not_mem_of_deeper (.list ho hc hd rs) (by simp only [PyData.depth]; omega) hb
  simp only [py, PyData.depth] at hp
  refine call_repr_slot (by omega) ⟨o, ho, hc⟩ PySem.F.slot_list_repr.toG ?_
  cases its with
  | nil =>
    cases rv
    cases h2
    simp only [pys, PyData.shownAll, listText_nil] at hq
    exact call_list_repr_empty ⟨o, ho, hc⟩ ho hd ⟨_, _, rfl, hq s.heap _ _ fun _ _ e => e⟩
  | cons x l => exact call_list_reprK (A := X.A.in1) (s := s) ho hc hd na (by simpa using hk.length_eq) (fun i y e => hk.item i y (by simpa using e)) hg (fun b _ => Clear.nil b) (by show X.A.units + 1 + _ < cLine; omega) (fun _ _ e => e) (fun h' u tk kp => ⟨_, _, rfl, hq h' u tk kp⟩) hz
theorem c_reprT {d : Dt} (hg : X.A.guards = some []) (hu : X.A.units + 64 < cLine) (h : Sht d) (q : F (.str (shows d)) m) : OC X (.builtin "repr") [d] m F := by
  refine ⟨fun Z H vs Q so da nk pins s g I us rv => ?_⟩
  cases da with
  | cons d1 d2 =>
    cases d2
    cases rv with
    | cons r1 r2 =>
      cases r2
      have fin : ∀ (h' : Heap) (u : Tok) (tk : Nat), (∀ b o, s.heap.get? b = some o → h'.get? b = some o) → EP X pins g Q (.str (shows d) u) { s with heap := h', toks := tk } := fun h' u tk hk =>
        ⟨.str _, H, I.kept hk, ⟨_, rfl⟩, nk _ H _ m q Ext.rfl' so (.str _)⟩
      have ht := h.tl
      cases d1 with
      | non => cases r1; exact PySem.P.repr_of_none (fin _ _ _ fun _ _ e => e)
      | bl b => cases r1; exact PySem.P.repr_of_bool (fin _ _ _ fun _ _ e => e)
      | int i => obtain ⟨t, rfl⟩ := r1; exact PySem.P.repr_of_int (by have := h.sh; simpa [py, PyData.showable] using this) (fin _ _ _ fun _ _ e => e)
      | str x => obtain ⟨t, rfl⟩ := r1; exact PySem.P.repr_of_str (fin _ _ _ fun _ _ e => e) h.sz
      | lst h1 h2 => cases r1; exact top_lst I hg hu h1.sq h2 h fin
      | frz h1 h2 =>
        cases r1
        refine top_lst I hg hu h1.sq h2 ⟨by simpa [tell] using h.tl, by simpa [py, PyData.showable] using h.sh, by simpa [py] using h.dp, h.sz⟩ fin
      | tup h1 h2 =>
        rename_i ds
        cases r1
        obtain ⟨its, rv, ⟨o, ho, hc, n, hd⟩, _⟩ := I.tuple h1.sq
        have hz := h.sz
        have hp := h.dp
        have e : shows (.tup ds) = tupleText (PyData.shownAll (pys ds)) := shown_tup ds
        rw [e] at hz fin
        obtain ⟨as, bs, rs, hb, hk⟩ := rks I ds _ its h2 rv (by simpa [tell] using h.tl) (by simpa [py, PyData.showable] using h.sh) (fun t ht => Nat.le_trans (tupleText_mem_le ht) hz)
        have na := not_mem_of_deeper (.tuple ho hc hd rs) (by simp only [PyData.depth]; omega) hb
        simp only [py, PyData.depth] at hp
        refine call_repr_slot (by omega) ⟨o, ho, hc⟩ PySem.F.slot_tuple_repr ?_
        exact call_tuple_reprK (A := X.A.in1) (s := s) ho hc hd na hk hg (fun b _ => Clear.nil b) (by show X.A.units + 1 + _ < cLine; omega) (fun _ _ e => e) (fun h' u tk kp => ⟨_, _, rfl, fin h' u tk kp⟩) hz
      | dct n1 h1 h2 =>
        rename_i ks _
        cases r1
        obtain ⟨_, ns, vs, kv, o, es, ep, e1, e2, e3, e4, e5, _⟩ := (show ObjOk X.prog X.w H s.heap _ (.dK _) from (I.hok _ _ h1).2)
        have hz := h.sz
        have hp := h.dp
        have e : shows (.dct ks) = dictText (PyData.shownKv (pyk ks)) := by simp [shows, py, PyData.shown]
        rw [e] at hz fin
        obtain ⟨a1, a2, bs, x1, x2, hb, hk⟩ := rkk I ks _ vs es.toList h2 kv e5 (by simpa [tell] using ht) (by have := h.sh; simpa [py, PyData.showable] using this) (fun t ht => Nat.le_trans (dictText_mem_le ht) hz)
        have na := not_mem_of_deeper (.dict e1 e2.1 e3 x1 x2) (by simp only [PyData.depth]; omega) hb
        simp only [py, PyData.depth] at hp
        refine call_repr_slot (by omega) ⟨o, e1, e2.1⟩ PySem.F.slot_dict_repr ?_
        exact call_dict_reprK (A := X.A.in1) (s := s) e1 e2.1 e3 ns na hk hg (fun b _ => Clear.nil b) (by show X.A.units + 1 + _ < cLine; omega) (fun _ _ e => e) (fun h' u tk kp => ⟨_, _, rfl, fin h' u tk kp⟩) hz
      | exc n h1 n2 h2 n4 h4 h3 => simp [tell] at ht
      | cau n h1 h2 => simp [tell] at ht
      | obj n h1 h2 => simp [tell] at ht
      | raw v => simp [tell] at ht
/-- of a list of the store -/
theorem c_reprM {p : Addr} {ds : List Dt} (hg : X.A.guards = some []) (hu : X.A.units + 64 < cLine) (hm : (p, Mc.lst ds) ∈ m) (h : Sht (.lst ds)) (q : F (.str (shows (.lst ds))) m) : OC X (.builtin "repr") [.raw (.ref p)] m F := by
  refine ⟨fun Z H vs Q so da nk pins s g I us rv => ?_⟩
  cases da with
  | cons d1 d2 =>
    cases d2
    cases d1
    cases rv with
    | cons r1 r2 =>
      cases r2
      cases r1
      obtain ⟨xs, e, dl⟩ := so.ob _ hm
      exact top_lst I hg hu (SqL.of e) dl h fun h' u tk hk => ⟨.str _, H, I.kept hk, ⟨_, rfl⟩, nk _ H _ m q Ext.rfl' so (.str _)⟩
end
end Dw
namespace Dw
open PySem PySem.Spec PyProof.Rows L2
section
variable {X : Cx} {r : En} {m : Mu} {F : Pd} {E : Xd} {P : Pc} {p pos p2 py spos : Pos} {k : Nat} {N : List Str} {x y : Str} {scope sc : Scope} {elt iter : Expr} {ifs : List Expr} {f h2 : Dt → En}
theorem cutD_from {ds : List Dt} {i : Int} (h : 0 ≤ i) : cutD ds (some i) none = ds.drop i.toNat := by
  unfold cutD HT.sIx
  dsimp only
  rw [if_neg (by omega)]
  by_cases hl : i.toNat ≤ ds.length
  · rw [Nat.min_eq_left hl, List.take_of_length_le (by rw [List.length_drop]; omega)]
  · rw [Nat.min_eq_right (by omega), List.drop_length, List.take_nil, List.drop_of_length_le (by omega)]
theorem cutD_to {ds : List Dt} {i : Int} (h : 0 ≤ i) : cutD ds none (some i) = ds.take i.toNat := by
  unfold cutD HT.sIx
  dsimp only
  rw [if_neg (by omega), List.drop_zero, Nat.sub_zero]
  by_cases hl : i.toNat ≤ ds.length
  · rw [Nat.min_eq_left hl]
  · rw [Nat.min_eq_right (by omega), List.take_length, List.take_of_length_le (by omega)]
theorem at0 {α : Type} {a : α} {ds : List α} : atI (a :: ds) 0 = some a := atI_nat (j := 0) rfl
theorem at1 {α : Type} {a b : α} {ds : List α} : atI (a :: b :: ds) 1 = some b := atI_nat (j := 1) rfl
theorem at2 {α : Type} {a b c : α} {ds : List α} : atI (a :: b :: c :: ds) 2 = some c := atI_nat (j := 2) rfl
theorem itTd {A B : Prop} {c : Bool} (e : c = true) (h : A) : if c = true then A else B := by rw [if_pos e]; exact h
theorem itFd {A B : Prop} {c : Bool} (e : c = false) (h : B) : if c = true then A else B := by rw [if_neg (by rw [e]; exact Bool.false_ne_true)]; exact h
theorem c_allP {α : Type} {xs : List α} {q : α → Bool} (hc : X.calm = true) (h : F (.bl (xs.all q)) m) : OC X (.builtin "all") [.lst (xs.map fun a => Dt.bl (q a))] m F := by
  have e : (xs.map fun a => Dt.bl (q a)) = (xs.map q).map Dt.bl := by rw [List.map_map]; rfl
  rw [e]
  refine c_all hc ?_
  rw [show (xs.map q).all id = xs.all q by rw [List.all_map]; rfl]
  exact h
theorem c_anyP {α : Type} {xs : List α} {q : α → Bool} (hc : X.calm = true) (h : F (.bl (xs.any q)) m) : OC X (.builtin "any") [.lst (xs.map fun a => Dt.bl (q a))] m F := by
  have e : (xs.map fun a => Dt.bl (q a)) = (xs.map q).map Dt.bl := by rw [List.map_map]; rfl
  rw [e]
  refine c_any hc ?_
  rw [show (xs.map q).any id = xs.any q by rw [List.any_map]; rfl]
  exact h
/-- [e for x in ..], the store may change: an invariant -/
theorem lc_each {ds : List Dt} {m1 : Mu} {G : Pd} (Iv : Nat → List Dt → Mu → Prop) (gd : Gd k N X) (hz : ds.length ≤ sizeLine) (h0 : Iv 0 [] m1)
    (hs : ∀ i d acc m2, ds[i]? = some d → acc.length ≤ i → Iv i acc m2 → ∀ s H C cl fp, Gd k N (bk X scope s H C cl fp) → LE (bk X scope s H C cl fp) elt (f d) m2 (fun y m4 => Iv (i + 1) (acc ++ [y]) m4) X0) (hd : ∀ acc m2, acc.length ≤ ds.length → Iv ds.length acc m2 → G (.lst acc) m2) :
    LcOk X scope elt [] f (fun _ i acc m2 => Iv i acc m2) G ds m1 := by
  refine ⟨hz, h0, fun i d acc m2 hi ha iv s H C cl fp => lf_nil ?_, fun acc m2 ha iv => hd acc m2 ha iv⟩
  show ∀ s H C cl fp, LE (bk X scope s H C cl fp) elt (f d) m2 _ X0
  intro s H C cl fp
  exact hs i d acc m2 hi ha iv s H C cl fp (gd.blk _ _ _ _ _ _)
/-- [g(x) for x in ..] over data made of things of another sort -/
theorem lc_mapS {α : Type} {m1 : Mu} {G : Pd} (xs : List α) (em g : α → Dt) (gd : Gd k N X) (hz : xs.length ≤ sizeLine) (hs : ∀ a ∈ xs, ∀ s H C cl fp, Gd k N (bk X scope s H C cl fp) → LE (bk X scope s H C cl fp) elt (f (em a)) m1 (fun y m4 => y = g a ∧ m4 = m1) X0) (hd : G (.lst (xs.map g)) m1) :
    LcOk X scope elt [] f (fun _ i acc m2 => acc = (xs.take i).map g ∧ m2 = m1) G (xs.map em) m1 := by
  refine ⟨by rw [List.length_map]; exact hz, ⟨rfl, rfl⟩, fun i d acc m2 hi _ iv s H C cl fp => lf_nil ?_, fun acc m2 _ iv => ?_⟩
  · obtain ⟨rfl, rfl⟩ := iv
    rw [List.getElem?_map] at hi
    cases e : xs[i]? with
    | none => rw [e] at hi; cases hi
    | some a =>
      rw [e] at hi
      cases hi
      show ∀ s H C cl fp, LE (bk X scope s H C cl fp) elt (f (em a)) m2 _ X0
      intro s H C cl fp
      refine (hs a (List.mem_of_getElem? e) s H C cl fp (gd.blk _ _ _ _ _ _)).imp fun y m4 h => ?_
      obtain ⟨rfl, rfl⟩ := h
      exact ⟨by rw [List.take_add_one, e, List.map_append]; rfl, rfl⟩
  · obtain ⟨rfl, rfl⟩ := iv
    rw [List.length_map, List.take_length]
    exact hd
/-- [g(x) for x in .. if q(x)] -/
theorem lc_filterS {α : Type} {m1 : Mu} {G : Pd} {c : Expr} (xs : List α) (em g : α → Dt) (q : α → Bool) (gd : Gd k N X) (hz : xs.length ≤ sizeLine)
    (ht : ∀ a ∈ xs, ∀ s H C cl fp, Gd k N (bk X scope s H C cl fp) → LT (bk X scope s H C cl fp) c (f (em a)) m1 (fun b m4 => b = q a ∧ m4 = m1) X0)
    (hs : ∀ a ∈ xs, q a = true → ∀ s H C cl fp, Gd k N (bk X scope s H C cl fp) → LE (bk X scope s H C cl fp) elt (f (em a)) m1 (fun y m4 => y = g a ∧ m4 = m1) X0) (hd : G (.lst ((xs.filter q).map g)) m1) :
    LcOk X scope elt [c] f (fun _ i acc m2 => acc = ((xs.take i).filter q).map g ∧ m2 = m1) G (xs.map em) m1 := by
  refine ⟨by rw [List.length_map]; exact hz, ⟨rfl, rfl⟩, fun i d acc m2 hi _ iv s H C cl fp => lf_one ?_, fun acc m2 _ iv => ?_⟩
  · obtain ⟨rfl, rfl⟩ := iv
    rw [List.getElem?_map] at hi
    cases e1 : xs[i]? with
    | none => rw [e1] at hi; cases hi
    | some a =>
      rw [e1] at hi
      cases hi
      have hm := List.mem_of_getElem? e1
      refine ⟨fun Z g' H' Q W rp tk nk nx => (ht a hm s H C cl fp (gd.blk _ _ _ _ _ _)).run Z g' H' Q W rp tk (fun b H1 m3 h go so => nk b H1 m3 ?_ go so) nx⟩
      obtain ⟨rfl, rfl⟩ := h
      have e : xs.take (i + 1) = xs.take i ++ [a] := by rw [List.take_add_one, e1]; rfl
      cases hq : q a with
      | true =>
        show ∀ s H C cl fp, LE (bk X scope s H C cl fp) elt (f (em a)) m3 _ X0
        intro s H C cl fp
        refine (hs a hm hq s H C cl fp (gd.blk _ _ _ _ _ _)).imp fun y m4 h => ?_
        obtain ⟨rfl, rfl⟩ := h
        refine ⟨?_, rfl⟩
        rw [e, List.filter_append, List.filter_cons, if_pos hq, List.map_append]
        rfl
      | false =>
        refine ⟨?_, rfl⟩
        rw [e, List.filter_append, List.filter_cons, if_neg (by rw [hq]; exact Bool.false_ne_true)]
        simp
  · obtain ⟨rfl, rfl⟩ := iv
    rw [List.length_map, List.take_length]
    exact hd
end
section
variable {P : Program} {w : World} {K : PySem.W.Frag} {mg : Str → Option Value} {base : Heap} {qual : Str} {st : Stmt} {fa : Addr} {cdv : Value} {A : Around} {outer : List Env} {s : Shared} {H : Hp} {Ex : XK}
variable {r : En} {m : Mu} {F : Pd} {E : Xd} {Pp : Pc} {p pos p2 py spos : Pos} {k : Nat} {N : List Str} {x y : Str} {scope sc : Scope} {elt iter : Expr} {ifs : List Expr} {f h2 : Dt → En}
theorem le_lcD (gd : Gd k N (cxOf (L2.CX P w) P w K mg base N qual (defScope st) fa cdv A outer s H Ex)) (hp : Put N r x f) (Iv : List Dt → Nat → List Dt → Mu → Prop) (h : LI (cxOf (L2.CX P w) P w K mg base N qual (defScope st) fa cdv A outer s H Ex) (.Name x p2) iter r m (LcOk (cxOf (L2.CX P w) P w K mg base N qual (defScope st) fa cdv A outer s H Ex) scope elt ifs f Iv F) E)
    (hb : blkC N (defScope st) scope [(x, N.idxOf x)] = true := by decide +kernel)
    (hx : ∀ s1 H1 C cl fp, Loc (bk (cxOf (L2.CX P w) P w K mg base N qual (defScope st) fa cdv A outer s H Ex) scope s1 H1 C cl fp).env.scope x := by intro _ _ _ _ _; first | exact Or.inl rfl | exact Or.inr rfl)
    (hf : ∀ s1 H1 C cl fp, (bk (cxOf (L2.CX P w) P w K mg base N qual (defScope st) fa cdv A outer s H Ex) scope s1 H1 C cl fp).fn x = true ∨ (bk (cxOf (L2.CX P w) P w K mg base N qual (defScope st) fa cdv A outer s H Ex) scope s1 H1 C cl fp).env.scope.names.lookup x = some .local := by intro _ _ _ _ _; first | exact .inr rfl | exact .inl rfl)
    (hs : ∀ x, foldedSetIterable iter (cxOf (L2.CX P w) P w K mg base N qual (defScope st) fa cdv A outer s H Ex).env x = pure x := by intro _; rfl) : LE (cxOf (L2.CX P w) P w K mg base N qual (defScope st) fa cdv A outer s H Ex) (.ListComp elt [⟨.Name x p2, iter, ifs, 0⟩] scope pos) r m F E := le_lcS (defScope st) gd hp Iv h rfl hb hx hf hs
theorem ls_setlcD (gd : Gd k N (cxOf (L2.CX P w) P w K mg base N qual (defScope st) fa cdv A outer s H Ex)) (hp : Put N r x f) (hq : Put N r y h2) (Iv : List Dt → Nat → List Dt → Mu → Prop) (h : LI (cxOf (L2.CX P w) P w K mg base N qual (defScope st) fa cdv A outer s H Ex) (.Name x p2) iter r m (LcOk (cxOf (L2.CX P w) P w K mg base N qual (defScope st) fa cdv A outer s H Ex) scope elt ifs f Iv (fun d m1 => Pp.nx (h2 d) m1)) Pp.ex)
    (hyl : (cxOf (L2.CX P w) P w K mg base N qual (defScope st) fa cdv A outer s H Ex).env.scope.names.lookup y = some .local := by rfl) (hk : (cxOf (L2.CX P w) P w K mg base N qual (defScope st) fa cdv A outer s H Ex).env.scope.kind = .function := by rfl) (hl : (py.line == pos.line) = true := by rfl) (hav : (scope.names.any fun (n, k) => n == y && (k == .local || k == .cell)) = false := by decide +kernel)
    (hb : blkC N (defScope st) scope [(x, N.idxOf x)] = true := by decide +kernel)
    (hx : ∀ s1 H1 C cl fp, Loc (bk (cxOf (L2.CX P w) P w K mg base N qual (defScope st) fa cdv A outer s H Ex) scope s1 H1 C cl fp).env.scope x := by intro _ _ _ _ _; first | exact Or.inl rfl | exact Or.inr rfl)
    (hf : ∀ s1 H1 C cl fp, (bk (cxOf (L2.CX P w) P w K mg base N qual (defScope st) fa cdv A outer s H Ex) scope s1 H1 C cl fp).fn x = true ∨ (bk (cxOf (L2.CX P w) P w K mg base N qual (defScope st) fa cdv A outer s H Ex) scope s1 H1 C cl fp).env.scope.names.lookup x = some .local := by intro _ _ _ _ _; first | exact .inr rfl | exact .inl rfl)
    (hs : ∀ x, foldedSetIterable iter (cxOf (L2.CX P w) P w K mg base N qual (defScope st) fa cdv A outer s H Ex).env x = pure x := by intro _; rfl) : LS (cxOf (L2.CX P w) P w K mg base N qual (defScope st) fa cdv A outer s H Ex) (.Assign [.Name y py] (.ListComp elt [⟨.Name x p2, iter, ifs, 0⟩] scope pos) spos) r m Pp := ls_setlcS (defScope st) gd hp hq Iv h hyl hk hl hav rfl hb hx hf hs
end
end Dw
namespace Dw
open PySem PySem.Spec PyProof.Rows L2
/-! ### sizes of data, for repr -/
def wtKey : Key → Nat
  | .inl _ => 300
  | .inr x => 10 * x.length + 2
def okKey : Key → Bool
  | .inl i => decide (i.natAbs < 10 ^ 200)
  | .inr x => x.cps.toList.all fun c => decide (c < 0x110000)
mutual
def wt : Dt → Nat
  | .int _ => 300
  | .str x => 10 * x.length + 2
  | .lst ds => 3 + wts ds
  | .tup ds => 3 + wts ds
  | .frz ds => 3 + wts ds
  | .dct ks => 5 + wtk ks
  | _ => 5
def wts : List Dt → Nat
  | [] => 0
  | d :: ds => wt d + 2 + wts ds
def wtk : List (Key × Dt) → Nat
  | [] => 0
  | kd :: ks => wtKey kd.1 + wt kd.2 + 4 + wtk ks
end
mutual
def lv : Dt → Nat
  | .lst ds => 1 + lvs ds
  | .tup ds => 1 + lvs ds
  | .frz ds => 1 + lvs ds
  | .dct ks => 1 + lvk ks
  | _ => 0
def lvs : List Dt → Nat
  | [] => 0
  | d :: ds => max (lv d) (lvs ds)
def lvk : List (Key × Dt) → Nat
  | [] => 0
  | kd :: ks => max (lv kd.2) (lvk ks)
end
mutual
def okd : Dt → Bool
  | .non => true
  | .bl _ => true
  | .int i => decide (i.natAbs < 10 ^ 200)
  | .str x => x.cps.toList.all fun c => decide (c < 0x110000)
  | .lst ds => okds ds
  | .tup ds => okds ds
  | .frz ds => okds ds
  | .dct ks => okdk ks
  | _ => false
def okds : List Dt → Bool
  | [] => true
  | d :: ds => okd d && okds ds
def okdk : List (Key × Dt) → Bool
  | [] => true
  | kd :: ks => okKey kd.1 && okd kd.2 && okdk ks
end
def zL (z : Int) : List Nat := if z < 0 then 45 :: TL.numL z.natAbs else TL.numL z.natAbs
theorem str_zL (z : Int) : Str.ofString (toString z) = SX.S (zL z) := by
  unfold zL
  by_cases h : z < 0
  · rw [if_pos h]
    obtain ⟨n, rfl⟩ : ∃ n, z = Int.negSucc n := by
      cases z with
      | ofNat n => exact absurd h (by simp)
      | negSucc n => exact ⟨n, rfl⟩
    have e : toString (Int.negSucc n) = "-" ++ toString ((n + 1 : Nat) : Int) := rfl
    rw [e, show (45 :: TL.numL (Int.negSucc n).natAbs) = [45] ++ TL.numL (n + 1) from rfl, ← SX.S_cat, ← SX.num_S, Str.ofString_eq_toList, Str.ofString_eq_toList, String.toList_append, List.map_append, show (SX.S [45]) = SX.S ("-".toList.map Char.toNat) from rfl]
    exact (SX.S_cat _ _).symm
  · rw [if_neg h]
    obtain ⟨n, rfl⟩ := Int.eq_ofNat_of_zero_le (Int.not_lt.mp h)
    exact SX.num_S n
theorem zL_len {z : Int} {k : Nat} (hk : 0 < k) (h : z.natAbs < 10 ^ k) : (zL z).length ≤ k + 1 := by
  have := TL.numL_len hk h
  unfold zL
  split
  · rw [List.length_cons]; omega
  · omega
theorem log_ok {z : Int} (h : z.natAbs < 10 ^ 200) : z.natAbs.log2 < 1920 := by
  by_cases h0 : z.natAbs = 0
  · rw [h0]; decide
  · rw [Nat.log2_lt h0]
    exact Nat.lt_trans h (by decide +kernel)
theorem wts_len : ∀ ds : List Dt, 2 * ds.length ≤ wts ds
  | [] => Nat.zero_le _
  | d :: ds => by have := wts_len ds; simp only [wts, List.length_cons]; omega
theorem okds_all : ∀ ds : List Dt, okds ds = ds.all okd
  | [] => rfl
  | d :: ds => by rw [okds, List.all_cons, okds_all ds]
mutual
theorem okd_t : ∀ d : Dt, okd d = true → tell d = true
  | .non, _ => rfl
  | .bl _, _ => rfl
  | .int _, _ => rfl
  | .str _, _ => rfl
  | .lst ds, h => by have := okds_t ds (by simpa [okd] using h); simpa [tell] using this
  | .tup ds, h => by have := okds_t ds (by simpa [okd] using h); simpa [tell] using this
  | .frz ds, h => by have := okds_t ds (by simpa [okd] using h); simpa [tell] using this
  | .dct ks, h => by have := okdk_t ks (by simpa [okd] using h); simpa [tell] using this
  | .exc _ _ _, h => by simp [okd] at h
  | .cau _ _ _, h => by simp [okd] at h
  | .obj _ _, h => by simp [okd] at h
  | .raw _, h => by simp [okd] at h
theorem okds_t : ∀ ds : List Dt, okds ds = true → tells ds = true
  | [], _ => rfl
  | d :: ds, h => by
    have h' : okd d = true ∧ okds ds = true := by simpa [okds] using h
    simp [tells, okd_t d h'.1, okds_t ds h'.2]
theorem okdk_t : ∀ ks : List (Key × Dt), okdk ks = true → tellk ks = true
  | [], _ => rfl
  | kd :: ks, h => by
    have h' : (okKey kd.1 = true ∧ okd kd.2 = true) ∧ okdk ks = true := by simpa only [okdk, Bool.and_eq_true] using h
    simp [tellk, okd_t kd.2 h'.1.2, okdk_t ks h'.2]
end
mutual
theorem okd_s : ∀ d : Dt, okd d = true → (py d).showable = true
  | .non, _ => by simp [py, PyData.showable]
  | .bl _, _ => by simp [py, PyData.showable]
  | .int i, h => by
    have h' : i.natAbs < 10 ^ 200 := of_decide_eq_true h
    simpa [py, PyData.showable] using log_ok h'
  | .str _, _ => by simp [py, PyData.showable]
  | .lst ds, h => by have := okds_s ds (by simpa [okd] using h); simpa [py, PyData.showable] using this
  | .tup ds, h => by have := okds_s ds (by simpa [okd] using h); simpa [py, PyData.showable] using this
  | .frz ds, h => by have := okds_s ds (by simpa [okd] using h); simpa [py, PyData.showable] using this
  | .dct ks, h => by have := okdk_s ks (by simpa [okd] using h); simpa [py, PyData.showable] using this
  | .exc _ _ _, h => by simp [okd] at h
  | .cau _ _ _, h => by simp [okd] at h
  | .obj _ _, h => by simp [okd] at h
  | .raw _, h => by simp [okd] at h
theorem okds_s : ∀ ds : List Dt, okds ds = true → PyData.showableAll (pys ds) = true
  | [], _ => by simp [pys, PyData.showableAll]
  | d :: ds, h => by
    have h' : okd d = true ∧ okds ds = true := by simpa [okds] using h
    simp [pys, PyData.showableAll, okd_s d h'.1, okds_s ds h'.2]
theorem okdk_s : ∀ ks : List (Key × Dt), okdk ks = true → PyData.showableKv (pyk ks) = true
  | [], _ => by simp [pyk, PyData.showableKv]
  | (k, d) :: ks, h => by
    have h' : (okKey k = true ∧ okd d = true) ∧ okdk ks = true := by simpa only [okdk, Bool.and_eq_true] using h
    have hk : (pyKey k).showable = true := by
      cases k with
      | inl i => have := log_ok (z := i) (of_decide_eq_true h'.1.1); simpa [pyKey, PyData.showable] using this
      | inr x => simp [pyKey, PyData.showable]
    rw [pyk_cons]
    simp [PyData.showableKv, hk, okd_s d h'.1.2, okdk_s ks h'.2]
end
mutual
theorem okd_d : ∀ d : Dt, okd d = true → (py d).depth ≤ lv d
  | .non, _ => by simp [py, PyData.depth]
  | .bl _, _ => by simp [py, PyData.depth]
  | .int i, h => by simp [py, PyData.depth]
  | .str _, _ => by simp [py, PyData.depth]
  | .lst ds, h => by have := okds_d ds (by simpa [okd] using h); simp [py, PyData.depth, lv]; omega
  | .tup ds, h => by have := okds_d ds (by simpa [okd] using h); simp [py, PyData.depth, lv]; omega
  | .frz ds, h => by have := okds_d ds (by simpa [okd] using h); simp [py, PyData.depth, lv]; omega
  | .dct ks, h => by have := okdk_d ks (by simpa [okd] using h); simp [py, PyData.depth, lv]; omega
  | .exc _ _ _, h => by simp [okd] at h
  | .cau _ _ _, h => by simp [okd] at h
  | .obj _ _, h => by simp [okd] at h
  | .raw _, h => by simp [okd] at h
theorem okds_d : ∀ ds : List Dt, okds ds = true → PyData.depthAll (pys ds) ≤ lvs ds
  | [], _ => by simp [pys, PyData.depthAll]
  | d :: ds, h => by
    have h' : okd d = true ∧ okds ds = true := by simpa [okds] using h
    have := okd_d d h'.1
    have := okds_d ds h'.2
    simp only [pys, PyData.depthAll, lvs]
    omega
theorem okdk_d : ∀ ks : List (Key × Dt), okdk ks = true → PyData.depthKv (pyk ks) ≤ lvk ks
  | [], _ => by simp [pyk, PyData.depthKv]
  | (k, d) :: ks, h => by
    have h' : (okKey k = true ∧ okd d = true) ∧ okdk ks = true := by simpa only [okdk, Bool.and_eq_true] using h
    have := okd_d d h'.1.2
    have := okdk_d ks h'.2
    have d0 : (pyKey k).depth = 0 := by cases k <;> simp [pyKey, PyData.depth]
    rw [pyk_cons]
    simp only [PyData.depthKv, lvk, d0]
    omega
end
mutual
theorem okd_w : ∀ d : Dt, okd d = true → (py d).shown.length ≤ wt d
  | .non, _ => by simp only [py, PyData.shown, wt]; decide
  | .bl b, _ => by cases b <;> (simp only [py, PyData.shown, wt]; decide)
  | .int i, h => by
    have h' : i.natAbs < 10 ^ 200 := of_decide_eq_true h
    simp only [py, PyData.shown, wt]
    rw [str_zL, SX.S_len]
    have := zL_len (by decide : 0 < 200) h'
    omega
  | .str x, h => by
    simp only [py, PyData.shown, wt]
    refine StrLaws.reprText_len x fun c hc => ?_
    have := List.all_eq_true.mp (show x.cps.toList.all _ = true from h) c hc
    exact Nat.lt_of_lt_of_le (of_decide_eq_true this) (by decide)
  | .lst ds, h => by
    have := okds_w ds (by simpa [okd] using h)
    have e := listText_len_le (PyData.shownAll (pys ds))
    simp only [py, PyData.shown, wt]
    omega
  | .tup ds, h => by
    have := okds_w ds (by simpa [okd] using h)
    have e := tupleText_len_le (PyData.shownAll (pys ds))
    simp only [py, PyData.shown, wt]
    omega
  | .frz ds, h => by
    have := okds_w ds (by simpa [okd] using h)
    have e := listText_len_le (PyData.shownAll (pys ds))
    simp only [py, PyData.shown, wt]
    omega
  | .dct ks, h => by
    have := okdk_w ks (by simpa [okd] using h)
    have e := dictText_len_le (PyData.shownKv (pyk ks))
    simp only [py, PyData.shown, wt]
    omega
  | .exc _ _ _, h => by simp [okd] at h
  | .cau _ _ _, h => by simp [okd] at h
  | .obj _ _, h => by simp [okd] at h
  | .raw _, h => by simp [okd] at h
theorem okds_w : ∀ ds : List Dt, okds ds = true → ((PyData.shownAll (pys ds)).map (·.length)).sum + 2 * (PyData.shownAll (pys ds)).length ≤ wts ds
  | [], _ => by simp [pys, PyData.shownAll, wts]
  | d :: ds, h => by
    have h' : okd d = true ∧ okds ds = true := by simpa [okds] using h
    have := okd_w d h'.1
    have := okds_w ds h'.2
    simp only [pys, PyData.shownAll, wts, List.map_cons, List.sum_cons, List.length_cons]
    omega
theorem okdk_w : ∀ ks : List (Key × Dt), okdk ks = true → ((PyData.shownKv (pyk ks)).map (·.length)).sum + 2 * (PyData.shownKv (pyk ks)).length ≤ wtk ks
  | [], _ => by simp [pyk, PyData.shownKv, wtk]
  | (k, d) :: ks, h => by
    have h' : (okKey k = true ∧ okd d = true) ∧ okdk ks = true := by simpa only [okdk, Bool.and_eq_true] using h
    have h1 := okd_w d h'.1.2
    have h2 := okdk_w ks h'.2
    have hk : (pyKey k).shown.length ≤ wtKey k := by
      cases k with
      | inl i =>
        have hi : i.natAbs < 10 ^ 200 := of_decide_eq_true h'.1.1
        simp only [pyKey, PyData.shown, wtKey]
        rw [str_zL, SX.S_len]
        have := zL_len (by decide : 0 < 200) hi
        omega
      | inr x =>
        simp only [pyKey, PyData.shown, wtKey]
        refine StrLaws.reprText_len x fun c hc => ?_
        have := List.all_eq_true.mp (show x.cps.toList.all _ = true from h'.1.1) c hc
        exact Nat.lt_of_lt_of_le (of_decide_eq_true this) (by decide)
    have h3 : ((pyKey k).shown ++ ": " ++ (py d).shown).length = (pyKey k).shown.length + 2 + (py d).shown.length := by rw [strLen_append, strLen_append]; rfl
    rw [pyk_cons]
    simp only [PyData.shownKv, wtk, List.map_cons, List.sum_cons, List.length_cons, h3]
    omega
end
/-- small data -/
structure Sm (n k : Nat) (d : Dt) : Prop where
  ok : okd d = true
  w : wt d ≤ n
  l : lv d ≤ k
structure SmL (n k : Nat) (ds : List Dt) : Prop where
  ok : okds ds = true
  w : wts ds ≤ n
  l : lvs ds ≤ k
theorem Sm.mono {n k n' k' : Nat} {d : Dt} (h : Sm n k d) (a : n ≤ n') (b : k ≤ k') : Sm n' k' d := ⟨h.ok, Nat.le_trans h.w a, Nat.le_trans h.l b⟩
theorem SmL.mono {n k n' k' : Nat} {d : List Dt} (h : SmL n k d) (a : n ≤ n') (b : k ≤ k') : SmL n' k' d := ⟨h.ok, Nat.le_trans h.w a, Nat.le_trans h.l b⟩
theorem Sm.sht {n k : Nat} {d : Dt} (h : Sm n k d) (a : n ≤ 16777216) (b : k ≤ 60) : Sht d := by
  refine ⟨okd_t d h.ok, okd_s d h.ok, ?_, ?_⟩
  · have := okd_d d h.ok; have := h.l; omega
  · have e := okd_w d h.ok; have := h.w; show (py d).shown.length ≤ sizeLine; rw [sizeLine_eq]; omega
theorem SmL.nil {n k : Nat} : SmL n k [] := ⟨rfl, Nat.zero_le _, Nat.zero_le _⟩
theorem SmL.cons {n n' k : Nat} {d : Dt} {ds : List Dt} (h : Sm n k d) (t : SmL n' k ds) : SmL (n + 2 + n') k (d :: ds) := by
  have a := h.w; have b := t.w; have c := h.l; have e := t.l
  exact ⟨by simp [okds, h.ok, t.ok], by simp only [wts]; omega, by simp only [lvs]; omega⟩
theorem SmL.head {n k : Nat} {d : Dt} {ds : List Dt} (h : SmL n k (d :: ds)) : Sm n k d := by
  have h1 : okd d = true ∧ okds ds = true := by simpa [okds] using h.ok
  have h2 := h.w; have h3 := h.l
  simp only [wts, lvs] at h2 h3
  exact ⟨h1.1, by omega, by omega⟩
theorem SmL.tail {n k : Nat} {d : Dt} {ds : List Dt} (h : SmL n k (d :: ds)) : SmL n k ds := by
  have h1 : okd d = true ∧ okds ds = true := by simpa [okds] using h.ok
  have h2 := h.w; have h3 := h.l
  simp only [wts, lvs] at h2 h3
  exact ⟨h1.2, by omega, by omega⟩
theorem SmL.mem {n k : Nat} {d : Dt} : ∀ {ds : List Dt}, SmL n k ds → d ∈ ds → Sm n k d
  | [], _, h => nomatch h
  | e :: ds, h, hm => by
    rcases List.mem_cons.mp hm with rfl | hm
    · exact h.head
    · exact SmL.mem h.tail hm
theorem wts_append : ∀ xs ys : List Dt, wts (xs ++ ys) = wts xs + wts ys
  | [], ys => by simp [wts]
  | x :: xs, ys => by simp only [List.cons_append, wts, wts_append xs ys]; omega
theorem lvs_append : ∀ xs ys : List Dt, lvs (xs ++ ys) = max (lvs xs) (lvs ys)
  | [], ys => by simp [lvs]
  | x :: xs, ys => by simp only [List.cons_append, lvs, lvs_append xs ys]; omega
theorem okds_append (xs ys : List Dt) : okds (xs ++ ys) = (okds xs && okds ys) := by rw [okds_all, okds_all, okds_all, List.all_append]
theorem SmL.append {n n' k : Nat} {xs ys : List Dt} (h : SmL n k xs) (t : SmL n' k ys) : SmL (n + n') k (xs ++ ys) := by
  have a := h.w; have b := t.w; have c := h.l; have e := t.l
  exact ⟨by rw [okds_append, h.ok, t.ok]; rfl, by rw [wts_append]; omega, by rw [lvs_append]; omega⟩
theorem SmL.left {n k : Nat} {xs ys : List Dt} (h : SmL n k (xs ++ ys)) : SmL n k xs := by
  have a := h.ok; have b := h.w; have c := h.l
  rw [okds_append] at a; rw [wts_append] at b; rw [lvs_append] at c
  exact ⟨(by simpa using a : okds xs = true ∧ _).1, by omega, by omega⟩
theorem SmL.right {n k : Nat} {xs ys : List Dt} (h : SmL n k (xs ++ ys)) : SmL n k ys := by
  have a := h.ok; have b := h.w; have c := h.l
  rw [okds_append] at a; rw [wts_append] at b; rw [lvs_append] at c
  exact ⟨(by simpa using a : _ ∧ okds ys = true).2, by omega, by omega⟩
theorem SmL.take {n k : Nat} {xs : List Dt} (i : Nat) (h : SmL n k xs) : SmL n k (xs.take i) := by
  rw [← List.take_append_drop i xs] at h; exact h.left
theorem SmL.drop {n k : Nat} {xs : List Dt} (i : Nat) (h : SmL n k xs) : SmL n k (xs.drop i) := by
  rw [← List.take_append_drop i xs] at h; exact h.right
theorem split_sm {ds : List Dt} {i n k : Nat} (hi : i < ds.length) (h : SmL n k ds) : ∃ x na nx nc, ds[i]? = some x ∧ SmL na k (ds.take i) ∧ Sm nx k x ∧ SmL nc k (ds.drop (i + 1)) ∧ na + (nx + 2) + nc ≤ n := by
  have e : ds = ds.take i ++ ds[i] :: ds.drop (i + 1) := by rw [← List.drop_eq_getElem_cons hi, List.take_append_drop]
  have ho := h.ok; have hw := h.w; have hl := h.l
  rw [e] at ho hw hl
  rw [okds_append] at ho; rw [wts_append] at hw; rw [lvs_append] at hl
  simp only [okds, wts, lvs] at ho hw hl
  have ho' : okds (ds.take i) = true ∧ okd ds[i] = true ∧ okds (ds.drop (i + 1)) = true := by simpa using ho
  exact ⟨ds[i], wts (ds.take i), wt ds[i], wts (ds.drop (i + 1)), List.getElem?_eq_getElem hi, ⟨ho'.1, Nat.le_refl _, by omega⟩, ⟨ho'.2.1, Nat.le_refl _, by omega⟩, ⟨ho'.2.2, Nat.le_refl _, by omega⟩, by omega⟩
theorem SmL.reverse {n k : Nat} {xs : List Dt} (h : SmL n k xs) : SmL n k xs.reverse := by
  have w : ∀ xs : List Dt, wts xs.reverse = wts xs ∧ lvs xs.reverse = lvs xs := fun xs => by
    induction xs with
    | nil => exact ⟨rfl, rfl⟩
    | cons x xs ih => rw [List.reverse_cons, wts_append, lvs_append, ih.1, ih.2]; simp only [wts, lvs]; omega
  exact ⟨by rw [okds_all, List.all_reverse, ← okds_all]; exact h.ok, by rw [(w xs).1]; exact h.w, by rw [(w xs).2]; exact h.l⟩
theorem SmL.tup {n k : Nat} {ds : List Dt} (h : SmL n k ds) : Sm (3 + n) (1 + k) (.tup ds) := by
  have a := h.w; have b := h.l
  exact ⟨by simpa [okd] using h.ok, by simp only [wt]; omega, by simp only [lv]; omega⟩
theorem SmL.lst {n k : Nat} {ds : List Dt} (h : SmL n k ds) : Sm (3 + n) (1 + k) (.lst ds) := by
  have a := h.w; have b := h.l
  exact ⟨by simpa [okd] using h.ok, by simp only [wt]; omega, by simp only [lv]; omega⟩
theorem Sm.of_tup {n k : Nat} {ds : List Dt} (h : Sm n k (.tup ds)) : SmL n k ds ∧ 3 + wts ds ≤ n ∧ 1 + lvs ds ≤ k := by
  have a := h.w; have b := h.l
  simp only [wt, lv] at a b
  exact ⟨⟨by simpa [okd] using h.ok, by omega, by omega⟩, a, b⟩
theorem Sm.str {l : List Nat} {n k : Nat} (h : ∀ c ∈ l, c < 0x110000) (hl : 10 * l.length + 2 ≤ n) : Sm n k (.str (SX.S l)) := by
  refine ⟨List.all_eq_true.mpr fun c hc => decide_eq_true (h c hc), ?_, Nat.zero_le _⟩
  simp only [wt]
  rw [SX.S_len]
  exact hl
theorem Sm.of_str {l : List Nat} {n k : Nat} (h : Sm n k (.str (SX.S l))) : (∀ c ∈ l, c < 0x110000) ∧ 10 * l.length + 2 ≤ n := by
  refine ⟨fun c hc => of_decide_eq_true (List.all_eq_true.mp (show (SX.S l).cps.toList.all _ = true from h.ok) c hc), ?_⟩
  have := h.w
  simp only [wt] at this
  rw [SX.S_len] at this
  exact this
theorem Sm.int {i : Int} {n k : Nat} (h : i.natAbs < 10 ^ 200) (hn : 300 ≤ n) : Sm n k (.int i) := ⟨decide_eq_true h, hn, Nat.zero_le _⟩
theorem Sm.non {n k : Nat} (hn : 5 ≤ n) : Sm n k .non := ⟨rfl, hn, Nat.zero_le _⟩
theorem Sm.bl {b : Bool} {n k : Nat} (hn : 5 ≤ n) : Sm n k (.bl b) := ⟨rfl, hn, Nat.zero_le _⟩
/-- what repr can tell: small data, an exception of a leaf -/
inductive Rq (K : PySem.W.Frag) : Dt → Prop
  | sm {d : Dt} {n k : Nat} (h : Sm n k d) (a : n ≤ 16777216) (b : k ≤ 60) : Rq K d
  | ex {C : Addr} {cn : Str} {d : Dt} (T : XF K C cn) (hl : leaf d = true) (h : Shw d) (hz : (shows d).length ≤ 10000) : Rq K (.exc C cn [d])
section
variable {X : Cx} {m : Mu} {F : Pd} {k : Nat} {N : List Str} {d : Dt}
theorem c_rq (hg : X.A.guards = some []) (hu : X.A.units + 64 < cLine) (h : Rq X.K d) (q : F (.str (rep d)) m) : OC X (.builtin "repr") [d] m F := by
  cases h with
  | sm h a b =>
    refine c_reprT hg hu (h.sht a b) ?_
    have e : rep d = shows d := by cases d <;> first | rfl | (have := h.ok; simp [okd] at this)
    rw [← e]; exact q
  | ex T hl h hz => exact c_repr_exc hu T hl h hz q
end
end Dw
namespace Dw
open PySem PySem.Spec PyProof.Rows L2
theorem joinL_nil : ∀ ys : List (List Nat), TL.joinL [] ys = ys.flatten
  | [] => rfl
  | [y] => by simp [TL.joinL]
  | y :: z :: ys => by
    have := joinL_nil (z :: ys)
    simp only [TL.joinL, List.flatten_cons, List.append_nil, List.nil_append] at this ⊢
    rw [this]
theorem flat_one (cs : List Nat) : (cs.map fun c => [c]).flatten = cs := by
  induction cs with
  | nil => rfl
  | cons c cs ih => rw [List.map_cons, List.flatten_cons, ih]; rfl
theorem at_any {α : Type} {ds : List α} {i : Int} (h0 : 0 ≤ i) (h1 : i < ds.length) : ∃ d, atI ds i = some d ∧ d ∈ ds := by
  obtain ⟨j, rfl⟩ := Int.eq_ofNat_of_zero_le h0
  have hj : j < ds.length := by omega
  exact ⟨ds[j], atI_nat (List.getElem?_eq_getElem hj), List.getElem_mem hj⟩
theorem rng_get' {lo : Int} {n i : Nat} {d : Dt} (h : (rng lo n)[i]? = some d) : i < n ∧ d = .int (lo + i) := by
  unfold rng at h
  rw [List.getElem?_map] at h
  have hl : i < n := by
    cases e : (List.range n)[i]? with
    | none => rw [e] at h; cases h
    | some v => have := (List.getElem?_eq_some_iff.mp e).1; simpa using this
  rw [List.getElem?_range hl] at h
  cases h
  exact ⟨hl, rfl⟩
theorem mulL (l : List Nat) (n : Int) : Txt.mul (SX.S l) n = SX.S (List.replicate n.toNat l).flatten := by
  unfold Txt.mul
  by_cases h1 : n < 1
  · rw [if_pos h1, show n.toNat = 0 by omega]; rfl
  rw [if_neg h1]
  by_cases h2 : (n == 1 || (SX.S l).length == 0) = true
  · rw [if_pos h2]
    rcases Bool.or_eq_true_iff.mp h2 with h2 | h2
    · rw [show n = 1 by simpa using h2]
      simp
    · have : l = [] := by
        have e : (SX.S l).length = 0 := by simpa using h2
        rw [SX.S_len] at e
        exact List.eq_nil_of_length_eq_zero e
      subst this
      have : ∀ k : Nat, (List.replicate k ([] : List Nat)).flatten = [] := fun k => by induction k with
        | zero => rfl
        | succ k ih => rw [List.replicate_succ, List.flatten_cons, ih]; rfl
      rw [this]
  · rw [if_neg h2]
    have : ∀ (k : Nat) (a : List Nat), ((List.replicate k (SX.S l).cps).foldl (· ++ ·) a.toArray) = (a ++ (List.replicate k l).flatten).toArray := by
      intro k
      induction k with
      | zero => intro a; simp
      | succ k ih =>
        intro a
        rw [List.replicate_succ, List.foldl_cons, show a.toArray ++ (SX.S l).cps = (a ++ l).toArray by simp [SX.S], ih]
        simp [List.replicate_succ]
    have := this n.toNat []
    simp only [List.nil_append] at this
    rw [show (#[] : Array Nat) = ([] : List Nat).toArray from rfl, this]
theorem mulOkL {l : List Nat} {n : Int} (hl : l.length ≤ 10000) (h0 : -1000 ≤ n) (h2 : n ≤ 1000) : MulOk (SX.S l) n := by
  unfold MulOk
  rw [SX.S_len]
  refine ⟨by simp; omega, fun h1 _ => ?_, fun h1 _ => ?_⟩
  · have : (l.length : Int) ≤ (2 ^ 63 - 1) / n := Int.le_ediv_of_mul_le (by omega) (by
      have : (l.length : Int) * n ≤ 10000 * 1000 := Int.mul_le_mul (by omega) h2 (by omega) (by omega)
      omega)
    omega
  · unfold Builtin.Str.tooLong
    have : sizeLine = 16777216 := sizeLine_eq
    have h3 : l.length * n.toNat ≤ 10000 * 1000 := Nat.mul_le_mul hl (by omega)
    simp
    omega
theorem mem_rep {l : List Nat} {k : Nat} {c : Nat} (h : c ∈ (List.replicate k l).flatten) : c ∈ l := by
  obtain ⟨x, hx, hc⟩ := List.mem_flatten.mp h
  rw [(List.mem_replicate.mp hx).2] at hc
  exact hc
section
variable {X : Cx} {m : Mu} {G : Dt → Prop} {F : Pd} {E : Xd} {r : En} {e : Expr}
/-- an item at a place that is only bounded: some item -/
theorem oi_lstM {ds : List Dt} {i : Int} (h0 : 0 ≤ i) (h1 : i < ds.length) (q : ∀ d ∈ ds, G d) : OI X (.lst ds) (.int i) m G := by
  obtain ⟨d, h, hd⟩ := at_any h0 h1
  exact oi_lst h (q d hd)
theorem oi_tupM {ds : List Dt} {i : Int} (h0 : 0 ≤ i) (h1 : i < ds.length) (q : ∀ d ∈ ds, G d) : OI X (.tup ds) (.int i) m G := by
  obtain ⟨d, h, hd⟩ := at_any h0 h1
  exact oi_tup h (q d hd)
theorem oi_strM {l : List Nat} {i : Int} (hz : l.length ≤ sizeLine) (h0 : 0 ≤ i) (h1 : i < l.length) (q : ∀ c ∈ l, G (.str (SX.S [c]))) : OI X (.str (SX.S l)) (.int i) m G := by
  obtain ⟨d, h, hd⟩ := at_any h0 h1
  exact oi_str (by rw [SX.S_len]; exact hz) h (q d hd)
theorem o_mulS {l : List Nat} {n : Int} (hl : l.length ≤ 10000) (h0 : -1000 ≤ n) (h2 : n ≤ 1000) (q : G (.str (SX.S (List.replicate n.toNat l).flatten))) : O2 X (binaryOp .Mult) (.str (SX.S l)) (.int n) m G := o_muls (mulOkL hl h0 h2) (by rw [mulL]; exact q)
/-- two written lists of small data -/
theorem o_catSm {A B : List Dt} (n k c : Nat) (hok : ((A ++ B).all fun d => okd d && Nat.ble (wt d) n && Nat.ble (lv d) k) = true) (hl : (A ++ B).length = c) (hc : c ≤ sizeLine) (q : ∀ O : List Dt, O.length = c → (∀ d ∈ O, Sm n k d) → G (.lst O)) : O2 X (binaryOp .Add) (.lst A) (.lst B) m G := by
  refine o_cat (by rw [← List.length_append, hl]; exact hc) (q _ hl fun d hd => ?_)
  have h := List.all_eq_true.mp hok d hd
  have h' : (okd d = true ∧ Nat.ble (wt d) n = true) ∧ Nat.ble (lv d) k = true := by simpa using h
  exact ⟨h'.1.1, Nat.le_of_ble_eq_true h'.1.2, Nat.le_of_ble_eq_true h'.2⟩
/-- ''.join of texts -/
theorem le_join0 {j : Nat} {p1 apos pos : Pos} (h : LE X e r m (fun d m2 => ∃ ys : List (List Nat), d = .lst (ys.map fun l => Dt.str (SX.S l)) ∧ ys.flatten.length ≤ 16777216 ∧ F (.str (SX.S ys.flatten)) m2) E)
    (hfew : ((backTo pos (starEach [e] X.env)).all (fun x => !x.1) && (backToKw pos (keywordEach [] X.env)).all (fun x => x.1.isSome)
      && decide ([e].length + ([] : List Keyword).length + (if ([] : List Keyword).isEmpty then 0 else 1) < 30)) = true := by rfl)
    (hline : (apos.endLine == pos.line) = true := by rfl)
    (hs : starEach [e] X.env = (false, eval e X.env) :: starEach [] X.env := by rfl) : LE X (.Call (.Attribute (.Constant (.str "") j p1) "join" apos) [e] [] pos) r m F E := by
  refine le_join (le_str ⟨⟨_, rfl⟩, la_cons (h.imp fun d m2 q => ?_) hs⟩) rfl hfew hline hs
  obtain ⟨ys, rfl, hz, q⟩ := q
  refine la_nil ⟨SX.S [], ys.map SX.S, rfl, .inl (by rw [List.map_map]; rfl), ?_, ?_⟩
  · rw [show (SX.S []).length = 0 from rfl, Nat.mul_zero, Nat.add_zero, List.map_map]
    have : (ys.map ((fun x => Str.length x) ∘ SX.S)).sum = ys.flatten.length := by
      rw [List.length_flatten]
      exact congrArg List.sum (List.map_congr_left fun l _ => SX.S_len l)
    rw [this]
    exact hz
  · rw [SX.join_S, joinL_nil]
    exact q
end
end Dw
namespace Dw
open PySem PySem.Spec PyProof.Rows L2
/-! ### instances: fields, methods, making -/
theorem lenF {α : Type} {l : List α} (h : Nat.blt l.length 1000 = true) : l.length < 1000 := by simpa using h
def putD (f : Str) (d : Dt) : List (Str × Dt) → List (Str × Dt)
  | [] => [(f, d)]
  | (g, x) :: r => if g = f then (g, d) :: r else (g, x) :: putD f d r
theorem Fds.put {K : PySem.W.Frag} {D : List Addr} {H : Hp} {f : Str} {d : Dt} {v : V} (h : Da K D H d v) : ∀ {fs : List (Str × Dt)} {vs : List (Str × V)}, Fds K D H fs vs → Fds K D H (putD f d fs) (putF f v vs)
  | _, _, .nil => .cons h .nil
  | (g, x) :: fs, (_, y) :: vs, .cons h1 h2 => by
    unfold putD putF
    by_cases e : g = f
    · rw [if_pos e, if_pos e]; exact .cons h h2
    · rw [if_neg e, if_neg e]; exact .cons h1 (Fds.put h h2)
theorem Fds.length {K : PySem.W.Frag} {D : List Addr} {H : Hp} : ∀ {fs : List (Str × Dt)} {vs : List (Str × V)}, Fds K D H fs vs → fs.length = vs.length
  | _, _, .nil => rfl
  | _, _, .cons _ h => by rw [List.length_cons, List.length_cons, Fds.length h]
theorem Fds.none {K : PySem.W.Frag} {D : List Addr} {H : Hp} {f : Str} : ∀ {fs : List (Str × Dt)} {vs : List (Str × V)}, Fds K D H fs vs → fs.lookup f = none → vs.lookup f = none
  | _, _, .nil, _ => rfl
  | (g, d0) :: fs, (_, v0) :: vs, .cons h1 h2, e => by
    rw [List.lookup_cons] at e ⊢
    cases hb : f == g with
    | true => rw [hb] at e; cases e
    | false => rw [hb] at e; exact Fds.none h2 e
/-- a thing of the store is written anew -/
theorem So.put_mc {K : PySem.W.Frag} {Z : List Addr} {m : Mu} {H : Hp} {p : Addr} {c c' : Mc} {o : HO} (so : So K Z m H) (h : (p, c) ∈ m) (hc : ∀ D : List Addr, Ext (Z ++ dom m) H D (upd H p o) → McOk K D (upd H p o) p c') :
    So K Z (put p c' m) (upd H p o) ∧ Go m H (put p c' m) (upd H p o) := by
  have hp : p ∈ dom m := List.mem_map.mpr ⟨(p, c), h, rfl⟩
  have g : Go m H (put p c' m) (upd H p o) := ⟨fun a u n e => by rw [upd_ne (show a ≠ p from fun z => n (by rw [z]; exact hp))]; exact e, fun a ha => .inl (by rw [put_dom] at ha; exact ha)⟩
  refine ⟨⟨by rw [put_dom]; exact so.nd, fun a ha => ?_, fun a ha => by rw [put_dom]; exact so.dj a ha, fun q hq => ?_⟩, g⟩
  · have n : a ≠ p := fun z => so.dj a ha (by rw [z]; exact hp)
    rw [upd_ne n]
    exact so.zs a ha
  · obtain ⟨q0, hq0, rfl⟩ := List.mem_map.mp hq
    by_cases e : q0.1 = p
    · rw [if_pos e]
      exact hc _ (g.full Z)
    · rw [if_neg e]
      have y := so.ob q0 hq0
      cases e2 : q0.2 with
      | lst es =>
        rw [e2] at y
        obtain ⟨xs, e1, e3⟩ := y
        exact ⟨xs, by rw [upd_ne e]; exact e1, e3.move (g.full Z)⟩
      | ins C dx fs =>
        rw [e2] at y
        obtain ⟨xs, e1, e3⟩ := y
        exact ⟨xs, by rw [upd_ne e]; exact e1, e3.move (g.full Z)⟩
      | gen φ es =>
        rw [e2] at y
        obtain ⟨xs, e1, e3⟩ := y
        exact ⟨xs, by rw [upd_ne e]; exact e1, e3.1.move (g.full Z), e3.2⟩
/-- a method by its name, n parameters, level k -/
structure MtD (P : Program) (w : World) (K : PySem.W.Frag) (mg : Str → Option Value) (base : Heap) (C : Addr) (x : Str) (k : Nat) (W : Spd) : Prop where
  ex : ∃ (f : Addr) (fd : FuncData) (ps : List Str), FnG P w K mg base k f fd ps (toSp K W) ∧ Cls K C ∧ Meth K C x f ∧ Binds K fd ps []
/-- a class that can be made by its __init__ -/
structure MkD (P : Program) (w : World) (K : PySem.W.Frag) (mg : Str → Option Value) (base : Heap) (x : Str) (C : Addr) (k : Nat) (W : Spd) : Prop where
  ex : ∃ (f : Addr) (fd : FuncData) (ps : List Str), FnG P w K mg base k f fd ps (toSp K W) ∧ Mk K C f ∧ mg x = some (.ref C) ∧ Binds K fd ps []
section
variable {X : Cx} {o e : Expr} {es : List Expr} {r : En} {m : Mu} {F : Pd} {E : Xd} {P : Pc} {p pos pos' apos : Pos} {k j : Nat} {N : List Str} {x f : Str} {W : Spd} {C : Addr}
theorem le_fld (h : LE X o r m (fun x m1 => ∃ a C dx fs d, x = .raw (.ref a) ∧ (a, Mc.ins C dx fs) ∈ m1 ∧ Cls X.K C ∧ NoAttr X.K C f ∧ fs.lookup f = some d ∧ F d m1) E)
    (hb : attributeBase o f X.env (eval o X.env) = eval o X.env := by rfl) : LE X (.Attribute o f pos) r m F E := by
  refine ⟨fun Z st H Q W rp tk nk nx => (pe_fld pe_w hb).w (h.run Z st H _ W rp tk (fun v H1 d m1 q go so da => ?_) nx)⟩
  obtain ⟨a, C, dx, fs, d', rfl, hm, c, n, l, q⟩ := q
  cases da
  obtain ⟨vs, e1, e2⟩ := so.ob _ hm
  obtain ⟨v, l2, dv⟩ := e2.look l
  exact ⟨a, C, dx, vs, v, rfl, e1, c, n, l2, nk v H1 d' m1 q go so dv⟩
theorem le_fldG (gd : Gd k N X) (h : LE X o r m (fun x m1 => ∃ a C dx fs d, x = .raw (.ref a) ∧ (a, Mc.ins C dx fs) ∈ m1 ∧ Cls X.K C ∧ NoAttr X.K C f ∧ fs.lookup f = some d ∧ F d m1) E)
    (hb : attributeBase o f X.env (eval o X.env) = eval o X.env := by rfl) : LE X (.Attribute o f pos) r m F E := le_fld h hb
theorem ls_fld (h : LE X e r m (fun d m1 => LE X o r m1 (fun x m2 => ∃ a C dx fs, x = .raw (.ref a) ∧ (a, Mc.ins C dx fs) ∈ m2 ∧ Cls X.K C ∧ NoAttr X.K C f ∧ fs.length < 1000 ∧ P.nx r (put a (.ins C dx (putD f d fs)) m2)) P.ex) P.ex)
    (hs : swapsWith e (some (.Attribute o f pos')) pos.line X.env = pure false := by rfl) : LS X (.Assign [.Attribute o f pos'] e pos) r m P := by
  refine ⟨fun Z g H D W rp tk np => (ps_fld pe_w pe_w hs).w (h.run Z g H _ W rp tk (fun v H1 d m1 q go so da => ?_) np.ex)⟩
  refine q.run Z g H1 _ W (rp.go go so) tk (fun v2 H2 d2 m2 q2 go2 so2 da2 => ?_) (np.ex.go go)
  obtain ⟨a, C, dx, fs, rfl, hm, c, n, l, q2⟩ := q2
  cases da2
  obtain ⟨vs, e1, e2⟩ := so2.ob _ hm
  have dv := da.move (Go.full Z go2)
  have gg := go.trans go2
  obtain ⟨s4, g4⟩ := so2.put_mc (o := .ins C dx (putF f v vs)) (c' := .ins C dx (putD f d fs)) hm fun D x => ⟨_, upd_same, (e2.put dv).move x⟩
  exact ⟨a, C, dx, vs, rfl, e1, c, n, by rw [← e2.length]; exact l, np.nx g _ r _ q2 (gg.trans g4) (rp.go (gg.trans g4) s4)⟩
theorem le_meth {pl : Sem Bool} (D : MtD X.prog X.w X.K X.mg X.base C x j W) (gd : Gd k N X) (hj : j ≤ k)
    (h : LE X o r m (fun y m1 => ∃ a dx fs, y = .raw (.ref a) ∧ (a, Mc.ins C dx fs) ∈ m1 ∧ fs.lookup x = none ∧ LA X (e :: es) r m1 (fun ds m2 => W (.raw (.ref a) :: ds) m2 F (fun c fs m' => E c fs r m')) E) E)
    (hst : starEach (e :: es) X.env = (false, eval e X.env) :: starEach es X.env := by rfl) (hpl : (backTo pos (starEach es X.env)).any (·.1) = false := by rfl)
    (ht : eval (.Call (.Attribute o x apos) (e :: es) [] pos) X.env = (do
      let ov ← eval o X.env
      standAt apos.atName
      let (f, first) ← holding [ov] (getMethod ov x pl)
      callWith pos f first (backTo pos (starEach (e :: es) X.env)) (backToKw pos (keywordEach [] X.env))) := by rfl) : LE X (.Call (.Attribute o x apos) (e :: es) [] pos) r m F E := by
  obtain ⟨f, fd, ps, G, c, hm, hb⟩ := D.ex
  refine ⟨fun Z g H Q Wx rp tk nk nx pins s I => ?_⟩
  refine PySem.W.methodCall_KW (pl := pl) (thn (h.run Z g H (fun v H1 => ∃ a dx fs, v = .ref a ∧ H1 a = some (.ins C dx fs) ∧ fs.lookup x = none ∧ wA X (e :: es) g H1 fun vs H2 => toSp X.K W (.ref a :: vs) H2 Q (WE Wx g)) Wx rp tk (fun v H1 d m1 q go so da => ?_) nx pins s I) fun u s1 ⟨v, H1, I1, rv, a, dx, vs, ev, ea, l, q⟩ => ?_) ht
  · obtain ⟨a, dx, fs, rfl, hm1, l, q⟩ := q
    cases da
    obtain ⟨vs, e1, e2⟩ := so.ob _ hm1
    refine ⟨a, dx, vs, rfl, e1, e2.none l, q.run Z g H1 _ Wx (rp.go go so) tk (fun us H2 ds m2 q2 go2 so2 da2 => ?_) (nx.go go)⟩
    exact ⟨Z, .raw (.ref a) :: ds, m2, F, _, so2, .cons (.raw _) da2, q2, nk.go (go.trans go2), fun cls dx fs us H' m' q3 go3 so3 nd e1 e2 => nx cls dx fs us g H' r m' q3 ((go.trans go2).trans go3) (rp.go ((go.trans go2).trans go3) so3) nd e1 e2⟩
  · subst ev
    obtain rfl : u = Value.ref a := rv
    refine getmeth_ok I1 ea c hm l ?_
    refine PySem.W.callWith_K (first := [.ref a]) (h₀ := X.base) I.ok.mod.kin hm.kp (thn (q pos pins s1 I1) fun us s2 ⟨vs, H2, I2, r, q2⟩ => ⟨I2.kIn, ?_⟩) hst hpl
    exact run_g (us := .ref a :: us) (vs := .ref a :: vs) G (gd.room.mono hj) gd.gu hb tk I2 (.cons rfl r) q2
theorem le_meth0 {pl : Sem Bool} (D : MtD X.prog X.w X.K X.mg X.base C x j W) (gd : Gd k N X) (hj : j ≤ k)
    (h : LE X o r m (fun y m1 => ∃ a dx fs, y = .raw (.ref a) ∧ (a, Mc.ins C dx fs) ∈ m1 ∧ fs.lookup x = none ∧ W [.raw (.ref a)] m1 F (fun c fs m' => E c fs r m')) E)
    (ht : eval (.Call (.Attribute o x apos) [] [] pos) X.env = (do
      let ov ← eval o X.env
      standAt apos.atName
      let (f, first) ← holding [ov] (getMethod ov x pl)
      callWith pos f first (backTo pos (starEach [] X.env)) (backToKw pos (keywordEach [] X.env))) := by rfl) : LE X (.Call (.Attribute o x apos) [] [] pos) r m F E := by
  obtain ⟨f, fd, ps, G, c, hm, hb⟩ := D.ex
  refine ⟨fun Z g H Q Wx rp tk nk nx pins s I => ?_⟩
  refine PySem.W.methodCall_KW (pl := pl) (thn (h.run Z g H (fun v H1 => ∃ a dx fs, v = .ref a ∧ H1 a = some (.ins C dx fs) ∧ fs.lookup x = none ∧ toSp X.K W [.ref a] H1 Q (WE Wx g)) Wx rp tk (fun v H1 d m1 q go so da => ?_) nx pins s I) fun u s1 ⟨v, H1, I1, rv, a, dx, vs, ev, ea, l, q⟩ => ?_) ht
  · obtain ⟨a, dx, fs, rfl, hm1, l, q⟩ := q
    cases da
    obtain ⟨vs, e1, e2⟩ := so.ob _ hm1
    exact ⟨a, dx, vs, rfl, e1, e2.none l, Z, [.raw (.ref a)], m1, F, _, so, .cons (.raw _) .nil, q, nk.go go, fun cls dx fs us H' m' q3 go3 so3 nd e1 e2 => nx cls dx fs us g H' r m' q3 (go.trans go3) (rp.go (go.trans go3) so3) nd e1 e2⟩
  · subst ev
    obtain rfl : u = Value.ref a := rv
    refine getmeth_ok I1 ea c hm l ?_
    exact PySem.W.callWith_K0 (first := [.ref a]) I1.kIn hm.kp (run_g (us := [.ref a]) (vs := [.ref a]) G (gd.room.mono hj) gd.gu hb tk I1 (.cons rfl .nil) q)
/-- two new things, one of the store -/
theorem So.made {K : PySem.W.Frag} {Z : List Addr} {m : Mu} {H : Hp} {a dx : Addr} (so : So K Z m H) (ha : H a = none) (hd : H dx = none) (ne : dx ≠ a) :
    So K Z ((a, .ins C dx []) :: m) (upd (upd H dx (.own a)) a (.ins C dx [])) ∧ Go m H ((a, .ins C dx []) :: m) (upd (upd H dx (.own a)) a (.ins C dx [])) := by
  have s1 := so.laid (o := .own a) hd
  have h1 : (upd H dx (.own a)) a = none := by rw [upd_ne (Ne.symm ne)]; exact ha
  have s2 := s1.laid (o := .ins C dx []) h1
  have na : a ∉ dom m := fun z => so.there (List.mem_append_right _ z) ha
  have g1 : Go m H m (upd H dx (.own a)) := Ext.fresh hd
  have g2 : Go m (upd H dx (.own a)) ((a, .ins C dx []) :: m) (upd (upd H dx (.own a)) a (.ins C dx [])) := ⟨(Ext.fresh (D := dom m) h1).keep, fun b hb => by
    rcases List.mem_cons.mp hb with z | z
    · exact .inr (z ▸ h1)
    · exact .inl z⟩
  refine ⟨⟨List.nodup_cons.mpr ⟨na, so.nd⟩, s2.zs, fun b hb z => ?_, fun q hq => ?_⟩, g1.trans g2⟩
  · rcases List.mem_cons.mp z with z | z
    · exact (so.zs b hb).1 (by rw [z]; exact ha)
    · exact so.dj b hb z
  · rcases List.mem_cons.mp hq with z | z
    · subst z
      exact ⟨[], upd_same, .nil⟩
    · have y1 := s1.ob q z
      have hn : q.1 ≠ a := fun w => y1.there (by rw [w]; exact h1)
      cases e2 : q.2 with
      | lst es2 =>
        rw [e2] at y1
        obtain ⟨xs, e1, e3⟩ := y1
        exact ⟨xs, by rw [upd_ne hn]; exact e1, e3.move (g2.full Z)⟩
      | ins C dx fs =>
        rw [e2] at y1
        obtain ⟨xs, e1, e3⟩ := y1
        exact ⟨xs, by rw [upd_ne hn]; exact e1, e3.move (g2.full Z)⟩
      | gen φ es =>
        rw [e2] at y1
        obtain ⟨xs, e1, e3⟩ := y1
        exact ⟨xs, by rw [upd_ne hn]; exact e1, e3.1.move (g2.full Z), e3.2⟩
theorem run_makeG {pins : List (Addr × Obj)} {g : L2.St} {H : Hp} {s : Shared} {Q : VK} {us : List Value} {vs : List V} {f : Addr} {fd : FuncData} {ps : List Str} {sp : Sp} {Wx : WX} (M : Mk X.K C f) (G : FnG X.prog X.w X.K X.mg X.base j f fd ps sp) (hr : Room (j + 1) X.A) (hgu : X.A.guards = some []) (hb : Binds X.K fd ps [])
    (tk : Takes X Wx) (I : Inv X pins g H s) (rv : Vals vs us)
    (h : ∀ x dx, H x = none → H dx = none → dx ≠ x → sp (.ref x :: vs) (upd (upd H dx (.own x)) x (.ins C dx [])) (fun v H2 => v = .non ∧ Q (.ref x) H2) (WE Wx g)) :
    wpAny (model X.prog X.w) X.A (call (.ref C) us) (EP X pins g Q) X.xe s := by
  have hq := h (s.heap.objs.size + 1) s.heap.objs.size (I.hok.fresh (Nat.le_succ _)) (I.hok.fresh (Nat.le_refl _)) (Nat.ne_of_lt (Nat.lt_succ_self _))
  have I2 := Inv.made (C := C) I
  have r2 : Vals (V.ref (s.heap.objs.size + 1) :: vs) (Value.ref (s.heap.objs.size + 1) :: us) := .cons rfl rv
  have hl : (Value.ref (s.heap.objs.size + 1) :: us).length = ps.length := by
    rw [← r2.length]; exact G.len _ _ _ _ hq
  have b := hb { s with heap := (s.heap.push PySem.W.emptyDict).push (PySem.W.instObj C s.heap.objs.size) } (Value.ref (s.heap.objs.size + 1) :: us) I2.kIn (by rw [List.append_nil]; exact hl)
  rw [List.append_nil] at b
  refine wpAny_call (make_map (f := f) I.kIn M.makes M.init (beq_iff_eq.mp M.fn) (codeAny_mono (G.run _ X.stack _ _ ⟨Value.ref (s.heap.objs.size + 1) :: us, []⟩ _ _ _ (WE Wx g) (hr.make C us []) hgu
    (I2.env0.make C us []) b r2 hq) fun o s' hq' => ?_))
  cases o with
  | error u => exact passAt tk g pins _ _ u s' I2 hq'
  | ok fl =>
    cases fl with
    | ret u =>
      obtain ⟨v, H', I3, rv, ev, q3⟩ := I2.after hq'
      subst ev
      exact ⟨rv, ⟨V.ref (s.heap.objs.size + 1), H', I3, rfl, q3⟩⟩
    | next => exact hq'.elim
    | brk => exact hq'.elim
    | cont => exact hq'.elim
theorem le_make0 (D : MkD X.prog X.w X.K X.mg X.base x C j W) (gd : Gd k N X) (hj : j + 1 ≤ k) (h : ∀ a dx, a ∉ dom m → W [.raw (.ref a)] ((a, .ins C dx []) :: m) (fun d m' => d = .non ∧ F (.raw (.ref a)) m') (fun c fs m' => E c fs r m')) (hg : Gl X x := by rfl)
    (hdb : (x == ("__debug__" : Str)) = false := by decide) : LE X (.Call (.Name x p) [] [] pos) r m F E := by
  obtain ⟨f, fd, ps, G, M, hm, hb⟩ := D.ex
  refine ⟨fun Z g H Q Wx rp tk nk nx pins s I => ?_⟩
  refine wpAny_Call_Name_kw (ld_glob I hg hm ?_ hdb)
  refine PySem.W.callWith_K0 I.kIn M.kp (run_makeG (us := []) (vs := []) M G (gd.room.mono hj) gd.gu hb tk I .nil fun a dx ha hd ne => ?_)
  obtain ⟨s2, g2⟩ := So.made (C := C) rp.so ha hd ne
  have na : a ∉ dom m := fun z => rp.so.there (List.mem_append_right _ z) ha
  refine ⟨Z, [.raw (.ref a)], _, _, _, s2, .cons (.raw _) .nil, h a dx na, fun v H' d m' q go so da => ?_, fun cls dx fs us H' m' q3 go3 so3 nd e1 e2 => nx cls dx fs us g H' r m' q3 (g2.trans go3) (rp.go (g2.trans go3) so3) nd e1 e2⟩
  obtain ⟨rfl, q⟩ := q
  cases da
  exact ⟨rfl, nk _ H' _ m' q (g2.trans go) so (.raw _)⟩
end
end Dw
namespace Dw
open PySem PySem.Spec PyProof.Rows L2
/-! ### enumerate -/
def ItS (x : Str) : It := ⟨fun i _ => i < x.cps.size, fun i H v H' => ∃ T c, v = .ref T ∧ H T = none ∧ x.cps[i]? = some c ∧ H' = upd H T (.tup [.int (i : Nat), .str ⟨#[c]⟩]), fun i _ => x.cps.size ≤ i⟩
theorem turn_enumS {P : Program} {w : World} {K : PySem.W.Frag} {elts : List Expr} {kk : Nat} {tpos : Pos} (x : Str) (t : Tok) (e it : Addr) :
    Turn P w K (.Tuple elts kk tpos) (ItS x) [e, it] e (fun i h => (∃ old, IsEnum h e it ((i : Nat) : Int) old) ∧ h.IsStrIter it (strIterType x) x t i ∧ e ≠ it ∧ i ≤ x.cps.size) where
  mem := by simp
  obj := fun i h st b hb => by
    obtain ⟨⟨old, he⟩, ⟨o, ho, hc, hd⟩, _⟩ := st
    have e' : b = e ∨ b = it := by simpa using hb
    rcases e' with z | z
    · rw [z]; exact ⟨_, he, fun v q => nomatch q⟩
    · rw [z]; exact ⟨o, ho, fun v q => by rw [hd] at q; cases q⟩
  keep := fun i h h' st k => let ⟨⟨old, he⟩, ⟨o, ho, r⟩, hne, hi⟩ := st; ⟨⟨old, k e (by simp) _ he⟩, ⟨o, k it (by simp) o ho, r⟩, hne, hi⟩
  item := by
    intro X hP hw hK hc i pins s σ H E I hf st hg
    subst hP hw hK
    obtain ⟨⟨old, he⟩, hit, hne, hi⟩ := st
    have hlt : i < x.cps.size := hg
    have hel : e < s.heap.objs.size := Heap.lt_size he
    have hil : it < s.heap.objs.size := by obtain ⟨_, q, _⟩ := hit; exact Heap.lt_size q
    have DD : Draws X.prog X.w X.A.in1 it [it] x.cps.size (fun i v => ∃ c u, x.cps[i]? = some c ∧ v = .str ⟨#[c]⟩ u) (fun i h => h.IsStrIter it (strIterType x) x t i) := Draws.text (A := X.A.in1) (show X.A.in1.handled = none from I.ok.hd hc) it x t
    refine wpAny_pyNext_enum_itemD DD he hit hlt hne (by simpa using hne) fun u h' tk hP ho hit' hT hsz hk => ?_
    obtain ⟨c, u', hc', rfl⟩ := hP
    refine ⟨_, rfl, wpAny_letOwnedTupleGo_enum (s := { s with heap := h', toks := tk + 1 }) ho fun h'' he' sb => ?_⟩
    have hT2 : h''.get? s.heap.objs.size = some { cls := .type "tuple", data := .seq #[.int i tk, .str ⟨#[c]⟩ u'] } := (sb.2 _ (Nat.ne_of_gt hel)).trans hT
    have new : ObjOk X.prog X.w (upd H s.heap.objs.size (.tup [.int (i : Nat), .str ⟨#[c]⟩])) h'' s.heap.objs.size (.tup [.int (i : Nat), .str ⟨#[c]⟩]) :=
      ⟨by show 2 ≤ sizeLine; decide, [.int i tk, .str ⟨#[c]⟩ u'], .cons ⟨_, rfl⟩ (.cons ⟨_, rfl⟩ .nil), ⟨_, hT2, rfl, _, rfl⟩⟩
    have I1 : Inv X pins σ (upd H s.heap.objs.size (.tup [.int (i : Nat), .str ⟨#[c]⟩])) { s with heap := h'', toks := tk + 1 } :=
      I.turnedNew (ch := [e, it]) (fun b ob hb q => (sb.2 b (fun z => hb (by simp [z]))).trans (hk b ob (fun z => hb (by simp [z])) (fun z => hb (by simp [z])) q)) hf (Nat.le_refl _) new
    refine ⟨.ref s.heap.objs.size, _, I1, rfl, ⟨_, c, rfl, I.hok.fresh (Nat.le_refl _), hc', rfl⟩, ⟨⟨.str ⟨#[c]⟩ u', ?_⟩, ?_, hne, hlt⟩, fun b hb => ?_⟩
    · have e1 : ((i + 1 : Nat) : Int) = (i : Int) + 1 := by omega
      rw [e1]; exact he'
    · obtain ⟨o, ho2, r⟩ := hit'
      exact ⟨o, (sb.2 it (Ne.symm hne)).trans ho2, r⟩
    · have hb' : b < s.heap.objs.size := by
        have e' : b = e ∨ b = it := by simpa using hb
        rcases e' with z | z
        · rw [z]; exact hel
        · rw [z]; exact hil
      rw [upd_ne (Nat.ne_of_lt hb')]
      exact (hf b hb).1
  done := by
    intro X hP hw hK hc i pins s σ H E I hf st hg
    subst hP hw hK
    obtain ⟨⟨old, he⟩, hit, hne, hi⟩ := st
    have hs : x.cps.size ≤ i := hg
    have ei : i = x.cps.size := by omega
    subst ei
    obtain ⟨f0, f1, f2, f3, f4, f5⟩ := hf it (by simp)
    have DD : Draws X.prog X.w X.A.in1 it [it] x.cps.size (fun i v => ∃ c u, x.cps[i]? = some c ∧ v = .str ⟨#[c]⟩ u) (fun i h => h.IsStrIter it (strIterType x) x t i) := Draws.text (A := X.A.in1) (show X.A.in1.handled = none from I.ok.hd hc) it x t
    exact wpAny_pyNext_enum_endD DD he hit fun h' eb => ⟨rfl, I.turned (t' := s.toks) (fun b o hb q => eb b o hb q) f0 f1 f3 f4 f5⟩
  self := fun A i s Q E st h => let ⟨⟨_, he⟩, _⟩ := st; wpAny_pyIter_enum he h
/-- pairs of numbers and things -/
def enumD (ds : List Dt) : List Dt := ds.mapIdx fun i d => .tup [.int (i : Nat), d]
theorem enumD_len (ds : List Dt) : (enumD ds).length = ds.length := List.length_mapIdx
theorem enumD_get {ds : List Dt} {i : Nat} {d : Dt} (h : (enumD ds)[i]? = some d) : ∃ e, ds[i]? = some e ∧ d = .tup [.int (i : Nat), e] := by
  unfold enumD at h
  rw [List.getElem?_mapIdx] at h
  cases e : ds[i]? with
  | none => rw [e] at h; cases h
  | some v => rw [e] at h; cases h; exact ⟨v, rfl, rfl⟩
section
variable {X : Cx} {e : Expr} {r : En} {m : Mu} {E : Xd} {p pos tpos : Pos} {elts : List Expr} {kk : Nat} {L : List Dt → Mu → Prop}
theorem li_enumS (hm : X.mg "enumerate" = none) (h : LE X e r m (fun d m1 => ∃ x, d = .str x ∧ L (enumD (signs x)) m1) E) (hg : Gl X "enumerate" := by rfl) (hs : starEach [e] X.env = [(false, eval e X.env)] := by rfl) :
    LI X (.Tuple elts kk tpos) (.Call (.Name "enumerate" p) [e] [] pos) r m L E := by
  refine ⟨fun Z g H R Wx rp tk nk nx pins s I => ?_⟩
  have ha : LA X [e] r m (fun ds m1 => ∃ x, ds = [.str x] ∧ L (enumD (signs x)) m1) E := la_cons (h.imp fun d m1 q => by
    obtain ⟨x, rfl, q⟩ := q
    exact la_nil ⟨x, rfl, q⟩) hs
  refine Call_ (ld_blt I hg hm boot_enumerate (PyProof.Rows.callWith_type1 (thn (ha.run Z g H (fun vs H1 => ∃ x, vs = [.str x] ∧ R (ItS x) H1) Wx rp tk (fun vs H1 ds m1 q go so da => ?_) nx pos pins s I) fun us s1 ⟨vs, H1, I1, r1, q1⟩ => ?_) hs rfl))
  · obtain ⟨x, rfl, q⟩ := q
    cases da with
    | cons d1 d2 =>
      cases d1
      cases d2
      refine ⟨x, rfl, nk _ _ m1 H1 q go so fun Z' hz i m2 H2 go2 so2 => ⟨fun hi => ?_, fun hi => ?_, fun y H3 d hd hy => ?_⟩⟩
      · rw [enumD_len] at hi
        unfold signs at hi
        rw [List.length_map] at hi
        show i < x.cps.size
        simpa using hi
      · rw [enumD_len] at hi
        unfold signs at hi
        rw [List.length_map] at hi
        show x.cps.size ≤ i
        simpa using hi
      · obtain ⟨T, c, rfl, hT, hc, rfl⟩ := hy
        obtain ⟨e1, he1, rfl⟩ := enumD_get hd
        have : e1 = .str ⟨#[c]⟩ := by
          unfold signs at he1
          rw [List.getElem?_map, Array.getElem?_toList, hc] at he1
          cases he1
          rfl
        subst this
        exact ⟨Ext.fresh hT, so2.laid hT, da_new_tup so2 hT (.cons (.int _) (.cons (.str _) .nil))⟩
  · obtain ⟨x, rfl, q⟩ := q1
    cases r1 with
    | cons r rr =>
      cases rr
      obtain ⟨t, rfl⟩ := r
      refine call_enumerate_str fun h' he hit hsz hk => wpAny_pyIter_enum he ?_
      have I2 : Inv X pins g H1 { s1 with heap := h' } := I1.kept (t' := s1.toks) hk
      refine ⟨s1.heap.objs.size + 1, [s1.heap.objs.size + 1, s1.heap.objs.size], _, _, H1, rfl, I2, turn_enumS x t (s1.heap.objs.size + 1) s1.heap.objs.size, ⟨⟨.none, he⟩, hit, Nat.succ_ne_self _, Nat.zero_le _⟩, fun b hb => ?_, q⟩
      have e' : b = s1.heap.objs.size + 1 ∨ b = s1.heap.objs.size := by simpa using hb
      have hle : s1.heap.objs.size ≤ b := by
        rcases e' with z | z
        · rw [z]; exact Nat.le_add_right _ _
        · rw [z]; exact Nat.le_refl _
      exact I1.fpOk hle (I1.hok.fresh hle)
theorem li_enum (hm : X.mg "enumerate" = none) (h : LE X e r m (fun d m1 => ∃ ds, d = .lst ds ∧ L (enumD ds) m1) E) (hg : Gl X "enumerate" := by rfl) (hs : starEach [e] X.env = [(false, eval e X.env)] := by rfl) :
    LI X (.Tuple elts kk tpos) (.Call (.Name "enumerate" p) [e] [] pos) r m L E := by
  have ha : LA X [e] r m (fun ds m1 => ∃ x, ds = [.lst x] ∧ L (enumD x) m1) E := la_cons (h.imp fun d m1 q => by
    obtain ⟨x, rfl, q⟩ := q
    exact la_nil ⟨x, rfl, q⟩) hs
  refine ⟨fun Z g H R Wx rp tk nk nx => (pi_enum hg hm pa_w hs).w (ha.run Z g H _ Wx rp tk (fun vs H1 ds m1 q go so da => ?_) nx)⟩
  obtain ⟨ds, rfl, q⟩ := q
  cases da with
  | cons d1 d2 =>
    cases d2
    cases d1 with
    | lst h1 h2 =>
      refine ⟨_, _, rfl, h1.sq, nk _ (enumD ds) m1 H1 q go so fun Z' hz i m2 H2 go2 so2 => ?_⟩
      have h1' := SL.sq (K := X.K) (h1.move (Go.hide go2 hz))
      refine ⟨fun hi => ?_, fun hi => ⟨_, h1', by rw [← h2.length, ← enumD_len]; exact hi⟩, fun x H3 d hd hy => ?_⟩
      · rw [enumD_len] at hi
        obtain ⟨v, e1, _⟩ := h2.get (List.getElem?_eq_getElem hi)
        exact ⟨_, v, h1', e1⟩
      · obtain ⟨T, y, rfl, hT, rfl, hv⟩ := hy
        obtain ⟨e1, he1, rfl⟩ := enumD_get hd
        obtain ⟨v, e2, e3⟩ := h2.get he1
        have e4 := hv _ h1'
        rw [e2] at e4
        cases e4
        exact ⟨Ext.fresh hT, so2.laid hT, da_new_tup so2 hT (.cons (.int _) (.cons (e3.move (Go.hide go2 hz)) .nil))⟩
end
end Dw
namespace Dw
open PySem PySem.Spec PyProof.Rows L2
/-! ### lists of the store, written anew; repr and == through them; while; dicts of written keys -/
theorem So.grow {K : PySem.W.Frag} {Z : List Addr} {m : Mu} {H : Hp} {p : Addr} {ds : List Dt} {vs : List V} (so : So K Z m H) (hp : H p = none) (da : DaL K (Z ++ dom m) H ds vs) :
    So K Z ((p, .lst ds) :: m) (upd H p (.lst vs)) ∧ Go m H ((p, .lst ds) :: m) (upd H p (.lst vs)) ∧ p ∉ dom m := by
  have np : p ∉ dom m := fun z => so.there (List.mem_append_right _ z) hp
  have g1 : Go m H ((p, .lst ds) :: m) (upd H p (.lst vs)) := ⟨(Ext.fresh (D := dom m) hp).keep, fun a ha => by
    rcases List.mem_cons.mp ha with z | z
    · exact .inr (z ▸ hp)
    · exact .inl z⟩
  have s1 := so.laid (o := .lst vs) hp
  refine ⟨⟨List.nodup_cons.mpr ⟨np, so.nd⟩, s1.zs, fun a ha z => ?_, fun y hy => ?_⟩, g1, np⟩
  · rcases List.mem_cons.mp z with z | z
    · exact (so.zs a ha).1 (by rw [z]; exact hp)
    · exact so.dj a ha z
  · rcases List.mem_cons.mp hy with z | z
    · subst z
      exact ⟨vs, upd_same, da.move (g1.full Z)⟩
    · have y1 := so.ob y z
      have hn : y.1 ≠ p := fun w => y1.there (by rw [w]; exact hp)
      cases e2 : y.2 with
      | lst es2 =>
        rw [e2] at y1
        obtain ⟨xs, e1, e3⟩ := y1
        exact ⟨xs, by rw [upd_ne hn]; exact e1, e3.move (g1.full Z)⟩
      | ins C dx fs =>
        rw [e2] at y1
        obtain ⟨xs, e1, e3⟩ := y1
        exact ⟨xs, by rw [upd_ne hn]; exact e1, e3.move (g1.full Z)⟩
      | gen φ es =>
        rw [e2] at y1
        obtain ⟨xs, e1, e3⟩ := y1
        exact ⟨xs, by rw [upd_ne hn]; exact e1, e3.1.move (g1.full Z), e3.2⟩
/-! data as they are read now -/
mutual
inductive Rz (m : Mu) : Dt → Dt → Prop
  | same {d : Dt} : Rz m d d
  | ptr {p : Addr} {ds es : List Dt} : (p, Mc.lst ds) ∈ m → RzL m ds es → Rz m (.raw (.ref p)) (.lst es)
  | lst {ds es : List Dt} : RzL m ds es → Rz m (.lst ds) (.lst es)
  | tup {ds es : List Dt} : RzL m ds es → Rz m (.tup ds) (.tup es)
inductive RzL (m : Mu) : List Dt → List Dt → Prop
  | nil : RzL m [] []
  | cons {d e : Dt} {ds es : List Dt} : Rz m d e → RzL m ds es → RzL m (d :: ds) (e :: es)
end
theorem RzL.same {m : Mu} : ∀ ds : List Dt, RzL m ds ds
  | [] => .nil
  | _ :: ds => .cons .same (RzL.same ds)
section
variable {K : PySem.W.Frag} {Z : List Addr} {m : Mu} {H : Hp}
theorem Ext.none {D : List Addr} : Ext D H [] H := ⟨fun _ _ _ e => e, fun _ h => nomatch h⟩
mutual
theorem Rz.da (so : So K Z m H) : ∀ {d e : Dt}, Rz m d e → ∀ {v : V}, Da K (Z ++ dom m) H d v → Da K [] H e v
  | _, _, .same, _, h => h.move Ext.none
  | _, _, .ptr hm hr, _, h => by
    cases h
    obtain ⟨xs, e1, e2⟩ := so.ob _ hm
    exact .lst ⟨fun z => (nomatch z), e1⟩ (RzL.da so hr e2)
  | _, _, .lst hr, _, h => by
    cases h with
    | lst h1 h2 => exact .lst ⟨fun z => (nomatch z), h1.2⟩ (RzL.da so hr h2)
  | _, _, .tup hr, _, h => by
    cases h with
    | tup h1 h2 =>
      refine .tup ?_ (RzL.da so hr h2)
      rcases h1 with h1 | h1
      · exact .inl ⟨fun z => (nomatch z), h1.2⟩
      · exact .inr h1
theorem RzL.da (so : So K Z m H) : ∀ {ds es : List Dt}, RzL m ds es → ∀ {vs : List V}, DaL K (Z ++ dom m) H ds vs → DaL K [] H es vs
  | _, _, .nil, _, h => by cases h; exact .nil
  | _, _, .cons h1 h2, _, h => by
    cases h with
    | cons a b => exact .cons (Rz.da so h1 a) (RzL.da so h2 b)
end
end
theorem DaL.flat {K : PySem.W.Frag} {D : List Addr} {H : Hp} {ds : List Dt} {vs : List V} (h : DaL K D H ds vs) : ∀ n : Nat, DaL K D H (List.replicate n ds).flatten (List.replicate n vs).flatten
  | 0 => .nil
  | n + 1 => by rw [List.replicate_succ, List.replicate_succ, List.flatten_cons, List.flatten_cons]; exact h.append (DaL.flat h n)
section
variable {X : Cx} {e a b c o : Expr} {r : En} {m : Mu} {F : Pd} {G : Dt → Prop} {E : Xd} {P : Pc} {pos : Pos} {k : Nat} {N : List Str} {p : Addr} {ds es : List Dt}
theorem c_len_mut (hm : (p, Mc.lst ds) ∈ m) (q : F (.int ds.length) m) : OC X (.builtin "len") [.raw (.ref p)] m F :=
  oc_of call_len_seq fun Z H vs Q so da nk => by
    cases da with
    | cons d1 d2 =>
      cases d2
      cases d1
      obtain ⟨xs, e1, e2⟩ := so.lst_of hm
      refine ⟨_, _, rfl, .inl (SqL.of e1), ?_⟩
      rw [← e2.length]
      exact nk _ H _ m q Ext.rfl' so (.int _)
/-- list(..) that will change -/
theorem c_list_mutM (hm : (p, Mc.lst ds) ∈ m) (q : ∀ a, a ∉ dom m → F (.raw (.ref a)) ((a, .lst ds) :: m)) : OC X (.type "list") [.raw (.ref p)] m F :=
  oc_of call_list_of fun Z H vs Q so da nk => by
    cases da with
    | cons d1 d2 =>
      cases d2
      cases d1
      obtain ⟨xs, e1, e2⟩ := so.lst_of hm
      refine ⟨_, _, rfl, .inl (SqL.of e1), fun l hl => ?_⟩
      obtain ⟨s2, g2, nl⟩ := so.grow hl e2
      exact nk _ _ _ _ (q l nl) g2 s2 (.raw _)
/-- list(..) of a list of the store, that will not change -/
theorem c_list_mutF (hm : (p, Mc.lst ds) ∈ m) (q : F (.lst ds) m) : OC X (.type "list") [.raw (.ref p)] m F :=
  oc_of call_list_of fun Z H vs Q so da nk => by
    cases da with
    | cons d1 d2 =>
      cases d2
      cases d1
      obtain ⟨xs, e1, e2⟩ := so.lst_of hm
      exact ⟨_, _, rfl, .inl (SqL.of e1), fun l hl => nk _ _ _ m q (Ext.fresh hl) (so.laid hl) (da_new_lst so hl e2)⟩
theorem o_mulL {n : Int} (h0 : -(2 ^ 63) ≤ n) (h1 : n < 2 ^ 63) (hz : ds.length * n.toNat ≤ sizeLine) (q : G (.lst (List.replicate n.toNat ds).flatten)) : O2 X (binaryOp .Mult) (.lst ds) (.int n) m G :=
  o2_of op_rep fun Z H vx vy Q so dx dy nk => by
    cases dx with
    | lst h1' h2 =>
      cases dy
      exact ⟨_, _, _, rfl, rfl, h1'.2, h0, h1, by rw [← h2.length]; exact hz, fun l hl => nk _ _ _ m ⟨rfl, q⟩ (Ext.fresh hl) (so.laid hl) (da_new_lst so hl (h2.flat _))⟩
theorem le_sl_frz {lo hi : Option Expr} {p2 : Pos} (h : LE X a r m (fun d m1 => LO X lo r m1 (fun l m2 => LO X hi r m2 (fun u m3 => ∃ ds, d = .frz ds ∧ F (.lst (cutD ds l u)) m3) E) E) E) : LE X (.Subscript a (.Slice lo hi none p2) pos) r m F E := by
  refine ⟨fun Z st H Q W rp tk nk nx => (pe_slice sl_list pe_w po_w po_w).w ?_⟩
  refine h.run Z st H _ W rp tk (fun v H1 d m1 q go so da => ?_) nx
  refine q.run Z st H1 _ W (rp.go go so) tk (fun l H2 m2 q2 go2 so2 => ?_) (nx.go go)
  refine q2.run Z st H2 _ W (rp.go (go.trans go2) so2) tk (fun u H3 m3 q3 go3 so3 => ?_) (nx.go (go.trans go2))
  obtain ⟨ds, rfl, q3⟩ := q3
  have da3 := da.move (Go.full Z (go2.trans go3))
  cases da3 with
  | frz h1 h2 =>
    exact ⟨_, _, rfl, h1.sq, fun p hp => nk _ _ _ m3 q3 (((go.trans go2).trans go3).trans (Ext.fresh hp)) (so3.laid hp) (da_new_lst so3 hp (cut_da h2 l u))⟩
/-- repr of a list in which lists of the store stand -/
theorem c_reprP (hg : X.A.guards = some []) (hu : X.A.units + 64 < cLine) (hr : RzL m ds es) (h : Sht (.lst es)) (q : F (.str (shows (.lst es))) m) : OC X (.builtin "repr") [.lst ds] m F := by
  refine ⟨fun Z H vs Q so da nk pins s g I us rv => ?_⟩
  cases da with
  | cons d1 d2 =>
    cases d2
    cases rv with
    | cons r1 r2 =>
      cases r2
      cases d1 with
      | lst h1 h2 =>
        cases r1
        exact top_lst I hg hu h1.sq (RzL.da so hr h2) h fun h' u tk hk => ⟨.str _, H, I.kept hk, ⟨_, rfl⟩, nk _ H _ m q Ext.rfl' so (.str _)⟩
theorem o_eqP {x y x' y' : Dt} (hu : X.A.units + 64 < cLine) (rx : Rz m x x') (ry : Rz m y y') (px : plain x' = true) (py' : plain y' = true) (sx : SeqAt.shaped (py x') = true) (sy : SeqAt.shaped (py y') = true) (q : G (.bl (PyData.eqv (py x') (py y')))) : O2 X (compareOp .Eq) x y m G :=
  o2_of (op_eqD hu) fun Z H vx vy Q so dx dy nk => ⟨_, _, (rx.da so dx).dp px, (ry.da so dy).dp py', sx, sy, nk _ H _ m ⟨rfl, q⟩ Ext.rfl' so (.bl _)⟩
theorem o_neP {x y x' y' : Dt} (hu : X.A.units + 64 < cLine) (rx : Rz m x x') (ry : Rz m y y') (px : plain x' = true) (py' : plain y' = true) (sx : SeqAt.shaped (py x') = true) (sy : SeqAt.shaped (py y') = true) (q : G (.bl (!PyData.eqv (py x') (py y')))) : O2 X (compareOp .NotEq) x y m G :=
  o2_of (op_neD hu) fun Z H vx vy Q so dx dy nk => ⟨_, _, (rx.da so dx).dp px, (ry.da so dy).dp py', sx, sy, nk _ H _ m ⟨rfl, q⟩ Ext.rfl' so (.bl _)⟩
/-- while -/
theorem ls_while {body : List Stmt} (gd : Gd k N X) (Iv : Nat → En → Mu → Prop) (h0 : ∃ n, Iv n r m)
    (hs : ∀ n r m, Iv n r m → LT X c r m (fun b m1 => if b = true then LB X body r m1 { nx := fun r2 m2 => ∃ n', n' < n ∧ Iv n' r2 m2, rt := P.rt, bk := P.nx, ct := fun r2 m2 => ∃ n', n' < n ∧ Iv n' r2 m2, ex := P.ex } else P.nx r m1) P.ex) : LS X (.While c body [] pos) r m P := by
  refine ⟨fun Z g H D Wx rp tk np => (ps_while gd.po pt_w pss_w).w ?_⟩
  refine ⟨fun n g2 H2 => ∃ r2 m2, Iv n r2 m2 ∧ Go m H m2 H2 ∧ Rep X.K Z m2 H2 g2 r2, ?_, fun n g2 H2 hw => ?_⟩
  · obtain ⟨n, h⟩ := h0
    exact ⟨n, r, m, h, Ext.rfl', rp⟩
  · obtain ⟨r2, m2, iv, go2, rp2⟩ := hw
    refine (hs n r2 m2 iv).run Z g2 H2 _ Wx rp2 tk (fun b H3 m3 q go3 so3 => ?_) (np.ex.go go2)
    have g3 := go2.trans go3
    cases b with
    | true =>
      have q' : LB X body r2 m3 _ := q
      refine ⟨fun g4 H4 => ∃ n' r4 m4, n' < n ∧ Iv n' r4 m4 ∧ Go m H m4 H4 ∧ Rep X.K Z m4 H4 g4 r4, fun g4 H4 hn => ?_, ?_⟩
      · obtain ⟨n', r4, m4, hlt, iv4, go4, rp4⟩ := hn
        exact ⟨n', hlt, r4, m4, iv4, go4, rp4⟩
      · have nn : NE X.K Z m3 H3 (fun r2 m2 => ∃ n', n' < n ∧ Iv n' r2 m2) (fun g4 H4 => ∃ n' r4 m4, n' < n ∧ Iv n' r4 m4 ∧ Go m H m4 H4 ∧ Rep X.K Z m4 H4 g4 r4) := fun g4 H4 r4 m4 q4 go4 rp4 => by
          obtain ⟨n', hlt, iv4⟩ := q4
          exact ⟨n', r4, m4, hlt, iv4, g3.trans go4, rp4⟩
        exact q'.run Z g2 H3 _ Wx (rp2.go go3 so3) tk ⟨nn, np.rt.go g3, np.nx.go g3, nn, np.ex.go g3⟩
    | false => exact np.nx g2 H3 r2 m3 q g3 (rp2.go go3 so3)
end
/-! ### dicts of written keys -/
def putKd (kvs : List (Key × Dt)) (k : Key) (v : Dt) : List (Key × Dt) :=
  if (kvs.any fun kv => decide (kv.1 = k)) = true then kvs.map (fun kv => if kv.1 = k then (kv.1, v) else kv) else kvs ++ [(k, v)]
def mergeD (kvs more : List (Key × Dt)) : List (Key × Dt) := more.foldl (fun acc kv => putKd acc kv.1 kv.2) kvs
def valD (kvs : List (Key × Dt)) (k : Key) : Option Dt := (kvs.find? fun kv => decide (kv.1 = k)).map (·.2)
section
variable {K : PySem.W.Frag} {D : List Addr} {H : Hp}
theorem DaK.any {k : Key} : ∀ {ks : List (Key × Dt)} {vs : List (Key × V)}, DaK K D H ks vs → (ks.any fun kv => decide (kv.1 = k)) = vs.any fun kv => decide (kv.1 = k)
  | _, _, .nil => rfl
  | _, _, .cons _ h => by rw [List.any_cons, List.any_cons, DaK.any h]
theorem DaK.app : ∀ {ks ks' : List (Key × Dt)} {vs vs' : List (Key × V)}, DaK K D H ks vs → DaK K D H ks' vs' → DaK K D H (ks ++ ks') (vs ++ vs')
  | _, _, _, _, .nil, h => h
  | _, _, _, _, .cons h1 h2, h => .cons h1 (DaK.app h2 h)
theorem DaK.setv {k : Key} {d : Dt} {v : V} (q : Da K D H d v) : ∀ {ks : List (Key × Dt)} {vs : List (Key × V)}, DaK K D H ks vs → DaK K D H (ks.map fun kv => if kv.1 = k then (kv.1, d) else kv) (vs.map fun kv => if kv.1 = k then (kv.1, v) else kv)
  | _, _, .nil => .nil
  | _, _, .cons (k := k') h1 h2 => by
    rw [List.map_cons, List.map_cons]
    by_cases e : k' = k
    · rw [if_pos e, if_pos e]; exact .cons q (DaK.setv q h2)
    · rw [if_neg e, if_neg e]; exact .cons h1 (DaK.setv q h2)
theorem DaK.put {k : Key} {d : Dt} {v : V} (q : Da K D H d v) {ks : List (Key × Dt)} {vs : List (Key × V)} (h : DaK K D H ks vs) : DaK K D H (putKd ks k d) (putK vs k v) := by
  unfold putKd putK
  rw [h.any]
  split
  · exact h.setv q
  · exact h.app (.cons q .nil)
theorem DaK.merge : ∀ {ks' : List (Key × Dt)} {vs' : List (Key × V)}, DaK K D H ks' vs' → ∀ {ks : List (Key × Dt)} {vs : List (Key × V)}, DaK K D H ks vs → DaK K D H (mergeD ks ks') (mergeK vs vs')
  | _, _, .nil, _, _, h => h
  | _, _, .cons h1 h2, _, _, h => DaK.merge h2 (DaK.put h1 h)
theorem DaK.val {k : Key} : ∀ {ks : List (Key × Dt)} {vs : List (Key × V)} {d : Dt}, DaK K D H ks vs → valD ks k = some d → ∃ v, valV vs k = some v ∧ Da K D H d v
  | _, _, _, .nil, e => by cases e
  | (k', d') :: ks, (_, v') :: vs, d, .cons h1 h2, e => by
    unfold valD at e
    unfold valV
    rw [List.find?_cons] at e ⊢
    by_cases hk : k' = k
    · simp only [hk, decide_true] at e ⊢
      cases e
      exact ⟨v', rfl, h1⟩
    · simp only [hk, decide_false] at e ⊢
      exact DaK.val (ks := ks) (vs := vs) h2 e
theorem DaK.length : ∀ {ks : List (Key × Dt)} {vs : List (Key × V)}, DaK K D H ks vs → ks.length = vs.length
  | _, _, .nil => rfl
  | _, _, .cons _ h => by rw [List.length_cons, List.length_cons, DaK.length h]
end
/-- written keys and their values' expressions -/
inductive Dk : List (Option Expr) → List Expr → List (Str × Expr) → Prop
  | nil : Dk [] [] []
  | cons {k : Str} {j : Nat} {p : Pos} {v : Expr} {ks : List (Option Expr)} {vs : List Expr} {es : List (Str × Expr)} : Dk ks vs es → Dk (some (.Constant (.str k) j p) :: ks) (v :: vs) ((k, v) :: es)
def LP (X : Cx) (r : En) : List (Str × Expr) → Mu → (List (Key × Dt) → Mu → Prop) → Xd → Prop
  | [], m, F, _ => F [] m
  | (k, e) :: es, m, F, E => LE X e r m (fun d m1 => LP X r es m1 (fun kvs m2 => F ((.inr k, d) :: kvs) m2) E) E
section
variable {X : Cx} {r : En} {E : Xd} {pos : Pos} {k : Nat} {N : List Str}
theorem Dk.run {keys : List (Option Expr)} {vals : List Expr} {es : List (Str × Expr)} (h : Dk keys vals es) : ∃ trs, PPs X pos keys vals trs ∧ ∀ (Z : List Addr) (g : L2.St) (Wx : WX), Takes X Wx →
    ∀ (m : Mu) (H : Hp) (F : List (Key × Dt) → Mu → Prop) (Q : List (V × V) → Hp → Prop), LP X r es m F E → Rep X.K Z m H g r → NX X.K Z m H E Wx →
      (∀ kvs vs m' H', F kvs m' → Go m H m' H' → So X.K Z m' H' → DaK X.K (Z ++ dom m') H' kvs vs → Q (vs.map fun kv => (kV kv.1, kv.2)) H') → tPairs trs g H Q := by
  induction h with
  | nil => exact ⟨[], pps_nil, fun Z g Wx tk m H F Q h rp nx hq => hq [] [] m H h Ext.rfl' rp.so .nil⟩
  | @cons k j p v ks vs es _ ih =>
    obtain ⟨trs, hp, hr⟩ := ih
    refine ⟨_, pps_cons pe_str (pe_w (X := X) (e := v)) hp, fun Z g Wx tk m H F Q h rp nx hq => ?_⟩
    show wE X v g H _
    have h' : LE X v r m (fun d m1 => LP X r es m1 (fun kvs m2 => F ((.inr k, d) :: kvs) m2) E) E := h
    refine h'.run Z g H _ Wx rp tk (fun u H1 d m1 q go so da => ?_) nx
    refine hr Z g Wx tk m1 H1 _ _ q (rp.go go so) (nx.go go) fun kvs us m' H' f go2 so2 dk => ?_
    exact hq ((.inr k, d) :: kvs) ((.inr k, u) :: us) m' H' f (go.trans go2) so2 (.cons (da.move (go2.full Z)) dk)
theorem le_dct {keys : List (Option Expr)} {vals : List Expr} {es : List (Str × Expr)} {m : Mu} {F : Pd} (hk : Dk keys vals es) (h : LP X r es m (fun kvs m1 => kvs.length ≤ 15 ∧ F (.dct (mergeD [] kvs)) m1) E)
    (hall : keys.all (·.isSome) = true := by rfl) (hl : keys.length = vals.length := by rfl) (h0 : keys ≠ [] := by exact fun z => nomatch z) (h15 : keys.length ≤ 15 := by decide) : LE X (.Dict keys vals pos) r m F E := by
  refine ⟨fun Z g H Q Wx rp tk nk nx => ?_⟩
  obtain ⟨trs, hp, hr⟩ := hk.run (X := X) (r := r) (E := E) (pos := pos)
  refine (pe_lk (pe_disp hp hall hl h0 h15)).w fun p hpn => ?_
  have hz : ∀ a ∈ p :: Z, a ∈ Z ∨ H a = none := fun a ha => by
    rcases List.mem_cons.mp ha with z | z
    · exact .inr (z ▸ hpn)
    · exact .inl z
  have go0 : Go m H m (upd H p (.dK [])) := Ext.fresh hpn
  have s0 := rp.so.hides (o := .dK []) hpn
  have rp0 : Rep X.K (p :: Z) m (upd H p (.dK [])) g r := ⟨s0, rp.len, fun i d e => by
    obtain ⟨v, h1, h2⟩ := rp.at' i d e
    exact ⟨v, h1, h2.move (Go.hide go0 hz)⟩⟩
  refine hr (p :: Z) g Wx tk m _ _ _ h rp0 (fun cls dx fs vs g' H' r' m' q go rp2 nd e1 e2 => ?_) (fun kvs vs m' H' f go2 so2 dk => ?_)
  · refine nx cls dx fs vs g' H' r' m' q (go0.trans go) ⟨rp2.so.drop, rp2.len, fun i d e => ?_⟩ (fun z => nd ?_) e1 (e2.move ?_)
    · obtain ⟨v, h1, h2⟩ := rp2.at' i d e
      exact ⟨v, h1, h2.move ⟨fun _ _ _ e => e, fun a ha => .inl (by
        rcases List.mem_append.mp ha with z | z
        · exact List.mem_append_left _ (List.mem_cons_of_mem _ z)
        · exact List.mem_append_right _ z)⟩⟩
    · rcases List.mem_append.mp z with z | z
      · exact List.mem_append_left _ (List.mem_cons_of_mem _ z)
      · exact List.mem_append_right _ z
    · exact ⟨fun _ _ _ e => e, fun a ha => .inl (by
        rcases List.mem_append.mp ha with z | z
        · exact List.mem_append_left _ (List.mem_cons_of_mem _ z)
        · exact List.mem_append_right _ z)⟩
  · have np : p ∉ dom m := fun z => rp.so.there (List.mem_append_right _ z) hpn
    have np2 : p ∉ dom m' := so2.dj p List.mem_cons_self
    refine ⟨go2.keep p _ np upd_same, vs, rfl, by rw [← dk.length]; exact f.1, p, _, rfl, upd_same, trivial, fun od => ?_⟩
    rw [upd_upd]
    obtain ⟨s6, x6⟩ := so2.hid (o := .frz od (.dK (mergeK [] vs)))
    have g3 : Go m H m' (upd H' p (.frz od (.dK (mergeK [] vs)))) := by
      refine ⟨fun a o n e => ?_, (go0.trans go2).new⟩
      rw [upd_ne (ne_of_none e hpn)]
      exact (go0.trans go2).keep a o n e
    have hd : DaK X.K ((p :: Z) ++ dom m') H' (mergeD [] kvs) (mergeK [] vs) := DaK.merge dk .nil
    refine nk _ _ _ m' f.2 g3 s6.drop (.dct (fun z => ?_) upd_same ((hd.move x6).move ⟨fun _ _ _ e => e, fun a ha => .inl ?_⟩))
    · rcases List.mem_append.mp z with z | z
      · exact (rp.so.zs p z).1 hpn
      · exact np2 z
    · rcases List.mem_append.mp ha with z | z
      · exact List.mem_append_left _ (List.mem_cons_of_mem _ z)
      · exact List.mem_append_right _ z
/-- d[k], k a text -/
theorem le_dget {o i : Expr} {m : Mu} {F : Pd} (gd : Gd k N X) (h : LE X o r m (fun x m1 => LE X i r m1 (fun y m2 => ∃ kvs z d, x = .dct kvs ∧ y = .str z ∧ valD kvs (.inr z) = some d ∧ F d m2) E) E) (hs : NoSl i := by intro _ _; rfl) : LE X (.Subscript o i pos) r m F E := by
  refine ⟨fun Z st H Q W rp tk nk nx => (pe_dget gd.hu pe_w pe_w hs).w ?_⟩
  refine h.run Z st H _ W rp tk (fun v H1 d m1 q go so da => ?_) nx
  refine q.run Z st H1 _ W (rp.go go so) tk (fun v2 H2 d2 m2 q2 go2 so2 da2 => ?_) (nx.go go)
  obtain ⟨kvs, z, d', rfl, rfl, hv, q2⟩ := q2
  have da1 := da.move (go2.full Z)
  cases da2
  cases da1 with
  | dct n h1 h2 =>
    obtain ⟨v', e1, e2⟩ := h2.val hv
    exact ⟨_, v', rfl, by rw [← e1]; exact .inl ⟨_, .inr z, .inr ⟨_, h1⟩, rfl, rfl⟩, nk v' H2 d' m2 q2 (go.trans go2) so2 e2⟩
end
end Dw
namespace Dw
open PySem PySem.Spec PyProof.Rows L2
theorem inV_str {x : Str} : ∀ ys : List Str, inV (.str x) (ys.map V.str) = decide (x ∈ ys)
  | [] => by simp [inV]
  | y :: ys => by
    have := inV_str (x := x) ys
    unfold inV at this ⊢
    rw [List.map_cons, List.any_cons, this]
    by_cases e : y = x
    · subst e; simp [eqV]
    · have e' : ¬ x = y := fun z => e z.symm
      simp [eqV, e, e']
theorem flat_strs (ys : List Str) : (ys.map V.str).all flatV = true := by simp [flatV]
section
variable {X : Cx} {r : En} {m : Mu} {G : Dt → Prop} {F : Pd} {E : Xd} {P : Pc} {pos : Pos} {k : Nat} {N : List Str}
theorem o_inT {x : Str} {ys : List Str} (q : G (.bl (decide (x ∈ ys)))) : O2 X (compareOp .In) (.str x) (.tup (ys.map Dt.str)) m G :=
  o2_of op_in_seq fun Z H vx vy Q so dx dy nk => by
    cases dx
    cases dy with
    | tup h1 h2 =>
      have e := strs_da h2
      subst e
      refine ⟨_, _, rfl, .inr h1.sq, rfl, flat_strs ys, nk _ H _ m ⟨rfl, ?_⟩ Ext.rfl' so (.bl _)⟩
      simp only [Bool.false_eq_true, if_false]
      rw [inV_str]; exact q
theorem o_notInT {x : Str} {ys : List Str} (q : G (.bl (!decide (x ∈ ys)))) : O2 X (compareOp .NotIn) (.str x) (.tup (ys.map Dt.str)) m G :=
  o2_of op_notIn_seq fun Z H vx vy Q so dx dy nk => by
    cases dx
    cases dy with
    | tup h1 h2 =>
      have e := strs_da h2
      subst e
      refine ⟨_, _, rfl, .inr h1.sq, rfl, flat_strs ys, nk _ H _ m ⟨rfl, ?_⟩ Ext.rfl' so (.bl _)⟩
      simp only [if_true]
      rw [inV_str]; exact q
theorem o_inL {x : Str} {ys : List Str} (q : G (.bl (decide (x ∈ ys)))) : O2 X (compareOp .In) (.str x) (.lst (ys.map Dt.str)) m G :=
  o2_of op_in_seq fun Z H vx vy Q so dx dy nk => by
    cases dx
    cases dy with
    | lst h1 h2 =>
      have e := strs_da h2
      subst e
      refine ⟨_, _, rfl, .inl h1.sq, rfl, flat_strs ys, nk _ H _ m ⟨rfl, ?_⟩ Ext.rfl' so (.bl _)⟩
      simp only [Bool.false_eq_true, if_false]
      rw [inV_str]; exact q
theorem o_notInL {x : Str} {ys : List Str} (q : G (.bl (!decide (x ∈ ys)))) : O2 X (compareOp .NotIn) (.str x) (.lst (ys.map Dt.str)) m G :=
  o2_of op_notIn_seq fun Z H vx vy Q so dx dy nk => by
    cases dx
    cases dy with
    | lst h1 h2 =>
      have e := strs_da h2
      subst e
      refine ⟨_, _, rfl, .inl h1.sq, rfl, flat_strs ys, nk _ H _ m ⟨rfl, ?_⟩ Ext.rfl' so (.bl _)⟩
      simp only [if_true]
      rw [inV_str]; exact q
/-- a module's tuple of texts -/
structure TupK (K : PySem.W.Frag) (t : Addr) (ys : List Str) : Prop where
  sq : SqT K H0 t (ys.map V.str)
theorem strs_dl {K : PySem.W.Frag} {D : List Addr} {H : Hp} : ∀ ys : List Str, DaL K D H (ys.map Dt.str) (ys.map V.str)
  | [] => .nil
  | y :: ys => .cons (.str y) (strs_dl ys)
theorem le_globT {x : Str} {t : Addr} {ys : List Str} (hm : X.mg x = some (.ref t)) (T : TupK X.K t ys) (q : F (.tup (ys.map Dt.str)) m) (hg : Gl X x := by rfl) (hdb : (x == ("__debug__" : Str)) = false := by decide) : LE X (.Name x pos) r m F E :=
  le_glob (v := .ref t) (d := .tup (ys.map Dt.str)) hm rfl (fun _ _ => .tup (.inr T.sq) (strs_dl ys)) q hg hdb
theorem ls_par3 {x y z : Str} {a b c : Expr} {px py pz pt pt2 : Pos} {kt k2 : Nat} {f : Dt → En} {g : Dt → Dt → En} {h3 : Dt → Dt → Dt → En} (gd : Gd k N X) (hp : Put N r x f) (hq : ∀ d, Put N (f d) y (g d)) (hr : ∀ d e, Put N (g d e) z (h3 d e))
    (h : LA X [a, b, c] r m (fun ds m1 => ∃ d1 d2 d3, ds = [d1, d2, d3] ∧ P.nx (h3 d1 d2 d3) m1) P.ex)
    (hxy : x ≠ y := by decide) (hxz : x ≠ z := by decide) (hyz : y ≠ z := by decide) (hx : X.env.scope.names.lookup x = some .local := by rfl) (hy : X.env.scope.names.lookup y = some .local := by rfl) (hz : X.env.scope.names.lookup z = some .local := by rfl)
    (hw : swappedStores [.Tuple [.Name x px, .Name y py, .Name z pz] kt pt] (.Tuple [a, b, c] k2 pt2) X.env = pure (some [x, y, z]) := by rfl) (hs : swapsWithSole [.Tuple [.Name x px, .Name y py, .Name z pz] kt pt] (.Tuple [a, b, c] k2 pt2) pos.line X.env = pure false := by rfl) :
    LS X (.Assign [.Tuple [.Name x px, .Name y py, .Name z pz] kt pt] (.Tuple [a, b, c] k2 pt2) pos) r m P := by
  obtain ⟨i, hi, hr1⟩ := hp.ix
  obtain ⟨j, hj, _⟩ := (hq .non).ix
  obtain ⟨l, hl, _⟩ := (hr .non .non).ix
  have hij : i ≠ j := fun w => hxy (Option.some.inj (hi.symm.trans (w ▸ hj)))
  have hil : i ≠ l := fun w => hxz (Option.some.inj (hi.symm.trans (w ▸ hl)))
  have hjl : j ≠ l := fun w => hyz (Option.some.inj (hj.symm.trans (w ▸ hl)))
  refine ⟨fun Z g' H D W rp tk np => (ps_par3 gd.calm gd.nd' (by rw [gd.hN]; exact hi) (by rw [gd.hN]; exact hj) (by rw [gd.hN]; exact hl) hij hil hjl hx hy hz pa_w hw hs).w (h.run Z g' H _ W rp tk (fun vs H1 ds m1 q go so da => ?_) np.ex)⟩
  obtain ⟨d1, d2, d3, rfl, q⟩ := q
  cases da with
  | cons h1 h2 =>
    cases h2 with
    | cons h2 h3' =>
      cases h3' with
      | cons h3' h4 =>
        cases h4
        refine ⟨_, _, _, rfl, ?_⟩
        obtain ⟨j2, hj2, hr2⟩ := (hq d1).ix
        have ej : j = j2 := nodup_ix gd.nd hj hj2
        subst ej
        obtain ⟨l2, hl2, hr3⟩ := (hr d1 d2).ix
        have el : l = l2 := nodup_ix gd.nd hl hl2
        subst el
        rw [hr3 d3, hr2 d2, hr1 d1] at q
        exact np.nx _ H1 _ m1 q go ((((rp.go go so).set i h1).set j h2).set l h3')
end
end Dw
namespace Dw
open PySem PySem.Spec PyProof.Rows L2
/-! ### min of a list by a built-in key: the first of the least -/
def Kp (g h : Heap) : Prop := ∀ b o, g.get? b = some o → h.get? b = some o
theorem Kp.lt {g : Heap} {b : Addr} {o : Obj} (h : g.get? b = some o) : b < g.objs.size := Heap.lt_size h
theorem Kp.upd {g h : Heap} {S : Addr} {f : Obj → Obj} (k : Kp g h) (hS : g.objs.size ≤ S) : Kp g (h.update S f) := fun b o e => by
  have s1 := Heap.SameBut.update h S f
  have hne : b ≠ S := Nat.ne_of_lt (Nat.lt_of_lt_of_le (Heap.lt_size e) hS)
  exact (s1.2 b hne).trans (k b o e)
theorem Kp.but {g h h' : Heap} {I : Addr} (k : Kp g h) (hI : g.objs.size ≤ I) (hk : ∀ b o, b ∉ [I] → h.get? b = some o → h'.get? b = some o) : Kp g h' := fun b o e =>
  hk b o (fun q => Nat.ne_of_lt (Nat.lt_of_lt_of_le (Heap.lt_size e) hI) (List.mem_singleton.mp q)) (k b o e)
theorem Kp.isList {g h : Heap} {l : Addr} {xs : Array Value} (k : Kp g h) (hl : g.IsList l xs) : h.IsList l xs := by
  obtain ⟨o, h1, h2⟩ := hl
  exact ⟨o, k _ _ h1, h2⟩
section
variable {prog : Program} {w : World} {A : Around} {E : Value → Shared → Prop} {s : Shared} {g : Heap} {l I S : Addr} {kid : String} {vs : List Value} {R : Result → Shared → Prop} {Q : Value → Shared → Prop}
def KTurn (prog : Program) (w : World) (A : Around) (s : Shared) (kid : String) (vs : List Value) (kf : Nat → Int) : Prop :=
  ∀ (i : Nat) (v : Value), vs[i]? = some v → ∀ (h : Heap) (tk : Nat), wpAny (model prog w) A.in1 (call (.builtin kid) [v])
    (fun x s' => ∃ t tk', x = .int (kf i) t ∧ s' = { s with heap := h, toks := tk' }) (fun _ _ => False) { s with heap := h, toks := tk }
theorem km_loop (kf : Nat → Int) (hh : A.handled = none) (hl : g.IsList l vs.toArray) (hI : g.objs.size ≤ I) (hS : g.objs.size ≤ S) (hSI : S ≠ I) (turn : KTurn prog w A s kid vs kf)
    (hR : ∀ i v h' tk', vs[i]? = some v → (∀ j, j < vs.length → kf i ≤ kf j ∧ (j < i → kf i < kf j)) → Kp g h' → R (.ok (.ret v)) { s with heap := h', toks := tk' }) :
    ∀ (r j i : Nat) (h : Heap) (tk : Nat) (vb : Value) (tb : Tok) (c : Nat), vs.length - (j + 1) = r → j + 1 ≤ vs.length → Kp g h → h.get? S = some (seqObj "list" #[vb, .int (kf i) tb] c) → h.IsListIter I l (j + 1) →
      vs[i]? = some vb → i ≤ j → (∀ j', j' ≤ j → kf i ≤ kf j' ∧ (j' < i → kf i < kf j')) → codeAny (model prog w) A (.builtin "min.loop" ⟨[.ref I, .builtin kid, .ref S], []⟩) R { s with heap := h, toks := tk } := by
  have nm : (toString "min" ++ toString ".loop" : String) = "min.loop" := by decide
  have hlI : l ≠ I := by
    obtain ⟨o, h1, _⟩ := id hl
    exact Nat.ne_of_lt (Nat.lt_of_lt_of_le (Heap.lt_size h1) hI)
  have Wk := Walks.list (prog := prog) (w := w) (A := A.in1) hh I l hlI vs.toArray
  have sz : vs.toArray.size = vs.length := List.size_toArray ..
  intro r
  induction r with
  | zero =>
    intro j i h tk vb tb c hr hj kp gS hit hvb hij best
    have last : j + 1 = vs.length := by omega
    refine codeAny_builtin PySem.F.entry_min_loop ?_
    rw [Around.under_plainId PySem.F.plain_min_loop _]
    show wpAny _ A.in1 (seqItems? (.ref S) >>= _) _ _ _
    refine wpAny_bind (wpAny_seqItems gS rfl ?_)
    show wpAny _ A.in1 (tryCatch (pyNext (.ref I)) _ >>= _) _ _ _
    refine wpAny_bind (wpAny_tryCatch (Wk.done _ _ _ ⟨by rw [sz, ← last]; exact hit, kp.isList hl⟩ fun h' tk' hk' => ?_))
    have gS' := hk' S _ (by simpa using hSI) gS
    show wpAny _ A.in1 (updateSeq S (fun _ => #[]) >>= _) _ _ _
    refine wpAny_bind (wpAny_updateSeq gS' rfl (wpAny_bind (wpAny_letGo (wpAny_pure ?_))))
    exact hR i vb _ _ hvb (fun j' hj' => best j' (by omega)) ((kp.but hI hk').upd hS)
  | succ r ih =>
    intro j i h tk vb tb c hr hj kp gS hit hvb hij best
    have more : j + 1 < vs.length := by omega
    refine codeAny_builtin PySem.F.entry_min_loop ?_
    rw [Around.under_plainId PySem.F.plain_min_loop _]
    show wpAny _ A.in1 (seqItems? (.ref S) >>= _) _ _ _
    refine wpAny_bind (wpAny_seqItems gS rfl ?_)
    show wpAny _ A.in1 (tryCatch (pyNext (.ref I)) _ >>= _) _ _ _
    refine wpAny_bind (wpAny_tryCatch (Wk.item (j + 1) _ _ _ (by rw [sz]; exact more) ⟨hit, kp.isList hl⟩ fun v h' tk' hP hst' hk' => ?_))
    have hv : vs[j + 1]? = some v := by simpa using hP
    have kp' := kp.but hI hk'
    have gS' := hk' S _ (by simpa using hSI) gS
    show wpAny _ A.in1 (tryCatch (holding [v] (call (.builtin kid) [v])) _ >>= _) _ _ _
    refine wpAny_bind (wpAny_tryCatch (wpAny_holding (wpAny_mono (turn (j + 1) v hv h' tk') (fun x s'' he => ?_) fun _ _ no => no.elim)))
    obtain ⟨t2, tk2, rfl, rfl⟩ := he
    show wpAny _ A.in1 (tryCatch (holding [v, .int (kf (j + 1)) t2] (richCompare .Lt (.int (kf (j + 1)) t2) (.int (kf i) tb) >>= _)) _ >>= _) _ _ _
    refine wpAny_bind (wpAny_tryCatch (wpAny_holding (wpAny_bind (CmpOf.ints_lt (prog := prog) (w := w) (A := A.in1) (P := fun i v => ∃ t, v = .int (kf i) t) kf (fun i v h => h) (j + 1) i _ _ _ _ _ ⟨t2, rfl⟩ ⟨tb, rfl⟩ ?_))))
    refine wpAny_bind (wpAny_holding (wpAny_truthy_bool ?_))
    refine wpAny_bind (wpAny_letGo (wpAny_pure ?_))
    by_cases lt : kf (j + 1) < kf i
    · have s1 := Heap.SameBut.update h' S (Obj.mapSeq fun _ => #[v, .int (kf (j + 1)) t2])
      obtain ⟨c2, hc2⟩ : ∃ c2, (h'.update S (Obj.mapSeq fun _ => #[v, .int (kf (j + 1)) t2])).get? S = some (seqObj "list" #[v, .int (kf (j + 1)) t2] c2) := ⟨_, get?_update_seq gS' fun _ => #[v, .int (kf (j + 1)) t2]⟩
      simp only [lt, decide_true, if_true]
      refine wpAny_bind (wpAny_updateSeq gS' rfl (wpAny_bind (wpAny_letGo ?_)))
      rw [nm]
      obtain ⟨oI, k1, k2⟩ := hst'.1
      refine wpAny_pure ⟨plainId_quiet PySem.F.plain_min_loop _, ih (j + 1) (j + 1) _ _ v t2 c2 (by omega) more (kp'.upd hS) hc2 ⟨oI, (s1.2 I hSI.symm).trans k1, k2⟩ hv (Nat.le_refl _) fun j' hj' => ?_⟩
      by_cases e : j' = j + 1
      · subst e
        exact ⟨by omega, fun _ => by omega⟩
      · have b1 := (best j' (by omega)).1
        exact ⟨by omega, fun _ => by omega⟩
    · simp only [lt, decide_false, Bool.false_eq_true, if_false]
      refine wpAny_bind (wpAny_letGo ?_)
      rw [nm]
      refine wpAny_pure ⟨plainId_quiet PySem.F.plain_min_loop _, ih (j + 1) i _ _ vb tb c (by omega) more kp' gS' hst'.1 hvb (by omega) fun j' hj' => ?_⟩
      by_cases e : j' = j + 1
      · subst e
        exact ⟨by omega, fun _ => by omega⟩
      · exact best j' (by omega)
theorem km_min (kf : Nat → Int) (hh : A.handled = none) (hl : s.heap.IsList l vs.toArray) (hne : 0 < vs.length) (turn : KTurn prog w A s kid vs kf)
    (hQ : ∀ i v h' tk', vs[i]? = some v → (∀ j, j < vs.length → kf i ≤ kf j ∧ (j < i → kf i < kf j)) → Kp s.heap h' → Q v { s with heap := h', toks := tk' }) :
    wpAny (model prog w) A (call (.builtin "min") [.ref l] [(Str.ofString "key", .builtin kid)]) Q E s := by
  have nm : (toString "min" ++ toString ".loop" : String) = "min.loop" := by decide
  refine kmb_tree PySem.F.kind_min PySem.F.plain_min PySem.F.entry_min (kmb_min_key _ _) ?_
  show wpAny _ A.in1 (Builtin.Builtins.bindParams "min" ["key", "default"] 0 ⟨[], [(Str.ofString "key", .builtin kid)]⟩ >>= _) _ _ s
  refine wpAny_bind (wpAny_of_eq (show Builtin.Builtins.bindParams "min" ["key", "default"] 0 ⟨[], [(Str.ofString "key", .builtin kid)]⟩ = pure [some (.builtin kid), none] from rfl) ?_)
  refine wpAny_bind (wpAny_pure (wpAny_bind (wpAny_pyIter_list hl (wpAny_bind (wpAny_newList ?_ (Nat.zero_le _))))))
  rw [nm]
  generalize ho : ({ cls := .type "list_iterator", data := .fields #[.ref l, .int 0 0] } : Obj) = oi
  have z1 : (s.heap.push oi).objs.size = s.heap.objs.size + 1 := size_push' ..
  have ne : (s.heap.push oi).objs.size ≠ s.heap.objs.size := by rw [z1]; exact Nat.ne_of_gt (Nat.lt_succ_self _)
  have kp : Kp s.heap ((s.heap.push oi).push (seqObj "list" #[] 0)) := fun b o e => Heap.get?_push_of_some _ (Heap.get?_push_of_some _ e)
  have gI : ((s.heap.push oi).push (seqObj "list" #[] 0)).get? s.heap.objs.size = some oi := Heap.get?_push_of_some _ (Heap.get?_push_size _ (by rw [← ho]; rfl))
  have gS : ((s.heap.push oi).push (seqObj "list" #[] 0)).get? (s.heap.push oi).objs.size = some (seqObj "list" #[] 0) := Heap.get?_push_size _ rfl
  have bS : s.heap.objs.size ≤ (s.heap.push oi).objs.size := by rw [z1]; exact Nat.le_succ _
  have hlI : l ≠ s.heap.objs.size := by
    obtain ⟨o, h1, _⟩ := id hl
    exact Nat.ne_of_lt (Heap.lt_size h1)
  have Wk := Walks.list (prog := prog) (w := w) (A := A.in1) hh s.heap.objs.size l hlI vs.toArray
  have sz : vs.toArray.size = vs.length := List.size_toArray ..
  refine wpAny_pure ⟨plainId_quiet PySem.F.plain_min_loop _, ?_⟩
  refine codeAny_builtin PySem.F.entry_min_loop ?_
  rw [Around.under_plainId PySem.F.plain_min_loop _]
  show wpAny _ A.in1 (seqItems? (.ref _) >>= _) _ _ _
  refine wpAny_bind (wpAny_seqItems gS rfl ?_)
  show wpAny _ A.in1 (tryCatch (pyNext (.ref s.heap.objs.size)) _ >>= _) _ _ _
  refine wpAny_bind (wpAny_tryCatch (Wk.item 0 _ _ _ (by rw [sz]; exact hne) ⟨⟨_, gI, by rw [← ho], by rw [← ho]; rfl⟩, kp.isList hl⟩ fun v h' tk' hP hst' hk' => ?_))
  have hv : vs[0]? = some v := by simpa using hP
  have kp' := kp.but (Nat.le_refl _) hk'
  have gS' := hk' _ _ (by simpa using ne) gS
  show wpAny _ A.in1 (tryCatch (holding [v] (call (.builtin kid) [v])) _ >>= _) _ _ _
  refine wpAny_bind (wpAny_tryCatch (wpAny_holding (wpAny_mono (turn 0 v hv h' tk') (fun x s'' he => ?_) fun _ _ no => no.elim)))
  obtain ⟨t2, tk2, rfl, rfl⟩ := he
  have s1 := Heap.SameBut.update h' (s.heap.push oi).objs.size (Obj.mapSeq fun _ => #[v, .int (kf 0) t2])
  obtain ⟨c2, hc2⟩ : ∃ c2, (h'.update (s.heap.push oi).objs.size (Obj.mapSeq fun _ => #[v, .int (kf 0) t2])).get? (s.heap.push oi).objs.size = some (seqObj "list" #[v, .int (kf 0) t2] c2) := ⟨_, get?_update_seq gS' fun _ => #[v, .int (kf 0) t2]⟩
  show wpAny _ A.in1 (updateSeq (s.heap.push oi).objs.size (fun _ => #[v, .int (kf 0) t2]) >>= _) _ _ _
  refine wpAny_bind (wpAny_updateSeq gS' rfl ?_)
  rw [nm]
  obtain ⟨oI, k1, k2⟩ := hst'.1
  refine wpAny_pure ⟨plainId_quiet PySem.F.plain_min_loop _, km_loop kf hh hl (Nat.le_refl _) bS ne turn hQ _ 0 0 _ _ v t2 c2 rfl hne (kp'.upd bS) hc2 ⟨oI, (s1.2 _ ne.symm).trans k1, k2⟩ hv (Nat.le_refl _) fun j' hj' => ?_⟩
  have e : j' = 0 := by omega
  subst e
  exact ⟨by omega, fun h => absurd h (Nat.lt_irrefl _)⟩
end
end Dw
namespace Dw
open PySem PySem.Spec PyProof.Rows L2
/-! ### min(texts, key=len) -/
def rMinLen (K : PySem.W.Frag) : List V → Hp → VK → Prop := fun vs H Q => ∃ (a : Addr) (xs : List Str), vs = [V.ref a] ∧ SqL K H a (xs.map V.str) ∧ 0 < xs.length ∧ (∀ x ∈ xs, x.length ≤ sizeLine) ∧
  ∀ (i : Nat) (x : Str), xs[i]? = some x → (∀ j y, xs[j]? = some y → x.length ≤ y.length ∧ (j < i → x.length < y.length)) → Q (.str x) H
theorem prd_str : ∀ (its : List Value) (xs : List Str), Vals (xs.map V.str) its → ∀ (i : Nat) (v : Value), its[i]? = some v → ∃ x t, xs[i]? = some x ∧ v = Value.str x t
  | [], _, _, i, v, h => by simp at h
  | u :: us, [], r, i, v, h => by cases r
  | u :: us, x :: xs, r, i, v, h => by
    cases r with
    | cons r1 r2 =>
      cases i with
      | zero =>
        obtain ⟨t, e⟩ := r1
        have e2 : some u = some v := h
        cases e2
        exact ⟨x, t, rfl, e⟩
      | succ i => exact prd_str us xs r2 i v h
section
variable {X : Cx} {p p2 pos kpos : Pos} {e : Expr} {t : TA}
theorem cr_minLen (hc : X.calm = true) {pins : List (Addr × Obj)} {s : Shared} {σ : L2.St} {H : Hp} {vs : List V} {us : List Value} {Q : VK} (I : Inv X pins σ H s) (r : Vals vs us) (h : rMinLen X.K vs H Q) :
    wpAny (model X.prog X.w) X.A (call (.builtin "min") us [(Str.ofString "key", .builtin "len")]) (EP X pins σ Q) X.xe s := by
  obtain ⟨a, xs, rfl, hs, hne, hz, q⟩ := h
  obtain ⟨its, rv, hl, _⟩ := I.list hs
  obtain rfl := Vals.ref1 r
  have hlen : its.length = xs.length := by rw [← rv.length, List.length_map]
  have at_ : ∀ (i : Nat) (v : Value), its[i]? = some v → ∃ x t, xs[i]? = some x ∧ v = Value.str x t := fun i v hv => by
    exact prd_str its xs rv i v hv
  have hn := line63
  refine km_min (fun i => ((xs.getD i default).length : Int)) (I.ok.hd hc) hl.isList (by omega) (fun i v hv h tk => ?_) fun i v h' tk' hv hb kp => ?_
  · obtain ⟨x, t, hx, rfl⟩ := at_ i v hv
    have hm := hz x (List.mem_of_getElem? hx)
    have e : xs.getD i default = x := by simp [hx]
    dsimp only
    rw [e]
    exact len_str (by omega) ⟨_, _, rfl, rfl⟩
  · obtain ⟨x, t, hx, rfl⟩ := at_ i v hv
    have e : xs.getD i default = x := by simp [hx]
    refine ⟨.str x, H, I.kept kp, ⟨_, rfl⟩, q i x hx fun j y hy => ?_⟩
    have hj := hb j (by have := (List.getElem?_eq_some_iff.mp hy).1; omega)
    have e2 : xs.getD j default = y := by simp [hy]
    rw [e, e2] at hj
    exact ⟨by omega, fun g => by have := hj.2 g; omega⟩
theorem pe_minLen (hc : X.calm = true) (hg : Gl X "min") (hm : X.mg "min" = none) (hv : bootBuiltins "min" = some (.builtin "min")) (hg2 : Gl X "len") (hm2 : X.mg "len" = none) (hv2 : bootBuiltins "len" = some (.builtin "len")) (ha : PA X [e] t)
    (he : backTo pos (starEach [e] X.env) = (false, eval e X.env) :: backTo pos (starEach [] X.env) := by rfl) (hpl : (backTo pos (starEach [e] X.env)).any (·.1) = false := by rfl) :
    PE X (.Call (.Name "min" p) [e] [⟨some "key", .Name "len" p2, kpos⟩] pos) (fun σ H Q => t σ H fun vs H1 => rMinLen X.K vs H1 Q) := by
  refine ⟨fun pins s σ H Q I h => wpAny_Call_Name_kw (ld_blt I hg hm hv ?_)⟩
  refine PyProof.Rows.callWith_kw (thn (ha.run pos pins s σ H _ I h) fun us s1 ⟨vs, H1, I1, r1, q1⟩ => ?_) he hpl rfl rfl
  show wpAny _ _ (evalAll ((do let v ← eval (.Name "len" p2) X.env; standAt pos; pure v) :: [])) _ _ s1
  refine wpAny_evalAll_cons (wpAny_bind (ld_blt I1 hg2 hm2 hv2 (wpAny_bind (wpAny_standAt (wpAny_pure (wpAny_evalAll_nil ?_))))))
  exact cr_minLen hc I1 r1 q1
/-- min(texts of the store, key=len): the first of the shortest -/
theorem le_minLen {r : En} {m : Mu} {F : Pd} {E : Xd} {k : Nat} {N : List Str} (gd : Gd k N X) (hm : X.mg "min" = none) (hm2 : X.mg "len" = none) (h : LE X e r m (fun d m1 => ∃ (a : Addr) (xs : List Str), d = .raw (.ref a) ∧ (a, Mc.lst (xs.map Dt.str)) ∈ m1 ∧ 0 < xs.length ∧ (∀ x ∈ xs, x.length ≤ sizeLine) ∧
      ∀ (i : Nat) (x : Str), xs[i]? = some x → (∀ j y, xs[j]? = some y → x.length ≤ y.length ∧ (j < i → x.length < y.length)) → F (.str x) m1) E) (hg : Gl X "min" := by rfl) (hg2 : Gl X "len" := by rfl)
    (he : backTo pos (starEach [e] X.env) = (false, eval e X.env) :: backTo pos (starEach [] X.env) := by rfl) (hpl : (backTo pos (starEach [e] X.env)).any (·.1) = false := by rfl) (hs : starEach [e] X.env = (false, eval e X.env) :: starEach [] X.env := by rfl) :
    LE X (.Call (.Name "min" p) [e] [⟨some "key", .Name "len" p2, kpos⟩] pos) r m F E := by
  refine ⟨fun Z st H Q W rp tk nk nx => (pe_minLen gd.calm hg hm bt_min hg2 hm2 bt_len pa_w he hpl).w ?_⟩
  have ha : LA X [e] r m (fun ds m1 => ∃ (a : Addr) (xs : List Str), ds = [.raw (.ref a)] ∧ (a, Mc.lst (xs.map Dt.str)) ∈ m1 ∧ 0 < xs.length ∧ (∀ x ∈ xs, x.length ≤ sizeLine) ∧
      ∀ (i : Nat) (x : Str), xs[i]? = some x → (∀ j y, xs[j]? = some y → x.length ≤ y.length ∧ (j < i → x.length < y.length)) → F (.str x) m1) E := by
    refine la_cons (h.imp fun d m1 q => la_nil ?_) hs
    obtain ⟨a, xs, rfl, q⟩ := q
    exact ⟨a, xs, rfl, q⟩
  refine ha.run Z st H _ W rp tk (fun vs H1 ds m1 q go so da => ?_) nx
  obtain ⟨a, xs, rfl, hmem, hne, hz, q⟩ := q
  cases da with
  | cons d1 d2 =>
    cases d2
    cases d1
    obtain ⟨ys, e1, e2⟩ := so.lst_of hmem
    obtain rfl := strs_da e2
    exact ⟨a, xs, rfl, SqL.of e1, hne, hz, fun i x hx hb => nk _ H1 _ m1 (q i x hx hb) go so (.str x)⟩
end
end Dw
namespace Dw
open PySem PySem.Spec PyProof.Rows L2
/-! ### the store falls back to what it was; a list of the store stands still from now on -/
theorem dom_sub {m m' : Mu} (hs : ∀ x ∈ m, x ∈ m') {a : Addr} (h : a ∈ dom m) : a ∈ dom m' := by
  obtain ⟨x, hx, rfl⟩ := List.mem_map.mp h
  exact List.mem_map.mpr ⟨x, hs x hx, rfl⟩
theorem app_sub {Z : List Addr} {m m' : Mu} (hs : ∀ x ∈ m, x ∈ m') {a : Addr} (h : a ∈ Z ++ dom m) : a ∈ Z ++ dom m' := by
  rcases List.mem_append.mp h with z | z
  · exact List.mem_append_left _ z
  · exact List.mem_append_right _ (dom_sub hs z)
theorem So.back {K : PySem.W.Frag} {Z : List Addr} {m m' : Mu} {H : Hp} (so : So K Z m' H) (nd : (dom m).Nodup) (hs : ∀ x ∈ m, x ∈ m') : So K Z m H :=
  ⟨nd, so.zs, fun a ha z => so.dj a ha (dom_sub hs z), fun p hp => (so.ob p (hs p hp)).less fun a ha => app_sub hs ha⟩
theorem Go.back {m m' : Mu} {H H' : Hp} (g : Go m H m' H') : Go m H m H' := ⟨g.keep, fun a h => .inl h⟩
theorem ext_back {Z : List Addr} {m m' : Mu} {H : Hp} (hs : ∀ x ∈ m, x ∈ m') : Ext (Z ++ dom m') H (Z ++ dom m) H := ⟨fun _ _ _ e => e, fun a ha => .inl (app_sub hs ha)⟩
def Fz (m : Mu) (F : Pd) (d : Dt) (m1 : Mu) : Prop := (∀ x ∈ m, x ∈ m1) ∧ (F d m ∨ ∃ p ds, d = .raw (.ref p) ∧ (p, Mc.lst ds) ∈ m1 ∧ p ∉ dom m ∧ F (.lst ds) m)
theorem Fz.nk {K : PySem.W.Frag} {Z : List Addr} {m : Mu} {H : Hp} {F : Pd} {Q : VK} (so0 : So K Z m H) (nk : NK K Z m H F Q) : NK K Z m H (Fz m F) Q := fun v H' d m' q go so da => by
  obtain ⟨hs, q⟩ := q
  have x := ext_back (Z := Z) (H := H') hs
  rcases q with q | ⟨p, ds, rfl, hm, hp, q⟩
  · exact nk v H' d m q go.back (so.back so0.nd hs) (da.move x)
  · cases da
    obtain ⟨xs, e1, e2⟩ := so.lst_of hm
    refine nk _ H' _ m q go.back (so.back so0.nd hs) (.lst ⟨fun z => ?_, e1⟩ (e2.move x))
    rcases List.mem_append.mp z with z | z
    · exact so.dj p z (List.mem_map.mpr ⟨_, hm, rfl⟩)
    · exact hp z
section
variable {X : Cx} {e : Expr} {r : En} {m : Mu} {F : Pd} {E : Xd} {P : Pc} {st : List Stmt} {k : Nat} {N : List Str}
theorem LE.keep (h : LE X e r m (Fz m F) E) : LE X e r m F E := ⟨fun Z g H Q W rp tk nk nx => h.run Z g H Q W rp tk (Fz.nk rp.so nk) nx⟩
theorem Rep.freeze {K : PySem.W.Frag} {Z : List Addr} {H : Hp} {g : L2.St} {p : Addr} {ds : List Dt} {i : Nat} (rp : Rep K Z m H g r) (hm : (p, Mc.lst ds) ∈ m) (hi : r[i]? = some (some (.raw (.ref p)))) : Rep K Z (forget p m) H g (r.set i (some (.lst ds))) := by
  obtain ⟨so', go⟩ := rp.so.forget p
  obtain ⟨v, e1, e2⟩ := rp.at' i _ hi
  cases e2
  have h := (rp.go go so').set i (rp.so.frozen hm)
  have e : g.set i (some (.ref p)) = g := by
    apply List.ext_getElem?
    intro j
    by_cases hj : i = j
    · subst hj
      have hl : i < g.length := (List.getElem?_eq_some_iff.mp e1).1
      rw [List.getElem?_set_self hl, e1]
    · rw [List.getElem?_set_ne hj]
  rw [e] at h
  exact h
theorem lb_freeze {p : Addr} {ds : List Dt} (i : Nat) (hm : (p, Mc.lst ds) ∈ m) (hi : r[i]? = some (some (.raw (.ref p)))) (h : LB X st (r.set i (some (.lst ds))) (forget p m) P) : LB X st r m P :=
  ⟨fun Z g H D W rp tk np => h.run Z g H D W (rp.freeze hm hi) tk (np.go (rp.so.forget p).2)⟩
/-- the store is made less -/
theorem lb_less {m1 : Mu} (hs : ∀ x ∈ m1, x ∈ m) (nd : ∀ K Z H, So K Z m H → (dom m1).Nodup) (h : LB X st r m1 P) : LB X st r m P :=
  ⟨fun Z g H D W rp tk np => by
    have so' : So X.K Z m1 H := rp.so.back (nd _ _ _ rp.so) hs
    have go : Go m H m1 H := ⟨fun _ _ _ e => e, fun a ha => .inl (dom_sub hs ha)⟩
    exact h.run Z g H D W (rp.go go so') tk (np.go go)⟩
theorem forget_mem {p : Addr} {x : Addr × Mc} (h : x ∈ m) (hn : x.1 ≠ p) : x ∈ forget p m := List.mem_filter.mpr ⟨h, by simpa using hn⟩
theorem c_minL {ns : List Int} (hc : X.calm = true) (hne : ns ≠ []) (q : ∀ i, i ∈ ns → (∀ j ∈ ns, i ≤ j) → F (.int i) m) : OC X (.builtin "min") [.lst (ns.map Dt.int)] m F :=
  oc_of (cr_min hc) fun Z H vs Q so da nk => by
    cases da with
    | cons d1 d2 =>
      cases d2
      cases d1 with
      | lst h1 h2 =>
        have e : ∀ {ns : List Int} {vs : List V}, DaL X.K (Z ++ dom m) H (ns.map Dt.int) vs → vs = ns.map V.int := fun {ns} => by
          induction ns with
          | nil => intro vs h; cases h; rfl
          | cons a t ih =>
            intro vs h
            cases h with
            | cons a1 a2 => cases a1; rw [ih a2]; rfl
        obtain rfl := e h2
        exact ⟨_, ns, rfl, h1.sq, List.length_pos_iff.mpr hne, fun i h1 h2 => nk _ H _ m (q i h1 h2) Ext.rfl' so (.int i)⟩
end
section
variable {P : Program} {w : World} {K : PySem.W.Frag} {mg : Str → Option Value} {base : Heap}
theorem FnG.imp {k : Nat} {f : Addr} {fd : FuncData} {ps : List Str} {sp sp' : Sp} (F : FnG P w K mg base k f fd ps sp) (h : ∀ vs H Q E, sp' vs H Q E → sp vs H Q E) : FnG P w K mg base k f fd ps sp' :=
  ⟨fun vs H Q E q => F.len vs H Q E (h _ _ _ _ q), fun A outer s H args us vs Q E hr hg e0 hb rv q => F.run A outer s H args us vs Q E hr hg e0 hb rv (h _ _ _ _ q)⟩
/-- the same def by another promise: the store falls back -/
theorem toSp.keep {W W' : Spd} (h : ∀ ds m F E, W' ds m F E → W ds m (Fz m F) (fun c fs m1 => (∀ x ∈ m, x ∈ m1) ∧ E c fs m)) : ∀ vs H Q E, toSp K W' vs H Q E → toSp K W vs H Q E := fun vs H Q E q => by
  obtain ⟨Z, ds, m, F, E', so, da, hw, nk, ne⟩ := q
  refine ⟨Z, ds, m, _, _, so, da, h _ _ _ _ hw, Fz.nk so nk, fun cls dx fs us H' m' q go so' nd e1 e2 => ?_⟩
  obtain ⟨hs, q⟩ := q
  exact ne cls dx fs us H' m q go.back (so'.back so.nd hs) (fun z => nd (app_sub hs z)) e1 (e2.move (ext_back hs))
theorem FnD.keep {x : Str} {k : Nat} {W W' : Spd} (D : FnD P w K mg base x k W) (h : ∀ ds m F E, W' ds m F E → W ds m (Fz m F) (fun c fs m1 => (∀ x ∈ m, x ∈ m1) ∧ E c fs m)) : FnD P w K mg base x k W' := by
  obtain ⟨f, fd, ps, G, h1, h2, h3⟩ := D.ex
  exact ⟨f, fd, ps, G.imp (toSp.keep h), h1, h2, h3⟩
theorem FnG.keep {k : Nat} {f : Addr} {fd : FuncData} {ps : List Str} {W W' : Spd} (G : FnG P w K mg base k f fd ps (toSp K W)) (h : ∀ ds m F E, W' ds m F E → W ds m (Fz m F) (fun c fs m1 => (∀ x ∈ m, x ∈ m1) ∧ E c fs m)) : FnG P w K mg base k f fd ps (toSp K W') := G.imp (toSp.keep h)
end
section
variable {X : Cx} {e : Expr} {r : En} {m : Mu} {F : Pd} {E : Xd} {k : Nat} {N : List Str}
/-- x.join(..), x a text by an expression -/
theorem le_joinS {o : Expr} {apos pos : Pos} (h : LE X o r m (fun x m1 => ∃ z : List Nat, x = .str (SX.S z) ∧ LE X e r m1 (fun d m2 => ∃ ys : List (List Nat), d = .lst (ys.map fun l => Dt.str (SX.S l)) ∧ (ys.map (·.length)).sum + ys.length * z.length ≤ 16777216 ∧ F (.str (SX.S (TL.joinL z ys))) m2) E) E)
    (hbase : attributeBase o "join" X.env (eval o X.env) = eval o X.env := by rfl) (hfew : ((backTo pos (starEach [e] X.env)).all (fun x => !x.1) && (backToKw pos (keywordEach [] X.env)).all (fun x => x.1.isSome)
      && decide ([e].length + ([] : List Keyword).length + (if ([] : List Keyword).isEmpty then 0 else 1) < 30)) = true := by rfl)
    (hline : (apos.endLine == pos.line) = true := by rfl)
    (hs : starEach [e] X.env = (false, eval e X.env) :: starEach [] X.env := by rfl) : LE X (.Call (.Attribute o "join" apos) [e] [] pos) r m F E := by
  refine le_join (h.imp fun x m1 q => ?_) hbase hfew hline hs
  obtain ⟨z, rfl, q⟩ := q
  refine ⟨⟨_, rfl⟩, la_cons (q.imp fun d m2 q => ?_) hs⟩
  obtain ⟨ys, rfl, hz, q⟩ := q
  refine la_nil ⟨SX.S z, ys.map SX.S, rfl, .inl (by rw [List.map_map]; rfl), ?_, ?_⟩
  · rw [SX.S_len, List.length_map, List.map_map]
    have : (ys.map ((fun x => Str.length x) ∘ SX.S)).sum = (ys.map (·.length)).sum := congrArg List.sum (List.map_congr_left fun l _ => SX.S_len l)
    rw [this]
    exact hz
  · rw [SX.join_S]
    exact q
end
end Dw
namespace Dw
open PySem PySem.Spec PyProof.Rows L2
/-! ### a frame: what a def does with one thing of the store leaves the others -/
def sel (b : Addr) (m : Mu) : Mu := m.filter fun q => q.1 = b
def Kps (b : Addr) (m m' : Mu) : Prop := ∀ x ∈ m, x.1 ≠ b → x ∈ m'
theorem sel_mem {b : Addr} {m : Mu} {x : Addr × Mc} (h : x ∈ m) (e : x.1 = b) : x ∈ sel b m := List.mem_filter.mpr ⟨h, by simpa using e⟩
theorem sel_sub {b : Addr} {m : Mu} : ∀ x ∈ sel b m, x ∈ m := fun x h => (List.mem_filter.mp h).1
theorem oth_sub {b : Addr} {m : Mu} : ∀ x ∈ forget b m, x ∈ m := fun x h => (List.mem_filter.mp h).1
theorem sel_dom {b : Addr} {m : Mu} {a : Addr} (h : a ∈ dom (sel b m)) : a = b ∧ a ∈ dom m := by
  obtain ⟨q, hq, rfl⟩ := List.mem_map.mp h
  obtain ⟨h1, h2⟩ := List.mem_filter.mp hq
  exact ⟨by simpa using h2, List.mem_map.mpr ⟨q, h1, rfl⟩⟩
theorem toSp.fr {K : PySem.W.Frag} {W W' : Spd} (h : ∀ ds m F E, W' ds m F E → ∃ b, W ds (sel b m) (fun d m1 => ∀ m', (∀ x ∈ m1, x ∈ m') → Kps b m m' → F d m') (fun c fs m1 => ∀ m', (∀ x ∈ m1, x ∈ m') → Kps b m m' → E c fs m')) :
    ∀ vs H Q E, toSp K W' vs H Q E → toSp K W vs H Q E := fun vs H Q E q => by
  obtain ⟨Z, ds, m, F, E', so, da, hw, nk, ne⟩ := q
  obtain ⟨b, hb⟩ := h _ _ _ _ hw
  have hmem : ∀ a, a ∈ (Z ++ dom (forget b m)) ++ dom (sel b m) → a ∈ Z ++ dom m := fun a ha => by
    rcases List.mem_append.mp ha with ha | ha
    · rcases List.mem_append.mp ha with ha | ha
      · exact List.mem_append_left _ ha
      · exact List.mem_append_right _ (forget_dom ha).1
    · exact List.mem_append_right _ (sel_dom ha).2
  have x0 : Ext (Z ++ dom m) H ((Z ++ dom (forget b m)) ++ dom (sel b m)) H := ⟨fun _ _ _ e => e, fun a ha => .inl (hmem a ha)⟩
  have so0 : So K (Z ++ dom (forget b m)) (sel b m) H := by
    refine ⟨?_, fun a ha => ?_, fun a ha z => ?_, fun p hp => (so.ob p (sel_sub p hp)).less hmem⟩
    · have : (dom (sel b m)).Sublist (dom m) := (List.filter_sublist (l := m)).map _
      exact so.nd.sublist this
    · rcases List.mem_append.mp ha with ha | ha
      · exact so.zs a ha
      · exact so.live (List.mem_append_right _ (forget_dom ha).1)
    · obtain ⟨rfl, z2⟩ := sel_dom z
      rcases List.mem_append.mp ha with ha | ha
      · exact so.dj a ha z2
      · exact (forget_dom ha).2 rfl
  have back : ∀ (H' : Hp) (m1 : Mu), Go (sel b m) H m1 H' → So K (Z ++ dom (forget b m)) m1 H' → Go m H (forget b m ++ m1) H' ∧ So K Z (forget b m ++ m1) H' ∧ Ext ((Z ++ dom (forget b m)) ++ dom m1) H' (Z ++ dom (forget b m ++ m1)) H' := fun H' m1 go so1 => by
    have hd : dom (forget b m ++ m1) = dom (forget b m) ++ dom m1 := by unfold dom; rw [List.map_append]
    have g : Go m H (forget b m ++ m1) H' := by
      refine ⟨fun a o n e => go.keep a o (fun z => n (sel_dom z).2) e, fun a ha => ?_⟩
      rw [hd] at ha
      rcases List.mem_append.mp ha with ha | ha
      · exact .inl (forget_dom ha).1
      · rcases go.new a ha with q | q
        · exact .inl (sel_dom q).2
        · exact .inr q
    have xx : Ext ((Z ++ dom (forget b m)) ++ dom m1) H' (Z ++ dom (forget b m ++ m1)) H' := ⟨fun _ _ _ e => e, fun a ha => .inl (by rw [hd, ← List.append_assoc] at ha; exact ha)⟩
    refine ⟨g, ⟨?_, fun a ha => so1.zs a (List.mem_append_left _ ha), fun a ha z => ?_, fun p hp => ?_⟩, xx⟩
    · rw [hd]
      refine List.nodup_append.mpr ⟨(so.forget b).1.nd, so1.nd, fun a ha c hc e => ?_⟩
      subst e
      exact so1.dj a (List.mem_append_right _ ha) hc
    · rw [hd] at z
      rcases List.mem_append.mp z with z | z
      · exact so.dj a ha (forget_dom z).1
      · exact so1.dj a (List.mem_append_left _ ha) z
    · rcases List.mem_append.mp hp with hp | hp
      · have y := so.ob p (oth_sub p hp)
        have np : p.1 ∉ dom (sel b m) := fun z => (forget_dom (List.mem_map.mpr ⟨p, hp, rfl⟩)).2 (sel_dom z).1
        cases e2 : p.2 with
        | lst es =>
          rw [e2] at y
          obtain ⟨xs, e1, e3⟩ := y
          exact ⟨xs, go.keep _ _ np e1, e3.move (g.full Z)⟩
        | ins C dx fs =>
          rw [e2] at y
          obtain ⟨xs, e1, e3⟩ := y
          exact ⟨xs, go.keep _ _ np e1, e3.move (g.full Z)⟩
        | gen φ es =>
          rw [e2] at y
          obtain ⟨xs, e1, e3⟩ := y
          exact ⟨xs, go.keep _ _ np e1, e3.1.move (g.full Z), e3.2⟩
      · exact (so1.ob p hp).less fun a ha => by rw [hd, ← List.append_assoc] at ha; exact ha
  have kp : ∀ m1, Kps b m (forget b m ++ m1) := fun m1 x hx hn => List.mem_append_left _ (forget_mem hx hn)
  refine ⟨Z ++ dom (forget b m), ds, sel b m, _, _, so0, da.move x0, hb, fun v H' d m1 q go so1 da1 => ?_, fun cls dx fs us H' m1 q go so1 nd e1 e2 => ?_⟩
  · obtain ⟨g, s, x⟩ := back H' m1 go so1
    exact nk v H' d _ (q _ (fun x hx => List.mem_append_right _ hx) (kp m1)) g s (da1.move x)
  · obtain ⟨g, s, x⟩ := back H' m1 go so1
    refine ne cls dx fs us H' _ (q _ (fun x hx => List.mem_append_right _ hx) (kp m1)) g s (fun z => nd ?_) e1 (e2.move x)
    have hd : dom (forget b m ++ m1) = dom (forget b m) ++ dom m1 := by unfold dom; rw [List.map_append]
    rw [hd, ← List.append_assoc] at z
    exact z
theorem FnD.fr {P : Program} {w : World} {K : PySem.W.Frag} {mg : Str → Option Value} {base : Heap} {x : Str} {k : Nat} {W W' : Spd} (D : FnD P w K mg base x k W)
    (h : ∀ ds m F E, W' ds m F E → ∃ b, W ds (sel b m) (fun d m1 => ∀ m', (∀ x ∈ m1, x ∈ m') → Kps b m m' → F d m') (fun c fs m1 => ∀ m', (∀ x ∈ m1, x ∈ m') → Kps b m m' → E c fs m')) : FnD P w K mg base x k W' := by
  obtain ⟨f, fd, ps, G, h1, h2, h3⟩ := D.ex
  exact ⟨f, fd, ps, G.imp (toSp.fr h), h1, h2, h3⟩
end Dw
namespace Dw
open PySem PySem.Spec PyProof.Rows L2
/-! ### repr of a list of words tells the words -/
def rc (q c : Nat) : List Nat := if c = q ∨ c = 92 then [92, c] else [c]
def rq (w : List Nat) : Nat := if 39 ∈ w ∧ 34 ∉ w then 34 else 39
def rl (w : List Nat) : List Nat := [rq w] ++ w.flatMap (rc (rq w)) ++ [rq w]
abbrev Pn (w : List Nat) : Prop := ∀ c ∈ w, 32 ≤ c ∧ c ≤ 126
theorem pri_all : ∀ c : Nat, 32 ≤ c → c ≤ 126 → Unicode.isPrintable c = true := by
  have h : ∀ k : Nat, k < 95 → Unicode.isPrintable (k + 32) = true := by decide +kernel
  intro c h1 h2
  have := h (c - 32) (by omega)
  rwa [show c - 32 + 32 = c by omega] at this
theorem rc_eq {q c : Nat} (h1 : 32 ≤ c) (h2 : c ≤ 126) : Builtin.Str.reprChar q c = rc q c := by
  unfold Builtin.Str.reprChar rc
  by_cases h : c = q ∨ c = 92
  · rw [if_pos h, if_pos (by simpa using h)]
  · rw [if_neg h, if_neg (by simpa using h), if_neg (by simp; omega), if_neg (by simp; omega), if_neg (by simp; omega), if_pos (pri_all c h1 h2)]
theorem fold_app {f : Nat → List Nat} : ∀ (l : List Nat) (acc : Array Nat), l.foldl (fun out c => out ++ (f c).toArray) acc = acc ++ (l.flatMap f).toArray
  | [], acc => by simp
  | c :: l, acc => by
    rw [List.foldl_cons, fold_app l, List.flatMap_cons]
    simp
theorem rq_eq (w : List Nat) : reprQuote (SX.S w) = rq w := by
  unfold reprQuote rq
  have e : ∀ k, (SX.S w).cps.contains k = decide (k ∈ w) := fun k => by
    show (w.toArray).contains k = _
    simp
  rw [e, e]
  by_cases h1 : 39 ∈ w <;> by_cases h2 : 34 ∈ w <;> simp [h1, h2]
theorem repr_rl {w : List Nat} (h : Pn w) : reprText (SX.S w) = SX.S (rl w) := by
  unfold reprText
  rw [rq_eq]
  have e : (SX.S w).cps.foldl (fun out c => out ++ (Builtin.Str.reprChar (rq w) c).toArray) #[rq w] = #[rq w] ++ (w.flatMap (rc (rq w))).toArray := by
    show (w.toArray).foldl _ _ = _
    rw [← Array.foldl_toList, fold_app]
    have : w.flatMap (Builtin.Str.reprChar (rq w)) = w.flatMap (rc (rq w)) := by
      rw [List.flatMap_def, List.flatMap_def]
      congr 1
      exact List.map_congr_left fun c hc => rc_eq (h c hc).1 (h c hc).2
    show #[rq w] ++ (w.flatMap (Builtin.Str.reprChar (rq w))).toArray = _
    rw [this]
  rw [e]
  show (⟨_⟩ : Str) = ⟨(rl w).toArray⟩
  unfold rl
  simp
def tl : List (List Nat) → List Nat
  | [] => [93]
  | w :: ws => [44, 32] ++ rl w ++ tl ws
def jl : List (List Nat) → List Nat
  | [] => [93]
  | w :: ws => rl w ++ tl ws
theorem from_tl : ∀ (ws : List (List Nat)) (k : Nat) (a : List Nat), textFrom (k + 1) (SX.S a) (ws.map fun w => SX.S (rl w)) ++ ("]" : Str) = SX.S (a ++ tl ws)
  | [], k, a => by
    show SX.S a ++ SX.S [93] = _
    rw [SX.S_cat]
    rfl
  | w :: ws, k, a => by
    rw [List.map_cons]
    show textFrom (k + 1 + 1) (SX.S a ++ (if k + 1 > 0 then ", " else "" : String) ++ SX.S (rl w)) _ ++ _ = _
    rw [if_pos (Nat.succ_pos _)]
    have e : SX.S a ++ ((", " : String) : Str) ++ SX.S (rl w) = SX.S (a ++ [44, 32] ++ rl w) := by
      show SX.S a ++ SX.S [44, 32] ++ SX.S (rl w) = _
      rw [SX.S_cat, SX.S_cat]
    rw [e, from_tl ws (k + 1)]
    congr 1
    simp [tl]
theorem shows_jl {ws : List (List Nat)} (h : ∀ w ∈ ws, Pn w) : shows (.lst (ws.map fun l => Dt.str (SX.S l))) = SX.S ([91] ++ jl ws) := by
  unfold shows
  rw [shown_lst]
  have e : PyData.shownAll (pys (ws.map fun l => Dt.str (SX.S l))) = ws.map fun w => SX.S (rl w) := by
    induction ws with
    | nil => simp [pys, PyData.shownAll]
    | cons w ws ih =>
      simp only [List.map_cons, pys, PyData.shownAll]
      rw [ih fun x hx => h x (List.mem_cons_of_mem _ hx)]
      congr 1
      rw [← repr_rl (h w List.mem_cons_self)]
      simp [py, PyData.shown]
  rw [e]
  unfold listText
  cases ws with
  | nil =>
    show SX.S [91] ++ SX.S [93] = _
    rw [SX.S_cat]
    rfl
  | cons w ws =>
    rw [List.map_cons]
    show textFrom (0 + 1) (SX.S [91] ++ (if 0 > 0 then ", " else "" : String) ++ SX.S (rl w)) _ ++ _ = _
    rw [if_neg (by decide)]
    have e : SX.S [91] ++ (("" : String) : Str) ++ SX.S (rl w) = SX.S ([91] ++ rl w) := by
      show SX.S [91] ++ SX.S [] ++ SX.S (rl w) = _
      rw [SX.S_cat, SX.S_cat]
      simp
    rw [e, from_tl]
    congr 1
theorem rq_or (w : List Nat) : rq w = 34 ∨ rq w = 39 := by
  unfold rq
  split
  · exact .inl rfl
  · exact .inr rfl
theorem rb_inj {q : Nat} (hq : q = 34 ∨ q = 39) : ∀ (a b r s : List Nat), a.flatMap (rc q) ++ q :: r = b.flatMap (rc q) ++ q :: s → a = b ∧ r = s
  | [], [], r, s, h => ⟨rfl, (List.cons.inj h).2⟩
  | [], d :: b, r, s, h => by
    exfalso
    rw [List.flatMap_cons] at h
    unfold rc at h
    split at h
    · have := (List.cons.inj h).1
      omega
    · rename_i hn
      have := (List.cons.inj h).1
      omega
  | c :: a, [], r, s, h => by
    exfalso
    rw [List.flatMap_cons] at h
    unfold rc at h
    split at h
    · have := (List.cons.inj h).1
      omega
    · rename_i hn
      have := (List.cons.inj h).1
      omega
  | c :: a, d :: b, r, s, h => by
    rw [List.flatMap_cons, List.flatMap_cons, List.append_assoc, List.append_assoc] at h
    have key : c = d ∧ a.flatMap (rc q) ++ q :: r = b.flatMap (rc q) ++ q :: s := by
      unfold rc at h
      by_cases h1 : c = q ∨ c = 92 <;> by_cases h2 : d = q ∨ d = 92
      · rw [if_pos h1, if_pos h2] at h
        have h3 := (List.cons.inj h).2
        exact ⟨(List.cons.inj h3).1, (List.cons.inj h3).2⟩
      · rw [if_pos h1, if_neg h2] at h
        have := (List.cons.inj h).1
        omega
      · rw [if_neg h1, if_pos h2] at h
        have := (List.cons.inj h).1
        omega
      · rw [if_neg h1, if_neg h2] at h
        exact ⟨(List.cons.inj h).1, (List.cons.inj h).2⟩
    obtain ⟨rfl, k⟩ := key
    obtain ⟨rfl, e⟩ := rb_inj hq a b r s k
    exact ⟨rfl, e⟩
theorem rl_inj {a b r s : List Nat} (h : rl a ++ r = rl b ++ s) : a = b ∧ r = s := by
  unfold rl at h
  simp only [List.append_assoc, List.singleton_append, List.cons_append] at h
  have h1 := List.cons.inj h
  have h2 := h1.2
  rw [← h1.1] at h2
  exact rb_inj (rq_or a) a b r s h2
theorem tl_inj : ∀ (a b : List (List Nat)), tl a = tl b → a = b
  | [], [], _ => rfl
  | [], w :: b, h => by have := (List.cons.inj h).1; cases this
  | w :: a, [], h => by have := (List.cons.inj h).1; cases this
  | v :: a, w :: b, h => by
    have h1 : rl v ++ tl a = rl w ++ tl b := by
      have : [44, 32] ++ (rl v ++ tl a) = [44, 32] ++ (rl w ++ tl b) := by simpa [tl] using h
      exact List.append_cancel_left this
    obtain ⟨rfl, h2⟩ := rl_inj h1
    rw [tl_inj a b h2]
theorem jl_inj : ∀ (a b : List (List Nat)), jl a = jl b → a = b
  | [], [], _ => rfl
  | [], w :: b, h => by
    have := (List.cons.inj h).1
    have := rq_or w
    omega
  | w :: a, [], h => by
    have := (List.cons.inj h).1
    have := rq_or w
    omega
  | v :: a, w :: b, h => by
    obtain ⟨rfl, h2⟩ := rl_inj (show rl v ++ tl a = rl w ++ tl b from h)
    rw [tl_inj a b h2]
theorem shows_inj {a b : List (List Nat)} (ha : ∀ w ∈ a, Pn w) (hb : ∀ w ∈ b, Pn w) (h : shows (.lst (a.map fun l => Dt.str (SX.S l))) = shows (.lst (b.map fun l => Dt.str (SX.S l)))) : a = b := by
  rw [shows_jl ha, shows_jl hb] at h
  exact jl_inj a b (List.append_cancel_left (SX.S_inj h))
theorem from_app : ∀ (ts us : List Str) (k : Nat) (acc : Str), textFrom k acc (ts ++ us) = textFrom (k + ts.length) (textFrom k acc ts) us
  | [], us, k, acc => rfl
  | t :: ts, us, k, acc => by
    rw [List.cons_append]
    show textFrom (k + 1) _ (ts ++ us) = textFrom (k + (ts.length + 1)) (textFrom (k + 1) _ ts) us
    rw [from_app ts us, Nat.add_right_comm, Nat.add_assoc]
theorem pys_app : ∀ a b : List Dt, PyData.shownAll (pys (a ++ b)) = PyData.shownAll (pys a) ++ PyData.shownAll (pys b)
  | [], b => by simp [pys, PyData.shownAll]
  | x :: a, b => by simp only [List.cons_append, pys, PyData.shownAll, pys_app a b]
/-- a list with one thing more is shown longer; so is a list within a list -/
theorem shows_more {ds : List Dt} {d : Dt} (hd : 0 < (shows d).length) : shows (.lst (ds ++ [d])) ≠ shows (.lst ds) := fun h => by
  unfold shows at h hd
  rw [shown_lst, shown_lst, pys_app] at h
  unfold listText at h
  rw [from_app] at h
  have h := congrArg Str.length h
  rw [strLen_append, strLen_append] at h
  have e : PyData.shownAll (pys [d]) = [(py d).shown] := by simp [pys, PyData.shownAll]
  rw [e] at h
  generalize textFrom 0 "[" (PyData.shownAll (pys ds)) = T at h
  have : (textFrom (0 + (PyData.shownAll (pys ds)).length) T [(py d).shown]).length ≥ T.length + (py d).shown.length := by
    show (T ++ _ ++ (py d).shown).length ≥ _
    rw [strLen_append, strLen_append]
    omega
  omega
theorem shows_nest {ds : List Dt} : shows (.lst [.lst ds]) ≠ shows (.lst ds) := fun h => by
  unfold shows at h
  have e : (py (.lst [.lst ds])).shown = listText [(py (.lst ds)).shown] := by rw [shown_lst]; simp [pys, PyData.shownAll]
  rw [e] at h
  have h := congrArg Str.length h
  unfold listText at h
  have : (textFrom 0 "[" [(py (.lst ds)).shown]).length = 1 + (py (.lst ds)).shown.length := by
    show ((("[" : Str) ++ (if 0 > 0 then ", " else "" : String)) ++ (py (.lst ds)).shown).length = _
    rw [strLen_append, strLen_append, if_neg (by decide)]
    rfl
  rw [strLen_append, this] at h
  have e2 : (("]" : String) : Str).length = 1 := rfl
  omega
end Dw
namespace Dw
open PySem PySem.Spec PyProof.Rows L2
section
variable {X : Cx} {e : Expr} {r : En} {m : Mu} {F : Pd} {E : Xd} {k : Nat} {p1 p2 p3 pos : Pos}
/-- s[::-1] of a text: as many signs, the same ones -/
theorem le_backS (h : LE X e r m (fun d m1 => ∃ l : List Nat, d = .str (SX.S l) ∧ l.length ≤ 1000 ∧ ∀ l', l'.length = l.length → (∀ c ∈ l', c ∈ l) → F (.str (SX.S l')) m1) E) : LE X (.Subscript e (.Slice none none (some (.UnaryOp .USub (.Constant (.int 1) k p1) p2)) p3) pos) r m F E := by
  refine ⟨fun Z g H Q W rp tk nk nx pins s I => ?_⟩
  refine Subscript_ (thn (h.run Z g H (fun v H1 => ∃ l : List Nat, v = .str (SX.S l) ∧ l.length ≤ 1000 ∧ ∀ l', l'.length = l.length → (∀ c ∈ l', c ∈ l) → Q (.str (SX.S l')) H1) W rp tk (fun v H1 d m1 q go so da => ?_) nx pins s I) fun v s1 hh => ?_)
  · obtain ⟨l, rfl, hl, q⟩ := q
    cases da
    exact ⟨l, rfl, hl, fun l' h1 h2 => nk _ _ _ m1 (q l' h1 h2) go so (.str _)⟩
  · obtain ⟨x, H1, I1, r1, l, rfl, hl, q⟩ := hh
    obtain ⟨t, rfl⟩ := r1
    have part : PO X (some (.UnaryOp .USub (.Constant (.int 1) k p1) p2)) (tPart (tUn (rU fun i => .int (-i)) (tC (.int 1)))) := po_some (pe_un un_neg pe_int)
    refine wpAny_Slice (thn (po_none.run pins s1 g H1 (fun o H2 => o = none ∧ H2 = H1) I1 ⟨rfl, rfl⟩) fun vl s2 h2 => ?_)
    obtain ⟨l2, H2, I2, pl, rfl, rfl⟩ := h2
    refine thn (po_none.run pins s2 g H2 (fun o H3 => o = none ∧ H3 = H2) I2 ⟨rfl, rfl⟩) fun vu s3 h3 => ?_
    obtain ⟨u, H3, I3, pu, rfl, rfl⟩ := h3
    refine thn (part.run pins s3 g H3 (fun o H4 => o = some (-1) ∧ H4 = H3) I3 ⟨1, rfl, -1, rfl, rfl, rfl⟩) fun vs s4 h4 => ?_
    obtain ⟨o, H4, I4, ps, rfl, rfl⟩ := h4
    have I5 : Inv X pins g H4 { s4 with heap := s4.heap.push { cls := .type "slice", data := .fields #[vl, vu, vs] } } := I4.kept (t' := s4.toks) fun b ob z => Heap.get?_push_of_some _ z
    obtain ⟨l1, rfl, e1⟩ := IsPart.raw pl
    obtain ⟨u1, rfl, e2⟩ := IsPart.raw pu
    obtain ⟨v1, rfl, e3⟩ := IsPart.raw ps
    cases l1 with
    | some z => cases e1
    | none =>
    cases u1 with
    | some z => cases e2
    | none =>
    cases v1 with
    | none => cases e3
    | some z =>
    obtain ⟨i, tk2⟩ := z
    have ei : i = -1 := Option.some.inj e3
    subst ei
    show wpAny (model X.prog X.w) X.A (subscriptTail e (.Slice none none (some (.UnaryOp .USub (.Constant (.int 1) k p1) p2)) p3) (.str (SX.S l) t) (.ref s4.heap.objs.size)) (EP X pins g Q) X.xe _
    refine tail_any (ops := [.str (SX.S l) t, .ref s4.heap.objs.size]) (typeIs_str _ _ _) PySem.F.slot_str_getitem.lookup ?_ (by with_unfolding_all rfl)
    refine wpAny_getItem_str_slice (l := none) (u := none) (st := some (-1, tk2)) ⟨_, Heap.get?_push_size _ rfl, rfl, rfl⟩ rfl ?_
    have e : sliceMade (SX.S l) t none none (some (-1, tk2)) = .str ⟨((Builtin.Str.strSliceIndices none none (-1) (SX.S l).length).filterMap ((SX.S l).cps[·]?)).toArray⟩ := by
      unfold sliceMade
      rw [if_neg (by simp)]
      rfl
    rw [e, picked_rev, filterMap_get, List.map_map]
    · have hlen : (((List.range (SX.S l).length).map ((fun i => (SX.S l).cps.getD i 0) ∘ fun k => (SX.S l).length - 1 - k))).length = l.length := by
        rw [List.length_map, List.length_range, SX.S_len]
      refine ⟨?_, .str _, H4, I5.tok _, ⟨_, rfl⟩, q _ hlen fun c hc => ?_⟩
      · show (List.toArray _).size ≤ _
        rw [List.size_toArray, hlen, sizeLine_eq]
        omega
      · obtain ⟨j, hj, rfl⟩ := List.mem_map.mp hc
        have hj := List.mem_range.mp hj
        rw [SX.S_len] at hj
        have hb : l.length - 1 - j < l.length := by omega
        show (l.toArray).getD ((SX.S l).length - 1 - j) 0 ∈ l
        rw [SX.S_len]
        simp [Array.getD, hb]
    · intro i hi
      obtain ⟨j, hj, rfl⟩ := List.mem_map.mp hi
      have hj := List.mem_range.mp hj
      show (SX.S l).length - 1 - j < (SX.S l).length
      omega
theorem pairs_da {K : PySem.W.Frag} {D : List Addr} {H : Hp} : ∀ {kvs : List (Str × Dt)} {vs : List V}, DaL K D H (kvs.map fun kv => Dt.tup [.str kv.1, kv.2]) vs → ∃ (ps : List Addr) (us : List (Key × V)), vs = ps.map V.ref ∧ Paired (fun p kv => SqT K H p [kV kv.1, kv.2]) ps us ∧ DaK K D H (kvs.map fun kv => ((.inr kv.1 : Key), kv.2)) us
  | [], _, .nil => ⟨[], [], rfl, .nil, .nil⟩
  | (k, d) :: kvs, _, .cons h t => by
    obtain ⟨ps, us, rfl, h1, h2⟩ := pairs_da t
    cases h with
    | tup a1 a2 =>
      cases a2 with
      | cons b1 b2 =>
        cases b1
        cases b2 with
        | cons c1 c2 =>
          cases c2
          exact ⟨_ :: ps, (.inr k, _) :: us, rfl, .cons a1.sq h1, .cons c1 h2⟩
/-- dict(..) of a list of pairs -/
theorem c_dictP {kvs : List (Str × Dt)} (hc : X.calm = true) (q : F (.dct (mergeD [] (kvs.map fun kv => ((.inr kv.1 : Key), kv.2)))) m) : OC X (.type "dict") [.lst (kvs.map fun kv => Dt.tup [.str kv.1, kv.2])] m F :=
  oc_of (cr_lk (call_dictP hc)) fun Z H vs Q so da nk => by
    cases da with
    | cons d1 d2 =>
      cases d2
      cases d1 with
      | lst h1 h2 =>
        obtain ⟨ps, us, rfl, hp, hk⟩ := pairs_da h2
        refine ⟨_, ps, us, rfl, h1.sq, hp, fun p hpn => ⟨p, _, rfl, upd_same, trivial, fun od => ?_⟩⟩
        rw [upd_upd]
        refine nk _ _ _ m q (Ext.fresh hpn) (so.laid hpn) (.dct (so.fresh hpn) upd_same ?_)
        exact (DaK.merge hk .nil).move (Ext.fresh hpn)
end
end Dw
namespace Dw
open PySem PySem.Spec PyProof.Rows L2
/-! ### defs with one keyword-only parameter, whose default is () -/
structure FnW (P : Program) (w : World) (K : PySem.W.Frag) (mg : Str → Option Value) (base : Heap) (x : Str) (k n : Nat) (kn : Str) (W : Spd) : Prop where
  ex : ∃ (f : Addr) (fd : FuncData) (ps : List Str), FnG P w K mg base k f fd ps (toSp K W) ∧ mg x = some (.ref f) ∧ PySem.W.keepIn K (.ref f) = true ∧
    (∀ (s : Shared) (us : List Value) (v : Value), K.In s.heap → us.length = n → BindsTo s fd ⟨us, [(kn, v)]⟩ (ps.zip (us ++ [v]))) ∧
    ∃ (T : Addr), Binds K fd ps [.ref T] ∧ ∀ D H, Da K D H (.tup []) (.ref T)
section
variable {X : Cx} {e ke : Expr} {es : List Expr} {r : En} {m : Mu} {F : Pd} {E : Xd} {p pos kpos : Pos} {k j n : Nat} {N : List Str} {x kn : Str} {W : Spd}
theorem le_callW (h : FnW X.prog X.w X.K X.mg X.base x j n kn W) (gd : Gd k N X) (hj : j ≤ k) (ha : LA X (e :: es) r m (fun ds m1 => LE X ke r m1 (fun d m2 => ds.length = n ∧ W (ds ++ [d]) m2 F (fun c fs m' => E c fs r m')) E) E) (hg : Gl X x := by rfl)
    (hall : (backToKw pos (keywordEach [⟨some kn, ke, kpos⟩] X.env)).all (·.1.isSome) = true := by rfl) (hks : (backToKw pos (keywordEach [⟨some kn, ke, kpos⟩] X.env)).filterMap (·.1) = [kn] := by rfl)
    (hdb : (x == ("__debug__" : Str)) = false := by decide) (he : starEach (e :: es) X.env = (false, eval e X.env) :: starEach es X.env := by rfl)
    (hpl : ((backTo pos (starEach (e :: es) X.env)).any (·.1) || (backToKw pos (keywordEach [⟨some kn, ke, kpos⟩] X.env)).any (·.1.isNone)) = false := by rfl) :
    LE X (.Call (.Name x p) (e :: es) [⟨some kn, ke, kpos⟩] pos) r m F E := by
  obtain ⟨f, fd, ps, G, hm, hk, hb, _⟩ := h.ex
  refine ⟨fun Z g H Q Wx rp tk nk nx pins s I => ?_⟩
  refine wpAny_Call_Name_kw (ld_glob I hg hm ?_ hdb)
  refine PySem.W.callWith_KW (h₀ := X.base) I.ok.mod.kin hk hall (thn (ha.run Z g H (fun vs H1 => wE X ke g H1 (fun v H2 => vs.length = n ∧ toSp X.K W (vs ++ [v]) H2 Q (WE Wx g))) Wx rp tk (fun vs H1 ds m1 q go so da => ?_) nx pos pins s I) fun us s1 h1 => ?_) hpl he
  · refine q.run Z g H1 _ Wx (rp.go go so) tk (fun v H2 d m2 q2 go2 so2 da2 => ?_) (nx.go go)
    exact ⟨by rw [← da.length]; exact q2.1, Z, ds ++ [d], m2, F, _, so2, (da.move (go2.full Z)).append (.cons da2 .nil), q2.2, nk.go (go.trans go2), fun cls dx fs us H' m' q3 go3 so3 nd e1 e2 => nx cls dx fs us g H' r m' q3 ((go.trans go2).trans go3) (rp.go ((go.trans go2).trans go3) so3) nd e1 e2⟩
  · obtain ⟨vs, H1, I1, rv, q⟩ := h1
    refine thn ((pk_cons (kpos := kpos) (nm := some kn) (pe_w (X := X) (e := ke)) pk_nil).run pos pins s1 g H1 (fun zs H2 => ∃ z, zs = [z] ∧ vs.length = n ∧ toSp X.K W (vs ++ [z]) H2 Q (WE Wx g)) I1 ?_) fun ws s2 h2 => ?_
    · intro pins2 s3 I3
      refine wpAny_mono (q pins2 s3 I3) (fun u s4 h4 => ?_) fun _ _ z => z
      obtain ⟨v, H4, I4, rv4, q4⟩ := h4
      exact ⟨v, H4, I4, rv4, v, rfl, q4⟩
    · obtain ⟨zs, H2, I2, rz, z, rfl, hl, hsp⟩ := h2
      refine ⟨I2.kIn, ?_⟩
      rw [hks]
      cases rz with
      | cons rz1 rz2 =>
        cases rz2
        rename_i w0
        have r2 := rv.append (.cons rz1 .nil)
        refine wpAny_call (codeAny_mono (G.run X.A X.stack s2 H2 ⟨us, [(kn, w0)]⟩ (us ++ [w0]) (vs ++ [z]) Q (WE Wx g) (gd.room.mono hj) gd.gu I2.env0 (hb s2 us w0 I2.kIn (by rw [← rv.length]; exact hl)) r2 hsp) fun o s' hq => ?_)
        cases o with
        | error u => exact passAt tk g pins H2 s2 u s' I2 hq
        | ok fl =>
          cases fl with
          | ret u => exact I2.after hq
          | next => exact hq.elim
          | brk => exact hq.elim
          | cont => exact hq.elim
theorem le_callWd (h : FnW X.prog X.w X.K X.mg X.base x j n kn W) (gd : Gd k N X) (hj : j ≤ k) (ha : LA X (e :: es) r m (fun ds m1 => W (ds ++ [.tup []]) m1 F (fun c fs m' => E c fs r m')) E) (hg : Gl X x := by rfl)
    (hdb : (x == ("__debug__" : Str)) = false := by decide) (he : starEach (e :: es) X.env = (false, eval e X.env) :: starEach es X.env := by rfl) (hpl : (backTo pos (starEach es X.env)).any (·.1) = false := by rfl) : LE X (.Call (.Name x p) (e :: es) [] pos) r m F E := by
  obtain ⟨f, fd, ps, G, hm, hk, _, T, hb, hT⟩ := h.ex
  refine ⟨fun Z g H Q Wx rp tk nk nx pins s I => ?_⟩
  refine wpAny_Call_Name_kw (ld_glob I hg hm ?_ hdb)
  refine PySem.W.callWith_K (h₀ := X.base) I.ok.mod.kin hk (thn (ha.run Z g H (fun vs H1 => toSp X.K W (vs ++ [.ref T]) H1 Q (WE Wx g)) Wx rp tk (fun vs H1 ds m1 q go so da => ?_) nx pos pins s I) fun us s1 ⟨vs, H1, I1, rv, q⟩ => ⟨I1.kIn, ?_⟩) he hpl
  · exact ⟨Z, ds ++ [.tup []], m1, F, _, so, da.append (.cons (hT _ _) .nil), q, nk.go go, fun cls dx fs us H' m' q2 go2 so2 nd e1 e2 => nx cls dx fs us g H' r m' q2 (go.trans go2) (rp.go (go.trans go2) so2) nd e1 e2⟩
  · have r2 : Vals (vs ++ [.ref T]) (us ++ [.ref T]) := rv.append (.cons rfl .nil)
    have hl : (us ++ [Value.ref T]).length = ps.length := by rw [← r2.length]; exact G.len _ _ _ _ q
    refine wpAny_call (codeAny_mono (G.run X.A X.stack s1 H1 ⟨us, []⟩ (us ++ [.ref T]) (vs ++ [.ref T]) Q (WE Wx g) (gd.room.mono hj) gd.gu I1.env0 (hb s1 us I1.kIn hl) r2 q) fun o s' hq => ?_)
    cases o with
    | error u => exact passAt tk g pins H1 s1 u s' I1 hq
    | ok fl =>
      cases fl with
      | ret u => exact I1.after hq
      | next => exact hq.elim
      | brk => exact hq.elim
      | cont => exact hq.elim
end
end Dw
namespace Dw
open PySem PySem.Spec PyProof.Rows L2
section
variable {X : Cx} {m : Mu} {F : Pd}
theorem c_str_str {x : Str} (q : F (.str x) m) : OC X (.type "str") [.str x] m F :=
  oc_of SkE.call_str_str fun Z H vs Q so da nk => by
    cases da with
    | cons d1 d2 =>
      cases d2
      cases d1
      exact ⟨x, rfl, nk _ H _ m q Ext.rfl' so (.str _)⟩
/-- list(..) that will change -/
theorem c_list_lstM {ds : List Dt} (q : ∀ a, a ∉ dom m → F (.raw (.ref a)) ((a, .lst ds) :: m)) : OC X (.type "list") [.lst ds] m F :=
  oc_of call_list_of fun Z H vs Q so da nk => by
    cases da with
    | cons d1 d2 =>
      cases d2
      cases d1 with
      | lst h1 h2 =>
        refine ⟨_, _, rfl, .inl h1.sq, fun p hp => ?_⟩
        obtain ⟨s2, g2, nl⟩ := so.grow hp h2
        exact nk _ _ _ _ (q p nl) g2 s2 (.raw _)
theorem c_list_tupM {ds : List Dt} (q : ∀ a, a ∉ dom m → F (.raw (.ref a)) ((a, .lst ds) :: m)) : OC X (.type "list") [.tup ds] m F :=
  oc_of call_list_of fun Z H vs Q so da nk => by
    cases da with
    | cons d1 d2 =>
      cases d2
      cases d1 with
      | tup h1 h2 =>
        refine ⟨_, _, rfl, .inr h1.sq, fun p hp => ?_⟩
        obtain ⟨s2, g2, nl⟩ := so.grow hp h2
        exact nk _ _ _ _ (q p nl) g2 s2 (.raw _)
theorem DaK.valN {K : PySem.W.Frag} {D : List Addr} {H : Hp} {k : Key} : ∀ {ks : List (Key × Dt)} {vs : List (Key × V)}, DaK K D H ks vs → valD ks k = none → valV vs k = none
  | _, _, .nil, _ => rfl
  | (k', d') :: ks, (_, v') :: vs, .cons h1 h2, e => by
    unfold valD at e
    unfold valV
    rw [List.find?_cons] at e ⊢
    by_cases hk : k' = k
    · simp only [hk, decide_true] at e
      cases e
    · simp only [hk, decide_false] at e ⊢
      exact DaK.valN (ks := ks) (vs := vs) h2 e
/-- d.get(k, x), k a text -/
theorem le_dgetm {k : Nat} {N : List Str} {r : En} {E : Xd} {o e f : Expr} {apos cpos : Pos} (gd : Gd k N X) (h : LE X o r m (fun x m1 => ∃ kvs, x = .dct kvs ∧ LE X e r m1 (fun y m2 => LE X f r m2 (fun z m3 => ∃ s, y = .str s ∧ F ((valD kvs (.inr s)).getD z) m3) E) E) E)
    (M : M2 X o "get" apos e f cpos := by exact ⟨rfl, rfl, rfl, rfl⟩) : LE X (.Call (.Attribute o "get" apos) [e, f] [] cpos) r m F E := by
  refine ⟨fun Z g H Q W rp tk nk nx => (pe_dget2 gd.hu pe_w pe_w pe_w M).w ?_⟩
  refine h.run Z g H _ W rp tk (fun v H1 d m1 q go so da => ?_) nx
  obtain ⟨kvs, rfl, q⟩ := q
  cases da with
  | dct n h1 h2 =>
    refine ⟨_, rfl, .inl ⟨_, .inr ⟨_, h1⟩⟩, ?_⟩
    have dd : Da X.K (Z ++ dom m1) H1 (.dct kvs) (.ref _) := .dct n h1 h2
    refine q.run Z g H1 _ W (rp.go go so) tk (fun v2 H2 d2 m2 q2 go2 so2 da2 => ?_) (nx.go go)
    refine q2.run Z g H2 _ W (rp.go (go.trans go2) so2) tk (fun v3 H3 d3 m3 q3 go3 so3 da3 => ?_) (nx.go (go.trans go2))
    obtain ⟨s, rfl, q3⟩ := q3
    cases da2
    have dd3 := dd.move (Go.full Z (go2.trans go3))
    have gg := (go.trans go2).trans go3
    cases dd3 with
    | dct n' h1' h2' =>
      cases hv : valD kvs (.inr s) with
      | none =>
        rw [hv] at q3
        refine ⟨none, ?_, nk _ H3 _ m3 q3 gg so3 da3⟩
        rw [← DaK.valN h2' hv]
        exact .inl ⟨_, .inr s, .inr ⟨_, h1'⟩, rfl, rfl⟩
      | some d' =>
        rw [hv] at q3
        obtain ⟨v', e1, e2⟩ := h2'.val hv
        refine ⟨some v', ?_, nk v' H3 d' m3 q3 gg so3 e2⟩
        rw [← e1]
        exact .inl ⟨_, .inr s, .inr ⟨_, h1'⟩, rfl, rfl⟩
end
end Dw
namespace Dw
open PySem PySem.Spec PyProof.Rows L2
/-! ### len(set(texts)) -/
def unl : List Str → Nat
  | [] => 0
  | x :: xs => if x ∈ xs then unl xs else unl xs + 1
theorem unl_le : ∀ xs : List Str, unl xs ≤ xs.length
  | [] => Nat.le_refl _
  | x :: xs => by
    have := unl_le xs
    unfold unl
    rw [List.length_cons]
    split <;> omega
theorem unl_nodup : ∀ xs : List Str, unl xs = xs.length ↔ xs.Nodup
  | [] => by simp [unl]
  | x :: xs => by
    have h1 := unl_le xs
    have h2 := unl_nodup xs
    unfold unl
    rw [List.length_cons, List.nodup_cons]
    split
    · rename_i h
      exact ⟨fun e => by omega, fun e => absurd h e.1⟩
    · rename_i h
      rw [← h2]
      exact ⟨fun e => ⟨h, by omega⟩, fun e => by omega⟩
/-- the first i of them, from the last -/
def ahead (xs : List Str) (i : Nat) : List Str := (xs.take i).reverse
theorem ahead_succ {xs : List Str} {i : Nat} (h : i < xs.length) : ahead xs (i + 1) = xs.getD i Str.empty :: ahead xs i := by
  unfold ahead
  rw [List.take_add_one, List.getElem?_eq_getElem h, List.getD_eq_getElem?_getD, List.getElem?_eq_getElem h]
  simp
theorem nth_str : ∀ {vs : List Value} {xs : List Str}, StrsAre vs xs → ∀ (i : Nat) (v : Value), vs[i]? = some v → ∃ t, v = .str (xs.getD i Str.empty) t
  | _, _, .nil, i, v, h => by simp at h
  | _, _, .cons n t hr, 0, v, h => ⟨t, by simp at h; rw [← h]; rfl⟩
  | _, _, .cons n t hr, i + 1, v, h => by
    obtain ⟨t', e⟩ := nth_str hr i v (by simpa using h)
    exact ⟨t', by rw [e]; rfl⟩
abbrev newset (led : Bool) : Obj := { cls := .type "set", dict := none, data := .set #[] 0 (.fresh 0 0 led) }
section
variable {prog : Program} {w : World} {A : Around} {R : Result → Shared → Prop} {I : Addr} {fp wr : List Addr} {G : Array GenState → Array GenState → Prop} {n : Nat} {P : Nat → Value → Prop} {St : Nat → Shared → Prop}
theorem set_loop (W : WalksS prog w A.in1 I fp wr G n P St) (D : Addr) (nf : D ∉ fp) (xs : List Str) (el : xs.length = n) (hn : n ≤ 4000) (val : ∀ i v, P i v → ∃ t, v = .str (xs.getD i Str.empty) t) :
    ∀ (k i : Nat) (s : Shared), n - i = k → i ≤ n → St i s → s.heap.SetOf (strKind prog w) D (fun y => decide (y ∈ ahead xs i)) (unl (ahead xs i)) →
      (∀ s', Moved (D :: wr) G s s' → s'.heap.SetOf (strKind prog w) D (fun y => decide (y ∈ ahead xs n)) (unl (ahead xs n)) → R (.ok (.ret .none)) s') →
      codeAny (model prog w) A (.builtin "set.update.loop" ⟨[.ref D, .ref I], []⟩) R s := by
  have nw : D ∉ wr := fun z => nf (W.sub _ z)
  have sb : ∀ b ∈ wr, b ∈ D :: wr := fun b z => List.mem_cons_of_mem _ z
  have mv : ∀ {s s' : Shared} {S : Str → Bool} {c : Nat}, Moved wr G s s' → s.heap.SetOf (strKind prog w) D S c → s'.heap.SetOf (strKind prog w) D S c := fun {s s' S c} hm ⟨o, es, ep, t, ho, rest⟩ => ⟨o, es, ep, t, hm.heap D _ nw ho, rest⟩
  intro k
  induction k with
  | zero =>
    intro i s hk hi st hS fin
    obtain rfl : i = n := by omega
    refine codeAny_builtin F.entry_set_update_loop ?_
    rw [Around.under_plainId F.plain_set_update_loop _]
    refine wpAny_bind (W.done s _ _ st fun s' hm => ?_)
    exact wpAny_pure (fin s' (hm.mono sb) (mv hm hS))
  | succ k ih =>
    intro i s hk hi st hS fin
    have lt : i < n := by omega
    refine codeAny_builtin F.entry_set_update_loop ?_
    rw [Around.under_plainId F.plain_set_update_loop _]
    refine wpAny_bind (W.item i s _ _ lt st fun v s' hP st' hm => ?_)
    obtain ⟨t, rfl⟩ := val i v hP
    have hS1 := mv hm hS
    have e := ahead_succ (xs := xs) (i := i) (by omega)
    have le := unl_le (ahead xs i)
    have al : (ahead xs i).length ≤ i := by unfold ahead; rw [List.length_reverse, List.length_take]; exact Nat.min_le_left _ _
    generalize xs.getD i Str.empty = y at *
    show wpAny _ A.in1 (holding [Value.str y t] (setAdd D (.str y t)) >>= _) _ _ s'
    refine wpAny_bind (wpAny_holding ?_)
    unfold setAdd
    refine wpAny_holding (wpAny_bind ((strKind prog w).pyHash (k := y) (strKind_is _ _ _ _) ?_))
    refine wpAny_setAddHashed_of (knd := strKind prog w) (s := { s' with toks := s'.toks + 1 }) (strKind_is _ _ _ _) rfl hS1 (by unfold scanBound; omega) fun h' same hS2 => ?_
    have hSi : h'.SetOf (strKind prog w) D (fun z => decide (z ∈ ahead xs (i + 1))) (unl (ahead xs (i + 1))) := by
      rw [e]
      refine SetOf_congr hS2 (fun z => ?_) ?_
      · by_cases h1 : z = y <;> by_cases h2 : z ∈ ahead xs i <;> simp [h1, h2] <;> simp_all
      · rw [show unl (y :: ahead xs i) = if y ∈ ahead xs i then unl (ahead xs i) else unl (ahead xs i) + 1 from rfl]
        by_cases h2 : y ∈ ahead xs i <;> simp [h2]
    refine wpAny_pure ⟨plainId_quiet F.plain_set_update_loop _, ih (i + 1) _ (by omega) lt (W.frame _ s' _ _ st' (Nat.le_succ _) fun b hb o eo => ?_) hSi fun s'' hm2 hS3 => ?_⟩
    · rw [same.2 b fun z : b = D => nf (by rw [← z]; exact hb)]; exact eo
    · refine fin s'' (Moved.trans W.gtrans ((hm.mono sb).then_heap (Nat.le_succ _) fun b o hb eo => ?_) hm2) hS3
      rw [same.2 b fun z : b = D => hb (by rw [z]; exact List.mem_cons_self)]; exact eo
end
section
variable {prog : Program} {w : World} {A : Around} {E : Value → Shared → Prop} {s : Shared}
set_option maxHeartbeats 3200000 in
theorem call_set_list {l : Addr} {items : Array Value} {xs : List Str} {Q : Value → Shared → Prop} (quiet : A.handled = none) (src : s.heap.IsList l items) (are : StrsAre items.toList xs) (few : xs.length ≤ 4000)
    (q : ∀ (h' : Heap) (tk : Nat), h'.SetOf (strKind prog w) s.heap.objs.size (fun y => decide (y ∈ ahead xs items.size)) (unl (ahead xs items.size)) → (∀ b o, b < s.heap.objs.size → s.heap.get? b = some o → h'.get? b = some o) → Q (.ref s.heap.objs.size) { s with heap := h', toks := tk }) :
    wpAny (model prog w) A (call (.type "set") [.ref l]) Q E s := by
  obtain ⟨c0, tl0, z0⟩ := PySem.F.called_set.mro
  have z1 := PySem.F.called_set.made; have z2 := PySem.F.called_set.sub; have z3 := PySem.F.called_set.notType; have z4 := PySem.F.called_set.canCreate; have z5 := PySem.F.typeCall_set_1 (.ref l)
  refine wpAny_call (codeAny_of_tree (show wpAny _ _ (callAny (.type "set") _) _ _ _ from wpAny_pure ⟨Code.quiet_builtin _ (by decide +kernel), codeAny_builtin PySem.F.entry_type_call ?_⟩))
  rw [Around.under_plain (weight_type_call_type "set" [.ref l] []) rfl]
  repeat (any_goals (first | assumption | wp_step))
  refine codeAny_mono (code_set_new_1 (.ref l) (E := E) (Q₁ := fun ob s1 => ∃ led : Bool, ob = .ref s.heap.objs.size ∧ s1 = { s with heap := s.heap.push (newset led) }) fun led => ⟨led, rfl, rfl⟩) fun r s1 hr => ?_
  cases r with
  | error x => exact hr
  | ok fl =>
    cases fl with
    | ret ob =>
      obtain ⟨led, rfl, rfl⟩ := hr
      have gS : (s.heap.push (newset led)).get? s.heap.objs.size = some (newset led) := Heap.get?_push_size _ rfl
      have tS : Shared.TypeIs { s with heap := s.heap.push (newset led) } (.ref s.heap.objs.size) "set" := ⟨_, gS, rfl⟩
      have y1 := PySem.F.called_set.init.lookup; have y2 := PySem.F.called_set.init.bind (.ref s.heap.objs.size)
      repeat (any_goals (first | assumption | wp_step))
      refine codeAny_mono (codeAny_call_builtin (R := wants (fun r s2 => r = .none ∧ ∃ h' tk, s2 = { s with heap := h', toks := tk } ∧ h'.SetOf (strKind prog w) s.heap.objs.size (fun y => decide (y ∈ ahead xs items.size)) (unl (ahead xs items.size)) ∧ (∀ b o, b < s.heap.objs.size → s.heap.get? b = some o → h'.get? b = some o)) E) PySem.F.called_set.init.plain PySem.F.entry_set_init (check_set_init_1 tS ?_)) fun r2 s2 hr2 => ?_
      · obtain ⟨⟨oc, od, dt, osl⟩, gl, ec, nl, ed⟩ := src
        simp only at ec ed
        subst ec; subst ed
        have gl1 : (s.heap.push (newset led)).get? l = some { cls := .type "list", dict := od, data := .seq items nl, slots := osl } := Heap.get?_push_of_some _ gl
        have x1 := PySem.F.sub_list_set; have x2 := PySem.F.sub_list_frozenset
        have x3 : (Value.type "list" == Value.type "dict") = false := by decide
        have sr1 : (s.heap.push (newset led)).IsList l items := ⟨_, gl1, rfl, nl, rfl⟩
        unfold Builtin.«set.__init__» noKeywords Builtin.Frozenset.updateFrom
        generalize hPI : pyIter = PI
        wp_walk
        subst hPI
        refine wpAny_pyIter_list sr1 (wpAny_bind (wpAny_runValue ?_))
        have lS : l < s.heap.objs.size := Heap.lt_size gl
        have neI : l ≠ (s.heap.push (newset led)).objs.size := by rw [Heap.size_push]; exact Nat.ne_of_lt (Nat.lt_succ_of_lt lS)
        have nf : s.heap.objs.size ∉ [(s.heap.push (newset led)).objs.size, l]  := by
          rw [Heap.size_push]
          intro z
          rcases List.mem_cons.mp z with z | z
          · exact Nat.ne_of_lt (Nat.lt_succ_self _) z
          · exact Nat.ne_of_gt lS (List.mem_singleton.mp z)
        have el : xs.length = items.size := by rw [← StrsAre.len_eq are, Array.length_toList]
        refine set_loop ((Walks.list (show A.in1.in1.in1.handled = none by simp [quiet]) _ l neI items).toS) s.heap.objs.size nf xs el (by omega) (fun i v hv => nth_str are i v (by rw [Array.getElem?_toList]; exact hv)) (items.size - 0) 0 _ (by omega) (Nat.zero_le _)
          ⟨⟨_, Heap.get?_push_size _ rfl, rfl, rfl⟩, (sr1.push _)⟩ ?g1 ?g2
        case g1 =>
          refine SetOf_congr ((setObjOf_fresh (knd := strKind prog w) led).setOf (Heap.get?_push_of_some _ gS) (by unfold scanBound; omega)) (fun _ => by simp [ahead]) (by simp [ahead, unl])
        case g2 =>
          intro s' hm hS'
          obtain ⟨h', g', d', tk', os'⟩ := s'
          obtain rfl : g' = s.gens := hm.gens
          obtain rfl : d' = s.drawn := hm.drawn
          obtain rfl : os' = s.os := hm.os
          refine wpAny_pure (wpAny_pure ⟨rfl, h', tk', rfl, hS', fun b o hb e => ?_⟩)
          refine hm.heap b o ?_ (Heap.get?_push_of_some _ (Heap.get?_push_of_some _ e))
          rw [Heap.size_push]
          intro z
          rcases List.mem_cons.mp z with z | z
          · exact Nat.ne_of_lt hb z
          · exact Nat.ne_of_lt (Nat.lt_succ_of_lt hb) (List.mem_singleton.mp z)
      · cases r2 with
        | error x => exact hr2
        | ok fl2 =>
          cases fl2 with
          | ret r =>
            obtain ⟨rfl, h', tk, rfl, a1, a2⟩ := hr2
            repeat (any_goals (first | assumption | wp_step))
            exact q _ _ a1 a2
          | _ => exact hr2.elim
    | _ => exact hr.elim
set_option maxHeartbeats 3200000 in
theorem call_set_tuple {l : Addr} {items : Array Value} {xs : List Str} {Q : Value → Shared → Prop} (quiet : A.handled = none) (src : s.heap.IsTuple l items) (are : StrsAre items.toList xs) (few : xs.length ≤ 4000)
    (q : ∀ (h' : Heap) (tk : Nat), h'.SetOf (strKind prog w) s.heap.objs.size (fun y => decide (y ∈ ahead xs items.size)) (unl (ahead xs items.size)) → (∀ b o, b < s.heap.objs.size → s.heap.get? b = some o → h'.get? b = some o) → Q (.ref s.heap.objs.size) { s with heap := h', toks := tk }) :
    wpAny (model prog w) A (call (.type "set") [.ref l]) Q E s := by
  obtain ⟨c0, tl0, z0⟩ := PySem.F.called_set.mro
  have z1 := PySem.F.called_set.made; have z2 := PySem.F.called_set.sub; have z3 := PySem.F.called_set.notType; have z4 := PySem.F.called_set.canCreate; have z5 := PySem.F.typeCall_set_1 (.ref l)
  refine wpAny_call (codeAny_of_tree (show wpAny _ _ (callAny (.type "set") _) _ _ _ from wpAny_pure ⟨Code.quiet_builtin _ (by decide +kernel), codeAny_builtin PySem.F.entry_type_call ?_⟩))
  rw [Around.under_plain (weight_type_call_type "set" [.ref l] []) rfl]
  repeat (any_goals (first | assumption | wp_step))
  refine codeAny_mono (code_set_new_1 (.ref l) (E := E) (Q₁ := fun ob s1 => ∃ led : Bool, ob = .ref s.heap.objs.size ∧ s1 = { s with heap := s.heap.push (newset led) }) fun led => ⟨led, rfl, rfl⟩) fun r s1 hr => ?_
  cases r with
  | error x => exact hr
  | ok fl =>
    cases fl with
    | ret ob =>
      obtain ⟨led, rfl, rfl⟩ := hr
      have gS : (s.heap.push (newset led)).get? s.heap.objs.size = some (newset led) := Heap.get?_push_size _ rfl
      have tS : Shared.TypeIs { s with heap := s.heap.push (newset led) } (.ref s.heap.objs.size) "set" := ⟨_, gS, rfl⟩
      have y1 := PySem.F.called_set.init.lookup; have y2 := PySem.F.called_set.init.bind (.ref s.heap.objs.size)
      repeat (any_goals (first | assumption | wp_step))
      refine codeAny_mono (codeAny_call_builtin (R := wants (fun r s2 => r = .none ∧ ∃ h' tk, s2 = { s with heap := h', toks := tk } ∧ h'.SetOf (strKind prog w) s.heap.objs.size (fun y => decide (y ∈ ahead xs items.size)) (unl (ahead xs items.size)) ∧ (∀ b o, b < s.heap.objs.size → s.heap.get? b = some o → h'.get? b = some o)) E) PySem.F.called_set.init.plain PySem.F.entry_set_init (check_set_init_1 tS ?_)) fun r2 s2 hr2 => ?_
      · obtain ⟨⟨oc, od, dt, osl⟩, gl, ec, nl, ed⟩ := src
        simp only at ec ed
        subst ec; subst ed
        have gl1 : (s.heap.push (newset led)).get? l = some { cls := .type "tuple", dict := od, data := .seq items nl, slots := osl } := Heap.get?_push_of_some _ gl
        have x1 := PySem.F.sub_tuple_set; have x2 := PySem.F.sub_tuple_frozenset
        have x3 : (Value.type "tuple" == Value.type "dict") = false := by decide
        have sr1 : (s.heap.push (newset led)).IsTuple l items := ⟨_, gl1, rfl, nl, rfl⟩
        unfold Builtin.«set.__init__» noKeywords Builtin.Frozenset.updateFrom
        generalize hPI : pyIter = PI
        wp_walk
        subst hPI
        refine wpAny_pyIter_tuple sr1 (wpAny_bind (wpAny_runValue ?_))
        have lS : l < s.heap.objs.size := Heap.lt_size gl
        have neI : l ≠ (s.heap.push (newset led)).objs.size := by rw [Heap.size_push]; exact Nat.ne_of_lt (Nat.lt_succ_of_lt lS)
        have nf : s.heap.objs.size ∉ [(s.heap.push (newset led)).objs.size, l]  := by
          rw [Heap.size_push]
          intro z
          rcases List.mem_cons.mp z with z | z
          · exact Nat.ne_of_lt (Nat.lt_succ_self _) z
          · exact Nat.ne_of_gt lS (List.mem_singleton.mp z)
        have el : xs.length = items.size := by rw [← StrsAre.len_eq are, Array.length_toList]
        refine set_loop ((Walks.tuple (show A.in1.in1.in1.handled = none by simp [quiet]) _ l neI items).toS) s.heap.objs.size nf xs el (by omega) (fun i v hv => nth_str are i v (by rw [Array.getElem?_toList]; exact hv)) (items.size - 0) 0 _ (by omega) (Nat.zero_le _)
          ⟨⟨_, Heap.get?_push_size _ rfl, rfl, rfl⟩, (sr1.push _)⟩ ?g1 ?g2
        case g1 =>
          refine SetOf_congr ((setObjOf_fresh (knd := strKind prog w) led).setOf (Heap.get?_push_of_some _ gS) (by unfold scanBound; omega)) (fun _ => by simp [ahead]) (by simp [ahead, unl])
        case g2 =>
          intro s' hm hS'
          obtain ⟨h', g', d', tk', os'⟩ := s'
          obtain rfl : g' = s.gens := hm.gens
          obtain rfl : d' = s.drawn := hm.drawn
          obtain rfl : os' = s.os := hm.os
          refine wpAny_pure (wpAny_pure ⟨rfl, h', tk', rfl, hS', fun b o hb e => ?_⟩)
          refine hm.heap b o ?_ (Heap.get?_push_of_some _ (Heap.get?_push_of_some _ e))
          rw [Heap.size_push]
          intro z
          rcases List.mem_cons.mp z with z | z
          · exact Nat.ne_of_lt hb z
          · exact Nat.ne_of_lt (Nat.lt_succ_of_lt hb) (List.mem_singleton.mp z)
      · cases r2 with
        | error x => exact hr2
        | ok fl2 =>
          cases fl2 with
          | ret r =>
            obtain ⟨rfl, h', tk, rfl, a1, a2⟩ := hr2
            repeat (any_goals (first | assumption | wp_step))
            exact q _ _ a1 a2
          | _ => exact hr2.elim
    | _ => exact hr.elim
end
section
variable {X : Cx} {a : Expr} {r : En} {m : Mu} {F : Pd} {E : Xd} {p p2 q0 pos : Pos} {k : Nat} {N : List Str}
theorem strs_are : ∀ {ys : List Str} {us : List Value}, Vals (ys.map V.str) us → StrsAre us ys
  | [], _, .nil => .nil
  | y :: ys, _, .cons z t => by
    obtain ⟨k, rfl⟩ := z
    exact .cons y k (strs_are t)
theorem ahead_all (xs : List Str) : unl (ahead xs xs.length) = unl xs.reverse := by unfold ahead; rw [List.take_length]
theorem le_lenset (gd : Gd k N X) (h1 : X.mg "len" = none) (h2 : X.mg "set" = none) (h : LE X a r m (fun d m1 => ∃ ys : List Str, (d = .lst (ys.map Dt.str) ∨ d = .tup (ys.map Dt.str)) ∧ ys.length ≤ 4000 ∧ F (.int (unl ys.reverse)) m1) E) (g1 : Gl X "len" := by rfl) (g2 : Gl X "set" := by rfl)
    (na : starEach [a] X.env = (false, eval a X.env) :: starEach [] X.env := by rfl) : LE X (.Call (.Name "len" p) [.Call (.Name "set" p2) [a] [] q0] [] pos) r m F E := by
  refine ⟨fun Z st H Q W rp tk nk nx pins s I => ?_⟩
  refine Call_ (ld_blt I g1 h1 bt_len ?_)
  refine callWith_builtin1 (args_cons ?_ rfl) rfl rfl
  refine Call_ (ld_blt I g2 h2 bt_set ?_)
  refine callWith_type1 (args_cons (thn (h.run Z st H (fun v H1 => ∃ (l : Addr) (ys : List Str), v = .ref l ∧ (SqL X.K H1 l (ys.map V.str) ∨ SqT X.K H1 l (ys.map V.str)) ∧ ys.length ≤ 4000 ∧ Q (.int (unl ys.reverse)) H1) W rp tk (fun v H1 d m1 q go so da => ?_) nx pins s I) fun v s1 hh => args_nil ?_) na) na rfl
  · obtain ⟨ys, hd, hl, q⟩ := q
    rcases hd with rfl | rfl
    · cases da with
      | lst a1 a2 =>
        have e := strs_da a2
        subst e
        exact ⟨_, ys, rfl, .inl a1.sq, hl, nk _ H1 _ m1 q go so (.int _)⟩
    · cases da with
      | tup a1 a2 =>
        have e := strs_da a2
        subst e
        exact ⟨_, ys, rfl, .inr a1.sq, hl, nk _ H1 _ m1 q go so (.int _)⟩
  · obtain ⟨x, H1, I1, r1, l, ys, rfl, hq, hl, q⟩ := hh
    cases r1
    have fin : ∀ (its : List Value), Vals (ys.map V.str) its → ∀ (h' : Heap) (tk : Nat), h'.SetOf (strKind X.prog X.w) s1.heap.objs.size (fun y => decide (y ∈ ahead ys its.toArray.size)) (unl (ahead ys its.toArray.size)) → (∀ b o, b < s1.heap.objs.size → s1.heap.get? b = some o → h'.get? b = some o) →
        wpAny (model X.prog X.w) X.A (spliced (backTo pos (starEach [] X.env))) (fun vs s2 => wpAny (model X.prog X.w) X.A (call (.builtin "len") (Value.ref s1.heap.objs.size :: vs)) (EP X pins st Q) X.xe s2) X.xe { s1 with heap := h', toks := tk } := fun its rv h' tk hS hk => by
      have el : its.toArray.size = ys.length := by rw [List.size_toArray, ← rv.length, List.length_map]
      rw [el, ahead_all] at hS
      have le := unl_le ys.reverse
      rw [List.length_reverse] at le
      obtain ⟨o, es, ep, t, ho, hex, hd, _, _, _, hf, hn⟩ := hS
      have I2 : Inv X pins st H1 { s1 with heap := h', toks := tk } := I1.kept fun b o e => hk b o (Heap.lt_size e) e
      exact args_nil (call_len_set ho hex hd hf (by rw [hn]; omega) ⟨.int _, H1, I2.tok _, ⟨_, by rw [hn]⟩, q⟩)
    rcases hq with hq | hq
    · obtain ⟨its, rv, pl, hz⟩ := I1.list hq
      exact call_set_list (I1.ok.hd gd.calm) pl.isList (by simpa using strs_are rv) hl fun h' tk hS hk => fin its rv h' tk hS hk
    · obtain ⟨its, rv, pl, hz⟩ := I1.tuple hq
      exact call_set_tuple (I1.ok.hd gd.calm) pl (by simpa using strs_are rv) hl fun h' tk hS hk => fin its rv h' tk hS hk
end
end Dw
namespace Dw
open PySem PySem.Spec PyProof.Rows L2
/-! ### lists of the store are lent: read as they stand now, for one expression, with no store -/
inductive RzE (m : Mu) : En → En → Prop
  | nil : RzE m [] []
  | non {o : Option Dt} {r r' : En} : RzE m r r' → RzE m (o :: r) (none :: r')
  | cons {d e : Dt} {r r' : En} : Rz m d e → RzE m r r' → RzE m (some d :: r) (some e :: r')
theorem RzE.len {m : Mu} : ∀ {r r' : En}, RzE m r r' → r.length = r'.length
  | _, _, .nil => rfl
  | _, _, .non h => by rw [List.length_cons, List.length_cons, h.len]
  | _, _, .cons _ h => by rw [List.length_cons, List.length_cons, h.len]
theorem RzE.get {m : Mu} : ∀ {r r' : En}, RzE m r r' → ∀ (i : Nat) (e : Dt), r'[i]? = some (some e) → ∃ d, r[i]? = some (some d) ∧ Rz m d e
  | _, _, .nil, i, e, h => by simp at h
  | _, _, .non t, 0, e, h => by simp at h
  | _, _, .non t, i + 1, e, h => by simpa using t.get i e (by simpa using h)
  | _, _, .cons q t, 0, e, h => by simp at h; subst h; exact ⟨_, rfl, q⟩
  | _, _, .cons q t, i + 1, e, h => by simpa using t.get i e (by simpa using h)
def flatD : Dt → Bool
  | .non => true | .bl _ => true | .int _ => true | .str _ => true | _ => false
theorem Da.flat {K : PySem.W.Frag} {D D' : List Addr} {H H' : Hp} {d : Dt} {v : V} (h : Da K D H d v) (hf : flatD d = true) : Da K D' H' d v := by
  cases h <;> first | (cases hf; done) | constructor
section
variable {K : PySem.W.Frag} {Z : List Addr} {m m1 : Mu} {H H' : Hp}
theorem So.nil : So K [] [] H := ⟨List.nodup_nil, (fun _ h => by cases h), (fun _ h => by cases h), (fun _ h => by cases h)⟩
theorem Rep.lend {g : L2.St} {r r' : En} (rp : Rep K Z m H g r) (hr : RzE m r r') : Rep K [] [] H g r' :=
  ⟨So.nil, by rw [rp.len, hr.len], fun i e he => by
    obtain ⟨d, h1, h2⟩ := hr.get i e he
    obtain ⟨v, h3, h4⟩ := rp.at' i d h1
    exact ⟨v, h3, h2.da rp.so h4⟩⟩
theorem Go.lent (go : Go ([] : Mu) H m1 H') : Go m H m H' := ⟨fun a o _ e => go.keep a o (fun z => nomatch z) e, fun _ h => .inl h⟩
theorem So.lent (so : So K Z m H) (go : Go ([] : Mu) H m1 H') : So K Z m H' := by
  have k : ∀ a o, H a = some o → H' a = some o := fun a o e => go.keep a o (fun z => nomatch z) e
  have x : Ext (Z ++ dom m) H (Z ++ dom m) H' := (Go.lent (m := m) go).full Z
  refine ⟨so.nd, fun a ha => ?_, so.dj, fun p hp => ?_⟩
  · have h := so.zs a ha
    cases e : H a with
    | none => exact absurd e h.1
    | some o =>
      rw [e] at h
      rw [k a o e]
      exact h
  · have y := so.ob p hp
    cases e2 : p.2 with
    | lst es =>
      rw [e2] at y
      obtain ⟨xs, e1, e3⟩ := y
      exact ⟨xs, k _ _ e1, e3.move x⟩
    | ins C dx fs =>
      rw [e2] at y
      obtain ⟨xs, e1, e3⟩ := y
      exact ⟨xs, k _ _ e1, e3.move x⟩
    | gen φ es =>
      rw [e2] at y
      obtain ⟨xs, e1, e3⟩ := y
      exact ⟨xs, k _ _ e1, e3.1.move x, e3.2⟩
end
section
variable {X : Cx} {e : Expr} {r : En} {m : Mu} {F : Pd} {E : Xd}
theorem le_lend {r' : En} (hr : RzE m r r') (h : LE X e r' [] (fun d _ => flatD d = true ∧ F d m) X0) : LE X e r m F E :=
  ⟨fun Z g H Q W rp tk nk nx => h.run [] g H Q W (rp.lend hr) tk (fun v H' d m' q go so da => nk v H' d m q.2 go.lent (rp.so.lent go) (da.flat q.1)) (fun _ _ _ _ _ _ _ _ q => nomatch q)⟩
theorem lt_lend {r' : En} {G : Bool → Mu → Prop} (hr : RzE m r r') (h : LT X e r' [] (fun b _ => G b m) X0) : LT X e r m G E :=
  ⟨fun Z g H Q W rp tk nk nx => h.run [] g H Q W (rp.lend hr) tk (fun b H' m' q go so => nk b H' m q go.lent (rp.so.lent go)) (fun _ _ _ _ _ _ _ _ q => nomatch q)⟩
end
section
variable {P : Program} {w : World} {K : PySem.W.Frag} {mg : Str → Option Value} {base : Heap}
theorem toSp.imp {W W' : Spd} (h : ∀ ds m F E, W' ds m F E → W ds m F E) : ∀ vs H Q E, toSp K W' vs H Q E → toSp K W vs H Q E := fun vs H Q E q => by
  obtain ⟨Z, ds, m, F, E', so, da, hw, nk, ne⟩ := q
  exact ⟨Z, ds, m, F, E', so, da, h _ _ _ _ hw, nk, ne⟩
theorem FnD.imp {x : Str} {k : Nat} {W W' : Spd} (D : FnD P w K mg base x k W) (h : ∀ ds m F E, W' ds m F E → W ds m F E) : FnD P w K mg base x k W' := by
  obtain ⟨f, fd, ps, G, h1, h2, h3⟩ := D.ex
  exact ⟨f, fd, ps, G.imp (toSp.imp h), h1, h2, h3⟩
def Or2 (W1 W2 : Spd) : Spd := fun ds m F E => W1 ds m F E ∨ W2 ds m F E
theorem FnG.or {k : Nat} {f : Addr} {fd : FuncData} {ps : List Str} {W1 W2 : Spd} (G1 : FnG P w K mg base k f fd ps (toSp K W1)) (G2 : FnG P w K mg base k f fd ps (toSp K W2)) : FnG P w K mg base k f fd ps (toSp K (Or2 W1 W2)) := by
  have sp : ∀ vs H Q E, toSp K (Or2 W1 W2) vs H Q E → toSp K W1 vs H Q E ∨ toSp K W2 vs H Q E := fun vs H Q E q => by
    obtain ⟨Z, ds, m, F, E', so, da, hw, nk, ne⟩ := q
    rcases hw with hw | hw
    · exact .inl ⟨Z, ds, m, F, E', so, da, hw, nk, ne⟩
    · exact .inr ⟨Z, ds, m, F, E', so, da, hw, nk, ne⟩
  refine ⟨fun vs H Q E q => ?_, fun A outer s H args us vs Q E hr hg e0 hb rv q => ?_⟩
  · rcases sp _ _ _ _ q with q | q
    · exact G1.len vs H Q E q
    · exact G2.len vs H Q E q
  · rcases sp _ _ _ _ q with q | q
    · exact G1.run A outer s H args us vs Q E hr hg e0 hb rv q
    · exact G2.run A outer s H args us vs Q E hr hg e0 hb rv q
theorem FnD.left {x : Str} {k : Nat} {W1 W2 : Spd} (D : FnD P w K mg base x k (Or2 W1 W2)) : FnD P w K mg base x k W1 := D.imp fun _ _ _ _ h => .inl h
theorem FnD.right {x : Str} {k : Nat} {W1 W2 : Spd} (D : FnD P w K mg base x k (Or2 W1 W2)) : FnD P w K mg base x k W2 := D.imp fun _ _ _ _ h => .inr h
end
end Dw
namespace Dw
open PySem PySem.Spec PyProof.Rows L2
/-! ### x.replace(y, z) where y is nowhere; x.split(); the result that nobody looks at -/
section
variable {X : Cx}
theorem mt_replace0 : MtR X "str.replace" (fun x xs H Q => ∃ a b c, x = .str a ∧ xs = [.str b, .str c] ∧ (Builtin.Str.occurrences a b 0 a.length (a.length + 1)).isEmpty = true ∧ Q (.str a) H) := by
  intro pins s σ H x xs v us Q I rx rs h
  obtain ⟨a, b, c, rfl, rfl, ho, q⟩ := h
  obtain ⟨t, rfl⟩ := rx
  cases rs with
  | cons r1 rs =>
    cases rs with
    | cons r2 rs =>
      cases rs
      obtain ⟨t1, rfl⟩ := r1
      obtain ⟨t2, rfl⟩ := r2
      refine call_gives F.slot_str_replace (typeIs_str _ _ _) F.entry_str_replace (F.args_str_replace_3 _ _ _) (gives_str_replace a b c t t1 t2 fun h => ?_) ?_
      · rw [ho] at h; cases h
      · rw [ho, Bool.true_or, if_pos rfl]
        exact ⟨.str a, H, I, ⟨_, rfl⟩, q⟩
end
section
variable {X : Cx} {o e e2 : Expr} {r : En} {m : Mu} {F : Pd} {E : Xd} {apos pos : Pos}
theorem le_replace0 (h : LE X o r m (fun x m1 => (∃ z, x = .str z) ∧ LA X [e, e2] r m1 (fun ds m2 => ∃ a b c, x = .str a ∧ ds = [.str b, .str c] ∧ (Builtin.Str.occurrences a b 0 a.length (a.length + 1)).isEmpty = true ∧ F (.str a) m2) E) E)
    (hbase : attributeBase o "replace" X.env (eval o X.env) = eval o X.env := by rfl)
    (hfew : ((backTo pos (starEach [e, e2] X.env)).all (fun x => !x.1) && (backToKw pos (keywordEach [] X.env)).all (fun x => x.1.isSome)
      && decide ([e, e2].length + ([] : List Keyword).length + (if ([] : List Keyword).isEmpty then 0 else 1) < 30)) = true := by rfl)
    (hline : (apos.endLine == pos.line) = true := by rfl) (hs : starEach [e, e2] X.env = (false, eval e X.env) :: starEach [e2] X.env := by rfl) (hplain : (backTo pos (starEach [e2] X.env)).any (·.1) = false := by rfl) : LE X (.Call (.Attribute o "replace" apos) [e, e2] [] pos) r m F E := by
  refine le_ms PySem.F.slot_str_replace PySem.F.type_str_replace mt_replace0 (h.imp fun x m1 q => ⟨q.1, ⟨fun Z st H Q W rp tk nk nx => q.2.run Z st H Q W rp tk (fun vs H1 ds m2 q2 => nk vs H1 ds m2 ⟨fun Z9 H9 vx vs9 Q9 so9 da9 dl9 nk9 => ?_⟩) nx⟩⟩) hbase hfew hline hs hplain
  obtain ⟨a, b, c, rfl, rfl, ho, q2⟩ := q2
  cases da9
  cases dl9 with
  | cons d1 d2 =>
    cases d2 with
    | cons d2 d3 =>
      cases d3
      cases d1
      cases d2
      exact ⟨a, b, c, rfl, rfl, ho, nk9 _ H9 _ m2 q2 Ext.rfl' so9 (.str a)⟩
/-- x.split(): the words as a list that stands still -/
theorem le_words (h : LE X o r m (fun x m1 => ∃ a, x = .str a ∧ a.length + 2 ≤ sizeLine ∧ F (.lst ((Txt.words a).map Dt.str)) m1) E)
    (hbase : attributeBase o "split" X.env (eval o X.env) = eval o X.env := by rfl) (hline : (apos.endLine == pos.line) = true := by rfl) : LE X (.Call (.Attribute o "split" apos) [] [] pos) r m F E := by
  refine ⟨fun Z st H Q W rp tk nk nx => (pe_words pe_w hbase hline).w ?_⟩
  refine h.run Z st H _ W rp tk (fun v H1 d m1 q go so da => ?_) nx
  obtain ⟨a, rfl, hz, q⟩ := q
  cases da
  refine ⟨⟨a, rfl⟩, a, rfl, rfl, hz, fun p hp => ?_⟩
  have x1 : Ext (dom m1) H1 (dom m1) (upd H1 p (.lst ((Txt.words a).map V.str))) := Ext.fresh hp
  refine nk _ _ _ m1 q (go.trans x1) (so.laid hp) (.lst ⟨so.fresh hp, upd_same⟩ ?_)
  have e : ∀ ys : List Str, DaL X.K (Z ++ dom m1) (upd H1 p (.lst ((Txt.words a).map V.str))) (ys.map Dt.str) (ys.map V.str) := fun ys => by
    induction ys with
    | nil => exact .nil
    | cons y ys ih => exact .cons (.str y) ih
  exact e _
end
section
variable {X : Cx} {o e : Expr} {r : En} {m : Mu} {F : Pd} {E : Xd} {apos pos : Pos}
/-- bs.index(True) -/
theorem bls_da {K : PySem.W.Frag} {D : List Addr} {H : Hp} : ∀ {bs : List Bool} {vs : List V}, DaL K D H (bs.map Dt.bl) vs → vs = bs.map V.bl
  | [], _, .nil => rfl
  | b :: bs, _, .cons h t => by
    cases h
    rw [bls_da t]
    rfl
theorem le_indexT (h : LE X o r m (fun x m1 => ∃ (bs : List Bool) (j : Nat), x = .lst (bs.map Dt.bl) ∧ bs[j]? = some true ∧ (∀ i < j, bs[i]? = some false) ∧ LA X [e] r m1 (fun ds m2 => ds = [.bl true] ∧ F (.int (j : Nat)) m2) E) E)
    (hbase : attributeBase o "index" X.env (eval o X.env) = eval o X.env := by rfl)
    (hfew : ((backTo pos (starEach [e] X.env)).all (fun x => !x.1) && (backToKw pos (keywordEach [] X.env)).all (fun x => x.1.isSome)
      && decide ([e].length + ([] : List Keyword).length + (if ([] : List Keyword).isEmpty then 0 else 1) < 30)) = true := by rfl)
    (hline : (apos.endLine == pos.line) = true := by rfl) (hs : starEach [e] X.env = (false, eval e X.env) :: starEach [] X.env := by rfl) : LE X (.Call (.Attribute o "index" apos) [e] [] pos) r m F E := by
  refine ⟨fun Z st H Q W rp tk nk nx => (pe_bm PySem.F.plainAttrs_list PySem.F.slot_list_index PySem.F.type_list_index mt_index pe_w pa_w hbase hfew hline hs rfl).w ?_⟩
  refine h.run Z st H _ W rp tk (fun v H1 d m1 q go so da => ?_) nx
  obtain ⟨bs, j, rfl, hj, hi, q⟩ := q
  cases da with
  | lst h1 h2 =>
    obtain rfl := bls_da h2
    refine ⟨.inl ⟨rfl, _, h1.sq⟩, q.run Z st H1 _ W (rp.go go so) tk (fun vs H2 es m2 q2 go2 so2 da2 => ?_) (nx.go go)⟩
    obtain ⟨rfl, q2⟩ := q2
    cases da2 with
    | cons d1 d3 =>
      cases d3
      cases d1
      have h3 := h1.move (go2.full Z)
      refine ⟨_, bs.map V.bl, .bl true, j, .bl true, rfl, rfl, h3.sq, rfl, ?_, by rw [List.getElem?_map, hj]; rfl, rfl, fun i z hij hz => ?_, nk _ H2 _ m2 q2 (go.trans go2) so2 (.int _)⟩
      · rw [List.all_map]; exact List.all_eq_true.mpr fun _ _ => rfl
      · rw [List.getElem?_map, hi i hij] at hz
        cases hz
        rfl
end
section
variable {P : Program} {w : World} {K : PySem.W.Frag} {mg : Str → Option Value} {base : Heap}
/-- nobody looks at the result: any value, the store as it was -/
theorem toSp.drop {W W' : Spd} (h : ∀ ds m F E, W' ds m F E → W ds m (fun _ m1 => (∀ x ∈ m, x ∈ m1) ∧ ∀ v, F (.raw v) m) (fun c fs m1 => (∀ x ∈ m, x ∈ m1) ∧ E c fs m)) : ∀ vs H Q E, toSp K W' vs H Q E → toSp K W vs H Q E := fun vs H Q E q => by
  obtain ⟨Z, ds, m, F, E', so, da, hw, nk, ne⟩ := q
  refine ⟨Z, ds, m, _, _, so, da, h _ _ _ _ hw, fun v H' d m' q go so' da' => ?_, fun cls dx fs us H' m' q go so' nd e1 e2 => ?_⟩
  · obtain ⟨hs, q⟩ := q
    exact nk v H' _ m (q v) go.back (so'.back so.nd hs) (.raw v)
  · obtain ⟨hs, q⟩ := q
    exact ne cls dx fs us H' m q go.back (so'.back so.nd hs) (fun z => nd (app_sub hs z)) e1 (e2.move (ext_back hs))
theorem FnD.drop {x : Str} {k : Nat} {W W' : Spd} (D : FnD P w K mg base x k W) (h : ∀ ds m F E, W' ds m F E → W ds m (fun _ m1 => (∀ x ∈ m, x ∈ m1) ∧ ∀ v, F (.raw v) m) (fun c fs m1 => (∀ x ∈ m, x ∈ m1) ∧ E c fs m)) : FnD P w K mg base x k W' := by
  obtain ⟨f, fd, ps, G, h1, h2, h3⟩ := D.ex
  exact ⟨f, fd, ps, G.imp (toSp.drop h), h1, h2, h3⟩
end
section
variable {X : Cx} {m : Mu} {G : Dt → Prop}
theorem o_gtS {x y : Str} (q : G (.bl (decide (y.cps.toList < x.cps.toList)))) : O2 X (compareOp .Gt) (.str x) (.str y) m G :=
  o2_of op_gt_str fun Z H vx vy Q so dx dy nk => by
    cases dx
    cases dy
    exact ⟨x, y, rfl, rfl, nk _ H _ m ⟨rfl, q⟩ Ext.rfl' so (.bl _)⟩
end
theorem ints_da {K : PySem.W.Frag} {D : List Addr} {H : Hp} : ∀ {ns : List Int} {vs : List V}, DaL K D H (ns.map Dt.int) vs → vs = ns.map V.int
  | [], _, .nil => rfl
  | b :: bs, _, .cons h t => by
    cases h
    rw [ints_da t]
    rfl
theorem inV_int (i : Int) (ns : List Int) : inV (.int i) (ns.map V.int) = decide (i ∈ ns) := by
  unfold inV
  induction ns with
  | nil => simp
  | cons a t ih =>
    rw [List.map_cons, List.any_cons, ih]
    by_cases h : a = i
    · subst h; simp [eqV]
    · have h2 : ¬ i = a := fun z => h z.symm
      simp [eqV, h, h2]
section
variable {X : Cx} {m : Mu} {G : Dt → Prop}
theorem o_inI {i : Int} {ns : List Int} (q : G (.bl (decide (i ∈ ns)))) : O2 X (compareOp .In) (.int i) (.tup (ns.map Dt.int)) m G :=
  o2_of op_in_seq fun Z H vx vy Q so dx dy nk => by
    cases dx
    cases dy with
    | tup h1 h2 =>
      have e := ints_da h2
      subst e
      refine ⟨_, _, rfl, .inr h1.sq, rfl, by simp [flatV], nk _ H _ m ⟨rfl, ?_⟩ Ext.rfl' so (.bl _)⟩
      simp only [Bool.false_eq_true, if_false]
      rw [inV_int]; exact q
end
section
variable {P : Program} {w : World} {K : PySem.W.Frag} {mg : Str → Option Value} {base : Heap}
/-- a def whose end is flat, asked with things of the store that are lent -/
theorem toSp.lend {W W' : Spd} (h : ∀ ds m F E, W' ds m F E → ∃ ds', RzL m ds ds' ∧ W ds' [] (fun d _ => flatD d = true ∧ F d m) (fun _ _ _ => False)) : ∀ vs H Q E, toSp K W' vs H Q E → toSp K W vs H Q E := fun vs H Q E q => by
  obtain ⟨Z, ds, m, F, E', so, da, hw, nk, ne⟩ := q
  obtain ⟨ds', hr, hw⟩ := h _ _ _ _ hw
  exact ⟨[], ds', [], _, _, So.nil, hr.da so da, hw, fun v H' d m' q go so' da' => nk v H' d m q.2 go.lent (so.lent go) (da'.flat q.1), fun cls dx fs us H' m' q => q.elim⟩
theorem FnD.lend {x : Str} {k : Nat} {W W' : Spd} (D : FnD P w K mg base x k W) (h : ∀ ds m F E, W' ds m F E → ∃ ds', RzL m ds ds' ∧ W ds' [] (fun d _ => flatD d = true ∧ F d m) (fun _ _ _ => False)) : FnD P w K mg base x k W' := by
  obtain ⟨f, fd, ps, G, h1, h2, h3⟩ := D.ex
  exact ⟨f, fd, ps, G.imp (toSp.lend h), h1, h2, h3⟩
end
end Dw
namespace Dw
open PySem PySem.Spec PyProof.Rows L2
/-! ### try with clauses of several classes: except (A, B, C, D) as e -/
theorem flyZ_keeps {B : Heap} {l : List Env} {e : Addr} {Z : Obj → Prop} {h h' : Heap} (R : HandSPX.FlyingZ B l e Z h) (k : ∀ b o, h.get? b = some o → h'.get? b = some o) : HandSPX.FlyingZ B l e Z h' := by
  obtain ⟨f1, f2, f3, oe, ws, T, oT, ts, he, hz, hd, h1, hn, hne, hT, hdT, h3⟩ := R
  exact ⟨fun b o q => k b o (f1 b o q), f2, f3.of_keeps fun b o q _ => ⟨o, k b o q, rfl⟩, oe, ws, T, oT, ts, k _ _ he, hz, hd, h1, hn, hne, k _ _ hT, hdT, h3⟩
/-- the test of a clause: the class, or a tuple of classes -/
def TestR (X : Cx) (t : Expr) (cs : List Value) : Prop := ∀ (a : Addr) (pn pins : List (Addr × Obj)) (g : L2.St) (H : Hp) (s : Shared) (cls : Value) (b : Bool) (Q : Bool → Shared → Prop) (E : Value → Shared → Prop),
  L2.Inv (X.suite a pn) pins g H s → PySem.W.Looks (model X.prog X.w) s.heap (typeOf (.ref a)) cls → PySem.W.exmAny X.K cls cs = some b →
  (∀ h', (∀ q o, s.heap.get? q = some o → h'.get? q = some o) → Q b { s with heap := h' }) →
  wpAny (model X.prog X.w) (X.A.mark (some (.ref a))) (eval t X.env) (fun c s1 => wpAny (model X.prog X.w) (X.A.mark (some (.ref a))) (excMatches (.ref a) c) Q E s1) E s
section
variable {X : Cx}
theorem named_at {x : Str} {c : Value} {np : Pos} {Q : Value → Shared → Prop} {E : Value → Shared → Prop} {a : Addr} {pn pins : List (Addr × Obj)} {g : L2.St} {H : Hp} {s : Shared} (S : L2.Inv (X.suite a pn) pins g H s) (hc : Names X x c) (q : Q c s) :
    wpAny (model X.prog X.w) (X.A.mark (some (.ref a))) (eval (.Name x np) X.env) Q E s := by
  obtain ⟨hg, hdbg, hm | ⟨hm, hv, hnn⟩⟩ := hc
  · exact ld_glob (X := X.suite a pn) S hg hm q hdbg
  · exact ld_blt (X := X.suite a pn) S hg hm hv q hnn hdbg
theorem test_one {x : Str} {c : Value} {np : Pos} (hc : Names X x c) : TestR X (.Name x np) [c] := fun a pn pins g H s cls b Q E S LT hb q => by
  obtain ⟨b1, d1, h1, h2, rfl⟩ := PySem.W.exmAny_cons hb
  have w2 : some false = some d1 := h2
  cases w2
  refine named_at S hc ((PySem.W.exm_one S.kIn LT h1).here ?_)
  have := q s.heap fun _ _ z => z
  rw [Bool.or_false] at this
  exact this
theorem test_four {x1 x2 x3 x4 : Str} {c1 c2 c3 c4 : Value} {p1 p2 p3 p4 tpos : Pos} {kk : Nat} (n1 : Names X x1 c1) (n2 : Names X x2 c2) (n3 : Names X x3 c3) (n4 : Names X x4 c4) : TestR X (.Tuple [.Name x1 p1, .Name x2 p2, .Name x3 p3, .Name x4 p4] kk tpos) [c1, c2, c3, c4] := fun a pn pins g H s cls b Q E S LT hb q => by
  refine wpAny_Tuple ?_
  refine wpAny_items_cons (named_at S n1 ?_)
  refine wpAny_items_cons (named_at S n2 ?_)
  refine wpAny_items_cons (named_at S n3 ?_)
  refine wpAny_items_cons (named_at S n4 ?_)
  refine wpAny_items_nil ⟨by size_fits, ?_⟩
  have kp : ∀ q o, s.heap.get? q = some o → (s.heap.push { cls := .type "tuple", data := .seq [c1, c2, c3, c4].toArray }).get? q = some o := fun _ _ z => Heap.get?_push_of_some _ z
  exact (PySem.W.exm_tup4 (S.kIn.keeps kp) (LT.keeps kp) (Heap.get?_push_size s.heap rfl) hb).here (q _ kp)
end
abbrev HdlB := Option (List Value × Option Nat × (Addr → Value → Option Addr → TS))
def wHB (K : PySem.W.Frag) (Wo : WX) (D : Ends) : List HdlB → WX
  | [] => Wo
  | none :: _ => fun _ _ _ _ => False
  | some (c, none, ts) :: l => fun cls d g H => ∃ b, PySem.W.exmAny K cls c = some b ∧ (b = true → ∀ a, H a = none → ts a cls d D g H) ∧ (b = false → wHB K Wo D l cls d g H)
  | some (c, some i, ts) :: l => fun cls d g H => ∃ b, PySem.W.exmAny K cls c = some b ∧ (b = true → ∀ a, H a = none → ts a cls d (gone i D) (g.set i (some (.ref a))) H) ∧ (b = false → wHB K Wo D l cls d g H)
inductive HdB (X : Cx) : List ExceptHandler → List HdlB → Prop
  | nil : HdB X [] []
  | rest {h : ExceptHandler} {hds : List ExceptHandler} : HdB X (h :: hds) [none]
  | bare {t : Expr} {c : List Value} {ts : Addr → Value → Option Addr → TS} {b0 : Stmt} {su : List Stmt} {ps : Pos} {hds : List ExceptHandler} {l : List HdlB} (hc : TestR X t c)
      (hsu : ∀ (a : Addr) (oe : Obj) (cls : Value) (d : Option Addr) (pn : List (Addr × Obj)), Zc cls d oe → (∃ vs, oe.data = .fields vs) → PSs (X.suite a ((a, oe) :: pn)) (b0 :: su) (ts a cls d)) (r : HdB X hds l) :
      HdB X (.ExceptHandler (some t) none (b0 :: su) ps :: hds) (some (c, none, ts) :: l)
  | named {t : Expr} {n : Str} {i : Nat} {c : List Value} {ts : Addr → Value → Option Addr → TS} {b0 : Stmt} {su : List Stmt} {ps : Pos} {hds : List ExceptHandler} {l : List HdlB} (hc : TestR X t c) (hi : X.N[i]? = some n) (hln : X.env.kindOf n = some .local)
      (hsu : ∀ (a : Addr) (oe : Obj) (cls : Value) (d : Option Addr) (pn : List (Addr × Obj)), Zc cls d oe → (∃ vs, oe.data = .fields vs) → PSs (X.suite a ((a, oe) :: pn)) (b0 :: su) (ts a cls d)) (r : HdB X hds l) :
      HdB X (.ExceptHandler (some t) (some n) (b0 :: su) ps :: hds) (some (c, some i, ts) :: l)
section
variable {X : Cx} {body : List Stmt} {h0 : ExceptHandler} {hds : List ExceptHandler} {l : List HdlB} {pos : Pos} {tb : WX → TS} {Wo : WX}
theorem ps_tryB (hs : X.stack = X.env :: X.outer) (hf : X.env.frame = some X.env.locals) (hN : X.N.Nodup) (tk : Takes X Wo)
    (hb : ∀ (W : WX) (pn : List (Addr × Obj)) (xe : Value → Shared → Prop), Takes (X.tr pn xe) W → PassesOwn (model X.prog X.w) X.A X.env xe → PSs (X.tr pn xe) body (tb W))
    (hh : HdB X (h0 :: hds) l) : PS X (.Try body (h0 :: hds) [] [] pos) (fun D g H => tb (wHB X.K Wo D l) D g H) := by
  refine ⟨fun pins s g H D I hw => ?_⟩
  have okX := I.ok
  have frX : X.A.frames = some (X.env :: X.outer) := by rw [okX.frames, hs]
  refine wpAny_Try_except (wpAny_mono ((hb (wHB X.K Wo D l) (X.pn ++ pins) (fun u s₁ => wpAny (model X.prog X.w) X.A (noteFrame u X.env) (fun _ s₂ => wpAny (model X.prog X.w) X.A (setFlight u none) (fun _ s₃ =>
    wpAny (model X.prog X.w) X.A (handleBy u X.env (h0 :: hds)) (SP X pins D) X.xe s₃) X.xe s₂) X.xe s₁) (fun u s' xx => ?_) PassesOwn.looking).run [] s g H D (I.toTry _) hw) (fun f s1 hsp => ?_) (fun u s1 hu => hu))
  · obtain ⟨a, B, sI, pins2, g2, H2, cls, d, rfl, J0, nb, up, sky, na, os, ag, wi⟩ := xx
    have J : L2.Inv X pins g2 H2 sI := J0.ofTry okX
    have sky2 : Sky B (X.env :: X.outer) a (Zc cls d) X.env.locals s'.heap := by rw [← hs]; exact sky
    show wpAny (model X.prog X.w) X.A (noteFrame (.ref a) X.env) _ _ _
    refine Sky.land Zc.steady frX hf sky2 fun h3 fl up3 => ?_
    have ground : ∀ h3, HandSPX.FlyingZ B (X.env :: X.outer) a (Zc cls d) h3 → s'.heap.UpToSlots h3 → L2.Inv X pins g2 H2 { s' with heap := h3 } ∧ ∃ o3 vs3, h3.get? a = some o3 ∧ Zc cls d o3 ∧ o3.data = .fields vs3 ∧ L2.Inv (X.suite a ((a, o3) :: (X.pn ++ pins))) [] g2 H2 { s' with heap := h3 } := fun h3 fl up3 => by
      have J3 : L2.Inv X pins g2 H2 { s' with heap := h3 } := J.landed nb fl.1 (up.trans up3) os ag
      obtain ⟨o3, vs3, he3, hz3, hd3⟩ := fl.there
      have offF : a ∉ frs (X.env :: X.outer) := fun hm => by
        obtain ⟨_, o', e', hnf⟩ := fl.2.2.1.mem hm
        rw [he3] at e'
        cases e'
        exact hnf _ hd3
      have offL : a ≠ X.env.locals := fun z => offF (List.mem_filterMap.mpr ⟨X.env, List.mem_cons_self, by rw [hf, z]⟩)
      have offS : a ∉ X.fs := fun hm => by
        obtain ⟨en, h1, h2⟩ := List.mem_filterMap.mp hm
        exact offF (List.mem_filterMap.mpr ⟨en, List.mem_cons_of_mem _ h1, h2⟩)
      exact ⟨J3, o3, vs3, he3, hz3, hd3, J3.suite he3 hd3 na offL offS⟩
    have step : ∀ {hs' : List ExceptHandler} {l' : List HdlB}, HdB X hs' l' → ∀ h3, HandSPX.FlyingZ B (X.env :: X.outer) a (Zc cls d) h3 → s'.heap.UpToSlots h3 → wHB X.K Wo D l' cls d g2 H2 → wpAny (model X.prog X.w) X.A (handleBy (.ref a) X.env hs') (SP X pins D) X.xe { s' with heap := h3 } := by
      intro hs' l' hk
      induction hk with
      | nil =>
        intro h3 fl up3 wi
        obtain ⟨J3, _⟩ := ground h3 fl up3
        refine wpAny_handleBy_nil ?_
        obtain ⟨_, _, _, oe, vs, T, _, _, he, _, hd, h1, _⟩ := id fl
        unfold PySem.passOn
        refine wpAny_bind (wpAny_field he hd h1 ?_)
        rw [if_neg (show ¬ ((Value.ref T == Value.none) = true) from by simp)]
        have out : wpAny (model X.prog X.w) X.A (setFlight (.ref a) X.env.frame) (fun _ s4 => wpAny (model X.prog X.w) X.A (throw (.ref a) : Sem Flow) (SP X pins D) X.xe s4) X.xe { s' with heap := h3 } := by
          rw [hf]
          exact HandSPX.setFlight_upZ fl fun h4 hh4 up4 => wpAny_throw (tk _ _ ⟨a, B, sI, pins, g2, H2, cls, d, rfl, J, nb, (up.trans up3).trans up4, .inr (.inr (by rw [hs]; exact hh4)), na, os, ag, wi⟩)
        first
          | exact wpAny_bind (wpAny_pure (wpAny_bind out))
          | exact wpAny_bind out
      | rest => exact fun h3 fl up3 wi => wi.elim
      | @bare t c ts b0 su ps hds2 l2 hc hsu r ih =>
        intro h3 fl up3 wi
        obtain ⟨J3, o3, vs3, he3, hz3, hd3, S3⟩ := ground h3 fl up3
        obtain ⟨b, hb1, hyes, hno⟩ := wi
        have LT : PySem.W.Looks (model X.prog X.w) h3 (typeOf (.ref a)) cls := fun A Q E s k q => wpAny_typeOf_ref (k _ _ he3) (by rw [hz3.1]; exact q)
        refine wpAny_handleBy_cons (codeAny_handlers_test (hc a _ _ g2 H2 _ cls b _ _ S3 LT hb1 fun h5 kp => ?_)) (by intro q; cases q)
        have fl5 := flyZ_keeps fl kp
        have up5 : s'.heap.UpToSlots h5 := up3.trans (Heap.UpToSlots.of_keeps kp)
        cases b with
        | false => exact ih h5 fl5 up5 (hno rfl)
        | true =>
          refine codeAny_handlers_suite (HandSPX.lands_againZ fl5 fun h4 fl4 up4 => ?_)
          obtain ⟨J4, o4, vs4, he4, hz4, hd4, S4⟩ := ground h4 fl4 (up5.trans up4)
          refine wpAny_mono ((hsu a o4 cls d (X.pn ++ pins) hz4 ⟨_, hd4⟩).run [] _ _ H2 D S4 (hyes rfl a na)) (fun f s6 hsp => ?_) (fun _ _ z => False.elim z)
          cases f with
          | next => obtain ⟨g6, H6, S6, q6⟩ := hsp; exact ⟨g6, H6, S6.unsuite okX, q6⟩
          | brk => obtain ⟨g6, H6, S6, q6⟩ := hsp; exact ⟨g6, H6, S6.unsuite okX, q6⟩
          | cont => obtain ⟨g6, H6, S6, q6⟩ := hsp; exact ⟨g6, H6, S6.unsuite okX, q6⟩
          | ret u => obtain ⟨v6, g6, H6, S6, r6, q6⟩ := hsp; exact ⟨v6, g6, H6, S6.unsuite okX, r6, q6⟩
      | @named t n i c ts b0 su ps hds2 l2 hc hi hln hsu r ih =>
        intro h3 fl up3 wi
        obtain ⟨J3, o3, vs3, he3, hz3, hd3, S3⟩ := ground h3 fl up3
        obtain ⟨b, hb1, hyes, hno⟩ := wi
        have LT : PySem.W.Looks (model X.prog X.w) h3 (typeOf (.ref a)) cls := fun A Q E s k q => wpAny_typeOf_ref (k _ _ he3) (by rw [hz3.1]; exact q)
        refine wpAny_handleBy_cons (codeAny_handlers_test (hc a _ _ g2 H2 _ cls b _ _ S3 LT hb1 fun h5 kp => ?_)) (by intro q; cases q)
        have fl5 := flyZ_keeps fl kp
        have up5 : s'.heap.UpToSlots h5 := up3.trans (Heap.UpToSlots.of_keeps kp)
        cases b with
        | false => exact ih h5 fl5 up5 (hno rfl)
        | true =>
          refine codeAny_handlers_suite_as (HandSPX.lands_againZ fl5 fun h4 fl4 up4 => ?_)
          obtain ⟨J4, o4, vs4, he4, hz4, hd4, S4⟩ := ground h4 fl4 (up5.trans up4)
          refine store_ok (X := X.suite a ((a, o4) :: (X.pn ++ pins))) (v := .ref a) S4 hN hi (.inl hln) rfl (fun s5 S5 => ?_) (.inr hln)
          refine wpAny_mono ((hsu a o4 cls d (X.pn ++ pins) hz4 ⟨_, hd4⟩).run [] s5 _ H2 _ S5 (hyes rfl a na)) (fun f s6 hsp => ?_) (fun _ _ z => False.elim z)
          have fin : ∀ {g6 : L2.St} {H6 : Hp} {Q : Shared → Prop}, L2.Inv (X.suite a ((a, o4) :: (X.pn ++ pins))) [] g6 H6 s6 → (∀ s7, L2.Inv X pins (g6.set i none) H6 s7 → Q s7) →
              wpAny (model X.prog X.w) X.A (do bindName X.env n .none; unbindBehindTheSuite X.env n ps) (fun _ s7 => Q s7) X.xe s6 := fun {g6 H6 Q} S6 hq => gone_ok (S6.unsuite okX) hN hi hln hq
          cases f with
          | next => obtain ⟨g6, H6, S6, q6⟩ := hsp; exact fin S6 fun s7 J7 => ⟨_, _, J7, q6⟩
          | brk => obtain ⟨g6, H6, S6, q6⟩ := hsp; exact fin S6 fun s7 J7 => ⟨_, _, J7, q6⟩
          | cont => obtain ⟨g6, H6, S6, q6⟩ := hsp; exact fin S6 fun s7 J7 => ⟨_, _, J7, q6⟩
          | ret u => obtain ⟨v6, g6, H6, S6, r6, q6⟩ := hsp; exact fin S6 fun s7 J7 => ⟨_, _, _, J7, r6, q6⟩
    exact step hh h3 fl up3 wi
  · cases f with
    | next => obtain ⟨g2, H2, J2, q⟩ := hsp; exact wpAny_execs_nil ⟨g2, H2, J2.ofTry okX, q⟩
    | brk => obtain ⟨g2, H2, J2, q⟩ := hsp; exact ⟨g2, H2, J2.ofTry okX, q⟩
    | cont => obtain ⟨g2, H2, J2, q⟩ := hsp; exact ⟨g2, H2, J2.ofTry okX, q⟩
    | ret u => obtain ⟨v, g2, H2, J2, rv, q⟩ := hsp; exact ⟨v, g2, H2, J2.ofTry okX, rv, q⟩
end
/-! ### over data -/
inductive HdU (X : Cx) (N : List Str) : List ExceptHandler → List (List Value) → Prop
  | nil : HdU X N [] []
  | rest {h : ExceptHandler} {hds : List ExceptHandler} : HdU X N (h :: hds) []
  | bare {t : Expr} {c : List Value} {b0 : Stmt} {su : List Stmt} {ps : Pos} {hds : List ExceptHandler} {cs : List (List Value)} (hc : TestR X t c) (r : HdU X N hds cs) : HdU X N (.ExceptHandler (some t) none (b0 :: su) ps :: hds) (c :: cs)
  | named {t : Expr} {n : Str} {c : List Value} {b0 : Stmt} {su : List Stmt} {ps : Pos} {hds : List ExceptHandler} {cs : List (List Value)} (hc : TestR X t c) (hi : ∃ i : Nat, N[i]? = some n) (hln : X.env.kindOf n = some .local) (r : HdU X N hds cs) :
      HdU X N (.ExceptHandler (some t) (some n) (b0 :: su) ps :: hds) (c :: cs)
def LhU (X : Cx) (N : List Str) (P : Pc) (cls : Value) (fs : List (Str × Dt)) (r : En) (m : Mu) : List ExceptHandler → List (List Value) → Prop
  | [], _ => P.ex cls fs r m
  | .ExceptHandler _ none su _ :: hds, c :: cs => ∃ b, PySem.W.exmAny X.K cls c = some b ∧ (b = true → ∀ a oe pn, LB (X.suite a ((a, oe) :: pn)) su r m { P with ex := X0 }) ∧ (b = false → LhU X N P cls fs r m hds cs)
  | .ExceptHandler _ (some n) su _ :: hds, c :: cs => ∃ b, PySem.W.exmAny X.K cls c = some b ∧
      (b = true → ∃ f, Put N r n f ∧ ∀ a oe pn dx, Zc cls (some dx) oe → (∃ vs, oe.data = .fields vs) → LB (X.suite a ((a, oe) :: pn)) su (f (.cau a dx fs)) m { nx := fun r m => P.nx (unput N n r) m, rt := P.rt, bk := fun r m => P.bk (unput N n r) m, ct := fun r m => P.ct (unput N n r) m, ex := X0 }) ∧ (b = false → LhU X N P cls fs r m hds cs)
  | _ :: _, [] => False
section
variable {X : Cx} {N : List Str} {k : Nat} {r : En} {m : Mu} {P : Pc} {pos : Pos} {body : List Stmt} {h0 : ExceptHandler} {hds : List ExceptHandler}
theorem HdU.to (gd : Gd k N X) : ∀ {hds : List ExceptHandler} {cs : List (List Value)}, HdU X N hds cs → ∃ l, HdB X hds l ∧ ∀ (Z : List Addr) (D : Ends) (W : WX) (P : Pc) (m : Mu) (H : Hp), NP X.K Z m H P D W →
      ∀ cls dx fs vs g' H' r' m', LhU X N P cls fs r' m' hds cs → Go m H m' H' → Rep X.K Z m' H' g' r' → dx ∉ Z ++ dom m' → H' dx = some (.xd vs) → Fds X.K (Z ++ dom m') H' fs vs → wHB X.K W D l cls (some dx) g' H'
  | _, _, .nil => ⟨[], .nil, fun Z D W P m H np cls dx fs vs g' H' r' m' q go rp nd e1 e2 => np.ex cls dx fs vs g' H' r' m' q go rp nd e1 e2⟩
  | _, _, .rest (h := h) => ⟨[none], .rest, fun Z D W P m H np cls dx fs vs g' H' r' m' q go rp nd e1 e2 => by
    cases h
    rename_i o _ _
    cases o <;> exact (show False from q).elim⟩
  | _, _, .bare (c := c) (b0 := b0) (su := su) hc rr => by
    obtain ⟨l, hl, hw⟩ := HdU.to gd rr
    refine ⟨some (c, none, bS X (b0 :: su)) :: l, .bare hc (fun a oe cls d pn hz hv => ⟨fun pins s g H D I q => q oe pn hz hv pins s I⟩) hl, fun Z D W P m H np cls dx fs vs g' H' r' m' q go rp nd e1 e2 => ?_⟩
    obtain ⟨b, hb, h1, h2⟩ := q
    refine ⟨b, hb, fun e a _ oe pn _ _ => ?_, fun e => hw Z D W P m H np cls dx fs vs g' H' r' m' (h2 e) go rp nd e1 e2⟩
    have n2 := np.go go
    exact (h1 e a oe pn).run Z g' H' D (fun _ _ _ _ => False) rp takes0 ⟨n2.nx, n2.rt, n2.bk, n2.ct, fun _ _ _ _ _ _ _ _ q => q.elim⟩
  | _, _, .named (n := n) (c := c) (b0 := b0) (su := su) hc hi hk rr => by
    obtain ⟨l, hl, hw⟩ := HdU.to gd rr
    obtain ⟨i, hi⟩ := hi
    refine ⟨some (c, some i, bS X (b0 :: su)) :: l, .named hc (by rw [gd.hN]; exact hi) hk (fun a oe cls d pn hz hv => ⟨fun pins s g H D I q => q oe pn hz hv pins s I⟩) hl, fun Z D W P m H np cls dx fs vs g' H' r' m' q go rp nd e1 e2 => ?_⟩
    obtain ⟨b, hb, h1, h2⟩ := q
    refine ⟨b, hb, fun e a _ oe pn hz hv => ?_, fun e => hw Z D W P m H np cls dx fs vs g' H' r' m' (h2 e) go rp nd e1 e2⟩
    obtain ⟨f, hp, h1⟩ := h1 e
    obtain ⟨j, hj, hf⟩ := hp.ix
    have ej : i = j := nodup_ix gd.nd hi hj
    subst ej
    have n2 := np.go go
    have rp2 : Rep X.K Z m' H' (g'.set i (some (.ref a))) (f (.cau a dx fs)) := by
      rw [hf]
      exact rp.set i (.cau nd e1 e2)
    have un : ∀ {Fd : En → Mu → Prop} {Q : L2.St → Hp → Prop}, NE X.K Z m' H' Fd Q → NE X.K Z m' H' (fun r m => Fd (unput N n r) m) (fun g H => Q (g.set i none) H) := fun {Fd Q} h g2 H2 r2 m2 q2 go2 rp3 => by
      have q3 : Fd (unput N n r2) m2 := q2
      rw [← unput_set gd.nd hi] at q3
      exact h _ _ _ _ q3 go2 (rp3.unset i)
    exact (h1 a oe pn dx hz hv).run Z _ H' (gone i D) (fun _ _ _ _ => False) rp2 takes0 ⟨un n2.nx, n2.rt, un n2.bk, un n2.ct, fun _ _ _ _ _ _ _ _ q => q.elim⟩
theorem ls_tryU (gd : Gd k N X) (cs : List (List Value)) (hd : HdU X N (h0 :: hds) cs) (h : ∀ pn xe, Gd k N (X.tr pn xe) → LB (X.tr pn xe) body r m { nx := P.nx, rt := P.rt, bk := P.bk, ct := P.ct, ex := fun cls fs r' m' => LhU X N P cls fs r' m' (h0 :: hds) cs })
    (hs : X.stack = X.env :: X.outer := by rfl) (hf : X.env.frame = some X.env.locals := by rfl) : LS X (.Try body (h0 :: hds) [] [] pos) r m P := by
  obtain ⟨l, hl, hw⟩ := hd.to gd
  refine ⟨fun Z g H D W rp tk np => (ps_tryB (tb := fun W' D g H => ∀ pn xe, Takes (X.tr pn xe) W' → PassesOwn (model X.prog X.w) X.A X.env xe → wB (X.tr pn xe) body D g H) hs hf gd.nd' tk (fun W' pn xe t p => ⟨fun pins s g H D I q => q pn xe t p pins s I⟩) hl).w fun pn xe t p => ?_⟩
  exact (h pn xe (gd.tr p)).run Z g H D _ rp t ⟨np.nx, np.rt, np.bk, np.ct, fun cls dx fs vs g' H' r' m' q go rp2 nd e1 e2 => hw Z D W P m H np cls dx fs vs g' H' r' m' q go rp2 nd e1 e2⟩
/-- one class alone -/
theorem exm_single {K : PySem.W.Frag} {cls c : Value} {b : Bool} (h : PySem.W.exmOne K cls c = some b) : PySem.W.exmAny K cls [c] = some b := by
  unfold PySem.W.exmAny
  rw [h]
  show some (b || false) = some b
  rw [Bool.or_false]
theorem exm_cons {K : PySem.W.Frag} {cls c : Value} {cs : List Value} {b d : Bool} (h : PySem.W.exmOne K cls c = some b) (h2 : PySem.W.exmAny K cls cs = some d) : PySem.W.exmAny K cls (c :: cs) = some (b || d) := by
  rw [PySem.W.exmAny, h, h2]
end
section
variable {X : Cx} {m : Mu} {F : Pd}
/-- isinstance(e, C'), e the exception that the suite holds -/
theorem c_isi_cau {a dx C C' : Addr} {oe : Obj} {pn : List (Addr × Obj)} {fs : List (Str × Dt)} {cn : Str} {b : Bool} (hz : Zc (.ref C) (some dx) oe) (hv : ∃ vs, oe.data = .fields vs) (hX : XF X.K C cn) (hb : PySem.W.kitOne X.K (.ref C) (.ref C') = some b) (q : F (.bl b) m) :
    OC (X.suite a ((a, oe) :: pn)) (.builtin "isinstance") [.cau a dx fs, .raw (.ref C')] m F := by
  refine ⟨fun Z H vs Q so da nk pins s g I us rv => ?_⟩
  cases da with
  | cons d1 d2 =>
    cases d2 with
    | cons d2 d3 =>
      cases d3
      cases d2
      cases d1 with
      | cau n h1 h2 =>
        cases rv with
        | cons r1 r2 =>
          cases r2 with
          | cons r2 r3 =>
            cases r3
            cases r1
            cases r2
            obtain ⟨ha, _⟩ := I.pin (a, oe) (List.mem_append_left _ List.mem_cons_self)
            obtain ⟨vs, hd⟩ := hv
            obtain ⟨mA, hns, hr⟩ := (show ObjOk X.prog X.w H s.heap dx (.xd _) from I.hok dx _ h1)
            obtain ⟨od, ho, hl⟩ := lookIn_ns hns
            have J : PySem.W.InstAt s.heap a oe C (some od) := ⟨ha, hz.1, by unfold PySem.W.notCls; rw [hd] <;> rfl, by rw [hz.2]; exact ho⟩
            exact PySem.W.kia_one (PySem.W.kitx_exc hX.cl hX.ga hX.gg hX.ex hX.cc hX.sp hX.tk hX.mr) I.kIn J hb (fun z => nomatch z) fun tk => ⟨.bl b, H, I.tok tk, rfl, nk _ H _ m q Ext.rfl' so (.bl _)⟩
theorem kit_of_exm {K : PySem.W.Frag} {c c' : Addr} (h : PySem.W.exmOne K (.ref c) (.ref c') = some false) (hs : PySem.W.exmOne K (.ref c) (.ref c) = some true) : PySem.W.kitOne K (.ref c) (.ref c') = some false := by
  have hne : c ≠ c' := fun z => by rw [← z, hs] at h; cases h
  unfold PySem.W.exmOne at h
  split at h
  · unfold PySem.W.kitOne
    rw [if_neg (by simpa using hne)]
    exact h
  · cases h
theorem kit_self {K : PySem.W.Frag} {c : Addr} : PySem.W.kitOne K (.ref c) (.ref c) = some true := by
  unfold PySem.W.kitOne
  rw [if_pos (by simp)]
end
section
variable {X : Cx} {e : Expr} {r : En} {m : Mu} {P : Pc} {pos : Pos} {N : List Str}
/-- x = e in an except suite -/
theorem ls_setS {x : Str} {pos' : Pos} {f : Dt → En} (gs : Gs N X) (hp : Put N r x f) (h : LE X e r m (fun d m1 => P.nx (f d) m1) P.ex) (hx : Loc X.env.scope x := by first | exact Or.inl rfl | exact Or.inr rfl) (hs : swapsWith e (some (.Name x pos')) pos.line X.env = pure false := by rfl)
    (hf : X.fn x = true ∨ X.env.scope.names.lookup x = some .local := by first | exact .inl rfl | exact .inr rfl) : LS X (.Assign [.Name x pos'] e pos) r m P := by
  obtain ⟨i, hi, hr⟩ := hp.ix
  refine ⟨fun Z g H D W rp tk np => (ps_set (i := i) (by rw [gs.hN]; exact gs.nd) (by rw [gs.hN]; exact hi) hx pe_w hs hf).w (h.run Z g H _ W rp tk (fun v H1 d m1 q go so da => ?_) np.ex)⟩
  have q' : P.nx (f d) m1 := q
  rw [hr d] at q'
  exact np.nx _ H1 _ m1 q' go ((rp.go go so).set i da)
end
end Dw
namespace Dw
open PySem PySem.Spec PyProof.Rows L2
section
variable {X : Cx} {a b : Expr} {r : En} {m : Mu} {F : Pd} {E : Xd} {pos : Pos}
/-- xs * n: a new list of the store -/
theorem le_mulM (h : LE X a r m (fun x m1 => LE X b r m1 (fun y m2 => ∃ (ds : List Dt) (n : Int), x = .lst ds ∧ y = .int n ∧ -(2 ^ 63) ≤ n ∧ n < 2 ^ 63 ∧ ds.length * n.toNat ≤ sizeLine ∧ ∀ p, p ∉ dom m2 → F (.raw (.ref p)) ((p, .lst (List.replicate n.toNat ds).flatten) :: m2)) E) E) : LE X (.BinOp a .Mult b pos) r m F E := by
  refine ⟨fun Z st H Q W rp tk nk nx => (pe_op op_rep pe_w pe_w).w ?_⟩
  refine h.run Z st H _ W rp tk (fun v H1 d m1 q go so da => ?_) nx
  refine q.run Z st H1 _ W (rp.go go so) tk (fun v2 H2 d2 m2 q2 go2 so2 da2 => ?_) (nx.go go)
  obtain ⟨ds, n, rfl, rfl, h0, h1, hz, q2⟩ := q2
  have da := da.move (go2.full Z)
  cases da2
  cases da with
  | lst h1' h2 =>
    refine ⟨_, _, _, rfl, rfl, h1'.2, h0, h1, by rw [← h2.length]; exact hz, fun l hl => ?_⟩
    obtain ⟨s3, g3, _⟩ := so2.grow hl (h2.flat n.toNat)
    have np : l ∉ dom m2 := fun z => so2.fresh hl (List.mem_append_right _ z)
    exact nk _ _ _ _ (q2 l np) ((go.trans go2).trans g3) s3 (.raw _)
end
end Dw
namespace Dw
open PySem PySem.Spec PyProof.Rows L2
section
variable {X : Cx} {m : Mu} {G : Dt → Prop}
/-- ts * n of a tuple -/
theorem o_mulT {ds : List Dt} {n : Int} (h0 : 2 ≤ n) (h1 : n ≤ 1000) (hz : ds.length ≤ 1000) (hne : ds ≠ []) (q : G (.tup (List.replicate n.toNat ds).flatten)) : O2 X (binaryOp .Mult) (.tup ds) (.int n) m G :=
  o2_of op_repT fun Z H vx vy Q so dx dy nk => by
    cases dx with
    | tup h1' h2 =>
      cases dy
      refine ⟨_, _, _, rfl, rfl, h1'.sq, fun e => hne ?_, h0, h1, by rw [← h2.length]; exact hz, fun l hl => nk _ _ _ m ⟨rfl, q⟩ (Ext.fresh hl) (so.laid hl) (da_new_tup so hl (h2.flat _))⟩
      have := h2.length
      rw [e] at this
      exact List.eq_nil_of_length_eq_zero this
end
end Dw
namespace Dw
open PySem PySem.Spec PyProof.Rows L2 LamX
/-! ### lambdas that are told on: a lambda without parameters over one captured name -/
section
variable {P : Program} {w : World} {H : Hp} {h : Heap}
theorem hok_track {a : Addr} {o : HO} (x : HOk P w H h) (n : H a = none) (new : ObjOk P w (upd H a o) h a o) : HOk P w (upd H a o) h := fun b u e => by
  by_cases hb : b = a
  · subst hb
    rw [upd_same] at e
    cases e
    exact new
  · rw [upd_ne hb] at e
    refine (x b u e).stay (fun _ _ _ q => q) (fun c q => ?_) fun c xs q => ?_
    · rw [upd_ne (ne_of_none q n)]; exact q
    · rw [upd_ne (ne_of_none q n)]; exact q
/-- an abstract heap without one address -/
def less (H : Hp) (c : Addr) : Hp := fun b => if b = c then none else H b
theorem less_same {c : Addr} : less H c c = none := if_pos rfl
theorem less_ne {b c : Addr} (h : b ≠ c) : less H c b = H b := if_neg h
theorem hok_less {c : Addr} (x : HOk P w H h) (h1 : ∀ y, H c ≠ some (.own y)) (h2 : ∀ xs, H c ≠ some (.tup xs)) : HOk P w (less H c) h := fun b u e => by
  by_cases hb : b = c
  · subst hb; rw [less_same] at e; cases e
  · rw [less_ne hb] at e
    refine (x b u e).stay (fun _ _ _ q => q) (fun d q => ?_) fun d xs q => ?_
    · rw [less_ne fun z => h1 _ (z ▸ q)]; exact q
    · rw [less_ne fun z => h2 _ (z ▸ q)]; exact q
end
/-- a cell that holds v -/
def CellO (c : Addr) (v : V) : HO := .ext fun h => ∃ u, RelV v u ∧ h.IsCell c (some u)
/-- the lambda's words, and its captured name -/
structure Lm where
  qual : Str
  params : Arguments
  body : Expr
  scope : Scope
  x : Str
def LamO (L : Lm) (f : Addr) (cc c' : Addr) : HO := .ext fun h => ∃ pm ctv, h.get? f = some (PySem.W.kla_obj "<lambda>" L.qual L.params L.body L.scope [(L.x, cc)] pm c' ctv)
def adr : V → Addr
  | .ref a => a
  | _ => 0
def lamφ (L : Lm) (f : Addr) (vs : List V) : HO := LamO L f (adr (vs.headD .non)) (adr (vs.tail.headD .non))
def cellφ (c : Addr) (vs : List V) : HO := CellO c (vs.headD .non)
def codeφ (q : Str) (c : Addr) (_ : List V) : HO := CodeO c q
/-- the datum of a lambda that holds d -/
def clo (L : Lm) (d : Dt) : Dt := .obj (lamφ L) [.obj cellφ [d], .obj (codeφ L.qual) []]
theorem cell_ok {P : Program} {w : World} {H : Hp} {h : Heap} {c : Addr} {v : V} {u : Value} (r : RelV v u) (x : h.IsCell c (some u)) : ObjOk P w H h c (CellO c v) := by
  obtain ⟨o, e1, e2⟩ := x
  exact ⟨⟨u, r, o, e1, e2⟩, ⟨o, e1⟩, fun h1 h2 ⟨u', r', o', a1, a2⟩ k => ⟨u', r', o', k _ a1, a2⟩⟩
theorem lam_ok {P : Program} {w : World} {H : Hp} {h : Heap} {L : Lm} {f cc c' : Addr} {pm ctv : Value} (e : h.get? f = some (PySem.W.kla_obj "<lambda>" L.qual L.params L.body L.scope [(L.x, cc)] pm c' ctv)) : ObjOk P w H h f (LamO L f cc c') :=
  ⟨⟨pm, ctv, e⟩, ⟨_, e⟩, fun h1 h2 ⟨pm', ctv', a1⟩ k => ⟨pm', ctv', k _ a1⟩⟩
/-- the table of the maker's code object: empty, or with the lambda's one code object -/
def tabφ (pos : Pos) (vs : List V) : HO := match vs with
  | [] => .tbl #[]
  | v :: _ => .tbl #[rawInt pos.line, rawInt pos.col, .ref (adr v)]
section
variable {X : Cx} {pins : List (Addr × Obj)} {g : L2.St} {H : Hp} {s : Shared} {c PT : Addr} {params : Arguments} {body : Expr} {scope : Scope} {pos : Pos} {E : Value → Shared → Prop} {Q : Value → Shared → Prop}
theorem lam_new (I : Inv X pins g H s) (TB : TabB X.base X.mg c PT) (hcode : X.env.code = .ref c) (hP : H PT = some (.tbl #[])) (hdef : defaultsOf params X.env = ([], [])) (hfree : ∀ y ∈ scope.names, y.2 = .free → ∃ c, X.env.cells.lookup y.1 = some c)
    (k : ∀ (f c' : Addr) (pm ctv : Value) (s' : Shared), Inv X pins g (upd (upd H PT (.tbl #[rawInt pos.line, rawInt pos.col, .ref c'])) c' (CodeO c' (X.env.qual ++ "<lambda>"))) s' → H c' = none → H f = none → f ≠ c' → s.heap.objs.size ≤ f →
      s'.heap.get? f = some (PySem.W.kla_obj "<lambda>" (X.env.qual ++ "<lambda>") params body scope (cloFrom X.env.cells scope.names []) pm c' ctv) → Q (.ref f) s') : wpAny (model X.prog X.w) X.A (eval (.Lambda params body scope pos) X.env) Q E s := by
  have tabS : s.heap.get? PT = some { cls := .none, data := .fields #[] } := I.hok PT _ hP
  have none0 : codeAmong pos (#[] : Array Value).toList = none := by simp [codeAmong]
  refine PySem.W.kla_eval hdef (PySem.W.kla_makeFunction (mg := X.mg) (c := c) (P := PT) (ps := #[]) (closure_ok hfree) I.ok.glob (I.mod.glob.keeps I.bk) hcode (TB.code.keeps I.bk) tabS True.intro none0 TB.gP (TB.bm.keeps I.bk) fun c' ctv h' tk kept ge lt rec1 tab1 => ?_)
  obtain ⟨c0, obj0, arr, tok, eq0, get0, dat0, arr1⟩ := rec1
  cases eq0
  have big : s.heap.objs.size ≤ h'.objs.size := Nat.le_of_lt (Nat.lt_of_le_of_lt ge lt)
  have up : ∀ {b : Addr} {o o1 : Obj}, h'.get? b = some o → (h'.push o1).get? b = some o := fun e => Heap.get?_push_of_some _ e
  have J := inv_table (t' := tk) (h' := h'.push (PySem.W.kla_obj "<lambda>" (X.env.qual ++ "<lambda>") params body scope (cloFrom X.env.cells scope.names []) ((X.mg "__name__").getD .none) c' ctv)) I hP (fun b o n e => up (kept b o n e)) (up tab1) ge ⟨obj0, arr, tok, up get0, dat0, arr1⟩
  rw [Array.empty_append] at J
  exact k h'.objs.size c' _ ctv _ J (I.hok.fresh ge) (I.hok.fresh big) (Nat.ne_of_gt lt) big (Heap.get?_push_size _ rfl)
theorem lam_hit {c' : Addr} (I : Inv X pins g H s) (TB : TabB X.base X.mg c PT) (hcode : X.env.code = .ref c) (hP : H PT = some (.tbl #[rawInt pos.line, rawInt pos.col, .ref c'])) (hdef : defaultsOf params X.env = ([], [])) (hfree : ∀ y ∈ scope.names, y.2 = .free → ∃ c, X.env.cells.lookup y.1 = some c)
    (k : ∀ (f : Addr) (pm ctv : Value) (s' : Shared), Inv X pins g H s' → H f = none → s.heap.objs.size ≤ f →
      s'.heap.get? f = some (PySem.W.kla_obj "<lambda>" (X.env.qual ++ "<lambda>") params body scope (cloFrom X.env.cells scope.names []) pm c' ctv) → Q (.ref f) s') : wpAny (model X.prog X.w) X.A (eval (.Lambda params body scope pos) X.env) Q E s := by
  have tabS : s.heap.get? PT = some { cls := .none, data := .fields #[rawInt pos.line, rawInt pos.col, .ref c'] } := I.hok PT _ hP
  have tri : TriplesOk (#[rawInt pos.line, rawInt pos.col, .ref c'] : Array Value).toList := by simp [TriplesOk, rawInt]
  refine PySem.W.kla_eval hdef (PySem.W.kla_makeFunctionHit (mg := X.mg) (c := c) (P := PT) (closure_ok hfree) I.ok.glob (I.mod.glob.keeps I.bk) hcode (TB.code.keeps I.bk) tabS tri (cv := .ref c') (by simp [codeAmong, rawInt]) (TB.bm.keeps I.bk) fun ctv h' tk kept big => ?_)
  refine k h'.objs.size _ ctv _ (I.kept fun b o e => ?_) (I.hok.fresh big) big (Heap.get?_push_size _ rfl)
  exact Heap.get?_push_of_some _ (kept b o e)
end
end Dw
namespace Dw
open PySem PySem.Spec PyProof.Rows L2 LamX
theorem upd_comm {H : Hp} {a b : Addr} {o u : HO} (h : a ≠ b) : upd (upd H a o) b u = upd (upd H b u) a o := by
  funext x
  by_cases h1 : x = a
  · subst h1; rw [upd_ne h, upd_same, upd_same]
  · by_cases h2 : x = b
    · subst h2; rw [upd_same, upd_ne h1, upd_same]
    · rw [upd_ne h2, upd_ne h1, upd_ne h1, upd_ne h2]
/-- the maker's promise: a lambda that holds d; PT the maker's table -/
def W_tell (L : Lm) (PT : Addr) (pos : Pos) : Spd := fun ds m F E => ∃ d cs, ds = [d] ∧ (PT, Mc.gen (tabφ pos) cs) ∈ m ∧ (cs = [] ∨ cs = [.obj (codeφ L.qual) []]) ∧ F (clo L d) (put PT (.gen (tabφ pos) [.obj (codeφ L.qual) []]) m)
section
variable {P : Program} {w : World} {K : PySem.W.Frag} {mg : Str → Option Value} {base : Heap}
/-- what the end of the maker's call needs -/
theorem tell_end {Z : List Addr} {m : Mu} {H H1 : Hp} {F : Pd} {Q : VK} {L : Lm} {PT c' cc f : Addr} {pos : Pos} {cs : List Dt} {d : Dt} {v : V} (so : So K Z m H) (hm : (PT, Mc.gen (tabφ pos) cs) ∈ m) (da : Da K (Z ++ dom m) H d v)
    (h1 : (cs = [] ∧ H c' = none ∧ H1 = upd (upd H PT (.tbl #[rawInt pos.line, rawInt pos.col, .ref c'])) c' (CodeO c' L.qual)) ∨ (H1 = H ∧ c' ∉ Z ++ dom m ∧ H c' = some (CodeO c' L.qual) ∧ H PT = some (.tbl #[rawInt pos.line, rawInt pos.col, .ref c'])))
    (nc : H1 cc = none) (nf : H1 f = none) (hfc : f ≠ cc) (nk : NK K Z m H F Q) (q : F (clo L d) (put PT (.gen (tabφ pos) [.obj (codeφ L.qual) []]) m)) : Q (.ref f) (upd (upd H1 cc (CellO cc v)) f (LamO L f cc c')) := by
  have hPT : PT ∈ dom m := List.mem_map.mpr ⟨_, hm, rfl⟩
  -- the table is written
  have st : So K Z (put PT (.gen (tabφ pos) [.obj (codeφ L.qual) []]) m) H1 ∧ Go m H (put PT (.gen (tabφ pos) [.obj (codeφ L.qual) []]) m) H1 ∧ c' ∉ Z ++ dom m ∧ H1 c' = some (CodeO c' L.qual) := by
    rcases h1 with ⟨rfl, n, rfl⟩ | ⟨rfl, n, e, eP⟩
    · have nc' := so.fresh n
      have hne : PT ≠ c' := fun z => nc' (z ▸ List.mem_append_right _ hPT)
      rw [upd_comm hne]
      have s1 := so.laid (o := CodeO c' L.qual) n
      have g1 : Go m H m (upd H c' (CodeO c' L.qual)) := Ext.fresh n
      have hc : ∀ D : List Addr, Ext (Z ++ dom m) (upd H c' (CodeO c' L.qual)) D (upd (upd H c' (CodeO c' L.qual)) PT (.tbl #[rawInt pos.line, rawInt pos.col, .ref c'])) → McOk K D (upd (upd H c' (CodeO c' L.qual)) PT (.tbl #[rawInt pos.line, rawInt pos.col, .ref c'])) PT (.gen (tabφ pos) [.obj (codeφ L.qual) []]) := fun D x => by
        refine ⟨[.ref c'], upd_same, .cons (.obj (vs := []) (fun z => ?_) ?_ .nil) .nil, fun xs z => (by cases z)⟩
        · rcases x.new c' z with z | z
          · exact nc' z
          · rw [upd_same] at z; cases z
        · rw [upd_ne (Ne.symm hne), upd_same]; rfl
      obtain ⟨s2, g2⟩ := s1.put_mc hm hc
      exact ⟨s2, g1.trans g2, nc', by rw [upd_ne (Ne.symm hne), upd_same]⟩
    · have g0 : Go m H1 (put PT (.gen (tabφ pos) [.obj (codeφ L.qual) []]) m) H1 := ⟨fun _ _ _ e => e, fun a ha => .inl (by rw [put_dom] at ha; exact ha)⟩
      refine ⟨⟨by rw [put_dom]; exact so.nd, so.zs, fun a ha => by rw [put_dom]; exact so.dj a ha, fun p hp => ?_⟩, g0, n, e⟩
      rw [put_dom]
      obtain ⟨p0, hp0, rfl⟩ := List.mem_map.mp hp
      by_cases e2 : p0.1 = PT
      · rw [if_pos e2]
        exact ⟨[.ref c'], eP, .cons (.obj n e .nil) .nil, fun xs z => (by cases z)⟩
      · rw [if_neg e2]
        exact so.ob p0 hp0
  obtain ⟨s1, g1, nc', e1⟩ := st
  have s2 := s1.laid (o := CellO cc v) nc
  have g2 : Go (put PT (.gen (tabφ pos) [.obj (codeφ L.qual) []]) m) H1 (put PT (.gen (tabφ pos) [.obj (codeφ L.qual) []]) m) (upd H1 cc (CellO cc v)) := Ext.fresh nc
  have nf2 : (upd H1 cc (CellO cc v)) f = none := by rw [upd_ne hfc]; exact nf
  have s3 := s2.laid (o := LamO L f cc c') nf2
  have g3 : Go (put PT (.gen (tabφ pos) [.obj (codeφ L.qual) []]) m) (upd H1 cc (CellO cc v)) (put PT (.gen (tabφ pos) [.obj (codeφ L.qual) []]) m) (upd (upd H1 cc (CellO cc v)) f (LamO L f cc c')) := Ext.fresh nf2
  have gg := (g1.trans g2).trans g3
  have hcc : c' ≠ cc := fun z => by rw [z, nc] at e1; cases e1
  have hcf : c' ≠ f := fun z => by rw [z, nf] at e1; cases e1
  refine nk _ _ _ _ q gg s3 (.obj (fun z => ?_) upd_same (.cons (.obj (vs := [v]) (fun z => ?_) ?_ (.cons (da.move (Go.full Z gg)) .nil)) (.cons (.obj (vs := []) (fun z => ?_) ?_ .nil) .nil)))
  · exact s2.fresh nf2 z
  · exact s1.fresh nc z
  · rw [upd_ne (Ne.symm hfc), upd_same]; rfl
  · rw [put_dom] at z; exact nc' z
  · rw [upd_ne hcf, upd_ne hcc]; exact e1
end
end Dw
namespace Dw
open PySem PySem.Spec PyProof.Rows L2 LamX
section
variable {P : Program} {w : World} {K : PySem.W.Frag} {mg : Str → Option Value} {base : Heap}
theorem fn_tell {k : Nat} {f c PT : Addr} {x qual y : Str} {st : Stmt} {oc kV doc pm ct : Value} {od an : Option Addr} {osl : Array (Option Value)} {lpos rpos : Pos} {L : Lm}
    (lk : K.lookup f = some ⟨oc, od, .func (PySem.W.fnOf x qual (defArgs st) (defBody st) (defScope st) .none kV doc pm an (.ref c) ct), osl⟩) (hcd : PySem.W.codeIn K (.ref c) qual = true) (TB : TabB base mg c PT) (S : FnScope [y] [y] (defScope st)) (hy : (defScope st).names.lookup y = some .cell)
    (hbd : defBody st = [.Return (some (.Lambda L.params L.body L.scope lpos)) rpos]) (hx : L.x = y) (hq : ∀ a, (envOfC qual (defScope st) a f (.ref c)).qual ++ "<lambda>" = L.qual) (hdef : ∀ env, defaultsOf L.params env = ([], []))
    (hfr : ∀ z ∈ L.scope.names, z.2 = .free → z.1 = y) (hclo : ∀ (cells : List (Str × Addr)) (cc : Addr), cells.lookup y = some cc → cloFrom cells L.scope.names [] = [(y, cc)]) :
    FnG P w K mg base (k + 1) f (PySem.W.fnOf x qual (defArgs st) (defBody st) (defScope st) .none kV doc pm an (.ref c) ct) [y] (toSp K (W_tell L PT lpos)) := by
  have len : ∀ vs H Q E, toSp K (W_tell L PT lpos) vs H Q E → vs.length = [y].length := fun vs H Q E q => by
    obtain ⟨Z, ds, m, F, E', so, da, ⟨d, cs, rfl, _⟩, _⟩ := q
    rw [← da.length]
    rfl
  refine ⟨len, fun A outer s H args us vs Q E hr hgu e0 hb rv hsp => ?_⟩
  have hl := len _ _ _ _ hsp
  have inK : K.In s.heap := e0.mod.kin.keeps fun b o e => (e0.bs b o e).1
  have nol : s.heap.NoLimit := e0.mod.nolimit.keeps fun b o e => (e0.bs b o e).1
  have kinds : ∀ z ∈ [y].zip us, (defScope st).names.lookup z.1 = some .local ∨ ((defScope st).names.lookup z.1 = some .cell ∧ ((cellsFrom (s.heap.objs.size + 1) (defScope st).names []).lookup z.1).isSome = true) := fun ⟨n, v⟩ hz => by
    rcases S.par n (List.of_mem_zip hz).1 with q | q
    · exact .inl q
    · exact .inr ⟨q, PySem.W.cellsFrom_some _ _ _ (.inl q)⟩
  refine codeAny_call_function hr.depth (inK _ _ lk) rfl S.co S.gen rfl (PySem.W.codeRec_of inK hcd) (hb _ _ _ _ ?_)
  refine wpAny_newFunctionEnv_cells S.kind kinds fun env he s1 xx => ?_
  subst he
  refine ⟨nol.keeps xx.toInCall.keep, codeAny_func ?_⟩
  have I : Inv (cxOf (L2.CX P w) P w K mg base [y] qual (defScope st) f (.ref c) A outer s H E) [] (start [y] vs) H s1 := inv_start S hr.hd e0 hl rv xx
  obtain ⟨Z, ds, m, F, E', so, da, ⟨d, cs, rfl, hm, hcs, q⟩, nk, ne⟩ := hsp
  cases da with
  | @cons _ v _ vs1 da1 da2 =>
    cases da2
    -- the cell
    obtain ⟨cc, hcc⟩ := I.ok.has y (.inl hy)
    have hfree : ∀ z ∈ L.scope.names, z.2 = .free → ∃ c1, (cxOf (L2.CX P w) P w K mg base [y] qual (defScope st) f (.ref c) A outer s H E).env.cells.lookup z.1 = some c1 := fun z hz e => by
      rw [hfr z hz e]
      exact ⟨cc, hcc⟩
    have ccb : s.heap.objs.size ≤ cc := I.ok.cab y cc rfl hcc
    have fin : ∀ (H1 : Hp) (f' c' : Addr) (pm' ctv' : Value) (s' : Shared), Inv (cxOf (L2.CX P w) P w K mg base [y] qual (defScope st) f (.ref c) A outer s H E) [] (start [y] [v]) H1 s' → H1 f' = none → s.heap.objs.size ≤ f' →
        s'.heap.get? f' = some (PySem.W.kla_obj "<lambda>" L.qual L.params L.body L.scope [(y, cc)] pm' c' ctv') →
        ((cs = [] ∧ H c' = none ∧ H1 = upd (upd H PT (.tbl #[rawInt lpos.line, rawInt lpos.col, .ref c'])) c' (CodeO c' L.qual)) ∨ (H1 = H ∧ c' ∉ Z ++ dom m ∧ H c' = some (CodeO c' L.qual) ∧ H PT = some (.tbl #[rawInt lpos.line, rawInt lpos.col, .ref c']))) →
        CE outer P w H s Q (.ref f') s' := fun H1 f' c' pm' ctv' s' J nf hsz ho hH => by
      have ncc : H1 cc = none := J.freeC y cc hcc
      obtain ⟨mm, hn, hlk⟩ := J.loc
      obtain ⟨u, ru, look⟩ := hlk 0 y v rfl rfl (.inr (.inl hy))
      have hcell : s'.heap.IsCell cc (some u) := by
        rcases look with ⟨k1, _⟩ | ⟨_, c1, k2, k3⟩
        · have k1 : (defScope st).names.lookup y = some .local := k1
          rw [hy] at k1; cases k1
        · rw [hcc] at k2; cases k2; exact k3
      have hfc : f' ≠ cc := fun z => by
        obtain ⟨o, e1, e2⟩ := hcell
        rw [← z, ho] at e1
        cases e1
        cases e2
      have nf2 : (upd H1 cc (CellO cc v)) f' = none := by rw [upd_ne hfc]; exact nf
      have hok1 := hok_track J.hok ncc (cell_ok (H := upd H1 cc (CellO cc v)) ru hcell)
      have hok2 := hok_track hok1 nf2 (lam_ok (L := L) (H := upd (upd H1 cc (CellO cc v)) f' (LamO L f' cc c')) (by rw [hx]; exact ho))
      have old : ∀ b u, H1 b = some u → upd (upd H1 cc (CellO cc v)) f' (LamO L f' cc c') b = some u := fun b u e => by
        have n1 : b ≠ f' := fun z => by rw [z, nf] at e; cases e
        have n2 : b ≠ cc := fun z => by rw [z, ncc] at e; cases e
        rw [upd_ne n1, upd_ne n2]
        exact e
      have un := J.base
      refine ⟨.ref f', upd (upd H1 cc (CellO cc v)) f' (LamO L f' cc c'), J.os, J.bare, ⟨un.keep, un.slot, fun b o e n hx' => ?_, un.there, fun b xs e => old _ _ (un.tups b xs e), fun b o u e => old _ _ (un.frzs b o u e), fun b ps e => ?_⟩, hok2, rfl, ?_⟩
      · have hlt : b < s.heap.objs.size := Heap.lt_size e
        rw [upd_ne (Nat.ne_of_lt (Nat.lt_of_lt_of_le hlt hsz)), upd_ne (Nat.ne_of_lt (Nat.lt_of_lt_of_le hlt ccb))]
        exact un.free b o e n hx'
      · obtain ⟨more, z⟩ := un.tbls b ps e
        exact ⟨more, old _ _ z⟩
      · exact tell_end so hm da1 hH ncc nf hfc nk q
    show wpAny _ _ (execs (defBody st) _) _ _ _
    rw [hbd]
    have e1 := so.ob _ hm
    obtain ⟨ws, eP, dc, _⟩ := e1
    rcases hcs with rfl | rfl
    · cases dc
      refine wpAny_execs_cons (wpAny_Return_some (lam_new I TB rfl eP (hdef _) hfree fun f' c' pm' ctv' s' J nC nf nfc hsz ho => ?_))
      rw [hclo _ cc hcc] at ho
      have e2 : (cxOf (L2.CX P w) P w K mg base [y] qual (defScope st) f (.ref c) A outer s H E).env.qual ++ "<lambda>" = L.qual := hq _
      rw [e2] at J ho
      have eP : H PT = some (.tbl #[]) := eP
      have nPT : f' ≠ PT := fun z => by rw [z, eP] at nf; cases nf
      exact fin _ f' c' _ _ s' J (by rw [upd_ne nfc, upd_ne nPT]; exact nf) (Nat.le_trans I.sz hsz) ho (.inl ⟨rfl, nC, rfl⟩)
    · cases dc with
      | cons d1 d2 =>
        cases d2
        cases d1 with
        | @obj c' _ vs0 _ n e3 d4 =>
          cases d4
          have eP : H PT = some (.tbl #[rawInt lpos.line, rawInt lpos.col, .ref c']) := eP
          refine wpAny_execs_cons (wpAny_Return_some (lam_hit I TB rfl eP (hdef _) hfree fun f' pm' ctv' s' J nf hsz ho => ?_))
          rw [hclo _ cc hcc] at ho
          have e2 : (cxOf (L2.CX P w) P w K mg base [y] qual (defScope st) f (.ref c) A outer s H E).env.qual ++ "<lambda>" = L.qual := hq _
          rw [e2] at ho
          exact fin _ f' c' _ _ s' J nf (Nat.le_trans I.sz hsz) ho (.inr ⟨rfl, n, e3, eP⟩)
end
end Dw
namespace Dw
open PySem PySem.Spec PyProof.Rows L2 LamX
/-- a lambda whose body is list(x) -/
structure LmOk (L : Lm) : Prop where
  kind : L.scope.kind = .function
  co : L.scope.isCoroutine = false
  gen : L.scope.isGenerator = false
  own : ∀ y ∈ L.scope.names, y.2 ≠ .local ∧ y.2 ≠ .cell
  fr : ∀ y, L.scope.names.lookup y = some .free → y = L.x
  frx : L.scope.names.lookup L.x = some .free
  gl : L.scope.names.lookup ("list" : Str) = some .globalImplicit
  bd : ∃ p1 p2 p3, L.body = .Call (.Name "list" p1) [.Name L.x p2] [] p3
  nm : (L.x == ("__debug__" : Str)) = false ∧ (L.x == ("__classdict__" : Str)) = false
  bind : ∀ (q : Str) (cl : List (Str × Addr)) (pm cdv ctv : Value), bindArgs (PySem.W.kla_fn "<lambda>" q L.params L.body L.scope cl pm cdv ctv) ⟨[], []⟩ = pure []
abbrev envL (L : Lm) (a f cc c' : Addr) : Env := PySem.W.envX L.qual L.scope a f (.ref c') [(L.x, cc)]
/-- the context of the body -/
def cxL (P : Program) (w : World) (K : PySem.W.Frag) (mg : Str → Option Value) (base : Heap) (L : Lm) (f cc c' : Addr) (A : Around) (outer : List Env) (s : Shared) (H : Hp) (xe : Value → Shared → Prop) : Cx where
  prog := P
  w := w
  K := K
  mg := mg
  base := base
  A := A.deeper (envL L s.heap.objs.size f cc c')
  N := [L.x]
  s_0 := s
  H_0 := H
  env := envL L s.heap.objs.size f cc c'
  outer := outer
  stack := envL L s.heap.objs.size f cc c' :: outer
  ex := []
  fn := fun _ => false
  calm := true
  pn := []
  xe := xe
section
variable {P : Program} {w : World} {K : PySem.W.Frag} {mg : Str → Option Value} {base : Heap} {L : Lm} {f cc c' : Addr} {A : Around} {outer : List Env} {s : Shared} {H : Hp} {xe : Value → Shared → Prop} {v : V} {u : Value}
theorem inv_L {h₁ : Heap} {tk : Nat} (O : LmOk L) (e0 : Env0 P w K mg base A outer s H) (hd : A.handled = none) (hc : H cc = none) (r : RelV v u) (x : s.heap.IsCell cc (some u)) (hns : h₁.Ns s.heap.objs.size fun y => ([] : List (Str × Value)).reverse.lookup y) (kp : ∀ b o, s.heap.get? b = some o → h₁.get? b = some o) :
    Inv (cxL P w K mg base L f cc c' A outer s H xe) [] [some v] H { s with heap := h₁, toks := tk } := by
  have one : ∀ {y : Str} {c1 : Addr}, ([(L.x, cc)] : List (Str × Addr)).lookup y = some c1 → y = L.x ∧ c1 = cc := fun {y c1} e => by
    rw [List.lookup_cons] at e
    cases hb : y == L.x with
    | true => rw [hb] at e; cases e; exact ⟨eq_of_beq hb, rfl⟩
    | false => rw [hb] at e; cases e
  have at1 : ([(L.x, cc)] : List (Str × Addr)).lookup L.x = some cc := by rw [List.lookup_cons, beq_self_eq_true]
  have x1 : h₁.IsCell cc (some u) := x.keeps kp
  refine ⟨⟨e0.mod, O.kind, rfl, rfl, Nat.le_refl _, fun y z c1 e1 e2 => ?_, fun y hy => ?_, fun y c1 z _ => (by cases z), fun _ => hd, Around.frames_deeper e0.frames, .inr ⟨rfl, rfl⟩, fun b z => (by cases z), e0.bs, e0.bsz, fun b _ _ z => (by cases z), fun b z => (by cases z), e0.funs, e0.frf⟩,
    rfl, e0.bare, Un.kept kp, ⟨_, hns, fun i y v' e1 e2 e3 => ?_⟩, fun y c1 e => ?_, e0.hok.fresh (Nat.le_refl _), fun y c1 e => ?_, fun q hq => (by cases hq), e0.hok.kept kp, rfl⟩
  · rw [(one e1).1, (one e2).1]
  · have hy : L.scope.names.lookup y = some .cell ∨ L.scope.names.lookup y = some .free := hy
    rcases hy with hy | hy
    · exact absurd rfl (O.own _ (PySem.mem_of_lookup hy)).2
    · rw [O.fr y hy]; exact ⟨cc, at1⟩
  · match i, e1 with
    | 0, e1 =>
      cases e1
      cases e2
      exact ⟨u, r, .inr ⟨.inr O.frx, cc, at1, x1⟩⟩
    | i + 1, e1 => simp [cxL] at e1
  · rw [(one e).2]; exact ⟨_, x1⟩
  · rw [(one e).2]; exact hc
/-- x(): x holds a lambda that tells list(..) of a list that stands still -/
theorem call_L {X : Cx} {pins : List (Addr × Obj)} {g : L2.St} {H : Hp} {s : Shared} {Q : VK} {L : Lm} {f cc c' l : Addr} {xs : List V} (O : LmOk L) (hr : Room 1 X.A) (hm : X.mg "list" = none) (I : Inv X pins g H s) (e1 : H f = some (LamO L f cc c')) (e2 : H cc = some (CellO cc (.ref l))) (e3 : H c' = some (CodeO c' L.qual)) (hq : SqL X.K H l xs)
    (q : ∀ p, H p = none → Q (.ref p) (upd H p (.lst xs))) : wpAny (model X.prog X.w) X.A (call (.ref f) []) (EP X pins g Q) X.xe s := by
  obtain ⟨⟨pm, ctv, ho⟩, _, _⟩ := I.hok f _ e1
  obtain ⟨⟨u, ru, hcell⟩, _, _⟩ := I.hok cc _ e2
  obtain ⟨⟨oc, vs, t, hoc, hdc, hvc⟩, _, _⟩ := I.hok c' _ e3
  have nown : ∀ y, H cc ≠ some (.own y) := fun y z => by rw [e2] at z; cases z
  have ntup : ∀ ys, H cc ≠ some (.tup ys) := fun ys z => by rw [e2] at z; cases z
  have e0 := I.env0
  have e0' : Env0 X.prog X.w X.K X.mg X.base X.A X.stack s (less H cc) := by
    refine ⟨e0.frames, e0.mod, fun b o e => ⟨(e0.bs b o e).1, ?_⟩, e0.bsz, e0.funs, fun b hb => ?_, hok_less e0.hok nown ntup, e0.bare⟩
    · by_cases hb : b = cc
      · rw [hb, less_same]
      · rw [less_ne hb]; exact (e0.bs b o e).2
    · by_cases hb2 : b = cc
      · rw [hb2, less_same]
      · rw [less_ne hb2]; exact e0.frf b hb
  have lne : l ≠ cc → less H cc l = H l := less_ne
  have hq' : SqL X.K (less H cc) l xs := by
    rcases hq with z | z
    · have hn : l ≠ cc := fun y => by
        subst y
        rcases z with z | ⟨_, z⟩ <;> (rw [e2] at z; cases z)
      refine .inl ?_
      rcases z with z | ⟨o, z⟩
      · exact .inl (by rw [less_ne hn]; exact z)
      · exact .inr ⟨o, by rw [less_ne hn]; exact z⟩
    · exact .inr z
  have rc : codeAny (model X.prog X.w) X.A (.call (.ref f) ⟨[], []⟩) (fun r s' => match r with | .ok (.ret u) => CE X.stack X.prog X.w H s Q u s' | _ => False) s := by
    refine PySem.W.kla_callFunE hr.depth ho rfl O.co O.gen rfl ⟨c', oc, vs, t, rfl, hoc, hdc, hvc⟩ ?_
    rw [O.bind]
    refine wpAny_pure (wpAny_newFunctionEnv (fun y hy => (O.own y hy).2) (fun y hy => absurd hy (by simp)) (fun h₁ hns hsb => ⟨I.nolimit.fresh _ hsb, ?_⟩) O.kind)
    show codeAny _ _ (.expr L.body (envL L s.heap.objs.size f cc c')) _ _
    have kp : ∀ b o, s.heap.get? b = some o → h₁.get? b = some o := fun b o e =>
      have nb := Nat.ne_of_lt (Heap.lt_size e)
      hsb.extBut b o nb (Heap.get?_push_of_some _ e)
    refine PySem.W.kla_codeExpr ?_
    generalize hxe : (fun (e' : Value) (s' : Shared) => wpAny (model X.prog X.w) (X.A.deeper (envL L s.heap.objs.size f cc c')) (leaving (envL L s.heap.objs.size f cc c') e') _ _ s') = xe
    have J : Inv (cxL X.prog X.w X.K X.mg X.base L f cc c' X.A X.stack s (less H cc) xe) [] [some (.ref l)] (less H cc) { s with heap := h₁, toks := s.toks + ([] : List (Str × Value)).length } := inv_L O e0' hr.hd less_same ru hcell hns kp
    obtain ⟨p1, p2, p3, hbd⟩ := O.bd
    rw [hbd]
    have pe := pe_callTy (X := cxL X.prog X.w X.K X.mg X.base L f cc c' X.A X.stack s (less H cc) xe) (p := p1) (pos := p3) call_list_of (x := "list") O.gl hm bt_list (pa_cons (pe_var (i := 0) (pos := p2) rfl (.inr (.inr O.frx)) O.nm.1 O.nm.2) pa_nil)
    refine wpAny_mono (pe.run [] _ _ (less H cc) (fun v H' => ∃ p, v = .ref p ∧ less H cc p = none ∧ H' = upd (less H cc) p (.lst xs)) J ?_) (fun u2 s' hs => ?_) fun e s' hs => hs
    · exact ⟨_, rfl, ⟨l, xs, rfl, .inl hq', fun p hp => ⟨p, rfl, hp, rfl⟩⟩⟩
    · obtain ⟨v2, H2, J2, rv2, p, rfl, hp, rfl⟩ := hs
      have un : Un (frs X.stack) [] (less H cc) (upd (less H cc) p (.lst xs)) s.heap s'.heap := J2.base
      have pnew : s.heap.get? p = none := by
        cases z : s.heap.get? p with
        | none => rfl
        | some o =>
          have := un.free p o z hp (by simp)
          rw [upd_same] at this
          cases this
      obtain ⟨oc2, hoc2, hdc2⟩ := hcell
      have pcc : p ≠ cc := fun z => by rw [z, hoc2] at pnew; cases pnew
      have hpn : H p = none := by rw [less_ne pcc] at hp; exact hp
      obtain ⟨mm, hn, hlk⟩ := J2.loc
      obtain ⟨u3, ru3, look⟩ := hlk 0 L.x (.ref l) rfl rfl (.inr (.inr O.frx))
      have hcell2 : s'.heap.IsCell cc (some u3) := by
        rcases look with ⟨k1, _⟩ | ⟨_, c1, k2, k3⟩
        · have k1 : L.scope.names.lookup L.x = some .local := k1
          rw [O.frx] at k1; cases k1
        · have at1 : ([(L.x, cc)] : List (Str × Addr)).lookup L.x = some cc := by rw [List.lookup_cons, beq_self_eq_true]
          have k2 : ([(L.x, cc)] : List (Str × Addr)).lookup L.x = some c1 := k2
          rw [at1] at k2; cases k2; exact k3
      have eH : upd H p (.lst xs) = upd (upd (less H cc) p (.lst xs)) cc (CellO cc (.ref l)) := by
        funext b
        by_cases h1 : b = cc
        · subst h1; rw [upd_same, upd_ne (Ne.symm pcc)]; exact e2
        · rw [upd_ne h1]
          by_cases h2 : b = p
          · subst h2; rw [upd_same, upd_same]
          · rw [upd_ne h2, upd_ne h2, less_ne h1]
      have ncc : upd (less H cc) p (.lst xs) cc = none := by rw [upd_ne (Ne.symm pcc)]; exact less_same
      have hok2 := hok_track J2.hok ncc (cell_ok (H := upd (upd (less H cc) p (.lst xs)) cc (CellO cc (.ref l))) ru3 hcell2)
      rw [← eH] at hok2
      have pn : ∀ b u, H b = some u → b ≠ p := fun b u e z => by rw [z, hpn] at e; cases e
      refine ⟨.ref p, upd H p (.lst xs), J2.os, J2.bare, ⟨fun b o e n => un.keep b o e ?_, fun b o e n => un.slot b o e ?_, fun b o e n hx => ?_, un.there, fun b ys e => by rw [upd_ne (pn _ _ e)]; exact e, fun b o u e => by rw [upd_ne (pn _ _ e)]; exact e, fun b ps e => ⟨#[], by rw [upd_ne (pn _ _ e)]; simpa using e⟩⟩, hok2, rv2, q p hpn⟩
      · by_cases h1 : b = cc
        · rw [h1]; exact less_same
        · rw [less_ne h1]; exact n
      · by_cases h1 : b = cc
        · rw [h1]; exact less_same
        · rw [less_ne h1]; exact n
      · rw [upd_ne fun z => by rw [z, pnew] at e; cases e]
        exact n
  refine wpAny_call (codeAny_mono rc fun r s' hq2 => ?_)
  cases r with
  | error e => exact False.elim hq2
  | ok fl =>
    cases fl with
    | ret u => exact I.after hq2
    | next => exact False.elim hq2
    | brk => exact False.elim hq2
    | cont => exact False.elim hq2
end
end Dw
namespace Dw
open PySem PySem.Spec PyProof.Rows L2 LamX
section
variable {X : Cx} {r : En} {m : Mu} {F : Pd} {E : Xd} {k : Nat} {N : List Str} {a : Str} {p1 p2 : Pos} {L : Lm}
theorem le_callclo (gd : Gd k N X) (O : LmOk L) (hk : 1 ≤ k) (hm : X.mg "list" = none) (h : LE X (.Name a p1) r m (fun d m1 => ∃ ds, d = clo L (.lst ds) ∧ F (.lst ds) m1) E) : LE X (.Call (.Name a p1) [] [] p2) r m F E := by
  refine ⟨fun Z g H Q W rp tk nk nx pins s I => ?_⟩
  refine wpAny_Call_Name_kw (thn (h.run Z g H (fun v H1 => ∃ f cc c' l xs, v = .ref f ∧ H1 f = some (LamO L f cc c') ∧ H1 cc = some (CellO cc (.ref l)) ∧ H1 c' = some (CodeO c' L.qual) ∧ SqL X.K H1 l xs ∧ ∀ p, H1 p = none → Q (.ref p) (upd H1 p (.lst xs))) W rp tk (fun v H1 d m1 q go so da => ?_) nx pins s I) fun u s1 hh => ?_)
  · obtain ⟨ds, rfl, q⟩ := q
    cases da with
    | @obj f _ vs _ n1 e1 da1 =>
      cases da1 with
      | @cons _ v1 _ _ da1 da2 =>
        cases da2 with
        | @cons _ v2 _ _ da2 da3 =>
          cases da3
          cases da1 with
          | @obj cc _ vs2 _ n2 e2 da4 =>
            cases da2 with
            | @obj c' _ vs3 _ n3 e3 da5 =>
              cases da5
              cases da4 with
              | @cons _ v3 _ _ da6 da7 =>
                cases da7
                cases da6 with
                | @lst l xs _ h1 h2 =>
                  refine ⟨f, cc, c', l, xs, rfl, e1, e2, e3, h1.sq, fun p hp => ?_⟩
                  exact nk _ _ _ m1 q (go.trans (Ext.fresh hp)) (so.laid hp) (da_new_lst so hp h2)
  · obtain ⟨v, H1, I1, rv, f, cc, c', l, xs, rfl, e1, e2, e3, e4, q⟩ := hh
    obtain rfl : u = Value.ref f := rv
    obtain ⟨⟨pm, ctv, ho⟩, _, _⟩ := I1.hok f _ e1
    exact PySem.W.callWith_F0 ⟨_, _, _, _, ho⟩ (call_L O (gd.room.mono hk) hm I1 e1 e2 e3 e4 q)
end
end Dw
namespace Dw
open PySem PySem.Spec PyProof.Rows L2 LamX
/-! ### the end of a law whose defs make lambdas -/
/-- a maker: its code object, its table, where the lambda stands -/
structure Mkr where
  c : Addr
  t : Addr
  pos : Pos
def tabs0 (ts : List Mkr) : Mu := ts.map fun q => (q.t, Mc.gen (tabφ q.pos) [])
theorem tabs0_dom (ts : List Mkr) : dom (tabs0 ts) = ts.map (·.t) := by unfold dom tabs0; rw [List.map_map]; rfl
theorem ints_dal {K : PySem.W.Frag} {D : List Addr} {H : Hp} : ∀ l : List Int, DaL K D H (l.map Dt.int) (l.map V.int)
  | [] => .nil
  | z :: l => .cons (.int z) (ints_dal l)
section
variable {P : Program} {w : World} {K : PySem.W.Frag} {mg mb : Str → Option Value} {k : Nat} {fa a : Addr} {ts : List Mkr} {fd : FuncData} {x : Str} {W : Spd} {s1 : Shared} {vs : List Value} {ns : List Int}
theorem sp_tabs {H : Hp} (hT : ∀ q ∈ ts, H q.t = some (.tbl #[])) (nd : (ts.map (·.t)).Nodup) (na : a ∉ ts.map (·.t)) (h : SqL K H a (ns.map V.int)) (hW : W [.frz (ns.map Dt.int)] (tabs0 ts) (fun d _ => d = .bl true) (fun _ _ _ => False)) : toSp K W [.ref a] H (fun v _ => v = .bl true) fun _ _ _ => False := by
  have so : So K [] (tabs0 ts) H := by
    refine ⟨by rw [tabs0_dom]; exact nd, fun _ z => (by cases z), fun _ z => (by cases z), fun p hp => ?_⟩
    obtain ⟨q, hq, rfl⟩ := List.mem_map.mp hp
    exact ⟨[], hT q hq, .nil, fun xs z => (by cases z)⟩
  have da : Da K ([] ++ dom (tabs0 ts)) H (.frz (ns.map Dt.int)) (.ref a) := by
    refine .frz (xs := ns.map V.int) ?_ (ints_dal ns)
    rcases h with h | h
    · exact .inl ⟨by rw [List.nil_append, tabs0_dom]; exact na, h⟩
    · exact .inr (.inr h)
  refine ⟨[], [.frz (ns.map Dt.int)], tabs0 ts, _, _, so, .cons da .nil, hW, fun v H' d m' q go so' da' => ?_, fun _ _ _ _ _ _ q => q.elim⟩
  have q' : d = .bl true := q
  subst q'
  cases da'
  rfl
theorem lawT (KX : K.In s1.heap) (hns : s1.heap.Ns mainGlobals mg) (hb : s1.heap.Ns builtinsNs mb) (hbb : ∀ x : Str, x ≠ "__name__" → mb x = bootBuiltins x) (hlim : s1.heap.NoLimit) (hg : s1.gens = #[])
    (hT : ∀ q ∈ ts, s1.heap.get? q.t = some { cls := .none, data := .fields #[] }) (nT : ∀ q ∈ ts, K.lookup q.t = none) (hC : ∀ q ∈ ts, PySem.W.CodeHd s1.heap q.c q.t) (nd : (ts.map (·.t)).Nodup)
    (hbm : ∃ (bm : Addr) (ob : Obj), mg "__builtins__" = some (.ref bm) ∧ bm ≠ builtinsNs ∧ s1.heap.get? bm = some ob ∧ ob.cls = .type "module" ∧ ob.dict = some builtinsNs ∧ ob.data = .plain)
    (ha : s1.heap.get? a = some { cls := .type "list", data := .seq vs.toArray }) (hi : IntsAre vs ns) (hl : ns.length ≤ sizeLine) (hr : Room k callerA)
    (F : ∀ base : Heap, K.In base → base.Ns mainGlobals mg → (∀ q ∈ ts, TabB base mg q.c q.t) → FnG P w K mg base k fa fd [x] (toSp K W)) (hbind : ∀ (s : Shared) (u : Value), BindsTo s fd ⟨[u], []⟩ [(x, u)])
    (hW : W [.frz (ns.map Dt.int)] (tabs0 ts) (fun d _ => d = .bl true) (fun _ _ _ => False)) :
    codeAny (model P w) callerA (.call (.ref fa) ⟨[.ref a], []⟩) (fun r s' => r = .ok (.ret (.bool true)) ∧ OldK s1.heap s'.heap ∧ s'.os = s1.os ∧ AllBare s'.gens) s1 := by
  have rv := vals_ints hi
  have lenV := hi.length
  have tab : ∀ b ∈ ts.map (·.t), s1.heap.get? b = some { cls := .none, data := .fields #[] } := fun b hb => by
    obtain ⟨q, hq, rfl⟩ := List.mem_map.mp hb
    exact hT q hq
  have na : a ∉ ts.map (·.t) := fun z => by
    have e := tab a z
    rw [ha] at e
    have e' := congrArg Obj.data (Option.some.inj e)
    cases e'
  have go1 : ∀ Hs : Hp, (∀ b, Hs b ≠ none → b = a ∧ K.lookup a = none ∧ (∃ o ys, Hs a = some (.frz o (.lst ys)))) → SqL K Hs a (ns.map V.int) → HOk P w Hs s1.heap →
      codeAny (model P w) callerA (.call (.ref fa) ⟨[.ref a], []⟩) (fun r s' => r = .ok (.ret (.bool true)) ∧ OldK s1.heap s'.heap ∧ s'.os = s1.os ∧ AllBare s'.gens) s1 := by
    intro Hs hA hS hok
    -- the script's heap, and the tables
    let H : Hp := fun b => if b ∈ ts.map (·.t) then some (.tbl #[]) else Hs b
    have Hin : ∀ {b}, b ∈ ts.map (·.t) → H b = some (.tbl #[]) := fun h => if_pos h
    have Hout : ∀ {b}, b ∉ ts.map (·.t) → H b = Hs b := fun h => if_neg h
    have Hno : ∀ {b}, b ∉ ts.map (·.t) → b ≠ a → H b = none := fun {b} h1 h2 => by
      rw [Hout h1]
      cases e : Hs b with
      | none => rfl
      | some u => exact absurd (hA b (by rw [e]; exact fun z => nomatch z)).1 h2
    have HS : SqL K H a (ns.map V.int) := by
      have ea : H a = Hs a := Hout na
      rcases hS with z | z
      · refine .inl ?_
        rcases z with z | ⟨o, z⟩
        · exact .inl (ea.trans z)
        · exact .inr ⟨o, ea.trans z⟩
      · exact .inr z
    have Hok : HOk P w H s1.heap := fun b u e => by
      by_cases hb1 : b ∈ ts.map (·.t)
      · rw [Hin hb1] at e
        cases e
        exact tab b hb1
      · rw [Hout hb1] at e
        have hba := (hA b (by rw [e]; exact fun z => nomatch z))
        obtain ⟨o, ys, ef⟩ := hba.2.2
        have hab := hba.1
        subst hab
        have hq := hok b u e
        rw [ef] at e
        cases e
        exact hq
    have away : ∀ {b : Addr} {o : Obj}, s1.heap.get? b = some o → (∀ us n, o.data ≠ .seq us n) → o.data ≠ .fields #[] → (hidT s1.heap H).get? b = some o := fun {b o} e h1 h2 => by
      refine hidT_get e (Hno (fun z => ?_) fun z => ?_)
      · rw [tab b z] at e; cases e; exact h2 rfl
      · subst z; rw [ha] at e; cases e; exact h1 _ _ rfl
    have nsK : ∀ {b : Addr} {m : Str → Option Value}, s1.heap.Ns b m → (hidT s1.heap H).Ns b m := fun {b m} ⟨o, es, ep, e, d, r⟩ =>
      ⟨o, es, ep, away e (fun us n z => by rw [d] at z; cases z) (fun z => by rw [d] at z; cases z), d, r⟩
    have inK : K.In (hidT s1.heap H) := fun b o e => by
      refine hidT_get (KX b o e) ?_
      by_cases h1 : b ∈ ts.map (·.t)
      · obtain ⟨q, hq, rfl⟩ := List.mem_map.mp h1
        rw [nT q hq] at e; cases e
      · rw [Hout h1]
        cases e2 : Hs b with
        | none => rfl
        | some u =>
          have h2 := hA b (by rw [e2]; exact fun z => nomatch z)
          rw [h2.1, h2.2.1] at e; cases e
    have TB : ∀ q ∈ ts, TabB (hidT s1.heap H) mg q.c q.t := fun q hq => by
      refine ⟨?_, ?_, fun z => ?_⟩
      · obtain ⟨o, us, file, tf, flags, tg, inF, text, tt, e1, r1, r2, r3, rest⟩ := hC q hq
        refine ⟨o, us, file, tf, flags, tg, inF, text, tt, away e1 (fun us' n z => by rw [r2] at z; cases z) (fun z => ?_), r1, r2, r3, rest⟩
        rw [r2] at z
        cases z
        simp at r3
      · obtain ⟨bm, ob, b1, b2, b3, b4, b5, b6⟩ := hbm
        refine ⟨bm, ob, b1, b2, fun z => ?_, fun z => ?_, away b3 (fun us n z => by rw [b6] at z; cases z) (fun z => by rw [b6] at z; cases z), b4, b5, b6⟩
        · obtain ⟨o, es, ep, e, hd, _⟩ := hns
          rw [z, e] at b3
          cases b3
          rw [hd] at b6
          cases b6
        · rw [z, hT q hq] at b3
          cases b3
          cases b6
      · obtain ⟨o, es, ep, e, hd, _⟩ := hns
        rw [z, hT q hq] at e
        cases e
        cases hd
    have hM : L2.Mod K mg (hidT s1.heap H) := ⟨inK, nsK hns, ⟨mb, nsK hb, hbb⟩, let ⟨mc, h1, h2⟩ := hlim; ⟨mc, nsK h1, h2⟩⟩
    have e0 : Env0 P w K mg (hidT s1.heap H) callerA [] s1 H := ⟨rfl, hM, fun b o e => of_hidT e, Nat.le_of_eq (hidT_size _ _), trivial, fun b z => absurd (show b ∈ ([] : List Addr) from z) (by simp), Hok, .of_eq hg⟩
    refine codeAny_mono ((F _ inK (nsK hns) TB).run callerA [] s1 H ⟨[.ref a], []⟩ [.ref a] [.ref a] _ _ hr rfl e0 (hbind s1 (.ref a)) (.cons rfl .nil) (sp_tabs (fun q hq => Hin (List.mem_map.mpr ⟨q, hq, rfl⟩)) nd na HS hW)) fun o s' h => ?_
    cases o with
    | error u =>
      obtain ⟨_, _, _, _, _, _, _, _, _, _, _, _, z⟩ := h
      exact z.elim
    | ok fl =>
      cases fl with
      | next => exact h.elim
      | brk => exact h.elim
      | cont => exact h.elim
      | ret u =>
        obtain ⟨v, H', os, bare, un, hok', r', q⟩ := h
        have q' : v = .bl true := q
        subst q'
        obtain rfl : u = Value.bool true := r'
        have same : ∀ b o, b ∉ ts.map (·.t) → s1.heap.get? b = some o → s'.heap.get? b = some o := fun b o nb e => by
          cases q : H b with
          | none => exact un.keep b o e q (fun z => absurd (show b ∈ ([] : List Addr) from z) (by simp)) (by simp)
          | some u =>
            have q2 := q
            rw [Hout nb] at q
            have h2 := hA b (by rw [q]; exact fun z => nomatch z)
            obtain ⟨ob, ys, ef⟩ := h2.2.2
            rw [← h2.1, q] at ef
            cases ef
            obtain ⟨e1, _⟩ := Hok b _ q2
            obtain ⟨e2, _⟩ := hok' b _ (un.frzs b ob _ q2)
            rw [e] at e1
            cases e1
            exact e2
        have grew : ∀ q ∈ ts, ∃ more : Array Value, s'.heap.get? q.t = some { cls := .none, data := .fields more } := fun q hq => by
          obtain ⟨more, z⟩ := un.tbls q.t #[] (Hin (List.mem_map.mpr ⟨q, hq, rfl⟩))
          exact ⟨_, hok' q.t _ z⟩
        refine ⟨rfl, ⟨fun b o e => ?_, fun b o e => ?_⟩, os, bare⟩
        · by_cases h1 : b ∈ ts.map (·.t)
          · obtain ⟨q, hq, rfl⟩ := List.mem_map.mp h1
            obtain ⟨more, hm⟩ := grew q hq
            have eo := hT q hq
            rw [eo] at e
            cases e
            exact .inr (.inl ⟨((hC q hq).tab eo).isCodeTable, rfl, #[], more, rfl, by rw [Array.empty_append]; exact hm⟩)
          · exact .inl (same b o h1 e)
        · by_cases h1 : b ∈ ts.map (·.t)
          · obtain ⟨q, hq, rfl⟩ := List.mem_map.mp h1
            obtain ⟨more, hm⟩ := grew q hq
            exact ⟨_, hm⟩
          · exact ⟨o, same b o h1 e⟩
  cases hk : K.lookup a with
  | some o =>
    have e := KX a o hk
    rw [ha] at e
    cases e
    exact go1 (fun _ => none) (fun b z => absurd rfl z) (.inr ⟨_, vs.toArray, _, hk, rfl, rfl, rfl, by rw [List.size_toArray, lenV]; exact hl, by simpa using rv⟩) (fun b u z => nomatch (show (none : Option HO) = some u from z))
  | none =>
    let ob : Obj := { cls := .type "list", data := .seq vs.toArray }
    refine go1 (upd H0 a (.frz ob (.lst (ns.map V.int)))) (fun b z => ?_) (.inl (.inr ⟨ob, upd_same⟩)) (fun b u z => ?_)
    · by_cases h1 : b = a
      · exact ⟨h1, hk, ob, _, upd_same⟩
      · exact absurd (upd_ne h1) z
    · by_cases h1 : b = a
      · subst h1
        rw [upd_same] at z
        cases z
        exact ⟨ha, by rw [List.length_map]; exact hl, vs, _, rv, ha⟩
      · rw [upd_ne h1] at z
        cases z
end
/-- the goal that k_head leaves, the law's makers by their names -/
theorem walkT {l : PySem.W.OpenLaw} {n k : Nat} {q : Program} {loose : List Str} {XP : (Str → Option Value) → Heap → Prop} {YP : World → Heap → Prop} {d : DefRec} {K : Params → PySem.W.Frag} {W : List Mkr → Spd} {x : Str}
    (hn : l.most = some n) (hn2 : n ≤ sizeLine) (hdf : d.params.defaults = []) (hr : Room k callerA) (hY : ∀ (w : World) (h : Heap), YP w h → (K w.params).In h)
    (F : ∀ (w : World) (mg : Str → Option Value) (fa : Addr) (h : Heap), (K w.params).In h → h.Ns mainGlobals mg → mg d.name = some (.ref fa) →
      ∃ (fd : FuncData) (ts : List Mkr), (∀ (s : Shared) (u : Value), BindsTo s fd ⟨[u], []⟩ [(x, u)]) ∧ (ts.map (·.t)).Nodup ∧ (∀ t ∈ ts, (K w.params).lookup t.t = none ∧ ∃ y dd, (recsOf q).find? (fun e => e.name == y) = some dd ∧ PySem.W.tabIn (K w.params) y = some (t.c, t.t)) ∧
        (∀ base : Heap, (K w.params).In base → base.Ns mainGlobals mg → (∀ t ∈ ts, TabB base mg t.c t.t) → FnG l.prog w (K w.params) mg base k fa fd [x] (toSp (K w.params) (W ts))) ∧
        ∀ ns : List Int, ns.length ≤ n → W ts [.frz (ns.map Dt.int)] (tabs0 ts) (fun d _ => d = .bl true) (fun _ _ _ => False)) : PySem.W.WalkO q loose XP YP l.row.toRowW d [] (fun f vs => PySem.call f vs) := by
  refine Att.attach_call hn hdf fun w s0 s1 mg mb fa o pm cd doc a vs ns G Y ho hd hcd hmg hobj hints hlen hg => ?_
  have KX := hY w _ Y
  obtain ⟨fd, ts, hb, nd, ht, hF, hW⟩ := F w mg fa _ KX G.T.g hmg
  have both : ∀ t ∈ ts, PySem.W.CodeHd s1.heap t.c t.t ∧ s1.heap.get? t.t = some { cls := .none, data := .fields #[] } := fun t h => by
    obtain ⟨_, y, dd, h1, h2⟩ := ht t h
    exact PySem.W.tab_of G.T KX h1 h2
  exact lawT KX G.T.g G.T.b G.T.builtins G.T.nolimit hg (fun t h => (both t h).2) (fun t h => (ht t h).1) (fun t h => (both t h).1) nd G.T.bmain hobj hints (Nat.le_trans hlen hn2) hr hF hb (hW ns hlen)
end Dw
namespace Dw
open PySem PySem.Spec PyProof.Rows L2
/-! ### dicts that stand still: walks, in, len, copies, or -/
def kD : Key → Dt
  | .inl i => .int i
  | .inr x => .str x
theorem kD_da {K : PySem.W.Frag} {D : List Addr} {H : Hp} (k : Key) : Da K D H (kD k) (kV k) := by cases k <;> constructor
theorem kD_of {K : PySem.W.Frag} {D : List Addr} {H : Hp} {k : Key} {v : V} (h : Da K D H (kD k) v) : v = kV k := by cases k <;> (cases h; rfl)
theorem DaK.get {K : PySem.W.Frag} {D : List Addr} {H : Hp} : ∀ {ks : List (Key × Dt)} {vs : List (Key × V)} {i : Nat} {k : Key} {v : V}, DaK K D H ks vs → vs[i]? = some (k, v) → ∃ d, ks[i]? = some (k, d) ∧ Da K D H d v
  | _, _, _, _, _, .nil, e => by simp at e
  | _, _, 0, _, _, .cons h _, e => by simp at e; obtain ⟨rfl, rfl⟩ := e; exact ⟨_, rfl, h⟩
  | _, _, i + 1, k, v, .cons _ t, e => by
    obtain ⟨d, h1, h2⟩ := DaK.get (i := i) (k := k) (v := v) t (by simpa using e)
    exact ⟨d, by simpa using h1, h2⟩
section
variable {X : Cx} {e o i : Expr} {r : En} {m : Mu} {F : Pd} {G : Dt → Prop} {E : Xd} {pos : Pos} {k : Nat} {N : List Str}
theorem li_dct {tg : Expr} {L : List Dt → Mu → Prop} (h : LE X e r m (fun d m1 => ∃ kvs, d = .dct kvs ∧ L (kvs.map fun kv => kD kv.1) m1) E) : LI X tg e r m L E := by
  refine ⟨fun Z g H R Wx rp tk nk nx => (pi_keys pe_w).w (h.run Z g H _ Wx rp tk (fun v H1 d m1 q go so da => ?_) nx)⟩
  obtain ⟨kvs, rfl, q⟩ := q
  cases da with
  | @dct a ob _ vs n h1 h2 =>
    refine ⟨a, ob, rfl, .inl ⟨vs, h1, nk _ _ m1 H1 q go so fun Z' hz i m2 H2 go2 so2 => ?_⟩⟩
    have mv := Go.hide go2 hz
    have h1' : H2 a = some (.frz ob (.dK vs)) := mv.keep _ _ n h1
    have hl : (kvs.map fun kv => kD kv.1).length = vs.length := by rw [List.length_map, h2.length]
    refine ⟨fun hi => ⟨h1', by rw [← hl]; exact hi⟩, fun hi => ⟨h1', by rw [← hl]; exact hi⟩, fun x H3 d hd hy => ?_⟩
    obtain ⟨rfl, k', v', e1, rfl⟩ := hy
    obtain ⟨d', e2, _⟩ := h2.get e1
    rw [List.getElem?_map, e2] at hd
    cases hd
    exact ⟨Ext.rfl', so2, kD_da k'⟩
theorem o_inD {kvs : List (Key × Dt)} {z : Key} (hu : X.A.units + 1 < cLine) (q : G (.bl (valD kvs z).isSome)) : O2 X (compareOp .In) (kD z) (.dct kvs) m G := by
  refine ⟨fun Z H vx vy Q so dx dy nk pins s g I v u rx ry => ?_⟩
  cases dy with
  | @dct a ob _ vs n h1 h2 =>
    cases ry
    obtain rfl := kD_of dx
    refine d_in (o := valV vs z) hu I (.inl ⟨vs, z, .inr ⟨ob, h1⟩, rfl, rfl⟩) rx fun s' I' => ⟨.bl _, H, I', rfl, ?_⟩
    have e : (valV vs z).isSome = (valD kvs z).isSome := by
      cases hv : valD kvs z with
      | none => rw [DaK.valN h2 hv]; rfl
      | some d => obtain ⟨v', e1, _⟩ := h2.val hv; rw [e1]; rfl
    rw [e]
    exact nk _ H _ m ⟨rfl, q⟩ Ext.rfl' so (.bl _)
theorem o_notInD {kvs : List (Key × Dt)} {z : Key} (hu : X.A.units + 1 < cLine) (q : G (.bl (!(valD kvs z).isSome))) : O2 X (compareOp .NotIn) (kD z) (.dct kvs) m G := by
  refine ⟨fun Z H vx vy Q so dx dy nk pins s g I v u rx ry => ?_⟩
  cases dy with
  | @dct a ob _ vs n h1 h2 =>
    cases ry
    obtain rfl := kD_of dx
    refine d_notIn (o := valV vs z) hu I (.inl ⟨vs, z, .inr ⟨ob, h1⟩, rfl, rfl⟩) rx fun s' I' => ⟨.bl _, H, I', rfl, ?_⟩
    have e : (valV vs z).isSome = (valD kvs z).isSome := by
      cases hv : valD kvs z with
      | none => rw [DaK.valN h2 hv]; rfl
      | some d => obtain ⟨v', e1, _⟩ := h2.val hv; rw [e1]; rfl
    rw [e]
    exact nk _ H _ m ⟨rfl, q⟩ Ext.rfl' so (.bl _)
theorem c_len_dct {kvs : List (Key × Dt)} (q : F (.int kvs.length) m) : OC X (.builtin "len") [.dct kvs] m F := by
  refine ⟨fun Z H vs Q so da nk pins s g I us rv => ?_⟩
  cases da with
  | cons d1 d2 =>
    cases d2
    cases rv with
    | cons r1 r2 =>
      cases r2
      cases d1 with
      | @dct a ob _ ws n h1 h2 =>
        cases r1
        refine d_len I (.inr ⟨ob, h1⟩) fun t s' I' => ⟨.int _, H, I', ⟨t, rfl⟩, ?_⟩
        rw [← h2.length]
        exact nk _ H _ m q Ext.rfl' so (.int _)
/-- dict(d): a copy that stands still -/
theorem c_dict_dct {kvs : List (Key × Dt)} (q : F (.dct kvs) m) : OC X (.type "dict") [.dct kvs] m F :=
  oc_of (cr_lk call_dictD) fun Z H vs Q so da nk => by
    cases da with
    | cons d1 d2 =>
      cases d2
      cases d1 with
      | @dct a ob _ ws n h1 h2 =>
        refine ⟨a, ws, rfl, .inr ⟨ob, h1⟩, fun p hp => ⟨p, _, rfl, upd_same, trivial, fun od => ?_⟩⟩
        rw [upd_upd]
        exact nk _ _ _ m q (Ext.fresh hp) (so.laid hp) (.dct (so.fresh hp) upd_same (h2.move (Ext.fresh hp)))
/-- d or e, d a dict -/
theorem le_orDct {a b : Expr} {rest : List Expr} (h : LE X a r m (fun d m1 => ∃ kvs, d = .dct kvs ∧ if kvs.isEmpty = true then LE X (.BoolOp .Or (b :: rest) pos) r m1 F E else F (.dct kvs) m1) E) : LE X (.BoolOp .Or (a :: b :: rest) pos) r m F E := by
  refine ⟨fun Z g H Q Wx rp tk nk nx pins s I => ?_⟩
  refine BoolOp_or (thn (h.run Z g H (fun v H1 => ∃ p ob vs, v = .ref p ∧ H1 p = some (.frz ob (.dK vs)) ∧ if vs.isEmpty = true then wE X (.BoolOp .Or (b :: rest) pos) g H1 Q else Q v H1) Wx rp tk (fun v H1 d m1 q go so da => ?_) nx pins s I) fun u s1 hh => ?_)
  · obtain ⟨kvs, rfl, q⟩ := q
    have da0 := da
    cases da with
    | @dct a ob _ vs n h1 h2 =>
      refine ⟨a, ob, vs, rfl, h1, ?_⟩
      have e : vs.isEmpty = kvs.isEmpty := by cases h2 <;> rfl
      rw [e]
      by_cases he : kvs.isEmpty = true
      · rw [if_pos he] at q ⊢
        exact q.run Z g H1 Q Wx (rp.go go so) tk (nk.go go) (nx.go go)
      · rw [if_neg he] at q ⊢
        exact nk _ H1 _ m1 q go so da0
  · obtain ⟨v, H1, I1, rv, p, ob, vs, rfl, e1, q⟩ := hh
    cases rv
    refine d_truth I1 (.inr ⟨ob, e1⟩) fun s' I' => ?_
    by_cases he : vs.isEmpty = true
    · rw [if_pos he] at q
      rw [he]
      exact q pins s' I'
    · rw [if_neg he] at q
      rw [show vs.isEmpty = false by simpa using he]
      exact ⟨.ref p, H1, I', rfl, q⟩
end
end Dw
namespace Dw
open PySem PySem.Spec PyProof.Rows L2
/-! ### dicts whose keys are tuples (nested), in the store -/
mutual
def keyN : Dt → NestedKey
  | .non => .none
  | .bl b => .num (if b = true then 1 else 0)
  | .int i => .num i
  | .str x => .text x
  | .tup ds => .tup (keyNs ds)
  | _ => .none
def keyNs : List Dt → List NestedKey
  | [] => []
  | d :: ds => keyN d :: keyNs ds
end
mutual
def keyB : Dt → Bool
  | .non => true
  | .bl _ => true
  | .int _ => true
  | .str _ => true
  | .tup ds => keyBs ds
  | _ => false
def keyBs : List Dt → Bool
  | [] => true
  | d :: ds => keyB d && keyBs ds
end
def isT : Dt → Bool
  | .tup _ => true
  | _ => false
/-- a key: a tuple of keys, not too deep -/
structure Key1 (d : Dt) : Prop where
  t : isT d = true
  b : keyB d = true
  l : (keyN d).depth ≤ 8
section
variable {X : Cx} {pins : List (Addr × Obj)} {g : L2.St} {H : Hp} {s : Shared} {D : List Addr}
mutual
theorem nest_is (I : Inv X pins g H s) : ∀ (d : Dt) (v : V) (u : Value), Da X.K D H d v → RelV v u → keyB d = true → NestedIs s.heap (keyN d) u
  | .non, _, _, h, r, _ => by cases h; cases r; exact .none
  | .bl b, _, _, h, r, _ => by cases h; cases r; exact .bool rfl
  | .int i, _, _, h, r, _ => by cases h; obtain ⟨t, rfl⟩ := r; exact .int i t
  | .str x, _, _, h, r, _ => by cases h; obtain ⟨t, rfl⟩ := r; exact .text x t
  | .tup ds, _, _, h, r, hb => by
    cases h with
    | tup h1 h2 =>
      cases r
      obtain ⟨its, rv, ⟨o, ho, hc, n, hd⟩, _⟩ := I.tuple h1.sq
      exact .tup ho hc hd (by simpa using nest_all I ds _ its h2 rv (by simpa [keyB] using hb))
  | .lst _, _, _, _, _, hb => by simp [keyB] at hb
  | .frz _, _, _, _, _, hb => by simp [keyB] at hb
  | .dct _, _, _, _, _, hb => by simp [keyB] at hb
  | .exc _ _ _, _, _, _, _, hb => by simp [keyB] at hb
  | .cau _ _ _, _, _, _, _, hb => by simp [keyB] at hb
  | .obj _ _, _, _, _, _, hb => by simp [keyB] at hb
  | .raw _, _, _, _, _, hb => by simp [keyB] at hb
theorem nest_all (I : Inv X pins g H s) : ∀ (ds : List Dt) (vs : List V) (us : List Value), DaL X.K D H ds vs → Vals vs us → keyBs ds = true → NestedAll s.heap (keyNs ds) us
  | [], _, _, h, r, _ => by cases h; cases r; exact .nil
  | d :: ds, _, _, h, r, hb => by
    cases h with
    | cons h1 h2 =>
      cases r with
      | cons r1 r2 =>
        have hb : keyB d = true ∧ keyBs ds = true := by simpa [keyBs] using hb
        exact .cons (nest_is I d _ _ h1 r1 hb.1) (nest_all I ds _ _ h2 r2 hb.2)
end
end
/-- keys and values, one behind the other -/
def flatP : List (Dt × Dt) → List Dt
  | [] => []
  | kd :: r => kd.1 :: kd.2 :: flatP r
def keysN (kvs : List (Dt × Dt)) : List NestedKey := kvs.map fun kd => keyN kd.1
inductive NEnt : List NestedKey → List V → List (NestedKey × Addr × Value) → Prop
  | nil : NEnt [] [] []
  | cons {k : NestedKey} {a : Addr} {v : V} {u : Value} {ks : List NestedKey} {vs : List V} {xs : List (NestedKey × Addr × Value)} : RelV v u → NEnt ks vs xs → NEnt (k :: ks) (.ref a :: v :: vs) ((k, a, u) :: xs)
def NDO (P : Program) (w : World) (d : Addr) (ks : List NestedKey) (vs : List V) : HO := .ext fun h => ∃ xs, NEnt ks vs xs ∧ xs.length ≤ sizeLine ∧ (d == sysModules) = false ∧ (xs.map (·.1)).Nodup ∧
  ∃ o es ep, h.get? d = some o ∧ o.ExactDict ∧ o.data = .dict es ep ∧ es.toList = xs.map (entryOfKey (nestedKind P w))
abbrev Mc.nd (P : Program) (w : World) (p : Addr) (kvs : List (Dt × Dt)) : Mc := .gen (NDO P w p (keysN kvs)) (flatP kvs)
def valN (kvs : List (Dt × Dt)) (k : NestedKey) : Option Dt := (kvs.find? fun kd => decide (keyN kd.1 = k)).map (·.2)
def putN (kvs : List (Dt × Dt)) (k d : Dt) : List (Dt × Dt) := if (valN kvs (keyN k)).isSome = true then kvs.map (fun kd => if keyN kd.1 = keyN k then (kd.1, d) else kd) else kvs ++ [(k, d)]
theorem nd_ok {P : Program} {w : World} {H : Hp} {h : Heap} {d : Addr} {ks : List NestedKey} {vs : List V} {xs : List (NestedKey × Addr × Value)} (h1 : NEnt ks vs xs) (h2 : xs.length ≤ sizeLine) (h3 : (d == sysModules) = false) (h4 : (xs.map (·.1)).Nodup)
    (h5 : ∃ o es ep, h.get? d = some o ∧ o.ExactDict ∧ o.data = .dict es ep ∧ es.toList = xs.map (entryOfKey (nestedKind P w))) : ObjOk P w H h d (NDO P w d ks vs) := by
  obtain ⟨o, es, ep, e1, r⟩ := h5
  exact ⟨⟨xs, h1, h2, h3, h4, o, es, ep, e1, r⟩, ⟨o, e1⟩, fun h1 h2 ⟨xs, a1, a2, a3, a4, o, es, ep, e, r⟩ k => ⟨xs, a1, a2, a3, a4, o, es, ep, k _ e, r⟩⟩
section
variable {K : PySem.W.Frag} {D : List Addr} {H : Hp}
theorem NEnt.val : ∀ {kvs : List (Dt × Dt)} {vs : List V} {xs : List (NestedKey × Addr × Value)}, NEnt (keysN kvs) vs xs → DaL K D H (flatP kvs) vs → ∀ k, (∀ d, valN kvs k = some d → ∃ a u v, atKey xs k = some (a, u) ∧ RelV v u ∧ Da K D H d v) ∧ (valN kvs k = none → atKey xs k = none)
  | [], _, _, .nil, _, k => ⟨fun d e => (by cases e), fun _ => rfl⟩
  | (kd, d0) :: kvs, _, _, .cons r t, da, k => by
    cases da with
    | cons d1 d2 =>
      cases d2 with
      | cons d2 d3 =>
        have ih := NEnt.val (kvs := kvs) t d3 k
        unfold valN atKey
        rw [List.find?_cons, List.find?_cons]
        by_cases e : keyN kd = k
        · simp only [e, decide_true]
          refine ⟨fun d z => ?_, fun z => (by cases z)⟩
          cases z
          exact ⟨_, _, _, rfl, r, d2⟩
        · simp only [e, decide_false]
          exact ih
theorem NEnt.keys : ∀ {ks : List NestedKey} {vs : List V} {xs : List (NestedKey × Addr × Value)}, NEnt ks vs xs → xs.map (·.1) = ks
  | _, _, _, .nil => rfl
  | _, _, _, .cons _ t => by rw [List.map_cons, t.keys]
theorem NEnt.snoc {k : NestedKey} {a : Addr} {v : V} {u : Value} (r : RelV v u) : ∀ {ks : List NestedKey} {vs : List V} {xs : List (NestedKey × Addr × Value)}, NEnt ks vs xs → NEnt (ks ++ [k]) (vs ++ [.ref a, v]) (xs ++ [(k, a, u)])
  | _, _, _, .nil => .cons r .nil
  | _, _, _, .cons q t => .cons q (t.snoc r)
theorem flatP_app : ∀ a b : List (Dt × Dt), flatP (a ++ b) = flatP a ++ flatP b
  | [], _ => rfl
  | kd :: a, b => by rw [List.cons_append, flatP, flatP_app a b]; rfl
/-- a value is put in the place of another -/
theorem NEnt.repl {k d : Dt} {v : V} {u : Value} (r : RelV v u) (dv : Da K D H d v) : ∀ {kvs : List (Dt × Dt)} {vs : List V} {xs : List (NestedKey × Addr × Value)}, NEnt (keysN kvs) vs xs → DaL K D H (flatP kvs) vs →
    ∃ vs', NEnt (keysN (kvs.map fun kd => if keyN kd.1 = keyN k then (kd.1, d) else kd)) vs' (xs.map (putAt (keyN k) u)) ∧ DaL K D H (flatP (kvs.map fun kd => if keyN kd.1 = keyN k then (kd.1, d) else kd)) vs'
  | [], _, _, .nil, _ => ⟨[], .nil, .nil⟩
  | (kd, d0) :: kvs, _, _, .cons (a := a) (v := v0) (u := u0) r0 t, da => by
    cases da with
    | cons d1 d2 =>
      cases d2 with
      | cons d2 d3 =>
        obtain ⟨vs', h1, h2⟩ := NEnt.repl r dv (kvs := kvs) t d3
        rw [List.map_cons, List.map_cons]
        unfold putAt
        by_cases e : keyN kd = keyN k
        · simp only [e, if_true]
          refine ⟨.ref a :: v :: vs', ?_, .cons d1 (.cons dv h2)⟩
          show NEnt (keyN kd :: _) _ _
          rw [e]
          exact .cons r h1
        · simp only [e, if_false]
          exact ⟨.ref a :: v0 :: vs', .cons r0 h1, .cons d1 (.cons d2 h2)⟩
end
/-- all keys are keys -/
def KeysOk (kvs : List (Dt × Dt)) : Prop := ∀ kd ∈ kvs, Key1 kd.1
section
variable {X : Cx} {pins : List (Addr × Obj)} {g : L2.St} {H : Hp} {s : Shared} {D : List Addr}
theorem NEnt.is (I : Inv X pins g H s) : ∀ {kvs : List (Dt × Dt)} {vs : List V} {xs : List (NestedKey × Addr × Value)}, NEnt (keysN kvs) vs xs → DaL X.K D H (flatP kvs) vs → KeysOk kvs → ∀ x ∈ xs, (nestedKind X.prog X.w).is s.heap x.1 x.2.1
  | [], _, _, .nil, _, _, x, hx => by cases hx
  | (kd, d0) :: kvs, _, _, .cons r t, da, ok, x, hx => by
    cases da with
    | cons d1 d2 =>
      cases d2 with
      | cons d2 d3 =>
        rcases List.mem_cons.mp hx with rfl | hx
        · have k1 := ok (kd, d0) List.mem_cons_self
          exact ⟨nest_is I kd _ _ d1 rfl k1.b, k1.l⟩
        · exact NEnt.is I (kvs := kvs) t d3 (fun q hq => ok q (List.mem_cons_of_mem _ hq)) x hx
end
end Dw
namespace Dw
open PySem PySem.Spec PyProof.Rows L2
section
variable {X : Cx} {pins : List (Addr × Obj)} {g : L2.St} {H : Hp} {s : Shared} {D : List Addr}
/-- what stands at p, told of the heap -/
theorem nd_at {p : Addr} {kvs : List (Dt × Dt)} {vs : List V} (I : Inv X pins g H s) (e : H p = some (NDO X.prog X.w p (keysN kvs) vs)) (da : DaL X.K D H (flatP kvs) vs) (ok : KeysOk kvs) :
    ∃ xs, NEnt (keysN kvs) vs xs ∧ xs.length ≤ sizeLine ∧ (p == sysModules) = false ∧ s.heap.DictOfH (nestedKind X.prog X.w) p xs := by
  obtain ⟨⟨xs, h1, h2, h3, h4, o, es, ep, e1, e2, e3, e4⟩, _, _⟩ := (show ObjOk X.prog X.w H s.heap p (NDO X.prog X.w p (keysN kvs) vs) from I.hok p _ e)
  exact ⟨xs, h1, h2, h3, o, es, ep, e1, e2, e3, e4, h1.is I da ok, h4⟩
theorem nd_mut {P : Program} {w : World} {p : Addr} {ks : List NestedKey} {vs : List V} (e : H p = some (NDO P w p ks vs)) : Mut (H p) := by rw [e]; exact trivial
theorem key_at {kd : Dt} {v : V} {u : Value} (I : Inv X pins g H s) (k1 : Key1 kd) (da : Da X.K D H kd v) (r : RelV v u) : ∃ b, u = .ref b ∧ v = .ref b ∧ (nestedKind X.prog X.w).is s.heap (keyN kd) b := by
  have hn := nest_is I kd v u da r k1.b
  have ht := k1.t
  cases da <;> first | (cases ht; done) | skip
  cases r
  exact ⟨_, rfl, rfl, hn, k1.l⟩
theorem nd_new {P : Program} {w : World} {p : Addr} : ∀ xs, NDO P w p [] [] ≠ .tup xs := fun xs z => by cases z
theorem nd_nt {P : Program} {w : World} {p : Addr} {ks : List NestedKey} {vs : List V} : ∀ xs, NDO P w p ks vs ≠ .tup xs := fun xs z => by cases z
end
section
variable {X : Cx} {e o i value : Expr} {r : En} {m : Mu} {F : Pd} {G : Dt → Prop} {E : Xd} {Pp : Pc} {pos pos' : Pos} {k : Nat} {N : List Str} {p : Addr} {kvs : List (Dt × Dt)} {kd : Dt}
/-- {} of tuples' keys, that will change -/
theorem le_ndnew (q : ∀ p, p ∉ dom m → F (.raw (.ref p)) ((p, Mc.nd X.prog X.w p []) :: m)) : LE X (.Dict [] [] pos) r m F E := by
  refine ⟨fun Z g H Q Wx rp tk nk nx pins s I => ?_⟩
  refine thn ((pe_dnewK (X := X) (pos := pos)).run pins s g H (fun v H' => ∃ p, v = .ref p ∧ H p = none ∧ H' = upd H p (.dK [])) I fun p hp => ⟨p, rfl, hp, rfl⟩) fun u s1 hh => ?_
  obtain ⟨v, H1, I1, rv, p, rfl, hp, rfl⟩ := hh
  obtain ⟨z, hd, vs, rel, ob, es, ep, e1, e2, e3, e4, e5, _⟩ := (show ObjOk X.prog X.w _ s1.heap p (.dK []) from I1.hok p _ upd_same)
  cases rel
  have e6 : es.toList = [] := by
    cases e : es.toList with
    | nil => rfl
    | cons y ys => rw [e] at e5; cases e5
  have new : ObjOk X.prog X.w (upd (upd H p (.dK [])) p (NDO X.prog X.w p [] [])) s1.heap p (NDO X.prog X.w p [] []) := nd_ok .nil (Nat.zero_le _) hd List.nodup_nil ⟨ob, es, ep, e1, e2, e3, e6⟩
  have I2 := I1.write (x := p) (e := p) (t' := s1.toks) (h' := s1.heap) (by rw [upd_same]; exact trivial) (.inl rfl) (fun b v _ q => q) ⟨ob, e1⟩ new
  rw [upd_upd] at I2
  refine ⟨.ref p, _, I2, rv, ?_⟩
  have so := rp.so
  have np : p ∉ dom m := fun z => so.there (List.mem_append_right _ z) hp
  have g1 : Go m H ((p, Mc.nd X.prog X.w p []) :: m) (upd H p (NDO X.prog X.w p [] [])) := ⟨(Ext.fresh (D := dom m) hp).keep, fun a ha => by
    rcases List.mem_cons.mp ha with z | z
    · exact .inr (z ▸ hp)
    · exact .inl z⟩
  have s2 := so.laid (o := NDO X.prog X.w p [] []) hp
  refine nk _ _ _ _ (q p np) g1 ⟨List.nodup_cons.mpr ⟨np, so.nd⟩, s2.zs, fun a ha z => ?_, fun y hy => ?_⟩ (.raw _)
  · rcases List.mem_cons.mp z with z | z
    · exact (so.zs a ha).1 (by rw [z]; exact hp)
    · exact so.dj a ha z
  · rcases List.mem_cons.mp hy with z | z
    · subst z
      exact ⟨[], upd_same, .nil, nd_nt⟩
    · have y1 := so.ob y z
      have hn : y.1 ≠ p := fun w => y1.there (by rw [w]; exact hp)
      exact y1.keep (fun o e => by rw [upd_ne hn]; exact e) (g1.full Z)
theorem o_inN (hu : X.A.units + 64 < cLine) (hm : (p, Mc.nd X.prog X.w p kvs) ∈ m) (ok : KeysOk kvs) (k1 : Key1 kd) (q : G (.bl (valN kvs (keyN kd)).isSome)) : O2 X (compareOp .In) kd (.raw (.ref p)) m G := by
  refine ⟨fun Z H vx vy Q so dx dy nk pins s g I v u rx ry => ?_⟩
  cases dy
  cases ry
  obtain ⟨vs, e1, da, _⟩ := so.ob _ hm
  obtain ⟨xs, h1, h2, h3, dd⟩ := nd_at I e1 da ok
  obtain ⟨b, rfl, rfl, hk⟩ := key_at I k1 dx rx
  refine wpAny_in_heap (show X.A.in1.units + 8 < cLine by show X.A.units + 1 + 8 < cLine; omega) hk h3 dd ⟨.bl _, H, I.tok _, rfl, ?_⟩
  have hv := h1.val da (keyN kd)
  have e : (atKey xs (keyN kd)).isSome = (valN kvs (keyN kd)).isSome := by
    cases ev : valN kvs (keyN kd) with
    | none => rw [hv.2 ev]; rfl
    | some d => obtain ⟨a, u, v, e2, _⟩ := hv.1 d ev; rw [e2]; rfl
  rw [e]
  exact nk _ H _ m ⟨rfl, q⟩ Ext.rfl' so (.bl _)
theorem o_notInN (hu : X.A.units + 64 < cLine) (hm : (p, Mc.nd X.prog X.w p kvs) ∈ m) (ok : KeysOk kvs) (k1 : Key1 kd) (q : G (.bl (!(valN kvs (keyN kd)).isSome))) : O2 X (compareOp .NotIn) kd (.raw (.ref p)) m G := by
  refine ⟨fun Z H vx vy Q so dx dy nk pins s g I v u rx ry => ?_⟩
  cases dy
  cases ry
  obtain ⟨vs, e1, da, _⟩ := so.ob _ hm
  obtain ⟨xs, h1, h2, h3, dd⟩ := nd_at I e1 da ok
  obtain ⟨b, rfl, rfl, hk⟩ := key_at I k1 dx rx
  refine wpAny_notIn_heap (show X.A.in1.units + 8 < cLine by show X.A.units + 1 + 8 < cLine; omega) hk h3 dd ⟨.bl _, H, I.tok _, rfl, ?_⟩
  have hv := h1.val da (keyN kd)
  have e : (atKey xs (keyN kd)).isSome = (valN kvs (keyN kd)).isSome := by
    cases ev : valN kvs (keyN kd) with
    | none => rw [hv.2 ev]; rfl
    | some d => obtain ⟨a, u, v, e2, _⟩ := hv.1 d ev; rw [e2]; rfl
  rw [e]
  exact nk _ H _ m ⟨rfl, q⟩ Ext.rfl' so (.bl _)
theorem le_ndget (hu : X.A.units + 64 < cLine) (h : LE X o r m (fun x m1 => LE X i r m1 (fun kd m2 => ∃ p kvs d, x = .raw (.ref p) ∧ (p, Mc.nd X.prog X.w p kvs) ∈ m2 ∧ KeysOk kvs ∧ Key1 kd ∧ valN kvs (keyN kd) = some d ∧ F d m2) E) E) (hs : NoSl i := by intro _ _; rfl) : LE X (.Subscript o i pos) r m F E := by
  refine ⟨fun Z g H Q Wx rp tk nk nx pins s I => ?_⟩
  refine subD_of PySem.F.slot_dict_getitem.lookup hs (thn (h.run Z g H (fun x H1 => wE X i g H1 fun y H2 => ∃ p kvs kd vs d D, x = .ref p ∧ H2 p = some (NDO X.prog X.w p (keysN kvs) vs) ∧ DaL X.K D H2 (flatP kvs) vs ∧ KeysOk kvs ∧ Key1 kd ∧ Da X.K D H2 kd y ∧ valN kvs (keyN kd) = some d ∧ ∀ v, Da X.K D H2 d v → Q v H2) Wx rp tk (fun v H1 d m1 q go so da => ?_) nx pins s I) fun u s1 ⟨x, H1, I1, rx, q1⟩ => thn (q1 pins s1 I1) fun iv s2 hh => ?_)
  · intro pins s I
    refine q.run Z g H1 _ Wx (rp.go go so) tk (fun v2 H2 d2 m2 q2 go2 so2 da2 => ?_) (nx.go go) pins s I
    obtain ⟨p, kvs, d', rfl, hm, ok, k1, ev, q2⟩ := q2
    have da1 := da.move (go2.full Z)
    cases da1
    obtain ⟨vs, e1, dl, _⟩ := so2.ob _ hm
    exact ⟨p, kvs, d2, vs, d', _, rfl, e1, dl, ok, k1, da2, ev, fun v dv => nk v H2 d' m2 q2 (go.trans go2) so2 dv⟩
  · obtain ⟨y, H2, I2, ry, p, kvs, kd, vs, d, D, rfl, e1, dl, ok, k1, dk, ev, q⟩ := hh
    obtain rfl : u = Value.ref p := rx
    obtain ⟨xs, h1, h2, h3, dd⟩ := nd_at I2 e1 dl ok
    obtain ⟨b, rfl, rfl, hk⟩ := key_at I2 k1 dk ry
    obtain ⟨a, u, v, e2, rv, dv⟩ := (h1.val dl (keyN kd)).1 d ev
    exact ⟨dd.typeIs, wpAny_getItem_heap (show X.A.in1.units + 8 < cLine by show X.A.units + 1 + 8 < cLine; omega) hk dd e2 ⟨v, H2, I2.tok _, rv, q v dv⟩⟩
end
end Dw
namespace Dw
open PySem PySem.Spec PyProof.Rows L2
section
variable {K : PySem.W.Frag} {D : List Addr} {H : Hp}
/-- the entries behind a store -/
theorem NEnt.put {kvs : List (Dt × Dt)} {vs : List V} {xs : List (NestedKey × Addr × Value)} {kd d : Dt} {b : Addr} {v : V} {u : Value} (h : NEnt (keysN kvs) vs xs) (da : DaL K D H (flatP kvs) vs) (dk : Da K D H kd (.ref b)) (r : RelV v u) (dv : Da K D H d v) :
    ∃ vs', NEnt (keysN (putN kvs kd d)) vs' (storedH xs (keyN kd) b u) ∧ DaL K D H (flatP (putN kvs kd d)) vs' := by
  have hv := h.val da (keyN kd)
  unfold putN storedH
  cases ev : valN kvs (keyN kd) with
  | none =>
    rw [hv.2 ev]
    refine ⟨vs ++ [.ref b, v], ?_, ?_⟩
    · show NEnt (List.map _ (kvs ++ [(kd, d)])) _ _
      rw [List.map_append]
      exact h.snoc r
    · show DaL K D H (flatP (kvs ++ [(kd, d)])) _
      rw [flatP_app]
      exact da.append (.cons dk (.cons dv .nil))
  | some d' =>
    obtain ⟨a, u', v', e2, _⟩ := hv.1 d' ev
    rw [e2]
    exact h.repl r dv da
end
section
variable {X : Cx} {e o i value : Expr} {r : En} {m : Mu} {F : Pd} {E : Xd} {Pp : Pc} {pos pos' : Pos} {p : Addr} {kvs : List (Dt × Dt)}
theorem ls_ndput (hu : X.A.units + 64 < cLine) (h : LE X value r m (fun d m1 => LE X o r m1 (fun x m2 => LE X i r m2 (fun kd m3 => ∃ p kvs, x = .raw (.ref p) ∧ (p, Mc.nd X.prog X.w p kvs) ∈ m3 ∧ KeysOk kvs ∧ Key1 kd ∧ kvs.length ≤ 100000 ∧ Pp.nx r (put p (Mc.nd X.prog X.w p (putN kvs kd d)) m3)) Pp.ex) Pp.ex) Pp.ex)
    (hs : swapsWith value (some (.Subscript o i pos')) pos.line X.env = pure false := by rfl) : LS X (.Assign [.Subscript o i pos'] value pos) r m Pp := by
  refine ⟨fun Z g H DD Wx rp tk np pins s I => ?_⟩
  refine wpAny_Assign_Subscript (thn (h.run Z g H (fun v H1 => wE X o g H1 fun x H2 => wE X i g H2 fun y H3 => ∃ p b vs ks, x = .ref p ∧ y = .ref b ∧ H3 p = some (NDO X.prog X.w p ks vs) ∧
      (∀ (pins : List (Addr × Obj)) (s3 : Shared) (r : Value), Inv X pins g H3 s3 → RelV v r → wpAny (model X.prog X.w) X.A (setItem (.ref p) (.ref b) r) (fun _ s4 => SP X pins DD .next s4) X.xe s3)) Wx rp tk (fun v H1 d m1 q go so da => ?_) np.ex pins s I) fun rr s1 ⟨v, H1, I1, rv, q1⟩ => thn (q1 pins s1 I1) fun u s2 ⟨x, H2, I2, rx, q2⟩ => thn (q2 pins s2 I2) fun iv s3 hh => ?_) hs
  · intro pins s I
    refine q.run Z g H1 _ Wx (rp.go go so) tk (fun v2 H2 d2 m2 q2 go2 so2 da2 => ?_) (np.ex.go go) pins s I
    intro pins s I
    refine q2.run Z g H2 _ Wx (rp.go (go.trans go2) so2) tk (fun v3 H3 d3 m3 q3 go3 so3 da3 => ?_) (np.ex.go (go.trans go2)) pins s I
    obtain ⟨p, kvs, rfl, hm, ok, k1, hlen, q3⟩ := q3
    have da2' := da2.move (go3.full Z)
    cases da2'
    have dv := da.move (Go.full Z (go2.trans go3))
    obtain ⟨vs, e1, dl, _⟩ := so3.ob _ hm
    have hb : ∃ b, v3 = .ref b := by
      have ht := k1.t
      cases da3 <;> first | (cases ht; done) | exact ⟨_, rfl⟩
    obtain ⟨b, rfl⟩ := hb
    refine ⟨p, b, vs, keysN kvs, rfl, rfl, e1, fun pins s3 r3 I3 rv => ?_⟩
    obtain ⟨xs, h1, h2, h3, dd⟩ := nd_at I3 e1 dl ok
    obtain ⟨b', hb1, _, hk⟩ := key_at I3 k1 da3 (show RelV (.ref b) (.ref b) from rfl)
    cases hb1
    have hxl : xs.length = kvs.length := by
      have := congrArg List.length h1.keys
      rw [List.length_map] at this
      rw [this]
      unfold keysN
      rw [List.length_map]
    refine wpAny_setItem_heap (hsz := h2) (show X.A.in1.units + 8 < cLine by show X.A.units + 1 + 8 < cLine; omega) hk dd fun h' dd' sb => ?_
    obtain ⟨vs', n1, n2⟩ := h1.put dl da3 rv dv
    obtain ⟨ob, es, ep, q1, q2', q3', q4, _, q6⟩ := dd'
    have hl2 : (storedH xs (keyN d3) b r3).length ≤ sizeLine := by
      unfold storedH
      split
      · rw [List.length_map]; exact h2
      · rw [List.length_append, hxl, sizeLine_eq]
        simp
        omega
    have I4 := d_write (t' := s3.toks + (nestedKind X.prog X.w).draws (keyN d3)) I3 (nd_mut e1) sb ⟨ob, q1⟩ (nd_ok (H := upd H3 p (NDO X.prog X.w p (keysN (putN kvs d3 d)) vs')) n1 hl2 h3 q6 ⟨ob, es, ep, q1, q2', q3', q4⟩)
    obtain ⟨s5, g5⟩ := so3.put_mc (o := NDO X.prog X.w p (keysN (putN kvs d3 d)) vs') (c' := Mc.nd X.prog X.w p (putN kvs d3 d)) hm fun D x => ⟨vs', upd_same, n2.move x, nd_nt⟩
    have gg := ((go.trans go2).trans go3).trans g5
    exact ⟨g, _, I4, np.nx g _ r _ q3 gg (rp.go gg s5)⟩
  · obtain ⟨y, H3, I3, ry, p, b, vs, ks, rfl, rfl, e1, q⟩ := hh
    obtain rfl : u = Value.ref p := rx
    obtain rfl : iv = Value.ref b := ry
    exact q pins s3 rr I3 rv
theorem c_len_nd (hm : (p, Mc.nd X.prog X.w p kvs) ∈ m) (ok : KeysOk kvs) (q : F (.int kvs.length) m) : OC X (.builtin "len") [.raw (.ref p)] m F := by
  refine ⟨fun Z H vs Q so da nk pins s g I us rv => ?_⟩
  cases da with
  | cons d1 d2 =>
    cases d2
    cases rv with
    | cons r1 r2 =>
      cases r2
      cases d1
      cases r1
      obtain ⟨vs, e1, dl, _⟩ := so.ob _ hm
      obtain ⟨xs, h1, h2, h3, dd⟩ := nd_at I e1 dl ok
      have hxl : xs.length = kvs.length := by
        have := congrArg List.length h1.keys
        rw [List.length_map] at this
        rw [this]
        unfold keysN
        rw [List.length_map]
      refine call_len_dictH h3 dd (by rw [sizeLine_eq] at h2; omega) ⟨.int _, H, I.tok _, ⟨_, rfl⟩, ?_⟩
      rw [hxl]
      exact nk _ H _ m q Ext.rfl' so (.int _)
end
end Dw
namespace Dw
open PySem PySem.Spec PyProof.Rows L2
/-! ### dicts of tuples' keys that stand still from now on -/
def ndz (P : Program) (w : World) (od : Obj) (kvs : List (Dt × Dt)) : Dt := .obj (fun a vs => .frz od (NDO P w a (keysN kvs) vs)) (flatP kvs)
/-- a dict of tuples' keys: of the store, or still -/
inductive NdX (X : Cx) (m : Mu) : Dt → List (Dt × Dt) → Prop
  | st {p : Addr} {kvs : List (Dt × Dt)} : (p, Mc.nd X.prog X.w p kvs) ∈ m → NdX X m (.raw (.ref p)) kvs
  | fz {od : Obj} {kvs : List (Dt × Dt)} : NdX X m (ndz X.prog X.w od kvs) kvs
/-- the abstract heap tells of p -/
def NdH (X : Cx) (H : Hp) (p : Addr) (kvs : List (Dt × Dt)) (vs : List V) : Prop := H p = some (NDO X.prog X.w p (keysN kvs) vs) ∨ ∃ od, H p = some (.frz od (NDO X.prog X.w p (keysN kvs) vs))
theorem NdX.at {X : Cx} {Z : List Addr} {m : Mu} {H : Hp} {x : Dt} {kvs : List (Dt × Dt)} {v : V} (n : NdX X m x kvs) (so : So X.K Z m H) (da : Da X.K (Z ++ dom m) H x v) : ∃ p vs, v = .ref p ∧ NdH X H p kvs vs ∧ DaL X.K (Z ++ dom m) H (flatP kvs) vs := by
  cases n with
  | st hm =>
    cases da
    obtain ⟨vs, e1, dl, _⟩ := so.ob _ hm
    exact ⟨_, vs, rfl, .inl e1, dl⟩
  | fz =>
    cases da with
    | obj n e d => exact ⟨_, _, rfl, .inr ⟨_, e⟩, d⟩
section
variable {X : Cx} {pins : List (Addr × Obj)} {g : L2.St} {H : Hp} {s : Shared} {D : List Addr}
theorem NdH.get {p : Addr} {kvs : List (Dt × Dt)} {vs : List V} (e : NdH X H p kvs vs) (I : Inv X pins g H s) (da : DaL X.K D H (flatP kvs) vs) (ok : KeysOk kvs) :
    ∃ xs, NEnt (keysN kvs) vs xs ∧ xs.length ≤ sizeLine ∧ (p == sysModules) = false ∧ s.heap.DictOfH (nestedKind X.prog X.w) p xs := by
  have hob : ObjOk X.prog X.w H s.heap p (NDO X.prog X.w p (keysN kvs) vs) := by
    rcases e with e | ⟨od, e⟩
    · exact I.hok p _ e
    · exact (I.hok p _ e).2
  obtain ⟨⟨xs, h1, h2, h3, h4, o, es, ep, e1, e2, e3, e4⟩, _, _⟩ := hob
  exact ⟨xs, h1, h2, h3, o, es, ep, e1, e2, e3, e4, h1.is I da ok, h4⟩
end
section
variable {X : Cx} {e o i : Expr} {r : En} {m : Mu} {F : Pd} {G : Dt → Prop} {E : Xd} {pos : Pos} {x kd : Dt} {kvs : List (Dt × Dt)}
theorem some_eq {vs : List V} {xs : List (NestedKey × Addr × Value)} {D : List Addr} {H : Hp} (h1 : NEnt (keysN kvs) vs xs) (da : DaL X.K D H (flatP kvs) vs) : (atKey xs (keyN kd)).isSome = (valN kvs (keyN kd)).isSome := by
  have hv := h1.val da (keyN kd)
  cases ev : valN kvs (keyN kd) with
  | none => rw [hv.2 ev]; rfl
  | some d => obtain ⟨a, u, v, e2, _⟩ := hv.1 d ev; rw [e2]; rfl
theorem o_inX (hu : X.A.units + 64 < cLine) (n : NdX X m x kvs) (ok : KeysOk kvs) (k1 : Key1 kd) (q : G (.bl (valN kvs (keyN kd)).isSome)) : O2 X (compareOp .In) kd x m G := by
  refine ⟨fun Z H vx vy Q so dx dy nk pins s g I v u rx ry => ?_⟩
  obtain ⟨p, vs, rfl, e1, da⟩ := n.at so dy
  cases ry
  obtain ⟨xs, h1, h2, h3, dd⟩ := e1.get I da ok
  obtain ⟨b, rfl, rfl, hk⟩ := key_at I k1 dx rx
  refine wpAny_in_heap (show X.A.in1.units + 8 < cLine by show X.A.units + 1 + 8 < cLine; omega) hk h3 dd ⟨.bl _, H, I.tok _, rfl, ?_⟩
  rw [some_eq h1 da]
  exact nk _ H _ m ⟨rfl, q⟩ Ext.rfl' so (.bl _)
theorem o_notInX (hu : X.A.units + 64 < cLine) (n : NdX X m x kvs) (ok : KeysOk kvs) (k1 : Key1 kd) (q : G (.bl (!(valN kvs (keyN kd)).isSome))) : O2 X (compareOp .NotIn) kd x m G := by
  refine ⟨fun Z H vx vy Q so dx dy nk pins s g I v u rx ry => ?_⟩
  obtain ⟨p, vs, rfl, e1, da⟩ := n.at so dy
  cases ry
  obtain ⟨xs, h1, h2, h3, dd⟩ := e1.get I da ok
  obtain ⟨b, rfl, rfl, hk⟩ := key_at I k1 dx rx
  refine wpAny_notIn_heap (show X.A.in1.units + 8 < cLine by show X.A.units + 1 + 8 < cLine; omega) hk h3 dd ⟨.bl _, H, I.tok _, rfl, ?_⟩
  rw [some_eq h1 da]
  exact nk _ H _ m ⟨rfl, q⟩ Ext.rfl' so (.bl _)
theorem c_len_ndX (n : NdX X m x kvs) (ok : KeysOk kvs) (q : F (.int kvs.length) m) : OC X (.builtin "len") [x] m F := by
  refine ⟨fun Z H vs Q so da nk pins s g I us rv => ?_⟩
  cases da with
  | cons d1 d2 =>
    cases d2
    cases rv with
    | cons r1 r2 =>
      cases r2
      obtain ⟨p, vs, rfl, e1, dl⟩ := n.at so d1
      cases r1
      obtain ⟨xs, h1, h2, h3, dd⟩ := e1.get I dl ok
      have hxl : xs.length = kvs.length := by
        have := congrArg List.length h1.keys
        rw [List.length_map] at this
        rw [this]
        unfold keysN
        rw [List.length_map]
      refine call_len_dictH h3 dd (by rw [sizeLine_eq] at h2; omega) ⟨.int _, H, I.tok _, ⟨_, rfl⟩, ?_⟩
      rw [hxl]
      exact nk _ H _ m q Ext.rfl' so (.int _)
theorem le_ndgetX (hu : X.A.units + 64 < cLine) (h : LE X o r m (fun x m1 => LE X i r m1 (fun kd m2 => ∃ kvs d, NdX X m2 x kvs ∧ KeysOk kvs ∧ Key1 kd ∧ valN kvs (keyN kd) = some d ∧ F d m2) E) E) (hs : NoSl i := by intro _ _; rfl) : LE X (.Subscript o i pos) r m F E := by
  refine ⟨fun Z g H Q Wx rp tk nk nx pins s I => ?_⟩
  refine subD_of PySem.F.slot_dict_getitem.lookup hs (thn (h.run Z g H (fun x H1 => wE X i g H1 fun y H2 => ∃ p kvs kd vs d D, x = .ref p ∧ NdH X H2 p kvs vs ∧ DaL X.K D H2 (flatP kvs) vs ∧ KeysOk kvs ∧ Key1 kd ∧ Da X.K D H2 kd y ∧ valN kvs (keyN kd) = some d ∧ ∀ v, Da X.K D H2 d v → Q v H2) Wx rp tk (fun v H1 d m1 q go so da => ?_) nx pins s I) fun u s1 ⟨x, H1, I1, rx, q1⟩ => thn (q1 pins s1 I1) fun iv s2 hh => ?_)
  · intro pins s I
    refine q.run Z g H1 _ Wx (rp.go go so) tk (fun v2 H2 d2 m2 q2 go2 so2 da2 => ?_) (nx.go go) pins s I
    obtain ⟨kvs, d', n, ok, k1, ev, q2⟩ := q2
    obtain ⟨p, vs, rfl, e1, dl⟩ := n.at so2 (da.move (go2.full Z))
    exact ⟨p, kvs, d2, vs, d', _, rfl, e1, dl, ok, k1, da2, ev, fun v dv => nk v H2 d' m2 q2 (go.trans go2) so2 dv⟩
  · obtain ⟨y, H2, I2, ry, p, kvs, kd, vs, d, D, rfl, e1, dl, ok, k1, dk, ev, q⟩ := hh
    obtain rfl : u = Value.ref p := rx
    obtain ⟨xs, h1, h2, h3, dd⟩ := e1.get I2 dl ok
    obtain ⟨b, rfl, rfl, hk⟩ := key_at I2 k1 dk ry
    obtain ⟨a, u, v, e2, rv, dv⟩ := (h1.val dl (keyN kd)).1 d ev
    exact ⟨dd.typeIs, wpAny_getItem_heap (show X.A.in1.units + 8 < cLine by show X.A.units + 1 + 8 < cLine; omega) hk dd e2 ⟨v, H2, I2.tok _, rv, q v dv⟩⟩
end
/-! ### a field's dict stands still from now on -/
theorem Fds.setD {K : PySem.W.Frag} {D : List Addr} {H : Hp} {f : Str} {d' : Dt} {v : V} (h : Da K D H d' v) : ∀ {fs : List (Str × Dt)} {vs : List (Str × V)}, Fds K D H fs vs → vs.lookup f = some v → Fds K D H (putD f d' fs) vs
  | _, _, .nil, e => by cases e
  | (g, x) :: fs, (_, y) :: vs, .cons h1 h2, e => by
    unfold putD
    rw [List.lookup_cons] at e
    by_cases eg : g = f
    · subst eg
      rw [beq_self_eq_true] at e
      cases e
      rw [if_pos rfl]
      exact .cons h h2
    · have hb : (f == g) = false := by rw [beq_eq_false_iff_ne]; exact fun z => eg z.symm
      rw [hb] at e
      rw [if_neg eg]
      exact .cons h1 (Fds.setD h h2 e)
section
variable {X : Cx} {st : List Stmt} {r : En} {m : Mu} {Pp : Pc} {a C dx p : Addr} {fs : List (Str × Dt)} {f : Str} {kvs : List (Dt × Dt)}
theorem lb_fzfld (hm : (a, Mc.ins C dx fs) ∈ m) (hp : (p, Mc.nd X.prog X.w p kvs) ∈ m) (hf : fs.lookup f = some (.raw (.ref p))) (h : ∀ od, LB X st r (forget p (put a (.ins C dx (putD f (ndz X.prog X.w od kvs) fs)) m)) Pp) : LB X st r m Pp := by
  refine ⟨fun Z g H DD Wx rp tk np pins s I => ?_⟩
  have so := rp.so
  obtain ⟨vs, e1, dl, _⟩ := so.ob _ hp
  obtain ⟨ws, e2, df⟩ := so.ob _ hm
  have hne : a ≠ p := fun z => by
    have e2' : H a = some (.ins C dx ws) := e2
    have e1' : H p = some (NDO X.prog X.w p (keysN kvs) vs) := e1
    rw [z, e1'] at e2'
    cases e2'
  obtain ⟨od, I2⟩ := I.lock e1 (by rw [← e1]; exact nd_mut e1)
  have hpm : p ∈ dom m := List.mem_map.mpr ⟨_, hp, rfl⟩
  have dsub : ∀ b, b ∈ dom (forget p (put a (.ins C dx (putD f (ndz X.prog X.w od kvs) fs)) m)) → b ∈ dom m ∧ b ≠ p := fun b hb => by
    obtain ⟨h1, h2⟩ := forget_dom hb
    rw [put_dom] at h1
    exact ⟨h1, h2⟩
  have g1 : Go m H (forget p (put a (.ins C dx (putD f (ndz X.prog X.w od kvs) fs)) m)) (upd H p (.frz od (NDO X.prog X.w p (keysN kvs) vs))) := ⟨fun b o n e => by rw [upd_ne (show b ≠ p from fun z => n (by rw [z]; exact hpm))]; exact e, fun b hb => .inl (dsub b hb).1⟩
  have np' : p ∉ Z ++ dom (forget p (put a (.ins C dx (putD f (ndz X.prog X.w od kvs) fs)) m)) := fun z => by
    rcases List.mem_append.mp z with z | z
    · exact so.dj p z hpm
    · exact (dsub p z).2 rfl
  obtain ⟨v0, ev, dv⟩ := df.look hf
  cases dv
  have s1 : So X.K Z (forget p (put a (.ins C dx (putD f (ndz X.prog X.w od kvs) fs)) m)) (upd H p (.frz od (NDO X.prog X.w p (keysN kvs) vs))) := by
    refine ⟨?_, fun b hb => ?_, fun b hb z => so.dj b hb (dsub b z).1, fun q hq => ?_⟩
    · have : (dom (forget p (put a (.ins C dx (putD f (ndz X.prog X.w od kvs) fs)) m))).Sublist (dom (put a (.ins C dx (putD f (ndz X.prog X.w od kvs) fs)) m)) := (List.filter_sublist (l := put a _ m)).map _
      exact (by rw [put_dom] at this; exact so.nd.sublist this)
    · rw [upd_ne (show b ≠ p from fun z => so.dj b hb (by rw [z]; exact hpm))]
      exact so.zs b hb
    · obtain ⟨hq1, hq2⟩ := List.mem_filter.mp hq
      have hqp : q.1 ≠ p := by simpa using hq2
      obtain ⟨q0, hq0, rfl⟩ := List.mem_map.mp hq1
      by_cases ea : q0.1 = a
      · rw [if_pos ea]
        have dz : Da X.K (Z ++ dom (forget p (put a (.ins C dx (putD f (ndz X.prog X.w od kvs) fs)) m))) (upd H p (.frz od (NDO X.prog X.w p (keysN kvs) vs))) (ndz X.prog X.w od kvs) (.ref p) := .obj (vs := vs) np' upd_same (dl.move (g1.full Z))
        exact ⟨ws, by rw [upd_ne hne]; exact e2, Fds.setD dz (df.move (g1.full Z)) ev⟩
      · rw [if_neg ea] at hqp ⊢
        exact (so.ob q0 hq0).keep (fun o e => by rw [upd_ne hqp]; exact e) (g1.full Z)
  exact (h od).run Z g _ DD Wx (rp.go g1 s1) tk (np.go g1) pins s I2
end
end Dw
namespace Dw
open PySem PySem.Spec PyProof.Rows L2
/-! ### walks over such dicts -/
theorem NEnt.at2 : ∀ {ks : List NestedKey} {vs : List V} {xs : List (NestedKey × Addr × Value)}, NEnt ks vs xs → ∀ {i : Nat} {x : NestedKey × Addr × Value}, xs[i]? = some x → vs[2 * i]? = some (.ref x.2.1) ∧ ∃ v, vs[2 * i + 1]? = some v ∧ RelV v x.2.2
  | _, _, _, .nil, i, x, e => by simp at e
  | _, _, _, .cons r t, 0, x, e => by
    simp at e
    subst e
    exact ⟨rfl, _, rfl, r⟩
  | _, _, _, .cons r t, i + 1, x, e => by
    have := t.at2 (i := i) (x := x) (by simpa using e)
    rw [show 2 * (i + 1) = 2 * i + 1 + 1 by omega]
    simpa using this
theorem flat_at : ∀ {kvs : List (Dt × Dt)} {i : Nat} {kd : Dt × Dt}, kvs[i]? = some kd → (flatP kvs)[2 * i]? = some kd.1 ∧ (flatP kvs)[2 * i + 1]? = some kd.2
  | [], i, kd, e => by simp at e
  | x :: kvs, 0, kd, e => by
    simp at e
    subst e
    exact ⟨rfl, rfl⟩
  | x :: kvs, i + 1, kd, e => by
    have := flat_at (kvs := kvs) (i := i) (kd := kd) (by simpa using e)
    rw [show 2 * (i + 1) = 2 * i + 1 + 1 by omega]
    simpa [flatP] using this
/-- the keys, each its own tuple -/
def Itn (P : Program) (w : World) (d : Addr) (o : Obj) (ks : List NestedKey) (vs : List V) : It :=
  ⟨fun i H => H d = some (.frz o (NDO P w d ks vs)) ∧ i < ks.length, fun i H x H' => H' = H ∧ vs[2 * i]? = some x, fun i H => H d = some (.frz o (NDO P w d ks vs)) ∧ ks.length ≤ i⟩
theorem frzN {X : Cx} {pins : List (Addr × Obj)} {g : L2.St} {H : Hp} {s : Shared} {d : Addr} {o : Obj} {ks : List NestedKey} {vs : List V} (I : Inv X pins g H s) (h : H d = some (.frz o (NDO X.prog X.w d ks vs))) :
    (d == sysModules) = false ∧ s.heap.get? d = some o ∧ o.ExactDict ∧ ∃ (es : Array DictEntry) (ep : Nat), o.data = .dict es ep ∧ es.size = ks.length ∧ ∀ i, i < ks.length → ∃ (en : DictEntry) (b : Addr), es[i]? = some en ∧ en.key = .ref b ∧ vs[2 * i]? = some (.ref b) := by
  obtain ⟨hd, ⟨xs, h1, h2, h3, h4, o', es, ep, e1, e2, e3, e4⟩, _, _⟩ := I.hok d _ h
  rw [hd] at e1
  cases e1
  have hl : xs.length = ks.length := by
    have := congrArg List.length h1.keys
    rwa [List.length_map] at this
  have hsz : es.size = ks.length := by
    have := congrArg List.length e4
    rw [List.length_map, Array.length_toList] at this
    omega
  refine ⟨h3, hd, e2, es, ep, e3, hsz, fun i hi => ?_⟩
  obtain ⟨x, hx⟩ : ∃ x, xs[i]? = some x := ⟨xs[i]'(by omega), List.getElem?_eq_getElem (by omega)⟩
  refine ⟨entryOfKey (nestedKind X.prog X.w) x, x.2.1, ?_, rfl, (h1.at2 hx).1⟩
  rw [← Array.getElem?_toList, e4, List.getElem?_map, hx]
  rfl
section
variable {P : Program} {w : World} {K : PySem.W.Frag} {tg : Expr} {d : Addr} {o : Obj} {es : Array DictEntry} {ep : Nat} {ks : List NestedKey} {vs : List V}
theorem turn_n (it : Addr) (hod : o.data = .dict es ep) : Turn P w K tg (Itn P w d o ks vs) [it] it (fun i h => h.IsKeyIter it d i ks.length ep) where
  mem := List.mem_singleton.mpr rfl
  obj := fun i h st b hb => by
    rw [List.mem_singleton.mp hb]
    obtain ⟨oi, a1, a2, a3⟩ := st
    exact ⟨oi, a1, fun v z => by rw [a3] at z; cases z⟩
  keep := fun i h h' st k => st.at fun oi e => k it (List.mem_singleton.mpr rfl) oi e
  item := by
    intro X hP hw hK hc i pins s g H E I hf st hg
    subst hP hw hK
    obtain ⟨hd, hi⟩ := hg
    obtain ⟨f0, f1, f2, f3, f4, f5⟩ := hf it (List.mem_singleton.mpr rfl)
    obtain ⟨_, hgd, _, es2, ep2, hdt, hsz, ent⟩ := frzN I hd
    rw [hod] at hdt
    cases hdt
    obtain ⟨en, b, hen, hkey, hq⟩ := ent i hi
    refine next_key_item st hgd hod hsz hen fun h' st' sb => ?_
    have J : Inv X pins g H { s with heap := h' } := I.turned (t' := s.toks) (fun b ob hb e => (sb.2 b hb).trans e) f0 f1 f3 f4 f5
    have st2 := st'
    obtain ⟨oi, a1, a2, a3⟩ := st2
    refine ⟨en.key, rfl, go_of (s := { s with heap := h' }) a1 a2 a3 (by decide) ⟨.ref b, H, J, hkey, ⟨rfl, hq⟩, st', fun c hc => (hf c hc).1⟩⟩
  done := by
    intro X hP hw hK hc i pins s g H E I hf st hg
    subst hP hw hK
    obtain ⟨hd, hi⟩ := hg
    obtain ⟨f0, f1, f2, f3, f4, f5⟩ := hf it (List.mem_singleton.mpr rfl)
    obtain ⟨_, hgd, _, es2, ep2, hdt, hsz, _⟩ := frzN I hd
    rw [hod] at hdt
    cases hdt
    exact next_key_end (I.ok.hd hc) st hgd hod hsz hi fun h' eb => ⟨rfl, I.turned (t' := s.toks) (fun b ob hb e => eb b ob hb e) f0 f1 f3 f4 f5⟩
  self := fun A i s Q E st h =>
    have sl := F.slot_dict_keyiterator_iter
    have nx := F.slot_dict_keyiterator_next.lookup
    wpAny_pyIter_slot st.typeIs sl (wpAny_call_entry sl st.typeIs F.entry_dict_keyiterator_iter (wpAny_pure ⟨_, rfl, "dict_keyiterator", _, st.typeIs, nx, h⟩) (F.args_dict_keyiterator_iter_1 _))
end
section
variable {X : Cx} {tg e : Expr} {r : En} {m : Mu} {E : Xd}
theorem li_ndz {L : List Dt → Mu → Prop} (h : LE X e r m (fun x m1 => ∃ od kvs, x = ndz X.prog X.w od kvs ∧ L (kvs.map (·.1)) m1) E) : LI X tg e r m L E := by
  refine ⟨fun Z g H R Wx rp tk nk nx pins s I => ?_⟩
  refine thn (h.run Z g H (fun v H1 => ∃ d o ks vs, v = .ref d ∧ H1 d = some (.frz o (NDO X.prog X.w d ks vs)) ∧ R (Itn X.prog X.w d o ks vs) H1) Wx rp tk (fun v H1 x m1 q go so da => ?_) nx pins s I) fun u s1 hh => ?_
  · obtain ⟨od, kvs, rfl, q⟩ := q
    cases da with
    | @obj d _ vs _ n e1 dl =>
      refine ⟨d, od, keysN kvs, vs, rfl, e1, nk _ _ m1 H1 q go so fun Z' hz i m2 H2 go2 so2 => ?_⟩
      have mv := Go.hide go2 hz
      have e2 : H2 d = some (.frz od (NDO X.prog X.w d (keysN kvs) vs)) := mv.keep _ _ n e1
      have hl : (keysN kvs).length = (kvs.map (·.1)).length := by unfold keysN; rw [List.length_map, List.length_map]
      refine ⟨fun hi => ⟨e2, by rw [hl]; exact hi⟩, fun hi => ⟨e2, by rw [hl]; exact hi⟩, fun x H3 d' hd hy => ?_⟩
      obtain ⟨rfl, hv⟩ := hy
      rw [List.getElem?_map] at hd
      cases hk : kvs[i]? with
      | none => rw [hk] at hd; cases hd
      | some kd =>
        rw [hk] at hd
        cases hd
        obtain ⟨v2, e3, e4⟩ := dl.get (flat_at hk).1
        rw [hv] at e3
        cases e3
        exact ⟨Ext.rfl', so2, e4.move mv⟩
  · obtain ⟨v, H1, I1, rv, d, o, ks, vs, rfl, e1, q⟩ := hh
    obtain rfl : u = Value.ref d := rv
    obtain ⟨hs, hgd, hx, es, ep, hdt, hsz, _⟩ := frzN I1 e1
    refine iter_keys hs hgd hx hdt (pi_one (tk := s1.toks) I1 _ (turn_n _ hdt) ⟨_, Heap.get?_push_size _ rfl, rfl, ?_⟩ q)
    rw [hsz] <;> rfl
end
end Dw
namespace Dw
open PySem PySem.Spec PyProof.Rows L2
/-! ### classes whose __init__ has one keyword-only parameter, its default None -/
structure MkW (P : Program) (w : World) (K : PySem.W.Frag) (mg : Str → Option Value) (base : Heap) (x : Str) (C : Addr) (k n : Nat) (kn : Str) (W : Spd) : Prop where
  ex : ∃ (f : Addr) (fd : FuncData) (ps : List Str), FnG P w K mg base k f fd ps (toSp K W) ∧ Mk K C f ∧ mg x = some (.ref C) ∧
    (∀ (s : Shared) (us : List Value) (v : Value), K.In s.heap → us.length = n + 1 → BindsTo s fd ⟨us, [(kn, v)]⟩ (ps.zip (us ++ [v]))) ∧
    (∀ (s : Shared) (us : List Value), K.In s.heap → us.length = n + 1 → BindsTo s fd ⟨us, []⟩ (ps.zip (us ++ [.none])))
section
variable {X : Cx} {e ke : Expr} {es : List Expr} {r : En} {m : Mu} {F : Pd} {E : Xd} {p pos kpos : Pos} {k j n : Nat} {N : List Str} {x kn : Str} {W : Spd} {C : Addr}
/-- the class called, whatever its arguments bind to -/
theorem run_makeA {pins : List (Addr × Obj)} {g : L2.St} {H : Hp} {s : Shared} {Q : VK} {us bs : List Value} {kw : List (Str × Value)} {vs : List V} {f : Addr} {fd : FuncData} {ps : List Str} {sp : Sp} {Wx : WX} (M : Mk X.K C f) (G : FnG X.prog X.w X.K X.mg X.base j f fd ps sp) (hr : Room (j + 1) X.A) (hgu : X.A.guards = some [])
    (hb : ∀ (s' : Shared) (a : Addr), X.K.In s'.heap → BindsTo s' fd ⟨.ref a :: us, kw⟩ (ps.zip (.ref a :: bs))) (tk : Takes X Wx) (I : Inv X pins g H s) (rv : Vals vs bs)
    (h : ∀ x dx, H x = none → H dx = none → dx ≠ x → sp (.ref x :: vs) (upd (upd H dx (.own x)) x (.ins C dx [])) (fun v H2 => v = .non ∧ Q (.ref x) H2) (WE Wx g)) :
    wpAny (model X.prog X.w) X.A (call (.ref C) us kw) (EP X pins g Q) X.xe s := by
  have hq := h (s.heap.objs.size + 1) s.heap.objs.size (I.hok.fresh (Nat.le_succ _)) (I.hok.fresh (Nat.le_refl _)) (Nat.ne_of_lt (Nat.lt_succ_self _))
  have I2 := Inv.made (C := C) I
  have r2 : Vals (V.ref (s.heap.objs.size + 1) :: vs) (Value.ref (s.heap.objs.size + 1) :: bs) := .cons rfl rv
  refine wpAny_call (make_map (f := f) (kw := kw) I.kIn M.makes M.init (beq_iff_eq.mp M.fn) (codeAny_mono (G.run _ X.stack _ _ ⟨Value.ref (s.heap.objs.size + 1) :: us, kw⟩ _ _ _ (WE Wx g) (hr.make C us kw) hgu (I2.env0.make C us kw) (hb _ _ I2.kIn) r2 hq) fun o s' hq' => ?_))
  cases o with
  | error u => exact passAt tk g pins _ _ u s' I2 hq'
  | ok fl =>
    cases fl with
    | ret u =>
      obtain ⟨v, H', I3, rv, ev, q3⟩ := I2.after hq'
      subst ev
      exact ⟨rv, ⟨V.ref (s.heap.objs.size + 1), H', I3, rfl, q3⟩⟩
    | next => exact hq'.elim
    | brk => exact hq'.elim
    | cont => exact hq'.elim
/-- the promise of __init__, from the caller's -/
theorem make_sp {Z : List Addr} {g : L2.St} {H H1 : Hp} {Q : VK} {Wx : WX} {m1 : Mu} {ds : List Dt} {vs : List V} (rp : Rep X.K Z m H g r) (nk : NK X.K Z m H F Q) (nx : NX X.K Z m H E Wx) (go : Go m H m1 H1) (so : So X.K Z m1 H1) (da : DaL X.K (Z ++ dom m1) H1 ds vs)
    (q : ∀ a dx, a ∉ dom m1 → W (.raw (.ref a) :: ds) ((a, .ins C dx []) :: m1) (fun d m' => d = .non ∧ F (.raw (.ref a)) m') (fun c fs m' => E c fs r m')) (a dx : Addr) (ha : H1 a = none) (hd : H1 dx = none) (ne : dx ≠ a) :
    toSp X.K W (.ref a :: vs) (upd (upd H1 dx (.own a)) a (.ins C dx [])) (fun v H2 => v = .non ∧ Q (.ref a) H2) (WE Wx g) := by
  obtain ⟨s2, g2⟩ := So.made (C := C) so ha hd ne
  have na : a ∉ dom m1 := fun z => so.there (List.mem_append_right _ z) ha
  have gg := go.trans g2
  refine ⟨Z, .raw (.ref a) :: ds, _, _, _, s2, .cons (.raw _) (da.move (g2.full Z)), q a dx na, fun v H' d m' q3 go3 so3 da3 => ?_, fun cls dx' fs us H' m' q3 go3 so3 nd e1 e2 => nx cls dx' fs us g H' r m' q3 (gg.trans go3) (rp.go (gg.trans go3) so3) nd e1 e2⟩
  obtain ⟨rfl, q3⟩ := q3
  cases da3
  exact ⟨rfl, nk _ H' _ m' q3 (gg.trans go3) so3 (.raw _)⟩
theorem le_makeW (D : MkW X.prog X.w X.K X.mg X.base x C j n kn W) (gd : Gd k N X) (hj : j + 1 ≤ k) (ha : LA X (e :: es) r m (fun ds m1 => LE X ke r m1 (fun d m2 => ds.length = n ∧ ∀ a dx, a ∉ dom m2 → W (.raw (.ref a) :: (ds ++ [d])) ((a, .ins C dx []) :: m2) (fun d m' => d = .non ∧ F (.raw (.ref a)) m') (fun c fs m' => E c fs r m')) E) E) (hg : Gl X x := by rfl)
    (hall : (backToKw pos (keywordEach [⟨some kn, ke, kpos⟩] X.env)).all (·.1.isSome) = true := by rfl) (hks : (backToKw pos (keywordEach [⟨some kn, ke, kpos⟩] X.env)).filterMap (·.1) = [kn] := by rfl)
    (hdb : (x == ("__debug__" : Str)) = false := by decide) (he : starEach (e :: es) X.env = (false, eval e X.env) :: starEach es X.env := by rfl)
    (hpl : ((backTo pos (starEach (e :: es) X.env)).any (·.1) || (backToKw pos (keywordEach [⟨some kn, ke, kpos⟩] X.env)).any (·.1.isNone)) = false := by rfl) :
    LE X (.Call (.Name x p) (e :: es) [⟨some kn, ke, kpos⟩] pos) r m F E := by
  obtain ⟨f, fd, ps, G, M, hm, hb, _⟩ := D.ex
  refine ⟨fun Z g H Q Wx rp tk nk nx pins s I => ?_⟩
  refine wpAny_Call_Name_kw (ld_glob I hg hm ?_ hdb)
  refine PySem.W.callWith_KW (h₀ := X.base) I.ok.mod.kin M.kp hall (thn (ha.run Z g H (fun vs H1 => wE X ke g H1 (fun v H2 => vs.length = n ∧ ∀ a dx, H2 a = none → H2 dx = none → dx ≠ a → toSp X.K W (.ref a :: (vs ++ [v])) (upd (upd H2 dx (.own a)) a (.ins C dx [])) (fun v H3 => v = .non ∧ Q (.ref a) H3) (WE Wx g))) Wx rp tk (fun vs H1 ds m1 q go so da => ?_) nx pos pins s I) fun us s1 h1 => ?_) hpl he
  · refine q.run Z g H1 _ Wx (rp.go go so) tk (fun v H2 d m2 q2 go2 so2 da2 => ?_) (nx.go go)
    exact ⟨by rw [← da.length]; exact q2.1, make_sp rp nk nx (go.trans go2) so2 ((da.move (go2.full Z)).append (.cons da2 .nil)) q2.2⟩
  · obtain ⟨vs, H1, I1, rv, q⟩ := h1
    refine thn ((pk_cons (kpos := kpos) (nm := some kn) (pe_w (X := X) (e := ke)) pk_nil).run pos pins s1 g H1 (fun zs H2 => ∃ z, zs = [z] ∧ vs.length = n ∧ ∀ a dx, H2 a = none → H2 dx = none → dx ≠ a → toSp X.K W (.ref a :: (vs ++ [z])) (upd (upd H2 dx (.own a)) a (.ins C dx [])) (fun v H3 => v = .non ∧ Q (.ref a) H3) (WE Wx g)) I1 ?_) fun ws s2 h2 => ?_
    · intro pins2 s3 I3
      refine wpAny_mono (q pins2 s3 I3) (fun u s4 h4 => ?_) fun _ _ z => z
      obtain ⟨v, H4, I4, rv4, q4⟩ := h4
      exact ⟨v, H4, I4, rv4, v, rfl, q4⟩
    · obtain ⟨zs, H2, I2, rz, z, rfl, hl, hsp⟩ := h2
      refine ⟨I2.kIn, ?_⟩
      rw [hks]
      cases rz with
      | cons rz1 rz2 =>
        cases rz2
        rename_i w0
        exact run_makeA (us := us) (kw := [(kn, w0)]) M G (gd.room.mono hj) gd.gu (fun s' a hk => hb s' (.ref a :: us) w0 hk (by rw [List.length_cons, ← rv.length, hl])) tk I2 (rv.append (.cons rz1 .nil)) hsp
theorem le_makeWd (D : MkW X.prog X.w X.K X.mg X.base x C j n kn W) (gd : Gd k N X) (hj : j + 1 ≤ k) (ha : LA X (e :: es) r m (fun ds m1 => ds.length = n ∧ ∀ a dx, a ∉ dom m1 → W (.raw (.ref a) :: (ds ++ [.non])) ((a, .ins C dx []) :: m1) (fun d m' => d = .non ∧ F (.raw (.ref a)) m') (fun c fs m' => E c fs r m')) E) (hg : Gl X x := by rfl)
    (hdb : (x == ("__debug__" : Str)) = false := by decide) (he : starEach (e :: es) X.env = (false, eval e X.env) :: starEach es X.env := by rfl) (hpl : (backTo pos (starEach es X.env)).any (·.1) = false := by rfl) : LE X (.Call (.Name x p) (e :: es) [] pos) r m F E := by
  obtain ⟨f, fd, ps, G, M, hm, _, hb⟩ := D.ex
  refine ⟨fun Z g H Q Wx rp tk nk nx pins s I => ?_⟩
  refine wpAny_Call_Name_kw (ld_glob I hg hm ?_ hdb)
  refine PySem.W.callWith_K (h₀ := X.base) I.ok.mod.kin M.kp (thn (ha.run Z g H (fun vs H1 => vs.length = n ∧ ∀ a dx, H1 a = none → H1 dx = none → dx ≠ a → toSp X.K W (.ref a :: (vs ++ [.non])) (upd (upd H1 dx (.own a)) a (.ins C dx [])) (fun v H3 => v = .non ∧ Q (.ref a) H3) (WE Wx g)) Wx rp tk (fun vs H1 ds m1 q go so da => ?_) nx pos pins s I) fun us s1 ⟨vs, H1, I1, rv, hl, q⟩ => ⟨I1.kIn, ?_⟩) he hpl
  · exact ⟨by rw [← da.length]; exact q.1, make_sp rp nk nx go so (da.append (.cons .non .nil)) q.2⟩
  · exact run_makeA (us := us) (kw := []) M G (gd.room.mono hj) gd.gu (fun s' a hk => hb s' (.ref a :: us) hk (by rw [List.length_cons, ← rv.length, hl])) tk I1 (rv.append (.cons (show RelV .non .none from rfl) .nil)) q
end
end Dw
namespace Dw
open PySem PySem.Spec PyProof.Rows L2
/-! ### what forms and grammars need: T.index(x), sorted of ints and of texts, i in a list of ints -/
section
variable {X : Cx} {o e : Expr} {r : En} {m : Mu} {F : Pd} {E : Xd} {apos pos : Pos}
theorem strs_da' {K : PySem.W.Frag} {D : List Addr} {H : Hp} : ∀ {ys : List Str} {vs : List V}, DaL K D H (ys.map Dt.str) vs → vs = ys.map V.str
  | [], _, h => by cases h; rfl
  | _ :: _, _, .cons a t => by cases a; rw [strs_da' t]; rfl
/-- a module's tuple of texts whose methods may be called -/
structure TupN (K : PySem.W.Frag) (t : Addr) (ys : List Str) : Prop where
  k : TupK K t ys
  nd : ∃ o, K.lookup t = some o ∧ o.cls = .type "tuple" ∧ o.dict = none
/-- T.index(e), T a module's tuple of texts -/
theorem le_indexS {x : Str} {t : Addr} {ys : List Str} {p : Pos} (hm : X.mg x = some (.ref t)) (T : TupN X.K t ys)
    (h : LA X [e] r m (fun ds m2 => ∃ (z : Str) (j : Nat), ds = [.str z] ∧ ys[j]? = some z ∧ (∀ i, i < j → ys[i]? ≠ some z) ∧ F (.int (j : Nat)) m2) E) (hg : Gl X x := by rfl) (hdb : (x == ("__debug__" : Str)) = false := by decide)
    (hbase : attributeBase (.Name x p) "index" X.env (eval (.Name x p) X.env) = eval (.Name x p) X.env := by rfl)
    (hfew : ((backTo pos (starEach [e] X.env)).all (fun x => !x.1) && (backToKw pos (keywordEach [] X.env)).all (fun x => x.1.isSome)
      && decide ([e].length + ([] : List Keyword).length + (if ([] : List Keyword).isEmpty then 0 else 1) < 30)) = true := by rfl)
    (hline : (apos.endLine == pos.line) = true := by rfl) (hs : starEach [e] X.env = (false, eval e X.env) :: starEach [] X.env := by rfl) : LE X (.Call (.Attribute (.Name x p) "index" apos) [e] [] pos) r m F E := by
  refine ⟨fun Z st H Q W rp tk nk nx => (pe_bm PySem.F.plainAttrs_tuple PySem.F.slot_tuple_index PySem.F.type_tuple_index mt_tup_index (pe_glob (v := .ref t) hg hm rfl hdb) pa_w hbase hfew hline hs rfl).w ?_⟩
  refine ⟨.inr (.inl ⟨rfl, T.nd⟩), h.run Z st H _ W rp tk (fun vs H2 es m2 q2 go2 so2 da2 => ?_) nx⟩
  obtain ⟨z, j, rfl, hj, hi, q2⟩ := q2
  cases da2 with
  | cons d1 d3 =>
    cases d3
    cases d1
    have sq : SqT X.K H2 t (ys.map V.str) := by
      rcases T.k.sq with (h | ⟨_, h⟩) | h
      · cases h
      · cases h
      · exact .inr h
    exact ⟨t, ys, z, j, rfl, rfl, sq, hj, hi, nk _ H2 _ m2 q2 go2 so2 (.int _)⟩
end
section
variable {X : Cx} {m : Mu} {F : Pd} {G : Dt → Prop}
theorem ints_dal' {K : PySem.W.Frag} {D : List Addr} {H : Hp} : ∀ l : List Int, DaL K D H (l.map Dt.int) (l.map V.int)
  | [] => .nil
  | z :: l => .cons (.int z) (ints_dal' l)
/-- sorted(xs), ints -/
theorem c_sortedI {ns : List Int} (q : ∀ ns' : List Int, ns'.Perm ns → ns'.Pairwise (· ≤ ·) → F (.lst (ns'.map Dt.int)) m) : OC X (.builtin "sorted") [.lst (ns.map Dt.int)] m F :=
  oc_of cr_sortedI fun Z H vs Q so da nk => by
    cases da with
    | cons d1 d2 =>
      cases d2
      cases d1 with
      | lst h1 h2 =>
        obtain rfl := ints_da h2
        exact ⟨_, ns, rfl, h1.sq, fun ns' p e1 e2 hp => nk _ _ _ m (q ns' e1 e2) (Ext.fresh hp) (so.laid hp) (da_new_lst so hp (ints_dal' ns'))⟩
/-- sorted(xs), texts, fewer than 64 -/
theorem c_sortedS {ys : List Str} (hl : ys.length < 64) (q : ∀ zs : List Str, zs.Perm ys → sortedS zs = true → F (.lst (zs.map Dt.str)) m) : OC X (.builtin "sorted") [.lst (ys.map Dt.str)] m F :=
  oc_of cr_sortedS fun Z H vs Q so da nk => by
    cases da with
    | cons d1 d2 =>
      cases d2
      cases d1 with
      | lst h1 h2 =>
        obtain rfl := strs_da' h2
        exact ⟨_, ys, rfl, h1.sq, hl, fun zs p e1 e2 hp => nk _ _ _ m (q zs e1 e2) (Ext.fresh hp) (so.laid hp) (da_new_lst so hp (strs_dl zs))⟩
theorem o_inIL {i : Int} {ns : List Int} (q : G (.bl (decide (i ∈ ns)))) : O2 X (compareOp .In) (.int i) (.lst (ns.map Dt.int)) m G :=
  o2_of op_in_seq fun Z H vx vy Q so dx dy nk => by
    cases dx
    cases dy with
    | lst h1 h2 =>
      have e := ints_da h2
      subst e
      refine ⟨_, _, rfl, .inl h1.sq, rfl, by simp [flatV], nk _ H _ m ⟨rfl, ?_⟩ Ext.rfl' so (.bl _)⟩
      simp only [Bool.false_eq_true, if_false]
      rw [inV_int]; exact q
end
section
variable {X : Cx} {a b c : Expr} {r : En} {m : Mu} {B : Bool → Mu → Prop} {E : Xd} {pos : Pos} {ta tb tc : TT}
/-- a if c else b as a test -/
def tIfT (tc ta tb : TT) : TT := fun σ H Q => tc σ H fun k H1 => if k = true then ta σ H1 Q else tb σ H1 Q
theorem pt_ife (hc : PT X c tc) (ha : PT X a ta) (hb : PT X b tb) : PT X (.IfExp c a b pos) (tIfT tc ta tb) := by
  refine ⟨fun pn s g H D iv hh => isTrue_IfExp (thn (hc.run pn s g H _ iv hh) fun k s2 ⟨G, iv2, hk⟩ => ?_)⟩
  cases k with
  | true => exact ha.run pn s2 g G D iv2 hk
  | false => exact hb.run pn s2 g G D iv2 hk
theorem lt_ife (h : LT X c r m (fun k m1 => if k = true then LT X a r m1 B E else LT X b r m1 B E) E) : LT X (.IfExp c a b pos) r m B E := by
  refine ⟨fun Z st H Q W rp tk nk nx => (pt_ife pt_w pt_w pt_w).w ?_⟩
  refine h.run Z st H _ W rp tk (fun k H1 m1 q go so => ?_) nx
  cases k with
  | true =>
    have q' : LT X _ r m1 B E := q
    exact q'.run Z st H1 Q W (rp.go go so) tk (nk.go go) (nx.go go)
  | false =>
    have q' : LT X _ r m1 B E := q
    exact q'.run Z st H1 Q W (rp.go go so) tk (nk.go go) (nx.go go)
end
end Dw
namespace Dw
open PySem PySem.Spec PyProof.Rows L2
/-! ### comprehensions with a pair of names -/
theorem set_pair {α : Type} {l : List (Option α)} {i j : Nat} {a b : Option α} (h : i ≠ j) : (((l.set j none).set i none).set i a).set j b = (l.set i a).set j b := by
  apply List.ext_getElem?
  intro k
  simp only [List.getElem?_set, List.length_set]
  by_cases h1 : j = k <;> by_cases h2 : i = k <;> simp [h1, h2]
theorem wipe_pair {g : L2.St} {i j : Nat} {a b : Option V} (h : i ≠ j) : wipe ((((g.set j none).set i none).set i a).set j b) [i, j] = wipe g [i, j] := by
  show ((((((g.set j none).set i none).set i a).set j b)).set j none).set i none = (g.set j none).set i none
  apply List.ext_getElem?
  intro k
  simp only [List.getElem?_set, List.length_set]
  by_cases h1 : j = k <;> by_cases h2 : i = k <;> simp [h1, h2]
section
variable {X : Cx} {e : Expr} {es : List Expr} {r : En} {m : Mu} {F : Pd} {E : Xd} {p pos : Pos} {k j : Nat} {N : List Str} {x : Str}
theorem lc_read2 {scope : Scope} {elt tg iter : Expr} {ifs : List Expr} {i0 j0 : Nat} {f : Dt → En} (hij : i0 ≠ j0) (hr : ∀ a b, f (.tup [a, b]) = (r.set i0 (some a)).set j0 (some b)) (Iv : List Dt → Nat → List Dt → Mu → Prop) (h : LI X tg iter r m (fun ds m1 => (∀ d ∈ ds, ∃ a b, d = .tup [a, b]) ∧ LcOk X scope elt ifs f Iv F ds m1) E)
    {Z : List Addr} {g : L2.St} {H : Hp} {Q : VK} {Wx : WX} (rp : Rep X.K Z m H g r) (tk : Takes X Wx) (nk : NK X.K Z m H F Q) (nx : NX X.K Z m H E Wx) :
    tLc (wIt X tg iter) (gTup X.K 2 (gCons (gName i0) (gCons (gName j0) gNil))) (bT X scope ifs) (bE X scope elt) [i0, j0] g H Q := by
  refine h.run Z g H _ Wx rp tk (fun J ds m1 H1 q go so it D hD => ?_) nx
  obtain ⟨hpr, hsz, q0, qs, qd⟩ := q
  have hz : ∀ a ∈ D :: Z, a ∈ Z ∨ H1 a = none := fun a ha => by
    rcases List.mem_cons.mp ha with z | z
    · exact .inr (by rw [z]; exact hD)
    · exact .inl z
  have rp1 : Rep X.K Z m1 H1 g r := rp.go go so
  refine ⟨fun i n H2 => n = ds.length - i ∧ i ≤ ds.length ∧ ∃ acc accV m2, Iv ds i acc m2 ∧ acc.length ≤ i ∧ Go m1 H1 m2 H2 ∧ So X.K (D :: Z) m2 H2 ∧ H2 D = some (.lst accV) ∧ DaL X.K ((D :: Z) ++ dom m2) H2 acc accV,
    ⟨ds.length, rfl, Nat.zero_le _, [], [], m1, q0, Nat.zero_le _, Ext.fresh hD, so.hides hD, upd_same, .nil⟩, fun i n H2 hw => ?_⟩
  obtain ⟨rfl, hi, acc, accV, m2, iv, hal, go2, so2, hd2, da2⟩ := hw
  obtain ⟨hgo, hstop, hy⟩ := it (D :: Z) hz i m2 H2 go2 so2
  by_cases hlt : i < ds.length
  · refine .inr ⟨hgo hlt, fun H3 => ∃ acc accV m2, Iv ds (i + 1) acc m2 ∧ acc.length ≤ i + 1 ∧ Go m1 H1 m2 H3 ∧ So X.K (D :: Z) m2 H3 ∧ H3 D = some (.lst accV) ∧ DaL X.K ((D :: Z) ++ dom m2) H3 acc accV,
      fun H3 hn => ⟨ds.length - (i + 1), by omega, rfl, hlt, hn⟩, fun v H3 yv => ?_⟩
    obtain ⟨gy, sy, dy⟩ := hy v H3 ds[i] (List.getElem?_eq_getElem hlt) yv
    have go3 : Go m1 H1 m2 H3 := go2.trans gy
    have nD : D ∉ dom m2 := so2.dj D List.mem_cons_self
    have hd3 : H3 D = some (.lst accV) := gy.keep D _ nD hd2
    have da3 : DaL X.K ((D :: Z) ++ dom m2) H3 acc accV := da2.move (Go.full (D :: Z) gy)
    obtain ⟨a, b, eab⟩ := hpr ds[i] (List.getElem_mem hlt)
    have dy' : Da X.K ((D :: Z) ++ dom m2) H3 (.tup [a, b]) v := eab ▸ dy
    obtain ⟨t, va, vb, rfl, ht, d1, d2⟩ : ∃ t va vb, v = .ref t ∧ SqT X.K H3 t [va, vb] ∧ Da X.K ((D :: Z) ++ dom m2) H3 a va ∧ Da X.K ((D :: Z) ++ dom m2) H3 b vb := by
      cases dy' with
      | tup h1 h2 =>
        cases h2 with
        | cons x1 x2 =>
          cases x2 with
          | cons x3 x4 =>
            cases x4
            exact ⟨_, _, _, rfl, h1.sq, x1, x3⟩
    refine ⟨t, [va, vb], rfl, ht, rfl, va, [vb], rfl, vb, [], rfl, rfl, wipe_pair hij, fun s H' C cl fp => ?_⟩
    have rp3 : Rep X.K (D :: Z) m2 H3 ((((g.set j0 none).set i0 none).set i0 (some va)).set j0 (some vb)) (f ds[i]) := by
      rw [set_pair hij, eab, hr]
      have b : Rep X.K (D :: Z) m2 H3 g r := ⟨sy, rp1.len, fun i d e => by
        obtain ⟨v, h1, h2⟩ := rp1.at' i d e
        exact ⟨v, h1, h2.move (Go.hide go3 hz)⟩⟩
      exact (b.set i0 d1).set j0 d2
    refine (qs i ds[i] acc m2 (List.getElem?_eq_getElem hlt) hal iv s H' C cl fp).run (D :: Z) _ H3 _ (fun _ _ _ _ => False) rp3 takes0 (fun b H4 m4 q4 go4 so4 => ?_) (fun _ _ _ _ _ _ _ _ q => q.elim)
    have nD4 : D ∉ dom m4 := so4.dj D List.mem_cons_self
    have hd4 : H4 D = some (.lst accV) := go4.keep D _ nD hd3
    have da4 : DaL X.K ((D :: Z) ++ dom m4) H4 acc accV := da3.move (Go.full (D :: Z) go4)
    cases b with
    | false => exact ⟨acc, accV, m4, q4, by omega, go3.trans go4, so4, hd4, da4⟩
    | true =>
      have q5 : ∀ s H C cl fp, LE (bk X scope s H C cl fp) elt (f ds[i]) m4 (fun y m4 => Iv ds (i + 1) (acc ++ [y]) m4) X0 := q4
      intro s H' C cl fp
      refine (q5 s H' C cl fp).run (D :: Z) _ H4 _ (fun _ _ _ _ => False) (rp3.go go4 so4) takes0 (fun v5 H5 d5 m5 q6 go5 so5 da5 => ?_) (fun _ _ _ _ _ _ _ _ q => q.elim)
      have hd5 : H5 D = some (.lst accV) := go5.keep D _ nD4 hd4
      have dl5 : DaL X.K ((D :: Z) ++ dom m5) H5 acc accV := da4.move (Go.full (D :: Z) go5)
      obtain ⟨s6, x6⟩ := so5.hid (o := .lst (accV ++ [v5]))
      have g6 : Go m1 H1 m5 H5 := (go3.trans go4).trans go5
      refine ⟨accV, hd5, by rw [← dl5.length]; omega, acc ++ [d5], accV ++ [v5], m5, q6, by rw [List.length_append, List.length_singleton]; omega, ⟨fun a o n e => ?_, g6.new⟩, s6, upd_same, (dl5.append (.cons da5 .nil)).move x6⟩
      rw [upd_ne (ne_of_none e hD)]
      exact g6.keep a o n e
  · have e : i = ds.length := by omega
    subst e
    have nD : D ∉ dom m2 := so2.dj D List.mem_cons_self
    refine .inl ⟨hstop (Nat.le_refl _), nk _ H2 _ m2 (qd acc m2 hal iv) (go.trans go2) so2.drop (.lst ⟨fun z => ?_, hd2⟩ (da2.move ⟨fun _ _ _ e => e, fun a ha => .inl ?_⟩))⟩
    · rcases List.mem_append.mp z with z | z
      · exact (so.zs D z).1 hD
      · exact nD z
    · rcases List.mem_append.mp ha with z | z
      · exact List.mem_append_left _ (List.mem_cons_of_mem _ z)
      · exact List.mem_append_right _ z
end
/-- the slots with a pair laid -/
def fP (r : En) (i j : Nat) : Dt → En
  | .tup [a, b] => (r.set i (some a)).set j (some b)
  | _ => r
section
variable {X : Cx} {r : En} {m : Mu} {F : Pd} {E : Xd} {pos p2 p3 pt : Pos} {k kt : Nat} {N : List Str} {x y : Str} {scope : Scope} {elt iter : Expr} {ifs : List Expr}
theorem le_lcP (sc : Scope) (i0 j0 : Nat) (gd : Gd k N X) (hi : N[i0]? = some x) (hj : N[j0]? = some y) (hij : i0 ≠ j0) (Iv : List Dt → Nat → List Dt → Mu → Prop)
    (h : LI X (.Tuple [.Name x p2, .Name y p3] kt pt) iter r m (fun ds m1 => (∀ d ∈ ds, ∃ a b, d = .tup [a, b]) ∧ LcOk X scope elt ifs (fP r i0 j0) Iv F ds m1) E) (hsc : X.env.scope = sc := by rfl) (hb : blkC N sc scope [(x, i0), (y, j0)] = true := by decide +kernel)
    (hx : ∀ s H C cl fp, Loc (bk X scope s H C cl fp).env.scope x := by intro _ _ _ _ _; first | exact Or.inl rfl | exact Or.inr rfl)
    (hy : ∀ s H C cl fp, Loc (bk X scope s H C cl fp).env.scope y := by intro _ _ _ _ _; first | exact Or.inl rfl | exact Or.inr rfl)
    (hfx : ∀ s H C cl fp, (bk X scope s H C cl fp).fn x = true ∨ (bk X scope s H C cl fp).env.scope.names.lookup x = some .local := by intro _ _ _ _ _; first | exact .inr rfl | exact .inl rfl)
    (hfy : ∀ s H C cl fp, (bk X scope s H C cl fp).fn y = true ∨ (bk X scope s H C cl fp).env.scope.names.lookup y = some .local := by intro _ _ _ _ _; first | exact .inr rfl | exact .inl rfl)
    (hs : ∀ x, foldedSetIterable iter X.env x = pure x := by intro _; rfl) : LE X (.ListComp elt [⟨.Tuple [.Name x p2, .Name y p3] kt pt, iter, ifs, 0⟩] scope pos) r m F E := by
  have b : BlkOk X.N X.env.scope scope [(x, i0), (y, j0)] := by rw [hsc, gd.hN]; exact blkOk_by hb
  refine ⟨fun Z g H Q Wx rp tk nk nx => (pe_lc (own := [(x, i0), (y, j0)]) (g := gTup X.K 2 (gCons (gName i0) (gCons (gName j0) gNil))) (tt := bT X scope ifs) (te := bE X scope elt) gd.calm gd.nd' pi_w b (fun s H C cl fp => ?_) (fun s H C cl fp => ⟨fun pins s g H Q I h => pts_w.run pins s g H Q I (h _ _ _ _ _)⟩) (fun s H C cl fp => ⟨fun pins s g H Q I h => h _ _ _ _ _ pins s I⟩) hs).w (lc_read2 hij (fun _ _ => rfl) Iv h rp tk nk nx)⟩
  exact pg_tup gd.calm (pgs_cons (pg_name (i := i0) gd.nd' (by show X.N[i0]? = _; rw [gd.hN]; exact hi) (hx s H C cl fp) (hfx s H C cl fp)) (pgs_cons (pg_name (i := j0) gd.nd' (by show X.N[j0]? = _; rw [gd.hN]; exact hj) (hy s H C cl fp) (hfy s H C cl fp)) pgs_nil))
end
end Dw
namespace Dw
open PySem PySem.Spec PyProof.Rows L2
/-! ### what Grammars need: isinstance of an own class, sorted of a tuple of texts -/
/-- a plain class whose instances isinstance knows -/
structure InsK (K : PySem.W.Frag) (C : Addr) : Prop where
  cl : Cls K C
  ha : PySem.W.findIn K (.ref C) "__class__" = some (some (.builtin "object.__class__"))
  hn : PySem.W.specialIn K (.builtin "object.__class__") "__get__" = some (some (.builtin "getset_descriptor.__get__"))
  tk : PySem.W.takesIn K (.builtin "object.__class__") = some true
  mr : PySem.W.mroIn K C (.type "object") = some true
  is : PySem.W.isClsIn K C = true
  ty : PySem.W.typeIn K (.ref C) = some (.type "type")
  no : ∀ T ∈ ["NoneType", "int", "str", "tuple"], PySem.W.subIn K (.type T) (.ref C) = some false
theorem InsK.one {K : PySem.W.Frag} {C : Addr} (k : InsK K C) {T : String} (h : T ∈ ["NoneType", "int", "str", "tuple"]) : PySem.W.kitOne K (.type T) (.ref C) = some false := by
  have x2' : (PySem.W.clsIn K C).isSome = true := k.is
  have e : (Value.type T == Value.ref C) = false := rfl
  unfold PySem.W.kitOne
  rw [e, if_neg Bool.false_ne_true]
  unfold PySem.W.kitCls
  simp only [x2', k.ty, k.no T h]
  rfl
section
variable {X : Cx} {m : Mu} {F : Pd} {C a dx : Addr} {fs : List (Str × Dt)}
theorem c_isi_ins (k : InsK X.K C) (hm : (a, Mc.ins C dx fs) ∈ m) (q : F (.bl true) m) : OC X (.builtin "isinstance") [.raw (.ref a), .raw (.ref C)] m F :=
  oc_of call_isi fun Z H vs Q so da nk => by
    cases da with
    | cons d1 d2 =>
      cases d2 with
      | cons d2 d3 =>
        cases d3
        cases d2
        cases d1
        obtain ⟨us, e1, e2⟩ := so.ob _ hm
        refine ⟨_, _, _, _, true, rfl, .own C, .base (.ins e1 k.cl k.ha k.hn k.tk k.mr), ?_, nk _ H _ m q Ext.rfl' so (.bl _)⟩
        unfold PySem.W.kitOne
        rw [if_pos (by exact beq_iff_eq.mpr rfl)]
theorem c_isi_not {x : Dt} {T : String} (k : InsK X.K C) (h : tyD x = some T) (ht : T ∈ ["NoneType", "int", "str", "tuple"]) (q : F (.bl false) m) : OC X (.builtin "isinstance") [x, .raw (.ref C)] m F :=
  oc_of call_isi fun Z H vs Q so da nk => by
    cases da with
    | cons d1 d2 =>
      cases d2 with
      | cons d2 d3 =>
        cases d3
        cases d2
        exact ⟨_, _, _, _, false, rfl, .own C, tyx_da d1 h, k.one ht, nk _ H _ m q Ext.rfl' so (.bl _)⟩
end
section
variable {prog : Program} {w : World} {A : Around} {E : Value → Shared → Prop} {s : Shared}
/-- the items of a tuple, told anew; nothing old is lost -/
theorem coll_tup {l : Addr} {o : Obj} {vs : List Value} {n : Nat} {Q : List Value → Shared → Prop} (ho : s.heap.get? l = some o) (hc : o.cls = .type "tuple") (hd : o.data = .seq vs.toArray n)
    (hQ : ∀ h1 : Heap, s.heap.objs.size ≤ h1.objs.size → (∀ b u, s.heap.get? b = some u → h1.get? b = some u) → Q vs { s with heap := h1 }) (hz : vs.length ≤ sizeLine) : wpAny (model prog w) A (collect (.ref l)) Q E s := by
  unfold collect
  refine wpAny_bind (wpAny_runValue (codeAny_builtin F.entry_proto_collect ?_)); rw [Around.under_plainId F.plain_proto_collect _]
  show wpAny _ A.in1 (newList [] >>= fun q => again (.builtin "list.__iadd__" ⟨[q, .ref l], []⟩)) _ _ s
  refine wpAny_bind (wpAny_newObj_type (wpAny_pure ⟨plainId_quiet F.plain_list_iadd _, codeAny_builtin F.entry_list_iadd ?_⟩)); rw [Around.under_plainId F.plain_list_iadd _]
  show wpAny _ A.in1 (Builtin.List.listExtendWith (.ref s.heap.objs.size) (.ref l) (.ref s.heap.objs.size)) _ _ _
  have g0 : (s.heap.push { cls := .type "list", data := .seq ([] : List Value).toArray }).get? s.heap.objs.size = some { cls := .type "list", data := .seq #[] 0 } := Heap.get?_push_size _ rfl
  have g1 := Heap.get?_update_self (Obj.mapSeq (· ++ vs.toArray)) g0 rfl
  have last : wpAny (model prog w) A (match Value.ref s.heap.objs.size with | Value.ref a => do { match (← load a).data with | Data.seq xs _ => pure xs.toList | _ => unsupported "internal:collect" } | _ => unsupported "internal:collect") Q E { s with heap := (s.heap.push { cls := .type "list", data := .seq ([] : List Value).toArray }).update s.heap.objs.size (Obj.mapSeq (· ++ vs.toArray)) } := by
    show wpAny _ A (load s.heap.objs.size >>= _) _ _ _
    refine wpAny_bind (wpAny_load g1 (wpAny_pure ?_))
    have e : ((#[] : Array Value) ++ vs.toArray).toList = vs := by simp
    show Q ((#[] : Array Value) ++ vs.toArray).toList _
    rw [e]
    refine hQ _ (by rw [Heap.size_update, Heap.size_push]; exact Nat.le_succ _) fun b u hb => ?_
    exact (Heap.get?_update_other _ _ (Nat.ne_of_gt (Heap.lt_size hb))).trans (Heap.get?_push_of_some _ hb)
  refine wpAny_mono (wpAny_extend_seq (hsz := by simpa using hz) (A := A) (R := fun r s' => r = .ok (.ret (.ref s.heap.objs.size)) ∧ s' = { s with heap := (s.heap.push { cls := .type "list", data := .seq ([] : List Value).toArray }).update s.heap.objs.size (Obj.mapSeq (· ++ vs.toArray)) }) (s := { s with heap := s.heap.push { cls := .type "list", data := .seq ([] : List Value).toArray } }) _ l _ 0 (.inr rfl) g0 (Heap.get?_push_of_some _ ho) hc hd ⟨rfl, rfl⟩) (fun fin s2 h2 => ?_) (fun e s2 h2 => absurd h2.1 (by simp))
  cases fin with
  | done f => obtain ⟨e, rfl⟩ := h2; cases e; exact last
  | again c' => exact ⟨h2.1, codeAny_mono h2.2 fun r s3 hr => by obtain ⟨rfl, rfl⟩ := hr; exact last⟩
theorem sorted_seqS {l : Addr} {o : Obj} {vs : List Value} {ss : List Str} {n : Nat} {Q : Value → Shared → Prop} (ho : s.heap.get? l = some o) (hc : o.cls = .type "tuple") (hd : o.data = .seq vs.toArray n) (hS : StrsAre vs ss) (h64 : vs.length < 64)
    (h : ∀ (h' : Heap) (p : Addr) (e : Nat) (out : Array Value) (ss' : List Str), (∀ b o', s.heap.get? b = some o' → h'.get? b = some o') → s.heap.objs.size ≤ p → h'.get? p = some (seqObj "list" out e) → StrsAre out.toList ss' → ss'.Perm ss → sortedS ss' = true → Q (.ref p) { s with heap := h' }) :
    wpAny (model prog w) A (call (.builtin "sorted") [.ref l]) Q E s := by
  refine Calls.call_function_entry kind_sorted plain_sorted entry_sorted (args_sorted1 _) ?_
  unfold Builtin.«sorted»
  refine wpAny_bind (m := checkCount "sorted" 1 1 _) (wpAny_pure ?_)
  have hz : vs.length ≤ sizeLine := by rw [sizeLine_eq]; omega
  refine wpAny_bind (coll_tup ho hc hd (fun h1 hge k1 => ?_) hz)
  refine wpAny_bind (wpAny_newList ?_ (by simpa using hz))
  have hoL : (h1.push (seqObj "list" vs.toArray 0)).get? h1.objs.size = some (seqObj "list" vs.toArray 0) := Heap.get?_push_size _ rfl
  show wpAny _ _ _ _ _ { s with heap := h1.push (seqObj "list" vs.toArray 0) }
  refine wpAny_bind (wpAny_holding (wpAny_call_entry slot_list_sort ⟨_, hoL, rfl⟩ entry_list_sort (list_sort_treeK strKind_oneLt hoL hS.keysOf (fun v₁ v₂ rest e => keyKind_strs (by rw [← e]; exact hS)) h64 fun st' hp hs => ⟨_, rfl, ?_⟩) (args_list_sort _)))
  obtain ⟨ss', g1, g2, g3⟩ := sorted_out_str hS hp hs
  obtain ⟨e, he⟩ := sortedHeap_at (out := (arrOf st').map (·.2)) hoL
  refine wpAny_pure ⟨_, rfl, h _ _ e _ ss' (fun b o' eb => ?_) hge he g1 g2 g3⟩
  have hb := Heap.lt_size (k1 _ _ eb)
  rw [sortedHeap_old (Nat.ne_of_lt hb) (by rw [size_push']; exact Nat.lt_succ_of_lt hb), Heap.get?_push_ne _ _ _ (Nat.ne_of_lt hb)]
  exact k1 _ _ eb
end
section
variable {X : Cx} {m : Mu} {F : Pd}
theorem cr_sortedTS : CallR X (.builtin "sorted") (fun vs H Q => ∃ (a : Addr) (xs : List Str), vs = [V.ref a] ∧ SqT X.K H a (xs.map V.str) ∧ xs.length < 64 ∧
    ∀ (ys : List Str) (p : Addr), ys.Perm xs → sortedS ys = true → H p = none → Q (.ref p) (upd H p (.lst (ys.map V.str)))) := by
  intro pins s σ H vs us Q I r h
  obtain ⟨a, xs, rfl, hs, h64, q⟩ := h
  obtain ⟨its, rv, pl, hz⟩ := I.tuple hs
  obtain ⟨o, ho, hc, n, hd⟩ := pl
  rw [Vals.ref1 r]
  have hlen0 := rv.length
  rw [List.length_map] at hlen0
  refine sorted_seqS ho hc hd rv.strs (by rw [← hlen0]; exact h64) fun h' p e out ys k hp he h1 h2 h3 => ?_
  have hlen : (ys.map V.str).length ≤ sizeLine := by rw [List.length_map, h2.length_eq]; exact small64 h64
  exact ⟨.ref _, upd H p (.lst (ys.map V.str)), I.laid (t' := s.toks) k hp ⟨hlen, out.toList, e, vals_of_strs h1, he⟩, rfl, q ys _ h2 h3 (I.hok.fresh hp)⟩
/-- sorted(t), t a tuple of texts, fewer than 64 -/
theorem c_sortedTS {ys : List Str} (hl : ys.length < 64) (q : ∀ zs : List Str, zs.Perm ys → sortedS zs = true → F (.lst (zs.map Dt.str)) m) : OC X (.builtin "sorted") [.tup (ys.map Dt.str)] m F :=
  oc_of cr_sortedTS fun Z H vs Q so da nk => by
    cases da with
    | cons d1 d2 =>
      cases d2
      cases d1 with
      | tup h1 h2 =>
        obtain rfl := strs_da' h2
        exact ⟨_, ys, rfl, h1.sq, hl, fun zs p e1 e2 hp => nk _ _ _ m (q zs e1 e2) (Ext.fresh hp) (so.laid hp) (da_new_lst so hp (strs_dl zs))⟩
end
/-- the store's head -/
theorem put_head {a : Addr} {c c' : Mc} {m : Mu} (h : a ∉ dom m) : put a c' ((a, c) :: m) = (a, c') :: m := by
  unfold put
  rw [List.map_cons, if_pos rfl]
  congr 1
  refine (List.map_congr_left fun q hq => ?_).trans (List.map_id _)
  exact if_neg fun (z : q.1 = a) => h (by rw [← z]; exact List.mem_map.mpr ⟨q, hq, rfl⟩)
theorem put_skip {a b : Addr} {c c' : Mc} {m : Mu} (h : b ≠ a) : put a c' ((b, c) :: m) = (b, c) :: put a c' m := by
  unfold put
  rw [List.map_cons, if_neg h]
theorem forget_head {a : Addr} {c : Mc} {m : Mu} (h : a ∉ dom m) : forget a ((a, c) :: m) = m := by
  unfold forget
  rw [List.filter_cons_of_neg (by simp)]
  exact List.filter_eq_self.mpr fun q hq => decide_eq_true fun (z : q.1 = a) => h (by rw [← z]; exact List.mem_map.mpr ⟨q, hq, rfl⟩)
end Dw
namespace Dw
open PySem PySem.Spec PyProof.Rows L2
/-! ### xs[::-1], xs[-k:] of lists -/
section
variable {X : Cx} {e : Expr} {r : En} {m : Mu} {F : Pd} {E : Xd} {k : Nat} {p1 p2 p3 pos : Pos}
theorem le_backL (h : LE X e r m (fun d m1 => ∃ ds, d = .lst ds ∧ F (.lst ds.reverse) m1) E) : LE X (.Subscript e (.Slice none none (some (.UnaryOp .USub (.Constant (.int 1) k p1) p2)) p3) pos) r m F E := by
  refine ⟨fun Z g H Q W rp tk nk nx => (pe_revL pe_w).w (h.run Z g H _ W rp tk (fun v H1 d m1 q go so da => ?_) nx)⟩
  obtain ⟨ds, rfl, q⟩ := q
  cases da with
  | lst a1 a2 => exact ⟨_, _, rfl, a1.sq, fun p hp => nk _ _ _ m1 q (go.trans (Ext.fresh hp)) (so.laid hp) (da_new_lst so hp a2.reverse)⟩
theorem cutD_last {ds : List Dt} {n : Nat} (hn : 0 < n) : cutD ds (some (-(n : Int))) none = ds.drop (ds.length - n) := by
  unfold cutD HT.sIx
  dsimp only
  rw [if_pos (by omega)]
  have e : ((ds.length : Int) + -(n : Int)).toNat = ds.length - n := by omega
  rw [List.take_of_length_le]
  · first
      | rw [e]
      | (congr 1; omega)
  · rw [List.length_drop]
    omega
end
section
variable {X : Cx} {m : Mu} {G : Dt → Prop}
/-- x in xs, xs a list of texts of the store -/
theorem o_inM {p : Addr} {x : Str} {ys : List Str} (hm : (p, Mc.lst (ys.map Dt.str)) ∈ m) (q : G (.bl (decide (x ∈ ys)))) : O2 X (compareOp .In) (.str x) (.raw (.ref p)) m G :=
  o2_of op_in_seq fun Z H vx vy Q so dx dy nk => by
    cases dx
    cases dy
    obtain ⟨xs, e1, h2⟩ := so.ob _ hm
    have e := strs_da h2
    subst e
    refine ⟨_, _, rfl, .inl (SqL.of e1), rfl, flat_strs ys, nk _ H _ m ⟨rfl, ?_⟩ Ext.rfl' so (.bl _)⟩
    simp only [Bool.false_eq_true, if_false]
    rw [inV_str]; exact q
theorem o_notInM {p : Addr} {x : Str} {ys : List Str} (hm : (p, Mc.lst (ys.map Dt.str)) ∈ m) (q : G (.bl (!decide (x ∈ ys)))) : O2 X (compareOp .NotIn) (.str x) (.raw (.ref p)) m G :=
  o2_of op_notIn_seq fun Z H vx vy Q so dx dy nk => by
    cases dx
    cases dy
    obtain ⟨xs, e1, h2⟩ := so.ob _ hm
    have e := strs_da h2
    subst e
    refine ⟨_, _, rfl, .inl (SqL.of e1), rfl, flat_strs ys, nk _ H _ m ⟨rfl, ?_⟩ Ext.rfl' so (.bl _)⟩
    simp only [if_true]
    rw [inV_str]; exact q
end
end Dw
namespace K60
open PySem PySem.Spec PyProof.Rows L2 Dw
-- ID callwords_k60_tables_of_kinds
def topS (i : Nat) : Stmt := PySem.Challenge.pw_callwords_k60_tables_of_kinds.main.body.getD i (.Pass ⟨0, 0, 0, 0⟩)
def clsB (s : Stmt) : List Stmt := match s with
  | .ClassDef _ _ _ b _ _ _ _ _ _ _ => b
  | _ => []
def inS (i j : Nat) : Stmt := (clsB (topS i)).getD j (.Pass ⟨0, 0, 0, 0⟩)
abbrev s__wall : Stmt := topS 0
abbrev N__wall : List Str := ["k"]
theorem sc__wall : FnScope N__wall ["k"] (defScope s__wall) := ⟨rfl, rfl, rfl, by decide +kernel, rfl, by decide +kernel, by decide +kernel⟩
-- 1 __name__ = 'callwords.errors'
-- 2 class CallError(ValueError):
-- 3 class Missing(KeyError):
-- 4 class Barred(LookupError):
-- 5 class NoKind(CallError):
-- 6 class NoList(CallError):
-- 7 class NoOwn(CallError):
-- 8 class Unfit(CallError):
-- 9 class NoGrammar(CallError):
-- 10 class NotThere(Missing):
-- 11 __name__ = 'callwords.kinds'
-- 12 LETTERS = 'abcdefghijklmnopqrstuvwxyz'
-- 13 FIGURES = '0123456789'
-- 14 MOST_NAME = 8
-- 15 MOST_WORD = 40
-- 16 MOST_NUMBER = 999999
-- 17 MOST_NAMES = 8
-- 18 MOST_TEXT = 20
-- 19 MOST_COUNT = 9
-- 20 MOST_MANY = 6
abbrev s_is_whole : Stmt := topS 21
abbrev N_is_whole : List Str := ["thing", "low", "high"]
theorem sc_is_whole : FnScope N_is_whole ["thing", "low", "high"] (defScope s_is_whole) := ⟨rfl, rfl, rfl, by decide +kernel, rfl, by decide +kernel, by decide +kernel⟩
abbrev s_is_name : Stmt := topS 22
abbrev N_is_name : List Str := ["thing", "sign"]
theorem sc_is_name : FnScope N_is_name ["thing"] (defScope s_is_name) := ⟨rfl, rfl, rfl, by decide +kernel, rfl, by decide +kernel, by decide +kernel⟩
abbrev s_is_letter : Stmt := topS 23
abbrev N_is_letter : List Str := ["thing"]
theorem sc_is_letter : FnScope N_is_letter ["thing"] (defScope s_is_letter) := ⟨rfl, rfl, rfl, by decide +kernel, rfl, by decide +kernel, by decide +kernel⟩
abbrev s_is_word : Stmt := topS 24
abbrev N_is_word : List Str := ["thing", "sign"]
theorem sc_is_word : FnScope N_is_word ["thing"] (defScope s_is_word) := ⟨rfl, rfl, rfl, by decide +kernel, rfl, by decide +kernel, by decide +kernel⟩
abbrev s_are_unlike : Stmt := topS 25
abbrev N_are_unlike : List Str := ["things"]
theorem sc_are_unlike : FnScope N_are_unlike ["things"] (defScope s_are_unlike) := ⟨rfl, rfl, rfl, by decide +kernel, rfl, by decide +kernel, by decide +kernel⟩
abbrev s_is_kind : Stmt := topS 26
abbrev N_is_kind : List Str := ["thing", "word", "things", "good", "one", "name"]
theorem sc_is_kind : FnScope N_is_kind ["thing"] (defScope s_is_kind) := ⟨rfl, rfl, rfl, by decide +kernel, rfl, by decide +kernel, by decide +kernel⟩
abbrev s_number_in : Stmt := topS 27
abbrev N_number_in : List Str := ["thing", "figures", "sign"]
theorem sc_number_in : FnScope N_number_in ["thing"] (defScope s_number_in) := ⟨rfl, rfl, rfl, by decide +kernel, rfl, by decide +kernel, by decide +kernel⟩
abbrev s_need_kind : Stmt := topS 28
abbrev N_need_kind : List Str := ["kind", "own"]
theorem sc_need_kind : FnScope N_need_kind ["kind", "own"] (defScope s_need_kind) := ⟨rfl, rfl, rfl, by decide +kernel, rfl, by decide +kernel, by decide +kernel⟩
abbrev s_are_own : Stmt := topS 29
abbrev N_are_own : List Str := ["thing", "word"]
theorem sc_are_own : FnScope N_are_own ["thing"] (defScope s_are_own) := ⟨rfl, rfl, rfl, by decide +kernel, rfl, by decide +kernel, by decide +kernel⟩
abbrev s_fits : Stmt := topS 30
abbrev N_fits : List Str := ["kind", "thing", "own", "word"]
theorem sc_fits : FnScope N_fits ["kind", "thing", "own"] (defScope s_fits) := ⟨rfl, rfl, rfl, by decide +kernel, rfl, by decide +kernel, by decide +kernel⟩
abbrev s_worth_of : Stmt := topS 31
abbrev N_worth_of : List Str := ["kind", "word", "own", "worth"]
theorem sc_worth_of : FnScope N_worth_of ["kind", "word", "own"] (defScope s_worth_of) := ⟨rfl, rfl, rfl, by decide +kernel, rfl, by decide +kernel, by decide +kernel⟩
abbrev s_is_loose_worth : Stmt := topS 32
abbrev N_is_loose_worth : List Str := ["kind", "thing"]
theorem sc_is_loose_worth : FnScope N_is_loose_worth ["kind", "thing"] (defScope s_is_loose_worth) := ⟨rfl, rfl, rfl, by decide +kernel, rfl, by decide +kernel, by decide +kernel⟩
abbrev s_default_fits : Stmt := topS 33
abbrev N_default_fits : List Str := ["form", "kind", "default", "worth"]
theorem sc_default_fits : FnScope N_default_fits ["form", "kind", "default"] (defScope s_default_fits) := ⟨rfl, rfl, rfl, by decide +kernel, rfl, by decide +kernel, by decide +kernel⟩
-- 34 __name__ = 'callwords.forms'
-- 35 FORMS = ('flag', 'count', 'one', 'many')
-- 36 TIMES = ('one', 'maybe', 'rest', 'some')
-- 37 GROUPS = ('just', 'most', 'with', 'needs')
-- 38 MOST_OPTIONS = 6
-- 39 MOST_PLACES = 4
-- 40 MOST_GROUPS = 4
-- 41 MOST_BENEATH = 6
-- 42 MOST_MEMBERS = 6
abbrev s_is_option : Stmt := topS 43
abbrev N_is_option : List Str := ["thing", "name", "short", "form", "kind", "default", "need", "source"]
theorem sc_is_option : FnScope N_is_option ["thing"] (defScope s_is_option) := ⟨rfl, rfl, rfl, by decide +kernel, rfl, by decide +kernel, by decide +kernel⟩
abbrev s_is_place : Stmt := topS 44
abbrev N_is_place : List Str := ["thing"]
theorem sc_is_place : FnScope N_is_place ["thing"] (defScope s_is_place) := ⟨rfl, rfl, rfl, by decide +kernel, rfl, by decide +kernel, by decide +kernel⟩
abbrev s_are_places : Stmt := topS 45
abbrev N_are_places : List Str := ["thing", "one", "ranks", "rank"]
theorem sc_are_places : FnScope N_are_places ["thing"] (defScope s_are_places) := ⟨rfl, rfl, rfl, by decide +kernel, rfl, by decide +kernel, by decide +kernel⟩
abbrev s_is_group : Stmt := topS 46
abbrev N_is_group : List Str := ["thing", "name"]
theorem sc_is_group : FnScope N_is_group ["thing"] (defScope s_is_group) := ⟨rfl, rfl, rfl, by decide +kernel, rfl, by decide +kernel, by decide +kernel⟩
abbrev s_is_command : Stmt := topS 47
abbrev N_is_command : List Str := ["thing", "name", "options", "places", "groups", "commands", "one"]
theorem sc_is_command : FnScope N_is_command ["thing"] (defScope s_is_command) := ⟨rfl, rfl, rfl, by decide +kernel, rfl, by decide +kernel, by decide +kernel⟩
abbrev s_first_twice : Stmt := topS 48
abbrev N_first_twice : List Str := ["names", "name", "at"]
theorem sc_first_twice : FnScope N_first_twice ["names"] (defScope s_first_twice) := ⟨rfl, rfl, rfl, by decide +kernel, rfl, by decide +kernel, by decide +kernel⟩
abbrev s_beneath_names : Stmt := topS 49
abbrev N_beneath_names : List Str := ["command", "found", "one"]
theorem sc_beneath_names : FnScope N_beneath_names ["command"] (defScope s_beneath_names) := ⟨rfl, rfl, rfl, by decide +kernel, rfl, by decide +kernel, by decide +kernel⟩
abbrev s_kinds_of : Stmt := topS 50
abbrev N_kinds_of : List Str := ["command", "one"]
theorem sc_kinds_of : FnScope N_kinds_of ["command"] (defScope s_kinds_of) := ⟨rfl, rfl, rfl, by decide +kernel, rfl, by decide +kernel, by decide +kernel⟩
abbrev s_first_bad_group : Stmt := topS 51
abbrev N_first_bad_group : List Str := ["command", "names", "one", "group", "name"]
theorem sc_first_bad_group : FnScope N_first_bad_group ["command"] (defScope s_first_bad_group) := ⟨rfl, rfl, rfl, by decide +kernel, rfl, by decide +kernel, by decide +kernel⟩
-- 52 __name__ = 'callwords.grammars'
-- 53 MOST_DEEP = 2
-- 54 MOST_COMMANDS = 12
abbrev s_need_own : Stmt := topS 55
abbrev N_need_own : List Str := ["own", "name"]
theorem sc_need_own : FnScope N_need_own ["own"] (defScope s_need_own) := ⟨rfl, rfl, rfl, by decide +kernel, rfl, by decide +kernel, by decide +kernel⟩
-- class Grammar
abbrev s_Grammar_init : Stmt := inS 56 0
abbrev N_Grammar_init : List Str := ["self", "root", "own", "deep", "where"]
theorem sc_Grammar_init : FnScope N_Grammar_init ["self", "root", "own"] (defScope s_Grammar_init) := ⟨rfl, rfl, rfl, by decide +kernel, rfl, by decide +kernel, by decide +kernel⟩
abbrev s_Grammar_look_at : Stmt := inS 56 1
abbrev N_Grammar_look_at : List Str := ["self", "command", "where", "names", "one", "shorts", "some", "name", "kind", "option", "group"]
theorem sc_Grammar_look_at : FnScope N_Grammar_look_at ["self", "command", "where"] (defScope s_Grammar_look_at) := ⟨rfl, rfl, rfl, by decide +kernel, rfl, by decide +kernel, by decide +kernel⟩
abbrev s_Grammar_has_default : Stmt := inS 56 2
abbrev N_Grammar_has_default : List Str := ["self", "option", "name", "short", "form", "kind", "default", "need", "source", "words", "worth"]
theorem sc_Grammar_has_default : FnScope N_Grammar_has_default ["self", "option"] (defScope s_Grammar_has_default) := ⟨rfl, rfl, rfl, by decide +kernel, rfl, by decide +kernel, by decide +kernel⟩
abbrev s_Grammar_len : Stmt := inS 56 3
abbrev N_Grammar_len : List Str := ["self"]
theorem sc_Grammar_len : FnScope N_Grammar_len ["self"] (defScope s_Grammar_len) := ⟨rfl, rfl, rfl, by decide +kernel, rfl, by decide +kernel, by decide +kernel⟩
abbrev s_Grammar_eq : Stmt := inS 56 4
abbrev N_Grammar_eq : List Str := ["self", "other", "kind"]
theorem sc_Grammar_eq : FnScope N_Grammar_eq ["self", "other"] (defScope s_Grammar_eq) := ⟨rfl, rfl, rfl, by decide +kernel, rfl, by decide +kernel, by decide +kernel⟩
abbrev s_Grammar_own_kinds : Stmt := inS 56 5
abbrev N_Grammar_own_kinds : List Str := ["self", "found", "command", "kind"]
theorem sc_Grammar_own_kinds : FnScope N_Grammar_own_kinds ["self"] (defScope s_Grammar_own_kinds) := ⟨rfl, rfl, rfl, by decide +kernel, rfl, by decide +kernel, by decide +kernel⟩
abbrev s_Grammar_root : Stmt := inS 56 6
abbrev N_Grammar_root : List Str := ["self"]
theorem sc_Grammar_root : FnScope N_Grammar_root ["self"] (defScope s_Grammar_root) := ⟨rfl, rfl, rfl, by decide +kernel, rfl, by decide +kernel, by decide +kernel⟩
abbrev s_Grammar_paths : Stmt := inS 56 7
abbrev N_Grammar_paths : List Str := ["self"]
theorem sc_Grammar_paths : FnScope N_Grammar_paths ["self"] (defScope s_Grammar_paths) := ⟨rfl, rfl, rfl, by decide +kernel, rfl, by decide +kernel, by decide +kernel⟩
abbrev s_Grammar_command : Stmt := inS 56 8
abbrev N_Grammar_command : List Str := ["self", "path", "name"]
theorem sc_Grammar_command : FnScope N_Grammar_command ["self", "path"] (defScope s_Grammar_command) := ⟨rfl, rfl, rfl, by decide +kernel, rfl, by decide +kernel, by decide +kernel⟩
abbrev s_Grammar_option : Stmt := inS 56 9
abbrev N_Grammar_option : List Str := ["self", "path", "name", "one"]
theorem sc_Grammar_option : FnScope N_Grammar_option ["self", "path", "name"] (defScope s_Grammar_option) := ⟨rfl, rfl, rfl, by decide +kernel, rfl, by decide +kernel, by decide +kernel⟩
abbrev s_Grammar_place : Stmt := inS 56 10
abbrev N_Grammar_place : List Str := ["self", "path", "name", "one"]
theorem sc_Grammar_place : FnScope N_Grammar_place ["self", "path", "name"] (defScope s_Grammar_place) := ⟨rfl, rfl, rfl, by decide +kernel, rfl, by decide +kernel, by decide +kernel⟩
abbrev s_Grammar_own_words : Stmt := inS 56 11
abbrev N_Grammar_own_words : List Str := ["self", "kind", "tell"]
theorem sc_Grammar_own_words : FnScope N_Grammar_own_words ["self", "kind"] (defScope s_Grammar_own_words) := ⟨rfl, rfl, rfl, by decide +kernel, rfl, by decide +kernel, by decide +kernel⟩
abbrev s_Grammar_sets_at : Stmt := inS 56 12
abbrev N_Grammar_sets_at : List Str := ["self", "path"]
theorem sc_Grammar_sets_at : FnScope N_Grammar_sets_at ["self", "path"] (defScope s_Grammar_sets_at) := ⟨rfl, rfl, rfl, by decide +kernel, rfl, by decide +kernel, by decide +kernel⟩
abbrev s_Grammar_texts_at : Stmt := inS 56 13
abbrev N_Grammar_texts_at : List Str := ["self", "path", "way"]
theorem sc_Grammar_texts_at : FnScope N_Grammar_texts_at ["self", "path", "way"] (defScope s_Grammar_texts_at) := ⟨rfl, rfl, rfl, by decide +kernel, rfl, by decide +kernel, by decide +kernel⟩
abbrev s_Grammar_with_root : Stmt := inS 56 14
abbrev N_Grammar_with_root : List Str := ["self", "root"]
theorem sc_Grammar_with_root : FnScope N_Grammar_with_root ["self", "root"] (defScope s_Grammar_with_root) := ⟨rfl, rfl, rfl, by decide +kernel, rfl, by decide +kernel, by decide +kernel⟩
abbrev s_Grammar_has_worth : Stmt := inS 56 15
abbrev N_Grammar_has_worth : List Str := ["self", "kind"]
theorem sc_Grammar_has_worth : FnScope N_Grammar_has_worth ["self", "kind"] (defScope s_Grammar_has_worth) := ⟨rfl, rfl, rfl, by decide +kernel, rfl, by decide +kernel, by decide +kernel⟩
abbrev s_need_grammar : Stmt := topS 57
abbrev N_need_grammar : List Str := ["thing"]
theorem sc_need_grammar : FnScope N_need_grammar ["thing"] (defScope s_need_grammar) := ⟨rfl, rfl, rfl, by decide +kernel, rfl, by decide +kernel, by decide +kernel⟩
-- 58 __name__ = 'callwords.tables'
abbrev s_table_of : Stmt := topS 59
abbrev N_table_of : List Str := ["grammar", "kind", "words"]
theorem sc_table_of : FnScope N_table_of ["grammar", "kind"] (defScope s_table_of) := ⟨rfl, rfl, rfl, by decide +kernel, rfl, by decide +kernel, by decide +kernel⟩
-- 60 __name__ = 'law_callwords_k60_tables_of_kinds'
abbrev s_l_cell : Stmt := topS 61
abbrev N_l_cell : List Str := ["_law_script", "_law_k"]
theorem sc_l_cell : FnScope N_l_cell ["_law_script", "_law_k"] (defScope s_l_cell) := ⟨rfl, rfl, rfl, by decide +kernel, rfl, by decide +kernel, by decide +kernel⟩
abbrev s_l_box : Stmt := topS 62
abbrev N_l_box : List Str := ["_law_cell_here"]
theorem sc_l_box : FnScope N_l_box ["_law_cell_here"] (defScope s_l_box) := ⟨rfl, rfl, rfl, by decide +kernel, rfl, by decide +kernel, by decide +kernel⟩
abbrev s_l_take : Stmt := topS 63
abbrev N_l_take : List Str := ["_law_box_here", "_law_wide", "_law_digit", "_law_number"]
theorem sc_l_take : FnScope N_l_take ["_law_box_here", "_law_wide"] (defScope s_l_take) := ⟨rfl, rfl, rfl, by decide +kernel, rfl, by decide +kernel, by decide +kernel⟩
abbrev s_l_names : Stmt := topS 64
abbrev N_l_names : List Str := ["_law_box_here", "_law_many", "_law_size", "_law_letters", "_law_stem", "_law_k", "_law_first", "_law_way", "_law_found", "_law_sign", "_law_some", "_law_name", "_law_other"]
theorem sc_l_names : FnScope N_l_names ["_law_box_here", "_law_many", "_law_size"] (defScope s_l_names) := ⟨rfl, rfl, rfl, by decide +kernel, rfl, by decide +kernel, by decide +kernel⟩
abbrev s_l_teller : Stmt := topS 65
abbrev N_l_teller : List Str := ["_law_words"]
theorem sc_l_teller : FnScope N_l_teller ["_law_words"] (defScope s_l_teller) := ⟨rfl, rfl, rfl, by decide +kernel, rfl, by decide +kernel, by decide +kernel⟩
abbrev s_l_kinds : Stmt := topS 66
abbrev N_l_kinds : List Str := ["_law_box_here", "_law_low", "_law_more", "_law_names_here", "_law_some", "_law_many"]
theorem sc_l_kinds : FnScope N_l_kinds ["_law_box_here"] (defScope s_l_kinds) := ⟨rfl, rfl, rfl, by decide +kernel, rfl, by decide +kernel, by decide +kernel⟩
abbrev s_l_tables : Stmt := topS 67
abbrev N_l_tables : List Str := ["_law_box_here", "_law_names_here", "_law_words"]
theorem sc_l_tables : FnScope N_l_tables ["_law_box_here", "_law_names_here"] (defScope s_l_tables) := ⟨rfl, rfl, rfl, by decide +kernel, rfl, by decide +kernel, by decide +kernel⟩
abbrev s_l_due : Stmt := topS 68
abbrev N_l_due : List Str := ["_law_kind", "_law_heap"]
theorem sc_l_due : FnScope N_l_due ["_law_kind", "_law_heap"] (defScope s_l_due) := ⟨rfl, rfl, rfl, by decide +kernel, rfl, by decide +kernel, by decide +kernel⟩
abbrev s_l_tried : Stmt := topS 69
abbrev N_l_tried : List Str := ["_law_kinds_here", "_law_heap", "_law_names_here", "_law_found", "_law_many", "_law_kind", "_law_number"]
theorem sc_l_tried : FnScope N_l_tried ["_law_kinds_here", "_law_heap", "_law_names_here"] (defScope s_l_tried) := ⟨rfl, rfl, rfl, by decide +kernel, rfl, by decide +kernel, by decide +kernel⟩
abbrev s_l_worths : Stmt := topS 70
abbrev N_l_worths : List Str := ["_law_kind", "_law_heap", "_law_words", "_law_some", "_law_word"]
theorem sc_l_worths : FnScope N_l_worths ["_law_kind", "_law_heap", "_law_words"] (defScope s_l_worths) := ⟨rfl, rfl, rfl, by decide +kernel, rfl, by decide +kernel, by decide +kernel⟩
abbrev s_l_refused : Stmt := topS 71
abbrev N_l_refused : List Str := ["_law_grammar", "_law_thing", "e"]
theorem sc_l_refused : FnScope N_l_refused ["_law_grammar", "_law_thing"] (defScope s_l_refused) := ⟨rfl, rfl, rfl, by decide +kernel, rfl, by decide +kernel, by decide +kernel⟩
abbrev s_law : Stmt := topS 72
abbrev N_law : List Str := ["_law_script", "_law_k", "_law_box_here", "_law_kinds_here", "_law_names_here", "_law_told", "_law_places", "_law_tool", "_law_name", "_law_words", "_law_rows", "_law_kind", "_law_row", "_law_one", "_law_other", "_law_odd", "_law_thing", "_law_bad"]
theorem sc_law : FnScope N_law ["_law_script"] (defScope s_law) := ⟨rfl, rfl, rfl, by decide +kernel, rfl, by decide +kernel, by decide +kernel⟩
section
local macro_rules | `(tactic| tb_rel) => `(tactic| (repeat' (first | with_reducible exact At.here | with_reducible exact Put.here | with_reducible refine' At.there ?_ | with_reducible refine' Put.there ?_)))
local macro_rules | `(tactic| tb_start) => `(tactic| fail)
local macro_rules | `(tactic| k_caughtC0) => `(tactic| first
  | ((with_reducible show Dw.LE _ (.Name _ _) _ _ _ _); first
    | (refine' le_name (by assumption) ?hsl ?_; (case hsl => tb_rel))
    | refine le_globS (by assumption) ?_
    | refine le_globI (by assumption) ?_
    | refine le_ty (x := "int") (by assumption) bt_int ?_ | refine le_ty (x := "str") (by assumption) bt_str ?_ | refine le_ty (x := "bool") (by assumption) bt_bool ?_
    | refine le_ty (x := "list") (by assumption) bt_list ?_ | refine le_ty (x := "tuple") (by assumption) bt_tuple ?_ | refine le_ty (x := "dict") (by assumption) bt_dict ?_
    | (refine' le_nameS (by assumption) ?hsl ?_; (case hsl => tb_rel)))
  | ((with_reducible show Dw.LE _ (.Constant _ _ _) _ _ _ _); first | refine le_int ?_ | refine le_str ?_ | refine le_bl ?_ | refine le_non ?_)
  | ((with_reducible show Dw.LE _ (.BinOp _ _ _ _) _ _ _ _); refine le_bin ?_)
  | ((with_reducible show LA _ _ _ _ _ _); first | refine la_cons ?_ | refine la_nil ?_)
  | ((with_reducible show Dw.LE _ (.Compare _ _ _ _) _ _ _ _); first | refine le_cmp ?_ | refine le_chain ?_)
  | ((with_reducible show Dw.LE _ (.Call (.Name _ _) _ _ _) _ _ _ _); first
    | tb_start
    | refine le_callB (x := "len") (id := "len") bt_len (by assumption) ?_
    | refine le_callB (x := "isinstance") (id := "isinstance") bt_isinstance (by assumption) ?_
    | refine le_callB (x := "repr") (id := "repr") bt_repr (by assumption) ?_
    | refine le_callB (x := "all") (id := "all") bt_all (by assumption) ?_
    | refine le_callB (x := "any") (id := "any") bt_any (by assumption) ?_
    | refine le_callB (x := "max") (id := "max") bt_max (by assumption) ?_
    | refine le_callB (x := "min") (id := "min") bt_min (by assumption) ?_
    | refine le_callB (x := "abs") (id := "abs") bt_abs (by assumption) ?_
    | refine le_callB (x := "ord") (id := "ord") bt_ord (by assumption) ?_
    | refine le_callT (x := "int") (T := "int") bt_int (by assumption) ?_
    | refine le_callT (x := "str") (T := "str") bt_str (by assumption) ?_
    | refine le_callT (x := "list") (T := "list") bt_list (by assumption) ?_
    | refine le_callT (x := "tuple") (T := "tuple") bt_tuple (by assumption) ?_
    | refine le_call (by assumption) (by assumption) (by decide) ?_
    | refine le_call0 (by assumption) (by assumption) (by decide) ?_)
  | ((with_reducible show Dw.LE _ (.Subscript _ (.Slice _ _ _ _) _) _ _ _ _); fail)
  | ((with_reducible show Dw.LE _ (.Subscript _ _ _) _ _ _ _); first | refine le_ix ?_ (hs := pix_const) | refine le_ix ?_ (hs := pix_name) | refine le_ix ?_ (hs := pix_bin) | refine le_ix ?_ (hs := pix_call) | refine le_ix ?_ (hs := pix_un) | refine le_ix ?_ (hs := pix_sub) | refine le_ix ?_ (hs := pix_cmp))
  | ((with_reducible show Dw.LE _ (.List _ _) _ _ _ _); refine le_lst ?_)
  | ((with_reducible show Dw.LE _ (.Tuple _ _ _) _ _ _ _); refine le_tup ?_)
  | ((with_reducible show Dw.LE _ (.Dict _ _ _) _ _ _ _); refine le_dct0 ?_)
  | ((with_reducible show Dw.LE _ (.IfExp _ _ _ _) _ _ _ _); refine le_ife ?_)
  | ((with_reducible show Dw.LE _ (.UnaryOp .Not _ _) _ _ _ _); refine le_not ?_)
  | ((with_reducible show Dw.LE _ (.UnaryOp _ _ _) _ _ _ _); refine le_un ?_)
  | ((with_reducible show Dw.LE _ (.BoolOp _ _ _) _ _ _ _); first | refine le_and ?_ | refine le_or ?_ | refine le_one ?_)
  | ((with_reducible show LO _ _ _ _ _ _); first | refine lo_none ?_ | refine lo_some ?_))
local macro_rules | `(tactic| k_caughtCB) => `(tactic| first
  | ((with_reducible show O2 _ (binaryOp _) _ _ _ _); first | with_reducible refine o_add ?_ | with_reducible refine o_sub ?_)
  | ((with_reducible show O2 _ (compareOp _) _ _ _ _); first
    | with_reducible refine o_eqRs ?_ | with_reducible refine o_neRs ?_ | with_reducible refine o_eqRi ?_ | with_reducible refine o_neRi ?_ | with_reducible refine o_eq_str ?_ | with_reducible refine o_ne_str ?_ | with_reducible refine o_eq_int ?_ | with_reducible refine o_ne_int ?_ | with_reducible refine o_le ?_ | with_reducible refine o_lt ?_ | with_reducible refine o_gt ?_ | with_reducible refine o_ge ?_
    | with_reducible refine o_isN ?_ | with_reducible refine o_notN ?_ | with_reducible refine o_inS ?_ | with_reducible refine o_notInS ?_ | with_reducible refine o_leS ?_ | with_reducible refine o_ltS ?_ | with_reducible refine o_eq rfl rfl rfl ?_ | with_reducible refine o_ne rfl rfl rfl ?_)
  | ((with_reducible show OC _ _ _ _ _); first
    | with_reducible refine c_len_lst ?_ | with_reducible refine c_len_tup ?_ | with_reducible refine c_len_frz ?_ | with_reducible refine c_abs ?_ | with_reducible refine c_max2 (Gd.calm (by assumption)) ?_ | with_reducible refine c_min2 (Gd.calm (by assumption)) ?_ | with_reducible refine c_int_bl ?_ | with_reducible refine c_ord ?_
    | with_reducible refine c_list_lst ?_ | with_reducible refine c_list_tup ?_ | with_reducible refine c_tup_lst ?_
    | with_reducible refine c_isi_int (by first | assumption | exact rfl) ?_ | with_reducible refine c_isi_str (by first | assumption | exact rfl) ?_ | with_reducible refine c_isi_bool (by first | assumption | exact rfl) ?_
    | with_reducible refine c_isi_list (by first | assumption | exact rfl) ?_ | with_reducible refine c_isi_tuple (by first | assumption | exact rfl) ?_ | with_reducible refine c_isi_dict (by first | assumption | exact rfl) ?_)
  | ((with_reducible show O1 _ _ _ _ _); with_reducible refine o_neg ?_))
local macro_rules | `(tactic| k_caughtN0) => `(tactic| first
  | ((with_reducible show LB _ _ _ _ _); first | refine lb_one ?_ | refine lb_cons ?_ | refine lb_nil ?_)
  | ((with_reducible show LS _ (.Assign _ _ _) _ _ _); first
    | (refine' ls_set (by assumption) ?hsl ?_; (case hsl => tb_rel))
    | refine ls_setix ?_)
  | ((with_reducible show LS _ (.If _ _ _ _) _ _ _); refine ls_if ?_)
  | ((with_reducible show LS _ (.Return _ _) _ _ _); first | refine ls_ret ?_ | refine ls_retN ?_)
  | ((with_reducible show LS _ (.Expr _ _) _ _ _); refine ls_expr ?_)
  | ((with_reducible show LT _ (.Compare _ _ _ _) _ _ _ _); first | refine lt_cmp ?_ | refine lt_chain ?_)
  | ((with_reducible show LT _ (.UnaryOp .Not _ _) _ _ _ _); refine lt_not ?_)
  | ((with_reducible show LT _ (.BoolOp _ _ _) _ _ _ _); refine lt_w ?_)
  | ((with_reducible show LW _ _ _ _ _ _); first | refine lw_and ?_ | refine lw_or ?_ | refine lw_and1 ?_ | refine lw_or1 ?_)
  | ((with_reducible show LT _ _ _ _ _ _); refine lt_val ?_)
  | ((with_reducible show LF _ _ _ _ _ _); first | refine lf_nil ?_ | refine lf_one ?_)
  | ((with_reducible show LS _ _ _ _ _); first | refine ls_break ?_ | refine ls_cont ?_ | refine ls_pass ?_))
local macro_rules | `(tactic| k_caughtNB) => `(tactic| (repeat (first | k_caughtC0 | k_caughtCB | k_caughtN0 | ((with_reducible show Pc.nx _ _ _); dsimp only) | ((with_reducible show Pc.rt _ _ _); dsimp only) | ((with_reducible show And (List.length _ ≤ sizeLine) _); refine And.intro (lenS rfl) ?_) | ((with_reducible show ite _ _ _); first | with_reducible refine itT ?_ | with_reducible refine itF ?_))))
/-! ### the box -/
def Bx (b : Addr) (n : Nat) (m : Mu) : Prop := ∃ x y z : Int, (b, Mc.lst [.int x, .int y, .int z]) ∈ m ∧ 0 ≤ x ∧ 0 ≤ y ∧ y < 2147483629 ∧ 0 ≤ z ∧ z ≤ n
theorem Bx.mono {b : Addr} {n k : Nat} {m : Mu} (h : Bx b n m) (hk : n ≤ k) : Bx b k m := by
  obtain ⟨x, y, z, h1, h2, h3, h4, h5, h6⟩ := h
  exact ⟨x, y, z, h1, h2, h3, h4, h5, by omega⟩
def W_take : Spd := fun ds m F E => ∃ b k n, ds = [.raw (.ref b), .int k] ∧ 0 < k ∧ k < 2 ^ 200 ∧ Bx b n m ∧ n ≤ 1000000 ∧ ∀ r m', 0 ≤ r → r < k → Bx b (n + 1) m' → F (.int r) m'
theorem W_take.ap {b : Addr} {k : Int} {n : Nat} {m : Mu} {F : Pd} {E : Value → List (Str × Dt) → Mu → Prop} (k0 : 0 < k) (k1 : k < 2 ^ 200) (hb : Bx b n m) (hn : n ≤ 1000000) (q : ∀ r m', 0 ≤ r → r < k → Bx b (n + 1) m' → F (.int r) m') : W_take [.raw (.ref b), .int k] m F E := ⟨b, k, n, rfl, k0, k1, hb, hn, q⟩
def W_box : Spd := fun ds m F E => ∃ c : Int, ds = [.int c] ∧ ∀ p m', Bx p 0 m' → F (.raw (.ref p)) m'
def W_cell : Spd := fun ds m F E => ∃ (ns : List Int) (k : Int), ds = [.frz (ns.map Dt.int), .int k] ∧ 0 ≤ k ∧ k < 1000 ∧ ns.length ≤ 1000 ∧ ∀ c : Int, F (.int c) m
theorem at_map {ns : List Int} {k : Int} (h0 : 0 ≤ k) (h : k < ns.length) : ∃ c : Int, atI (ns.map Dt.int) k = some (.int c) := by
  obtain ⟨j, rfl⟩ := Int.eq_ofNat_of_zero_le h0
  have hj : j < ns.length := by simpa using h
  refine ⟨ns[j], ?_⟩
  exact atI_nat (by rw [List.getElem?_map, List.getElem?_eq_getElem hj]; rfl)
section
variable {P : Program} {w : World} {K : PySem.W.Frag} {mg : Str → Option Value} {base : Heap}
theorem ok_take {f : Addr} {fd : FuncData} (F : Fun K "_law_take" "_law_take" s_l_take f fd) : FnG P w K mg base 1 f fd ["_law_box_here", "_law_wide"] (toSp K W_take) := by
  refine fn_dw F sc_l_take (fun ds m Q E h => ?_) (fun cdv A outer s H E gd ds m Q E' h => ?_)
  · obtain ⟨b, k, n, rfl, _⟩ := h
    rfl
  · obtain ⟨b, k, n, rfl, k0, k1, ⟨x, y, z, hb, hx, hy, hy2, hz, hzn⟩, hn, q⟩ := h
    show LB _ _ [some (.raw (.ref b)), some (.int k), none, none] m _
    k_caughtNB
    refine oi_mut hb rfl ?_
    k_caughtNB
    refine ⟨_, rfl, ite2 (fun c => ?_) (fun c => ?_)⟩
    · k_caughtNB
      refine oi_mut hb rfl ?_
      k_caughtNB
      refine o_mod k0 ?_
      k_caughtNB
      refine oi_mut hb rfl ?_
      k_caughtNB
      refine o_fdivW (wide_div (b := 200) k0 (by omega) (by decide) (by decide)) ?_
      k_caughtNB
      refine ⟨b, _, 0, 0, rfl, rfl, hb, rfl, ?_⟩
      k_caughtNB
      refine q _ _ (Int.emod_nonneg _ (by omega)) (Int.emod_lt_of_pos _ k0) ⟨_, y, z, put_mem hb, Int.ediv_nonneg hx (by omega), hy, hy2, hz, by omega⟩
    · k_caughtNB
      refine oi_mut hb rfl ?_
      k_caughtNB
      refine ⟨b, _, 2, 2, rfl, rfl, hb, rfl, ?_⟩
      have hb2 : (b, Mc.lst [.int x, .int y, .int (z + 1)]) ∈ put b (Mc.lst (([.int x, .int y, .int z] : List Dt).set 2 (.int (z + 1)))) m := put_mem hb
      k_caughtNB
      refine oi_mut hb2 rfl ?_
      k_caughtNB
      refine oi_mut hb2 rfl ?_
      refine o_mul (.inl (by decide)) ?_
      k_caughtNB
      refine o_pow ⟨by decide, by decide, by omega⟩ ?_
      k_caughtNB
      refine o_modG (by decide) (fun n1 hn0 hn2 => ?_)
      k_caughtNB
      refine oi_mut hb2 rfl ?_
      refine o_mul (.inl (by decide)) ?_
      k_caughtNB
      refine o_pow ⟨by decide, by decide, by omega⟩ ?_
      k_caughtNB
      refine o_mod (by decide) ?_
      k_caughtNB
      refine o_fdiv ⟨by decide, by decide⟩ ?_
      k_caughtNB
      refine o_mod k0 ?_
      exact q _ _ (Int.emod_nonneg _ (by omega)) (Int.emod_lt_of_pos _ k0) ⟨x, y, z + 1, hb2, hx, hy, hy2, by omega, by omega⟩
theorem ok_box {f : Addr} {fd : FuncData} (B : Bi mg) (F : Fun K "_law_box" "_law_box" s_l_box f fd) : FnG P w K mg base 1 f fd ["_law_cell_here"] (toSp K W_box) := by
  refine fn_dw F sc_l_box (fun ds m Q E h => ?_) (fun cdv A outer s H E gd ds m Q E' h => ?_)
  · obtain ⟨c, rfl, _⟩ := h
    rfl
  · obtain ⟨c, rfl, q⟩ := h
    have hmax := B.max
    show LB _ _ [some (.int c)] m _
    k_caughtN0
    k_caughtN0
    refine le_mut ?_
    k_caughtNB
    refine o_pow ⟨by decide, by decide, by decide⟩ ?_
    k_caughtNB
    refine o_mod (by decide) ?_
    k_caughtNB
    intro p hp
    refine q p _ ⟨_, _, 0, List.mem_cons_self, by split <;> omega, Int.emod_nonneg _ (by decide), Int.emod_lt_of_pos _ (by decide), by omega, by omega⟩
theorem ok_cell {f : Addr} {fd : FuncData} (B : Bi mg) (F : Fun K "_law_cell" "_law_cell" s_l_cell f fd) : FnG P w K mg base 1 f fd ["_law_script", "_law_k"] (toSp K W_cell) := by
  refine fn_dw F sc_l_cell (fun ds m Q E h => ?_) (fun cdv A outer s H E gd ds m Q E' h => ?_)
  · obtain ⟨ns, k, rfl, _⟩ := h
    rfl
  · obtain ⟨ns, k, rfl, k0, k1, hl, q⟩ := h
    have hlen := B.len
    show LB _ _ [some (.frz (ns.map Dt.int)), some (.int k)] m _
    k_caughtNB
    refine ⟨_, rfl, ite2 (fun c => ?_) (fun c => ?_)⟩
    · have c' : k < ns.length := by simpa using c
      obtain ⟨z, hz⟩ := at_map k0 c'
      k_caughtNB
      refine oi_frz hz ?_
      exact q z
    · k_caughtNB
      refine o_mul (.inl (by decide)) ?_
      k_caughtNB
      exact q _
end
/-! ### things -/
abbrev LT26 : List Nat := [97, 98, 99, 100, 101, 102, 103, 104, 105, 106, 107, 108, 109, 110, 111, 112, 113, 114, 115, 116, 117, 118, 119, 120, 121, 122]
def isLet (c : Nat) : Bool := decide (97 ≤ c ∧ c ≤ 122)
def isPri (c : Nat) : Bool := decide (32 ≤ c ∧ c ≤ 126)
theorem isLet_in (c : Nat) : decide (c ∈ LT26) = isLet c := by
  unfold isLet LT26
  apply decide_eq_decide.mpr
  simp only [List.mem_cons, List.not_mem_nil, or_false]
  omega
def fName : Dt → Bool
  | .str x => decide (1 ≤ x.cps.toList.length ∧ x.cps.toList.length ≤ 8) && x.cps.toList.all isLet
  | _ => false
def fWord : Dt → Bool
  | .str x => decide (x.cps.toList.length ≤ 40) && x.cps.toList.all isPri
  | _ => false
def fWhole (lo hi : Int) : Dt → Bool
  | .int i => decide (lo ≤ i ∧ i ≤ hi)
  | _ => false
def fLetter (d : Dt) : Bool := fName d && (match d with | .str x => decide (x.cps.toList.length = 1) | _ => false)
def strOf : Dt → Str | .str x => x | _ => Str.empty
def fOne (ds : List Dt) : Bool := decide (1 ≤ ds.length ∧ ds.length ≤ 8) && ds.all fName && decide (ds.map strOf).Nodup
def fKind : Dt → Bool
  | .tup (.str w :: ds) =>
    if w = "number" then (match ds with | [a, b] => fWhole (-999999) 999999 a && fWhole (-999999) 999999 b && (match a, b with | .int i, .int j => decide (i ≤ j) | _, _ => false) | _ => false)
    else if w = "one" then (match ds with | [.tup es] => fOne es | _ => false)
    else if w = "text" then (match ds with | [a] => fWhole 1 20 a | _ => false)
    else if w = "own" then (match ds with | [a] => fName a | _ => false)
    else decide (w = "name") && ds.isEmpty
  | _ => false
/-- texts are short, isinstance is known -/
def Th (K : PySem.W.Frag) (d : Dt) : Prop := Thg K d ∧ (match d with | .str x => x.length ≤ 100000 | .tup ds => ds.length ≤ 10000 | _ => True)
def W_whole (K : PySem.W.Frag) : Spd := fun ds m F E => ∃ d lo hi, ds = [d, .int lo, .int hi] ∧ Th K d ∧ F (.bl (fWhole lo hi d)) m
def W_pred (K : PySem.W.Frag) (f : Dt → Bool) : Spd := fun ds m F E => ∃ d, ds = [d] ∧ Th K d ∧ F (.bl (f d)) m
theorem whole_int {d : Dt} (c : isi .int d = true) (c2 : (!isi .bool d) = true) : ∃ i, d = .int i := by
  cases d <;> first | exact ⟨_, rfl⟩ | (cases c; done) | (cases c2; done)
theorem whole_bl {d : Dt} {lo hi : Int} (c2 : (!isi .bool d) = false) : fWhole lo hi d = false := by
  cases d <;> first | rfl | (cases c2; done)
theorem whole_not {d : Dt} {lo hi : Int} (c2 : isi .int d = false) : fWhole lo hi d = false := by
  cases d <;> first | rfl | (cases c2; done)
theorem one_lt (a b : Nat) : decide (([a] : List Nat) < [b]) = decide (a < b) := by
  apply decide_eq_decide.mpr
  constructor
  · intro h
    cases h with
    | rel h => exact h
    | cons h => cases h
  · exact fun h => List.Lex.rel h
theorem leS_one {X : Cx} {m : Mu} {G : Dt → Prop} {a b : Nat} (q : G (.bl (decide (a ≤ b)))) : O2 X (compareOp .LtE) (.str (SX.S [a])) (.str (SX.S [b])) m G := o_leS (by
  show G (.bl (!decide (([b] : List Nat) < [a])))
  rw [one_lt, show (!decide (b < a)) = decide (a ≤ b) by by_cases h : b < a <;> simp [h] <;> omega]
  exact q)
theorem str_or (d : Dt) : (∃ l, d = .str (SX.S l)) ∨ isi .str d = false := by
  cases d <;> first | exact .inl ⟨_, congrArg Dt.str (SX.S_tl _).symm⟩ | exact .inr rfl
theorem name_S (l : List Nat) : fName (.str (SX.S l)) = (decide (1 ≤ l.length ∧ l.length ≤ 8) && l.all isLet) := rfl
theorem word_S (l : List Nat) : fWord (.str (SX.S l)) = (decide (l.length ≤ 40) && l.all isPri) := rfl
theorem name_no {d : Dt} (h : isi .str d = false) : fName d = false := by cases d <;> first | rfl | (cases h; done)
theorem word_no {d : Dt} (h : isi .str d = false) : fWord d = false := by cases d <;> first | rfl | (cases h; done)
theorem filt_all {l : List Nat} {p : Nat → Bool} : ((l.filter fun c => !p c).map fun c => Dt.str (SX.S [c])).isEmpty = l.all p := by
  induction l with
  | nil => rfl
  | cons a t ih =>
    rw [List.filter_cons, List.all_cons]
    cases h : p a with
    | true => simpa [h] using ih
    | false => simp
section
variable {P : Program} {w : World} {K : PySem.W.Frag} {mg : Str → Option Value} {base : Heap}
theorem ok_word {f : Addr} {fd : FuncData} {t1 : Tok} (B : Bi mg) (g1 : mg "MOST_WORD" = some (.int 40 t1)) (F : Fun K "is_word" "is_word" s_is_word f fd) : FnG P w K mg base 1 f fd ["thing"] (toSp K (W_pred K fWord)) := by
  refine fn_dw F sc_is_word (fun ds m Q E h => ?_) (fun cdv A outer s H E gd ds m Q E' h => ?_)
  · obtain ⟨d, rfl, _⟩ := h
    rfl
  · obtain ⟨d, rfl, ht, q⟩ := h
    have hb1 := B.isinstance; have hb2 := B.str; have hb3 := B.len; have hb4 := B.all
    show LB _ _ [some d, none] m _
    k_caughtNB
    refine c_isi_str ht.1 ?_
    refine ⟨_, rfl, ite2 (fun c => ?_) (fun c => ?_)⟩
    · rw [word_no (by simpa using c)] at q
      k_caughtNB
      exact q
    · rcases str_or d with ⟨l, rfl⟩ | h
      · have hz : l.length ≤ sizeLine := by have := ht.2; have e : (SX.S l).length ≤ 100000 := this; rw [SX.S_len] at e; exact Nat.le_trans e (by decide)
        rw [word_S] at q
        k_caughtNB
        refine c_lenS hz ?_
        k_caughtNB
        refine ⟨_, rfl, ite2 (fun c1 => ?_) (fun c1 => ?_)⟩
        · have c1 := of_decide_eq_true c1
          rw [show decide (l.length ≤ 40) = false from decide_eq_false (by omega), Bool.false_and] at q
          k_caughtNB
          exact q
        · have c1 : ¬ (40 : Int) < l.length := fun z => c1 (decide_eq_true z)
          rw [show decide (l.length ≤ 40) = true from decide_eq_true (by omega), Bool.true_and] at q
          k_caughtNB
          refine' le_lcS (defScope s_is_word) gd ?hsl _ ?hli
          (case hsl => tb_rel)
          case hli =>
            refine li_str ?_
            k_caughtNB
            refine ⟨_, rfl, ?_⟩
            rw [signsS]
            refine lc_map (ds := l.map fun c => Dt.str (SX.S [c])) (fun d => match d with | .str y => .bl (isPri (y.cps.toList.headD 0)) | d => d) gd (by rw [List.length_map]; exact hz) (fun d hd s1 H1 C1 cl1 fp1 gd1 => ?_) ?_
            · obtain ⟨c, hc, rfl⟩ := List.mem_map.mp hd
              show Dw.LE _ _ _ _ (fun y m4 => y = Dt.bl (isPri c) ∧ m4 = m) _
              refine le_chain ?_
              refine le_str ?_
              refine' le_name gd1 ?hsl ?_
              (case hsl => tb_rel)
              refine leS_one (a := 32) (b := c) ?_
              refine ⟨_, rfl, ite2 (fun c3 => ?_) (fun c3 => ?_)⟩
              · refine le_str ?_
                refine leS_one (a := c) (b := 126) ?_
                refine ⟨congrArg Dt.bl (decide_eq_decide.mpr ⟨fun h => ⟨of_decide_eq_true c3, h⟩, fun h => h.2⟩), rfl⟩
              · exact ⟨congrArg Dt.bl (decide_eq_false fun h => c3 (decide_eq_true h.1)).symm, rfl⟩
            · k_caughtNB
              rw [List.map_map]
              have em : (l.map ((fun d => match d with | .str y => Dt.bl (isPri (y.cps.toList.headD 0)) | d => d) ∘ fun c => Dt.str (SX.S [c]))) = (l.map isPri).map Dt.bl := by rw [List.map_map]; rfl
              rw [em]
              refine c_all gd.calm ?_
              rw [show (l.map isPri).all id = l.all isPri by rw [List.all_map]; rfl]
              exact q
      · exact absurd (by simp [h]) c
end
def wsD (ws : List (List Nat)) : List Dt := ws.map fun l => .str (SX.S l)
def Pr (c : Nat) : Prop := 32 ≤ c ∧ c ≤ 126
/-! ### is_whole, is_name -/
section
variable {P : Program} {w : World} {K : PySem.W.Frag} {mg : Str → Option Value} {base : Heap}
theorem ok_whole {f : Addr} {fd : FuncData} (B : Bi mg) (F : Fun K "is_whole" "is_whole" s_is_whole f fd) : FnG P w K mg base 1 f fd ["thing", "low", "high"] (toSp K (W_whole K)) := by
  refine fn_dw F sc_is_whole (fun ds m Q E h => ?_) (fun cdv A outer s H E gd ds m Q E' h => ?_)
  · obtain ⟨d, lo, hi, rfl, _⟩ := h
    rfl
  · obtain ⟨d, lo, hi, rfl, ht, q⟩ := h
    have hb1 := B.isinstance; have hb2 := B.int; have hb3 := B.bool
    show LB _ _ [some d, some (.int lo), some (.int hi)] m _
    k_caughtNB
    refine c_isi_int ht.1 ?_
    refine ⟨_, rfl, ite2 (fun c => ?_) (fun c => ?_)⟩
    · k_caughtNB
      refine c_isi_bool ht.1 ?_
      refine ⟨_, rfl, ?_⟩
      refine ⟨_, rfl, ite2 (fun c2 => ?_) (fun c2 => ?_)⟩
      · obtain ⟨i, rfl⟩ := whole_int c c2
        k_caughtNB
        refine ⟨_, rfl, ite2 (fun c3 => ?_) (fun c3 => ?_)⟩
        · k_caughtNB
          have e : fWhole lo hi (.int i) = decide (i ≤ hi) := decide_eq_decide.mpr ⟨fun h => h.2, fun h => ⟨of_decide_eq_true c3, h⟩⟩
          rw [e] at q
          exact q
        · have e : fWhole lo hi (.int i) = false := decide_eq_false fun h => c3 (decide_eq_true h.1)
          rw [e] at q
          exact q
      · rw [whole_bl (Bool.eq_false_iff.mpr c2)] at q
        rw [Bool.eq_false_iff.mpr c2]
        exact q
    · rw [whole_not (Bool.eq_false_iff.mpr c)] at q
      rw [Bool.eq_false_iff.mpr c]
      exact q
theorem ok_name {f : Addr} {fd : FuncData} {t1 t2 : Tok} (B : Bi mg) (g1 : mg "MOST_NAME" = some (.int 8 t1)) (g2 : mg "LETTERS" = some (.str (SX.S LT26) t2)) (F : Fun K "is_name" "is_name" s_is_name f fd) : FnG P w K mg base 1 f fd ["thing"] (toSp K (W_pred K fName)) := by
  refine fn_dw F sc_is_name (fun ds m Q E h => ?_) (fun cdv A outer s H E gd ds m Q E' h => ?_)
  · obtain ⟨d, rfl, _⟩ := h
    rfl
  · obtain ⟨d, rfl, ht, q⟩ := h
    have hb1 := B.isinstance; have hb2 := B.str; have hb3 := B.len; have hb4 := B.all
    show LB _ _ [some d, none] m _
    k_caughtNB
    refine c_isi_str ht.1 ?_
    refine ⟨_, rfl, ite2 (fun c => ?_) (fun c => ?_)⟩
    · rw [name_no (by simpa using c)] at q
      k_caughtNB
      exact q
    · rcases str_or d with ⟨l, rfl⟩ | h
      · have hz : l.length ≤ sizeLine := by have := ht.2; have e : (SX.S l).length ≤ 100000 := this; rw [SX.S_len] at e; exact Nat.le_trans e (by decide)
        rw [name_S] at q
        k_caughtNB
        refine c_lenS hz ?_
        k_caughtNB
        refine ⟨_, rfl, ite2 (fun c1 => ?_) (fun c1 => ?_)⟩
        · k_caughtNB
          refine ⟨_, rfl, ?_⟩
          by_cases h8 : (l.length : Int) ≤ 8
          · rw [decide_eq_true h8]
            rw [show decide (1 ≤ l.length ∧ l.length ≤ 8) = true from decide_eq_true ⟨by have := of_decide_eq_true c1; omega, by omega⟩, Bool.true_and] at q
            rw [show (!true) = false from rfl]
            k_caughtNB
            refine' le_lcS (defScope s_is_name) gd ?hsl _ ?hli
            (case hsl => tb_rel)
            case hli =>
              refine li_str ?_
              k_caughtNB
              refine ⟨_, rfl, ?_⟩
              rw [signsS]
              refine lc_map (ds := l.map fun c => Dt.str (SX.S [c])) (fun d => match d with | .str y => .bl (isLet (y.cps.toList.headD 0)) | d => d) gd (by rw [List.length_map]; exact hz) (fun d hd s1 H1 C1 cl1 fp1 gd1 => ?_) ?_
              · obtain ⟨c, hc, rfl⟩ := List.mem_map.mp hd
                k_caughtNB
                refine ⟨?_, rfl⟩
                show Dt.bl (decide (c ∈ LT26)) = Dt.bl (isLet c)
                rw [isLet_in]
              · k_caughtNB
                rw [List.map_map]
                have em : (l.map ((fun d => match d with | .str y => Dt.bl (isLet (y.cps.toList.headD 0)) | d => d) ∘ fun c => Dt.str (SX.S [c]))) = (l.map isLet).map Dt.bl := by rw [List.map_map]; rfl
                rw [em]
                refine c_all gd.calm ?_
                rw [show (l.map isLet).all id = l.all isLet by rw [List.all_map]; rfl]
                exact q
          · rw [decide_eq_false h8, show (!false) = true from rfl]
            rw [show decide (1 ≤ l.length ∧ l.length ≤ 8) = false from decide_eq_false (by omega), Bool.false_and] at q
            k_caughtNB
            exact q
        · have c1 : ¬ (1 : Int) ≤ l.length := fun z => c1 (decide_eq_true z)
          rw [show decide (1 ≤ l.length ∧ l.length ≤ 8) = false from decide_eq_false (by omega), Bool.false_and] at q
          rw [show (!false) = true from rfl]
          k_caughtNB
          exact q
      · exact absurd (by simp [h]) c
end
/-! ### numbers in words -/
abbrev FG : List Nat := [48, 49, 50, 51, 52, 53, 54, 55, 56, 57]
def isFig (c : Nat) : Bool := decide (c ∈ FG)
theorem isFig_iff {c : Nat} : isFig c = true ↔ 48 ≤ c ∧ c ≤ 57 := by
  unfold isFig FG
  rw [decide_eq_true_eq]
  simp only [List.mem_cons, List.not_mem_nil, or_false]
  omega
def figs (cs : List Nat) : List Nat := if cs.head? = some 45 then cs.tail else cs
def numOf (cs : List Nat) : Option Int := if figs cs = [] ∨ (figs cs).all isFig = false then none else if (figs cs).head? = some 48 ∧ cs ≠ [48] then none else some (if cs.head? = some 45 then -((NumText.digitsVal (figs cs) : Nat) : Int) else ((NumText.digitsVal (figs cs) : Nat) : Int))
def oi : Option Int → Dt
  | some i => .int i
  | none => .non
def nin : Dt → Dt
  | .str x => oi (numOf x.cps.toList)
  | _ => .non
theorem numOf_int {l : List Nat} (h0 : figs l ≠ []) (h1 : (figs l).all isFig = true) (h2 : ¬((figs l).head? = some 48 ∧ l ≠ [48])) : numOf l = some (if l.head? = some 45 then -((NumText.digitsVal (figs l) : Nat) : Int) else ((NumText.digitsVal (figs l) : Nat) : Int)) := by
  unfold numOf
  rw [if_neg (by rintro (h | h); exact h0 h; rw [h1] at h; cases h), if_neg h2]
theorem all_dig {l : List Nat} (h : l.all isFig = true) : NumText.AllDigits l := fun c hc => isFig_iff.mp (List.all_eq_true.mp h c hc)
theorem int_of {l : List Nat} (h0 : figs l ≠ []) (h1 : (figs l).all isFig = true) (hl : l.length ≤ 640) : PySem.intText? (SX.S l) = some (if l.head? = some 45 then -((NumText.digitsVal (figs l) : Nat) : Int) else ((NumText.digitsVal (figs l) : Nat) : Int)) := by
  by_cases h : l.head? = some 45
  · rw [if_pos h]
    have e : l = 45 :: figs l := by
      unfold figs
      rw [if_pos h]
      cases l with
      | nil => cases h
      | cons a t => cases h; rfl
    exact intText_neg (x := SX.S l) e (all_dig h1) h0 (by rw [SX.S_len]; omega)
  · rw [if_neg h]
    have e : figs l = l := by unfold figs; rw [if_neg h]
    rw [e] at h0 h1 ⊢
    exact intText_digits (x := SX.S l) (all_dig h1) h0 (by rw [SX.S_len]; omega)
def W_nin (K : PySem.W.Frag) : Spd := fun ds m F E => ∃ d, ds = [d] ∧ Thg K d ∧ (∀ x, d = .str x → x.length ≤ 640) ∧ F (nin d) m
section
variable {P : Program} {w : World} {K : PySem.W.Frag} {mg : Str → Option Value} {base : Heap}
theorem ok_nin {f : Addr} {fd : FuncData} {tk : Tok} (B : Bi mg) (hF : mg "FIGURES" = some (.str (SX.S FG) tk)) (F : Fun K "number_in" "number_in" s_number_in f fd) : FnG P w K mg base 1 f fd ["thing"] (toSp K (W_nin K)) := by
  refine fn_dw F sc_number_in (fun ds m Q E h => ?_) (fun cdv A outer s H E gd ds m Q E' h => ?_)
  · obtain ⟨d, rfl, _⟩ := h
    rfl
  · obtain ⟨d, rfl, ht, hl, q⟩ := h
    have hb1 := B.isinstance; have hb2 := B.int; have hb3 := B.all; have hb4 := B.str
    show LB _ _ [some d, none, none] m _
    k_caughtNB
    refine c_isi_str ht ⟨_, rfl, ite2 (fun c => ?_) (fun c => ?_)⟩
    · k_caughtNB
      have e : nin d = .non := by cases d <;> first | rfl | (simp [isi] at c)
      rw [e] at q
      exact q
    · obtain ⟨x, rfl⟩ : ∃ x, d = .str x := by cases d <;> first | exact ⟨_, rfl⟩ | (simp [isi] at c)
      obtain ⟨l, rfl⟩ := S_ex x
      have hl : l.length ≤ 640 := by have := hl _ rfl; rwa [SX.S_len] at this
      have hz : l.length ≤ sizeLine := Nat.le_trans hl (by decide)
      have q : Q (oi (numOf l)) m := q
      k_caughtNB
      refine ⟨_, rfl, ite2 (fun c => ?_) (fun c => ?_)⟩
      · have e : l = [] := SX.S_inj (of_decide_eq_true c)
        subst e
        k_caughtNB
        exact q
      · obtain ⟨a, t, rfl⟩ : ∃ a t, l = a :: t := by
          cases l with
          | nil => exact absurd rfl c
          | cons a t => exact ⟨a, t, rfl⟩
        refine lb_nil ?_
        dsimp only
        refine lb_midP [some (.str (SX.S (a :: t))), some (.str (SX.S (figs (a :: t)))), none] m ?_ ?_
        · k_caughtNB
          refine oi_S (n := 0) hz rfl ?_
          k_caughtNB
          refine ⟨_, rfl, ite2 (fun c => ?_) (fun c => ?_)⟩
          · have e : [a] = [45] := SX.S_inj (of_decide_eq_true c)
            cases e
            refine le_sl_str ?_
            k_caughtNB
            refine ⟨1, rfl, ?_⟩
            k_caughtNB
            exact ⟨_, rfl, by rw [SX.S_len]; exact hz, by rw [cut_from (by decide)]; exact ⟨rfl, rfl⟩⟩
          · have e : a ≠ 45 := fun z => c (decide_eq_true (by rw [z]; rfl))
            have e2 : figs (a :: t) = a :: t := by unfold figs; rw [if_neg (by simpa using e)]
            k_caughtNB
            rw [e2]
            exact ⟨rfl, rfl⟩
        · generalize hfs : figs (a :: t) = fs at *
          have hfl : fs.length ≤ sizeLine := by
            rw [← hfs]
            unfold figs
            split
            · exact Nat.le_trans (by simp) hz
            · exact hz
          k_caughtNB
          refine ⟨_, rfl, ite2 (fun c => ?_) (fun c => ?_)⟩
          · have e : fs = [] := SX.S_inj (of_decide_eq_true c)
            have e2 : numOf (a :: t) = none := by unfold numOf; rw [hfs, if_pos (.inl e)]
            rw [e2] at q
            k_caughtNB
            exact q
          · have e : fs ≠ [] := fun z => c (decide_eq_true (by rw [z]; rfl))
            k_caughtNB
            refine' le_lcS (defScope s_number_in) gd ?hsl _ ?hli
            (case hsl => tb_rel)
            case hli =>
              refine li_str ?_
              k_caughtNB
              refine ⟨_, rfl, ?_⟩
              rw [signsS]
              refine lc_map (ds := fs.map fun c => Dt.str (SX.S [c])) (fun d => match d with | .str y => .bl (isFig (y.cps.toList.headD 0)) | d => d) gd (by rw [List.length_map]; exact hfl) (fun d hd s1 H1 C1 cl1 fp1 gd1 => ?_) ?_
              · obtain ⟨c, hc, rfl⟩ := List.mem_map.mp hd
                k_caughtNB
                exact ⟨rfl, rfl⟩
              · k_caughtNB
                rw [List.map_map]
                have em : (fs.map ((fun d => match d with | .str y => Dt.bl (isFig (y.cps.toList.headD 0)) | d => d) ∘ fun c => Dt.str (SX.S [c]))) = (fs.map isFig).map Dt.bl := by rw [List.map_map]; rfl
                rw [em]
                refine c_all gd.calm ?_
                refine ⟨_, rfl, ite2 (fun c => ?_) (fun c => ?_)⟩
                · k_caughtNB
                  have c' : fs.all isFig = false := by simpa using c
                  have e2 : numOf (a :: t) = none := by unfold numOf; rw [hfs, if_pos (.inr c')]
                  rw [e2] at q
                  exact q
                · have c' : fs.all isFig = true := by simpa using c
                  obtain ⟨b, u, rfl⟩ : ∃ b u, fs = b :: u := by
                    cases fs with
                    | nil => exact absurd rfl e
                    | cons a t => exact ⟨a, t, rfl⟩
                  k_caughtNB
                  refine oi_S (n := 0) hfl rfl ?_
                  k_caughtNB
                  have fin : ¬((b :: u).head? = some 48 ∧ a :: t ≠ [48]) → PySem.intText? (SX.S (a :: t)) = some (if (a :: t).head? = some 45 then -((NumText.digitsVal (figs (a :: t)) : Nat) : Int) else ((NumText.digitsVal (figs (a :: t)) : Nat) : Int)) ∧ Q (.int (if (a :: t).head? = some 45 then -((NumText.digitsVal (figs (a :: t)) : Nat) : Int) else ((NumText.digitsVal (figs (a :: t)) : Nat) : Int))) m := fun hn => by
                    refine ⟨int_of (by rw [hfs]; exact e) (by rw [hfs]; exact c') hl, ?_⟩
                    rw [numOf_int (by rw [hfs]; exact e) (by rw [hfs]; exact c') (by rw [hfs]; exact hn)] at q
                    exact q
                  have hl6 : (SX.S (a :: t)).length ≤ 640 := by rw [SX.S_len]; exact hl
                  refine ⟨_, rfl, ite2 (fun c1 => ?_) (fun c1 => ?_)⟩
                  · have e1 : [b] = [48] := SX.S_inj (of_decide_eq_true c1)
                    cases e1
                    k_caughtNB
                    refine ⟨_, rfl, ite2 (fun c2 => ?_) (fun c2 => ?_)⟩
                    · k_caughtNB
                      have e2 : a :: t ≠ [48] := fun z => by rw [z] at c2; exact absurd c2 (by decide)
                      have e2 : numOf (a :: t) = none := by
                        unfold numOf
                        rw [hfs, if_neg (by rintro (h | h); exact e h; rw [c'] at h; cases h), if_pos ⟨rfl, e2⟩]
                      rw [e2] at q
                      exact q
                    · have e2 : a :: t = [48] := by
                        by_cases z : SX.S (a :: t) = SX.S [48]
                        · exact SX.S_inj z
                        · exact absurd (show (!decide (SX.S (a :: t) = SX.S [48])) = true by simp [z]) c2
                      k_caughtNB
                      exact c_int_str (fin fun h => h.2 e2).1 hl6 (fin fun h => h.2 e2).2
                  · have e1 : b ≠ 48 := fun z => c1 (decide_eq_true (by rw [z]; rfl))
                    k_caughtNB
                    exact c_int_str (fin fun h => e1 (by simpa using h.1)).1 hl6 (fin fun h => e1 (by simpa using h.1)).2
end
end
section
local macro_rules | `(tactic| tb_rel) => `(tactic| (repeat' (first | with_reducible exact At.here | with_reducible exact Put.here | with_reducible refine' At.there ?_ | with_reducible refine' Put.there ?_)))
local macro_rules | `(tactic| tb_start) => `(tactic| fail)
local macro_rules | `(tactic| k_caughtC0) => `(tactic| first
  | ((with_reducible show Dw.LE _ (.Name _ _) _ _ _ _); first
    | (refine' le_name (by assumption) ?hsl ?_; (case hsl => tb_rel))
    | refine le_globS (by assumption) ?_
    | refine le_globI (by assumption) ?_
    | refine le_ty (x := "int") (by assumption) bt_int ?_ | refine le_ty (x := "str") (by assumption) bt_str ?_ | refine le_ty (x := "bool") (by assumption) bt_bool ?_
    | refine le_ty (x := "list") (by assumption) bt_list ?_ | refine le_ty (x := "tuple") (by assumption) bt_tuple ?_ | refine le_ty (x := "dict") (by assumption) bt_dict ?_
    | (refine' le_nameS (by assumption) ?hsl ?_; (case hsl => tb_rel)))
  | ((with_reducible show Dw.LE _ (.Constant _ _ _) _ _ _ _); first | refine le_int ?_ | refine le_str ?_ | refine le_bl ?_ | refine le_non ?_)
  | ((with_reducible show Dw.LE _ (.BinOp _ _ _ _) _ _ _ _); refine le_bin ?_)
  | ((with_reducible show LA _ _ _ _ _ _); first | refine la_cons ?_ | refine la_nil ?_)
  | ((with_reducible show Dw.LE _ (.Compare _ _ _ _) _ _ _ _); first | refine le_cmp ?_ | refine le_chain ?_)
  | ((with_reducible show Dw.LE _ (.Call (.Name _ _) _ _ _) _ _ _ _); first
    | tb_start
    | refine le_callB (x := "len") (id := "len") bt_len (by assumption) ?_
    | refine le_callB (x := "isinstance") (id := "isinstance") bt_isinstance (by assumption) ?_
    | refine le_callB (x := "repr") (id := "repr") bt_repr (by assumption) ?_
    | refine le_callB (x := "all") (id := "all") bt_all (by assumption) ?_
    | refine le_callB (x := "any") (id := "any") bt_any (by assumption) ?_
    | refine le_callB (x := "max") (id := "max") bt_max (by assumption) ?_
    | refine le_callB (x := "min") (id := "min") bt_min (by assumption) ?_
    | refine le_callB (x := "abs") (id := "abs") bt_abs (by assumption) ?_
    | refine le_callB (x := "ord") (id := "ord") bt_ord (by assumption) ?_
    | refine le_callT (x := "int") (T := "int") bt_int (by assumption) ?_
    | refine le_callT (x := "str") (T := "str") bt_str (by assumption) ?_
    | refine le_callT (x := "list") (T := "list") bt_list (by assumption) ?_
    | refine le_callT (x := "tuple") (T := "tuple") bt_tuple (by assumption) ?_
    | refine le_call (by assumption) (by assumption) (by first | decide | omega) ?_
    | refine le_call0 (by assumption) (by assumption) (by first | decide | omega) ?_)
  | ((with_reducible show Dw.LE _ (.Subscript _ (.Slice _ _ _ _) _) _ _ _ _); fail)
  | ((with_reducible show Dw.LE _ (.Subscript _ _ _) _ _ _ _); first | refine le_ix ?_ (hs := pix_const) | refine le_ix ?_ (hs := pix_name) | refine le_ix ?_ (hs := pix_bin) | refine le_ix ?_ (hs := pix_call) | refine le_ix ?_ (hs := pix_un) | refine le_ix ?_ (hs := pix_sub) | refine le_ix ?_ (hs := pix_cmp))
  | ((with_reducible show Dw.LE _ (.List _ _) _ _ _ _); refine le_lst ?_)
  | ((with_reducible show Dw.LE _ (.Tuple _ _ _) _ _ _ _); refine le_tup ?_)
  | ((with_reducible show Dw.LE _ (.Dict _ _ _) _ _ _ _); refine le_dct0 ?_)
  | ((with_reducible show Dw.LE _ (.IfExp _ _ _ _) _ _ _ _); refine le_ife ?_)
  | ((with_reducible show Dw.LE _ (.UnaryOp .Not _ _) _ _ _ _); refine le_not ?_)
  | ((with_reducible show Dw.LE _ (.UnaryOp _ _ _) _ _ _ _); refine le_un ?_)
  | ((with_reducible show Dw.LE _ (.BoolOp _ _ _) _ _ _ _); first | refine le_and ?_ | refine le_or ?_ | refine le_one ?_)
  | ((with_reducible show LO _ _ _ _ _ _); first | refine lo_none ?_ | refine lo_some ?_))
local macro_rules | `(tactic| k_caughtCB) => `(tactic| first
  | ((with_reducible show O2 _ (binaryOp _) _ _ _ _); first | with_reducible refine o_add ?_ | with_reducible refine o_sub ?_)
  | ((with_reducible show O2 _ (compareOp _) _ _ _ _); first
    | with_reducible refine o_eqRs ?_ | with_reducible refine o_neRs ?_ | with_reducible refine o_eqRi ?_ | with_reducible refine o_neRi ?_ | with_reducible refine o_eq_str ?_ | with_reducible refine o_ne_str ?_ | with_reducible refine o_eq_int ?_ | with_reducible refine o_ne_int ?_ | with_reducible refine o_le ?_ | with_reducible refine o_lt ?_ | with_reducible refine o_gt ?_ | with_reducible refine o_ge ?_
    | with_reducible refine o_isN ?_ | with_reducible refine o_notN ?_ | with_reducible refine o_inS ?_ | with_reducible refine o_notInS ?_ | with_reducible refine o_leS ?_ | with_reducible refine o_ltS ?_ | with_reducible refine o_eq rfl rfl rfl ?_ | with_reducible refine o_ne rfl rfl rfl ?_)
  | ((with_reducible show OC _ _ _ _ _); first
    | with_reducible refine c_len_lst ?_ | with_reducible refine c_len_tup ?_ | with_reducible refine c_len_frz ?_ | with_reducible refine c_abs ?_ | with_reducible refine c_max2 (Gd.calm (by assumption)) ?_ | with_reducible refine c_min2 (Gd.calm (by assumption)) ?_ | with_reducible refine c_int_bl ?_ | with_reducible refine c_ord ?_
    | with_reducible refine c_list_lst ?_ | with_reducible refine c_list_tup ?_ | with_reducible refine c_tup_lst ?_)
  | ((with_reducible show OC _ (.builtin "all") _ _ _); refine c_allP (Gd.calm (by assumption)) ?_)
  | ((with_reducible show OC _ (.builtin "any") _ _ _); refine c_anyP (Gd.calm (by assumption)) ?_)
  | ((with_reducible show OC _ (.builtin "isinstance") [_, .raw (.ty _)] _ _); first
    | refine c_isi_int (by first | assumption | exact rfl) ?_ | refine c_isi_str (by first | assumption | exact rfl) ?_ | refine c_isi_bool (by first | assumption | exact rfl) ?_
    | refine c_isi_list (by first | assumption | exact rfl) ?_ | refine c_isi_tuple (by first | assumption | exact rfl) ?_ | refine c_isi_dict (by first | assumption | exact rfl) ?_)
  | ((with_reducible show OI _ (.tup (_ :: _)) _ _ _); first | refine oi_tup at0 ?_ | refine oi_tup at1 ?_ | refine oi_tup at2 ?_)
  | ((with_reducible show OI _ (.lst (_ :: _)) _ _ _); first | refine oi_lst at0 ?_ | refine oi_lst at1 ?_ | refine oi_lst at2 ?_)
  | ((with_reducible show O1 _ _ _ _ _); with_reducible refine o_neg ?_))
local macro_rules | `(tactic| k_caughtN0) => `(tactic| first
  | ((with_reducible show LB _ _ _ _ _); first | refine lb_one ?_ | refine lb_cons ?_ | refine lb_nil ?_)
  | ((with_reducible show LS _ (.Assign _ _ _) _ _ _); first
    | (refine' ls_set (by assumption) ?hsl ?_; (case hsl => tb_rel))
    | refine ls_setix ?_
    | (refine' ls_par (by assumption) ?hs1 (fun _ => ?hs2) ?_; (case hs1 => tb_rel); (case hs2 => tb_rel))
    | (refine' ls_star (by assumption) ?hs1 (fun _ => ?hs2) ?_; (case hs1 => tb_rel); (case hs2 => tb_rel))
    | refine ls_asg ?_)
  | ((with_reducible show LS _ (.If _ _ _ _) _ _ _); refine ls_if ?_)
  | ((with_reducible show LS _ (.Return _ _) _ _ _); first | refine ls_ret ?_ | refine ls_retN ?_)
  | ((with_reducible show LS _ (.Expr _ _) _ _ _); refine ls_expr ?_)
  | ((with_reducible show LT _ (.Compare _ _ _ _) _ _ _ _); first | refine lt_cmp ?_ | refine lt_chain ?_)
  | ((with_reducible show LT _ (.UnaryOp .Not _ _) _ _ _ _); refine lt_not ?_)
  | ((with_reducible show LT _ (.BoolOp _ _ _) _ _ _ _); refine lt_w ?_)
  | ((with_reducible show LW _ _ _ _ _ _); first | refine lw_and ?_ | refine lw_or ?_ | refine lw_and1 ?_ | refine lw_or1 ?_)
  | ((with_reducible show LT _ _ _ _ _ _); refine lt_val ?_)
  | ((with_reducible show LF _ _ _ _ _ _); first | refine lf_nil ?_ | refine lf_one ?_)
  | ((with_reducible show LS _ _ _ _ _); first | refine ls_break ?_ | refine ls_cont ?_ | refine ls_pass ?_))
local macro_rules | `(tactic| k_clsL) => `(tactic| first
  | ((with_reducible show LG _ (.Name _ _) _ _ _); (refine' lg_name (by assumption) ?hsl ?_; (case hsl => tb_rel)))
  | ((with_reducible show LG _ (.Tuple _ _ _) _ (.tup _) _); refine lg_tup (by assumption) ?_)
  | ((with_reducible show LG _ (.Tuple _ _ _) _ (.lst _) _); refine lg_lst (by assumption) ?_)
  | ((with_reducible show LGs _ (_ :: _) _ _ _); refine lgs_cons ?_)
  | ((with_reducible show LGs _ [] _ _ _); refine lgs_nil ?_))
local macro_rules | `(tactic| k_upd) => `(tactic| first | ((with_reducible show Exists (fun _ => And _ _)); refine ⟨_, rfl, ?_⟩) | ((with_reducible show Exists (fun _ => Exists (fun _ => And _ _))); refine ⟨_, _, rfl, ?_⟩))
local macro_rules | `(tactic| k_caughtNB) => `(tactic| (repeat (first | k_clsL | k_caughtC0 | k_caughtCB | k_caughtN0 | ((with_reducible show Pc.nx _ _ _); dsimp only) | ((with_reducible show Pc.rt _ _ _); dsimp only) | ((with_reducible show And (List.length _ ≤ sizeLine) _); refine And.intro (lenS rfl) ?_) | k_upd | ((with_reducible show ite _ _ _); first | with_reducible refine itT ?_ | with_reducible refine itF ?_ | (refine itTd ?hitc ?_; (case hitc => exact rfl)) | (refine itFd ?hitc ?_; (case hitc => exact rfl))))))
local macro_rules | `(tactic| k_places) => `(tactic| refine ite2 (fun c => ?_) (fun c => ?_))
local macro_rules | `(tactic| k_subL) => `(tactic| (refine' le_lcD (by assumption) ?hsl _ ?hli; (case hsl => tb_rel); (case' hli => skip)))
theorem _root_.Dw.Sm.thg {K : PySem.W.Frag} {n k : Nat} {d : Dt} (h : Sm n k d) : Thg K d := by
  have := h.ok
  cases d <;> first | rfl | (simp [okd] at this; done)
theorem _root_.Dw.Sm.th {K : PySem.W.Frag} {n k : Nat} {d : Dt} (h : Sm n k d) (hn : n ≤ 20000) : Th K d := by
  refine ⟨h.thg, ?_⟩
  have e := h.w
  cases d with
  | str x => simp only [wt] at e; show x.length ≤ 100000; omega
  | tup ds => simp only [wt] at e; have := wts_len ds; show ds.length ≤ 10000; omega
  | _ => trivial
/-- a thing of which all looks are known -/
structure Tk (K : PySem.W.Frag) (d : Dt) : Prop where
  th : Th K d
  it : ∀ ds, d = .tup ds → SmL 19000 60 ds
def W_kind (K : PySem.W.Frag) : Spd := fun ds m F E => ∃ d, ds = [d] ∧ Tk K d ∧ F (.bl (fKind d)) m
def W_unl : Spd := fun ds m F E => ∃ (ys : List Str) (d : Dt), ds = [d] ∧ (d = .lst (ys.map Dt.str) ∨ d = .tup (ys.map Dt.str)) ∧ ys.length ≤ 4000 ∧ F (.bl (decide ys.Nodup)) m
theorem nodup_rev {α : Type} {l : List α} : l.reverse.Nodup ↔ l.Nodup := by
  unfold List.Nodup
  rw [List.pairwise_reverse]
  exact ⟨fun h => h.imp Ne.symm, fun h => h.imp Ne.symm⟩
theorem tup_or (d : Dt) : (∃ ds, d = .tup ds) ∨ isi .tuple d = false := by
  cases d <;> first | exact .inl ⟨_, rfl⟩ | exact .inr rfl
theorem kind_no {d : Dt} (h : isi .tuple d = false) : fKind d = false := by cases d <;> first | rfl | (cases h; done)
theorem kind_num0 {x y : Dt} (h : ([x, y].all fun d => fWhole (-999999) 999999 d) = false) : fKind (.tup [.str "number", x, y]) = false := by
  have h' : (fWhole (-999999) 999999 x && fWhole (-999999) 999999 y) = false := by simpa using h
  simp only [fKind, if_true, h', Bool.false_and]
theorem kind_num1 {i j : Int} (h : ([.int i, .int j].all fun d => fWhole (-999999) 999999 d) = true) : fKind (.tup [.str "number", .int i, .int j]) = decide (i ≤ j) := by
  have h' : (fWhole (-999999) 999999 (.int i) && fWhole (-999999) 999999 (.int j)) = true := by simpa using h
  simp only [fKind, if_true, h', Bool.true_and]
theorem one_strs {ys : List Str} (c5 : 1 ≤ (ys.map Dt.str).length ∧ (ys.map Dt.str).length ≤ 8) (hn : (ys.map Dt.str).all fName = true) : fOne (ys.map Dt.str) = decide ys.Nodup := by
  unfold fOne
  rw [decide_eq_true c5, hn, List.map_map]
  have e : ∀ ys : List Str, ys.map (strOf ∘ Dt.str) = ys := fun ys => by
    induction ys with
    | nil => rfl
    | cons y ys ih => rw [List.map_cons, ih]; rfl
  rw [e]
  rfl
theorem names_str {ds : List Dt} (h : ds.all fName = true) : ∃ ys : List Str, ds = ys.map Dt.str := by
  induction ds with
  | nil => exact ⟨[], rfl⟩
  | cons d ds ih =>
    have h' : fName d = true ∧ ds.all fName = true := by simpa using h
    obtain ⟨ys, rfl⟩ := ih h'.2
    cases d with
    | str x => exact ⟨x :: ys, rfl⟩
    | _ => exact absurd h'.1 (by simp [fName])
section
variable {P : Program} {w : World} {K : PySem.W.Frag} {mg : Str → Option Value} {base : Heap}
theorem ok_unlike {f : Addr} {fd : FuncData} (B : Bi mg) (F : Fun K "are_unlike" "are_unlike" s_are_unlike f fd) : FnG P w K mg base 1 f fd ["things"] (toSp K W_unl) := by
  refine fn_dw F sc_are_unlike (fun ds m Q E h => ?_) (fun cdv A outer s H E gd ds m Q E' h => ?_)
  · obtain ⟨ys, d, rfl, _⟩ := h
    rfl
  · obtain ⟨ys, d, rfl, hd, hl, q⟩ := h
    have hb1 := B.len; have hb2 := B.set
    have e : decide ((unl ys.reverse : Int) = ((ys.map Dt.str).length : Int)) = decide ys.Nodup := by
      rw [List.length_map]
      apply decide_eq_decide.mpr
      rw [← nodup_rev, ← unl_nodup, List.length_reverse]
      omega
    rcases hd with rfl | rfl
    · show LB _ _ [some (.lst (ys.map Dt.str))] m _
      k_caughtN0
      k_caughtN0
      k_caughtC0
      refine le_lenset gd hb1 hb2 ?_
      k_caughtNB
      refine ⟨ys, .inl rfl, hl, ?_⟩
      k_caughtNB
      rw [e]
      exact q
    · show LB _ _ [some (.tup (ys.map Dt.str))] m _
      k_caughtN0
      k_caughtN0
      k_caughtC0
      refine le_lenset gd hb1 hb2 ?_
      k_caughtNB
      refine ⟨ys, .inr rfl, hl, ?_⟩
      k_caughtNB
      rw [e]
      exact q
theorem ok_kind {f : Addr} {fd : FuncData} {t1 t2 t3 : Tok} (B : Bi mg) (g1 : mg "MOST_NUMBER" = some (.int 999999 t1)) (g2 : mg "MOST_NAMES" = some (.int 8 t2)) (g3 : mg "MOST_TEXT" = some (.int 20 t3))
    (D1 : FnD P w K mg base "is_whole" 1 (W_whole K)) (D2 : FnD P w K mg base "is_name" 1 (W_pred K fName)) (D3 : FnD P w K mg base "are_unlike" 1 W_unl) (F : Fun K "is_kind" "is_kind" s_is_kind f fd) : FnG P w K mg base 2 f fd ["thing"] (toSp K (W_kind K)) := by
  refine fn_dw F sc_is_kind (fun ds m Q E h => ?_) (fun cdv A outer s H E gd ds m Q E' h => ?_)
  · obtain ⟨d, rfl, _⟩ := h
    rfl
  · obtain ⟨d, rfl, ht, q⟩ := h
    have hb1 := B.isinstance; have hb2 := B.str; have hb3 := B.len; have hb4 := B.all; have hb5 := B.tuple
    have ht1 := ht.th.1
    show LB _ _ [some d, none, none, none, none, none] m _
    rcases tup_or d with ⟨ds, rfl⟩ | h
    rotate_left
    · k_caughtNB
      rw [h]
      rw [kind_no h] at q
      k_caughtNB
      exact q
    have hsm := ht.it ds rfl
    have hlen : ds.length ≤ 10000 := by have := hsm.w; have := wts_len ds; omega
    cases ds with
    | nil =>
      k_caughtNB
      exact q
    | cons a ds =>
      have hta : Th K a := hsm.head.th (by decide)
      have hta1 := hta.1
      have hst := hsm.tail
      have hl2 : ds.length ≤ 16000 := by have := hst.w; have := wts_len ds; omega
      have hl3 : ds.length ≤ sizeLine := Nat.le_trans hl2 (by decide)
      k_caughtNB
      by_cases hs : isi .str a = true
      rotate_left
      · have hs : isi .str a = false := by simpa using hs
        rw [hs]
        have e : fKind (.tup (a :: ds)) = false := by cases a <;> first | rfl | (cases hs; done)
        rw [e] at q
        k_caughtNB
        exact q
      obtain ⟨v, rfl⟩ : ∃ v, a = .str v := by cases a <;> first | exact ⟨_, rfl⟩ | (cases hs; done)
      rw [show (!isi Ty6.str (.str v)) = false from rfl]
      k_caughtNB
      refine ⟨hl2, ?_⟩
      k_caughtNB
      by_cases c1 : v = "number"
      · subst c1
        rw [decide_eq_true rfl]
        k_caughtNB
        by_cases c2 : ds.length = 2
        · obtain ⟨x, y, rfl⟩ : ∃ x y, ds = [x, y] := by
            match ds, c2 with
            | [x, y], _ => exact ⟨x, y, rfl⟩
          k_caughtNB
          k_subL
          refine li_lst ?_
          k_caughtNB
          refine lc_map (ds := [x, y]) (fun d => .bl (fWhole (-999999) 999999 d)) gd hl3 (fun d hd s1 H1 C1 cl1 fp1 gd1 => ?_) ?_
          · k_caughtNB
            exact ⟨_, _, _, rfl, (hst.mem hd).th (by decide), rfl, rfl⟩
          k_caughtNB
          cases hw : [x, y].all fun d => fWhole (-999999) 999999 d with
          | false =>
            rw [kind_num0 hw] at q
            k_caughtNB
            exact q
          | true =>
            have hw' : fWhole (-999999) 999999 x = true ∧ fWhole (-999999) 999999 y = true := by simpa using hw
            obtain ⟨i, rfl⟩ : ∃ i, x = .int i := by cases x <;> first | exact ⟨_, rfl⟩ | exact absurd hw'.1 (by simp [fWhole])
            obtain ⟨j, rfl⟩ : ∃ i, y = .int i := by cases y <;> first | exact ⟨_, rfl⟩ | exact absurd hw'.2 (by simp [fWhole])
            rw [kind_num1 hw] at q
            k_caughtNB
            exact q
        · have e : fKind (.tup (.str "number" :: ds)) = false := by
            match ds, c2 with
            | [], _ => rfl
            | [_], _ => rfl
            | [_, _], h => exact absurd rfl h
            | _ :: _ :: _ :: _, _ => rfl
          rw [e] at q
          rw [decide_eq_false (show ¬ ((ds.length : Int) = 2) by omega)]
          k_caughtNB
          exact q
      rw [decide_eq_false c1]
      k_caughtNB
      by_cases c2 : v = "one"
      · subst c2
        rw [decide_eq_true rfl]
        k_caughtNB
        by_cases c2 : ds.length = 1
        rotate_left
        · have e : fKind (.tup (.str "one" :: ds)) = false := by
            match ds, c2 with
            | [], _ => rfl
            | [_], h => exact absurd rfl h
            | a :: _ :: _, _ => cases a <;> rfl
          rw [e] at q
          rw [decide_eq_false (show ¬ ((ds.length : Int) = 1) by omega)]
          k_caughtNB
          exact q
        obtain ⟨x, rfl⟩ : ∃ x, ds = [x] := by
          match ds, c2 with
          | [x], _ => exact ⟨x, rfl⟩
        have htx1 : Thg K x := hst.head.thg
        k_caughtNB
        rcases tup_or x with ⟨es, rfl⟩ | h
        rotate_left
        · rw [h]
          have e : fKind (.tup [.str "one", x]) = false := by cases x <;> first | rfl | (cases h; done)
          rw [e] at q
          k_caughtNB
          exact q
        have e : fKind (.tup [.str "one", .tup es]) = fOne es := rfl
        rw [e] at q
        obtain ⟨hes, _, _⟩ := hst.head.of_tup
        have hle : es.length ≤ 10000 := by have := hes.w; have := wts_len es; omega
        k_caughtNB
        by_cases c5 : 1 ≤ es.length ∧ es.length ≤ 8
        rotate_left
        · have e : fOne es = false := by unfold fOne; rw [decide_eq_false c5]; rfl
          rw [e] at q
          by_cases c6 : 1 ≤ es.length
          · rw [decide_eq_true (show (1 : Int) ≤ es.length by omega)]
            k_caughtNB
            rw [decide_eq_false (show ¬ ((es.length : Int) ≤ 8) by omega)]
            k_caughtNB
            exact q
          · rw [decide_eq_false (show ¬ ((1 : Int) ≤ es.length) by omega)]
            k_caughtNB
            exact q
        rw [decide_eq_true (show (1 : Int) ≤ es.length by omega)]
        k_caughtNB
        rw [decide_eq_true (show ((es.length : Int) ≤ 8) by omega)]
        k_caughtNB
        k_subL
        refine li_tup ?_
        k_caughtNB
        refine lc_map (fun d => .bl (fName d)) gd (Nat.le_trans hle (by decide)) (fun d hd s1 H1 C1 cl1 fp1 gd1 => ?_) ?_
        · k_caughtNB
          exact ⟨d, rfl, (hes.mem hd).th (by decide), rfl, rfl⟩
        k_caughtNB
        cases hn : es.all fun d => fName d with
        | false =>
          have e : fOne es = false := by unfold fOne; rw [show es.all fName = false from hn]; simp
          rw [e] at q
          k_caughtNB
          exact q
        | true =>
          obtain ⟨ys, rfl⟩ := names_str hn
          k_caughtNB
          refine ⟨ys, _, rfl, .inr rfl, by simpa using (show ((ys.map Dt.str).length ≤ 4000) by omega), ?_⟩
          rw [one_strs c5 hn] at q
          exact q
      rw [decide_eq_false c2]
      k_caughtNB
      by_cases c3 : v = "text"
      · subst c3
        rw [decide_eq_true rfl]
        k_caughtNB
        by_cases c2 : ds.length = 1
        rotate_left
        · have e : fKind (.tup (.str "text" :: ds)) = false := by
            match ds, c2 with
            | [], _ => rfl
            | [_], h => exact absurd rfl h
            | _ :: _ :: _, _ => rfl
          rw [e] at q
          rw [decide_eq_false (show ¬ ((ds.length : Int) = 1) by omega)]
          k_caughtNB
          exact q
        obtain ⟨x, rfl⟩ : ∃ x, ds = [x] := by
          match ds, c2 with
          | [x], _ => exact ⟨x, rfl⟩
        k_caughtNB
        exact ⟨_, _, _, rfl, hst.head.th (by decide), q⟩
      rw [decide_eq_false c3]
      k_caughtNB
      by_cases c4 : v = "own"
      · subst c4
        rw [decide_eq_true rfl]
        k_caughtNB
        by_cases c2 : ds.length = 1
        rotate_left
        · have e : fKind (.tup (.str "own" :: ds)) = false := by
            match ds, c2 with
            | [], _ => rfl
            | [_], h => exact absurd rfl h
            | _ :: _ :: _, _ => rfl
          rw [e] at q
          rw [decide_eq_false (show ¬ ((ds.length : Int) = 1) by omega)]
          k_caughtNB
          exact q
        obtain ⟨x, rfl⟩ : ∃ x, ds = [x] := by
          match ds, c2 with
          | [x], _ => exact ⟨x, rfl⟩
        k_caughtNB
        exact ⟨x, rfl, hst.head.th (by decide), q⟩
      rw [decide_eq_false c4]
      k_caughtNB
      have e : fKind (.tup (.str v :: ds)) = (decide (v = "name") && ds.isEmpty) := by
        simp only [fKind, if_neg c1, if_neg c2, if_neg c3, if_neg c4]
      rw [e] at q
      by_cases c5 : v = "name"
      · rw [decide_eq_true c5] at q ⊢
        k_caughtNB
        refine o_eqL0 gd.room.units ?_
        exact q
      · rw [decide_eq_false c5] at q ⊢
        k_caughtNB
        exact q
end
end
section
local macro_rules | `(tactic| tb_rel) => `(tactic| (repeat' (first | with_reducible exact At.here | with_reducible exact Put.here | with_reducible refine' At.there ?_ | with_reducible refine' Put.there ?_)))
local macro_rules | `(tactic| tb_start) => `(tactic| fail)
local macro_rules | `(tactic| k_caughtNB) => `(tactic| (repeat (first
  | ((with_reducible show Dw.LE _ _ _ _ _ _); first
    | ((with_reducible show Dw.LE _ (.Name _ _) _ _ _ _); first
      | (refine' le_name (by assumption) ?hsl ?_; (case hsl => tb_rel))
      | refine le_globS (by assumption) ?_
      | refine le_globI (by assumption) ?_
      | refine le_globT (by assumption) (by assumption) ?_
      | refine le_ty (x := "int") (by assumption) bt_int ?_ | refine le_ty (x := "str") (by assumption) bt_str ?_ | refine le_ty (x := "bool") (by assumption) bt_bool ?_
      | refine le_ty (x := "list") (by assumption) bt_list ?_ | refine le_ty (x := "tuple") (by assumption) bt_tuple ?_ | refine le_ty (x := "dict") (by assumption) bt_dict ?_
      | (refine' le_nameS (by assumption) ?hsl ?_; (case hsl => tb_rel)))
    | ((with_reducible show Dw.LE _ (.Constant _ _ _) _ _ _ _); first | refine le_int ?_ | refine le_str ?_ | refine le_bl ?_ | refine le_non ?_)
    | tb_start
    | ((with_reducible show Dw.LE _ (.Call (.Name _ _) _ _ _) _ _ _ _); first
      | refine le_callB (x := "len") (id := "len") bt_len (by assumption) ?_
      | refine le_callB (x := "isinstance") (id := "isinstance") bt_isinstance (by assumption) ?_
      | refine le_callB (x := "repr") (id := "repr") bt_repr (by assumption) ?_
      | refine le_callB (x := "all") (id := "all") bt_all (by assumption) ?_
      | refine le_callB (x := "any") (id := "any") bt_any (by assumption) ?_
      | refine le_callB (x := "max") (id := "max") bt_max (by assumption) ?_
      | refine le_callB (x := "min") (id := "min") bt_min (by assumption) ?_
      | refine le_callB (x := "abs") (id := "abs") bt_abs (by assumption) ?_
      | refine le_callB (x := "ord") (id := "ord") bt_ord (by assumption) ?_
      | refine le_callT (x := "int") (T := "int") bt_int (by assumption) ?_
      | refine le_callT (x := "str") (T := "str") bt_str (by assumption) ?_
      | refine le_callT (x := "list") (T := "list") bt_list (by assumption) ?_
      | refine le_callT (x := "tuple") (T := "tuple") bt_tuple (by assumption) ?_
      | refine le_call (by assumption) (by assumption) (by first | decide | omega) ?_
      | refine le_call0 (by assumption) (by assumption) (by first | decide | omega) ?_)
    | ((with_reducible show Dw.LE _ (.Attribute _ _ _) _ _ _ _); refine le_fldG (by assumption) ?_)
    | ((with_reducible show Dw.LE _ (.Call (.Attribute _ _ _) (_ :: _) [] _) _ _ _ _); refine le_meth (by assumption) (by assumption) (by decide) ?_)
    | ((with_reducible show Dw.LE _ (.Call (.Attribute _ _ _) [] [] _) _ _ _ _); refine le_meth0 (by assumption) (by assumption) (by decide) ?_)
    | ((with_reducible show Dw.LE _ (.BinOp _ _ _ _) _ _ _ _); refine le_bin ?_)
    | ((with_reducible show Dw.LE _ (.Compare _ _ _ _) _ _ _ _); first | refine le_cmp ?_ | refine le_chain ?_)
    | ((with_reducible show Dw.LE _ (.Subscript _ (.Slice _ _ _ _) _) _ _ _ _); fail)
    | ((with_reducible show Dw.LE _ (.Subscript _ (.Constant (.str _) _ _) _) _ _ _ _); refine le_dget (by assumption) ?_)
    | ((with_reducible show Dw.LE _ (.Subscript _ (.Constant _ _ _) _) _ _ _ _); refine le_ix ?_ (hs := pix_const))
    | ((with_reducible show Dw.LE _ (.Subscript _ (.Name _ _) _) _ _ _ _); refine le_ix ?_ (hs := pix_name))
    | ((with_reducible show Dw.LE _ (.Subscript _ _ _) _ _ _ _); first | refine le_ix ?_ (hs := pix_bin) | refine le_ix ?_ (hs := pix_call) | refine le_ix ?_ (hs := pix_un) | refine le_ix ?_ (hs := pix_sub) | refine le_ix ?_ (hs := pix_cmp))
    | ((with_reducible show Dw.LE _ (.List _ _) _ _ _ _); refine le_lst ?_)
    | ((with_reducible show Dw.LE _ (.Tuple _ _ _) _ _ _ _); refine le_tup ?_)
    | ((with_reducible show Dw.LE _ (.Dict _ _ _) _ _ _ _); refine le_dct0 ?_)
    | ((with_reducible show Dw.LE _ (.IfExp _ _ _ _) _ _ _ _); refine le_ife ?_)
    | ((with_reducible show Dw.LE _ (.UnaryOp .Not _ _) _ _ _ _); refine le_not ?_)
    | ((with_reducible show Dw.LE _ (.UnaryOp _ _ _) _ _ _ _); refine le_un ?_)
    | ((with_reducible show Dw.LE _ (.BoolOp _ _ _) _ _ _ _); first | refine le_and ?_ | refine le_or ?_ | refine le_one ?_))
  | ((with_reducible show LA _ _ _ _ _ _); first | refine la_cons ?_ | refine la_nil ?_)
  | ((with_reducible show O2 _ (binaryOp _) _ _ _ _); first | with_reducible refine o_add ?_ | with_reducible refine o_sub ?_)
  | ((with_reducible show O2 _ (compareOp _) _ _ _ _); first
    | with_reducible refine o_eqRs ?_ | with_reducible refine o_neRs ?_ | with_reducible refine o_eqRi ?_ | with_reducible refine o_neRi ?_ | with_reducible refine o_eq_str ?_ | with_reducible refine o_ne_str ?_ | with_reducible refine o_eq_int ?_ | with_reducible refine o_ne_int ?_ | with_reducible refine o_le ?_ | with_reducible refine o_lt ?_ | with_reducible refine o_gt ?_ | with_reducible refine o_ge ?_
    | with_reducible refine o_isN ?_ | with_reducible refine o_notN ?_ | with_reducible refine o_inS ?_ | with_reducible refine o_notInS ?_ | with_reducible refine o_leS ?_ | with_reducible refine o_ltS ?_ | with_reducible refine o_eq rfl rfl rfl ?_ | with_reducible refine o_ne rfl rfl rfl ?_)
  | ((with_reducible show OC _ _ _ _ _); first
    | ((with_reducible show OC _ (.builtin "isinstance") [_, .raw (.ty _)] _ _); first
      | refine c_isi_int (by first | assumption | exact rfl) ?_ | refine c_isi_str (by first | assumption | exact rfl) ?_ | refine c_isi_bool (by first | assumption | exact rfl) ?_
      | refine c_isi_list (by first | assumption | exact rfl) ?_ | refine c_isi_tuple (by first | assumption | exact rfl) ?_ | refine c_isi_dict (by first | assumption | exact rfl) ?_)
    | ((with_reducible show OC _ (.builtin "all") _ _ _); refine c_allP (Gd.calm (by assumption)) ?_)
    | ((with_reducible show OC _ (.builtin "any") _ _ _); refine c_anyP (Gd.calm (by assumption)) ?_)
    | with_reducible refine c_len_lst ?_ | with_reducible refine c_len_tup ?_ | with_reducible refine c_len_frz ?_ | with_reducible refine c_abs ?_ | with_reducible refine c_max2 (Gd.calm (by assumption)) ?_ | with_reducible refine c_min2 (Gd.calm (by assumption)) ?_ | with_reducible refine c_int_bl ?_ | with_reducible refine c_ord ?_
    | with_reducible refine c_list_lst ?_ | with_reducible refine c_list_tup ?_ | with_reducible refine c_tup_lst ?_)
  | ((with_reducible show OI _ _ _ _ _); first
    | ((with_reducible show OI _ (.tup (_ :: _)) _ _ _); first | refine oi_tup at0 ?_ | refine oi_tup at1 ?_ | refine oi_tup at2 ?_)
    | ((with_reducible show OI _ (.lst (_ :: _)) _ _ _); first | refine oi_lst at0 ?_ | refine oi_lst at1 ?_ | refine oi_lst at2 ?_))
  | ((with_reducible show O1 _ _ _ _ _); with_reducible refine o_neg ?_)
  | ((with_reducible show LB _ _ _ _ _); first | refine lb_one ?_ | refine lb_cons ?_ | refine lb_nil ?_)
  | ((with_reducible show LS _ _ _ _ _); first
    | ((with_reducible show LS _ (.Assign [.Name _ _] _ _) _ _ _); (refine' ls_set (by assumption) ?hsl ?_; (case hsl => tb_rel)))
    | ((with_reducible show LS _ (.Assign [.Attribute _ _ _] _ _) _ _ _); refine ls_fld ?_)
    | ((with_reducible show LS _ (.Assign [.Subscript _ _ _] _ _) _ _ _); refine ls_setix ?_)
    | ((with_reducible show LS _ (.Assign [.Tuple _ _ _] _ _) _ _ _); first
      | (refine' ls_par (by assumption) ?hs1 (fun _ => ?hs2) ?_; (case hs1 => tb_rel); (case hs2 => tb_rel))
      | (refine' ls_par3 (by assumption) ?hs1 (fun _ => ?hs2) (fun _ _ => ?hs3) ?_; (case hs1 => tb_rel); (case hs2 => tb_rel); (case hs3 => tb_rel))
      | (refine' ls_star (by assumption) ?hs1 (fun _ => ?hs2) ?_; (case hs1 => tb_rel); (case hs2 => tb_rel))
      | refine ls_asg ?_)
    | ((with_reducible show LS _ (.If _ _ _ _) _ _ _); refine ls_if ?_)
    | ((with_reducible show LS _ (.Return _ _) _ _ _); first | refine ls_ret ?_ | refine ls_retN ?_)
    | ((with_reducible show LS _ (.Expr _ _) _ _ _); refine ls_expr ?_)
    | refine ls_break ?_ | refine ls_cont ?_ | refine ls_pass ?_)
  | ((with_reducible show LT _ _ _ _ _ _); first
    | ((with_reducible show LT _ (.Compare _ _ _ _) _ _ _ _); first | refine lt_cmp ?_ | refine lt_chain ?_)
    | ((with_reducible show LT _ (.UnaryOp .Not _ _) _ _ _ _); refine lt_not ?_)
    | ((with_reducible show LT _ (.BoolOp _ _ _) _ _ _ _); refine lt_w ?_)
    | refine lt_val ?_)
  | ((with_reducible show LW _ _ _ _ _ _); first | refine lw_and ?_ | refine lw_or ?_ | refine lw_and1 ?_ | refine lw_or1 ?_)
  | ((with_reducible show ite _ _ _); first | with_reducible refine itT ?_ | with_reducible refine itF ?_ | (refine itTd ?hitc ?_; (case hitc => exact rfl)) | (refine itFd ?hitc ?_; (case hitc => exact rfl)))
  | ((with_reducible show Exists _); first
    | ((with_reducible show Exists (fun _ => And _ _)); refine ⟨_, rfl, ?_⟩)
    | ((with_reducible show Exists (fun _ => Exists (fun _ => And _ _))); refine ⟨_, _, rfl, ?_⟩)
    | ((with_reducible show Exists (fun _ => Exists (fun _ => Exists (fun _ => And (_ = Dt.dct _) _)))); refine ⟨_, _, _, rfl, rfl, rfl, ?_⟩)
    | ((with_reducible show Exists (fun _ => Exists (fun _ => Exists (fun _ => And (_ = [_, _, _]) _)))); refine ⟨_, _, _, rfl, ?_⟩)
    | ((with_reducible show Exists (fun _ => Exists (fun _ => Exists (fun _ => And (_ = _) (And _ (And (List.lookup _ _ = _) _)))))); refine ⟨_, _, _, rfl, (by assumption), rfl, ?_⟩)
    | ((with_reducible show Exists (fun _ => Exists (fun _ => Exists (fun _ => Exists (fun _ => Exists (fun _ => And _ _)))))); refine ⟨_, _, _, _, _, rfl, (by assumption), (by assumption), (by assumption), rfl, ?_⟩)
    | ((with_reducible show Exists (fun _ => Exists (fun _ => Exists (fun _ => Exists (fun _ => And _ _))))); refine ⟨_, _, _, _, rfl, (by assumption), (by assumption), (by assumption), lenF rfl, ?_⟩))
  | ((with_reducible show Pc.nx _ _ _); dsimp only)
  | ((with_reducible show Pc.rt _ _ _); dsimp only)
  | ((with_reducible show And (List.length _ ≤ sizeLine) _); refine And.intro (lenS rfl) ?_)
  | ((with_reducible show LG _ (.Name _ _) _ _ _); (refine' lg_name (by assumption) ?hsl ?_; (case hsl => tb_rel)))
  | ((with_reducible show LG _ (.Tuple _ _ _) _ (.tup _) _); refine lg_tup (by assumption) ?_)
  | ((with_reducible show LG _ (.Tuple _ _ _) _ (.lst _) _); refine lg_lst (by assumption) ?_)
  | ((with_reducible show LGs _ (_ :: _) _ _ _); refine lgs_cons ?_)
  | ((with_reducible show LGs _ [] _ _ _); refine lgs_nil ?_)
  | ((with_reducible show LF _ _ _ _ _ _); first | refine lf_nil ?_ | refine lf_one ?_)
  | ((with_reducible show LO _ _ _ _ _ _); first | refine lo_none ?_ | refine lo_some ?_)
  | ((with_reducible show LP _ _ _ _ _ _); unfold LP))))
local macro_rules | `(tactic| k_places) => `(tactic| refine ite2 (fun c => ?_) (fun c => ?_))
local macro_rules | `(tactic| k_subL) => `(tactic| (refine' le_lcD (by assumption) ?hsl _ ?hli; (case hsl => tb_rel); (case' hli => skip)))
/-! ### kinds, own words -/
inductive Kd where
  | num (lo hi : Int) | one (ys : List (List Nat)) | nam | txt (k : Int) | own (n : List Nat)
def Kd.d : Kd → Dt
  | .num lo hi => .tup [.str "number", .int lo, .int hi]
  | .one ys => .tup [.str "one", .tup (wsD ys)]
  | .nam => .tup [.str "name"]
  | .txt k => .tup [.str "text", .int k]
  | .own n => .tup [.str "own", .str (SX.S n)]
structure Nl (l : List Nat) : Prop where
  lo : 1 ≤ l.length
  hi : l.length ≤ 8
  sg : ∀ c ∈ l, 97 ≤ c ∧ c ≤ 122
def Kd.ok : Kd → Prop
  | .num lo hi => -999999 ≤ lo ∧ lo ≤ hi ∧ hi ≤ 999999
  | .one ys => 1 ≤ ys.length ∧ ys.length ≤ 8 ∧ (∀ y ∈ ys, Nl y) ∧ ys.Nodup
  | .nam => True
  | .txt k => 1 ≤ k ∧ k ≤ 20
  | .own n => Nl n
structure Ow (ws : List (List Nat)) : Prop where
  len : ws.length ≤ 8
  sg : ∀ w ∈ ws, 1 ≤ w.length ∧ w.length ≤ 20 ∧ ∀ c ∈ w, Pr c
  nd : ws.Nodup
def seqOf : Dt → Option (List Dt)
  | .lst es => some es
  | .tup es => some es
  | _ => none
theorem wsD_strs (ws : List (List Nat)) : wsD ws = (ws.map SX.S).map Dt.str := by unfold wsD; rw [List.map_map]; rfl
theorem wsD_len (ws : List (List Nat)) : (wsD ws).length = ws.length := by unfold wsD; rw [List.length_map]
theorem nodup_S {ws : List (List Nat)} (h : ws.Nodup) : (ws.map SX.S).Nodup := by
  refine List.Pairwise.map SX.S (fun a b hab e => hab (SX.S_inj e)) h
theorem Nl.name {l : List Nat} (h : Nl l) : fName (.str (SX.S l)) = true := by
  rw [name_S, Bool.and_eq_true]
  exact ⟨decide_eq_true ⟨h.lo, h.hi⟩, List.all_eq_true.mpr fun c hc => decide_eq_true (h.sg c hc)⟩
theorem Kd.kind {k : Kd} (h : k.ok) : fKind k.d = true := by
  cases k with
  | num lo hi =>
    obtain ⟨h1, h2, h3⟩ := h
    have e : fKind (Kd.num lo hi).d = (fWhole (-999999) 999999 (.int lo) && fWhole (-999999) 999999 (.int hi) && decide (lo ≤ hi)) := rfl
    rw [e]
    simp only [fWhole, Bool.and_eq_true]
    exact ⟨⟨decide_eq_true ⟨h1, by omega⟩, decide_eq_true ⟨by omega, h3⟩⟩, decide_eq_true h2⟩
  | one ys =>
    obtain ⟨h1, h2, h3, h4⟩ := h
    have e : fKind (Kd.one ys).d = fOne (wsD ys) := rfl
    rw [e]
    unfold fOne
    have e2 : (wsD ys).map strOf = ys.map SX.S := by unfold wsD; rw [List.map_map]; rfl
    rw [e2, wsD_len]
    simp only [Bool.and_eq_true]
    refine ⟨⟨decide_eq_true ⟨h1, h2⟩, List.all_eq_true.mpr fun d hd => ?_⟩, decide_eq_true (nodup_S h4)⟩
    obtain ⟨y, hy, rfl⟩ := List.mem_map.mp hd
    exact (h3 y hy).name
  | nam => rfl
  | txt k =>
    have e : fKind (Kd.txt k).d = fWhole 1 20 (.int k) := rfl
    rw [e]
    exact decide_eq_true h
  | own n =>
    have e : fKind (Kd.own n).d = fName (.str (SX.S n)) := rfl
    rw [e]
    exact Nl.name h
theorem Nl.sm {l : List Nat} (h : Nl l) {k : Nat} : Sm 90 k (.str (SX.S l)) := Sm.str (fun c hc => by have := h.sg c hc; omega) (by have := h.hi; omega)
theorem smI {i : Int} {k : Nat} (h1 : -(10 ^ 31) ≤ i) (h2 : i ≤ 10 ^ 31) : Sm 300 k (.int i) := Sm.int (by
  have : i.natAbs ≤ 10 ^ 31 := by omega
  exact Nat.lt_of_le_of_lt this (by decide)) (by decide)
theorem names_sm : ∀ {ys : List (List Nat)} {k : Nat}, (∀ y ∈ ys, Nl y) → SmL (92 * ys.length) k (wsD ys)
  | [], k, _ => SmL.nil
  | y :: ys, k, h => (SmL.cons (h y List.mem_cons_self).sm (names_sm fun z hz => h z (List.mem_cons_of_mem _ hz))).mono (by rw [List.length_cons]; omega) (Nat.le_refl _)
theorem Kd.sm {k : Kd} (h : k.ok) : ∃ ds, k.d = .tup ds ∧ SmL 2000 5 ds := by
  have st : ∀ x : Str, okd (.str x) = true → wt (.str x) ≤ 100 → Sm 100 5 (.str x) := fun x h1 h2 => ⟨h1, h2, Nat.zero_le _⟩
  cases k with
  | num lo hi =>
    obtain ⟨h1, h2, h3⟩ := h
    exact ⟨_, rfl, (SmL.cons (st "number" (by decide +kernel) (by decide +kernel)) (SmL.cons (smI (by omega) (by omega)) (SmL.cons (smI (by omega) (by omega)) SmL.nil (n' := 0)))).mono (by decide) (by decide)⟩
  | one ys =>
    obtain ⟨h1, h2, h3, h4⟩ := h
    exact ⟨_, rfl, (SmL.cons (st "one" (by decide +kernel) (by decide +kernel)) (SmL.cons ((names_sm (k := 0) h3).tup.mono (n' := 800) (k' := 5) (by omega) (by decide)) SmL.nil (n' := 0))).mono (by decide) (by decide)⟩
  | nam => exact ⟨_, rfl, (SmL.cons (st "name" (by decide +kernel) (by decide +kernel)) SmL.nil (n' := 0)).mono (by decide) (by decide)⟩
  | txt k =>
    have h1 : 1 ≤ k ∧ k ≤ 20 := h
    exact ⟨_, rfl, (SmL.cons (st "text" (by decide +kernel) (by decide +kernel)) (SmL.cons (smI (by omega) (by omega)) SmL.nil (n' := 0))).mono (by decide) (by decide)⟩
  | own n => exact ⟨_, rfl, (SmL.cons (st "own" (by decide +kernel) (by decide +kernel)) (SmL.cons (Nl.sm h) SmL.nil (n' := 0))).mono (by decide) (by decide)⟩
theorem Kd.tk {K : PySem.W.Frag} {k : Kd} (h : k.ok) : Tk K k.d := by
  obtain ⟨ds, e, hs⟩ := k.sm h
  rw [e]
  have hl := wts_len ds
  have := hs.w
  refine ⟨⟨rfl, show ds.length ≤ 10000 by omega⟩, fun es he => ?_⟩
  cases he
  exact hs.mono (by decide) (by decide)
def inW (d : Dt) (ys : List (List Nat)) : Bool := match d with
  | .str x => decide (x ∈ ys.map SX.S)
  | _ => false
def fFits (k : Kd) (d : Dt) (ws : List (List Nat)) : Bool := match k with
  | .num lo hi => fWhole lo hi d
  | .one ys => inW d ys
  | .nam => fName d
  | .txt n => fWord d && (match d with | .str x => decide ((x.length : Int) ≤ n) | _ => false)
  | .own _ => inW d ws
def W_own : Spd := fun ds m F E => ∃ d ws, ds = [d] ∧ seqOf d = some (wsD ws) ∧ Ow ws ∧ F (.bl true) m
def W_need : Spd := fun ds m F E => ∃ k o ws, ds = [Kd.d k, o] ∧ k.ok ∧ seqOf o = some (wsD ws) ∧ Ow ws ∧ F .non m
theorem seq_lt {d : Dt} {es : List Dt} (h : seqOf d = some es) : d = .lst es ∨ d = .tup es := by
  cases d <;> first | (cases h; exact .inl rfl) | (cases h; exact .inr rfl) | (cases h; done)
section
variable {P : Program} {w : World} {K : PySem.W.Frag} {mg : Str → Option Value} {base : Heap}
theorem ok_own {f : Addr} {fd : FuncData} {t1 t2 : Tok} (B : Bi mg) (g1 : mg "MOST_NAMES" = some (.int 8 t1)) (g2 : mg "MOST_TEXT" = some (.int 20 t2)) (D1 : FnD P w K mg base "is_word" 1 (W_pred K fWord)) (D2 : FnD P w K mg base "are_unlike" 1 W_unl) (F : Fun K "are_own" "are_own" s_are_own f fd) : FnG P w K mg base 2 f fd ["thing"] (toSp K W_own) := by
  refine fn_dw F sc_are_own (fun ds m Q E h => ?_) (fun cdv A outer s H E gd ds m Q E' h => ?_)
  · obtain ⟨d, ws, rfl, _⟩ := h
    rfl
  · obtain ⟨d, ws, rfl, hsq, ho, q⟩ := h
    have hb1 := B.isinstance; have hb2 := B.len; have hb3 := B.all; have hb4 := B.list; have hb5 := B.tuple
    have hl := ho.len
    have hnd : decide (ws.map SX.S).Nodup = true := decide_eq_true (nodup_S ho.nd)
    rcases seq_lt hsq with rfl | rfl
    all_goals
      first | show LB _ _ [some (.lst (wsD ws)), none] m _ | show LB _ _ [some (.tup (wsD ws)), none] m _
      k_caughtNB
      refine c_isiT (Ts := ["list", "tuple"]) (b := true) rfl (by decide +kernel) ?_
      k_caughtNB
      rw [wsD_len, decide_eq_false (show ¬ (8 : Int) < ws.length by omega)]
      k_caughtNB
      k_subL
      first | (refine li_lst ?_; k_caughtNB; with_reducible show LcOk _ _ _ _ _ _ _ _ _) | (refine li_tup ?_; k_caughtNB)
      refine lc_mapS ws (fun l => Dt.str (SX.S l)) (fun l => Dt.bl true) gd (by rw [sizeLine_eq]; omega) (fun l hl2 s1 H1 C1 cl1 fp1 gd1 => ?_) ?_
      · obtain ⟨h1, h2, h3⟩ := ho.sg l hl2
        k_caughtNB
        refine ⟨_, rfl, ⟨rfl, by show (SX.S l).length ≤ 100000; rw [SX.S_len]; omega⟩, ?_⟩
        have hw : fWord (.str (SX.S l)) = true := by
          rw [word_S, Bool.and_eq_true]
          exact ⟨decide_eq_true (by omega), List.all_eq_true.mpr fun c hc => decide_eq_true (show 32 ≤ c ∧ c ≤ 126 from h3 c hc)⟩
        rw [hw]
        k_caughtNB
        refine c_lenS (by rw [sizeLine_eq]; omega) ?_
        k_caughtNB
        rw [decide_eq_true (show (1 : Int) ≤ l.length by omega)]
        k_caughtNB
        rw [decide_eq_true (show (l.length : Int) ≤ 20 by omega)]
        exact ⟨rfl, rfl⟩
      k_caughtNB
      rw [show (ws.all fun c => true) = true by simp]
      k_caughtNB
      rw [wsD_strs]
      first
        | exact ⟨ws.map SX.S, _, rfl, .inl rfl, by rw [List.length_map]; omega, by rw [hnd]; exact q⟩
        | exact ⟨ws.map SX.S, _, rfl, .inr rfl, by rw [List.length_map]; omega, by rw [hnd]; exact q⟩
theorem ok_need {f : Addr} {fd : FuncData} (D1 : FnD P w K mg base "is_kind" 2 (W_kind K)) (D2 : FnD P w K mg base "are_own" 2 W_own) (F : Fun K "need_kind" "need_kind" s_need_kind f fd) : FnG P w K mg base 3 f fd ["kind", "own"] (toSp K W_need) := by
  refine fn_dw F sc_need_kind (fun ds m Q E h => ?_) (fun cdv A outer s H E gd ds m Q E' h => ?_)
  · obtain ⟨k, o, ws, rfl, _⟩ := h
    rfl
  · obtain ⟨k, o, ws, rfl, hk, hsq, ho, q⟩ := h
    show LB _ _ [some k.d, some o] m _
    k_caughtNB
    refine ⟨_, rfl, k.tk hk, ?_⟩
    rw [k.kind hk]
    k_caughtNB
    refine ⟨o, ws, rfl, hsq, ho, ?_⟩
    k_caughtNB
    exact q
end
def W_fits (K : PySem.W.Frag) : Spd := fun ds m F E => ∃ k d o ws, ds = [Kd.d k, d, o] ∧ k.ok ∧ Th K d ∧ seqOf o = some (wsD ws) ∧ F (.bl (fFits k d ws)) m
section
variable {P : Program} {w : World} {K : PySem.W.Frag} {mg : Str → Option Value} {base : Heap}
theorem ok_fits {f : Addr} {fd : FuncData} (B : Bi mg) (D1 : FnD P w K mg base "is_whole" 1 (W_whole K)) (D2 : FnD P w K mg base "is_name" 1 (W_pred K fName)) (D3 : FnD P w K mg base "is_word" 1 (W_pred K fWord)) (F : Fun K "fits" "fits" s_fits f fd) : FnG P w K mg base 2 f fd ["kind", "thing", "own"] (toSp K (W_fits K)) := by
  refine fn_dw F sc_fits (fun ds m Q E h => ?_) (fun cdv A outer s H E gd ds m Q E' h => ?_)
  · obtain ⟨k, d, o, ws, rfl, _⟩ := h
    rfl
  · obtain ⟨k, d, o, ws, rfl, hk, ht, hsq, q⟩ := h
    have hb1 := B.isinstance; have hb2 := B.str; have hb3 := B.len
    have ht1 := ht.1
    cases k with
    | num lo hi =>
      show LB _ _ [some (.tup [.str "number", .int lo, .int hi]), some d, some o, none] m _
      k_caughtNB
      exact ⟨d, lo, hi, rfl, ht, q⟩
    | one ys =>
      show LB _ _ [some (.tup [.str "one", .tup (wsD ys)]), some d, some o, none] m _
      k_caughtNB
      rcases str_or d with ⟨l, rfl⟩ | hs
      · k_caughtNB
        rw [wsD_strs]
        refine o_inT ?_
        exact q
      · rw [hs]
        k_caughtNB
        have e : fFits (.one ys) d ws = false := by
          show inW d ys = false
          cases d <;> first | rfl | (cases hs; done)
        rw [e] at q
        exact q
    | nam =>
      show LB _ _ [some (.tup [.str "name"]), some d, some o, none] m _
      k_caughtNB
      exact ⟨d, rfl, ht, q⟩
    | txt n =>
      show LB _ _ [some (.tup [.str "text", .int n]), some d, some o, none] m _
      k_caughtNB
      refine ⟨d, rfl, ht, ?_⟩
      cases hw : fWord d with
      | false =>
        k_caughtNB
        have e : fFits (.txt n) d ws = false := by
          show (fWord d && _) = false
          rw [hw]
          rfl
        rw [e] at q
        exact q
      | true =>
        rcases str_or d with ⟨l, rfl⟩ | hs
        · k_caughtNB
          have h40 : l.length ≤ 40 := by
            rw [word_S, Bool.and_eq_true] at hw
            exact of_decide_eq_true hw.1
          refine c_lenS (by rw [sizeLine_eq]; omega) ?_
          k_caughtNB
          have e : fFits (.txt n) (.str (SX.S l)) ws = decide ((l.length : Int) ≤ n) := by
            show (fWord _ && decide (((SX.S l).length : Int) ≤ n)) = _
            rw [hw, SX.S_len]
            rfl
          rw [e] at q
          exact q
        · rw [word_no hs] at hw
          cases hw
    | own nm =>
      show LB _ _ [some (.tup [.str "own", .str (SX.S nm)]), some d, some o, none] m _
      k_caughtNB
      rcases str_or d with ⟨l, rfl⟩ | hs
      · k_caughtNB
        rcases seq_lt hsq with rfl | rfl
        · rw [wsD_strs]
          refine o_inL ?_
          exact q
        · rw [wsD_strs]
          refine o_inT ?_
          exact q
      · rw [hs]
        k_caughtNB
        have e : fFits (.own nm) d ws = false := by
          show inW d ws = false
          cases d <;> first | rfl | (cases hs; done)
        rw [e] at q
        exact q
end
/-! ### worths, words -/
def vin : Kd → Dt → Dt
  | .num _ _, d => nin d
  | _, d => d
def wrt (k : Kd) (d : Dt) (ws : List (List Nat)) : Dt := if fFits k (vin k d) ws = true then vin k d else .non
section
variable {X : Cx} {c a b : Expr} {r : En} {m : Mu} {F : Pd} {E : Xd} {pos : Pos}
theorem le_ifeP (k : Bool) (ht : LT X c r m (fun k' m1 => k' = k ∧ m1 = m) E) (h1 : k = true → Dw.LE X a r m F E) (h2 : k = false → Dw.LE X b r m F E) : Dw.LE X (.IfExp c a b pos) r m F E := by
  refine le_ife ⟨fun Z g H Q W rp tk nk nx => ht.run Z g H Q W rp tk (fun k' H' m' q go so => nk k' H' m' ?_ go so) nx⟩
  obtain ⟨rfl, rfl⟩ := q
  cases k' with
  | true => exact itT (h1 rfl)
  | false => exact itF (h2 rfl)
end
def W_wrt (K : PySem.W.Frag) : Spd := fun ds m F E => ∃ k d o ws, ds = [Kd.d k, d, o] ∧ k.ok ∧ Th K d ∧ (∀ x, d = .str x → x.length ≤ 640) ∧ seqOf o = some (wsD ws) ∧ Ow ws ∧ F (wrt k d ws) m
theorem nin_th {K : PySem.W.Frag} (d : Dt) : Th K (nin d) := by
  unfold nin
  cases d with
  | str x =>
    show Th K (oi (numOf x.cps.toList))
    cases numOf x.cps.toList <;> exact ⟨rfl, trivial⟩
  | _ => exact ⟨rfl, trivial⟩
theorem fits_io {k : Kd} {d : Dt} {ws : List (List Nat)} (h : fFits k d ws = true) : (∃ i, d = .int i ∧ ∃ lo hi, k = .num lo hi) ∨ ∃ l, d = .str (SX.S l) := by
  cases k with
  | num lo hi =>
    cases d <;> first | (cases h; done) | exact .inl ⟨_, rfl, lo, hi, rfl⟩
  | one ys => cases d <;> first | (cases h; done) | exact .inr ⟨_, congrArg Dt.str (SX.S_tl _).symm⟩
  | nam => cases d <;> first | (cases h; done) | exact .inr ⟨_, congrArg Dt.str (SX.S_tl _).symm⟩
  | txt n => cases d <;> first | (cases h; done) | exact .inr ⟨_, congrArg Dt.str (SX.S_tl _).symm⟩
  | own n => cases d <;> first | (cases h; done) | exact .inr ⟨_, congrArg Dt.str (SX.S_tl _).symm⟩
section
variable {P : Program} {w : World} {K : PySem.W.Frag} {mg : Str → Option Value} {base : Heap}
theorem ok_wrt {f : Addr} {fd : FuncData} (D1 : FnD P w K mg base "need_kind" 3 W_need) (D2 : FnD P w K mg base "fits" 2 (W_fits K)) (D3 : FnD P w K mg base "number_in" 1 (W_nin K)) (F : Fun K "worth_of" "worth_of" s_worth_of f fd) : FnG P w K mg base 4 f fd ["kind", "word", "own"] (toSp K (W_wrt K)) := by
  refine fn_dw F sc_worth_of (fun ds m Q E h => ?_) (fun cdv A outer s H E gd ds m Q E' h => ?_)
  · obtain ⟨k, d, o, ws, rfl, _⟩ := h
    rfl
  · obtain ⟨k, d, o, ws, rfl, hk, ht, hx, hsq, ho, q⟩ := h
    show LB _ _ [some k.d, some d, some o, none] m _
    refine lb_midP [some k.d, some d, some o, none] m ?_ ?_
    · k_caughtNB
      refine ⟨k, o, ws, rfl, hk, hsq, ho, ?_⟩
      k_caughtNB
      exact ⟨rfl, rfl⟩
    refine lb_midP [some k.d, some d, some o, some (vin k d)] m ?_ ?_
    · cases k with
      | num lo hi =>
        show LS _ _ [some (.tup [.str "number", .int lo, .int hi]), some d, some o, none] m _
        k_caughtNB
        refine ⟨d, rfl, ht.1, hx, ?_⟩
        exact ⟨rfl, rfl⟩
      | one ys =>
        show LS _ _ [some (.tup [.str "one", .tup (wsD ys)]), some d, some o, none] m _
        k_caughtNB
        exact ⟨rfl, rfl⟩
      | nam =>
        show LS _ _ [some (.tup [.str "name"]), some d, some o, none] m _
        k_caughtNB
        exact ⟨rfl, rfl⟩
      | txt n =>
        show LS _ _ [some (.tup [.str "text", .int n]), some d, some o, none] m _
        k_caughtNB
        exact ⟨rfl, rfl⟩
      | own nm =>
        show LS _ _ [some (.tup [.str "own", .str (SX.S nm)]), some d, some o, none] m _
        k_caughtNB
        exact ⟨rfl, rfl⟩
    have hth : Th K (vin k d) := by
      cases k <;> first | exact nin_th d | exact ht
    unfold wrt at q
    generalize vin k d = v at hth q
    k_caughtNB
    refine ⟨k, v, o, ws, rfl, hk, hth, hsq, ?_⟩
    cases hf : fFits k v ws with
    | false =>
      rw [if_neg (by rw [hf]; exact Bool.false_ne_true)] at q
      k_caughtNB
      exact q
    | true =>
      rw [if_pos hf] at q
      k_caughtNB
      exact q
end
section
variable {P : Program} {w : World} {K : PySem.W.Frag} {mg : Str → Option Value} {base : Heap}
theorem ok_letter {f : Addr} {fd : FuncData} (B : Bi mg) (D : FnD P w K mg base "is_name" 1 (W_pred K fName)) (F : Fun K "is_letter" "is_letter" s_is_letter f fd) : FnG P w K mg base 2 f fd ["thing"] (toSp K (W_pred K fLetter)) := by
  refine fn_dw F sc_is_letter (fun ds m Q E h => ?_) (fun cdv A outer s H E gd ds m Q E' h => ?_)
  · obtain ⟨d, rfl, _⟩ := h
    rfl
  · obtain ⟨d, rfl, ht, q⟩ := h
    have hb3 := B.len
    show LB _ _ [some d] m _
    k_caughtNB
    refine ⟨d, rfl, ht, ?_⟩
    refine ⟨_, rfl, ite2 (fun c => ?_) (fun c => ?_)⟩
    · rcases str_or d with ⟨l, rfl⟩ | h
      · have hz : l.length ≤ sizeLine := by have := ht.2; have e : (SX.S l).length ≤ 100000 := this; rw [SX.S_len] at e; exact Nat.le_trans e (by decide)
        k_caughtNB
        refine c_lenS hz ?_
        k_caughtNB
        have e : fLetter (.str (SX.S l)) = decide ((l.length : Int) = 1) := by
          unfold fLetter
          rw [c, Bool.true_and]
          exact decide_eq_decide.mpr ⟨fun h => by have h : l.length = 1 := h; omega, fun h => by show l.length = 1; omega⟩
        rw [e] at q
        exact q
      · rw [name_no h] at c; cases c
    · have e : fLetter d = false := by unfold fLetter; rw [Bool.eq_false_iff.mpr c, Bool.false_and]
      rw [e] at q
      rw [Bool.eq_false_iff.mpr c]
      exact q
end
/-! ### forms: places -/
def TS : List Str := ["one", "maybe", "rest", "some"]
structure Plc where
  nm : List Nat
  k : Kd
  t : Nat
def Plc.d (p : Plc) : Dt := .tup [.str (SX.S p.nm), p.k.d, .str (TS.getD p.t "one")]
structure Plc.ok (p : Plc) : Prop where
  n : Nl p.nm
  k : p.k.ok
  t : p.t < 4
def W_ispl : Spd := fun ds m F E => ∃ p : Plc, ds = [p.d] ∧ p.ok ∧ F (.bl true) m
structure PlsOk (ps : List Plc) : Prop where
  all : ∀ p ∈ ps, p.ok
  len : ps.length ≤ 4
  ord : (ps.map fun p => (p.t : Int)).Pairwise (· ≤ ·)
  few : ((ps.map fun p => (p.t : Int)).filter fun i => decide (1 < i)).length ≤ 1
  not : ¬ (1 ∈ (ps.map fun p => (p.t : Int)) ∧ 3 ∈ (ps.map fun p => (p.t : Int)))
def W_arpl : Spd := fun ds m F E => ∃ ps : List Plc, ds = [.tup (ps.map Plc.d)] ∧ PlsOk ps ∧ F (.bl true) m
theorem Nl.th {K : PySem.W.Frag} {l : List Nat} (h : Nl l) : Th K (.str (SX.S l)) := (h.sm (k := 5)).th (by decide)
theorem ts_in : ∀ t, t < 4 → TS.getD t "one" ∈ TS
  | 0, _ => by decide
  | 1, _ => by decide
  | 2, _ => by decide
  | 3, _ => by decide
theorem ts_at : ∀ t, t < 4 → TS[t]? = some (TS.getD t "one") ∧ ∀ i, i < t → TS[i]? ≠ some (TS.getD t "one")
  | 0, _ => by decide
  | 1, _ => by decide
  | 2, _ => by decide
  | 3, _ => by decide
theorem ints_lay : ∀ ns : List Int, PyData.canLayAll0 (pys (ns.map Dt.int)) = true ∧ PyData.depthAll (pys (ns.map Dt.int)) = 0
  | [] => ⟨rfl, rfl⟩
  | a :: t => by
    have := ints_lay t
    constructor
    · simp only [List.map_cons, pys, PyData.canLayAll0, this.1, Bool.and_true]
      simp [py, PyData.canLay0]
    · simp only [List.map_cons, pys, PyData.depthAll, this.2]
      simp [py, PyData.depth]
theorem ints_eqvA : ∀ ns : List Int, PyData.eqvAll (pys (ns.map Dt.int)) (pys (ns.map Dt.int)) = true
  | [] => rfl
  | a :: t => by simp [pys, py, PyData.eqvAll, PyData.eqv, ints_eqvA t]
theorem ints_eqv (ns : List Int) : PyData.eqv (py (.lst (ns.map Dt.int))) (py (.lst (ns.map Dt.int))) = true := by
  simp only [py, PyData.eqv]
  exact ints_eqvA ns
theorem ints_plain : ∀ ns : List Int, plains (ns.map Dt.int) = true
  | [] => rfl
  | a :: t => ints_plain t
section
variable {P : Program} {w : World} {K : PySem.W.Frag} {mg : Str → Option Value} {base : Heap}
theorem ok_ispl {f : Addr} {fd : FuncData} {tT : Addr} (B : Bi mg) (g1 : mg "TIMES" = some (.ref tT)) (T1 : TupN K tT TS) (D1 : FnD P w K mg base "is_name" 1 (W_pred K fName)) (D2 : FnD P w K mg base "is_kind" 2 (W_kind K))
    (F : Fun K "is_place" "is_place" s_is_place f fd) : FnG P w K mg base 3 f fd ["thing"] (toSp K W_ispl) := by
  refine fn_dw F sc_is_place (fun ds m Q E h => ?_) (fun cdv A outer s H E gd ds m Q E' h => ?_)
  · obtain ⟨p, rfl, _⟩ := h
    rfl
  · obtain ⟨p, rfl, hp, q⟩ := h
    have hb1 := B.isinstance; have hb2 := B.str; have hb3 := B.len; have hb5 := B.tuple
    have T2 := T1.k
    show LB _ _ [some (.tup [.str (SX.S p.nm), p.k.d, .str (TS.getD p.t "one")])] m _
    k_caughtNB
    refine ⟨_, rfl, hp.n.th, ?_⟩
    rw [hp.n.name]
    k_caughtNB
    refine ⟨_, rfl, Kd.tk hp.k, ?_⟩
    rw [Kd.kind hp.k]
    k_caughtNB
    refine o_inT ?_
    rw [decide_eq_true (ts_in p.t hp.t)]
    exact q
theorem ok_arpl {f : Addr} {fd : FuncData} {tT : Addr} {t1 : Tok} (B : Bi mg) (g1 : mg "TIMES" = some (.ref tT)) (T1 : TupN K tT TS) (g2 : mg "MOST_PLACES" = some (.int 4 t1)) (D1 : FnD P w K mg base "is_place" 3 W_ispl)
    (F : Fun K "are_places" "are_places" s_are_places f fd) : FnG P w K mg base 4 f fd ["thing"] (toSp K W_arpl) := by
  refine fn_dw F sc_are_places (fun ds m Q E h => ?_) (fun cdv A outer s H E gd ds m Q E' h => ?_)
  · obtain ⟨p, rfl, _⟩ := h
    rfl
  · obtain ⟨ps, rfl, hp, q⟩ := h
    have hb1 := B.isinstance; have hb2 := B.sorted; have hb3 := B.len; have hb4 := B.all; have hb5 := B.tuple
    have hl := hp.len
    have hz : ps.length ≤ sizeLine := Nat.le_trans hl (by decide)
    show LB _ _ [some (.tup (ps.map Plc.d)), none, none, none] m _
    k_caughtNB
    have hlT : (ps.map Plc.d).length ≤ 4 := by rw [List.length_map]; exact hl
    rw [decide_eq_false (show ¬ (4 : Int) < (((ps.map Plc.d).length : Nat) : Int) by omega)]
    k_caughtNB
    k_subL
    refine li_tup ?_
    k_caughtNB
    refine lc_mapS ps Plc.d (fun _ => .bl true) gd hz (fun p hq s1 H1 C1 cl1 fp1 gd1 => ?_) ?_
    · k_caughtNB
      exact ⟨p, rfl, hp.all p hq, rfl, rfl⟩
    k_caughtNB
    rw [show (ps.all fun _ => true) = true from List.all_eq_true.mpr fun _ _ => rfl]
    k_caughtNB
    refine' ls_setlcD gd ?hs1 ?hs2 _ ?hli
    (case hs1 => tb_rel)
    (case hs2 => tb_rel)
    case' hli => skip
    refine li_tup ?_
    k_caughtNB
    refine lc_mapS ps Plc.d (fun p => .int (p.t : Nat)) gd hz (fun p hq s1 H1 C1 cl1 fp1 gd1 => ?_) ?_
    · have T2 := T1
      refine le_indexS g1 T1 ?_
      show LA _ _ [some (.tup (ps.map Plc.d)), some (.tup [.str (SX.S p.nm), p.k.d, .str (TS.getD p.t "one")]), none, none] m _ _
      k_caughtNB
      exact ⟨_, p.t, rfl, (ts_at p.t (hp.all p hq).t).1, (ts_at p.t (hp.all p hq).t).2, rfl, rfl⟩
    rw [show ps.map (fun p => Dt.int (p.t : Nat)) = (ps.map fun p => (p.t : Int)).map Dt.int by rw [List.map_map]; rfl]
    have ho := hp.ord
    have hf := hp.few
    have hn := hp.not
    have hl2 : (ps.map fun p => (p.t : Int)).length ≤ 4 := by rw [List.length_map]; exact hl
    have hb : ∀ i ∈ (ps.map fun p => (p.t : Int)), 0 ≤ i ∧ i < 4 := fun i hi => by
      obtain ⟨p, hq, rfl⟩ := List.mem_map.mp hi
      have := (hp.all p hq).t
      omega
    generalize (ps.map fun p => (p.t : Int)) = ns at ho hf hn hl2 hb
    k_caughtNB
    refine le_callB (x := "sorted") (id := "sorted") bt_sorted (by assumption) ?_
    k_caughtNB
    refine c_sortedI fun ns' pe so => ?_
    obtain rfl : ns' = ns := pe.eq_of_pairwise (fun a b _ _ h1 h2 => Int.le_antisymm h1 h2) so ho
    obtain ⟨l1, l2⟩ := ints_lay ns'
    have hsh : SeqAt.shaped (py (.lst (ns'.map Dt.int))) = true := by
      unfold SeqAt.shaped
      simp only [py, PyData.canLay0, PyData.depth, l1, l2]
      decide
    refine o_neD gd.room.units (ints_plain ns') (ints_plain ns') hsh hsh ?_
    rw [ints_eqv ns']
    k_caughtNB
    k_subL
    refine li_lst ?_
    k_caughtNB
    refine lc_filterS ns' Dt.int Dt.int (fun i => decide (1 < i)) gd (Nat.le_trans hl2 (by decide)) (fun i hi s1 H1 C1 cl1 fp1 gd1 => ?_) (fun i hi hq s1 H1 C1 cl1 fp1 gd1 => ?_) ?_
    · k_caughtNB
      exact ⟨rfl, rfl⟩
    · k_caughtNB
      exact ⟨rfl, rfl⟩
    k_caughtNB
    rw [decide_eq_false (show ¬ (1 : Int) < ((((ns'.filter fun i => decide (1 < i)).map Dt.int).length : Nat) : Int) by rw [List.length_map]; omega)]
    k_caughtNB
    refine o_inIL ?_
    by_cases h1 : (1 : Int) ∈ ns'
    · have h3 : ¬ (3 : Int) ∈ ns' := fun h3 => hn ⟨h1, h3⟩
      rw [decide_eq_true h1]
      k_caughtNB
      refine o_inIL ?_
      rw [decide_eq_false h3]
      k_caughtNB
      exact q
    · rw [decide_eq_false h1]
      k_caughtNB
      exact q
end
/-! ### forms: options, groups -/
def FS : List Str := ["flag", "count", "one", "many"]
structure Opt where
  nm : List Nat
  sh : Option (List Nat)
  fm : Nat
  k : Option Kd
  df : Dt
  nd : Bool
  src : Option (List Nat)
def oS : Option (List Nat) → Dt
  | none => .non
  | some l => .str (SX.S l)
def oK : Option Kd → Dt
  | none => .non
  | some k => k.d
def Opt.d (o : Opt) : Dt := .tup [.str (SX.S o.nm), oS o.sh, .str (FS.getD o.fm "flag"), oK o.k, o.df, .bl o.nd, oS o.src]
structure Opt.ok (o : Opt) : Prop where
  n : Nl o.nm
  n2 : 2 ≤ o.nm.length
  sh : ∀ l, o.sh = some l → Nl l ∧ l.length = 1
  fm : o.fm < 4
  k1 : o.fm < 2 → o.k = none
  k2 : 2 ≤ o.fm → ∃ k, o.k = some k ∧ k.ok
  nd : o.nd = true → o.fm = 2 ∧ o.df = .non
  src : ∀ l, o.src = some l → Nl l
def W_isop : Spd := fun ds m F E => ∃ o : Opt, ds = [o.d] ∧ o.ok ∧ F (.bl true) m
theorem Nl.letter {l : List Nat} (h : Nl l) (h1 : l.length = 1) : fLetter (.str (SX.S l)) = true := by
  unfold fLetter
  rw [h.name, Bool.true_and]
  exact decide_eq_true h1
theorem fs_in : ∀ t, t < 4 → FS.getD t "flag" ∈ FS
  | 0, _ => by decide
  | 1, _ => by decide
  | 2, _ => by decide
  | 3, _ => by decide
section
variable {P : Program} {w : World} {K : PySem.W.Frag} {mg : Str → Option Value} {base : Heap}
theorem ok_isop {f : Addr} {fd : FuncData} {tF : Addr} (B : Bi mg) (g1 : mg "FORMS" = some (.ref tF)) (T1 : TupK K tF FS) (D1 : FnD P w K mg base "is_name" 1 (W_pred K fName)) (D3 : FnD P w K mg base "is_letter" 2 (W_pred K fLetter)) (D2 : FnD P w K mg base "is_kind" 2 (W_kind K))
    (F : Fun K "is_option" "is_option" s_is_option f fd) : FnG P w K mg base 3 f fd ["thing"] (toSp K W_isop) := by
  refine fn_dw F sc_is_option (fun ds m Q E h => ?_) (fun cdv A outer s H E gd ds m Q E' h => ?_)
  · obtain ⟨p, rfl, _⟩ := h
    rfl
  · obtain ⟨o, rfl, hp, q⟩ := h
    have hb1 := B.isinstance; have hb2 := B.str; have hb3 := B.len; have hb4 := B.bool; have hb5 := B.tuple
    have hz : o.nm.length ≤ sizeLine := Nat.le_trans hp.n.hi (by decide)
    show LB _ _ [some (.tup [.str (SX.S o.nm), oS o.sh, .str (FS.getD o.fm "flag"), oK o.k, o.df, .bl o.nd, oS o.src]), none, none, none, none, none, none, none] m _
    refine lb_midP [some (.tup [.str (SX.S o.nm), oS o.sh, .str (FS.getD o.fm "flag"), oK o.k, o.df, .bl o.nd, oS o.src]), none, none, none, none, none, none, none] m ?_ ?_
    · k_caughtNB
      exact ⟨rfl, rfl⟩
    refine lb_midP [some (.tup [.str (SX.S o.nm), oS o.sh, .str (FS.getD o.fm "flag"), oK o.k, o.df, .bl o.nd, oS o.src]), some (.str (SX.S o.nm)), some (oS o.sh), some (.str (FS.getD o.fm "flag")), some (oK o.k), some o.df, some (.bl o.nd), some (oS o.src)] m ?_ ?_
    · k_caughtNB
      exact ⟨rfl, rfl⟩
    generalize hd : Dt.tup [.str (SX.S o.nm), oS o.sh, .str (FS.getD o.fm "flag"), oK o.k, o.df, .bl o.nd, oS o.src] = dd
    refine lb_midP [some dd, some (.str (SX.S o.nm)), some (oS o.sh), some (.str (FS.getD o.fm "flag")), some (oK o.k), some o.df, some (.bl o.nd), some (oS o.src)] m ?_ ?_
    · k_caughtNB
      refine ⟨_, rfl, hp.n.th, ?_⟩
      rw [hp.n.name]
      k_caughtNB
      refine c_lenS hz ?_
      k_caughtNB
      rw [decide_eq_false (show ¬ ((o.nm.length : Nat) : Int) < 2 by have := hp.n2; omega)]
      cases hs : o.sh with
      | none =>
        show LW _ _ _ _ _ _
        unfold oS
        k_caughtNB
        exact ⟨rfl, rfl⟩
      | some l =>
        obtain ⟨n1, n2⟩ := hp.sh l hs
        unfold oS
        k_caughtNB
        refine ⟨_, rfl, n1.th, ?_⟩
        rw [n1.letter n2]
        k_caughtNB
        exact ⟨rfl, rfl⟩
    refine lb_midP [some dd, some (.str (SX.S o.nm)), some (oS o.sh), some (.str (FS.getD o.fm "flag")), some (oK o.k), some o.df, some (.bl o.nd), some (oS o.src)] m ?_ ?_
    · k_caughtNB
      refine o_notInT ?_
      rw [decide_eq_true (fs_in o.fm hp.fm)]
      k_caughtNB
      exact ⟨rfl, rfl⟩
    refine lb_midP [some dd, some (.str (SX.S o.nm)), some (oS o.sh), some (.str (FS.getD o.fm "flag")), some (oK o.k), some o.df, some (.bl o.nd), some (oS o.src)] m ?_ ?_
    · have h4 := hp.fm
      by_cases h2 : 2 ≤ o.fm
      · obtain ⟨k, ek, hk⟩ := hp.k2 h2
        rw [ek]
        have ef : FS.getD o.fm "flag" = "one" ∨ FS.getD o.fm "flag" = "many" := by
          obtain e | e : o.fm = 2 ∨ o.fm = 3 := by omega
          · exact .inl (by rw [e]; rfl)
          · exact .inr (by rw [e]; rfl)
        generalize FS.getD o.fm "flag" = fm at ef
        unfold oK
        k_caughtNB
        refine lt_ife ?_
        k_caughtNB
        refine o_inT (ys := ["one", "many"]) ?_
        rw [decide_eq_true (show fm ∈ (["one", "many"] : List Str) by rcases ef with rfl | rfl <;> decide)]
        k_caughtNB
        refine ⟨_, rfl, Kd.tk hk, ?_⟩
        rw [Kd.kind hk]
        k_caughtNB
        exact ⟨rfl, rfl⟩
      · rw [hp.k1 (by omega)]
        have ef : FS.getD o.fm "flag" = "flag" ∨ FS.getD o.fm "flag" = "count" := by
          obtain e | e : o.fm = 0 ∨ o.fm = 1 := by omega
          · exact .inl (by rw [e]; rfl)
          · exact .inr (by rw [e]; rfl)
        generalize FS.getD o.fm "flag" = fm at ef
        unfold oK
        k_caughtNB
        refine lt_ife ?_
        k_caughtNB
        refine o_inT (ys := ["one", "many"]) ?_
        rw [decide_eq_false (show ¬ fm ∈ (["one", "many"] : List Str) by rcases ef with rfl | rfl <;> decide)]
        k_caughtNB
        exact ⟨rfl, rfl⟩
    refine lb_midP [some dd, some (.str (SX.S o.nm)), some (oS o.sh), some (.str (FS.getD o.fm "flag")), some (oK o.k), some o.df, some (.bl o.nd), some (oS o.src)] m ?_ ?_
    · cases hn : o.nd with
      | false =>
        k_caughtNB
        exact ⟨rfl, rfl⟩
      | true =>
        obtain ⟨e1, e2⟩ := hp.nd hn
        rw [e1, e2]
        show LS _ _ [some dd, some (.str (SX.S o.nm)), some (oS o.sh), some (.str "one"), some (oK o.k), some .non, some (.bl true), some (oS o.src)] m _
        k_caughtNB
        exact ⟨rfl, rfl⟩
    cases hs : o.src with
    | none =>
      unfold oS
      k_caughtNB
      exact q
    | some l =>
      have n1 := hp.src l hs
      unfold oS
      k_caughtNB
      refine ⟨_, rfl, n1.th, ?_⟩
      rw [n1.name]
      exact q
end
/-! ### forms: groups, commands -/
def GS : List Str := ["just", "most", "with", "needs"]
structure Grp where
  wd : Nat
  ms : List (List Nat)
def Grp.d (g : Grp) : Dt := .tup [.str (GS.getD g.wd "just"), .tup (wsD g.ms)]
structure Grp.ok (g : Grp) : Prop where
  wd : g.wd < 4
  lo : 2 ≤ g.ms.length
  hi : g.ms.length ≤ 6
  n : ∀ l ∈ g.ms, Nl l
  u : g.ms.Nodup
def W_isgr : Spd := fun ds m F E => ∃ g : Grp, ds = [g.d] ∧ g.ok ∧ F (.bl true) m
/-- a command; what stands beneath is any thing -/
structure Cmd where
  nm : List Nat
  os : List Opt
  ps : List Plc
  gs : List Grp
  cs : List Dt
def Cmd.d (c : Cmd) : Dt := .tup [.str (SX.S c.nm), .tup (c.os.map Opt.d), .tup (c.ps.map Plc.d), .tup (c.gs.map Grp.d), .tup c.cs]
structure Cmd.ok (c : Cmd) : Prop where
  n : Nl c.nm
  os : ∀ o ∈ c.os, o.ok
  ol : c.os.length ≤ 6
  ps : PlsOk c.ps
  gs : ∀ g ∈ c.gs, g.ok
  gl : c.gs.length ≤ 4
  cl : c.cs.length ≤ 6
  cp : c.cs = [] ∨ c.ps = [] ∧ plains c.cs = true ∧ SeqAt.shaped (py (.tup c.cs)) = true
def W_iscm : Spd := fun ds m F E => ∃ c : Cmd, ds = [c.d] ∧ c.ok ∧ F (.bl true) m
theorem gs_in : ∀ t, t < 4 → GS.getD t "just" ∈ GS
  | 0, _ => by decide
  | 1, _ => by decide
  | 2, _ => by decide
  | 3, _ => by decide
section
variable {P : Program} {w : World} {K : PySem.W.Frag} {mg : Str → Option Value} {base : Heap}
theorem ok_isgr {f : Addr} {fd : FuncData} {tG : Addr} {t1 : Tok} (B : Bi mg) (g1 : mg "GROUPS" = some (.ref tG)) (T1 : TupK K tG GS) (g2 : mg "MOST_MEMBERS" = some (.int 6 t1)) (D1 : FnD P w K mg base "is_name" 1 (W_pred K fName)) (D2 : FnD P w K mg base "are_unlike" 1 W_unl)
    (F : Fun K "is_group" "is_group" s_is_group f fd) : FnG P w K mg base 2 f fd ["thing"] (toSp K W_isgr) := by
  refine fn_dw F sc_is_group (fun ds m Q E h => ?_) (fun cdv A outer s H E gd ds m Q E' h => ?_)
  · obtain ⟨p, rfl, _⟩ := h
    rfl
  · obtain ⟨g, rfl, hp, q⟩ := h
    have hb1 := B.isinstance; have hb2 := B.str; have hb3 := B.len; have hb4 := B.all; have hb5 := B.tuple
    have hl1 := hp.lo
    have hl2 := hp.hi
    have hz : g.ms.length ≤ sizeLine := Nat.le_trans hl2 (by decide)
    show LB _ _ [some (.tup [.str (GS.getD g.wd "just"), .tup (wsD g.ms)]), none] m _
    refine lb_midP [some (.tup [.str (GS.getD g.wd "just"), .tup (wsD g.ms)]), none] m ?_ ?_
    · k_caughtNB
      refine o_notInT ?_
      rw [decide_eq_true (gs_in g.wd hp.wd)]
      k_caughtNB
      exact ⟨rfl, rfl⟩
    refine lb_midP [some (.tup [.str (GS.getD g.wd "just"), .tup (wsD g.ms)]), none] m ?_ ?_
    · k_caughtNB
      rw [decide_eq_true (show (2 : Int) ≤ (((wsD g.ms).length : Nat) : Int) by rw [wsD_len]; omega)]
      k_caughtNB
      rw [decide_eq_true (show (((wsD g.ms).length : Nat) : Int) ≤ 6 by rw [wsD_len]; omega)]
      k_caughtNB
      exact ⟨rfl, rfl⟩
    k_caughtNB
    k_subL
    refine li_tup ?_
    k_caughtNB
    refine lc_mapS g.ms (fun l => Dt.str (SX.S l)) (fun _ => .bl true) gd hz (fun p hq s1 H1 C1 cl1 fp1 gd1 => ?_) ?_
    · k_caughtNB
      refine ⟨_, rfl, (hp.n p hq).th, ?_⟩
      rw [(hp.n p hq).name]
      exact ⟨rfl, rfl⟩
    k_caughtNB
    rw [show (g.ms.all fun _ => true) = true from List.all_eq_true.mpr fun _ _ => rfl]
    k_caughtNB
    refine ⟨g.ms.map SX.S, _, rfl, .inr (by rw [wsD_strs]), by rw [List.length_map]; omega, ?_⟩
    rw [decide_eq_true (nodup_S hp.u)]
    exact q
theorem ok_iscm {f : Addr} {fd : FuncData} {t1 t2 t3 : Tok} (B : Bi mg) (g1 : mg "MOST_OPTIONS" = some (.int 6 t1)) (g2 : mg "MOST_GROUPS" = some (.int 4 t2)) (g3 : mg "MOST_BENEATH" = some (.int 6 t3)) (D1 : FnD P w K mg base "is_name" 1 (W_pred K fName)) (D2 : FnD P w K mg base "are_places" 4 W_arpl)
    (D3 : FnD P w K mg base "is_option" 3 W_isop) (D4 : FnD P w K mg base "is_group" 2 W_isgr) (F : Fun K "is_command" "is_command" s_is_command f fd) : FnG P w K mg base 5 f fd ["thing"] (toSp K W_iscm) := by
  refine fn_dw F sc_is_command (fun ds m Q E h => ?_) (fun cdv A outer s H E gd ds m Q E' h => ?_)
  · obtain ⟨p, rfl, _⟩ := h
    rfl
  · obtain ⟨c, rfl, hp, q⟩ := h
    have hb1 := B.isinstance; have hb3 := B.len; have hb4 := B.all; have hb5 := B.tuple
    have ho := hp.ol
    have hg := hp.gl
    have hc := hp.cl
    have hlo : (c.os.map Opt.d).length ≤ 6 := by rw [List.length_map]; exact ho
    have hlg : (c.gs.map Grp.d).length ≤ 4 := by rw [List.length_map]; exact hg
    show LB _ _ [some (.tup [.str (SX.S c.nm), .tup (c.os.map Opt.d), .tup (c.ps.map Plc.d), .tup (c.gs.map Grp.d), .tup c.cs]), none, none, none, none, none, none] m _
    refine lb_midP [some (.tup [.str (SX.S c.nm), .tup (c.os.map Opt.d), .tup (c.ps.map Plc.d), .tup (c.gs.map Grp.d), .tup c.cs]), none, none, none, none, none, none] m ?_ ?_
    · k_caughtNB
      refine ⟨_, rfl, hp.n.th, ?_⟩
      rw [hp.n.name]
      k_caughtNB
      refine ⟨c.ps, rfl, hp.ps, ?_⟩
      k_caughtNB
      exact ⟨rfl, rfl⟩
    refine lb_midP [some (.tup [.str (SX.S c.nm), .tup (c.os.map Opt.d), .tup (c.ps.map Plc.d), .tup (c.gs.map Grp.d), .tup c.cs]), some (.str (SX.S c.nm)), some (.tup (c.os.map Opt.d)), some (.tup (c.ps.map Plc.d)), some (.tup (c.gs.map Grp.d)), some (.tup c.cs), none] m ?_ ?_
    · k_caughtNB
      exact ⟨rfl, rfl⟩
    generalize Dt.tup [.str (SX.S c.nm), .tup (c.os.map Opt.d), .tup (c.ps.map Plc.d), .tup (c.gs.map Grp.d), .tup c.cs] = dd
    refine lb_midP [some dd, some (.str (SX.S c.nm)), some (.tup (c.os.map Opt.d)), some (.tup (c.ps.map Plc.d)), some (.tup (c.gs.map Grp.d)), some (.tup c.cs), none] m ?_ ?_
    · k_caughtNB
      rw [decide_eq_false (show ¬ (6 : Int) < (((c.os.map Opt.d).length : Nat) : Int) by omega)]
      k_caughtNB
      exact ⟨rfl, rfl⟩
    refine lb_midP [some dd, some (.str (SX.S c.nm)), some (.tup (c.os.map Opt.d)), some (.tup (c.ps.map Plc.d)), some (.tup (c.gs.map Grp.d)), some (.tup c.cs), none] m ?_ ?_
    · k_caughtNB
      rw [decide_eq_false (show ¬ (4 : Int) < (((c.gs.map Grp.d).length : Nat) : Int) by omega)]
      k_caughtNB
      exact ⟨rfl, rfl⟩
    refine lb_midP [some dd, some (.str (SX.S c.nm)), some (.tup (c.os.map Opt.d)), some (.tup (c.ps.map Plc.d)), some (.tup (c.gs.map Grp.d)), some (.tup c.cs), none] m ?_ ?_
    · have cp := hp.cp
      generalize c.cs = cs at cp hc
      generalize c.ps = ps at cp
      k_caughtNB
      rw [decide_eq_false (show ¬ (6 : Int) < ((cs.length : Nat) : Int) by omega)]
      rcases cp with rfl | ⟨rfl, h1, h2⟩
      · k_caughtNB
        refine o_neD gd.room.units rfl rfl (by decide +kernel) (by decide +kernel) ?_
        rw [show PyData.eqv (py (.tup [])) (py (.tup [])) = true from rfl]
        k_caughtNB
        exact ⟨rfl, rfl⟩
      · k_caughtNB
        refine o_neD gd.room.units h1 rfl h2 (by decide +kernel) ?_
        cases hb : !PyData.eqv (py (.tup cs)) (py (.tup [])) with
        | false =>
          k_caughtNB
          exact ⟨rfl, rfl⟩
        | true =>
          k_caughtNB
          refine o_neD gd.room.units rfl rfl (by decide +kernel) (by decide +kernel) ?_
          rw [show PyData.eqv (py (.tup (List.map Plc.d []))) (py (.tup [])) = true from rfl]
          k_caughtNB
          exact ⟨rfl, rfl⟩
    k_caughtNB
    k_subL
    refine li_tup ?_
    k_caughtNB
    refine lc_mapS c.os Opt.d (fun _ => .bl true) gd (Nat.le_trans ho (by decide)) (fun o hq s1 H1 C1 cl1 fp1 gd1 => ?_) ?_
    · k_caughtNB
      exact ⟨o, rfl, hp.os o hq, rfl, rfl⟩
    k_caughtNB
    rw [show (c.os.all fun _ => true) = true from List.all_eq_true.mpr fun _ _ => rfl]
    k_caughtNB
    k_subL
    refine li_tup ?_
    k_caughtNB
    refine lc_mapS c.gs Grp.d (fun _ => .bl true) gd (Nat.le_trans hg (by decide)) (fun o hq s1 H1 C1 cl1 fp1 gd1 => ?_) ?_
    · k_caughtNB
      exact ⟨o, rfl, hp.gs o hq, rfl, rfl⟩
    k_caughtNB
    rw [show (c.gs.all fun _ => true) = true from List.all_eq_true.mpr fun _ _ => rfl]
    exact q
end
/-! ### forms: names that stand twice, names beneath, kinds, groups of no option -/
def W_twice : Spd := fun ds m F E => ∃ ns : List (List Nat), ds = [.lst (wsD ns)] ∧ ns.Nodup ∧ ns.length ≤ 100 ∧ F (.lst []) m
theorem nodup_take {α : Type} {ns : List α} (h : ns.Nodup) {i : Nat} {a : α} (e : ns[i]? = some a) : a ∉ ns.take i := fun hm => by
  obtain ⟨j, hj⟩ := List.getElem?_of_mem hm
  rw [List.getElem?_take] at hj
  split at hj
  · rename_i hlt
    obtain ⟨l1, e1⟩ := List.getElem?_eq_some_iff.mp e
    obtain ⟨l2, e2⟩ := List.getElem?_eq_some_iff.mp hj
    have := (List.getElem_inj h (h₀ := l1) (h₁ := l2)).mp (by rw [e1, e2])
    omega
  · cases hj
theorem enumD_ws (ns : List (List Nat)) : enumD (wsD ns) = (ns.mapIdx fun i l => (i, l)).map fun a => Dt.tup [.int (a.1 : Nat), .str (SX.S a.2)] := by
  unfold enumD wsD
  apply List.ext_getElem?
  intro k
  simp only [List.getElem?_mapIdx, List.getElem?_map]
  cases ns[k]? <;> rfl
section
variable {P : Program} {w : World} {K : PySem.W.Frag} {mg : Str → Option Value} {base : Heap}
theorem ok_twice {f : Addr} {fd : FuncData} (B : Bi mg) (F : Fun K "first_twice" "first_twice" s_first_twice f fd) : FnG P w K mg base 1 f fd ["names"] (toSp K W_twice) := by
  refine fn_dw F sc_first_twice (fun ds m Q E h => ?_) (fun cdv A outer s H E gd ds m Q E' h => ?_)
  · obtain ⟨p, rfl, _⟩ := h
    rfl
  · obtain ⟨ns, rfl, hu, hl, q⟩ := h
    have hb1 := B.enumerate
    show LB _ _ [some (.lst (wsD ns)), none, none] m _
    k_caughtNB
    refine le_sl_lst ?_
    refine' le_lcP (defScope s_first_twice) 2 1 gd rfl rfl (by decide) _ ?hli
    case' hli => skip
    refine li_enum hb1 ?_
    k_caughtNB
    rw [enumD_ws]
    refine ⟨fun d hd => ?_, ?_⟩
    · obtain ⟨a, _, rfl⟩ := List.mem_map.mp hd
      exact ⟨_, _, rfl⟩
    refine lc_filterS (ns.mapIdx fun i l => (i, l)) (fun a => Dt.tup [.int (a.1 : Nat), .str (SX.S a.2)]) (fun a => .str (SX.S a.2)) (fun _ => false) gd (by rw [List.length_mapIdx]; exact Nat.le_trans hl (by decide)) (fun a ha s1 H1 C1 cl1 fp1 gd1 => ?_) (fun a ha hq s1 H1 C1 cl1 fp1 gd1 => by cases hq) ?_
    · obtain ⟨i, l⟩ := a
      have hn : ns[i]? = some l := by
        obtain ⟨j, hj, e⟩ := List.mem_mapIdx.mp ha
        cases e
        exact List.getElem?_eq_getElem hj
      show LT _ _ [some (.lst (wsD ns)), some (.str (SX.S l)), some (.int (i : Nat))] m _ _
      k_caughtNB
      refine le_sl_lst ?_
      k_caughtNB
      rw [cutD_to (by omega), wsD_strs, ← List.map_take]
      refine o_inL ?_
      rw [decide_eq_false (show ¬ SX.S l ∈ (ns.map SX.S).take (Int.toNat (i : Nat)) by
        rw [Int.toNat_natCast, ← List.map_take]
        intro hm
        obtain ⟨y, hy, e⟩ := List.mem_map.mp hm
        rw [SX.S_inj e] at hy
        exact nodup_take hu hn hy)]
      k_caughtNB
      exact ⟨rfl, rfl⟩
    rw [show ((ns.mapIdx fun i l => (i, l)).filter fun _ => false) = [] from List.filter_eq_nil_iff.mpr fun _ _ => Bool.false_ne_true]
    k_caughtNB
    exact q
end
/-! ### forms: kinds, groups of no option -/
theorem at3 {α : Type} {a b c d : α} {ds : List α} : atI (a :: b :: c :: d :: ds) 3 = some d := atI_nat (j := 3) rfl
theorem at4 {α : Type} {a b c d e : α} {ds : List α} : atI (a :: b :: c :: d :: e :: ds) 4 = some e := atI_nat (j := 4) rfl
/-- the kinds of a command's options, then places -/
def Cmd.ks (c : Cmd) : List Dt := ((c.os.filter fun o => o.k.isSome).map fun o => oK o.k) ++ c.ps.map fun p => p.k.d
def W_kinds : Spd := fun ds m F E => ∃ c : Cmd, ds = [c.d] ∧ c.ok ∧ F (.lst c.ks) m
theorem oK_non {k : Option Kd} : isNon (oK k) = !k.isSome := by
  cases k with
  | none => rfl
  | some k => cases k <;> rfl
section
variable {P : Program} {w : World} {K : PySem.W.Frag} {mg : Str → Option Value} {base : Heap}
theorem ok_kinds {f : Addr} {fd : FuncData} (F : Fun K "kinds_of" "kinds_of" s_kinds_of f fd) : FnG P w K mg base 1 f fd ["command"] (toSp K W_kinds) := by
  refine fn_dw F sc_kinds_of (fun ds m Q E h => ?_) (fun cdv A outer s H E gd ds m Q E' h => ?_)
  · obtain ⟨p, rfl, _⟩ := h
    rfl
  · obtain ⟨c, rfl, hp, q⟩ := h
    have ho := hp.ol
    have hps := hp.ps.len
    show LB _ _ [some (.tup [.str (SX.S c.nm), .tup (c.os.map Opt.d), .tup (c.ps.map Plc.d), .tup (c.gs.map Grp.d), .tup c.cs]), none] m _
    generalize hcm : Dt.tup [.str (SX.S c.nm), .tup (c.os.map Opt.d), .tup (c.ps.map Plc.d), .tup (c.gs.map Grp.d), .tup c.cs] = cm
    k_caughtNB
    k_subL
    refine li_tup ?_
    rw [← hcm]
    k_caughtNB
    refine lc_filterS c.os Opt.d (fun o => oK o.k) (fun o => o.k.isSome) gd (Nat.le_trans ho (by decide)) (fun o hq s1 H1 C1 cl1 fp1 gd1 => ?_) (fun o hq hk s1 H1 C1 cl1 fp1 gd1 => ?_) ?_
    · show LT _ _ [some (.tup [.str (SX.S c.nm), .tup (c.os.map Opt.d), .tup (c.ps.map Plc.d), .tup (c.gs.map Grp.d), .tup c.cs]), some (.tup [.str (SX.S o.nm), oS o.sh, .str (FS.getD o.fm "flag"), oK o.k, o.df, .bl o.nd, oS o.src])] m _ _
      k_caughtNB
      refine oi_tup at3 ?_
      k_caughtNB
      refine ⟨?_, rfl⟩
      rw [oK_non, Bool.not_not]
    · show Dw.LE _ _ [some (.tup [.str (SX.S c.nm), .tup (c.os.map Opt.d), .tup (c.ps.map Plc.d), .tup (c.gs.map Grp.d), .tup c.cs]), some (.tup [.str (SX.S o.nm), oS o.sh, .str (FS.getD o.fm "flag"), oK o.k, o.df, .bl o.nd, oS o.src])] m _ _
      k_caughtNB
      refine oi_tup at3 ?_
      exact ⟨rfl, rfl⟩
    k_subL
    refine li_tup ?_
    k_caughtNB
    refine lc_mapS c.ps Plc.d (fun p => p.k.d) gd (Nat.le_trans hps (by decide)) (fun o hq s1 H1 C1 cl1 fp1 gd1 => ?_) ?_
    · show Dw.LE _ _ [some (.tup [.str (SX.S c.nm), .tup (c.os.map Opt.d), .tup (c.ps.map Plc.d), .tup (c.gs.map Grp.d), .tup c.cs]), some (.tup [.str (SX.S o.nm), o.k.d, .str (TS.getD o.t "one")])] m _ _
      k_caughtNB
      exact ⟨rfl, rfl⟩
    refine o_cat ?_ ?_
    · rw [List.length_map, List.length_map]
      have := List.length_filter_le (fun o : Opt => o.k.isSome) c.os
      exact Nat.le_trans (show _ ≤ 10 by omega) (by decide)
    exact q
end
/-! ### forms: groups of no option where there is no group; own words -/
def W_bad0 : Spd := fun ds m F E => ∃ c : Cmd, ds = [c.d] ∧ c.ok ∧ c.gs = [] ∧ F (.lst []) m
section
variable {P : Program} {w : World} {K : PySem.W.Frag} {mg : Str → Option Value} {base : Heap}
theorem ok_bad0 {f : Addr} {fd : FuncData} (F : Fun K "first_bad_group" "first_bad_group" s_first_bad_group f fd) : FnG P w K mg base 1 f fd ["command"] (toSp K W_bad0) := by
  refine fn_dw F sc_first_bad_group (fun ds m Q E h => ?_) (fun cdv A outer s H E gd ds m Q E' h => ?_)
  · obtain ⟨p, rfl, _⟩ := h
    rfl
  · obtain ⟨c, rfl, hp, hg, q⟩ := h
    have ho := hp.ol
    show LB _ _ [some (.tup [.str (SX.S c.nm), .tup (c.os.map Opt.d), .tup (c.ps.map Plc.d), .tup (c.gs.map Grp.d), .tup c.cs]), none, none, none, none] m _
    rw [hg]
    k_caughtNB
    k_subL
    refine li_tup ?_
    k_caughtNB
    refine lc_mapS c.os Opt.d (fun o => .str (SX.S o.nm)) gd (Nat.le_trans ho (by decide)) (fun o hq s1 H1 C1 cl1 fp1 gd1 => ?_) ?_
    · show Dw.LE _ _ [some (.tup [.str (SX.S c.nm), .tup (c.os.map Opt.d), .tup (c.ps.map Plc.d), .tup [], .tup c.cs]), none, some (.tup [.str (SX.S o.nm), oS o.sh, .str (FS.getD o.fm "flag"), oK o.k, o.df, .bl o.nd, oS o.src]), none, none] m _ _
      k_caughtNB
      exact ⟨rfl, rfl⟩
    k_caughtNB
    refine le_sl_lst ?_
    k_subL
    refine li_tup ?_
    k_caughtNB
    refine oi_tup at3 ?_
    refine ⟨_, rfl, ?_⟩
    refine lc_filterS ([] : List Grp) Grp.d Grp.d (fun _ => false) gd (by decide) (fun o hq => by cases hq) (fun o hq => by cases hq) ?_
    k_caughtNB
    exact q
end
/-! ### Grammars of one command without options, groups, commands beneath -/
section
variable {X : Cx} {tg iter : Expr} {body : List Stmt} {r : En} {m : Mu} {P : Pc} {E : Xd} {pos : Pos} {k : Nat} {N : List Str}
theorem li_imp {L L' : List Dt → Mu → Prop} (h : LI X tg iter r m L' E) (f : ∀ ds m', L' ds m' → L ds m') : LI X tg iter r m L E :=
  ⟨fun Z g H R W rp tk nk nx => h.run Z g H R W rp tk (fun J ds m1 H1 q go so it => nk J ds m1 H1 (f ds m1 q) go so it) nx⟩
/-- a walk over nothing -/
theorem ls_for0 (gd : Gd k N X) (h : LI X tg iter r m (fun ds m1 => ds = [] ∧ P.nx r m1) P.ex) (hs : ∀ x, foldedSetIterable iter X.env x = pure x := by intro _; rfl) : LS X (.For tg iter body [] pos) r m P :=
  ls_for gd (fun ds i r2 m2 => ds = [] ∧ P.nx r2 m2) (li_imp h fun ds m1 q => ⟨q, fun i d r2 m2 e iv => by rw [iv.1] at e; simp at e, fun r2 m2 iv => iv.2⟩) hs
end
structure LkOk (c : Cmd) (kvs : List (Key × Dt)) : Prop where
  ok : c.ok
  os : c.os = []
  gs : c.gs = []
  cs : c.cs = []
  nd : (c.ps.map fun p => p.nm).Nodup
  own : ∀ p ∈ c.ps, ∀ n, p.k = .own n → (valD kvs (.inr (SX.S n))).isSome = true
def W_bn0 : Spd := fun ds m F E => ∃ c : Cmd, ds = [c.d] ∧ c.cs = [] ∧ F (.lst []) m
def W_nown : Spd := fun ds m F E => ∃ kvs : List (List Nat × Dt), ds = [.dct (kvs.map fun kv => ((.inr (SX.S kv.1) : Key), kv.2))] ∧ (∀ kv ∈ kvs, Nl kv.1) ∧ kvs.length ≤ 100 ∧ F .non m
section
variable {P : Program} {w : World} {K : PySem.W.Frag} {mg : Str → Option Value} {base : Heap}
theorem ok_bn0 {f : Addr} {fd : FuncData} (F : Fun K "beneath_names" "beneath_names" s_beneath_names f fd) : FnG P w K mg base 1 f fd ["command"] (toSp K W_bn0) := by
  refine fn_dw F sc_beneath_names (fun ds m Q E h => ?_) (fun cdv A outer s H E gd ds m Q E' h => ?_)
  · obtain ⟨p, rfl, _⟩ := h
    rfl
  · obtain ⟨c, rfl, hc, q⟩ := h
    show LB _ _ [some (.tup [.str (SX.S c.nm), .tup (c.os.map Opt.d), .tup (c.ps.map Plc.d), .tup (c.gs.map Grp.d), .tup c.cs]), none, none] m _
    rw [hc]
    k_caughtNB
    refine ls_for0 gd ?_
    refine li_tup ?_
    k_caughtNB
    refine oi_tup at4 ?_
    k_caughtNB
    refine ⟨rfl, ?_⟩
    k_caughtNB
    exact q
theorem ok_nown {f : Addr} {fd : FuncData} (B : Bi mg) (D1 : FnD P w K mg base "is_name" 1 (W_pred K fName)) (F : Fun K "need_own" "need_own" s_need_own f fd) : FnG P w K mg base 2 f fd ["own"] (toSp K W_nown) := by
  refine fn_dw F sc_need_own (fun ds m Q E h => ?_) (fun cdv A outer s H E gd ds m Q E' h => ?_)
  · obtain ⟨p, rfl, _⟩ := h
    rfl
  · obtain ⟨kvs, rfl, hk, hl, q⟩ := h
    have hb1 := B.isinstance; have hb2 := B.dict; have hb3 := B.all
    show LB _ _ [some (.dct (kvs.map fun kv => ((.inr (SX.S kv.1) : Key), kv.2))), none] m _
    k_caughtNB
    k_subL
    refine li_dct ?_
    k_caughtNB
    rw [List.map_map]
    refine lc_mapS kvs ((fun kv => kD kv.1) ∘ fun kv : List Nat × Dt => ((.inr (SX.S kv.1) : Key), kv.2)) (fun _ => .bl true) gd (Nat.le_trans hl (by decide)) (fun kv hq s1 H1 C1 cl1 fp1 gd1 => ?_) ?_
    · show Dw.LE _ _ [some (.dct (kvs.map fun kv => ((.inr (SX.S kv.1) : Key), kv.2))), some (.str (SX.S kv.1))] m _ _
      k_caughtNB
      refine ⟨_, rfl, (hk kv hq).th, ?_⟩
      rw [(hk kv hq).name]
      exact ⟨rfl, rfl⟩
    k_caughtNB
    rw [show (kvs.all fun _ => true) = true from List.all_eq_true.mpr fun _ _ => rfl]
    k_caughtNB
    exact q
end
/-! ### sorted words, tables of kinds -/
theorem le_trans' {a b c : List Nat} (h1 : ¬ b < a) (h2 : ¬ c < b) : ¬ c < a := fun h => by
  have h1' : a ≤ b := h1
  have h2' : b ≤ c := h2
  exact absurd h (List.le_trans h1' h2')
theorem rising_pw : ∀ (p : List Nat) (l : List (List Nat)), risingS (SX.S p) (l.map SX.S) = true → (p :: l).Pairwise fun a b => ¬ b < a
  | p, [], _ => by simp
  | p, x :: r, h => by
    have h' : (!ltCps x p && risingS (SX.S x) (r.map SX.S)) = true := h
    rw [Bool.and_eq_true, ltCps_eq] at h'
    have h1 : ¬ x < p := by
      have := h'.1
      simpa using this
    have h2 := rising_pw x r h'.2
    refine List.pairwise_cons.mpr ⟨fun y hy => ?_, h2⟩
    rcases List.mem_cons.mp hy with rfl | hy
    · exact h1
    · exact le_trans' h1 ((List.pairwise_cons.mp h2).1 y hy)
theorem sorted_pw : ∀ {l : List (List Nat)}, sortedS (l.map SX.S) = true → l.Pairwise fun a b => ¬ b < a
  | [], _ => .nil
  | x :: r, h => rising_pw x r h
theorem sorted_one {a b : List (List Nat)} (p : a.Perm b) (ha : sortedS (a.map SX.S) = true) (hb : sortedS (b.map SX.S) = true) : a = b :=
  p.eq_of_pairwise (fun x y _ _ h1 h2 => List.le_antisymm (show x ≤ y from h1) (show y ≤ x from h2)) (sorted_pw ha) (sorted_pw hb)
open Classical in
noncomputable def srt (ys : List (List Nat)) : List (List Nat) := if h : ∃ zs : List (List Nat), zs.Perm ys ∧ sortedS (zs.map SX.S) = true then h.choose else ys
theorem srt_eq {zs ys : List (List Nat)} (p : zs.Perm ys) (h : sortedS (zs.map SX.S) = true) : zs = srt ys := by
  have hx : ∃ zs : List (List Nat), zs.Perm ys ∧ sortedS (zs.map SX.S) = true := ⟨zs, p, h⟩
  unfold srt
  rw [dif_pos hx]
  exact sorted_one (p.trans hx.choose_spec.1.symm) h hx.choose_spec.2
theorem srt_perm (ys : List (List Nat)) : (srt ys).Perm ys := by
  unfold srt
  split
  · rename_i h
    exact h.choose_spec.1
  · exact .refl _
theorem strs_back {ys : List (List Nat)} {zs : List Str} (p : zs.Perm (ys.map SX.S)) (h : sortedS zs = true) : zs = (srt ys).map SX.S := by
  have e : zs = (zs.map fun z => z.cps.toList).map SX.S := by
    rw [List.map_map]
    exact (List.map_id zs).symm.trans (List.map_congr_left fun z _ => (SX.S_tl z).symm)
  have p2 : (zs.map fun z => z.cps.toList).Perm ys := by
    have := p.map fun z : Str => z.cps.toList
    rw [List.map_map] at this
    have e2 : ys.map ((fun z : Str => z.cps.toList) ∘ SX.S) = ys := (List.map_congr_left fun y _ => (show ((fun z : Str => z.cps.toList) ∘ SX.S) y = id y from by simp [SX.S])).trans (List.map_id ys)
    rwa [e2] at this
  rw [e] at h ⊢
  rw [srt_eq p2 h]
/-- the words of a kind, ow: own words by name -/
def kw (ow : List Nat → List (List Nat)) : Kd → Option (List (List Nat))
  | .one ys => some ys
  | .own n => some (ow n)
  | _ => none
noncomputable def tabD (ow : List Nat → List (List Nat)) (k : Kd) : Dt := match kw ow k with
  | some ys => .tup [.str "words", .tup (wsD (srt ys))]
  | none => k.d
/-! ### a made Grammar -/
def gF0 (kvs : List (Key × Dt)) (p : Addr) : List (Str × Dt) := [("has_own", .dct kvs), ("has_commands", .raw (.ref p)), ("has_sets", .dct []), ("has_texts", .dct [])]
def gF (P : Program) (w : World) (od : Obj) (kvs : List (Key × Dt)) (c : Dt) : List (Str × Dt) := [("has_own", .dct kvs), ("has_commands", ndz P w od [(.tup [], c)]), ("has_sets", .dct []), ("has_texts", .dct [])]
structure GrK (K : PySem.W.Frag) (C : Addr) : Prop where
  cl : Cls K C
  n1 : NoAttr K C "has_own"
  n2 : NoAttr K C "has_commands"
  n3 : NoAttr K C "has_sets"
  n4 : NoAttr K C "has_texts"
  ins : InsK K C
/-- the things that are no Grammar here -/
def noG (d : Dt) : Prop := ∃ T, tyD d = some T ∧ T ∈ ["NoneType", "int", "str", "tuple"]
def W_ngr (C : Addr) : Spd := fun ds m F E => ∃ a dx fs, ds = [.raw (.ref a)] ∧ (a, Mc.ins C dx fs) ∈ m ∧ F .non m
def W_ngrX (CG : Addr) : Spd := fun ds m F E => ∃ d, ds = [d] ∧ noG d ∧ E (.ref CG) [("found", d)] m
def W_ownw (P : Program) (w : World) (C : Addr) (L : Lm) : Spd := fun ds m F E => ∃ a dx od kvs c n ws, ds = [.raw (.ref a), Kd.d (.own n)] ∧ Nl n ∧ (a, Mc.ins C dx (gF P w od kvs c)) ∈ m ∧ valD kvs (.inr (SX.S n)) = some (clo L (.lst (wsD ws))) ∧ F (.lst (wsD ws)) m
def W_root (P : Program) (w : World) (C : Addr) : Spd := fun ds m F E => ∃ a dx od kvs c, ds = [.raw (.ref a)] ∧ (a, Mc.ins C dx (gF P w od kvs c)) ∈ m ∧ F c m
theorem key0 : Key1 (.tup []) := ⟨rfl, rfl, by decide⟩
theorem keys1 {c : Dt} : KeysOk [(.tup [], c)] := fun kd h => by
  rw [List.mem_singleton.mp h]
  exact key0
section
variable {P : Program} {w : World} {K : PySem.W.Frag} {mg : Str → Option Value} {base : Heap}
theorem ok_ngr {f : Addr} {fd : FuncData} {C : Addr} (B : Bi mg) (gC : mg "Grammar" = some (.ref C)) (G : GrK K C) (F : Fun K "need_grammar" "need_grammar" s_need_grammar f fd) : FnG P w K mg base 3 f fd ["thing"] (toSp K (W_ngr C)) := by
  refine fn_dw F sc_need_grammar (fun ds m Q E h => ?_) (fun cdv A outer s H E gd ds m Q E' h => ?_)
  · obtain ⟨a, dx, fs, rfl, _⟩ := h
    rfl
  · obtain ⟨a, dx, fs, rfl, hm, q⟩ := h
    have hb1 := B.isinstance
    show LB _ _ [some (.raw (.ref a))] m _
    k_caughtNB
    refine le_glob gC (v := .ref C) rfl (fun D H => .raw _) ?_
    k_caughtNB
    refine c_isi_ins G.ins hm ?_
    k_caughtNB
    exact q
theorem ok_ngrX {f : Addr} {fd : FuncData} {C CG iG : Addr} (B : Bi mg) (gC : mg "Grammar" = some (.ref C)) (G : GrK K C) (TG : Ex_found.Txt K mg "NoGrammar" CG iG) (F : Fun K "need_grammar" "need_grammar" s_need_grammar f fd) : FnG P w K mg base 3 f fd ["thing"] (toSp K (W_ngrX CG)) := by
  refine fn_dw F sc_need_grammar (fun ds m Q E h => ?_) (fun cdv A outer s H E gd ds m Q E' h => ?_)
  · obtain ⟨d, rfl, _⟩ := h
    rfl
  · obtain ⟨d, rfl, ⟨T, h1, h2⟩, q⟩ := h
    have hb1 := B.isinstance
    show LB _ _ [some d] m _
    k_caughtNB
    refine le_glob gC (v := .ref C) rfl (fun D H => .raw _) ?_
    k_caughtNB
    refine c_isi_not G.ins h1 h2 ?_
    k_caughtNB
    refine ls_raise_found TG gd ?_
    k_caughtNB
    exact q
theorem ok_ownw {f : Addr} {fd : FuncData} {C : Addr} {L : Lm} (O : LmOk L) (B : Bi mg) (G : GrK K C) (D1 : FnD P w K mg base "is_kind" 2 (W_kind K)) (F : Fun K "own_words" "Grammar.own_words" s_Grammar_own_words f fd) : FnG P w K mg base 3 f fd ["self", "kind"] (toSp K (W_ownw P w C L)) := by
  refine fn_dw F sc_Grammar_own_words (fun ds m Q E h => ?_) (fun cdv A outer s H E gd ds m Q E' h => ?_)
  · obtain ⟨a, dx, od, kvs, c, n, ws, rfl, _⟩ := h
    rfl
  · obtain ⟨a, dx, od, kvs, c, n, ws, rfl, hn, hm, hv, q⟩ := h
    have hb1 := B.list
    have hcl : Cls K C := G.cl
    have hn1 : NoAttr K C "has_own" := G.n1
    have hk : Kd.ok (.own n) := hn
    have htk : Tk K (.tup [.str "own", .str (SX.S n)]) := Kd.tk hk
    have hfk : fKind (.tup [.str "own", .str (SX.S n)]) = true := Kd.kind hk
    show LB _ _ [some (.raw (.ref a)), some (.tup [.str "own", .str (SX.S n)]), none] m _
    refine lb_midP [some (.raw (.ref a)), some (.tup [.str "own", .str (SX.S n)]), none] m ?_ ?_
    · k_caughtNB
      refine ⟨_, rfl, htk, ?_⟩
      rw [hfk]
      k_caughtNB
      exact ⟨rfl, rfl⟩
    refine lb_midP [some (.raw (.ref a)), some (.tup [.str "own", .str (SX.S n)]), none] m ?_ ?_
    · k_caughtNB
      exact ⟨rfl, rfl⟩
    refine lb_midP [some (.raw (.ref a)), some (.tup [.str "own", .str (SX.S n)]), none] m ?_ ?_
    · k_caughtNB
      refine o_notInD (z := .inr (SX.S n)) gd.hu ?_
      rw [hv]
      k_caughtNB
      exact ⟨rfl, rfl⟩
    refine lb_midP [some (.raw (.ref a)), some (.tup [.str "own", .str (SX.S n)]), some (clo L (.lst (wsD ws)))] m ?_ ?_
    · refine' ls_set gd ?hsl ?_
      (case hsl => tb_rel)
      refine le_dget gd ?_
      k_caughtNB
      exact ⟨kvs, SX.S n, _, rfl, rfl, hv, rfl, rfl⟩
    k_caughtNB
    refine le_callclo gd O (by decide) hb1 ?_
    k_caughtNB
    exact q
theorem ok_root {f : Addr} {fd : FuncData} {C : Addr} (G : GrK K C) (F : Fun K "root" "Grammar.root" s_Grammar_root f fd) : FnG P w K mg base 1 f fd ["self"] (toSp K (W_root P w C)) := by
  refine fn_dw F sc_Grammar_root (fun ds m Q E h => ?_) (fun cdv A outer s H E gd ds m Q E' h => ?_)
  · obtain ⟨a, dx, od, kvs, c, rfl, _⟩ := h
    rfl
  · obtain ⟨a, dx, od, kvs, c, rfl, hm, q⟩ := h
    have hcl : Cls K C := G.cl
    have hn2 : NoAttr K C "has_commands" := G.n2
    show LB _ _ [some (.raw (.ref a))] m _
    refine lb_one (ls_ret ?_)
    refine le_ndgetX gd.room.units ?_
    k_caughtNB
    exact ⟨_, c, .fz, keys1, key0, rfl, q⟩
end
/-! ### a Grammar is made -/
def W_look (P : Program) (w : World) (C : Addr) : Spd := fun ds m F E => ∃ a dx kvs p c, ds = [.raw (.ref a), Cmd.d c, .tup []] ∧ (a, Mc.ins C dx (gF0 kvs p)) ∈ m ∧ (p, Mc.nd P w p []) ∈ m ∧ LkOk c kvs ∧ F .non (put p (Mc.nd P w p [(.tup [], c.d)]) m)
theorem ws_all {ps : List Plc} : ps.map (fun p => Dt.str (SX.S p.nm)) = wsD (ps.map fun p => p.nm) := by unfold wsD; rw [List.map_map]; rfl
section
variable {P : Program} {w : World} {K : PySem.W.Frag} {mg : Str → Option Value} {base : Heap}
theorem ok_look {f : Addr} {fd : FuncData} {C : Addr} (G : GrK K C) (D1 : FnD P w K mg base "is_command" 5 W_iscm) (D2 : FnD P w K mg base "first_twice" 1 W_twice) (D3 : FnD P w K mg base "beneath_names" 1 W_bn0) (D4 : FnD P w K mg base "kinds_of" 1 W_kinds) (D5 : FnD P w K mg base "first_bad_group" 1 W_bad0)
    (F : Fun K "look_at" "Grammar.look_at" s_Grammar_look_at f fd) : FnG P w K mg base 6 f fd ["self", "command", "where"] (toSp K (W_look P w C)) := by
  refine fn_dw F sc_Grammar_look_at (fun ds m Q E h => ?_) (fun cdv A outer s H E gd ds m Q E' h => ?_)
  · obtain ⟨a, dx, kvs, p, c, rfl, _⟩ := h
    rfl
  · obtain ⟨a, dx, kvs, p, c, rfl, hm, hp, hc, q⟩ := h
    have hcl : Cls K C := G.cl
    have hn1 : NoAttr K C "has_own" := G.n1
    have hn2 : NoAttr K C "has_commands" := G.n2
    have ho := hc.os
    have hps := hc.ok.ps.len
    obtain ⟨nm, os, ps, gs, cs⟩ := c
    obtain rfl : os = [] := hc.os
    obtain rfl : gs = [] := hc.gs
    obtain rfl : cs = [] := hc.cs
    have hpl : ps.length ≤ 4 := hps
    have hz : ps.length ≤ sizeLine := Nat.le_trans hpl (by decide)
    show LB _ _ [some (.raw (.ref a)), some (.tup [.str (SX.S nm), .tup [], .tup (ps.map Plc.d), .tup [], .tup []]), some (.tup []), none, none, none, none, none, none, none, none] m _
    have hcd : Dt.tup [.str (SX.S nm), .tup [], .tup (ps.map Plc.d), .tup [], .tup []] = Cmd.d ⟨nm, [], ps, [], []⟩ := rfl
    generalize hcm : Dt.tup [.str (SX.S nm), .tup [], .tup (ps.map Plc.d), .tup [], .tup []] = cm at hcd
    refine lb_midP [some (.raw (.ref a)), some cm, some (.tup []), none, none, none, none, none, none, none, none] m ?_ ?_
    · k_caughtNB
      refine ⟨_, by rw [hcd], hc.ok, ?_⟩
      k_caughtNB
      exact ⟨rfl, rfl⟩
    refine lb_midP [some (.raw (.ref a)), some cm, some (.tup []), some (.lst (wsD (ps.map fun p => p.nm))), none, none, none, none, none, none, none] m ?_ ?_
    · k_caughtNB
      k_subL
      refine li_tup ?_
      rw [← hcm]
      k_caughtNB
      refine lc_mapS ([] : List Opt) Opt.d (fun o => .str (SX.S o.nm)) gd (by decide) (fun o hq => by cases hq) ?_
      k_subL
      refine li_tup ?_
      k_caughtNB
      refine lc_mapS ps Plc.d (fun p => .str (SX.S p.nm)) gd hz (fun o hq s1 H1 C1 cl1 fp1 gd1 => ?_) ?_
      · show Dw.LE _ _ [some (.raw (.ref a)), some (.tup [.str (SX.S nm), .tup [], .tup (ps.map Plc.d), .tup [], .tup []]), some (.tup []), none, some (.tup [.str (SX.S o.nm), o.k.d, .str (TS.getD o.t "one")]), none, none, none, none, none, none] m _ _
        k_caughtNB
        exact ⟨rfl, rfl⟩
      refine o_cat ?_ ?_
      · rw [List.length_map, List.length_map]
        exact Nat.le_trans (show _ ≤ 4 by simpa using hpl) (by decide)
      rw [List.map_nil, List.nil_append, ws_all]
      exact ⟨rfl, rfl⟩
    refine lb_midP [some (.raw (.ref a)), some cm, some (.tup []), some (.lst (wsD (ps.map fun p => p.nm))), none, some (.lst []), none, none, none, none, none] m ?_ ?_
    · refine' ls_setlcD gd ?hs1 ?hs2 _ ?hli
      (case hs1 => tb_rel)
      (case hs2 => tb_rel)
      case' hli => skip
      refine li_tup ?_
      rw [← hcm]
      k_caughtNB
      refine lc_filterS ([] : List Opt) Opt.d (fun o => oS o.sh) (fun _ => false) gd (by decide) (fun o hq => by cases hq) (fun o hq => by cases hq) ?_
      exact ⟨rfl, rfl⟩
    refine lb_mid (fun r2 m2 => m2 = m ∧ ∃ a6 a7, r2 = [some (.raw (.ref a)), some cm, some (.tup []), some (.lst (wsD (ps.map fun p => p.nm))), none, some (.lst []), a6, a7, none, none, none]) ?_ ?_
    · refine ls_for gd (fun ds i r2 m2 => m2 = m ∧ ∃ a6 a7, r2 = [some (.raw (.ref a)), some cm, some (.tup []), some (.lst (wsD (ps.map fun p => p.nm))), none, some (.lst []), a6, a7, none, none, none]) ?_
      refine li_lst ?_
      k_caughtNB
      refine ⟨_, by rw [hcd], rfl, ?_⟩
      k_caughtNB
      refine ⟨⟨rfl, none, none, rfl⟩, fun i d r2 m2 e iv => ?_, fun r2 m2 iv => iv⟩
      obtain ⟨rfl, a6, a7, rfl⟩ := iv
      have hd : ∃ ns : List (List Nat), d = .lst (wsD ns) ∧ ns.Nodup ∧ ns.length ≤ 100 := by
        rcases i with _ | _ | _ | i
        · simp at e
          exact ⟨_, e.symm, hc.nd, by rw [List.length_map]; omega⟩
        · simp at e
          exact ⟨[], e.symm, .nil, by decide⟩
        · simp at e
          exact ⟨[], e.symm, .nil, by decide⟩
        · simp at e
      obtain ⟨ns, rfl, h1, h2⟩ := hd
      k_caughtNB
      refine ls_for0 gd ?_
      refine li_lst ?_
      k_caughtNB
      refine ⟨ns, rfl, h1, h2, ?_⟩
      k_caughtNB
      refine ⟨rfl, ?_⟩
      k_caughtNB
      exact ⟨rfl, _, _, rfl⟩
    · intro r2 m2 hr
      obtain ⟨rfl, a6, a7, rfl⟩ := hr
      refine lb_mid (fun r2 m3 => m3 = m2 ∧ ∃ a8, r2 = [some (.raw (.ref a)), some cm, some (.tup []), some (.lst (wsD (ps.map fun p => p.nm))), none, some (.lst []), a6, a7, a8, none, none]) ?_ ?_
      · refine ls_for gd (fun ds i r2 m3 => m3 = m2 ∧ ∃ a8, r2 = [some (.raw (.ref a)), some cm, some (.tup []), some (.lst (wsD (ps.map fun p => p.nm))), none, some (.lst []), a6, a7, a8, none, none]) ?_
        refine li_lst ?_
        k_caughtNB
        refine ⟨_, by rw [hcd], hc.ok, ?_⟩
        refine ⟨_, rfl, ⟨rfl, none, rfl⟩, fun i d r2 m3 e iv => ?_, fun r2 m3 iv => iv⟩
        obtain ⟨rfl, a8, rfl⟩ := iv
        have hd : ∃ k : Kd, d = k.d ∧ k.ok ∧ ∀ n, k = .own n → (valD kvs (.inr (SX.S n))).isSome = true := by
          have hmem : d ∈ (ps.map fun p => p.k.d) := List.mem_of_getElem? e
          obtain ⟨pl, h1, rfl⟩ := List.mem_map.mp hmem
          exact ⟨pl.k, rfl, (hc.ok.ps.all pl h1).k, fun n hn => hc.own pl h1 n hn⟩
        obtain ⟨k, rfl, hk, hown⟩ := hd
        cases k with
        | num lo hi =>
          show LG _ _ _ (.tup [.str "number", .int lo, .int hi]) _
          k_caughtNB
          exact ⟨rfl, _, rfl⟩
        | one ys =>
          show LG _ _ _ (.tup [.str "one", .tup (wsD ys)]) _
          k_caughtNB
          exact ⟨rfl, _, rfl⟩
        | nam =>
          show LG _ _ _ (.tup [.str "name"]) _
          k_caughtNB
          exact ⟨rfl, _, rfl⟩
        | txt n =>
          show LG _ _ _ (.tup [.str "text", .int n]) _
          k_caughtNB
          exact ⟨rfl, _, rfl⟩
        | own n =>
          show LG _ _ _ (.tup [.str "own", .str (SX.S n)]) _
          k_caughtNB
          refine o_notInD (z := .inr (SX.S n)) gd.hu ?_
          rw [hown n rfl]
          k_caughtNB
          exact ⟨rfl, _, rfl⟩
      · intro r3 m3 hr
        obtain ⟨rfl, a8, rfl⟩ := hr
        refine lb_midP [some (.raw (.ref a)), some cm, some (.tup []), some (.lst (wsD (ps.map fun p => p.nm))), none, some (.lst []), a6, a7, a8, none, none] m3 ?_ ?_
        · refine ls_for0 gd ?_
          refine li_tup ?_
          rw [← hcm]
          k_caughtNB
          exact ⟨rfl, rfl, rfl⟩
        refine lb_midP [some (.raw (.ref a)), some cm, some (.tup []), some (.lst (wsD (ps.map fun p => p.nm))), none, some (.lst []), a6, a7, a8, none, none] m3 ?_ ?_
        · refine ls_for0 gd ?_
          refine li_lst ?_
          k_caughtNB
          refine ⟨_, by rw [hcd], hc.ok, rfl, ?_⟩
          exact ⟨_, rfl, rfl, rfl, rfl⟩
        refine lb_midP [some (.raw (.ref a)), some cm, some (.tup []), some (.lst (wsD (ps.map fun p => p.nm))), none, some (.lst []), a6, a7, a8, none, none] (put p (Mc.nd P w p [(.tup [], cm)]) m3) ?_ ?_
        · refine ls_ndput gd.room.units ?_
          k_caughtNB
          exact ⟨p, [], rfl, hp, (fun kd h => by cases h), key0, by decide, rfl, rfl⟩
        refine lb_one (ls_for0 gd ?_)
        refine li_tup ?_
        rw [← hcm]
        k_caughtNB
        refine oi_tup at4 ?_
        k_caughtNB
        refine ⟨rfl, ?_⟩
        rw [hcm, hcd]
        exact q
end
/-! ### a Grammar is made: __init__; its tables -/
def kvD (kvs : List (List Nat × Dt)) : List (Key × Dt) := kvs.map fun kv => ((.inr (SX.S kv.1) : Key), kv.2)
def W_gin (P : Program) (w : World) (C : Addr) : Spd := fun ds m F E => ∃ a dx m0 c kvs, ds = [.raw (.ref a), Cmd.d c, .dct (kvD kvs)] ∧ m = (a, Mc.ins C dx []) :: m0 ∧ a ∉ dom m0 ∧ LkOk c (kvD kvs) ∧ (∀ kv ∈ kvs, Nl kv.1) ∧ kvs.length ≤ 100 ∧
  ∀ od, F .non ((a, Mc.ins C dx (gF P w od (kvD kvs) c.d)) :: m0)
section
variable {P : Program} {w : World} {K : PySem.W.Frag} {mg : Str → Option Value} {base : Heap}
theorem ok_gin {f : Addr} {fd : FuncData} {C : Addr} {t1 t2 : Tok} (B : Bi mg) (G : GrK K C) (q1 : mg "MOST_DEEP" = some (.int 2 t1)) (q2 : mg "MOST_COMMANDS" = some (.int 12 t2)) (D1 : FnD P w K mg base "need_own" 2 W_nown) (D2 : MtD P w K mg base C "look_at" 6 (W_look P w C))
    (F : Fun K "__init__" "Grammar.__init__" s_Grammar_init f fd) : FnG P w K mg base 7 f fd ["self", "root", "own"] (toSp K (W_gin P w C)) := by
  refine fn_dw F sc_Grammar_init (fun ds m Q E h => ?_) (fun cdv A outer s H E gd ds m Q E' h => ?_)
  · obtain ⟨a, dx, m0, c, kvs, rfl, _⟩ := h
    rfl
  · obtain ⟨a, dx, m0, c, kvs, rfl, rfl, ha, hc, hk, hl, q⟩ := h
    have hb1 := B.dict; have hb2 := B.len
    have hcl : Cls K C := G.cl
    have hn1 : NoAttr K C "has_own" := G.n1
    have hn2 : NoAttr K C "has_commands" := G.n2
    have hn3 : NoAttr K C "has_sets" := G.n3
    have hn4 : NoAttr K C "has_texts" := G.n4
    have hcd : Cmd.d c = .tup [.str (SX.S c.nm), .tup (c.os.map Opt.d), .tup (c.ps.map Plc.d), .tup (c.gs.map Grp.d), .tup c.cs] := rfl
    generalize hcm : Cmd.d c = cm at hcd
    clear hcd
    show LB _ _ [some (.raw (.ref a)), some cm, some (.dct (kvD kvs)), none, none] ((a, Mc.ins C dx []) :: m0) _
    refine lb_midP [some (.raw (.ref a)), some cm, some (.dct (kvD kvs)), none, none] ((a, Mc.ins C dx []) :: m0) ?_ ?_
    · k_caughtNB
      refine ⟨kvs, rfl, hk, hl, ?_⟩
      k_caughtNB
      exact ⟨rfl, rfl⟩
    refine lb_midP [some (.raw (.ref a)), some cm, some (.dct (kvD kvs)), none, none] ((a, Mc.ins C dx [("has_own", .dct (kvD kvs))]) :: m0) ?_ ?_
    · have hm : (a, Mc.ins C dx []) ∈ (a, Mc.ins C dx []) :: m0 := List.mem_cons_self
      refine ls_fld ?_
      refine le_callT (x := "dict") (T := "dict") bt_dict (by assumption) ?_
      refine la_cons ?_
      refine le_orDct ?_
      refine' le_name gd ?hsl ?_
      (case hsl => tb_rel)
      refine ⟨_, rfl, ?_⟩
      by_cases hz : (kvD kvs).isEmpty = true
      · have e0 : kvD kvs = [] := List.isEmpty_iff.mp hz
        rw [e0]
        refine itT (le_one (le_dct0 ?_))
        refine la_nil (c_dict_dct ?_)
        refine' le_name gd ?hsl ?_
        (case hsl => tb_rel)
        exact ⟨a, C, dx, [], rfl, hm, hcl, hn1, by decide, rfl, put_head ha⟩
      · refine itFd (Bool.eq_false_iff.mpr hz) ?_
        refine la_nil (c_dict_dct ?_)
        refine' le_name gd ?hsl ?_
        (case hsl => tb_rel)
        exact ⟨a, C, dx, [], rfl, hm, hcl, hn1, by decide, rfl, put_head ha⟩
    refine lb_cons (ls_fld (le_ndnew fun p hp => ?_))
    have hpa : p ≠ a := fun z => hp (by rw [z]; exact List.mem_map.mpr ⟨_, List.mem_cons_self, rfl⟩)
    have hpm : p ∉ dom m0 := fun z => hp (List.mem_cons_of_mem _ z)
    refine' le_name gd ?hsl ?_
    (case hsl => tb_rel)
    refine ⟨a, C, dx, _, rfl, List.mem_cons_of_mem _ List.mem_cons_self, hcl, hn2, lenF rfl, ?_⟩
    dsimp only
    rw [put_skip hpa, put_head ha]
    refine lb_midP [some (.raw (.ref a)), some cm, some (.dct (kvD kvs)), none, none] ((p, Mc.nd P w p []) :: (a, Mc.ins C dx [("has_own", .dct (kvD kvs)), ("has_commands", .raw (.ref p)), ("has_sets", .dct [])]) :: m0) ?_ ?_
    · refine ls_fld (le_dct0 ?_)
      refine' le_name gd ?hsl ?_
      (case hsl => tb_rel)
      refine ⟨a, C, dx, _, rfl, List.mem_cons_of_mem _ List.mem_cons_self, hcl, hn3, lenF rfl, rfl, ?_⟩
      rw [put_skip hpa, put_head ha]
      rfl
    refine lb_midP [some (.raw (.ref a)), some cm, some (.dct (kvD kvs)), none, none] ((p, Mc.nd P w p []) :: (a, Mc.ins C dx (gF0 (kvD kvs) p)) :: m0) ?_ ?_
    · refine ls_fld (le_dct0 ?_)
      refine' le_name gd ?hsl ?_
      (case hsl => tb_rel)
      refine ⟨a, C, dx, _, rfl, List.mem_cons_of_mem _ List.mem_cons_self, hcl, hn4, lenF rfl, rfl, ?_⟩
      rw [put_skip hpa, put_head ha]
      rfl
    refine lb_midP [some (.raw (.ref a)), some cm, some (.dct (kvD kvs)), none, none] ((p, Mc.nd P w p [(.tup [], cm)]) :: (a, Mc.ins C dx (gF0 (kvD kvs) p)) :: m0) ?_ ?_
    · have hm : (a, Mc.ins C dx (gF0 (kvD kvs) p)) ∈ (p, Mc.nd P w p []) :: (a, Mc.ins C dx (gF0 (kvD kvs) p)) :: m0 := List.mem_cons_of_mem _ List.mem_cons_self
      refine ls_expr ?_
      refine le_meth D2 gd (by decide) ?_
      refine' le_name gd ?hsl ?_
      (case hsl => tb_rel)
      refine ⟨a, dx, _, rfl, hm, rfl, ?_⟩
      k_caughtNB
      refine ⟨a, dx, kvD kvs, p, c, by rw [hcm], hm, List.mem_cons_self, hc, ?_⟩
      rw [hcm]
      exact ⟨rfl, put_head (fun z => by
        rcases List.mem_cons.mp z with z | z
        · exact hpa z
        · exact hpm z)⟩
    refine lb_fzfld (a := a) (p := p) (C := C) (dx := dx) (fs := gF0 (kvD kvs) p) (f := "has_commands") (kvs := [(.tup [], cm)]) (List.mem_cons_of_mem _ List.mem_cons_self) List.mem_cons_self rfl fun od => ?_
    have em : forget p (put a (Mc.ins C dx (putD "has_commands" (ndz P w od [(.tup [], cm)]) (gF0 (kvD kvs) p))) ((p, Mc.nd P w p [(.tup [], cm)]) :: (a, Mc.ins C dx (gF0 (kvD kvs) p)) :: m0)) = (a, Mc.ins C dx (gF P w od (kvD kvs) cm)) :: m0 := by
      rw [put_skip hpa, put_head ha, forget_head]
      · rfl
      · intro z
        rcases List.mem_cons.mp z with z | z
        · exact hpa z
        · exact hpm z
    show LB _ _ _ (forget p (put a (Mc.ins C dx (putD "has_commands" (ndz P w od [(.tup [], cm)]) (gF0 (kvD kvs) p))) ((p, Mc.nd P w p [(.tup [], cm)]) :: (a, Mc.ins C dx (gF0 (kvD kvs) p)) :: m0))) _
    rw [em]
    have hm : (a, Mc.ins C dx (gF P w od (kvD kvs) cm)) ∈ (a, Mc.ins C dx (gF P w od (kvD kvs) cm)) :: m0 := List.mem_cons_self
    have hq := q od
    rw [hcm] at hq
    refine lb_midP [some (.raw (.ref a)), some cm, some (.dct (kvD kvs)), some (.lst []), none] ((a, Mc.ins C dx (gF P w od (kvD kvs) cm)) :: m0) ?_ ?_
    · refine' ls_setlcD gd ?hs1 ?hs2 _ ?hli
      (case hs1 => tb_rel)
      (case hs2 => tb_rel)
      case' hli => skip
      refine li_ndz ?_
      k_caughtNB
      refine lc_filterS [([] : List Dt)] (fun l => Dt.tup l) (fun l => Dt.tup l) (fun _ => false) gd (by decide) (fun l hl2 s1 H1 C1 cl1 fp1 gd1 => ?_) (fun l hl2 hh => by cases hh) ?_
      · rw [List.mem_singleton.mp hl2]
        k_caughtNB
        exact ⟨rfl, rfl⟩
      · exact ⟨rfl, rfl⟩
    refine lb_midP [some (.raw (.ref a)), some cm, some (.dct (kvD kvs)), some (.lst []), none] ((a, Mc.ins C dx (gF P w od (kvD kvs) cm)) :: m0) ?_ ?_
    · k_caughtNB
      refine o_neNil0 gd.room.units ?_
      k_caughtNB
      exact ⟨rfl, rfl⟩
    k_caughtNB
    refine c_len_ndX (.fz) keys1 ?_
    k_caughtNB
    exact hq
end
/-! ### tables of kinds -/
/-- the own words that a kind speaks of are there -/
def OwA (L : Lm) (kvs : List (Key × Dt)) (ow : List Nat → List (List Nat)) (k : Kd) : Prop := match k with
  | .own n => valD kvs (.inr (SX.S n)) = some (clo L (.lst (wsD (ow n)))) ∧ (ow n).length < 64
  | _ => True
def W_tab (P : Program) (w : World) (C : Addr) (L : Lm) : Spd := fun ds m F E => ∃ a dx od kvs c k ow, ds = [.raw (.ref a), Kd.d k] ∧ k.ok ∧ (a, Mc.ins C dx (gF P w od kvs c)) ∈ m ∧ OwA L kvs ow k ∧ F (tabD ow k) m
def W_tabK (K : PySem.W.Frag) (C CK : Addr) : Spd := fun ds m F E => ∃ a dx fs d, ds = [.raw (.ref a), d] ∧ (a, Mc.ins C dx fs) ∈ m ∧ Tk K d ∧ fKind d = false ∧ E (.ref CK) [("found", d)] m
def W_tabG (CG : Addr) : Spd := fun ds m F E => ∃ d e, ds = [d, e] ∧ noG d ∧ E (.ref CG) [("found", d)] m
section
variable {P : Program} {w : World} {K : PySem.W.Frag} {mg : Str → Option Value} {base : Heap}
theorem ok_tab {f : Addr} {fd : FuncData} {C : Addr} {L : Lm} (B : Bi mg) (G : GrK K C) (D1 : FnD P w K mg base "need_grammar" 3 (W_ngr C)) (D2 : FnD P w K mg base "is_kind" 2 (W_kind K)) (D3 : MtD P w K mg base C "own_words" 3 (W_ownw P w C L))
    (F : Fun K "table_of" "table_of" s_table_of f fd) : FnG P w K mg base 4 f fd ["grammar", "kind"] (toSp K (W_tab P w C L)) := by
  refine fn_dw F sc_table_of (fun ds m Q E h => ?_) (fun cdv A outer s H E gd ds m Q E' h => ?_)
  · obtain ⟨a, dx, od, kvs, c, k, ow, rfl, _⟩ := h
    rfl
  · obtain ⟨a, dx, od, kvs, c, k, ow, rfl, hk, hm, how, q⟩ := h
    have hb1 := B.tuple; have hb2 := B.sorted
    have htk : Tk K k.d := Kd.tk hk
    have hfk : fKind k.d = true := Kd.kind hk
    show LB _ _ [some (.raw (.ref a)), some k.d, none] m _
    refine lb_midP [some (.raw (.ref a)), some k.d, none] m ?_ ?_
    · k_caughtNB
      refine ⟨a, dx, _, rfl, hm, ?_⟩
      k_caughtNB
      exact ⟨rfl, rfl⟩
    refine lb_midP [some (.raw (.ref a)), some k.d, none] m ?_ ?_
    · k_caughtNB
      refine ⟨_, rfl, htk, ?_⟩
      rw [hfk]
      k_caughtNB
      exact ⟨rfl, rfl⟩
    cases k with
    | num lo hi =>
      show LB _ _ [some (.raw (.ref a)), some (.tup [.str "number", .int lo, .int hi]), none] m _
      k_caughtNB
      refine o_inT (ys := ["one", "own"]) ?_
      k_caughtNB
      exact q
    | nam =>
      show LB _ _ [some (.raw (.ref a)), some (.tup [.str "name"]), none] m _
      k_caughtNB
      refine o_inT (ys := ["one", "own"]) ?_
      k_caughtNB
      exact q
    | txt n =>
      show LB _ _ [some (.raw (.ref a)), some (.tup [.str "text", .int n]), none] m _
      k_caughtNB
      refine o_inT (ys := ["one", "own"]) ?_
      k_caughtNB
      exact q
    | one ys =>
      have hl : ys.length ≤ 8 := hk.2.1
      show LB _ _ [some (.raw (.ref a)), some (.tup [.str "one", .tup (wsD ys)]), none] m _
      k_caughtNB
      refine o_inT (ys := ["one", "own"]) ?_
      k_caughtNB
      refine le_callB (x := "sorted") (id := "sorted") bt_sorted (by assumption) ?_
      k_caughtNB
      rw [wsD_strs]
      refine c_sortedTS (by rw [List.length_map]; omega) fun zs e1 e2 => ?_
      have e3 := strs_back e1 e2
      subst e3
      k_caughtNB
      show Q (.tup [.str "words", .tup _]) m
      rw [← wsD_strs]
      exact q
    | own n =>
      obtain ⟨h1, h2⟩ := how
      show LB _ _ [some (.raw (.ref a)), some (.tup [.str "own", .str (SX.S n)]), none] m _
      k_caughtNB
      refine o_inT (ys := ["one", "own"]) ?_
      k_caughtNB
      refine ⟨a, dx, od, kvs, c, n, ow n, rfl, hk, hm, h1, ?_⟩
      k_caughtNB
      refine le_callB (x := "sorted") (id := "sorted") bt_sorted (by assumption) ?_
      k_caughtNB
      rw [wsD_strs]
      refine c_sortedS (by rw [List.length_map]; exact h2) fun zs e1 e2 => ?_
      have e3 := strs_back e1 e2
      subst e3
      k_caughtNB
      show Q (.tup [.str "words", .tup _]) m
      rw [← wsD_strs]
      exact q
theorem ok_tabK {f : Addr} {fd : FuncData} {C CK iK : Addr} (G : GrK K C) (TK : Ex_found.Txt K mg "NoKind" CK iK) (D1 : FnD P w K mg base "need_grammar" 3 (W_ngr C)) (D2 : FnD P w K mg base "is_kind" 2 (W_kind K))
    (F : Fun K "table_of" "table_of" s_table_of f fd) : FnG P w K mg base 4 f fd ["grammar", "kind"] (toSp K (W_tabK K C CK)) := by
  refine fn_dw F sc_table_of (fun ds m Q E h => ?_) (fun cdv A outer s H E gd ds m Q E' h => ?_)
  · obtain ⟨a, dx, fs, d, rfl, _⟩ := h
    rfl
  · obtain ⟨a, dx, fs, d, rfl, hm, htk, hfk, q⟩ := h
    show LB _ _ [some (.raw (.ref a)), some d, none] m _
    refine lb_midP [some (.raw (.ref a)), some d, none] m ?_ ?_
    · k_caughtNB
      refine ⟨a, dx, _, rfl, hm, ?_⟩
      k_caughtNB
      exact ⟨rfl, rfl⟩
    k_caughtNB
    refine ⟨_, rfl, htk, ?_⟩
    rw [hfk]
    k_caughtNB
    refine ls_raise_found TK gd ?_
    k_caughtNB
    exact q
theorem ok_tabG {f : Addr} {fd : FuncData} {CG : Addr} (D1 : FnD P w K mg base "need_grammar" 3 (W_ngrX CG)) (F : Fun K "table_of" "table_of" s_table_of f fd) : FnG P w K mg base 4 f fd ["grammar", "kind"] (toSp K (W_tabG CG)) := by
  refine fn_dw F sc_table_of (fun ds m Q E h => ?_) (fun cdv A outer s H E gd ds m Q E' h => ?_)
  · obtain ⟨d, e, rfl, _⟩ := h
    rfl
  · obtain ⟨d, e, rfl, hd, q⟩ := h
    show LB _ _ [some d, some e, none] m _
    k_caughtNB
    exact ⟨d, rfl, hd, q⟩
end
/-! ### general things of kinds -/
theorem ow_nil : Ow [] := ⟨by decide, (fun w h => by cases h), List.nodup_nil⟩
theorem sht_bl (b : Bool) : Sht (.bl b) := (Sm.bl (n := 5) (k := 0) (by decide)).sht (by decide) (by decide)
theorem plain_wsD (ws : List (List Nat)) : plains (wsD ws) = true := by
  induction ws with
  | nil => rfl
  | cons a t ih => exact ih
theorem lay_wsD {ws : List (List Nat)} (h : ∀ l ∈ ws, ∀ c ∈ l, c < 0x110000) : PyData.canLayAll0 (pys (wsD ws)) = true ∧ PyData.depthAll (pys (wsD ws)) = 0 := by
  induction ws with
  | nil => exact ⟨by simp [wsD, pys, PyData.canLayAll0], by simp [wsD, pys, PyData.depthAll]⟩
  | cons a t ih =>
    have := ih fun l hl => h l (List.mem_cons_of_mem _ hl)
    have ha := h a List.mem_cons_self
    unfold wsD at this ⊢
    constructor
    · simp only [List.map_cons, pys, PyData.canLayAll0, this.1, Bool.and_true]
      simp only [py, PyData.canLay0, PyData.strOk, SX.S]
      simpa using ha
    · simp only [List.map_cons, pys, PyData.depthAll, this.2]
      simp [py, PyData.depth]
theorem shape_wsD {ws : List (List Nat)} (h : ∀ l ∈ ws, ∀ c ∈ l, c < 0x110000) : SeqAt.shaped (py (.lst (wsD ws))) = true := by
  unfold SeqAt.shaped
  simp only [py, pys, PyData.canLay0, PyData.canLayAll0, PyData.depth, PyData.depthAll, (lay_wsD h).1, (lay_wsD h).2]
  decide +kernel
theorem Ow.uni {ws : List (List Nat)} (h : Ow ws) : ∀ l ∈ ws, ∀ c ∈ l, c < 0x110000 := fun l hl c hc => by have := ((h.sg l hl).2.2 c hc).2; omega
theorem zL_31 {i : Int} (h1 : -(10 ^ 30) ≤ i) (h2 : i ≤ 10 ^ 30) : (zL i).length ≤ 32 ∧ ∀ c ∈ zL i, c < 128 := by
  refine ⟨zL_len (k := 31) (by decide) (by omega), fun c hc => ?_⟩
  have hd : ∀ n c, c ∈ TL.numL n → c < 128 := fun n c hc => by
    have := TL.numL_digits n c hc
    omega
  unfold zL at hc
  split at hc
  · rcases List.mem_cons.mp hc with rfl | hc
    · decide
    · exact hd _ c hc
  · exact hd _ c hc
theorem wsD_app (a b : List (List Nat)) : wsD (a ++ b) = wsD a ++ wsD b := by unfold wsD; rw [List.map_append]
/-! ### a number's plain word writes it again -/
theorem head_numL {n : Nat} (h : (TL.numL n).head? = some 48) : n = 0 := by
  induction n using Nat.strongRecOn with
  | _ n ih =>
    by_cases h0 : n < 10
    · rw [TL.numL_lt h0] at h
      simp at h
      omega
    · rw [TL.numL_step (by omega)] at h
      have hne := TL.numL_ne (n / 10)
      have h2 : (TL.numL (n / 10)).head? = some 48 := by
        cases e : TL.numL (n / 10) with
        | nil => exact absurd e hne
        | cons a t => rw [e] at h; exact h
      have := ih (n / 10) (by omega) h2
      omega
theorem numOf_zL (z : Int) : numOf (zL z) = some z := by
  have hne := TL.numL_ne z.natAbs
  have hal : (TL.numL z.natAbs).all isFig = true := List.all_eq_true.mpr fun c hc => isFig_iff.mpr (TL.numL_digits _ c hc)
  have h45 : (TL.numL z.natAbs).head? ≠ some 45 := fun h => by
    have := TL.numL_digits z.natAbs 45 (List.mem_of_mem_head? h)
    omega
  have hv := TL.numL_val z.natAbs
  by_cases h : z < 0
  · have e : zL z = 45 :: TL.numL z.natAbs := by unfold zL; rw [if_pos h]
    have e2 : figs (zL z) = TL.numL z.natAbs := by rw [e]; rfl
    rw [numOf_int (by rw [e2]; exact hne) (by rw [e2]; exact hal) (by rw [e2]; exact fun q => by have := head_numL q.1; omega), e2, hv, if_pos (by rw [e]; rfl)]
    congr 1
    omega
  · have e : zL z = TL.numL z.natAbs := by unfold zL; rw [if_neg h]
    have e2 : figs (zL z) = TL.numL z.natAbs := by rw [e]; unfold figs; rw [if_neg h45]
    rw [numOf_int (by rw [e2]; exact hne) (by rw [e2]; exact hal) (by rw [e2, e]; exact fun q => q.2 (by rw [head_numL q.1]; rfl)), e2, hv, if_neg (by rw [e]; exact h45)]
    congr 1
    omega
/-! ### the box's things, framed; letters -/
theorem Bx.sub {b : Addr} {n : Nat} {m m' : Mu} (h : Bx b n m) (s : ∀ q ∈ m, q ∈ m') : Bx b n m' := by
  obtain ⟨x, y, z, h1, h2⟩ := h
  exact ⟨x, y, z, s _ h1, h2⟩
theorem lt26_get : ∀ j : Nat, j < 26 → LT26[j]? = some (97 + j) := by decide
theorem lt26_sg : ∀ c ∈ LT26, 97 ≤ c ∧ c ≤ 122 := fun c hc => of_decide_eq_true (List.all_eq_true.mp (show LT26.all (fun c => decide (97 ≤ c ∧ c ≤ 122)) = true by decide) c hc)
theorem sub_put {p : Addr} {c : Mc} {m m1 : Mu} (hs : ∀ x ∈ m, x ∈ m1) (hp : p ∉ dom m) : ∀ x ∈ m, x ∈ put p c m1 := fun x hx => put_other (c' := x.2) (hs x hx) fun z => hp (z ▸ List.mem_map.mpr ⟨x, hx, rfl⟩)
theorem sub_forget {p : Addr} {m m1 : Mu} (hs : ∀ x ∈ m, x ∈ m1) (hp : p ∉ dom m) : ∀ x ∈ m, x ∈ forget p m1 := fun x hx => forget_mem (hs x hx) fun z => hp (z ▸ List.mem_map.mpr ⟨x, hx, rfl⟩)
theorem Bx.sel {b : Addr} {n : Nat} {m : Mu} (h : Bx b n m) : Bx b n (sel b m) := by
  obtain ⟨x, y, z, h1, h2⟩ := h
  exact ⟨x, y, z, sel_mem h1 rfl, h2⟩
theorem Bx.put {b q : Addr} {n : Nat} {m : Mu} {c : Mc} (h : Bx b n m) (hn : b ≠ q) : Bx b n (put q c m) := by
  obtain ⟨x, y, z, h1, h2⟩ := h
  exact ⟨x, y, z, put_other h1 hn, h2⟩
theorem Bx.forget {b q : Addr} {n : Nat} {m : Mu} (h : Bx b n m) (hn : b ≠ q) : Bx b n (forget q m) := by
  obtain ⟨x, y, z, h1, h2⟩ := h
  exact ⟨x, y, z, forget_mem h1 hn, h2⟩
theorem Bx.dom {b : Addr} {n : Nat} {m : Mu} (h : Bx b n m) : b ∈ dom m := by
  obtain ⟨x, y, z, h1, h2⟩ := h
  exact List.mem_map.mpr ⟨_, h1, rfl⟩
theorem Kps.at {b q : Addr} {m m' : Mu} {c : Mc} (h : Kps b m m') (hm : (q, c) ∈ m) (hn : q ≠ b) : (q, c) ∈ m' := h _ hm hn
def W_takeF : Spd := fun ds m F E => ∃ b k n, ds = [.raw (.ref b), .int k] ∧ 0 < k ∧ k < 2 ^ 200 ∧ Bx b n m ∧ n ≤ 1000000 ∧ ∀ r m', 0 ≤ r → r < k → Bx b (n + 1) m' → Kps b m m' → F (.int r) m'
theorem W_takeF.ap {b : Addr} {k : Int} {n : Nat} {m : Mu} {F : Pd} {E : Value → List (Str × Dt) → Mu → Prop} (k0 : 0 < k) (k1 : k < 2 ^ 200) (hb : Bx b n m) (hn : n ≤ 1000000) (q : ∀ r m', 0 ≤ r → r < k → Bx b (n + 1) m' → Kps b m m' → F (.int r) m') : W_takeF [.raw (.ref b), .int k] m F E := ⟨b, k, n, rfl, k0, k1, hb, hn, q⟩
section
variable {P : Program} {w : World} {K : PySem.W.Frag} {mg : Str → Option Value} {base : Heap}
theorem take_fr (D : FnD P w K mg base "_law_take" 1 W_take) : FnD P w K mg base "_law_take" 1 W_takeF := D.fr fun ds m F E h => by
  obtain ⟨b, k, n, rfl, k0, k1, hb, hn, q⟩ := h
  exact ⟨b, b, k, n, rfl, k0, k1, hb.sel, hn, fun r m1 h0 h1 hb1 m' hs hk => q r m' h0 h1 (hb1.sub hs) hk⟩
end
/-! ### repr tells the thing -/
mutual
def rx : Dt → List Nat
  | .non => [78, 111, 110, 101]
  | .int i => zL i
  | .str x => rl x.cps.toList
  | .lst ds => 91 :: (jx ds ++ [93])
  | .tup ds => 40 :: (jx ds ++ (if ds.length = 1 then [44, 41] else [41]))
  | _ => []
def jx : List Dt → List Nat
  | [] => []
  | d :: ds => rx d ++ tx ds
def tx : List Dt → List Nat
  | [] => []
  | d :: ds => 44 :: 32 :: (rx d ++ tx ds)
end
mutual
def gx : Dt → Bool
  | .non => true
  | .int _ => true
  | .str x => x.cps.toList.all fun c => decide (32 ≤ c ∧ c ≤ 126)
  | .lst ds => gxs ds
  | .tup ds => gxs ds
  | _ => false
def gxs : List Dt → Bool
  | [] => true
  | d :: ds => gx d && gxs ds
end
theorem gxs_all : ∀ ds : List Dt, gxs ds = ds.all gx
  | [] => rfl
  | d :: ds => by rw [gxs, List.all_cons, gxs_all ds]
theorem join_tx : ∀ (ds : List Dt) (d : Dt), Str.join ", " ((d :: ds).map fun d => SX.S (rx d)) = SX.S (rx d ++ tx ds)
  | [], d => by
    show SX.S (rx d) = _
    rw [tx, List.append_nil]
  | e :: ds, d => by
    show SX.S (rx d) ++ ((", " : String) : Str) ++ Str.join ", " ((e :: ds).map fun d => SX.S (rx d)) = _
    rw [join_tx ds e]
    show SX.S (rx d) ++ SX.S [44, 32] ++ _ = _
    rw [SX.S_cat, SX.S_cat, tx]
    simp
theorem from_tx : ∀ (ds : List Dt) (k : Nat) (a : List Nat), textFrom (k + 1) (SX.S a) (ds.map fun d => SX.S (rx d)) = SX.S (a ++ tx ds)
  | [], k, a => by
    show SX.S a = _
    rw [tx, List.append_nil]
  | d :: ds, k, a => by
    rw [List.map_cons]
    show textFrom (k + 1 + 1) (SX.S a ++ (if k + 1 > 0 then ", " else "" : String) ++ SX.S (rx d)) _ = _
    rw [if_pos (Nat.succ_pos _)]
    have e : SX.S a ++ ((", " : String) : Str) ++ SX.S (rx d) = SX.S (a ++ [44, 32] ++ rx d) := by
      show SX.S a ++ SX.S [44, 32] ++ SX.S (rx d) = _
      rw [SX.S_cat, SX.S_cat]
    rw [e, from_tx ds (k + 1), tx]
    simp
mutual
theorem shows_rx : ∀ d : Dt, gx d = true → shows d = SX.S (rx d)
  | .non, _ => by unfold shows; simp [py, PyData.shown, rx]; rfl
  | .int i, _ => by
    have e : shows (.int i) = Str.ofString (toString i) := by simp [shows, py, PyData.shown]
    rw [e, str_zL, rx]
  | .str x, h => by
    have h' : ∀ c ∈ x.cps.toList, 32 ≤ c ∧ c ≤ 126 := fun c hc => of_decide_eq_true (List.all_eq_true.mp (show (x.cps.toList.all fun c => decide (32 ≤ c ∧ c ≤ 126)) = true by rw [gx] at h; exact h) c hc)
    have e : shows (.str x) = reprText (SX.S x.cps.toList) := by rw [SX.S_tl]; simp [shows, py, PyData.shown]
    rw [e, repr_rl h', rx]
  | .lst ds, h => by
    have e : shows (.lst ds) = listText (PyData.shownAll (pys ds)) := shown_lst ds
    rw [e, showsL_rx ds (by simpa [gx] using h), rx]
    unfold listText
    cases ds with
    | nil =>
      show SX.S [91] ++ SX.S [93] = _
      rw [SX.S_cat, jx]
      try rfl
    | cons d ds =>
      rw [List.map_cons]
      show textFrom (0 + 1) (SX.S [91] ++ (if 0 > 0 then ", " else "" : String) ++ SX.S (rx d)) _ ++ SX.S [93] = _
      rw [if_neg (by decide)]
      have e : SX.S [91] ++ (("" : String) : Str) ++ SX.S (rx d) = SX.S ([91] ++ rx d) := by
        show SX.S [91] ++ SX.S [] ++ SX.S (rx d) = _
        rw [SX.S_cat, SX.S_cat]
        simp
      rw [e, from_tx, SX.S_cat, jx]
      congr 1
      try simp
  | .tup ds, h => by
    have e : shows (.tup ds) = tupleText (PyData.shownAll (pys ds)) := shown_tup ds
    rw [e, showsL_rx ds (by simpa [gx] using h), rx]
    unfold tupleText
    cases ds with
    | nil =>
      show SX.S [40] ++ SX.S [] ++ SX.S [41] = _
      rw [SX.S_cat, SX.S_cat, jx]
      try rfl
    | cons d ds =>
      rw [join_tx, jx, List.length_map]
      cases ds with
      | nil =>
        show SX.S [40] ++ SX.S _ ++ SX.S [44, 41] = _
        rw [SX.S_cat, SX.S_cat]
        congr 1
      | cons e2 ds =>
        have n1 : (d :: e2 :: ds).length ≠ 1 := by simp
        rw [if_neg n1, if_neg (by simpa using n1)]
        show SX.S [40] ++ SX.S _ ++ SX.S [41] = _
        rw [SX.S_cat, SX.S_cat]
        congr 1
        try simp
theorem showsL_rx : ∀ ds : List Dt, gxs ds = true → PyData.shownAll (pys ds) = ds.map fun d => SX.S (rx d)
  | [], _ => by simp [pys, PyData.shownAll]
  | d :: ds, h => by
    have h' : gx d = true ∧ gxs ds = true := by simpa [gxs] using h
    simp only [pys, PyData.shownAll, List.map_cons]
    rw [showsL_rx ds h'.2]
    congr 1
    exact shows_rx d h'.1
end
def kx (c : Nat) : Nat := if c = 78 then 0 else if c = 34 ∨ c = 39 then 2 else if c = 91 then 3 else if c = 40 then 4 else if c = 45 ∨ (48 ≤ c ∧ c ≤ 57) then 1 else 9
def kxd : Dt → Nat
  | .non => 0
  | .int _ => 1
  | .str _ => 2
  | .lst _ => 3
  | .tup _ => 4
  | _ => 8
def isZ (c : Nat) : Bool := decide (c = 45 ∨ (48 ≤ c ∧ c ≤ 57))
theorem zL_isZ (z : Int) : ∀ c ∈ zL z, isZ c = true := by
  intro c hc
  unfold zL at hc
  refine decide_eq_true ?_
  split at hc
  · rcases List.mem_cons.mp hc with h | h
    · exact .inl h
    · exact .inr (TL.numL_digits _ c h)
  · exact .inr (TL.numL_digits _ c hc)
theorem zL_ne (z : Int) : zL z ≠ [] := by
  unfold zL
  split
  · exact List.cons_ne_nil _ _
  · exact TL.numL_ne _
theorem zL_inj {a b : Int} (h : zL a = zL b) : a = b := by
  have h1 := numOf_zL a
  rw [h, numOf_zL] at h1
  exact (Option.some.inj h1).symm
theorem head_rx {d : Dt} (h : gx d = true) : ∃ c t, rx d = c :: t ∧ kx c = kxd d := by
  cases d with
  | non => exact ⟨78, [111, 110, 101], by rw [rx], rfl⟩
  | int i =>
    cases e : zL i with
    | nil => exact absurd e (zL_ne i)
    | cons c t =>
      refine ⟨c, t, by rw [rx, e], ?_⟩
      have := of_decide_eq_true (zL_isZ i c (by rw [e]; exact List.mem_cons_self))
      unfold kx
      rw [if_neg (by omega), if_neg (by omega), if_neg (by omega), if_neg (by omega), if_pos this]
      rfl
  | str x =>
    refine ⟨rq x.cps.toList, x.cps.toList.flatMap (rc (rq x.cps.toList)) ++ [rq x.cps.toList], by rw [rx]; unfold rl; rfl, ?_⟩
    unfold kx
    rcases rq_or x.cps.toList with h | h <;> rw [h] <;> rfl
  | lst ds => exact ⟨91, _, by rw [rx], rfl⟩
  | tup ds => exact ⟨40, _, by rw [rx], rfl⟩
  | _ => cases h
/-- what may stand behind a thing's repr -/
def Dl (r : List Nat) : Prop := ∀ c t, r = c :: t → c = 44 ∨ c = 41 ∨ c = 93
def Ed (r : List Nat) : Prop := (∃ t, r = 93 :: t) ∨ (∃ t, r = 41 :: t) ∨ ∃ t, r = 44 :: 41 :: t
theorem Ed.dl {r : List Nat} (h : Ed r) : Dl r := fun c t e => by
  rcases h with ⟨u, rfl⟩ | ⟨u, rfl⟩ | ⟨u, rfl⟩
  · exact .inr (.inr (List.cons.inj e).1.symm)
  · exact .inr (.inl (List.cons.inj e).1.symm)
  · exact .inl (List.cons.inj e).1.symm
theorem Ed.tx {r : List Nat} (h : Ed r) : ∀ ds : List Dt, Dl (tx ds ++ r)
  | [] => by rw [K60.tx, List.nil_append]; exact h.dl
  | d :: ds => fun c t e => by
    rw [K60.tx] at e
    exact .inl (List.cons.inj e).1.symm
theorem span_z : ∀ {a b r s : List Nat}, (∀ c ∈ a, isZ c = true) → (∀ c ∈ b, isZ c = true) → Dl r → Dl s → a ++ r = b ++ s → a = b ∧ r = s
  | [], [], r, s, _, _, _, _, h => ⟨rfl, h⟩
  | [], c :: b, r, s, _, hb, hr, _, h => by
    have h1 := of_decide_eq_true (hb c List.mem_cons_self)
    have h2 := hr c (b ++ s) h
    omega
  | c :: a, [], r, s, ha, _, _, hs, h => by
    have h1 := of_decide_eq_true (ha c List.mem_cons_self)
    have h2 := hs c (a ++ r) h.symm
    omega
  | c :: a, d :: b, r, s, ha, hb, hr, hs, h => by
    have h1 := List.cons.inj h
    obtain ⟨h2, h3⟩ := span_z (fun x hx => ha x (List.mem_cons_of_mem _ hx)) (fun x hx => hb x (List.mem_cons_of_mem _ hx)) hr hs h1.2
    exact ⟨by rw [h1.1, h2], h3⟩
theorem tup_end {ds : List Dt} {r : List Nat} : Ed ((if ds.length = 1 then [44, 41] else [41]) ++ r) := by
  split
  · exact .inr (.inr ⟨r, rfl⟩)
  · exact .inr (.inl ⟨r, rfl⟩)
theorem kx_ed {r : List Nat} {c : Nat} {t : List Nat} (h : Ed r) (e : r = c :: t) : kx c = 9 := by
  rcases h.dl c t e with rfl | rfl | rfl <;> rfl
theorem kxd_lt {d : Dt} (h : gx d = true) : kxd d < 9 := by cases d <;> simp [kxd]
mutual
theorem rx_inj : ∀ (d e : Dt) (r s : List Nat), gx d = true → gx e = true → Dl r → Dl s → rx d ++ r = rx e ++ s → d = e ∧ r = s
  | d, e, r, s, hd, he, hr, hs, h => by
    obtain ⟨c1, t1, e1, k1⟩ := head_rx hd
    obtain ⟨c2, t2, e2, k2⟩ := head_rx he
    have hc : c1 = c2 := by
      rw [e1, e2] at h
      exact (List.cons.inj h).1
    have hk : kxd d = kxd e := by rw [← k1, ← k2, hc]
    match d, e, hk, hd, he, h with
    | .non, .non, _, _, _, h => exact ⟨rfl, List.append_cancel_left h⟩
    | .int i, .int j, _, _, _, h =>
      rw [rx, rx] at h
      obtain ⟨h1, h2⟩ := span_z (zL_isZ i) (zL_isZ j) hr hs h
      exact ⟨by rw [zL_inj h1], h2⟩
    | .str x, .str y, _, _, _, h =>
      rw [rx, rx] at h
      obtain ⟨h1, h2⟩ := rl_inj h
      refine ⟨?_, h2⟩
      rw [← SX.S_tl x, ← SX.S_tl y, h1]
    | .lst ds, .lst es, _, hd, he, h =>
      rw [rx, rx] at h
      have h1 : jx ds ++ ([93] ++ r) = jx es ++ ([93] ++ s) := by simpa using h
      obtain ⟨h2, h3⟩ := jx_inj ds es _ _ (by simpa [gx] using hd) (by simpa [gx] using he) (.inl ⟨r, rfl⟩) (.inl ⟨s, rfl⟩) h1
      exact ⟨by rw [h2], (List.cons.inj h3).2⟩
    | .tup ds, .tup es, _, hd, he, h =>
      rw [rx, rx] at h
      have h1 : jx ds ++ ((if ds.length = 1 then [44, 41] else [41]) ++ r) = jx es ++ ((if es.length = 1 then [44, 41] else [41]) ++ s) := by simpa using h
      obtain ⟨h2, h3⟩ := jx_inj ds es _ _ (by simpa [gx] using hd) (by simpa [gx] using he) tup_end tup_end h1
      subst h2
      exact ⟨rfl, List.append_cancel_left h3⟩
theorem jx_inj : ∀ (ds es : List Dt) (r s : List Nat), gxs ds = true → gxs es = true → Ed r → Ed s → jx ds ++ r = jx es ++ s → ds = es ∧ r = s
  | [], [], r, s, _, _, _, _, h => ⟨rfl, h⟩
  | [], e :: es, r, s, _, he, hr, _, h => by
    have he' : gx e = true ∧ gxs es = true := by simpa [gxs] using he
    obtain ⟨c, t, e1, k1⟩ := head_rx he'.1
    rw [jx, jx, List.nil_append, e1] at h
    have := kx_ed hr h
    have := kxd_lt he'.1
    omega
  | d :: ds, [], r, s, hd, _, _, hs, h => by
    have hd' : gx d = true ∧ gxs ds = true := by simpa [gxs] using hd
    obtain ⟨c, t, e1, k1⟩ := head_rx hd'.1
    rw [jx, jx, List.nil_append, e1] at h
    have := kx_ed hs h.symm
    have := kxd_lt hd'.1
    omega
  | d :: ds, e :: es, r, s, hd, he, hr, hs, h => by
    have hd' : gx d = true ∧ gxs ds = true := by simpa [gxs] using hd
    have he' : gx e = true ∧ gxs es = true := by simpa [gxs] using he
    rw [jx, jx, List.append_assoc, List.append_assoc] at h
    obtain ⟨h1, h2⟩ := rx_inj d e _ _ hd'.1 he'.1 (hr.tx ds) (hs.tx es) h
    obtain ⟨h3, h4⟩ := tx_inj ds es r s hd'.2 he'.2 hr hs h2
    exact ⟨by rw [h1, h3], h4⟩
theorem tx_inj : ∀ (ds es : List Dt) (r s : List Nat), gxs ds = true → gxs es = true → Ed r → Ed s → tx ds ++ r = tx es ++ s → ds = es ∧ r = s
  | [], [], r, s, _, _, _, _, h => ⟨rfl, h⟩
  | [], e :: es, r, s, _, he, hr, _, h => by
    rw [tx, tx, List.nil_append] at h
    rcases hr with ⟨u, rfl⟩ | ⟨u, rfl⟩ | ⟨u, rfl⟩
    · have := (List.cons.inj h).1; omega
    · have := (List.cons.inj h).1; omega
    · have := (List.cons.inj (List.cons.inj h).2).1; omega
  | d :: ds, [], r, s, hd, _, _, hs, h => by
    rw [tx, tx, List.nil_append] at h
    rcases hs with ⟨u, rfl⟩ | ⟨u, rfl⟩ | ⟨u, rfl⟩
    · have := (List.cons.inj h).1; omega
    · have := (List.cons.inj h).1; omega
    · have := (List.cons.inj (List.cons.inj h).2).1; omega
  | d :: ds, e :: es, r, s, hd, he, hr, hs, h => by
    have hd' : gx d = true ∧ gxs ds = true := by simpa [gxs] using hd
    have he' : gx e = true ∧ gxs es = true := by simpa [gxs] using he
    rw [tx, tx] at h
    have h0 : rx d ++ (tx ds ++ r) = rx e ++ (tx es ++ s) := by simpa using h
    obtain ⟨h1, h2⟩ := rx_inj d e _ _ hd'.1 he'.1 (hr.tx ds) (hs.tx es) h0
    obtain ⟨h3, h4⟩ := tx_inj ds es r s hd'.2 he'.2 hr hs h2
    exact ⟨by rw [h1, h3], h4⟩
end
theorem shows_one {d e : Dt} (hd : gx d = true) (he : gx e = true) (h : shows d = shows e) : d = e := by
  rw [shows_rx d hd, shows_rx e he] at h
  exact (rx_inj d e [] [] hd he (fun c t z => by cases z) (fun c t z => by cases z) (by rw [SX.S_inj h])).1
/-! ### what is drawn: unlike names, some the beginnings of others -/
def sgN (fi i : Nat) : Nat := 97 + (fi + 7 * i) % 26
def Fw (s wy fi : Nat) (st : List Nat) (i : Nat) (f : List Nat) : Prop :=
  (wy = 0 ∧ f = st.take (s + i % (8 - s)) ++ (if 5 < i then [sgN fi i] else [])) ∨ (wy = 1 ∧ f = List.replicate (s - 1) (sgN fi i) ++ st.take (1 + i % 6)) ∨ (wy = 2 ∧ ∃ j, j < 2 ∧ f = st.take (s - 1 + j) ++ [sgN fi i])
def othN (fi : Nat) (st : List Nat) (i : Nat) : List Nat := [97 + i, 113, 97 + (fi + i) % 26] ++ st.take 5
theorem Fw.len {s wy fi : Nat} {st : List Nat} {i : Nat} {f : List Nat} (h : Fw s wy fi st i f) (hs : st.length = 7) (s1 : 1 ≤ s) (s2 : s ≤ 2) (hi : i < 8) : 1 ≤ f.length ∧ f.length ≤ 8 ∧ (f.length = 8 → s = 1 ∧ wy = 0 ∧ i = 6) ∧ (s = 1 → wy = 0 → f.length = 2 → i = 1 ∨ i = 7) := by
  rcases h with ⟨rfl, rfl⟩ | ⟨rfl, rfl⟩ | ⟨rfl, j, hj, rfl⟩
  · rw [List.length_append, List.length_take, hs]
    rcases (by omega : s = 1 ∨ s = 2) with rfl | rfl
    · split
      · rw [List.length_singleton]; omega
      · rw [List.length_nil]; omega
    · split
      · rw [List.length_singleton]; omega
      · rw [List.length_nil]; omega
  · rw [List.length_append, List.length_take, hs, List.length_replicate]
    omega
  · rw [List.length_append, List.length_take, hs, List.length_singleton]
    omega
theorem sgN_ok (fi i : Nat) : 97 ≤ sgN fi i ∧ sgN fi i ≤ 122 := by unfold sgN; omega
theorem Fw.nl {s wy fi : Nat} {st : List Nat} {i : Nat} {f : List Nat} (h : Fw s wy fi st i f) (hs : st.length = 7) (hc : ∀ c ∈ st, 97 ≤ c ∧ c ≤ 122) (s1 : 1 ≤ s) (s2 : s ≤ 2) (hi : i < 8) : Nl f := by
  obtain ⟨h1, h2, _⟩ := h.len hs s1 s2 hi
  refine ⟨h1, h2, fun c hm => ?_⟩
  have hg := sgN_ok fi i
  rcases h with ⟨rfl, rfl⟩ | ⟨rfl, rfl⟩ | ⟨rfl, j, hj, rfl⟩
  · rcases List.mem_append.mp hm with hm | hm
    · exact hc c (List.mem_of_mem_take hm)
    · split at hm
      · rw [List.mem_singleton.mp hm]; exact hg
      · cases hm
  · rcases List.mem_append.mp hm with hm | hm
    · rw [(List.mem_replicate.mp hm).2]; exact hg
    · exact hc c (List.mem_of_mem_take hm)
  · rcases List.mem_append.mp hm with hm | hm
    · exact hc c (List.mem_of_mem_take hm)
    · rw [List.mem_singleton.mp hm]; exact hg
theorem othN_nl {fi : Nat} {st : List Nat} {i : Nat} (hs : st.length = 7) (hc : ∀ c ∈ st, 97 ≤ c ∧ c ≤ 122) (hi : i < 8) : Nl (othN fi st i) ∧ (othN fi st i).length = 8 := by
  have hl : (othN fi st i).length = 8 := by unfold othN; rw [List.length_append, List.length_take, hs]; rfl
  refine ⟨⟨by omega, by omega, fun c hm => ?_⟩, hl⟩
  unfold othN at hm
  rcases List.mem_append.mp hm with hm | hm
  · simp only [List.mem_cons, List.not_mem_nil, or_false] at hm
    omega
  · exact hc c (List.mem_of_mem_take hm)
/-- what is laid at place i: the found name, or another -/
def Sw (s wy fi : Nat) (st : List Nat) (i : Nat) (x : List Nat) : Prop := Fw s wy fi st i x ∨ x = othN fi st i
theorem oth_fresh {s wy fi : Nat} {st : List Nat} {ss : List (List Nat)} {f : List Nat} (hs : st.length = 7) (s1 : 1 ≤ s) (s2 : s ≤ 2) (hk : ss.length < 8) (h : ∀ (i : Nat) (x : List Nat), ss[i]? = some x → Sw s wy fi st i x) (hf : Fw s wy fi st ss.length f) (hin : f ∈ ss) : othN fi st ss.length ∉ ss := fun hm => by
  obtain ⟨i, hi⟩ := List.mem_iff_getElem?.mp hm
  have hil : i < ss.length := (List.getElem?_eq_some_iff.mp hi).1
  have hol : (othN fi st ss.length).length = 8 := by unfold othN; rw [List.length_append, List.length_take, hs]; rfl
  rcases h i _ hi with h1 | h1
  · obtain ⟨_, _, h2, _⟩ := h1.len hs s1 s2 (by omega)
    obtain ⟨rfl, rfl, rfl⟩ := h2 hol
    have h7 : ss.length = 7 := by omega
    rw [h7] at hf h1
    obtain ⟨j, hj⟩ := List.mem_iff_getElem?.mp hin
    have hjl : j < ss.length := (List.getElem?_eq_some_iff.mp hj).1
    obtain ⟨a0, a1, a2, a3, a4, a5, a6, rfl⟩ : ∃ a0 a1 a2 a3 a4 a5 a6, st = [a0, a1, a2, a3, a4, a5, a6] := by
      match st, hs with
      | [a0, a1, a2, a3, a4, a5, a6], _ => exact ⟨a0, a1, a2, a3, a4, a5, a6, rfl⟩
    have ef : f = [a0, sgN fi 7] := by
      rcases hf with ⟨_, hf⟩ | ⟨hf, _⟩ | ⟨hf, _⟩
      · rw [hf]; rfl
      · cases hf
      · cases hf
    have eo : [97 + 7, 113, 97 + (fi + 7) % 26, a0, a1, a2, a3, a4] = [a0, a1, a2, a3, a4, a5, a6, sgN fi 6] := by
      rcases h1 with ⟨_, h1⟩ | ⟨h1, _⟩ | ⟨h1, _⟩
      · exact h1
      · cases h1
      · cases h1
    injection eo with e0 eo
    injection eo with e1 eo
    injection eo with e2 eo
    injection eo with e3 eo
    injection eo with e4 eo
    injection eo with e5 eo
    injection eo with e6 eo
    injection eo with e7 eo
    rcases h j _ hj with h3 | h3
    · have h4 := (h3.len hs s1 s2 (by omega)).2.2.2 rfl rfl (by rw [ef]; rfl)
      have j1 : j = 1 := by omega
      subst j1
      rcases h3 with ⟨_, h3⟩ | ⟨h3, _⟩ | ⟨h3, _⟩
      · rw [ef] at h3
        have h5 : [a0, sgN fi 7] = [a0, a1] := h3
        injection h5 with _ h5
        injection h5 with h5 _
        unfold sgN at h5 e7
        omega
      · cases h3
      · cases h3
    · have := congrArg List.length h3
      rw [ef] at this
      unfold othN at this
      simp at this
  · unfold othN at h1
    have := (List.cons.inj h1).1
    omega
def W_nms : Spd := fun ds m F E => ∃ (b : Addr) (k s n : Nat), ds = [.raw (.ref b), .int (k : Nat), .int (s : Nat)] ∧ 1 ≤ k ∧ k ≤ 8 ∧ 1 ≤ s ∧ s ≤ 2 ∧ Bx b n m ∧ n ≤ 700000 ∧ ∀ (ys : List (List Nat)) m', ys.length = k → (∀ l ∈ ys, Nl l) → ys.Nodup → Bx b (n + 17) m' → F (.lst (wsD ys)) m'
section
variable {P : Program} {w : World} {K : PySem.W.Frag} {mg : Str → Option Value} {base : Heap}
theorem ok_nms {f : Addr} {fd : FuncData} (B : Bi mg) (D1 : FnD P w K mg base "_law_take" 1 W_take) (F : Fun K "_law_names" "_law_names" s_l_names f fd) : FnG P w K mg base 2 f fd ["_law_box_here", "_law_many", "_law_size"] (toSp K W_nms) := by
  refine fn_dw F sc_l_names (fun ds m Q E h => ?_) (fun cdv A outer s H E gd ds m Q E' h => ?_)
  · obtain ⟨b, k, sz, n, rfl, _⟩ := h
    rfl
  · obtain ⟨b, k, sz, n, rfl, k1, k8, s1, s2, hb, hn, q⟩ := h
    have hr1 := B.range; have hr2 := B.enumerate; have hr3 := B.int
    have D2 := take_fr D1
    show LB _ _ [some (.raw (.ref b)), some (.int (k : Nat)), some (.int (sz : Nat)), none, none, none, none, none, none, none, none, none, none] m _
    refine lb_midP [some (.raw (.ref b)), some (.int (k : Nat)), some (.int (sz : Nat)), some (.str (SX.S LT26)), none, none, none, none, none, none, none, none, none] m ?_ ?_
    · k_caughtNB
      exact ⟨rfl, rfl⟩
    refine lb_mid (fun r2 m2 => ∃ st : List Nat, st.length = 7 ∧ (∀ c ∈ st, 97 ≤ c ∧ c ≤ 122) ∧ r2 = [some (.raw (.ref b)), some (.int (k : Nat)), some (.int (sz : Nat)), some (.str (SX.S LT26)), some (.str (SX.S st)), none, none, none, none, none, none, none, none] ∧ Bx b (n + 7) m2) ?_ ?_
    · refine' ls_set gd ?hsl ?_
      (case hsl => tb_rel)
      refine le_join0 ?_
      k_subL
      refine li_rng1 hr1 ?_
      k_caughtNB
      refine ⟨by decide, by decide, ?_⟩
      refine lc_each (ds := rng 0 (7 : Int).toNat) (fun i acc m2 => ∃ cs : List Nat, acc = cs.map (fun c => Dt.str (SX.S [c])) ∧ cs.length = i ∧ (∀ c ∈ cs, 97 ≤ c ∧ c ≤ 122) ∧ Bx b (n + i) m2) gd (by rw [rng_len]; decide) ⟨[], rfl, rfl, by simp, hb⟩ (fun i d acc m2 hi hacc iv s1 H1 C1 cl1 fp1 gd1 => ?_) (fun acc m2 hacc iv => ?_)
      · obtain ⟨cs, rfl, hl, hc, hb2⟩ := iv
        have hi2 : i < 7 := by
          obtain ⟨h, _⟩ := List.getElem?_eq_some_iff.mp hi
          rw [rng_len] at h
          exact h
        k_caughtNB
        refine W_takeF.ap (by decide) (by decide) hb2 (by omega) (fun r2 m3 r20 r21 hb3 kp => ?_)
        refine oi_strM (l := LT26) (by decide) r20 r21 (fun c hcm => ?_)
        refine ⟨cs ++ [c], by simp, by simp [hl], fun x hx => ?_, hb3⟩
        rcases List.mem_append.mp hx with hx | hx
        · exact hc x hx
        · rw [List.mem_singleton.mp hx]
          exact lt26_sg c hcm
      · obtain ⟨cs, rfl, hl, hc, hb2⟩ := iv
        rw [rng_len] at hl hb2
        have hl' : cs.length = 7 := hl
        refine ⟨cs.map fun c => [c], by rw [List.map_map]; rfl, ?_, ?_⟩
        · rw [flat_one]; omega
        rw [flat_one]
        exact ⟨cs, hl', hc, rfl, hb2⟩
    intro r2 m2 hr
    obtain ⟨st, hst, hsc, rfl, hb2⟩ := hr
    refine lb_mid (fun r3 m3 => ∃ fi wy : Nat, fi < 26 ∧ wy < 3 ∧ r3 = [some (.raw (.ref b)), some (.int (k : Nat)), some (.int (sz : Nat)), some (.str (SX.S LT26)), some (.str (SX.S st)), none, some (.int (fi : Nat)), some (.int (wy : Nat)), none, none, none, none, none] ∧ Bx b (n + 9) m3) ?_ ?_
    · k_caughtNB
      refine W_takeF.ap (by decide) (by decide) hb2 (by omega) (fun a1 m3 a10 a11 hb3 kp => ?_)
      k_caughtNB
      refine W_takeF.ap (by decide) (by decide) hb3 (by omega) (fun a2 m4 a20 a21 hb4 kp2 => ?_)
      k_caughtNB
      exact ⟨a1.toNat, a2.toNat, by omega, by omega, by rw [Int.toNat_of_nonneg a10, Int.toNat_of_nonneg a20], hb4⟩
    intro r3 m3 hr
    obtain ⟨fi, wy, hfi, hwy, rfl, hb3⟩ := hr
    refine lb_cons ?_
    refine' ls_set gd ?hsl ?_
    (case hsl => tb_rel)
    refine le_mut (la_nil ⟨by decide, fun q1 hq1 => ?_⟩)
    have hbq : b ≠ q1 := fun z => hq1 (z ▸ hb3.dom)
    dsimp only
    have hb3' : Bx b (n + 9 + 0) ((q1, Mc.lst []) :: m3) := hb3.sub fun x hx => List.mem_cons_of_mem _ hx
    refine lb_mid (fun r4 m4 => ∃ (fs : List (List Nat)) (o1 o2 : Option Dt), r4 = [some (.raw (.ref b)), some (.int (k : Nat)), some (.int (sz : Nat)), some (.str (SX.S LT26)), some (.str (SX.S st)), o1, some (.int (fi : Nat)), some (.int (wy : Nat)), some (.raw (.ref q1)), o2, none, none, none] ∧
      (q1, Mc.lst (wsD fs)) ∈ m4 ∧ fs.length = k ∧ (∀ (i : Nat) x, fs[i]? = some x → Fw sz wy fi st i x) ∧ Bx b (n + 9 + k) m4) ?_ ?_
    · refine ls_for gd (fun ds i r4 m4 => ds.length = k ∧ ∃ (fs : List (List Nat)) (o1 o2 : Option Dt), r4 = [some (.raw (.ref b)), some (.int (k : Nat)), some (.int (sz : Nat)), some (.str (SX.S LT26)), some (.str (SX.S st)), o1, some (.int (fi : Nat)), some (.int (wy : Nat)), some (.raw (.ref q1)), o2, none, none, none] ∧
        (q1, Mc.lst (wsD fs)) ∈ m4 ∧ fs.length = i ∧ (∀ (i : Nat) x, fs[i]? = some x → Fw sz wy fi st i x) ∧ Bx b (n + 9 + i) m4) ?_
      refine li_rng1 hr1 ?_
      k_caughtNB
      refine ⟨by omega, by omega, ⟨by rw [rng_len]; omega, [], none, none, rfl, List.mem_cons_self, rfl, fun i x hx => by simp at hx, hb3'⟩, fun i d r4 m4 hi iv => ?_, fun r4 m4 iv => ?_⟩
      rotate_left
      · obtain ⟨hdl, fs, o1, o2, rfl, h1, h2, h3, h4⟩ := iv
        rw [hdl] at h2 h4
        exact ⟨fs, o1, o2, rfl, h1, h2, h3, h4⟩
      obtain ⟨hdl, fs, o1, o2, rfl, h1, h2, h3, h4⟩ := iv
      obtain ⟨hik, rfl⟩ := rng_get' hi
      have hik : i < k := by omega
      have hfl : (wsD fs).length < sizeLine := by rw [wsD_len, sizeLine_eq]; omega
      have hmod : ((fi : Int) + 7 * (0 + (i : Int))) % 26 = (((fi + 7 * i) % 26 : Nat) : Int) := by omega
      have hlt : (fi + 7 * i) % 26 < 26 := Nat.mod_lt _ (by decide)
      have hi0 : (0 : Int) + (i : Int) = (i : Nat) := by omega
      have h80 : 0 ≤ ((0 : Int) + (i : Int)) % (8 - (sz : Int)) := Int.emod_nonneg _ (by omega)
      k_caughtNB
      refine o_mul (.inl (by decide)) ?_
      k_caughtNB
      refine o_mod (by decide) ?_
      rw [hmod]
      refine oi_S (by decide) (lt26_get _ hlt) ?_
      k_caughtNB
      have fin : ∀ (x : List Nat) (m5 : Mu) (o1 o2 : Option Dt), Fw sz wy fi st i x → (q1, Mc.lst (wsD fs)) ∈ m5 → Bx b (n + 9 + (i + 1)) m5 →
          (rng 0 ((k : Nat) : Int).toNat).length = k ∧ ∃ (fs' : List (List Nat)) (p1 p2 : Option Dt), [some (.raw (.ref b)), some (.int (k : Nat)), some (.int (sz : Nat)), some (.str (SX.S LT26)), some (.str (SX.S st)), o1, some (.int (fi : Nat)), some (.int (wy : Nat)), some (.raw (.ref q1)), o2, none, none, none] = [some (.raw (.ref b)), some (.int (k : Nat)), some (.int (sz : Nat)), some (.str (SX.S LT26)), some (.str (SX.S st)), p1, some (.int (fi : Nat)), some (.int (wy : Nat)), some (.raw (.ref q1)), p2, none, none, none] ∧
            (q1, Mc.lst (wsD fs')) ∈ put q1 (.lst (wsD fs ++ [.str (SX.S x)])) m5 ∧ fs'.length = i + 1 ∧ (∀ (i : Nat) x, fs'[i]? = some x → Fw sz wy fi st i x) ∧ Bx b (n + 9 + (i + 1)) (put q1 (.lst (wsD fs ++ [.str (SX.S x)])) m5) := fun x m5 o1 o2 hx hq hbx => by
        refine ⟨hdl, fs ++ [x], o1, o2, rfl, ?_, by simp [h2], fun j y hy => ?_, hbx.put hbq⟩
        · rw [wsD_app]
          exact put_mem hq
        · by_cases hj : j < fs.length
          · rw [List.getElem?_append_left hj] at hy
            exact h3 j y hy
          · rw [List.getElem?_append_right (by omega)] at hy
            have hj0 : j - fs.length = 0 := by
              have := (List.getElem?_eq_some_iff.mp hy).1
              simp at this
              omega
            rw [hj0] at hy
            cases hy
            rw [show j = i by omega]
            exact hx
      rcases (by omega : wy = 0 ∨ wy = 1 ∨ wy = 2) with rfl | rfl | rfl
      · k_caughtNB
        refine le_append ?_
        k_caughtNB
        refine ⟨⟨q1, _, rfl, h1⟩, ?_⟩
        k_caughtNB
        refine le_sl_str ?_
        k_caughtNB
        refine o_mod (by omega) ?_
        k_caughtNB
        refine ⟨by rw [SX.S_len, sizeLine_eq]; omega, ?_⟩
        rw [cut_to (by omega)]
        k_caughtNB
        refine o_mulS (by simp) (by split <;> decide) (by split <;> decide) ?_
        refine o_addS (by
          rw [List.length_take, sizeLine_eq]
          split <;> simp <;> omega) ?_
        k_caughtNB
        refine ⟨q1, _, _, rfl, rfl, h1, hfl, ?_⟩
        refine fin _ m4 _ _ (.inl ⟨rfl, ?_⟩) h1 (h4.mono (by omega))
        have e1 : ((sz : Int) + (0 + (i : Int)) % (8 - (sz : Int))).toNat = sz + i % (8 - sz) := by
          have : ((0 : Int) + (i : Int)) % (8 - (sz : Int)) = ((i % (8 - sz) : Nat) : Int) := by
            rw [hi0, show (8 : Int) - (sz : Int) = ((8 - sz : Nat) : Int) by omega]
            exact (Int.natCast_emod _ _).symm
          omega
        rw [e1]
        congr 1
        by_cases h5 : 5 < i
        · rw [if_pos h5, decide_eq_true (show (5 : Int) < 0 + (i : Int) by omega)]
          rfl
        · rw [if_neg h5, decide_eq_false (show ¬ (5 : Int) < 0 + (i : Int) by omega)]
          rfl
      · k_caughtNB
        refine le_append ?_
        k_caughtNB
        refine ⟨⟨q1, _, rfl, h1⟩, ?_⟩
        k_caughtNB
        refine o_mulS (by simp) (by omega) (by omega) ?_
        refine le_sl_str ?_
        k_caughtNB
        refine o_mod (by decide) ?_
        k_caughtNB
        refine ⟨by rw [SX.S_len, sizeLine_eq]; omega, ?_⟩
        rw [cut_to (by omega)]
        have e2 : (List.replicate ((sz : Int) - 1).toNat [97 + (fi + 7 * i) % 26]).flatten = List.replicate (sz - 1) (sgN fi i) := by
          rw [show ((sz : Int) - 1).toNat = sz - 1 by omega]
          rcases (by omega : sz = 1 ∨ sz = 2) with rfl | rfl <;> rfl
        rw [e2]
        refine o_addS (by
          rw [List.length_take, List.length_replicate, sizeLine_eq]
          omega) ?_
        k_caughtNB
        refine ⟨q1, _, _, rfl, rfl, h1, hfl, ?_⟩
        refine fin _ m4 _ _ (.inr (.inl ⟨rfl, ?_⟩)) h1 (h4.mono (by omega))
        have e1 : ((1 : Int) + (0 + (i : Int)) % 6).toNat = 1 + i % 6 := by omega
        rw [e1]
      · k_caughtNB
        refine le_append ?_
        k_caughtNB
        refine ⟨⟨q1, _, rfl, h1⟩, ?_⟩
        k_caughtNB
        refine le_sl_str ?_
        k_caughtNB
        refine W_takeF.ap (by decide) (by decide) h4 (by omega) (fun a1 m5 a10 a11 hb5 kp => ?_)
        k_caughtNB
        refine ⟨by rw [SX.S_len, sizeLine_eq]; omega, ?_⟩
        rw [cut_to (by omega)]
        k_caughtNB
        refine o_addS (by
          rw [List.length_take, sizeLine_eq]
          simp
          omega) ?_
        k_caughtNB
        have h1' := kp _ h1 hbq.symm
        refine ⟨q1, _, _, rfl, rfl, h1', hfl, ?_⟩
        refine fin _ m5 _ _ (.inr (.inr ⟨rfl, a1.toNat, by omega, ?_⟩)) h1' (hb5.mono (by omega))
        have e1 : ((sz : Int) - 1 + a1).toNat = sz - 1 + a1.toNat := by omega
        rw [e1]
        rfl
    intro r4 m4 hr
    obtain ⟨fs, o1, o2, rfl, h1, h2, h3, h4⟩ := hr
    refine lb_freeze (p := q1) (ds := wsD fs) 8 h1 rfl ?_
    have h4' := h4.forget hbq
    generalize forget q1 m4 = m5 at h4'
    show LB _ _ [some (.raw (.ref b)), some (.int (k : Nat)), some (.int (sz : Nat)), some (.str (SX.S LT26)), some (.str (SX.S st)), o1, some (.int (fi : Nat)), some (.int (wy : Nat)), some (.lst (wsD fs)), o2, none, none, none] m5 _
    refine lb_cons ?_
    refine' ls_set gd ?hsl ?_
    (case hsl => tb_rel)
    refine le_mut (la_nil ⟨by decide, fun q2 hq2 => ?_⟩)
    have hbq2 : b ≠ q2 := fun z => hq2 (z ▸ h4'.dom)
    dsimp only
    have h5 : Bx b (n + 9 + k) ((q2, Mc.lst []) :: m5) := h4'.sub fun x hx => List.mem_cons_of_mem _ hx
    refine lb_mid (fun r6 m6 => ∃ (ss : List (List Nat)) (o1 o2 o3 o4 : Option Dt), r6 = [some (.raw (.ref b)), some (.int (k : Nat)), some (.int (sz : Nat)), some (.str (SX.S LT26)), some (.str (SX.S st)), o1, some (.int (fi : Nat)), some (.int (wy : Nat)), some (.lst (wsD fs)), o2, some (.raw (.ref q2)), o3, o4] ∧
      (q2, Mc.lst (wsD ss)) ∈ m6 ∧ ss.length = k ∧ (∀ l ∈ ss, Nl l) ∧ ss.Nodup ∧ Bx b (n + 9 + k) m6) ?_ ?_
    · refine ls_for gd (fun ds i r6 m6 => ds = enumD (wsD fs) ∧ ∃ (ss : List (List Nat)) (o1 o2 o3 o4 : Option Dt), r6 = [some (.raw (.ref b)), some (.int (k : Nat)), some (.int (sz : Nat)), some (.str (SX.S LT26)), some (.str (SX.S st)), o1, some (.int (fi : Nat)), some (.int (wy : Nat)), some (.lst (wsD fs)), o2, some (.raw (.ref q2)), o3, o4] ∧
        (q2, Mc.lst (wsD ss)) ∈ m6 ∧ ss.length = i ∧ (∀ (i : Nat) x, ss[i]? = some x → Sw sz wy fi st i x) ∧ ss.Nodup ∧ Bx b (n + 9 + k) m6) ?_
      refine li_enum hr2 ?_
      k_caughtNB
      refine ⟨⟨rfl, [], o1, o2, none, none, rfl, List.mem_cons_self, rfl, fun i x hx => by simp at hx, .nil, h5⟩, fun i d r6 m6 hi iv => ?_, fun r6 m6 iv => ?_⟩
      rotate_left
      · obtain ⟨_, ss, p1, p2, p3, p4, rfl, i1, i2, i3, i4, i5⟩ := iv
        rw [enumD_len, wsD_len, h2] at i2
        refine ⟨ss, p1, p2, p3, p4, rfl, i1, i2, fun l hl => ?_, i4, i5⟩
        obtain ⟨j, hj⟩ := List.mem_iff_getElem?.mp hl
        have hjk : j < 8 := by
          have := (List.getElem?_eq_some_iff.mp hj).1
          omega
        rcases i3 j l hj with z | rfl
        · exact z.nl hst hsc s1 s2 hjk
        · exact (othN_nl hst hsc hjk).1
      obtain ⟨_, ss, p1, p2, p3, p4, rfl, i1, i2, i3, i4, i5⟩ := iv
      obtain ⟨e, he, rfl⟩ := enumD_get hi
      have hik : i < k := by
        have := (List.getElem?_eq_some_iff.mp he).1
        rw [wsD_len, h2] at this
        exact this
      obtain ⟨f, hf, rfl⟩ : ∃ f, fs[i]? = some f ∧ e = .str (SX.S f) := by
        unfold wsD at he
        rw [List.getElem?_map] at he
        cases z : fs[i]? with
        | none => rw [z] at he; cases he
        | some f => rw [z] at he; cases he; exact ⟨f, rfl, rfl⟩
      have hfw := h3 i f hf
      have hfl : (wsD ss).length < sizeLine := by rw [wsD_len, sizeLine_eq]; omega
      have hlt : (fi + i) % 26 < 26 := Nat.mod_lt _ (by decide)
      have hmod : ((fi : Int) + (i : Int)) % 26 = (((fi + i) % 26 : Nat) : Int) := by omega
      k_caughtNB
      refine oi_S (by decide) (lt26_get i (by omega)) ?_
      k_caughtNB
      refine o_addS (a := [97 + i]) (b := [113]) (by simp [sizeLine_eq]) ?_
      k_caughtNB
      refine o_mod (by decide) ?_
      rw [hmod]
      refine oi_S (by decide) (lt26_get _ hlt) ?_
      refine o_addS (by simp [sizeLine_eq]) ?_
      k_caughtNB
      refine o_addS (by simp [sizeLine_eq]; omega) ?_
      k_caughtNB
      refine le_append ?_
      k_caughtNB
      refine ⟨⟨q2, _, rfl, i1⟩, ?_⟩
      k_caughtNB
      have i1' : (q2, Mc.lst ((ss.map SX.S).map Dt.str)) ∈ m6 := by rw [← wsD_strs]; exact i1
      refine o_notInM i1' ?_
      have emem : decide (SX.S f ∈ ss.map SX.S) = decide (f ∈ ss) := decide_eq_decide.mpr ⟨fun h => by
        obtain ⟨y, hy, e⟩ := List.mem_map.mp h
        rw [← SX.S_inj e]; exact hy, fun h => List.mem_map.mpr ⟨f, h, rfl⟩⟩
      rw [emem]
      have fin : ∀ x : List Nat, Sw sz wy fi st i x → x ∉ ss → ∀ (o1 o2 o3 o4 : Option Dt), enumD (wsD fs) = enumD (wsD fs) ∧ ∃ (ss' : List (List Nat)) (p1 p2 p3 p4 : Option Dt), [some (.raw (.ref b)), some (.int (k : Nat)), some (.int (sz : Nat)), some (.str (SX.S LT26)), some (.str (SX.S st)), o1, some (.int (fi : Nat)), some (.int (wy : Nat)), some (.lst (wsD fs)), o2, some (.raw (.ref q2)), o3, o4] = [some (.raw (.ref b)), some (.int (k : Nat)), some (.int (sz : Nat)), some (.str (SX.S LT26)), some (.str (SX.S st)), p1, some (.int (fi : Nat)), some (.int (wy : Nat)), some (.lst (wsD fs)), p2, some (.raw (.ref q2)), p3, p4] ∧
          (q2, Mc.lst (wsD ss')) ∈ put q2 (.lst (wsD ss ++ [.str (SX.S x)])) m6 ∧ ss'.length = i + 1 ∧ (∀ (i : Nat) x, ss'[i]? = some x → Sw sz wy fi st i x) ∧ ss'.Nodup ∧ Bx b (n + 9 + k) (put q2 (.lst (wsD ss ++ [.str (SX.S x)])) m6) := fun x hx hn o1 o2 o3 o4 => by
        refine ⟨rfl, ss ++ [x], o1, o2, o3, o4, rfl, ?_, by simp [i2], fun j y hy => ?_, ?_, i5.put hbq2⟩
        · rw [wsD_app]
          exact put_mem i1
        · by_cases hj : j < ss.length
          · rw [List.getElem?_append_left hj] at hy
            exact i3 j y hy
          · rw [List.getElem?_append_right (by omega)] at hy
            have hj0 : j - ss.length = 0 := by
              have := (List.getElem?_eq_some_iff.mp hy).1
              simp at this
              omega
            rw [hj0] at hy
            cases hy
            rw [show j = i by omega]
            exact hx
        · refine List.nodup_append.mpr ⟨i4, by simp, fun a ha c hc e => ?_⟩
          rw [List.mem_singleton.mp hc] at e
          exact hn (e ▸ ha)
      by_cases hin : f ∈ ss
      · rw [decide_eq_true hin]
        k_caughtNB
        refine le_sl_str ?_
        k_caughtNB
        refine ⟨by rw [SX.S_len, sizeLine_eq]; simp; omega, ?_⟩
        rw [cut_to (by decide)]
        k_caughtNB
        refine ⟨q2, _, _, rfl, rfl, i1, hfl, ?_⟩
        have eo : ([97 + i] ++ [113] ++ [97 + (fi + i) % 26] ++ st).take (8 : Int).toNat = othN fi st i := by
          show List.take 8 ((97 + i) :: 113 :: (97 + (fi + i) % 26) :: st) = _
          unfold othN
          simp
        rw [eo]
        refine fin _ (.inr rfl) ?_ _ _ _ _
        rw [← i2]
        exact oth_fresh hst s1 s2 (by omega) i3 (by rw [i2]; exact hfw) hin
      · rw [decide_eq_false hin]
        k_caughtNB
        refine ⟨q2, _, _, rfl, rfl, i1, hfl, ?_⟩
        exact fin _ (.inl hfw) hin _ _ _ _
    intro r6 m6 hr
    obtain ⟨ss, p1, p2, p3, p4, rfl, i1, i2, i3, i4, i5⟩ := hr
    refine lb_freeze (p := q2) (ds := wsD ss) 10 i1 rfl ?_
    show LB _ _ [some (.raw (.ref b)), some (.int (k : Nat)), some (.int (sz : Nat)), some (.str (SX.S LT26)), some (.str (SX.S st)), p1, some (.int (fi : Nat)), some (.int (wy : Nat)), some (.lst (wsD fs)), p2, some (.lst (wsD ss)), p3, p4] _ _
    k_caughtNB
    exact q ss _ i2 i3 i4 ((i5.forget hbq2).mono (by omega))
end
/-! ### what is drawn: kinds near to one another, own tables -/
abbrev wW : List Nat := [119]
abbrev wO : List Nat := [111]
abbrev wE : List Nat := [101]
def tl2 (ys : List (List Nat)) : List (List Nat) := if ys.tail = [] then [[122, 122]] else ys.tail
def kds (lo mo mn : Int) (ys : List (List Nat)) : List Kd := [.num lo (lo + mo), .num lo (lo + mo + 1), .num (lo - 1) (lo + mo), .nam, .one ys, .one ys.reverse, .one (tl2 ys), .own wW, .own wO, .txt mn, .txt (mn % 20 + 1), .own wE, .num lo (lo + mo)]
structure Nm8 (ys : List (List Nat)) : Prop where
  l1 : 1 ≤ ys.length
  l8 : ys.length ≤ 8
  nl : ∀ l ∈ ys, Nl l
  nd : ys.Nodup
def W_kds : Spd := fun ds m F E => ∃ b n, ds = [.raw (.ref b)] ∧ Bx b n m ∧ n ≤ 600000 ∧ ∀ lo mo mn ys m', -4 ≤ lo → lo ≤ 4 → 0 ≤ mo → mo ≤ 2 → 1 ≤ mn → mn ≤ 20 → Nm8 ys → Bx b (n + 21) m' → F (.tup [.lst ((kds lo mo mn ys).map Kd.d), .tup (wsD ys)]) m'
def heapW (ws : List (List Nat)) (i : Int) : List (Key × Dt) := [((.inr "w" : Key), .lst (wsD ws)), (.inr "o", .lst (wsD [zL i, [45]])), (.inr "e", .lst [])]
def W_tbs : Spd := fun ds m F E => ∃ b n ys, ds = [.raw (.ref b), .tup (wsD ys)] ∧ Nm8 ys ∧ Bx b n m ∧ n ≤ 600000 ∧ ∀ ws i m', (ws = ys ∨ ws = (ys ++ [[97, 32, 98]]).drop ((ys ++ [[97, 32, 98]]).length - 8)) → -4 ≤ i → i ≤ 4 → Bx b (n + 2) m' → F (.dct (heapW ws.reverse i)) m'
theorem wsD_rev (ws : List (List Nat)) : (wsD ws).reverse = wsD ws.reverse := by unfold wsD; rw [List.map_reverse]
theorem wsD_drop (ws : List (List Nat)) (n : Nat) : (wsD ws).drop n = wsD (ws.drop n) := by unfold wsD; rw [List.map_drop]
section
variable {P : Program} {w : World} {K : PySem.W.Frag} {mg : Str → Option Value} {base : Heap}
theorem ok_kds {f : Addr} {fd : FuncData} (B : Bi mg) (D1 : FnD P w K mg base "_law_take" 1 W_take) (D3 : FnD P w K mg base "_law_names" 2 W_nms) (F : Fun K "_law_kinds" "_law_kinds" s_l_kinds f fd) : FnG P w K mg base 3 f fd ["_law_box_here"] (toSp K W_kds) := by
  refine fn_dw F sc_l_kinds (fun ds m Q E h => ?_) (fun cdv A outer s H E gd ds m Q E' h => ?_)
  · obtain ⟨b, n, rfl, _⟩ := h
    rfl
  · obtain ⟨b, n, rfl, hb, hn, q⟩ := h
    have hb1 := B.tuple
    have D2 := take_fr D1
    show LB _ _ [some (.raw (.ref b)), none, none, none, none, none] m _
    refine lb_mid (fun r2 m2 => ∃ lo mo : Int, -4 ≤ lo ∧ lo ≤ 4 ∧ 0 ≤ mo ∧ mo ≤ 2 ∧ r2 = [some (.raw (.ref b)), some (.int lo), some (.int mo), none, none, none] ∧ Bx b (n + 2) m2) ?_ ?_
    · k_caughtNB
      refine W_takeF.ap (by decide) (by decide) hb (by omega) (fun a1 m3 a10 a11 hb3 kp => ?_)
      k_caughtNB
      refine W_takeF.ap (by decide) (by decide) hb3 (by omega) (fun a2 m4 a20 a21 hb4 kp2 => ?_)
      k_caughtNB
      exact ⟨a1 - 4, a2, by omega, by omega, a20, by omega, rfl, hb4⟩
    intro r2 m2 hr
    obtain ⟨lo, mo, lo1, lo2, mo1, mo2, rfl, hb2⟩ := hr
    refine lb_mid (fun r3 m3 => ∃ ys, Nm8 ys ∧ r3 = [some (.raw (.ref b)), some (.int lo), some (.int mo), some (.tup (wsD ys)), none, none] ∧ Bx b (n + 20) m3) ?_ ?_
    · k_caughtNB
      refine W_takeF.ap (by decide) (by decide) hb2 (by omega) (fun a1 m3 a10 a11 hb3 kp => ?_)
      obtain ⟨j, rfl⟩ := Int.eq_ofNat_of_zero_le a10
      k_caughtNB
      refine ⟨b, 1 + j, 1, n + 2 + 1, by rw [show ((1 : Int) + (j : Int)) = ((1 + j : Nat) : Int) by omega]; rfl, by omega, by omega, by omega, by omega, hb3, by omega, fun ys m4 h1 h2 h3 hb4 => ?_⟩
      k_caughtNB
      exact ⟨ys, ⟨by omega, by omega, h2, h3⟩, rfl, hb4⟩
    intro r3 m3 hr
    obtain ⟨ys, hy, rfl, hb3⟩ := hr
    have hl8 := hy.l8
    refine lb_midP [some (.raw (.ref b)), some (.int lo), some (.int mo), some (.tup (wsD ys)), some (.lst [Kd.d (.num lo (lo + mo)), Kd.d (.num lo (lo + mo + 1)), Kd.d (.num (lo - 1) (lo + mo)), Kd.d .nam]), none] m3 ?_ ?_
    · k_caughtNB
      exact ⟨rfl, rfl⟩
    refine lb_midP [some (.raw (.ref b)), some (.int lo), some (.int mo), some (.tup (wsD ys)), some (.lst [Kd.d (.num lo (lo + mo)), Kd.d (.num lo (lo + mo + 1)), Kd.d (.num (lo - 1) (lo + mo)), Kd.d .nam, Kd.d (.one ys), Kd.d (.one ys.reverse), Kd.d (.one (tl2 ys)), Kd.d (.own wW), Kd.d (.own wO)]), none] m3 ?_ ?_
    · k_caughtNB
      refine le_back ?_
      k_caughtNB
      refine le_sl_tup ?_
      k_caughtNB
      rw [cutD_from (by decide), show (1 : Int).toNat = 1 from rfl, wsD_drop, wsD_rev, List.drop_one]
      have fin : ∀ zs : List (List Nat), zs = tl2 ys → [some (Dt.raw (.ref b)), some (.int lo), some (.int mo), some (.tup (wsD ys)), some (.lst ([Kd.d (.num lo (lo + mo)), Kd.d (.num lo (lo + mo + 1)), Kd.d (.num (lo - 1) (lo + mo)), Kd.d .nam] ++ [Kd.d (.one ys), Kd.d (.one ys.reverse), Kd.d (.one zs), Kd.d (.own wW), Kd.d (.own wO)])), none] =
          [some (Dt.raw (.ref b)), some (.int lo), some (.int mo), some (.tup (wsD ys)), some (.lst [Kd.d (.num lo (lo + mo)), Kd.d (.num lo (lo + mo + 1)), Kd.d (.num (lo - 1) (lo + mo)), Kd.d .nam, Kd.d (.one ys), Kd.d (.one ys.reverse), Kd.d (.one (tl2 ys)), Kd.d (.own wW), Kd.d (.own wO)]), none] := fun zs e => by rw [e]; rfl
      by_cases he : ys.tail = []
      · rw [he]
        refine itFd rfl ?_
        k_caughtNB
        refine o_cat (by simp [sizeLine_eq]) ?_
        exact ⟨fin [[122, 122]] (by unfold tl2; rw [if_pos he]), rfl⟩
      · refine itTd (by
          cases h : ys.tail with
          | nil => exact absurd h he
          | cons a t => rfl) ?_
        k_caughtNB
        refine o_cat (by simp [sizeLine_eq]) ?_
        exact ⟨fin ys.tail (by unfold tl2; rw [if_neg he]), rfl⟩
    k_caughtNB
    refine W_takeF.ap (by decide) (by decide) hb3 (by omega) (fun a1 m4 a10 a11 hb4 kp => ?_)
    k_caughtNB
    refine o_mod (by decide) ?_
    k_caughtNB
    refine o_cat (by simp [sizeLine_eq]) ?_
    k_caughtNB
    exact q lo mo (1 + a1) ys m4 lo1 lo2 mo1 mo2 (by omega) (by omega) hy hb4
theorem ok_tbs {f : Addr} {fd : FuncData} (B : Bi mg) (D1 : FnD P w K mg base "_law_take" 1 W_take) (F : Fun K "_law_tables" "_law_tables" s_l_tables f fd) : FnG P w K mg base 2 f fd ["_law_box_here", "_law_names_here"] (toSp K W_tbs) := by
  refine fn_dw F sc_l_tables (fun ds m Q E h => ?_) (fun cdv A outer s H E gd ds m Q E' h => ?_)
  · obtain ⟨b, n, ys, rfl, _⟩ := h
    rfl
  · obtain ⟨b, n, ys, rfl, hy, hb, hn, q⟩ := h
    have hb1 := B.list; have hb2 := B.str
    have D2 := take_fr D1
    have hl8 := hy.l8
    show LB _ _ [some (.raw (.ref b)), some (.tup (wsD ys)), none] m _
    refine lb_midP [some (.raw (.ref b)), some (.tup (wsD ys)), some (.lst (wsD ys))] m ?_ ?_
    · k_caughtNB
      exact ⟨rfl, rfl⟩
    refine lb_mid (fun r2 m2 => ∃ ws, (ws = ys ∨ ws = (ys ++ [[97, 32, 98]]).drop ((ys ++ [[97, 32, 98]]).length - 8)) ∧ r2 = [some (.raw (.ref b)), some (.tup (wsD ys)), some (.lst (wsD ws))] ∧ Bx b (n + 1) m2) ?_ ?_
    · k_caughtNB
      refine W_takeF.ap (by decide) (by decide) hb (by omega) (fun a1 m3 a10 a11 hb3 kp => ?_)
      k_caughtNB
      by_cases h0 : a1 = 0
      · rw [decide_eq_true h0]
        k_caughtNB
        refine le_sl_lst ?_
        k_caughtNB
        refine o_cat (by rw [wsD_len, sizeLine_eq]; simp; omega) ?_
        k_caughtNB
        have e8 : cutD (wsD ys ++ [Dt.str "a b"]) (some (-(8 : Int))) none = wsD ((ys ++ [[97, 32, 98]]).drop ((ys ++ [[97, 32, 98]]).length - 8)) := by
          have e1 : wsD ys ++ [Dt.str "a b"] = wsD (ys ++ [[97, 32, 98]]) := by rw [wsD_app]; rfl
          rw [e1, show (-(8 : Int)) = (-((8 : Nat) : Int)) from rfl, cutD_last (by decide), wsD_drop, wsD_len]
        rw [e8]
        exact ⟨_, .inr rfl, rfl, hb3⟩
      · rw [decide_eq_false h0]
        k_caughtNB
        exact ⟨_, .inl rfl, rfl, hb3⟩
    intro r2 m2 hr
    obtain ⟨ws, hw, rfl, hb2'⟩ := hr
    refine lb_one (ls_ret (le_dct (Dk.cons (Dk.cons (Dk.cons Dk.nil))) ?_))
    k_caughtNB
    refine le_backL ?_
    k_caughtNB
    refine W_takeF.ap (by decide) (by decide) hb2' (by omega) (fun a1 m3 a10 a11 hb3 kp => ?_)
    k_caughtNB
    refine c_str_int (log_ok (by
      have : (a1 - 4).natAbs ≤ 9 := by omega
      exact Nat.lt_of_le_of_lt this (by decide))) ?_
    k_caughtNB
    refine ⟨by simp, ?_⟩
    have e1 : Dt.str (Str.ofString (toString (a1 - 4))) = .str (SX.S (zL (a1 - 4))) := by rw [str_zL]
    have hq := q ws (a1 - 4) m3 hw (by omega) (by omega) hb3
    have e2 : Dt.dct (mergeD [] [((.inr "w" : Key), .lst (wsD ws).reverse), (.inr "o", .lst [.str (Str.ofString (toString (a1 - 4))), .str "-"]), (.inr "e", .lst [])]) = .dct (heapW ws.reverse (a1 - 4)) := by
      rw [e1, wsD_rev]
      rfl
    show Q (Dt.dct (mergeD [] [((.inr "w" : Key), .lst (wsD ws).reverse), (.inr "o", .lst [.str (Str.ofString (toString (a1 - 4))), .str "-"]), (.inr "e", .lst [])])) m3
    rw [e2]
    exact hq
end
/-! ### what is due of a kind; what is tried -/
/-- own words by name -/
def owF (ws : List (List Nat)) (i : Int) (n : List Nat) : List (List Nat) := if n = wW then ws else if n = wO then [zL i, [45]] else []
/-- an own kind speaks of w, o, e -/
def Own3 (k : Kd) : Prop := ∀ n, k = .own n → n = wW ∨ n = wO ∨ n = wE
theorem heap_val {ws : List (List Nat)} {i : Int} {n : List Nat} (h : n = wW ∨ n = wO ∨ n = wE) : valD (heapW ws i) (.inr (SX.S n)) = some (.lst (wsD (owF ws i n))) := by
  rcases h with rfl | rfl | rfl <;> rfl
def W_due : Spd := fun ds m F E => ∃ k ws i, ds = [Kd.d k, .dct (heapW ws i)] ∧ k.ok ∧ Own3 k ∧ ws.length ≤ 8 ∧ F (tabD (owF ws i) k) m
def numW (lo hi : Int) : List (List Nat) := (List.range (hi + 2 - (lo - 1)).toNat).map fun j : Nat => zL (lo - 1 + j)
def numK : Kd → List (List Nat)
  | .num lo hi => numW lo hi
  | _ => []
def aW (ys : List (List Nat)) : List (List Nat) := [[], [97], [65], [97, 32, 98], [45], [122, 122]] ++ ys ++ (List.range 21).map fun j => List.replicate (1 + j) 97
def tried (ks : List Kd) (ws : List (List Nat)) (i : Int) (ys : List (List Nat)) : List (List Nat) := aW ys ++ ks.flatMap numK ++ ws ++ [zL i, [45]]
def W_trd : Spd := fun ds m F E => ∃ ks ws i ys, ds = [.lst (ks.map Kd.d), .dct (heapW ws i), .tup (wsD ys)] ∧ (∀ k ∈ ks, ∀ lo hi, k = .num lo hi → -10 ≤ lo ∧ lo ≤ hi ∧ hi ≤ 10) ∧ ks.length ≤ 20 ∧ ws.length ≤ 8 ∧ ys.length ≤ 8 ∧ F (.lst (wsD (tried ks ws i ys))) m
theorem own_lt {ws : List (List Nat)} {i : Int} {n : List Nat} (h : ws.length ≤ 8) : (owF ws i n).length < 64 := by
  unfold owF
  split
  · omega
  · split
    · simp
    · simp
theorem numK_len {k : Kd} (h : ∀ lo hi, k = .num lo hi → -10 ≤ lo ∧ lo ≤ hi ∧ hi ≤ 10) : (numK k).length ≤ 30 := by
  cases k with
  | num lo hi =>
    obtain ⟨h1, h2, h3⟩ := h lo hi rfl
    show (numW lo hi).length ≤ 30
    unfold numW
    rw [List.length_map, List.length_range]
    omega
  | _ => exact Nat.zero_le _
theorem flat_len : ∀ {ks : List Kd}, (∀ k ∈ ks, ∀ lo hi, k = .num lo hi → -10 ≤ lo ∧ lo ≤ hi ∧ hi ≤ 10) → (ks.flatMap numK).length ≤ 30 * ks.length
  | [], _ => by simp
  | k :: ks, h => by
    have h1 := numK_len (h k List.mem_cons_self)
    have h2 := flat_len (ks := ks) fun q hq => h q (List.mem_cons_of_mem _ hq)
    rw [List.flatMap_cons, List.length_append, List.length_cons]
    omega
section
variable {P : Program} {w : World} {K : PySem.W.Frag} {mg : Str → Option Value} {base : Heap}
theorem ok_due {f : Addr} {fd : FuncData} (B : Bi mg) (F : Fun K "_law_due" "_law_due" s_l_due f fd) : FnG P w K mg base 1 f fd ["_law_kind", "_law_heap"] (toSp K W_due) := by
  refine fn_dw F sc_l_due (fun ds m Q E h => ?_) (fun cdv A outer s H E gd ds m Q E' h => ?_)
  · obtain ⟨k, ws, i, rfl, _⟩ := h
    rfl
  · obtain ⟨k, ws, i, rfl, hk, h3, hl, q⟩ := h
    have hb1 := B.tuple; have hb2 := B.sorted
    generalize hh : heapW ws i = hp
    show LB _ _ [some k.d, some (.dct hp)] m _
    cases k with
    | num lo hi =>
      show LB _ _ [some (.tup [.str "number", .int lo, .int hi]), some (.dct hp)] m _
      k_caughtNB
      exact q
    | nam =>
      show LB _ _ [some (.tup [.str "name"]), some (.dct hp)] m _
      k_caughtNB
      exact q
    | txt n =>
      show LB _ _ [some (.tup [.str "text", .int n]), some (.dct hp)] m _
      k_caughtNB
      exact q
    | one ys =>
      have h8 : ys.length ≤ 8 := hk.2.1
      show LB _ _ [some (.tup [.str "one", .tup (wsD ys)]), some (.dct hp)] m _
      k_caughtNB
      refine le_callB (x := "sorted") (id := "sorted") bt_sorted (by assumption) ?_
      k_caughtNB
      rw [wsD_strs]
      refine c_sortedTS (by rw [List.length_map]; omega) fun zs e1 e2 => ?_
      have e3 := strs_back e1 e2
      subst e3
      k_caughtNB
      show Q (.tup [.str "words", .tup _]) m
      rw [← wsD_strs]
      exact q
    | own n =>
      have hv := heap_val (ws := ws) (i := i) (h3 n rfl)
      rw [hh] at hv
      show LB _ _ [some (.tup [.str "own", .str (SX.S n)]), some (.dct hp)] m _
      k_caughtNB
      refine le_callB (x := "sorted") (id := "sorted") bt_sorted (by assumption) ?_
      refine la_cons (le_dget gd ?_)
      k_caughtNB
      refine ⟨hp, SX.S n, _, rfl, rfl, hv, ?_⟩
      k_caughtNB
      rw [wsD_strs]
      refine c_sortedS (by rw [List.length_map]; exact own_lt hl) fun zs e1 e2 => ?_
      have e3 := strs_back e1 e2
      subst e3
      k_caughtNB
      show Q (.tup [.str "words", .tup _]) m
      rw [← wsD_strs]
      exact q
theorem ok_trd {f : Addr} {fd : FuncData} (B : Bi mg) (F : Fun K "_law_tried" "_law_tried" s_l_tried f fd) : FnG P w K mg base 1 f fd ["_law_kinds_here", "_law_heap", "_law_names_here"] (toSp K W_trd) := by
  refine fn_dw F sc_l_tried (fun ds m Q E h => ?_) (fun cdv A outer s H E gd ds m Q E' h => ?_)
  · obtain ⟨ks, ws, i, ys, rfl, _⟩ := h
    rfl
  · obtain ⟨ks, ws, i, ys, rfl, hks, hkl, hwl, hyl, q⟩ := h
    have hb1 := B.list; have hb2 := B.range; have hb3 := B.str
    have hv1 : valD (heapW ws i) (.inr (SX.S wW)) = some (.lst (wsD ws)) := rfl
    have hv2 : valD (heapW ws i) (.inr (SX.S wO)) = some (.lst (wsD [zL i, [45]])) := rfl
    generalize hh : heapW ws i = hp at hv1 hv2
    have hal : (aW ys).length ≤ 35 := by unfold aW; simp; omega
    show LB _ _ [some (.lst (ks.map Kd.d)), some (.dct hp), some (.tup (wsD ys)), none, none, none, none] m _
    refine lb_midP [some (.lst (ks.map Kd.d)), some (.dct hp), some (.tup (wsD ys)), some (.lst (wsD (aW ys))), none, none, none] m ?_ ?_
    · k_caughtNB
      refine o_cat (by rw [wsD_len, sizeLine_eq]; simp; omega) ?_
      k_subL
      refine li_rng2 hb2 ?_
      k_caughtNB
      refine ⟨by decide, ?_⟩
      refine lc_each (ds := rng 1 ((22 : Int) - 1).toNat) (fun i acc m2 => acc = wsD ((List.range i).map fun j => List.replicate (1 + j) 97) ∧ m2 = m) gd (by rw [rng_len]; decide) ⟨rfl, rfl⟩ (fun i d acc m4 hi hacc iv s1 H1 C1 cl1 fp1 gd1 => ?_) (fun acc m4 hacc iv => ?_)
      · obtain ⟨rfl, rfl⟩ := iv
        obtain ⟨h, rfl⟩ := rng_get' hi
        have h : i < 21 := h
        k_caughtNB
        refine o_mulS (l := [97]) (by simp) (by omega) (by omega) ?_
        refine ⟨?_, rfl⟩
        rw [List.range_succ, List.map_append, wsD_app]
        congr 1
        show [_] = [_]
        congr 3
        rw [show ((1 : Int) + (i : Int)).toNat = 1 + i by omega]
        rw [List.flatten_replicate_singleton]
      · obtain ⟨rfl, rfl⟩ := iv
        refine o_cat (by
          rw [List.length_append, wsD_len, wsD_len, sizeLine_eq, List.length_map, List.length_range, rng_len]
          show 6 + ys.length + 21 ≤ _
          omega) ?_
        refine ⟨?_, rfl⟩
        unfold aW
        rw [wsD_app, wsD_app]
        rfl
    refine lb_mid (fun r2 m2 => m2 = m ∧ ∃ o1 o2 o3, r2 = [some (.lst (ks.map Kd.d)), some (.dct hp), some (.tup (wsD ys)), some (.lst (wsD (aW ys ++ ks.flatMap numK))), o1, o2, o3]) ?_ ?_
    · refine ls_for gd (fun ds i r2 m2 => m2 = m ∧ ∃ o1 o2 o3, r2 = [some (.lst (ks.map Kd.d)), some (.dct hp), some (.tup (wsD ys)), some (.lst (wsD (aW ys ++ (ks.take i).flatMap numK))), o1, o2, o3]) ?_
      refine li_lst ?_
      k_caughtNB
      refine ⟨⟨rfl, none, none, none, by rw [List.take_zero, List.flatMap_nil, List.append_nil]⟩, fun i d r2 m2 hi iv => ?_, fun r2 m2 iv => ?_⟩
      rotate_left
      · obtain ⟨rfl, o1, o2, o3, rfl⟩ := iv
        rw [List.length_map, List.take_length]
        exact ⟨rfl, o1, o2, o3, rfl⟩
      obtain ⟨rfl, o1, o2, o3, rfl⟩ := iv
      rw [List.getElem?_map] at hi
      obtain ⟨k, hk, rfl⟩ : ∃ k, ks[i]? = some k ∧ d = k.d := by
        cases z : ks[i]? with
        | none => rw [z] at hi; cases hi
        | some k => rw [z] at hi; cases hi; exact ⟨k, rfl, rfl⟩
      have hkm := List.mem_of_getElem? hk
      have etk : ks.take (i + 1) = ks.take i ++ [k] := by rw [List.take_add_one, hk]; rfl
      have ef : aW ys ++ (ks.take (i + 1)).flatMap numK = (aW ys ++ (ks.take i).flatMap numK) ++ numK k := by
        rw [etk, List.flatMap_append, List.flatMap_cons, List.flatMap_nil, List.append_nil, List.append_assoc]
      have hfl : ((ks.take i).flatMap numK).length ≤ 600 := by
        have h1 := flat_len (ks := ks.take i) fun q hq => hks q (List.mem_of_mem_take hq)
        have h2 : (ks.take i).length ≤ 20 := by rw [List.length_take]; omega
        omega
      rw [ef]
      have hacc : (aW ys ++ (ks.take i).flatMap numK).length ≤ 700 := by rw [List.length_append]; omega
      have hno : numK k = [] → [some (Dt.lst (ks.map Kd.d)), some (.dct hp), some (.tup (wsD ys)), some (.lst (wsD (aW ys ++ (ks.take i).flatMap numK))), o1, some k.d, o3] = [some (Dt.lst (ks.map Kd.d)), some (.dct hp), some (.tup (wsD ys)), some (.lst (wsD (aW ys ++ (ks.take i).flatMap numK ++ numK k))), o1, some k.d, o3] := fun e => by rw [e, List.append_nil]
      generalize aW ys ++ (ks.take i).flatMap numK = acc at hacc hno
      cases k with
      | num lo hj =>
        obtain ⟨h1, h2, h3⟩ := hks _ hkm lo hj rfl
        show LG _ _ _ (.tup [.str "number", .int lo, .int hj]) _
        k_caughtNB
        k_subL
        refine li_rng2 hb2 ?_
        k_caughtNB
        refine ⟨by omega, ?_⟩
        refine lc_each (ds := rng (lo - 1) (hj + 2 - (lo - 1)).toNat) (fun i acc m9 => acc = wsD ((List.range i).map fun j : Nat => zL (lo - 1 + j)) ∧ m9 = m2) gd (by rw [rng_len, sizeLine_eq]; omega) ⟨rfl, rfl⟩ (fun i d acc m4 hi hacc iv s1 H1 C1 cl1 fp1 gd1 => ?_) (fun acc m4 hacc iv => ?_)
        · obtain ⟨rfl, rfl⟩ := iv
          obtain ⟨h, rfl⟩ := rng_get' hi
          k_caughtNB
          refine c_str_int (log_ok (by
            have : (lo - 1 + (i : Int)).natAbs ≤ 100 := by omega
            exact Nat.lt_of_le_of_lt this (by decide))) ?_
          refine ⟨?_, rfl⟩
          rw [List.range_succ, List.map_append, wsD_app, str_zL]
          rfl
        · obtain ⟨rfl, rfl⟩ := iv
          rw [rng_len] at *
          refine o_cat (by rw [wsD_len, wsD_len, sizeLine_eq, List.length_map, List.length_range]; omega) ?_
          rw [← wsD_app]
          exact ⟨rfl, o1, _, _, rfl⟩
      | nam =>
        show LG _ _ _ (.tup [.str "name"]) _
        k_caughtNB
        exact ⟨rfl, o1, _, o3, hno rfl⟩
      | txt n =>
        show LG _ _ _ (.tup [.str "text", .int n]) _
        k_caughtNB
        exact ⟨rfl, o1, _, o3, hno rfl⟩
      | one zs =>
        show LG _ _ _ (.tup [.str "one", .tup (wsD zs)]) _
        k_caughtNB
        exact ⟨rfl, o1, _, o3, hno rfl⟩
      | own n =>
        show LG _ _ _ (.tup [.str "own", .str (SX.S n)]) _
        k_caughtNB
        exact ⟨rfl, o1, _, o3, hno rfl⟩
    intro r2 m2 hr
    obtain ⟨rfl, o1, o2, o3, rfl⟩ := hr
    have hfl := flat_len hks
    k_caughtNB
    refine ⟨hp, "w", _, rfl, rfl, hv1, ?_⟩
    refine o_cat (by rw [wsD_len, wsD_len, List.length_append, sizeLine_eq]; omega) ?_
    k_caughtNB
    refine ⟨hp, "o", _, rfl, rfl, hv2, ?_⟩
    have h2l : ([zL i, [45]] : List (List Nat)).length = 2 := rfl
    refine o_cat (by rw [List.length_append, wsD_len, wsD_len, wsD_len, List.length_append, sizeLine_eq, h2l]; omega) ?_
    rw [← wsD_app, ← wsD_app]
    exact q
end
/-! ### the worths of a kind, told; what is refused -/
def osOf (k : Kd) (ws : List (List Nat)) (i : Int) : List (List Nat) := match k with
  | .own n => owF ws i n
  | _ => []
def wrts (k : Kd) (ws : List (List Nat)) (i : Int) (l : List (List Nat)) : List Dt := l.map fun x => wrt k (.str (SX.S x)) (osOf k ws i)
def W_wos : Spd := fun ds m F E => ∃ k ws i l, ds = [Kd.d k, .dct (heapW ws i), .lst (wsD l)] ∧ k.ok ∧ Own3 k ∧ Ow ws ∧ -9 ≤ i ∧ i ≤ 9 ∧ (∀ x ∈ l, x.length ≤ 40 ∧ ∀ c ∈ x, Pr c) ∧ l.length ≤ 1000 ∧ F (.str (shows (.lst (wrts k ws i l)))) m
theorem zL9 {i : Int} (h1 : -9 ≤ i) (h2 : i ≤ 9) : 1 ≤ (zL i).length ∧ (zL i).length ≤ 20 ∧ ∀ c ∈ zL i, Pr c := by
  have h3 := zL_31 (i := i) (by omega) (by omega)
  refine ⟨?_, ?_, fun c hc => ?_⟩
  · cases e : zL i with
    | nil => exact absurd e (zL_ne i)
    | cons a t => simp
  · have := zL_len (z := i) (k := 2) (by decide) (by omega)
    omega
  · have := of_decide_eq_true (zL_isZ i c hc)
    unfold Pr
    omega
theorem zL_45 (i : Int) : zL i ≠ [45] := fun h => by
  have := numOf_zL i
  rw [h, show numOf [45] = none by decide] at this
  cases this
theorem owF_ow {ws : List (List Nat)} {i : Int} (h : Ow ws) (h1 : -9 ≤ i) (h2 : i ≤ 9) (n : List Nat) : Ow (owF ws i n) := by
  unfold owF
  split
  · exact h
  · split
    · refine ⟨by simp, fun w hw => ?_, ?_⟩
      · rcases List.mem_cons.mp hw with rfl | hw
        · exact zL9 h1 h2
        · rw [List.mem_singleton.mp hw]
          exact ⟨by simp, by simp, fun c hc => by rw [List.mem_singleton.mp hc]; unfold Pr; omega⟩
      · refine List.nodup_cons.mpr ⟨fun hm => zL_45 i (List.mem_singleton.mp hm), by simp⟩
    · exact ow_nil
theorem wrt_sm {k : Kd} {x : List Nat} {ws : List (List Nat)} (hx : x.length ≤ 40 ∧ ∀ c ∈ x, Pr c) (hk : k.ok) : Sm 500 5 (wrt k (.str (SX.S x)) ws) ∧ gx (wrt k (.str (SX.S x)) ws) = true := by
  unfold wrt
  split
  · rename_i h
    cases k with
    | num lo hi =>
      have hf : fWhole lo hi (nin (.str (SX.S x))) = true := h
      have e : vin (.num lo hi) (.str (SX.S x)) = oi (numOf x) := rfl
      have e2 : nin (.str (SX.S x)) = oi (numOf x) := rfl
      rw [e]
      rw [e2] at hf
      cases hn : numOf x with
      | none => rw [hn] at hf; cases hf
      | some z =>
        rw [hn] at hf
        have h3 := of_decide_eq_true (show decide (lo ≤ z ∧ z ≤ hi) = true from hf)
        obtain ⟨k1, k2, k3⟩ := hk
        exact ⟨(smI (k := 5) (by omega) (by omega)).mono (by decide) (by decide), rfl⟩
    | _ =>
      refine ⟨Sm.str (fun c hc => by have := (hx.2 c hc).2; omega) (by omega), ?_⟩
      show gx (.str (SX.S x)) = true
      rw [gx]
      exact List.all_eq_true.mpr fun c hc => decide_eq_true (hx.2 c hc)
  · exact ⟨Sm.non (by decide), rfl⟩
theorem smL_map {α : Type} {f : α → Dt} {n k : Nat} : ∀ {l : List α}, (∀ a ∈ l, Sm n k (f a)) → SmL ((n + 2) * l.length) k (l.map f)
  | [], _ => SmL.nil
  | a :: l, h => (SmL.cons (h a List.mem_cons_self) (smL_map fun b hb => h b (List.mem_cons_of_mem _ hb))).mono (by rw [List.length_cons, Nat.mul_succ]; omega) (Nat.le_refl _)
def W_rfs (K : PySem.W.Frag) (C : Addr) : Spd := fun ds m F E => ∃ g d, ds = [g, d] ∧ ((∃ a dx fs, g = .raw (.ref a) ∧ (a, Mc.ins C dx fs) ∈ m ∧ Tk K d ∧ fKind d = false ∧ F (.lst [.str "kind", d]) m) ∨ (noG g ∧ F (.lst [.str "grammar", g]) m))
section
variable {P : Program} {w : World} {K : PySem.W.Frag} {mg : Str → Option Value} {base : Heap}
theorem ok_wos {f : Addr} {fd : FuncData} (B : Bi mg) (D1 : FnW P w K mg base "worth_of" 4 2 "own" (W_wrt K)) (F : Fun K "_law_worths" "_law_worths" s_l_worths f fd) : FnG P w K mg base 5 f fd ["_law_kind", "_law_heap", "_law_words"] (toSp K W_wos) := by
  refine fn_dw F sc_l_worths (fun ds m Q E h => ?_) (fun cdv A outer s H E gd ds m Q E' h => ?_)
  · obtain ⟨k, ws, i, l, rfl, _⟩ := h
    rfl
  · obtain ⟨k, ws, i, l, rfl, hk, h3, ho, i1, i2, hl, hz, q⟩ := h
    have hb1 := B.repr
    have hv : ∀ n, k = .own n → valD (heapW ws i) (.inr (SX.S n)) = some (.lst (wsD (owF ws i n))) := fun n e => heap_val (h3 n e)
    generalize hh : heapW ws i = hp at hv
    show LB _ _ [some k.d, some (.dct hp), some (.lst (wsD l)), none, none] m _
    refine lb_midP [some k.d, some (.dct hp), some (.lst (wsD l)), some (.lst (wsD (osOf k ws i))), none] m ?_ ?_
    · cases k with
      | num lo hi =>
        show LS _ _ [some (.tup [.str "number", .int lo, .int hi]), some (.dct hp), some (.lst (wsD l)), none, none] m _
        k_caughtNB
        exact ⟨rfl, rfl⟩
      | nam =>
        show LS _ _ [some (.tup [.str "name"]), some (.dct hp), some (.lst (wsD l)), none, none] m _
        k_caughtNB
        exact ⟨rfl, rfl⟩
      | txt n =>
        show LS _ _ [some (.tup [.str "text", .int n]), some (.dct hp), some (.lst (wsD l)), none, none] m _
        k_caughtNB
        exact ⟨rfl, rfl⟩
      | one zs =>
        show LS _ _ [some (.tup [.str "one", .tup (wsD zs)]), some (.dct hp), some (.lst (wsD l)), none, none] m _
        k_caughtNB
        exact ⟨rfl, rfl⟩
      | own n =>
        show LS _ _ [some (.tup [.str "own", .str (SX.S n)]), some (.dct hp), some (.lst (wsD l)), none, none] m _
        refine' ls_set gd ?hsl ?_
        (case hsl => tb_rel)
        refine le_ifeP true ?_ (fun _ => ?_) (fun h => by cases h)
        · k_caughtNB
          exact ⟨rfl, rfl⟩
        refine le_dget gd ?_
        k_caughtNB
        exact ⟨hp, SX.S n, _, rfl, rfl, hv n rfl, rfl, rfl⟩
    have hown : Ow (osOf k ws i) := by
      unfold osOf
      cases k <;> first | exact owF_ow ho i1 i2 _ | exact ow_nil
    have q : Q (.str (shows (.lst (l.map fun x => wrt k (.str (SX.S x)) (osOf k ws i))))) m := q
    generalize osOf k ws i = os at hown q ⊢
    k_caughtNB
    k_subL
    refine li_lst ?_
    k_caughtNB
    refine lc_mapS l (fun x => Dt.str (SX.S x)) (fun x => wrt k (.str (SX.S x)) os) gd (Nat.le_trans hz (by decide)) (fun x hx s1 H1 C1 cl1 fp1 gd1 => ?_) ?_
    · have hxl := hl x hx
      refine le_callW D1 gd1 (by decide) ?_
      k_caughtNB
      refine ⟨rfl, k, .str (SX.S x), .lst (wsD os), os, rfl, hk, ⟨rfl, by show (SX.S x).length ≤ 100000; rw [SX.S_len]; omega⟩, fun y e => by cases e; rw [SX.S_len]; omega, rfl, hown, rfl, rfl⟩
    have hsm : Sm 700000 10 (.lst (l.map fun x => wrt k (.str (SX.S x)) os)) := ((smL_map fun x hx => (wrt_sm (hl x hx) hk).1).lst).mono (by omega) (by decide)
    k_caughtNB
    refine c_reprT gd.gu gd.room.units (hsm.sht (by decide) (by decide)) ?_
    k_caughtNB
    exact q
theorem ok_rfs {f : Addr} {fd : FuncData} {C CG CK iG iK : Addr} (TG : Ex_found.Txt K mg "NoGrammar" CG iG) (TK : Ex_found.Txt K mg "NoKind" CK iK) (x1 : PySem.W.exmOne K (.ref CK) (.ref CG) = some false)
    (D1 : FnD P w K mg base "table_of" 4 (W_tabK K C CK)) (D2 : FnD P w K mg base "table_of" 4 (W_tabG CG)) (F : Fun K "_law_refused" "_law_refused" s_l_refused f fd) : FnG P w K mg base 5 f fd ["_law_grammar", "_law_thing"] (toSp K (W_rfs K C)) := by
  refine fn_dw F sc_l_refused (fun ds m Q E h => ?_) (fun cdv A outer s H E gd ds m Q E' h => ?_)
  · obtain ⟨g, d, rfl, _⟩ := h
    rfl
  · obtain ⟨g, d, rfl, h⟩ := h
    show LB _ _ [some g, some d, none] m _
    refine lb_one (ls_tryU gd [[.ref CG], [.ref CK]] (HdU.named (test_one ⟨rfl, by decide, .inl TG.gC⟩) ⟨2, rfl⟩ rfl (HdU.named (test_one ⟨rfl, by decide, .inl TK.gC⟩) ⟨2, rfl⟩ rfl .rest)) (fun pn xe gd2 => ?_))
    rcases h with ⟨a, dx, fs, rfl, hm, htk, hfk, q⟩ | ⟨hg, q⟩
    · refine lb_one (ls_ret (le_lst (la_cons (le_str (la_cons (le_call D1 gd2 (by decide) ?_))))))
      k_caughtNB
      refine ⟨a, dx, fs, d, rfl, hm, htk, hfk, ?_⟩
      refine ⟨false, exm_single x1, fun h => absurd h (by decide), fun _ => ?_⟩
      refine ⟨true, exm_single TK.te, fun _ => ⟨_, by tb_rel, fun a' oe pn dx hz hv => ?_⟩, fun h => absurd h (by decide)⟩
      have gs := gd.su a' ((a', oe) :: pn)
      k_caughtNB
      refine le_exfld (C := CK) (dx := dx) (cls := .ref CK) hz hv TK.ga TK.gg TK.exC TK.hdC TK.noN ?_
      k_caughtNB
      refine ⟨_, _, rfl, rfl, ?_⟩
      k_caughtNB
      exact q
    · refine lb_one (ls_ret (le_lst (la_cons (le_str (la_cons (le_call D2 gd2 (by decide) ?_))))))
      k_caughtNB
      refine ⟨g, d, rfl, hg, ?_⟩
      refine ⟨true, exm_single TG.te, fun _ => ⟨_, by tb_rel, fun a' oe pn dx hz hv => ?_⟩, fun h => absurd h (by decide)⟩
      have gs := gd.su a' ((a', oe) :: pn)
      k_caughtNB
      refine le_exfld (C := CG) (dx := dx) (cls := .ref CG) hz hv TG.ga TG.gg TG.exC TG.hdC TG.noN ?_
      k_caughtNB
      refine ⟨_, _, rfl, rfl, ?_⟩
      k_caughtNB
      exact q
end
/-! ### the plain law: tables are equal just where worths are -/
theorem nd_sub {α : Type} [DecidableEq α] : ∀ (l m : List α), l.Nodup → (∀ x ∈ l, x ∈ m) → l.length ≤ m.length
  | [], m, _, _ => Nat.zero_le _
  | a :: t, m, hn, hs => by
    obtain ⟨h1, h2⟩ := List.nodup_cons.mp hn
    have ha := hs a List.mem_cons_self
    have h3 := nd_sub t (m.erase a) h2 fun x hx => (List.mem_erase_of_ne (fun (e : x = a) => h1 (by rw [← e]; exact hx))).mpr (hs x (List.mem_cons_of_mem _ hx))
    have h4 := List.length_erase_of_mem ha
    have h5 : 0 < m.length := List.length_pos_of_mem ha
    rw [List.length_cons]
    omega
theorem nd_perm {α : Type} [DecidableEq α] : ∀ (l m : List α), l.Nodup → m.Nodup → (∀ x, x ∈ l ↔ x ∈ m) → l.Perm m
  | [], m, _, _, h => by
    cases m with
    | nil => exact .refl _
    | cons a t => exact absurd ((h a).mpr List.mem_cons_self) (by simp)
  | a :: t, m, hn, hm, h => by
    obtain ⟨h1, h2⟩ := List.nodup_cons.mp hn
    have ha := (h a).mp List.mem_cons_self
    have hp := List.perm_cons_erase ha
    refine (List.Perm.cons a (nd_perm t (m.erase a) h2 (hm.erase a) fun x => ?_)).trans hp.symm
    by_cases e : x = a
    · subst e
      exact ⟨fun z => absurd z h1, fun z => absurd z (List.Nodup.not_mem_erase hm)⟩
    · rw [List.mem_erase_of_ne e]
      refine ⟨fun z => (h x).mp (List.mem_cons_of_mem _ z), fun z => ?_⟩
      rcases List.mem_cons.mp ((h x).mpr z) with y | y
      · exact absurd y e
      · exact y
theorem wsD_inj : ∀ {a b : List (List Nat)}, wsD a = wsD b → a = b
  | [], [], _ => rfl
  | [], y :: b, h => by cases h
  | x :: a, [], h => by cases h
  | x :: a, y :: b, h => by
    have h' := List.cons.inj (show Dt.str (SX.S x) :: wsD a = Dt.str (SX.S y) :: wsD b from h)
    rw [SX.S_inj (Dt.str.inj h'.1), wsD_inj h'.2]
theorem pw_rising : ∀ (p : List Nat) (l : List (List Nat)), ((p :: l).Pairwise fun a b => ¬ b < a) → risingS (SX.S p) (l.map SX.S) = true
  | p, [], _ => rfl
  | p, x :: r, h => by
    obtain ⟨h1, h2⟩ := List.pairwise_cons.mp h
    show (!ltCps x p && risingS (SX.S x) (r.map SX.S)) = true
    rw [Bool.and_eq_true, ltCps_eq]
    exact ⟨by simpa using h1 x List.mem_cons_self, pw_rising x r h2⟩
theorem pw_sorted : ∀ (l : List (List Nat)), (l.Pairwise fun a b => ¬ b < a) → sortedS (l.map SX.S) = true
  | [], _ => rfl
  | x :: r, h => pw_rising x r h
theorem srt_ex (S : List (List Nat)) : ∃ zs : List (List Nat), zs.Perm S ∧ sortedS (zs.map SX.S) = true := by
  have hp := List.pairwise_mergeSort (le := fun a b : List Nat => !decide (b < a)) (fun a b c h1 h2 => by
    have h1 : ¬ b < a := by simpa using h1
    have h2 : ¬ c < b := by simpa using h2
    simpa using le_trans' h1 h2) (fun a b => by
    by_cases h : b < a
    · have h2 : ¬ a < b := fun z => List.lt_asymm h z
      simp [h2]
    · simp [h]) S
  exact ⟨_, List.mergeSort_perm S _, pw_sorted _ (hp.imp fun {a b} h => by simpa using h)⟩
structure KOk (T : List (List Nat)) (ow : List Nat → List (List Nat)) (k : Kd) : Prop where
  ok : k.ok
  num : ∀ lo hi, k = .num lo hi → zL lo ∈ T ∧ zL hi ∈ T
  wds : ∀ S, kw ow k = some S → (∀ x ∈ S, x ∈ T ∧ x ≠ [] ∧ ∀ c ∈ x, Pr c) ∧ S.length ≤ 8 ∧ S.Nodup
/-- the words that are told -/
structure TOk (T : List (List Nat)) : Prop where
  nil : ([] : List Nat) ∈ T
  zz : [122, 122] ∈ T
  as : ∀ j, 1 ≤ j → j ≤ 21 → List.replicate j 97 ∈ T
def owk (ow : List Nat → List (List Nat)) (k : Kd) : List (List Nat) := match k with
  | .own n => ow n
  | _ => []
def wv (ow : List Nat → List (List Nat)) (k : Kd) (x : List Nat) : Dt := wrt k (.str (SX.S x)) (owk ow k)
theorem mem_S {x : List Nat} {S : List (List Nat)} : SX.S x ∈ S.map SX.S ↔ x ∈ S := ⟨fun h => by
  obtain ⟨y, hy, e⟩ := List.mem_map.mp h
  rw [← SX.S_inj e]; exact hy, fun h => List.mem_map.mpr ⟨x, h, rfl⟩⟩
theorem wv_words {ow : List Nat → List (List Nat)} {k : Kd} {S : List (List Nat)} (h : kw ow k = some S) (x : List Nat) : wv ow k x = if x ∈ S then .str (SX.S x) else .non := by
  have e : fFits k (.str (SX.S x)) (owk ow k) = decide (x ∈ S) := by
    cases k with
    | one ys => cases h; exact decide_eq_decide.mpr mem_S
    | own n => cases h; exact decide_eq_decide.mpr mem_S
    | num lo hi => cases h
    | nam => cases h
    | txt n => cases h
  have e2 : vin k (.str (SX.S x)) = .str (SX.S x) := by cases k <;> first | rfl | (cases h; done)
  unfold wv wrt
  rw [e2, e]
  by_cases hx : x ∈ S
  · rw [decide_eq_true hx, if_pos rfl, if_pos hx]
  · rw [decide_eq_false hx, if_neg (by decide), if_neg hx]
theorem wv_num {ow : List Nat → List (List Nat)} {lo hi n : Int} : wv ow (.num lo hi) (zL n) = if lo ≤ n ∧ n ≤ hi then .int n else .non := by
  have e : vin (.num lo hi) (.str (SX.S (zL n))) = .int n := by
    show oi (numOf (zL n)) = _
    rw [numOf_zL]
    rfl
  unfold wv wrt
  rw [e]
  have e2 : fFits (.num lo hi) (.int n) (owk ow (.num lo hi)) = decide (lo ≤ n ∧ n ≤ hi) := rfl
  rw [e2]
  by_cases h : lo ≤ n ∧ n ≤ hi
  · rw [decide_eq_true h, if_pos rfl, if_pos h]
  · rw [decide_eq_false h, if_neg (by decide), if_neg h]
theorem wv_nam {ow : List Nat → List (List Nat)} {x : List Nat} : wv ow .nam x = if fName (.str (SX.S x)) = true then .str (SX.S x) else .non := rfl
theorem wv_txt {ow : List Nat → List (List Nat)} {n : Int} {x : List Nat} : wv ow (.txt n) x = if (fWord (.str (SX.S x)) && decide ((x.length : Int) ≤ n)) = true then .str (SX.S x) else .non := by
  have e : fFits (.txt n) (.str (SX.S x)) (owk ow (.txt n)) = (fWord (.str (SX.S x)) && decide ((x.length : Int) ≤ n)) := by
    show (fWord (.str (SX.S x)) && decide (((SX.S x).length : Int) ≤ n)) = _
    rw [SX.S_len]
  have e2 : vin (.txt n) (.str (SX.S x)) = .str (SX.S x) := rfl
  unfold wv wrt
  rw [e2, e]
theorem wv_notint {ow : List Nat → List (List Nat)} {k : Kd} (h : ∀ lo hi, k ≠ .num lo hi) (x : List Nat) (n : Int) : wv ow k x ≠ .int n := by
  unfold wv wrt
  have e2 : vin k (.str (SX.S x)) = .str (SX.S x) := by cases k <;> first | rfl | exact absurd rfl (h _ _)
  rw [e2]
  split <;> exact fun z => by cases z
theorem as_word (j : Nat) (h1 : 1 ≤ j) (h2 : j ≤ 21) : fWord (.str (SX.S (List.replicate j 97))) = true := by
  rw [word_S, Bool.and_eq_true, List.length_replicate]
  exact ⟨decide_eq_true (by omega), List.all_eq_true.mpr fun c hc => by rw [(List.mem_replicate.mp hc).2]; decide⟩
theorem as_name (j : Nat) (h1 : 1 ≤ j) (h2 : j ≤ 8) : fName (.str (SX.S (List.replicate j 97))) = true := by
  rw [name_S, Bool.and_eq_true, List.length_replicate]
  exact ⟨decide_eq_true ⟨h1, h2⟩, List.all_eq_true.mpr fun c hc => by rw [(List.mem_replicate.mp hc).2]; decide⟩
theorem nil_word : fWord (.str (SX.S [])) = true := by decide +kernel
theorem nil_name : fName (.str (SX.S [])) = false := by decide +kernel
theorem zz_name : fName (.str (SX.S [122, 122])) = true := by decide +kernel
section
variable {T : List (List Nat)} {ow : List Nat → List (List Nat)}
theorem tab_words {k : Kd} {S : List (List Nat)} (h : kw ow k = some S) : tabD ow k = .tup [.str "words", .tup (wsD (srt S))] := by unfold tabD; rw [h]
theorem names9 : ((List.range 8).map (fun j => List.replicate (1 + j) 97) ++ [[122, 122]]).Nodup := by decide +kernel
/-- words against a name's, a text's kind -/
theorem ne_nam (tk : TOk T) {k : Kd} {S : List (List Nat)} (hk : KOk T ow k) (h : kw ow k = some S) (he : ∀ x ∈ T, wv ow k x = wv ow .nam x) : False := by
  have hsub : ∀ x, fName (.str (SX.S x)) = true → x ∈ T → x ∈ S := fun x hx hT => by
    have e := he x hT
    rw [wv_words h, wv_nam, if_pos hx] at e
    by_cases hs : x ∈ S
    · exact hs
    · rw [if_neg hs] at e; cases e
  have h9 := nd_sub _ S names9 fun x hx => by
    rcases List.mem_append.mp hx with hx | hx
    · obtain ⟨j, hj, rfl⟩ := List.mem_map.mp hx
      have hj := List.mem_range.mp hj
      exact hsub _ (as_name _ (by omega) (by omega)) (tk.as _ (by omega) (by omega))
    · rw [List.mem_singleton.mp hx]
      exact hsub _ zz_name tk.zz
  have h8 := (hk.wds S h).2.1
  have : ((List.range 8).map (fun j => List.replicate (1 + j) 97) ++ [[122, 122]]).length = 9 := by decide +kernel
  omega
theorem ne_txt (tk : TOk T) {k : Kd} {S : List (List Nat)} {n : Int} (hk : KOk T ow k) (h : kw ow k = some S) (hn : 1 ≤ n) (he : ∀ x ∈ T, wv ow k x = wv ow (.txt n) x) : False := by
  have e := he [] tk.nil
  rw [wv_words h, wv_txt, nil_word, decide_eq_true (show (([] : List Nat).length : Int) ≤ n by simp; omega), Bool.true_and, if_pos rfl] at e
  by_cases hs : ([] : List Nat) ∈ S
  · exact ((hk.wds S h).1 _ hs).2.1 rfl
  · rw [if_neg hs] at e; cases e
theorem ne_nt (tk : TOk T) {n : Int} (hn : 1 ≤ n) (he : ∀ x ∈ T, wv ow .nam x = wv ow (.txt n) x) : False := by
  have e := he [] tk.nil
  rw [wv_nam, wv_txt, nil_word, nil_name, decide_eq_true (show (([] : List Nat).length : Int) ≤ n by simp; omega), Bool.true_and, if_pos rfl] at e
  cases e
theorem le_tt (tk : TOk T) {a b : Int} (hb : 1 ≤ b) (hb2 : b ≤ 20) (he : ∀ x ∈ T, wv ow (.txt a) x = wv ow (.txt b) x) : b ≤ a := by
  have hl : ((List.replicate b.toNat 97).length : Int) = b := by rw [List.length_replicate]; omega
  have e := he (List.replicate b.toNat 97) (tk.as _ (by omega) (by omega))
  rw [wv_txt, wv_txt, as_word _ (by omega) (by omega), hl, decide_eq_true (show b ≤ b by omega), Bool.true_and, Bool.true_and, if_pos rfl] at e
  by_cases h : b ≤ a
  · exact h
  · rw [decide_eq_false h, if_neg (by decide)] at e; cases e
theorem in_num {k : Kd} {lo hi n : Int} (hT : zL n ∈ T) (h1 : lo ≤ n ∧ n ≤ hi) (he : ∀ x ∈ T, wv ow (.num lo hi) x = wv ow k x) : ∃ l h, k = .num l h ∧ l ≤ n ∧ n ≤ h := by
  have e := he _ hT
  rw [wv_num, if_pos h1] at e
  cases k with
  | num l h =>
    rw [wv_num] at e
    by_cases hh : l ≤ n ∧ n ≤ h
    · exact ⟨l, h, rfl, hh⟩
    · rw [if_neg hh] at e; cases e
  | _ => exact absurd e.symm (wv_notint (fun _ _ z => by cases z) _ _)
theorem nt_words (s t : Str) {as bs : List Dt} (h : Dt.tup (.str s :: as) = .tup (.str t :: bs)) : s = t ∧ as = bs := by
  injection h with h
  injection h with h1 h2
  injection h1 with h1
  exact ⟨h1, h2⟩
theorem kw_cases (ow : List Nat → List (List Nat)) (k : Kd) : (∃ S, kw ow k = some S) ∨ (∃ lo hi, k = .num lo hi) ∨ k = .nam ∨ ∃ n, k = .txt n := by
  cases k with
  | num lo hi => exact .inr (.inl ⟨_, _, rfl⟩)
  | nam => exact .inr (.inr (.inl rfl))
  | txt n => exact .inr (.inr (.inr ⟨_, rfl⟩))
  | one ys => exact .inl ⟨_, rfl⟩
  | own n => exact .inl ⟨_, rfl⟩
theorem tab_iff (tk : TOk T) {k j : Kd} (hk : KOk T ow k) (hj : KOk T ow j) : tabD ow k = tabD ow j ↔ ∀ x ∈ T, wv ow k x = wv ow j x := by
  constructor
  · intro h x hx
    rcases kw_cases ow k with ⟨S, hS⟩ | ⟨lo, hi, rfl⟩ | rfl | ⟨n, rfl⟩
    · rcases kw_cases ow j with ⟨S', hS'⟩ | ⟨lo, hi, rfl⟩ | rfl | ⟨n, rfl⟩
      · rw [tab_words hS, tab_words hS'] at h
        have h2 := (nt_words _ _ h).2
        injection h2 with h2 _
        injection h2 with h2
        have h3 : srt S = srt S' := wsD_inj h2
        have hp : S.Perm S' := (srt_perm S).symm.trans (h3 ▸ srt_perm S')
        rw [wv_words hS, wv_words hS']
        by_cases hm : x ∈ S
        · rw [if_pos hm, if_pos (hp.mem_iff.mp hm)]
        · rw [if_neg hm, if_neg fun z => hm (hp.mem_iff.mpr z)]
      · rw [tab_words hS] at h
        exact absurd (nt_words _ _ h).1 (by decide)
      · rw [tab_words hS] at h
        exact absurd (nt_words _ _ h).1 (by decide)
      · rw [tab_words hS] at h
        exact absurd (nt_words _ _ h).1 (by decide)
    · rcases kw_cases ow j with ⟨S', hS'⟩ | ⟨l2, h2, rfl⟩ | rfl | ⟨n, rfl⟩
      · rw [tab_words hS'] at h
        exact absurd (nt_words _ _ h).1 (by decide)
      · have h3 := (nt_words _ _ h).2
        injection h3 with h3 h4
        injection h3 with h3
        injection h4 with h4 _
        injection h4 with h4
        rw [h3, h4]
      · exact absurd (nt_words _ _ h).1 (by decide)
      · exact absurd (nt_words _ _ h).1 (by decide)
    · rcases kw_cases ow j with ⟨S', hS'⟩ | ⟨l2, h2, rfl⟩ | rfl | ⟨n, rfl⟩
      · rw [tab_words hS'] at h
        exact absurd (nt_words _ _ h).1 (by decide)
      · exact absurd (nt_words _ _ h).1 (by decide)
      · rfl
      · exact absurd (nt_words _ _ h).1 (by decide)
    · rcases kw_cases ow j with ⟨S', hS'⟩ | ⟨l2, h2, rfl⟩ | rfl | ⟨n2, rfl⟩
      · rw [tab_words hS'] at h
        exact absurd (nt_words _ _ h).1 (by decide)
      · exact absurd (nt_words _ _ h).1 (by decide)
      · exact absurd (nt_words _ _ h).1 (by decide)
      · have h3 := (nt_words _ _ h).2
        injection h3 with h3 _
        injection h3 with h3
        rw [h3]
  · intro he
    have he' : ∀ x ∈ T, wv ow j x = wv ow k x := fun x hx => (he x hx).symm
    rcases kw_cases ow k with ⟨S, hS⟩ | ⟨lo, hi, rfl⟩ | rfl | ⟨n, rfl⟩
    · rcases kw_cases ow j with ⟨S', hS'⟩ | ⟨lo, hi, rfl⟩ | rfl | ⟨n, rfl⟩
      · have hsub : ∀ x ∈ T, x ∈ S ↔ x ∈ S' := fun x hx => by
          have e := he x hx
          rw [wv_words hS, wv_words hS'] at e
          by_cases h1 : x ∈ S <;> by_cases h2 : x ∈ S'
          · exact ⟨fun _ => h2, fun _ => h1⟩
          · rw [if_pos h1, if_neg h2] at e; cases e
          · rw [if_neg h1, if_pos h2] at e; cases e
          · exact ⟨fun z => absurd z h1, fun z => absurd z h2⟩
        have hp : S.Perm S' := nd_perm S S' (hk.wds S hS).2.2 (hj.wds S' hS').2.2 fun x => ⟨fun z => (hsub x ((hk.wds S hS).1 x z).1).mp z, fun z => (hsub x ((hj.wds S' hS').1 x z).1).mpr z⟩
        have e : srt S = srt S' := by
          by_cases hx : ∃ zs : List (List Nat), zs.Perm S ∧ sortedS (zs.map SX.S) = true
          · obtain ⟨zs, h1, h2⟩ := hx
            rw [← srt_eq h1 h2, ← srt_eq (h1.trans hp) h2]
          · exact absurd (srt_ex S) hx
        rw [tab_words hS, tab_words hS', e]
      · obtain ⟨h1, h2⟩ := hj.num lo hi rfl
        obtain ⟨l, h, e, _⟩ := in_num h1 ⟨Int.le_refl _, hj.ok.2.1⟩ he'
        subst e
        cases hS
      · exact (ne_nam tk hk hS he).elim
      · exact (ne_txt tk hk hS hj.ok.1 he).elim
    · obtain ⟨h1, h2⟩ := hk.num lo hi rfl
      have hlh : lo ≤ hi := hk.ok.2.1
      obtain ⟨l, h, rfl, e1, e2⟩ := in_num h1 ⟨Int.le_refl _, hlh⟩ he
      obtain ⟨h3, h4⟩ := hj.num l h rfl
      have hlh2 : l ≤ h := hj.ok.2.1
      obtain ⟨_, _, e5, e3, e4⟩ := in_num h2 ⟨hlh, Int.le_refl _⟩ he
      injection e5 with e5 e6
      obtain ⟨_, _, e7, e8, e9⟩ := in_num h3 ⟨Int.le_refl _, hlh2⟩ he'
      injection e7 with e7 e10
      obtain ⟨_, _, e11, e12, e13⟩ := in_num h4 ⟨hlh2, Int.le_refl _⟩ he'
      injection e11 with e11 e14
      have a1 : lo = l := by omega
      have a2 : hi = h := by omega
      rw [a1, a2]
    · rcases kw_cases ow j with ⟨S', hS'⟩ | ⟨lo, hi, rfl⟩ | rfl | ⟨n, rfl⟩
      · exact (ne_nam tk hj hS' he').elim
      · obtain ⟨h1, h2⟩ := hj.num lo hi rfl
        obtain ⟨l, h, e, _⟩ := in_num h1 ⟨Int.le_refl _, hj.ok.2.1⟩ he'
        cases e
      · rfl
      · exact (ne_nt tk hj.ok.1 he).elim
    · rcases kw_cases ow j with ⟨S', hS'⟩ | ⟨lo, hi, rfl⟩ | rfl | ⟨n2, rfl⟩
      · exact (ne_txt tk hj hS' hk.ok.1 he').elim
      · obtain ⟨h1, h2⟩ := hj.num lo hi rfl
        obtain ⟨l, h, e, _⟩ := in_num h1 ⟨Int.le_refl _, hj.ok.2.1⟩ he'
        cases e
      · exact (ne_nt tk hk.ok.1 he').elim
      · have h1 := le_tt tk hj.ok.1 hj.ok.2 he
        have h2 := le_tt tk hk.ok.1 hk.ok.2 he'
        rw [show n = n2 by omega]
end
/-! ### what is drawn is good -/
theorem rl_lt {l : List Nat} (h : ∀ c ∈ l, c < 1114112) : ∀ c ∈ rl l, c < 1114112 := fun c hc => by
  have hq : rq l < 1114112 := by rcases rq_or l with e | e <;> rw [e] <;> decide
  unfold rl at hc
  rcases List.mem_append.mp hc with hc | hc
  · rcases List.mem_append.mp hc with hc | hc
    · rw [List.mem_singleton.mp hc]; exact hq
    · obtain ⟨x, hx, hx2⟩ := List.mem_flatMap.mp hc
      unfold rc at hx2
      have := h x hx
      split at hx2
      · simp only [List.mem_cons, List.not_mem_nil, or_false] at hx2
        omega
      · rw [List.mem_singleton.mp hx2]; exact this
  · rw [List.mem_singleton.mp hc]; exact hq
mutual
theorem rx_lt : ∀ d : Dt, gx d = true → ∀ c ∈ rx d, c < 1114112
  | .non, _, c, hc => by
    rw [rx] at hc
    simp only [List.mem_cons, List.not_mem_nil, or_false] at hc
    omega
  | .int i, _, c, hc => by
    rw [rx] at hc
    have := of_decide_eq_true (zL_isZ i c hc)
    omega
  | .str x, h, c, hc => by
    rw [rx] at hc
    refine rl_lt (fun y hy => ?_) c hc
    have := of_decide_eq_true (List.all_eq_true.mp (show (x.cps.toList.all fun c => decide (32 ≤ c ∧ c ≤ 126)) = true by rw [gx] at h; exact h) y hy)
    omega
  | .lst ds, h, c, hc => by
    rw [rx] at hc
    rcases List.mem_cons.mp hc with rfl | hc
    · decide
    · rcases List.mem_append.mp hc with hc | hc
      · exact jx_lt ds (by simpa [gx] using h) c hc
      · rw [List.mem_singleton.mp hc]; decide
  | .tup ds, h, c, hc => by
    rw [rx] at hc
    rcases List.mem_cons.mp hc with rfl | hc
    · decide
    · rcases List.mem_append.mp hc with hc | hc
      · exact jx_lt ds (by simpa [gx] using h) c hc
      · split at hc
        · simp only [List.mem_cons, List.not_mem_nil, or_false] at hc
          omega
        · rw [List.mem_singleton.mp hc]; decide
  | .bl _, h, _, _ => by cases h
  | .frz _, h, _, _ => by cases h
  | .dct _, h, _, _ => by cases h
  | .exc _ _ _, h, _, _ => by cases h
  | .cau _ _ _, h, _, _ => by cases h
  | .obj _ _, h, _, _ => by cases h
  | .raw _, h, _, _ => by cases h
theorem jx_lt : ∀ ds : List Dt, gxs ds = true → ∀ c ∈ jx ds, c < 1114112
  | [], _, c, hc => by rw [jx] at hc; cases hc
  | d :: ds, h, c, hc => by
    have h' : gx d = true ∧ gxs ds = true := by simpa [gxs] using h
    rw [jx] at hc
    rcases List.mem_append.mp hc with hc | hc
    · exact rx_lt d h'.1 c hc
    · exact tx_lt ds h'.2 c hc
theorem tx_lt : ∀ ds : List Dt, gxs ds = true → ∀ c ∈ tx ds, c < 1114112
  | [], _, c, hc => by rw [tx] at hc; cases hc
  | d :: ds, h, c, hc => by
    have h' : gx d = true ∧ gxs ds = true := by simpa [gxs] using h
    rw [tx] at hc
    rcases List.mem_cons.mp hc with rfl | hc
    · decide
    · rcases List.mem_cons.mp hc with rfl | hc
      · decide
      · rcases List.mem_append.mp hc with hc | hc
        · exact rx_lt d h'.1 c hc
        · exact tx_lt ds h'.2 c hc
end
theorem eqv_ws (ws : List (List Nat)) : PyData.eqvAll (pys (wsD ws)) (pys (wsD ws)) = true := by
  induction ws with
  | nil => simp [wsD, pys, PyData.eqvAll]
  | cons a t ih =>
    unfold wsD at ih ⊢
    simp only [List.map_cons, pys, PyData.eqvAll, ih, Bool.and_true]
    simp [py, PyData.eqv]
theorem ws_eqv (ws : List (List Nat)) : PyData.eqv (py (.lst (wsD ws))) (py (.lst (wsD ws))) = true := by
  simp only [py, pys, PyData.eqv, PyData.eqvAll, eqv_ws, Bool.and_true]
section
variable {X : Cx} {m : Mu} {G : Dt → Prop}
theorem o_neWs {ws : List (List Nat)} (hu : X.A.units + 64 < cLine) (h : ∀ l ∈ ws, ∀ c ∈ l, c < 1114112) (q : G (.bl false)) : O2 X (compareOp .NotEq) (.lst (wsD ws)) (.lst (wsD ws)) m G :=
  o_neD hu (by simp [Dw.plain, plain_wsD]) (by simp [Dw.plain, plain_wsD]) (shape_wsD h) (shape_wsD h) (by rw [ws_eqv]; exact q)
end
theorem nl1 {c : Nat} (h : 97 ≤ c ∧ c ≤ 122) : Nl [c] := ⟨by simp, by simp, fun x hx => by rw [List.mem_singleton.mp hx]; exact h⟩
theorem Nl.pr {l : List Nat} (h : Nl l) : ∀ c ∈ l, Pr c := fun c hc => by have := h.sg c hc; unfold Pr; omega
theorem Nm8.tl {ys : List (List Nat)} (h : Nm8 ys) : Nm8 (tl2 ys) := by
  unfold tl2
  split
  · exact ⟨by simp, by simp, fun l hl => by rw [List.mem_singleton.mp hl]; exact ⟨by simp, by simp, fun c hc => by simp at hc; omega⟩, by simp⟩
  · rename_i hn
    refine ⟨?_, ?_, fun l hl => h.nl l (List.mem_of_mem_tail hl), List.Nodup.sublist (List.tail_sublist ys) h.nd⟩
    · cases e : ys.tail with
      | nil => exact absurd e hn
      | cons a t => simp
    · have := h.l8
      rw [List.length_tail]
      omega
theorem Nm8.rev {ys : List (List Nat)} (h : Nm8 ys) : Nm8 ys.reverse := ⟨by rw [List.length_reverse]; exact h.l1, by rw [List.length_reverse]; exact h.l8, fun l hl => h.nl l (List.mem_reverse.mp hl), nodup_rev.mpr h.nd⟩
/-- the own words w: those drawn, perhaps "a b" too, the last eight, turned -/
structure Wk (ys ws : List (List Nat)) : Prop where
  ex : ∃ us, (us = ys ∨ us = (ys ++ [[97, 32, 98]]).drop ((ys ++ [[97, 32, 98]]).length - 8)) ∧ ws = us.reverse
theorem Wk.ow {ys ws : List (List Nat)} (h : Nm8 ys) (hw : Wk ys ws) : Ow ws := by
  obtain ⟨us, hu, rfl⟩ := hw.ex
  have hy : ∀ l ∈ ys ++ [[97, 32, 98]], 1 ≤ l.length ∧ l.length ≤ 20 ∧ ∀ c ∈ l, Pr c := fun l hl => by
    rcases List.mem_append.mp hl with hl | hl
    · have := h.nl l hl
      exact ⟨this.lo, by have := this.hi; omega, this.pr⟩
    · rw [List.mem_singleton.mp hl]
      exact ⟨by simp, by simp, fun c hc => by
        simp only [List.mem_cons, List.not_mem_nil, or_false] at hc
        unfold Pr
        omega⟩
  have hn : (ys ++ [[97, 32, 98]]).Nodup := List.nodup_append.mpr ⟨h.nd, by simp, fun a ha b hb e => by
    rw [List.mem_singleton.mp hb] at e
    have := (h.nl a ha).sg 32 (by rw [e]; simp)
    omega⟩
  rcases hu with rfl | rfl
  · exact ⟨by rw [List.length_reverse]; exact h.l8, fun l hl => hy l (List.mem_append_left _ (List.mem_reverse.mp hl)), nodup_rev.mpr h.nd⟩
  · refine ⟨?_, fun l hl => hy l (List.mem_of_mem_drop (List.mem_reverse.mp hl)), nodup_rev.mpr (List.Nodup.sublist (List.drop_sublist _ _) hn)⟩
    rw [List.length_reverse, List.length_drop]
    omega
structure Drawn (lo mo mn i : Int) (ys ws : List (List Nat)) : Prop where
  lo1 : -4 ≤ lo
  lo2 : lo ≤ 4
  mo1 : 0 ≤ mo
  mo2 : mo ≤ 2
  mn1 : 1 ≤ mn
  mn2 : mn ≤ 20
  i1 : -4 ≤ i
  i2 : i ≤ 4
  y : Nm8 ys
  w : Wk ys ws
section
variable {lo mo mn i : Int} {ys ws : List (List Nat)}
theorem Drawn.aW (h : Drawn lo mo mn i ys ws) : ∀ x ∈ K60.aW ys, x ∈ tried (kds lo mo mn ys) ws i ys := fun x hx => List.mem_append_left _ (List.mem_append_left _ (List.mem_append_left _ hx))
theorem Drawn.tok (h : Drawn lo mo mn i ys ws) : TOk (tried (kds lo mo mn ys) ws i ys) := by
  refine ⟨h.aW _ (List.mem_append_left _ (List.mem_append_left _ (by decide))), h.aW _ (List.mem_append_left _ (List.mem_append_left _ (by decide))), fun j h1 h2 => h.aW _ (List.mem_append_right _ (List.mem_map.mpr ⟨j - 1, List.mem_range.mpr (by omega), by rw [show 1 + (j - 1) = j by omega]⟩))⟩
theorem Drawn.ys_in (h : Drawn lo mo mn i ys ws) {x : List Nat} (hx : x ∈ ys) : x ∈ tried (kds lo mo mn ys) ws i ys := h.aW _ (List.mem_append_left _ (List.mem_append_right _ hx))
theorem numW_in {lo hi n : Int} (h1 : lo - 1 ≤ n) (h2 : n ≤ hi + 1) : zL n ∈ numW lo hi := by
  refine List.mem_map.mpr ⟨(n - (lo - 1)).toNat, List.mem_range.mpr (by omega), ?_⟩
  rw [show lo - 1 + (((n - (lo - 1)).toNat : Nat) : Int) = n by omega]
theorem Drawn.num_in (h : Drawn lo mo mn i ys ws) {a b : Int} (hk : Kd.num a b ∈ kds lo mo mn ys) (hab : a ≤ b) : zL a ∈ tried (kds lo mo mn ys) ws i ys ∧ zL b ∈ tried (kds lo mo mn ys) ws i ys :=
  ⟨List.mem_append_left _ (List.mem_append_left _ (List.mem_append_right _ (List.mem_flatMap.mpr ⟨_, hk, numW_in (by omega) (by omega)⟩))), List.mem_append_left _ (List.mem_append_left _ (List.mem_append_right _ (List.mem_flatMap.mpr ⟨_, hk, numW_in (by omega) (by omega)⟩)))⟩
theorem Drawn.nums (h : Drawn lo mo mn i ys ws) : ∀ k ∈ kds lo mo mn ys, ∀ a b, k = .num a b → -10 ≤ a ∧ a ≤ b ∧ b ≤ 10 := fun k hk a b e => by
  have := h.lo1; have := h.lo2; have := h.mo1; have := h.mo2
  subst e
  simp only [kds, List.mem_cons, List.not_mem_nil, or_false, Kd.num.injEq, reduceCtorEq, false_or] at hk
  omega
theorem Drawn.ok (h : Drawn lo mo mn i ys ws) : ∀ k ∈ kds lo mo mn ys, k.ok ∧ Own3 k := fun k hk => by
  have hn := h.nums k hk
  have := h.mn1; have := h.mn2
  have ho : ∀ z : List (List Nat), Nm8 z → (Kd.one z).ok := fun z hz => ⟨hz.l1, hz.l8, hz.nl, hz.nd⟩
  have hw : ∀ c, 97 ≤ c ∧ c ≤ 122 → (Kd.own [c]).ok := fun c hc => nl1 hc
  have nw : ∀ {a b}, Own3 (.num a b) := fun n e => by cases e
  have n2 : ∀ {a}, Own3 (.one a) := fun n e => by cases e
  have n3 : ∀ {a}, Own3 (.txt a) := fun n e => by cases e
  simp only [kds, List.mem_cons, List.not_mem_nil, or_false] at hk
  rcases hk with rfl | rfl | rfl | rfl | rfl | rfl | rfl | rfl | rfl | rfl | rfl | rfl | rfl
  · have := hn _ _ rfl; exact ⟨⟨by omega, by omega, by omega⟩, nw⟩
  · have := hn _ _ rfl; exact ⟨⟨by omega, by omega, by omega⟩, nw⟩
  · have := hn _ _ rfl; exact ⟨⟨by omega, by omega, by omega⟩, nw⟩
  · exact ⟨trivial, fun n e => by cases e⟩
  · exact ⟨ho _ h.y, n2⟩
  · exact ⟨ho _ h.y.rev, n2⟩
  · exact ⟨ho _ h.y.tl, n2⟩
  · exact ⟨hw _ (by decide), fun n e => by cases e; exact .inl rfl⟩
  · exact ⟨hw _ (by decide), fun n e => by cases e; exact .inr (.inl rfl)⟩
  · exact ⟨⟨by omega, by omega⟩, n3⟩
  · exact ⟨⟨by omega, by omega⟩, n3⟩
  · exact ⟨hw _ (by decide), fun n e => by cases e; exact .inr (.inr rfl)⟩
  · have := hn _ _ rfl; exact ⟨⟨by omega, by omega, by omega⟩, nw⟩
theorem Drawn.tail_in (h : Drawn lo mo mn i ys ws) {x : List Nat} (hx : x ∈ tl2 ys) : x ∈ tried (kds lo mo mn ys) ws i ys := by
  unfold tl2 at hx
  split at hx
  · rw [List.mem_singleton.mp hx]; exact h.tok.zz
  · exact h.ys_in (List.mem_of_mem_tail hx)
theorem Drawn.owok (h : Drawn lo mo mn i ys ws) (n : List Nat) : Ow (owF ws i n) := owF_ow (h.w.ow h.y) (by have := h.i1; omega) (by have := h.i2; omega) n
theorem Drawn.kok (h : Drawn lo mo mn i ys ws) : ∀ k ∈ kds lo mo mn ys, KOk (tried (kds lo mo mn ys) ws i ys) (owF ws i) k := fun k hk => by
  obtain ⟨h1, h2⟩ := h.ok k hk
  refine ⟨h1, fun a b e => ?_, fun S hS => ?_⟩
  · have hab := (h.nums k hk a b e).2.1
    exact h.num_in (e ▸ hk) hab
  · have hone : ∀ z, k = .one z → ∀ x ∈ z, x ∈ tried (kds lo mo mn ys) ws i ys := fun z e x hx => by
      subst e
      simp only [kds, List.mem_cons, List.not_mem_nil, or_false, reduceCtorEq, false_or, Kd.one.injEq] at hk
      rcases hk with rfl | rfl | rfl
      · exact h.ys_in hx
      · exact h.ys_in (List.mem_reverse.mp hx)
      · exact h.tail_in hx
    cases k with
    | one z =>
      have e : z = S := Option.some.inj hS
      subst e
      obtain ⟨a1, a2, a3, a4⟩ := h1
      exact ⟨fun x hx => ⟨hone z rfl x hx, fun e => by have := (a3 x hx).lo; rw [e] at this; exact absurd this (by decide), (a3 x hx).pr⟩, a2, a4⟩
    | own n =>
      cases hS
      have ho := h.owok n
      refine ⟨fun x hx => ⟨?_, fun e => by have := (ho.sg x hx).1; rw [e] at this; exact absurd this (by decide), (ho.sg x hx).2.2⟩, ho.len, ho.nd⟩
      rcases h2 n rfl with rfl | rfl | rfl
      · exact List.mem_append_left _ (List.mem_append_right _ hx)
      · exact List.mem_append_right _ hx
      · cases hx
    | num a b => cases hS
    | nam => cases hS
    | txt n => cases hS
theorem Drawn.words (h : Drawn lo mo mn i ys ws) : (∀ x ∈ tried (kds lo mo mn ys) ws i ys, x.length ≤ 40 ∧ ∀ c ∈ x, Pr c) ∧ (tried (kds lo mo mn ys) ws i ys).length ≤ 1000 := by
  have i1 := h.i1; have i2 := h.i2
  have hl8 := h.y.l8
  constructor
  · intro x hx
    unfold tried at hx
    rcases List.mem_append.mp hx with hx | hx
    · rcases List.mem_append.mp hx with hx | hx
      · rcases List.mem_append.mp hx with hx | hx
        · unfold K60.aW at hx
          rcases List.mem_append.mp hx with hx | hx
          · rcases List.mem_append.mp hx with hx | hx
            · simp only [List.mem_cons, List.not_mem_nil, or_false] at hx
              unfold Pr
              rcases hx with rfl | rfl | rfl | rfl | rfl | rfl <;> exact ⟨by decide, by decide⟩
            · have := h.y.nl x hx
              exact ⟨by have := this.hi; omega, this.pr⟩
          · obtain ⟨j, hj, rfl⟩ := List.mem_map.mp hx
            have hj := List.mem_range.mp hj
            exact ⟨by rw [List.length_replicate]; omega, fun c hc => by rw [(List.mem_replicate.mp hc).2]; unfold Pr; omega⟩
        · obtain ⟨k, hk, hx⟩ := List.mem_flatMap.mp hx
          cases k with
          | num a b =>
            have hb := h.nums _ hk a b rfl
            obtain ⟨j, hj, rfl⟩ := List.mem_map.mp (show x ∈ (List.range (b + 2 - (a - 1)).toNat).map fun j : Nat => zL (a - 1 + j) from hx)
            have hj := List.mem_range.mp hj
            have h3 := zL_31 (i := a - 1 + (j : Int)) (by omega) (by omega)
            refine ⟨by omega, fun c hc => ?_⟩
            have := of_decide_eq_true (zL_isZ _ c hc)
            unfold Pr
            omega
          | _ => cases hx
      · have := (h.w.ow h.y).sg x hx
        exact ⟨by omega, this.2.2⟩
    · have := (h.owok wO).sg x hx
      exact ⟨by omega, this.2.2⟩
  · have h1 := flat_len h.nums
    have h2 : (kds lo mo mn ys).length = 13 := rfl
    have h3 := (h.w.ow h.y).len
    have h4 : ([zL i, [45]] : List (List Nat)).length = 2 := rfl
    have h5 : (K60.aW ys).length = 6 + ys.length + 21 := by unfold K60.aW; rw [List.length_append, List.length_append, List.length_map, List.length_range]; rfl
    unfold tried
    rw [List.length_append, List.length_append, List.length_append, h4, h5]
    omega
theorem tab_gx {T : List (List Nat)} {ow : List Nat → List (List Nat)} {k : Kd} (hT : ∀ x ∈ T, x.length ≤ 40) (h : KOk T ow k) : gx (tabD ow k) = true ∧ Sm 8000 8 (tabD ow k) := by
  have st : ∀ x : Str, okd (.str x) = true → wt (.str x) ≤ 100 → Sm 100 5 (.str x) := fun x h1 h2 => ⟨h1, h2, Nat.zero_le _⟩
  rcases kw_cases ow k with ⟨S, hS⟩ | ⟨lo, hi, rfl⟩ | rfl | ⟨n, rfl⟩
  · obtain ⟨h1, h2, h3⟩ := h.wds S hS
    rw [tab_words hS]
    have hp := srt_perm S
    have hg : ∀ x ∈ srt S, x.length ≤ 40 ∧ ∀ c ∈ x, Pr c := fun x hx => ⟨hT x (h1 x (hp.mem_iff.mp hx)).1, (h1 x (hp.mem_iff.mp hx)).2.2⟩
    have hl : (srt S).length ≤ 8 := by rw [hp.length_eq]; exact h2
    constructor
    · show (gx (.str "words") && (gxs (wsD (srt S)) && true)) = true
      rw [show gx (.str "words") = true by decide +kernel, Bool.true_and, Bool.and_true, gxs_all]
      refine List.all_eq_true.mpr fun d hd => ?_
      obtain ⟨x, hx, rfl⟩ := List.mem_map.mp hd
      rw [gx]
      exact List.all_eq_true.mpr fun c hc => decide_eq_true ((hg x hx).2 c hc)
    · have hs : SmL (404 * (srt S).length) 5 (wsD (srt S)) := smL_map (f := fun x => Dt.str (SX.S x)) fun x hx => Sm.str (fun c hc => by have := ((hg x hx).2 c hc).2; omega) (by have := (hg x hx).1; omega)
      exact ((SmL.cons (n' := 3300) ((st "words" (by decide +kernel) (by decide +kernel)).mono (n' := 100) (k' := 6) (by decide) (by decide)) ((SmL.cons (n := 3240) (n' := 0) (k := 6) (hs.tup.mono (by omega) (by decide)) SmL.nil).mono (k' := 6) (by decide) (by decide))).tup).mono (by decide) (by decide)
  · refine ⟨by rfl, ?_⟩
    obtain ⟨ds, e, hs⟩ := Kd.sm h.ok
    show Sm 8000 8 (Kd.d (.num lo hi))
    rw [e]
    exact hs.tup.mono (by decide) (by decide)
  · refine ⟨by rfl, ?_⟩
    obtain ⟨ds, e, hs⟩ := Kd.sm h.ok
    show Sm 8000 8 (Kd.d .nam)
    rw [e]
    exact hs.tup.mono (by decide) (by decide)
  · refine ⟨by rfl, ?_⟩
    obtain ⟨ds, e, hs⟩ := Kd.sm h.ok
    show Sm 8000 8 (Kd.d (.txt n))
    rw [e]
    exact hs.tup.mono (by decide) (by decide)
end
section
variable {lo mo mn i : Int} {ys ws : List (List Nat)}
theorem wrts_wv (k : Kd) (T : List (List Nat)) : wrts k ws i T = T.map (wv (owF ws i) k) := by
  unfold wrts
  refine List.map_congr_left fun x _ => ?_
  cases k <;> rfl
/-- the law -/
theorem Drawn.law (h : Drawn lo mo mn i ys ws) {k j : Kd} (hk : k ∈ kds lo mo mn ys) (hj : j ∈ kds lo mo mn ys) :
    decide (shows (tabD (owF ws i) k) = shows (tabD (owF ws i) j)) = decide (shows (.lst (wrts k ws i (tried (kds lo mo mn ys) ws i ys))) = shows (.lst (wrts j ws i (tried (kds lo mo mn ys) ws i ys)))) := by
  have k1 := h.kok k hk
  have k2 := h.kok j hj
  have hw := h.words.1
  have hT : ∀ x ∈ tried (kds lo mo mn ys) ws i ys, x.length ≤ 40 := fun x hx => (hw x hx).1
  have g1 := (tab_gx hT k1).1
  have g2 := (tab_gx hT k2).1
  have gw : ∀ q : Kd, q.ok → gx (.lst (wrts q ws i (tried (kds lo mo mn ys) ws i ys))) = true := fun q hq => by
    rw [gx, gxs_all]
    refine List.all_eq_true.mpr fun d hd => ?_
    obtain ⟨x, hx, rfl⟩ := List.mem_map.mp hd
    exact (wrt_sm (hw x hx) hq).2
  have hi := tab_iff h.tok k1 k2
  have e1 : shows (tabD (owF ws i) k) = shows (tabD (owF ws i) j) ↔ tabD (owF ws i) k = tabD (owF ws i) j := ⟨shows_one g1 g2, fun e => by rw [e]⟩
  have e2 : shows (.lst (wrts k ws i (tried (kds lo mo mn ys) ws i ys))) = shows (.lst (wrts j ws i (tried (kds lo mo mn ys) ws i ys))) ↔ ∀ x ∈ tried (kds lo mo mn ys) ws i ys, wv (owF ws i) k x = wv (owF ws i) j x := by
    constructor
    · intro e
      have e3 := shows_one (gw k k1.ok) (gw j k2.ok) e
      injection e3 with e3
      rw [wrts_wv, wrts_wv] at e3
      exact List.map_inj_left.mp e3
    · intro e
      rw [wrts_wv, wrts_wv, List.map_inj_left.mpr e]
  exact decide_eq_decide.mpr (e1.trans (hi.trans e2.symm))
end
/-! ### the law -/
def lposT : Pos := match defBody s_l_teller with
  | [.Return (some (.Lambda _ _ _ p)) _] => p
  | _ => ⟨0, 0, 0, 0⟩
def rposT : Pos := match defBody s_l_teller with
  | [.Return _ p] => p
  | _ => ⟨0, 0, 0, 0⟩
def L0 : Lm := match defBody s_l_teller with
  | [.Return (some (.Lambda ps b sc _)) _] => { qual := "_law_teller.<locals>.<lambda>", params := ps, body := b, scope := sc, x := "_law_words" }
  | _ => { qual := "", params := defArgs s_l_teller, body := .Constant .none 0 ⟨0, 0, 0, 0⟩, scope := defScope s_l_teller, x := "" }
theorem L0_body : defBody s_l_teller = [.Return (some (.Lambda L0.params L0.body L0.scope lposT)) rposT] := rfl
theorem L0_ok : LmOk L0 := by
  refine ⟨rfl, rfl, rfl, by decide +kernel, fun y e => ?_, rfl, rfl, ⟨_, _, _, rfl⟩, ⟨by decide, by decide⟩, fun q cl pm cdv ctv => rfl⟩
  have hs : L0.scope.names = [(("_law_words" : Str), NameKind.free), (("list" : Str), NameKind.globalImplicit)] ∨ L0.scope.names = [(("list" : Str), NameKind.globalImplicit), (("_law_words" : Str), NameKind.free)] := by first | exact .inl rfl | exact .inr rfl
  rcases hs with h | h
  · rw [h, List.lookup_cons] at e
    cases hb : y == ("_law_words" : Str) with
    | true => exact eq_of_beq hb
    | false =>
      rw [hb] at e
      simp only [List.lookup_cons] at e
      cases hc : y == ("list" : Str) <;> rw [hc] at e <;> cases e
  · rw [h, List.lookup_cons] at e
    cases hb : y == ("list" : Str) with
    | true => rw [hb] at e; cases e
    | false =>
      rw [hb] at e
      simp only [List.lookup_cons] at e
      cases hc : y == ("_law_words" : Str) with
      | true => exact eq_of_beq hc
      | false => rw [hc] at e; cases e
def kvL (ws : List (List Nat)) (i : Int) : List (List Nat × Dt) := [(wW, clo L0 (.lst (wsD ws))), (wO, clo L0 (.lst (wsD [zL i, [45]]))), (wE, clo L0 (.lst []))]
def plL : List Plc := [⟨[112, 108, 97, 99, 101, 111, 110, 101], .own wW, 1⟩, ⟨[112, 108, 97, 99, 101, 116, 119, 111], .own wO, 1⟩, ⟨[112, 108, 97, 99, 101, 102, 101, 119], .own wE, 1⟩]
def cmdL : Cmd := ⟨[116, 111, 111, 108], [], plL, [], []⟩
theorem nl_dec {l : List Nat} (h : (decide (1 ≤ l.length) && decide (l.length ≤ 8) && l.all fun c => decide (97 ≤ c ∧ c ≤ 122)) = true) : Nl l := by
  rw [Bool.and_eq_true, Bool.and_eq_true] at h
  exact ⟨of_decide_eq_true h.1.1, of_decide_eq_true h.1.2, fun c hc => of_decide_eq_true (List.all_eq_true.mp h.2 c hc)⟩
theorem plL_ok : PlsOk plL := by
  refine ⟨fun p hp => ?_, by decide, by decide, by decide, by decide⟩
  simp only [plL, List.mem_cons, List.not_mem_nil, or_false] at hp
  rcases hp with rfl | rfl | rfl
  · exact ⟨nl_dec (by decide), nl1 (by decide), by show 1 < 4; decide⟩
  · exact ⟨nl_dec (by decide), nl1 (by decide), by show 1 < 4; decide⟩
  · exact ⟨nl_dec (by decide), nl1 (by decide), by show 1 < 4; decide⟩
theorem cmdL_ok : cmdL.ok := ⟨nl_dec (by decide), (fun o h => by cases h), by decide, plL_ok, (fun g h => by cases h), by decide, by decide, .inl rfl⟩
theorem kvL_val {ws : List (List Nat)} {i : Int} {n : List Nat} (h : n = wW ∨ n = wO ∨ n = wE) : valD (kvD (kvL ws i)) (.inr (SX.S n)) = some (clo L0 (.lst (wsD (owF ws i n)))) := by
  rcases h with rfl | rfl | rfl <;> rfl
theorem cmdL_lk (ws : List (List Nat)) (i : Int) : LkOk cmdL (kvD (kvL ws i)) := by
  refine ⟨cmdL_ok, rfl, rfl, rfl, by decide, fun p hp n e => ?_⟩
  have h3 : n = wW ∨ n = wO ∨ n = wE := by
    have hp : p ∈ plL := hp
    simp only [plL, List.mem_cons, List.not_mem_nil, or_false] at hp
    rcases hp with rfl | rfl | rfl
    · cases e; exact .inl rfl
    · cases e; exact .inr (.inl rfl)
    · cases e; exact .inr (.inr rfl)
  rw [kvL_val h3]
  rfl
def odds : List Dt := [.non, .int 5, .tup [.str "text", .int 0], .tup [.str "text", .int 21], .lst [.str "name"], .tup [.str "one", .tup []], .tup [.str "name", .int 1], .str "name", .tup [.str "number", .int 2, .int 1]]
theorem Sm.tk {K : PySem.W.Frag} {d : Dt} {n k : Nat} (h : Sm n k d) (hn : n ≤ 19000) (hk : k ≤ 60) : Tk K d := ⟨h.th (by omega), fun ds e => by
  subst e
  have := h.of_tup.1
  exact this.mono hn hk⟩
theorem odds_ok : ∀ d ∈ odds, fKind d = false ∧ Sm 900 3 d := fun d hd => by
  have h := List.all_eq_true.mp (show (odds.all fun d => !fKind d && (okd d && Nat.ble (wt d) 900 && Nat.ble (lv d) 3)) = true by decide +kernel) d hd
  rw [Bool.and_eq_true, Bool.and_eq_true, Bool.and_eq_true] at h
  exact ⟨by simpa using h.1, h.2.1.1, Nat.le_of_ble_eq_true h.2.1.2, Nat.le_of_ble_eq_true h.2.2⟩
def bads : List Dt := [.non, .str "tool", cmdL.d, .int 7]
theorem bads_ok : ∀ d ∈ bads, noG d ∧ Sm 3000 8 d := fun d hd => by
  have h := List.all_eq_true.mp (show (bads.all fun d => (okd d && Nat.ble (wt d) 3000 && Nat.ble (lv d) 8)) = true by decide +kernel) d hd
  rw [Bool.and_eq_true, Bool.and_eq_true] at h
  refine ⟨?_, h.1.1, Nat.le_of_ble_eq_true h.1.2, Nat.le_of_ble_eq_true h.2⟩
  simp only [bads, List.mem_cons, List.not_mem_nil, or_false] at hd
  rcases hd with rfl | rfl | rfl | rfl
  · exact ⟨_, rfl, by decide⟩
  · exact ⟨_, rfl, by decide⟩
  · exact ⟨_, rfl, by decide⟩
  · exact ⟨_, rfl, by decide⟩
def HPt (PT : Addr) (m : Mu) : Prop := ∃ cs, (cs = [] ∨ cs = [.obj (codeφ L0.qual) []]) ∧ (PT, Mc.gen (tabφ lposT) cs) ∈ m
theorem HPt.sub {PT : Addr} {m m' : Mu} (h : HPt PT m) (s : ∀ x ∈ m, x ∈ m') : HPt PT m' := by
  obtain ⟨cs, h1, h2⟩ := h
  exact ⟨cs, h1, s _ h2⟩
theorem HPt.kps {PT p : Addr} {m m' : Mu} (h : HPt PT m) (s : Kps p m m') (n : PT ≠ p) : HPt PT m' := by
  obtain ⟨cs, h1, h2⟩ := h
  exact ⟨cs, h1, s _ h2 n⟩
theorem HPt.dom {PT : Addr} {m : Mu} (h : HPt PT m) : PT ∈ dom m := by
  obtain ⟨cs, h1, h2⟩ := h
  exact List.mem_map.mpr ⟨_, h2, rfl⟩
def W_boxN : Spd := fun ds m F E => ∃ c : Int, ds = [.int c] ∧ ∀ p m', Bx p 0 m' → p ∉ dom m → (∀ x ∈ m, x ∈ m') → F (.raw (.ref p)) m'
def W_kdsF : Spd := fun ds m F E => ∃ b n, ds = [.raw (.ref b)] ∧ Bx b n m ∧ n ≤ 600000 ∧ ∀ lo mo mn ys m', -4 ≤ lo → lo ≤ 4 → 0 ≤ mo → mo ≤ 2 → 1 ≤ mn → mn ≤ 20 → Nm8 ys → Bx b (n + 21) m' → Kps b m m' → F (.tup [.lst ((kds lo mo mn ys).map Kd.d), .tup (wsD ys)]) m'
def W_tbsF : Spd := fun ds m F E => ∃ b n ys, ds = [.raw (.ref b), .tup (wsD ys)] ∧ Nm8 ys ∧ Bx b n m ∧ n ≤ 600000 ∧ ∀ ws i m', (ws = ys ∨ ws = (ys ++ [[97, 32, 98]]).drop ((ys ++ [[97, 32, 98]]).length - 8)) → -4 ≤ i → i ≤ 4 → Bx b (n + 2) m' → Kps b m m' → F (.dct (heapW ws.reverse i)) m'
def W_law (PT : Addr) : Spd := fun ds m F E => ∃ ns : List Int, ds = [.frz (ns.map Dt.int)] ∧ ns.length ≤ 63 ∧ HPt PT m ∧ ∀ m', F (.bl true) m'
section
variable {P : Program} {w : World} {K : PySem.W.Frag} {mg : Str → Option Value} {base : Heap}
theorem kds_fr {k : Nat} (D : FnD P w K mg base "_law_kinds" k W_kds) : FnD P w K mg base "_law_kinds" k W_kdsF := D.fr fun ds m F E h => by
  obtain ⟨b, n, rfl, hb, hn, q⟩ := h
  exact ⟨b, b, n, rfl, hb.sel, hn, fun lo mo mn ys m1 a1 a2 a3 a4 a5 a6 a7 hb1 m' hs hk => q lo mo mn ys m' a1 a2 a3 a4 a5 a6 a7 (hb1.sub hs) hk⟩
theorem tbs_fr {k : Nat} (D : FnD P w K mg base "_law_tables" k W_tbs) : FnD P w K mg base "_law_tables" k W_tbsF := D.fr fun ds m F E h => by
  obtain ⟨b, n, ys, rfl, hy, hb, hn, q⟩ := h
  exact ⟨b, b, n, ys, rfl, hy, hb.sel, hn, fun ws i m1 a1 a2 a3 hb1 m' hs hk => q ws i m' a1 a2 a3 (hb1.sub hs) hk⟩
theorem ok_boxN {f : Addr} {fd : FuncData} (B : Bi mg) (F : Fun K "_law_box" "_law_box" s_l_box f fd) : FnG P w K mg base 1 f fd ["_law_cell_here"] (toSp K W_boxN) := by
  refine fn_dw F sc_l_box (fun ds m Q E h => ?_) (fun cdv A outer s H E gd ds m Q E' h => ?_)
  · obtain ⟨c, rfl, _⟩ := h
    rfl
  · obtain ⟨c, rfl, q⟩ := h
    have hmax := B.max
    show LB _ _ [some (.int c)] m _
    refine lb_one (ls_ret ?_)
    refine le_mut ?_
    k_caughtNB
    refine o_pow ⟨by decide, by decide, by decide⟩ ?_
    k_caughtNB
    refine o_mod (by decide) ?_
    k_caughtNB
    intro p hp
    exact q p _ ⟨_, _, 0, List.mem_cons_self, by split <;> omega, Int.emod_nonneg _ (by decide), Int.emod_lt_of_pos _ (by decide), by omega, by omega⟩ hp fun x hx => List.mem_cons_of_mem _ hx
end
/-! ### the law's walk -/
section
variable {P : Program} {w : World} {K : PySem.W.Frag} {mg : Str → Option Value} {base : Heap}
theorem ok_law {f : Addr} {fd : FuncData} {C PT : Addr} (B : Bi mg) (G : GrK K C) (D1 : FnD P w K mg base "_law_box" 1 W_boxN) (D2 : FnD P w K mg base "_law_cell" 1 W_cell) (D3 : FnD P w K mg base "_law_kinds" 3 W_kds) (D4 : FnD P w K mg base "_law_tables" 2 W_tbs) (D5 : FnD P w K mg base "_law_take" 1 W_take)
    (D6 : FnD P w K mg base "_law_teller" 2 (W_tell L0 PT lposT)) (D7 : MkW P w K mg base "Grammar" C 7 1 "own" (W_gin P w C)) (D8 : FnD P w K mg base "_law_tried" 1 W_trd) (D9 : FnD P w K mg base "table_of" 4 (W_tab P w C L0)) (D10 : FnD P w K mg base "_law_worths" 5 W_wos)
    (D11 : FnD P w K mg base "_law_due" 1 W_due) (D12 : MtD P w K mg base C "root" 1 (W_root P w C)) (D13 : FnD P w K mg base "_law_refused" 5 (W_rfs K C)) (F : Fun K "law" "law" s_law f fd) : FnG P w K mg base 9 f fd ["_law_script"] (toSp K (W_law PT)) := by
  refine fn_dw F sc_law (fun ds m Q E h => ?_) (fun cdv A outer s H E gd ds m Q E' h => ?_)
  · obtain ⟨d, rfl, _⟩ := h
    rfl
  · obtain ⟨ns, rfl, hns, hp0, q⟩ := h
    have hb1 := B.range; have hb2 := B.max; have hb3 := B.min; have hb4 := B.len; have hb5 := B.repr; have hb6 := B.tuple; have hb7 := B.dict
    have hu := gd.room.units
    have T3 := kds_fr D3
    have T4 := tbs_fr D4
    have T5 := take_fr D5
    generalize hsc : ns.map Dt.int = nd
    have hndl : (nd.length : Int) ≤ 63 := by rw [← hsc, List.length_map]; omega
    show LB _ _ [some (.frz nd), none, none, none, none, none, none, none, none, none, none, none, none, none, none, none, none, none] m _
    refine lb_cons (ls_for gd (fun ds i r2 m2 => HPt PT m2 ∧ ∃ a1 a2 a3 a4 a5 a6 a7 a8 a9 a10 a11 a12 a13 a14 a15 a16 a17, r2 = [some (.frz nd), a1, a2, a3, a4, a5, a6, a7, a8, a9, a10, a11, a12, a13, a14, a15, a16, a17]) ?_)
    refine li_rng1 hb1 ?_
    k_caughtNB
    refine ⟨by split <;> split <;> omega, by split <;> split <;> omega, ⟨hp0, _, _, _, _, _, _, _, _, _, _, _, _, _, _, _, _, _, rfl⟩, fun i d r2 m2 hd iv => ?_, fun r2 m2 iv => ?_⟩
    rotate_left
    · obtain ⟨_, a1, a2, a3, a4, a5, a6, a7, a8, a9, a10, a11, a12, a13, a14, a15, a16, a17, rfl⟩ := iv
      k_caughtNB
      exact q _
    obtain ⟨hp2, a1, a2, a3, a4, a5, a6, a7, a8, a9, a10, a11, a12, a13, a14, a15, a16, a17, rfl⟩ := iv
    obtain ⟨hi, rfl⟩ := rng_get' hd
    have hi : i < 64 := by
      revert hi
      split <;> split <;> omega
    refine lg_name gd (by tb_rel) ?_
    -- the box
    refine lb_mid (fun r1 m3 => ∃ b, r1 = [some (.frz nd), some (.int (0 + (i : Int))), some (.raw (.ref b)), a3, a4, a5, a6, a7, a8, a9, a10, a11, a12, a13, a14, a15, a16, a17] ∧ Bx b 0 m3 ∧ HPt PT m3 ∧ PT ≠ b) ?_ ?_
    · k_caughtNB
      refine ⟨ns, _, by rw [hsc], by omega, by omega, by omega, fun c => ?_⟩
      k_caughtNB
      refine ⟨c, rfl, fun p m3 hb hpn hsub => ?_⟩
      exact ⟨p, rfl, hb, hp2.sub hsub, fun e => hpn (e ▸ hp2.dom)⟩
    rintro r1 m3 ⟨b, rfl, hbx, hp3, hne⟩
    generalize (Dt.int (0 + (i : Int))) = di
    -- the kinds
    refine lb_mid (fun r1 m4 => ∃ lo mo mn ys, (-4 ≤ lo ∧ lo ≤ 4 ∧ 0 ≤ mo ∧ mo ≤ 2 ∧ 1 ≤ mn ∧ mn ≤ 20) ∧ Nm8 ys ∧ r1 = [some (.frz nd), some di, some (.raw (.ref b)), some (.lst ((kds lo mo mn ys).map Kd.d)), some (.tup (wsD ys)), a5, a6, a7, a8, a9, a10, a11, a12, a13, a14, a15, a16, a17] ∧ Bx b 21 m4 ∧ HPt PT m4) ?_ ?_
    · refine ls_asg ?_
      refine le_call T3 gd (by decide) ?_
      k_caughtNB
      refine ⟨b, 0, rfl, hbx, by decide, fun lo mo mn ys m4 h1 h2 h3 h4 h5 h6 h7 hb4 kp => ?_⟩
      k_caughtNB
      exact ⟨lo, mo, mn, ys, ⟨h1, h2, h3, h4, h5, h6⟩, h7, rfl, hb4, hp3.kps kp hne⟩
    rintro r1 m4 ⟨lo, mo, mn, ys, ⟨h1, h2, h3, h4, h5, h6⟩, hys, rfl, hbx4, hp4⟩
    -- the tables
    refine lb_mid (fun r1 m5 => ∃ ws i, Drawn lo mo mn i ys ws ∧ r1 = [some (.frz nd), some di, some (.raw (.ref b)), some (.lst ((kds lo mo mn ys).map Kd.d)), some (.tup (wsD ys)), some (.dct (heapW ws i)), a6, a7, a8, a9, a10, a11, a12, a13, a14, a15, a16, a17] ∧ Bx b 23 m5 ∧ HPt PT m5) ?_ ?_
    · refine' ls_set gd ?hsl ?_
      (case hsl => tb_rel)
      refine le_call T4 gd (by decide) ?_
      k_caughtNB
      refine ⟨b, 21, ys, rfl, hys, hbx4, by decide, fun us i m5 hu1 hu2 hu3 hb5 kp => ?_⟩
      exact ⟨us.reverse, i, ⟨h1, h2, h3, h4, h5, h6, hu2, hu3, hys, ⟨us, hu1, rfl⟩⟩, rfl, hb5, hp4.kps kp hne⟩
    rintro r1 m5 ⟨ws, i, hD, rfl, hbx5, hp5⟩
    -- the places
    refine lb_midP [some (.frz nd), some di, some (.raw (.ref b)), some (.lst ((kds lo mo mn ys).map Kd.d)), some (.tup (wsD ys)), some (.dct (heapW ws i)), some (.tup (plL.map Plc.d)), a7, a8, a9, a10, a11, a12, a13, a14, a15, a16, a17] m5 ?_ ?_
    · k_caughtNB
      k_subL
      refine li_rng1 hb1 ?_
      k_caughtNB
      refine ⟨by decide, by decide, ?_⟩
      refine lc_each (ds := rng 0 (3 : Int).toNat) (fun i acc m9 => acc = (plL.take i).map Plc.d ∧ m9 = m5) gd (by rw [rng_len]; decide) ⟨rfl, rfl⟩ (fun i d acc m9 hi hacc iv s1 H1 C1 cl1 fp1 gd1 => ?_) (fun acc m9 hacc iv => ?_)
      · obtain ⟨rfl, rfl⟩ := iv
        obtain ⟨h, rfl⟩ := rng_get' hi
        have h : i < 3 := h
        rcases (by omega : i = 0 ∨ i = 1 ∨ i = 2) with rfl | rfl | rfl
        · k_caughtNB
          refine o_addS (a := [112, 108, 97, 99, 101]) (b := [111, 110, 101]) (by decide) ?_
          k_caughtNB
          refine oi_S (a := [119, 111, 101]) (n := 0) (c := 119) (by decide) (by rfl) ?_
          k_caughtNB
          exact ⟨rfl, rfl⟩
        · k_caughtNB
          refine o_addS (a := [112, 108, 97, 99, 101]) (b := [116, 119, 111]) (by decide) ?_
          k_caughtNB
          refine oi_S (a := [119, 111, 101]) (n := 1) (c := 111) (by decide) (by rfl) ?_
          k_caughtNB
          exact ⟨rfl, rfl⟩
        · k_caughtNB
          refine o_addS (a := [112, 108, 97, 99, 101]) (b := [102, 101, 119]) (by decide) ?_
          k_caughtNB
          refine oi_S (a := [119, 111, 101]) (n := 2) (c := 101) (by decide) (by rfl) ?_
          k_caughtNB
          exact ⟨rfl, rfl⟩
      · obtain ⟨rfl, rfl⟩ := iv
        k_caughtNB
        exact ⟨rfl, rfl⟩
    -- the Grammar
    refine lb_mid (fun r1 m6 => ∃ a dx od, (a, Mc.ins C dx (gF P w od (kvD (kvL ws i)) cmdL.d)) ∈ m6 ∧ a ≠ b ∧ r1 = [some (.frz nd), some di, some (.raw (.ref b)), some (.lst ((kds lo mo mn ys).map Kd.d)), some (.tup (wsD ys)), some (.dct (heapW ws i)), some (.tup (plL.map Plc.d)), some (.raw (.ref a)), a8, a9, a10, a11, a12, a13, a14, a15, a16, a17] ∧ Bx b 23 m6 ∧ HPt PT m6) ?_ ?_
    · have hv : ∀ n, n = wW ∨ n = wO ∨ n = wE → valD (heapW ws i) (.inr (SX.S n)) = some (.lst (wsD (owF ws i n))) := fun n hn => heap_val hn
      have hk3 : (heapW ws i).map (fun kv => kD kv.1) = [.str (SX.S wW), .str (SX.S wO), .str (SX.S wE)] := rfl
      generalize heapW ws i = hp at hv hk3
      refine' ls_set gd ?hsl ?_
      (case hsl => tb_rel)
      refine le_makeW D7 gd (by decide) ?_
      k_caughtNB
      refine le_callT (x := "dict") (T := "dict") bt_dict (by assumption) ?_
      refine la_cons ?_
      k_subL
      refine li_dct ?_
      k_caughtNB
      rw [hk3]
      refine lc_each (ds := [.str (SX.S wW), .str (SX.S wO), .str (SX.S wE)]) (fun j acc m9 => acc = (((kvL ws i).map fun kv => Dt.tup [.str (SX.S kv.1), kv.2])).take j ∧ (∀ x ∈ m5, x.1 ≠ PT → x ∈ m9) ∧ HPt PT m9) gd (by decide) ⟨rfl, fun x hx _ => hx, hp5⟩ (fun j d acc m9 hi hacc iv s1 H1 C1 cl1 fp1 gd1 => ?_) (fun acc m9 hacc iv => ?_)
      · obtain ⟨rfl, hk9, cs, hcs, hm9⟩ := iv
        have hh : ∃ n, d = .str (SX.S n) ∧ (n = wW ∨ n = wO ∨ n = wE) ∧ (((kvL ws i).map fun kv => Dt.tup [.str (SX.S kv.1), kv.2])).take (j + 1) = (((kvL ws i).map fun kv => Dt.tup [.str (SX.S kv.1), kv.2])).take j ++ [.tup [.str (SX.S n), clo L0 (.lst (wsD (owF ws i n)))]] := by
          have hj : j < 3 := (List.getElem?_eq_some_iff.mp hi).1
          rcases (by omega : j = 0 ∨ j = 1 ∨ j = 2) with rfl | rfl | rfl
          · cases hi; exact ⟨wW, rfl, .inl rfl, rfl⟩
          · cases hi; exact ⟨wO, rfl, .inr (.inl rfl), rfl⟩
          · cases hi; exact ⟨wE, rfl, .inr (.inr rfl), rfl⟩
        obtain ⟨n, rfl, hn3, htk⟩ := hh
        refine le_tup ?_
        refine la_cons ?_
        refine' le_name gd1 ?hsl ?_
        (case hsl => tb_rel)
        refine la_cons ?_
        refine le_call D6 gd1 (by decide) ?_
        refine la_cons ?_
        refine le_dget gd1 ?_
        k_caughtNB
        refine ⟨hp, SX.S n, _, rfl, rfl, hv n hn3, ?_⟩
        k_caughtNB
        refine ⟨_, cs, rfl, hm9, hcs, ?_⟩
        k_caughtNB
        refine ⟨htk.symm, fun x hx hxn => put_other (c' := x.2) (hk9 x hx hxn) hxn, _, .inr rfl, put_mem hm9⟩
      · obtain ⟨rfl, hk9, hp9⟩ := iv
        refine la_nil ?_
        have e1 : (((kvL ws i).map fun kv => Dt.tup [.str (SX.S kv.1), kv.2])).take ([.str (SX.S wW), .str (SX.S wO), .str (SX.S wE)] : List Dt).length = (((kvL ws i).map fun kv => (SX.S kv.1, kv.2))).map fun kv => Dt.tup [.str kv.1, kv.2] := by
          rw [List.map_map]
          rfl
        rw [e1]
        refine c_dictP gd.calm ?_
        have e2 : mergeD [] ((((kvL ws i).map fun kv => (SX.S kv.1, kv.2))).map fun kv => ((.inr kv.1 : Key), kv.2)) = kvD (kvL ws i) := rfl
        rw [e2]
        refine ⟨rfl, fun a dx ha => ?_⟩
        refine ⟨a, dx, m9, cmdL, kvL ws i, rfl, rfl, ha, cmdL_lk ws i, fun kv hkv => ?_, by show 3 ≤ 100; decide, fun od => ?_⟩
        · simp only [kvL, List.mem_cons, List.not_mem_nil, or_false] at hkv
          rcases hkv with rfl | rfl | rfl <;> exact nl1 (by decide)
        · have hb9 : Bx b 23 m9 := by
            obtain ⟨x, y, z, g1, g2⟩ := hbx5
            exact ⟨x, y, z, hk9 _ g1 hne.symm, g2⟩
          refine ⟨rfl, a, dx, od, List.mem_cons_self, fun e => ha (e ▸ hb9.dom), rfl, hb9.sub fun x hx => List.mem_cons_of_mem _ hx, hp9.sub fun x hx => List.mem_cons_of_mem _ hx⟩
    rintro r1 m6 ⟨a, dx, od, hm, hab, rfl, hbx6, hp6⟩
    -- what is tried
    have hDw := hD.words
    have hDk := hD.kok
    have hDok := hD.ok
    have hDl := fun k j (hk : k ∈ kds lo mo mn ys) (hj : j ∈ kds lo mo mn ys) => hD.law hk hj
    have hDn := hD.nums
    have hwo := hD.w.ow hD.y
    have hkl : (kds lo mo mn ys).length = 13 := rfl
    have htg := fun k hk => tab_gx (fun x hx => (hDw.1 x hx).1) (hDk k hk)
    refine lb_midP [some (.frz nd), some di, some (.raw (.ref b)), some (.lst ((kds lo mo mn ys).map Kd.d)), some (.tup (wsD ys)), some (.dct (heapW ws i)), some (.tup (plL.map Plc.d)), some (.raw (.ref a)), a8, some (.lst (wsD (tried (kds lo mo mn ys) ws i ys))), a10, a11, a12, a13, a14, a15, a16, a17] m6 ?_ ?_
    · k_caughtNB
      exact ⟨kds lo mo mn ys, ws, i, ys, rfl, hDn, by rw [hkl]; decide, hwo.len, hD.y.l8, rfl, rfl⟩
    generalize tried (kds lo mo mn ys) ws i ys = T at hDw hDk hDl htg
    have i1 := hD.i1; have i2 := hD.i2
    clear hD hDn
    generalize kds lo mo mn ys = ks at hDk hDok hDl hkl htg
    -- the rows
    refine lb_midP [some (.frz nd), some di, some (.raw (.ref b)), some (.lst (ks.map Kd.d)), some (.tup (wsD ys)), some (.dct (heapW ws i)), some (.tup (plL.map Plc.d)), some (.raw (.ref a)), a8, some (.lst (wsD T)), some (.lst (ks.map fun k => Dt.tup [.str (shows (tabD (owF ws i) k)), .str (shows (.lst (wrts k ws i T)))])), a11, a12, a13, a14, a15, a16, a17] m6 ?_ ?_
    · refine' ls_setlcD gd ?hs1 ?hs2 _ ?hli
      (case hs1 => tb_rel)
      (case hs2 => tb_rel)
      case' hli => skip
      refine li_lst ?_
      k_caughtNB
      refine lc_mapS ks Kd.d (fun k => Dt.tup [.str (shows (tabD (owF ws i) k)), .str (shows (.lst (wrts k ws i T)))]) gd (by rw [hkl]; decide) (fun k hk s1 H1 C1 cl1 fp1 gd1 => ?_) ?_
      · obtain ⟨hok, h3⟩ := hDok k hk
        k_caughtNB
        refine ⟨a, dx, od, kvD (kvL ws i), cmdL.d, k, owF ws i, rfl, hok, hm, ?_, ?_⟩
        · cases k with
          | own n => exact ⟨kvL_val (h3 n rfl), own_lt hwo.len⟩
          | _ => trivial
        k_caughtNB
        refine c_reprT gd1.gu gd1.room.units ((htg k hk).2.sht (by decide) (by decide)) ?_
        k_caughtNB
        refine ⟨k, ws, i, T, rfl, hok, h3, hwo, by omega, by omega, hDw.1, hDw.2, ?_⟩
        k_caughtNB
        exact ⟨rfl, rfl⟩
      · exact ⟨rfl, rfl⟩
    -- the tables are those due
    refine lb_midP [some (.frz nd), some di, some (.raw (.ref b)), some (.lst (ks.map Kd.d)), some (.tup (wsD ys)), some (.dct (heapW ws i)), some (.tup (plL.map Plc.d)), some (.raw (.ref a)), a8, some (.lst (wsD T)), some (.lst (ks.map fun k => Dt.tup [.str (shows (tabD (owF ws i) k)), .str (shows (.lst (wrts k ws i T)))])), a11, a12, a13, a14, a15, a16, a17] m6 ?_ ?_
    · k_caughtNB
      k_subL
      refine li_lst ?_
      k_caughtNB
      refine lc_mapS ks (fun k => Dt.tup [.str (shows (tabD (owF ws i) k)), .str (shows (.lst (wrts k ws i T)))]) (fun k => .str (shows (tabD (owF ws i) k))) gd (by rw [hkl]; decide) (fun k hk s1 H1 C1 cl1 fp1 gd1 => ?_) ?_
      · k_caughtNB
        exact ⟨rfl, rfl⟩
      k_subL
      refine li_lst ?_
      k_caughtNB
      refine lc_mapS ks Kd.d (fun k => .str (shows (tabD (owF ws i) k))) gd (by rw [hkl]; decide) (fun k hk s1 H1 C1 cl1 fp1 gd1 => ?_) ?_
      · obtain ⟨hok, h3⟩ := hDok k hk
        k_caughtNB
        refine ⟨k, ws, i, rfl, hok, h3, hwo.len, ?_⟩
        k_caughtNB
        refine c_reprT gd1.gu gd1.room.units ((htg k hk).2.sht (by decide) (by decide)) ?_
        exact ⟨rfl, rfl⟩
      have ew : (ks.map fun k => Dt.str (shows (tabD (owF ws i) k))) = wsD (ks.map fun k => rx (tabD (owF ws i) k)) := by
        unfold wsD
        rw [List.map_map]
        exact List.map_congr_left fun k hk => congrArg Dt.str (shows_rx _ (htg k hk).1)
      rw [ew]
      refine o_neWs hu (fun l hl => ?_) ?_
      · obtain ⟨k, hk, rfl⟩ := List.mem_map.mp hl
        exact rx_lt _ (htg k hk).1
      k_caughtNB
      exact ⟨rfl, rfl⟩
    -- equal just where worths are
    refine lb_mid (fun r1 m7 => m7 = m6 ∧ ∃ a13 a14, r1 = [some (.frz nd), some di, some (.raw (.ref b)), some (.lst (ks.map Kd.d)), some (.tup (wsD ys)), some (.dct (heapW ws i)), some (.tup (plL.map Plc.d)), some (.raw (.ref a)), a8, some (.lst (wsD T)), some (.lst (ks.map fun k => Dt.tup [.str (shows (tabD (owF ws i) k)), .str (shows (.lst (wrts k ws i T)))])), a11, a12, a13, a14, a15, a16, a17]) ?_ ?_
    · refine ls_for gd (fun ds j r1 m7 => ds = (ks.map fun k => Dt.tup [.str (shows (tabD (owF ws i) k)), .str (shows (.lst (wrts k ws i T)))]) ∧ m7 = m6 ∧ ∃ a13 a14, r1 = [some (.frz nd), some di, some (.raw (.ref b)), some (.lst (ks.map Kd.d)), some (.tup (wsD ys)), some (.dct (heapW ws i)), some (.tup (plL.map Plc.d)), some (.raw (.ref a)), a8, some (.lst (wsD T)), some (.lst (ks.map fun k => Dt.tup [.str (shows (tabD (owF ws i) k)), .str (shows (.lst (wrts k ws i T)))])), a11, a12, a13, a14, a15, a16, a17]) ?_
      refine li_lst ?_
      k_caughtNB
      refine ⟨⟨rfl, rfl, _, _, rfl⟩, fun j d r1 m7 hd iv => ?_, fun r1 m7 iv => iv.2⟩
      obtain ⟨_, rfl, a13, a14, rfl⟩ := iv
      obtain ⟨k1, hk1, rfl⟩ := List.mem_map.mp (List.mem_of_getElem? hd)
      refine lg_name gd (by tb_rel) ?_
      refine lb_one (ls_for gd (fun ds j2 r1 m8 => ds = (ks.map fun k => Dt.tup [.str (shows (tabD (owF ws i) k)), .str (shows (.lst (wrts k ws i T)))]) ∧ m8 = m7 ∧ ∃ a14, r1 = [some (.frz nd), some di, some (.raw (.ref b)), some (.lst (ks.map Kd.d)), some (.tup (wsD ys)), some (.dct (heapW ws i)), some (.tup (plL.map Plc.d)), some (.raw (.ref a)), a8, some (.lst (wsD T)), some (.lst (ks.map fun k => Dt.tup [.str (shows (tabD (owF ws i) k)), .str (shows (.lst (wrts k ws i T)))])), a11, a12, some (.tup [.str (shows (tabD (owF ws i) k1)), .str (shows (.lst (wrts k1 ws i T)))]), a14, a15, a16, a17]) ?_)
      refine li_lst ?_
      k_caughtNB
      refine ⟨⟨rfl, rfl, _, rfl⟩, fun j2 d r1 m8 hd2 iv => ?_, fun r1 m8 iv => ⟨rfl, iv.2.1, _, iv.2.2⟩⟩
      obtain ⟨_, rfl, a14, rfl⟩ := iv
      obtain ⟨k2, hk2, rfl⟩ := List.mem_map.mp (List.mem_of_getElem? hd2)
      refine lg_name gd (by tb_rel) ?_
      have hlaw := hDl k1 k2 hk1 hk2
      k_caughtNB
      rw [hlaw]
      refine itFd (by simp) ?_
      k_caughtNB
      exact ⟨rfl, rfl, _, rfl⟩
    rintro r1 m7 ⟨rfl, a13, a14, rfl⟩
    generalize (ks.map fun k => Dt.tup [.str (shows (tabD (owF ws i) k)), .str (shows (.lst (wrts k ws i T)))]) = rows
    clear hDw hDk hDok hDl htg
    generalize ks.map Kd.d = kd
    generalize wsD T = tw
    generalize wsD ys = yw
    generalize plL.map Plc.d = pw
    generalize heapW ws i = hp
    -- what is refused
    refine lb_midP [some (.frz nd), some di, some (.raw (.ref b)), some (.lst kd), some (.tup yw), some (.dct hp), some (.tup pw), some (.raw (.ref a)), a8, some (.lst tw), some (.lst rows), a11, a12, a13, a14, some (.lst odds), a16, a17] m7 ?_ ?_
    · k_caughtNB
      exact ⟨rfl, rfl⟩
    refine lb_mid (fun r1 m8 => ∃ t, t ∈ odds ∧ r1 = [some (.frz nd), some di, some (.raw (.ref b)), some (.lst kd), some (.tup yw), some (.dct hp), some (.tup pw), some (.raw (.ref a)), a8, some (.lst tw), some (.lst rows), a11, a12, a13, a14, some (.lst odds), some t, a17] ∧ Bx b 24 m8 ∧ HPt PT m8 ∧ (a, Mc.ins C dx (gF P w od (kvD (kvL ws i)) cmdL.d)) ∈ m8) ?_ ?_
    · k_caughtNB
      refine W_takeF.ap (by decide) (by decide) hbx6 (by omega) (fun r m8 r0 r1 hb8 kp => ?_)
      refine oi_lstM r0 r1 fun t ht => ?_
      exact ⟨t, ht, rfl, hb8, hp6.kps kp hne, kp _ hm hab⟩
    rintro r1 m8 ⟨t, ht, rfl, hb8, hp8, hm8⟩
    obtain ⟨hfk, hsm⟩ := odds_ok t ht
    refine lb_mid (fun r1 m9 => ∃ g, g ∈ bads ∧ r1 = [some (.frz nd), some di, some (.raw (.ref b)), some (.lst kd), some (.tup yw), some (.dct hp), some (.tup pw), some (.raw (.ref a)), a8, some (.lst tw), some (.lst rows), a11, a12, a13, a14, some (.lst odds), some t, some g] ∧ HPt PT m9 ∧ (a, Mc.ins C dx (gF P w od (kvD (kvL ws i)) cmdL.d)) ∈ m9) ?_ ?_
    · k_caughtNB
      refine ⟨a, dx, od, kvD (kvL ws i), cmdL.d, rfl, hm8, ?_⟩
      k_caughtNB
      refine W_takeF.ap (by decide) (by decide) hb8 (by omega) (fun r m9 r0 r1 hb9 kp => ?_)
      refine oi_lstM r0 r1 fun g hg => ?_
      exact ⟨g, hg, rfl, hp8.kps kp hne, kp _ hm8 hab⟩
    rintro r1 m9 ⟨g, hg, rfl, hp9, hm9⟩
    obtain ⟨hng, hsg⟩ := bads_ok g hg
    have st : ∀ x : Str, okd (.str x) = true → wt (.str x) ≤ 100 → Sm 100 8 (.str x) := fun x h1 h2 => ⟨h1, h2, Nat.zero_le _⟩
    have s1 : Sht (.lst [.str "kind", t]) := ((SmL.cons (st "kind" (by decide +kernel) (by decide +kernel)) (SmL.cons (n' := 0) (hsm.mono (by decide : 900 ≤ 3000) (by decide)) SmL.nil)).lst).sht (by decide) (by decide)
    have s2 : Sht (.lst [.str "grammar", g]) := ((SmL.cons (st "grammar" (by decide +kernel) (by decide +kernel)) (SmL.cons (n' := 0) hsg SmL.nil)).lst).sht (by decide) (by decide)
    refine lb_midP [some (.frz nd), some di, some (.raw (.ref b)), some (.lst kd), some (.tup yw), some (.dct hp), some (.tup pw), some (.raw (.ref a)), a8, some (.lst tw), some (.lst rows), a11, a12, a13, a14, some (.lst odds), some t, some g] m9 ?_ ?_
    · k_caughtNB
      refine ⟨_, _, rfl, .inl ⟨a, dx, _, rfl, hm9, Sm.tk hsm (by decide) (by decide), hfk, ?_⟩⟩
      k_caughtNB
      refine c_reprT gd.gu hu s1 ?_
      k_caughtNB
      refine c_reprT gd.gu hu s1 ?_
      k_caughtNB
      exact ⟨rfl, rfl⟩
    k_caughtNB
    refine ⟨_, _, rfl, .inr ⟨hng, ?_⟩⟩
    k_caughtNB
    refine c_reprT gd.gu hu s2 ?_
    k_caughtNB
    refine c_reprT gd.gu hu s2 ?_
    k_caughtNB
    exact ⟨hp9, _, _, _, _, _, _, _, _, _, _, _, _, _, _, _, _, _, rfl⟩
end
/-! ### the maker; the law's promise by its tables -/
open LamX
def Wt (ts : List Mkr) : Spd := match ts with
  | [q] => W_law q.t
  | _ => fun _ _ _ _ => False
theorem L0_names : L0.scope.names = [(("_law_words" : Str), NameKind.free), (("list" : Str), NameKind.globalImplicit)] ∨ L0.scope.names = [(("list" : Str), NameKind.globalImplicit), (("_law_words" : Str), NameKind.free)] := by first | exact .inl rfl | exact .inr rfl
section
variable {P : Program} {w : World} {K : PySem.W.Frag} {mg : Str → Option Value} {base : Heap}
theorem ok_tell {f c PT : Addr} {oc kV doc pm ct : Value} {od an : Option Addr} {osl : Array (Option Value)}
    (lk : K.lookup f = some ⟨oc, od, .func (PySem.W.fnOf "_law_teller" "_law_teller" (defArgs s_l_teller) (defBody s_l_teller) (defScope s_l_teller) .none kV doc pm an (.ref c) ct), osl⟩) (hcd : PySem.W.codeIn K (.ref c) "_law_teller" = true) (TB : TabB base mg c PT) :
    FnG P w K mg base 2 f (PySem.W.fnOf "_law_teller" "_law_teller" (defArgs s_l_teller) (defBody s_l_teller) (defScope s_l_teller) .none kV doc pm an (.ref c) ct) ["_law_words"] (toSp K (W_tell L0 PT lposT)) := by
  refine fn_tell (k := 1) (L := L0) (y := "_law_words") (lpos := lposT) (rpos := rposT) lk hcd TB sc_l_teller rfl L0_body rfl (fun a => rfl) (fun env => rfl) (fun z hz h => ?_) (fun cells cc h => ?_)
  · rcases L0_names with e | e
    · rw [e] at hz
      simp only [List.mem_cons, List.not_mem_nil, or_false] at hz
      rcases hz with rfl | rfl
      · rfl
      · cases h
    · rw [e] at hz
      simp only [List.mem_cons, List.not_mem_nil, or_false] at hz
      rcases hz with rfl | rfl
      · cases h
      · rfl
  · have key : ∀ ns : List (Str × NameKind), (ns = [(("_law_words" : Str), NameKind.free), (("list" : Str), NameKind.globalImplicit)] ∨ ns = [(("list" : Str), NameKind.globalImplicit), (("_law_words" : Str), NameKind.free)]) → cloFrom cells ns [] = [(("_law_words" : Str), cc)] := fun ns hns => by
      rcases hns with rfl | rfl
      · show [(("_law_words" : Str), (cells.lookup ("_law_words" : Str)).getD 0)] = _
        rw [h]; rfl
      · show [(("_law_words" : Str), (cells.lookup ("_law_words" : Str)).getD 0)] = _
        rw [h]; rfl
    exact key _ L0_names
end
theorem tabIn_of {K : PySem.W.Frag} {x : Str} {f c PT : Addr} {oc o1 : Value} {od o2 : Option Addr} {osl o3 : Array (Option Value)} {fd : FuncData} {vs : Array Value} (h1 : PySem.W.nsIn K mainGlobals x = some (some (.ref f))) (h2 : K.lookup f = some ⟨oc, od, .func fd, osl⟩) (h3 : fd.code = .ref c)
    (h4 : K.lookup c = some ⟨o1, o2, .fields vs, o3⟩) (h5 : (vs[11]? : Option Value) = some (.ref PT)) : PySem.W.tabIn K x = some (c, PT) := by
  unfold PySem.W.tabIn
  rw [h1]
  simp only [h2, h3, h4, h5]
end
/-! ### the end -/
section
open PySem PySem.Calls PySem.HandSPX LamX
theorem all_mk {P q : Program} {w : World} {K : PySem.W.Frag} {h : Heap} {mg : Str → Option Value} {fa : Addr} (X : K.In h) (G : h.Ns mainGlobals mg) (hfa : mg "law" = some (.ref fa))
    {CKI iKI NKI : Addr} {qnKI qKI : Str} {bsKI bmKI : List Value} {snKI : List Str} {subKI : List Value} {abKI : Bool} {colKI : Option Bool} {ddKI odKI anKI : Option Addr} {maKI mbKI mcKI mdKI meKI : Option Value} {ocKI dcKI pmKI cdKI ctKI : Value} {slKI : Array (Option Value)} {p1KI p2KI q1KI q2KI q3KI q4KI : Pos} {msKI : List (Str × Const)}
    {CNG iNG NNG : Addr} {qnNG qNG : Str} {bsNG bmNG : List Value} {snNG : List Str} {subNG : List Value} {abNG : Bool} {colNG : Option Bool} {ddNG odNG anNG : Option Addr} {maNG mbNG mcNG mdNG meNG : Option Value} {ocNG dcNG pmNG cdNG ctNG : Value} {slNG : Array (Option Value)} {p1NG p2NG q1NG q2NG q3NG q4NG : Pos} {msNG : List (Str × Const)}
    {CGR : Addr}
    {ta_FORMS : Addr} {tc_FORMS : Value} {td_FORMS : Option Addr} {ti_FORMS : Array Value} {tn_FORMS : Nat} {ts_FORMS : Array (Option Value)}
    {ta_TIMES : Addr} {tc_TIMES : Value} {td_TIMES : Option Addr} {ti_TIMES : Array Value} {tn_TIMES : Nat} {ts_TIMES : Array (Option Value)}
    {ta_GROUPS : Addr} {tc_GROUPS : Value} {td_GROUPS : Option Addr} {ti_GROUPS : Array Value} {tn_GROUPS : Nat} {ts_GROUPS : Array (Option Value)}
    {tk_LETTERS : Tok}
    {tk_FIGURES : Tok}
    {tk_MOST_NAME : Tok}
    {tk_MOST_WORD : Tok}
    {tk_MOST_NUMBER : Tok}
    {tk_MOST_NAMES : Tok}
    {tk_MOST_TEXT : Tok}
    {tk_MOST_OPTIONS : Tok}
    {tk_MOST_PLACES : Tok}
    {tk_MOST_GROUPS : Tok}
    {tk_MOST_BENEATH : Tok}
    {tk_MOST_MEMBERS : Tok}
    {tk_MOST_DEEP : Tok}
    {tk_MOST_COMMANDS : Tok}
    {f0 : Addr} {od0 an0 : Option Addr} {sl0 : Array (Option Value)} {oc0 dc0 pm0 ct0 : Value} {cd0 : Value} {kV0 : Value}
    {f1 : Addr} {od1 an1 : Option Addr} {sl1 : Array (Option Value)} {oc1 dc1 pm1 ct1 : Value} {cd1 : Value} {kV1 : Value}
    {f2 : Addr} {od2 an2 : Option Addr} {sl2 : Array (Option Value)} {oc2 dc2 pm2 ct2 : Value} {cd2 : Value} {kV2 : Value}
    {f3 : Addr} {od3 an3 : Option Addr} {sl3 : Array (Option Value)} {oc3 dc3 pm3 ct3 : Value} {cd3 : Value} {kV3 : Value}
    {f4 : Addr} {od4 an4 : Option Addr} {sl4 : Array (Option Value)} {oc4 dc4 pm4 ct4 : Value} {cd4 : Value} {kV4 : Value}
    {f5 : Addr} {od5 an5 : Option Addr} {sl5 : Array (Option Value)} {oc5 dc5 pm5 ct5 : Value} {cd5 : Value} {kV5 : Value}
    {f6 : Addr} {od6 an6 : Option Addr} {sl6 : Array (Option Value)} {oc6 dc6 pm6 ct6 : Value} {cd6 : Value} {kV6 : Value}
    {f7 : Addr} {od7 an7 : Option Addr} {sl7 : Array (Option Value)} {oc7 dc7 pm7 ct7 : Value} {cd7 : Value} {kV7 : Value}
    {f8 : Addr} {od8 an8 : Option Addr} {sl8 : Array (Option Value)} {oc8 dc8 pm8 ct8 : Value} {cd8 : Value} {kV8 : Value}
    {f9 : Addr} {od9 an9 : Option Addr} {sl9 : Array (Option Value)} {oc9 dc9 pm9 ct9 : Value} {cd9 : Value} {kV9 : Value}
    {f10 : Addr} {od10 an10 : Option Addr} {sl10 : Array (Option Value)} {oc10 dc10 pm10 ct10 : Value} {cd10 : Value}
    {kD10 kT10 : Addr} {kc10 : Value} {ke10 : Option Addr} {ki10 : Array Value} {kj10 : Nat} {ks10 : Array (Option Value)}
    {f11 : Addr} {od11 an11 : Option Addr} {sl11 : Array (Option Value)} {oc11 dc11 pm11 ct11 : Value} {cd11 : Value} {kV11 : Value}
    {f12 : Addr} {od12 an12 : Option Addr} {sl12 : Array (Option Value)} {oc12 dc12 pm12 ct12 : Value} {cd12 : Value} {kV12 : Value}
    {f13 : Addr} {od13 an13 : Option Addr} {sl13 : Array (Option Value)} {oc13 dc13 pm13 ct13 : Value} {cd13 : Value} {kV13 : Value}
    {f14 : Addr} {od14 an14 : Option Addr} {sl14 : Array (Option Value)} {oc14 dc14 pm14 ct14 : Value} {cd14 : Value} {kV14 : Value}
    {f15 : Addr} {od15 an15 : Option Addr} {sl15 : Array (Option Value)} {oc15 dc15 pm15 ct15 : Value} {cd15 : Value} {kV15 : Value}
    {f16 : Addr} {od16 an16 : Option Addr} {sl16 : Array (Option Value)} {oc16 dc16 pm16 ct16 : Value} {cd16 : Value} {kV16 : Value}
    {f17 : Addr} {od17 an17 : Option Addr} {sl17 : Array (Option Value)} {oc17 dc17 pm17 ct17 : Value} {cd17 : Value} {kV17 : Value}
    {f18 : Addr} {od18 an18 : Option Addr} {sl18 : Array (Option Value)} {oc18 dc18 pm18 ct18 : Value} {cd18 : Value} {kV18 : Value}
    {f19 : Addr} {od19 an19 : Option Addr} {sl19 : Array (Option Value)} {oc19 dc19 pm19 ct19 : Value} {cd19 : Value} {kV19 : Value}
    {f20 : Addr} {od20 an20 : Option Addr} {sl20 : Array (Option Value)} {oc20 dc20 pm20 ct20 : Value} {cd20 : Value} {kV20 : Value}
    {f21 : Addr} {od21 an21 : Option Addr} {sl21 : Array (Option Value)} {oc21 dc21 pm21 ct21 : Value} {cd21 : Value} {kV21 : Value}
    {f22 : Addr} {od22 an22 : Option Addr} {sl22 : Array (Option Value)} {oc22 dc22 pm22 ct22 : Value} {cd22 : Value}
    {kD22 : Addr}
    {f23 : Addr} {od23 an23 : Option Addr} {sl23 : Array (Option Value)} {oc23 dc23 pm23 ct23 : Value} {cd23 : Value} {kV23 : Value}
    {f24 : Addr} {od24 an24 : Option Addr} {sl24 : Array (Option Value)} {oc24 dc24 pm24 ct24 : Value} {cd24 : Value} {kV24 : Value}
    {f25 : Addr} {od25 an25 : Option Addr} {sl25 : Array (Option Value)} {oc25 dc25 pm25 ct25 : Value} {cd25 : Value} {kV25 : Value}
    {f26 : Addr} {od26 an26 : Option Addr} {sl26 : Array (Option Value)} {oc26 dc26 pm26 ct26 : Value} {cd26 : Value} {kV26 : Value}
    {f27 : Addr} {od27 an27 : Option Addr} {sl27 : Array (Option Value)} {oc27 dc27 pm27 ct27 : Value} {cd27 : Value} {kV27 : Value}
    {f28 : Addr} {od28 an28 : Option Addr} {sl28 : Array (Option Value)} {oc28 dc28 pm28 ct28 : Value} {cd28 : Value} {kV28 : Value}
    {f29 : Addr} {od29 an29 : Option Addr} {sl29 : Array (Option Value)} {oc29 dc29 pm29 ct29 : Value} {cd29 : Value} {kV29 : Value}
    {f30 : Addr} {od30 an30 : Option Addr} {sl30 : Array (Option Value)} {oc30 dc30 pm30 ct30 : Value} {cd30 : Value} {kV30 : Value}
    {f31 : Addr} {od31 an31 : Option Addr} {sl31 : Array (Option Value)} {oc31 dc31 pm31 ct31 : Value} {kV31 : Value} {cT31 tT31 : Addr} {mo31 : Value} {mp31 : Option Addr} {mv31 : Array Value} {ms31 : Array (Option Value)} {md31 : DefRec}
    {f32 : Addr} {od32 an32 : Option Addr} {sl32 : Array (Option Value)} {oc32 dc32 pm32 ct32 : Value} {cd32 : Value} {kV32 : Value}
    {f33 : Addr} {od33 an33 : Option Addr} {sl33 : Array (Option Value)} {oc33 dc33 pm33 ct33 : Value} {cd33 : Value} {kV33 : Value}
    {f34 : Addr} {od34 an34 : Option Addr} {sl34 : Array (Option Value)} {oc34 dc34 pm34 ct34 : Value} {cd34 : Value} {kV34 : Value}
    {f35 : Addr} {od35 an35 : Option Addr} {sl35 : Array (Option Value)} {oc35 dc35 pm35 ct35 : Value} {cd35 : Value} {kV35 : Value}
    {f36 : Addr} {od36 an36 : Option Addr} {sl36 : Array (Option Value)} {oc36 dc36 pm36 ct36 : Value} {cd36 : Value} {kV36 : Value}
    {f37 : Addr} {od37 an37 : Option Addr} {sl37 : Array (Option Value)} {oc37 dc37 pm37 ct37 : Value} {cd37 : Value} {kV37 : Value}
    {f38 : Addr} {od38 an38 : Option Addr} {sl38 : Array (Option Value)} {oc38 dc38 pm38 ct38 : Value} {cd38 : Value} {kV38 : Value}
    (aCKI : PySem.W.nsIn K mainGlobals "NoKind" = some (some (.ref CKI)))
    (xLKI : K.lookup CKI = some (excClassObj "NoKind" qKI CKI NKI bsKI bmKI true snKI subKI abKI colKI ddKI maKI mbKI mcKI mdKI meKI "ValueError.__new__"))
    (hbKI : PySem.W.excTail [.type "ValueError", .type "Exception", .type "BaseException", .type "object"] bmKI = true)
    (saKI : PySem.W.findIn K (.ref CKI) "__setattr__" = some (some (.builtin "object.__setattr__")))
    (gaKI : PySem.W.findIn K (.ref CKI) "__getattribute__" = some (some (.builtin "BaseException.__getattribute__")))
    (ggKI : PySem.W.findIn K (.ref CKI) "__getattr__" = some none)
    (nnKI : PySem.W.findIn K (.ref CKI) "found" = some none)
    (iCKI : PySem.W.findIn K (.ref CKI) "__init__" = some (some (.ref iKI)))
    (rCKI : PySem.W.findIn K (.ref CKI) "__repr__" = some (some (.builtin "BaseException.__repr__")))
    (cCKI : PySem.W.findIn K (.ref CKI) "__class__" = some (some (.builtin "object.__class__")))
    (spKI : PySem.W.specialIn K (.builtin "object.__class__") "__get__" = some (some (.builtin "getset_descriptor.__get__")))
    (tkKI : PySem.W.takesIn K (.builtin "object.__class__") = some true)
    (mrKI : PySem.W.mroIn K CKI (.type "object") = some true)
    (tCKI : PySem.W.typeIn K (.ref iKI) = some (.type "function"))
    (kCKI : PySem.W.keepIn K (.ref CKI) = true)
    (exKI : PySem.W.subIn K (.ref CKI) (.type "BaseException") = some true)
    (tyKI : PySem.W.typeIn K (.ref CKI) = some (.type "type"))
    (hdKI : PySem.W.hasDictIn K CKI = true)
    (isKI : PySem.W.isClsIn K CKI = true)
    (suKI : PySem.W.subIn K (.ref CKI) (.ref CKI) = some true)
    (liKI : K.lookup iKI = some ⟨ocKI, odKI, .func (PySem.W.fnOf "__init__" qnKI (Ex_found.iA p1KI p2KI) (Ex_found.iB q1KI q2KI q3KI q4KI) (Ex_found.iS msKI) .none .none dcKI pmKI anKI cdKI ctKI), slKI⟩)
    (ciKI : PySem.W.codeIn K cdKI qnKI = true)
    (s0KI : PySem.W.subIn K (.ref CKI) (.type "int") = some false)
    (s1KI : PySem.W.subIn K (.ref CKI) (.type "str") = some false)
    (s2KI : PySem.W.subIn K (.ref CKI) (.type "bool") = some false)
    (s3KI : PySem.W.subIn K (.ref CKI) (.type "list") = some false)
    (s4KI : PySem.W.subIn K (.ref CKI) (.type "tuple") = some false)
    (s5KI : PySem.W.subIn K (.ref CKI) (.type "dict") = some false)
    (aCNG : PySem.W.nsIn K mainGlobals "NoGrammar" = some (some (.ref CNG)))
    (xLNG : K.lookup CNG = some (excClassObj "NoGrammar" qNG CNG NNG bsNG bmNG true snNG subNG abNG colNG ddNG maNG mbNG mcNG mdNG meNG "ValueError.__new__"))
    (hbNG : PySem.W.excTail [.type "ValueError", .type "Exception", .type "BaseException", .type "object"] bmNG = true)
    (saNG : PySem.W.findIn K (.ref CNG) "__setattr__" = some (some (.builtin "object.__setattr__")))
    (gaNG : PySem.W.findIn K (.ref CNG) "__getattribute__" = some (some (.builtin "BaseException.__getattribute__")))
    (ggNG : PySem.W.findIn K (.ref CNG) "__getattr__" = some none)
    (nnNG : PySem.W.findIn K (.ref CNG) "found" = some none)
    (iCNG : PySem.W.findIn K (.ref CNG) "__init__" = some (some (.ref iNG)))
    (rCNG : PySem.W.findIn K (.ref CNG) "__repr__" = some (some (.builtin "BaseException.__repr__")))
    (cCNG : PySem.W.findIn K (.ref CNG) "__class__" = some (some (.builtin "object.__class__")))
    (spNG : PySem.W.specialIn K (.builtin "object.__class__") "__get__" = some (some (.builtin "getset_descriptor.__get__")))
    (tkNG : PySem.W.takesIn K (.builtin "object.__class__") = some true)
    (mrNG : PySem.W.mroIn K CNG (.type "object") = some true)
    (tCNG : PySem.W.typeIn K (.ref iNG) = some (.type "function"))
    (kCNG : PySem.W.keepIn K (.ref CNG) = true)
    (exNG : PySem.W.subIn K (.ref CNG) (.type "BaseException") = some true)
    (tyNG : PySem.W.typeIn K (.ref CNG) = some (.type "type"))
    (hdNG : PySem.W.hasDictIn K CNG = true)
    (isNG : PySem.W.isClsIn K CNG = true)
    (suNG : PySem.W.subIn K (.ref CNG) (.ref CNG) = some true)
    (liNG : K.lookup iNG = some ⟨ocNG, odNG, .func (PySem.W.fnOf "__init__" qnNG (Ex_found.iA p1NG p2NG) (Ex_found.iB q1NG q2NG q3NG q4NG) (Ex_found.iS msNG) .none .none dcNG pmNG anNG cdNG ctNG), slNG⟩)
    (ciNG : PySem.W.codeIn K cdNG qnNG = true)
    (s0NG : PySem.W.subIn K (.ref CNG) (.type "int") = some false)
    (s1NG : PySem.W.subIn K (.ref CNG) (.type "str") = some false)
    (s2NG : PySem.W.subIn K (.ref CNG) (.type "bool") = some false)
    (s3NG : PySem.W.subIn K (.ref CNG) (.type "list") = some false)
    (s4NG : PySem.W.subIn K (.ref CNG) (.type "tuple") = some false)
    (s5NG : PySem.W.subIn K (.ref CNG) (.type "dict") = some false)
    (aCGR : PySem.W.nsIn K mainGlobals "Grammar" = some (some (.ref CGR)))
    (pgGR : PySem.W.plainGet K CGR Str.empty = true)
    (hdGR : PySem.W.hasDictIn K CGR = true)
    (poGR : PySem.W.plainOver K CGR = true)
    (saGR : PySem.W.findIn K (.ref CGR) "__setattr__" = some (some (.builtin "object.__setattr__")))
    (mkGR : PySem.W.makesIn K CGR = true)
    (kcGR : PySem.W.keepIn K (.ref CGR) = true)
    (nf0GR : PySem.W.findIn K (.ref CGR) "has_own" = some none)
    (nf1GR : PySem.W.findIn K (.ref CGR) "has_commands" = some none)
    (nf2GR : PySem.W.findIn K (.ref CGR) "has_sets" = some none)
    (nf3GR : PySem.W.findIn K (.ref CGR) "has_texts" = some none)
    (ihaGR : PySem.W.findIn K (.ref CGR) "__class__" = some (some (.builtin "object.__class__")))
    (ihnGR : PySem.W.specialIn K (.builtin "object.__class__") "__get__" = some (some (.builtin "getset_descriptor.__get__")))
    (itkGR : PySem.W.takesIn K (.builtin "object.__class__") = some true)
    (imrGR : PySem.W.mroIn K CGR (.type "object") = some true)
    (iisGR : PySem.W.isClsIn K CGR = true)
    (ityGR : PySem.W.typeIn K (.ref CGR) = some (.type "type"))
    (ino0GR : PySem.W.subIn K (.type "NoneType") (.ref CGR) = some false)
    (ino1GR : PySem.W.subIn K (.type "int") (.ref CGR) = some false)
    (ino2GR : PySem.W.subIn K (.type "str") (.ref CGR) = some false)
    (ino3GR : PySem.W.subIn K (.type "tuple") (.ref CGR) = some false)
    (tm_FORMS : PySem.W.nsIn K mainGlobals "FORMS" = some (some (.ref ta_FORMS)))
    (tl_FORMS : K.lookup ta_FORMS = some ⟨tc_FORMS, td_FORMS, .seq ti_FORMS tn_FORMS, ts_FORMS⟩)
    (tq_FORMS : tc_FORMS = .type "tuple")
    (tv_FORMS : Vals ([V.str ("flag"), V.str ("count"), V.str ("one"), V.str ("many")]) ti_FORMS.toList)
    (tz_FORMS : ti_FORMS.size ≤ sizeLine)
    (tm_TIMES : PySem.W.nsIn K mainGlobals "TIMES" = some (some (.ref ta_TIMES)))
    (tl_TIMES : K.lookup ta_TIMES = some ⟨tc_TIMES, td_TIMES, .seq ti_TIMES tn_TIMES, ts_TIMES⟩)
    (tq_TIMES : tc_TIMES = .type "tuple")
    (tv_TIMES : Vals ([V.str ("one"), V.str ("maybe"), V.str ("rest"), V.str ("some")]) ti_TIMES.toList)
    (tz_TIMES : ti_TIMES.size ≤ sizeLine)
    (td_TIMES : td_TIMES = none)
    (tm_GROUPS : PySem.W.nsIn K mainGlobals "GROUPS" = some (some (.ref ta_GROUPS)))
    (tl_GROUPS : K.lookup ta_GROUPS = some ⟨tc_GROUPS, td_GROUPS, .seq ti_GROUPS tn_GROUPS, ts_GROUPS⟩)
    (tq_GROUPS : tc_GROUPS = .type "tuple")
    (tv_GROUPS : Vals ([V.str ("just"), V.str ("most"), V.str ("with"), V.str ("needs")]) ti_GROUPS.toList)
    (tz_GROUPS : ti_GROUPS.size ≤ sizeLine)
    (noKI_NG : PySem.W.subIn K (.ref CKI) (.ref CNG) = some false)
    (k_LETTERS : PySem.W.nsIn K mainGlobals "LETTERS" = some (some (.str (SX.S LT26) tk_LETTERS)))
    (k_FIGURES : PySem.W.nsIn K mainGlobals "FIGURES" = some (some (.str (SX.S FG) tk_FIGURES)))
    (k_MOST_NAME : PySem.W.nsIn K mainGlobals "MOST_NAME" = some (some (.int 8 tk_MOST_NAME)))
    (k_MOST_WORD : PySem.W.nsIn K mainGlobals "MOST_WORD" = some (some (.int 40 tk_MOST_WORD)))
    (k_MOST_NUMBER : PySem.W.nsIn K mainGlobals "MOST_NUMBER" = some (some (.int 999999 tk_MOST_NUMBER)))
    (k_MOST_NAMES : PySem.W.nsIn K mainGlobals "MOST_NAMES" = some (some (.int 8 tk_MOST_NAMES)))
    (k_MOST_TEXT : PySem.W.nsIn K mainGlobals "MOST_TEXT" = some (some (.int 20 tk_MOST_TEXT)))
    (k_MOST_OPTIONS : PySem.W.nsIn K mainGlobals "MOST_OPTIONS" = some (some (.int 6 tk_MOST_OPTIONS)))
    (k_MOST_PLACES : PySem.W.nsIn K mainGlobals "MOST_PLACES" = some (some (.int 4 tk_MOST_PLACES)))
    (k_MOST_GROUPS : PySem.W.nsIn K mainGlobals "MOST_GROUPS" = some (some (.int 4 tk_MOST_GROUPS)))
    (k_MOST_BENEATH : PySem.W.nsIn K mainGlobals "MOST_BENEATH" = some (some (.int 6 tk_MOST_BENEATH)))
    (k_MOST_MEMBERS : PySem.W.nsIn K mainGlobals "MOST_MEMBERS" = some (some (.int 6 tk_MOST_MEMBERS)))
    (k_MOST_DEEP : PySem.W.nsIn K mainGlobals "MOST_DEEP" = some (some (.int 2 tk_MOST_DEEP)))
    (k_MOST_COMMANDS : PySem.W.nsIn K mainGlobals "MOST_COMMANDS" = some (some (.int 12 tk_MOST_COMMANDS)))
    (a0 : PySem.W.nsIn K mainGlobals "is_whole" = some (some (.ref f0)))
    (l0 : K.lookup f0 = some ⟨oc0, od0, .func (PySem.W.fnOf "is_whole" "is_whole" (defArgs s_is_whole) (defBody s_is_whole) (defScope s_is_whole) .none kV0 dc0 pm0 an0 cd0 ct0), sl0⟩)
    (c0 : PySem.W.codeIn K cd0 "is_whole" = true)
    (k0 : PySem.W.keepIn K (.ref f0) = true)
    (a1 : PySem.W.nsIn K mainGlobals "is_name" = some (some (.ref f1)))
    (l1 : K.lookup f1 = some ⟨oc1, od1, .func (PySem.W.fnOf "is_name" "is_name" (defArgs s_is_name) (defBody s_is_name) (defScope s_is_name) .none kV1 dc1 pm1 an1 cd1 ct1), sl1⟩)
    (c1 : PySem.W.codeIn K cd1 "is_name" = true)
    (k1 : PySem.W.keepIn K (.ref f1) = true)
    (a2 : PySem.W.nsIn K mainGlobals "is_letter" = some (some (.ref f2)))
    (l2 : K.lookup f2 = some ⟨oc2, od2, .func (PySem.W.fnOf "is_letter" "is_letter" (defArgs s_is_letter) (defBody s_is_letter) (defScope s_is_letter) .none kV2 dc2 pm2 an2 cd2 ct2), sl2⟩)
    (c2 : PySem.W.codeIn K cd2 "is_letter" = true)
    (k2 : PySem.W.keepIn K (.ref f2) = true)
    (a3 : PySem.W.nsIn K mainGlobals "is_word" = some (some (.ref f3)))
    (l3 : K.lookup f3 = some ⟨oc3, od3, .func (PySem.W.fnOf "is_word" "is_word" (defArgs s_is_word) (defBody s_is_word) (defScope s_is_word) .none kV3 dc3 pm3 an3 cd3 ct3), sl3⟩)
    (c3 : PySem.W.codeIn K cd3 "is_word" = true)
    (k3 : PySem.W.keepIn K (.ref f3) = true)
    (a4 : PySem.W.nsIn K mainGlobals "are_unlike" = some (some (.ref f4)))
    (l4 : K.lookup f4 = some ⟨oc4, od4, .func (PySem.W.fnOf "are_unlike" "are_unlike" (defArgs s_are_unlike) (defBody s_are_unlike) (defScope s_are_unlike) .none kV4 dc4 pm4 an4 cd4 ct4), sl4⟩)
    (c4 : PySem.W.codeIn K cd4 "are_unlike" = true)
    (k4 : PySem.W.keepIn K (.ref f4) = true)
    (a5 : PySem.W.nsIn K mainGlobals "is_kind" = some (some (.ref f5)))
    (l5 : K.lookup f5 = some ⟨oc5, od5, .func (PySem.W.fnOf "is_kind" "is_kind" (defArgs s_is_kind) (defBody s_is_kind) (defScope s_is_kind) .none kV5 dc5 pm5 an5 cd5 ct5), sl5⟩)
    (c5 : PySem.W.codeIn K cd5 "is_kind" = true)
    (k5 : PySem.W.keepIn K (.ref f5) = true)
    (a6 : PySem.W.nsIn K mainGlobals "number_in" = some (some (.ref f6)))
    (l6 : K.lookup f6 = some ⟨oc6, od6, .func (PySem.W.fnOf "number_in" "number_in" (defArgs s_number_in) (defBody s_number_in) (defScope s_number_in) .none kV6 dc6 pm6 an6 cd6 ct6), sl6⟩)
    (c6 : PySem.W.codeIn K cd6 "number_in" = true)
    (k6 : PySem.W.keepIn K (.ref f6) = true)
    (a7 : PySem.W.nsIn K mainGlobals "are_own" = some (some (.ref f7)))
    (l7 : K.lookup f7 = some ⟨oc7, od7, .func (PySem.W.fnOf "are_own" "are_own" (defArgs s_are_own) (defBody s_are_own) (defScope s_are_own) .none kV7 dc7 pm7 an7 cd7 ct7), sl7⟩)
    (c7 : PySem.W.codeIn K cd7 "are_own" = true)
    (k7 : PySem.W.keepIn K (.ref f7) = true)
    (a8 : PySem.W.nsIn K mainGlobals "need_kind" = some (some (.ref f8)))
    (l8 : K.lookup f8 = some ⟨oc8, od8, .func (PySem.W.fnOf "need_kind" "need_kind" (defArgs s_need_kind) (defBody s_need_kind) (defScope s_need_kind) .none kV8 dc8 pm8 an8 cd8 ct8), sl8⟩)
    (c8 : PySem.W.codeIn K cd8 "need_kind" = true)
    (k8 : PySem.W.keepIn K (.ref f8) = true)
    (a9 : PySem.W.nsIn K mainGlobals "fits" = some (some (.ref f9)))
    (l9 : K.lookup f9 = some ⟨oc9, od9, .func (PySem.W.fnOf "fits" "fits" (defArgs s_fits) (defBody s_fits) (defScope s_fits) .none kV9 dc9 pm9 an9 cd9 ct9), sl9⟩)
    (c9 : PySem.W.codeIn K cd9 "fits" = true)
    (k9 : PySem.W.keepIn K (.ref f9) = true)
    (a10 : PySem.W.nsIn K mainGlobals "worth_of" = some (some (.ref f10)))
    (l10 : K.lookup f10 = some ⟨oc10, od10, .func (PySem.W.fnOf "worth_of" "worth_of" (defArgs s_worth_of) (defBody s_worth_of) (defScope s_worth_of) .none (.ref kD10) dc10 pm10 an10 cd10 ct10), sl10⟩)
    (c10 : PySem.W.codeIn K cd10 "worth_of" = true)
    (k10 : PySem.W.keepIn K (.ref f10) = true)
    (kn10 : PySem.W.nsIn K kD10 "own" = some (some (.ref kT10)))
    (kl10 : K.lookup kT10 = some ⟨kc10, ke10, .seq ki10 kj10, ks10⟩)
    (kq10 : kc10 = .type "tuple")
    (kv10 : Vals [] ki10.toList)
    (kz10 : ki10.size ≤ sizeLine)
    (a11 : PySem.W.nsIn K mainGlobals "is_option" = some (some (.ref f11)))
    (l11 : K.lookup f11 = some ⟨oc11, od11, .func (PySem.W.fnOf "is_option" "is_option" (defArgs s_is_option) (defBody s_is_option) (defScope s_is_option) .none kV11 dc11 pm11 an11 cd11 ct11), sl11⟩)
    (c11 : PySem.W.codeIn K cd11 "is_option" = true)
    (k11 : PySem.W.keepIn K (.ref f11) = true)
    (a12 : PySem.W.nsIn K mainGlobals "is_place" = some (some (.ref f12)))
    (l12 : K.lookup f12 = some ⟨oc12, od12, .func (PySem.W.fnOf "is_place" "is_place" (defArgs s_is_place) (defBody s_is_place) (defScope s_is_place) .none kV12 dc12 pm12 an12 cd12 ct12), sl12⟩)
    (c12 : PySem.W.codeIn K cd12 "is_place" = true)
    (k12 : PySem.W.keepIn K (.ref f12) = true)
    (a13 : PySem.W.nsIn K mainGlobals "are_places" = some (some (.ref f13)))
    (l13 : K.lookup f13 = some ⟨oc13, od13, .func (PySem.W.fnOf "are_places" "are_places" (defArgs s_are_places) (defBody s_are_places) (defScope s_are_places) .none kV13 dc13 pm13 an13 cd13 ct13), sl13⟩)
    (c13 : PySem.W.codeIn K cd13 "are_places" = true)
    (k13 : PySem.W.keepIn K (.ref f13) = true)
    (a14 : PySem.W.nsIn K mainGlobals "is_group" = some (some (.ref f14)))
    (l14 : K.lookup f14 = some ⟨oc14, od14, .func (PySem.W.fnOf "is_group" "is_group" (defArgs s_is_group) (defBody s_is_group) (defScope s_is_group) .none kV14 dc14 pm14 an14 cd14 ct14), sl14⟩)
    (c14 : PySem.W.codeIn K cd14 "is_group" = true)
    (k14 : PySem.W.keepIn K (.ref f14) = true)
    (a15 : PySem.W.nsIn K mainGlobals "is_command" = some (some (.ref f15)))
    (l15 : K.lookup f15 = some ⟨oc15, od15, .func (PySem.W.fnOf "is_command" "is_command" (defArgs s_is_command) (defBody s_is_command) (defScope s_is_command) .none kV15 dc15 pm15 an15 cd15 ct15), sl15⟩)
    (c15 : PySem.W.codeIn K cd15 "is_command" = true)
    (k15 : PySem.W.keepIn K (.ref f15) = true)
    (a16 : PySem.W.nsIn K mainGlobals "first_twice" = some (some (.ref f16)))
    (l16 : K.lookup f16 = some ⟨oc16, od16, .func (PySem.W.fnOf "first_twice" "first_twice" (defArgs s_first_twice) (defBody s_first_twice) (defScope s_first_twice) .none kV16 dc16 pm16 an16 cd16 ct16), sl16⟩)
    (c16 : PySem.W.codeIn K cd16 "first_twice" = true)
    (k16 : PySem.W.keepIn K (.ref f16) = true)
    (a17 : PySem.W.nsIn K mainGlobals "beneath_names" = some (some (.ref f17)))
    (l17 : K.lookup f17 = some ⟨oc17, od17, .func (PySem.W.fnOf "beneath_names" "beneath_names" (defArgs s_beneath_names) (defBody s_beneath_names) (defScope s_beneath_names) .none kV17 dc17 pm17 an17 cd17 ct17), sl17⟩)
    (c17 : PySem.W.codeIn K cd17 "beneath_names" = true)
    (k17 : PySem.W.keepIn K (.ref f17) = true)
    (a18 : PySem.W.nsIn K mainGlobals "kinds_of" = some (some (.ref f18)))
    (l18 : K.lookup f18 = some ⟨oc18, od18, .func (PySem.W.fnOf "kinds_of" "kinds_of" (defArgs s_kinds_of) (defBody s_kinds_of) (defScope s_kinds_of) .none kV18 dc18 pm18 an18 cd18 ct18), sl18⟩)
    (c18 : PySem.W.codeIn K cd18 "kinds_of" = true)
    (k18 : PySem.W.keepIn K (.ref f18) = true)
    (a19 : PySem.W.nsIn K mainGlobals "first_bad_group" = some (some (.ref f19)))
    (l19 : K.lookup f19 = some ⟨oc19, od19, .func (PySem.W.fnOf "first_bad_group" "first_bad_group" (defArgs s_first_bad_group) (defBody s_first_bad_group) (defScope s_first_bad_group) .none kV19 dc19 pm19 an19 cd19 ct19), sl19⟩)
    (c19 : PySem.W.codeIn K cd19 "first_bad_group" = true)
    (k19 : PySem.W.keepIn K (.ref f19) = true)
    (a20 : PySem.W.nsIn K mainGlobals "need_own" = some (some (.ref f20)))
    (l20 : K.lookup f20 = some ⟨oc20, od20, .func (PySem.W.fnOf "need_own" "need_own" (defArgs s_need_own) (defBody s_need_own) (defScope s_need_own) .none kV20 dc20 pm20 an20 cd20 ct20), sl20⟩)
    (c20 : PySem.W.codeIn K cd20 "need_own" = true)
    (k20 : PySem.W.keepIn K (.ref f20) = true)
    (a21 : PySem.W.findIn K (.ref CGR) "look_at" = some (some (.ref f21)))
    (i21 : PySem.W.isFn K (.ref f21) = true)
    (l21 : K.lookup f21 = some ⟨oc21, od21, .func (PySem.W.fnOf "look_at" "Grammar.look_at" (defArgs s_Grammar_look_at) (defBody s_Grammar_look_at) (defScope s_Grammar_look_at) .none kV21 dc21 pm21 an21 cd21 ct21), sl21⟩)
    (c21 : PySem.W.codeIn K cd21 "Grammar.look_at" = true)
    (k21 : PySem.W.keepIn K (.ref f21) = true)
    (a22 : PySem.W.findIn K (.ref CGR) "__init__" = some (some (.ref f22)))
    (i22 : PySem.W.isFn K (.ref f22) = true)
    (l22 : K.lookup f22 = some ⟨oc22, od22, .func (PySem.W.fnOf "__init__" "Grammar.__init__" (defArgs s_Grammar_init) (defBody s_Grammar_init) (defScope s_Grammar_init) .none (.ref kD22) dc22 pm22 an22 cd22 ct22), sl22⟩)
    (c22 : PySem.W.codeIn K cd22 "Grammar.__init__" = true)
    (kn22 : PySem.W.nsIn K kD22 "own" = some (some .none))
    (k22 : PySem.W.keepIn K (.ref f22) = true)
    (a23 : PySem.W.findIn K (.ref CGR) "root" = some (some (.ref f23)))
    (i23 : PySem.W.isFn K (.ref f23) = true)
    (l23 : K.lookup f23 = some ⟨oc23, od23, .func (PySem.W.fnOf "root" "Grammar.root" (defArgs s_Grammar_root) (defBody s_Grammar_root) (defScope s_Grammar_root) .none kV23 dc23 pm23 an23 cd23 ct23), sl23⟩)
    (c23 : PySem.W.codeIn K cd23 "Grammar.root" = true)
    (k23 : PySem.W.keepIn K (.ref f23) = true)
    (a24 : PySem.W.findIn K (.ref CGR) "own_words" = some (some (.ref f24)))
    (i24 : PySem.W.isFn K (.ref f24) = true)
    (l24 : K.lookup f24 = some ⟨oc24, od24, .func (PySem.W.fnOf "own_words" "Grammar.own_words" (defArgs s_Grammar_own_words) (defBody s_Grammar_own_words) (defScope s_Grammar_own_words) .none kV24 dc24 pm24 an24 cd24 ct24), sl24⟩)
    (c24 : PySem.W.codeIn K cd24 "Grammar.own_words" = true)
    (k24 : PySem.W.keepIn K (.ref f24) = true)
    (a25 : PySem.W.nsIn K mainGlobals "need_grammar" = some (some (.ref f25)))
    (l25 : K.lookup f25 = some ⟨oc25, od25, .func (PySem.W.fnOf "need_grammar" "need_grammar" (defArgs s_need_grammar) (defBody s_need_grammar) (defScope s_need_grammar) .none kV25 dc25 pm25 an25 cd25 ct25), sl25⟩)
    (c25 : PySem.W.codeIn K cd25 "need_grammar" = true)
    (k25 : PySem.W.keepIn K (.ref f25) = true)
    (a26 : PySem.W.nsIn K mainGlobals "table_of" = some (some (.ref f26)))
    (l26 : K.lookup f26 = some ⟨oc26, od26, .func (PySem.W.fnOf "table_of" "table_of" (defArgs s_table_of) (defBody s_table_of) (defScope s_table_of) .none kV26 dc26 pm26 an26 cd26 ct26), sl26⟩)
    (c26 : PySem.W.codeIn K cd26 "table_of" = true)
    (k26 : PySem.W.keepIn K (.ref f26) = true)
    (a27 : PySem.W.nsIn K mainGlobals "_law_cell" = some (some (.ref f27)))
    (l27 : K.lookup f27 = some ⟨oc27, od27, .func (PySem.W.fnOf "_law_cell" "_law_cell" (defArgs s_l_cell) (defBody s_l_cell) (defScope s_l_cell) .none kV27 dc27 pm27 an27 cd27 ct27), sl27⟩)
    (c27 : PySem.W.codeIn K cd27 "_law_cell" = true)
    (k27 : PySem.W.keepIn K (.ref f27) = true)
    (a28 : PySem.W.nsIn K mainGlobals "_law_box" = some (some (.ref f28)))
    (l28 : K.lookup f28 = some ⟨oc28, od28, .func (PySem.W.fnOf "_law_box" "_law_box" (defArgs s_l_box) (defBody s_l_box) (defScope s_l_box) .none kV28 dc28 pm28 an28 cd28 ct28), sl28⟩)
    (c28 : PySem.W.codeIn K cd28 "_law_box" = true)
    (k28 : PySem.W.keepIn K (.ref f28) = true)
    (a29 : PySem.W.nsIn K mainGlobals "_law_take" = some (some (.ref f29)))
    (l29 : K.lookup f29 = some ⟨oc29, od29, .func (PySem.W.fnOf "_law_take" "_law_take" (defArgs s_l_take) (defBody s_l_take) (defScope s_l_take) .none kV29 dc29 pm29 an29 cd29 ct29), sl29⟩)
    (c29 : PySem.W.codeIn K cd29 "_law_take" = true)
    (k29 : PySem.W.keepIn K (.ref f29) = true)
    (a30 : PySem.W.nsIn K mainGlobals "_law_names" = some (some (.ref f30)))
    (l30 : K.lookup f30 = some ⟨oc30, od30, .func (PySem.W.fnOf "_law_names" "_law_names" (defArgs s_l_names) (defBody s_l_names) (defScope s_l_names) .none kV30 dc30 pm30 an30 cd30 ct30), sl30⟩)
    (c30 : PySem.W.codeIn K cd30 "_law_names" = true)
    (k30 : PySem.W.keepIn K (.ref f30) = true)
    (a31 : PySem.W.nsIn K mainGlobals "_law_teller" = some (some (.ref f31)))
    (l31 : K.lookup f31 = some ⟨oc31, od31, .func (PySem.W.fnOf "_law_teller" "_law_teller" (defArgs s_l_teller) (defBody s_l_teller) (defScope s_l_teller) .none kV31 dc31 pm31 an31 (.ref cT31) ct31), sl31⟩)
    (c31 : PySem.W.codeIn K (.ref cT31) "_law_teller" = true)
    (mc31 : K.lookup cT31 = some ⟨mo31, mp31, .fields mv31, ms31⟩)
    (mt31 : (mv31[11]? : Option Value) = some (.ref tT31))
    (ml31 : K.lookup tT31 = none)
    (mr31 : (recsOf q).find? (fun e => e.name == ("_law_teller" : Str)) = some md31)
    (k31 : PySem.W.keepIn K (.ref f31) = true)
    (a32 : PySem.W.nsIn K mainGlobals "_law_kinds" = some (some (.ref f32)))
    (l32 : K.lookup f32 = some ⟨oc32, od32, .func (PySem.W.fnOf "_law_kinds" "_law_kinds" (defArgs s_l_kinds) (defBody s_l_kinds) (defScope s_l_kinds) .none kV32 dc32 pm32 an32 cd32 ct32), sl32⟩)
    (c32 : PySem.W.codeIn K cd32 "_law_kinds" = true)
    (k32 : PySem.W.keepIn K (.ref f32) = true)
    (a33 : PySem.W.nsIn K mainGlobals "_law_tables" = some (some (.ref f33)))
    (l33 : K.lookup f33 = some ⟨oc33, od33, .func (PySem.W.fnOf "_law_tables" "_law_tables" (defArgs s_l_tables) (defBody s_l_tables) (defScope s_l_tables) .none kV33 dc33 pm33 an33 cd33 ct33), sl33⟩)
    (c33 : PySem.W.codeIn K cd33 "_law_tables" = true)
    (k33 : PySem.W.keepIn K (.ref f33) = true)
    (a34 : PySem.W.nsIn K mainGlobals "_law_due" = some (some (.ref f34)))
    (l34 : K.lookup f34 = some ⟨oc34, od34, .func (PySem.W.fnOf "_law_due" "_law_due" (defArgs s_l_due) (defBody s_l_due) (defScope s_l_due) .none kV34 dc34 pm34 an34 cd34 ct34), sl34⟩)
    (c34 : PySem.W.codeIn K cd34 "_law_due" = true)
    (k34 : PySem.W.keepIn K (.ref f34) = true)
    (a35 : PySem.W.nsIn K mainGlobals "_law_tried" = some (some (.ref f35)))
    (l35 : K.lookup f35 = some ⟨oc35, od35, .func (PySem.W.fnOf "_law_tried" "_law_tried" (defArgs s_l_tried) (defBody s_l_tried) (defScope s_l_tried) .none kV35 dc35 pm35 an35 cd35 ct35), sl35⟩)
    (c35 : PySem.W.codeIn K cd35 "_law_tried" = true)
    (k35 : PySem.W.keepIn K (.ref f35) = true)
    (a36 : PySem.W.nsIn K mainGlobals "_law_worths" = some (some (.ref f36)))
    (l36 : K.lookup f36 = some ⟨oc36, od36, .func (PySem.W.fnOf "_law_worths" "_law_worths" (defArgs s_l_worths) (defBody s_l_worths) (defScope s_l_worths) .none kV36 dc36 pm36 an36 cd36 ct36), sl36⟩)
    (c36 : PySem.W.codeIn K cd36 "_law_worths" = true)
    (k36 : PySem.W.keepIn K (.ref f36) = true)
    (a37 : PySem.W.nsIn K mainGlobals "_law_refused" = some (some (.ref f37)))
    (l37 : K.lookup f37 = some ⟨oc37, od37, .func (PySem.W.fnOf "_law_refused" "_law_refused" (defArgs s_l_refused) (defBody s_l_refused) (defScope s_l_refused) .none kV37 dc37 pm37 an37 cd37 ct37), sl37⟩)
    (c37 : PySem.W.codeIn K cd37 "_law_refused" = true)
    (k37 : PySem.W.keepIn K (.ref f37) = true)
    (a38 : PySem.W.nsIn K mainGlobals "law" = some (some (.ref f38)))
    (l38 : K.lookup f38 = some ⟨oc38, od38, .func (PySem.W.fnOf "law" "law" (defArgs s_law) (defBody s_law) (defScope s_law) .none kV38 dc38 pm38 an38 cd38 ct38), sl38⟩)
    (c38 : PySem.W.codeIn K cd38 "law" = true)
    (k38 : PySem.W.keepIn K (.ref f38) = true)
    (z_abs : PySem.W.nsIn K mainGlobals "abs" = some none)
    (z_all : PySem.W.nsIn K mainGlobals "all" = some none)
    (z_any : PySem.W.nsIn K mainGlobals "any" = some none)
    (z_bool : PySem.W.nsIn K mainGlobals "bool" = some none)
    (z_dict : PySem.W.nsIn K mainGlobals "dict" = some none)
    (z_enumerate : PySem.W.nsIn K mainGlobals "enumerate" = some none)
    (z_int : PySem.W.nsIn K mainGlobals "int" = some none)
    (z_isinstance : PySem.W.nsIn K mainGlobals "isinstance" = some none)
    (z_len : PySem.W.nsIn K mainGlobals "len" = some none)
    (z_list : PySem.W.nsIn K mainGlobals "list" = some none)
    (z_max : PySem.W.nsIn K mainGlobals "max" = some none)
    (z_min : PySem.W.nsIn K mainGlobals "min" = some none)
    (z_ord : PySem.W.nsIn K mainGlobals "ord" = some none)
    (z_range : PySem.W.nsIn K mainGlobals "range" = some none)
    (z_repr : PySem.W.nsIn K mainGlobals "repr" = some none)
    (z_set : PySem.W.nsIn K mainGlobals "set" = some none)
    (z_sorted : PySem.W.nsIn K mainGlobals "sorted" = some none)
    (z_str : PySem.W.nsIn K mainGlobals "str" = some none)
    (z_sum : PySem.W.nsIn K mainGlobals "sum" = some none)
    (z_tuple : PySem.W.nsIn K mainGlobals "tuple" = some none)
    (z_zip : PySem.W.nsIn K mainGlobals "zip" = some none)
    : ∃ (fd : FuncData) (ts : List Mkr), (∀ (s : Shared) (v : Value), BindsTo s fd ⟨[v], []⟩ [("_law_script", v)]) ∧ (ts.map (·.t)).Nodup ∧ (∀ t ∈ ts, K.lookup t.t = none ∧ ∃ y dd, (recsOf q).find? (fun e => e.name == y) = some dd ∧ PySem.W.tabIn K y = some (t.c, t.t)) ∧ (∀ base : Heap, K.In base → base.Ns mainGlobals mg → (∀ t ∈ ts, TabB base mg t.c t.t) → FnG P w K mg base 9 fa fd ["_law_script"] (toSp K (Wt ts))) ∧ ∀ ns : List Int, ns.length ≤ 63 → Wt ts [.frz (ns.map Dt.int)] (tabs0 ts) (fun d _ => d = .bl true) (fun _ _ _ => False) := by
  have e := hfa.symm.trans (PySem.W.mg_of X G a38)
  cases e
  have F0 := fun_mk (st := s_is_whole) l0 c0 k0
  have F1 := fun_mk (st := s_is_name) l1 c1 k1
  have F2 := fun_mk (st := s_is_letter) l2 c2 k2
  have F3 := fun_mk (st := s_is_word) l3 c3 k3
  have F4 := fun_mk (st := s_are_unlike) l4 c4 k4
  have F5 := fun_mk (st := s_is_kind) l5 c5 k5
  have F6 := fun_mk (st := s_number_in) l6 c6 k6
  have F7 := fun_mk (st := s_are_own) l7 c7 k7
  have F8 := fun_mk (st := s_need_kind) l8 c8 k8
  have F9 := fun_mk (st := s_fits) l9 c9 k9
  have F10 := fun_mk (st := s_worth_of) l10 c10 k10
  have F11 := fun_mk (st := s_is_option) l11 c11 k11
  have F12 := fun_mk (st := s_is_place) l12 c12 k12
  have F13 := fun_mk (st := s_are_places) l13 c13 k13
  have F14 := fun_mk (st := s_is_group) l14 c14 k14
  have F15 := fun_mk (st := s_is_command) l15 c15 k15
  have F16 := fun_mk (st := s_first_twice) l16 c16 k16
  have F17 := fun_mk (st := s_beneath_names) l17 c17 k17
  have F18 := fun_mk (st := s_kinds_of) l18 c18 k18
  have F19 := fun_mk (st := s_first_bad_group) l19 c19 k19
  have F20 := fun_mk (st := s_need_own) l20 c20 k20
  have F21 := fun_mk (st := s_Grammar_look_at) l21 c21 k21
  have F22 := fun_mk (st := s_Grammar_init) l22 c22 k22
  have F23 := fun_mk (st := s_Grammar_root) l23 c23 k23
  have F24 := fun_mk (st := s_Grammar_own_words) l24 c24 k24
  have F25 := fun_mk (st := s_need_grammar) l25 c25 k25
  have F26 := fun_mk (st := s_table_of) l26 c26 k26
  have F27 := fun_mk (st := s_l_cell) l27 c27 k27
  have F28 := fun_mk (st := s_l_box) l28 c28 k28
  have F29 := fun_mk (st := s_l_take) l29 c29 k29
  have F30 := fun_mk (st := s_l_names) l30 c30 k30
  have F31 := fun_mk (st := s_l_teller) l31 c31 k31
  have F32 := fun_mk (st := s_l_kinds) l32 c32 k32
  have F33 := fun_mk (st := s_l_tables) l33 c33 k33
  have F34 := fun_mk (st := s_l_due) l34 c34 k34
  have F35 := fun_mk (st := s_l_tried) l35 c35 k35
  have F36 := fun_mk (st := s_l_worths) l36 c36 k36
  have F37 := fun_mk (st := s_l_refused) l37 c37 k37
  have F38 := fun_mk (st := s_law) l38 c38 k38
  have b0 := F0.binds (ps := ["thing", "low", "high"]) fun _ _ _ _ _ _ us hl => match us, hl with | [_, _, _], _ => rfl
  have b1 := F1.binds (ps := ["thing"]) fun _ _ _ _ _ _ us hl => match us, hl with | [_], _ => rfl
  have b2 := F2.binds (ps := ["thing"]) fun _ _ _ _ _ _ us hl => match us, hl with | [_], _ => rfl
  have b3 := F3.binds (ps := ["thing"]) fun _ _ _ _ _ _ us hl => match us, hl with | [_], _ => rfl
  have b4 := F4.binds (ps := ["things"]) fun _ _ _ _ _ _ us hl => match us, hl with | [_], _ => rfl
  have b5 := F5.binds (ps := ["thing"]) fun _ _ _ _ _ _ us hl => match us, hl with | [_], _ => rfl
  have b6 := F6.binds (ps := ["thing"]) fun _ _ _ _ _ _ us hl => match us, hl with | [_], _ => rfl
  have b7 := F7.binds (ps := ["thing"]) fun _ _ _ _ _ _ us hl => match us, hl with | [_], _ => rfl
  have b8 := F8.binds (ps := ["kind", "own"]) fun _ _ _ _ _ _ us hl => match us, hl with | [_, _], _ => rfl
  have b9 := F9.binds (ps := ["kind", "thing", "own"]) fun _ _ _ _ _ _ us hl => match us, hl with | [_, _, _], _ => rfl
  have b11 := F11.binds (ps := ["thing"]) fun _ _ _ _ _ _ us hl => match us, hl with | [_], _ => rfl
  have b12 := F12.binds (ps := ["thing"]) fun _ _ _ _ _ _ us hl => match us, hl with | [_], _ => rfl
  have b13 := F13.binds (ps := ["thing"]) fun _ _ _ _ _ _ us hl => match us, hl with | [_], _ => rfl
  have b14 := F14.binds (ps := ["thing"]) fun _ _ _ _ _ _ us hl => match us, hl with | [_], _ => rfl
  have b15 := F15.binds (ps := ["thing"]) fun _ _ _ _ _ _ us hl => match us, hl with | [_], _ => rfl
  have b16 := F16.binds (ps := ["names"]) fun _ _ _ _ _ _ us hl => match us, hl with | [_], _ => rfl
  have b17 := F17.binds (ps := ["command"]) fun _ _ _ _ _ _ us hl => match us, hl with | [_], _ => rfl
  have b18 := F18.binds (ps := ["command"]) fun _ _ _ _ _ _ us hl => match us, hl with | [_], _ => rfl
  have b19 := F19.binds (ps := ["command"]) fun _ _ _ _ _ _ us hl => match us, hl with | [_], _ => rfl
  have b20 := F20.binds (ps := ["own"]) fun _ _ _ _ _ _ us hl => match us, hl with | [_], _ => rfl
  have b21 := F21.binds (ps := ["self", "command", "where"]) fun _ _ _ _ _ _ us hl => match us, hl with | [_, _, _], _ => rfl
  have b23 := F23.binds (ps := ["self"]) fun _ _ _ _ _ _ us hl => match us, hl with | [_], _ => rfl
  have b24 := F24.binds (ps := ["self", "kind"]) fun _ _ _ _ _ _ us hl => match us, hl with | [_, _], _ => rfl
  have b25 := F25.binds (ps := ["thing"]) fun _ _ _ _ _ _ us hl => match us, hl with | [_], _ => rfl
  have b26 := F26.binds (ps := ["grammar", "kind"]) fun _ _ _ _ _ _ us hl => match us, hl with | [_, _], _ => rfl
  have b27 := F27.binds (ps := ["_law_script", "_law_k"]) fun _ _ _ _ _ _ us hl => match us, hl with | [_, _], _ => rfl
  have b28 := F28.binds (ps := ["_law_cell_here"]) fun _ _ _ _ _ _ us hl => match us, hl with | [_], _ => rfl
  have b29 := F29.binds (ps := ["_law_box_here", "_law_wide"]) fun _ _ _ _ _ _ us hl => match us, hl with | [_, _], _ => rfl
  have b30 := F30.binds (ps := ["_law_box_here", "_law_many", "_law_size"]) fun _ _ _ _ _ _ us hl => match us, hl with | [_, _, _], _ => rfl
  have b31 := F31.binds (ps := ["_law_words"]) fun _ _ _ _ _ _ us hl => match us, hl with | [_], _ => rfl
  have b32 := F32.binds (ps := ["_law_box_here"]) fun _ _ _ _ _ _ us hl => match us, hl with | [_], _ => rfl
  have b33 := F33.binds (ps := ["_law_box_here", "_law_names_here"]) fun _ _ _ _ _ _ us hl => match us, hl with | [_, _], _ => rfl
  have b34 := F34.binds (ps := ["_law_kind", "_law_heap"]) fun _ _ _ _ _ _ us hl => match us, hl with | [_, _], _ => rfl
  have b35 := F35.binds (ps := ["_law_kinds_here", "_law_heap", "_law_names_here"]) fun _ _ _ _ _ _ us hl => match us, hl with | [_, _, _], _ => rfl
  have b36 := F36.binds (ps := ["_law_kind", "_law_heap", "_law_words"]) fun _ _ _ _ _ _ us hl => match us, hl with | [_, _, _], _ => rfl
  have b37 := F37.binds (ps := ["_law_grammar", "_law_thing"]) fun _ _ _ _ _ _ us hl => match us, hl with | [_, _], _ => rfl
  have B : Bi mg := ⟨PySem.W.mg_none_of X G z_abs, PySem.W.mg_none_of X G z_all, PySem.W.mg_none_of X G z_any, PySem.W.mg_none_of X G z_bool, PySem.W.mg_none_of X G z_dict, PySem.W.mg_none_of X G z_enumerate, PySem.W.mg_none_of X G z_int, PySem.W.mg_none_of X G z_isinstance, PySem.W.mg_none_of X G z_len, PySem.W.mg_none_of X G z_list, PySem.W.mg_none_of X G z_max, PySem.W.mg_none_of X G z_min, PySem.W.mg_none_of X G z_ord, PySem.W.mg_none_of X G z_range, PySem.W.mg_none_of X G z_repr, PySem.W.mg_none_of X G z_set, PySem.W.mg_none_of X G z_sorted, PySem.W.mg_none_of X G z_str, PySem.W.mg_none_of X G z_sum, PySem.W.mg_none_of X G z_tuple, PySem.W.mg_none_of X G z_zip⟩
  have TKI := Ex_found.mk X G aCKI xLKI hbKI saKI gaKI ggKI nnKI iCKI rCKI cCKI spKI tkKI mrKI tCKI kCKI exKI tyKI hdKI isKI suKI liKI ciKI
  have XFKI := TKI.xf isKI (by decide +kernel)
  have XSKI := x6_mk s0KI s1KI s2KI s3KI s4KI s5KI
  have TNG := Ex_found.mk X G aCNG xLNG hbNG saNG gaNG ggNG nnNG iCNG rCNG cCNG spNG tkNG mrNG tCNG kCNG exNG tyNG hdNG isNG suNG liNG ciNG
  have XFNG := TNG.xf isNG (by decide +kernel)
  have XSNG := x6_mk s0NG s1NG s2NG s3NG s4NG s5NG
  have KGR : GrK K CGR := ⟨⟨pgGR, hdGR, poGR, saGR⟩, nf0GR, nf1GR, nf2GR, nf3GR, ⟨⟨pgGR, hdGR, poGR, saGR⟩, ihaGR, ihnGR, itkGR, imrGR, iisGR, ityGR, fun T hT => by simp only [List.mem_cons, List.not_mem_nil, or_false] at hT; rcases hT with rfl | rfl | rfl | rfl; exact ino0GR; exact ino1GR; exact ino2GR; exact ino3GR⟩⟩
  have Q_FORMS := PySem.W.mg_of X G tm_FORMS
  have Y_FORMS : TupK K ta_FORMS ["flag", "count", "one", "many"] := ⟨.inr ⟨_, _, _, tl_FORMS, tq_FORMS, rfl, tz_FORMS, tv_FORMS⟩⟩
  have Q_TIMES := PySem.W.mg_of X G tm_TIMES
  have Y_TIMES : TupK K ta_TIMES ["one", "maybe", "rest", "some"] := ⟨.inr ⟨_, _, _, tl_TIMES, tq_TIMES, rfl, tz_TIMES, tv_TIMES⟩⟩
  have Z_TIMES : TupN K ta_TIMES ["one", "maybe", "rest", "some"] := ⟨Y_TIMES, _, tl_TIMES, tq_TIMES, td_TIMES⟩
  have Q_GROUPS := PySem.W.mg_of X G tm_GROUPS
  have Y_GROUPS : TupK K ta_GROUPS ["just", "most", "with", "needs"] := ⟨.inr ⟨_, _, _, tl_GROUPS, tq_GROUPS, rfl, tz_GROUPS, tv_GROUPS⟩⟩
  have VKI_NG := exm_cl exNG isNG tyNG noKI_NG
  have Q_LETTERS := PySem.W.mg_of X G k_LETTERS
  have Q_FIGURES := PySem.W.mg_of X G k_FIGURES
  have Q_MOST_NAME := PySem.W.mg_of X G k_MOST_NAME
  have Q_MOST_WORD := PySem.W.mg_of X G k_MOST_WORD
  have Q_MOST_NUMBER := PySem.W.mg_of X G k_MOST_NUMBER
  have Q_MOST_NAMES := PySem.W.mg_of X G k_MOST_NAMES
  have Q_MOST_TEXT := PySem.W.mg_of X G k_MOST_TEXT
  have Q_MOST_OPTIONS := PySem.W.mg_of X G k_MOST_OPTIONS
  have Q_MOST_PLACES := PySem.W.mg_of X G k_MOST_PLACES
  have Q_MOST_GROUPS := PySem.W.mg_of X G k_MOST_GROUPS
  have Q_MOST_BENEATH := PySem.W.mg_of X G k_MOST_BENEATH
  have Q_MOST_MEMBERS := PySem.W.mg_of X G k_MOST_MEMBERS
  have Q_MOST_DEEP := PySem.W.mg_of X G k_MOST_DEEP
  have Q_MOST_COMMANDS := PySem.W.mg_of X G k_MOST_COMMANDS
  refine ⟨PySem.W.fnOf "law" "law" (defArgs s_law) (defBody s_law) (defScope s_law) .none kV38 dc38 pm38 an38 cd38 ct38, [⟨cT31, tT31, lposT⟩], fun s v => .of_eq rfl, by simp, fun t ht => ?_, fun base _ _ hTB => ?_, fun ns hl => ?_⟩
  rotate_left 1; rotate_left 1
  · exact ⟨ns, rfl, hl, ⟨[], .inl rfl, List.mem_cons_self⟩, fun _ => rfl⟩
  · simp only [List.mem_cons, List.not_mem_nil, or_false] at ht
    rcases ht with rfl
    · exact ⟨ml31, _, _, mr31, tabIn_of a31 l31 rfl mc31 mt31⟩
  have TB31 : TabB base mg cT31 tT31 := hTB ⟨cT31, tT31, lposT⟩ (by simp)
  have D0 : FnD P w K mg base "is_whole" 1 (W_whole K) := FnD.mk' F0 (ok_whole B F0) (PySem.W.mg_of X G a0) b0
  have D1 : FnD P w K mg base "is_name" 1 (W_pred K fName) := FnD.mk' F1 (ok_name B Q_MOST_NAME Q_LETTERS F1) (PySem.W.mg_of X G a1) b1
  have D2 : FnD P w K mg base "is_letter" 2 (W_pred K fLetter) := FnD.mk' F2 (ok_letter B D1 F2) (PySem.W.mg_of X G a2) b2
  have D3 : FnD P w K mg base "is_word" 1 (W_pred K fWord) := FnD.mk' F3 (ok_word B Q_MOST_WORD F3) (PySem.W.mg_of X G a3) b3
  have D4 : FnD P w K mg base "are_unlike" 1 (W_unl) := FnD.mk' F4 (ok_unlike B F4) (PySem.W.mg_of X G a4) b4
  have D5 : FnD P w K mg base "is_kind" 2 (W_kind K) := FnD.mk' F5 (ok_kind B Q_MOST_NUMBER Q_MOST_NAMES Q_MOST_TEXT D0 D1 D4 F5) (PySem.W.mg_of X G a5) b5
  have D6 : FnD P w K mg base "number_in" 1 (W_nin K) := FnD.mk' F6 (ok_nin B Q_FIGURES F6) (PySem.W.mg_of X G a6) b6
  have D7 : FnD P w K mg base "are_own" 2 (W_own) := FnD.mk' F7 (ok_own B Q_MOST_NAMES Q_MOST_TEXT D3 D4 F7) (PySem.W.mg_of X G a7) b7
  have D8 : FnD P w K mg base "need_kind" 3 (W_need) := FnD.mk' F8 (ok_need D5 D7 F8) (PySem.W.mg_of X G a8) b8
  have D9 : FnD P w K mg base "fits" 2 (W_fits K) := FnD.mk' F9 (ok_fits B D0 D1 D3 F9) (PySem.W.mg_of X G a9) b9
  have D10 : FnW P w K mg base "worth_of" 4 2 "own" (W_wrt K) := ⟨_, _, _, ok_wrt D8 D9 D6 F10, PySem.W.mg_of X G a10, k10, fun s us v _ hl => match us, hl with | [_, _], _ => .of_eq rfl, kT10, fun s us X hl => match us, (by simpa using hl : us.length = 2) with | [_, _], _ => BindsTo.of_looks fun M => KwChain.looks X (l := [("own", .ref kT10)]) (fun q hq => by rw [List.mem_singleton.mp hq]; exact kn10) ⟨_, _, _, _, _, _, rfl, rfl, rfl⟩, fun D H => .tup (.inr (.inr ⟨_, _, _, kl10, kq10, rfl, kz10, kv10⟩)) .nil⟩
  have D11 : FnD P w K mg base "is_option" 3 (W_isop) := FnD.mk' F11 (ok_isop B Q_FORMS Y_FORMS D1 D2 D5 F11) (PySem.W.mg_of X G a11) b11
  have D12 : FnD P w K mg base "is_place" 3 (W_ispl) := FnD.mk' F12 (ok_ispl B Q_TIMES Z_TIMES D1 D5 F12) (PySem.W.mg_of X G a12) b12
  have D13 : FnD P w K mg base "are_places" 4 (W_arpl) := FnD.mk' F13 (ok_arpl B Q_TIMES Z_TIMES Q_MOST_PLACES D12 F13) (PySem.W.mg_of X G a13) b13
  have D14 : FnD P w K mg base "is_group" 2 (W_isgr) := FnD.mk' F14 (ok_isgr B Q_GROUPS Y_GROUPS Q_MOST_MEMBERS D1 D4 F14) (PySem.W.mg_of X G a14) b14
  have D15 : FnD P w K mg base "is_command" 5 (W_iscm) := FnD.mk' F15 (ok_iscm B Q_MOST_OPTIONS Q_MOST_GROUPS Q_MOST_BENEATH D1 D13 D11 D14 F15) (PySem.W.mg_of X G a15) b15
  have D16 : FnD P w K mg base "first_twice" 1 (W_twice) := FnD.mk' F16 (ok_twice B F16) (PySem.W.mg_of X G a16) b16
  have D17 : FnD P w K mg base "beneath_names" 1 (W_bn0) := FnD.mk' F17 (ok_bn0 F17) (PySem.W.mg_of X G a17) b17
  have D18 : FnD P w K mg base "kinds_of" 1 (W_kinds) := FnD.mk' F18 (ok_kinds F18) (PySem.W.mg_of X G a18) b18
  have D19 : FnD P w K mg base "first_bad_group" 1 (W_bad0) := FnD.mk' F19 (ok_bad0 F19) (PySem.W.mg_of X G a19) b19
  have D20 : FnD P w K mg base "need_own" 2 (W_nown) := FnD.mk' F20 (ok_nown B D1 F20) (PySem.W.mg_of X G a20) b20
  have D21 : MtD P w K mg base CGR "look_at" 6 (W_look P w CGR) := ⟨_, _, _, ok_look KGR D15 D16 D17 D18 D19 F21, KGR.cl, ⟨a21, i21, k21⟩, b21⟩
  have D22 : MkW P w K mg base "Grammar" CGR 7 1 "own" (W_gin P w CGR) := ⟨_, _, _, ok_gin B KGR Q_MOST_DEEP Q_MOST_COMMANDS D20 D21 F22, ⟨mkGR, a22, i22, kcGR⟩, PySem.W.mg_of X G aCGR, fun s us v _ hl => match us, hl with | [_, _], _ => .of_eq rfl, fun s us X hl => match us, hl with | [_, _], _ => BindsTo.of_looks fun M => KwChain.looks X (l := [("own", .none)]) (fun q hq => by rw [List.mem_singleton.mp hq]; exact kn22) ⟨_, _, _, _, _, _, rfl, rfl, rfl⟩⟩
  have D23 : MtD P w K mg base CGR "root" 1 (W_root P w CGR) := ⟨_, _, _, ok_root KGR F23, KGR.cl, ⟨a23, i23, k23⟩, b23⟩
  have D24 : MtD P w K mg base CGR "own_words" 3 (W_ownw P w CGR L0) := ⟨_, _, _, ok_ownw L0_ok B KGR D5 F24, KGR.cl, ⟨a24, i24, k24⟩, b24⟩
  have D25 : FnD P w K mg base "need_grammar" 3 (Or2 (W_ngr CGR) (W_ngrX CNG)) := FnD.mk' F25 (FnG.or (ok_ngr B (PySem.W.mg_of X G aCGR) KGR F25) (ok_ngrX B (PySem.W.mg_of X G aCGR) KGR TNG F25)) (PySem.W.mg_of X G a25) b25
  have D26 : FnD P w K mg base "table_of" 4 (Or2 (W_tab P w CGR L0) (Or2 (W_tabK K CGR CKI) (W_tabG CNG))) := FnD.mk' F26 (FnG.or (ok_tab B KGR D25.left D5 D24 F26) (FnG.or (ok_tabK KGR TKI D25.left D5 F26) (ok_tabG D25.right F26))) (PySem.W.mg_of X G a26) b26
  have D27 : FnD P w K mg base "_law_cell" 1 (W_cell) := FnD.mk' F27 (ok_cell B F27) (PySem.W.mg_of X G a27) b27
  have D28 : FnD P w K mg base "_law_box" 1 (W_boxN) := FnD.mk' F28 (ok_boxN B F28) (PySem.W.mg_of X G a28) b28
  have D29 : FnD P w K mg base "_law_take" 1 (W_take) := FnD.mk' F29 (ok_take F29) (PySem.W.mg_of X G a29) b29
  have D30 : FnD P w K mg base "_law_names" 2 (W_nms) := FnD.mk' F30 (ok_nms B D29 F30) (PySem.W.mg_of X G a30) b30
  have D31 : FnD P w K mg base "_law_teller" 2 (W_tell L0 tT31 lposT) := ⟨_, _, _, ok_tell l31 c31 TB31, PySem.W.mg_of X G a31, k31, b31⟩
  have D32 : FnD P w K mg base "_law_kinds" 3 (W_kds) := FnD.mk' F32 (ok_kds B D29 D30 F32) (PySem.W.mg_of X G a32) b32
  have D33 : FnD P w K mg base "_law_tables" 2 (W_tbs) := FnD.mk' F33 (ok_tbs B D29 F33) (PySem.W.mg_of X G a33) b33
  have D34 : FnD P w K mg base "_law_due" 1 (W_due) := FnD.mk' F34 (ok_due B F34) (PySem.W.mg_of X G a34) b34
  have D35 : FnD P w K mg base "_law_tried" 1 (W_trd) := FnD.mk' F35 (ok_trd B F35) (PySem.W.mg_of X G a35) b35
  have D36 : FnD P w K mg base "_law_worths" 5 (W_wos) := FnD.mk' F36 (ok_wos B D10 F36) (PySem.W.mg_of X G a36) b36
  have D37 : FnD P w K mg base "_law_refused" 5 (W_rfs K CGR) := FnD.mk' F37 (ok_rfs TNG TKI VKI_NG D26.right.left D26.right.right F37) (PySem.W.mg_of X G a37) b37
  exact ok_law B KGR D28 D27 D32 D33 D29 D31 D22 D35 D26.left D36 D34 D23 D37 F38
end
end K60
open PySem PySem.W PyProof.Rows
set_option maxHeartbeats 0 in
theorem PySem.Challenge.cw_callwords_k60_tables_of_kinds_holds : PySem.Challenge.rw_callwords_k60_tables_of_kinds.Holds := by
  w_on; o_law; k_head; (case hw => w_witness2)
  k_fill
  refine Dw.walkT (l := PySem.Challenge.rw_callwords_k60_tables_of_kinds) (n := 63) (k := 9) (x := "_law_script") (W := K60.Wt) rfl (by decide) rfl ⟨rfl, by decide, by decide⟩ (fun w h Y => PySem.W.km_in_of Y) ?F
  case F =>
    intro w mg fa h KX G hmg
    refine' K60.all_mk KX G hmg ?aCKI ?xLKI ?hbKI ?saKI ?gaKI ?ggKI ?nnKI ?iCKI ?rCKI ?cCKI ?spKI ?tkKI ?mrKI ?tCKI ?kCKI ?exKI ?tyKI ?hdKI ?isKI ?suKI ?liKI ?ciKI ?s0KI ?s1KI ?s2KI ?s3KI ?s4KI ?s5KI ?aCNG ?xLNG ?hbNG ?saNG ?gaNG ?ggNG ?nnNG ?iCNG ?rCNG ?cCNG ?spNG ?tkNG ?mrNG ?tCNG ?kCNG ?exNG ?tyNG ?hdNG ?isNG ?suNG ?liNG ?ciNG ?s0NG ?s1NG ?s2NG ?s3NG ?s4NG ?s5NG ?aCGR ?pgGR ?hdGR ?poGR ?saGR ?mkGR ?kcGR ?nf0GR ?nf1GR ?nf2GR ?nf3GR ?ihaGR ?ihnGR ?itkGR ?imrGR ?iisGR ?ityGR ?ino0GR ?ino1GR ?ino2GR ?ino3GR ?tm_FORMS ?tl_FORMS ?tq_FORMS ?tv_FORMS ?tz_FORMS ?tm_TIMES ?tl_TIMES ?tq_TIMES ?tv_TIMES ?tz_TIMES ?td_TIMES ?tm_GROUPS ?tl_GROUPS ?tq_GROUPS ?tv_GROUPS ?tz_GROUPS ?noKI_NG ?k_LETTERS ?k_FIGURES ?k_MOST_NAME ?k_MOST_WORD ?k_MOST_NUMBER ?k_MOST_NAMES ?k_MOST_TEXT ?k_MOST_OPTIONS ?k_MOST_PLACES ?k_MOST_GROUPS ?k_MOST_BENEATH ?k_MOST_MEMBERS ?k_MOST_DEEP ?k_MOST_COMMANDS ?a0 ?l0 ?c0 ?k0 ?a1 ?l1 ?c1 ?k1 ?a2 ?l2 ?c2 ?k2 ?a3 ?l3 ?c3 ?k3 ?a4 ?l4 ?c4 ?k4 ?a5 ?l5 ?c5 ?k5 ?a6 ?l6 ?c6 ?k6 ?a7 ?l7 ?c7 ?k7 ?a8 ?l8 ?c8 ?k8 ?a9 ?l9 ?c9 ?k9 ?a10 ?l10 ?c10 ?k10 ?kn10 ?kl10 ?kq10 ?kv10 ?kz10 ?a11 ?l11 ?c11 ?k11 ?a12 ?l12 ?c12 ?k12 ?a13 ?l13 ?c13 ?k13 ?a14 ?l14 ?c14 ?k14 ?a15 ?l15 ?c15 ?k15 ?a16 ?l16 ?c16 ?k16 ?a17 ?l17 ?c17 ?k17 ?a18 ?l18 ?c18 ?k18 ?a19 ?l19 ?c19 ?k19 ?a20 ?l20 ?c20 ?k20 ?a21 ?i21 ?l21 ?c21 ?k21 ?a22 ?i22 ?l22 ?c22 ?kn22 ?k22 ?a23 ?i23 ?l23 ?c23 ?k23 ?a24 ?i24 ?l24 ?c24 ?k24 ?a25 ?l25 ?c25 ?k25 ?a26 ?l26 ?c26 ?k26 ?a27 ?l27 ?c27 ?k27 ?a28 ?l28 ?c28 ?k28 ?a29 ?l29 ?c29 ?k29 ?a30 ?l30 ?c30 ?k30 ?a31 ?l31 ?c31 ?mc31 ?mt31 ?ml31 ?mr31 ?k31 ?a32 ?l32 ?c32 ?k32 ?a33 ?l33 ?c33 ?k33 ?a34 ?l34 ?c34 ?k34 ?a35 ?l35 ?c35 ?k35 ?a36 ?l36 ?c36 ?k36 ?a37 ?l37 ?c37 ?k37 ?a38 ?l38 ?c38 ?k38 ?z_abs ?z_all ?z_any ?z_bool ?z_dict ?z_enumerate ?z_int ?z_isinstance ?z_len ?z_list ?z_max ?z_min ?z_ord ?z_range ?z_repr ?z_set ?z_sorted ?z_str ?z_sum ?z_tuple ?z_zip
    (case aCKI => k_is)
    (case xLKI => k_is)
    (case hbKI => first | rfl | decide +kernel)
    (case saKI => k_is)
    (case gaKI => k_is)
    (case ggKI => k_is)
    (case nnKI => k_is)
    (case iCKI => k_is)
    (case rCKI => k_is)
    (case cCKI => k_is)
    (case spKI => k_is)
    (case tkKI => k_is)
    (case mrKI => k_is)
    (case tCKI => k_is)
    (case kCKI => k_is)
    (case exKI => k_is)
    (case tyKI => k_is)
    (case hdKI => k_is)
    (case isKI => k_is)
    (case suKI => first | rfl | k_is)
    (case liKI => k_is)
    (case ciKI => k_is)
    (case s0KI => k_is)
    (case s1KI => k_is)
    (case s2KI => k_is)
    (case s3KI => k_is)
    (case s4KI => k_is)
    (case s5KI => k_is)
    (case aCNG => k_is)
    (case xLNG => k_is)
    (case hbNG => first | rfl | decide +kernel)
    (case saNG => k_is)
    (case gaNG => k_is)
    (case ggNG => k_is)
    (case nnNG => k_is)
    (case iCNG => k_is)
    (case rCNG => k_is)
    (case cCNG => k_is)
    (case spNG => k_is)
    (case tkNG => k_is)
    (case mrNG => k_is)
    (case tCNG => k_is)
    (case kCNG => k_is)
    (case exNG => k_is)
    (case tyNG => k_is)
    (case hdNG => k_is)
    (case isNG => k_is)
    (case suNG => first | rfl | k_is)
    (case liNG => k_is)
    (case ciNG => k_is)
    (case s0NG => k_is)
    (case s1NG => k_is)
    (case s2NG => k_is)
    (case s3NG => k_is)
    (case s4NG => k_is)
    (case s5NG => k_is)
    (case aCGR => k_is)
    (case pgGR => k_is)
    (case hdGR => k_is)
    (case poGR => k_is)
    (case saGR => k_is)
    (case mkGR => k_is)
    (case kcGR => k_is)
    (case nf0GR => k_is)
    (case nf1GR => k_is)
    (case nf2GR => k_is)
    (case nf3GR => k_is)
    (case ihaGR => k_is)
    (case ihnGR => k_is)
    (case itkGR => k_is)
    (case imrGR => k_is)
    (case iisGR => k_is)
    (case ityGR => k_is)
    (case ino0GR => k_is)
    (case ino1GR => k_is)
    (case ino2GR => k_is)
    (case ino3GR => k_is)
    (case tm_FORMS => k_is)
    (case tl_FORMS => k_is)
    (case tq_FORMS => rfl)
    (case tv_FORMS => first | exact .cons ⟨_, rfl⟩ (.cons ⟨_, rfl⟩ .nil) | exact .cons ⟨_, rfl⟩ (.cons ⟨_, rfl⟩ (.cons ⟨_, rfl⟩ (.cons ⟨_, rfl⟩ .nil))))
    (case tz_FORMS => show _ ≤ _; exact Nat.le_of_ble_eq_true (by decide +kernel))
    (case tm_TIMES => k_is)
    (case tl_TIMES => k_is)
    (case tq_TIMES => rfl)
    (case tv_TIMES => first | exact .cons ⟨_, rfl⟩ (.cons ⟨_, rfl⟩ .nil) | exact .cons ⟨_, rfl⟩ (.cons ⟨_, rfl⟩ (.cons ⟨_, rfl⟩ (.cons ⟨_, rfl⟩ .nil))))
    (case tz_TIMES => show _ ≤ _; exact Nat.le_of_ble_eq_true (by decide +kernel))
    (case td_TIMES => rfl)
    (case tm_GROUPS => k_is)
    (case tl_GROUPS => k_is)
    (case tq_GROUPS => rfl)
    (case tv_GROUPS => first | exact .cons ⟨_, rfl⟩ (.cons ⟨_, rfl⟩ .nil) | exact .cons ⟨_, rfl⟩ (.cons ⟨_, rfl⟩ (.cons ⟨_, rfl⟩ (.cons ⟨_, rfl⟩ .nil))))
    (case tz_GROUPS => show _ ≤ _; exact Nat.le_of_ble_eq_true (by decide +kernel))
    (case noKI_NG => first | rfl | k_is)
    (case k_LETTERS => k_is)
    (case k_FIGURES => k_is)
    (case k_MOST_NAME => k_is)
    (case k_MOST_WORD => k_is)
    (case k_MOST_NUMBER => k_is)
    (case k_MOST_NAMES => k_is)
    (case k_MOST_TEXT => k_is)
    (case k_MOST_OPTIONS => k_is)
    (case k_MOST_PLACES => k_is)
    (case k_MOST_GROUPS => k_is)
    (case k_MOST_BENEATH => k_is)
    (case k_MOST_MEMBERS => k_is)
    (case k_MOST_DEEP => k_is)
    (case k_MOST_COMMANDS => k_is)
    (case a0 => k_is)
    (case l0 => k_is)
    (case c0 => k_is)
    (case k0 => k_is)
    (case a1 => k_is)
    (case l1 => k_is)
    (case c1 => k_is)
    (case k1 => k_is)
    (case a2 => k_is)
    (case l2 => k_is)
    (case c2 => k_is)
    (case k2 => k_is)
    (case a3 => k_is)
    (case l3 => k_is)
    (case c3 => k_is)
    (case k3 => k_is)
    (case a4 => k_is)
    (case l4 => k_is)
    (case c4 => k_is)
    (case k4 => k_is)
    (case a5 => k_is)
    (case l5 => k_is)
    (case c5 => k_is)
    (case k5 => k_is)
    (case a6 => k_is)
    (case l6 => k_is)
    (case c6 => k_is)
    (case k6 => k_is)
    (case a7 => k_is)
    (case l7 => k_is)
    (case c7 => k_is)
    (case k7 => k_is)
    (case a8 => k_is)
    (case l8 => k_is)
    (case c8 => k_is)
    (case k8 => k_is)
    (case a9 => k_is)
    (case l9 => k_is)
    (case c9 => k_is)
    (case k9 => k_is)
    (case a10 => k_is)
    (case l10 => k_is)
    (case c10 => k_is)
    (case k10 => k_is)
    (case kn10 => k_is)
    (case kl10 => k_is)
    (case kq10 => rfl)
    (case kv10 => exact .nil)
    (case kz10 => show _ ≤ _; exact Nat.le_of_ble_eq_true (by decide +kernel))
    (case a11 => k_is)
    (case l11 => k_is)
    (case c11 => k_is)
    (case k11 => k_is)
    (case a12 => k_is)
    (case l12 => k_is)
    (case c12 => k_is)
    (case k12 => k_is)
    (case a13 => k_is)
    (case l13 => k_is)
    (case c13 => k_is)
    (case k13 => k_is)
    (case a14 => k_is)
    (case l14 => k_is)
    (case c14 => k_is)
    (case k14 => k_is)
    (case a15 => k_is)
    (case l15 => k_is)
    (case c15 => k_is)
    (case k15 => k_is)
    (case a16 => k_is)
    (case l16 => k_is)
    (case c16 => k_is)
    (case k16 => k_is)
    (case a17 => k_is)
    (case l17 => k_is)
    (case c17 => k_is)
    (case k17 => k_is)
    (case a18 => k_is)
    (case l18 => k_is)
    (case c18 => k_is)
    (case k18 => k_is)
    (case a19 => k_is)
    (case l19 => k_is)
    (case c19 => k_is)
    (case k19 => k_is)
    (case a20 => k_is)
    (case l20 => k_is)
    (case c20 => k_is)
    (case k20 => k_is)
    (case a21 => k_is)
    (case i21 => k_is)
    (case l21 => k_is)
    (case c21 => k_is)
    (case k21 => k_is)
    (case a22 => k_is)
    (case i22 => k_is)
    (case l22 => k_is)
    (case c22 => k_is)
    (case kn22 => k_is)
    (case k22 => k_is)
    (case a23 => k_is)
    (case i23 => k_is)
    (case l23 => k_is)
    (case c23 => k_is)
    (case k23 => k_is)
    (case a24 => k_is)
    (case i24 => k_is)
    (case l24 => k_is)
    (case c24 => k_is)
    (case k24 => k_is)
    (case a25 => k_is)
    (case l25 => k_is)
    (case c25 => k_is)
    (case k25 => k_is)
    (case a26 => k_is)
    (case l26 => k_is)
    (case c26 => k_is)
    (case k26 => k_is)
    (case a27 => k_is)
    (case l27 => k_is)
    (case c27 => k_is)
    (case k27 => k_is)
    (case a28 => k_is)
    (case l28 => k_is)
    (case c28 => k_is)
    (case k28 => k_is)
    (case a29 => k_is)
    (case l29 => k_is)
    (case c29 => k_is)
    (case k29 => k_is)
    (case a30 => k_is)
    (case l30 => k_is)
    (case c30 => k_is)
    (case k30 => k_is)
    (case a31 => k_is)
    (case l31 => k_is)
    (case c31 => k_is)
    (case mc31 => k_is)
    (case mt31 => rfl)
    (case ml31 => first | kernel_rfl | rfl | decide +kernel)
    (case mr31 => rfl)
    (case k31 => k_is)
    (case a32 => k_is)
    (case l32 => k_is)
    (case c32 => k_is)
    (case k32 => k_is)
    (case a33 => k_is)
    (case l33 => k_is)
    (case c33 => k_is)
    (case k33 => k_is)
    (case a34 => k_is)
    (case l34 => k_is)
    (case c34 => k_is)
    (case k34 => k_is)
    (case a35 => k_is)
    (case l35 => k_is)
    (case c35 => k_is)
    (case k35 => k_is)
    (case a36 => k_is)
    (case l36 => k_is)
    (case c36 => k_is)
    (case k36 => k_is)
    (case a37 => k_is)
    (case l37 => k_is)
    (case c37 => k_is)
    (case k37 => k_is)
    (case a38 => k_is)
    (case l38 => k_is)
    (case c38 => k_is)
    (case k38 => k_is)
    (case z_abs => k_is)
    (case z_all => k_is)
    (case z_any => k_is)
    (case z_bool => k_is)
    (case z_dict => k_is)
    (case z_enumerate => k_is)
    (case z_int => k_is)
    (case z_isinstance => k_is)
    (case z_len => k_is)
    (case z_list => k_is)
    (case z_max => k_is)
    (case z_min => k_is)
    (case z_ord => k_is)
    (case z_range => k_is)
    (case z_repr => k_is)
    (case z_set => k_is)
    (case z_sorted => k_is)
    (case z_str => k_is)
    (case z_sum => k_is)
    (case z_tuple => k_is)
    (case z_zip => k_is)
