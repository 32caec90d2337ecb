import PyProof.Rows.All
import Wide.All
import OpenK.AllK
import Wide.FinOn
import HandS.ForMost
import HandS.ForExc
import HandS.IsInst
import HandS.Wide
import HandS.EndBits
import HandS.Defaults
import HandS.CallSlots
import PyProof.ReprReads
import HandS.Flow
import HandS.TupAny
import HandS.RaiseMore
import PyProof.ReprRoads
import PyProof.StrBlock2
import KE.KExcIs
import HandS.Replace
import KE.KExcStr
import KE.KExcInit
import HandS.Codes
import HandS.Style
import KE.KUnpackStar
import HandS.TryOnly
import KE.IntTextText
import KE.GoesMore
import PySem.Challenge.RW_callwords_k06_whole_lines_cut
set_option Elab.async false
set_option linter.all false
set_option maxRecDepth 100000
set_option maxHeartbeats 4000000
/-! Dw: a calculus over data. A value is known by its datum (Dt), what may change is a small store (Mu); the heap itself stays hidden behind Rep. -/
namespace Dw
open PySem PySem.Spec PyProof.Rows L2
/-- data; frz: a list that can only be read; raw: any value by itself (a thing of the store, a class, ..) -/
inductive Dt where
  | non | bl (b : Bool) | int (i : Int) | str (x : Str) | lst (ds : List Dt) | tup (ds : List Dt) | frz (ds : List Dt) | dct (kvs : List (Key × Dt)) | exc (C : Addr) (nm : Str) (ds : List Dt) | cau (a dx : Addr) (fs : List (Str × Dt)) | raw (v : V)
/-- what may change: a list, an instance -/
inductive Mc where
  | lst (ds : List Dt) | ins (C dx : Addr) (fs : List (Str × Dt))
abbrev En := List (Option Dt)
abbrev Mu := List (Addr × Mc)
def dom (m : Mu) : List Addr := m.map (·.1)
def H0 : Hp := fun _ => none
/-- a list that stands still, D: the addresses that may change -/
def SL (D : List Addr) (H : Hp) (a : Addr) (xs : List V) : Prop := a ∉ D ∧ H a = some (.lst xs)
def SZ (K : PySem.W.Frag) (D : List Addr) (H : Hp) (a : Addr) (xs : List V) : Prop := (a ∉ D ∧ Rd H a (.lst xs)) ∨ SqL K H0 a xs
def ST (K : PySem.W.Frag) (D : List Addr) (H : Hp) (a : Addr) (xs : List V) : Prop := (a ∉ D ∧ H a = some (.tup xs)) ∨ SqT K H0 a xs
theorem rd_none {a : Addr} {o : HO} (h : Rd H0 a o) : False := by
  rcases h with h | ⟨_, h⟩ <;> cases h
theorem SL.sq {K : PySem.W.Frag} {D : List Addr} {H : Hp} {a : Addr} {xs : List V} (h : SL D H a xs) : SqL K H a xs := SqL.of h.2
theorem SZ.sq {K : PySem.W.Frag} {D : List Addr} {H : Hp} {a : Addr} {xs : List V} (h : SZ K D H a xs) : SqL K H a xs := by
  rcases h with ⟨_, h⟩ | h
  · exact .inl h
  · rcases h with h | h
    · exact (rd_none h).elim
    · exact .inr h
theorem ST.sq {K : PySem.W.Frag} {D : List Addr} {H : Hp} {a : Addr} {xs : List V} (h : ST K D H a xs) : SqT K H a xs := by
  rcases h with ⟨_, h⟩ | h
  · exact SqT.of h
  · rcases h with h | h
    · exact (rd_none h).elim
    · exact .inr h
/-- an exception's object: its class, its arguments at t, its dict at dx -/
def ExO (a C t dx : Addr) : Heap → Prop := fun h => ∃ (o : Obj) (vs : Array Value), h.get? a = some o ∧ o.cls = .ref C ∧ o.data = .fields vs ∧ vs[0]? = some (.ref t) ∧ o.dict = some dx
mutual
inductive Da (K : PySem.W.Frag) (D : List Addr) (H : Hp) : Dt → V → Prop
  | non : Da K D H .non .non
  | bl (b : Bool) : Da K D H (.bl b) (.bl b)
  | int (i : Int) : Da K D H (.int i) (.int i)
  | str (x : Str) : Da K D H (.str x) (.str x)
  | lst {a : Addr} {xs : List V} {ds : List Dt} : SL D H a xs → DaL K D H ds xs → Da K D H (.lst ds) (.ref a)
  | frz {a : Addr} {xs : List V} {ds : List Dt} : SZ K D H a xs → DaL K D H ds xs → Da K D H (.frz ds) (.ref a)
  | tup {a : Addr} {xs : List V} {ds : List Dt} : ST K D H a xs → DaL K D H ds xs → Da K D H (.tup ds) (.ref a)
  | dct {a : Addr} {ks : List (Key × Dt)} {vs : List (Key × V)} : a ∉ D → H a = some (.dK vs) → DaK K D H ks vs → Da K D H (.dct ks) (.ref a)
  | exc {a t C dx : Addr} {nm : Str} {xs : List V} {ds : List Dt} {us : List (Str × V)} : a ∉ D → H a = some (.ext (ExO a C t dx)) → t ∉ D → H t = some (.tup xs) → dx ∉ D → H dx = some (.xd us) → DaL K D H ds xs → Da K D H (.exc C nm ds) (.ref a)
  | cau {a dx : Addr} {fs : List (Str × Dt)} {us : List (Str × V)} : dx ∉ D → H dx = some (.xd us) → Fds K D H fs us → Da K D H (.cau a dx fs) (.ref a)
  | raw (v : V) : Da K D H (.raw v) v
inductive DaL (K : PySem.W.Frag) (D : List Addr) (H : Hp) : List Dt → List V → Prop
  | nil : DaL K D H [] []
  | cons {d : Dt} {v : V} {ds : List Dt} {vs : List V} : Da K D H d v → DaL K D H ds vs → DaL K D H (d :: ds) (v :: vs)
inductive DaK (K : PySem.W.Frag) (D : List Addr) (H : Hp) : List (Key × Dt) → List (Key × V) → Prop
  | nil : DaK K D H [] []
  | cons {k : Key} {d : Dt} {v : V} {ds : List (Key × Dt)} {vs : List (Key × V)} : Da K D H d v → DaK K D H ds vs → DaK K D H ((k, d) :: ds) ((k, v) :: vs)
/-- fields, by name -/
inductive Fds (K : PySem.W.Frag) (D : List Addr) (H : Hp) : List (Str × Dt) → List (Str × V) → Prop
  | nil : Fds K D H [] []
  | cons {f : Str} {d : Dt} {v : V} {ds : List (Str × Dt)} {vs : List (Str × V)} : Da K D H d v → Fds K D H ds vs → Fds K D H ((f, d) :: ds) ((f, v) :: vs)
end
/-- from (D, H) to (D', H'): only D changes, what is in D' besides is new -/
structure Ext (D : List Addr) (H : Hp) (D' : List Addr) (H' : Hp) : Prop where
  keep : ∀ a o, a ∉ D → H a = some o → H' a = some o
  new : ∀ a, a ∈ D' → a ∈ D ∨ H a = none
theorem Ext.rfl' {D : List Addr} {H : Hp} : Ext D H D H := ⟨fun _ _ _ h => h, fun _ h => .inl h⟩
theorem Ext.trans {D D1 D2 : List Addr} {H H1 H2 : Hp} (x : Ext D H D1 H1) (y : Ext D1 H1 D2 H2) : Ext D H D2 H2 := by
  refine ⟨fun a o h e => ?_, fun a h => ?_⟩
  · refine y.keep a o (fun z => ?_) (x.keep a o h e)
    rcases x.new a z with q | q
    · exact h q
    · rw [e] at q; cases q
  · rcases y.new a h with q | q
    · exact x.new a q
    · by_cases hd : a ∈ D
      · exact .inl hd
      · cases e : H a with
        | none => exact .inr rfl
        | some o => rw [x.keep a o hd e] at q; cases q
theorem Ext.fresh {D : List Addr} {H : Hp} {p : Addr} {o : HO} (h : H p = none) : Ext D H D (upd H p o) :=
  ⟨fun a u _ e => by rw [upd_ne (ne_of_none e h)]; exact e, fun _ z => .inl z⟩
section
variable {K : PySem.W.Frag} {D D' : List Addr} {H H' : Hp}
theorem rd_move {a : Addr} {o : HO} (k : ∀ a o, a ∉ D → H a = some o → H' a = some o) (n : a ∉ D) (h : Rd H a o) : Rd H' a o := by
  rcases h with h | ⟨u, h⟩
  · exact .inl (k _ _ n h)
  · exact .inr ⟨u, k _ _ n h⟩
theorem rd_there {a : Addr} {o : HO} (h : Rd H a o) : H a ≠ none := by
  rcases h with h | ⟨u, h⟩ <;> (rw [h]; exact fun z => nomatch z)
theorem SL.move {a : Addr} {xs : List V} (x : Ext D H D' H') (h : SL D H a xs) : SL D' H' a xs := by
  refine ⟨fun z => ?_, x.keep _ _ h.1 h.2⟩
  rcases x.new a z with q | q
  · exact h.1 q
  · rw [h.2] at q; cases q
theorem SZ.move {a : Addr} {xs : List V} (x : Ext D H D' H') (h : SZ K D H a xs) : SZ K D' H' a xs := by
  rcases h with ⟨n, h⟩ | h
  · refine .inl ⟨fun z => ?_, rd_move x.keep n h⟩
    rcases x.new a z with q | q
    · exact n q
    · exact rd_there h q
  · exact .inr h
theorem ST.move {a : Addr} {xs : List V} (x : Ext D H D' H') (h : ST K D H a xs) : ST K D' H' a xs := by
  rcases h with ⟨n, h⟩ | h
  · refine .inl ⟨fun z => ?_, x.keep _ _ n h⟩
    rcases x.new a z with q | q
    · exact n q
    · rw [h] at q; cases q
  · exact .inr h
theorem NoD.move {a : Addr} {o : HO} (x : Ext D H D' H') (n : a ∉ D) (h : H a = some o) : a ∉ D' := fun z => by
  rcases x.new a z with q | q
  · exact n q
  · rw [h] at q; cases q
mutual
theorem Da.move (x : Ext D H D' H') : ∀ {d : Dt} {v : V}, Da K D H d v → Da K D' H' d v
  | _, _, .non => .non
  | _, _, .bl b => .bl b
  | _, _, .int i => .int i
  | _, _, .str y => .str y
  | _, _, .lst h1 h2 => .lst (h1.move x) (DaL.move x h2)
  | _, _, .tup h1 h2 => .tup (h1.move x) (DaL.move x h2)
  | _, _, .frz h1 h2 => .frz (h1.move x) (DaL.move x h2)
  | _, _, .dct n h1 h2 => .dct (NoD.move x n h1) (x.keep _ _ n h1) (DaK.move x h2)
  | _, _, .exc n h1 n2 h2 n4 h4 h3 => .exc (NoD.move x n h1) (x.keep _ _ n h1) (NoD.move x n2 h2) (x.keep _ _ n2 h2) (NoD.move x n4 h4) (x.keep _ _ n4 h4) (DaL.move x h3)
  | _, _, .cau n h1 h2 => .cau (NoD.move x n h1) (x.keep _ _ n h1) (Fds.move x h2)
  | _, _, .raw v => .raw v
theorem DaL.move (x : Ext D H D' H') : ∀ {ds : List Dt} {vs : List V}, DaL K D H ds vs → DaL K D' H' ds vs
  | _, _, .nil => .nil
  | _, _, .cons h1 h2 => .cons (Da.move x h1) (DaL.move x h2)
theorem DaK.move (x : Ext D H D' H') : ∀ {ds : List (Key × Dt)} {vs : List (Key × V)}, DaK K D H ds vs → DaK K D' H' ds vs
  | _, _, .nil => .nil
  | _, _, .cons h1 h2 => .cons (Da.move x h1) (DaK.move x h2)
theorem Fds.move (x : Ext D H D' H') : ∀ {fs : List (Str × Dt)} {vs : List (Str × V)}, Fds K D H fs vs → Fds K D' H' fs vs
  | _, _, .nil => .nil
  | _, _, .cons h1 h2 => .cons (Da.move x h1) (Fds.move x h2)
end
theorem Fds.look {K : PySem.W.Frag} {D : List Addr} {H : Hp} {f : Str} : ∀ {fs : List (Str × Dt)} {vs : List (Str × V)} {d : Dt}, Fds K D H fs vs → fs.lookup f = some d → ∃ v, vs.lookup f = some v ∧ Da K D H d v
  | _, _, _, .nil, e => by cases e
  | (g, d0) :: fs, (_, v0) :: vs, d, .cons h1 h2, e => by
    rw [List.lookup_cons] at e ⊢
    cases hb : f == g with
    | true => rw [hb] at e; cases e; exact ⟨v0, rfl, h1⟩
    | false => rw [hb] at e; exact Fds.look h2 e
theorem DaL.length : ∀ {ds : List Dt} {vs : List V}, DaL K D H ds vs → ds.length = vs.length
  | _, _, .nil => rfl
  | _, _, .cons _ h => by rw [List.length_cons, List.length_cons, DaL.length h]
theorem DaL.append : ∀ {ds es : List Dt} {vs us : List V}, DaL K D H ds vs → DaL K D H es us → DaL K D H (ds ++ es) (vs ++ us)
  | _, _, _, _, .nil, q => q
  | _, _, _, _, .cons h t, q => .cons h (DaL.append t q)
theorem DaL.get : ∀ {ds : List Dt} {vs : List V} {i : Nat} {d : Dt}, DaL K D H ds vs → ds[i]? = some d → ∃ v, vs[i]? = some v ∧ Da K D H d v
  | _, _, _, _, .nil, e => by simp at e
  | _, _, 0, _, .cons h _, e => by simp at e; subst e; exact ⟨_, rfl, h⟩
  | _, _, i + 1, d, .cons _ t, e => by
    obtain ⟨v, h1, h2⟩ := DaL.get (i := i) (d := d) t (by simpa using e)
    exact ⟨v, by simpa using h1, h2⟩
theorem DaL.getV : ∀ {ds : List Dt} {vs : List V} {i : Nat} {v : V}, DaL K D H ds vs → vs[i]? = some v → ∃ d, ds[i]? = some d ∧ Da K D H d v
  | _, _, _, _, .nil, e => by simp at e
  | _, _, 0, _, .cons h _, e => by simp at e; subst e; exact ⟨_, rfl, h⟩
  | _, _, i + 1, v, .cons _ t, e => by
    obtain ⟨d, h1, h2⟩ := DaL.getV (i := i) (v := v) t (by simpa using e)
    exact ⟨d, by simpa using h1, h2⟩
theorem DaL.take : ∀ {ds : List Dt} {vs : List V} (n : Nat), DaL K D H ds vs → DaL K D H (ds.take n) (vs.take n)
  | _, _, 0, _ => .nil
  | _, _, _ + 1, .nil => .nil
  | _, _, n + 1, .cons h t => .cons h (DaL.take n t)
theorem DaL.drop : ∀ {ds : List Dt} {vs : List V} (n : Nat), DaL K D H ds vs → DaL K D H (ds.drop n) (vs.drop n)
  | _, _, 0, h => h
  | _, _, _ + 1, .nil => .nil
  | _, _, n + 1, .cons _ t => DaL.drop n t
theorem DaL.set {d : Dt} {v : V} (q : Da K D H d v) : ∀ {ds : List Dt} {vs : List V} (i : Nat), DaL K D H ds vs → DaL K D H (ds.set i d) (vs.set i v)
  | _, _, _, .nil => .nil
  | _, _, 0, .cons _ t => .cons q t
  | _, _, i + 1, .cons h t => .cons h (DaL.set q i t)
end
def McOk (K : PySem.W.Frag) (D : List Addr) (H : Hp) (a : Addr) : Mc → Prop
  | .lst ds => ∃ xs, H a = some (.lst xs) ∧ DaL K D H ds xs
  | .ins C dx fs => ∃ vs, H a = some (.ins C dx vs) ∧ Fds K D H fs vs
/-- the store; Z: what is hidden and stands still -/
structure So (K : PySem.W.Frag) (Z : List Addr) (m : Mu) (H : Hp) : Prop where
  nd : (dom m).Nodup
  zs : ∀ a ∈ Z, H a ≠ none
  dj : ∀ a ∈ Z, a ∉ dom m
  ob : ∀ p ∈ m, McOk K (Z ++ dom m) H p.1 p.2
theorem McOk.there {K : PySem.W.Frag} {D : List Addr} {H : Hp} {a : Addr} {c : Mc} (h : McOk K D H a c) : H a ≠ none := by
  cases c with
  | lst ds => obtain ⟨xs, e, _⟩ := h; rw [e]; exact fun z => nomatch z
  | ins C dx fs => obtain ⟨vs, e, _⟩ := h; rw [e]; exact fun z => nomatch z
theorem So.there {K : PySem.W.Frag} {Z : List Addr} {m : Mu} {H : Hp} (s : So K Z m H) {a : Addr} (h : a ∈ Z ++ dom m) : H a ≠ none := by
  rcases List.mem_append.mp h with h | h
  · exact s.zs a h
  · obtain ⟨p, hp, rfl⟩ := List.mem_map.mp h
    exact (s.ob p hp).there
theorem So.fresh {K : PySem.W.Frag} {Z : List Addr} {m : Mu} {H : Hp} (s : So K Z m H) {p : Addr} (h : H p = none) : p ∉ Z ++ dom m := fun z => s.there z h
/-- the steps' relation -/
abbrev Go (m : Mu) (H : Hp) (m' : Mu) (H' : Hp) : Prop := Ext (dom m) H (dom m') H'
theorem Go.full {m m' : Mu} {H H' : Hp} (Z : List Addr) (x : Go m H m' H') : Ext (Z ++ dom m) H (Z ++ dom m') H' :=
  ⟨fun a o n e => x.keep a o (fun z => n (List.mem_append_right _ z)) e, fun a h => by
    rcases List.mem_append.mp h with h | h
    · exact .inl (List.mem_append_left _ h)
    · rcases x.new a h with q | q
      · exact .inl (List.mem_append_right _ q)
      · exact .inr q⟩
/-- a new thing beside -/
theorem So.laid {K : PySem.W.Frag} {Z : List Addr} {m : Mu} {H : Hp} {p : Addr} {o : HO} (s : So K Z m H) (h : H p = none) : So K Z m (upd H p o) := by
  have x : Go m H m (upd H p o) := Ext.fresh h
  refine ⟨s.nd, fun a ha => ?_, s.dj, fun q hq => ?_⟩
  · have hn : a ≠ p := fun z => s.zs a ha (by rw [z]; exact h)
    rw [upd_ne hn]
    exact s.zs a ha
  · have hn : q.1 ≠ p := fun z => (s.ob q hq).there (by rw [z]; exact h)
    have y := s.ob q hq
    cases e : q.2 with
    | lst ds =>
      rw [e] at y
      obtain ⟨xs, e1, e2⟩ := y
      exact ⟨xs, by rw [upd_ne hn]; exact e1, e2.move (x.full Z)⟩
    | ins C dx fs =>
      rw [e] at y
      obtain ⟨vs, e1, e2⟩ := y
      exact ⟨vs, by rw [upd_ne hn]; exact e1, e2.move (x.full Z)⟩
/-- the frame: what the slots hold -/
structure Rep (K : PySem.W.Frag) (Z : List Addr) (m : Mu) (H : Hp) (g : L2.St) (r : En) : Prop where
  so : So K Z m H
  len : g.length = r.length
  at' : ∀ (i : Nat) (d : Dt), r[i]? = some (some d) → ∃ v, g[i]? = some (some v) ∧ Da K (Z ++ dom m) H d v
theorem Rep.go {K : PySem.W.Frag} {Z : List Addr} {m m' : Mu} {H H' : Hp} {g : L2.St} {r : En} (h : Rep K Z m H g r) (x : Go m H m' H') (s : So K Z m' H') : Rep K Z m' H' g r :=
  ⟨s, h.len, fun i d e => by
    obtain ⟨v, h1, h2⟩ := h.at' i d e
    exact ⟨v, h1, h2.move (x.full Z)⟩⟩
theorem Rep.set {K : PySem.W.Frag} {Z : List Addr} {m : Mu} {H : Hp} {g : L2.St} {r : En} (h : Rep K Z m H g r) (i : Nat) {d : Dt} {v : V} (q : Da K (Z ++ dom m) H d v) : Rep K Z m H (g.set i (some v)) (r.set i (some d)) := by
  refine ⟨h.so, by rw [List.length_set, List.length_set]; exact h.len, fun j e hj => ?_⟩
  by_cases hij : i = j
  · subst hij
    by_cases hi : i < r.length
    · rw [List.getElem?_set_self hi] at hj
      cases hj
      exact ⟨v, List.getElem?_set_self (by rw [h.len]; exact hi), q⟩
    · rw [List.getElem?_eq_none (by simpa using hi)] at hj
      cases hj
  · rw [List.getElem?_set_ne hij] at hj
    rw [List.getElem?_set_ne hij]
    exact h.at' j e hj
theorem Rep.unset {K : PySem.W.Frag} {Z : List Addr} {m : Mu} {H : Hp} {g : L2.St} {r : En} (h : Rep K Z m H g r) (i : Nat) : Rep K Z m H (g.set i none) (r.set i none) := by
  refine ⟨h.so, by rw [List.length_set, List.length_set]; exact h.len, fun j e hj => ?_⟩
  by_cases hij : i = j
  · subst hij
    by_cases hi : i < r.length
    · rw [List.getElem?_set_self hi] at hj
      cases hj
    · rw [List.getElem?_eq_none (by simpa using hi)] at hj
      cases hj
  · rw [List.getElem?_set_ne hij] at hj
    rw [List.getElem?_set_ne hij]
    exact h.at' j e hj
end Dw
namespace Dw
open PySem PySem.Spec PyProof.Rows L2
abbrev Pd := Dt → Mu → Prop
/-- what is wanted of an exception: its class, its fields, the slots, the store -/
abbrev Xd := Value → List (Str × Dt) → En → Mu → Prop
def X0 : Xd := fun _ _ _ _ => False
/-! ### the weakest readings -/
def wE (X : Cx) (e : Expr) : TE := fun g H Q => ∀ (pins : List (Addr × Obj)) (s : Shared), Inv X pins g H s → wpAny (model X.prog X.w) X.A (eval e X.env) (EP X pins g Q) X.xe s
def wT (X : Cx) (e : Expr) : TT := fun g H Q => ∀ (pins : List (Addr × Obj)) (s : Shared), Inv X pins g H s → wpAny (model X.prog X.w) X.A (isTrue e X.env (eval e X.env)) (TP X pins g Q) X.xe s
def wA (X : Cx) (es : List Expr) : TA := fun g H Q => ∀ (pos : Pos) (pins : List (Addr × Obj)) (s : Shared), Inv X pins g H s → wpAny (model X.prog X.w) X.A (spliced (backTo pos (starEach es X.env))) (AP X pins g Q) X.xe s
def wS (X : Cx) (st : Stmt) : TS := fun D g H => ∀ (pins : List (Addr × Obj)) (s : Shared), Inv X pins g H s → wpAny (model X.prog X.w) X.A (exec st X.env) (SP X pins D) X.xe s
def wB (X : Cx) (st : List Stmt) : TS := fun D g H => ∀ (pins : List (Addr × Obj)) (s : Shared), Inv X pins g H s → wpAny (model X.prog X.w) X.A (execs st X.env) (SP X pins D) X.xe s
def wO (X : Cx) (f : Value → Value → Sem Value) : R2 := fun x y H Q => ∀ (pins : List (Addr × Obj)) (s : Shared) (g : L2.St), Inv X pins g H s → ∀ v u : Value, RelV x v → RelV y u → wpAny (model X.prog X.w) X.A (f v u) (EP X pins g Q) X.xe s
def wU (X : Cx) (f : Value → Sem Value) : V → Hp → VK → Prop := fun x H Q => ∀ (pins : List (Addr × Obj)) (s : Shared) (g : L2.St), Inv X pins g H s → ∀ v : Value, RelV x v → wpAny (model X.prog X.w) X.A (f v) (EP X pins g Q) X.xe s
def wC (X : Cx) (f : Value) : List V → Hp → VK → Prop := fun xs H Q => ∀ (pins : List (Addr × Obj)) (s : Shared) (g : L2.St), Inv X pins g H s → ∀ us : List Value, Vals xs us → wpAny (model X.prog X.w) X.A (call f us) (EP X pins g Q) X.xe s
section
variable {X : Cx}
theorem pe_w {e : Expr} : PE X e (wE X e) := ⟨fun pins s g H Q I h => h pins s I⟩
theorem pt_w {e : Expr} : PT X e (wT X e) := ⟨fun pins s g H Q I h => h pins s I⟩
theorem pa_w {es : List Expr} : PA X es (wA X es) := ⟨fun pos pins s g H Q I h => h pos pins s I⟩
theorem ps_w {st : Stmt} : PS X st (wS X st) := ⟨fun pins s g H D I h => h pins s I⟩
theorem pss_w {st : List Stmt} : PSs X st (wB X st) := ⟨fun pins s g H D I h => h pins s I⟩
theorem op_w {f : Value → Value → Sem Value} : OpR X f (wO X f) := fun pins s g H x y v u Q I rx ry h => h pins s g I v u rx ry
theorem un_w {f : Value → Sem Value} : UnR X f (wU X f) := fun pins s g H x v Q I rx h => h pins s g I v rx
theorem call_w {f : Value} : CallR X f (wC X f) := fun pins s g H xs us Q I r h => h pins s g I us r
theorem _root_.L2.PE.w {e : Expr} {t : TE} (h : PE X e t) {g : L2.St} {H : Hp} {Q : VK} (q : t g H Q) : wE X e g H Q := fun pins s I => h.run pins s g H Q I q
theorem _root_.L2.PT.w {e : Expr} {t : TT} (h : PT X e t) {g : L2.St} {H : Hp} {Q : Bool → Hp → Prop} (q : t g H Q) : wT X e g H Q := fun pins s I => h.run pins s g H Q I q
theorem _root_.L2.PA.w {e : List Expr} {t : TA} (h : PA X e t) {g : L2.St} {H : Hp} {Q : List V → Hp → Prop} (q : t g H Q) : wA X e g H Q := fun pos pins s I => h.run pos pins s g H Q I q
theorem _root_.L2.PS.w {e : Stmt} {t : TS} (h : PS X e t) {g : L2.St} {H : Hp} {D : Ends} (q : t D g H) : wS X e D g H := fun pins s I => h.run pins s g H D I q
theorem _root_.L2.PSs.w {e : List Stmt} {t : TS} (h : PSs X e t) {g : L2.St} {H : Hp} {D : Ends} (q : t D g H) : wB X e D g H := fun pins s I => h.run pins s g H D I q
end
/-! ### what stands behind -/
def NK (K : PySem.W.Frag) (Z : List Addr) (m : Mu) (H : Hp) (F : Pd) (Q : VK) : Prop := ∀ v H' d m', F d m' → Go m H m' H' → So K Z m' H' → Da K (Z ++ dom m') H' d v → Q v H'
def NB (K : PySem.W.Frag) (Z : List Addr) (m : Mu) (H : Hp) (F : Bool → Mu → Prop) (Q : Bool → Hp → Prop) : Prop := ∀ b H' m', F b m' → Go m H m' H' → So K Z m' H' → Q b H'
def NL (K : PySem.W.Frag) (Z : List Addr) (m : Mu) (H : Hp) (F : List Dt → Mu → Prop) (Q : List V → Hp → Prop) : Prop := ∀ vs H' ds m', F ds m' → Go m H m' H' → So K Z m' H' → DaL K (Z ++ dom m') H' ds vs → Q vs H'
def NX (K : PySem.W.Frag) (Z : List Addr) (m : Mu) (H : Hp) (E : Xd) (W : WX) : Prop := ∀ cls dx fs vs g' H' r' m', E cls fs r' m' → Go m H m' H' → Rep K Z m' H' g' r' → dx ∉ Z ++ dom m' → H' dx = some (.xd vs) → Fds K (Z ++ dom m') H' fs vs → W cls (some dx) g' H'
def NE (K : PySem.W.Frag) (Z : List Addr) (m : Mu) (H : Hp) (F : En → Mu → Prop) (Q : L2.St → Hp → Prop) : Prop := ∀ g' H' r' m', F r' m' → Go m H m' H' → Rep K Z m' H' g' r' → Q g' H'
section
variable {K : PySem.W.Frag} {Z : List Addr} {m m' : Mu} {H H' : Hp}
theorem NK.go {F : Pd} {Q : VK} (h : NK K Z m H F Q) (x : Go m H m' H') : NK K Z m' H' F Q := fun v H2 d m2 f y s a => h v H2 d m2 f (x.trans y) s a
theorem NB.go {F : Bool → Mu → Prop} {Q : Bool → Hp → Prop} (h : NB K Z m H F Q) (x : Go m H m' H') : NB K Z m' H' F Q := fun b H2 m2 f y s => h b H2 m2 f (x.trans y) s
theorem NL.go {F : List Dt → Mu → Prop} {Q : List V → Hp → Prop} (h : NL K Z m H F Q) (x : Go m H m' H') : NL K Z m' H' F Q := fun v H2 d m2 f y s a => h v H2 d m2 f (x.trans y) s a
theorem NX.go {E : Xd} {W : WX} (h : NX K Z m H E W) (x : Go m H m' H') : NX K Z m' H' E W := fun c d fs vs g2 H2 r2 m2 f y p n e q => h c d fs vs g2 H2 r2 m2 f (x.trans y) p n e q
theorem NE.go {F : En → Mu → Prop} {Q : L2.St → Hp → Prop} (h : NE K Z m H F Q) (x : Go m H m' H') : NE K Z m' H' F Q := fun g2 H2 r2 m2 f y p => h g2 H2 r2 m2 f (x.trans y) p
end
structure Pc where
  nx : En → Mu → Prop
  rt : Pd
  bk : En → Mu → Prop := fun _ _ => False
  ct : En → Mu → Prop := fun _ _ => False
  ex : Xd := X0
structure NP (K : PySem.W.Frag) (Z : List Addr) (m : Mu) (H : Hp) (P : Pc) (D : Ends) (W : WX) : Prop where
  nx : NE K Z m H P.nx D.nx
  rt : NK K Z m H P.rt D.rt
  bk : NE K Z m H P.bk D.bk
  ct : NE K Z m H P.ct D.ct
  ex : NX K Z m H P.ex W
theorem NP.go {K : PySem.W.Frag} {Z : List Addr} {m m' : Mu} {H H' : Hp} {P : Pc} {D : Ends} {W : WX} (h : NP K Z m H P D W) (x : Go m H m' H') : NP K Z m' H' P D W :=
  ⟨h.nx.go x, h.rt.go x, h.bk.go x, h.ct.go x, h.ex.go x⟩
/-! ### the judgements -/
structure LE (X : Cx) (e : Expr) (r : En) (m : Mu) (F : Pd) (E : Xd) : Prop where
  run : ∀ (Z : List Addr) (g : L2.St) (H : Hp) (Q : VK) (W : WX), Rep X.K Z m H g r → Takes X W → NK X.K Z m H F Q → NX X.K Z m H E W → wE X e g H Q
structure LT (X : Cx) (e : Expr) (r : En) (m : Mu) (F : Bool → Mu → Prop) (E : Xd) : Prop where
  run : ∀ (Z : List Addr) (g : L2.St) (H : Hp) (Q : Bool → Hp → Prop) (W : WX), Rep X.K Z m H g r → Takes X W → NB X.K Z m H F Q → NX X.K Z m H E W → wT X e g H Q
structure LA (X : Cx) (es : List Expr) (r : En) (m : Mu) (F : List Dt → Mu → Prop) (E : Xd) : Prop where
  run : ∀ (Z : List Addr) (g : L2.St) (H : Hp) (Q : List V → Hp → Prop) (W : WX), Rep X.K Z m H g r → Takes X W → NL X.K Z m H F Q → NX X.K Z m H E W → wA X es g H Q
structure LS (X : Cx) (st : Stmt) (r : En) (m : Mu) (P : Pc) : Prop where
  run : ∀ (Z : List Addr) (g : L2.St) (H : Hp) (D : Ends) (W : WX), Rep X.K Z m H g r → Takes X W → NP X.K Z m H P D W → wS X st D g H
structure LB (X : Cx) (st : List Stmt) (r : En) (m : Mu) (P : Pc) : Prop where
  run : ∀ (Z : List Addr) (g : L2.St) (H : Hp) (D : Ends) (W : WX), Rep X.K Z m H g r → Takes X W → NP X.K Z m H P D W → wB X st D g H
/-- an operation on two data; on one; a call with data -/
structure O2 (X : Cx) (f : Value → Value → Sem Value) (x y : Dt) (m : Mu) (F : Dt → Prop) : Prop where
  run : ∀ (Z : List Addr) (H : Hp) (vx vy : V) (Q : VK), So X.K Z m H → Da X.K (Z ++ dom m) H x vx → Da X.K (Z ++ dom m) H y vy → NK X.K Z m H (fun d m' => m' = m ∧ F d) Q → wO X f vx vy H Q
structure O1 (X : Cx) (f : Value → Sem Value) (x : Dt) (m : Mu) (F : Dt → Prop) : Prop where
  run : ∀ (Z : List Addr) (H : Hp) (vx : V) (Q : VK), So X.K Z m H → Da X.K (Z ++ dom m) H x vx → NK X.K Z m H (fun d m' => m' = m ∧ F d) Q → wU X f vx H Q
structure OC (X : Cx) (f : Value) (xs : List Dt) (m : Mu) (F : Pd) : Prop where
  run : ∀ (Z : List Addr) (H : Hp) (vs : List V) (Q : VK), So X.K Z m H → DaL X.K (Z ++ dom m) H xs vs → NK X.K Z m H F Q → wC X f vs H Q
/-- where one stands: room, no repr under way, the names -/
structure Gd (k : Nat) (N : List Str) (X : Cx) : Prop where
  room : Room k X.A
  gu : X.A.guards = some []
  calm : X.calm = true
  nd : N.Nodup
  hN : X.N = N
  po : PassesOwn (model X.prog X.w) X.A X.env X.xe
theorem Gd.mono {j k : Nat} {N : List Str} {X : Cx} (g : Gd k N X) (h : j ≤ k) : Gd j N X := ⟨g.room.mono h, g.gu, g.calm, g.nd, g.hN, g.po⟩
theorem Gd.hu {k : Nat} {N : List Str} {X : Cx} (g : Gd k N X) : X.A.units + 1 < cLine := hu_of g.room
theorem Gd.nd' {k : Nat} {N : List Str} {X : Cx} (g : Gd k N X) : X.N.Nodup := by rw [g.hN]; exact g.nd
/-- a name's slot -/
inductive At : List Str → En → Str → Dt → Prop
  | here {x : Str} {N : List Str} {d : Dt} {r : En} : At (x :: N) (some d :: r) x d
  | there {x y : Str} {N : List Str} {d : Dt} {o : Option Dt} {r : En} : At N r x d → At (y :: N) (o :: r) x d
theorem At.ix : ∀ {N : List Str} {r : En} {x : Str} {d : Dt}, At N r x d → ∃ i : Nat, N[i]? = some x ∧ r[i]? = some (some d)
  | _, _, _, _, .here => ⟨0, rfl, rfl⟩
  | _, _, _, _, .there h => by
    obtain ⟨i, h1, h2⟩ := h.ix
    exact ⟨i + 1, h1, h2⟩
/-- a name is stored -/
inductive Put : List Str → En → Str → (Dt → En) → Prop
  | here {x : Str} {N : List Str} {o : Option Dt} {r : En} : Put (x :: N) (o :: r) x (fun d => some d :: r)
  | there {x y : Str} {N : List Str} {o : Option Dt} {r : En} {f : Dt → En} : Put N r x f → Put (y :: N) (o :: r) x (fun d => o :: f d)
theorem Put.ix : ∀ {N : List Str} {r : En} {x : Str} {f : Dt → En}, Put N r x f → ∃ i : Nat, N[i]? = some x ∧ ∀ d, f d = r.set i (some d)
  | _, _, _, _, .here => ⟨0, rfl, fun _ => rfl⟩
  | _, _, _, _, .there h => by
    obtain ⟨i, h1, h2⟩ := h.ix
    exact ⟨i + 1, h1, fun d => congrArg (List.cons _) (h2 d)⟩
section
variable {X : Cx} {e a b c : Expr} {r : En} {m : Mu} {F : Pd} {E : Xd} {pos : Pos} {k : Nat} {N : List Str}
theorem LE.imp {F' : Pd} (h : LE X e r m F' E) (f : ∀ d m', F' d m' → F d m') : LE X e r m F E :=
  ⟨fun Z g H Q W rp tk nk nx => h.run Z g H Q W rp tk (fun v H' d m' q => nk v H' d m' (f d m' q)) nx⟩
theorem LE.exc {E' : Xd} (h : LE X e r m F E') (f : ∀ c fs r' m', E' c fs r' m' → E c fs r' m') : LE X e r m F E :=
  ⟨fun Z g H Q W rp tk nk nx => h.run Z g H Q W rp tk nk (fun cl d fs vs g2 H2 r2 m2 q => nx cl d fs vs g2 H2 r2 m2 (f cl fs r2 m2 q))⟩
theorem le_name {x : Str} {d : Dt} (g : Gd k N X) (h : At N r x d) (q : F d m) (hv : Vis X.env.scope x := by first | exact Or.inl rfl | exact Or.inr (Or.inl rfl) | exact Or.inr (Or.inr rfl))
    (hd : (x == ("__debug__" : Str)) = false := by decide) (hcd : (x == ("__classdict__" : Str)) = false := by decide) : LE X (.Name x pos) r m F E := by
  refine ⟨fun Z st H Q W rp tk nk nx => ?_⟩
  obtain ⟨i, h1, h2⟩ := h.ix
  obtain ⟨v, h3, h4⟩ := rp.at' i d h2
  exact (pe_var (i := i) (by rw [g.hN]; exact h1) hv hd hcd).w ⟨v, h3, nk v H d m q Ext.rfl' rp.so h4⟩
theorem le_int {i : Int} {j} (q : F (.int i) m) : LE X (.Constant (.int i) j pos) r m F E := ⟨fun Z st H Q W rp tk nk nx => (pe_int).w (nk _ H _ m q Ext.rfl' rp.so (.int i))⟩
theorem le_str {i : Str} {j} (q : F (.str i) m) : LE X (.Constant (.str i) j pos) r m F E := ⟨fun Z st H Q W rp tk nk nx => (pe_str).w (nk _ H _ m q Ext.rfl' rp.so (.str i))⟩
theorem le_bl {i : Bool} {j} (q : F (.bl i) m) : LE X (.Constant (.bool i) j pos) r m F E := ⟨fun Z st H Q W rp tk nk nx => (pe_bl).w (nk _ H _ m q Ext.rfl' rp.so (.bl i))⟩
theorem le_non {j} (q : F .non m) : LE X (.Constant .none j pos) r m F E := ⟨fun Z st H Q W rp tk nk nx => (pe_non).w (nk _ H _ m q Ext.rfl' rp.so .non)⟩
/-- a module's name -/
theorem le_glob {x : Str} {v : V} {u : Value} {d : Dt} (hm : X.mg x = some u) (rv : RelV v u) (hd : ∀ D H, Da X.K D H d v) (q : F d m) (hg : Gl X x := by rfl) (hdb : (x == ("__debug__" : Str)) = false := by decide) : LE X (.Name x pos) r m F E :=
  ⟨fun Z st H Q W rp tk nk nx => (pe_glob hg hm rv hdb).w (nk _ H _ m q Ext.rfl' rp.so (hd _ _))⟩
/-- a built-in's name as a value -/
theorem le_bltn {x : Str} {v : V} {u : Value} (hm : X.mg x = none) (hv : bootBuiltins x = some u) (rv : RelV v u) (q : F (.raw v) m) (hg : Gl X x := by rfl) (hn : x ≠ "__name__" := by decide) (hdb : (x == ("__debug__" : Str)) = false := by decide) : LE X (.Name x pos) r m F E :=
  ⟨fun Z st H Q W rp tk nk nx => (pe_bltn hg hm hv rv hn hdb).w (nk _ H _ m q Ext.rfl' rp.so (.raw v))⟩
theorem le_bin {op : Operator} (h : LE X a r m (fun x m1 => LE X b r m1 (fun y m2 => O2 X (binaryOp op) x y m2 (fun d => F d m2)) E) E) : LE X (.BinOp a op b pos) r m F E := by
  refine ⟨fun Z st H Q W rp tk nk nx => (pe_op op_w pe_w pe_w).w ?_⟩
  refine h.run Z st H _ W rp tk (fun v H1 d m1 q go so da => ?_) nx
  refine q.run Z st H1 _ W (rp.go go so) tk (fun v2 H2 d2 m2 q2 go2 so2 da2 => ?_) (nx.go go)
  refine q2.run Z H2 v v2 Q so2 (da.move (go2.full Z)) da2 (fun v3 H3 d3 m3 q3 go3 so3 da3 => ?_)
  obtain ⟨rfl, q3⟩ := q3
  exact nk v3 H3 d3 m3 q3 ((go.trans go2).trans go3) so3 da3
theorem le_un {op : UnaryOp} (h : LE X a r m (fun x m1 => O1 X (unaryOp op) x m1 (fun d => F d m1)) E) : LE X (.UnaryOp op a pos) r m F E := by
  refine ⟨fun Z st H Q W rp tk nk nx => (pe_un un_w pe_w).w ?_⟩
  refine h.run Z st H _ W rp tk (fun v H1 d m1 q go so da => ?_) nx
  refine q.run Z H1 v Q so da (fun v3 H3 d3 m3 q3 go3 so3 da3 => ?_)
  obtain ⟨rfl, q3⟩ := q3
  exact nk v3 H3 d3 m3 q3 (go.trans go3) so3 da3
theorem le_cmp {op : CmpOp} (h : LE X a r m (fun x m1 => LE X b r m1 (fun y m2 => O2 X (compareOp op) x y m2 (fun d => F d m2)) E) E) (hb : behindInMarks op b = false := by first | exact nobehind _ (by decide) (by decide) | rfl) : LE X (.Compare a [op] [b] pos) r m F E := by
  refine ⟨fun Z st H Q W rp tk nk nx => (pe_cmpR op_w pe_w pe_w hb).w ?_⟩
  refine h.run Z st H _ W rp tk (fun v H1 d m1 q go so da => ?_) nx
  refine q.run Z st H1 _ W (rp.go go so) tk (fun v2 H2 d2 m2 q2 go2 so2 da2 => ?_) (nx.go go)
  refine q2.run Z H2 v v2 Q so2 (da.move (go2.full Z)) da2 (fun v3 H3 d3 m3 q3 go3 so3 da3 => ?_)
  obtain ⟨rfl, q3⟩ := q3
  exact nk v3 H3 d3 m3 q3 ((go.trans go2).trans go3) so3 da3
end
end Dw
namespace Dw
open PySem PySem.Spec PyProof.Rows L2
/-! ### truth -/
def Tru : Dt → Bool → Prop
  | .non, k => k = false
  | .bl b, k => k = b
  | .int i, k => k = (i != 0)
  | .str x, k => x.length ≤ sizeLine ∧ k = ((x.length : Int) != 0)
  | .lst ds, k => k = !ds.isEmpty
  | .tup ds, k => k = !ds.isEmpty
  | .frz ds, k => k = !ds.isEmpty
  | .dct ds, k => k = !ds.isEmpty
  | .exc _ _ _, _ => False
  | .cau _ _ _, _ => False
  | .raw _, _ => False
theorem isEmpty_da {K : PySem.W.Frag} {D : List Addr} {H : Hp} {ds : List Dt} {vs : List V} (h : DaL K D H ds vs) : ds.isEmpty = vs.isEmpty := by
  cases h <;> rfl
theorem isEmpty_dk {K : PySem.W.Frag} {D : List Addr} {H : Hp} {ds : List (Key × Dt)} {vs : List (Key × V)} (h : DaK K D H ds vs) : ds.isEmpty = vs.isEmpty := by
  cases h <;> rfl
theorem Tru.v {K : PySem.W.Frag} {D : List Addr} {H : Hp} {d : Dt} {v : V} {k : Bool} (h : Da K D H d v) (t : Tru d k) : TruV K v H k := by
  cases h with
  | non => exact t
  | bl b => exact t
  | int i => exact t
  | str x => exact t
  | lst h1 h2 => exact .inl ⟨_, h1.sq, by rw [← isEmpty_da h2]; exact t⟩
  | tup h1 h2 => exact .inr (.inl ⟨_, h1.sq, by rw [← isEmpty_da h2]; exact t⟩)
  | frz h1 h2 => exact .inl ⟨_, h1.sq, by rw [← isEmpty_da h2]; exact t⟩
  | dct n h1 h2 => exact .inr (.inr ⟨_, h1, by rw [← isEmpty_dk h2]; exact t⟩)
  | exc n h1 n2 h2 n4 h4 h3 => exact t.elim
  | cau n h1 h2 => exact t.elim
  | raw v => exact t.elim
section
variable {X : Cx} {e a b c : Expr} {es rest : List Expr} {r : En} {m : Mu} {F : Pd} {B : Bool → Mu → Prop} {E : Xd} {pos : Pos} {k : Nat} {N : List Str}
theorem lt_cmp {op : CmpOp} (h : LE X a r m (fun x m1 => LE X b r m1 (fun y m2 => O2 X (compareOp op) x y m2 (fun d => ∃ c, d = .bl c ∧ B c m2)) E) E) (hb : behindInMarks op b = false := by first | exact nobehind _ (by decide) (by decide) | rfl) : LT X (.Compare a [op] [b] pos) r m B E := by
  refine ⟨fun Z st H Q W rp tk nk nx => (pt_cmpR op_w pe_w pe_w hb).w ?_⟩
  refine h.run Z st H _ W rp tk (fun v H1 d m1 q go so da => ?_) nx
  refine q.run Z st H1 _ W (rp.go go so) tk (fun v2 H2 d2 m2 q2 go2 so2 da2 => ?_) (nx.go go)
  refine q2.run Z H2 v v2 _ so2 (da.move (go2.full Z)) da2 (fun v3 H3 d3 m3 q3 go3 so3 da3 => ?_)
  obtain ⟨rfl, c, rfl, q3⟩ := q3
  cases da3
  exact ⟨c, rfl, nk c H3 m3 q3 ((go.trans go2).trans go3) so3⟩
theorem le_chain {op op' : CmpOp} (h : LE X a r m (fun x m1 => LE X b r m1 (fun y m2 => O2 X (compareOp op) x y m2 (fun d => ∃ c', d = .bl c' ∧ if c' = true then LE X c r m2 (fun z m3 => O2 X (compareOp op') y z m3 (fun d => F d m3)) E else F (.bl false) m2)) E) E)
    (hm : lastMarks [op, op'] [b, c] = false := by with_unfolding_all rfl) : LE X (.Compare a [op, op'] [b, c] pos) r m F E := by
  refine ⟨fun Z st H Q W rp tk nk nx => (pe_chain op_w op_w pe_w pe_w pe_w hm).w ?_⟩
  refine h.run Z st H _ W rp tk (fun v H1 d m1 q go so da => ?_) nx
  refine q.run Z st H1 _ W (rp.go go so) tk (fun v2 H2 d2 m2 q2 go2 so2 da2 => ?_) (nx.go go)
  refine q2.run Z H2 v v2 _ so2 (da.move (go2.full Z)) da2 (fun v3 H3 d3 m3 q3 go3 so3 da3 => ?_)
  obtain ⟨rfl, c, rfl, q3⟩ := q3
  cases da3
  refine ⟨c, rfl, ?_⟩
  have g3 := (go.trans go2).trans go3
  cases c with
  | true =>
    have q4 : LE X _ r _ _ E := q3
    refine q4.run Z st H3 _ W (rp.go g3 so3) tk (fun v5 H5 d5 m5 q5 go5 so5 da5 => ?_) (nx.go g3)
    refine q5.run Z H5 v2 v5 Q so5 (da2.move (Go.full Z (go3.trans go5))) da5 (fun v6 H6 d6 m6 q6 go6 so6 da6 => ?_)
    obtain ⟨rfl, q6⟩ := q6
    exact nk v6 H6 d6 m6 q6 ((g3.trans go5).trans go6) so6 da6
  | false => exact nk _ H3 _ _ q3 g3 so3 (.bl false)
/-- a plain expression as a test -/
theorem lt_val (h : LE X e r m (fun d m1 => ∃ k, Tru d k ∧ B k m1) E) (he : ∀ whole, isTrue e X.env whole = (do let v ← whole; standAt e.pos; holding [v] (truthy v)) := by intro _; rfl) : LT X e r m B E := by
  refine ⟨fun Z st H Q W rp tk nk nx => (pt_truth pe_w he).w ?_⟩
  refine h.run Z st H _ W rp tk (fun v H1 d m1 q go so da => ?_) nx
  obtain ⟨k, t, q⟩ := q
  exact ⟨k, t.v da, nk k H1 m1 q go so⟩
theorem lt_not (h : LT X a r m (fun k m1 => B (!k) m1) E) : LT X (.UnaryOp .Not a pos) r m B E :=
  ⟨fun Z st H Q W rp tk nk nx => (pt_not pt_w).w (h.run Z st H _ W rp tk (fun k H1 m1 q go so => nk (!k) H1 m1 q go so) nx)⟩
/-- and, or as tests -/
structure LW (X : Cx) (e : Expr) (r : En) (m : Mu) (F : Bool → Mu → Prop) (E : Xd) : Prop where
  run : ∀ (Z : List Addr) (g : L2.St) (H : Hp) (Q : Bool → Hp → Prop) (W : WX), Rep X.K Z m H g r → Takes X W → NB X.K Z m H F Q → NX X.K Z m H E W →
    ∀ (whole : Sem Value) (pins : List (Addr × Obj)) (s : Shared), Inv X pins g H s → wpAny (model X.prog X.w) X.A (isTrue e X.env whole) (TP X pins g Q) X.xe s
theorem lt_w (h : LW X e r m B E) : LT X e r m B E := ⟨fun Z st H Q W rp tk nk nx pins s I => h.run Z st H Q W rp tk nk nx _ pins s I⟩
def wW (X : Cx) (e : Expr) : TT := fun g H Q => ∀ (whole : Sem Value) (pins : List (Addr × Obj)) (s : Shared), Inv X pins g H s → wpAny (model X.prog X.w) X.A (isTrue e X.env whole) (TP X pins g Q) X.xe s
theorem pw_w : PW X e (wW X e) := ⟨fun wh pins s g H Q I h => h wh pins s I⟩
theorem lw_and1 (h : LT X a r m B E) : LW X (.BoolOp .And [a] pos) r m B E :=
  ⟨fun Z st H Q W rp tk nk nx wh pins s I => (pw_and1 pt_w).run wh pins s st H Q I (h.run Z st H Q W rp tk nk nx)⟩
theorem lw_or1 (h : LT X a r m B E) : LW X (.BoolOp .Or [a] pos) r m B E :=
  ⟨fun Z st H Q W rp tk nk nx wh pins s I => (pw_or1 pt_w).run wh pins s st H Q I (h.run Z st H Q W rp tk nk nx)⟩
theorem lw_and (h : LT X a r m (fun k m1 => if k = true then LW X (.BoolOp .And (b :: rest) pos) r m1 B E else B false m1) E) : LW X (.BoolOp .And (a :: b :: rest) pos) r m B E := by
  refine ⟨fun Z st H Q W rp tk nk nx wh pins s I => (pw_and pt_w pw_w).run wh pins s st H Q I ?_⟩
  refine h.run Z st H _ W rp tk (fun k H1 m1 q go so => ?_) nx
  cases k with
  | true =>
    have q' : LW X _ r m1 B E := q
    exact q'.run Z st H1 Q W (rp.go go so) tk (nk.go go) (nx.go go)
  | false => exact nk false H1 m1 q go so
theorem lw_or (h : LT X a r m (fun k m1 => if k = true then B true m1 else LW X (.BoolOp .Or (b :: rest) pos) r m1 B E) E) : LW X (.BoolOp .Or (a :: b :: rest) pos) r m B E := by
  refine ⟨fun Z st H Q W rp tk nk nx wh pins s I => (pw_or pt_w pw_w).run wh pins s st H Q I ?_⟩
  refine h.run Z st H _ W rp tk (fun k H1 m1 q go so => ?_) nx
  cases k with
  | false =>
    have q' : LW X _ r m1 B E := q
    exact q'.run Z st H1 Q W (rp.go go so) tk (nk.go go) (nx.go go)
  | true => exact nk true H1 m1 q go so
/-- and, or, not as values -/
theorem le_one {op} (h : LE X a r m F E) : LE X (.BoolOp op [a] pos) r m F E := ⟨fun Z st H Q W rp tk nk nx => (pe_one pe_w).w (h.run Z st H Q W rp tk nk nx)⟩
theorem le_and (h : LE X a r m (fun d m1 => ∃ k, Tru d k ∧ if k = true then LE X (.BoolOp .And (b :: rest) pos) r m1 F E else F d m1) E) : LE X (.BoolOp .And (a :: b :: rest) pos) r m F E := by
  refine ⟨fun Z st H Q W rp tk nk nx => (pe_andT pe_w pe_w).w ?_⟩
  refine h.run Z st H _ W rp tk (fun v H1 d m1 q go so da => ?_) nx
  obtain ⟨k, t, q⟩ := q
  refine ⟨k, t.v da, ?_⟩
  cases k with
  | true =>
    have q' : LE X _ r m1 F E := q
    exact q'.run Z st H1 Q W (rp.go go so) tk (nk.go go) (nx.go go)
  | false => exact nk v H1 d m1 q go so da
theorem le_or (h : LE X a r m (fun d m1 => ∃ k, Tru d k ∧ if k = true then F d m1 else LE X (.BoolOp .Or (b :: rest) pos) r m1 F E) E) : LE X (.BoolOp .Or (a :: b :: rest) pos) r m F E := by
  refine ⟨fun Z st H Q W rp tk nk nx => (pe_orT pe_w pe_w).w ?_⟩
  refine h.run Z st H _ W rp tk (fun v H1 d m1 q go so da => ?_) nx
  obtain ⟨k, t, q⟩ := q
  refine ⟨k, t.v da, ?_⟩
  cases k with
  | false =>
    have q' : LE X _ r m1 F E := q
    exact q'.run Z st H1 Q W (rp.go go so) tk (nk.go go) (nx.go go)
  | true => exact nk v H1 d m1 q go so da
theorem le_not (h : LE X a r m (fun d m1 => ∃ k, Tru d k ∧ F (.bl (!k)) m1) E) : LE X (.UnaryOp .Not a pos) r m F E := by
  refine ⟨fun Z st H Q W rp tk nk nx => (pe_notT pe_w).w ?_⟩
  refine h.run Z st H _ W rp tk (fun v H1 d m1 q go so da => ?_) nx
  obtain ⟨k, t, q⟩ := q
  exact ⟨k, t.v da, nk _ H1 _ m1 q go so (.bl _)⟩
theorem le_ife (h : LT X c r m (fun k m1 => if k = true then LE X a r m1 F E else LE X b r m1 F E) E) : LE X (.IfExp c a b pos) r m F E := by
  refine ⟨fun Z st H Q W rp tk nk nx => (pe_ifExp pt_w pe_w pe_w).w ?_⟩
  refine h.run Z st H _ W rp tk (fun k H1 m1 q go so => ?_) nx
  cases k with
  | true =>
    have q' : LE X _ r m1 F E := q
    exact q'.run Z st H1 Q W (rp.go go so) tk (nk.go go) (nx.go go)
  | false =>
    have q' : LE X _ r m1 F E := q
    exact q'.run Z st H1 Q W (rp.go go so) tk (nk.go go) (nx.go go)
/-! ### argument lists, displays -/
theorem la_nil {L : List Dt → Mu → Prop} (q : L [] m) : LA X [] r m L E := ⟨fun Z st H Q W rp tk nk nx => (pa_nil).w (nk [] H [] m q Ext.rfl' rp.so .nil)⟩
theorem la_cons {L : List Dt → Mu → Prop} (h : LE X e r m (fun d m1 => LA X es r m1 (fun ds m2 => L (d :: ds) m2) E) E) (hs : starEach (e :: es) X.env = (false, eval e X.env) :: starEach es X.env := by rfl) : LA X (e :: es) r m L E := by
  refine ⟨fun Z st H Q W rp tk nk nx => (pa_cons pe_w pa_w hs).w ?_⟩
  refine h.run Z st H _ W rp tk (fun v H1 d m1 q go so da => ?_) nx
  refine q.run Z st H1 _ W (rp.go go so) tk (fun vs H2 ds m2 q2 go2 so2 da2 => ?_) (nx.go go)
  exact nk (v :: vs) H2 (d :: ds) m2 q2 (go.trans go2) so2 (.cons (da.move (go2.full Z)) da2)
theorem da_new_tup {K : PySem.W.Frag} {Z : List Addr} {m : Mu} {H : Hp} {p : Addr} {ds : List Dt} {vs : List V} (so : So K Z m H) (hp : H p = none) (h : DaL K (Z ++ dom m) H ds vs) : Da K (Z ++ dom m) (upd H p (.tup vs)) (.tup ds) (.ref p) :=
  .tup (.inl ⟨so.fresh hp, upd_same⟩) (h.move (Ext.fresh hp))
theorem da_new_lst {K : PySem.W.Frag} {Z : List Addr} {m : Mu} {H : Hp} {p : Addr} {ds : List Dt} {vs : List V} (so : So K Z m H) (hp : H p = none) (h : DaL K (Z ++ dom m) H ds vs) : Da K (Z ++ dom m) (upd H p (.lst vs)) (.lst ds) (.ref p) :=
  .lst ⟨so.fresh hp, upd_same⟩ (h.move (Ext.fresh hp))
theorem le_tup {x1} (h : LA X es r m (fun ds m1 => ds.length ≤ sizeLine ∧ F (.tup ds) m1) E) : LE X (.Tuple es x1 pos) r m F E := by
  refine ⟨fun Z st H Q W rp tk nk nx => (pe_tup pa_w).w ?_⟩
  refine h.run Z st H _ W rp tk (fun vs H1 ds m1 q go so da => ?_) nx
  exact ⟨by rw [← da.length]; exact q.1, fun p hp => nk _ _ _ m1 q.2 (go.trans (Ext.fresh hp)) (so.laid hp) (da_new_tup so hp da)⟩
theorem le_lst (h : LA X es r m (fun ds m1 => ds.length ≤ sizeLine ∧ F (.lst ds) m1) E) : LE X (.List es pos) r m F E := by
  refine ⟨fun Z st H Q W rp tk nk nx => (pe_lst pa_w).w ?_⟩
  refine h.run Z st H _ W rp tk (fun vs H1 ds m1 q go so da => ?_) nx
  exact ⟨by rw [← da.length]; exact q.1, fun p hp => nk _ _ _ m1 q.2 (go.trans (Ext.fresh hp)) (so.laid hp) (da_new_lst so hp da)⟩
/-- a new list that will change -/
theorem le_mut (h : LA X es r m (fun ds m1 => ds.length ≤ sizeLine ∧ ∀ p, p ∉ dom m1 → F (.raw (.ref p)) ((p, .lst ds) :: m1)) E) : LE X (.List es pos) r m F E := by
  refine ⟨fun Z st H Q W rp tk nk nx => (pe_lst pa_w).w ?_⟩
  refine h.run Z st H _ W rp tk (fun vs H1 ds m1 q go so da => ?_) nx
  refine ⟨by rw [← da.length]; exact q.1, fun p hp => ?_⟩
  have nf := so.fresh hp
  have np : p ∉ dom m1 := fun z => nf (List.mem_append_right _ z)
  have g1 : Go m1 H1 ((p, .lst ds) :: m1) (upd H1 p (.lst vs)) := ⟨(Ext.fresh (D := dom m1) hp).keep, fun a ha => by
    rcases List.mem_cons.mp ha with z | z
    · exact .inr (z ▸ hp)
    · exact .inl z⟩
  have s1 := so.laid (o := .lst vs) hp
  refine nk _ _ _ _ (q.2 p np) (go.trans g1) ⟨List.nodup_cons.mpr ⟨np, so.nd⟩, s1.zs, fun a ha z => ?_, fun y hy => ?_⟩ (.raw _)
  · rcases List.mem_cons.mp z with z | z
    · exact so.zs a ha (by rw [z]; exact hp)
    · exact so.dj a ha z
  · rcases List.mem_cons.mp hy with z | z
    · subst z
      exact ⟨vs, upd_same, da.move (g1.full Z)⟩
    · have y1 := so.ob y z
      have hn : y.1 ≠ p := fun w => y1.there (by rw [w]; exact hp)
      cases e2 : y.2 with
      | lst es2 =>
        rw [e2] at y1
        obtain ⟨xs, e1, e3⟩ := y1
        exact ⟨xs, by rw [upd_ne hn]; exact e1, e3.move (g1.full Z)⟩
      | ins C dx fs =>
        rw [e2] at y1
        obtain ⟨xs, e1, e3⟩ := y1
        exact ⟨xs, by rw [upd_ne hn]; exact e1, e3.move (g1.full Z)⟩
/-! ### items, slices -/
def wI (X : Cx) : R2 := fun x y H Q => ∀ (value slice : Expr) (pins : List (Addr × Obj)) (s : Shared) (g : L2.St) (v u : Value), Inv X pins g H s → RelV x v → RelV y u →
    subscripted slice false v u = operate [v, u] (getItem v u) → wpAny (model X.prog X.w) X.A (subscriptTail value slice v u) (EP X pins g Q) X.xe s
theorem ix_w : IxR X (wI X) := fun value slice pins s g H x y v u Q I rx ry h hs => h value slice pins s g v u I rx ry hs
structure OI (X : Cx) (x y : Dt) (m : Mu) (F : Dt → Prop) : Prop where
  run : ∀ (Z : List Addr) (H : Hp) (vx vy : V) (Q : VK), So X.K Z m H → Da X.K (Z ++ dom m) H x vx → Da X.K (Z ++ dom m) H y vy → NK X.K Z m H (fun d m' => m' = m ∧ F d) Q → wI X vx vy H Q
theorem le_ix (h : LE X a r m (fun x m1 => LE X b r m1 (fun y m2 => OI X x y m2 (fun d => F d m2)) E) E) (hs : PlainIx b := by intro _ _; rfl) : LE X (.Subscript a b pos) r m F E := by
  refine ⟨fun Z st H Q W rp tk nk nx => (pe_ix ix_w pe_w pe_w hs).w ?_⟩
  refine h.run Z st H _ W rp tk (fun v H1 d m1 q go so da => ?_) nx
  refine q.run Z st H1 _ W (rp.go go so) tk (fun v2 H2 d2 m2 q2 go2 so2 da2 => ?_) (nx.go go)
  refine q2.run Z H2 v v2 Q so2 (da.move (go2.full Z)) da2 (fun v3 H3 d3 m3 q3 go3 so3 da3 => ?_)
  obtain ⟨rfl, q3⟩ := q3
  exact nk v3 H3 d3 m3 q3 ((go.trans go2).trans go3) so3 da3
theorem oi_of {R : R2} {x y : Dt} {G : Dt → Prop} (h : IxR X R) (q : ∀ (Z : List Addr) (H : Hp) (vx vy : V) (Q : VK), So X.K Z m H → Da X.K (Z ++ dom m) H x vx → Da X.K (Z ++ dom m) H y vy → NK X.K Z m H (fun d m' => m' = m ∧ G d) Q → R vx vy H Q) : OI X x y m G :=
  ⟨fun Z H vx vy Q so dx dy nk value slice pins s g v u I rx ry hs => h value slice pins s g H vx vy v u Q I rx ry (q Z H vx vy Q so dx dy nk) hs⟩
theorem o2_of {R : R2} {f : Value → Value → Sem Value} {x y : Dt} {G : Dt → Prop} (h : OpR X f R) (q : ∀ (Z : List Addr) (H : Hp) (vx vy : V) (Q : VK), So X.K Z m H → Da X.K (Z ++ dom m) H x vx → Da X.K (Z ++ dom m) H y vy → NK X.K Z m H (fun d m' => m' = m ∧ G d) Q → R vx vy H Q) : O2 X f x y m G :=
  ⟨fun Z H vx vy Q so dx dy nk pins s g I v u rx ry => h pins s g H vx vy v u Q I rx ry (q Z H vx vy Q so dx dy nk)⟩
theorem o1_of {R : V → Hp → VK → Prop} {f : Value → Sem Value} {x : Dt} {G : Dt → Prop} (h : UnR X f R) (q : ∀ (Z : List Addr) (H : Hp) (vx : V) (Q : VK), So X.K Z m H → Da X.K (Z ++ dom m) H x vx → NK X.K Z m H (fun d m' => m' = m ∧ G d) Q → R vx H Q) : O1 X f x m G :=
  ⟨fun Z H vx Q so dx nk pins s g I v rx => h pins s g H vx v Q I rx (q Z H vx Q so dx nk)⟩
theorem oc_of {R : List V → Hp → VK → Prop} {f : Value} {xs : List Dt} {G : Pd} (h : CallR X f R) (q : ∀ (Z : List Addr) (H : Hp) (vs : List V) (Q : VK), So X.K Z m H → DaL X.K (Z ++ dom m) H xs vs → NK X.K Z m H G Q → R vs H Q) : OC X f xs m G :=
  ⟨fun Z H vs Q so da nk pins s g I us rv => h pins s g H vs us Q I rv (q Z H vs Q so da nk)⟩
theorem at_da {K : PySem.W.Frag} {D : List Addr} {H : Hp} {ds : List Dt} {vs : List V} {i : Int} {d : Dt} (h : DaL K D H ds vs) (e : atI ds i = some d) : ∃ v, atI vs i = some v ∧ Da K D H d v := by
  unfold atI at e ⊢
  rw [← h.length]
  cases e1 : ixN ds.length i with
  | none => rw [e1] at e; cases e
  | some j =>
    rw [e1] at e
    exact h.get (show ds[j]? = some d from e)
theorem oi_lst {ds : List Dt} {i : Int} {d : Dt} {G : Dt → Prop} (h : atI ds i = some d) (q : G d) : OI X (.lst ds) (.int i) m G :=
  oi_of ix_list fun Z H vx vy Q so dx dy nk => by
    cases dx with
    | lst h1 h2 =>
      cases dy
      obtain ⟨v, e, hv⟩ := at_da h2 h
      exact ⟨_, _, i, v, rfl, rfl, h1.sq, e, nk v H d m ⟨rfl, q⟩ Ext.rfl' so hv⟩
theorem oi_frz {ds : List Dt} {i : Int} {d : Dt} {G : Dt → Prop} (h : atI ds i = some d) (q : G d) : OI X (.frz ds) (.int i) m G :=
  oi_of ix_list fun Z H vx vy Q so dx dy nk => by
    cases dx with
    | frz h1 h2 =>
      cases dy
      obtain ⟨v, e, hv⟩ := at_da h2 h
      exact ⟨_, _, i, v, rfl, rfl, h1.sq, e, nk v H d m ⟨rfl, q⟩ Ext.rfl' so hv⟩
theorem oi_tup {ds : List Dt} {i : Int} {d : Dt} {G : Dt → Prop} (h : atI ds i = some d) (q : G d) : OI X (.tup ds) (.int i) m G :=
  oi_of ix_tup fun Z H vx vy Q so dx dy nk => by
    cases dx with
    | tup h1 h2 =>
      cases dy
      obtain ⟨v, e, hv⟩ := at_da h2 h
      exact ⟨_, _, i, v, rfl, rfl, h1.sq, e, nk v H d m ⟨rfl, q⟩ Ext.rfl' so hv⟩
theorem oi_str {x : Str} {i : Int} {c : Nat} {G : Dt → Prop} (hz : x.length ≤ sizeLine) (h : atI x.cps.toList i = some c) (q : G (.str ⟨#[c]⟩)) : OI X (.str x) (.int i) m G :=
  oi_of ix_str fun Z H vx vy Q so dx dy nk => by
    cases dx
    cases dy
    exact ⟨x, i, c, rfl, rfl, hz, h, nk _ H _ m ⟨rfl, q⟩ Ext.rfl' so (.str _)⟩
/-- an item of a thing of the store -/
theorem So.lst_of {K : PySem.W.Frag} {Z : List Addr} {m : Mu} {H : Hp} (so : So K Z m H) {a : Addr} {ds : List Dt} (h : (a, Mc.lst ds) ∈ m) : ∃ xs, H a = some (.lst xs) ∧ DaL K (Z ++ dom m) H ds xs := so.ob _ h
theorem oi_mut {p : Addr} {ds : List Dt} {i : Int} {d : Dt} {G : Dt → Prop} (hm : (p, Mc.lst ds) ∈ m) (h : atI ds i = some d) (q : G d) : OI X (.raw (.ref p)) (.int i) m G :=
  oi_of ix_list fun Z H vx vy Q so dx dy nk => by
    cases dx
    cases dy
    obtain ⟨xs, e1, e2⟩ := so.lst_of hm
    obtain ⟨v, e, hv⟩ := at_da e2 h
    exact ⟨_, _, i, v, rfl, rfl, SqL.of e1, e, nk v H d m ⟨rfl, q⟩ Ext.rfl' so hv⟩
end
end Dw
namespace Dw
open PySem PySem.Spec PyProof.Rows L2
/-- a thing of the store is changed -/
def put (p : Addr) (c : Mc) (m : Mu) : Mu := m.map fun q => if q.1 = p then (p, c) else q
theorem put_dom {p : Addr} {c : Mc} (m : Mu) : dom (put p c m) = dom m := by
  unfold dom put
  rw [List.map_map]
  refine List.map_congr_left fun q _ => ?_
  show (if q.1 = p then (p, c) else q).1 = q.1
  split
  · rename_i h; exact h.symm
  · rfl
theorem put_mem {p : Addr} {c c' : Mc} {m : Mu} (h : (p, c') ∈ m) : (p, c) ∈ put p c m := List.mem_map.mpr ⟨(p, c'), h, if_pos rfl⟩
theorem put_other {p q : Addr} {c c' : Mc} {m : Mu} (h : (q, c') ∈ m) (n : q ≠ p) : (q, c') ∈ put p c m := List.mem_map.mpr ⟨(q, c'), h, if_neg n⟩
theorem So.put_lst {K : PySem.W.Frag} {Z : List Addr} {m : Mu} {H : Hp} {p : Addr} {c : Mc} {ds : List Dt} {vs : List V} (so : So K Z m H) (h : (p, c) ∈ m) (da : DaL K (Z ++ dom m) H ds vs) :
    So K Z (put p (.lst ds) m) (upd H p (.lst vs)) ∧ Go m H (put p (.lst ds) m) (upd H p (.lst vs)) := by
  have hp : p ∈ dom m := List.mem_map.mpr ⟨(p, c), h, rfl⟩
  have g : Go m H (put p (.lst ds) m) (upd H p (.lst vs)) := ⟨fun a o n e => by rw [upd_ne (show a ≠ p from fun z => n (by rw [z]; exact hp))]; exact e, fun a ha => .inl (by rw [put_dom] at ha; exact ha)⟩
  refine ⟨⟨by rw [put_dom]; exact so.nd, fun a ha => ?_, fun a ha => by rw [put_dom]; exact so.dj a ha, fun q hq => ?_⟩, g⟩
  · have n : a ≠ p := fun z => so.dj a ha (by rw [z]; exact hp)
    rw [upd_ne n]
    exact so.zs a ha
  · obtain ⟨q0, hq0, rfl⟩ := List.mem_map.mp hq
    by_cases e : q0.1 = p
    · rw [if_pos e]
      exact ⟨vs, upd_same, da.move (g.full Z)⟩
    · rw [if_neg e]
      have y := so.ob q0 hq0
      cases e2 : q0.2 with
      | lst es =>
        rw [e2] at y
        obtain ⟨xs, e1, e3⟩ := y
        exact ⟨xs, by rw [upd_ne e]; exact e1, e3.move (g.full Z)⟩
      | ins C dx fs =>
        rw [e2] at y
        obtain ⟨xs, e1, e3⟩ := y
        exact ⟨xs, by rw [upd_ne e]; exact e1, e3.move (g.full Z)⟩
/-- the store forgets a thing: it stands still from now on -/
def forget (p : Addr) (m : Mu) : Mu := m.filter fun q => q.1 ≠ p
theorem forget_dom {p : Addr} {m : Mu} {a : Addr} (h : a ∈ dom (forget p m)) : a ∈ dom m ∧ a ≠ p := by
  obtain ⟨q, hq, rfl⟩ := List.mem_map.mp h
  obtain ⟨h1, h2⟩ := List.mem_filter.mp hq
  exact ⟨List.mem_map.mpr ⟨q, h1, rfl⟩, by simpa using h2⟩
theorem McOk.less {K : PySem.W.Frag} {D D' : List Addr} {H : Hp} {a : Addr} {c : Mc} (h : McOk K D H a c) (x : ∀ a, a ∈ D' → a ∈ D) : McOk K D' H a c := by
  have g : Ext D H D' H := ⟨fun _ _ _ e => e, fun a h => .inl (x a h)⟩
  cases c with
  | lst es =>
    obtain ⟨xs, e1, e3⟩ := h
    exact ⟨xs, e1, e3.move g⟩
  | ins C dx fs =>
    obtain ⟨xs, e1, e3⟩ := h
    exact ⟨xs, e1, e3.move g⟩
theorem So.forget {K : PySem.W.Frag} {Z : List Addr} {m : Mu} {H : Hp} (p : Addr) (so : So K Z m H) : So K Z (forget p m) H ∧ Go m H (forget p m) H := by
  refine ⟨⟨?_, so.zs, fun a ha z => so.dj a ha (forget_dom z).1, fun q hq => ?_⟩, ⟨fun _ _ _ e => e, fun a ha => .inl (forget_dom ha).1⟩⟩
  · have : (dom (Dw.forget p m)).Sublist (dom m) := (List.filter_sublist (l := m)).map _
    exact so.nd.sublist this
  · refine (so.ob q (List.mem_filter.mp hq).1).less fun a ha => ?_
    rcases List.mem_append.mp ha with z | z
    · exact List.mem_append_left _ z
    · exact List.mem_append_right _ (forget_dom z).1
theorem So.frozen {K : PySem.W.Frag} {Z : List Addr} {m : Mu} {H : Hp} {p : Addr} {ds : List Dt} (so : So K Z m H) (h : (p, Mc.lst ds) ∈ m) : Da K (Z ++ dom (Dw.forget p m)) H (.lst ds) (.ref p) := by
  obtain ⟨xs, e1, e2⟩ := so.lst_of h
  have hp : p ∈ dom m := List.mem_map.mpr ⟨_, h, rfl⟩
  refine .lst ⟨fun z => ?_, e1⟩ (e2.move (Go.full Z (so.forget p).2))
  rcases List.mem_append.mp z with z | z
  · exact so.dj p z hp
  · exact (forget_dom z).2 rfl
section
variable {X : Cx} {e a b c : Expr} {es : List Expr} {r : En} {m : Mu} {F : Pd} {B : Bool → Mu → Prop} {E : Xd} {P : Pc} {pos : Pos} {k : Nat} {N : List Str} {st : Stmt} {sts : List Stmt}
/-! ### slices -/
structure LO (X : Cx) (e : Option Expr) (r : En) (m : Mu) (F : Option Int → Mu → Prop) (E : Xd) : Prop where
  run : ∀ (Z : List Addr) (g : L2.St) (H : Hp) (Q : Option Int → Hp → Prop) (W : WX), Rep X.K Z m H g r → Takes X W → (∀ o H' m', F o m' → Go m H m' H' → So X.K Z m' H' → Q o H') → NX X.K Z m H E W →
    ∀ (pins : List (Addr × Obj)) (s : Shared), Inv X pins g H s → wpAny (model X.prog X.w) X.A (evalPart e X.env) (fun u s' => ∃ o H', Inv X pins g H' s' ∧ IsPart u o ∧ Q o H') X.xe s
def wPt (X : Cx) (e : Option Expr) : TO := fun g H Q => ∀ (pins : List (Addr × Obj)) (s : Shared), Inv X pins g H s → wpAny (model X.prog X.w) X.A (evalPart e X.env) (fun u s' => ∃ o H', Inv X pins g H' s' ∧ IsPart u o ∧ Q o H') X.xe s
theorem po_w {e : Option Expr} : PO X e (wPt X e) := ⟨fun pins s g H Q I h => h pins s I⟩
theorem lo_none {G : Option Int → Mu → Prop} (q : G none m) : LO X none r m G E := ⟨fun Z g H Q W rp tk nk nx pins s I => (po_none).run pins s g H Q I (nk none H m q Ext.rfl' rp.so)⟩
theorem lo_some {G : Option Int → Mu → Prop} (h : LE X e r m (fun d m1 => ∃ i, d = .int i ∧ G (some i) m1) E) : LO X (some e) r m G E :=
  ⟨fun Z g H Q W rp tk nk nx pins s I => (po_some pe_w).run pins s g H Q I (h.run Z g H _ W rp tk (fun v H1 d m1 q go so da => by
    obtain ⟨i, rfl, q⟩ := q
    cases da
    exact ⟨i, rfl, nk (some i) H1 m1 q go so⟩) nx)⟩
def cutD (ds : List Dt) (lo hi : Option Int) : List Dt := (ds.drop (HT.sIx ds.length 0 lo)).take (HT.sIx ds.length ds.length hi - HT.sIx ds.length 0 lo)
theorem cut_da {K : PySem.W.Frag} {D : List Addr} {H : Hp} {ds : List Dt} {vs : List V} (h : DaL K D H ds vs) (lo hi : Option Int) : DaL K D H (cutD ds lo hi) (cutV vs lo hi) := by
  unfold cutD cutV
  rw [h.length]
  exact (h.drop _).take _
theorem le_sl_str {lo hi : Option Expr} {p2 : Pos} (h : LE X a r m (fun d m1 => LO X lo r m1 (fun l m2 => LO X hi r m2 (fun u m3 => ∃ z, d = .str z ∧ z.length ≤ sizeLine ∧ F (.str (cutS z l u)) m3) E) E) E) : LE X (.Subscript a (.Slice lo hi none p2) pos) r m F E := by
  refine ⟨fun Z st H Q W rp tk nk nx => (pe_slice sl_str pe_w po_w po_w).w ?_⟩
  refine h.run Z st H _ W rp tk (fun v H1 d m1 q go so da => ?_) nx
  refine q.run Z st H1 _ W (rp.go go so) tk (fun l H2 m2 q2 go2 so2 => ?_) (nx.go go)
  refine q2.run Z st H2 _ W (rp.go (go.trans go2) so2) tk (fun u H3 m3 q3 go3 so3 => ?_) (nx.go (go.trans go2))
  obtain ⟨z, rfl, hz, q3⟩ := q3
  cases da
  exact ⟨z, rfl, hz, nk _ H3 _ m3 q3 ((go.trans go2).trans go3) so3 (.str _)⟩
theorem le_sl_lst {lo hi : Option Expr} {p2 : Pos} (h : LE X a r m (fun d m1 => LO X lo r m1 (fun l m2 => LO X hi r m2 (fun u m3 => ∃ ds, d = .lst ds ∧ F (.lst (cutD ds l u)) m3) E) E) E) : LE X (.Subscript a (.Slice lo hi none p2) pos) r m F E := by
  refine ⟨fun Z st H Q W rp tk nk nx => (pe_slice sl_list pe_w po_w po_w).w ?_⟩
  refine h.run Z st H _ W rp tk (fun v H1 d m1 q go so da => ?_) nx
  refine q.run Z st H1 _ W (rp.go go so) tk (fun l H2 m2 q2 go2 so2 => ?_) (nx.go go)
  refine q2.run Z st H2 _ W (rp.go (go.trans go2) so2) tk (fun u H3 m3 q3 go3 so3 => ?_) (nx.go (go.trans go2))
  obtain ⟨ds, rfl, q3⟩ := q3
  have da3 := da.move (Go.full Z (go2.trans go3))
  cases da3 with
  | lst h1 h2 =>
    exact ⟨_, _, rfl, h1.sq, fun p hp => nk _ _ _ m3 q3 (((go.trans go2).trans go3).trans (Ext.fresh hp)) (so3.laid hp) (da_new_lst so3 hp (cut_da h2 l u))⟩
/-! ### statements -/
theorem lb_nil (q : P.nx r m) : LB X [] r m P := ⟨fun Z g H D W rp tk np => (pss_nil).w (np.nx g H r m q Ext.rfl' rp)⟩
theorem lb_cons (h : LS X st r m { P with nx := fun r1 m1 => LB X sts r1 m1 P }) : LB X (st :: sts) r m P := by
  refine ⟨fun Z g H D W rp tk np => (pss_cons ps_w pss_w).w ?_⟩
  exact h.run Z g H _ W rp tk ⟨fun g1 H1 r1 m1 q go rp1 => q.run Z g1 H1 D W rp1 tk (np.go go), np.rt, np.bk, np.ct, np.ex⟩
theorem lb_one (h : LS X st r m P) : LB X [st] r m P := ⟨fun Z g H D W rp tk np => (pss_one ps_w).w (h.run Z g H D W rp tk np)⟩
theorem ls_pass (q : P.nx r m) : LS X (.Pass pos) r m P := ⟨fun Z g H D W rp tk np => (ps_pass).w (np.nx g H r m q Ext.rfl' rp)⟩
theorem ls_break (q : P.bk r m) : LS X (.Break pos) r m P := ⟨fun Z g H D W rp tk np => (ps_break).w (np.bk g H r m q Ext.rfl' rp)⟩
theorem ls_cont (q : P.ct r m) : LS X (.Continue pos) r m P := ⟨fun Z g H D W rp tk np => (ps_continue).w (np.ct g H r m q Ext.rfl' rp)⟩
theorem ls_ret (h : LE X e r m P.rt P.ex) : LS X (.Return (some e) pos) r m P := ⟨fun Z g H D W rp tk np => (ps_ret pe_w).w (h.run Z g H D.rt W rp tk np.rt np.ex)⟩
theorem ls_retN (q : P.rt .non m) : LS X (.Return none pos) r m P := ⟨fun Z g H D W rp tk np => (ps_retN).w (np.rt _ H _ m q Ext.rfl' rp.so .non)⟩
/-- a return of a thing of the store, which stands still then -/
theorem ls_ret_mut (h : LE X e r m (fun d m1 => ∃ p ds, d = .raw (.ref p) ∧ (p, Mc.lst ds) ∈ m1 ∧ P.rt (.lst ds) (forget p m1)) P.ex) : LS X (.Return (some e) pos) r m P := by
  refine ⟨fun Z g H D W rp tk np => (ps_ret pe_w).w (h.run Z g H D.rt W rp tk (fun v H1 d m1 q go so da => ?_) np.ex)⟩
  obtain ⟨p, ds, rfl, hm, q⟩ := q
  cases da
  exact np.rt _ H1 _ _ q (go.trans (so.forget p).2) (so.forget p).1 (so.frozen hm)
theorem ls_expr (h : LE X e r m (fun _ m1 => P.nx r m1) P.ex) (hs : swapsWith e none pos.line X.env = pure false := by rfl) : LS X (.Expr e pos) r m P :=
  ⟨fun Z g H D W rp tk np => (ps_expr pe_w hs).w (h.run Z g H _ W rp tk (fun v H1 d m1 q go so da => np.nx g H1 r m1 q go (rp.go go so)) np.ex)⟩
theorem ls_if {ya nb : List Stmt} (h : LT X c r m (fun k m1 => if k = true then LB X ya r m1 P else LB X nb r m1 P) P.ex) : LS X (.If c ya nb pos) r m P := by
  refine ⟨fun Z g H D W rp tk np => (ps_if pt_w pss_w pss_w).w (h.run Z g H _ W rp tk (fun k H1 m1 q go so => ?_) np.ex)⟩
  cases k with
  | true =>
    have q' : LB X ya r m1 P := q
    exact q'.run Z g H1 D W (rp.go go so) tk (np.go go)
  | false =>
    have q' : LB X nb r m1 P := q
    exact q'.run Z g H1 D W (rp.go go so) tk (np.go go)
/-- name = e -/
theorem ls_set {x : Str} {pos' : Pos} {f : Dt → En} (gd : Gd k N X) (hp : Put N r x f) (h : LE X e r m (fun d m1 => P.nx (f d) m1) P.ex) (hx : Loc X.env.scope x := by first | exact Or.inl rfl | exact Or.inr rfl) (hs : swapsWith e (some (.Name x pos')) pos.line X.env = pure false := by rfl)
    (hf : X.fn x = true ∨ X.env.scope.names.lookup x = some .local := by first | exact .inl rfl | exact .inr rfl) : LS X (.Assign [.Name x pos'] e pos) r m P := by
  obtain ⟨i, hi, hr⟩ := hp.ix
  refine ⟨fun Z g H D W rp tk np => (ps_set (i := i) gd.nd' (by rw [gd.hN]; exact hi) hx pe_w hs hf).w (h.run Z g H _ W rp tk (fun v H1 d m1 q go so da => ?_) np.ex)⟩
  have q' : P.nx (f d) m1 := q
  rw [hr d] at q'
  exact np.nx _ H1 _ m1 q' go ((rp.go go so).set i da)
/-- o[i] = e, o a list of the store -/
theorem ls_setix {o i : Expr} {p2 : Pos} (h : LE X e r m (fun d m1 => LE X o r m1 (fun x m2 => LE X i r m2 (fun y m3 => ∃ p ds j n, x = .raw (.ref p) ∧ y = .int j ∧ (p, Mc.lst ds) ∈ m3 ∧ ixN ds.length j = some n ∧ P.nx r (put p (.lst (ds.set n d)) m3)) P.ex) P.ex) P.ex)
    (hs : swapsWithSole [.Subscript o i p2] e pos.line X.env = pure false := by rfl) (hw : swappedStores [.Subscript o i p2] e X.env = pure none := by rfl) (h1 : (assignEach [.Subscript o i p2] X.env).map (·.2) = [assign (.Subscript o i p2) X.env] := by rfl)
    (ha : ∀ v, assign (.Subscript o i p2) X.env v = (do
      let ov ← holding [v] (eval o X.env)
      let iv ← holding [v, ov] (eval i X.env)
      standAt p2
      holding [v, ov, iv] (setItem ov iv v)
      release [v, ov, iv] []) := by intro _; rfl) : LS X (.Assign [.Subscript o i p2] e pos) r m P := by
  refine ⟨fun Z g H D W rp tk np => (ps_asg pe_w (pg_sub pe_w pe_w set_list ha) hs hw h1).w ?_⟩
  refine h.run Z g H _ W rp tk (fun v H1 d m1 q go so da => ?_) np.ex
  refine q.run Z g H1 _ W (rp.go go so) tk (fun v2 H2 d2 m2 q2 go2 so2 da2 => ?_) (np.ex.go go)
  refine q2.run Z g H2 _ W (rp.go (go.trans go2) so2) tk (fun v3 H3 d3 m3 q3 go3 so3 da3 => ?_) (np.ex.go (go.trans go2))
  obtain ⟨p, ds, j, n, rfl, rfl, hm, hn, q3⟩ := q3
  cases da2
  cases da3
  obtain ⟨xs, e1, e2⟩ := so3.lst_of hm
  have dv := da.move (Go.full Z (go2.trans go3))
  have gg := (go.trans go2).trans go3
  obtain ⟨s4, g4⟩ := so3.put_lst hm (e2.set dv n)
  exact ⟨p, xs, j, n, rfl, rfl, e1, by rw [← e2.length]; exact hn, np.nx g _ r _ q3 (gg.trans g4) (rp.go (gg.trans g4) s4)⟩
end
end Dw
namespace Dw
open PySem PySem.Spec PyProof.Rows L2
/-- a def's promise over data: arguments, store, what is wanted of the value, of an exception -/
abbrev Spd := List Dt → Mu → Pd → (Value → List (Str × Dt) → Mu → Prop) → Prop
def toSp (K : PySem.W.Frag) (W : Spd) : Sp := fun vs H Q E => ∃ (Z : List Addr) (ds : List Dt) (m : Mu) (F : Pd) (E' : Value → List (Str × Dt) → Mu → Prop),
  So K Z m H ∧ DaL K (Z ++ dom m) H ds vs ∧ W ds m F E' ∧ NK K Z m H F Q ∧
    ∀ cls dx fs us H' m', E' cls fs m' → Go m H m' H' → So K Z m' H' → dx ∉ Z ++ dom m' → H' dx = some (.xd us) → Fds K (Z ++ dom m') H' fs us → E cls (some dx) H'
/-- a def keeps its promise where no repr is under way -/
structure FnG (P : Program) (w : World) (K : PySem.W.Frag) (mg : Str → Option Value) (base : Heap) (k : Nat) (f : Addr) (fd : FuncData) (ps : List Str) (sp : Sp) : Prop where
  len : ∀ vs H Q E, sp vs H Q E → vs.length = ps.length
  run : ∀ (A : Around) (outer : List Env) (s : Shared) (H : Hp) (args : Args) (us : List Value) (vs : List V) (Q : VK) (E : XK), Room k A → A.guards = some [] → Env0 P w K mg base A outer s H → BindsTo s fd args (ps.zip us) → Vals vs us →
    sp vs H Q E → codeAny (model P w) A (.call (.ref f) args) (CR (L2.CX P w) outer P w H s Q E) s
section
variable {P : Program} {w : World} {K : PySem.W.Frag} {mg : Str → Option Value} {base : Heap}
theorem FnG.mono {j k : Nat} {f : Addr} {fd : FuncData} {ps : List Str} {sp : Sp} (F : FnG P w K mg base j f fd ps sp) (h : j ≤ k) : FnG P w K mg base k f fd ps sp :=
  ⟨F.len, fun A outer s H args us vs Q E hr => F.run A outer s H args us vs Q E (hr.mono h)⟩
/-- a def by its body -/
theorem fn_body {k : Nat} {f : Addr} {x qual : Str} {st : Stmt} {fd : FuncData} {N ps : List Str} {sp : Sp} (F : Fun K x qual st f fd) (S : FnScope N ps (defScope st)) (len : ∀ vs H Q E, sp vs H Q E → vs.length = ps.length)
    (hbody : ∀ (cdv : Value) (A : Around) (outer : List Env) (s : Shared) (H : Hp) (vs : List V) (Q : VK) (E : XK), Room k (A.deeper (envOfC qual (defScope st) s.heap.objs.size f cdv)) → A.guards = some [] → sp vs H Q E →
      ∃ t, PSs (cxOf (L2.CX P w) P w K mg base N qual (defScope st) f cdv A outer s H E) (defBody st) t ∧ t { nx := fun _ H' => Q .non H', rt := Q } (start N vs) H) :
    FnG P w K mg base (k + 1) f fd ps sp := by
  obtain ⟨oc, od, kV, doc, pm, an, cdv, ct, osl, rfl, lk, hcd⟩ := F.ex
  refine ⟨len, fun A outer s H args us vs Q E hr hgu e0 hb rv hsp => ?_⟩
  have hl := len _ _ _ _ hsp
  have inK : K.In s.heap := e0.mod.kin.keeps fun b o e => (e0.bs b o e).1
  have nol : s.heap.NoLimit := e0.mod.nolimit.keeps fun b o e => (e0.bs b o e).1
  have kinds : ∀ y ∈ ps.zip us, (defScope st).names.lookup y.1 = some .local ∨ ((defScope st).names.lookup y.1 = some .cell ∧ ((cellsFrom (s.heap.objs.size + 1) (defScope st).names []).lookup y.1).isSome = true) := fun ⟨n, v⟩ hy => by
    rcases S.par n (List.of_mem_zip hy).1 with q | q
    · exact .inl q
    · exact .inr ⟨q, PySem.W.cellsFrom_some _ _ _ (.inl q)⟩
  refine codeAny_call_function hr.depth (inK _ _ lk) rfl S.co S.gen rfl (PySem.W.codeRec_of inK hcd) (hb _ _ _ _ ?_)
  refine wpAny_newFunctionEnv_cells S.kind kinds fun env he s1 xx => ?_
  subst he
  refine ⟨nol.keeps xx.toInCall.keep, codeAny_func ?_⟩
  obtain ⟨t, ht, hq⟩ := hbody cdv A outer s H vs Q E (hr.deeper _) hgu hsp
  have I : Inv (cxOf (L2.CX P w) P w K mg base N qual (defScope st) f cdv A outer s H E) [] (start N vs) H s1 := inv_start S hr.hd e0 hl rv xx
  refine wpAny_mono (ht.run [] s1 (start N vs) H _ I hq) (fun fl s' hs => ?_) fun e s' hs => hs
  cases fl with
  | ret u =>
    obtain ⟨v, g', H', J, rv, q⟩ := hs
    exact ⟨v, H', J.os, J.bare, J.base, J.hok, rv, q⟩
  | next =>
    obtain ⟨g', H', J, q⟩ := hs
    exact ⟨V.non, H', J.os, J.bare, J.base, J.hok, rfl, q⟩
  | brk =>
    obtain ⟨_, _, _, q⟩ := hs
    exact q.elim
  | cont =>
    obtain ⟨_, _, _, q⟩ := hs
    exact q.elim
def startD (N : List Str) (ds : List Dt) : En := ds.map some ++ List.replicate (N.length - ds.length) none
theorem rep_start {Z : List Addr} {m : Mu} {H : Hp} {N : List Str} {ds : List Dt} {vs : List V} (so : So K Z m H) (da : DaL K (Z ++ dom m) H ds vs) : Rep K Z m H (start N vs) (startD N ds) := by
  refine ⟨so, by unfold L2.start startD; rw [List.length_append, List.length_append, List.length_map, List.length_map, List.length_replicate, List.length_replicate, da.length], fun i d e => ?_⟩
  unfold startD at e
  by_cases hi : i < ds.length
  · rw [List.getElem?_append_left (by rw [List.length_map]; exact hi), List.getElem?_map] at e
    cases e1 : ds[i]? with
    | none => rw [e1] at e; cases e
    | some d' =>
      rw [e1] at e
      cases e
      obtain ⟨v, e2, e3⟩ := da.get e1
      refine ⟨v, ?_, e3⟩
      unfold L2.start
      rw [List.getElem?_append_left (by rw [List.length_map, ← da.length]; exact hi), List.getElem?_map, e2]
      rfl
  · rw [List.getElem?_append_right (by rw [List.length_map]; omega), List.getElem?_replicate] at e
    split at e <;> cases e
/-- THE RULE for a def, over data -/
theorem fn_dw {k : Nat} {f : Addr} {x qual : Str} {st : Stmt} {fd : FuncData} {N ps : List Str} {W : Spd} (F : Fun K x qual st f fd) (S : FnScope N ps (defScope st)) (len : ∀ ds m Q E, W ds m Q E → ds.length = ps.length)
    (hbody : ∀ (cdv : Value) (A : Around) (outer : List Env) (s : Shared) (H : Hp) (E : XK), Gd k N (cxOf (L2.CX P w) P w K mg base N qual (defScope st) f cdv A outer s H E) → ∀ (ds : List Dt) (m : Mu) (Q : Pd) (E' : Value → List (Str × Dt) → Mu → Prop), W ds m Q E' →
      LB (cxOf (L2.CX P w) P w K mg base N qual (defScope st) f cdv A outer s H E) (defBody st) (startD N ds) m { nx := fun _ m' => Q .non m', rt := Q, ex := fun c fs _ m' => E' c fs m' }) :
    FnG P w K mg base (k + 1) f fd ps (toSp K W) := by
  refine fn_body F S (fun vs H Q E h => ?_) fun cdv A outer s H vs Q E hr hgu h => ⟨wB _ _, pss_w, ?_⟩
  · obtain ⟨Z, ds, m, Q', E', so, da, hw, nk, ne⟩ := h
    rw [← da.length]
    exact len _ _ _ _ hw
  · obtain ⟨Z, ds, m, Q', E', so, da, hw, nk, ne⟩ := h
    have gd : Gd k N (cxOf (L2.CX P w) P w K mg base N qual (defScope st) f cdv A outer s H E) := ⟨hr, hgu, rfl, S.nd, rfl, passes_of rfl⟩
    refine (hbody cdv A outer s H E gd ds m Q' E' hw).run Z (start N vs) H _ (fun cls d _ H' => E cls d H') (rep_start so da) (takes_of rfl rfl rfl rfl) ⟨fun g' H' r' m' q go rp => nk _ _ _ _ q go rp.so .non, nk, fun _ _ _ _ q => q.elim, fun _ _ _ _ q => q.elim, fun cls dx fs us g' H' r' m' q go rp nd e1 e2 => ne cls dx fs us H' m' q go rp.so nd e1 e2⟩
/-- a def by its name, n parameters, level k -/
structure FnD (P : Program) (w : World) (K : PySem.W.Frag) (mg : Str → Option Value) (base : Heap) (x : Str) (k : Nat) (W : Spd) : Prop where
  ex : ∃ (f : Addr) (fd : FuncData) (ps : List Str), FnG P w K mg base k f fd ps (toSp K W) ∧ mg x = some (.ref f) ∧ PySem.W.keepIn K (.ref f) = true ∧ Binds K fd ps []
theorem FnD.mk' {x qual : Str} {st : Stmt} {k : Nat} {f : Addr} {fd : FuncData} {ps : List Str} {W : Spd} (F : Fun K x qual st f fd) (G : FnG P w K mg base k f fd ps (toSp K W)) (hm : mg x = some (.ref f)) (hb : Binds K fd ps []) : FnD P w K mg base x k W := ⟨f, fd, ps, G, hm, F.kp, hb⟩
end
section
variable {X : Cx} {e : Expr} {es : List Expr} {r : En} {m : Mu} {F : Pd} {E : Xd} {p pos : Pos} {k j : Nat} {N : List Str} {x : Str} {W : Spd}
theorem run_g {pins : List (Addr × Obj)} {g : L2.St} {H : Hp} {s : Shared} {Q : VK} {us : List Value} {vs : List V} {f : Addr} {fd : FuncData} {ps : List Str} {sp : Sp} {Wx : WX} (G : FnG X.prog X.w X.K X.mg X.base k f fd ps sp) (hr : Room k X.A) (hgu : X.A.guards = some []) (hb : Binds X.K fd ps [])
    (tk : Takes X Wx) (I : Inv X pins g H s) (rv : Vals vs us) (h : sp vs H Q (WE Wx g)) : wpAny (model X.prog X.w) X.A (call (.ref f) us) (EP X pins g Q) X.xe s := by
  have hl : us.length = ps.length := by rw [← rv.length]; exact G.len _ _ _ _ h
  have b := hb s us I.kIn (by rw [List.append_nil]; exact hl)
  rw [List.append_nil] at b
  refine wpAny_call (codeAny_mono (G.run X.A X.stack s H ⟨us, []⟩ us vs Q (WE Wx g) hr hgu I.env0 b rv h) fun o s' hq => ?_)
  cases o with
  | error u => exact passAt tk g pins H s u s' I hq
  | ok fl =>
    cases fl with
    | ret u => exact I.after hq
    | next => exact hq.elim
    | brk => exact hq.elim
    | cont => exact hq.elim
theorem le_call (h : FnD X.prog X.w X.K X.mg X.base x j W) (gd : Gd k N X) (hj : j ≤ k) (ha : LA X (e :: es) r m (fun ds m1 => W ds m1 F (fun c fs m' => E c fs r m')) E) (hg : Gl X x := by rfl)
    (hdb : (x == ("__debug__" : Str)) = false := by decide) (he : starEach (e :: es) X.env = (false, eval e X.env) :: starEach es X.env := by rfl) (hpl : (backTo pos (starEach es X.env)).any (·.1) = false := by rfl) : LE X (.Call (.Name x p) (e :: es) [] pos) r m F E := by
  obtain ⟨f, fd, ps, G, hm, hk, hb⟩ := h.ex
  refine ⟨fun Z g H Q Wx rp tk nk nx pins s I => ?_⟩
  refine wpAny_Call_Name_kw (ld_glob I hg hm ?_ hdb)
  refine PySem.W.callWith_K (h₀ := X.base) I.ok.mod.kin hk (thn (ha.run Z g H (fun vs H1 => toSp X.K W vs H1 Q (WE Wx g)) Wx rp tk (fun vs H1 ds m1 q go so da => ?_) nx pos pins s I) fun us s1 ⟨vs, H1, I1, rv, q⟩ => ⟨I1.kIn, ?_⟩) he hpl
  · exact ⟨Z, ds, m1, F, _, so, da, q, nk.go go, fun cls dx fs us H' m' q2 go2 so2 nd e1 e2 => nx cls dx fs us g H' r m' q2 (go.trans go2) (rp.go (go.trans go2) so2) nd e1 e2⟩
  · exact run_g G (gd.room.mono hj) gd.gu hb tk I1 rv q
theorem le_call0 (h : FnD X.prog X.w X.K X.mg X.base x j W) (gd : Gd k N X) (hj : j ≤ k) (ha : W [] m F (fun c fs m' => E c fs r m')) (hg : Gl X x := by rfl)
    (hdb : (x == ("__debug__" : Str)) = false := by decide) : LE X (.Call (.Name x p) [] [] pos) r m F E := by
  obtain ⟨f, fd, ps, G, hm, hk, hb⟩ := h.ex
  refine ⟨fun Z g H Q Wx rp tk nk nx pins s I => ?_⟩
  refine wpAny_Call_Name_kw (ld_glob I hg hm ?_ hdb)
  refine PySem.W.callWith_K0 I.kIn hk (run_g (us := []) (vs := []) G (gd.room.mono hj) gd.gu hb tk I .nil ?_)
  exact ⟨Z, [], m, F, _, rp.so, .nil, ha, nk, fun cls dx fs us H' m' q2 go2 so2 nd e1 e2 => nx cls dx fs us g H' r m' q2 go2 (rp.go go2 so2) nd e1 e2⟩
/-- a built-in function, a built-in class, called -/
theorem le_callB {id : String} (hv : bootBuiltins x = some (.builtin id)) (hm : X.mg x = none) (ha : LA X (e :: es) r m (fun ds m1 => OC X (.builtin id) ds m1 F) E) (hg : Gl X x := by rfl) (hn : x ≠ "__name__" := by decide) (hdb : (x == ("__debug__" : Str)) = false := by decide)
    (he : starEach (e :: es) X.env = (false, eval e X.env) :: starEach es X.env := by rfl) (hpl : (backTo pos (starEach es X.env)).any (·.1) = false := by rfl) : LE X (.Call (.Name x p) (e :: es) [] pos) r m F E := by
  refine ⟨fun Z g H Q Wx rp tk nk nx => (pe_callB call_w hg hm hv pa_w hn hdb he hpl).w ?_⟩
  refine ha.run Z g H _ Wx rp tk (fun vs H1 ds m1 q go so da => ?_) nx
  exact q.run Z H1 vs Q so da (nk.go go)
theorem le_callT {T : String} (hv : bootBuiltins x = some (.type T)) (hm : X.mg x = none) (ha : LA X (e :: es) r m (fun ds m1 => OC X (.type T) ds m1 F) E) (hg : Gl X x := by rfl) (hn : x ≠ "__name__" := by decide) (hdb : (x == ("__debug__" : Str)) = false := by decide)
    (he : starEach (e :: es) X.env = (false, eval e X.env) :: starEach es X.env := by rfl) (hpl : (backTo pos (starEach es X.env)).any (·.1) = false := by rfl) : LE X (.Call (.Name x p) (e :: es) [] pos) r m F E := by
  refine ⟨fun Z g H Q Wx rp tk nk nx => (pe_callTy call_w hg hm hv pa_w hn hdb he hpl).w ?_⟩
  refine ha.run Z g H _ Wx rp tk (fun vs H1 ds m1 q go so da => ?_) nx
  exact q.run Z H1 vs Q so da (nk.go go)
/-! ### walks -/
def wIt (X : Cx) (tg iter : Expr) : TI := fun g H R => ∀ (pins : List (Addr × Obj)) (s : Shared), Inv X pins g H s → wpAny (model X.prog X.w) X.A (eval iter X.env) (fun v s1 => wpAny (model X.prog X.w) X.A (pyIter v) (PIE X pins g tg R) X.xe s1) X.xe s
theorem pi_w {tg iter : Expr} : PI X tg iter (wIt X tg iter) := ⟨fun pins s g H R I h => h pins s I⟩
theorem _root_.L2.PI.w {tg iter : Expr} {t : TI} (h : PI X tg iter t) {g : L2.St} {H : Hp} {R : It → Hp → Prop} (q : t g H R) : wIt X tg iter g H R := fun pins s I => h.run pins s g H R I q
/-- hidden things may be more -/
theorem Go.hide {m m' : Mu} {H H' : Hp} {Z Z' : List Addr} (x : Go m H m' H') (hz : ∀ a ∈ Z', a ∈ Z ∨ H a = none) : Ext (Z ++ dom m) H (Z' ++ dom m') H' :=
  ⟨fun a o n e => x.keep a o (fun z => n (List.mem_append_right _ z)) e, fun a h => by
    rcases List.mem_append.mp h with h | h
    · rcases hz a h with q | q
      · exact .inl (List.mem_append_left _ q)
      · exact .inr q
    · rcases x.new a h with q | q
      · exact .inl (List.mem_append_right _ q)
      · exact .inr q⟩
/-- the walk J yields the data ds -/
def ItD (K : PySem.W.Frag) (Z : List Addr) (m : Mu) (H : Hp) (J : It) (ds : List Dt) : Prop := ∀ (Z' : List Addr), (∀ a ∈ Z', a ∈ Z ∨ H a = none) → ∀ (i : Nat) (m2 : Mu) (H2 : Hp), Go m H m2 H2 → So K Z' m2 H2 →
  (i < ds.length → J.go i H2) ∧ (ds.length ≤ i → J.stop i H2) ∧ ∀ x H3 d, ds[i]? = some d → J.yld i H2 x H3 → Go m2 H2 m2 H3 ∧ So K Z' m2 H3 ∧ Da K (Z' ++ dom m2) H3 d x
structure LI (X : Cx) (tg iter : Expr) (r : En) (m : Mu) (F : List Dt → Mu → Prop) (E : Xd) : Prop where
  run : ∀ (Z : List Addr) (g : L2.St) (H : Hp) (R : It → Hp → Prop) (Wx : WX), Rep X.K Z m H g r → Takes X Wx → (∀ J ds m' H', F ds m' → Go m H m' H' → So X.K Z m' H' → ItD X.K Z m' H' J ds → R J H') → NX X.K Z m H E Wx → wIt X tg iter g H R
theorem li_lst {tg : Expr} {L : List Dt → Mu → Prop} (h : LE X e r m (fun d m1 => ∃ ds, d = .lst ds ∧ L ds m1) E) : LI X tg e r m L E := by
  refine ⟨fun Z g H R Wx rp tk nk nx => (pi_list pe_w).w (h.run Z g H _ Wx rp tk (fun v H1 d m1 q go so da => ?_) nx)⟩
  obtain ⟨ds, rfl, q⟩ := q
  cases da with
  | lst h1 h2 =>
    refine ⟨_, rfl, ⟨_, h1.sq⟩, nk _ ds m1 H1 q go so fun Z' hz i m2 H2 go2 so2 => ?_⟩
    have h1' := SL.sq (K := X.K) (h1.move (Go.hide go2 hz))
    refine ⟨fun hi => ?_, fun hi => ⟨_, h1', by rw [← h2.length]; exact hi⟩, fun x H3 d hd hy => ?_⟩
    · obtain ⟨v, e1, _⟩ := h2.get (List.getElem?_eq_getElem hi)
      exact ⟨_, v, h1', e1⟩
    · obtain ⟨rfl, hv⟩ := hy
      obtain ⟨v, e1, e2⟩ := h2.get hd
      have e3 := hv _ h1'
      rw [e1] at e3
      cases e3
      exact ⟨Ext.rfl', so2, e2.move (Go.hide go2 hz)⟩
theorem li_tup {tg : Expr} {L : List Dt → Mu → Prop} (h : LE X e r m (fun d m1 => ∃ ds, d = .tup ds ∧ L ds m1) E) : LI X tg e r m L E := by
  refine ⟨fun Z g H R Wx rp tk nk nx => (pi_tup pe_w).w (h.run Z g H _ Wx rp tk (fun v H1 d m1 q go so da => ?_) nx)⟩
  obtain ⟨ds, rfl, q⟩ := q
  cases da with
  | tup h1 h2 =>
    refine ⟨_, rfl, ⟨_, h1.sq⟩, nk _ ds m1 H1 q go so fun Z' hz i m2 H2 go2 so2 => ?_⟩
    have h1' := (h1.move (Go.hide go2 hz)).sq
    refine ⟨fun hi => ?_, fun hi => ⟨_, h1', by rw [← h2.length]; exact hi⟩, fun x H3 d hd hy => ?_⟩
    · obtain ⟨v, e1, _⟩ := h2.get (List.getElem?_eq_getElem hi)
      exact ⟨_, v, h1', e1⟩
    · obtain ⟨rfl, hv⟩ := hy
      obtain ⟨v, e1, e2⟩ := h2.get hd
      have e3 := hv _ h1'
      rw [e1] at e3
      cases e3
      exact ⟨Ext.rfl', so2, e2.move (Go.hide go2 hz)⟩
def signs (x : Str) : List Dt := x.cps.toList.map fun c => .str ⟨#[c]⟩
theorem li_str {tg : Expr} {L : List Dt → Mu → Prop} (h : LE X e r m (fun d m1 => ∃ x, d = .str x ∧ L (signs x) m1) E) : LI X tg e r m L E := by
  refine ⟨fun Z g H R Wx rp tk nk nx => (pi_str pe_w).w (h.run Z g H _ Wx rp tk (fun v H1 d m1 q go so da => ?_) nx)⟩
  obtain ⟨x, rfl, q⟩ := q
  cases da
  refine ⟨x, rfl, nk _ _ m1 H1 q go so fun Z' hz i m2 H2 go2 so2 => ?_⟩
  have hl : (signs x).length = x.cps.size := by unfold signs; rw [List.length_map, Array.length_toList]
  refine ⟨fun hi => by rw [hl] at hi; exact hi, fun hi => by rw [hl] at hi; exact hi, fun v H3 d hd hy => ?_⟩
  obtain ⟨rfl, c, hc, rfl⟩ := hy
  unfold signs at hd
  rw [List.getElem?_map, Array.getElem?_toList, hc] at hd
  cases hd
  exact ⟨Ext.rfl', so2, .str _⟩
def rng (lo : Int) (n : Nat) : List Dt := (List.range n).map fun i : Nat => .int (lo + i)
theorem rng_len (lo : Int) (n : Nat) : (rng lo n).length = n := by unfold rng; rw [List.length_map, List.length_range]
theorem itd_rng {K : PySem.W.Frag} {Z : List Addr} {m : Mu} {H : Hp} (lo : Int) (n : Nat) : ItD K Z m H (Itr lo n) (rng lo n) := fun Z' hz i m2 H2 go2 so2 => by
  refine ⟨fun hi => by rw [rng_len] at hi; exact hi, fun hi => by rw [rng_len] at hi; exact hi, fun v H3 d hd hy => ?_⟩
  obtain ⟨rfl, rfl⟩ := hy
  unfold rng at hd
  have hi : i < n := by
    have := List.getElem?_eq_some_iff.mp hd
    obtain ⟨h1, _⟩ := this
    rw [List.length_map, List.length_range] at h1
    exact h1
  rw [List.getElem?_map, List.getElem?_range hi] at hd
  cases hd
  exact ⟨Ext.rfl', so2, .int _⟩
theorem li_rng1 {tg a : Expr} {L : List Dt → Mu → Prop} (hm : X.mg "range" = none) (h : LA X [a] r m (fun ds m1 => ∃ j : Int, ds = [.int j] ∧ -(2 ^ 62) ≤ j ∧ j < 2 ^ 62 ∧ L (rng 0 j.toNat) m1) E) (hg : Gl X "range" := by rfl) (hs : starEach [a] X.env = [(false, eval a X.env)] := by rfl) : LI X tg (.Call (.Name "range" p) [a] [] pos) r m L E := by
  refine ⟨fun Z g H R Wx rp tk nk nx => (pi_range1 hg hm pa_w hs).w (h.run Z g H _ Wx rp tk (fun vs H1 ds m1 q go so da => ?_) nx)⟩
  obtain ⟨j, rfl, q1, q2, q⟩ := q
  cases da with
  | cons d1 d2 =>
    cases d1
    cases d2
    exact ⟨j, rfl, q1, q2, nk _ _ m1 H1 q go so (itd_rng 0 _)⟩
theorem li_rng2 {tg a b : Expr} {L : List Dt → Mu → Prop} (hm : X.mg "range" = none) (h : LA X [a, b] r m (fun ds m1 => ∃ i j : Int, ds = [.int i, .int j] ∧ (-(2 ^ 62) ≤ i ∧ i < 2 ^ 62 ∧ -(2 ^ 62) ≤ j ∧ j < 2 ^ 62) ∧ L (rng i (j - i).toNat) m1) E) (hg : Gl X "range" := by rfl)
    (hs : starEach [a, b] X.env = [(false, eval a X.env), (false, eval b X.env)] := by rfl) (hs2 : starEach [b] X.env = [(false, eval b X.env)] := by rfl) : LI X tg (.Call (.Name "range" p) [a, b] [] pos) r m L E := by
  refine ⟨fun Z g H R Wx rp tk nk nx => (pi_range2 hg hm pa_w hs hs2).w (h.run Z g H _ Wx rp tk (fun vs H1 ds m1 q go so da => ?_) nx)⟩
  obtain ⟨i, j, rfl, q1, q⟩ := q
  cases da with
  | cons d1 d2 =>
    cases d2 with
    | cons d3 d4 =>
      cases d1
      cases d3
      cases d4
      exact ⟨i, j, rfl, q1, nk _ _ m1 H1 q go so (itd_rng i _)⟩
/-! ### targets -/
structure LG (X : Cx) (tg : Expr) (r : En) (d : Dt) (f : En → Prop) : Prop where
  run : ∀ (Z : List Addr) (m : Mu) (g : L2.St) (H : Hp) (v : V) (Q : L2.St → Hp → Prop), Rep X.K Z m H g r → Da X.K (Z ++ dom m) H d v → (∀ g' r', f r' → Rep X.K Z m H g' r' → Q g' H) →
    ∀ (pins : List (Addr × Obj)) (s : Shared) (u : Value), Inv X pins g H s → RelV v u → wpAny (model X.prog X.w) X.A (assign tg X.env u) (fun _ s' => ∃ g' H', Inv X pins g' H' s' ∧ Q g' H') X.xe s
def wG (X : Cx) (tg : Expr) : TG := fun v g H Q => ∀ (pins : List (Addr × Obj)) (s : Shared) (u : Value), Inv X pins g H s → RelV v u → wpAny (model X.prog X.w) X.A (assign tg X.env u) (fun _ s' => ∃ g' H', Inv X pins g' H' s' ∧ Q g' H') X.xe s
theorem pg_w {tg : Expr} : PG X tg (wG X tg) := ⟨fun pins s g H v u Q I rv h => h pins s u I rv⟩
theorem lg_name {f : En → Prop} {d : Dt} {h : Dt → En} (gd : Gd k N X) (hp : Put N r x h) (q : f (h d)) (hx : Loc X.env.scope x := by first | exact Or.inl rfl | exact Or.inr rfl)
    (hf : X.fn x = true ∨ X.env.scope.names.lookup x = some .local := by first | exact .inl rfl | exact .inr rfl) : LG X (.Name x pos) r d f := by
  obtain ⟨i, hi, hr⟩ := hp.ix
  refine ⟨fun Z m g H v Q rp da hq pins s u I rv => (pg_name (i := i) gd.nd' (by rw [gd.hN]; exact hi) hx hf).run pins s g H v u Q I rv ?_⟩
  refine hq _ _ q ?_
  rw [hr d]
  exact rp.set i da
/-! ### for -/
theorem ls_for {tg iter : Expr} {body : List Stmt} {P : Pc} (gd : Gd k N X) (Iv : List Dt → Nat → En → Mu → Prop) (h : LI X tg iter r m (fun ds m1 => Iv ds 0 r m1 ∧
      (∀ i d r2 m2, ds[i]? = some d → Iv ds i r2 m2 → LG X tg r2 d fun r3 => LB X body r3 m2 { nx := Iv ds (i + 1), rt := P.rt, bk := P.nx, ct := Iv ds (i + 1), ex := P.ex }) ∧ ∀ r2 m2, Iv ds ds.length r2 m2 → P.nx r2 m2) P.ex)
    (hs : ∀ x, foldedSetIterable iter X.env x = pure x := by intro _; rfl) : LS X (.For tg iter body [] pos) r m P := by
  refine ⟨fun Z g H D Wx rp tk np => (ps_for gd.po gd.calm pi_w pg_w pss_w hs).w (h.run Z g H _ Wx rp tk (fun J ds m1 H1 q go so it => ?_) np.ex)⟩
  obtain ⟨q0, qs, qd⟩ := q
  refine ⟨fun i n g2 H2 => n = ds.length - i ∧ i ≤ ds.length ∧ ∃ r2 m2, Iv ds i r2 m2 ∧ Go m1 H1 m2 H2 ∧ Rep X.K Z m2 H2 g2 r2, ⟨ds.length, rfl, Nat.zero_le _, r, m1, q0, Ext.rfl', rp.go go so⟩, fun i n g2 H2 hw => ?_⟩
  obtain ⟨rfl, hi, r2, m2, iv, go2, rp2⟩ := hw
  obtain ⟨hgo, hstop, hy⟩ := it Z (fun _ h => .inl h) i m2 H2 go2 rp2.so
  by_cases hlt : i < ds.length
  · refine .inr ⟨hgo hlt, fun g3 H3 => ∃ r3 m3, Iv ds (i + 1) r3 m3 ∧ Go m1 H1 m3 H3 ∧ Rep X.K Z m3 H3 g3 r3, fun g3 H3 ⟨r3, m3, iv3, go3, rp3⟩ => ⟨ds.length - (i + 1), by omega, rfl, hlt, r3, m3, iv3, go3, rp3⟩, fun x H3 yx => ?_⟩
    obtain ⟨gy, sy, dy⟩ := hy x H3 ds[i] (List.getElem?_eq_getElem hlt) yx
    have rp3 : Rep X.K Z m2 H3 g2 r2 := rp2.go gy sy
    refine (qs i ds[i] r2 m2 (List.getElem?_eq_getElem hlt) iv).run Z m2 g2 H3 x _ rp3 dy fun g4 r4 lb rp4 => ?_
    have g4o : Go m1 H1 m2 H3 := go2.trans gy
    refine lb.run Z g4 H3 _ Wx rp4 tk ⟨fun g5 H5 r5 m5 q5 go5 rp5 => ⟨r5, m5, q5, g4o.trans go5, rp5⟩, np.rt.go (go.trans g4o), np.nx.go (go.trans g4o), fun g5 H5 r5 m5 q5 go5 rp5 => ⟨r5, m5, q5, g4o.trans go5, rp5⟩, np.ex.go (go.trans g4o)⟩
  · have e : i = ds.length := by omega
    subst e
    exact .inl ⟨hstop (Nat.le_refl _), np.nx g2 H2 r2 m2 (qd r2 m2 iv) (go.trans go2) rp2⟩
end
end Dw
namespace Dw
open PySem PySem.Spec PyProof.Rows L2
section
variable {X : Cx} {e : Expr} {es : List Expr} {r : En} {m : Mu} {F : Pd} {E : Xd} {p pos : Pos} {k j : Nat} {N : List Str} {x : Str}
/-! ### tests of a comprehension -/
structure LF (X : Cx) (ifs : List Expr) (r : En) (m : Mu) (B : Bool → Mu → Prop) (E : Xd) : Prop where
  run : ∀ (Z : List Addr) (g : L2.St) (H : Hp) (Q : Bool → Hp → Prop) (W : WX), Rep X.K Z m H g r → Takes X W → NB X.K Z m H B Q → NX X.K Z m H E W → ∃ t, PTs X ifs t ∧ t g H Q
theorem lf_nil {B : Bool → Mu → Prop} (q : B true m) : LF X [] r m B E := ⟨fun Z g H Q W rp tk nk nx => ⟨_, pts_nil, nk true H m q Ext.rfl' rp.so⟩⟩
theorem lf_one {c : Expr} {B : Bool → Mu → Prop} (h : LT X c r m B E) : LF X [c] r m B E := ⟨fun Z g H Q W rp tk nk nx => ⟨_, pts_one pt_w, h.run Z g H Q W rp tk nk nx⟩⟩
def wTs (X : Cx) (ifs : List Expr) : TT := fun g H Q => ∃ t, PTs X ifs t ∧ t g H Q
theorem pts_w {ifs : List Expr} : PTs X ifs (wTs X ifs) := ⟨fun pins s g H Q I ⟨t, h, q⟩ => h.run pins s g H Q I q⟩
/-- a block's context -/
abbrev bk (X : Cx) (scope : Scope) (s : Shared) (H : Hp) (C : Addr) (cl : List (Str × Addr)) (fp : List Addr) : Cx := X.blk s H scope (compEnvC scope cl C X.env) fp
theorem Gd.blk (gd : Gd k N X) (scope : Scope) (s : Shared) (H : Hp) (C : Addr) (cl : List (Str × Addr)) (fp : List Addr) : Gd k N (bk X scope s H C cl fp) := ⟨gd.room, gd.gu, gd.calm, gd.nd, gd.hN, PassesOwn.never⟩
def bE (X : Cx) (scope : Scope) (e : Expr) : TE := fun g H Q => ∀ s H' C cl fp, wE (bk X scope s H' C cl fp) e g H Q
def bT (X : Cx) (scope : Scope) (ifs : List Expr) : TT := fun g H Q => ∀ s H' C cl fp, wTs (bk X scope s H' C cl fp) ifs g H Q
theorem So.drop {K : PySem.W.Frag} {Z : List Addr} {m : Mu} {H : Hp} {D : Addr} (s : So K (D :: Z) m H) : So K Z m H :=
  ⟨s.nd, fun a ha => s.zs a (List.mem_cons_of_mem _ ha), fun a ha => s.dj a (List.mem_cons_of_mem _ ha), fun q hq => (s.ob q hq).less fun a ha => by
    rcases List.mem_append.mp ha with z | z
    · exact List.mem_append_left _ (List.mem_cons_of_mem _ z)
    · exact List.mem_append_right _ z⟩
/-- the hidden list is changed -/
theorem So.hid {K : PySem.W.Frag} {Z : List Addr} {m : Mu} {H : Hp} {D : Addr} {o : HO} (s : So K (D :: Z) m H) : So K (D :: Z) m (upd H D o) ∧ Ext ((D :: Z) ++ dom m) H ((D :: Z) ++ dom m) (upd H D o) := by
  have x : Ext ((D :: Z) ++ dom m) H ((D :: Z) ++ dom m) (upd H D o) := ⟨fun a u n e => by
    rw [upd_ne (show a ≠ D from fun z => n (by rw [z]; exact List.mem_append_left _ List.mem_cons_self))]
    exact e, fun a h => .inl h⟩
  refine ⟨⟨s.nd, fun a ha => ?_, s.dj, fun q hq => ?_⟩, x⟩
  · by_cases h : a = D
    · rw [h, upd_same]
      exact fun z => nomatch z
    · rw [upd_ne h]
      exact s.zs a ha
  · have y := s.ob q hq
    have hn : q.1 ≠ D := fun z => s.dj D List.mem_cons_self (by rw [← z]; exact List.mem_map.mpr ⟨q, hq, rfl⟩)
    cases e2 : q.2 with
    | lst es =>
      rw [e2] at y
      obtain ⟨xs, e1, e3⟩ := y
      exact ⟨xs, by rw [upd_ne hn]; exact e1, e3.move x⟩
    | ins C dx fs =>
      rw [e2] at y
      obtain ⟨xs, e1, e3⟩ := y
      exact ⟨xs, by rw [upd_ne hn]; exact e1, e3.move x⟩
theorem So.hides {K : PySem.W.Frag} {Z : List Addr} {m : Mu} {H : Hp} {D : Addr} {o : HO} (s : So K Z m H) (h : H D = none) : So K (D :: Z) m (upd H D o) := by
  have s1 := s.laid (o := o) h
  have nf := s.fresh h
  refine ⟨s1.nd, fun a ha => ?_, fun a ha => ?_, fun q hq => ?_⟩
  · rcases List.mem_cons.mp ha with z | z
    · rw [z, upd_same]
      exact fun z => nomatch z
    · exact s1.zs a z
  · rcases List.mem_cons.mp ha with z | z
    · rw [z]
      exact fun y => nf (List.mem_append_right _ y)
    · exact s1.dj a z
  · have y := s.ob q hq
    have hn : q.1 ≠ D := fun z => y.there (by rw [z]; exact h)
    have x : Ext (Z ++ dom m) H ((D :: Z) ++ dom m) (upd H D o) := Go.hide (Ext.fresh h) fun a ha => by
      rcases List.mem_cons.mp ha with z | z
      · exact .inr (by rw [z]; exact h)
      · exact .inl z
    cases e2 : q.2 with
    | lst es =>
      rw [e2] at y
      obtain ⟨xs, e1, e3⟩ := y
      exact ⟨xs, by rw [upd_ne hn]; exact e1, e3.move x⟩
    | ins C dx fs =>
      rw [e2] at y
      obtain ⟨xs, e1, e3⟩ := y
      exact ⟨xs, by rw [upd_ne hn]; exact e1, e3.move x⟩
/-- what is asked of a comprehension over the data ds -/
def LcOk (X : Cx) (scope : Scope) (elt : Expr) (ifs : List Expr) (f : Dt → En) (Iv : List Dt → Nat → List Dt → Mu → Prop) (F : Pd) (ds : List Dt) (m1 : Mu) : Prop :=
  ds.length ≤ sizeLine ∧ Iv ds 0 [] m1 ∧ (∀ i d acc m2, ds[i]? = some d → acc.length ≤ i → Iv ds i acc m2 → ∀ s H C cl fp, LF (bk X scope s H C cl fp) ifs (f d) m2 (fun b m3 => if b = true then (∀ s H C cl fp, LE (bk X scope s H C cl fp) elt (f d) m3 (fun y m4 => Iv ds (i + 1) (acc ++ [y]) m4) X0) else Iv ds (i + 1) acc m3) X0) ∧
    ∀ acc m2, acc.length ≤ ds.length → Iv ds ds.length acc m2 → F (.lst acc) m2
theorem set_set {α : Type} : ∀ (l : List α) (i : Nat) (a b : α), (l.set i a).set i b = l.set i b
  | [], _, _, _ => rfl
  | _ :: _, 0, _, _ => rfl
  | x :: l, i + 1, a, b => congrArg (List.cons x) (set_set l i a b)
theorem lc_read {scope : Scope} {elt tg iter : Expr} {ifs : List Expr} {i0 : Nat} {f : Dt → En} (hr : ∀ d, f d = r.set i0 (some d)) (Iv : List Dt → Nat → List Dt → Mu → Prop) (h : LI X tg iter r m (LcOk X scope elt ifs f Iv F) E)
    {Z : List Addr} {g : L2.St} {H : Hp} {Q : VK} {Wx : WX} (rp : Rep X.K Z m H g r) (tk : Takes X Wx) (nk : NK X.K Z m H F Q) (nx : NX X.K Z m H E Wx) :
    tLc (wIt X tg iter) (gName i0) (bT X scope ifs) (bE X scope elt) [i0] g H Q := by
  refine h.run Z g H _ Wx rp tk (fun J ds m1 H1 q go so it D hD => ?_) nx
  obtain ⟨hsz, q0, qs, qd⟩ := q
  have hz : ∀ a ∈ D :: Z, a ∈ Z ∨ H1 a = none := fun a ha => by
    rcases List.mem_cons.mp ha with z | z
    · exact .inr (by rw [z]; exact hD)
    · exact .inl z
  have rp1 : Rep X.K Z m1 H1 g r := rp.go go so
  refine ⟨fun i n H2 => n = ds.length - i ∧ i ≤ ds.length ∧ ∃ acc accV m2, Iv ds i acc m2 ∧ acc.length ≤ i ∧ Go m1 H1 m2 H2 ∧ So X.K (D :: Z) m2 H2 ∧ H2 D = some (.lst accV) ∧ DaL X.K ((D :: Z) ++ dom m2) H2 acc accV,
    ⟨ds.length, rfl, Nat.zero_le _, [], [], m1, q0, Nat.zero_le _, Ext.fresh hD, so.hides hD, upd_same, .nil⟩, fun i n H2 hw => ?_⟩
  obtain ⟨rfl, hi, acc, accV, m2, iv, hal, go2, so2, hd2, da2⟩ := hw
  obtain ⟨hgo, hstop, hy⟩ := it (D :: Z) hz i m2 H2 go2 so2
  by_cases hlt : i < ds.length
  · refine .inr ⟨hgo hlt, fun H3 => ∃ acc accV m2, Iv ds (i + 1) acc m2 ∧ acc.length ≤ i + 1 ∧ Go m1 H1 m2 H3 ∧ So X.K (D :: Z) m2 H3 ∧ H3 D = some (.lst accV) ∧ DaL X.K ((D :: Z) ++ dom m2) H3 acc accV,
      fun H3 hn => ⟨ds.length - (i + 1), by omega, rfl, hlt, hn⟩, fun v H3 yv => ?_⟩
    obtain ⟨gy, sy, dy⟩ := hy v H3 ds[i] (List.getElem?_eq_getElem hlt) yv
    have go3 : Go m1 H1 m2 H3 := go2.trans gy
    have nD : D ∉ dom m2 := so2.dj D List.mem_cons_self
    have hd3 : H3 D = some (.lst accV) := gy.keep D _ nD hd2
    have da3 : DaL X.K ((D :: Z) ++ dom m2) H3 acc accV := da2.move (Go.full (D :: Z) gy)
    have e1 : wipe g [i0] = g.set i0 none := rfl
    refine ⟨by show (((g.set i0 none).set i0 (some v)).set i0 none) = g.set i0 none; rw [set_set, set_set], fun s H' C cl fp => ?_⟩
    have rp3 : Rep X.K (D :: Z) m2 H3 ((g.set i0 none).set i0 (some v)) (f ds[i]) := by
      rw [set_set, hr]
      have b : Rep X.K (D :: Z) m2 H3 g r := ⟨sy, rp1.len, fun i d e => by
        obtain ⟨v, h1, h2⟩ := rp1.at' i d e
        exact ⟨v, h1, h2.move (Go.hide go3 hz)⟩⟩
      exact b.set i0 dy
    refine (qs i ds[i] acc m2 (List.getElem?_eq_getElem hlt) hal iv s H' C cl fp).run (D :: Z) _ H3 _ (fun _ _ _ _ => False) rp3 takes0 (fun b H4 m4 q4 go4 so4 => ?_) (fun _ _ _ _ _ _ _ _ q => q.elim)
    have nD4 : D ∉ dom m4 := so4.dj D List.mem_cons_self
    have hd4 : H4 D = some (.lst accV) := go4.keep D _ nD hd3
    have da4 : DaL X.K ((D :: Z) ++ dom m4) H4 acc accV := da3.move (Go.full (D :: Z) go4)
    cases b with
    | false => exact ⟨acc, accV, m4, q4, by omega, go3.trans go4, so4, hd4, da4⟩
    | true =>
      have q5 : ∀ s H C cl fp, LE (bk X scope s H C cl fp) elt (f ds[i]) m4 (fun y m4 => Iv ds (i + 1) (acc ++ [y]) m4) X0 := q4
      intro s H' C cl fp
      refine (q5 s H' C cl fp).run (D :: Z) _ H4 _ (fun _ _ _ _ => False) (rp3.go go4 so4) takes0 (fun v5 H5 d5 m5 q6 go5 so5 da5 => ?_) (fun _ _ _ _ _ _ _ _ q => q.elim)
      have hd5 : H5 D = some (.lst accV) := go5.keep D _ nD4 hd4
      have dl5 : DaL X.K ((D :: Z) ++ dom m5) H5 acc accV := da4.move (Go.full (D :: Z) go5)
      obtain ⟨s6, x6⟩ := so5.hid (o := .lst (accV ++ [v5]))
      have g6 : Go m1 H1 m5 H5 := (go3.trans go4).trans go5
      refine ⟨accV, hd5, by rw [← dl5.length]; omega, acc ++ [d5], accV ++ [v5], m5, q6, by rw [List.length_append, List.length_singleton]; omega, ⟨fun a o n e => ?_, g6.new⟩, s6, upd_same, (dl5.append (.cons da5 .nil)).move x6⟩
      rw [upd_ne (ne_of_none e hD)]
      exact g6.keep a o n e
  · have e : i = ds.length := by omega
    subst e
    have nD : D ∉ dom m2 := so2.dj D List.mem_cons_self
    refine .inl ⟨hstop (Nat.le_refl _), nk _ H2 _ m2 (qd acc m2 hal iv) (go.trans go2) so2.drop (.lst ⟨fun z => ?_, hd2⟩ (da2.move ⟨fun _ _ _ e => e, fun a ha => .inl ?_⟩))⟩
    · rcases List.mem_append.mp z with z | z
      · exact so.zs D z hD
      · exact nD z
    · rcases List.mem_append.mp ha with z | z
      · exact List.mem_append_left _ (List.mem_cons_of_mem _ z)
      · exact List.mem_append_right _ z
theorem le_lc {scope : Scope} {elt iter : Expr} {ifs : List Expr} {p2 : Pos} {f : Dt → En} (gd : Gd k N X) (hp : Put N r x f) (Iv : List Dt → Nat → List Dt → Mu → Prop) (h : LI X (.Name x p2) iter r m (LcOk X scope elt ifs f Iv F) E)
    (hb : ∀ i, N[i]? = some x → BlkOk X.N X.env.scope scope [(x, i)]) (hx : ∀ s H C cl fp, Loc (bk X scope s H C cl fp).env.scope x := by intro _ _ _ _ _; first | exact Or.inl rfl | exact Or.inr rfl)
    (hf : ∀ s H C cl fp, (bk X scope s H C cl fp).fn x = true ∨ (bk X scope s H C cl fp).env.scope.names.lookup x = some .local := by intro _ _ _ _ _; first | exact .inr rfl | exact .inl rfl)
    (hs : ∀ x, foldedSetIterable iter X.env x = pure x := by intro _; rfl) : LE X (.ListComp elt [⟨.Name x p2, iter, ifs, 0⟩] scope pos) r m F E := by
  obtain ⟨i, hi, hr⟩ := hp.ix
  refine ⟨fun Z g H Q Wx rp tk nk nx => (pe_lc (own := [(x, i)]) (g := gName i) (tt := bT X scope ifs) (te := bE X scope elt) gd.calm gd.nd' pi_w (hb i hi) (fun s H C cl fp => ?_) (fun s H C cl fp => ⟨fun pins s g H Q I h => pts_w.run pins s g H Q I (h _ _ _ _ _)⟩) (fun s H C cl fp => ⟨fun pins s g H Q I h => h _ _ _ _ _ pins s I⟩) hs).w (lc_read hr Iv h rp tk nk nx)⟩
  exact pg_name (i := i) gd.nd' (by show X.N[i]? = _; rw [gd.hN]; exact hi) (hx s H C cl fp) (hf s H C cl fp)
theorem ls_setlc {scope : Scope} {elt iter : Expr} {ifs : List Expr} {p2 py spos : Pos} {f h2 : Dt → En} {y : Str} {P : Pc} (gd : Gd k N X) (hp : Put N r x f) (hq : Put N r y h2) (Iv : List Dt → Nat → List Dt → Mu → Prop) (h : LI X (.Name x p2) iter r m (LcOk X scope elt ifs f Iv (fun d m1 => P.nx (h2 d) m1)) P.ex)
    (hyl : X.env.scope.names.lookup y = some .local) (hsw : swapsWith (.ListComp elt [⟨.Name x p2, iter, ifs, 0⟩] scope pos) (some (.Name y py)) spos.line X.env = pure true)
    (hb : ∀ i, N[i]? = some x → BlkOk X.N X.env.scope scope [(x, i)]) (hx : ∀ s H C cl fp, Loc (bk X scope s H C cl fp).env.scope x := by intro _ _ _ _ _; first | exact Or.inl rfl | exact Or.inr rfl)
    (hf : ∀ s H C cl fp, (bk X scope s H C cl fp).fn x = true ∨ (bk X scope s H C cl fp).env.scope.names.lookup x = some .local := by intro _ _ _ _ _; first | exact .inr rfl | exact .inl rfl)
    (hs : ∀ x, foldedSetIterable iter X.env x = pure x := by intro _; rfl) : LS X (.Assign [.Name y py] (.ListComp elt [⟨.Name x p2, iter, ifs, 0⟩] scope pos) spos) r m P := by
  obtain ⟨i, hi, hr⟩ := hp.ix
  obtain ⟨j, hj, hr2⟩ := hq.ix
  refine ⟨fun Z g H D Wx rp tk np => (ps_setLc (i := j) (own := [(x, i)]) (g := gName i) (tt := bT X scope ifs) (te := bE X scope elt) gd.calm gd.nd' (by rw [gd.hN]; exact hj) hyl hsw pi_w (hb i hi) (fun s H C cl fp => ?_) (fun s H C cl fp => ⟨fun pins s g H Q I h => pts_w.run pins s g H Q I (h _ _ _ _ _)⟩) (fun s H C cl fp => ⟨fun pins s g H Q I h => h _ _ _ _ _ pins s I⟩) hs).w
    (lc_read hr Iv h rp tk (fun v H1 d m1 q go so da => ?_) np.ex)⟩
  · exact pg_name (i := i) gd.nd' (by show X.N[i]? = _; rw [gd.hN]; exact hi) (hx s H C cl fp) (hf s H C cl fp)
  · have q' : P.nx (h2 d) m1 := q
    rw [hr2 d] at q'
    exact np.nx _ H1 _ m1 q' go ((rp.go go so).set j da)
end
end Dw
namespace Dw
open PySem PySem.Spec PyProof.Rows L2
section
variable {X : Cx} {m : Mu} {G : Dt → Prop} {F : Pd}
/-! ### whole numbers -/
theorem o_int {f : Value → Value → Sem Value} {g : Int → Int → V} {d : Dt} {i j : Int} (h : OpR X f (rI0 g)) (hd : ∀ D H, Da X.K D H d (g i j)) (q : G d) : O2 X f (.int i) (.int j) m G :=
  o2_of h fun Z H vx vy Q so dx dy nk => by
    cases dx
    cases dy
    exact ⟨i, j, rfl, rfl, nk _ H _ m ⟨rfl, q⟩ Ext.rfl' so (hd _ _)⟩
theorem o_intC {f : Value → Value → Sem Value} {C : Int → Int → Prop} {g : Int → Int → V} {d : Dt} {i j : Int} (h : OpR X f (rI C g)) (hc : C i j) (hd : ∀ D H, Da X.K D H d (g i j)) (q : G d) : O2 X f (.int i) (.int j) m G :=
  o2_of h fun Z H vx vy Q so dx dy nk => by
    cases dx
    cases dy
    exact ⟨i, j, rfl, rfl, hc, nk _ H _ m ⟨rfl, q⟩ Ext.rfl' so (hd _ _)⟩
theorem o_add {i j : Int} (q : G (.int (i + j))) : O2 X (binaryOp .Add) (.int i) (.int j) m G := o_int op_add (fun _ _ => .int _) q
theorem o_sub {i j : Int} (q : G (.int (i - j))) : O2 X (binaryOp .Sub) (.int i) (.int j) m G := o_int op_sub (fun _ _ => .int _) q
theorem o_mul {i j : Int} (h : CMul i j) (q : G (.int (i * j))) : O2 X (binaryOp .Mult) (.int i) (.int j) m G := o_intC op_mul h (fun _ _ => .int _) q
theorem o_mulW {i j : Int} (h : CMulW i j) (q : G (.int (i * j))) : O2 X (binaryOp .Mult) (.int i) (.int j) m G := o_intC op_mulW h (fun _ _ => .int _) q
theorem o_fdiv {i j : Int} (h : CDiv i j) (q : G (.int (i / j))) : O2 X (binaryOp .FloorDiv) (.int i) (.int j) m G := o_intC op_fdiv h (fun _ _ => .int _) q
theorem o_fdivW {i j : Int} (h : CDivW i j) (q : G (.int (i / j))) : O2 X (binaryOp .FloorDiv) (.int i) (.int j) m G := o_intC op_fdivW h (fun _ _ => .int _) q
theorem o_mod {i j : Int} (h : 0 < j) (q : G (.int (i % j))) : O2 X (binaryOp .Mod) (.int i) (.int j) m G := o_intC op_mod h (fun _ _ => .int _) q
theorem o_pow {i j : Int} (h : CPow i j) (q : G (.int (i ^ j.toNat))) : O2 X (binaryOp .Pow) (.int i) (.int j) m G := o_intC op_pow h (fun _ _ => .int _) q
theorem o_lt {i j : Int} (q : G (.bl (decide (i < j)))) : O2 X (compareOp .Lt) (.int i) (.int j) m G := o_int op_lt (fun _ _ => .bl _) q
theorem o_le {i j : Int} (q : G (.bl (decide (i ≤ j)))) : O2 X (compareOp .LtE) (.int i) (.int j) m G := o_int op_le (fun _ _ => .bl _) q
theorem o_gt {i j : Int} (q : G (.bl (decide (j < i)))) : O2 X (compareOp .Gt) (.int i) (.int j) m G := o_int op_gt (fun _ _ => .bl _) q
theorem o_ge {i j : Int} (q : G (.bl (decide (j ≤ i)))) : O2 X (compareOp .GtE) (.int i) (.int j) m G := o_int op_ge (fun _ _ => .bl _) q
theorem o_neg {i : Int} (q : G (.int (-i))) : O1 X (unaryOp .USub) (.int i) m G :=
  o1_of un_neg fun Z H vx Q so dx nk => by
    cases dx
    exact ⟨i, rfl, nk _ H _ m ⟨rfl, q⟩ Ext.rfl' so (.int _)⟩
/-! ### == and != of flat things -/
def flat : Dt → Option V
  | .non => some .non
  | .bl b => some (.bl b)
  | .int i => some (.int i)
  | .str x => some (.str x)
  | _ => none
theorem flat_da {K : PySem.W.Frag} {D : List Addr} {H : Hp} {d : Dt} {v u : V} (h : Da K D H d v) (e : flat d = some u) : v = u := by
  cases h <;> first | (cases e; rfl) | cases e
theorem o_eq {x y : Dt} {a b : V} (hx : flat x = some a) (hy : flat y = some b) (hs : scal a b = true) (q : G (.bl (decide (a = b)))) : O2 X (compareOp .Eq) x y m G :=
  o2_of op_eq fun Z H vx vy Q so dx dy nk => by
    rw [flat_da dx hx, flat_da dy hy]
    exact ⟨hs, nk _ H _ m ⟨rfl, q⟩ Ext.rfl' so (.bl _)⟩
theorem o_ne {x y : Dt} {a b : V} (hx : flat x = some a) (hy : flat y = some b) (hs : scal a b = true) (q : G (.bl (!decide (a = b)))) : O2 X (compareOp .NotEq) x y m G :=
  o2_of op_ne fun Z H vx vy Q so dx dy nk => by
    rw [flat_da dx hx, flat_da dy hy]
    exact ⟨hs, nk _ H _ m ⟨rfl, q⟩ Ext.rfl' so (.bl _)⟩
theorem o_eq_int {i j : Int} (q : G (.bl (decide (i = j)))) : O2 X (compareOp .Eq) (.int i) (.int j) m G := o_eq rfl rfl rfl (by rw [show decide (V.int i = V.int j) = decide (i = j) by simp]; exact q)
theorem o_ne_int {i j : Int} (q : G (.bl (!decide (i = j)))) : O2 X (compareOp .NotEq) (.int i) (.int j) m G := o_ne rfl rfl rfl (by rw [show decide (V.int i = V.int j) = decide (i = j) by simp]; exact q)
theorem o_eq_str {i j : Str} (q : G (.bl (decide (i = j)))) : O2 X (compareOp .Eq) (.str i) (.str j) m G := o_eq rfl rfl rfl (by rw [show decide (V.str i = V.str j) = decide (i = j) by simp]; exact q)
theorem o_ne_str {i j : Str} (q : G (.bl (!decide (i = j)))) : O2 X (compareOp .NotEq) (.str i) (.str j) m G := o_ne rfl rfl rfl (by rw [show decide (V.str i = V.str j) = decide (i = j) by simp]; exact q)
theorem isnon_da {K : PySem.W.Frag} {D : List Addr} {H : Hp} {d : Dt} {v : V} (h : Da K D H d v) (hr : ∀ u, d ≠ .raw u) : decide (v = .non) = (match d with | .non => true | _ => false) := by
  cases h <;> first | rfl | exact absurd rfl (hr _)
def isNon : Dt → Bool | .non => true | .raw .non => true | _ => false
theorem isNon_da {K : PySem.W.Frag} {D : List Addr} {H : Hp} {d : Dt} {v : V} (h : Da K D H d v) : decide (v = .non) = isNon d := by
  cases h with
  | raw => cases v <;> rfl
  | _ => rfl
theorem o_isN {x : Dt} (q : G (.bl (isNon x))) : O2 X (compareOp .Is) x .non m G :=
  o2_of op_isN fun Z H vx vy Q so dx dy nk => by
    cases dy
    exact ⟨rfl, nk _ H _ m ⟨rfl, by rw [isNon_da dx] ; exact q⟩ Ext.rfl' so (.bl _)⟩
theorem o_notN {x : Dt} (q : G (.bl (!isNon x))) : O2 X (compareOp .IsNot) x .non m G :=
  o2_of op_notN fun Z H vx vy Q so dx dy nk => by
    cases dy
    exact ⟨rfl, nk _ H _ m ⟨rfl, by rw [isNon_da dx] ; exact q⟩ Ext.rfl' so (.bl _)⟩
/-! ### texts -/
theorem o_adds {x y : Str} (h : x.length + y.length ≤ sizeLine) (q : G (.str (x ++ y))) : O2 X (binaryOp .Add) (.str x) (.str y) m G :=
  o2_of op_add_str fun Z H vx vy Q so dx dy nk => by
    cases dx
    cases dy
    exact ⟨x, y, rfl, rfl, h, nk _ H _ m ⟨rfl, q⟩ Ext.rfl' so (.str _)⟩
theorem op_muls : OpR X (binaryOp .Mult) (fun x y H Q => ∃ z i, x = .str z ∧ y = .int i ∧ MulOk z i ∧ Q (.str (Txt.mul z i)) H) := by
  intro pins s g H x y v u Q I rx ry h
  obtain ⟨z, i, rfl, rfl, hok, q⟩ := h
  obtain ⟨t, rfl⟩ := rx
  obtain ⟨t', rfl⟩ := ry
  exact SB.mul hok fun t2 k => ⟨.str _, H, I.tok k, ⟨_, rfl⟩, q⟩
theorem o_muls {x : Str} {i : Int} (h : MulOk x i) (q : G (.str (Txt.mul x i))) : O2 X (binaryOp .Mult) (.str x) (.int i) m G :=
  o2_of op_muls fun Z H vx vy Q so dx dy nk => by
    cases dx
    cases dy
    exact ⟨x, i, rfl, rfl, h, nk _ H _ m ⟨rfl, q⟩ Ext.rfl' so (.str _)⟩
theorem o_ltS {x y : Str} (q : G (.bl (decide (x.cps.toList < y.cps.toList)))) : O2 X (compareOp .Lt) (.str x) (.str y) m G :=
  o2_of op_lt_str fun Z H vx vy Q so dx dy nk => by
    cases dx
    cases dy
    exact ⟨x, y, rfl, rfl, nk _ H _ m ⟨rfl, q⟩ Ext.rfl' so (.bl _)⟩
theorem o_leS {x y : Str} (q : G (.bl (!decide (y.cps.toList < x.cps.toList)))) : O2 X (compareOp .LtE) (.str x) (.str y) m G :=
  o2_of op_le_str fun Z H vx vy Q so dx dy nk => by
    cases dx
    cases dy
    exact ⟨x, y, rfl, rfl, nk _ H _ m ⟨rfl, q⟩ Ext.rfl' so (.bl _)⟩
theorem o_inS {c : Nat} {y : Str} (q : G (.bl (decide (c ∈ y.cps.toList)))) : O2 X (compareOp .In) (.str ⟨#[c]⟩) (.str y) m G :=
  o2_of op_in_sign fun Z H vx vy Q so dx dy nk => by
    cases dx
    cases dy
    exact ⟨c, y, rfl, rfl, nk _ H _ m ⟨rfl, q⟩ Ext.rfl' so (.bl _)⟩
theorem o_notInS {c : Nat} {y : Str} (q : G (.bl (!decide (c ∈ y.cps.toList)))) : O2 X (compareOp .NotIn) (.str ⟨#[c]⟩) (.str y) m G :=
  o2_of op_notIn_sign fun Z H vx vy Q so dx dy nk => by
    cases dx
    cases dy
    exact ⟨c, y, rfl, rfl, nk _ H _ m ⟨rfl, q⟩ Ext.rfl' so (.bl _)⟩
/-! ### lists, tuples -/
theorem o_cat {xs ys : List Dt} (h : xs.length + ys.length ≤ sizeLine) (q : G (.lst (xs ++ ys))) : O2 X (binaryOp .Add) (.lst xs) (.lst ys) m G :=
  o2_of op_cat fun Z H vx vy Q so dx dy nk => by
    cases dx with
    | lst h1 h2 =>
      cases dy with
      | lst h3 h4 => exact ⟨_, _, _, _, rfl, rfl, h1.2, h3.2, by rw [← h2.length, ← h4.length]; exact h, fun p hp => nk _ _ _ m ⟨rfl, q⟩ (Ext.fresh hp) (so.laid hp) (da_new_lst so hp (h2.append h4))⟩
theorem o_catT {xs ys : List Dt} (h : xs.length + ys.length ≤ sizeLine) (q : G (.tup (xs ++ ys))) : O2 X (binaryOp .Add) (.tup xs) (.tup ys) m G :=
  o2_of op_catA fun Z H vx vy Q so dx dy nk => by
    have dx0 := dx
    have dy0 := dy
    cases dx with
    | tup h1 h2 =>
      cases dy with
      | tup h3 h4 =>
        refine ⟨_, _, _, _, rfl, rfl, h1.sq, h3.sq, by rw [← h2.length, ← h4.length]; exact h, fun e => ?_, fun _ e => ?_, fun _ _ p hp => nk _ _ _ m ⟨rfl, q⟩ (Ext.fresh hp) (so.laid hp) (da_new_tup so hp (h2.append h4))⟩
        · have ex : xs = [] := by
            have := h2.length
            rw [e] at this
            exact List.length_eq_zero_iff.mp this
          subst ex
          exact nk _ H _ m ⟨rfl, q⟩ Ext.rfl' so dy0
        · have ey : ys = [] := by
            have := h4.length
            rw [e] at this
            exact List.length_eq_zero_iff.mp this
          subst ey
          rw [List.append_nil] at q
          exact nk _ H _ m ⟨rfl, q⟩ Ext.rfl' so dx0
/-! ### built-ins -/
theorem c_len_lst {ds : List Dt} (q : F (.int ds.length) m) : OC X (.builtin "len") [.lst ds] m F :=
  oc_of call_len_seq fun Z H vs Q so da nk => by
    cases da with
    | cons d1 d2 =>
      cases d2
      cases d1 with
      | lst h1 h2 => exact ⟨_, _, rfl, .inl h1.sq, by rw [← h2.length]; exact nk _ H _ m q Ext.rfl' so (.int _)⟩
theorem c_len_frz {ds : List Dt} (q : F (.int ds.length) m) : OC X (.builtin "len") [.frz ds] m F :=
  oc_of call_len_seq fun Z H vs Q so da nk => by
    cases da with
    | cons d1 d2 =>
      cases d2
      cases d1 with
      | frz h1 h2 => exact ⟨_, _, rfl, .inl h1.sq, by rw [← h2.length]; exact nk _ H _ m q Ext.rfl' so (.int _)⟩
theorem c_len_tup {ds : List Dt} (q : F (.int ds.length) m) : OC X (.builtin "len") [.tup ds] m F :=
  oc_of call_len_seq fun Z H vs Q so da nk => by
    cases da with
    | cons d1 d2 =>
      cases d2
      cases d1 with
      | tup h1 h2 => exact ⟨_, _, rfl, .inr h1.sq, by rw [← h2.length]; exact nk _ H _ m q Ext.rfl' so (.int _)⟩
theorem c_len_str {x : Str} (h : x.length ≤ sizeLine) (q : F (.int x.length) m) : OC X (.builtin "len") [.str x] m F :=
  oc_of call_len_str fun Z H vs Q so da nk => by
    cases da with
    | cons d1 d2 =>
      cases d2
      cases d1
      exact ⟨x, rfl, h, nk _ H _ m q Ext.rfl' so (.int _)⟩
theorem c_abs {i : Int} (q : F (.int (if i < 0 then -i else i)) m) : OC X (.builtin "abs") [.int i] m F :=
  oc_of call_abs fun Z H vs Q so da nk => by
    cases da with
    | cons d1 d2 =>
      cases d2
      cases d1
      exact ⟨i, rfl, nk _ H _ m q Ext.rfl' so (.int _)⟩
theorem c_max2 {i j : Int} (hc : X.calm = true) (q : F (.int (if j > i then j else i)) m) : OC X (.builtin "max") [.int i, .int j] m F :=
  oc_of (call_max2 hc) fun Z H vs Q so da nk => by
    cases da with
    | cons d1 d2 =>
      cases d2 with
      | cons d2 d3 =>
        cases d3
        cases d1
        cases d2
        exact ⟨i, j, rfl, nk _ H _ m q Ext.rfl' so (.int _)⟩
theorem c_min2 {i j : Int} (hc : X.calm = true) (q : F (.int (if j < i then j else i)) m) : OC X (.builtin "min") [.int i, .int j] m F :=
  oc_of (call_min2 hc) fun Z H vs Q so da nk => by
    cases da with
    | cons d1 d2 =>
      cases d2 with
      | cons d2 d3 =>
        cases d3
        cases d1
        cases d2
        exact ⟨i, j, rfl, nk _ H _ m q Ext.rfl' so (.int _)⟩
theorem c_int_bl {b : Bool} (q : F (.int (if b then 1 else 0)) m) : OC X (.type "int") [.bl b] m F :=
  oc_of call_int1 fun Z H vs Q so da nk => by
    cases da with
    | cons d1 d2 =>
      cases d2
      cases d1
      exact .inr ⟨b, rfl, nk _ H _ m q Ext.rfl' so (.int _)⟩
theorem c_int_str {x : Str} {n : Int} (h : PySem.intText? x = some n) (hl : x.length ≤ 640) (q : F (.int n) m) : OC X (.type "int") [.str x] m F :=
  oc_of call_int_str fun Z H vs Q so da nk => by
    cases da with
    | cons d1 d2 =>
      cases d2
      cases d1
      exact ⟨x, n, rfl, h, hl, nk _ H _ m q Ext.rfl' so (.int _)⟩
theorem c_str_int {i : Int} (h : i.natAbs.log2 < 1920) (q : F (.str (toString i)) m) : OC X (.type "str") [.int i] m F :=
  oc_of call_str_int fun Z H vs Q so da nk => by
    cases da with
    | cons d1 d2 =>
      cases d2
      cases d1
      exact ⟨i, rfl, h, nk _ H _ m q Ext.rfl' so (.str _)⟩
theorem c_ord {c : Nat} (q : F (.int (c : Nat)) m) : OC X (.builtin "ord") [.str ⟨#[c]⟩] m F :=
  oc_of call_ord fun Z H vs Q so da nk => by
    cases da with
    | cons d1 d2 =>
      cases d2
      cases d1
      exact ⟨⟨#[c]⟩, rfl, rfl, nk _ H _ m q Ext.rfl' so (.int _)⟩
theorem bools_da {K : PySem.W.Frag} {D : List Addr} {H : Hp} : ∀ {bs : List Bool} {vs : List V}, DaL K D H (bs.map Dt.bl) vs → vs = bs.map V.bl
  | [], _, .nil => rfl
  | b :: bs, _, .cons h t => by
    cases h
    rw [bools_da t]
    rfl
theorem c_all {bs : List Bool} (hc : X.calm = true) (q : F (.bl (bs.all id)) m) : OC X (.builtin "all") [.lst (bs.map Dt.bl)] m F :=
  oc_of (cr_all hc) fun Z H vs Q so da nk => by
    cases da with
    | cons d1 d2 =>
      cases d2
      cases d1 with
      | lst h1 h2 =>
        have e := bools_da h2
        subst e
        exact ⟨_, bs, rfl, h1.sq, nk _ H _ m q Ext.rfl' so (.bl _)⟩
theorem c_any {bs : List Bool} (hc : X.calm = true) (q : F (.bl (bs.any id)) m) : OC X (.builtin "any") [.lst (bs.map Dt.bl)] m F :=
  oc_of (cr_any hc) fun Z H vs Q so da nk => by
    cases da with
    | cons d1 d2 =>
      cases d2
      cases d1 with
      | lst h1 h2 =>
        have e := bools_da h2
        subst e
        exact ⟨_, bs, rfl, h1.sq, nk _ H _ m q Ext.rfl' so (.bl _)⟩
/-! ### data and the library's data: repr, deep == -/
mutual
def py : Dt → PyData
  | .non => .none
  | .bl b => .bool b
  | .int i => .int i
  | .str x => .str x
  | .lst ds => .list (pys ds)
  | .tup ds => .tuple (pys ds)
  | .frz ds => .list (pys ds)
  | .dct ks => .dict (pyk ks)
  | .exc _ _ _ => .none
  | .cau _ _ _ => .none
  | .raw _ => .none
def pys : List Dt → List PyData
  | [] => []
  | d :: ds => py d :: pys ds
def pyk : List (Key × Dt) → List (PyData × PyData)
  | [] => []
  | (k, d) :: ks => ((match k with | .inl i => .int i | .inr x => .str x), py d) :: pyk ks
end
mutual
def plain : Dt → Bool
  | .raw _ => false
  | .exc _ _ _ => false
  | .cau _ _ _ => false
  | .dct _ => false
  | .lst ds => plains ds
  | .tup ds => plains ds
  | .frz ds => plains ds
  | _ => true
def plains : List Dt → Bool
  | [] => true
  | d :: ds => plain d && plains ds
end
mutual
theorem Da.dp {K : PySem.W.Frag} {D : List Addr} {H : Hp} : ∀ {d : Dt} {v : V}, Da K D H d v → plain d = true → Dp K H v (py d)
  | _, _, .non, _ => .non
  | _, _, .bl b, _ => .bl b
  | _, _, .int i, _ => .int i
  | _, _, .str x, _ => .str x
  | _, _, .lst h1 h2, p => .lst h1.sq (DaL.dp h2 (by simpa [plain] using p))
  | _, _, .tup h1 h2, p => .tup h1.sq (DaL.dp h2 (by simpa [plain] using p))
  | _, _, .frz h1 h2, p => .lst h1.sq (DaL.dp h2 (by simpa [plain] using p))
  | _, _, .raw _, p => by simp [plain] at p
  | _, _, .cau _ _ _, p => by simp [plain] at p
  | _, _, .dct _ _ _, p => by simp [plain] at p
  | _, _, .exc _ _ _ _ _ _ _, p => by simp [plain] at p
theorem DaL.dp {K : PySem.W.Frag} {D : List Addr} {H : Hp} : ∀ {ds : List Dt} {vs : List V}, DaL K D H ds vs → plains ds = true → DpAll K H vs (pys ds)
  | _, _, .nil, _ => .nil
  | d :: ds, _, .cons h t, p => by
    have p2 : plain d = true ∧ plains ds = true := by simpa [plains] using p
    exact .cons (Da.dp h p2.1) (DaL.dp t p2.2)
end
/-- what repr tells -/
def shows (d : Dt) : Str := (py d).shown
structure Shw (d : Dt) : Prop where
  pl : plain d = true
  sh : (py d).showable = true
  nd : (py d).hasDict = false
  dp : (py d).depth ≤ 60
  sz : (shows d).length ≤ sizeLine
theorem c_repr {k : Nat} {N : List Str} {d : Dt} (hg : X.A.guards = some []) (hu : X.A.units + 64 < cLine) (h : Shw d) (q : F (.str (shows d)) m) : OC X (.builtin "repr") [d] m F := by
  refine ⟨fun Z H vs Q so da nk pins s g I us rv => ?_⟩
  cases da with
  | cons d1 d2 =>
    cases d2
    cases rv with
    | cons r1 r2 =>
      cases r2
      have fin : ∀ (h' : Heap) (u : Tok) (tk : Nat), (∀ b o, s.heap.get? b = some o → h'.get? b = some o) → EP X pins g Q (.str (shows d) u) { s with heap := h', toks := tk } := fun h' u tk hk =>
        ⟨.str _, H, I.kept hk, ⟨_, rfl⟩, nk _ H _ m q Ext.rfl' so (.str _)⟩
      obtain ⟨as, rd⟩ := Dp.reads I (py d) _ _ (d1.dp h.pl) r1
      have sz := h.sz
      cases d1 with
      | non => cases r1; exact PySem.P.repr_of_none (fin _ _ _ fun _ _ e => e)
      | bl b => cases r1; exact PySem.P.repr_of_bool (fin _ _ _ fun _ _ e => e)
      | int i => obtain ⟨t, rfl⟩ := r1; exact PySem.P.repr_of_int (by have := h.sh; simpa [py, PyData.showable] using this) (fin _ _ _ fun _ _ e => e)
      | str x => obtain ⟨t, rfl⟩ := r1; exact PySem.P.repr_of_str (fin _ _ _ fun _ _ e => e) sz
      | lst h1 h2 => cases r1; exact repr_of_reads' rd h.sh (PyData.noDict_hsm h.nd) hg (by have := h.dp; omega) (fun _ _ e => e) (fun h' u tk hk => fin h' u tk hk) sz
      | tup h1 h2 => cases r1; exact repr_of_reads' rd h.sh (PyData.noDict_hsm h.nd) hg (by have := h.dp; omega) (fun _ _ e => e) (fun h' u tk hk => fin h' u tk hk) sz
      | frz h1 h2 => cases r1; exact repr_of_reads' rd h.sh (PyData.noDict_hsm h.nd) hg (by have := h.dp; omega) (fun _ _ e => e) (fun h' u tk hk => fin h' u tk hk) sz
      | dct n h1 h2 => have := h.pl; simp [plain] at this
      | exc n h1 n2 h2 n4 h4 h3 => have := h.pl; simp [plain] at this
      | cau n h1 h2 => have := h.pl; simp [plain] at this
      | raw v => have := h.pl; simp [plain] at this
theorem o_eqD {x y : Dt} (hu : X.A.units + 64 < cLine) (px : plain x = true) (py' : plain y = true) (sx : SeqAt.shaped (py x) = true) (sy : SeqAt.shaped (py y) = true) (q : G (.bl (PyData.eqv (py x) (py y)))) : O2 X (compareOp .Eq) x y m G :=
  o2_of (op_eqD hu) fun Z H vx vy Q so dx dy nk => ⟨_, _, dx.dp px, dy.dp py', sx, sy, nk _ H _ m ⟨rfl, q⟩ Ext.rfl' so (.bl _)⟩
theorem o_neD {x y : Dt} (hu : X.A.units + 64 < cLine) (px : plain x = true) (py' : plain y = true) (sx : SeqAt.shaped (py x) = true) (sy : SeqAt.shaped (py y) = true) (q : G (.bl (!PyData.eqv (py x) (py y)))) : O2 X (compareOp .NotEq) x y m G :=
  o2_of (op_neD hu) fun Z H vx vy Q so dx dy nk => ⟨_, _, dx.dp px, dy.dp py', sx, sy, nk _ H _ m ⟨rfl, q⟩ Ext.rfl' so (.bl _)⟩
end
end Dw
namespace Dw
open PySem PySem.Spec PyProof.Rows L2
/-! ### isinstance -/
def tyD : Dt → Option String
  | .non => some "NoneType"
  | .bl _ => some "bool"
  | .int _ => some "int"
  | .str _ => some "str"
  | .lst _ => some "list"
  | .frz _ => some "list"
  | .tup _ => some "tuple"
  | .dct _ => some "dict"
  | .exc _ _ _ => none
  | .cau _ _ _ => none
  | .raw _ => none
theorem sqL_K {K : PySem.W.Frag} {a : Addr} {xs : List V} (h : SqL K H0 a xs) : ∃ o, K.lookup a = some o ∧ o.cls = .type "list" := by
  rcases h with h | ⟨o, its, n, h1, h2, _⟩
  · exact (rd_none h).elim
  · exact ⟨o, h1, h2⟩
theorem sqT_K {K : PySem.W.Frag} {a : Addr} {xs : List V} (h : SqT K H0 a xs) : ∃ (o : Obj) (its : Array Value) (n : Nat), K.lookup a = some o ∧ o.cls = .type "tuple" ∧ o.data = .seq its n ∧ Vals xs its.toList := by
  rcases h with h | ⟨o, its, n, h1, h2, h3, _, h4⟩
  · exact (rd_none h).elim
  · exact ⟨o, its, n, h1, h2, h3, h4⟩
theorem tyx_da {K : PySem.W.Frag} {D : List Addr} {H : Hp} {d : Dt} {v : V} {T : String} (h : Da K D H d v) (e : tyD d = some T) : TyX K H v (.type T) := by
  cases h with
  | non => cases e; exact .base .non
  | bl b => cases e; exact .base (.bl b)
  | int i => cases e; exact .base (.int i)
  | str x => cases e; exact .base (.str x)
  | lst h1 h2 => cases e; exact .base (.lst h1.2)
  | frz h1 h2 =>
    cases e
    rcases h1 with ⟨_, h1 | ⟨o, h1⟩⟩ | h1
    · exact .base (.lst h1)
    · exact .base (.frz h1)
    · obtain ⟨o, e1, e2⟩ := sqL_K h1
      exact .kList e1 e2
  | tup h1 h2 =>
    cases e
    rcases h1 with ⟨_, h1⟩ | h1
    · exact .base (.tup h1)
    · obtain ⟨o, _, _, e1, e2, _⟩ := sqT_K h1
      exact .kTuple e1 e2
  | dct n h1 h2 => cases e; exact .base (.dK h1)
  | exc n h1 n2 h2 n4 h4 h3 => cases e
  | cau n h1 h2 => cases e
  | raw v => cases e
section
variable {X : Cx} {m : Mu} {G : Dt → Prop} {F : Pd} {e o : Expr} {es : List Expr} {r : En} {E : Xd} {pos apos : Pos} {k : Nat} {N : List Str}
theorem c_isi {x : Dt} {T T' : String} {b : Bool} (h : tyD x = some T') (hb : kitB T' T = some b) (q : F (.bl b) m) : OC X (.builtin "isinstance") [x, .raw (.ty T)] m F :=
  oc_of call_isi fun Z H vs Q so da nk => by
    cases da with
    | cons d1 d2 =>
      cases d2 with
      | cons d2 d3 =>
        cases d3
        cases d2
        exact ⟨_, _, _, _, b, rfl, .ty T, tyx_da d1 h, kit_ty hb, nk _ H _ m q Ext.rfl' so (.bl _)⟩
theorem raws_da {K : PySem.W.Frag} {D : List Addr} {H : Hp} : ∀ {Ts : List String} {vs : List V}, DaL K D H (Ts.map fun T => Dt.raw (.ty T)) vs → vs = Ts.map V.ty
  | [], _, .nil => rfl
  | T :: Ts, _, .cons h t => by
    cases h
    rw [raws_da t]
    rfl
theorem cls_all : ∀ Ts : List String, Paired ClsV (Ts.map V.ty) (Ts.map Value.type)
  | [] => .nil
  | T :: Ts => .cons (.ty T) (cls_all Ts)
theorem vals_ty : ∀ {Ts : List String} {us : List Value}, Vals (Ts.map V.ty) us → us = Ts.map Value.type
  | [], _, .nil => rfl
  | T :: Ts, _, .cons h t => by
    rw [vals_ty t]
    cases h
    rfl
def kitAnyB (T : String) : List String → Option Bool
  | [] => some false
  | U :: Us => match kitB T U with
    | some true => some true
    | some false => kitAnyB T Us
    | none => none
theorem kitAny_ty {K : PySem.W.Frag} {T : String} : ∀ {Us : List String} {b : Bool}, kitAnyB T Us = some b → PySem.W.kitAny K (.type T) (Us.map Value.type) = some b
  | [], b, h => by cases h; rfl
  | U :: Us, b, h => by
    unfold kitAnyB at h
    cases e : kitB T U with
    | none => rw [e] at h; cases h
    | some c =>
      rw [e] at h
      cases c with
      | true => cases h; exact kitAny_cons (kit_ty e) (fun z => nomatch z) (fun _ => rfl)
      | false => exact kitAny_cons (kit_ty e) (fun _ => kitAny_ty h) (fun z => nomatch z)
theorem c_isiT {x : Dt} {T' : String} {Ts : List String} {b : Bool} (h : tyD x = some T') (hb : kitAnyB T' Ts = some b) (q : F (.bl b) m) : OC X (.builtin "isinstance") [x, .tup (Ts.map fun T => .raw (.ty T))] m F := by
  refine ⟨fun Z H vs Q so da nk pins s g I us rv => ?_⟩
  cases da with
  | cons d1 d2 =>
    cases d2 with
    | cons d2 d3 =>
      cases d3
      have q' := nk _ H _ m q Ext.rfl' so (.bl b)
      cases d2 with
      | tup h1 h2 =>
        have e := raws_da h2
        subst e
        rcases h1 with ⟨_, h1⟩ | h1
        · exact call_isiT pins s g H _ us Q I rv ⟨_, _, _, _, _, b, rfl, h1, cls_all Ts, tyx_da d1 h, kitAny_ty hb, q'⟩
        · obtain ⟨⟨oc, od, dt, sl⟩, its, n, e1, e2, e3, e4⟩ := sqT_K h1
          have e5 := vals_ty e4
          simp only at e2 e3
          subst e2 e3
          have e6 : its = (Ts.map Value.type).toArray := by rw [← e5]
          subst e6
          exact call_isiK pins s g H _ us Q I rv ⟨_, _, od, _, n, sl, _, b, rfl, e1, tyx_da d1 h, kitAny_ty hb, q'⟩
/-! ### methods of texts -/
structure OM (X : Cx) (R : V → List V → Hp → VK → Prop) (x : Dt) (xs : List Dt) (m : Mu) (F : Pd) : Prop where
  run : ∀ (Z : List Addr) (H : Hp) (vx : V) (vs : List V) (Q : VK), So X.K Z m H → Da X.K (Z ++ dom m) H x vx → DaL X.K (Z ++ dom m) H xs vs → NK X.K Z m H F Q → R vx vs H Q
theorem le_ms {name : Str} {id : String} {R : V → List V → Hp → VK → Prop} (slot : Slot "str" name id) (hty : typeOf (.builtin id) = pure (.type "method_descriptor")) (hm : MtR X id R)
    (h : LE X o r m (fun x m1 => (∃ z, x = .str z) ∧ LA X (e :: es) r m1 (fun ds m2 => OM X R x ds m2 F) E) E)
    (hbase : attributeBase o name X.env (eval o X.env) = eval o X.env := by rfl)
    (hfew : ((backTo pos (starEach (e :: es) X.env)).all (fun x => !x.1) && (backToKw pos (keywordEach [] X.env)).all (fun x => x.1.isSome)
      && decide ((e :: es).length + ([] : List Keyword).length + (if ([] : List Keyword).isEmpty then 0 else 1) < 30)) = true := by rfl)
    (hline : (apos.endLine == pos.line) = true := by rfl) (hs : starEach (e :: es) X.env = (false, eval e X.env) :: starEach es X.env := by rfl) (hplain : (backTo pos (starEach es X.env)).any (·.1) = false := by rfl) :
    LE X (.Call (.Attribute o name apos) (e :: es) [] pos) r m F E := by
  refine ⟨fun Z st H Q W rp tk nk nx => (pe_bm PySem.F.plainAttrs_str slot hty hm pe_w pa_w hbase hfew hline hs hplain).w ?_⟩
  refine h.run Z st H _ W rp tk (fun v H1 d m1 q go so da => ?_) nx
  obtain ⟨⟨z, rfl⟩, q⟩ := q
  cases da
  refine ⟨rfl, q.run Z st H1 _ W (rp.go go so) tk (fun vs H2 ds m2 q2 go2 so2 da2 => ?_) (nx.go go)⟩
  exact q2.run Z H2 _ vs Q so2 (.str z) da2 (nk.go (go.trans go2))
theorem strs_da {K : PySem.W.Frag} {D : List Addr} {H : Hp} : ∀ {ys : List Str} {vs : List V}, DaL K D H (ys.map Dt.str) vs → vs = ys.map V.str
  | [], _, .nil => rfl
  | b :: bs, _, .cons h t => by
    cases h
    rw [strs_da t]
    rfl
theorem le_join (h : LE X o r m (fun x m1 => (∃ z, x = .str z) ∧ LA X [e] r m1 (fun ds m2 => ∃ z ys, x = .str z ∧ (ds = [.lst (ys.map Dt.str)] ∨ ds = [.tup (ys.map Dt.str)]) ∧ (ys.map (·.length)).sum + ys.length * z.length ≤ 16777216 ∧ F (.str (Txt.join z ys)) m2) E) E)
    (hbase : attributeBase o "join" X.env (eval o X.env) = eval o X.env := by rfl)
    (hfew : ((backTo pos (starEach [e] X.env)).all (fun x => !x.1) && (backToKw pos (keywordEach [] X.env)).all (fun x => x.1.isSome)
      && decide ([e].length + ([] : List Keyword).length + (if ([] : List Keyword).isEmpty then 0 else 1) < 30)) = true := by rfl)
    (hline : (apos.endLine == pos.line) = true := by rfl) (hs : starEach [e] X.env = (false, eval e X.env) :: starEach [] X.env := by rfl) : LE X (.Call (.Attribute o "join" apos) [e] [] pos) r m F E := by
  refine le_ms PySem.F.slot_str_join PySem.F.type_str_join mt_join (h.imp fun x m1 q => ⟨q.1, ⟨fun Z st H Q W rp tk nk nx => q.2.run Z st H Q W rp tk (fun vs H1 ds m2 q2 => nk vs H1 ds m2 ⟨fun Z9 H9 vx vs9 Q9 so9 da9 dl9 nk9 => ?_⟩) nx⟩⟩) hbase hfew hline hs
  obtain ⟨z, ys, rfl, q2, q3, q4⟩ := q2
  cases da9
  rcases q2 with rfl | rfl
  · cases dl9 with
    | cons d1 d2 =>
      cases d2
      cases d1 with
      | lst h1 h2 =>
        have e := strs_da h2
        subst e
        exact ⟨z, _, ys, rfl, rfl, .inl h1.sq, q3, nk9 _ H9 _ m2 q4 Ext.rfl' so9 (.str _)⟩
  · cases dl9 with
    | cons d1 d2 =>
      cases d2
      cases d1 with
      | tup h1 h2 =>
        have e := strs_da h2
        subst e
        exact ⟨z, _, ys, rfl, rfl, .inr h1.sq, q3, nk9 _ H9 _ m2 q4 Ext.rfl' so9 (.str _)⟩
theorem m_str1 {R : V → List V → Hp → VK → Prop} {x y : Str} {d : Dt} {v : V} (hd : ∀ D H, Da X.K D H d v) (hr : ∀ H Q, Q v H → R (.str x) [.str y] H Q) (q : F d m) : OM X R (.str x) [.str y] m F := by
  refine ⟨fun Z H vx vs Q so da dl nk => ?_⟩
  cases da
  cases dl with
  | cons d1 d2 =>
    cases d2
    cases d1
    exact hr H Q (nk _ H _ m q Ext.rfl' so (hd _ _))
/-- list.append on a list of the store -/
theorem le_append (h : LE X o r m (fun x m1 => (∃ p ds, x = .raw (.ref p) ∧ (p, Mc.lst ds) ∈ m1) ∧ LA X [e] r m1 (fun es m2 => ∃ p ds d, x = .raw (.ref p) ∧ es = [d] ∧ (p, Mc.lst ds) ∈ m2 ∧ ds.length < sizeLine ∧ F .non (put p (.lst (ds ++ [d])) m2)) E) E)
    (hbase : attributeBase o "append" X.env (eval o X.env) = eval o X.env := by rfl)
    (hfew : ((backTo pos (starEach [e] X.env)).all (fun x => !x.1) && (backToKw pos (keywordEach [] X.env)).all (fun x => x.1.isSome)
      && decide ([e].length + ([] : List Keyword).length + (if ([] : List Keyword).isEmpty then 0 else 1) < 30)) = true := by rfl)
    (hline : (apos.endLine == pos.line) = true := by rfl) (hs : starEach [e] X.env = (false, eval e X.env) :: starEach [] X.env := by rfl) : LE X (.Call (.Attribute o "append" apos) [e] [] pos) r m F E := by
  refine ⟨fun Z st H Q W rp tk nk nx => (pe_bm PySem.F.plainAttrs_list PySem.F.slot_list_append PySem.F.type_list_append mt_append pe_w pa_w hbase hfew hline hs rfl).w ?_⟩
  refine h.run Z st H _ W rp tk (fun v H1 d m1 q go so da => ?_) nx
  obtain ⟨⟨p, ds, rfl, hm⟩, q⟩ := q
  cases da
  obtain ⟨xs, e1, e2⟩ := so.lst_of hm
  refine ⟨.inl ⟨rfl, _, SqL.of e1⟩, q.run Z st H1 _ W (rp.go go so) tk (fun vs H2 es m2 q2 go2 so2 da2 => ?_) (nx.go go)⟩
  obtain ⟨p', ds2, d2, e3, rfl, hm2, hz, q3⟩ := q2
  cases e3
  cases da2 with
  | cons d1 d3 =>
    cases d3
    obtain ⟨xs2, e4, e5⟩ := so2.lst_of hm2
    obtain ⟨s4, g4⟩ := so2.put_lst hm2 (e5.append (.cons d1 .nil))
    exact ⟨p, xs2, _, rfl, rfl, e4, by rw [← e5.length]; exact hz, nk _ _ _ _ q3 ((go.trans go2).trans g4) s4 .non⟩
/-- {} -/
theorem le_dct0 (q : F (.dct []) m) : LE X (.Dict [] [] pos) r m F E :=
  ⟨fun Z st H Q W rp tk nk nx => (pe_dnewK).w fun p hp => nk _ _ _ m q (Ext.fresh hp) (rp.so.laid hp) (.dct (rp.so.fresh hp) upd_same .nil)⟩
/-- list(t), list(xs); tuple(xs), tuple(t) -/
theorem c_list_lst {ds : List Dt} (q : F (.lst ds) m) : OC X (.type "list") [.lst ds] m F :=
  oc_of call_list_of fun Z H vs Q so da nk => by
    cases da with
    | cons d1 d2 =>
      cases d2
      cases d1 with
      | lst h1 h2 => exact ⟨_, _, rfl, .inl h1.sq, fun p hp => nk _ _ _ m q (Ext.fresh hp) (so.laid hp) (da_new_lst so hp h2)⟩
theorem c_list_tup {ds : List Dt} (q : F (.lst ds) m) : OC X (.type "list") [.tup ds] m F :=
  oc_of call_list_of fun Z H vs Q so da nk => by
    cases da with
    | cons d1 d2 =>
      cases d2
      cases d1 with
      | tup h1 h2 => exact ⟨_, _, rfl, .inr h1.sq, fun p hp => nk _ _ _ m q (Ext.fresh hp) (so.laid hp) (da_new_lst so hp h2)⟩
theorem c_tup_lst {ds : List Dt} (q : F (.tup ds) m) : OC X (.type "tuple") [.lst ds] m F :=
  oc_of call_tuple_of fun Z H vs Q so da nk => by
    cases da with
    | cons d1 d2 =>
      cases d2
      cases d1 with
      | lst h1 h2 => exact ⟨_, _, rfl, .inl ⟨h1.sq, fun p hp => nk _ _ _ m q (Ext.fresh hp) (so.laid hp) (da_new_tup so hp h2)⟩⟩
end
end Dw
namespace Dw
open PySem PySem.Spec PyProof.Rows L2
open PySem.W PySem.Calls PySem.HandSPX
section
variable {prog : Program} {w : World} {A : Around} {R : Result → Shared → Prop} {hp : Heap} {g : Array GenState} {d : Drawn} {t : Nat} {os : OsState}
/-- the first field of a fresh exception of one's own class, over any of Python's -/
theorem osa_first {K : Frag} {B : String} {bmB : List Value} {name : Str} {tk : Tok} {v : Value} {x C : Addr} {fv : Array Value} {cd : ClassData} (SF : StoreFacts B bmB "object.__setattr__" "object")
    (X : K.In hp) (hx : hp.get? x = some { cls := .ref C, data := .fields fv }) (hcd : clsIn K C = some cd) (hov : excOver K C bmB = true) (hh : cd.hasDict = true) (ha : findIn K (.ref C) name = some none)
    (hq : ∀ h' tk' dx, (∀ b o, b ≠ x → hp.get? b = some o → h'.get? b = some o) → hp.objs.size ≤ dx → dx ≠ x → h'.get? x = some { cls := .ref C, dict := some dx, data := .fields fv } →
      h'.Ns1 dx (fun y => if y = name then some v else none) → R (.ok (.ret .none)) ⟨h', g, d, tk', os⟩) :
    codeAny (model prog w) A (.call (.builtin "object.__setattr__") ⟨[.ref x, .str name tk, v], []⟩) R ⟨hp, g, d, t, os⟩ := by
  have I : InstAt hp x { cls := .ref C, data := .fields fv } C none := ⟨hx, rfl, rfl, trivial⟩
  have hxs : x ≠ hp.objs.size := Nat.ne_of_lt (Heap.lt_size hx)
  have ht : takerIn K C name = some none := by unfold takerIn; rw [ha]; rfl
  have hcls : Looks (model prog w) hp (classData C) cd := looks_clsIn X hcd
  refine osa_openX SF X I hov ht fun b => ?_
  obtain ⟨nm, bs, mro, ns, qn, hd, sn, sb, ab, col, del⟩ := cd
  dsimp only at hh
  subst hh
  dsimp only
  unfold Builtin.ObjectAttr.storeInOwnDict Builtin.ObjectAttr.ownDictForStores
  repeat (first
    | (with_reducible refine PX.store_in_new ?_ ?_)
    | (with_reducible refine wpAny_loadPart_at hx ?_)
    | (with_reducible refine hcls.at ?_)
    | wp_step)
  · refine ⟨_, #[], _, (Heap.get?_update_ne _ _ _ _ hxs.symm).trans (Heap.get?_push_at rfl rfl), rfl, ?_, fun _ => rfl⟩
    exact fun e he => absurd he (by simp)
  · intro h' tk' hn' hs
    have hx1 : (hp.push { cls := .type "dict", data := .dict #[] }).get? x = some { cls := .ref C, data := .fields fv } := Heap.get?_push_of_some _ hx
    refine hq h' tk' hp.objs.size (fun b o hb ho => ?_) (Nat.le_refl _) hxs.symm ?_ hn'
    · refine (hs.2 b (Nat.ne_of_lt (Heap.lt_size ho))).trans ?_
      exact (Heap.get?_update_ne _ _ _ _ hb).trans (Heap.get?_push_of_some _ ho)
    · refine (hs.2 x hxs).trans ?_
      exact Heap.get?_update_self _ hx1 rfl
end
end Dw
namespace Dw
open PySem PySem.Spec PyProof.Rows L2
/-- what an except clause says of a class -/
theorem exm_cl {K : PySem.W.Frag} {t : Value} {S : Addr} {b : Bool} (x1 : PySem.W.subIn K (.ref S) (.type "BaseException") = some true) (x2 : PySem.W.isClsIn K S = true) (x3 : PySem.W.typeIn K (.ref S) = some (.type "type")) (x4 : PySem.W.subIn K t (.ref S) = some b) : PySem.W.exmOne K t (.ref S) = some b := by
  have x2' : (PySem.W.clsIn K S).isSome = true := x2
  unfold PySem.W.exmOne PySem.W.kitCls
  simp only [x1, x2', x3, x4]
  rfl
/-! ### exceptions of one field, found -/
namespace Ex_found
open PySem PySem.W PySem.Calls PyProof.Rows PySem.HandSPX
def iA (p1 p2 : Pos) : Arguments := { posonlyargs := [], args := [{ arg := "self", annotation := none, pos := p1 }, { arg := "found", annotation := none, pos := p2 }], vararg := none, kwonlyargs := [], kw_defaults := [], kwarg := none, defaults := [] }
def iB (q1 q2 q3 q4 : Pos) : List Stmt := [.Assign [.Attribute (.Name "self" q1) "found" q2] (.Name "found" q3) q4]
def iS (ms : List (Str × Const)) : Scope := { kind := .function, names := [(PySem.Str.ofString "self", .local), (PySem.Str.ofString "found", .local)], isGenerator := false, isCoroutine := false, more := ms }
/-- what the written part says of the class cn at C, and of its __init__, at fI -/
structure Txt (K : Frag) (mg : Str → Option Value) (cn : Str) (C fI : Addr) : Prop where
  gC : mg cn = some (.ref C)
  cls : ∃ q N bs bm sn sub ab col dd k0 k1 k2 k3 k5, K.lookup C = some (excClassObj cn q C N bs bm true sn sub ab col dd k0 k1 k2 k3 k5 "ValueError.__new__") ∧ excTail [.type "ValueError", .type "Exception", .type "BaseException", .type "object"] bm = true
  sa : findIn K (.ref C) "__setattr__" = some (some (.builtin "object.__setattr__"))
  ga : findIn K (.ref C) "__getattribute__" = some (some (.builtin "BaseException.__getattribute__"))
  gg : findIn K (.ref C) "__getattr__" = some none
  noN : findIn K (.ref C) "found" = some none
  iC : findIn K (.ref C) "__init__" = some (some (.ref fI))
  rC : findIn K (.ref C) "__repr__" = some (some (.builtin "BaseException.__repr__"))
  cC : findIn K (.ref C) "__class__" = some (some (.builtin "object.__class__"))
  spC : specialIn K (.builtin "object.__class__") "__get__" = some (some (.builtin "getset_descriptor.__get__"))
  tkC : takesIn K (.builtin "object.__class__") = some true
  mrC : mroIn K C (.type "object") = some true
  tC : typeIn K (.ref fI) = some (.type "function")
  kC : keepIn K (.ref C) = true
  exC : subIn K (.ref C) (.type "BaseException") = some true
  tyC : typeIn K (.ref C) = some (.type "type")
  hdC : hasDictIn K C = true
  te : exmOne K (.ref C) (.ref C) = some true
  fn : ∃ (qn : Str) (oc : Value) (od : Option Addr) (doc pm : Value) (an : Option Addr) (cdv ct : Value) (osl : Array (Option Value)) (p1 p2 q1 q2 q3 q4 : Pos) (ms : List (Str × Const)),
    K.lookup fI = some ⟨oc, od, .func (fnOf "__init__" qn (iA p1 p2) (iB q1 q2 q3 q4) (iS ms) .none .none doc pm an cdv ct), osl⟩ ∧ codeIn K cdv qn = true
theorem one_le (v : Value) : [v].length ≤ sizeLine := by
  rw [sizeLine_eq]
  exact (by decide : 1 ≤ 16777216)
theorem ldN {M : Model} {s : Shared} {name : Str} {scope : Scope} {L a : Addr} {cd : Value} {m : Str → Option Value} {x : Str} {pos : Pos} {v : Value} {Q : Value → Shared → Prop} {A : Around} {E : Value → Shared → Prop} (hn : s.heap.Ns L m) (hv : m x = some v) (h : Q v s)
    (hk : scope.kind = .function := by rfl) (hl : (envOfC name scope L a cd).kindOf x = some .local := by rfl) (hd : (x == ("__debug__" : Str)) = false := by decide) :
    wpAny M A (eval (.Name x pos) (envOfC name scope L a cd)) Q E s := wpAny_Name (wpAny_loadName_local hk hl hn hv h) hd
/-- what __init__ leaves of a fresh exception at x -/
structure InitEnd (h h' : Heap) (x C dx t1 : Addr) (v : Value) : Prop where
  keep : ∀ b o, b ≠ x → h.get? b = some o → h'.get? b = some o
  obj : h'.get? x = some { cls := .ref C, dict := some dx, data := .fields #[.ref t1, .none, .none, .none, .bool false, .none] }
  dbig : h.objs.size ≤ dx
  dne : dx ≠ x
  ns : h'.Ns1 dx (fun y => if y = "found" then some v else none)
/-- a made one: the arguments' tuple at t, the exception at e, its dict at d -/
structure Made (h h' : Heap) (t e C d : Addr) (v : Value) : Prop where
  keep : ∀ b o, (h.push (kdv_tup [v])).get? b = some o → h'.get? b = some o
  ht : t = h.objs.size
  he : e = h.objs.size + 1
  obj : h'.get? e = some { cls := .ref C, dict := some d, data := .fields #[.ref t, .none, .none, .none, .bool false, .none] }
  dbig : h.objs.size + 1 + 1 ≤ d
  dne : d ≠ e
  ns : h'.Ns1 d (fun y => if y = "found" then some v else none)
section
variable {prog : Program} {w : World} {A : Around} {E : Value → Shared → Prop} {R : Result → Shared → Prop} {s : Shared} {K : Frag} {mg : Str → Option Value} {cn : Str} {C fI : Addr}
theorem init_run (T : Txt K mg cn C fI) {x t0 : Addr} {v : Value} (X : K.In s.heap) (hlim : s.heap.NoLimit) (hx : s.heap.get? x = some (excO C t0)) (hnx : K.lookup x = none) (hroom : A.depth < recursionLimit)
    (hq : ∀ h' tk dx, InitEnd s.heap h' x C dx t0 v → R (.ok (.ret .none)) { s with heap := h', toks := tk }) :
    codeAny (model prog w) A (.call (.ref fI) ⟨[.ref x, v], []⟩) R s := by
  obtain ⟨qn, oc, od, doc, pm, an, cdv, ct, osl, p1, p2, q1, q2, q3, q4, ms, ho, hcd⟩ := T.fn
  obtain ⟨q, N, bs, bm, sn, sub, ab, col, dd, k0, k1, k2, k3, k5, hC, hbm⟩ := T.cls
  have hcl : clsIn K C = some { name := cn, bases := bs, mro := .ref C :: bm, ns := N, qualname := q, hasDict := true, slotNames := sn, subclasses := sub, abstract := ab, collection := col, hasDel := false } := by unfold clsIn; rw [hC] <;> rfl
  refine Att.call_fn (binds := [("self", .ref x), ("found", v)]) X hlim ho hcd hroom (BindsTo.of_eq (by first | rfl | with_unfolding_all rfl)) (by first | rfl | decide | with_unfolding_all rfl) (fun s₁ IC => ?_) rfl rfl rfl
  obtain ⟨h₁, tk₁, rfl⟩ := IC.toInCall.same
  have k : ∀ b o, s.heap.get? b = some o → h₁.get? b = some o := IC.toInCall.keep
  have hn := IC.toInCall.ns
  have X₁ : K.In h₁ := X.keeps k
  have hx₁ := k _ _ hx
  show wpAny _ _ (execs _ _) _ _ _
  refine wpAny_execs_cons (plainObj_wpAny_Assign_Attribute ?_)
  refine ldN (v := v) hn (by first | rfl | with_unfolding_all rfl | kernel_rfl) (ldN (v := .ref x) hn (by first | rfl | with_unfolding_all rfl | kernel_rfl) ?_)
  refine set_plain X₁ (ox := excO C t0) (od := none) ⟨hx₁, rfl, rfl, trivial⟩ T.sa ?_
  have hov : excOver K C [.type "ValueError", .type "Exception", .type "BaseException", .type "object"] = true := by
    unfold excOver
    rw [hcl]
    show ((C == C) && excTail _ bm) = true
    rw [hbm]
    simp
  refine Dw.osa_first F.store_ValueError X₁ hx₁ hcl hov rfl T.noN (fun h₃ tk₃ dx k₃ dn dne hx₃ hn₃ => ?_)
  show wpAny _ _ (execs _ _) _ _ _
  have z : s.heap.objs.size < h₁.objs.size := hn.lt
  exact wpAny_execs_nil (hq h₃ tk₃ dx ⟨fun b o hb e => k₃ b o hb (k b o e), hx₃, Nat.le_of_lt (Nat.lt_of_lt_of_le z dn), dne, hn₃⟩)
theorem make_run (T : Txt K mg cn C fI) {v : Value} (X : K.In s.heap) (hlim : s.heap.NoLimit) (hroom : A.depth + 1 < recursionLimit)
    (hq : ∀ h' tk t e d, Made s.heap h' t e C d v → R (.ok (.ret (.ref e))) { s with heap := h', toks := tk }) :
    codeAny (model prog w) A (.call (.ref C) ⟨[v], []⟩) R s := by
  obtain ⟨q, N, bs, bm, sn, sub, ab, col, dd, k0, k1, k2, k3, k5, hC, hbm⟩ := T.cls
  obtain ⟨hp, g, dr, tk, os⟩ := s
  have k : ∀ b o, hp.get? b = some o → ((hp.push (kdv_tup [v])).push (excO C hp.objs.size)).get? b = some o := fun b o e => Heap.get?_push_of_some _ (Heap.get?_push_of_some _ e)
  have hget : ((hp.push (kdv_tup [v])).push (excO C hp.objs.size)).get? (hp.objs.size + 1) = some (excO C hp.objs.size) := by heap_get
  have hnx : K.lookup (hp.objs.size + 1) = none := by
    cases e : K.lookup (hp.objs.size + 1) with
    | none => rfl
    | some o =>
      have z : hp.get? (hp.objs.size + 1) = some o := X _ _ e
      exact absurd (Nat.lt_of_succ_lt (Heap.lt_size z)) (Nat.lt_irrefl _)
  refine call_own F.excBase_ValueError (fun X => excTail_contains X bm hbm) (X _ _ hC) (looks_findIn X T.iC) (fun self => bind_fn X self T.tC) (one_le v) ?_
  refine init_run (s := ⟨(hp.push (kdv_tup [v])).push (excO C hp.objs.size), g, dr, tk, os⟩) T (X.keeps k) (hlim.keeps k) hget hnx ?_ fun h' tk' dx ⟨k', hx, dn, dne, hns⟩ => ?_
  · show A.depth + 1 < recursionLimit
    exact hroom
  · have old : ∀ b o, (hp.push (kdv_tup [v])).get? b = some o → h'.get? b = some o := fun b o e => by
      refine k' b o (Nat.ne_of_lt ?_) (Heap.get?_push_of_some _ e)
      have := Heap.lt_size e
      rw [Heap.size_push] at this
      exact this
    have z : hp.objs.size + 1 + 1 ≤ dx := by
      first
        | (simpa only [Heap.size_push] using dn)
        | exact dn
        | (have q := dn; rw [Heap.size_push, Heap.size_push] at q; exact q)
    exact ⟨rfl, hq h' tk' hp.objs.size (hp.objs.size + 1) dx ⟨old, rfl, rfl, hx, z, dne, hns⟩⟩
end
end Ex_found
section
open Ex_found
variable {X : Cx} {C fI : Addr} {cn : Str} {a : Expr} {r : En} {m : Mu} {F : Pd} {E : Xd} {P : Pc} {p pos pos2 : Pos} {k : Nat} {N : List Str}
theorem relo_found {v : V} {v' : Value} (rv : RelV v v') (f : Str) : RelO (List.lookup f [(("found" : Str), v)]) (if f = "found" then some v' else none) := by
  by_cases hw : f = "found"
  · subst hw
    rw [if_pos rfl, show List.lookup ("found" : Str) [(("found" : Str), v)] = some v by simp [List.lookup]]
    exact rv
  · have qw : (f == ("found" : Str)) = false := by simpa using hw
    rw [if_neg hw, show List.lookup f [(("found" : Str), v)] = none by simp [List.lookup, qw]]
    trivial
def tMk_found (C : Addr) (ta : TA) : L2.St → Hp → XK → Prop := fun g H Q => ta g H fun vs H1 => ∃ v, vs = [v] ∧ ∀ d, H1 d = none → Q (.ref C) (some d) (upd H1 d (.xd [(("found" : Str), v)]))
theorem pmk_found {ta : TA} (T : Txt X.K X.mg cn C fI) (hr : Room k X.A) (ha : PA X [a] ta) (hg : Gl X cn := by rfl) (hdb : (cn == ("__debug__" : Str)) = false := by decide)
    (he : starEach (a :: []) X.env = (false, eval a X.env) :: starEach [] X.env := by rfl) (hpl : (backTo pos (starEach [] X.env)).any (·.1) = false := by rfl) :
    PMk X (.Call (.Name cn p) [a] [] pos) (tMk_found C ta) := by
  intro pins s g H Q I h
  refine wpAny_Call_Name_kw (ld_glob I hg T.gC ?_ hdb)
  refine PySem.W.callWith_K (h₀ := X.base) I.ok.mod.kin T.kC (thn (ha.run pos pins s g H _ I h) fun us s1 hh => ?_) he hpl
  obtain ⟨vs, H1, I1, r1, v, ev, q1⟩ := hh
  subst ev
  refine ⟨I1.kIn, ?_⟩
  cases r1 with
  | cons rv rn =>
    rename_i v' us'
    cases rn
    show wpAny _ _ (call (.ref C) [v']) _ _ _
    have hlim := I1.nolimit
    obtain ⟨hp, gs, dr, tk, os⟩ := s1
    refine wpAny_call (make_run T I1.kIn hlim (by have := hr.dp; omega) fun h' tk' t e d M => ?_)
    show MkP X pins g Q (.ref e) ⟨h', gs, dr, tk', os⟩
    have hns := M.ns
    have bigE : hp.objs.size ≤ e := by rw [M.he]; exact Nat.le_succ _
    have bigD : hp.objs.size ≤ d := Nat.le_trans (Nat.le_trans (Nat.le_succ _) (Nat.le_succ _)) M.dbig
    obtain ⟨G', g1, g2⟩ := restrict h' fun b => decide (b ≠ e)
    have gk : ∀ b, b ≠ e → G'.get? b = h'.get? b := fun b hb => g1 b (decide_eq_true hb)
    have ge : G'.get? e = none := g2 e (by simp)
    have old : ∀ b o, hp.get? b = some o → G'.get? b = some o := fun b o q => (gk b (Nat.ne_of_lt (Nat.lt_of_lt_of_le (Heap.lt_size q) bigE))).trans (M.keep b o (Heap.get?_push_of_some _ q))
    have ob : ObjOk X.prog X.w (upd H1 d (.xd [(("found" : Str), v)])) G' d (.xd [(("found" : Str), v)]) := ⟨_, hns.at (fun o q => (gk d M.dne).trans q), fun f => relo_found rv f⟩
    have J : Inv X pins g (upd H1 d (.xd [(("found" : Str), v)])) ⟨G', gs, dr, tk', os⟩ := I1.laid (t' := tk') old bigD ob
    refine ⟨e, _, _, ⟨G', gs, dr, tk', os⟩, _, .ref C, some d, rfl, J, fun b o q => ?_, ge, M.obj, ⟨rfl, rfl⟩, rfl, rfl, ?_, rfl, I1.bare, raises_own T.exC T.tyC, q1 d (I1.hok.fresh bigD)⟩
    · by_cases hb : b = e
      · have q' : G'.get? b = some o := q
        rw [hb, ge] at q'; cases q'
      · exact (gk b hb).symm.trans q
    · rw [upd_ne (Ne.symm M.dne)]
      exact I1.hok.fresh bigE
/-- raise cn(e) -/
theorem ls_raise_found (T : Txt X.K X.mg cn C fI) (gd : Gd k N X) (h : LA X [a] r m (fun ds m1 => ∃ d, ds = [d] ∧ P.ex (.ref C) [(("found" : Str), d)] r m1) P.ex) (hg : Gl X cn := by rfl) (hdb : (cn == ("__debug__" : Str)) = false := by decide)
    (he : starEach (a :: []) X.env = (false, eval a X.env) :: starEach [] X.env := by rfl) (hpl : (backTo pos (starEach [] X.env)).any (·.1) = false := by rfl) :
    LS X (.Raise (some (.Call (.Name cn p) [a] [] pos)) none pos2) r m P := by
  refine ⟨fun Z g H D W rp tk np => (ps_raise gd.calm tk (pmk_found T gd.room pa_w hg hdb he hpl)).w ?_⟩
  refine h.run Z g H _ W rp tk (fun vs H1 ds m1 q go so da => ?_) np.ex
  obtain ⟨d, rfl, q⟩ := q
  cases da with
  | cons d1 d2 =>
    rename_i v vs
    cases d2
    refine ⟨_, rfl, fun dx hd => ?_⟩
    have gf : Go m1 H1 m1 (upd H1 dx (.xd [(("found" : Str), v)])) := Ext.fresh hd
    exact np.ex _ dx _ _ g _ r m1 q (go.trans gf) (rp.go (go.trans gf) (so.laid hd)) (so.fresh hd) upd_same (.cons (d1.move (Go.full Z gf)) .nil)
/-- cn(e) as a value -/
theorem le_exc_found (T : Txt X.K X.mg cn C fI) (gd : Gd k N X) (h : LA X [a] r m (fun ds m1 => ∃ d, ds = [d] ∧ F (.exc C cn [d]) m1) E) (hg : Gl X cn := by rfl) (hdb : (cn == ("__debug__" : Str)) = false := by decide)
    (he : starEach (a :: []) X.env = (false, eval a X.env) :: starEach [] X.env := by rfl) (hpl : (backTo pos (starEach [] X.env)).any (·.1) = false := by rfl) :
    LE X (.Call (.Name cn p) [a] [] pos) r m F E := by
  refine ⟨fun Z g H Q W rp tk nk nx pins s I => ?_⟩
  refine wpAny_Call_Name_kw (ld_glob I hg T.gC ?_ hdb)
  refine PySem.W.callWith_K (h₀ := X.base) I.ok.mod.kin T.kC (thn (h.run Z g H (fun vs H1 => ∃ v, vs = [v] ∧ ∀ t e dx, H1 t = none → H1 e = none → H1 dx = none → e ≠ t → dx ≠ t → dx ≠ e → Q (.ref e) (upd (upd (upd H1 t (.tup [v])) e (.ext (ExO e C t dx))) dx (.xd [(("found" : Str), v)]))) W rp tk (fun vs H1 ds m1 q go so da => ?_) nx pos pins s I) fun us s1 hh => ?_) he hpl
  · obtain ⟨d, rfl, q⟩ := q
    cases da with
    | cons d1 d2 =>
      rename_i v vs
      cases d2
      refine ⟨_, rfl, fun t e dx ht hee hdx n1 n2 n3 => ?_⟩
      have g1 : Go m1 H1 m1 (upd H1 t (.tup [v])) := Ext.fresh ht
      have s1 := so.laid (o := .tup [v]) ht
      have he2 : (upd H1 t (.tup [v])) e = none := by rw [upd_ne n1]; exact hee
      have g2 : Go m1 (upd H1 t (.tup [v])) m1 (upd (upd H1 t (.tup [v])) e (.ext (ExO e C t dx))) := Ext.fresh he2
      have s2 := s1.laid (o := .ext (ExO e C t dx)) he2
      have he3 : (upd (upd H1 t (.tup [v])) e (.ext (ExO e C t dx))) dx = none := by rw [upd_ne n3, upd_ne n2]; exact hdx
      have g3 : Go m1 (upd (upd H1 t (.tup [v])) e (.ext (ExO e C t dx))) m1 (upd (upd (upd H1 t (.tup [v])) e (.ext (ExO e C t dx))) dx (.xd [(("found" : Str), v)])) := Ext.fresh he3
      have s3 := s2.laid (o := .xd [(("found" : Str), v)]) he3
      refine nk _ _ _ m1 q (((go.trans g1).trans g2).trans g3) s3 (.exc (s1.fresh he2) ?_ (so.fresh ht) ?_ (s2.fresh he3) upd_same (.cons (d1.move (Go.full Z ((g1.trans g2).trans g3))) .nil))
      · rw [upd_ne (Ne.symm n3)]
        exact upd_same
      · rw [upd_ne (Ne.symm n2), upd_ne (Ne.symm n1)]
        exact upd_same
  · obtain ⟨vs, H1, I1, r1, v, ev, q1⟩ := hh
    subst ev
    refine ⟨I1.kIn, ?_⟩
    cases r1 with
    | cons rv rn =>
      rename_i v' us'
      cases rn
      show wpAny _ _ (call (.ref C) [v']) _ _ _
      have hlim := I1.nolimit
      obtain ⟨hp, gs, dr, tk', os⟩ := s1
      refine wpAny_call (make_run T I1.kIn hlim (by have := gd.room.dp; omega) fun h' tk2 t e d M => ?_)
      have et := M.ht
      have ee := M.he
      subst et ee
      have I2 : L2.Inv X pins g (upd H1 hp.objs.size (.tup [v])) ⟨hp.push (PySem.W.kdv_tup [v']), gs, dr, tk', os⟩ := I1.laid (t' := tk') (fun b o e => Heap.get?_push_of_some _ e) (Nat.le_refl _) ⟨by rw [sizeLine_eq]; exact (by decide : 1 ≤ 16777216), [v'], .cons rv .nil, ⟨_, Heap.get?_push_size _ rfl, rfl, _, rfl⟩⟩
      have hs : (hp.push (PySem.W.kdv_tup [v'])).objs.size = hp.objs.size + 1 := Heap.size_push ..
      let oe : Obj := { cls := .ref C, dict := some d, data := .fields #[.ref hp.objs.size, .none, .none, .none, .bool false, .none] }
      have hge : ((hp.push (PySem.W.kdv_tup [v'])).push oe).get? (hp.objs.size + 1) = some oe := by rw [← hs]; exact Heap.get?_push_size _ rfl
      have I3 : L2.Inv X pins g (upd (upd H1 hp.objs.size (.tup [v])) (hp.objs.size + 1) (.ext (ExO (hp.objs.size + 1) C hp.objs.size d))) ⟨(hp.push (PySem.W.kdv_tup [v'])).push oe, gs, dr, tk', os⟩ :=
        I2.laid (t' := tk') (fun b o e => Heap.get?_push_of_some _ e) (by show (hp.push (PySem.W.kdv_tup [v'])).objs.size ≤ _; rw [hs]; exact Nat.le_refl _) ⟨⟨oe, _, hge, rfl, rfl, rfl, rfl⟩, ⟨_, hge⟩, fun h1 h2 p kk => by
          obtain ⟨o, vs, e1, e2⟩ := p
          exact ⟨o, vs, kk o e1, e2⟩⟩
      have hs2 : ((hp.push (PySem.W.kdv_tup [v'])).push oe).objs.size = hp.objs.size + 1 + 1 := by rw [Heap.size_push, hs]
      have ob : ObjOk X.prog X.w (upd (upd (upd H1 hp.objs.size (.tup [v])) (hp.objs.size + 1) (.ext (ExO (hp.objs.size + 1) C hp.objs.size d))) d (.xd [(("found" : Str), v)])) h' d (.xd [(("found" : Str), v)]) := ⟨_, M.ns, fun f => relo_found rv f⟩
      have I4 : L2.Inv X pins g (upd (upd (upd H1 hp.objs.size (.tup [v])) (hp.objs.size + 1) (.ext (ExO (hp.objs.size + 1) C hp.objs.size d))) d (.xd [(("found" : Str), v)])) ⟨h', gs, dr, tk2, os⟩ := by
        refine I3.laid (t' := tk2) (fun b o e => ?_) (by show ((hp.push (PySem.W.kdv_tup [v'])).push oe).objs.size ≤ d; rw [hs2]; exact M.dbig) ob
        by_cases hb : b = hp.objs.size + 1
        · subst hb
          have e' : ((hp.push (PySem.W.kdv_tup [v'])).push oe).get? (hp.objs.size + 1) = some o := e
          rw [hge] at e'
          cases e'
          exact M.obj
        · refine M.keep b o ?_
          rw [← Heap.get?_push_ne _ b oe (by rw [hs]; exact hb)]
          exact e
      have bd : hp.objs.size + 1 + 1 ≤ d := M.dbig
      have f3 : hp.objs.size ≤ d := Nat.le_trans (Nat.le_trans (Nat.le_succ _) (Nat.le_succ _)) bd
      have n1 : hp.objs.size + 1 ≠ hp.objs.size := Nat.ne_of_gt (Nat.lt_succ_self _)
      have n2 : d ≠ hp.objs.size := Nat.ne_of_gt (Nat.lt_of_lt_of_le (Nat.lt_succ_of_lt (Nat.lt_succ_self _)) bd)
      have n3 : d ≠ hp.objs.size + 1 := Nat.ne_of_gt (Nat.lt_of_lt_of_le (Nat.lt_succ_self _) bd)
      exact ⟨.ref _, _, I4, rfl, q1 _ _ _ (I1.hok.fresh (Nat.le_refl _)) (I1.hok.fresh (Nat.le_succ _)) (I1.hok.fresh f3) n1 n2 n3⟩
end
section
open PySem.W PySem.Calls PySem.HandSPX
theorem Ex_found.mk {K : Frag} {h : Heap} {mg : Str → Option Value} {C fI N : Addr} {cn qn q : Str} {bs bm : List Value} {sn : List Str} {sub : List Value} {ab : Bool} {col : Option Bool} {dd od an : Option Addr} {m0 m1 m2 m3 m5 : Option Value}
    {oc dc pm cd ct : Value} {sl : Array (Option Value)} {p1 p2 q1 q2 q3 q4 : Pos} {ms : List (Str × Const)} (X : K.In h) (G : h.Ns mainGlobals mg)
    (aC : nsIn K mainGlobals cn = some (some (.ref C))) (xL : K.lookup C = some (excClassObj cn q C N bs bm true sn sub ab col dd m0 m1 m2 m3 m5 "ValueError.__new__")) (hbm : PySem.W.excTail [.type "ValueError", .type "Exception", .type "BaseException", .type "object"] bm = true)
    (sa : findIn K (.ref C) "__setattr__" = some (some (.builtin "object.__setattr__"))) (ga : findIn K (.ref C) "__getattribute__" = some (some (.builtin "BaseException.__getattribute__"))) (gg : findIn K (.ref C) "__getattr__" = some none) (noN : findIn K (.ref C) "found" = some none)
    (iC : findIn K (.ref C) "__init__" = some (some (.ref fI))) (rC : findIn K (.ref C) "__repr__" = some (some (.builtin "BaseException.__repr__"))) (cC : findIn K (.ref C) "__class__" = some (some (.builtin "object.__class__")))
    (spC : specialIn K (.builtin "object.__class__") "__get__" = some (some (.builtin "getset_descriptor.__get__"))) (tkC : takesIn K (.builtin "object.__class__") = some true) (mrC : mroIn K C (.type "object") = some true) (tC : typeIn K (.ref fI) = some (.type "function"))
    (kC : keepIn K (.ref C) = true) (exC : subIn K (.ref C) (.type "BaseException") = some true) (tyC : typeIn K (.ref C) = some (.type "type")) (hdC : hasDictIn K C = true) (isC : isClsIn K C = true) (suC : subIn K (.ref C) (.ref C) = some true)
    (l1 : K.lookup fI = some ⟨oc, od, .func (fnOf "__init__" qn (Ex_found.iA p1 p2) (Ex_found.iB q1 q2 q3 q4) (Ex_found.iS ms) .none .none dc pm an cd ct), sl⟩) (c1 : codeIn K cd qn = true) : Ex_found.Txt K mg cn C fI :=
  { gC := mg_of X G aC, cls := ⟨q, N, bs, bm, sn, sub, ab, col, dd, m0, m1, m2, m3, m5, xL, hbm⟩, sa := sa, ga := ga, gg := gg, noN := noN, iC := iC, rC := rC, cC := cC, spC := spC, tkC := tkC, mrC := mrC, tC := tC, kC := kC, exC := exC, tyC := tyC, hdC := hdC,
    te := exm_cl exC isC tyC suC, fn := ⟨qn, oc, od, dc, pm, an, cd, ct, sl, p1, p2, q1, q2, q3, q4, ms, l1, c1⟩ }
end
/-! ### exceptions of one field, at -/
namespace Ex_at
open PySem PySem.W PySem.Calls PyProof.Rows PySem.HandSPX
def iA (p1 p2 : Pos) : Arguments := { posonlyargs := [], args := [{ arg := "self", annotation := none, pos := p1 }, { arg := "at", annotation := none, pos := p2 }], vararg := none, kwonlyargs := [], kw_defaults := [], kwarg := none, defaults := [] }
def iB (q1 q2 q3 q4 : Pos) : List Stmt := [.Assign [.Attribute (.Name "self" q1) "at" q2] (.Name "at" q3) q4]
def iS (ms : List (Str × Const)) : Scope := { kind := .function, names := [(PySem.Str.ofString "self", .local), (PySem.Str.ofString "at", .local)], isGenerator := false, isCoroutine := false, more := ms }
/-- what the written part says of the class cn at C, and of its __init__, at fI -/
structure Txt (K : Frag) (mg : Str → Option Value) (cn : Str) (C fI : Addr) : Prop where
  gC : mg cn = some (.ref C)
  cls : ∃ q N bs bm sn sub ab col dd k0 k1 k2 k3 k5, K.lookup C = some (excClassObj cn q C N bs bm true sn sub ab col dd k0 k1 k2 k3 k5 "ValueError.__new__") ∧ excTail [.type "ValueError", .type "Exception", .type "BaseException", .type "object"] bm = true
  sa : findIn K (.ref C) "__setattr__" = some (some (.builtin "object.__setattr__"))
  ga : findIn K (.ref C) "__getattribute__" = some (some (.builtin "BaseException.__getattribute__"))
  gg : findIn K (.ref C) "__getattr__" = some none
  noN : findIn K (.ref C) "at" = some none
  iC : findIn K (.ref C) "__init__" = some (some (.ref fI))
  rC : findIn K (.ref C) "__repr__" = some (some (.builtin "BaseException.__repr__"))
  cC : findIn K (.ref C) "__class__" = some (some (.builtin "object.__class__"))
  spC : specialIn K (.builtin "object.__class__") "__get__" = some (some (.builtin "getset_descriptor.__get__"))
  tkC : takesIn K (.builtin "object.__class__") = some true
  mrC : mroIn K C (.type "object") = some true
  tC : typeIn K (.ref fI) = some (.type "function")
  kC : keepIn K (.ref C) = true
  exC : subIn K (.ref C) (.type "BaseException") = some true
  tyC : typeIn K (.ref C) = some (.type "type")
  hdC : hasDictIn K C = true
  te : exmOne K (.ref C) (.ref C) = some true
  fn : ∃ (qn : Str) (oc : Value) (od : Option Addr) (doc pm : Value) (an : Option Addr) (cdv ct : Value) (osl : Array (Option Value)) (p1 p2 q1 q2 q3 q4 : Pos) (ms : List (Str × Const)),
    K.lookup fI = some ⟨oc, od, .func (fnOf "__init__" qn (iA p1 p2) (iB q1 q2 q3 q4) (iS ms) .none .none doc pm an cdv ct), osl⟩ ∧ codeIn K cdv qn = true
theorem one_le (v : Value) : [v].length ≤ sizeLine := by
  rw [sizeLine_eq]
  exact (by decide : 1 ≤ 16777216)
theorem ldN {M : Model} {s : Shared} {name : Str} {scope : Scope} {L a : Addr} {cd : Value} {m : Str → Option Value} {x : Str} {pos : Pos} {v : Value} {Q : Value → Shared → Prop} {A : Around} {E : Value → Shared → Prop} (hn : s.heap.Ns L m) (hv : m x = some v) (h : Q v s)
    (hk : scope.kind = .function := by rfl) (hl : (envOfC name scope L a cd).kindOf x = some .local := by rfl) (hd : (x == ("__debug__" : Str)) = false := by decide) :
    wpAny M A (eval (.Name x pos) (envOfC name scope L a cd)) Q E s := wpAny_Name (wpAny_loadName_local hk hl hn hv h) hd
/-- what __init__ leaves of a fresh exception at x -/
structure InitEnd (h h' : Heap) (x C dx t1 : Addr) (v : Value) : Prop where
  keep : ∀ b o, b ≠ x → h.get? b = some o → h'.get? b = some o
  obj : h'.get? x = some { cls := .ref C, dict := some dx, data := .fields #[.ref t1, .none, .none, .none, .bool false, .none] }
  dbig : h.objs.size ≤ dx
  dne : dx ≠ x
  ns : h'.Ns1 dx (fun y => if y = "at" then some v else none)
/-- a made one: the arguments' tuple at t, the exception at e, its dict at d -/
structure Made (h h' : Heap) (t e C d : Addr) (v : Value) : Prop where
  keep : ∀ b o, (h.push (kdv_tup [v])).get? b = some o → h'.get? b = some o
  ht : t = h.objs.size
  he : e = h.objs.size + 1
  obj : h'.get? e = some { cls := .ref C, dict := some d, data := .fields #[.ref t, .none, .none, .none, .bool false, .none] }
  dbig : h.objs.size + 1 + 1 ≤ d
  dne : d ≠ e
  ns : h'.Ns1 d (fun y => if y = "at" then some v else none)
section
variable {prog : Program} {w : World} {A : Around} {E : Value → Shared → Prop} {R : Result → Shared → Prop} {s : Shared} {K : Frag} {mg : Str → Option Value} {cn : Str} {C fI : Addr}
theorem init_run (T : Txt K mg cn C fI) {x t0 : Addr} {v : Value} (X : K.In s.heap) (hlim : s.heap.NoLimit) (hx : s.heap.get? x = some (excO C t0)) (hnx : K.lookup x = none) (hroom : A.depth < recursionLimit)
    (hq : ∀ h' tk dx, InitEnd s.heap h' x C dx t0 v → R (.ok (.ret .none)) { s with heap := h', toks := tk }) :
    codeAny (model prog w) A (.call (.ref fI) ⟨[.ref x, v], []⟩) R s := by
  obtain ⟨qn, oc, od, doc, pm, an, cdv, ct, osl, p1, p2, q1, q2, q3, q4, ms, ho, hcd⟩ := T.fn
  obtain ⟨q, N, bs, bm, sn, sub, ab, col, dd, k0, k1, k2, k3, k5, hC, hbm⟩ := T.cls
  have hcl : clsIn K C = some { name := cn, bases := bs, mro := .ref C :: bm, ns := N, qualname := q, hasDict := true, slotNames := sn, subclasses := sub, abstract := ab, collection := col, hasDel := false } := by unfold clsIn; rw [hC] <;> rfl
  refine Att.call_fn (binds := [("self", .ref x), ("at", v)]) X hlim ho hcd hroom (BindsTo.of_eq (by first | rfl | with_unfolding_all rfl)) (by first | rfl | decide | with_unfolding_all rfl) (fun s₁ IC => ?_) rfl rfl rfl
  obtain ⟨h₁, tk₁, rfl⟩ := IC.toInCall.same
  have k : ∀ b o, s.heap.get? b = some o → h₁.get? b = some o := IC.toInCall.keep
  have hn := IC.toInCall.ns
  have X₁ : K.In h₁ := X.keeps k
  have hx₁ := k _ _ hx
  show wpAny _ _ (execs _ _) _ _ _
  refine wpAny_execs_cons (plainObj_wpAny_Assign_Attribute ?_)
  refine ldN (v := v) hn (by first | rfl | with_unfolding_all rfl | kernel_rfl) (ldN (v := .ref x) hn (by first | rfl | with_unfolding_all rfl | kernel_rfl) ?_)
  refine set_plain X₁ (ox := excO C t0) (od := none) ⟨hx₁, rfl, rfl, trivial⟩ T.sa ?_
  have hov : excOver K C [.type "ValueError", .type "Exception", .type "BaseException", .type "object"] = true := by
    unfold excOver
    rw [hcl]
    show ((C == C) && excTail _ bm) = true
    rw [hbm]
    simp
  refine Dw.osa_first F.store_ValueError X₁ hx₁ hcl hov rfl T.noN (fun h₃ tk₃ dx k₃ dn dne hx₃ hn₃ => ?_)
  show wpAny _ _ (execs _ _) _ _ _
  have z : s.heap.objs.size < h₁.objs.size := hn.lt
  exact wpAny_execs_nil (hq h₃ tk₃ dx ⟨fun b o hb e => k₃ b o hb (k b o e), hx₃, Nat.le_of_lt (Nat.lt_of_lt_of_le z dn), dne, hn₃⟩)
theorem make_run (T : Txt K mg cn C fI) {v : Value} (X : K.In s.heap) (hlim : s.heap.NoLimit) (hroom : A.depth + 1 < recursionLimit)
    (hq : ∀ h' tk t e d, Made s.heap h' t e C d v → R (.ok (.ret (.ref e))) { s with heap := h', toks := tk }) :
    codeAny (model prog w) A (.call (.ref C) ⟨[v], []⟩) R s := by
  obtain ⟨q, N, bs, bm, sn, sub, ab, col, dd, k0, k1, k2, k3, k5, hC, hbm⟩ := T.cls
  obtain ⟨hp, g, dr, tk, os⟩ := s
  have k : ∀ b o, hp.get? b = some o → ((hp.push (kdv_tup [v])).push (excO C hp.objs.size)).get? b = some o := fun b o e => Heap.get?_push_of_some _ (Heap.get?_push_of_some _ e)
  have hget : ((hp.push (kdv_tup [v])).push (excO C hp.objs.size)).get? (hp.objs.size + 1) = some (excO C hp.objs.size) := by heap_get
  have hnx : K.lookup (hp.objs.size + 1) = none := by
    cases e : K.lookup (hp.objs.size + 1) with
    | none => rfl
    | some o =>
      have z : hp.get? (hp.objs.size + 1) = some o := X _ _ e
      exact absurd (Nat.lt_of_succ_lt (Heap.lt_size z)) (Nat.lt_irrefl _)
  refine call_own F.excBase_ValueError (fun X => excTail_contains X bm hbm) (X _ _ hC) (looks_findIn X T.iC) (fun self => bind_fn X self T.tC) (one_le v) ?_
  refine init_run (s := ⟨(hp.push (kdv_tup [v])).push (excO C hp.objs.size), g, dr, tk, os⟩) T (X.keeps k) (hlim.keeps k) hget hnx ?_ fun h' tk' dx ⟨k', hx, dn, dne, hns⟩ => ?_
  · show A.depth + 1 < recursionLimit
    exact hroom
  · have old : ∀ b o, (hp.push (kdv_tup [v])).get? b = some o → h'.get? b = some o := fun b o e => by
      refine k' b o (Nat.ne_of_lt ?_) (Heap.get?_push_of_some _ e)
      have := Heap.lt_size e
      rw [Heap.size_push] at this
      exact this
    have z : hp.objs.size + 1 + 1 ≤ dx := by
      first
        | (simpa only [Heap.size_push] using dn)
        | exact dn
        | (have q := dn; rw [Heap.size_push, Heap.size_push] at q; exact q)
    exact ⟨rfl, hq h' tk' hp.objs.size (hp.objs.size + 1) dx ⟨old, rfl, rfl, hx, z, dne, hns⟩⟩
end
end Ex_at
section
open Ex_at
variable {X : Cx} {C fI : Addr} {cn : Str} {a : Expr} {r : En} {m : Mu} {F : Pd} {E : Xd} {P : Pc} {p pos pos2 : Pos} {k : Nat} {N : List Str}
theorem relo_at {v : V} {v' : Value} (rv : RelV v v') (f : Str) : RelO (List.lookup f [(("at" : Str), v)]) (if f = "at" then some v' else none) := by
  by_cases hw : f = "at"
  · subst hw
    rw [if_pos rfl, show List.lookup ("at" : Str) [(("at" : Str), v)] = some v by simp [List.lookup]]
    exact rv
  · have qw : (f == ("at" : Str)) = false := by simpa using hw
    rw [if_neg hw, show List.lookup f [(("at" : Str), v)] = none by simp [List.lookup, qw]]
    trivial
def tMk_at (C : Addr) (ta : TA) : L2.St → Hp → XK → Prop := fun g H Q => ta g H fun vs H1 => ∃ v, vs = [v] ∧ ∀ d, H1 d = none → Q (.ref C) (some d) (upd H1 d (.xd [(("at" : Str), v)]))
theorem pmk_at {ta : TA} (T : Txt X.K X.mg cn C fI) (hr : Room k X.A) (ha : PA X [a] ta) (hg : Gl X cn := by rfl) (hdb : (cn == ("__debug__" : Str)) = false := by decide)
    (he : starEach (a :: []) X.env = (false, eval a X.env) :: starEach [] X.env := by rfl) (hpl : (backTo pos (starEach [] X.env)).any (·.1) = false := by rfl) :
    PMk X (.Call (.Name cn p) [a] [] pos) (tMk_at C ta) := by
  intro pins s g H Q I h
  refine wpAny_Call_Name_kw (ld_glob I hg T.gC ?_ hdb)
  refine PySem.W.callWith_K (h₀ := X.base) I.ok.mod.kin T.kC (thn (ha.run pos pins s g H _ I h) fun us s1 hh => ?_) he hpl
  obtain ⟨vs, H1, I1, r1, v, ev, q1⟩ := hh
  subst ev
  refine ⟨I1.kIn, ?_⟩
  cases r1 with
  | cons rv rn =>
    rename_i v' us'
    cases rn
    show wpAny _ _ (call (.ref C) [v']) _ _ _
    have hlim := I1.nolimit
    obtain ⟨hp, gs, dr, tk, os⟩ := s1
    refine wpAny_call (make_run T I1.kIn hlim (by have := hr.dp; omega) fun h' tk' t e d M => ?_)
    show MkP X pins g Q (.ref e) ⟨h', gs, dr, tk', os⟩
    have hns := M.ns
    have bigE : hp.objs.size ≤ e := by rw [M.he]; exact Nat.le_succ _
    have bigD : hp.objs.size ≤ d := Nat.le_trans (Nat.le_trans (Nat.le_succ _) (Nat.le_succ _)) M.dbig
    obtain ⟨G', g1, g2⟩ := restrict h' fun b => decide (b ≠ e)
    have gk : ∀ b, b ≠ e → G'.get? b = h'.get? b := fun b hb => g1 b (decide_eq_true hb)
    have ge : G'.get? e = none := g2 e (by simp)
    have old : ∀ b o, hp.get? b = some o → G'.get? b = some o := fun b o q => (gk b (Nat.ne_of_lt (Nat.lt_of_lt_of_le (Heap.lt_size q) bigE))).trans (M.keep b o (Heap.get?_push_of_some _ q))
    have ob : ObjOk X.prog X.w (upd H1 d (.xd [(("at" : Str), v)])) G' d (.xd [(("at" : Str), v)]) := ⟨_, hns.at (fun o q => (gk d M.dne).trans q), fun f => relo_at rv f⟩
    have J : Inv X pins g (upd H1 d (.xd [(("at" : Str), v)])) ⟨G', gs, dr, tk', os⟩ := I1.laid (t' := tk') old bigD ob
    refine ⟨e, _, _, ⟨G', gs, dr, tk', os⟩, _, .ref C, some d, rfl, J, fun b o q => ?_, ge, M.obj, ⟨rfl, rfl⟩, rfl, rfl, ?_, rfl, I1.bare, raises_own T.exC T.tyC, q1 d (I1.hok.fresh bigD)⟩
    · by_cases hb : b = e
      · have q' : G'.get? b = some o := q
        rw [hb, ge] at q'; cases q'
      · exact (gk b hb).symm.trans q
    · rw [upd_ne (Ne.symm M.dne)]
      exact I1.hok.fresh bigE
/-- raise cn(e) -/
theorem ls_raise_at (T : Txt X.K X.mg cn C fI) (gd : Gd k N X) (h : LA X [a] r m (fun ds m1 => ∃ d, ds = [d] ∧ P.ex (.ref C) [(("at" : Str), d)] r m1) P.ex) (hg : Gl X cn := by rfl) (hdb : (cn == ("__debug__" : Str)) = false := by decide)
    (he : starEach (a :: []) X.env = (false, eval a X.env) :: starEach [] X.env := by rfl) (hpl : (backTo pos (starEach [] X.env)).any (·.1) = false := by rfl) :
    LS X (.Raise (some (.Call (.Name cn p) [a] [] pos)) none pos2) r m P := by
  refine ⟨fun Z g H D W rp tk np => (ps_raise gd.calm tk (pmk_at T gd.room pa_w hg hdb he hpl)).w ?_⟩
  refine h.run Z g H _ W rp tk (fun vs H1 ds m1 q go so da => ?_) np.ex
  obtain ⟨d, rfl, q⟩ := q
  cases da with
  | cons d1 d2 =>
    rename_i v vs
    cases d2
    refine ⟨_, rfl, fun dx hd => ?_⟩
    have gf : Go m1 H1 m1 (upd H1 dx (.xd [(("at" : Str), v)])) := Ext.fresh hd
    exact np.ex _ dx _ _ g _ r m1 q (go.trans gf) (rp.go (go.trans gf) (so.laid hd)) (so.fresh hd) upd_same (.cons (d1.move (Go.full Z gf)) .nil)
/-- cn(e) as a value -/
theorem le_exc_at (T : Txt X.K X.mg cn C fI) (gd : Gd k N X) (h : LA X [a] r m (fun ds m1 => ∃ d, ds = [d] ∧ F (.exc C cn [d]) m1) E) (hg : Gl X cn := by rfl) (hdb : (cn == ("__debug__" : Str)) = false := by decide)
    (he : starEach (a :: []) X.env = (false, eval a X.env) :: starEach [] X.env := by rfl) (hpl : (backTo pos (starEach [] X.env)).any (·.1) = false := by rfl) :
    LE X (.Call (.Name cn p) [a] [] pos) r m F E := by
  refine ⟨fun Z g H Q W rp tk nk nx pins s I => ?_⟩
  refine wpAny_Call_Name_kw (ld_glob I hg T.gC ?_ hdb)
  refine PySem.W.callWith_K (h₀ := X.base) I.ok.mod.kin T.kC (thn (h.run Z g H (fun vs H1 => ∃ v, vs = [v] ∧ ∀ t e dx, H1 t = none → H1 e = none → H1 dx = none → e ≠ t → dx ≠ t → dx ≠ e → Q (.ref e) (upd (upd (upd H1 t (.tup [v])) e (.ext (ExO e C t dx))) dx (.xd [(("at" : Str), v)]))) W rp tk (fun vs H1 ds m1 q go so da => ?_) nx pos pins s I) fun us s1 hh => ?_) he hpl
  · obtain ⟨d, rfl, q⟩ := q
    cases da with
    | cons d1 d2 =>
      rename_i v vs
      cases d2
      refine ⟨_, rfl, fun t e dx ht hee hdx n1 n2 n3 => ?_⟩
      have g1 : Go m1 H1 m1 (upd H1 t (.tup [v])) := Ext.fresh ht
      have s1 := so.laid (o := .tup [v]) ht
      have he2 : (upd H1 t (.tup [v])) e = none := by rw [upd_ne n1]; exact hee
      have g2 : Go m1 (upd H1 t (.tup [v])) m1 (upd (upd H1 t (.tup [v])) e (.ext (ExO e C t dx))) := Ext.fresh he2
      have s2 := s1.laid (o := .ext (ExO e C t dx)) he2
      have he3 : (upd (upd H1 t (.tup [v])) e (.ext (ExO e C t dx))) dx = none := by rw [upd_ne n3, upd_ne n2]; exact hdx
      have g3 : Go m1 (upd (upd H1 t (.tup [v])) e (.ext (ExO e C t dx))) m1 (upd (upd (upd H1 t (.tup [v])) e (.ext (ExO e C t dx))) dx (.xd [(("at" : Str), v)])) := Ext.fresh he3
      have s3 := s2.laid (o := .xd [(("at" : Str), v)]) he3
      refine nk _ _ _ m1 q (((go.trans g1).trans g2).trans g3) s3 (.exc (s1.fresh he2) ?_ (so.fresh ht) ?_ (s2.fresh he3) upd_same (.cons (d1.move (Go.full Z ((g1.trans g2).trans g3))) .nil))
      · rw [upd_ne (Ne.symm n3)]
        exact upd_same
      · rw [upd_ne (Ne.symm n2), upd_ne (Ne.symm n1)]
        exact upd_same
  · obtain ⟨vs, H1, I1, r1, v, ev, q1⟩ := hh
    subst ev
    refine ⟨I1.kIn, ?_⟩
    cases r1 with
    | cons rv rn =>
      rename_i v' us'
      cases rn
      show wpAny _ _ (call (.ref C) [v']) _ _ _
      have hlim := I1.nolimit
      obtain ⟨hp, gs, dr, tk', os⟩ := s1
      refine wpAny_call (make_run T I1.kIn hlim (by have := gd.room.dp; omega) fun h' tk2 t e d M => ?_)
      have et := M.ht
      have ee := M.he
      subst et ee
      have I2 : L2.Inv X pins g (upd H1 hp.objs.size (.tup [v])) ⟨hp.push (PySem.W.kdv_tup [v']), gs, dr, tk', os⟩ := I1.laid (t' := tk') (fun b o e => Heap.get?_push_of_some _ e) (Nat.le_refl _) ⟨by rw [sizeLine_eq]; exact (by decide : 1 ≤ 16777216), [v'], .cons rv .nil, ⟨_, Heap.get?_push_size _ rfl, rfl, _, rfl⟩⟩
      have hs : (hp.push (PySem.W.kdv_tup [v'])).objs.size = hp.objs.size + 1 := Heap.size_push ..
      let oe : Obj := { cls := .ref C, dict := some d, data := .fields #[.ref hp.objs.size, .none, .none, .none, .bool false, .none] }
      have hge : ((hp.push (PySem.W.kdv_tup [v'])).push oe).get? (hp.objs.size + 1) = some oe := by rw [← hs]; exact Heap.get?_push_size _ rfl
      have I3 : L2.Inv X pins g (upd (upd H1 hp.objs.size (.tup [v])) (hp.objs.size + 1) (.ext (ExO (hp.objs.size + 1) C hp.objs.size d))) ⟨(hp.push (PySem.W.kdv_tup [v'])).push oe, gs, dr, tk', os⟩ :=
        I2.laid (t' := tk') (fun b o e => Heap.get?_push_of_some _ e) (by show (hp.push (PySem.W.kdv_tup [v'])).objs.size ≤ _; rw [hs]; exact Nat.le_refl _) ⟨⟨oe, _, hge, rfl, rfl, rfl, rfl⟩, ⟨_, hge⟩, fun h1 h2 p kk => by
          obtain ⟨o, vs, e1, e2⟩ := p
          exact ⟨o, vs, kk o e1, e2⟩⟩
      have hs2 : ((hp.push (PySem.W.kdv_tup [v'])).push oe).objs.size = hp.objs.size + 1 + 1 := by rw [Heap.size_push, hs]
      have ob : ObjOk X.prog X.w (upd (upd (upd H1 hp.objs.size (.tup [v])) (hp.objs.size + 1) (.ext (ExO (hp.objs.size + 1) C hp.objs.size d))) d (.xd [(("at" : Str), v)])) h' d (.xd [(("at" : Str), v)]) := ⟨_, M.ns, fun f => relo_at rv f⟩
      have I4 : L2.Inv X pins g (upd (upd (upd H1 hp.objs.size (.tup [v])) (hp.objs.size + 1) (.ext (ExO (hp.objs.size + 1) C hp.objs.size d))) d (.xd [(("at" : Str), v)])) ⟨h', gs, dr, tk2, os⟩ := by
        refine I3.laid (t' := tk2) (fun b o e => ?_) (by show ((hp.push (PySem.W.kdv_tup [v'])).push oe).objs.size ≤ d; rw [hs2]; exact M.dbig) ob
        by_cases hb : b = hp.objs.size + 1
        · subst hb
          have e' : ((hp.push (PySem.W.kdv_tup [v'])).push oe).get? (hp.objs.size + 1) = some o := e
          rw [hge] at e'
          cases e'
          exact M.obj
        · refine M.keep b o ?_
          rw [← Heap.get?_push_ne _ b oe (by rw [hs]; exact hb)]
          exact e
      have bd : hp.objs.size + 1 + 1 ≤ d := M.dbig
      have f3 : hp.objs.size ≤ d := Nat.le_trans (Nat.le_trans (Nat.le_succ _) (Nat.le_succ _)) bd
      have n1 : hp.objs.size + 1 ≠ hp.objs.size := Nat.ne_of_gt (Nat.lt_succ_self _)
      have n2 : d ≠ hp.objs.size := Nat.ne_of_gt (Nat.lt_of_lt_of_le (Nat.lt_succ_of_lt (Nat.lt_succ_self _)) bd)
      have n3 : d ≠ hp.objs.size + 1 := Nat.ne_of_gt (Nat.lt_of_lt_of_le (Nat.lt_succ_self _) bd)
      exact ⟨.ref _, _, I4, rfl, q1 _ _ _ (I1.hok.fresh (Nat.le_refl _)) (I1.hok.fresh (Nat.le_succ _)) (I1.hok.fresh f3) n1 n2 n3⟩
end
section
open PySem.W PySem.Calls PySem.HandSPX
theorem Ex_at.mk {K : Frag} {h : Heap} {mg : Str → Option Value} {C fI N : Addr} {cn qn q : Str} {bs bm : List Value} {sn : List Str} {sub : List Value} {ab : Bool} {col : Option Bool} {dd od an : Option Addr} {m0 m1 m2 m3 m5 : Option Value}
    {oc dc pm cd ct : Value} {sl : Array (Option Value)} {p1 p2 q1 q2 q3 q4 : Pos} {ms : List (Str × Const)} (X : K.In h) (G : h.Ns mainGlobals mg)
    (aC : nsIn K mainGlobals cn = some (some (.ref C))) (xL : K.lookup C = some (excClassObj cn q C N bs bm true sn sub ab col dd m0 m1 m2 m3 m5 "ValueError.__new__")) (hbm : PySem.W.excTail [.type "ValueError", .type "Exception", .type "BaseException", .type "object"] bm = true)
    (sa : findIn K (.ref C) "__setattr__" = some (some (.builtin "object.__setattr__"))) (ga : findIn K (.ref C) "__getattribute__" = some (some (.builtin "BaseException.__getattribute__"))) (gg : findIn K (.ref C) "__getattr__" = some none) (noN : findIn K (.ref C) "at" = some none)
    (iC : findIn K (.ref C) "__init__" = some (some (.ref fI))) (rC : findIn K (.ref C) "__repr__" = some (some (.builtin "BaseException.__repr__"))) (cC : findIn K (.ref C) "__class__" = some (some (.builtin "object.__class__")))
    (spC : specialIn K (.builtin "object.__class__") "__get__" = some (some (.builtin "getset_descriptor.__get__"))) (tkC : takesIn K (.builtin "object.__class__") = some true) (mrC : mroIn K C (.type "object") = some true) (tC : typeIn K (.ref fI) = some (.type "function"))
    (kC : keepIn K (.ref C) = true) (exC : subIn K (.ref C) (.type "BaseException") = some true) (tyC : typeIn K (.ref C) = some (.type "type")) (hdC : hasDictIn K C = true) (isC : isClsIn K C = true) (suC : subIn K (.ref C) (.ref C) = some true)
    (l1 : K.lookup fI = some ⟨oc, od, .func (fnOf "__init__" qn (Ex_at.iA p1 p2) (Ex_at.iB q1 q2 q3 q4) (Ex_at.iS ms) .none .none dc pm an cd ct), sl⟩) (c1 : codeIn K cd qn = true) : Ex_at.Txt K mg cn C fI :=
  { gC := mg_of X G aC, cls := ⟨q, N, bs, bm, sn, sub, ab, col, dd, m0, m1, m2, m3, m5, xL, hbm⟩, sa := sa, ga := ga, gg := gg, noN := noN, iC := iC, rC := rC, cC := cC, spC := spC, tkC := tkC, mrC := mrC, tC := tC, kC := kC, exC := exC, tyC := tyC, hdC := hdC,
    te := exm_cl exC isC tyC suC, fn := ⟨qn, oc, od, dc, pm, an, cd, ct, sl, p1, p2, q1, q2, q3, q4, ms, l1, c1⟩ }
end
/-! ### exceptions of one field, many -/
namespace Ex_many
open PySem PySem.W PySem.Calls PyProof.Rows PySem.HandSPX
def iA (p1 p2 : Pos) : Arguments := { posonlyargs := [], args := [{ arg := "self", annotation := none, pos := p1 }, { arg := "many", annotation := none, pos := p2 }], vararg := none, kwonlyargs := [], kw_defaults := [], kwarg := none, defaults := [] }
def iB (q1 q2 q3 q4 : Pos) : List Stmt := [.Assign [.Attribute (.Name "self" q1) "many" q2] (.Name "many" q3) q4]
def iS (ms : List (Str × Const)) : Scope := { kind := .function, names := [(PySem.Str.ofString "self", .local), (PySem.Str.ofString "many", .local)], isGenerator := false, isCoroutine := false, more := ms }
/-- what the written part says of the class cn at C, and of its __init__, at fI -/
structure Txt (K : Frag) (mg : Str → Option Value) (cn : Str) (C fI : Addr) : Prop where
  gC : mg cn = some (.ref C)
  cls : ∃ q N bs bm sn sub ab col dd k0 k1 k2 k3 k5, K.lookup C = some (excClassObj cn q C N bs bm true sn sub ab col dd k0 k1 k2 k3 k5 "LookupError.__new__") ∧ excTail [.type "LookupError", .type "Exception", .type "BaseException", .type "object"] bm = true
  sa : findIn K (.ref C) "__setattr__" = some (some (.builtin "object.__setattr__"))
  ga : findIn K (.ref C) "__getattribute__" = some (some (.builtin "BaseException.__getattribute__"))
  gg : findIn K (.ref C) "__getattr__" = some none
  noN : findIn K (.ref C) "many" = some none
  iC : findIn K (.ref C) "__init__" = some (some (.ref fI))
  rC : findIn K (.ref C) "__repr__" = some (some (.builtin "BaseException.__repr__"))
  cC : findIn K (.ref C) "__class__" = some (some (.builtin "object.__class__"))
  spC : specialIn K (.builtin "object.__class__") "__get__" = some (some (.builtin "getset_descriptor.__get__"))
  tkC : takesIn K (.builtin "object.__class__") = some true
  mrC : mroIn K C (.type "object") = some true
  tC : typeIn K (.ref fI) = some (.type "function")
  kC : keepIn K (.ref C) = true
  exC : subIn K (.ref C) (.type "BaseException") = some true
  tyC : typeIn K (.ref C) = some (.type "type")
  hdC : hasDictIn K C = true
  te : exmOne K (.ref C) (.ref C) = some true
  fn : ∃ (qn : Str) (oc : Value) (od : Option Addr) (doc pm : Value) (an : Option Addr) (cdv ct : Value) (osl : Array (Option Value)) (p1 p2 q1 q2 q3 q4 : Pos) (ms : List (Str × Const)),
    K.lookup fI = some ⟨oc, od, .func (fnOf "__init__" qn (iA p1 p2) (iB q1 q2 q3 q4) (iS ms) .none .none doc pm an cdv ct), osl⟩ ∧ codeIn K cdv qn = true
theorem one_le (v : Value) : [v].length ≤ sizeLine := by
  rw [sizeLine_eq]
  exact (by decide : 1 ≤ 16777216)
theorem ldN {M : Model} {s : Shared} {name : Str} {scope : Scope} {L a : Addr} {cd : Value} {m : Str → Option Value} {x : Str} {pos : Pos} {v : Value} {Q : Value → Shared → Prop} {A : Around} {E : Value → Shared → Prop} (hn : s.heap.Ns L m) (hv : m x = some v) (h : Q v s)
    (hk : scope.kind = .function := by rfl) (hl : (envOfC name scope L a cd).kindOf x = some .local := by rfl) (hd : (x == ("__debug__" : Str)) = false := by decide) :
    wpAny M A (eval (.Name x pos) (envOfC name scope L a cd)) Q E s := wpAny_Name (wpAny_loadName_local hk hl hn hv h) hd
/-- what __init__ leaves of a fresh exception at x -/
structure InitEnd (h h' : Heap) (x C dx t1 : Addr) (v : Value) : Prop where
  keep : ∀ b o, b ≠ x → h.get? b = some o → h'.get? b = some o
  obj : h'.get? x = some { cls := .ref C, dict := some dx, data := .fields #[.ref t1, .none, .none, .none, .bool false, .none] }
  dbig : h.objs.size ≤ dx
  dne : dx ≠ x
  ns : h'.Ns1 dx (fun y => if y = "many" then some v else none)
/-- a made one: the arguments' tuple at t, the exception at e, its dict at d -/
structure Made (h h' : Heap) (t e C d : Addr) (v : Value) : Prop where
  keep : ∀ b o, (h.push (kdv_tup [v])).get? b = some o → h'.get? b = some o
  ht : t = h.objs.size
  he : e = h.objs.size + 1
  obj : h'.get? e = some { cls := .ref C, dict := some d, data := .fields #[.ref t, .none, .none, .none, .bool false, .none] }
  dbig : h.objs.size + 1 + 1 ≤ d
  dne : d ≠ e
  ns : h'.Ns1 d (fun y => if y = "many" then some v else none)
section
variable {prog : Program} {w : World} {A : Around} {E : Value → Shared → Prop} {R : Result → Shared → Prop} {s : Shared} {K : Frag} {mg : Str → Option Value} {cn : Str} {C fI : Addr}
theorem init_run (T : Txt K mg cn C fI) {x t0 : Addr} {v : Value} (X : K.In s.heap) (hlim : s.heap.NoLimit) (hx : s.heap.get? x = some (excO C t0)) (hnx : K.lookup x = none) (hroom : A.depth < recursionLimit)
    (hq : ∀ h' tk dx, InitEnd s.heap h' x C dx t0 v → R (.ok (.ret .none)) { s with heap := h', toks := tk }) :
    codeAny (model prog w) A (.call (.ref fI) ⟨[.ref x, v], []⟩) R s := by
  obtain ⟨qn, oc, od, doc, pm, an, cdv, ct, osl, p1, p2, q1, q2, q3, q4, ms, ho, hcd⟩ := T.fn
  obtain ⟨q, N, bs, bm, sn, sub, ab, col, dd, k0, k1, k2, k3, k5, hC, hbm⟩ := T.cls
  have hcl : clsIn K C = some { name := cn, bases := bs, mro := .ref C :: bm, ns := N, qualname := q, hasDict := true, slotNames := sn, subclasses := sub, abstract := ab, collection := col, hasDel := false } := by unfold clsIn; rw [hC] <;> rfl
  refine Att.call_fn (binds := [("self", .ref x), ("many", v)]) X hlim ho hcd hroom (BindsTo.of_eq (by first | rfl | with_unfolding_all rfl)) (by first | rfl | decide | with_unfolding_all rfl) (fun s₁ IC => ?_) rfl rfl rfl
  obtain ⟨h₁, tk₁, rfl⟩ := IC.toInCall.same
  have k : ∀ b o, s.heap.get? b = some o → h₁.get? b = some o := IC.toInCall.keep
  have hn := IC.toInCall.ns
  have X₁ : K.In h₁ := X.keeps k
  have hx₁ := k _ _ hx
  show wpAny _ _ (execs _ _) _ _ _
  refine wpAny_execs_cons (plainObj_wpAny_Assign_Attribute ?_)
  refine ldN (v := v) hn (by first | rfl | with_unfolding_all rfl | kernel_rfl) (ldN (v := .ref x) hn (by first | rfl | with_unfolding_all rfl | kernel_rfl) ?_)
  refine set_plain X₁ (ox := excO C t0) (od := none) ⟨hx₁, rfl, rfl, trivial⟩ T.sa ?_
  have hov : excOver K C [.type "LookupError", .type "Exception", .type "BaseException", .type "object"] = true := by
    unfold excOver
    rw [hcl]
    show ((C == C) && excTail _ bm) = true
    rw [hbm]
    simp
  refine Dw.osa_first F.store_LookupError X₁ hx₁ hcl hov rfl T.noN (fun h₃ tk₃ dx k₃ dn dne hx₃ hn₃ => ?_)
  show wpAny _ _ (execs _ _) _ _ _
  have z : s.heap.objs.size < h₁.objs.size := hn.lt
  exact wpAny_execs_nil (hq h₃ tk₃ dx ⟨fun b o hb e => k₃ b o hb (k b o e), hx₃, Nat.le_of_lt (Nat.lt_of_lt_of_le z dn), dne, hn₃⟩)
theorem make_run (T : Txt K mg cn C fI) {v : Value} (X : K.In s.heap) (hlim : s.heap.NoLimit) (hroom : A.depth + 1 < recursionLimit)
    (hq : ∀ h' tk t e d, Made s.heap h' t e C d v → R (.ok (.ret (.ref e))) { s with heap := h', toks := tk }) :
    codeAny (model prog w) A (.call (.ref C) ⟨[v], []⟩) R s := by
  obtain ⟨q, N, bs, bm, sn, sub, ab, col, dd, k0, k1, k2, k3, k5, hC, hbm⟩ := T.cls
  obtain ⟨hp, g, dr, tk, os⟩ := s
  have k : ∀ b o, hp.get? b = some o → ((hp.push (kdv_tup [v])).push (excO C hp.objs.size)).get? b = some o := fun b o e => Heap.get?_push_of_some _ (Heap.get?_push_of_some _ e)
  have hget : ((hp.push (kdv_tup [v])).push (excO C hp.objs.size)).get? (hp.objs.size + 1) = some (excO C hp.objs.size) := by heap_get
  have hnx : K.lookup (hp.objs.size + 1) = none := by
    cases e : K.lookup (hp.objs.size + 1) with
    | none => rfl
    | some o =>
      have z : hp.get? (hp.objs.size + 1) = some o := X _ _ e
      exact absurd (Nat.lt_of_succ_lt (Heap.lt_size z)) (Nat.lt_irrefl _)
  refine call_own F.excBase_LookupError (fun X => excTail_contains X bm hbm) (X _ _ hC) (looks_findIn X T.iC) (fun self => bind_fn X self T.tC) (one_le v) ?_
  refine init_run (s := ⟨(hp.push (kdv_tup [v])).push (excO C hp.objs.size), g, dr, tk, os⟩) T (X.keeps k) (hlim.keeps k) hget hnx ?_ fun h' tk' dx ⟨k', hx, dn, dne, hns⟩ => ?_
  · show A.depth + 1 < recursionLimit
    exact hroom
  · have old : ∀ b o, (hp.push (kdv_tup [v])).get? b = some o → h'.get? b = some o := fun b o e => by
      refine k' b o (Nat.ne_of_lt ?_) (Heap.get?_push_of_some _ e)
      have := Heap.lt_size e
      rw [Heap.size_push] at this
      exact this
    have z : hp.objs.size + 1 + 1 ≤ dx := by
      first
        | (simpa only [Heap.size_push] using dn)
        | exact dn
        | (have q := dn; rw [Heap.size_push, Heap.size_push] at q; exact q)
    exact ⟨rfl, hq h' tk' hp.objs.size (hp.objs.size + 1) dx ⟨old, rfl, rfl, hx, z, dne, hns⟩⟩
end
end Ex_many
section
open Ex_many
variable {X : Cx} {C fI : Addr} {cn : Str} {a : Expr} {r : En} {m : Mu} {F : Pd} {E : Xd} {P : Pc} {p pos pos2 : Pos} {k : Nat} {N : List Str}
theorem relo_many {v : V} {v' : Value} (rv : RelV v v') (f : Str) : RelO (List.lookup f [(("many" : Str), v)]) (if f = "many" then some v' else none) := by
  by_cases hw : f = "many"
  · subst hw
    rw [if_pos rfl, show List.lookup ("many" : Str) [(("many" : Str), v)] = some v by simp [List.lookup]]
    exact rv
  · have qw : (f == ("many" : Str)) = false := by simpa using hw
    rw [if_neg hw, show List.lookup f [(("many" : Str), v)] = none by simp [List.lookup, qw]]
    trivial
def tMk_many (C : Addr) (ta : TA) : L2.St → Hp → XK → Prop := fun g H Q => ta g H fun vs H1 => ∃ v, vs = [v] ∧ ∀ d, H1 d = none → Q (.ref C) (some d) (upd H1 d (.xd [(("many" : Str), v)]))
theorem pmk_many {ta : TA} (T : Txt X.K X.mg cn C fI) (hr : Room k X.A) (ha : PA X [a] ta) (hg : Gl X cn := by rfl) (hdb : (cn == ("__debug__" : Str)) = false := by decide)
    (he : starEach (a :: []) X.env = (false, eval a X.env) :: starEach [] X.env := by rfl) (hpl : (backTo pos (starEach [] X.env)).any (·.1) = false := by rfl) :
    PMk X (.Call (.Name cn p) [a] [] pos) (tMk_many C ta) := by
  intro pins s g H Q I h
  refine wpAny_Call_Name_kw (ld_glob I hg T.gC ?_ hdb)
  refine PySem.W.callWith_K (h₀ := X.base) I.ok.mod.kin T.kC (thn (ha.run pos pins s g H _ I h) fun us s1 hh => ?_) he hpl
  obtain ⟨vs, H1, I1, r1, v, ev, q1⟩ := hh
  subst ev
  refine ⟨I1.kIn, ?_⟩
  cases r1 with
  | cons rv rn =>
    rename_i v' us'
    cases rn
    show wpAny _ _ (call (.ref C) [v']) _ _ _
    have hlim := I1.nolimit
    obtain ⟨hp, gs, dr, tk, os⟩ := s1
    refine wpAny_call (make_run T I1.kIn hlim (by have := hr.dp; omega) fun h' tk' t e d M => ?_)
    show MkP X pins g Q (.ref e) ⟨h', gs, dr, tk', os⟩
    have hns := M.ns
    have bigE : hp.objs.size ≤ e := by rw [M.he]; exact Nat.le_succ _
    have bigD : hp.objs.size ≤ d := Nat.le_trans (Nat.le_trans (Nat.le_succ _) (Nat.le_succ _)) M.dbig
    obtain ⟨G', g1, g2⟩ := restrict h' fun b => decide (b ≠ e)
    have gk : ∀ b, b ≠ e → G'.get? b = h'.get? b := fun b hb => g1 b (decide_eq_true hb)
    have ge : G'.get? e = none := g2 e (by simp)
    have old : ∀ b o, hp.get? b = some o → G'.get? b = some o := fun b o q => (gk b (Nat.ne_of_lt (Nat.lt_of_lt_of_le (Heap.lt_size q) bigE))).trans (M.keep b o (Heap.get?_push_of_some _ q))
    have ob : ObjOk X.prog X.w (upd H1 d (.xd [(("many" : Str), v)])) G' d (.xd [(("many" : Str), v)]) := ⟨_, hns.at (fun o q => (gk d M.dne).trans q), fun f => relo_many rv f⟩
    have J : Inv X pins g (upd H1 d (.xd [(("many" : Str), v)])) ⟨G', gs, dr, tk', os⟩ := I1.laid (t' := tk') old bigD ob
    refine ⟨e, _, _, ⟨G', gs, dr, tk', os⟩, _, .ref C, some d, rfl, J, fun b o q => ?_, ge, M.obj, ⟨rfl, rfl⟩, rfl, rfl, ?_, rfl, I1.bare, raises_own T.exC T.tyC, q1 d (I1.hok.fresh bigD)⟩
    · by_cases hb : b = e
      · have q' : G'.get? b = some o := q
        rw [hb, ge] at q'; cases q'
      · exact (gk b hb).symm.trans q
    · rw [upd_ne (Ne.symm M.dne)]
      exact I1.hok.fresh bigE
/-- raise cn(e) -/
theorem ls_raise_many (T : Txt X.K X.mg cn C fI) (gd : Gd k N X) (h : LA X [a] r m (fun ds m1 => ∃ d, ds = [d] ∧ P.ex (.ref C) [(("many" : Str), d)] r m1) P.ex) (hg : Gl X cn := by rfl) (hdb : (cn == ("__debug__" : Str)) = false := by decide)
    (he : starEach (a :: []) X.env = (false, eval a X.env) :: starEach [] X.env := by rfl) (hpl : (backTo pos (starEach [] X.env)).any (·.1) = false := by rfl) :
    LS X (.Raise (some (.Call (.Name cn p) [a] [] pos)) none pos2) r m P := by
  refine ⟨fun Z g H D W rp tk np => (ps_raise gd.calm tk (pmk_many T gd.room pa_w hg hdb he hpl)).w ?_⟩
  refine h.run Z g H _ W rp tk (fun vs H1 ds m1 q go so da => ?_) np.ex
  obtain ⟨d, rfl, q⟩ := q
  cases da with
  | cons d1 d2 =>
    rename_i v vs
    cases d2
    refine ⟨_, rfl, fun dx hd => ?_⟩
    have gf : Go m1 H1 m1 (upd H1 dx (.xd [(("many" : Str), v)])) := Ext.fresh hd
    exact np.ex _ dx _ _ g _ r m1 q (go.trans gf) (rp.go (go.trans gf) (so.laid hd)) (so.fresh hd) upd_same (.cons (d1.move (Go.full Z gf)) .nil)
/-- cn(e) as a value -/
theorem le_exc_many (T : Txt X.K X.mg cn C fI) (gd : Gd k N X) (h : LA X [a] r m (fun ds m1 => ∃ d, ds = [d] ∧ F (.exc C cn [d]) m1) E) (hg : Gl X cn := by rfl) (hdb : (cn == ("__debug__" : Str)) = false := by decide)
    (he : starEach (a :: []) X.env = (false, eval a X.env) :: starEach [] X.env := by rfl) (hpl : (backTo pos (starEach [] X.env)).any (·.1) = false := by rfl) :
    LE X (.Call (.Name cn p) [a] [] pos) r m F E := by
  refine ⟨fun Z g H Q W rp tk nk nx pins s I => ?_⟩
  refine wpAny_Call_Name_kw (ld_glob I hg T.gC ?_ hdb)
  refine PySem.W.callWith_K (h₀ := X.base) I.ok.mod.kin T.kC (thn (h.run Z g H (fun vs H1 => ∃ v, vs = [v] ∧ ∀ t e dx, H1 t = none → H1 e = none → H1 dx = none → e ≠ t → dx ≠ t → dx ≠ e → Q (.ref e) (upd (upd (upd H1 t (.tup [v])) e (.ext (ExO e C t dx))) dx (.xd [(("many" : Str), v)]))) W rp tk (fun vs H1 ds m1 q go so da => ?_) nx pos pins s I) fun us s1 hh => ?_) he hpl
  · obtain ⟨d, rfl, q⟩ := q
    cases da with
    | cons d1 d2 =>
      rename_i v vs
      cases d2
      refine ⟨_, rfl, fun t e dx ht hee hdx n1 n2 n3 => ?_⟩
      have g1 : Go m1 H1 m1 (upd H1 t (.tup [v])) := Ext.fresh ht
      have s1 := so.laid (o := .tup [v]) ht
      have he2 : (upd H1 t (.tup [v])) e = none := by rw [upd_ne n1]; exact hee
      have g2 : Go m1 (upd H1 t (.tup [v])) m1 (upd (upd H1 t (.tup [v])) e (.ext (ExO e C t dx))) := Ext.fresh he2
      have s2 := s1.laid (o := .ext (ExO e C t dx)) he2
      have he3 : (upd (upd H1 t (.tup [v])) e (.ext (ExO e C t dx))) dx = none := by rw [upd_ne n3, upd_ne n2]; exact hdx
      have g3 : Go m1 (upd (upd H1 t (.tup [v])) e (.ext (ExO e C t dx))) m1 (upd (upd (upd H1 t (.tup [v])) e (.ext (ExO e C t dx))) dx (.xd [(("many" : Str), v)])) := Ext.fresh he3
      have s3 := s2.laid (o := .xd [(("many" : Str), v)]) he3
      refine nk _ _ _ m1 q (((go.trans g1).trans g2).trans g3) s3 (.exc (s1.fresh he2) ?_ (so.fresh ht) ?_ (s2.fresh he3) upd_same (.cons (d1.move (Go.full Z ((g1.trans g2).trans g3))) .nil))
      · rw [upd_ne (Ne.symm n3)]
        exact upd_same
      · rw [upd_ne (Ne.symm n2), upd_ne (Ne.symm n1)]
        exact upd_same
  · obtain ⟨vs, H1, I1, r1, v, ev, q1⟩ := hh
    subst ev
    refine ⟨I1.kIn, ?_⟩
    cases r1 with
    | cons rv rn =>
      rename_i v' us'
      cases rn
      show wpAny _ _ (call (.ref C) [v']) _ _ _
      have hlim := I1.nolimit
      obtain ⟨hp, gs, dr, tk', os⟩ := s1
      refine wpAny_call (make_run T I1.kIn hlim (by have := gd.room.dp; omega) fun h' tk2 t e d M => ?_)
      have et := M.ht
      have ee := M.he
      subst et ee
      have I2 : L2.Inv X pins g (upd H1 hp.objs.size (.tup [v])) ⟨hp.push (PySem.W.kdv_tup [v']), gs, dr, tk', os⟩ := I1.laid (t' := tk') (fun b o e => Heap.get?_push_of_some _ e) (Nat.le_refl _) ⟨by rw [sizeLine_eq]; exact (by decide : 1 ≤ 16777216), [v'], .cons rv .nil, ⟨_, Heap.get?_push_size _ rfl, rfl, _, rfl⟩⟩
      have hs : (hp.push (PySem.W.kdv_tup [v'])).objs.size = hp.objs.size + 1 := Heap.size_push ..
      let oe : Obj := { cls := .ref C, dict := some d, data := .fields #[.ref hp.objs.size, .none, .none, .none, .bool false, .none] }
      have hge : ((hp.push (PySem.W.kdv_tup [v'])).push oe).get? (hp.objs.size + 1) = some oe := by rw [← hs]; exact Heap.get?_push_size _ rfl
      have I3 : L2.Inv X pins g (upd (upd H1 hp.objs.size (.tup [v])) (hp.objs.size + 1) (.ext (ExO (hp.objs.size + 1) C hp.objs.size d))) ⟨(hp.push (PySem.W.kdv_tup [v'])).push oe, gs, dr, tk', os⟩ :=
        I2.laid (t' := tk') (fun b o e => Heap.get?_push_of_some _ e) (by show (hp.push (PySem.W.kdv_tup [v'])).objs.size ≤ _; rw [hs]; exact Nat.le_refl _) ⟨⟨oe, _, hge, rfl, rfl, rfl, rfl⟩, ⟨_, hge⟩, fun h1 h2 p kk => by
          obtain ⟨o, vs, e1, e2⟩ := p
          exact ⟨o, vs, kk o e1, e2⟩⟩
      have hs2 : ((hp.push (PySem.W.kdv_tup [v'])).push oe).objs.size = hp.objs.size + 1 + 1 := by rw [Heap.size_push, hs]
      have ob : ObjOk X.prog X.w (upd (upd (upd H1 hp.objs.size (.tup [v])) (hp.objs.size + 1) (.ext (ExO (hp.objs.size + 1) C hp.objs.size d))) d (.xd [(("many" : Str), v)])) h' d (.xd [(("many" : Str), v)]) := ⟨_, M.ns, fun f => relo_many rv f⟩
      have I4 : L2.Inv X pins g (upd (upd (upd H1 hp.objs.size (.tup [v])) (hp.objs.size + 1) (.ext (ExO (hp.objs.size + 1) C hp.objs.size d))) d (.xd [(("many" : Str), v)])) ⟨h', gs, dr, tk2, os⟩ := by
        refine I3.laid (t' := tk2) (fun b o e => ?_) (by show ((hp.push (PySem.W.kdv_tup [v'])).push oe).objs.size ≤ d; rw [hs2]; exact M.dbig) ob
        by_cases hb : b = hp.objs.size + 1
        · subst hb
          have e' : ((hp.push (PySem.W.kdv_tup [v'])).push oe).get? (hp.objs.size + 1) = some o := e
          rw [hge] at e'
          cases e'
          exact M.obj
        · refine M.keep b o ?_
          rw [← Heap.get?_push_ne _ b oe (by rw [hs]; exact hb)]
          exact e
      have bd : hp.objs.size + 1 + 1 ≤ d := M.dbig
      have f3 : hp.objs.size ≤ d := Nat.le_trans (Nat.le_trans (Nat.le_succ _) (Nat.le_succ _)) bd
      have n1 : hp.objs.size + 1 ≠ hp.objs.size := Nat.ne_of_gt (Nat.lt_succ_self _)
      have n2 : d ≠ hp.objs.size := Nat.ne_of_gt (Nat.lt_of_lt_of_le (Nat.lt_succ_of_lt (Nat.lt_succ_self _)) bd)
      have n3 : d ≠ hp.objs.size + 1 := Nat.ne_of_gt (Nat.lt_of_lt_of_le (Nat.lt_succ_self _) bd)
      exact ⟨.ref _, _, I4, rfl, q1 _ _ _ (I1.hok.fresh (Nat.le_refl _)) (I1.hok.fresh (Nat.le_succ _)) (I1.hok.fresh f3) n1 n2 n3⟩
end
section
open PySem.W PySem.Calls PySem.HandSPX
theorem Ex_many.mk {K : Frag} {h : Heap} {mg : Str → Option Value} {C fI N : Addr} {cn qn q : Str} {bs bm : List Value} {sn : List Str} {sub : List Value} {ab : Bool} {col : Option Bool} {dd od an : Option Addr} {m0 m1 m2 m3 m5 : Option Value}
    {oc dc pm cd ct : Value} {sl : Array (Option Value)} {p1 p2 q1 q2 q3 q4 : Pos} {ms : List (Str × Const)} (X : K.In h) (G : h.Ns mainGlobals mg)
    (aC : nsIn K mainGlobals cn = some (some (.ref C))) (xL : K.lookup C = some (excClassObj cn q C N bs bm true sn sub ab col dd m0 m1 m2 m3 m5 "LookupError.__new__")) (hbm : PySem.W.excTail [.type "LookupError", .type "Exception", .type "BaseException", .type "object"] bm = true)
    (sa : findIn K (.ref C) "__setattr__" = some (some (.builtin "object.__setattr__"))) (ga : findIn K (.ref C) "__getattribute__" = some (some (.builtin "BaseException.__getattribute__"))) (gg : findIn K (.ref C) "__getattr__" = some none) (noN : findIn K (.ref C) "many" = some none)
    (iC : findIn K (.ref C) "__init__" = some (some (.ref fI))) (rC : findIn K (.ref C) "__repr__" = some (some (.builtin "BaseException.__repr__"))) (cC : findIn K (.ref C) "__class__" = some (some (.builtin "object.__class__")))
    (spC : specialIn K (.builtin "object.__class__") "__get__" = some (some (.builtin "getset_descriptor.__get__"))) (tkC : takesIn K (.builtin "object.__class__") = some true) (mrC : mroIn K C (.type "object") = some true) (tC : typeIn K (.ref fI) = some (.type "function"))
    (kC : keepIn K (.ref C) = true) (exC : subIn K (.ref C) (.type "BaseException") = some true) (tyC : typeIn K (.ref C) = some (.type "type")) (hdC : hasDictIn K C = true) (isC : isClsIn K C = true) (suC : subIn K (.ref C) (.ref C) = some true)
    (l1 : K.lookup fI = some ⟨oc, od, .func (fnOf "__init__" qn (Ex_many.iA p1 p2) (Ex_many.iB q1 q2 q3 q4) (Ex_many.iS ms) .none .none dc pm an cd ct), sl⟩) (c1 : codeIn K cd qn = true) : Ex_many.Txt K mg cn C fI :=
  { gC := mg_of X G aC, cls := ⟨q, N, bs, bm, sn, sub, ab, col, dd, m0, m1, m2, m3, m5, xL, hbm⟩, sa := sa, ga := ga, gg := gg, noN := noN, iC := iC, rC := rC, cC := cC, spC := spC, tkC := tkC, mrC := mrC, tC := tC, kC := kC, exC := exC, tyC := tyC, hdC := hdC,
    te := exm_cl exC isC tyC suC, fn := ⟨qn, oc, od, dc, pm, an, cd, ct, sl, p1, p2, q1, q2, q3, q4, ms, l1, c1⟩ }
end
end Dw
namespace Dw
open PySem PySem.Spec PyProof.Rows L2
open Builtin Builtin.Str Builtin.BaseException Builtin.Exceptions
open PySem.W (Looks Frag findIn subIn looks_findIn looks_subIn)
section
variable {prog : Program} {w : World} {M : Model} {A : Around} {E : Value → Shared → Prop} {s : Shared} {K : Frag} {C e t0 : Addr}
theorem callIf_C {v tp : Value} {name : Str} {i : String} {Q : Option Value → Shared → Prop} (hT : Looks M s.heap (typeOf v) tp) (hf : Looks M s.heap (typeLookup tp name) (some (.builtin i))) (hb : bindSpecial (.builtin i) v = pure (.builtin i, [v]))
    (hc : wpAny M A (call (.builtin i) [v]) (fun q => Q (some q)) E s) : wpAny M A (callSpecialIfBound? v name) Q E s := by
  simp only [callSpecialIfBound?, bindSpecialIfBound?]
  refine wpAny_holding (wpAny_bind (wpAny_bind ?_))
  unfold specialOf
  refine wpAny_bind (hT.here (hf.here ?_))
  simp only [hb]
  refine wpAny_bind (wpAny_askSetting (wpAny_ite ?_))
  have fin : wpAny M A (call (.builtin i) ([v] ++ []) >>= fun q => pure (some q)) Q E s := wpAny_bind (wpAny_mono hc (fun q s' h' => wpAny_pure h') fun _ _ h' => h')
  split
  · exact wpAny_bind (wpAny_pure (wpAny_pure fin))
  · exact wpAny_tryCatch (wpAny_bind (wpAny_pure (wpAny_pure fin)))
/-- the class's name -/
def NmC (K : Frag) (C : Addr) (cn : Str) : Prop := ∃ o cd, K.lookup C = some o ∧ o.data = .cls cd ∧ cd.name = cn
theorem nameW_C {cn : Str} {Q : String → Shared → Prop} (x : ExcC K C e t0 s.heap) (hn : NmC K C cn) (hq : Q cn.toString s) : wpAny M A (typeNameOfWhole (.ref e)) Q E s := by
  unfold typeNameOfWhole shownTypeOf
  refine wpAny_bind (wpAny_bind (x.LT.here ?_))
  rw [if_neg (show ¬ ((Value.ref C == Value.type "builtin_function_or_method") = true) from fun z => nomatch (beq_iff_eq.mp z))]
  refine wpAny_pure ?_
  obtain ⟨o, cd, h1, h2, h3⟩ := hn
  unfold typeNameWhole classData
  refine wpAny_bind (wpAny_bind (wpAny_load (x.1 _ _ h1) ?_))
  rw [h2]
  refine wpAny_pure (wpAny_pure ?_)
  rw [h3]
  exact hq
def leafV (v : Value) : Prop := ∀ a, v ≠ .ref a
theorem bexcRepr_C {cn : Str} {u : Value} {tx : Str} {Q : Fin → Shared → Prop} (x : ExcC K C e t0 s.heap) (hn : NmC K C cn) (ht : s.heap.TupAt t0 [u]) (hl : leafV u) (hz : (excReprHead cn.toString).length + 1 ≤ sizeLine)
    (hz2 : (excReprHead cn.toString ++ "(" ++ tx ++ ")").length ≤ sizeLine)
    (hu : ∀ (Q' : Str → Shared → Prop), (∀ tk, Q' tx { s with toks := tk }) → wpAny (model prog w) A (pyRepr u) Q' E s)
    (hq : ∀ t tk, Q (.done (.ret (.str (excReprHead cn.toString ++ "(" ++ tx ++ ")") t))) { s with toks := tk }) : wpAny (model prog w) A (Builtin.«BaseException.__repr__» ⟨[.ref e], []⟩) Q E s := by
  unfold Builtin.«BaseException.__repr__» Builtin.bexcReprAt
  refine wpAny_bind (wpAny_of_eq (a := ((Value.ref e : Value), ([] : List Value))) (by first | rfl | (simp only [slotArgs]; rfl)) ?_)
  refine wpAny_bind (nameW_C x hn ?_)
  refine wpAny_bind (bexcArgs_C x ht ?_)
  refine wpAny_bind (wpAny_rule ?_)
  rw [pyReprUnder_leaf (by have := hz; unfold excReprHead at this; omega) hl]
  refine wpAny_bind (hu _ fun tk => ?_)
  unfold retStr
  exact wpAny_bind (wpAny_mkStr (wpAny_pure (hq _ _)) hz2)
theorem repr_C {cn : Str} {u : Value} {tx : Str} {Q : Value → Shared → Prop} (x : ExcC K C e t0 s.heap) (hn : NmC K C cn) (hrp : findIn K (.ref C) "__repr__" = some (some (.builtin "BaseException.__repr__"))) (hB : subIn K (.ref C) (.type "BaseException") = some true)
    (ht : s.heap.TupAt t0 [u]) (hl : leafV u) (hz : (excReprHead cn.toString).length + 1 ≤ sizeLine) (hz2 : (excReprHead cn.toString ++ "(" ++ tx ++ ")").length ≤ sizeLine) (hun : A.units + 2 < cLine)
    (hu : ∀ (A' : Around) (E' : Value → Shared → Prop) (Q' : Str → Shared → Prop), (∀ tk, Q' tx { s with toks := tk }) → wpAny (model prog w) A' (pyRepr u) Q' E' s)
    (hq : ∀ t tk, Q (.str (excReprHead cn.toString ++ "(" ++ tx ++ ")") t) { s with toks := tk }) : wpAny (model prog w) A (call (.builtin "repr") [.ref e]) Q E s := by
  have hf : Looks (model prog w) s.heap (typeLookup (.ref C) "__repr__") (some (.builtin "BaseException.__repr__")) := looks_findIn x.1 hrp
  refine Calls.call_function_entry F.kind_repr F.plain_repr F.entry_repr (F.args_repr1 _) ?_
  unfold Builtin.«repr»
  refine wpAny_bind (m := oneArg "repr" _) (wpAny_pure ?_)
  refine wpAny_bind (wpAny_cRoomFor (by show A.units + 1 < cLine; omega) ?_)
  refine wpAny_bind ?_
  unfold specialOf
  refine wpAny_bind (x.LT.here (hf.here ?_))
  rw [if_neg (by simp)]
  refine wpAny_bind (m := callSpecialIfBound? (.ref e) (Str.ofString "__repr__") _) (callIf_C x.LT hf (F.excStr_Exception.repr.bind _) ?_)
  refine wpAny_call (codeAny_call_builtin F.excStr_Exception.repr.plain F.entry_bexc_repr (@PySem.W.check_slot (model prog w) _ _ s "BaseException.__repr__" "BaseException" "__repr__" (.ref e) [] [] _ (by decide +kernel) (by decide +kernel) (x.LI hB) (F.args_bexc_repr _) ?_))
  refine bexcRepr_C x hn ht hl hz hz2 (fun Q' h => hu _ _ Q' h) fun t tk => ?_
  refine wpAny_bind (wpAny_isInstance (typeIs_str _ _ _) isSubtype_str_str ?_)
  rw [if_pos rfl]
  exact wpAny_pure ⟨_, rfl, hq t tk⟩
end
/-- what is known of an exception's class -/
structure XF (K : Frag) (C : Addr) (cn : Str) : Prop where
  nm : NmC K C cn
  rp : findIn K (.ref C) "__repr__" = some (some (.builtin "BaseException.__repr__"))
  ex : subIn K (.ref C) (.type "BaseException") = some true
  cl : (PySem.W.clsIn K C).isSome = true
  ga : findIn K (.ref C) "__getattribute__" = some (some (.builtin "BaseException.__getattribute__"))
  gg : findIn K (.ref C) "__getattr__" = some none
  cc : findIn K (.ref C) "__class__" = some (some (.builtin "object.__class__"))
  sp : PySem.W.specialIn K (.builtin "object.__class__") "__get__" = some (some (.builtin "getset_descriptor.__get__"))
  tk : PySem.W.takesIn K (.builtin "object.__class__") = some true
  mr : PySem.W.mroIn K C (.type "object") = some true
  len : (excReprHead cn.toString).length ≤ 100
theorem ExO.at {X : Cx} {pins : List (Addr × Obj)} {g : L2.St} {H : Hp} {s : Shared} (I : L2.Inv X pins g H s) {a C t dx : Addr} {xs : List V} (h1 : H a = some (.ext (ExO a C t dx))) (h2 : H t = some (.tup xs)) :
    ExcC X.K C a t s.heap ∧ ∃ us, Vals xs us ∧ s.heap.TupAt t us := by
  obtain ⟨⟨o, vs, e1, e2, e3, e4, _⟩, _⟩ := (show ObjOk X.prog X.w H s.heap a (.ext (ExO a C t dx)) from I.hok a _ h1)
  obtain ⟨_, us, rv, o2, f1, f2, n, f3⟩ := (show ObjOk X.prog X.w H s.heap t (.tup xs) from I.hok t _ h2)
  exact ⟨⟨I.kIn, o, vs, e1, e2, e3, e4⟩, us, rv, o2, n, f1, f2, f3⟩
/-- a thing that has no things in it -/
def leaf : Dt → Bool
  | .non => true
  | .bl _ => true
  | .int _ => true
  | .str _ => true
  | _ => false
def rep : Dt → Str
  | .exc _ nm [d] => excReprHead nm.toString ++ "(" ++ shows d ++ ")"
  | d => shows d
section
variable {X : Cx} {m : Mu} {F : Pd} {k : Nat} {N : List Str}
theorem c_repr_exc {C : Addr} {cn : Str} {d : Dt} (hu : X.A.units + 64 < cLine) (T : XF X.K C cn) (hl : leaf d = true) (h : Shw d) (hz : (shows d).length ≤ 10000) (q : F (.str (rep (.exc C cn [d]))) m) : OC X (.builtin "repr") [.exc C cn [d]] m F := by
  refine ⟨fun Z H vs Q so da nk pins s g I us rv => ?_⟩
  cases da with
  | cons d1 d2 =>
    cases d2
    cases rv with
    | cons r1 r2 =>
      cases r2
      cases d1 with
      | exc n1 h1 n2 h2 n4 h4 h3 =>
        cases r1
        obtain ⟨x, ws, rw', ht⟩ := ExO.at I h1 h2
        cases h3 with
        | cons e1 e2 =>
          cases e2
          cases rw' with
          | cons ru rn =>
            cases rn
            have hsl : sizeLine = 16777216 := sizeLine_eq
            have hp : (Str.ofString "(").length = 1 := by decide +kernel
            have hp2 : (Str.ofString ")").length = 1 := by decide +kernel
            refine repr_C (tx := shows d) x T.nm T.rp T.ex ht ?_ (by have := T.len; omega) ?_ (by omega) ?_ fun t tk => ⟨.str _, H, I.tok tk, ⟨_, rfl⟩, nk _ H _ m q Ext.rfl' so (.str _)⟩
            · intro a z
              subst z
              cases e1 with
              | non => exact nomatch (show Value.ref a = Value.none from ru)
              | bl b => exact nomatch (show Value.ref a = Value.bool b from ru)
              | int i => obtain ⟨t, e⟩ := ru; cases e
              | str y => obtain ⟨t, e⟩ := ru; cases e
              | _ => cases hl
            · rw [strLen_append, strLen_append, strLen_append, hp, hp2]
              have := T.len
              omega
            · intro A' E' Q' hq
              cases e1 with
              | non => cases ru; unfold pyRepr; exact wpAny_bind (pyReprObj_none (wpAny_pure (hq _)))
              | bl b => cases ru; unfold pyRepr; exact wpAny_bind (pyReprObj_bool (wpAny_pure (hq _)))
              | int i => obtain ⟨t, rfl⟩ := ru; unfold pyRepr; exact wpAny_bind (pyReprObj_int (by have := h.sh; simpa [py, PyData.showable] using this) (wpAny_pure (hq _)))
              | str y => obtain ⟨t, rfl⟩ := ru; unfold pyRepr; exact wpAny_bind (pyReprObj_str (wpAny_pure (hq _)) (by have := h.sz; simpa only [shows, py, PyData.shown] using this))
              | _ => cases hl
theorem c_repr_dct0 (hg : X.A.guards = some []) (hu : X.A.units + 64 < cLine) (q : F (.str (shows (.dct []))) m) : OC X (.builtin "repr") [.dct []] m F := by
  refine ⟨fun Z H vs Q so da nk pins s g I us rv => ?_⟩
  cases da with
  | cons d1 d2 =>
    cases d2
    cases rv with
    | cons r1 r2 =>
      cases r2
      cases d1 with
      | dct n1 h1 h2 =>
        cases h2
        cases r1
        obtain ⟨_, ns, vs, kv, o, es, ep, e1, e2, e3, e4, e5, _⟩ := (show ObjOk X.prog X.w H s.heap _ (.dK []) from I.hok _ _ h1)
        cases kv
        have e6 : es.toList = [] := by
          cases e : es.toList with
          | nil => rfl
          | cons y ys => rw [e] at e5; cases e5
        have h10 : PyData.depth (.dict []) ≤ 10 := (by decide)
        have rd : Reads s.heap (.ref _) (.dict []) _ := .dict (as := []) (bs := []) e1 e2.1 e3 (by rw [e6]; exact .nil) (by rw [e6]; exact .nil)
        refine repr_of_reads' rd (by decide) (fun _ z => ?_) hg (by omega) (fun _ _ e => e) (fun h' u tk hk => ⟨.str _, H, I.kept hk, ⟨_, rfl⟩, nk _ H _ m q Ext.rfl' so (.str _)⟩) (by decide +kernel)
        simp only [List.append_nil, List.mem_singleton] at z
        rw [← z] at ns
        simp at ns
theorem c_isi_exc {C : Addr} {cn : Str} {ds : List Dt} {T : String} {b : Bool} (hX : XF X.K C cn) (hb : PySem.W.kitOne X.K (.ref C) (.type T) = some b) (q : F (.bl b) m) : OC X (.builtin "isinstance") [.exc C cn ds, .raw (.ty T)] m F := by
  refine ⟨fun Z H vs Q so da nk pins s g I us rv => ?_⟩
  cases da with
  | cons d1 d2 =>
    cases d2 with
    | cons d2 d3 =>
      cases d3
      cases d2
      cases d1 with
      | exc n1 h1 n2 h2 n4 h4 h3 =>
        cases rv with
        | cons r1 r2 =>
          cases r2 with
          | cons r2 r3 =>
            cases r3
            cases r1
            cases r2
            obtain ⟨⟨o, vs, e1, e2, e3, e4, e5⟩, _⟩ := (show ObjOk X.prog X.w H s.heap _ (.ext (ExO _ C _ _)) from I.hok _ _ h1)
            obtain ⟨mA, ⟨od, es, ep, f1, _⟩, _⟩ := (show ObjOk X.prog X.w H s.heap _ (.xd _) from I.hok _ _ h4)
            have J : PySem.W.InstAt s.heap _ o C (some od) := ⟨e1, e2, by unfold PySem.W.notCls; rw [e3], by rw [e5]; exact f1⟩
            exact PySem.W.kia_one (PySem.W.kitx_exc hX.cl hX.ga hX.gg hX.ex hX.cc hX.sp hX.tk hX.mr) I.kIn J hb (fun z => nomatch z) fun tk => ⟨.bl b, H, I.tok tk, rfl, nk _ H _ m q Ext.rfl' so (.bl _)⟩
end
end Dw
namespace Dw
open PySem PySem.Spec PyProof.Rows L2
/-- the clauses of a try: the class, the name's slot (or none), the suite -/
abbrev Hdl := Option (Value × Option Nat × (Addr → Value → Option Addr → TS))
def gone (i : Nat) (D : Ends) : Ends := { nx := fun g H => D.nx (g.set i none) H, rt := D.rt, bk := fun g H => D.bk (g.set i none) H, ct := fun g H => D.ct (g.set i none) H }
def wHd (K : PySem.W.Frag) (Wo : WX) (D : Ends) : List Hdl → WX
  | [] => Wo
  | none :: _ => fun _ _ _ _ => False
  | some (c, none, ts) :: l => fun cls d g H => ∃ b, PySem.W.exmOne K cls c = some b ∧ (b = true → ∀ a, H a = none → ts a cls d D g H) ∧ (b = false → wHd K Wo D l cls d g H)
  | some (c, some i, ts) :: l => fun cls d g H => ∃ b, PySem.W.exmOne K cls c = some b ∧ (b = true → ∀ a, H a = none → ts a cls d (gone i D) (g.set i (some (.ref a))) H) ∧ (b = false → wHd K Wo D l cls d g H)
inductive HdA (X : Cx) : List ExceptHandler → List Hdl → Prop
  | nil : HdA X [] []
  | rest {h : ExceptHandler} {hds : List ExceptHandler} : HdA X (h :: hds) [none]
  | bare {x : Str} {c : Value} {ts : Addr → Value → Option Addr → TS} {b0 : Stmt} {su : List Stmt} {np ps : Pos} {hds : List ExceptHandler} {l : List Hdl} (hc : Names X x c)
      (hsu : ∀ (a : Addr) (oe : Obj) (cls : Value) (d : Option Addr) (pn : List (Addr × Obj)), Zc cls d oe → (∃ vs, oe.data = .fields vs) → PSs (X.suite a ((a, oe) :: pn)) (b0 :: su) (ts a cls d)) (r : HdA X hds l) :
      HdA X (.ExceptHandler (some (.Name x np)) none (b0 :: su) ps :: hds) (some (c, none, ts) :: l)
  | named {x n : Str} {i : Nat} {c : Value} {ts : Addr → Value → Option Addr → TS} {b0 : Stmt} {su : List Stmt} {np ps : Pos} {hds : List ExceptHandler} {l : List Hdl} (hc : Names X x c) (hi : X.N[i]? = some n) (hln : X.env.kindOf n = some .local)
      (hsu : ∀ (a : Addr) (oe : Obj) (cls : Value) (d : Option Addr) (pn : List (Addr × Obj)), Zc cls d oe → (∃ vs, oe.data = .fields vs) → PSs (X.suite a ((a, oe) :: pn)) (b0 :: su) (ts a cls d)) (r : HdA X hds l) :
      HdA X (.ExceptHandler (some (.Name x np)) (some n) (b0 :: su) ps :: hds) (some (c, some i, ts) :: l)
section
variable {X : Cx} {body : List Stmt} {h0 : ExceptHandler} {hds : List ExceptHandler} {l : List Hdl} {pos : Pos} {tb : WX → TS} {Wo : WX}
theorem ps_tryA (hs : X.stack = X.env :: X.outer) (hf : X.env.frame = some X.env.locals) (hN : X.N.Nodup) (tk : Takes X Wo)
    (hb : ∀ (W : WX) (pn : List (Addr × Obj)) (xe : Value → Shared → Prop), Takes (X.tr pn xe) W → PassesOwn (model X.prog X.w) X.A X.env xe → PSs (X.tr pn xe) body (tb W))
    (hh : HdA X (h0 :: hds) l) : PS X (.Try body (h0 :: hds) [] [] pos) (fun D g H => tb (wHd X.K Wo D l) D g H) := by
  refine ⟨fun pins s g H D I hw => ?_⟩
  have okX := I.ok
  have frX : X.A.frames = some (X.env :: X.outer) := by rw [okX.frames, hs]
  refine wpAny_Try_except (wpAny_mono ((hb (wHd X.K Wo D l) (X.pn ++ pins) (fun u s₁ => wpAny (model X.prog X.w) X.A (noteFrame u X.env) (fun _ s₂ => wpAny (model X.prog X.w) X.A (setFlight u none) (fun _ s₃ =>
    wpAny (model X.prog X.w) X.A (handleBy u X.env (h0 :: hds)) (SP X pins D) X.xe s₃) X.xe s₂) X.xe s₁) (fun u s' xx => ?_) PassesOwn.looking).run [] s g H D (I.toTry _) hw) (fun f s1 hsp => ?_) (fun u s1 hu => hu))
  · obtain ⟨a, B, sI, pins2, g2, H2, cls, d, rfl, J0, nb, up, sky, na, os, ag, wi⟩ := xx
    have J : L2.Inv X pins g2 H2 sI := J0.ofTry okX
    have sky2 : Sky B (X.env :: X.outer) a (Zc cls d) X.env.locals s'.heap := by rw [← hs]; exact sky
    show wpAny (model X.prog X.w) X.A (noteFrame (.ref a) X.env) _ _ _
    refine Sky.land Zc.steady frX hf sky2 fun h3 fl up3 => ?_
    have J3 : L2.Inv X pins g2 H2 { s' with heap := h3 } := J.landed nb fl.1 (up.trans up3) os ag
    obtain ⟨o3, vs3, he3, hz3, hd3⟩ := fl.there
    have offF : a ∉ frs (X.env :: X.outer) := fun hm => by
      obtain ⟨_, o', e', hnf⟩ := fl.2.2.1.mem hm
      rw [he3] at e'
      cases e'
      exact hnf _ hd3
    have offL : a ≠ X.env.locals := fun z => offF (List.mem_filterMap.mpr ⟨X.env, List.mem_cons_self, by rw [hf, z]⟩)
    have offS : a ∉ X.fs := fun hm => by
      obtain ⟨en, h1, h2⟩ := List.mem_filterMap.mp hm
      exact offF (List.mem_filterMap.mpr ⟨en, List.mem_cons_of_mem _ h1, h2⟩)
    have S3 := J3.suite he3 hd3 na offL offS
    have look : ∀ {x : Str} {c : Value} {np : Pos} {b : Bool} {Q : Bool → Shared → Prop} {E : Value → Shared → Prop}, Names X x c → PySem.W.exmOne X.K cls c = some b → True := fun _ _ => trivial
    have step : ∀ {hs' : List ExceptHandler} {l' : List Hdl}, HdA X hs' l' → wHd X.K Wo D l' cls d g2 H2 → wpAny (model X.prog X.w) X.A (handleBy (.ref a) X.env hs') (SP X pins D) X.xe { s' with heap := h3 } := by
      intro hs' l' hk
      have LT : PySem.W.Looks (model X.prog X.w) h3 (typeOf (.ref a)) cls := fun A Q E s k q => wpAny_typeOf_ref (k _ _ he3) (by rw [hz3.1]; exact q)
      have named : ∀ {x : Str} {c : Value} {np : Pos} {Q : Value → Shared → Prop} {E : Value → Shared → Prop}, Names X x c → Q c { s' with heap := h3 } → wpAny (model X.prog X.w) (X.A.mark (some (.ref a))) (eval (.Name x np) X.env) Q E { s' with heap := h3 } := fun {x c np Q E} hc q => by
        obtain ⟨hg, hdbg, hm | ⟨hm, hv, hnn⟩⟩ := hc
        · exact ld_glob (X := X.suite a ((a, o3) :: (X.pn ++ pins))) S3 hg hm q hdbg
        · exact ld_blt (X := X.suite a ((a, o3) :: (X.pn ++ pins))) S3 hg hm hv q hnn hdbg
      induction hk with
      | nil =>
        intro wi
        refine wpAny_handleBy_nil ?_
        obtain ⟨_, _, _, oe, vs, T, _, _, he, _, hd, h1, _⟩ := id fl
        unfold PySem.passOn
        refine wpAny_bind (wpAny_field he hd h1 ?_)
        rw [if_neg (show ¬ ((Value.ref T == Value.none) = true) from by simp)]
        have out : wpAny (model X.prog X.w) X.A (setFlight (.ref a) X.env.frame) (fun _ s4 => wpAny (model X.prog X.w) X.A (throw (.ref a) : Sem Flow) (SP X pins D) X.xe s4) X.xe { s' with heap := h3 } := by
          rw [hf]
          exact HandSPX.setFlight_upZ fl fun h4 hh4 up4 => wpAny_throw (tk _ _ ⟨a, B, sI, pins, g2, H2, cls, d, rfl, J, nb, (up.trans up3).trans up4, .inr (.inr (by rw [hs]; exact hh4)), na, os, ag, wi⟩)
        first
          | exact wpAny_bind (wpAny_pure (wpAny_bind out))
          | exact wpAny_bind out
      | rest => exact fun wi => wi.elim
      | @bare x c ts b0 su np ps hds2 l2 hc hsu r ih =>
        intro wi
        obtain ⟨b, hb1, hyes, hno⟩ := wi
        have LM := PySem.W.exm_one (M := model X.prog X.w) J3.kIn LT hb1
        refine wpAny_handleBy_cons (codeAny_handlers_test (named hc (LM.here ?_))) (by intro q; cases q)
        cases b with
        | false => exact ih (hno rfl)
        | true =>
          refine codeAny_handlers_suite (HandSPX.lands_againZ fl fun h4 fl4 up4 => ?_)
          have J4 : L2.Inv X pins g2 H2 { s' with heap := h4 } := J.landed nb fl4.1 ((up.trans up3).trans up4) os ag
          obtain ⟨o4, vs4, he4, hz4, hd4⟩ := fl4.there
          refine wpAny_mono ((hsu a o4 cls d (X.pn ++ pins) hz4 ⟨_, hd4⟩).run [] _ _ H2 D (J4.suite he4 hd4 na offL offS) (hyes rfl a na)) (fun f s6 hsp => ?_) (fun _ _ z => False.elim z)
          cases f with
          | next => obtain ⟨g6, H6, S6, q6⟩ := hsp; exact ⟨g6, H6, S6.unsuite okX, q6⟩
          | brk => obtain ⟨g6, H6, S6, q6⟩ := hsp; exact ⟨g6, H6, S6.unsuite okX, q6⟩
          | cont => obtain ⟨g6, H6, S6, q6⟩ := hsp; exact ⟨g6, H6, S6.unsuite okX, q6⟩
          | ret u => obtain ⟨v6, g6, H6, S6, r6, q6⟩ := hsp; exact ⟨v6, g6, H6, S6.unsuite okX, r6, q6⟩
      | @named x n i c ts b0 su np ps hds2 l2 hc hi hln hsu r ih =>
        intro wi
        obtain ⟨b, hb1, hyes, hno⟩ := wi
        have LM := PySem.W.exm_one (M := model X.prog X.w) J3.kIn LT hb1
        refine wpAny_handleBy_cons (codeAny_handlers_test (named hc (LM.here ?_))) (by intro q; cases q)
        cases b with
        | false => exact ih (hno rfl)
        | true =>
          refine codeAny_handlers_suite_as (HandSPX.lands_againZ fl fun h4 fl4 up4 => ?_)
          have J4 : L2.Inv X pins g2 H2 { s' with heap := h4 } := J.landed nb fl4.1 ((up.trans up3).trans up4) os ag
          obtain ⟨o4, vs4, he4, hz4, hd4⟩ := fl4.there
          refine store_ok (X := X.suite a ((a, o4) :: (X.pn ++ pins))) (v := .ref a) (J4.suite he4 hd4 na offL offS) hN hi (.inl hln) rfl (fun s5 S5 => ?_) (.inr hln)
          refine wpAny_mono ((hsu a o4 cls d (X.pn ++ pins) hz4 ⟨_, hd4⟩).run [] s5 _ H2 _ S5 (hyes rfl a na)) (fun f s6 hsp => ?_) (fun _ _ z => False.elim z)
          have fin : ∀ {g6 : L2.St} {H6 : Hp} {Q : Shared → Prop}, L2.Inv (X.suite a ((a, o4) :: (X.pn ++ pins))) [] g6 H6 s6 → (∀ s7, L2.Inv X pins (g6.set i none) H6 s7 → Q s7) →
              wpAny (model X.prog X.w) X.A (do bindName X.env n .none; unbindBehindTheSuite X.env n ps) (fun _ s7 => Q s7) X.xe s6 := fun {g6 H6 Q} S6 hq => gone_ok (S6.unsuite okX) hN hi hln hq
          cases f with
          | next => obtain ⟨g6, H6, S6, q6⟩ := hsp; exact fin S6 fun s7 J7 => ⟨_, _, J7, q6⟩
          | brk => obtain ⟨g6, H6, S6, q6⟩ := hsp; exact fin S6 fun s7 J7 => ⟨_, _, J7, q6⟩
          | cont => obtain ⟨g6, H6, S6, q6⟩ := hsp; exact fin S6 fun s7 J7 => ⟨_, _, J7, q6⟩
          | ret u => obtain ⟨v6, g6, H6, S6, r6, q6⟩ := hsp; exact fin S6 fun s7 J7 => ⟨_, _, _, J7, r6, q6⟩
    exact step hh wi
  · cases f with
    | next => obtain ⟨g2, H2, J2, q⟩ := hsp; exact wpAny_execs_nil ⟨g2, H2, J2.ofTry okX, q⟩
    | brk => obtain ⟨g2, H2, J2, q⟩ := hsp; exact ⟨g2, H2, J2.ofTry okX, q⟩
    | cont => obtain ⟨g2, H2, J2, q⟩ := hsp; exact ⟨g2, H2, J2.ofTry okX, q⟩
    | ret u => obtain ⟨v, g2, H2, J2, rv, q⟩ := hsp; exact ⟨v, g2, H2, J2.ofTry okX, rv, q⟩
end
/-! ### over data -/
def unput : List Str → Str → En → En
  | n :: N, x, o :: r => if n = x then none :: r else o :: unput N x r
  | _, _, r => r
theorem unput_set {x : Str} : ∀ {N : List Str} {i : Nat} {r : En}, N.Nodup → N[i]? = some x → r.set i none = unput N x r
  | [], i, r, _, h => by simp at h
  | n :: N, i, [], _, _ => by simp [unput]
  | n :: N, 0, o :: r, _, h => by
    simp at h
    subst h
    simp [unput]
  | n :: N, i + 1, o :: r, nd, h => by
    have hm : x ∈ N := List.mem_of_getElem? (show N[i]? = some x by simpa using h)
    have hne : n ≠ x := fun z => (List.nodup_cons.mp nd).1 (z ▸ hm)
    show o :: r.set i none = unput (n :: N) x (o :: r)
    rw [unput, if_neg hne, unput_set (List.nodup_cons.mp nd).2 (by simpa using h)]
/-- the clauses, with their classes -/
inductive HdS (X : Cx) (N : List Str) : List ExceptHandler → List Value → Prop
  | nil : HdS X N [] []
  | rest {h : ExceptHandler} {hds : List ExceptHandler} : HdS X N (h :: hds) []
  | bare {x : Str} {c : Value} {b0 : Stmt} {su : List Stmt} {np ps : Pos} {hds : List ExceptHandler} {cs : List Value} (hc : Names X x c) (r : HdS X N hds cs) : HdS X N (.ExceptHandler (some (.Name x np)) none (b0 :: su) ps :: hds) (c :: cs)
  | named {x n : Str} {c : Value} {b0 : Stmt} {su : List Stmt} {np ps : Pos} {hds : List ExceptHandler} {cs : List Value} (hc : Names X x c) (hi : ∃ i : Nat, N[i]? = some n) (hln : X.env.kindOf n = some .local) (r : HdS X N hds cs) :
      HdS X N (.ExceptHandler (some (.Name x np)) (some n) (b0 :: su) ps :: hds) (c :: cs)
def Lh (X : Cx) (N : List Str) (P : Pc) (cls : Value) (fs : List (Str × Dt)) (r : En) (m : Mu) : List ExceptHandler → List Value → Prop
  | [], _ => P.ex cls fs r m
  | .ExceptHandler _ none su _ :: hds, c :: cs => ∃ b, PySem.W.exmOne X.K cls c = some b ∧ (b = true → ∀ a oe pn, LB (X.suite a ((a, oe) :: pn)) su r m { P with ex := X0 }) ∧ (b = false → Lh X N P cls fs r m hds cs)
  | .ExceptHandler _ (some n) su _ :: hds, c :: cs => ∃ b, PySem.W.exmOne X.K cls c = some b ∧
      (b = true → ∃ f, Put N r n f ∧ ∀ a oe pn dx, Zc cls (some dx) oe → (∃ vs, oe.data = .fields vs) → LB (X.suite a ((a, oe) :: pn)) su (f (.cau a dx fs)) m { nx := fun r m => P.nx (unput N n r) m, rt := P.rt, bk := fun r m => P.bk (unput N n r) m, ct := fun r m => P.ct (unput N n r) m, ex := X0 }) ∧ (b = false → Lh X N P cls fs r m hds cs)
  | _ :: _, [] => False
def bS (X : Cx) (su : List Stmt) : Addr → Value → Option Addr → TS := fun a cls d D g H => ∀ oe pn, Zc cls d oe → (∃ vs, oe.data = .fields vs) → wB (X.suite a ((a, oe) :: pn)) su D g H
section
variable {X : Cx} {N : List Str} {k : Nat} {r : En} {m : Mu} {P : Pc} {pos : Pos} {body : List Stmt} {h0 : ExceptHandler} {hds : List ExceptHandler} {cs : List Value}
theorem HdS.to (gd : Gd k N X) : ∀ {hds : List ExceptHandler} {cs : List Value}, HdS X N hds cs → ∃ l, HdA X hds l ∧ ∀ (Z : List Addr) (D : Ends) (W : WX) (P : Pc) (m : Mu) (H : Hp), NP X.K Z m H P D W →
      ∀ cls dx fs vs g' H' r' m', Lh X N P cls fs r' m' hds cs → Go m H m' H' → Rep X.K Z m' H' g' r' → dx ∉ Z ++ dom m' → H' dx = some (.xd vs) → Fds X.K (Z ++ dom m') H' fs vs → wHd X.K W D l cls (some dx) g' H'
  | _, _, .nil => ⟨[], .nil, fun Z D W P m H np cls dx fs vs g' H' r' m' q go rp nd e1 e2 => np.ex cls dx fs vs g' H' r' m' q go rp nd e1 e2⟩
  | _, _, .rest (h := h) => ⟨[none], .rest, fun Z D W P m H np cls dx fs vs g' H' r' m' q go rp nd e1 e2 => by
    cases h
    rename_i o _ _
    cases o <;> exact (show False from q).elim⟩
  | _, _, .bare (x := x) (c := c) (b0 := b0) (su := su) hc rr => by
    obtain ⟨l, hl, hw⟩ := HdS.to gd rr
    refine ⟨some (c, none, bS X (b0 :: su)) :: l, .bare hc (fun a oe cls d pn hz hv => ⟨fun pins s g H D I q => q oe pn hz hv pins s I⟩) hl, fun Z D W P m H np cls dx fs vs g' H' r' m' q go rp nd e1 e2 => ?_⟩
    obtain ⟨b, hb, h1, h2⟩ := q
    refine ⟨b, hb, fun e a _ oe pn _ _ => ?_, fun e => hw Z D W P m H np cls dx fs vs g' H' r' m' (h2 e) go rp nd e1 e2⟩
    have n2 := np.go go
    exact (h1 e a oe pn).run Z g' H' D (fun _ _ _ _ => False) rp takes0 ⟨n2.nx, n2.rt, n2.bk, n2.ct, fun _ _ _ _ _ _ _ _ q => q.elim⟩
  | _, _, .named (x := x) (n := n) (c := c) (b0 := b0) (su := su) hc hi hk rr => by
    obtain ⟨l, hl, hw⟩ := HdS.to gd rr
    obtain ⟨i, hi⟩ := hi
    refine ⟨some (c, some i, bS X (b0 :: su)) :: l, .named hc (by rw [gd.hN]; exact hi) hk (fun a oe cls d pn hz hv => ⟨fun pins s g H D I q => q oe pn hz hv pins s I⟩) hl, fun Z D W P m H np cls dx fs vs g' H' r' m' q go rp nd e1 e2 => ?_⟩
    obtain ⟨b, hb, h1, h2⟩ := q
    refine ⟨b, hb, fun e a _ oe pn hz hv => ?_, fun e => hw Z D W P m H np cls dx fs vs g' H' r' m' (h2 e) go rp nd e1 e2⟩
    obtain ⟨f, hp, h1⟩ := h1 e
    obtain ⟨j, hj, hf⟩ := hp.ix
    have ej : i = j := nodup_ix gd.nd hi hj
    subst ej
    have n2 := np.go go
    have rp2 : Rep X.K Z m' H' (g'.set i (some (.ref a))) (f (.cau a dx fs)) := by
      rw [hf]
      exact rp.set i (.cau nd e1 e2)
    have un : ∀ {Fd : En → Mu → Prop} {Q : L2.St → Hp → Prop}, NE X.K Z m' H' Fd Q → NE X.K Z m' H' (fun r m => Fd (unput N n r) m) (fun g H => Q (g.set i none) H) := fun {Fd Q} h g2 H2 r2 m2 q2 go2 rp3 => by
      have q3 : Fd (unput N n r2) m2 := q2
      rw [← unput_set gd.nd hi] at q3
      exact h _ _ _ _ q3 go2 (rp3.unset i)
    exact (h1 a oe pn dx hz hv).run Z _ H' (gone i D) (fun _ _ _ _ => False) rp2 takes0 ⟨un n2.nx, n2.rt, un n2.bk, un n2.ct, fun _ _ _ _ _ _ _ _ q => q.elim⟩
theorem Gd.tr {pn : List (Addr × Obj)} {xe : Value → Shared → Prop} (gd : Gd k N X) (hp : PassesOwn (model X.prog X.w) X.A X.env xe) : Gd k N (X.tr pn xe) := ⟨gd.room, gd.gu, gd.calm, gd.nd, gd.hN, hp⟩
/-- try: body except ..: .. -/
theorem ls_try (gd : Gd k N X) (cs : List Value) (hd : HdS X N (h0 :: hds) cs) (h : ∀ pn xe, Gd k N (X.tr pn xe) → LB (X.tr pn xe) body r m { nx := P.nx, rt := P.rt, bk := P.bk, ct := P.ct, ex := fun cls fs r' m' => Lh X N P cls fs r' m' (h0 :: hds) cs })
    (hs : X.stack = X.env :: X.outer := by rfl) (hf : X.env.frame = some X.env.locals := by rfl) : LS X (.Try body (h0 :: hds) [] [] pos) r m P := by
  obtain ⟨l, hl, hw⟩ := hd.to gd
  refine ⟨fun Z g H D W rp tk np => (ps_tryA (tb := fun W' D g H => ∀ pn xe, Takes (X.tr pn xe) W' → PassesOwn (model X.prog X.w) X.A X.env xe → wB (X.tr pn xe) body D g H) hs hf gd.nd' tk (fun W' pn xe t p => ⟨fun pins s g H D I q => q pn xe t p pins s I⟩) hl).w fun pn xe t p => ?_⟩
  exact (h pn xe (gd.tr p)).run Z g H D _ rp t ⟨np.nx, np.rt, np.bk, np.ct, fun cls dx fs vs g' H' r' m' q go rp2 nd e1 e2 => hw Z D W P m H np cls dx fs vs g' H' r' m' q go rp2 nd e1 e2⟩
/-- where one stands in an except suite -/
structure Gs (N : List Str) (X : Cx) : Prop where
  un : X.A.units + 64 < cLine
  gu : X.A.guards = some []
  nd : N.Nodup
  hN : X.N = N
theorem Gd.su (gd : Gd k N X) (a : Addr) (pn : List (Addr × Obj)) : Gs N (X.suite a pn) := ⟨gd.room.units, gd.gu, gd.nd, gd.hN⟩
theorem le_nameS {x : Str} {d : Dt} {F : Pd} {E : Xd} (g : Gs N X) (h : At N r x d) (q : F d m) (hv : Vis X.env.scope x := by first | exact Or.inl rfl | exact Or.inr (Or.inl rfl) | exact Or.inr (Or.inr rfl))
    (hd : (x == ("__debug__" : Str)) = false := by decide) (hcd : (x == ("__classdict__" : Str)) = false := by decide) : LE X (.Name x pos) r m F E := by
  refine ⟨fun Z st H Q W rp tk nk nx => ?_⟩
  obtain ⟨i, h1, h2⟩ := h.ix
  obtain ⟨v, h3, h4⟩ := rp.at' i d h2
  exact (pe_var (i := i) (by rw [g.hN]; exact h1) hv hd hcd).w ⟨v, h3, nk v H d m q Ext.rfl' rp.so h4⟩
/-- e.f, e the exception that the suite holds -/
theorem le_exfld {cls : Value} {C dx a : Addr} {oe : Obj} {pn : List (Addr × Obj)} {e : Expr} {f : Str} {F : Pd} {E : Xd} (hz : Zc (.ref C) (some dx) oe) (hv : ∃ vs, oe.data = .fields vs)
    (ga : PySem.W.findIn X.K (.ref C) "__getattribute__" = some (some (.builtin "BaseException.__getattribute__"))) (gg : PySem.W.findIn X.K (.ref C) "__getattr__" = some none) (ex : PySem.W.subIn X.K (.ref C) (.type "BaseException") = some true) (hdC : PySem.W.hasDictIn X.K C = true) (noN : PySem.W.findIn X.K (.ref C) f = some none)
    (h : LE (X.suite a ((a, oe) :: pn)) e r m (fun d m1 => ∃ fs d', d = .cau a dx fs ∧ fs.lookup f = some d' ∧ F d' m1) E) (hb : attributeBase e f X.env (eval e X.env) = eval e X.env := by rfl) : LE (X.suite a ((a, oe) :: pn)) (.Attribute e f pos) r m F E := by
  refine ⟨fun Z st H Q W rp tk nk nx pins s I => ?_⟩
  refine attr_of hb (thn (h.run Z st H (fun v H1 => ∃ us u, v = .ref a ∧ H1 dx = some (.xd us) ∧ us.lookup f = some u ∧ Q u H1) W rp tk (fun v H1 d m1 q go so da => ?_) nx pins s I) fun u s1 hh => ?_)
  · obtain ⟨fs, d', rfl, e1, q⟩ := q
    cases da with
    | cau n h1 h2 =>
      obtain ⟨w, e2, e3⟩ := h2.look e1
      exact ⟨_, w, rfl, h1, e2, nk w H1 d' m1 q go so e3⟩
  · obtain ⟨x, H1, I1, rx, us, w, ex', ea, el, q⟩ := hh
    subst ex'
    obtain rfl : u = Value.ref a := rx
    obtain ⟨ha, _⟩ := I1.pin (a, oe) (List.mem_append_left _ List.mem_cons_self)
    obtain ⟨vs, hd⟩ := hv
    obtain ⟨mA, hns, hr⟩ := (show ObjOk X.prog X.w H1 s1.heap dx (.xd us) from I1.hok dx _ ea)
    obtain ⟨od, ho, hl⟩ := lookIn_ns hns
    obtain ⟨z, hu, ru⟩ := RelO.some_of (v := w) (o := mA f) (by rw [← el]; exact hr f)
    have J : PySem.W.InstAt s1.heap a oe C (some od) := ⟨ha, hz.1, by unfold PySem.W.notCls; rw [hd] <;> rfl, by rw [hz.2]; exact ho⟩
    exact HandSPX.exc_get I1.kIn J ga gg ex (PySem.W.findObj_own hdC noN rfl (by rw [hl, hu])) (handed_of ru) ⟨w, H1, I1.tok _, ru, q⟩
end
end Dw
namespace Dw
open PySem PySem.Spec PyProof.Rows L2
theorem da_script {K : PySem.W.Frag} {H : Hp} {a : Addr} {ns : List Int} (h : SqL K H a (ns.map V.int)) : Da K ([] ++ dom []) H (.frz (ns.map Dt.int)) (.ref a) := by
  refine .frz (xs := ns.map V.int) ?_ ?_
  · rcases h with h | h
    · exact .inl ⟨by simp [dom], h⟩
    · exact .inr (.inr h)
  · induction ns with
    | nil => exact .nil
    | cons n ns ih =>
      refine .cons (.int n) ?_
      have : ∀ l : List Int, DaL K ([] ++ dom []) H (l.map Dt.int) (l.map V.int) := fun l => by
        induction l with
        | nil => exact .nil
        | cons z l ih => exact .cons (.int z) ih
      exact this ns
theorem sp_script {K : PySem.W.Frag} {H : Hp} {a : Addr} {ns : List Int} {W : Spd} (h : SqL K H a (ns.map V.int)) (hW : W [.frz (ns.map Dt.int)] [] (fun d _ => d = .bl true) (fun _ _ _ => False)) : toSp K W [.ref a] H (fun v _ => v = .bl true) fun _ _ _ => False := by
  refine ⟨[], [.frz (ns.map Dt.int)], [], _, _, ⟨List.Pairwise.nil, fun _ z => (by cases z), fun _ z => (by cases z), fun _ z => (by cases z)⟩, .cons (da_script h) .nil, hW, fun v H' d m' q go so da => ?_, fun _ _ _ _ _ _ q => q.elim⟩
  have q' : d = .bl true := q
  subst q'
  cases da
  rfl
/-- the law's def is called with the script -/
theorem lawG {P : Program} {w : World} {K : PySem.W.Frag} {mg mb : Str → Option Value} {k : Nat} {fa a : Addr} {fd : FuncData} {x : Str} {W : Spd} {s1 : Shared} {vs : List Value} {ns : List Int}
    (KX : K.In s1.heap) (hns : s1.heap.Ns mainGlobals mg) (hb : s1.heap.Ns builtinsNs mb) (hbb : ∀ x : Str, x ≠ "__name__" → mb x = bootBuiltins x) (hlim : s1.heap.NoLimit) (hg : s1.gens = #[])
    (ha : s1.heap.get? a = some { cls := .type "list", data := .seq vs.toArray }) (hi : IntsAre vs ns) (hl : ns.length ≤ sizeLine) (hr : Room k callerA)
    (F : ∀ base : Heap, K.In base → base.Ns mainGlobals mg → FnG P w K mg base k fa fd [x] (toSp K W)) (hbind : ∀ (s : Shared) (u : Value), BindsTo s fd ⟨[u], []⟩ [(x, u)])
    (hW : W [.frz (ns.map Dt.int)] [] (fun d _ => d = .bl true) (fun _ _ _ => False)) :
    codeAny (model P w) callerA (.call (.ref fa) ⟨[.ref a], []⟩) (fun r s' => r = .ok (.ret (.bool true)) ∧ OldK s1.heap s'.heap ∧ s'.os = s1.os ∧ AllBare s'.gens) s1 := by
  have rv := vals_ints hi
  have lenV := hi.length
  have core : ∀ H : Hp, Only H → SqL K H a (ns.map V.int) → HOk P w H s1.heap → (∀ b, H b ≠ none → b = a) → (H a ≠ none → K.lookup a = none) →
      codeAny (model P w) callerA (.call (.ref fa) ⟨[.ref a], []⟩) (fun r s' => r = .ok (.ret (.bool true)) ∧ OldK s1.heap s'.heap ∧ s'.os = s1.os ∧ AllBare s'.gens) s1 := by
    intro H hO hS hok hA hK
    have offA : ∀ {b : Addr}, b ≠ a → H b = none := fun {b} n => by
      cases q : H b with
      | none => rfl
      | some u => exact absurd (hA b (by rw [q]; simp)) n
    have nsK : ∀ {b : Addr} {m : Str → Option Value}, s1.heap.Ns b m → (hidT s1.heap H).Ns b m := fun {b m} ⟨o, es, ep, e, d, r⟩ => by
      refine ⟨o, es, ep, hidT_get e (offA fun z => ?_), d, r⟩
      subst z
      rw [ha] at e
      cases e
      cases d
    have hKb : K.In (hidT s1.heap H) := fun b o e => by
      refine hidT_get (KX b o e) ?_
      cases q : H b with
      | none => rfl
      | some u =>
        have e' : b = a := hA b (by rw [q]; simp)
        subst e'
        rw [hK (by rw [q]; simp)] at e
        cases e
    have hM : Mod K mg (hidT s1.heap H) := ⟨hKb, nsK hns, ⟨mb, nsK hb, hbb⟩, let ⟨mc, h1, h2⟩ := hlim; ⟨mc, nsK h1, h2⟩⟩
    have e0 : Env0 P w K mg (hidT s1.heap H) callerA [] s1 H := ⟨rfl, hM, fun b o e => of_hidT e, Nat.le_of_eq (hidT_size _ _), trivial, fun b z => absurd (show b ∈ ([] : List Addr) from z) (by simp), hok, .of_eq hg⟩
    refine codeAny_mono ((F _ hKb (nsK hns)).run callerA [] s1 H ⟨[.ref a], []⟩ [.ref a] [.ref a] _ _ hr rfl e0 (hbind s1 (.ref a)) (.cons rfl .nil) (sp_script hS hW)) fun o s' h => ?_
    cases o with
    | error u =>
      obtain ⟨_, _, _, _, _, _, _, _, _, _, _, _, z⟩ := h
      exact z.elim
    | ok fl =>
      cases fl with
      | next => exact h.elim
      | brk => exact h.elim
      | cont => exact h.elim
      | ret u =>
        obtain ⟨v, H', os, bare, un, hok', r', q⟩ := h
        have q' : v = .bl true := q
        subst q'
        obtain rfl : u = Value.bool true := r'
        refine ⟨rfl, OldK.of_keep fun b o e => ?_, os, bare⟩
        cases q : H b with
        | none => exact un.keep b o e q (fun z => absurd (show b ∈ ([] : List Addr) from z) (by simp)) (by simp)
        | some u =>
          rcases hO b with z | ⟨ob, xs, z⟩
          · rw [q] at z; cases z
          · obtain ⟨e1, _⟩ := hok b _ z
            obtain ⟨e2, _⟩ := hok' b _ (un.frzs b ob _ z)
            rw [e] at e1
            cases e1
            exact e2
  cases hk : K.lookup a with
  | some o =>
    have e := KX a o hk
    rw [ha] at e
    cases e
    exact core (fun _ => none) (fun _ => .inl rfl) (.inr ⟨_, vs.toArray, _, hk, rfl, rfl, rfl, by rw [List.size_toArray, lenV]; exact hl, by simpa using rv⟩) (fun b u z => nomatch (show (none : Option HO) = some u from z)) (fun b z => absurd rfl z) fun z => absurd rfl z
  | none =>
    let ob : Obj := { cls := .type "list", data := .seq vs.toArray }
    refine core (upd H0 a (.frz ob (.lst (ns.map V.int)))) (fun b => ?_) (.inl (.inr ⟨ob, upd_same⟩)) (fun b u z => ?_) (fun b z => ?_) fun _ => hk
    · by_cases hb : b = a
      · exact .inr ⟨_, _, by rw [hb]; exact upd_same⟩
      · exact .inl (upd_ne hb)
    · by_cases hb : b = a
      · subst hb
        rw [upd_same] at z
        cases z
        exact ⟨ha, by rw [List.length_map]; exact hl, vs, _, rv, ha⟩
      · rw [upd_ne hb] at z
        cases z
    · by_cases hb : b = a
      · exact hb
      · exact absurd (upd_ne hb) z
/-- the goal that k_head leaves -/
theorem walkG {l : PySem.W.OpenLaw} {n k : Nat} {q : Program} {loose : List Str} {XP : (Str → Option Value) → Heap → Prop} {YP : World → Heap → Prop} {d : DefRec} {K : Params → PySem.W.Frag} {W : Spd} {x : Str}
    (hn : l.most = some n) (hn2 : n ≤ sizeLine) (hdf : d.params.defaults = []) (hr : Room k callerA) (hY : ∀ (w : World) (h : Heap), YP w h → (K w.params).In h)
    (F : ∀ (w : World) (mg : Str → Option Value) (fa : Addr) (h : Heap), (K w.params).In h → h.Ns mainGlobals mg → mg d.name = some (.ref fa) →
      ∃ fd : FuncData, (∀ (s : Shared) (u : Value), BindsTo s fd ⟨[u], []⟩ [(x, u)]) ∧ ∀ base : Heap, (K w.params).In base → base.Ns mainGlobals mg → FnG l.prog w (K w.params) mg base k fa fd [x] (toSp (K w.params) W))
    (hW : ∀ ns : List Int, ns.length ≤ n → W [.frz (ns.map Dt.int)] [] (fun d _ => d = .bl true) (fun _ _ _ => False)) : PySem.W.WalkO q loose XP YP l.row.toRowW d [] (fun f vs => PySem.call f vs) := by
  refine Att.attach_call hn hdf fun w s0 s1 mg mb fa o pm cd doc a vs ns G Y ho hd hcd hmg hobj hints hlen hg => ?_
  have KX := hY w _ Y
  obtain ⟨fd, hb, hF⟩ := F w mg fa _ KX G.T.g hmg
  exact lawG KX G.T.g G.T.b G.T.builtins G.T.nolimit hg hobj hints (Nat.le_trans hlen hn2) hr hF hb (hW ns hlen)
end Dw
namespace Dw
open PySem PySem.Spec PyProof.Rows L2
/-- the built-ins are the built-ins -/
structure Bi (mg : Str → Option Value) : Prop where
  abs : mg "abs" = none
  all : mg "all" = none
  any : mg "any" = none
  bool : mg "bool" = none
  dict : mg "dict" = none
  enumerate : mg "enumerate" = none
  int : mg "int" = none
  isinstance : mg "isinstance" = none
  len : mg "len" = none
  list : mg "list" = none
  max : mg "max" = none
  min : mg "min" = none
  ord : mg "ord" = none
  range : mg "range" = none
  repr : mg "repr" = none
  set : mg "set" = none
  sorted : mg "sorted" = none
  str : mg "str" = none
  sum : mg "sum" = none
  tuple : mg "tuple" = none
  zip : mg "zip" = none
section
variable {X : Cx} {x : Str} {e : Expr} {es : List Expr} {r : En} {m : Mu} {F : Pd} {E : Xd} {p pos : Pos} {k : Nat} {N : List Str}
theorem le_ty {T : String} (hm : X.mg x = none) (hv : bootBuiltins x = some (.type T)) (q : F (.raw (.ty T)) m) (hg : Gl X x := by rfl) (hn : x ≠ "__name__" := by decide) (hdb : (x == ("__debug__" : Str)) = false := by decide) : LE X (.Name x pos) r m F E :=
  le_bltn hm hv (v := .ty T) rfl q hg hn hdb
theorem bt_abs : bootBuiltins "abs" = some (.builtin "abs") := by decide +kernel
theorem bt_all : bootBuiltins "all" = some (.builtin "all") := by decide +kernel
theorem bt_any : bootBuiltins "any" = some (.builtin "any") := by decide +kernel
theorem bt_isinstance : bootBuiltins "isinstance" = some (.builtin "isinstance") := by decide +kernel
theorem bt_len : bootBuiltins "len" = some (.builtin "len") := by decide +kernel
theorem bt_max : bootBuiltins "max" = some (.builtin "max") := by decide +kernel
theorem bt_min : bootBuiltins "min" = some (.builtin "min") := by decide +kernel
theorem bt_ord : bootBuiltins "ord" = some (.builtin "ord") := by decide +kernel
theorem bt_repr : bootBuiltins "repr" = some (.builtin "repr") := by decide +kernel
theorem bt_sorted : bootBuiltins "sorted" = some (.builtin "sorted") := by decide +kernel
theorem bt_int : bootBuiltins "int" = some (.type "int") := by decide +kernel
theorem bt_str : bootBuiltins "str" = some (.type "str") := by decide +kernel
theorem bt_bool : bootBuiltins "bool" = some (.type "bool") := by decide +kernel
theorem bt_list : bootBuiltins "list" = some (.type "list") := by decide +kernel
theorem bt_tuple : bootBuiltins "tuple" = some (.type "tuple") := by decide +kernel
theorem bt_dict : bootBuiltins "dict" = some (.type "dict") := by decide +kernel
theorem bt_set : bootBuiltins "set" = some (.type "set") := by decide +kernel
/-- a value that repr takes, where one stands -/
theorem c_reprG {d : Dt} (gd : Gd k N X) (h : Shw d) (q : F (.str (shows d)) m) : OC X (.builtin "repr") [d] m F := c_repr (k := k) (N := N) gd.gu gd.room.units h q
theorem c_reprS {d : Dt} (gd : Gs N X) (h : Shw d) (q : F (.str (shows d)) m) : OC X (.builtin "repr") [d] m F := c_repr (k := 0) (N := N) gd.gu gd.un h q
end
end Dw
namespace Dw
open PySem PySem.Spec PyProof.Rows L2
inductive Ty6 | int | str | bool | list | tuple | dict
def Ty6.nm : Ty6 → String | .int => "int" | .str => "str" | .bool => "bool" | .list => "list" | .tuple => "tuple" | .dict => "dict"
def isi : Ty6 → Dt → Bool
  | .int, .int _ => true
  | .int, .bl _ => true
  | .bool, .bl _ => true
  | .str, .str _ => true
  | .list, .lst _ => true
  | .list, .frz _ => true
  | .tuple, .tup _ => true
  | .dict, .dct _ => true
  | _, _ => false
theorem isi_kb {x : Dt} {T' : String} (t : Ty6) (h : tyD x = some T') : kitB T' t.nm = some (isi t x) := by
  cases x <;> cases h <;> cases t <;> first | (show kitB _ _ = some true; decide +kernel) | (show kitB _ _ = some false; decide +kernel)
/-- exceptions are of none of these -/
structure X6 (K : PySem.W.Frag) (C : Addr) : Prop where
  no : ∀ t : Ty6, PySem.W.kitOne K (.ref C) (.type t.nm) = some false
/-- a thing of which isinstance is known -/
def Thg (K : PySem.W.Frag) : Dt → Prop
  | .exc C cn _ => XF K C cn ∧ X6 K C
  | d => (tyD d).isSome = true
section
variable {X : Cx} {m : Mu} {F : Pd}
theorem c_isiX {x : Dt} (t : Ty6) (h : Thg X.K x) (q : F (.bl (isi t x)) m) : OC X (.builtin "isinstance") [x, .raw (.ty t.nm)] m F := by
  cases x with
  | exc C cn ds => exact c_isi_exc h.1 (h.2.no t) (by cases t <;> exact q)
  | _ =>
    obtain ⟨T', e⟩ := Option.isSome_iff_exists.mp h
    exact c_isi e (isi_kb t e) q
theorem c_isi_int {x : Dt} (h : Thg X.K x) (q : F (.bl (isi .int x)) m) : OC X (.builtin "isinstance") [x, .raw (.ty "int")] m F := c_isiX .int h q
theorem c_isi_str {x : Dt} (h : Thg X.K x) (q : F (.bl (isi .str x)) m) : OC X (.builtin "isinstance") [x, .raw (.ty "str")] m F := c_isiX .str h q
theorem c_isi_bool {x : Dt} (h : Thg X.K x) (q : F (.bl (isi .bool x)) m) : OC X (.builtin "isinstance") [x, .raw (.ty "bool")] m F := c_isiX .bool h q
theorem c_isi_list {x : Dt} (h : Thg X.K x) (q : F (.bl (isi .list x)) m) : OC X (.builtin "isinstance") [x, .raw (.ty "list")] m F := c_isiX .list h q
theorem c_isi_tuple {x : Dt} (h : Thg X.K x) (q : F (.bl (isi .tuple x)) m) : OC X (.builtin "isinstance") [x, .raw (.ty "tuple")] m F := c_isiX .tuple h q
theorem c_isi_dict {x : Dt} (h : Thg X.K x) (q : F (.bl (isi .dict x)) m) : OC X (.builtin "isinstance") [x, .raw (.ty "dict")] m F := c_isiX .dict h q
end
end Dw
namespace Dw
open PySem PySem.Spec PyProof.Rows L2
section
variable {X : Cx} {a b c : Expr} {r : En} {m : Mu} {B : Bool → Mu → Prop} {E : Xd} {pos : Pos}
theorem lt_chain {op op' : CmpOp} (h : LE X a r m (fun x m1 => LE X b r m1 (fun y m2 => O2 X (compareOp op) x y m2 (fun d => ∃ c', d = .bl c' ∧ if c' = true then LE X c r m2 (fun z m3 => O2 X (compareOp op') y z m3 (fun d => ∃ k, d = .bl k ∧ B k m3)) E else B false m2)) E) E)
    (hm : lastMarks [op, op'] [b, c] = false := by with_unfolding_all rfl) : LT X (.Compare a [op, op'] [b, c] pos) r m B E := by
  refine ⟨fun Z st H Q W rp tk nk nx => (pt_chain op_w op_w pe_w pe_w pe_w hm).w ?_⟩
  refine h.run Z st H _ W rp tk (fun v H1 d m1 q go so da => ?_) nx
  refine q.run Z st H1 _ W (rp.go go so) tk (fun v2 H2 d2 m2 q2 go2 so2 da2 => ?_) (nx.go go)
  refine q2.run Z H2 v v2 _ so2 (da.move (go2.full Z)) da2 (fun v3 H3 d3 m3 q3 go3 so3 da3 => ?_)
  obtain ⟨rfl, c, rfl, q3⟩ := q3
  cases da3
  refine ⟨c, rfl, ?_⟩
  have g3 := (go.trans go2).trans go3
  cases c with
  | true =>
    have q4 : LE X _ r _ _ E := q3
    refine q4.run Z st H3 _ W (rp.go g3 so3) tk (fun v5 H5 d5 m5 q5 go5 so5 da5 => ?_) (nx.go g3)
    refine q5.run Z H5 v2 v5 _ so5 (da2.move (Go.full Z (go3.trans go5))) da5 (fun v6 H6 d6 m6 q6 go6 so6 da6 => ?_)
    obtain ⟨rfl, k, rfl, q6⟩ := q6
    cases da6
    exact ⟨k, rfl, nk k H6 m6 q6 ((g3.trans go5).trans go6) so6⟩
  | false => exact ⟨false, rfl, nk _ H3 _ q3 g3 so3⟩
end
end Dw
namespace Dw
open PySem PySem.Spec PyProof.Rows L2
theorem pix_const {c : Const} {j : Nat} {p : Pos} : PlainIx (.Constant c j p) := fun _ _ => rfl
theorem pix_name {x : Str} {p : Pos} : PlainIx (.Name x p) := fun _ _ => rfl
theorem pix_bin {a b : Expr} {o : Operator} {p : Pos} : PlainIx (.BinOp a o b p) := fun _ _ => rfl
theorem pix_call {f : Expr} {es : List Expr} {ks : List Keyword} {p : Pos} : PlainIx (.Call f es ks p) := fun _ _ => rfl
theorem pix_un {a : Expr} {o : UnaryOp} {p : Pos} : PlainIx (.UnaryOp o a p) := fun _ _ => rfl
theorem pix_sub {a b : Expr} {p : Pos} : PlainIx (.Subscript a b p) := fun _ _ => rfl
theorem pix_cmp {a : Expr} {o : List CmpOp} {b : List Expr} {p : Pos} : PlainIx (.Compare a o b p) := fun _ _ => rfl
end Dw
namespace Dw
open PySem PySem.Spec PyProof.Rows L2
section
variable {X : Cx} {r : En} {m : Mu} {F : Pd} {E : Xd} {P : Pc} {p pos p2 py spos : Pos} {k : Nat} {N : List Str} {x y : Str} {scope sc : Scope} {elt iter : Expr} {ifs : List Expr} {f h2 : Dt → En}
theorem blk_of (gd : Gd k N X) (hsc : X.env.scope = sc) (hb : blkC N sc scope [(x, N.idxOf x)] = true) : ∀ i, N[i]? = some x → BlkOk X.N X.env.scope scope [(x, i)] := fun i hi => by
  have b : BlkOk N sc scope [(x, N.idxOf x)] := blkOk_by hb
  have e : N[N.idxOf x]? = some x := b.ix _ List.mem_cons_self
  rw [nodup_ix gd.nd hi e, hsc, gd.hN]
  exact b
theorem le_lcS (sc : Scope) (gd : Gd k N X) (hp : Put N r x f) (Iv : List Dt → Nat → List Dt → Mu → Prop) (h : LI X (.Name x p2) iter r m (LcOk X scope elt ifs f Iv F) E) (hsc : X.env.scope = sc := by rfl) (hb : blkC N sc scope [(x, N.idxOf x)] = true := by decide +kernel)
    (hx : ∀ s H C cl fp, Loc (bk X scope s H C cl fp).env.scope x := by intro _ _ _ _ _; first | exact Or.inl rfl | exact Or.inr rfl)
    (hf : ∀ s H C cl fp, (bk X scope s H C cl fp).fn x = true ∨ (bk X scope s H C cl fp).env.scope.names.lookup x = some .local := by intro _ _ _ _ _; first | exact .inr rfl | exact .inl rfl)
    (hs : ∀ x, foldedSetIterable iter X.env x = pure x := by intro _; rfl) : LE X (.ListComp elt [⟨.Name x p2, iter, ifs, 0⟩] scope pos) r m F E := le_lc gd hp Iv h (blk_of gd hsc hb) hx hf hs
theorem ls_setlcS (sc : Scope) (gd : Gd k N X) (hp : Put N r x f) (hq : Put N r y h2) (Iv : List Dt → Nat → List Dt → Mu → Prop) (h : LI X (.Name x p2) iter r m (LcOk X scope elt ifs f Iv (fun d m1 => P.nx (h2 d) m1)) P.ex)
    (hyl : X.env.scope.names.lookup y = some .local := by rfl) (hk : X.env.scope.kind = .function := by rfl) (hl : (py.line == pos.line) = true := by rfl) (hav : (scope.names.any fun (n, k) => n == y && (k == .local || k == .cell)) = false := by decide +kernel)
    (hsc : X.env.scope = sc := by rfl) (hb : blkC N sc scope [(x, N.idxOf x)] = true := by decide +kernel)
    (hx : ∀ s H C cl fp, Loc (bk X scope s H C cl fp).env.scope x := by intro _ _ _ _ _; first | exact Or.inl rfl | exact Or.inr rfl)
    (hf : ∀ s H C cl fp, (bk X scope s H C cl fp).fn x = true ∨ (bk X scope s H C cl fp).env.scope.names.lookup x = some .local := by intro _ _ _ _ _; first | exact .inr rfl | exact .inl rfl)
    (hs : ∀ x, foldedSetIterable iter X.env x = pure x := by intro _; rfl) : LS X (.Assign [.Name y py] (.ListComp elt [⟨.Name x p2, iter, ifs, 0⟩] scope pos) spos) r m P := ls_setlc gd hp hq Iv h hyl (sw_true hk hyl hl hav) (blk_of gd hsc hb) hx hf hs
/-- [g(x) for x in ..], nothing changes -/
theorem lc_map {ds : List Dt} {m1 : Mu} {G : Pd} (g : Dt → Dt) (gd : Gd k N X) (hz : ds.length ≤ sizeLine) (hs : ∀ d ∈ ds, ∀ s H C cl fp, Gd k N (bk X scope s H C cl fp) → LE (bk X scope s H C cl fp) elt (f d) m1 (fun y m4 => y = g d ∧ m4 = m1) X0) (hd : G (.lst (ds.map g)) m1) :
    LcOk X scope elt [] f (fun ds i acc m2 => acc = (ds.take i).map g ∧ m2 = m1) G ds m1 := by
  refine ⟨hz, ⟨rfl, rfl⟩, fun i d acc m2 hi _ iv s H C cl fp => lf_nil ?_, fun acc m2 _ iv => ?_⟩
  · obtain ⟨rfl, rfl⟩ := iv
    show ∀ s H C cl fp, LE (bk X scope s H C cl fp) elt (f d) m2 _ X0
    intro s H C cl fp
    refine (hs d (List.mem_of_getElem? hi) s H C cl fp (gd.blk _ _ _ _ _ _)).imp fun y m4 h => ?_
    obtain ⟨rfl, rfl⟩ := h
    exact ⟨by rw [List.take_add_one, hi, List.map_append]; rfl, rfl⟩
  · obtain ⟨rfl, rfl⟩ := iv
    rw [List.take_length]
    exact hd
/-- [x for x in .. if q(x)] -/
theorem lc_filter {ds : List Dt} {m1 : Mu} {G : Pd} {c : Expr} (q : Dt → Bool) (gd : Gd k N X) (hz : ds.length ≤ sizeLine) (ht : ∀ d ∈ ds, ∀ s H C cl fp, Gd k N (bk X scope s H C cl fp) → LT (bk X scope s H C cl fp) c (f d) m1 (fun b m4 => b = q d ∧ m4 = m1) X0)
    (hs : ∀ d ∈ ds, ∀ s H C cl fp, Gd k N (bk X scope s H C cl fp) → LE (bk X scope s H C cl fp) elt (f d) m1 (fun y m4 => y = d ∧ m4 = m1) X0) (hd : G (.lst (ds.filter q)) m1) :
    LcOk X scope elt [c] f (fun ds i acc m2 => acc = (ds.take i).filter q ∧ m2 = m1) G ds m1 := by
  refine ⟨hz, ⟨rfl, rfl⟩, fun i d acc m2 hi _ iv s H C cl fp => lf_one ?_, fun acc m2 _ iv => ?_⟩
  · obtain ⟨rfl, rfl⟩ := iv
    refine ⟨fun Z g H' Q W rp tk nk nx => (ht d (List.mem_of_getElem? hi) s H C cl fp (gd.blk _ _ _ _ _ _)).run Z g H' Q W rp tk (fun b H1 m3 h go so => nk b H1 m3 ?_ go so) nx⟩
    obtain ⟨rfl, rfl⟩ := h
    have e : ds.take (i + 1) = ds.take i ++ [d] := by rw [List.take_add_one, hi]; rfl
    cases hq : q d with
    | true =>
      show ∀ s H C cl fp, LE (bk X scope s H C cl fp) elt (f d) m3 _ X0
      intro s H C cl fp
      refine (hs d (List.mem_of_getElem? hi) s H C cl fp (gd.blk _ _ _ _ _ _)).imp fun y m4 h => ?_
      obtain ⟨rfl, rfl⟩ := h
      refine ⟨?_, rfl⟩
      rw [e, List.filter_append, List.filter_cons, if_pos hq]
      rfl
    | false =>
      refine ⟨?_, rfl⟩
      rw [e, List.filter_append, List.filter_cons, if_neg (by rw [hq]; exact Bool.false_ne_true)]
      simp
  · obtain ⟨rfl, rfl⟩ := iv
    rw [List.take_length]
    exact hd
end
end Dw
namespace Dw
open PySem PySem.Spec PyProof.Rows L2
theorem itT {A B : Prop} [Decidable (true = true)] (h : A) : if true = true then A else B := by rw [if_pos rfl]; exact h
theorem itF {A B : Prop} [Decidable (false = true)] (h : B) : if false = true then A else B := by rw [if_neg Bool.false_ne_true]; exact h
theorem lenS {α : Type} {l : List α} (h : Nat.ble l.length 100 = true) : l.length ≤ sizeLine := Nat.le_trans (Nat.le_of_ble_eq_true h) (by decide)
/-! ### texts by their codes -/
theorem S_ex (x : Str) : ∃ l, x = SX.S l := ⟨x.cps.toList, (SX.S_tl x).symm⟩
theorem cut_from {a : List Nat} {i : Int} (h : 0 ≤ i) : cutS (SX.S a) (some i) none = SX.S (a.drop i.toNat) := by rw [C8.cutS_slice, SX.slice_from h]
theorem cut_to {a : List Nat} {i : Int} (h : 0 ≤ i) : cutS (SX.S a) none (some i) = SX.S (a.take i.toNat) := by rw [C8.cutS_slice, SX.slice_to h]
theorem signsS (a : List Nat) : signs (SX.S a) = a.map fun c => Dt.str (SX.S [c]) := rfl
theorem atS {a : List Nat} {n c : Nat} (h : a[n]? = some c) : atI (SX.S a).cps.toList (n : Int) = some c := atI_nat h
section
variable {X : Cx} {m : Mu} {G : Dt → Prop} {F : Pd}
theorem o_neRs {i : Str} (q : G (.bl false)) : O2 X (compareOp .NotEq) (.str i) (.str i) m G := o_ne_str (by rw [decide_eq_true rfl]; exact q)
theorem o_eqRs {i : Str} (q : G (.bl true)) : O2 X (compareOp .Eq) (.str i) (.str i) m G := o_eq_str (by rw [decide_eq_true rfl]; exact q)
theorem o_neRi {i : Int} (q : G (.bl false)) : O2 X (compareOp .NotEq) (.int i) (.int i) m G := o_ne_int (by rw [decide_eq_true rfl]; exact q)
theorem o_eqRi {i : Int} (q : G (.bl true)) : O2 X (compareOp .Eq) (.int i) (.int i) m G := o_eq_int (by rw [decide_eq_true rfl]; exact q)
theorem o_eqS {a b : List Nat} (q : G (.bl (decide (a = b)))) : O2 X (compareOp .Eq) (.str (SX.S a)) (.str (SX.S b)) m G := o_eq_str (by rw [show decide (SX.S a = SX.S b) = decide (a = b) from decide_eq_decide.mpr ⟨SX.S_inj, fun h => h ▸ rfl⟩]; exact q)
theorem o_neS {a b : List Nat} (q : G (.bl (!decide (a = b)))) : O2 X (compareOp .NotEq) (.str (SX.S a)) (.str (SX.S b)) m G := o_ne_str (by rw [show decide (SX.S a = SX.S b) = decide (a = b) from decide_eq_decide.mpr ⟨SX.S_inj, fun h => h ▸ rfl⟩]; exact q)
theorem o_addS {a b : List Nat} (h : a.length + b.length ≤ sizeLine) (q : G (.str (SX.S (a ++ b)))) : O2 X (binaryOp .Add) (.str (SX.S a)) (.str (SX.S b)) m G := o_adds (by rw [SX.S_len, SX.S_len]; exact h) (by rw [SX.S_cat]; exact q)
theorem c_lenS {a : List Nat} (h : a.length ≤ sizeLine) (q : F (.int a.length) m) : OC X (.builtin "len") [.str (SX.S a)] m F := c_len_str (by rw [SX.S_len]; exact h) (by rw [SX.S_len]; exact q)
theorem oi_S {a : List Nat} {n c : Nat} (hz : a.length ≤ sizeLine) (h : a[n]? = some c) (q : G (.str (SX.S [c]))) : OI X (.str (SX.S a)) (.int (n : Int)) m G := oi_str (by rw [SX.S_len]; exact hz) (atS h) q
theorem py_lst_strs (l : List Nat) : plains (l.map fun c => Dt.str (SX.S [c])) = true := by
  induction l with
  | nil => rfl
  | cons a t ih => exact ih
theorem lay_strs {l : List Nat} (h : ∀ c ∈ l, c < 0x110000) : PyData.canLayAll0 (pys (l.map fun c => Dt.str (SX.S [c]))) = true ∧ PyData.depthAll (pys (l.map fun c => Dt.str (SX.S [c]))) = 0 := by
  induction l with
  | nil => exact ⟨by simp [pys, PyData.canLayAll0], by simp [pys, PyData.depthAll]⟩
  | cons a t ih =>
    have := ih fun c hc => h c (List.mem_cons_of_mem _ hc)
    have ha := h a List.mem_cons_self
    constructor
    · simp only [List.map_cons, pys, PyData.canLayAll0, this.1, Bool.and_true]
      simp only [py, PyData.canLay0, PyData.strOk, SX.S]
      simpa using ha
    · simp only [List.map_cons, pys, PyData.depthAll, this.2]
      simp [py, PyData.depth]
theorem shaped_strs {l : List Nat} (h : ∀ c ∈ l, c < 0x110000) : SeqAt.shaped (py (.lst (l.map fun c => Dt.str (SX.S [c])))) = true := by
  unfold SeqAt.shaped
  simp only [py, PyData.canLay0, PyData.depth, (lay_strs h).1, (lay_strs h).2]
  decide
/-- [..] != [] -/
theorem o_neNil {ds : List Dt} (hu : X.A.units + 64 < cLine) (hp : plains ds = true) (hs : SeqAt.shaped (py (.lst ds)) = true) (q : G (.bl (!ds.isEmpty))) : O2 X (compareOp .NotEq) (.lst ds) (.lst []) m G := by
  refine o_neD hu hp rfl hs (by decide +kernel) ?_
  rw [show PyData.eqv (py (.lst ds)) (py (.lst [])) = ds.isEmpty by cases ds <;> simp [py, pys, PyData.eqv, PyData.eqvAll]]
  exact q
theorem o_neNil0 (hu : X.A.units + 64 < cLine) (q : G (.bl false)) : O2 X (compareOp .NotEq) (.lst []) (.lst []) m G := o_neNil hu rfl (by decide +kernel) q
end
section
variable {X : Cx} {r : En} {m : Mu} {P : Pc} {st : Stmt} {rest : List Stmt}
theorem le_globS {e : Str} {x : Str} {t : Tok} {pos : Pos} {F : Pd} {E : Xd} (hm : X.mg x = some (.str e t)) (q : F (.str e) m) (hg : Gl X x := by rfl) (hdb : (x == ("__debug__" : Str)) = false := by decide) : Dw.LE X (.Name x pos) r m F E := le_glob (v := .str e) (d := .str e) hm ⟨_, rfl⟩ (fun _ _ => .str _) q hg hdb
theorem le_globI {e : Int} {x : Str} {t : Tok} {pos : Pos} {F : Pd} {E : Xd} (hm : X.mg x = some (.int e t)) (q : F (.int e) m) (hg : Gl X x := by rfl) (hdb : (x == ("__debug__" : Str)) = false := by decide) : Dw.LE X (.Name x pos) r m F E := le_glob (v := .int e) (d := .int e) hm ⟨_, rfl⟩ (fun _ _ => .int _) q hg hdb
/-- an if whose test changes nothing and answers b -/
theorem ls_ifP {c : Expr} {ya nb : List Stmt} {pos : Pos} (b : Bool) (ht : LT X c r m (fun k m1 => k = b ∧ m1 = m) P.ex) (h1 : b = true → LB X ya r m P) (h2 : b = false → LB X nb r m P) : LS X (.If c ya nb pos) r m P := by
  refine ls_if ⟨fun Z g H Q W rp tk nk nx => ht.run Z g H Q W rp tk (fun k H1 m1 q => nk k H1 m1 ?_) nx⟩
  obtain ⟨rfl, rfl⟩ := q
  cases k with
  | true => exact itT (h1 rfl)
  | false => exact itF (h2 rfl)
/-- a cut between statements -/
theorem lb_mid (Mid : En → Mu → Prop) (h1 : LS X st r m { P with nx := Mid }) (h2 : ∀ r1 m1, Mid r1 m1 → LB X rest r1 m1 P) : LB X (st :: rest) r m P :=
  lb_cons ⟨fun Z g H D W rp tk np => h1.run Z g H D W rp tk ⟨fun g1 H1 r1 m1 q => np.nx g1 H1 r1 m1 (h2 r1 m1 q), np.rt, np.bk, np.ct, np.ex⟩⟩
/-- a plain cut: the slots are known, the store too -/
theorem lb_midP (r2 : En) (m2 : Mu) (h1 : LS X st r m { P with nx := fun r1 m1 => r1 = r2 ∧ m1 = m2 }) (h2 : LB X rest r2 m2 P) : LB X (st :: rest) r m P :=
  lb_mid _ h1 fun r1 m1 h => by obtain ⟨rfl, rfl⟩ := h; exact h2
end
end Dw
namespace Dw
open PySem PySem.Spec PyProof.Rows L2
/-- what repr can tell -/
inductive Rp (K : PySem.W.Frag) : Dt → Prop
  | pl {d : Dt} (h : Shw d) : Rp K d
  | d0 : Rp K (.dct [])
  | ex {C : Addr} {cn : Str} {d : Dt} (T : XF K C cn) (hl : leaf d = true) (h : Shw d) (hz : (shows d).length ≤ 10000) : Rp K (.exc C cn [d])
section
variable {X : Cx} {m : Mu} {F : Pd} {k : Nat} {N : List Str} {d : Dt}
theorem c_rp (hg : X.A.guards = some []) (hu : X.A.units + 64 < cLine) (h : Rp X.K d) (q : F (.str (rep d)) m) : OC X (.builtin "repr") [d] m F := by
  cases h with
  | pl h => 
    refine c_repr (k := 0) (N := []) hg hu h ?_
    have e : rep d = shows d := by cases d <;> first | rfl | (have := h.pl; simp [plain] at this)
    rw [← e]; exact q
  | d0 => exact c_repr_dct0 hg hu q
  | ex T hl h hz => exact c_repr_exc hu T hl h hz q
end
end Dw
namespace Dw
open PySem PySem.Spec PyProof.Rows L2
theorem x6_mk {K : PySem.W.Frag} {C : Addr} (h1 : PySem.W.subIn K (.ref C) (.type "int") = some false) (h2 : PySem.W.subIn K (.ref C) (.type "str") = some false) (h3 : PySem.W.subIn K (.ref C) (.type "bool") = some false) (h4 : PySem.W.subIn K (.ref C) (.type "list") = some false)
    (h5 : PySem.W.subIn K (.ref C) (.type "tuple") = some false) (h6 : PySem.W.subIn K (.ref C) (.type "dict") = some false) : X6 K C := by
  have go : ∀ T : String, PySem.W.kitMeta T = true → PySem.W.subIn K (.ref C) (.type T) = some false → PySem.W.kitOne K (.ref C) (.type T) = some false := fun T hk hs => by
    unfold PySem.W.kitOne PySem.W.kitCls
    rw [if_neg (show ¬ ((Value.ref C == Value.type T) = true) from fun z => nomatch (beq_iff_eq.mp z))]
    simp only [hk, hs, if_true]
  refine ⟨fun t => ?_⟩
  cases t
  · exact go _ (by decide +kernel) h1
  · exact go _ (by decide +kernel) h2
  · exact go _ (by decide +kernel) h3
  · exact go _ (by decide +kernel) h4
  · exact go _ (by decide +kernel) h5
  · exact go _ (by decide +kernel) h6
theorem Ex_found.Txt.xf {K : PySem.W.Frag} {mg : Str → Option Value} {cn : Str} {C fI : Addr} (T : Ex_found.Txt K mg cn C fI) (hc : PySem.W.isClsIn K C = true) (hl : (excReprHead cn.toString).length ≤ 100) : XF K C cn := by
  obtain ⟨q, N, bs, bm, sn, sub, ab, col, dd, k0, k1, k2, k3, k5, hL, _⟩ := T.cls
  exact ⟨⟨_, _, hL, rfl, rfl⟩, T.rC, T.exC, hc, T.ga, T.gg, T.cC, T.spC, T.tkC, T.mrC, hl⟩
theorem Ex_at.Txt.xf {K : PySem.W.Frag} {mg : Str → Option Value} {cn : Str} {C fI : Addr} (T : Ex_at.Txt K mg cn C fI) (hc : PySem.W.isClsIn K C = true) (hl : (excReprHead cn.toString).length ≤ 100) : XF K C cn := by
  obtain ⟨q, N, bs, bm, sn, sub, ab, col, dd, k0, k1, k2, k3, k5, hL, _⟩ := T.cls
  exact ⟨⟨_, _, hL, rfl, rfl⟩, T.rC, T.exC, hc, T.ga, T.gg, T.cC, T.spC, T.tkC, T.mrC, hl⟩
theorem Ex_many.Txt.xf {K : PySem.W.Frag} {mg : Str → Option Value} {cn : Str} {C fI : Addr} (T : Ex_many.Txt K mg cn C fI) (hc : PySem.W.isClsIn K C = true) (hl : (excReprHead cn.toString).length ≤ 100) : XF K C cn := by
  obtain ⟨q, N, bs, bm, sn, sub, ab, col, dd, k0, k1, k2, k3, k5, hL, _⟩ := T.cls
  exact ⟨⟨_, _, hL, rfl, rfl⟩, T.rC, T.exC, hc, T.ga, T.gg, T.cC, T.spC, T.tkC, T.mrC, hl⟩
end Dw
namespace Dw
open PySem PySem.Spec PyProof.Rows L2
section
variable {X : Cx} {a b c e : Expr} {r : En} {m : Mu} {P : Pc} {F : Pd} {E : Xd} {pos : Pos} {k : Nat} {N : List Str}
/-- a, b = e1, e2 with plain local names -/
theorem ls_par {x y : Str} {px py pt pt2 : Pos} {kt k2 : Nat} {f : Dt → En} {g : Dt → Dt → En} (gd : Gd k N X) (hp : Put N r x f) (hq : ∀ d, Put N (f d) y (g d)) (h : LA X [a, b] r m (fun ds m1 => ∃ d1 d2, ds = [d1, d2] ∧ P.nx (g d1 d2) m1) P.ex)
    (hxy : x ≠ y := by decide) (hx : X.env.scope.names.lookup x = some .local := by rfl) (hy : X.env.scope.names.lookup y = some .local := by rfl)
    (hw : swappedStores [.Tuple [.Name x px, .Name y py] kt pt] (.Tuple [a, b] k2 pt2) X.env = pure (some [x, y]) := by rfl) (hs : swapsWithSole [.Tuple [.Name x px, .Name y py] kt pt] (.Tuple [a, b] k2 pt2) pos.line X.env = pure false := by rfl) :
    LS X (.Assign [.Tuple [.Name x px, .Name y py] kt pt] (.Tuple [a, b] k2 pt2) pos) r m P := by
  obtain ⟨i, hi, hr⟩ := hp.ix
  obtain ⟨j, hj, _⟩ := (hq .non).ix
  have hij : i ≠ j := fun z => hxy (Option.some.inj (hi.symm.trans (z ▸ hj)))
  refine ⟨fun Z g' H D W rp tk np => (ps_par gd.calm gd.nd' (by rw [gd.hN]; exact hi) (by rw [gd.hN]; exact hj) hij hx hy pa_w hw hs).w (h.run Z g' H _ W rp tk (fun vs H1 ds m1 q go so da => ?_) np.ex)⟩
  obtain ⟨d1, d2, rfl, q⟩ := q
  cases da with
  | cons h1 h2 =>
    cases h2 with
    | cons h2 h3 =>
      cases h3
      refine ⟨_, _, rfl, ?_⟩
      obtain ⟨j2, hj2, hr2⟩ := (hq d1).ix
      have ej : j = j2 := nodup_ix gd.nd hj hj2
      subst ej
      rw [hr2 d2, hr d1] at q
      exact np.nx _ H1 _ m1 q go (((rp.go go so).set i h1).set j h2)
/-- target = e -/
theorem ls_asg {tg : Expr} (h : LE X e r m (fun d m1 => LG X tg r d fun r1 => P.nx r1 m1) P.ex) (hs : swapsWithSole [tg] e pos.line X.env = pure false := by rfl) (hw : swappedStores [tg] e X.env = pure none := by rfl)
    (h1 : (assignEach [tg] X.env).map (·.2) = [assign tg X.env] := by rfl) : LS X (.Assign [tg] e pos) r m P :=
  ⟨fun Z g H D W rp tk np => (ps_asg pe_w pg_w hs hw h1).w (h.run Z g H _ W rp tk (fun v H1 d m1 q go so da pins s u I rv => q.run Z m1 g H1 v _ (rp.go go so) da (fun g' r' q' rp' => np.nx g' H1 r' m1 q' go rp') pins s u I rv) np.ex)⟩
/-- t[lo:hi] of a tuple -/
theorem le_sl_tup {lo hi : Option Expr} {p2 : Pos} (h : LE X a r m (fun d m1 => LO X lo r m1 (fun l m2 => LO X hi r m2 (fun u m3 => ∃ ds, d = .tup ds ∧ F (.tup (cutD ds l u)) m3) E) E) E) : LE X (.Subscript a (.Slice lo hi none p2) pos) r m F E := by
  refine ⟨fun Z st H Q W rp tk nk nx => (pe_slice sl_tupA pe_w po_w po_w).w ?_⟩
  refine h.run Z st H _ W rp tk (fun v H1 d m1 q go so da => ?_) nx
  refine q.run Z st H1 _ W (rp.go go so) tk (fun l H2 m2 q2 go2 so2 => ?_) (nx.go go)
  refine q2.run Z st H2 _ W (rp.go (go.trans go2) so2) tk (fun u H3 m3 q3 go3 so3 => ?_) (nx.go (go.trans go2))
  obtain ⟨ds, rfl, q3⟩ := q3
  have da3 := da.move (Go.full Z (go2.trans go3))
  cases da3 with
  | tup h1 h2 =>
    rename_i vs p
    refine ⟨_, _, rfl, h1.sq, fun hw => ?_, fun hw p hp => nk _ _ _ m3 q3 (((go.trans go2).trans go3).trans (Ext.fresh hp)) (so3.laid hp) (da_new_tup so3 hp (cut_da h2 l u))⟩
    refine nk _ H3 (.tup (cutD ds l u)) m3 q3 ((go.trans go2).trans go3) so3 ?_
    have e : cutD ds l u = ds := by
      unfold cutD
      rw [← h2.length] at hw
      rw [hw.1, hw.2, List.drop_zero, Nat.sub_zero, List.take_length]
    rw [e]
    exact .tup h1 h2
end
section
open PySem.W PySem.Calls
variable {prog : Program} {w : World} {A : Around} {E : Value → Shared → Prop} {s : Shared}
/-- the head and the rest of a tuple of one thing at least -/
theorem unpack_head {t : Addr} {x : Value} {its : List Value} {n : Nat} {Q : List Value → Shared → Prop} (hn : A.handled = none) (ht : IsTup s.heap t (x :: its).toArray) (hz : its.length ≤ 16000)
    (hq : ∀ (h' : Heap) (tk : Nat), (∀ b o, s.heap.get? b = some o → h'.get? b = some o) → Q [x, .ref h'.objs.size] { s with heap := h'.push { cls := .type "list", data := .seq its.toArray }, toks := tk }) : wpAny (model prog w) A (unpackItems (.ref t) 2 (some 1)) Q E s := by
  have ne : t ≠ s.heap.objs.size := by obtain ⟨o, ho, _⟩ := ht; exact Nat.ne_of_lt (Heap.lt_size ho)
  unfold unpackItems notIterableAtAll
  refine wpAny_bind (wpAny_bind (wpAny_specialOf ht.typeIs slot_tuple_iter.lookup (wpAny_pure ?_)))
  rw [if_neg (by exact Bool.false_ne_true)]
  refine wpAny_bind (wpAny_holding (iter_tuple ht (wpAny_bind (wpAny_holding (draw_tuple ne 1 0 _ _ ⟨_, Heap.get?_push_size _ rfl, rfl, rfl⟩ (ht.push _) (by simp) fun g1 it1 sb1 => ?_)))))
  have ht1 : IsTup g1 t (x :: its).toArray := (ht.push _).extBut sb1.extBut ne
  have e1 : ((x :: its).toArray.toList.drop 0).take 1 = [x] := rfl
  rw [e1]
  obtain ⟨oi, hoi, _⟩ := id it1
  obtain ⟨ol, hol, _⟩ := id ht1
  rw [if_neg (show ¬ [x].length < 1 by simp)]
  refine wpAny_bind (wpAny_holding (kun_collect (s := { s with heap := g1 }) (T := "tuple_iterator") (.inr (.inr (.inr rfl))) (Walks.tuple (A := A.in1) hn s.heap.objs.size t ne _) (fun j u st => st.1.typeIs) (k := 1) (by simp) ⟨it1, ht1⟩ (Heap.lt_size hoi) (Heap.lt_size hol) (fun g2 tk kp => ?_) (by rw [sizeLine_eq]; simp; omega)))
  have e2 : (x :: its).toArray.toList.drop 1 = its := rfl
  rw [e2]
  show wpAny _ _ (if its.length < 0 then _ else _) _ _ _
  rw [if_neg (by omega)]
  show wpAny _ _ (newList (its.take (its.length - 0)) >>= fun d => pure ([x] ++ [d] ++ its.drop (its.length - 0))) _ _ _
  rw [Nat.sub_zero, List.take_length, List.drop_length]
  refine wpAny_bind (wpAny_newList (wpAny_pure (hq g2 tk fun b o e => kp b o (Nat.ne_of_lt (Heap.lt_size e)) (sb1.extBut b o (Nat.ne_of_lt (Heap.lt_size e)) (Heap.get?_push_of_some _ e)))) ?_)
  rw [sizeLine_eq]
  omega
end
section
variable {X : Cx} {r : En} {m : Mu} {P : Pc} {e : Expr} {pos : Pos} {k : Nat} {N : List Str}
/-- w, *t = e, e a tuple of one thing at least -/
theorem ls_star {x y : Str} {px py ps pt : Pos} {kt : Nat} {f : Dt → En} {g : Dt → Dt → En} (gd : Gd k N X) (hp : Put N r x f) (hq : ∀ d, Put N (f d) y (g d)) (h : LE X e r m (fun d m1 => ∃ d1 ds, d = .tup (d1 :: ds) ∧ ds.length ≤ 16000 ∧ P.nx (g d1 (.lst ds)) m1) P.ex)
    (hx : Loc X.env.scope x := by first | exact Or.inl rfl | exact Or.inr rfl) (hy : Loc X.env.scope y := by first | exact Or.inl rfl | exact Or.inr rfl)
    (hfx : X.fn x = true ∨ X.env.scope.names.lookup x = some .local := by first | exact .inl rfl | exact .inr rfl) (hfy : X.fn y = true ∨ X.env.scope.names.lookup y = some .local := by first | exact .inl rfl | exact .inr rfl)
    (hs : swapsWithSole [.Tuple [.Name x px, .Starred (.Name y py) ps] kt pt] e pos.line X.env = pure false := by rfl) (hw : swappedStores [.Tuple [.Name x px, .Starred (.Name y py) ps] kt pt] e X.env = pure none := by rfl)
    (h1 : (assignEach [.Tuple [.Name x px, .Starred (.Name y py) ps] kt pt] X.env).map (·.2) = [assign (.Tuple [.Name x px, .Starred (.Name y py) ps] kt pt) X.env] := by rfl) :
    LS X (.Assign [.Tuple [.Name x px, .Starred (.Name y py) ps] kt pt] e pos) r m P := by
  obtain ⟨i, hi, hr⟩ := hp.ix
  refine ⟨fun Z g0 H D W rp tk np => (ps_asg pe_w pg_w hs hw h1).w (h.run Z g0 H _ W rp tk (fun v H1 d m1 q go so da pins s u I rv => ?_) np.ex)⟩
  obtain ⟨d1, ds, rfl, hz, q⟩ := q
  obtain ⟨j, hj, hr2⟩ := (hq d1).ix
  rw [hr2, hr] at q
  cases da with
  | tup h1 h2 =>
    cases rv
    cases h2 with
    | cons h2 h3 =>
      rename_i v1 vs
      obtain ⟨its, rv, ht, hsz⟩ := I.tuple h1.sq
      rw [arm_assign_Tuple]
      refine wpAny_bind (wpAny_standAt ?_)
      cases rv with
      | cons r1 r2 =>
        rename_i u1 us
        have hlen : us.length ≤ 16000 := by rw [← r2.length, ← h3.length]; exact hz
        have hlv : vs.length ≤ sizeLine := by rw [← h3.length]; exact Nat.le_trans hz (by decide)
        show wpAny _ _ (unpack _ [(false, assign (.Name x px) X.env), (true, assign (.Name y py) X.env)]) _ _ _
        unfold unpack
        refine wpAny_bind (wpAny_holding (unpack_head (n := 0) (I.ok.hd gd.calm) ht hlen fun h' tk kp => ?_))
        have I0 : Inv X pins g0 H1 { s with heap := h', toks := tk } := I.kept kp
        have hfr : H1 h'.objs.size = none := I0.hok.fresh (Nat.le_refl _)
        have I1 : Inv X pins g0 (upd H1 h'.objs.size (.lst vs)) { s with heap := h'.push { cls := .type "list", data := .seq us.toArray }, toks := tk } := I0.laid (t' := tk) (fun b o e => Heap.get?_push_of_some _ e) (Nat.le_refl _) ⟨hlv, us, 0, r2, Heap.get?_push_size _ rfl⟩
        have dl : Da X.K (Z ++ dom m1) (upd H1 h'.objs.size (.lst vs)) (.lst ds) (.ref h'.objs.size) := da_new_lst so hfr h3
        have so2 := so.laid (o := .lst vs) hfr
        have go2 := go.trans (Ext.fresh (o := .lst vs) hfr)
        refine assignInOrder_cons (thn ((pg_name (i := i) (X := X) gd.nd' (by rw [gd.hN]; exact hi) hx hfx).run pins _ g0 _ v1 u1 (fun g' H' => g' = g0.set i (some v1) ∧ H' = upd H1 h'.objs.size (.lst vs)) I1 r1 ⟨rfl, rfl⟩) fun _ s2 hh => ?_)
        obtain ⟨g', H', I2, rfl, rfl⟩ := hh
        refine assignInOrder_cons (thn ((pg_name (i := j) (X := X) gd.nd' (by rw [gd.hN]; exact hj) hy hfy).run pins _ _ _ (.ref h'.objs.size) (.ref h'.objs.size) (fun g' H' => g' = (g0.set i (some v1)).set j (some (.ref h'.objs.size)) ∧ H' = upd H1 h'.objs.size (.lst vs)) I2 rfl ⟨rfl, rfl⟩) fun _ s3 hh => ?_)
        obtain ⟨g'', H'', I3, rfl, rfl⟩ := hh
        refine assignInOrder_nil ⟨_, _, I3, np.nx _ _ _ m1 q go2 ?_⟩
        exact ((rp.go go2 so2).set i (h2.move (Ext.fresh hfr))).set j dl
end
section
variable {X : Cx} {m : Mu} {G : Dt → Prop}
theorem o_modG {i j : Int} (h : 0 < j) (q : ∀ n : Int, 0 ≤ n → n < j → G (.int n)) : O2 X (binaryOp .Mod) (.int i) (.int j) m G := o_mod h (q _ (Int.emod_nonneg _ (by omega)) (Int.emod_lt_of_pos _ h))
end
end Dw
namespace Dw
open PySem PySem.Spec PyProof.Rows L2
/-! ### several targets -/
structure LGs (X : Cx) (tgs : List Expr) (r : En) (ds : List Dt) (f : En → Prop) : Prop where
  run : ∀ (Z : List Addr) (m : Mu) (g : L2.St) (H : Hp) (vs : List V) (Q : L2.St → Hp → Prop), Rep X.K Z m H g r → DaL X.K (Z ++ dom m) H ds vs → (∀ g' r', f r' → Rep X.K Z m H g' r' → Q g' H) →
    ∀ (pins : List (Addr × Obj)) (s : Shared) (us : List Value), Inv X pins g H s → Vals vs us → wpAny (model X.prog X.w) X.A (assignInOrder ((assignEach tgs X.env).map (·.2)) us) (fun _ s' => ∃ g' H', Inv X pins g' H' s' ∧ Q g' H') X.xe s
def wGs (X : Cx) (tgs : List Expr) : TGs := fun vs g H Q => ∀ (pins : List (Addr × Obj)) (s : Shared) (us : List Value), Inv X pins g H s → Vals vs us → wpAny (model X.prog X.w) X.A (assignInOrder ((assignEach tgs X.env).map (·.2)) us) (fun _ s' => ∃ g' H', Inv X pins g' H' s' ∧ Q g' H') X.xe s
section
variable {X : Cx} {t : Expr} {ts : List Expr} {r : En} {d : Dt} {ds : List Dt} {f : En → Prop} {pos : Pos} {k kt : Nat} {N : List Str}
theorem pgs_w : PGs X ts (wGs X ts) := ⟨fun pins s g H vs us Q I rv h => h pins s us I rv⟩
theorem lgs_nil (q : f r) : LGs X [] r [] f := ⟨fun Z m g H vs Q rp da hq pins s us I rv => by
  cases da
  exact (pgs_nil).run pins s g H _ us Q I rv ⟨rfl, hq g r q rp⟩⟩
theorem lgs_cons (h : LG X t r d fun r1 => LGs X ts r1 ds f) (hs : (assignEach (t :: ts) X.env).map (·.2) = assign t X.env :: (assignEach ts X.env).map (·.2) := by rfl) : LGs X (t :: ts) r (d :: ds) f := by
  refine ⟨fun Z m g H vs Q rp da hq pins s us I rv => ?_⟩
  cases da with
  | cons h1 h2 =>
    refine (pgs_cons pg_w pgs_w hs).run pins s g H _ us Q I rv ⟨_, _, rfl, ?_⟩
    exact h.run Z m g H _ _ rp h1 fun g' r' q rp' => q.run Z m g' H _ Q rp' h2 hq
theorem lg_tup (gd : Gd k N X) (h : LGs X ts r ds f) (hn : (assignEach ts X.env).length = ds.length := by rfl) (hst : (assignEach ts X.env).findIdx? (·.1) = none := by rfl) : LG X (.Tuple ts kt pos) r (.tup ds) f := by
  refine ⟨fun Z m g H v Q rp da hq pins s u I rv => ?_⟩
  cases da with
  | tup h1 h2 => exact (pg_tup gd.calm pgs_w rfl hst).run pins s g H _ u Q I rv ⟨_, _, rfl, h1.sq, by rw [← h2.length]; exact hn.symm, h.run Z m g H _ Q rp h2 hq⟩
theorem lg_lst (gd : Gd k N X) (h : LGs X ts r ds f) (hn : (assignEach ts X.env).length = ds.length := by rfl) (hst : (assignEach ts X.env).findIdx? (·.1) = none := by rfl) : LG X (.Tuple ts kt pos) r (.lst ds) f := by
  refine ⟨fun Z m g H v Q rp da hq pins s u I rv => ?_⟩
  cases da with
  | lst h1 h2 => exact (pg_lst gd.calm pgs_w rfl hst).run pins s g H _ u Q I rv ⟨_, _, rfl, h1.sq, by rw [← h2.length]; exact hn.symm, h.run Z m g H _ Q rp h2 hq⟩
end
end Dw
namespace Dw
open PySem PySem.Spec PyProof.Rows L2
section
variable {X : Cx} {m : Mu} {G : Dt → Prop}
/-- t == () -/
theorem o_eqT0 {ds : List Dt} (hu : X.A.units + 64 < cLine) (q : G (.bl ds.isEmpty)) : O2 X (compareOp .Eq) (.tup ds) (.tup []) m G := by
  refine ⟨fun Z H vx vy Q so dx dy nk pins s g I v u rx ry => ?_⟩
  cases dx with
  | tup h1 h2 =>
    cases dy with
    | tup h3 h4 =>
      cases h4
      cases rx
      cases ry
      obtain ⟨its, rv, ht, _⟩ := I.tuple h1.sq
      obtain ⟨its2, rv2, ht2, _⟩ := I.tuple h3.sq
      cases rv2
      refine SeqAt.eq_tupleAt (e := fun _ => true) ht ht2 (by omega) (fun j a1 a2 => absurd a2 (by simp)) ?_
      have e : ((List.range (min its.toArray.size ([] : List Value).toArray.size)).all (fun _ => true) && its.toArray.size == ([] : List Value).toArray.size) = ds.isEmpty := by
        have hl : its.length = ds.length := by rw [← rv.length, h2.length]
        cases ds with
        | nil => cases its with
          | nil => rfl
          | cons a t => cases hl
        | cons d t => cases its with
          | nil => cases hl
          | cons a t => simp
      rw [e]
      exact ⟨.bl _, H, I, rfl, nk _ H _ m ⟨rfl, q⟩ Ext.rfl' so (.bl _)⟩
/-- xs == [] -/
theorem o_eqL0 {ds : List Dt} (hu : X.A.units + 64 < cLine) (q : G (.bl ds.isEmpty)) : O2 X (compareOp .Eq) (.lst ds) (.lst []) m G := by
  refine ⟨fun Z H vx vy Q so dx dy nk pins s g I v u rx ry => ?_⟩
  cases dx with
  | lst h1 h2 =>
    cases dy with
    | lst h3 h4 =>
      cases h4
      cases rx
      cases ry
      obtain ⟨its, rv, ht, _⟩ := I.list h1.sq
      obtain ⟨its2, rv2, ht2, _⟩ := I.list h3.sq
      cases rv2
      have hl : its.length = ds.length := by rw [← rv.length, h2.length]
      have fin : EP X pins g Q (.bool ds.isEmpty) s := ⟨.bl _, H, I, rfl, nk _ H _ m ⟨rfl, q⟩ Ext.rfl' so (.bl _)⟩
      cases ds with
      | nil =>
        cases its with
        | nil => exact SeqAt.eq_listAt (e := fun _ => true) ht.isList ht2.isList rfl (by omega) (fun j a1 a2 => absurd a2 (by simp)) fin
        | cons a t => cases hl
      | cons d t =>
        cases its with
        | nil => cases hl
        | cons a t => exact SeqAt.eq_list_lengthsAt ht.isList ht2.isList (by simp) (by omega) fin
/-- (w, ..) == (y,), texts ahead -/
theorem o_eqT1 {x y : Str} {ds : List Dt} (hu : X.A.units + 64 < cLine) (q : G (.bl (decide (x = y) && ds.isEmpty))) : O2 X (compareOp .Eq) (.tup (.str x :: ds)) (.tup [.str y]) m G := by
  refine ⟨fun Z H vx vy Q so dx dy nk pins s g I v u rx ry => ?_⟩
  cases dx with
  | tup h1 h2 =>
    cases dy with
    | tup h3 h4 =>
      cases rx
      cases ry
      obtain ⟨its, rv, ht, _⟩ := I.tuple h1.sq
      obtain ⟨its2, rv2, ht2, _⟩ := I.tuple h3.sq
      cases h2 with
      | cons a1 a2 =>
        cases a1
        cases h4 with
        | cons b1 b2 =>
          cases b1
          cases b2
          cases rv with
          | cons c1 c2 =>
            cases rv2 with
            | cons d1 d2 =>
              cases d2
              obtain ⟨t1, rfl⟩ := c1
              obtain ⟨t2, rfl⟩ := d1
              rename_i vs us
              refine SeqAt.eq_tupleAt (e := fun _ => x == y) ht ht2 (by omega) (fun j e1 e2 => ?_) ?_
              · have hj : j = 0 := by simp at e2; omega
                subst hj
                exact SeqAt.EqAt.str_str x t1 y t2
              · have e : ((List.range (min (Value.str x t1 :: us).toArray.size [Value.str y t2].toArray.size)).all (fun _ => x == y) && (Value.str x t1 :: us).toArray.size == [Value.str y t2].toArray.size) = (decide (x = y) && ds.isEmpty) := by
                  have hl : us.length = ds.length := by rw [← c2.length, a2.length]
                  have hb : (x == y) = decide (x = y) := by by_cases z : x = y <;> simp [z]
                  rw [hb]
                  cases ds with
                  | nil =>
                    cases us with
                    | nil => simp
                    | cons a t => cases hl
                  | cons d t =>
                    cases us with
                    | nil => cases hl
                    | cons a t => simp
                rw [e]
                exact ⟨.bl _, H, I, rfl, nk _ H _ m ⟨rfl, q⟩ Ext.rfl' so (.bl _)⟩
end
section
variable {X : Cx} {m : Mu} {F : Pd}
theorem kit_none {K : PySem.W.Frag} {C : Addr} (h : X6 K C) : ∀ Ts : List Ty6, PySem.W.kitAny K (.ref C) (Ts.map fun t => Value.type t.nm) = some false
  | [] => rfl
  | t :: Ts => by
    show (match PySem.W.kitOne K (.ref C) (.type t.nm) with | some true => some true | some false => PySem.W.kitAny K (.ref C) (Ts.map fun t => Value.type t.nm) | none => none) = some false
    rw [h.no t]
    exact kit_none h Ts
theorem c_isiTE {C : Addr} {cn : Str} {ds : List Dt} {Ts : List Ty6} (hX : XF X.K C cn) (h6 : X6 X.K C) (q : F (.bl false) m) : OC X (.builtin "isinstance") [.exc C cn ds, .tup (Ts.map fun t => .raw (.ty t.nm))] m F := by
  refine ⟨fun Z H vs Q so da nk pins s g I us rv => ?_⟩
  cases da with
  | cons d1 d2 =>
    cases d2 with
    | cons d2 d3 =>
      cases d3
      cases d1 with
      | exc n1 h1 n2 h2 n4 h4 h3 =>
        cases rv with
        | cons r1 r2 =>
          cases r2 with
          | cons r2 r3 =>
            cases r3
            cases r1
            cases d2 with
            | tup t1 t2 =>
              have e : Ts.map (fun t => Dt.raw (.ty t.nm)) = (Ts.map Ty6.nm).map fun T => Dt.raw (.ty T) := by rw [List.map_map]; rfl
              rw [e] at t2
              have e := raws_da t2
              subst e
              cases r2
              obtain ⟨its, rv, ⟨o2, ho2, hc2, n, hd2⟩, _⟩ := I.tuple t1.sq
              have e2 := vals_ty rv
              subst e2
              obtain ⟨⟨o, vs, e1, e2, e3, e4, e5⟩, _⟩ := (show ObjOk X.prog X.w H s.heap _ (.ext (ExO _ C _ _)) from I.hok _ _ h1)
              obtain ⟨mA, ⟨od, es, ep, f1, _⟩, _⟩ := (show ObjOk X.prog X.w H s.heap _ (.xd _) from I.hok _ _ h4)
              have J : PySem.W.InstAt s.heap _ o C (some od) := ⟨e1, e2, by unfold PySem.W.notCls; rw [e3], by rw [e5]; exact f1⟩
              obtain ⟨oc2, od2, dt2, sl2⟩ := o2
              simp only at hc2 hd2
              subst hc2 hd2
              refine PySem.W.kia_tup (PySem.W.kitx_exc hX.cl hX.ga hX.gg hX.ex hX.cc hX.sp hX.tk hX.mr) I.kIn J ho2 (b := false) ?_ (fun z => nomatch z) fun tk => ⟨.bl false, H, I.tok tk, rfl, nk _ H _ m q Ext.rfl' so (.bl _)⟩
              rw [List.map_map]
              exact kit_none h6 Ts
end
end Dw
namespace Dw
open PySem PySem.Spec PyProof.Rows L2
/-! ### t[::-1] -/
section
variable {prog : Program} {w : World} {A : Around} {E : Value → Shared → Prop} {s : Shared}
theorem places_back (n : Nat) : Builtin.Slice.slicePlaces ((n : Int) - 1) (-1) (-1) = n := by
  unfold Builtin.Slice.slicePlaces
  rw [if_neg (by decide)]
  by_cases h : n = 0
  · subst h; rfl
  · rw [if_pos (by omega), show (-(-1 : Int)) = 1 from rfl, Int.ediv_one]
    omega
theorem applied_back {sl : Addr} {vl vu vs : Value} {n : Nat} {Q : Int × Int × Nat → Shared → Prop} (hs : s.heap.IsSliceOf sl vl vu vs) (pl : IsPart vl none) (pu : IsPart vu none) (ps : IsPart vs (some (-1)))
    (h : Q ((n : Int) - 1, -1, n) s) : wpAny (model prog w) A (Builtin.Slice.sliceApplied (.ref sl) (pure (n : Int))) Q E s := by
  obtain ⟨os, ho, hc, hd⟩ := id hs
  unfold Builtin.Slice.sliceApplied Builtin.Slice.sliceFields
  refine wpAny_bind (wpAny_bind (wpAny_field ho hd (x := vl) rfl (wpAny_bind (wpAny_field ho hd (x := vu) rfl (wpAny_bind (wpAny_field ho hd (x := vs) rfl (wpAny_pure ?_)))))))
  refine wpAny_bind (HT.slicePart_ ps ?_)
  show wpAny _ _ (if ((-1 : Int) == 0) = true then _ else _) _ _ s
  rw [if_neg (by decide)]
  refine wpAny_bind (HT.slicePart_ pl (wpAny_bind (HT.slicePart_ pu (wpAny_bind (wpAny_pure ?_)))))
  show wpAny _ _ (pure ((n : Int) - 1, (-1 : Int), Builtin.Slice.slicePlaces ((n : Int) - 1) (-1) (-1))) _ _ s
  rw [places_back]
  exact wpAny_pure h
theorem fm_map {α β : Type} {f : α → Option β} {g : α → β} : ∀ {l : List α}, (∀ x ∈ l, f x = some (g x)) → l.filterMap f = l.map g
  | [], _ => rfl
  | x :: l, h => by rw [List.filterMap_cons_some (h x List.mem_cons_self), List.map_cons, fm_map fun y hy => h y (List.mem_cons_of_mem _ hy)]
theorem pick_back (xs : Array Value) : ((List.range xs.size).filterMap fun (k : Nat) => xs[(((xs.size : Int) - 1) + (k : Int) * (-1)).toNat]?) = xs.toList.reverse := by
  apply List.ext_getElem?
  intro j
  have e : ((List.range xs.size).filterMap fun (k : Nat) => xs[(((xs.size : Int) - 1) + (k : Int) * (-1)).toNat]?) = (List.range xs.size).map fun k => xs.getD (xs.size - 1 - k) .none := by
    refine fm_map fun k hk => ?_
    have hk : k < xs.size := List.mem_range.mp hk
    have e1 : (((xs.size : Int) - 1) + (k : Int) * (-1)).toNat = xs.size - 1 - k := by omega
    rw [e1]
    have h2 : xs.size - 1 - k < xs.size := by omega
    simp [Array.getD, h2]
  rw [e, List.getElem?_map]
  by_cases hj : j < xs.size
  · rw [List.getElem?_range hj, List.getElem?_reverse (by simpa using hj)]
    have h2 : xs.size - 1 - j < xs.size := by omega
    simp [Array.getD, h2]
  · rw [List.getElem?_eq_none (by simpa using hj), List.getElem?_eq_none (by simpa using hj)]
    rfl
theorem item_back {t sl : Addr} {items : Array Value} {vl vu vs : Value} {Q : Value → Shared → Prop} (ht : IsTup s.heap t items) (hs : s.heap.IsSliceOf sl vl vu vs) (pl : IsPart vl none) (pu : IsPart vu none) (ps : IsPart vs (some (-1)))
    (h : Q (.ref s.heap.objs.size) { s with heap := s.heap.push { cls := .type "tuple", data := .seq items.toList.reverse.toArray } }) (hz : items.size ≤ sizeLine) : wpAny (model prog w) A (getItem (.ref t) (.ref sl)) Q E s := by
  have ok : sizeOk (.seq items.toList.reverse.toArray) := by
    show items.toList.reverse.toArray.size ≤ sizeLine
    simpa using hz
  obtain ⟨os, ho, hc, hd⟩ := id hs
  have ts : s.TypeIs (.ref sl) "slice" := ⟨os, ho, hc⟩
  unfold getItem
  try with_reducible refine wpAny_holding ?_
  first | refine wpAny_bind (wpAny_pure ?_) | skip
  refine wpAny_bind (wpAny_sequenceKey ht.typeIs (by decide) ?_)
  refine wpAny_bind (wpAny_callSpecial?_slot (name := Str.ofString "__getitem__") ht.typeIs PyProof.Rows.slot_tuple_getitem (wpAny_call_entry PyProof.Rows.slot_tuple_getitem ht.typeIs entry_tuple_getitem ?_ (args_tuple_getitem _ _)))
  show wpAny _ _ (Builtin.Tuple.tupleItemsOf (.ref t) >>= _) _ _ s
  refine wpAny_bind (tupleItemsOf_ ht (wpAny_bind (wpAny_typeOf ts ?_)))
  rw [if_pos (by decide)]
  refine wpAny_bind (applied_back hs pl pu ps ?_)
  show wpAny _ _ (if ((((items.size : Int) - 1) == 0 && (-1 : Int) == 1 && items.size == items.size) = true) then _ else _) _ _ s
  rw [if_neg (by simp), pick_back]
  first
    | exact wpAny_bind (m := Builtin.Tuple.tupleExact _) (wpAny_newObj_type (wpAny_pure ⟨_, rfl, wpAny_pure h⟩) ok)
    | exact wpAny_bind (m := Builtin.Tuple.tupleExact _) (wpAny_newObj_type (wpAny_bind (wpAny_pure (wpAny_pure ⟨_, rfl, wpAny_pure h⟩))) ok)
    | exact wpAny_bind (wpAny_bind (m := Builtin.Tuple.tupleExact _) (wpAny_newObj_type (wpAny_pure (wpAny_pure ⟨_, rfl, wpAny_pure h⟩)) ok))
    | exact wpAny_bind (wpAny_bind (m := Builtin.Tuple.tupleExact _) (wpAny_newObj_type (wpAny_pure ⟨_, rfl, wpAny_pure h⟩) ok))
end
section
variable {X : Cx} {e : Expr} {r : En} {m : Mu} {F : Pd} {E : Xd} {k : Nat} {p1 p2 p3 pos : Pos}
theorem DaL.reverse {K : PySem.W.Frag} {D : List Addr} {H : Hp} : ∀ {ds : List Dt} {vs : List V}, DaL K D H ds vs → DaL K D H ds.reverse vs.reverse
  | _, _, .nil => .nil
  | d :: ds, v :: vs, .cons a b => by
    rw [List.reverse_cons, List.reverse_cons]
    exact b.reverse.append (.cons a .nil)
theorem le_back (h : LE X e r m (fun d m1 => ∃ ds, d = .tup ds ∧ F (.tup ds.reverse) m1) E) : LE X (.Subscript e (.Slice none none (some (.UnaryOp .USub (.Constant (.int 1) k p1) p2)) p3) pos) r m F E := by
  refine ⟨fun Z g H Q W rp tk nk nx pins s I => ?_⟩
  refine Subscript_ (thn (h.run Z g H (fun v H1 => ∃ a xs, v = .ref a ∧ SqT X.K H1 a xs ∧ ∀ p, H1 p = none → Q (.ref p) (upd H1 p (.tup xs.reverse))) W rp tk (fun v H1 d m1 q go so da => ?_) nx pins s I) fun v s1 hh => ?_)
  · obtain ⟨ds, rfl, q⟩ := q
    cases da with
    | tup a1 a2 => exact ⟨_, _, rfl, a1.sq, fun p hp => nk _ _ _ m1 q (go.trans (Ext.fresh hp)) (so.laid hp) (da_new_tup so hp a2.reverse)⟩
  · obtain ⟨x, H1, I1, r1, a, xs, rfl, hx, q⟩ := hh
    cases r1
    have part : PO X (some (.UnaryOp .USub (.Constant (.int 1) k p1) p2)) (tPart (tUn (rU fun i => .int (-i)) (tC (.int 1)))) := po_some (pe_un un_neg pe_int)
    refine wpAny_Slice (thn (po_none.run pins s1 g H1 (fun o H2 => o = none ∧ H2 = H1) I1 ⟨rfl, rfl⟩) fun vl s2 h2 => ?_)
    obtain ⟨l, H2, I2, pl, rfl, rfl⟩ := h2
    refine thn (po_none.run pins s2 g H2 (fun o H3 => o = none ∧ H3 = H2) I2 ⟨rfl, rfl⟩) fun vu s3 h3 => ?_
    obtain ⟨u, H3, I3, pu, rfl, rfl⟩ := h3
    refine thn (part.run pins s3 g H3 (fun o H4 => o = some (-1) ∧ H4 = H3) I3 ⟨1, rfl, -1, rfl, rfl, rfl⟩) fun vs s4 h4 => ?_
    obtain ⟨o, H4, I4, ps, rfl, rfl⟩ := h4
    have I5 : Inv X pins g H4 { s4 with heap := s4.heap.push { cls := .type "slice", data := .fields #[vl, vu, vs] } } := I4.kept (t' := s4.toks) fun b ob z => Heap.get?_push_of_some _ z
    obtain ⟨its, rv, ht, hz⟩ := I5.tuple hx
    show wpAny (model X.prog X.w) X.A (subscriptTail e (.Slice none none (some (.UnaryOp .USub (.Constant (.int 1) k p1) p2)) p3) (.ref a) (.ref s4.heap.objs.size)) (EP X pins g Q) X.xe _
    refine tail_any (ops := [.ref a, .ref s4.heap.objs.size]) ht.typeIs PyProof.Rows.slot_tuple_getitem.lookup ?_ (by with_unfolding_all rfl)
    refine item_back ht (Heap.IsSliceOf.new _ vl vu vs) pl pu ps ?_ (by rw [List.size_toArray, ← rv.length]; exact hz)
    refine ⟨.ref _, _, I5.laid (t' := s4.toks) (o := .tup xs.reverse) (fun b ob z => Heap.get?_push_of_some _ z) (Nat.le_refl _) ?_, rfl, q _ (I5.hok.fresh (Nat.le_refl _))⟩
    exact ⟨by rw [List.length_reverse]; exact hz, _, rv.reverse, IsTup.new _ _⟩
end
end Dw
namespace Dw
open PySem PySem.Spec PyProof.Rows L2
/-! ### repr of nested data, empty dicts among them -/
mutual
def tell : Dt → Bool
  | .raw _ => false
  | .exc _ _ _ => false
  | .cau _ _ _ => false
  | .dct [] => true
  | .dct (_ :: _) => false
  | .lst ds => tells ds
  | .tup ds => tells ds
  | .frz ds => tells ds
  | _ => true
def tells : List Dt → Bool
  | [] => true
  | d :: ds => tell d && tells ds
end
section
variable {X : Cx} {pins : List (Addr × Obj)} {g : L2.St} {H : Hp} {s : Shared} {D : List Addr}
theorem shown_lst (ds : List Dt) : (py (.lst ds)).shown = listText (PyData.shownAll (pys ds)) := by simp [py, PyData.shown]
theorem shown_tup (ds : List Dt) : (py (.tup ds)).shown = tupleText (PyData.shownAll (pys ds)) := by simp [py, PyData.shown]
mutual
theorem rk (I : Inv X pins g H s) : ∀ (d : Dt) (v : V) (u : Value), Da X.K D H d v → RelV v u → tell d = true → (py d).showable = true → (py d).shown.length ≤ sizeLine → ∃ as bs, Reads s.heap u (py d) as ∧ ReadAtMost s.heap (py d).depth bs ∧ ReprK X.prog X.w bs s.heap (py d).depth u (py d).shown
  | .non, _, _, h, r, _, _, _ => by
    cases h; cases r
    exact ⟨_, [], .none, (fun _ h => nomatch h), by simp only [py, PyData.shown]; exact .of_is ReprIs.none _ _ _⟩
  | .bl b, _, _, h, r, _, _, _ => by
    cases h; cases r
    exact ⟨_, [], .bool b, (fun _ h => nomatch h), by simp only [py, PyData.shown]; exact .of_is (ReprIs.bool b) _ _ _⟩
  | .int i, _, _, h, r, _, hs, _ => by
    cases h; obtain ⟨t, rfl⟩ := r
    exact ⟨_, [], .int i t, (fun _ h => nomatch h), by simp only [py, PyData.shown]; exact .of_is (ReprIs.int t (by simpa [py, PyData.showable] using hs)) _ _ _⟩
  | .str x, _, _, h, r, _, _, hz => by
    cases h; obtain ⟨t, rfl⟩ := r
    exact ⟨_, [], .str x t, (fun _ h => nomatch h), by simp only [py, PyData.shown]; exact .of_is (ReprIs.str x t (by simpa only [py, PyData.shown] using hz)) _ _ _⟩
  | .lst ds, _, _, h, r, ht, hs, hz => by
    cases h with
    | lst h1 h2 =>
      cases r
      obtain ⟨its, rv, ⟨o, n, ho, hc, _, hd⟩, _⟩ := I.list h1.sq
      rw [shown_lst] at hz
      obtain ⟨as, bs, rs, hb, hk⟩ := rks I ds _ its h2 rv (by simpa [tell] using ht) (by simpa [py, PyData.showable] using hs) (fun t ht => Nat.le_trans (listText_mem_le ht) hz)
      have rd : Reads s.heap (.ref _) (.list (pys ds)) _ := .list ho hc hd rs
      have na := not_mem_of_deeper rd (by simp only [PyData.depth]; omega) hb
      refine ⟨_, _ :: bs, by rw [py]; exact rd, by rw [py]; exact ReadAtMost.cons rd (by simp only [PyData.depth]; omega) hb, ?_⟩
      rw [shown_lst]
      simp only [py, PyData.depth]
      cases its with
      | nil =>
        cases rv
        cases h2
        simp only [pys, PyData.shownAll, PyData.depthAll, listText_nil]
        exact ReprK.listEmpty ho hc hd
      | cons x l => exact ReprK.list ho hc hd na (by simpa using hk.length_eq) (fun i y e => hk.item i y (by simpa using e))
  | .frz ds, _, _, h, r, ht, hs, hz => by
    cases h with
    | frz h1 h2 =>
      cases r
      obtain ⟨its, rv, ⟨o, n, ho, hc, _, hd⟩, _⟩ := I.list h1.sq
      rw [show (py (.frz ds)).shown = listText (PyData.shownAll (pys ds)) by simp [py, PyData.shown]] at hz
      obtain ⟨as, bs, rs, hb, hk⟩ := rks I ds _ its h2 rv (by simpa [tell] using ht) (by simpa [py, PyData.showable] using hs) (fun t ht => Nat.le_trans (listText_mem_le ht) hz)
      have rd : Reads s.heap (.ref _) (.list (pys ds)) _ := .list ho hc hd rs
      have na := not_mem_of_deeper rd (by simp only [PyData.depth]; omega) hb
      refine ⟨_, _ :: bs, by rw [py]; exact rd, by rw [py]; exact ReadAtMost.cons rd (by simp only [PyData.depth]; omega) hb, ?_⟩
      simp only [py, PyData.depth, PyData.shown]
      cases its with
      | nil =>
        cases rv
        cases h2
        simp only [pys, PyData.shownAll, PyData.depthAll, listText_nil]
        exact ReprK.listEmpty ho hc hd
      | cons x l => exact ReprK.list ho hc hd na (by simpa using hk.length_eq) (fun i y e => hk.item i y (by simpa using e))
  | .tup ds, _, _, h, r, ht, hs, hz => by
    cases h with
    | tup h1 h2 =>
      cases r
      obtain ⟨its, rv, ⟨o, ho, hc, n, hd⟩, _⟩ := I.tuple h1.sq
      rw [shown_tup] at hz
      obtain ⟨as, bs, rs, hb, hk⟩ := rks I ds _ its h2 rv (by simpa [tell] using ht) (by simpa [py, PyData.showable] using hs) (fun t ht => Nat.le_trans (tupleText_mem_le ht) hz)
      have rd : Reads s.heap (.ref _) (.tuple (pys ds)) _ := .tuple ho hc hd rs
      have na := not_mem_of_deeper rd (by simp only [PyData.depth]; omega) hb
      refine ⟨_, _ :: bs, by rw [py]; exact rd, by rw [py]; exact ReadAtMost.cons rd (by simp only [PyData.depth]; omega) hb, ?_⟩
      simp only [py, PyData.depth, PyData.shown]
      exact ReprK.tuple ho hc hd na hk
  | .dct [], _, _, h, r, _, _, _ => by
    cases h with
    | dct n1 h1 h2 =>
      cases h2
      cases r
      obtain ⟨_, ns, vs, kv, o, es, ep, e1, e2, e3, e4, e5, _⟩ := (show ObjOk X.prog X.w H s.heap _ (.dK []) from I.hok _ _ h1)
      cases kv
      have e6 : es.toList = [] := by
        cases e : es.toList with
        | nil => rfl
        | cons y ys => rw [e] at e5; cases e5
      rename_i a _ _
      have rd : Reads s.heap (.ref a) (.dict []) _ := .dict (as := []) (bs := []) e1 e2.1 e3 (by rw [e6]; exact .nil) (by rw [e6]; exact .nil)
      refine ⟨_, [a], by simp only [py, pyk]; exact rd, ?_, ?_⟩
      · simp only [py, pyk]
        exact ReadAtMost.cons (n := 0) rd (by omega) (fun _ h => nomatch h)
      · simp only [py, pyk, PyData.depth, PyData.depthKv, PyData.shown]
        exact ReprK.dict (as := []) (ps := []) e1 e2.1 e3 ns (by simp) (by rw [e6]; exact .nil)
  | .dct (_ :: _), _, _, _, _, ht, _, _ => by simp [tell] at ht
  | .exc _ _ _, _, _, _, _, ht, _, _ => by simp [tell] at ht
  | .cau _ _ _, _, _, _, _, ht, _, _ => by simp [tell] at ht
  | .raw _, _, _, _, _, ht, _, _ => by simp [tell] at ht
theorem rks (I : Inv X pins g H s) : ∀ (ds : List Dt) (vs : List V) (us : List Value), DaL X.K D H ds vs → Vals vs us → tells ds = true → PyData.showableAll (pys ds) = true → (∀ t ∈ PyData.shownAll (pys ds), t.length ≤ sizeLine) →
    ∃ as bs, ReadsAll s.heap us (pys ds) as ∧ ReadAtMost s.heap (PyData.depthAll (pys ds)) bs ∧ ReprAllK X.prog X.w bs s.heap (PyData.depthAll (pys ds)) us (PyData.shownAll (pys ds))
  | [], _, _, h, r, _, _, _ => by
    cases h; cases r
    exact ⟨_, [], .nil, (fun _ h => nomatch h), by simp only [pys, PyData.shownAll]; exact .nil⟩
  | d :: ds, _, _, h, r, ht, hs, hz => by
    cases h with
    | cons h1 h2 =>
      cases r with
      | cons r1 r2 =>
        have ht : tell d = true ∧ tells ds = true := by simpa [tells] using ht
        have hs : (py d).showable = true ∧ PyData.showableAll (pys ds) = true := by simpa [pys, PyData.showableAll] using hs
        obtain ⟨a1, b1, q1, p1, k1⟩ := rk I d _ _ h1 r1 ht.1 hs.1 (hz _ (by simp only [pys, PyData.shownAll]; exact List.mem_cons_self ..))
        obtain ⟨a2, b2, q2, p2, k2⟩ := rks I ds _ _ h2 r2 ht.2 hs.2 (fun t z => hz t (by simp only [pys, PyData.shownAll]; exact List.mem_cons_of_mem _ z))
        refine ⟨_, b1 ++ b2, .cons q1 q2, ?_, ?_⟩
        · simp only [pys, PyData.depthAll]
          exact (p1.mono (Nat.le_max_left _ _)).append (p2.mono (Nat.le_max_right _ _))
        · simp only [pys, PyData.depthAll, PyData.shownAll]
          exact .cons ((k1.more fun b hb => List.mem_append_left _ hb).level_le (Nat.le_max_left _ _)) (k2.more_le (fun b hb => List.mem_append_right _ hb) (Nat.le_max_right _ _))
end
end
/-- what repr tells of nested data -/
structure Sht (d : Dt) : Prop where
  tl : tell d = true
  sh : (py d).showable = true
  dp : (py d).depth ≤ 60
  sz : (shows d).length ≤ sizeLine
theorem Shw.sht {d : Dt} (h : Shw d) (ht : tell d = true) : Sht d := ⟨ht, h.sh, h.dp, h.sz⟩
section
variable {X : Cx} {m : Mu} {F : Pd} {k : Nat} {N : List Str}
theorem top_lst {D : List Addr} {pins : List (Addr × Obj)} {g : L2.St} {H : Hp} {s : Shared} {a : Addr} {xs : List V} {ds : List Dt} {Q : Value → Shared → Prop} {E : Value → Shared → Prop} (I : Inv X pins g H s) (hg : X.A.guards = some []) (hu : X.A.units + 64 < cLine) (h1 : SqL X.K H a xs) (h2 : DaL X.K D H ds xs) (h : Sht (.lst ds))
    (hq : ∀ h' u tk, (∀ b o, s.heap.get? b = some o → h'.get? b = some o) → Q (.str (shows (.lst ds)) u) { s with heap := h', toks := tk }) : wpAny (model X.prog X.w) X.A (call (.builtin "repr") [.ref a]) Q E s := by
  obtain ⟨its, rv, ⟨o, n, ho, hc, _, hd⟩, _⟩ := I.list h1
  have hz := h.sz
  have hp := h.dp
  have e : shows (.lst ds) = listText (PyData.shownAll (pys ds)) := shown_lst ds
  rw [e] at hz hq
  obtain ⟨as, bs, rs, hb, hk⟩ := rks I ds _ its h2 rv (by simpa [tell] using h.tl) (by simpa [py, PyData.showable] using h.sh) (fun t ht => Nat.le_trans (listText_mem_le ht) hz)
  have na := not_mem_of_deeper (.list ho hc hd rs) (by simp only [PyData.depth]; omega) hb
  simp only [py, PyData.depth] at hp
  refine call_repr_slot (by omega) ⟨o, ho, hc⟩ PySem.F.slot_list_repr.toG ?_
  cases its with
  | nil =>
    cases rv
    cases h2
    simp only [pys, PyData.shownAll, listText_nil] at hq
    exact call_list_repr_empty ⟨o, ho, hc⟩ ho hd ⟨_, _, rfl, hq s.heap _ _ fun _ _ e => e⟩
  | cons x l => exact call_list_reprK (A := X.A.in1) (s := s) ho hc hd na (by simpa using hk.length_eq) (fun i y e => hk.item i y (by simpa using e)) hg (fun b _ => Clear.nil b) (by show X.A.units + 1 + _ < cLine; omega) (fun _ _ e => e) (fun h' u tk kp => ⟨_, _, rfl, hq h' u tk kp⟩) hz
theorem c_reprT {d : Dt} (hg : X.A.guards = some []) (hu : X.A.units + 64 < cLine) (h : Sht d) (q : F (.str (shows d)) m) : OC X (.builtin "repr") [d] m F := by
  refine ⟨fun Z H vs Q so da nk pins s g I us rv => ?_⟩
  cases da with
  | cons d1 d2 =>
    cases d2
    cases rv with
    | cons r1 r2 =>
      cases r2
      have fin : ∀ (h' : Heap) (u : Tok) (tk : Nat), (∀ b o, s.heap.get? b = some o → h'.get? b = some o) → EP X pins g Q (.str (shows d) u) { s with heap := h', toks := tk } := fun h' u tk hk =>
        ⟨.str _, H, I.kept hk, ⟨_, rfl⟩, nk _ H _ m q Ext.rfl' so (.str _)⟩
      have ht := h.tl
      cases d1 with
      | non => cases r1; exact PySem.P.repr_of_none (fin _ _ _ fun _ _ e => e)
      | bl b => cases r1; exact PySem.P.repr_of_bool (fin _ _ _ fun _ _ e => e)
      | int i => obtain ⟨t, rfl⟩ := r1; exact PySem.P.repr_of_int (by have := h.sh; simpa [py, PyData.showable] using this) (fin _ _ _ fun _ _ e => e)
      | str x => obtain ⟨t, rfl⟩ := r1; exact PySem.P.repr_of_str (fin _ _ _ fun _ _ e => e) h.sz
      | lst h1 h2 => cases r1; exact top_lst I hg hu h1.sq h2 h fin
      | frz h1 h2 =>
        cases r1
        refine top_lst I hg hu h1.sq h2 ⟨by simpa [tell] using h.tl, by simpa [py, PyData.showable] using h.sh, by simpa [py] using h.dp, h.sz⟩ fin
      | tup h1 h2 =>
        rename_i ds
        cases r1
        obtain ⟨its, rv, ⟨o, ho, hc, n, hd⟩, _⟩ := I.tuple h1.sq
        have hz := h.sz
        have hp := h.dp
        have e : shows (.tup ds) = tupleText (PyData.shownAll (pys ds)) := shown_tup ds
        rw [e] at hz fin
        obtain ⟨as, bs, rs, hb, hk⟩ := rks I ds _ its h2 rv (by simpa [tell] using h.tl) (by simpa [py, PyData.showable] using h.sh) (fun t ht => Nat.le_trans (tupleText_mem_le ht) hz)
        have na := not_mem_of_deeper (.tuple ho hc hd rs) (by simp only [PyData.depth]; omega) hb
        simp only [py, PyData.depth] at hp
        refine call_repr_slot (by omega) ⟨o, ho, hc⟩ PySem.F.slot_tuple_repr ?_
        exact call_tuple_reprK (A := X.A.in1) (s := s) ho hc hd na hk hg (fun b _ => Clear.nil b) (by show X.A.units + 1 + _ < cLine; omega) (fun _ _ e => e) (fun h' u tk kp => ⟨_, _, rfl, fin h' u tk kp⟩) hz
      | dct n1 h1 h2 =>
        cases h2 with
        | nil =>
          cases r1
          exact (c_repr_dct0 hg hu q).run Z H _ Q so (.cons (.dct n1 h1 .nil) .nil) nk pins s g I _ (.cons rfl .nil)
        | cons _ _ => simp [tell] at ht
      | exc n h1 n2 h2 n4 h4 h3 => simp [tell] at ht
      | cau n h1 h2 => simp [tell] at ht
      | raw v => simp [tell] at ht
/-- of a list of the store -/
theorem c_reprM {p : Addr} {ds : List Dt} (hg : X.A.guards = some []) (hu : X.A.units + 64 < cLine) (hm : (p, Mc.lst ds) ∈ m) (h : Sht (.lst ds)) (q : F (.str (shows (.lst ds))) m) : OC X (.builtin "repr") [.raw (.ref p)] m F := by
  refine ⟨fun Z H vs Q so da nk pins s g I us rv => ?_⟩
  cases da with
  | cons d1 d2 =>
    cases d2
    cases d1
    cases rv with
    | cons r1 r2 =>
      cases r2
      cases r1
      obtain ⟨xs, e, dl⟩ := so.ob _ hm
      exact top_lst I hg hu (SqL.of e) dl h fun h' u tk hk => ⟨.str _, H, I.kept hk, ⟨_, rfl⟩, nk _ H _ m q Ext.rfl' so (.str _)⟩
end
end Dw
namespace Dw
open PySem PySem.Spec PyProof.Rows L2
section
variable {X : Cx} {r : En} {m : Mu} {F : Pd} {E : Xd} {P : Pc} {p pos p2 py spos : Pos} {k : Nat} {N : List Str} {x y : Str} {scope sc : Scope} {elt iter : Expr} {ifs : List Expr} {f h2 : Dt → En}
theorem cutD_from {ds : List Dt} {i : Int} (h : 0 ≤ i) : cutD ds (some i) none = ds.drop i.toNat := by
  unfold cutD HT.sIx
  dsimp only
  rw [if_neg (by omega)]
  by_cases hl : i.toNat ≤ ds.length
  · rw [Nat.min_eq_left hl, List.take_of_length_le (by rw [List.length_drop]; omega)]
  · rw [Nat.min_eq_right (by omega), List.drop_length, List.take_nil, List.drop_of_length_le (by omega)]
theorem cutD_to {ds : List Dt} {i : Int} (h : 0 ≤ i) : cutD ds none (some i) = ds.take i.toNat := by
  unfold cutD HT.sIx
  dsimp only
  rw [if_neg (by omega), List.drop_zero, Nat.sub_zero]
  by_cases hl : i.toNat ≤ ds.length
  · rw [Nat.min_eq_left hl]
  · rw [Nat.min_eq_right (by omega), List.take_length, List.take_of_length_le (by omega)]
theorem at0 {α : Type} {a : α} {ds : List α} : atI (a :: ds) 0 = some a := atI_nat (j := 0) rfl
theorem at1 {α : Type} {a b : α} {ds : List α} : atI (a :: b :: ds) 1 = some b := atI_nat (j := 1) rfl
theorem at2 {α : Type} {a b c : α} {ds : List α} : atI (a :: b :: c :: ds) 2 = some c := atI_nat (j := 2) rfl
theorem itTd {A B : Prop} {c : Bool} (e : c = true) (h : A) : if c = true then A else B := by rw [if_pos e]; exact h
theorem itFd {A B : Prop} {c : Bool} (e : c = false) (h : B) : if c = true then A else B := by rw [if_neg (by rw [e]; exact Bool.false_ne_true)]; exact h
theorem c_allP {α : Type} {xs : List α} {q : α → Bool} (hc : X.calm = true) (h : F (.bl (xs.all q)) m) : OC X (.builtin "all") [.lst (xs.map fun a => Dt.bl (q a))] m F := by
  have e : (xs.map fun a => Dt.bl (q a)) = (xs.map q).map Dt.bl := by rw [List.map_map]; rfl
  rw [e]
  refine c_all hc ?_
  rw [show (xs.map q).all id = xs.all q by rw [List.all_map]; rfl]
  exact h
theorem c_anyP {α : Type} {xs : List α} {q : α → Bool} (hc : X.calm = true) (h : F (.bl (xs.any q)) m) : OC X (.builtin "any") [.lst (xs.map fun a => Dt.bl (q a))] m F := by
  have e : (xs.map fun a => Dt.bl (q a)) = (xs.map q).map Dt.bl := by rw [List.map_map]; rfl
  rw [e]
  refine c_any hc ?_
  rw [show (xs.map q).any id = xs.any q by rw [List.any_map]; rfl]
  exact h
/-- [e for x in ..], the store may change: an invariant -/
theorem lc_each {ds : List Dt} {m1 : Mu} {G : Pd} (Iv : Nat → List Dt → Mu → Prop) (gd : Gd k N X) (hz : ds.length ≤ sizeLine) (h0 : Iv 0 [] m1)
    (hs : ∀ i d acc m2, ds[i]? = some d → acc.length ≤ i → Iv i acc m2 → ∀ s H C cl fp, Gd k N (bk X scope s H C cl fp) → LE (bk X scope s H C cl fp) elt (f d) m2 (fun y m4 => Iv (i + 1) (acc ++ [y]) m4) X0) (hd : ∀ acc m2, acc.length ≤ ds.length → Iv ds.length acc m2 → G (.lst acc) m2) :
    LcOk X scope elt [] f (fun _ i acc m2 => Iv i acc m2) G ds m1 := by
  refine ⟨hz, h0, fun i d acc m2 hi ha iv s H C cl fp => lf_nil ?_, fun acc m2 ha iv => hd acc m2 ha iv⟩
  show ∀ s H C cl fp, LE (bk X scope s H C cl fp) elt (f d) m2 _ X0
  intro s H C cl fp
  exact hs i d acc m2 hi ha iv s H C cl fp (gd.blk _ _ _ _ _ _)
/-- [g(x) for x in ..] over data made of things of another sort -/
theorem lc_mapS {α : Type} {m1 : Mu} {G : Pd} (xs : List α) (em g : α → Dt) (gd : Gd k N X) (hz : xs.length ≤ sizeLine) (hs : ∀ a ∈ xs, ∀ s H C cl fp, Gd k N (bk X scope s H C cl fp) → LE (bk X scope s H C cl fp) elt (f (em a)) m1 (fun y m4 => y = g a ∧ m4 = m1) X0) (hd : G (.lst (xs.map g)) m1) :
    LcOk X scope elt [] f (fun _ i acc m2 => acc = (xs.take i).map g ∧ m2 = m1) G (xs.map em) m1 := by
  refine ⟨by rw [List.length_map]; exact hz, ⟨rfl, rfl⟩, fun i d acc m2 hi _ iv s H C cl fp => lf_nil ?_, fun acc m2 _ iv => ?_⟩
  · obtain ⟨rfl, rfl⟩ := iv
    rw [List.getElem?_map] at hi
    cases e : xs[i]? with
    | none => rw [e] at hi; cases hi
    | some a =>
      rw [e] at hi
      cases hi
      show ∀ s H C cl fp, LE (bk X scope s H C cl fp) elt (f (em a)) m2 _ X0
      intro s H C cl fp
      refine (hs a (List.mem_of_getElem? e) s H C cl fp (gd.blk _ _ _ _ _ _)).imp fun y m4 h => ?_
      obtain ⟨rfl, rfl⟩ := h
      exact ⟨by rw [List.take_add_one, e, List.map_append]; rfl, rfl⟩
  · obtain ⟨rfl, rfl⟩ := iv
    rw [List.length_map, List.take_length]
    exact hd
/-- [g(x) for x in .. if q(x)] -/
theorem lc_filterS {α : Type} {m1 : Mu} {G : Pd} {c : Expr} (xs : List α) (em g : α → Dt) (q : α → Bool) (gd : Gd k N X) (hz : xs.length ≤ sizeLine)
    (ht : ∀ a ∈ xs, ∀ s H C cl fp, Gd k N (bk X scope s H C cl fp) → LT (bk X scope s H C cl fp) c (f (em a)) m1 (fun b m4 => b = q a ∧ m4 = m1) X0)
    (hs : ∀ a ∈ xs, q a = true → ∀ s H C cl fp, Gd k N (bk X scope s H C cl fp) → LE (bk X scope s H C cl fp) elt (f (em a)) m1 (fun y m4 => y = g a ∧ m4 = m1) X0) (hd : G (.lst ((xs.filter q).map g)) m1) :
    LcOk X scope elt [c] f (fun _ i acc m2 => acc = ((xs.take i).filter q).map g ∧ m2 = m1) G (xs.map em) m1 := by
  refine ⟨by rw [List.length_map]; exact hz, ⟨rfl, rfl⟩, fun i d acc m2 hi _ iv s H C cl fp => lf_one ?_, fun acc m2 _ iv => ?_⟩
  · obtain ⟨rfl, rfl⟩ := iv
    rw [List.getElem?_map] at hi
    cases e1 : xs[i]? with
    | none => rw [e1] at hi; cases hi
    | some a =>
      rw [e1] at hi
      cases hi
      have hm := List.mem_of_getElem? e1
      refine ⟨fun Z g' H' Q W rp tk nk nx => (ht a hm s H C cl fp (gd.blk _ _ _ _ _ _)).run Z g' H' Q W rp tk (fun b H1 m3 h go so => nk b H1 m3 ?_ go so) nx⟩
      obtain ⟨rfl, rfl⟩ := h
      have e : xs.take (i + 1) = xs.take i ++ [a] := by rw [List.take_add_one, e1]; rfl
      cases hq : q a with
      | true =>
        show ∀ s H C cl fp, LE (bk X scope s H C cl fp) elt (f (em a)) m3 _ X0
        intro s H C cl fp
        refine (hs a hm hq s H C cl fp (gd.blk _ _ _ _ _ _)).imp fun y m4 h => ?_
        obtain ⟨rfl, rfl⟩ := h
        refine ⟨?_, rfl⟩
        rw [e, List.filter_append, List.filter_cons, if_pos hq, List.map_append]
        rfl
      | false =>
        refine ⟨?_, rfl⟩
        rw [e, List.filter_append, List.filter_cons, if_neg (by rw [hq]; exact Bool.false_ne_true)]
        simp
  · obtain ⟨rfl, rfl⟩ := iv
    rw [List.length_map, List.take_length]
    exact hd
end
section
variable {P : Program} {w : World} {K : PySem.W.Frag} {mg : Str → Option Value} {base : Heap} {qual : Str} {st : Stmt} {fa : Addr} {cdv : Value} {A : Around} {outer : List Env} {s : Shared} {H : Hp} {Ex : XK}
variable {r : En} {m : Mu} {F : Pd} {E : Xd} {Pp : Pc} {p pos p2 py spos : Pos} {k : Nat} {N : List Str} {x y : Str} {scope sc : Scope} {elt iter : Expr} {ifs : List Expr} {f h2 : Dt → En}
theorem le_lcD (gd : Gd k N (cxOf (L2.CX P w) P w K mg base N qual (defScope st) fa cdv A outer s H Ex)) (hp : Put N r x f) (Iv : List Dt → Nat → List Dt → Mu → Prop) (h : LI (cxOf (L2.CX P w) P w K mg base N qual (defScope st) fa cdv A outer s H Ex) (.Name x p2) iter r m (LcOk (cxOf (L2.CX P w) P w K mg base N qual (defScope st) fa cdv A outer s H Ex) scope elt ifs f Iv F) E)
    (hb : blkC N (defScope st) scope [(x, N.idxOf x)] = true := by decide +kernel)
    (hx : ∀ s1 H1 C cl fp, Loc (bk (cxOf (L2.CX P w) P w K mg base N qual (defScope st) fa cdv A outer s H Ex) scope s1 H1 C cl fp).env.scope x := by intro _ _ _ _ _; first | exact Or.inl rfl | exact Or.inr rfl)
    (hf : ∀ s1 H1 C cl fp, (bk (cxOf (L2.CX P w) P w K mg base N qual (defScope st) fa cdv A outer s H Ex) scope s1 H1 C cl fp).fn x = true ∨ (bk (cxOf (L2.CX P w) P w K mg base N qual (defScope st) fa cdv A outer s H Ex) scope s1 H1 C cl fp).env.scope.names.lookup x = some .local := by intro _ _ _ _ _; first | exact .inr rfl | exact .inl rfl)
    (hs : ∀ x, foldedSetIterable iter (cxOf (L2.CX P w) P w K mg base N qual (defScope st) fa cdv A outer s H Ex).env x = pure x := by intro _; rfl) : LE (cxOf (L2.CX P w) P w K mg base N qual (defScope st) fa cdv A outer s H Ex) (.ListComp elt [⟨.Name x p2, iter, ifs, 0⟩] scope pos) r m F E := le_lcS (defScope st) gd hp Iv h rfl hb hx hf hs
theorem ls_setlcD (gd : Gd k N (cxOf (L2.CX P w) P w K mg base N qual (defScope st) fa cdv A outer s H Ex)) (hp : Put N r x f) (hq : Put N r y h2) (Iv : List Dt → Nat → List Dt → Mu → Prop) (h : LI (cxOf (L2.CX P w) P w K mg base N qual (defScope st) fa cdv A outer s H Ex) (.Name x p2) iter r m (LcOk (cxOf (L2.CX P w) P w K mg base N qual (defScope st) fa cdv A outer s H Ex) scope elt ifs f Iv (fun d m1 => Pp.nx (h2 d) m1)) Pp.ex)
    (hyl : (cxOf (L2.CX P w) P w K mg base N qual (defScope st) fa cdv A outer s H Ex).env.scope.names.lookup y = some .local := by rfl) (hk : (cxOf (L2.CX P w) P w K mg base N qual (defScope st) fa cdv A outer s H Ex).env.scope.kind = .function := by rfl) (hl : (py.line == pos.line) = true := by rfl) (hav : (scope.names.any fun (n, k) => n == y && (k == .local || k == .cell)) = false := by decide +kernel)
    (hb : blkC N (defScope st) scope [(x, N.idxOf x)] = true := by decide +kernel)
    (hx : ∀ s1 H1 C cl fp, Loc (bk (cxOf (L2.CX P w) P w K mg base N qual (defScope st) fa cdv A outer s H Ex) scope s1 H1 C cl fp).env.scope x := by intro _ _ _ _ _; first | exact Or.inl rfl | exact Or.inr rfl)
    (hf : ∀ s1 H1 C cl fp, (bk (cxOf (L2.CX P w) P w K mg base N qual (defScope st) fa cdv A outer s H Ex) scope s1 H1 C cl fp).fn x = true ∨ (bk (cxOf (L2.CX P w) P w K mg base N qual (defScope st) fa cdv A outer s H Ex) scope s1 H1 C cl fp).env.scope.names.lookup x = some .local := by intro _ _ _ _ _; first | exact .inr rfl | exact .inl rfl)
    (hs : ∀ x, foldedSetIterable iter (cxOf (L2.CX P w) P w K mg base N qual (defScope st) fa cdv A outer s H Ex).env x = pure x := by intro _; rfl) : LS (cxOf (L2.CX P w) P w K mg base N qual (defScope st) fa cdv A outer s H Ex) (.Assign [.Name y py] (.ListComp elt [⟨.Name x p2, iter, ifs, 0⟩] scope pos) spos) r m Pp := ls_setlcS (defScope st) gd hp hq Iv h hyl hk hl hav rfl hb hx hf hs
end
end Dw
namespace Dw
open PySem PySem.Spec PyProof.Rows L2
/-! ### sizes of data, for repr -/
mutual
def wt : Dt → Nat
  | .int _ => 300
  | .str x => 10 * x.length + 2
  | .lst ds => 3 + wts ds
  | .tup ds => 3 + wts ds
  | .frz ds => 3 + wts ds
  | _ => 5
def wts : List Dt → Nat
  | [] => 0
  | d :: ds => wt d + 2 + wts ds
end
mutual
def lv : Dt → Nat
  | .lst ds => 1 + lvs ds
  | .tup ds => 1 + lvs ds
  | .frz ds => 1 + lvs ds
  | .dct _ => 1
  | _ => 0
def lvs : List Dt → Nat
  | [] => 0
  | d :: ds => max (lv d) (lvs ds)
end
mutual
def okd : Dt → Bool
  | .non => true
  | .bl _ => true
  | .int i => decide (i.natAbs < 10 ^ 200)
  | .str x => x.cps.toList.all fun c => decide (c < 0x110000)
  | .lst ds => okds ds
  | .tup ds => okds ds
  | .frz ds => okds ds
  | .dct [] => true
  | _ => false
def okds : List Dt → Bool
  | [] => true
  | d :: ds => okd d && okds ds
end
def zL (z : Int) : List Nat := if z < 0 then 45 :: TL.numL z.natAbs else TL.numL z.natAbs
theorem str_zL (z : Int) : Str.ofString (toString z) = SX.S (zL z) := by
  unfold zL
  by_cases h : z < 0
  · rw [if_pos h]
    obtain ⟨n, rfl⟩ : ∃ n, z = Int.negSucc n := by
      cases z with
      | ofNat n => exact absurd h (by simp)
      | negSucc n => exact ⟨n, rfl⟩
    have e : toString (Int.negSucc n) = "-" ++ toString ((n + 1 : Nat) : Int) := rfl
    rw [e, show (45 :: TL.numL (Int.negSucc n).natAbs) = [45] ++ TL.numL (n + 1) from rfl, ← SX.S_cat, ← SX.num_S, Str.ofString_eq_toList, Str.ofString_eq_toList, String.toList_append, List.map_append, show (SX.S [45]) = SX.S ("-".toList.map Char.toNat) from rfl]
    exact (SX.S_cat _ _).symm
  · rw [if_neg h]
    obtain ⟨n, rfl⟩ := Int.eq_ofNat_of_zero_le (Int.not_lt.mp h)
    exact SX.num_S n
theorem zL_len {z : Int} {k : Nat} (hk : 0 < k) (h : z.natAbs < 10 ^ k) : (zL z).length ≤ k + 1 := by
  have := TL.numL_len hk h
  unfold zL
  split
  · rw [List.length_cons]; omega
  · omega
theorem log_ok {z : Int} (h : z.natAbs < 10 ^ 200) : z.natAbs.log2 < 1920 := by
  by_cases h0 : z.natAbs = 0
  · rw [h0]; decide
  · rw [Nat.log2_lt h0]
    exact Nat.lt_trans h (by decide +kernel)
theorem wts_len : ∀ ds : List Dt, 2 * ds.length ≤ wts ds
  | [] => Nat.zero_le _
  | d :: ds => by have := wts_len ds; simp only [wts, List.length_cons]; omega
theorem okds_all : ∀ ds : List Dt, okds ds = ds.all okd
  | [] => rfl
  | d :: ds => by rw [okds, List.all_cons, okds_all ds]
mutual
theorem okd_t : ∀ d : Dt, okd d = true → tell d = true
  | .non, _ => rfl
  | .bl _, _ => rfl
  | .int _, _ => rfl
  | .str _, _ => rfl
  | .lst ds, h => by have := okds_t ds (by simpa [okd] using h); simpa [tell] using this
  | .tup ds, h => by have := okds_t ds (by simpa [okd] using h); simpa [tell] using this
  | .frz ds, h => by have := okds_t ds (by simpa [okd] using h); simpa [tell] using this
  | .dct [], _ => rfl
  | .dct (_ :: _), h => by simp [okd] at h
  | .exc _ _ _, h => by simp [okd] at h
  | .cau _ _ _, h => by simp [okd] at h
  | .raw _, h => by simp [okd] at h
theorem okds_t : ∀ ds : List Dt, okds ds = true → tells ds = true
  | [], _ => rfl
  | d :: ds, h => by
    have h' : okd d = true ∧ okds ds = true := by simpa [okds] using h
    simp [tells, okd_t d h'.1, okds_t ds h'.2]
end
mutual
theorem okd_s : ∀ d : Dt, okd d = true → (py d).showable = true
  | .non, _ => by simp [py, PyData.showable]
  | .bl _, _ => by simp [py, PyData.showable]
  | .int i, h => by
    have h' : i.natAbs < 10 ^ 200 := of_decide_eq_true h
    simpa [py, PyData.showable] using log_ok h'
  | .str _, _ => by simp [py, PyData.showable]
  | .lst ds, h => by have := okds_s ds (by simpa [okd] using h); simpa [py, PyData.showable] using this
  | .tup ds, h => by have := okds_s ds (by simpa [okd] using h); simpa [py, PyData.showable] using this
  | .frz ds, h => by have := okds_s ds (by simpa [okd] using h); simpa [py, PyData.showable] using this
  | .dct [], _ => by simp [py, pyk, PyData.showable, PyData.showableKv]
  | .dct (_ :: _), h => by simp [okd] at h
  | .exc _ _ _, h => by simp [okd] at h
  | .cau _ _ _, h => by simp [okd] at h
  | .raw _, h => by simp [okd] at h
theorem okds_s : ∀ ds : List Dt, okds ds = true → PyData.showableAll (pys ds) = true
  | [], _ => by simp [pys, PyData.showableAll]
  | d :: ds, h => by
    have h' : okd d = true ∧ okds ds = true := by simpa [okds] using h
    simp [pys, PyData.showableAll, okd_s d h'.1, okds_s ds h'.2]
end
mutual
theorem okd_d : ∀ d : Dt, okd d = true → (py d).depth ≤ lv d
  | .non, _ => by simp [py, PyData.depth]
  | .bl _, _ => by simp [py, PyData.depth]
  | .int i, h => by simp [py, PyData.depth]
  | .str _, _ => by simp [py, PyData.depth]
  | .lst ds, h => by have := okds_d ds (by simpa [okd] using h); simp [py, PyData.depth, lv]; omega
  | .tup ds, h => by have := okds_d ds (by simpa [okd] using h); simp [py, PyData.depth, lv]; omega
  | .frz ds, h => by have := okds_d ds (by simpa [okd] using h); simp [py, PyData.depth, lv]; omega
  | .dct [], _ => by simp [py, pyk, PyData.depth, PyData.depthKv, lv]
  | .dct (_ :: _), h => by simp [okd] at h
  | .exc _ _ _, h => by simp [okd] at h
  | .cau _ _ _, h => by simp [okd] at h
  | .raw _, h => by simp [okd] at h
theorem okds_d : ∀ ds : List Dt, okds ds = true → PyData.depthAll (pys ds) ≤ lvs ds
  | [], _ => by simp [pys, PyData.depthAll]
  | d :: ds, h => by
    have h' : okd d = true ∧ okds ds = true := by simpa [okds] using h
    have := okd_d d h'.1
    have := okds_d ds h'.2
    simp only [pys, PyData.depthAll, lvs]
    omega
end
mutual
theorem okd_w : ∀ d : Dt, okd d = true → (py d).shown.length ≤ wt d
  | .non, _ => by simp only [py, PyData.shown, wt]; decide
  | .bl b, _ => by cases b <;> (simp only [py, PyData.shown, wt]; decide)
  | .int i, h => by
    have h' : i.natAbs < 10 ^ 200 := of_decide_eq_true h
    simp only [py, PyData.shown, wt]
    rw [str_zL, SX.S_len]
    have := zL_len (by decide : 0 < 200) h'
    omega
  | .str x, h => by
    simp only [py, PyData.shown, wt]
    refine StrLaws.reprText_len x fun c hc => ?_
    have := List.all_eq_true.mp (show x.cps.toList.all _ = true from h) c hc
    exact Nat.lt_of_lt_of_le (of_decide_eq_true this) (by decide)
  | .lst ds, h => by
    have := okds_w ds (by simpa [okd] using h)
    have e := listText_len_le (PyData.shownAll (pys ds))
    simp only [py, PyData.shown, wt]
    omega
  | .tup ds, h => by
    have := okds_w ds (by simpa [okd] using h)
    have e := tupleText_len_le (PyData.shownAll (pys ds))
    simp only [py, PyData.shown, wt]
    omega
  | .frz ds, h => by
    have := okds_w ds (by simpa [okd] using h)
    have e := listText_len_le (PyData.shownAll (pys ds))
    simp only [py, PyData.shown, wt]
    omega
  | .dct [], _ => by decide +kernel
  | .dct (_ :: _), h => by simp [okd] at h
  | .exc _ _ _, h => by simp [okd] at h
  | .cau _ _ _, h => by simp [okd] at h
  | .raw _, h => by simp [okd] at h
theorem okds_w : ∀ ds : List Dt, okds ds = true → ((PyData.shownAll (pys ds)).map (·.length)).sum + 2 * (PyData.shownAll (pys ds)).length ≤ wts ds
  | [], _ => by simp [pys, PyData.shownAll, wts]
  | d :: ds, h => by
    have h' : okd d = true ∧ okds ds = true := by simpa [okds] using h
    have := okd_w d h'.1
    have := okds_w ds h'.2
    simp only [pys, PyData.shownAll, wts, List.map_cons, List.sum_cons, List.length_cons]
    omega
end
/-- small data -/
structure Sm (n k : Nat) (d : Dt) : Prop where
  ok : okd d = true
  w : wt d ≤ n
  l : lv d ≤ k
structure SmL (n k : Nat) (ds : List Dt) : Prop where
  ok : okds ds = true
  w : wts ds ≤ n
  l : lvs ds ≤ k
theorem Sm.mono {n k n' k' : Nat} {d : Dt} (h : Sm n k d) (a : n ≤ n') (b : k ≤ k') : Sm n' k' d := ⟨h.ok, Nat.le_trans h.w a, Nat.le_trans h.l b⟩
theorem SmL.mono {n k n' k' : Nat} {d : List Dt} (h : SmL n k d) (a : n ≤ n') (b : k ≤ k') : SmL n' k' d := ⟨h.ok, Nat.le_trans h.w a, Nat.le_trans h.l b⟩
theorem Sm.sht {n k : Nat} {d : Dt} (h : Sm n k d) (a : n ≤ 16777216) (b : k ≤ 60) : Sht d := by
  refine ⟨okd_t d h.ok, okd_s d h.ok, ?_, ?_⟩
  · have := okd_d d h.ok; have := h.l; omega
  · have e := okd_w d h.ok; have := h.w; show (py d).shown.length ≤ sizeLine; rw [sizeLine_eq]; omega
theorem SmL.nil {n k : Nat} : SmL n k [] := ⟨rfl, Nat.zero_le _, Nat.zero_le _⟩
theorem SmL.cons {n n' k : Nat} {d : Dt} {ds : List Dt} (h : Sm n k d) (t : SmL n' k ds) : SmL (n + 2 + n') k (d :: ds) := by
  have a := h.w; have b := t.w; have c := h.l; have e := t.l
  exact ⟨by simp [okds, h.ok, t.ok], by simp only [wts]; omega, by simp only [lvs]; omega⟩
theorem SmL.head {n k : Nat} {d : Dt} {ds : List Dt} (h : SmL n k (d :: ds)) : Sm n k d := by
  have h1 : okd d = true ∧ okds ds = true := by simpa [okds] using h.ok
  have h2 := h.w; have h3 := h.l
  simp only [wts, lvs] at h2 h3
  exact ⟨h1.1, by omega, by omega⟩
theorem SmL.tail {n k : Nat} {d : Dt} {ds : List Dt} (h : SmL n k (d :: ds)) : SmL n k ds := by
  have h1 : okd d = true ∧ okds ds = true := by simpa [okds] using h.ok
  have h2 := h.w; have h3 := h.l
  simp only [wts, lvs] at h2 h3
  exact ⟨h1.2, by omega, by omega⟩
theorem SmL.mem {n k : Nat} {d : Dt} : ∀ {ds : List Dt}, SmL n k ds → d ∈ ds → Sm n k d
  | [], _, h => nomatch h
  | e :: ds, h, hm => by
    rcases List.mem_cons.mp hm with rfl | hm
    · exact h.head
    · exact SmL.mem h.tail hm
theorem wts_append : ∀ xs ys : List Dt, wts (xs ++ ys) = wts xs + wts ys
  | [], ys => by simp [wts]
  | x :: xs, ys => by simp only [List.cons_append, wts, wts_append xs ys]; omega
theorem lvs_append : ∀ xs ys : List Dt, lvs (xs ++ ys) = max (lvs xs) (lvs ys)
  | [], ys => by simp [lvs]
  | x :: xs, ys => by simp only [List.cons_append, lvs, lvs_append xs ys]; omega
theorem okds_append (xs ys : List Dt) : okds (xs ++ ys) = (okds xs && okds ys) := by rw [okds_all, okds_all, okds_all, List.all_append]
theorem SmL.append {n n' k : Nat} {xs ys : List Dt} (h : SmL n k xs) (t : SmL n' k ys) : SmL (n + n') k (xs ++ ys) := by
  have a := h.w; have b := t.w; have c := h.l; have e := t.l
  exact ⟨by rw [okds_append, h.ok, t.ok]; rfl, by rw [wts_append]; omega, by rw [lvs_append]; omega⟩
theorem SmL.left {n k : Nat} {xs ys : List Dt} (h : SmL n k (xs ++ ys)) : SmL n k xs := by
  have a := h.ok; have b := h.w; have c := h.l
  rw [okds_append] at a; rw [wts_append] at b; rw [lvs_append] at c
  exact ⟨(by simpa using a : okds xs = true ∧ _).1, by omega, by omega⟩
theorem SmL.right {n k : Nat} {xs ys : List Dt} (h : SmL n k (xs ++ ys)) : SmL n k ys := by
  have a := h.ok; have b := h.w; have c := h.l
  rw [okds_append] at a; rw [wts_append] at b; rw [lvs_append] at c
  exact ⟨(by simpa using a : _ ∧ okds ys = true).2, by omega, by omega⟩
theorem SmL.take {n k : Nat} {xs : List Dt} (i : Nat) (h : SmL n k xs) : SmL n k (xs.take i) := by
  rw [← List.take_append_drop i xs] at h; exact h.left
theorem SmL.drop {n k : Nat} {xs : List Dt} (i : Nat) (h : SmL n k xs) : SmL n k (xs.drop i) := by
  rw [← List.take_append_drop i xs] at h; exact h.right
theorem split_sm {ds : List Dt} {i n k : Nat} (hi : i < ds.length) (h : SmL n k ds) : ∃ x na nx nc, ds[i]? = some x ∧ SmL na k (ds.take i) ∧ Sm nx k x ∧ SmL nc k (ds.drop (i + 1)) ∧ na + (nx + 2) + nc ≤ n := by
  have e : ds = ds.take i ++ ds[i] :: ds.drop (i + 1) := by rw [← List.drop_eq_getElem_cons hi, List.take_append_drop]
  have ho := h.ok; have hw := h.w; have hl := h.l
  rw [e] at ho hw hl
  rw [okds_append] at ho; rw [wts_append] at hw; rw [lvs_append] at hl
  simp only [okds, wts, lvs] at ho hw hl
  have ho' : okds (ds.take i) = true ∧ okd ds[i] = true ∧ okds (ds.drop (i + 1)) = true := by simpa using ho
  exact ⟨ds[i], wts (ds.take i), wt ds[i], wts (ds.drop (i + 1)), List.getElem?_eq_getElem hi, ⟨ho'.1, Nat.le_refl _, by omega⟩, ⟨ho'.2.1, Nat.le_refl _, by omega⟩, ⟨ho'.2.2, Nat.le_refl _, by omega⟩, by omega⟩
theorem SmL.reverse {n k : Nat} {xs : List Dt} (h : SmL n k xs) : SmL n k xs.reverse := by
  have w : ∀ xs : List Dt, wts xs.reverse = wts xs ∧ lvs xs.reverse = lvs xs := fun xs => by
    induction xs with
    | nil => exact ⟨rfl, rfl⟩
    | cons x xs ih => rw [List.reverse_cons, wts_append, lvs_append, ih.1, ih.2]; simp only [wts, lvs]; omega
  exact ⟨by rw [okds_all, List.all_reverse, ← okds_all]; exact h.ok, by rw [(w xs).1]; exact h.w, by rw [(w xs).2]; exact h.l⟩
theorem SmL.tup {n k : Nat} {ds : List Dt} (h : SmL n k ds) : Sm (3 + n) (1 + k) (.tup ds) := by
  have a := h.w; have b := h.l
  exact ⟨by simpa [okd] using h.ok, by simp only [wt]; omega, by simp only [lv]; omega⟩
theorem SmL.lst {n k : Nat} {ds : List Dt} (h : SmL n k ds) : Sm (3 + n) (1 + k) (.lst ds) := by
  have a := h.w; have b := h.l
  exact ⟨by simpa [okd] using h.ok, by simp only [wt]; omega, by simp only [lv]; omega⟩
theorem Sm.of_tup {n k : Nat} {ds : List Dt} (h : Sm n k (.tup ds)) : SmL n k ds ∧ 3 + wts ds ≤ n ∧ 1 + lvs ds ≤ k := by
  have a := h.w; have b := h.l
  simp only [wt, lv] at a b
  exact ⟨⟨by simpa [okd] using h.ok, by omega, by omega⟩, a, b⟩
theorem Sm.str {l : List Nat} {n k : Nat} (h : ∀ c ∈ l, c < 0x110000) (hl : 10 * l.length + 2 ≤ n) : Sm n k (.str (SX.S l)) := by
  refine ⟨List.all_eq_true.mpr fun c hc => decide_eq_true (h c hc), ?_, Nat.zero_le _⟩
  simp only [wt]
  rw [SX.S_len]
  exact hl
theorem Sm.of_str {l : List Nat} {n k : Nat} (h : Sm n k (.str (SX.S l))) : (∀ c ∈ l, c < 0x110000) ∧ 10 * l.length + 2 ≤ n := by
  refine ⟨fun c hc => of_decide_eq_true (List.all_eq_true.mp (show (SX.S l).cps.toList.all _ = true from h.ok) c hc), ?_⟩
  have := h.w
  simp only [wt] at this
  rw [SX.S_len] at this
  exact this
theorem Sm.int {i : Int} {n k : Nat} (h : i.natAbs < 10 ^ 200) (hn : 300 ≤ n) : Sm n k (.int i) := ⟨decide_eq_true h, hn, Nat.zero_le _⟩
theorem Sm.non {n k : Nat} (hn : 5 ≤ n) : Sm n k .non := ⟨rfl, hn, Nat.zero_le _⟩
theorem Sm.bl {b : Bool} {n k : Nat} (hn : 5 ≤ n) : Sm n k (.bl b) := ⟨rfl, hn, Nat.zero_le _⟩
/-- what repr can tell: small data, an exception of a leaf -/
inductive Rq (K : PySem.W.Frag) : Dt → Prop
  | sm {d : Dt} {n k : Nat} (h : Sm n k d) (a : n ≤ 16777216) (b : k ≤ 60) : Rq K d
  | ex {C : Addr} {cn : Str} {d : Dt} (T : XF K C cn) (hl : leaf d = true) (h : Shw d) (hz : (shows d).length ≤ 10000) : Rq K (.exc C cn [d])
section
variable {X : Cx} {m : Mu} {F : Pd} {k : Nat} {N : List Str} {d : Dt}
theorem c_rq (hg : X.A.guards = some []) (hu : X.A.units + 64 < cLine) (h : Rq X.K d) (q : F (.str (rep d)) m) : OC X (.builtin "repr") [d] m F := by
  cases h with
  | sm h a b =>
    refine c_reprT hg hu (h.sht a b) ?_
    have e : rep d = shows d := by cases d <;> first | rfl | (have := h.ok; simp [okd] at this)
    rw [← e]; exact q
  | ex T hl h hz => exact c_repr_exc hu T hl h hz q
end
end Dw
namespace Dw
open PySem PySem.Spec PyProof.Rows L2
theorem joinL_nil : ∀ ys : List (List Nat), TL.joinL [] ys = ys.flatten
  | [] => rfl
  | [y] => by simp [TL.joinL]
  | y :: z :: ys => by
    have := joinL_nil (z :: ys)
    simp only [TL.joinL, List.flatten_cons, List.append_nil, List.nil_append] at this ⊢
    rw [this]
theorem flat_one (cs : List Nat) : (cs.map fun c => [c]).flatten = cs := by
  induction cs with
  | nil => rfl
  | cons c cs ih => rw [List.map_cons, List.flatten_cons, ih]; rfl
theorem at_any {α : Type} {ds : List α} {i : Int} (h0 : 0 ≤ i) (h1 : i < ds.length) : ∃ d, atI ds i = some d ∧ d ∈ ds := by
  obtain ⟨j, rfl⟩ := Int.eq_ofNat_of_zero_le h0
  have hj : j < ds.length := by omega
  exact ⟨ds[j], atI_nat (List.getElem?_eq_getElem hj), List.getElem_mem hj⟩
theorem rng_get' {lo : Int} {n i : Nat} {d : Dt} (h : (rng lo n)[i]? = some d) : i < n ∧ d = .int (lo + i) := by
  unfold rng at h
  rw [List.getElem?_map] at h
  have hl : i < n := by
    cases e : (List.range n)[i]? with
    | none => rw [e] at h; cases h
    | some v => have := (List.getElem?_eq_some_iff.mp e).1; simpa using this
  rw [List.getElem?_range hl] at h
  cases h
  exact ⟨hl, rfl⟩
theorem mulL (l : List Nat) (n : Int) : Txt.mul (SX.S l) n = SX.S (List.replicate n.toNat l).flatten := by
  unfold Txt.mul
  by_cases h1 : n < 1
  · rw [if_pos h1, show n.toNat = 0 by omega]; rfl
  rw [if_neg h1]
  by_cases h2 : (n == 1 || (SX.S l).length == 0) = true
  · rw [if_pos h2]
    rcases Bool.or_eq_true_iff.mp h2 with h2 | h2
    · rw [show n = 1 by simpa using h2]
      simp
    · have : l = [] := by
        have e : (SX.S l).length = 0 := by simpa using h2
        rw [SX.S_len] at e
        exact List.eq_nil_of_length_eq_zero e
      subst this
      have : ∀ k : Nat, (List.replicate k ([] : List Nat)).flatten = [] := fun k => by induction k with
        | zero => rfl
        | succ k ih => rw [List.replicate_succ, List.flatten_cons, ih]; rfl
      rw [this]
  · rw [if_neg h2]
    have : ∀ (k : Nat) (a : List Nat), ((List.replicate k (SX.S l).cps).foldl (· ++ ·) a.toArray) = (a ++ (List.replicate k l).flatten).toArray := by
      intro k
      induction k with
      | zero => intro a; simp
      | succ k ih =>
        intro a
        rw [List.replicate_succ, List.foldl_cons, show a.toArray ++ (SX.S l).cps = (a ++ l).toArray by simp [SX.S], ih]
        simp [List.replicate_succ]
    have := this n.toNat []
    simp only [List.nil_append] at this
    rw [show (#[] : Array Nat) = ([] : List Nat).toArray from rfl, this]
theorem mulOkL {l : List Nat} {n : Int} (hl : l.length ≤ 10000) (h0 : -1000 ≤ n) (h2 : n ≤ 1000) : MulOk (SX.S l) n := by
  unfold MulOk
  rw [SX.S_len]
  refine ⟨by simp; omega, fun h1 _ => ?_, fun h1 _ => ?_⟩
  · have : (l.length : Int) ≤ (2 ^ 63 - 1) / n := Int.le_ediv_of_mul_le (by omega) (by
      have : (l.length : Int) * n ≤ 10000 * 1000 := Int.mul_le_mul (by omega) h2 (by omega) (by omega)
      omega)
    omega
  · unfold Builtin.Str.tooLong
    have : sizeLine = 16777216 := sizeLine_eq
    have h3 : l.length * n.toNat ≤ 10000 * 1000 := Nat.mul_le_mul hl (by omega)
    simp
    omega
theorem mem_rep {l : List Nat} {k : Nat} {c : Nat} (h : c ∈ (List.replicate k l).flatten) : c ∈ l := by
  obtain ⟨x, hx, hc⟩ := List.mem_flatten.mp h
  rw [(List.mem_replicate.mp hx).2] at hc
  exact hc
section
variable {X : Cx} {m : Mu} {G : Dt → Prop} {F : Pd} {E : Xd} {r : En} {e : Expr}
/-- an item at a place that is only bounded: some item -/
theorem oi_lstM {ds : List Dt} {i : Int} (h0 : 0 ≤ i) (h1 : i < ds.length) (q : ∀ d ∈ ds, G d) : OI X (.lst ds) (.int i) m G := by
  obtain ⟨d, h, hd⟩ := at_any h0 h1
  exact oi_lst h (q d hd)
theorem oi_tupM {ds : List Dt} {i : Int} (h0 : 0 ≤ i) (h1 : i < ds.length) (q : ∀ d ∈ ds, G d) : OI X (.tup ds) (.int i) m G := by
  obtain ⟨d, h, hd⟩ := at_any h0 h1
  exact oi_tup h (q d hd)
theorem oi_strM {l : List Nat} {i : Int} (hz : l.length ≤ sizeLine) (h0 : 0 ≤ i) (h1 : i < l.length) (q : ∀ c ∈ l, G (.str (SX.S [c]))) : OI X (.str (SX.S l)) (.int i) m G := by
  obtain ⟨d, h, hd⟩ := at_any h0 h1
  exact oi_str (by rw [SX.S_len]; exact hz) h (q d hd)
theorem o_mulS {l : List Nat} {n : Int} (hl : l.length ≤ 10000) (h0 : -1000 ≤ n) (h2 : n ≤ 1000) (q : G (.str (SX.S (List.replicate n.toNat l).flatten))) : O2 X (binaryOp .Mult) (.str (SX.S l)) (.int n) m G := o_muls (mulOkL hl h0 h2) (by rw [mulL]; exact q)
/-- two written lists of small data -/
theorem o_catSm {A B : List Dt} (n k c : Nat) (hok : ((A ++ B).all fun d => okd d && Nat.ble (wt d) n && Nat.ble (lv d) k) = true) (hl : (A ++ B).length = c) (hc : c ≤ sizeLine) (q : ∀ O : List Dt, O.length = c → (∀ d ∈ O, Sm n k d) → G (.lst O)) : O2 X (binaryOp .Add) (.lst A) (.lst B) m G := by
  refine o_cat (by rw [← List.length_append, hl]; exact hc) (q _ hl fun d hd => ?_)
  have h := List.all_eq_true.mp hok d hd
  have h' : (okd d = true ∧ Nat.ble (wt d) n = true) ∧ Nat.ble (lv d) k = true := by simpa using h
  exact ⟨h'.1.1, Nat.le_of_ble_eq_true h'.1.2, Nat.le_of_ble_eq_true h'.2⟩
/-- ''.join of texts -/
theorem le_join0 {j : Nat} {p1 apos pos : Pos} (h : LE X e r m (fun d m2 => ∃ ys : List (List Nat), d = .lst (ys.map fun l => Dt.str (SX.S l)) ∧ ys.flatten.length ≤ 16777216 ∧ F (.str (SX.S ys.flatten)) m2) E)
    (hfew : ((backTo pos (starEach [e] X.env)).all (fun x => !x.1) && (backToKw pos (keywordEach [] X.env)).all (fun x => x.1.isSome)
      && decide ([e].length + ([] : List Keyword).length + (if ([] : List Keyword).isEmpty then 0 else 1) < 30)) = true := by rfl)
    (hline : (apos.endLine == pos.line) = true := by rfl)
    (hs : starEach [e] X.env = (false, eval e X.env) :: starEach [] X.env := by rfl) : LE X (.Call (.Attribute (.Constant (.str "") j p1) "join" apos) [e] [] pos) r m F E := by
  refine le_join (le_str ⟨⟨_, rfl⟩, la_cons (h.imp fun d m2 q => ?_) hs⟩) rfl hfew hline hs
  obtain ⟨ys, rfl, hz, q⟩ := q
  refine la_nil ⟨SX.S [], ys.map SX.S, rfl, .inl (by rw [List.map_map]; rfl), ?_, ?_⟩
  · rw [show (SX.S []).length = 0 from rfl, Nat.mul_zero, Nat.add_zero, List.map_map]
    have : (ys.map ((fun x => Str.length x) ∘ SX.S)).sum = ys.flatten.length := by
      rw [List.length_flatten]
      exact congrArg List.sum (List.map_congr_left fun l _ => SX.S_len l)
    rw [this]
    exact hz
  · rw [SX.join_S, joinL_nil]
    exact q
end
end Dw
namespace Dw
open PySem PySem.Spec PyProof.Rows L2
/-! ### instances: fields, methods, making -/
theorem lenF {α : Type} {l : List α} (h : Nat.blt l.length 1000 = true) : l.length < 1000 := by simpa using h
def putD (f : Str) (d : Dt) : List (Str × Dt) → List (Str × Dt)
  | [] => [(f, d)]
  | (g, x) :: r => if g = f then (g, d) :: r else (g, x) :: putD f d r
theorem Fds.put {K : PySem.W.Frag} {D : List Addr} {H : Hp} {f : Str} {d : Dt} {v : V} (h : Da K D H d v) : ∀ {fs : List (Str × Dt)} {vs : List (Str × V)}, Fds K D H fs vs → Fds K D H (putD f d fs) (putF f v vs)
  | _, _, .nil => .cons h .nil
  | (g, x) :: fs, (_, y) :: vs, .cons h1 h2 => by
    unfold putD putF
    by_cases e : g = f
    · rw [if_pos e, if_pos e]; exact .cons h h2
    · rw [if_neg e, if_neg e]; exact .cons h1 (Fds.put h h2)
theorem Fds.length {K : PySem.W.Frag} {D : List Addr} {H : Hp} : ∀ {fs : List (Str × Dt)} {vs : List (Str × V)}, Fds K D H fs vs → fs.length = vs.length
  | _, _, .nil => rfl
  | _, _, .cons _ h => by rw [List.length_cons, List.length_cons, Fds.length h]
theorem Fds.none {K : PySem.W.Frag} {D : List Addr} {H : Hp} {f : Str} : ∀ {fs : List (Str × Dt)} {vs : List (Str × V)}, Fds K D H fs vs → fs.lookup f = none → vs.lookup f = none
  | _, _, .nil, _ => rfl
  | (g, d0) :: fs, (_, v0) :: vs, .cons h1 h2, e => by
    rw [List.lookup_cons] at e ⊢
    cases hb : f == g with
    | true => rw [hb] at e; cases e
    | false => rw [hb] at e; exact Fds.none h2 e
/-- a thing of the store is written anew -/
theorem So.put_mc {K : PySem.W.Frag} {Z : List Addr} {m : Mu} {H : Hp} {p : Addr} {c c' : Mc} {o : HO} (so : So K Z m H) (h : (p, c) ∈ m) (hc : ∀ D : List Addr, Ext (Z ++ dom m) H D (upd H p o) → McOk K D (upd H p o) p c') :
    So K Z (put p c' m) (upd H p o) ∧ Go m H (put p c' m) (upd H p o) := by
  have hp : p ∈ dom m := List.mem_map.mpr ⟨(p, c), h, rfl⟩
  have g : Go m H (put p c' m) (upd H p o) := ⟨fun a u n e => by rw [upd_ne (show a ≠ p from fun z => n (by rw [z]; exact hp))]; exact e, fun a ha => .inl (by rw [put_dom] at ha; exact ha)⟩
  refine ⟨⟨by rw [put_dom]; exact so.nd, fun a ha => ?_, fun a ha => by rw [put_dom]; exact so.dj a ha, fun q hq => ?_⟩, g⟩
  · have n : a ≠ p := fun z => so.dj a ha (by rw [z]; exact hp)
    rw [upd_ne n]
    exact so.zs a ha
  · obtain ⟨q0, hq0, rfl⟩ := List.mem_map.mp hq
    by_cases e : q0.1 = p
    · rw [if_pos e]
      exact hc _ (g.full Z)
    · rw [if_neg e]
      have y := so.ob q0 hq0
      cases e2 : q0.2 with
      | lst es =>
        rw [e2] at y
        obtain ⟨xs, e1, e3⟩ := y
        exact ⟨xs, by rw [upd_ne e]; exact e1, e3.move (g.full Z)⟩
      | ins C dx fs =>
        rw [e2] at y
        obtain ⟨xs, e1, e3⟩ := y
        exact ⟨xs, by rw [upd_ne e]; exact e1, e3.move (g.full Z)⟩
/-- a method by its name, n parameters, level k -/
structure MtD (P : Program) (w : World) (K : PySem.W.Frag) (mg : Str → Option Value) (base : Heap) (C : Addr) (x : Str) (k : Nat) (W : Spd) : Prop where
  ex : ∃ (f : Addr) (fd : FuncData) (ps : List Str), FnG P w K mg base k f fd ps (toSp K W) ∧ Cls K C ∧ Meth K C x f ∧ Binds K fd ps []
/-- a class that can be made by its __init__ -/
structure MkD (P : Program) (w : World) (K : PySem.W.Frag) (mg : Str → Option Value) (base : Heap) (x : Str) (C : Addr) (k : Nat) (W : Spd) : Prop where
  ex : ∃ (f : Addr) (fd : FuncData) (ps : List Str), FnG P w K mg base k f fd ps (toSp K W) ∧ Mk K C f ∧ mg x = some (.ref C) ∧ Binds K fd ps []
section
variable {X : Cx} {o e : Expr} {es : List Expr} {r : En} {m : Mu} {F : Pd} {E : Xd} {P : Pc} {p pos pos' apos : Pos} {k j : Nat} {N : List Str} {x f : Str} {W : Spd} {C : Addr}
theorem le_fld (h : LE X o r m (fun x m1 => ∃ a C dx fs d, x = .raw (.ref a) ∧ (a, Mc.ins C dx fs) ∈ m1 ∧ Cls X.K C ∧ NoAttr X.K C f ∧ fs.lookup f = some d ∧ F d m1) E)
    (hb : attributeBase o f X.env (eval o X.env) = eval o X.env := by rfl) : LE X (.Attribute o f pos) r m F E := by
  refine ⟨fun Z st H Q W rp tk nk nx => (pe_fld pe_w hb).w (h.run Z st H _ W rp tk (fun v H1 d m1 q go so da => ?_) nx)⟩
  obtain ⟨a, C, dx, fs, d', rfl, hm, c, n, l, q⟩ := q
  cases da
  obtain ⟨vs, e1, e2⟩ := so.ob _ hm
  obtain ⟨v, l2, dv⟩ := e2.look l
  exact ⟨a, C, dx, vs, v, rfl, e1, c, n, l2, nk v H1 d' m1 q go so dv⟩
theorem le_fldG (gd : Gd k N X) (h : LE X o r m (fun x m1 => ∃ a C dx fs d, x = .raw (.ref a) ∧ (a, Mc.ins C dx fs) ∈ m1 ∧ Cls X.K C ∧ NoAttr X.K C f ∧ fs.lookup f = some d ∧ F d m1) E)
    (hb : attributeBase o f X.env (eval o X.env) = eval o X.env := by rfl) : LE X (.Attribute o f pos) r m F E := le_fld h hb
theorem ls_fld (h : LE X e r m (fun d m1 => LE X o r m1 (fun x m2 => ∃ a C dx fs, x = .raw (.ref a) ∧ (a, Mc.ins C dx fs) ∈ m2 ∧ Cls X.K C ∧ NoAttr X.K C f ∧ fs.length < 1000 ∧ P.nx r (put a (.ins C dx (putD f d fs)) m2)) P.ex) P.ex)
    (hs : swapsWith e (some (.Attribute o f pos')) pos.line X.env = pure false := by rfl) : LS X (.Assign [.Attribute o f pos'] e pos) r m P := by
  refine ⟨fun Z g H D W rp tk np => (ps_fld pe_w pe_w hs).w (h.run Z g H _ W rp tk (fun v H1 d m1 q go so da => ?_) np.ex)⟩
  refine q.run Z g H1 _ W (rp.go go so) tk (fun v2 H2 d2 m2 q2 go2 so2 da2 => ?_) (np.ex.go go)
  obtain ⟨a, C, dx, fs, rfl, hm, c, n, l, q2⟩ := q2
  cases da2
  obtain ⟨vs, e1, e2⟩ := so2.ob _ hm
  have dv := da.move (Go.full Z go2)
  have gg := go.trans go2
  obtain ⟨s4, g4⟩ := so2.put_mc (o := .ins C dx (putF f v vs)) (c' := .ins C dx (putD f d fs)) hm fun D x => ⟨_, upd_same, (e2.put dv).move x⟩
  exact ⟨a, C, dx, vs, rfl, e1, c, n, by rw [← e2.length]; exact l, np.nx g _ r _ q2 (gg.trans g4) (rp.go (gg.trans g4) s4)⟩
theorem le_meth {pl : Sem Bool} (D : MtD X.prog X.w X.K X.mg X.base C x j W) (gd : Gd k N X) (hj : j ≤ k)
    (h : LE X o r m (fun y m1 => ∃ a dx fs, y = .raw (.ref a) ∧ (a, Mc.ins C dx fs) ∈ m1 ∧ fs.lookup x = none ∧ LA X (e :: es) r m1 (fun ds m2 => W (.raw (.ref a) :: ds) m2 F (fun c fs m' => E c fs r m')) E) E)
    (hst : starEach (e :: es) X.env = (false, eval e X.env) :: starEach es X.env := by rfl) (hpl : (backTo pos (starEach es X.env)).any (·.1) = false := by rfl)
    (ht : eval (.Call (.Attribute o x apos) (e :: es) [] pos) X.env = (do
      let ov ← eval o X.env
      standAt apos.atName
      let (f, first) ← holding [ov] (getMethod ov x pl)
      callWith pos f first (backTo pos (starEach (e :: es) X.env)) (backToKw pos (keywordEach [] X.env))) := by rfl) : LE X (.Call (.Attribute o x apos) (e :: es) [] pos) r m F E := by
  obtain ⟨f, fd, ps, G, c, hm, hb⟩ := D.ex
  refine ⟨fun Z g H Q Wx rp tk nk nx pins s I => ?_⟩
  refine PySem.W.methodCall_KW (pl := pl) (thn (h.run Z g H (fun v H1 => ∃ a dx fs, v = .ref a ∧ H1 a = some (.ins C dx fs) ∧ fs.lookup x = none ∧ wA X (e :: es) g H1 fun vs H2 => toSp X.K W (.ref a :: vs) H2 Q (WE Wx g)) Wx rp tk (fun v H1 d m1 q go so da => ?_) nx pins s I) fun u s1 ⟨v, H1, I1, rv, a, dx, vs, ev, ea, l, q⟩ => ?_) ht
  · obtain ⟨a, dx, fs, rfl, hm1, l, q⟩ := q
    cases da
    obtain ⟨vs, e1, e2⟩ := so.ob _ hm1
    refine ⟨a, dx, vs, rfl, e1, e2.none l, q.run Z g H1 _ Wx (rp.go go so) tk (fun us H2 ds m2 q2 go2 so2 da2 => ?_) (nx.go go)⟩
    exact ⟨Z, .raw (.ref a) :: ds, m2, F, _, so2, .cons (.raw _) da2, q2, nk.go (go.trans go2), fun cls dx fs us H' m' q3 go3 so3 nd e1 e2 => nx cls dx fs us g H' r m' q3 ((go.trans go2).trans go3) (rp.go ((go.trans go2).trans go3) so3) nd e1 e2⟩
  · subst ev
    obtain rfl : u = Value.ref a := rv
    refine getmeth_ok I1 ea c hm l ?_
    refine PySem.W.callWith_K (first := [.ref a]) (h₀ := X.base) I.ok.mod.kin hm.kp (thn (q pos pins s1 I1) fun us s2 ⟨vs, H2, I2, r, q2⟩ => ⟨I2.kIn, ?_⟩) hst hpl
    exact run_g (us := .ref a :: us) (vs := .ref a :: vs) G (gd.room.mono hj) gd.gu hb tk I2 (.cons rfl r) q2
theorem le_meth0 {pl : Sem Bool} (D : MtD X.prog X.w X.K X.mg X.base C x j W) (gd : Gd k N X) (hj : j ≤ k)
    (h : LE X o r m (fun y m1 => ∃ a dx fs, y = .raw (.ref a) ∧ (a, Mc.ins C dx fs) ∈ m1 ∧ fs.lookup x = none ∧ W [.raw (.ref a)] m1 F (fun c fs m' => E c fs r m')) E)
    (ht : eval (.Call (.Attribute o x apos) [] [] pos) X.env = (do
      let ov ← eval o X.env
      standAt apos.atName
      let (f, first) ← holding [ov] (getMethod ov x pl)
      callWith pos f first (backTo pos (starEach [] X.env)) (backToKw pos (keywordEach [] X.env))) := by rfl) : LE X (.Call (.Attribute o x apos) [] [] pos) r m F E := by
  obtain ⟨f, fd, ps, G, c, hm, hb⟩ := D.ex
  refine ⟨fun Z g H Q Wx rp tk nk nx pins s I => ?_⟩
  refine PySem.W.methodCall_KW (pl := pl) (thn (h.run Z g H (fun v H1 => ∃ a dx fs, v = .ref a ∧ H1 a = some (.ins C dx fs) ∧ fs.lookup x = none ∧ toSp X.K W [.ref a] H1 Q (WE Wx g)) Wx rp tk (fun v H1 d m1 q go so da => ?_) nx pins s I) fun u s1 ⟨v, H1, I1, rv, a, dx, vs, ev, ea, l, q⟩ => ?_) ht
  · obtain ⟨a, dx, fs, rfl, hm1, l, q⟩ := q
    cases da
    obtain ⟨vs, e1, e2⟩ := so.ob _ hm1
    exact ⟨a, dx, vs, rfl, e1, e2.none l, Z, [.raw (.ref a)], m1, F, _, so, .cons (.raw _) .nil, q, nk.go go, fun cls dx fs us H' m' q3 go3 so3 nd e1 e2 => nx cls dx fs us g H' r m' q3 (go.trans go3) (rp.go (go.trans go3) so3) nd e1 e2⟩
  · subst ev
    obtain rfl : u = Value.ref a := rv
    refine getmeth_ok I1 ea c hm l ?_
    exact PySem.W.callWith_K0 (first := [.ref a]) I1.kIn hm.kp (run_g (us := [.ref a]) (vs := [.ref a]) G (gd.room.mono hj) gd.gu hb tk I1 (.cons rfl .nil) q)
/-- two new things, one of the store -/
theorem So.made {K : PySem.W.Frag} {Z : List Addr} {m : Mu} {H : Hp} {a dx : Addr} (so : So K Z m H) (ha : H a = none) (hd : H dx = none) (ne : dx ≠ a) :
    So K Z ((a, .ins C dx []) :: m) (upd (upd H dx (.own a)) a (.ins C dx [])) ∧ Go m H ((a, .ins C dx []) :: m) (upd (upd H dx (.own a)) a (.ins C dx [])) := by
  have s1 := so.laid (o := .own a) hd
  have h1 : (upd H dx (.own a)) a = none := by rw [upd_ne (Ne.symm ne)]; exact ha
  have s2 := s1.laid (o := .ins C dx []) h1
  have na : a ∉ dom m := fun z => so.there (List.mem_append_right _ z) ha
  have g1 : Go m H m (upd H dx (.own a)) := Ext.fresh hd
  have g2 : Go m (upd H dx (.own a)) ((a, .ins C dx []) :: m) (upd (upd H dx (.own a)) a (.ins C dx [])) := ⟨(Ext.fresh (D := dom m) h1).keep, fun b hb => by
    rcases List.mem_cons.mp hb with z | z
    · exact .inr (z ▸ h1)
    · exact .inl z⟩
  refine ⟨⟨List.nodup_cons.mpr ⟨na, so.nd⟩, s2.zs, fun b hb z => ?_, fun q hq => ?_⟩, g1.trans g2⟩
  · rcases List.mem_cons.mp z with z | z
    · exact so.zs b hb (by rw [z]; exact ha)
    · exact so.dj b hb z
  · rcases List.mem_cons.mp hq with z | z
    · subst z
      exact ⟨[], upd_same, .nil⟩
    · have y1 := s1.ob q z
      have hn : q.1 ≠ a := fun w => y1.there (by rw [w]; exact h1)
      cases e2 : q.2 with
      | lst es2 =>
        rw [e2] at y1
        obtain ⟨xs, e1, e3⟩ := y1
        exact ⟨xs, by rw [upd_ne hn]; exact e1, e3.move (g2.full Z)⟩
      | ins C dx fs =>
        rw [e2] at y1
        obtain ⟨xs, e1, e3⟩ := y1
        exact ⟨xs, by rw [upd_ne hn]; exact e1, e3.move (g2.full Z)⟩
theorem run_makeG {pins : List (Addr × Obj)} {g : L2.St} {H : Hp} {s : Shared} {Q : VK} {us : List Value} {vs : List V} {f : Addr} {fd : FuncData} {ps : List Str} {sp : Sp} {Wx : WX} (M : Mk X.K C f) (G : FnG X.prog X.w X.K X.mg X.base j f fd ps sp) (hr : Room (j + 1) X.A) (hgu : X.A.guards = some []) (hb : Binds X.K fd ps [])
    (tk : Takes X Wx) (I : Inv X pins g H s) (rv : Vals vs us)
    (h : ∀ x dx, H x = none → H dx = none → dx ≠ x → sp (.ref x :: vs) (upd (upd H dx (.own x)) x (.ins C dx [])) (fun v H2 => v = .non ∧ Q (.ref x) H2) (WE Wx g)) :
    wpAny (model X.prog X.w) X.A (call (.ref C) us) (EP X pins g Q) X.xe s := by
  have hq := h (s.heap.objs.size + 1) s.heap.objs.size (I.hok.fresh (Nat.le_succ _)) (I.hok.fresh (Nat.le_refl _)) (Nat.ne_of_lt (Nat.lt_succ_self _))
  have I2 := Inv.made (C := C) I
  have r2 : Vals (V.ref (s.heap.objs.size + 1) :: vs) (Value.ref (s.heap.objs.size + 1) :: us) := .cons rfl rv
  have hl : (Value.ref (s.heap.objs.size + 1) :: us).length = ps.length := by
    rw [← r2.length]; exact G.len _ _ _ _ hq
  have b := hb { s with heap := (s.heap.push PySem.W.emptyDict).push (PySem.W.instObj C s.heap.objs.size) } (Value.ref (s.heap.objs.size + 1) :: us) I2.kIn (by rw [List.append_nil]; exact hl)
  rw [List.append_nil] at b
  refine wpAny_call (make_map (f := f) I.kIn M.makes M.init (beq_iff_eq.mp M.fn) (codeAny_mono (G.run _ X.stack _ _ ⟨Value.ref (s.heap.objs.size + 1) :: us, []⟩ _ _ _ (WE Wx g) (hr.make C us []) hgu
    (I2.env0.make C us []) b r2 hq) fun o s' hq' => ?_))
  cases o with
  | error u => exact passAt tk g pins _ _ u s' I2 hq'
  | ok fl =>
    cases fl with
    | ret u =>
      obtain ⟨v, H', I3, rv, ev, q3⟩ := I2.after hq'
      subst ev
      exact ⟨rv, ⟨V.ref (s.heap.objs.size + 1), H', I3, rfl, q3⟩⟩
    | next => exact hq'.elim
    | brk => exact hq'.elim
    | cont => exact hq'.elim
theorem le_make0 (D : MkD X.prog X.w X.K X.mg X.base x C j W) (gd : Gd k N X) (hj : j + 1 ≤ k) (h : ∀ a dx, a ∉ dom m → W [.raw (.ref a)] ((a, .ins C dx []) :: m) (fun d m' => d = .non ∧ F (.raw (.ref a)) m') (fun c fs m' => E c fs r m')) (hg : Gl X x := by rfl)
    (hdb : (x == ("__debug__" : Str)) = false := by decide) : LE X (.Call (.Name x p) [] [] pos) r m F E := by
  obtain ⟨f, fd, ps, G, M, hm, hb⟩ := D.ex
  refine ⟨fun Z g H Q Wx rp tk nk nx pins s I => ?_⟩
  refine wpAny_Call_Name_kw (ld_glob I hg hm ?_ hdb)
  refine PySem.W.callWith_K0 I.kIn M.kp (run_makeG (us := []) (vs := []) M G (gd.room.mono hj) gd.gu hb tk I .nil fun a dx ha hd ne => ?_)
  obtain ⟨s2, g2⟩ := So.made (C := C) rp.so ha hd ne
  have na : a ∉ dom m := fun z => rp.so.there (List.mem_append_right _ z) ha
  refine ⟨Z, [.raw (.ref a)], _, _, _, s2, .cons (.raw _) .nil, h a dx na, fun v H' d m' q go so da => ?_, fun cls dx fs us H' m' q3 go3 so3 nd e1 e2 => nx cls dx fs us g H' r m' q3 (g2.trans go3) (rp.go (g2.trans go3) so3) nd e1 e2⟩
  obtain ⟨rfl, q⟩ := q
  cases da
  exact ⟨rfl, nk _ H' _ m' q (g2.trans go) so (.raw _)⟩
end
end Dw
namespace Dw
open PySem PySem.Spec PyProof.Rows L2
/-! ### enumerate -/
def ItS (x : Str) : It := ⟨fun i _ => i < x.cps.size, fun i H v H' => ∃ T c, v = .ref T ∧ H T = none ∧ x.cps[i]? = some c ∧ H' = upd H T (.tup [.int (i : Nat), .str ⟨#[c]⟩]), fun i _ => x.cps.size ≤ i⟩
theorem turn_enumS {P : Program} {w : World} {K : PySem.W.Frag} {elts : List Expr} {kk : Nat} {tpos : Pos} (x : Str) (t : Tok) (e it : Addr) :
    Turn P w K (.Tuple elts kk tpos) (ItS x) [e, it] e (fun i h => (∃ old, IsEnum h e it ((i : Nat) : Int) old) ∧ h.IsStrIter it (strIterType x) x t i ∧ e ≠ it ∧ i ≤ x.cps.size) where
  mem := by simp
  obj := fun i h st b hb => by
    obtain ⟨⟨old, he⟩, ⟨o, ho, hc, hd⟩, _⟩ := st
    have e' : b = e ∨ b = it := by simpa using hb
    rcases e' with z | z
    · rw [z]; exact ⟨_, he, fun v q => nomatch q⟩
    · rw [z]; exact ⟨o, ho, fun v q => by rw [hd] at q; cases q⟩
  keep := fun i h h' st k => let ⟨⟨old, he⟩, ⟨o, ho, r⟩, hne, hi⟩ := st; ⟨⟨old, k e (by simp) _ he⟩, ⟨o, k it (by simp) o ho, r⟩, hne, hi⟩
  item := by
    intro X hP hw hK hc i pins s σ H E I hf st hg
    subst hP hw hK
    obtain ⟨⟨old, he⟩, hit, hne, hi⟩ := st
    have hlt : i < x.cps.size := hg
    have hel : e < s.heap.objs.size := Heap.lt_size he
    have hil : it < s.heap.objs.size := by obtain ⟨_, q, _⟩ := hit; exact Heap.lt_size q
    have DD : Draws X.prog X.w X.A.in1 it [it] x.cps.size (fun i v => ∃ c u, x.cps[i]? = some c ∧ v = .str ⟨#[c]⟩ u) (fun i h => h.IsStrIter it (strIterType x) x t i) := Draws.text (A := X.A.in1) (show X.A.in1.handled = none from I.ok.hd hc) it x t
    refine wpAny_pyNext_enum_itemD DD he hit hlt hne (by simpa using hne) fun u h' tk hP ho hit' hT hsz hk => ?_
    obtain ⟨c, u', hc', rfl⟩ := hP
    refine ⟨_, rfl, wpAny_letOwnedTupleGo_enum (s := { s with heap := h', toks := tk + 1 }) ho fun h'' he' sb => ?_⟩
    have hT2 : h''.get? s.heap.objs.size = some { cls := .type "tuple", data := .seq #[.int i tk, .str ⟨#[c]⟩ u'] } := (sb.2 _ (Nat.ne_of_gt hel)).trans hT
    have new : ObjOk X.prog X.w (upd H s.heap.objs.size (.tup [.int (i : Nat), .str ⟨#[c]⟩])) h'' s.heap.objs.size (.tup [.int (i : Nat), .str ⟨#[c]⟩]) :=
      ⟨by show 2 ≤ sizeLine; decide, [.int i tk, .str ⟨#[c]⟩ u'], .cons ⟨_, rfl⟩ (.cons ⟨_, rfl⟩ .nil), ⟨_, hT2, rfl, _, rfl⟩⟩
    have I1 : Inv X pins σ (upd H s.heap.objs.size (.tup [.int (i : Nat), .str ⟨#[c]⟩])) { s with heap := h'', toks := tk + 1 } :=
      I.turnedNew (ch := [e, it]) (fun b ob hb q => (sb.2 b (fun z => hb (by simp [z]))).trans (hk b ob (fun z => hb (by simp [z])) (fun z => hb (by simp [z])) q)) hf (Nat.le_refl _) new
    refine ⟨.ref s.heap.objs.size, _, I1, rfl, ⟨_, c, rfl, I.hok.fresh (Nat.le_refl _), hc', rfl⟩, ⟨⟨.str ⟨#[c]⟩ u', ?_⟩, ?_, hne, hlt⟩, fun b hb => ?_⟩
    · have e1 : ((i + 1 : Nat) : Int) = (i : Int) + 1 := by omega
      rw [e1]; exact he'
    · obtain ⟨o, ho2, r⟩ := hit'
      exact ⟨o, (sb.2 it (Ne.symm hne)).trans ho2, r⟩
    · have hb' : b < s.heap.objs.size := by
        have e' : b = e ∨ b = it := by simpa using hb
        rcases e' with z | z
        · rw [z]; exact hel
        · rw [z]; exact hil
      rw [upd_ne (Nat.ne_of_lt hb')]
      exact (hf b hb).1
  done := by
    intro X hP hw hK hc i pins s σ H E I hf st hg
    subst hP hw hK
    obtain ⟨⟨old, he⟩, hit, hne, hi⟩ := st
    have hs : x.cps.size ≤ i := hg
    have ei : i = x.cps.size := by omega
    subst ei
    obtain ⟨f0, f1, f2, f3, f4, f5⟩ := hf it (by simp)
    have DD : Draws X.prog X.w X.A.in1 it [it] x.cps.size (fun i v => ∃ c u, x.cps[i]? = some c ∧ v = .str ⟨#[c]⟩ u) (fun i h => h.IsStrIter it (strIterType x) x t i) := Draws.text (A := X.A.in1) (show X.A.in1.handled = none from I.ok.hd hc) it x t
    exact wpAny_pyNext_enum_endD DD he hit fun h' eb => ⟨rfl, I.turned (t' := s.toks) (fun b o hb q => eb b o hb q) f0 f1 f3 f4 f5⟩
  self := fun A i s Q E st h => let ⟨⟨_, he⟩, _⟩ := st; wpAny_pyIter_enum he h
/-- pairs of numbers and things -/
def enumD (ds : List Dt) : List Dt := ds.mapIdx fun i d => .tup [.int (i : Nat), d]
theorem enumD_len (ds : List Dt) : (enumD ds).length = ds.length := List.length_mapIdx
theorem enumD_get {ds : List Dt} {i : Nat} {d : Dt} (h : (enumD ds)[i]? = some d) : ∃ e, ds[i]? = some e ∧ d = .tup [.int (i : Nat), e] := by
  unfold enumD at h
  rw [List.getElem?_mapIdx] at h
  cases e : ds[i]? with
  | none => rw [e] at h; cases h
  | some v => rw [e] at h; cases h; exact ⟨v, rfl, rfl⟩
section
variable {X : Cx} {e : Expr} {r : En} {m : Mu} {E : Xd} {p pos tpos : Pos} {elts : List Expr} {kk : Nat} {L : List Dt → Mu → Prop}
theorem li_enumS (hm : X.mg "enumerate" = none) (h : LE X e r m (fun d m1 => ∃ x, d = .str x ∧ L (enumD (signs x)) m1) E) (hg : Gl X "enumerate" := by rfl) (hs : starEach [e] X.env = [(false, eval e X.env)] := by rfl) :
    LI X (.Tuple elts kk tpos) (.Call (.Name "enumerate" p) [e] [] pos) r m L E := by
  refine ⟨fun Z g H R Wx rp tk nk nx pins s I => ?_⟩
  have ha : LA X [e] r m (fun ds m1 => ∃ x, ds = [.str x] ∧ L (enumD (signs x)) m1) E := la_cons (h.imp fun d m1 q => by
    obtain ⟨x, rfl, q⟩ := q
    exact la_nil ⟨x, rfl, q⟩) hs
  refine Call_ (ld_blt I hg hm boot_enumerate (PyProof.Rows.callWith_type1 (thn (ha.run Z g H (fun vs H1 => ∃ x, vs = [.str x] ∧ R (ItS x) H1) Wx rp tk (fun vs H1 ds m1 q go so da => ?_) nx pos pins s I) fun us s1 ⟨vs, H1, I1, r1, q1⟩ => ?_) hs rfl))
  · obtain ⟨x, rfl, q⟩ := q
    cases da with
    | cons d1 d2 =>
      cases d1
      cases d2
      refine ⟨x, rfl, nk _ _ m1 H1 q go so fun Z' hz i m2 H2 go2 so2 => ⟨fun hi => ?_, fun hi => ?_, fun y H3 d hd hy => ?_⟩⟩
      · rw [enumD_len] at hi
        unfold signs at hi
        rw [List.length_map] at hi
        show i < x.cps.size
        simpa using hi
      · rw [enumD_len] at hi
        unfold signs at hi
        rw [List.length_map] at hi
        show x.cps.size ≤ i
        simpa using hi
      · obtain ⟨T, c, rfl, hT, hc, rfl⟩ := hy
        obtain ⟨e1, he1, rfl⟩ := enumD_get hd
        have : e1 = .str ⟨#[c]⟩ := by
          unfold signs at he1
          rw [List.getElem?_map, Array.getElem?_toList, hc] at he1
          cases he1
          rfl
        subst this
        exact ⟨Ext.fresh hT, so2.laid hT, da_new_tup so2 hT (.cons (.int _) (.cons (.str _) .nil))⟩
  · obtain ⟨x, rfl, q⟩ := q1
    cases r1 with
    | cons r rr =>
      cases rr
      obtain ⟨t, rfl⟩ := r
      refine call_enumerate_str fun h' he hit hsz hk => wpAny_pyIter_enum he ?_
      have I2 : Inv X pins g H1 { s1 with heap := h' } := I1.kept (t' := s1.toks) hk
      refine ⟨s1.heap.objs.size + 1, [s1.heap.objs.size + 1, s1.heap.objs.size], _, _, H1, rfl, I2, turn_enumS x t (s1.heap.objs.size + 1) s1.heap.objs.size, ⟨⟨.none, he⟩, hit, Nat.succ_ne_self _, Nat.zero_le _⟩, fun b hb => ?_, q⟩
      have e' : b = s1.heap.objs.size + 1 ∨ b = s1.heap.objs.size := by simpa using hb
      have hle : s1.heap.objs.size ≤ b := by
        rcases e' with z | z
        · rw [z]; exact Nat.le_add_right _ _
        · rw [z]; exact Nat.le_refl _
      exact I1.fpOk hle (I1.hok.fresh hle)
theorem li_enum (hm : X.mg "enumerate" = none) (h : LE X e r m (fun d m1 => ∃ ds, d = .lst ds ∧ L (enumD ds) m1) E) (hg : Gl X "enumerate" := by rfl) (hs : starEach [e] X.env = [(false, eval e X.env)] := by rfl) :
    LI X (.Tuple elts kk tpos) (.Call (.Name "enumerate" p) [e] [] pos) r m L E := by
  have ha : LA X [e] r m (fun ds m1 => ∃ x, ds = [.lst x] ∧ L (enumD x) m1) E := la_cons (h.imp fun d m1 q => by
    obtain ⟨x, rfl, q⟩ := q
    exact la_nil ⟨x, rfl, q⟩) hs
  refine ⟨fun Z g H R Wx rp tk nk nx => (pi_enum hg hm pa_w hs).w (ha.run Z g H _ Wx rp tk (fun vs H1 ds m1 q go so da => ?_) nx)⟩
  obtain ⟨ds, rfl, q⟩ := q
  cases da with
  | cons d1 d2 =>
    cases d2
    cases d1 with
    | lst h1 h2 =>
      refine ⟨_, _, rfl, h1.sq, nk _ (enumD ds) m1 H1 q go so fun Z' hz i m2 H2 go2 so2 => ?_⟩
      have h1' := SL.sq (K := X.K) (h1.move (Go.hide go2 hz))
      refine ⟨fun hi => ?_, fun hi => ⟨_, h1', by rw [← h2.length, ← enumD_len]; exact hi⟩, fun x H3 d hd hy => ?_⟩
      · rw [enumD_len] at hi
        obtain ⟨v, e1, _⟩ := h2.get (List.getElem?_eq_getElem hi)
        exact ⟨_, v, h1', e1⟩
      · obtain ⟨T, y, rfl, hT, rfl, hv⟩ := hy
        obtain ⟨e1, he1, rfl⟩ := enumD_get hd
        obtain ⟨v, e2, e3⟩ := h2.get he1
        have e4 := hv _ h1'
        rw [e2] at e4
        cases e4
        exact ⟨Ext.fresh hT, so2.laid hT, da_new_tup so2 hT (.cons (.int _) (.cons (e3.move (Go.hide go2 hz)) .nil))⟩
end
end Dw
namespace Dw
open PySem PySem.Spec PyProof.Rows L2
/-! ### lists of the store, written anew; repr and == through them; while; dicts of written keys -/
theorem So.grow {K : PySem.W.Frag} {Z : List Addr} {m : Mu} {H : Hp} {p : Addr} {ds : List Dt} {vs : List V} (so : So K Z m H) (hp : H p = none) (da : DaL K (Z ++ dom m) H ds vs) :
    So K Z ((p, .lst ds) :: m) (upd H p (.lst vs)) ∧ Go m H ((p, .lst ds) :: m) (upd H p (.lst vs)) ∧ p ∉ dom m := by
  have np : p ∉ dom m := fun z => so.there (List.mem_append_right _ z) hp
  have g1 : Go m H ((p, .lst ds) :: m) (upd H p (.lst vs)) := ⟨(Ext.fresh (D := dom m) hp).keep, fun a ha => by
    rcases List.mem_cons.mp ha with z | z
    · exact .inr (z ▸ hp)
    · exact .inl z⟩
  have s1 := so.laid (o := .lst vs) hp
  refine ⟨⟨List.nodup_cons.mpr ⟨np, so.nd⟩, s1.zs, fun a ha z => ?_, fun y hy => ?_⟩, g1, np⟩
  · rcases List.mem_cons.mp z with z | z
    · exact so.zs a ha (by rw [z]; exact hp)
    · exact so.dj a ha z
  · rcases List.mem_cons.mp hy with z | z
    · subst z
      exact ⟨vs, upd_same, da.move (g1.full Z)⟩
    · have y1 := so.ob y z
      have hn : y.1 ≠ p := fun w => y1.there (by rw [w]; exact hp)
      cases e2 : y.2 with
      | lst es2 =>
        rw [e2] at y1
        obtain ⟨xs, e1, e3⟩ := y1
        exact ⟨xs, by rw [upd_ne hn]; exact e1, e3.move (g1.full Z)⟩
      | ins C dx fs =>
        rw [e2] at y1
        obtain ⟨xs, e1, e3⟩ := y1
        exact ⟨xs, by rw [upd_ne hn]; exact e1, e3.move (g1.full Z)⟩
/-! data as they are read now -/
mutual
inductive Rz (m : Mu) : Dt → Dt → Prop
  | same {d : Dt} : Rz m d d
  | ptr {p : Addr} {ds es : List Dt} : (p, Mc.lst ds) ∈ m → RzL m ds es → Rz m (.raw (.ref p)) (.lst es)
  | lst {ds es : List Dt} : RzL m ds es → Rz m (.lst ds) (.lst es)
  | tup {ds es : List Dt} : RzL m ds es → Rz m (.tup ds) (.tup es)
inductive RzL (m : Mu) : List Dt → List Dt → Prop
  | nil : RzL m [] []
  | cons {d e : Dt} {ds es : List Dt} : Rz m d e → RzL m ds es → RzL m (d :: ds) (e :: es)
end
theorem RzL.same {m : Mu} : ∀ ds : List Dt, RzL m ds ds
  | [] => .nil
  | _ :: ds => .cons .same (RzL.same ds)
section
variable {K : PySem.W.Frag} {Z : List Addr} {m : Mu} {H : Hp}
theorem Ext.none {D : List Addr} : Ext D H [] H := ⟨fun _ _ _ e => e, fun _ h => nomatch h⟩
mutual
theorem Rz.da (so : So K Z m H) : ∀ {d e : Dt}, Rz m d e → ∀ {v : V}, Da K (Z ++ dom m) H d v → Da K [] H e v
  | _, _, .same, _, h => h.move Ext.none
  | _, _, .ptr hm hr, _, h => by
    cases h
    obtain ⟨xs, e1, e2⟩ := so.ob _ hm
    exact .lst ⟨fun z => (nomatch z), e1⟩ (RzL.da so hr e2)
  | _, _, .lst hr, _, h => by
    cases h with
    | lst h1 h2 => exact .lst ⟨fun z => (nomatch z), h1.2⟩ (RzL.da so hr h2)
  | _, _, .tup hr, _, h => by
    cases h with
    | tup h1 h2 =>
      refine .tup ?_ (RzL.da so hr h2)
      rcases h1 with h1 | h1
      · exact .inl ⟨fun z => (nomatch z), h1.2⟩
      · exact .inr h1
theorem RzL.da (so : So K Z m H) : ∀ {ds es : List Dt}, RzL m ds es → ∀ {vs : List V}, DaL K (Z ++ dom m) H ds vs → DaL K [] H es vs
  | _, _, .nil, _, h => by cases h; exact .nil
  | _, _, .cons h1 h2, _, h => by
    cases h with
    | cons a b => exact .cons (Rz.da so h1 a) (RzL.da so h2 b)
end
end
theorem DaL.flat {K : PySem.W.Frag} {D : List Addr} {H : Hp} {ds : List Dt} {vs : List V} (h : DaL K D H ds vs) : ∀ n : Nat, DaL K D H (List.replicate n ds).flatten (List.replicate n vs).flatten
  | 0 => .nil
  | n + 1 => by rw [List.replicate_succ, List.replicate_succ, List.flatten_cons, List.flatten_cons]; exact h.append (DaL.flat h n)
section
variable {X : Cx} {e a b c o : Expr} {r : En} {m : Mu} {F : Pd} {G : Dt → Prop} {E : Xd} {P : Pc} {pos : Pos} {k : Nat} {N : List Str} {p : Addr} {ds es : List Dt}
theorem c_len_mut (hm : (p, Mc.lst ds) ∈ m) (q : F (.int ds.length) m) : OC X (.builtin "len") [.raw (.ref p)] m F :=
  oc_of call_len_seq fun Z H vs Q so da nk => by
    cases da with
    | cons d1 d2 =>
      cases d2
      cases d1
      obtain ⟨xs, e1, e2⟩ := so.lst_of hm
      refine ⟨_, _, rfl, .inl (SqL.of e1), ?_⟩
      rw [← e2.length]
      exact nk _ H _ m q Ext.rfl' so (.int _)
/-- list(..) that will change -/
theorem c_list_mutM (hm : (p, Mc.lst ds) ∈ m) (q : ∀ a, a ∉ dom m → F (.raw (.ref a)) ((a, .lst ds) :: m)) : OC X (.type "list") [.raw (.ref p)] m F :=
  oc_of call_list_of fun Z H vs Q so da nk => by
    cases da with
    | cons d1 d2 =>
      cases d2
      cases d1
      obtain ⟨xs, e1, e2⟩ := so.lst_of hm
      refine ⟨_, _, rfl, .inl (SqL.of e1), fun l hl => ?_⟩
      obtain ⟨s2, g2, nl⟩ := so.grow hl e2
      exact nk _ _ _ _ (q l nl) g2 s2 (.raw _)
/-- list(..) of a list of the store, that will not change -/
theorem c_list_mutF (hm : (p, Mc.lst ds) ∈ m) (q : F (.lst ds) m) : OC X (.type "list") [.raw (.ref p)] m F :=
  oc_of call_list_of fun Z H vs Q so da nk => by
    cases da with
    | cons d1 d2 =>
      cases d2
      cases d1
      obtain ⟨xs, e1, e2⟩ := so.lst_of hm
      exact ⟨_, _, rfl, .inl (SqL.of e1), fun l hl => nk _ _ _ m q (Ext.fresh hl) (so.laid hl) (da_new_lst so hl e2)⟩
theorem o_mulL {n : Int} (h0 : -(2 ^ 63) ≤ n) (h1 : n < 2 ^ 63) (hz : ds.length * n.toNat ≤ sizeLine) (q : G (.lst (List.replicate n.toNat ds).flatten)) : O2 X (binaryOp .Mult) (.lst ds) (.int n) m G :=
  o2_of op_rep fun Z H vx vy Q so dx dy nk => by
    cases dx with
    | lst h1' h2 =>
      cases dy
      exact ⟨_, _, _, rfl, rfl, h1'.2, h0, h1, by rw [← h2.length]; exact hz, fun l hl => nk _ _ _ m ⟨rfl, q⟩ (Ext.fresh hl) (so.laid hl) (da_new_lst so hl (h2.flat _))⟩
theorem le_sl_frz {lo hi : Option Expr} {p2 : Pos} (h : LE X a r m (fun d m1 => LO X lo r m1 (fun l m2 => LO X hi r m2 (fun u m3 => ∃ ds, d = .frz ds ∧ F (.lst (cutD ds l u)) m3) E) E) E) : LE X (.Subscript a (.Slice lo hi none p2) pos) r m F E := by
  refine ⟨fun Z st H Q W rp tk nk nx => (pe_slice sl_list pe_w po_w po_w).w ?_⟩
  refine h.run Z st H _ W rp tk (fun v H1 d m1 q go so da => ?_) nx
  refine q.run Z st H1 _ W (rp.go go so) tk (fun l H2 m2 q2 go2 so2 => ?_) (nx.go go)
  refine q2.run Z st H2 _ W (rp.go (go.trans go2) so2) tk (fun u H3 m3 q3 go3 so3 => ?_) (nx.go (go.trans go2))
  obtain ⟨ds, rfl, q3⟩ := q3
  have da3 := da.move (Go.full Z (go2.trans go3))
  cases da3 with
  | frz h1 h2 =>
    exact ⟨_, _, rfl, h1.sq, fun p hp => nk _ _ _ m3 q3 (((go.trans go2).trans go3).trans (Ext.fresh hp)) (so3.laid hp) (da_new_lst so3 hp (cut_da h2 l u))⟩
/-- repr of a list in which lists of the store stand -/
theorem c_reprP (hg : X.A.guards = some []) (hu : X.A.units + 64 < cLine) (hr : RzL m ds es) (h : Sht (.lst es)) (q : F (.str (shows (.lst es))) m) : OC X (.builtin "repr") [.lst ds] m F := by
  refine ⟨fun Z H vs Q so da nk pins s g I us rv => ?_⟩
  cases da with
  | cons d1 d2 =>
    cases d2
    cases rv with
    | cons r1 r2 =>
      cases r2
      cases d1 with
      | lst h1 h2 =>
        cases r1
        exact top_lst I hg hu h1.sq (RzL.da so hr h2) h fun h' u tk hk => ⟨.str _, H, I.kept hk, ⟨_, rfl⟩, nk _ H _ m q Ext.rfl' so (.str _)⟩
theorem o_eqP {x y x' y' : Dt} (hu : X.A.units + 64 < cLine) (rx : Rz m x x') (ry : Rz m y y') (px : plain x' = true) (py' : plain y' = true) (sx : SeqAt.shaped (py x') = true) (sy : SeqAt.shaped (py y') = true) (q : G (.bl (PyData.eqv (py x') (py y')))) : O2 X (compareOp .Eq) x y m G :=
  o2_of (op_eqD hu) fun Z H vx vy Q so dx dy nk => ⟨_, _, (rx.da so dx).dp px, (ry.da so dy).dp py', sx, sy, nk _ H _ m ⟨rfl, q⟩ Ext.rfl' so (.bl _)⟩
theorem o_neP {x y x' y' : Dt} (hu : X.A.units + 64 < cLine) (rx : Rz m x x') (ry : Rz m y y') (px : plain x' = true) (py' : plain y' = true) (sx : SeqAt.shaped (py x') = true) (sy : SeqAt.shaped (py y') = true) (q : G (.bl (!PyData.eqv (py x') (py y')))) : O2 X (compareOp .NotEq) x y m G :=
  o2_of (op_neD hu) fun Z H vx vy Q so dx dy nk => ⟨_, _, (rx.da so dx).dp px, (ry.da so dy).dp py', sx, sy, nk _ H _ m ⟨rfl, q⟩ Ext.rfl' so (.bl _)⟩
/-- while -/
theorem ls_while {body : List Stmt} (gd : Gd k N X) (Iv : Nat → En → Mu → Prop) (h0 : ∃ n, Iv n r m)
    (hs : ∀ n r m, Iv n r m → LT X c r m (fun b m1 => if b = true then LB X body r m1 { nx := fun r2 m2 => ∃ n', n' < n ∧ Iv n' r2 m2, rt := P.rt, bk := P.nx, ct := fun r2 m2 => ∃ n', n' < n ∧ Iv n' r2 m2, ex := P.ex } else P.nx r m1) P.ex) : LS X (.While c body [] pos) r m P := by
  refine ⟨fun Z g H D Wx rp tk np => (ps_while gd.po pt_w pss_w).w ?_⟩
  refine ⟨fun n g2 H2 => ∃ r2 m2, Iv n r2 m2 ∧ Go m H m2 H2 ∧ Rep X.K Z m2 H2 g2 r2, ?_, fun n g2 H2 hw => ?_⟩
  · obtain ⟨n, h⟩ := h0
    exact ⟨n, r, m, h, Ext.rfl', rp⟩
  · obtain ⟨r2, m2, iv, go2, rp2⟩ := hw
    refine (hs n r2 m2 iv).run Z g2 H2 _ Wx rp2 tk (fun b H3 m3 q go3 so3 => ?_) (np.ex.go go2)
    have g3 := go2.trans go3
    cases b with
    | true =>
      have q' : LB X body r2 m3 _ := q
      refine ⟨fun g4 H4 => ∃ n' r4 m4, n' < n ∧ Iv n' r4 m4 ∧ Go m H m4 H4 ∧ Rep X.K Z m4 H4 g4 r4, fun g4 H4 hn => ?_, ?_⟩
      · obtain ⟨n', r4, m4, hlt, iv4, go4, rp4⟩ := hn
        exact ⟨n', hlt, r4, m4, iv4, go4, rp4⟩
      · have nn : NE X.K Z m3 H3 (fun r2 m2 => ∃ n', n' < n ∧ Iv n' r2 m2) (fun g4 H4 => ∃ n' r4 m4, n' < n ∧ Iv n' r4 m4 ∧ Go m H m4 H4 ∧ Rep X.K Z m4 H4 g4 r4) := fun g4 H4 r4 m4 q4 go4 rp4 => by
          obtain ⟨n', hlt, iv4⟩ := q4
          exact ⟨n', r4, m4, hlt, iv4, g3.trans go4, rp4⟩
        exact q'.run Z g2 H3 _ Wx (rp2.go go3 so3) tk ⟨nn, np.rt.go g3, np.nx.go g3, nn, np.ex.go g3⟩
    | false => exact np.nx g2 H3 r2 m3 q g3 (rp2.go go3 so3)
end
/-! ### dicts of written keys -/
def putKd (kvs : List (Key × Dt)) (k : Key) (v : Dt) : List (Key × Dt) :=
  if (kvs.any fun kv => decide (kv.1 = k)) = true then kvs.map (fun kv => if kv.1 = k then (kv.1, v) else kv) else kvs ++ [(k, v)]
def mergeD (kvs more : List (Key × Dt)) : List (Key × Dt) := more.foldl (fun acc kv => putKd acc kv.1 kv.2) kvs
def valD (kvs : List (Key × Dt)) (k : Key) : Option Dt := (kvs.find? fun kv => decide (kv.1 = k)).map (·.2)
section
variable {K : PySem.W.Frag} {D : List Addr} {H : Hp}
theorem DaK.any {k : Key} : ∀ {ks : List (Key × Dt)} {vs : List (Key × V)}, DaK K D H ks vs → (ks.any fun kv => decide (kv.1 = k)) = vs.any fun kv => decide (kv.1 = k)
  | _, _, .nil => rfl
  | _, _, .cons _ h => by rw [List.any_cons, List.any_cons, DaK.any h]
theorem DaK.app : ∀ {ks ks' : List (Key × Dt)} {vs vs' : List (Key × V)}, DaK K D H ks vs → DaK K D H ks' vs' → DaK K D H (ks ++ ks') (vs ++ vs')
  | _, _, _, _, .nil, h => h
  | _, _, _, _, .cons h1 h2, h => .cons h1 (DaK.app h2 h)
theorem DaK.setv {k : Key} {d : Dt} {v : V} (q : Da K D H d v) : ∀ {ks : List (Key × Dt)} {vs : List (Key × V)}, DaK K D H ks vs → DaK K D H (ks.map fun kv => if kv.1 = k then (kv.1, d) else kv) (vs.map fun kv => if kv.1 = k then (kv.1, v) else kv)
  | _, _, .nil => .nil
  | _, _, .cons (k := k') h1 h2 => by
    rw [List.map_cons, List.map_cons]
    by_cases e : k' = k
    · rw [if_pos e, if_pos e]; exact .cons q (DaK.setv q h2)
    · rw [if_neg e, if_neg e]; exact .cons h1 (DaK.setv q h2)
theorem DaK.put {k : Key} {d : Dt} {v : V} (q : Da K D H d v) {ks : List (Key × Dt)} {vs : List (Key × V)} (h : DaK K D H ks vs) : DaK K D H (putKd ks k d) (putK vs k v) := by
  unfold putKd putK
  rw [h.any]
  split
  · exact h.setv q
  · exact h.app (.cons q .nil)
theorem DaK.merge : ∀ {ks' : List (Key × Dt)} {vs' : List (Key × V)}, DaK K D H ks' vs' → ∀ {ks : List (Key × Dt)} {vs : List (Key × V)}, DaK K D H ks vs → DaK K D H (mergeD ks ks') (mergeK vs vs')
  | _, _, .nil, _, _, h => h
  | _, _, .cons h1 h2, _, _, h => DaK.merge h2 (DaK.put h1 h)
theorem DaK.val {k : Key} : ∀ {ks : List (Key × Dt)} {vs : List (Key × V)} {d : Dt}, DaK K D H ks vs → valD ks k = some d → ∃ v, valV vs k = some v ∧ Da K D H d v
  | _, _, _, .nil, e => by cases e
  | (k', d') :: ks, (_, v') :: vs, d, .cons h1 h2, e => by
    unfold valD at e
    unfold valV
    rw [List.find?_cons] at e ⊢
    by_cases hk : k' = k
    · simp only [hk, decide_true] at e ⊢
      cases e
      exact ⟨v', rfl, h1⟩
    · simp only [hk, decide_false] at e ⊢
      exact DaK.val (ks := ks) (vs := vs) h2 e
theorem DaK.length : ∀ {ks : List (Key × Dt)} {vs : List (Key × V)}, DaK K D H ks vs → ks.length = vs.length
  | _, _, .nil => rfl
  | _, _, .cons _ h => by rw [List.length_cons, List.length_cons, DaK.length h]
end
/-- written keys and their values' expressions -/
inductive Dk : List (Option Expr) → List Expr → List (Str × Expr) → Prop
  | nil : Dk [] [] []
  | cons {k : Str} {j : Nat} {p : Pos} {v : Expr} {ks : List (Option Expr)} {vs : List Expr} {es : List (Str × Expr)} : Dk ks vs es → Dk (some (.Constant (.str k) j p) :: ks) (v :: vs) ((k, v) :: es)
def LP (X : Cx) (r : En) : List (Str × Expr) → Mu → (List (Key × Dt) → Mu → Prop) → Xd → Prop
  | [], m, F, _ => F [] m
  | (k, e) :: es, m, F, E => LE X e r m (fun d m1 => LP X r es m1 (fun kvs m2 => F ((.inr k, d) :: kvs) m2) E) E
section
variable {X : Cx} {r : En} {E : Xd} {pos : Pos} {k : Nat} {N : List Str}
theorem Dk.run {keys : List (Option Expr)} {vals : List Expr} {es : List (Str × Expr)} (h : Dk keys vals es) : ∃ trs, PPs X pos keys vals trs ∧ ∀ (Z : List Addr) (g : L2.St) (Wx : WX), Takes X Wx →
    ∀ (m : Mu) (H : Hp) (F : List (Key × Dt) → Mu → Prop) (Q : List (V × V) → Hp → Prop), LP X r es m F E → Rep X.K Z m H g r → NX X.K Z m H E Wx →
      (∀ kvs vs m' H', F kvs m' → Go m H m' H' → So X.K Z m' H' → DaK X.K (Z ++ dom m') H' kvs vs → Q (vs.map fun kv => (kV kv.1, kv.2)) H') → tPairs trs g H Q := by
  induction h with
  | nil => exact ⟨[], pps_nil, fun Z g Wx tk m H F Q h rp nx hq => hq [] [] m H h Ext.rfl' rp.so .nil⟩
  | @cons k j p v ks vs es _ ih =>
    obtain ⟨trs, hp, hr⟩ := ih
    refine ⟨_, pps_cons pe_str (pe_w (X := X) (e := v)) hp, fun Z g Wx tk m H F Q h rp nx hq => ?_⟩
    show wE X v g H _
    have h' : LE X v r m (fun d m1 => LP X r es m1 (fun kvs m2 => F ((.inr k, d) :: kvs) m2) E) E := h
    refine h'.run Z g H _ Wx rp tk (fun u H1 d m1 q go so da => ?_) nx
    refine hr Z g Wx tk m1 H1 _ _ q (rp.go go so) (nx.go go) fun kvs us m' H' f go2 so2 dk => ?_
    exact hq ((.inr k, d) :: kvs) ((.inr k, u) :: us) m' H' f (go.trans go2) so2 (.cons (da.move (go2.full Z)) dk)
theorem le_dct {keys : List (Option Expr)} {vals : List Expr} {es : List (Str × Expr)} {m : Mu} {F : Pd} (hk : Dk keys vals es) (h : LP X r es m (fun kvs m1 => kvs.length ≤ 15 ∧ F (.dct (mergeD [] kvs)) m1) E)
    (hall : keys.all (·.isSome) = true := by rfl) (hl : keys.length = vals.length := by rfl) (h0 : keys ≠ [] := by exact fun z => nomatch z) (h15 : keys.length ≤ 15 := by decide) : LE X (.Dict keys vals pos) r m F E := by
  refine ⟨fun Z g H Q Wx rp tk nk nx => ?_⟩
  obtain ⟨trs, hp, hr⟩ := hk.run (X := X) (r := r) (E := E) (pos := pos)
  refine (pe_disp hp hall hl h0 h15).w fun p hpn => ?_
  have hz : ∀ a ∈ p :: Z, a ∈ Z ∨ H a = none := fun a ha => by
    rcases List.mem_cons.mp ha with z | z
    · exact .inr (z ▸ hpn)
    · exact .inl z
  have go0 : Go m H m (upd H p (.dK [])) := Ext.fresh hpn
  have s0 := rp.so.hides (o := .dK []) hpn
  have rp0 : Rep X.K (p :: Z) m (upd H p (.dK [])) g r := ⟨s0, rp.len, fun i d e => by
    obtain ⟨v, h1, h2⟩ := rp.at' i d e
    exact ⟨v, h1, h2.move (Go.hide go0 hz)⟩⟩
  refine hr (p :: Z) g Wx tk m _ _ _ h rp0 (fun cls dx fs vs g' H' r' m' q go rp2 nd e1 e2 => ?_) (fun kvs vs m' H' f go2 so2 dk => ?_)
  · refine nx cls dx fs vs g' H' r' m' q (go0.trans go) ⟨rp2.so.drop, rp2.len, fun i d e => ?_⟩ (fun z => nd ?_) e1 (e2.move ?_)
    · obtain ⟨v, h1, h2⟩ := rp2.at' i d e
      exact ⟨v, h1, h2.move ⟨fun _ _ _ e => e, fun a ha => .inl (by
        rcases List.mem_append.mp ha with z | z
        · exact List.mem_append_left _ (List.mem_cons_of_mem _ z)
        · exact List.mem_append_right _ z)⟩⟩
    · rcases List.mem_append.mp z with z | z
      · exact List.mem_append_left _ (List.mem_cons_of_mem _ z)
      · exact List.mem_append_right _ z
    · exact ⟨fun _ _ _ e => e, fun a ha => .inl (by
        rcases List.mem_append.mp ha with z | z
        · exact List.mem_append_left _ (List.mem_cons_of_mem _ z)
        · exact List.mem_append_right _ z)⟩
  · have np : p ∉ dom m := fun z => rp.so.there (List.mem_append_right _ z) hpn
    have np2 : p ∉ dom m' := so2.dj p List.mem_cons_self
    refine ⟨go2.keep p _ np upd_same, vs, rfl, by rw [← dk.length]; exact f.1, ?_⟩
    obtain ⟨s6, x6⟩ := so2.hid (o := .dK (mergeK [] vs))
    have g3 : Go m H m' (upd H' p (.dK (mergeK [] vs))) := by
      refine ⟨fun a o n e => ?_, (go0.trans go2).new⟩
      rw [upd_ne (ne_of_none e hpn)]
      exact (go0.trans go2).keep a o n e
    have hd : DaK X.K ((p :: Z) ++ dom m') H' (mergeD [] kvs) (mergeK [] vs) := DaK.merge dk .nil
    refine nk _ _ _ m' f.2 g3 s6.drop (.dct (fun z => ?_) upd_same ((hd.move x6).move ⟨fun _ _ _ e => e, fun a ha => .inl ?_⟩))
    · rcases List.mem_append.mp z with z | z
      · exact rp.so.zs p z hpn
      · exact np2 z
    · rcases List.mem_append.mp ha with z | z
      · exact List.mem_append_left _ (List.mem_cons_of_mem _ z)
      · exact List.mem_append_right _ z
/-- d[k], k a text -/
theorem le_dget {o i : Expr} {m : Mu} {F : Pd} (gd : Gd k N X) (h : LE X o r m (fun x m1 => LE X i r m1 (fun y m2 => ∃ kvs z d, x = .dct kvs ∧ y = .str z ∧ valD kvs (.inr z) = some d ∧ F d m2) E) E) (hs : NoSl i := by intro _ _; rfl) : LE X (.Subscript o i pos) r m F E := by
  refine ⟨fun Z st H Q W rp tk nk nx => (pe_dget gd.hu pe_w pe_w hs).w ?_⟩
  refine h.run Z st H _ W rp tk (fun v H1 d m1 q go so da => ?_) nx
  refine q.run Z st H1 _ W (rp.go go so) tk (fun v2 H2 d2 m2 q2 go2 so2 da2 => ?_) (nx.go go)
  obtain ⟨kvs, z, d', rfl, rfl, hv, q2⟩ := q2
  have da1 := da.move (go2.full Z)
  cases da2
  cases da1 with
  | dct n h1 h2 =>
    obtain ⟨v', e1, e2⟩ := h2.val hv
    exact ⟨_, v', rfl, by rw [← e1]; exact DGet.k (k := .inr z) h1, nk v' H2 d' m2 q2 (go.trans go2) so2 e2⟩
end
end Dw
namespace Dw
open PySem PySem.Spec PyProof.Rows L2
theorem inV_str {x : Str} : ∀ ys : List Str, inV (.str x) (ys.map V.str) = decide (x ∈ ys)
  | [] => by simp [inV]
  | y :: ys => by
    have := inV_str (x := x) ys
    unfold inV at this ⊢
    rw [List.map_cons, List.any_cons, this]
    by_cases e : y = x
    · subst e; simp [eqV]
    · have e' : ¬ x = y := fun z => e z.symm
      simp [eqV, e, e']
theorem flat_strs (ys : List Str) : (ys.map V.str).all flatV = true := by simp [flatV]
section
variable {X : Cx} {r : En} {m : Mu} {G : Dt → Prop} {F : Pd} {E : Xd} {P : Pc} {pos : Pos} {k : Nat} {N : List Str}
theorem o_inT {x : Str} {ys : List Str} (q : G (.bl (decide (x ∈ ys)))) : O2 X (compareOp .In) (.str x) (.tup (ys.map Dt.str)) m G :=
  o2_of op_in_seq fun Z H vx vy Q so dx dy nk => by
    cases dx
    cases dy with
    | tup h1 h2 =>
      have e := strs_da h2
      subst e
      refine ⟨_, _, rfl, .inr h1.sq, rfl, flat_strs ys, nk _ H _ m ⟨rfl, ?_⟩ Ext.rfl' so (.bl _)⟩
      simp only [Bool.false_eq_true, if_false]
      rw [inV_str]; exact q
theorem o_notInT {x : Str} {ys : List Str} (q : G (.bl (!decide (x ∈ ys)))) : O2 X (compareOp .NotIn) (.str x) (.tup (ys.map Dt.str)) m G :=
  o2_of op_notIn_seq fun Z H vx vy Q so dx dy nk => by
    cases dx
    cases dy with
    | tup h1 h2 =>
      have e := strs_da h2
      subst e
      refine ⟨_, _, rfl, .inr h1.sq, rfl, flat_strs ys, nk _ H _ m ⟨rfl, ?_⟩ Ext.rfl' so (.bl _)⟩
      simp only [if_true]
      rw [inV_str]; exact q
theorem o_inL {x : Str} {ys : List Str} (q : G (.bl (decide (x ∈ ys)))) : O2 X (compareOp .In) (.str x) (.lst (ys.map Dt.str)) m G :=
  o2_of op_in_seq fun Z H vx vy Q so dx dy nk => by
    cases dx
    cases dy with
    | lst h1 h2 =>
      have e := strs_da h2
      subst e
      refine ⟨_, _, rfl, .inl h1.sq, rfl, flat_strs ys, nk _ H _ m ⟨rfl, ?_⟩ Ext.rfl' so (.bl _)⟩
      simp only [Bool.false_eq_true, if_false]
      rw [inV_str]; exact q
theorem o_notInL {x : Str} {ys : List Str} (q : G (.bl (!decide (x ∈ ys)))) : O2 X (compareOp .NotIn) (.str x) (.lst (ys.map Dt.str)) m G :=
  o2_of op_notIn_seq fun Z H vx vy Q so dx dy nk => by
    cases dx
    cases dy with
    | lst h1 h2 =>
      have e := strs_da h2
      subst e
      refine ⟨_, _, rfl, .inl h1.sq, rfl, flat_strs ys, nk _ H _ m ⟨rfl, ?_⟩ Ext.rfl' so (.bl _)⟩
      simp only [if_true]
      rw [inV_str]; exact q
/-- a module's tuple of texts -/
structure TupK (K : PySem.W.Frag) (t : Addr) (ys : List Str) : Prop where
  sq : SqT K H0 t (ys.map V.str)
theorem strs_dl {K : PySem.W.Frag} {D : List Addr} {H : Hp} : ∀ ys : List Str, DaL K D H (ys.map Dt.str) (ys.map V.str)
  | [] => .nil
  | y :: ys => .cons (.str y) (strs_dl ys)
theorem le_globT {x : Str} {t : Addr} {ys : List Str} (hm : X.mg x = some (.ref t)) (T : TupK X.K t ys) (q : F (.tup (ys.map Dt.str)) m) (hg : Gl X x := by rfl) (hdb : (x == ("__debug__" : Str)) = false := by decide) : LE X (.Name x pos) r m F E :=
  le_glob (v := .ref t) (d := .tup (ys.map Dt.str)) hm rfl (fun _ _ => .tup (.inr T.sq) (strs_dl ys)) q hg hdb
theorem ls_par3 {x y z : Str} {a b c : Expr} {px py pz pt pt2 : Pos} {kt k2 : Nat} {f : Dt → En} {g : Dt → Dt → En} {h3 : Dt → Dt → Dt → En} (gd : Gd k N X) (hp : Put N r x f) (hq : ∀ d, Put N (f d) y (g d)) (hr : ∀ d e, Put N (g d e) z (h3 d e))
    (h : LA X [a, b, c] r m (fun ds m1 => ∃ d1 d2 d3, ds = [d1, d2, d3] ∧ P.nx (h3 d1 d2 d3) m1) P.ex)
    (hxy : x ≠ y := by decide) (hxz : x ≠ z := by decide) (hyz : y ≠ z := by decide) (hx : X.env.scope.names.lookup x = some .local := by rfl) (hy : X.env.scope.names.lookup y = some .local := by rfl) (hz : X.env.scope.names.lookup z = some .local := by rfl)
    (hw : swappedStores [.Tuple [.Name x px, .Name y py, .Name z pz] kt pt] (.Tuple [a, b, c] k2 pt2) X.env = pure (some [x, y, z]) := by rfl) (hs : swapsWithSole [.Tuple [.Name x px, .Name y py, .Name z pz] kt pt] (.Tuple [a, b, c] k2 pt2) pos.line X.env = pure false := by rfl) :
    LS X (.Assign [.Tuple [.Name x px, .Name y py, .Name z pz] kt pt] (.Tuple [a, b, c] k2 pt2) pos) r m P := by
  obtain ⟨i, hi, hr1⟩ := hp.ix
  obtain ⟨j, hj, _⟩ := (hq .non).ix
  obtain ⟨l, hl, _⟩ := (hr .non .non).ix
  have hij : i ≠ j := fun w => hxy (Option.some.inj (hi.symm.trans (w ▸ hj)))
  have hil : i ≠ l := fun w => hxz (Option.some.inj (hi.symm.trans (w ▸ hl)))
  have hjl : j ≠ l := fun w => hyz (Option.some.inj (hj.symm.trans (w ▸ hl)))
  refine ⟨fun Z g' H D W rp tk np => (ps_par3 gd.calm gd.nd' (by rw [gd.hN]; exact hi) (by rw [gd.hN]; exact hj) (by rw [gd.hN]; exact hl) hij hil hjl hx hy hz pa_w hw hs).w (h.run Z g' H _ W rp tk (fun vs H1 ds m1 q go so da => ?_) np.ex)⟩
  obtain ⟨d1, d2, d3, rfl, q⟩ := q
  cases da with
  | cons h1 h2 =>
    cases h2 with
    | cons h2 h3' =>
      cases h3' with
      | cons h3' h4 =>
        cases h4
        refine ⟨_, _, _, rfl, ?_⟩
        obtain ⟨j2, hj2, hr2⟩ := (hq d1).ix
        have ej : j = j2 := nodup_ix gd.nd hj hj2
        subst ej
        obtain ⟨l2, hl2, hr3⟩ := (hr d1 d2).ix
        have el : l = l2 := nodup_ix gd.nd hl hl2
        subst el
        rw [hr3 d3, hr2 d2, hr1 d1] at q
        exact np.nx _ H1 _ m1 q go ((((rp.go go so).set i h1).set j h2).set l h3')
end
end Dw
namespace K06
open PySem PySem.Spec PyProof.Rows L2 Dw
-- ID callwords_k06_whole_lines_cut
def topS (i : Nat) : Stmt := PySem.Challenge.pw_callwords_k06_whole_lines_cut.main.body.getD i (.Pass ⟨0, 0, 0, 0⟩)
def clsB (s : Stmt) : List Stmt := match s with
  | .ClassDef _ _ _ b _ _ _ _ _ _ _ => b
  | _ => []
def inS (i j : Nat) : Stmt := (clsB (topS i)).getD j (.Pass ⟨0, 0, 0, 0⟩)
-- 0 __name__ = 'callwords.errors'
-- 1 class CallError(ValueError):
-- 2 class Missing(KeyError):
-- 3 class Barred(LookupError):
-- 4 class NoLine(CallError):
-- 5 class BadSign(CallError):
-- 6 class TooMany(Barred):
-- 7 __name__ = 'callwords.kinds'
-- 8 MOST_WORD = 40
abbrev s_is_word : Stmt := topS 9
abbrev N_is_word : List Str := ["thing", "sign"]
theorem sc_is_word : FnScope N_is_word ["thing"] (defScope s_is_word) := ⟨rfl, rfl, rfl, by decide +kernel, rfl, by decide +kernel, by decide +kernel⟩
-- 10 __name__ = 'callwords.lines'
-- 11 MOST_SIGNS = 2000
-- 12 MOST_WORDS = 40
-- 13 BLANK = ' '
-- 14 FEED = '\n'
-- 15 SINGLE = "'"
-- 16 DOUBLE = '"'
-- 17 STROKE = '\\'
-- 18 QUOTES = (SINGLE, DOUBLE)
abbrev s_is_line : Stmt := topS 19
abbrev N_is_line : List Str := ["thing", "sign"]
theorem sc_is_line : FnScope N_is_line ["thing"] (defScope s_is_line) := ⟨rfl, rfl, rfl, by decide +kernel, rfl, by decide +kernel, by decide +kernel⟩
-- class Cutter
abbrev s_Cutter_init : Stmt := inS 20 0
abbrev N_Cutter_init : List Str := ["self"]
theorem sc_Cutter_init : FnScope N_Cutter_init ["self"] (defScope s_Cutter_init) := ⟨rfl, rfl, rfl, by decide +kernel, rfl, by decide +kernel, by decide +kernel⟩
abbrev s_Cutter_takes : Stmt := inS 20 1
abbrev N_Cutter_takes : List Str := ["self", "number", "sign"]
theorem sc_Cutter_takes : FnScope N_Cutter_takes ["self", "number", "sign"] (defScope s_Cutter_takes) := ⟨rfl, rfl, rfl, by decide +kernel, rfl, by decide +kernel, by decide +kernel⟩
abbrev s_Cutter_takes_outside : Stmt := inS 20 2
abbrev N_Cutter_takes_outside : List Str := ["self", "number", "sign"]
theorem sc_Cutter_takes_outside : FnScope N_Cutter_takes_outside ["self", "number", "sign"] (defScope s_Cutter_takes_outside) := ⟨rfl, rfl, rfl, by decide +kernel, rfl, by decide +kernel, by decide +kernel⟩
abbrev s_Cutter_goes_in : Stmt := inS 20 3
abbrev N_Cutter_goes_in : List Str := ["self", "sign"]
theorem sc_Cutter_goes_in : FnScope N_Cutter_goes_in ["self", "sign"] (defScope s_Cutter_goes_in) := ⟨rfl, rfl, rfl, by decide +kernel, rfl, by decide +kernel, by decide +kernel⟩
abbrev s_Cutter_ends_word : Stmt := inS 20 4
abbrev N_Cutter_ends_word : List Str := ["self"]
theorem sc_Cutter_ends_word : FnScope N_Cutter_ends_word ["self"] (defScope s_Cutter_ends_word) := ⟨rfl, rfl, rfl, by decide +kernel, rfl, by decide +kernel, by decide +kernel⟩
abbrev s_gone_through : Stmt := topS 21
abbrev N_gone_through : List Str := ["line", "cutter", "number", "sign"]
theorem sc_gone_through : FnScope N_gone_through ["line"] (defScope s_gone_through) := ⟨rfl, rfl, rfl, by decide +kernel, rfl, by decide +kernel, by decide +kernel⟩
abbrev s_need_few : Stmt := topS 22
abbrev N_need_few : List Str := ["many"]
theorem sc_need_few : FnScope N_need_few ["many"] (defScope s_need_few) := ⟨rfl, rfl, rfl, by decide +kernel, rfl, by decide +kernel, by decide +kernel⟩
abbrev s_cut : Stmt := topS 23
abbrev N_cut : List Str := ["line", "cutter"]
theorem sc_cut : FnScope N_cut ["line"] (defScope s_cut) := ⟨rfl, rfl, rfl, by decide +kernel, rfl, by decide +kernel, by decide +kernel⟩
-- 24 __name__ = 'law_callwords_k06_whole_lines_cut'
abbrev s_l_box : Stmt := topS 25
abbrev N_l_box : List Str := ["_law_cell"]
theorem sc_l_box : FnScope N_l_box ["_law_cell"] (defScope s_l_box) := ⟨rfl, rfl, rfl, by decide +kernel, rfl, by decide +kernel, by decide +kernel⟩
abbrev s_l_take : Stmt := topS 26
abbrev N_l_take : List Str := ["_law_box_here", "_law_many", "_law_digit", "_law_number"]
theorem sc_l_take : FnScope N_l_take ["_law_box_here", "_law_many"] (defScope s_l_take) := ⟨rfl, rfl, rfl, by decide +kernel, rfl, by decide +kernel, by decide +kernel⟩
abbrev s_l_pick : Stmt := topS 27
abbrev N_l_pick : List Str := ["_law_box_here", "_law_some"]
theorem sc_l_pick : FnScope N_l_pick ["_law_box_here", "_law_some"] (defScope s_l_pick) := ⟨rfl, rfl, rfl, by decide +kernel, rfl, by decide +kernel, by decide +kernel⟩
abbrev s_l_sign : Stmt := topS 28
abbrev N_l_sign : List Str := ["_law_box_here", "_law_every"]
theorem sc_l_sign : FnScope N_l_sign ["_law_box_here"] (defScope s_l_sign) := ⟨rfl, rfl, rfl, by decide +kernel, rfl, by decide +kernel, by decide +kernel⟩
abbrev s_l_word : Stmt := topS 29
abbrev N_l_word : List Str := ["_law_box_here", "_law_most", "_law_many", "_law_k"]
theorem sc_l_word : FnScope N_l_word ["_law_box_here", "_law_most"] (defScope s_l_word) := ⟨rfl, rfl, rfl, by decide +kernel, rfl, by decide +kernel, by decide +kernel⟩
abbrev s_l_stroked : Stmt := topS 30
abbrev N_l_stroked : List Str := ["_law_box_here", "_law_word_here", "_law_needs", "_law_sign_here"]
theorem sc_l_stroked : FnScope N_l_stroked ["_law_box_here", "_law_word_here", "_law_needs"] (defScope s_l_stroked) := ⟨rfl, rfl, rfl, by decide +kernel, rfl, by decide +kernel, by decide +kernel⟩
abbrev s_l_written : Stmt := topS 31
abbrev N_l_written : List Str := ["_law_box_here", "_law_word_here", "_law_found", "_law_left", "_law_many", "_law_piece", "_law_way"]
theorem sc_l_written : FnScope N_l_written ["_law_box_here", "_law_word_here"] (defScope s_l_written) := ⟨rfl, rfl, rfl, by decide +kernel, rfl, by decide +kernel, by decide +kernel⟩
abbrev s_l_gap : Stmt := topS 32
abbrev N_l_gap : List Str := ["_law_box_here", "_law_few", "_law_k"]
theorem sc_l_gap : FnScope N_l_gap ["_law_box_here", "_law_few"] (defScope s_l_gap) := ⟨rfl, rfl, rfl, by decide +kernel, rfl, by decide +kernel, by decide +kernel⟩
abbrev s_l_good : Stmt := topS 33
abbrev N_l_good : List Str := ["_law_box_here", "_law_many", "_law_words", "_law_k", "_law_found", "_law_at", "_law_word_here"]
theorem sc_l_good : FnScope N_l_good ["_law_box_here"] (defScope s_l_good) := ⟨rfl, rfl, rfl, by decide +kernel, rfl, by decide +kernel, by decide +kernel⟩
abbrev s_l_line : Stmt := topS 34
abbrev N_l_line : List Str := ["_law_box_here", "_law_way", "_law_k", "_law_words", "_law_line_here", "_law_at", "_law_more"]
theorem sc_l_line : FnScope N_l_line ["_law_box_here"] (defScope s_l_line) := ⟨rfl, rfl, rfl, by decide +kernel, rfl, by decide +kernel, by decide +kernel⟩
abbrev s_l_state : Stmt := topS 35
abbrev N_l_state : List Str := ["_law_line_here", "_law_words", "_law_begun", "_law_quote", "_law_opened", "_law_taken", "_law_at", "_law_sign_here", "_law_within"]
theorem sc_l_state : FnScope N_l_state ["_law_line_here"] (defScope s_l_state) := ⟨rfl, rfl, rfl, by decide +kernel, rfl, by decide +kernel, by decide +kernel⟩
abbrev s_l_due : Stmt := topS 36
abbrev N_l_due : List Str := ["_law_line_here", "_law_found", "_law_words"]
theorem sc_l_due : FnScope N_l_due ["_law_line_here"] (defScope s_l_due) := ⟨rfl, rfl, rfl, by decide +kernel, rfl, by decide +kernel, by decide +kernel⟩
abbrev s_l_cut : Stmt := topS 37
abbrev N_l_cut : List Str := ["_law_line_here", "e"]
theorem sc_l_cut : FnScope N_l_cut ["_law_line_here"] (defScope s_l_cut) := ⟨rfl, rfl, rfl, by decide +kernel, rfl, by decide +kernel, by decide +kernel⟩
abbrev s_l_right : Stmt := topS 38
abbrev N_l_right : List Str := ["_law_line_here", "_law_found"]
theorem sc_l_right : FnScope N_l_right ["_law_line_here"] (defScope s_l_right) := ⟨rfl, rfl, rfl, by decide +kernel, rfl, by decide +kernel, by decide +kernel⟩
abbrev s_law : Stmt := topS 39
abbrev N_law : List Str := ["_law_script", "_law_cell", "_law_box_here", "_law_turn", "_law_line_here", "_law_words", "_law_many"]
theorem sc_law : FnScope N_law ["_law_script"] (defScope s_law) := ⟨rfl, rfl, rfl, by decide +kernel, rfl, by decide +kernel, by decide +kernel⟩
section
local macro_rules | `(tactic| tb_rel) => `(tactic| (repeat' (first | with_reducible exact At.here | with_reducible exact Put.here | with_reducible refine' At.there ?_ | with_reducible refine' Put.there ?_)))
local macro_rules | `(tactic| tb_start) => `(tactic| fail)
local macro_rules | `(tactic| k_caughtC0) => `(tactic| first
  | ((with_reducible show Dw.LE _ (.Name _ _) _ _ _ _); first
    | (refine' le_name (by assumption) ?hsl ?_; (case hsl => tb_rel))
    | refine le_globS (by assumption) ?_
    | refine le_globI (by assumption) ?_
    | refine le_ty (x := "int") (by assumption) bt_int ?_ | refine le_ty (x := "str") (by assumption) bt_str ?_ | refine le_ty (x := "bool") (by assumption) bt_bool ?_
    | refine le_ty (x := "list") (by assumption) bt_list ?_ | refine le_ty (x := "tuple") (by assumption) bt_tuple ?_ | refine le_ty (x := "dict") (by assumption) bt_dict ?_
    | (refine' le_nameS (by assumption) ?hsl ?_; (case hsl => tb_rel)))
  | ((with_reducible show Dw.LE _ (.Constant _ _ _) _ _ _ _); first | refine le_int ?_ | refine le_str ?_ | refine le_bl ?_ | refine le_non ?_)
  | ((with_reducible show Dw.LE _ (.BinOp _ _ _ _) _ _ _ _); refine le_bin ?_)
  | ((with_reducible show LA _ _ _ _ _ _); first | refine la_cons ?_ | refine la_nil ?_)
  | ((with_reducible show Dw.LE _ (.Compare _ _ _ _) _ _ _ _); first | refine le_cmp ?_ | refine le_chain ?_)
  | ((with_reducible show Dw.LE _ (.Call (.Name _ _) _ _ _) _ _ _ _); first
    | tb_start
    | refine le_callB (x := "len") (id := "len") bt_len (by assumption) ?_
    | refine le_callB (x := "isinstance") (id := "isinstance") bt_isinstance (by assumption) ?_
    | refine le_callB (x := "repr") (id := "repr") bt_repr (by assumption) ?_
    | refine le_callB (x := "all") (id := "all") bt_all (by assumption) ?_
    | refine le_callB (x := "any") (id := "any") bt_any (by assumption) ?_
    | refine le_callB (x := "max") (id := "max") bt_max (by assumption) ?_
    | refine le_callB (x := "min") (id := "min") bt_min (by assumption) ?_
    | refine le_callB (x := "abs") (id := "abs") bt_abs (by assumption) ?_
    | refine le_callB (x := "ord") (id := "ord") bt_ord (by assumption) ?_
    | refine le_callT (x := "int") (T := "int") bt_int (by assumption) ?_
    | refine le_callT (x := "str") (T := "str") bt_str (by assumption) ?_
    | refine le_callT (x := "list") (T := "list") bt_list (by assumption) ?_
    | refine le_callT (x := "tuple") (T := "tuple") bt_tuple (by assumption) ?_
    | refine le_call (by assumption) (by assumption) (by decide) ?_
    | refine le_call0 (by assumption) (by assumption) (by decide) ?_)
  | ((with_reducible show Dw.LE _ (.Subscript _ (.Slice _ _ _ _) _) _ _ _ _); fail)
  | ((with_reducible show Dw.LE _ (.Subscript _ _ _) _ _ _ _); first | refine le_ix ?_ (hs := pix_const) | refine le_ix ?_ (hs := pix_name) | refine le_ix ?_ (hs := pix_bin) | refine le_ix ?_ (hs := pix_call) | refine le_ix ?_ (hs := pix_un) | refine le_ix ?_ (hs := pix_sub) | refine le_ix ?_ (hs := pix_cmp))
  | ((with_reducible show Dw.LE _ (.List _ _) _ _ _ _); refine le_lst ?_)
  | ((with_reducible show Dw.LE _ (.Tuple _ _ _) _ _ _ _); refine le_tup ?_)
  | ((with_reducible show Dw.LE _ (.Dict _ _ _) _ _ _ _); refine le_dct0 ?_)
  | ((with_reducible show Dw.LE _ (.IfExp _ _ _ _) _ _ _ _); refine le_ife ?_)
  | ((with_reducible show Dw.LE _ (.UnaryOp .Not _ _) _ _ _ _); refine le_not ?_)
  | ((with_reducible show Dw.LE _ (.UnaryOp _ _ _) _ _ _ _); refine le_un ?_)
  | ((with_reducible show Dw.LE _ (.BoolOp _ _ _) _ _ _ _); first | refine le_and ?_ | refine le_or ?_ | refine le_one ?_)
  | ((with_reducible show LO _ _ _ _ _ _); first | refine lo_none ?_ | refine lo_some ?_))
local macro_rules | `(tactic| k_caughtCB) => `(tactic| first
  | ((with_reducible show O2 _ (binaryOp _) _ _ _ _); first | with_reducible refine o_add ?_ | with_reducible refine o_sub ?_)
  | ((with_reducible show O2 _ (compareOp _) _ _ _ _); first
    | with_reducible refine o_eqRs ?_ | with_reducible refine o_neRs ?_ | with_reducible refine o_eqRi ?_ | with_reducible refine o_neRi ?_ | with_reducible refine o_eq_str ?_ | with_reducible refine o_ne_str ?_ | with_reducible refine o_eq_int ?_ | with_reducible refine o_ne_int ?_ | with_reducible refine o_le ?_ | with_reducible refine o_lt ?_ | with_reducible refine o_gt ?_ | with_reducible refine o_ge ?_
    | with_reducible refine o_isN ?_ | with_reducible refine o_notN ?_ | with_reducible refine o_inS ?_ | with_reducible refine o_notInS ?_ | with_reducible refine o_leS ?_ | with_reducible refine o_ltS ?_ | with_reducible refine o_eq rfl rfl rfl ?_ | with_reducible refine o_ne rfl rfl rfl ?_)
  | ((with_reducible show OC _ _ _ _ _); first
    | with_reducible refine c_len_lst ?_ | with_reducible refine c_len_tup ?_ | with_reducible refine c_len_frz ?_ | with_reducible refine c_abs ?_ | with_reducible refine c_max2 (Gd.calm (by assumption)) ?_ | with_reducible refine c_min2 (Gd.calm (by assumption)) ?_ | with_reducible refine c_int_bl ?_ | with_reducible refine c_ord ?_
    | with_reducible refine c_list_lst ?_ | with_reducible refine c_list_tup ?_ | with_reducible refine c_tup_lst ?_
    | with_reducible refine c_isi_int (by first | assumption | exact rfl) ?_ | with_reducible refine c_isi_str (by first | assumption | exact rfl) ?_ | with_reducible refine c_isi_bool (by first | assumption | exact rfl) ?_
    | with_reducible refine c_isi_list (by first | assumption | exact rfl) ?_ | with_reducible refine c_isi_tuple (by first | assumption | exact rfl) ?_ | with_reducible refine c_isi_dict (by first | assumption | exact rfl) ?_)
  | ((with_reducible show O1 _ _ _ _ _); with_reducible refine o_neg ?_))
local macro_rules | `(tactic| k_caughtN0) => `(tactic| first
  | ((with_reducible show LB _ _ _ _ _); first | refine lb_one ?_ | refine lb_cons ?_ | refine lb_nil ?_)
  | ((with_reducible show LS _ (.Assign _ _ _) _ _ _); first
    | (refine' ls_set (by assumption) ?hsl ?_; (case hsl => tb_rel))
    | refine ls_setix ?_)
  | ((with_reducible show LS _ (.If _ _ _ _) _ _ _); refine ls_if ?_)
  | ((with_reducible show LS _ (.Return _ _) _ _ _); first | refine ls_ret ?_ | refine ls_retN ?_)
  | ((with_reducible show LS _ (.Expr _ _) _ _ _); refine ls_expr ?_)
  | ((with_reducible show LT _ (.Compare _ _ _ _) _ _ _ _); first | refine lt_cmp ?_ | refine lt_chain ?_)
  | ((with_reducible show LT _ (.UnaryOp .Not _ _) _ _ _ _); refine lt_not ?_)
  | ((with_reducible show LT _ (.BoolOp _ _ _) _ _ _ _); refine lt_w ?_)
  | ((with_reducible show LW _ _ _ _ _ _); first | refine lw_and ?_ | refine lw_or ?_ | refine lw_and1 ?_ | refine lw_or1 ?_)
  | ((with_reducible show LT _ _ _ _ _ _); refine lt_val ?_)
  | ((with_reducible show LF _ _ _ _ _ _); first | refine lf_nil ?_ | refine lf_one ?_)
  | ((with_reducible show LS _ _ _ _ _); first | refine ls_break ?_ | refine ls_cont ?_ | refine ls_pass ?_))
local macro_rules | `(tactic| k_caughtNB) => `(tactic| (repeat (first | k_caughtC0 | k_caughtCB | k_caughtN0 | ((with_reducible show Pc.nx _ _ _); dsimp only) | ((with_reducible show Pc.rt _ _ _); dsimp only) | ((with_reducible show And (List.length _ ≤ sizeLine) _); refine And.intro (lenS rfl) ?_) | ((with_reducible show ite _ _ _); first | with_reducible refine itT ?_ | with_reducible refine itF ?_))))
/-! ### cutting, in plain words -/
structure Cs where
  ws : List (List Nat)
  bg : Option (List Nat)
  qt : List Nat
  op : Nat
  tk : Bool
def goIn (c : Nat) (s : Cs) : Cs := { s with bg := some (s.bg.getD [] ++ [c]) }
def inOk (c : Nat) (s : Cs) : Bool := (!decide (c = 10)) && decide ((s.bg.getD []).length + 1 ≤ 40)
def endW (s : Cs) : Cs := { s with ws := s.ws ++ s.bg.toList, bg := none }
def outs (n c : Nat) (s : Cs) : Cs × Bool :=
  if c = 32 ∨ c = 10 then (endW s, true)
  else if c ≠ 39 ∧ c ≠ 34 ∧ c ≠ 92 then (goIn c s, inOk c s)
  else if c = 92 then ({ s with bg := some (s.bg.getD []), tk := true }, true)
  else ({ s with bg := some (s.bg.getD []), qt := [c], op := n }, true)
def stp (n c : Nat) (s : Cs) : Cs × Bool :=
  if s.tk = true then (goIn c { s with tk := false }, inOk c s)
  else if s.qt = [] then outs n c s
  else if [c] = s.qt then ({ s with qt := [] }, true)
  else if c = 92 ∧ s.qt = [34] then ({ s with tk := true }, true)
  else (goIn c s, inOk c s)
/-- the number of the first wrong sign, or the state -/
def run : Nat → List Nat → Cs → Nat ⊕ Cs
  | _, [], s => .inr s
  | n, c :: l, s => if (stp n c s).2 = true then run (n + 1) l (stp n c s).1 else .inl n
def c0 : Cs := ⟨[], none, [], 0, false⟩
inductive Tl where | sign (n : Nat) | many (n : Nat) | told (ws : List (List Nat))
def cutR (l : List Nat) : Tl :=
  match run 0 l c0 with
  | .inl n => .sign n
  | .inr s => if s.tk = true then .sign (l.length - 1) else if s.qt ≠ [] then .sign s.op else if (endW s).ws.length ≤ 40 then .told (endW s).ws else .many (endW s).ws.length
/-- a line -/
structure Ln (l : List Nat) : Prop where
  len : l.length ≤ 2000
  sg : ∀ c ∈ l, (32 ≤ c ∧ c ≤ 126) ∨ c = 10
/-! ### the box -/
def Bx (b : Addr) (n : Nat) (m : Mu) : Prop := ∃ x y z : Int, (b, Mc.lst [.int x, .int y, .int z]) ∈ m ∧ 0 ≤ x ∧ 0 ≤ y ∧ y < 2147483629 ∧ 0 ≤ z ∧ z ≤ n
theorem Bx.mono {b : Addr} {n k : Nat} {m : Mu} (h : Bx b n m) (hk : n ≤ k) : Bx b k m := by
  obtain ⟨x, y, z, h1, h2, h3, h4, h5, h6⟩ := h
  exact ⟨x, y, z, h1, h2, h3, h4, h5, by omega⟩
def W_take : Spd := fun ds m F E => ∃ b k n, ds = [.raw (.ref b), .int k] ∧ 0 < k ∧ k < 2 ^ 200 ∧ Bx b n m ∧ n ≤ 1000000 ∧ ∀ r m', 0 ≤ r → r < k → Bx b (n + 1) m' → F (.int r) m'
theorem W_take.ap {b : Addr} {k : Int} {n : Nat} {m : Mu} {F : Pd} {E : Value → List (Str × Dt) → Mu → Prop} (k0 : 0 < k) (k1 : k < 2 ^ 200) (hb : Bx b n m) (hn : n ≤ 1000000) (q : ∀ r m', 0 ≤ r → r < k → Bx b (n + 1) m' → F (.int r) m') : W_take [.raw (.ref b), .int k] m F E := ⟨b, k, n, rfl, k0, k1, hb, hn, q⟩
def W_box : Spd := fun ds m F E => ∃ c : Int, ds = [.int c] ∧ ∀ p m', Bx p 0 m' → F (.raw (.ref p)) m'
def W_cell : Spd := fun ds m F E => ∃ (ns : List Int) (k : Int), ds = [.frz (ns.map Dt.int), .int k] ∧ 0 ≤ k ∧ k < 1000 ∧ ns.length ≤ 1000 ∧ ∀ c : Int, F (.int c) m
theorem at_map {ns : List Int} {k : Int} (h0 : 0 ≤ k) (h : k < ns.length) : ∃ c : Int, atI (ns.map Dt.int) k = some (.int c) := by
  obtain ⟨j, rfl⟩ := Int.eq_ofNat_of_zero_le h0
  have hj : j < ns.length := by simpa using h
  refine ⟨ns[j], ?_⟩
  exact atI_nat (by rw [List.getElem?_map, List.getElem?_eq_getElem hj]; rfl)
section
variable {P : Program} {w : World} {K : PySem.W.Frag} {mg : Str → Option Value} {base : Heap}
theorem ok_take {f : Addr} {fd : FuncData} (F : Fun K "_law_take" "_law_take" s_l_take f fd) : FnG P w K mg base 1 f fd ["_law_box_here", "_law_many"] (toSp K W_take) := by
  refine fn_dw F sc_l_take (fun ds m Q E h => ?_) (fun cdv A outer s H E gd ds m Q E' h => ?_)
  · obtain ⟨b, k, n, rfl, _⟩ := h
    rfl
  · obtain ⟨b, k, n, rfl, k0, k1, ⟨x, y, z, hb, hx, hy, hy2, hz, hzn⟩, hn, q⟩ := h
    show LB _ _ [some (.raw (.ref b)), some (.int k), none, none] m _
    k_caughtNB
    refine oi_mut hb rfl ?_
    k_caughtNB
    refine ⟨_, rfl, ite2 (fun c => ?_) (fun c => ?_)⟩
    · k_caughtNB
      refine oi_mut hb rfl ?_
      k_caughtNB
      refine o_mod k0 ?_
      k_caughtNB
      refine oi_mut hb rfl ?_
      k_caughtNB
      refine o_fdivW (wide_div (b := 200) k0 (by omega) (by decide) (by decide)) ?_
      k_caughtNB
      refine ⟨b, _, 0, 0, rfl, rfl, hb, rfl, ?_⟩
      k_caughtNB
      refine q _ _ (Int.emod_nonneg _ (by omega)) (Int.emod_lt_of_pos _ k0) ⟨_, y, z, put_mem hb, Int.ediv_nonneg hx (by omega), hy, hy2, hz, by omega⟩
    · k_caughtNB
      refine oi_mut hb rfl ?_
      k_caughtNB
      refine ⟨b, _, 2, 2, rfl, rfl, hb, rfl, ?_⟩
      have hb2 : (b, Mc.lst [.int x, .int y, .int (z + 1)]) ∈ put b (Mc.lst (([.int x, .int y, .int z] : List Dt).set 2 (.int (z + 1)))) m := put_mem hb
      k_caughtNB
      refine oi_mut hb2 rfl ?_
      k_caughtNB
      refine oi_mut hb2 rfl ?_
      refine o_mul (.inl (by decide)) ?_
      k_caughtNB
      refine o_pow ⟨by decide, by decide, by omega⟩ ?_
      k_caughtNB
      refine o_modG (by decide) (fun n1 hn0 hn2 => ?_)
      k_caughtNB
      refine oi_mut hb2 rfl ?_
      refine o_mul (.inl ⟨by omega, by omega⟩) ?_
      have hm1 : n1 * (z + 1) ≤ 2147483647 * 1000001 := Int.mul_le_mul (by omega) (by omega) (by omega) (by omega)
      have hm0 : 0 ≤ n1 * (z + 1) := Int.mul_nonneg hn0 (by omega)
      generalize n1 * (z + 1) = pz at hm0 hm1
      k_caughtNB
      refine o_pow ⟨by decide, by decide, by omega⟩ ?_
      k_caughtNB
      refine o_mod (by decide) ?_
      k_caughtNB
      refine o_fdiv ⟨by decide, by decide⟩ ?_
      k_caughtNB
      refine o_mod k0 ?_
      exact q _ _ (Int.emod_nonneg _ (by omega)) (Int.emod_lt_of_pos _ k0) ⟨x, y, z + 1, hb2, hx, hy, hy2, by omega, by omega⟩
theorem ok_box {f : Addr} {fd : FuncData} (B : Bi mg) (F : Fun K "_law_box" "_law_box" s_l_box f fd) : FnG P w K mg base 1 f fd ["_law_cell"] (toSp K W_box) := by
  refine fn_dw F sc_l_box (fun ds m Q E h => ?_) (fun cdv A outer s H E gd ds m Q E' h => ?_)
  · obtain ⟨c, rfl, _⟩ := h
    rfl
  · obtain ⟨c, rfl, q⟩ := h
    have hmax := B.max
    show LB _ _ [some (.int c)] m _
    k_caughtN0
    k_caughtN0
    refine le_mut ?_
    k_caughtNB
    refine o_pow ⟨by decide, by decide, by decide⟩ ?_
    k_caughtNB
    refine o_mod (by decide) ?_
    k_caughtNB
    intro p hp
    refine q p _ ⟨_, _, 0, List.mem_cons_self, by split <;> omega, Int.emod_nonneg _ (by decide), Int.emod_lt_of_pos _ (by decide), by omega, by omega⟩
end
/-! ### things -/
abbrev LT26 : List Nat := [97, 98, 99, 100, 101, 102, 103, 104, 105, 106, 107, 108, 109, 110, 111, 112, 113, 114, 115, 116, 117, 118, 119, 120, 121, 122]
def isLet (c : Nat) : Bool := decide (97 ≤ c ∧ c ≤ 122)
def isPri (c : Nat) : Bool := decide (32 ≤ c ∧ c ≤ 126)
theorem isLet_in (c : Nat) : decide (c ∈ LT26) = isLet c := by
  unfold isLet LT26
  apply decide_eq_decide.mpr
  simp only [List.mem_cons, List.not_mem_nil, or_false]
  omega
def fName : Dt → Bool
  | .str x => decide (1 ≤ x.cps.toList.length ∧ x.cps.toList.length ≤ 8) && x.cps.toList.all isLet
  | _ => false
def fWord : Dt → Bool
  | .str x => decide (x.cps.toList.length ≤ 40) && x.cps.toList.all isPri
  | _ => false
def fWhole (lo hi : Int) : Dt → Bool
  | .int i => decide (lo ≤ i ∧ i ≤ hi)
  | _ => false
def fLetter (d : Dt) : Bool := fName d && (match d with | .str x => decide (x.cps.toList.length = 1) | _ => false)
def strOf : Dt → Str | .str x => x | _ => Str.empty
def fOne (ds : List Dt) : Bool := decide (1 ≤ ds.length ∧ ds.length ≤ 8) && ds.all fName && decide (ds.map strOf).Nodup
def fKind : Dt → Bool
  | .tup (.str w :: ds) =>
    if w = "number" then (match ds with | [a, b] => fWhole (-999999) 999999 a && fWhole (-999999) 999999 b && (match a, b with | .int i, .int j => decide (i ≤ j) | _, _ => false) | _ => false)
    else if w = "one" then (match ds with | [.tup es] => fOne es | _ => false)
    else if w = "text" then (match ds with | [a] => fWhole 1 20 a | _ => false)
    else if w = "own" then (match ds with | [a] => fName a | _ => false)
    else decide (w = "name") && ds.isEmpty
  | _ => false
/-- texts are short, isinstance is known -/
def Th (K : PySem.W.Frag) (d : Dt) : Prop := Thg K d ∧ (match d with | .str x => x.length ≤ 100000 | .tup ds => ds.length ≤ 10000 | _ => True)
def W_whole (K : PySem.W.Frag) : Spd := fun ds m F E => ∃ d lo hi, ds = [d, .int lo, .int hi] ∧ Th K d ∧ F (.bl (fWhole lo hi d)) m
def W_pred (K : PySem.W.Frag) (f : Dt → Bool) : Spd := fun ds m F E => ∃ d, ds = [d] ∧ Th K d ∧ F (.bl (f d)) m
theorem whole_int {d : Dt} (c : isi .int d = true) (c2 : (!isi .bool d) = true) : ∃ i, d = .int i := by
  cases d <;> first | exact ⟨_, rfl⟩ | (cases c; done) | (cases c2; done)
theorem whole_bl {d : Dt} {lo hi : Int} (c2 : (!isi .bool d) = false) : fWhole lo hi d = false := by
  cases d <;> first | rfl | (cases c2; done)
theorem whole_not {d : Dt} {lo hi : Int} (c2 : isi .int d = false) : fWhole lo hi d = false := by
  cases d <;> first | rfl | (cases c2; done)
theorem one_lt (a b : Nat) : decide (([a] : List Nat) < [b]) = decide (a < b) := by
  apply decide_eq_decide.mpr
  constructor
  · intro h
    cases h with
    | rel h => exact h
    | cons h => cases h
  · exact fun h => List.Lex.rel h
theorem leS_one {X : Cx} {m : Mu} {G : Dt → Prop} {a b : Nat} (q : G (.bl (decide (a ≤ b)))) : O2 X (compareOp .LtE) (.str (SX.S [a])) (.str (SX.S [b])) m G := o_leS (by
  show G (.bl (!decide (([b] : List Nat) < [a])))
  rw [one_lt, show (!decide (b < a)) = decide (a ≤ b) by by_cases h : b < a <;> simp [h] <;> omega]
  exact q)
theorem str_or (d : Dt) : (∃ l, d = .str (SX.S l)) ∨ isi .str d = false := by
  cases d <;> first | exact .inl ⟨_, congrArg Dt.str (SX.S_tl _).symm⟩ | exact .inr rfl
theorem name_S (l : List Nat) : fName (.str (SX.S l)) = (decide (1 ≤ l.length ∧ l.length ≤ 8) && l.all isLet) := rfl
theorem word_S (l : List Nat) : fWord (.str (SX.S l)) = (decide (l.length ≤ 40) && l.all isPri) := rfl
theorem name_no {d : Dt} (h : isi .str d = false) : fName d = false := by cases d <;> first | rfl | (cases h; done)
theorem word_no {d : Dt} (h : isi .str d = false) : fWord d = false := by cases d <;> first | rfl | (cases h; done)
theorem filt_all {l : List Nat} {p : Nat → Bool} : ((l.filter fun c => !p c).map fun c => Dt.str (SX.S [c])).isEmpty = l.all p := by
  induction l with
  | nil => rfl
  | cons a t ih =>
    rw [List.filter_cons, List.all_cons]
    cases h : p a with
    | true => simpa [h] using ih
    | false => simp
section
variable {P : Program} {w : World} {K : PySem.W.Frag} {mg : Str → Option Value} {base : Heap}
theorem ok_word {f : Addr} {fd : FuncData} {t1 : Tok} (B : Bi mg) (g1 : mg "MOST_WORD" = some (.int 40 t1)) (F : Fun K "is_word" "is_word" s_is_word f fd) : FnG P w K mg base 1 f fd ["thing"] (toSp K (W_pred K fWord)) := by
  refine fn_dw F sc_is_word (fun ds m Q E h => ?_) (fun cdv A outer s H E gd ds m Q E' h => ?_)
  · obtain ⟨d, rfl, _⟩ := h
    rfl
  · obtain ⟨d, rfl, ht, q⟩ := h
    have hb1 := B.isinstance; have hb2 := B.str; have hb3 := B.len; have hb4 := B.all
    show LB _ _ [some d, none] m _
    k_caughtNB
    refine c_isi_str ht.1 ?_
    refine ⟨_, rfl, ite2 (fun c => ?_) (fun c => ?_)⟩
    · rw [word_no (by simpa using c)] at q
      k_caughtNB
      exact q
    · rcases str_or d with ⟨l, rfl⟩ | h
      · have hz : l.length ≤ sizeLine := by have := ht.2; have e : (SX.S l).length ≤ 100000 := this; rw [SX.S_len] at e; exact Nat.le_trans e (by decide)
        rw [word_S] at q
        k_caughtNB
        refine c_lenS hz ?_
        k_caughtNB
        refine ⟨_, rfl, ite2 (fun c1 => ?_) (fun c1 => ?_)⟩
        · have c1 := of_decide_eq_true c1
          rw [show decide (l.length ≤ 40) = false from decide_eq_false (by omega), Bool.false_and] at q
          k_caughtNB
          exact q
        · have c1 : ¬ (40 : Int) < l.length := fun z => c1 (decide_eq_true z)
          rw [show decide (l.length ≤ 40) = true from decide_eq_true (by omega), Bool.true_and] at q
          k_caughtNB
          refine' le_lcS (defScope s_is_word) gd ?hsl _ ?hli
          (case hsl => tb_rel)
          case hli =>
            refine li_str ?_
            k_caughtNB
            refine ⟨_, rfl, ?_⟩
            rw [signsS]
            refine lc_map (ds := l.map fun c => Dt.str (SX.S [c])) (fun d => match d with | .str y => .bl (isPri (y.cps.toList.headD 0)) | d => d) gd (by rw [List.length_map]; exact hz) (fun d hd s1 H1 C1 cl1 fp1 gd1 => ?_) ?_
            · obtain ⟨c, hc, rfl⟩ := List.mem_map.mp hd
              show Dw.LE _ _ _ _ (fun y m4 => y = Dt.bl (isPri c) ∧ m4 = m) _
              refine le_chain ?_
              refine le_str ?_
              refine' le_name gd1 ?hsl ?_
              (case hsl => tb_rel)
              refine leS_one (a := 32) (b := c) ?_
              refine ⟨_, rfl, ite2 (fun c3 => ?_) (fun c3 => ?_)⟩
              · refine le_str ?_
                refine leS_one (a := c) (b := 126) ?_
                refine ⟨congrArg Dt.bl (decide_eq_decide.mpr ⟨fun h => ⟨of_decide_eq_true c3, h⟩, fun h => h.2⟩), rfl⟩
              · exact ⟨congrArg Dt.bl (decide_eq_false fun h => c3 (decide_eq_true h.1)).symm, rfl⟩
            · k_caughtNB
              rw [List.map_map]
              have em : (l.map ((fun d => match d with | .str y => Dt.bl (isPri (y.cps.toList.headD 0)) | d => d) ∘ fun c => Dt.str (SX.S [c]))) = (l.map isPri).map Dt.bl := by rw [List.map_map]; rfl
              rw [em]
              refine c_all gd.calm ?_
              rw [show (l.map isPri).all id = l.all isPri by rw [List.all_map]; rfl]
              exact q
      · exact absurd (by simp [h]) c
end
end
section
local macro_rules | `(tactic| tb_rel) => `(tactic| (repeat' (first | with_reducible exact At.here | with_reducible exact Put.here | with_reducible refine' At.there ?_ | with_reducible refine' Put.there ?_)))
local macro_rules | `(tactic| tb_start) => `(tactic| fail)
local macro_rules | `(tactic| k_caughtNB) => `(tactic| (repeat (first
  | ((with_reducible show Dw.LE _ _ _ _ _ _); first
    | ((with_reducible show Dw.LE _ (.Name _ _) _ _ _ _); first
      | (refine' le_name (by assumption) ?hsl ?_; (case hsl => tb_rel))
      | refine le_globS (by assumption) ?_
      | refine le_globI (by assumption) ?_
      | refine le_globT (by assumption) (by assumption) ?_
      | refine le_ty (x := "int") (by assumption) bt_int ?_ | refine le_ty (x := "str") (by assumption) bt_str ?_ | refine le_ty (x := "bool") (by assumption) bt_bool ?_
      | refine le_ty (x := "list") (by assumption) bt_list ?_ | refine le_ty (x := "tuple") (by assumption) bt_tuple ?_ | refine le_ty (x := "dict") (by assumption) bt_dict ?_
      | (refine' le_nameS (by assumption) ?hsl ?_; (case hsl => tb_rel)))
    | ((with_reducible show Dw.LE _ (.Constant _ _ _) _ _ _ _); first | refine le_int ?_ | refine le_str ?_ | refine le_bl ?_ | refine le_non ?_)
    | tb_start
    | ((with_reducible show Dw.LE _ (.Call (.Name _ _) _ _ _) _ _ _ _); first
      | refine le_callB (x := "len") (id := "len") bt_len (by assumption) ?_
      | refine le_callB (x := "isinstance") (id := "isinstance") bt_isinstance (by assumption) ?_
      | refine le_callB (x := "repr") (id := "repr") bt_repr (by assumption) ?_
      | refine le_callB (x := "all") (id := "all") bt_all (by assumption) ?_
      | refine le_callB (x := "any") (id := "any") bt_any (by assumption) ?_
      | refine le_callB (x := "max") (id := "max") bt_max (by assumption) ?_
      | refine le_callB (x := "min") (id := "min") bt_min (by assumption) ?_
      | refine le_callB (x := "abs") (id := "abs") bt_abs (by assumption) ?_
      | refine le_callB (x := "ord") (id := "ord") bt_ord (by assumption) ?_
      | refine le_callT (x := "int") (T := "int") bt_int (by assumption) ?_
      | refine le_callT (x := "str") (T := "str") bt_str (by assumption) ?_
      | refine le_callT (x := "list") (T := "list") bt_list (by assumption) ?_
      | refine le_callT (x := "tuple") (T := "tuple") bt_tuple (by assumption) ?_
      | refine le_call (by assumption) (by assumption) (by first | decide | omega) ?_
      | refine le_call0 (by assumption) (by assumption) (by first | decide | omega) ?_)
    | ((with_reducible show Dw.LE _ (.Attribute _ _ _) _ _ _ _); refine le_fldG (by assumption) ?_)
    | ((with_reducible show Dw.LE _ (.Call (.Attribute _ _ _) (_ :: _) [] _) _ _ _ _); refine le_meth (by assumption) (by assumption) (by decide) ?_)
    | ((with_reducible show Dw.LE _ (.Call (.Attribute _ _ _) [] [] _) _ _ _ _); refine le_meth0 (by assumption) (by assumption) (by decide) ?_)
    | ((with_reducible show Dw.LE _ (.BinOp _ _ _ _) _ _ _ _); refine le_bin ?_)
    | ((with_reducible show Dw.LE _ (.Compare _ _ _ _) _ _ _ _); first | refine le_cmp ?_ | refine le_chain ?_)
    | ((with_reducible show Dw.LE _ (.Subscript _ (.Slice _ _ _ _) _) _ _ _ _); fail)
    | ((with_reducible show Dw.LE _ (.Subscript _ (.Constant (.str _) _ _) _) _ _ _ _); refine le_dget (by assumption) ?_)
    | ((with_reducible show Dw.LE _ (.Subscript _ (.Constant _ _ _) _) _ _ _ _); refine le_ix ?_ (hs := pix_const))
    | ((with_reducible show Dw.LE _ (.Subscript _ (.Name _ _) _) _ _ _ _); refine le_ix ?_ (hs := pix_name))
    | ((with_reducible show Dw.LE _ (.Subscript _ _ _) _ _ _ _); first | refine le_ix ?_ (hs := pix_bin) | refine le_ix ?_ (hs := pix_call) | refine le_ix ?_ (hs := pix_un) | refine le_ix ?_ (hs := pix_sub) | refine le_ix ?_ (hs := pix_cmp))
    | ((with_reducible show Dw.LE _ (.List _ _) _ _ _ _); refine le_lst ?_)
    | ((with_reducible show Dw.LE _ (.Tuple _ _ _) _ _ _ _); refine le_tup ?_)
    | ((with_reducible show Dw.LE _ (.Dict _ _ _) _ _ _ _); refine le_dct0 ?_)
    | ((with_reducible show Dw.LE _ (.IfExp _ _ _ _) _ _ _ _); refine le_ife ?_)
    | ((with_reducible show Dw.LE _ (.UnaryOp .Not _ _) _ _ _ _); refine le_not ?_)
    | ((with_reducible show Dw.LE _ (.UnaryOp _ _ _) _ _ _ _); refine le_un ?_)
    | ((with_reducible show Dw.LE _ (.BoolOp _ _ _) _ _ _ _); first | refine le_and ?_ | refine le_or ?_ | refine le_one ?_))
  | ((with_reducible show LA _ _ _ _ _ _); first | refine la_cons ?_ | refine la_nil ?_)
  | ((with_reducible show O2 _ (binaryOp _) _ _ _ _); first | with_reducible refine o_add ?_ | with_reducible refine o_sub ?_)
  | ((with_reducible show O2 _ (compareOp _) _ _ _ _); first
    | with_reducible refine o_eqRs ?_ | with_reducible refine o_neRs ?_ | with_reducible refine o_eqRi ?_ | with_reducible refine o_neRi ?_ | with_reducible refine o_eq_str ?_ | with_reducible refine o_ne_str ?_ | with_reducible refine o_eq_int ?_ | with_reducible refine o_ne_int ?_ | with_reducible refine o_le ?_ | with_reducible refine o_lt ?_ | with_reducible refine o_gt ?_ | with_reducible refine o_ge ?_
    | with_reducible refine o_isN ?_ | with_reducible refine o_notN ?_ | with_reducible refine o_inS ?_ | with_reducible refine o_notInS ?_ | with_reducible refine o_leS ?_ | with_reducible refine o_ltS ?_ | with_reducible refine o_eq rfl rfl rfl ?_ | with_reducible refine o_ne rfl rfl rfl ?_)
  | ((with_reducible show OC _ _ _ _ _); first
    | ((with_reducible show OC _ (.builtin "isinstance") [_, .raw (.ty _)] _ _); first
      | refine c_isi_int (by first | assumption | exact rfl) ?_ | refine c_isi_str (by first | assumption | exact rfl) ?_ | refine c_isi_bool (by first | assumption | exact rfl) ?_
      | refine c_isi_list (by first | assumption | exact rfl) ?_ | refine c_isi_tuple (by first | assumption | exact rfl) ?_ | refine c_isi_dict (by first | assumption | exact rfl) ?_)
    | ((with_reducible show OC _ (.builtin "all") _ _ _); refine c_allP (Gd.calm (by assumption)) ?_)
    | ((with_reducible show OC _ (.builtin "any") _ _ _); refine c_anyP (Gd.calm (by assumption)) ?_)
    | with_reducible refine c_len_lst ?_ | with_reducible refine c_len_tup ?_ | with_reducible refine c_len_frz ?_ | with_reducible refine c_abs ?_ | with_reducible refine c_max2 (Gd.calm (by assumption)) ?_ | with_reducible refine c_min2 (Gd.calm (by assumption)) ?_ | with_reducible refine c_int_bl ?_ | with_reducible refine c_ord ?_
    | with_reducible refine c_list_lst ?_ | with_reducible refine c_list_tup ?_ | with_reducible refine c_tup_lst ?_)
  | ((with_reducible show OI _ _ _ _ _); first
    | ((with_reducible show OI _ (.tup (_ :: _)) _ _ _); first | refine oi_tup at0 ?_ | refine oi_tup at1 ?_ | refine oi_tup at2 ?_)
    | ((with_reducible show OI _ (.lst (_ :: _)) _ _ _); first | refine oi_lst at0 ?_ | refine oi_lst at1 ?_ | refine oi_lst at2 ?_))
  | ((with_reducible show O1 _ _ _ _ _); with_reducible refine o_neg ?_)
  | ((with_reducible show LB _ _ _ _ _); first | refine lb_one ?_ | refine lb_cons ?_ | refine lb_nil ?_)
  | ((with_reducible show LS _ _ _ _ _); first
    | ((with_reducible show LS _ (.Assign [.Name _ _] _ _) _ _ _); (refine' ls_set (by assumption) ?hsl ?_; (case hsl => tb_rel)))
    | ((with_reducible show LS _ (.Assign [.Attribute _ _ _] _ _) _ _ _); refine ls_fld ?_)
    | ((with_reducible show LS _ (.Assign [.Subscript _ _ _] _ _) _ _ _); refine ls_setix ?_)
    | ((with_reducible show LS _ (.Assign [.Tuple _ _ _] _ _) _ _ _); first
      | (refine' ls_par (by assumption) ?hs1 (fun _ => ?hs2) ?_; (case hs1 => tb_rel); (case hs2 => tb_rel))
      | (refine' ls_par3 (by assumption) ?hs1 (fun _ => ?hs2) (fun _ _ => ?hs3) ?_; (case hs1 => tb_rel); (case hs2 => tb_rel); (case hs3 => tb_rel))
      | (refine' ls_star (by assumption) ?hs1 (fun _ => ?hs2) ?_; (case hs1 => tb_rel); (case hs2 => tb_rel))
      | refine ls_asg ?_)
    | ((with_reducible show LS _ (.If _ _ _ _) _ _ _); refine ls_if ?_)
    | ((with_reducible show LS _ (.Return _ _) _ _ _); first | refine ls_ret ?_ | refine ls_retN ?_)
    | ((with_reducible show LS _ (.Expr _ _) _ _ _); refine ls_expr ?_)
    | refine ls_break ?_ | refine ls_cont ?_ | refine ls_pass ?_)
  | ((with_reducible show LT _ _ _ _ _ _); first
    | ((with_reducible show LT _ (.Compare _ _ _ _) _ _ _ _); first | refine lt_cmp ?_ | refine lt_chain ?_)
    | ((with_reducible show LT _ (.UnaryOp .Not _ _) _ _ _ _); refine lt_not ?_)
    | ((with_reducible show LT _ (.BoolOp _ _ _) _ _ _ _); refine lt_w ?_)
    | refine lt_val ?_)
  | ((with_reducible show LW _ _ _ _ _ _); first | refine lw_and ?_ | refine lw_or ?_ | refine lw_and1 ?_ | refine lw_or1 ?_)
  | ((with_reducible show ite _ _ _); first | with_reducible refine itT ?_ | with_reducible refine itF ?_ | (refine itTd ?hitc ?_; (case hitc => exact rfl)) | (refine itFd ?hitc ?_; (case hitc => exact rfl)))
  | ((with_reducible show Exists _); first
    | ((with_reducible show Exists (fun _ => And _ _)); refine ⟨_, rfl, ?_⟩)
    | ((with_reducible show Exists (fun _ => Exists (fun _ => And _ _))); refine ⟨_, _, rfl, ?_⟩)
    | ((with_reducible show Exists (fun _ => Exists (fun _ => Exists (fun _ => And (_ = Dt.dct _) _)))); refine ⟨_, _, _, rfl, rfl, rfl, ?_⟩)
    | ((with_reducible show Exists (fun _ => Exists (fun _ => Exists (fun _ => And (_ = [_, _, _]) _)))); refine ⟨_, _, _, rfl, ?_⟩)
    | ((with_reducible show Exists (fun _ => Exists (fun _ => Exists (fun _ => And (_ = _) (And _ (And (List.lookup _ _ = _) _)))))); refine ⟨_, _, _, rfl, (by assumption), rfl, ?_⟩)
    | ((with_reducible show Exists (fun _ => Exists (fun _ => Exists (fun _ => Exists (fun _ => Exists (fun _ => And _ _)))))); refine ⟨_, _, _, _, _, rfl, (by assumption), (by assumption), (by assumption), rfl, ?_⟩)
    | ((with_reducible show Exists (fun _ => Exists (fun _ => Exists (fun _ => Exists (fun _ => And _ _))))); refine ⟨_, _, _, _, rfl, (by assumption), (by assumption), (by assumption), lenF rfl, ?_⟩))
  | ((with_reducible show Pc.nx _ _ _); dsimp only)
  | ((with_reducible show Pc.rt _ _ _); dsimp only)
  | ((with_reducible show And (List.length _ ≤ sizeLine) _); refine And.intro (lenS rfl) ?_)
  | ((with_reducible show LG _ (.Name _ _) _ _ _); (refine' lg_name (by assumption) ?hsl ?_; (case hsl => tb_rel)))
  | ((with_reducible show LG _ (.Tuple _ _ _) _ (.tup _) _); refine lg_tup (by assumption) ?_)
  | ((with_reducible show LG _ (.Tuple _ _ _) _ (.lst _) _); refine lg_lst (by assumption) ?_)
  | ((with_reducible show LGs _ (_ :: _) _ _ _); refine lgs_cons ?_)
  | ((with_reducible show LGs _ [] _ _ _); refine lgs_nil ?_)
  | ((with_reducible show LF _ _ _ _ _ _); first | refine lf_nil ?_ | refine lf_one ?_)
  | ((with_reducible show LO _ _ _ _ _ _); first | refine lo_none ?_ | refine lo_some ?_)
  | ((with_reducible show LP _ _ _ _ _ _); unfold LP))))
local macro_rules | `(tactic| k_places) => `(tactic| refine ite2 (fun c => ?_) (fun c => ?_))
local macro_rules | `(tactic| k_subL) => `(tactic| (refine' le_lcD (by assumption) ?hsl _ ?hli; (case hsl => tb_rel); (case' hli => skip)))
/-! ### the Cutter -/
def oS : Option (List Nat) → Dt
  | none => .non
  | some l => .str (SX.S l)
theorem le_orS {X : Cx} {a : Expr} {r : En} {m : Mu} {F : Pd} {E : Xd} {j : Nat} {p pos : Pos} (h : LE X a r m (fun d m1 => ∃ b, d = oS b ∧ (b.getD []).length ≤ sizeLine ∧ F (.str (SX.S (b.getD []))) m1) E) : LE X (.BoolOp .Or [a, .Constant (.str "") j p] pos) r m F E := by
  refine le_or (h.imp fun d m1 q => ?_)
  obtain ⟨b, rfl, hz, q⟩ := q
  cases b with
  | none => exact ⟨false, rfl, itF (le_one (le_str q))⟩
  | some l =>
    refine ⟨_, ⟨by rw [SX.S_len]; exact hz, rfl⟩, ?_⟩
    rw [SX.S_len]
    by_cases e : l = []
    · subst e
      exact itF (le_one (le_str q))
    · have : ((l.length : Int) != 0) = true := by
        have : 0 < l.length := List.length_pos_iff.mpr e
        simp; omega
      rw [this]
      exact itT q
local macro_rules | `(tactic| tb_start) => `(tactic| ((with_reducible show Dw.LE _ (.BoolOp .Or [_, .Constant (.str _) _ _] _) _ _ _ _); refine le_orS ?_))
def flds (q : Addr) (s : Cs) : List (Str × Dt) := [("whole_words", .raw (.ref q)), ("word_begun", oS s.bg), ("quote_open", .str (SX.S s.qt)), ("opened_at", .int s.op), ("is_taken", .bl s.tk)]
def wsD (ws : List (List Nat)) : List Dt := ws.map fun l => .str (SX.S l)
structure Cu (C a q dx : Addr) (s : Cs) (m : Mu) : Prop where
  ins : (a, Mc.ins C dx (flds q s)) ∈ m
  lst : (q, Mc.lst (wsD s.ws)) ∈ m
  ne : a ≠ q
def Fr (a q : Addr) (m m' : Mu) : Prop := ∀ x ∈ m, x.1 ≠ a → x.1 ≠ q → x ∈ m'
theorem Fr.refl {a q : Addr} {m : Mu} : Fr a q m m := fun _ h _ _ => h
theorem Fr.trans {a q : Addr} {m m1 m2 : Mu} (h : Fr a q m m1) (k : Fr a q m1 m2) : Fr a q m m2 := fun x hx h1 h2 => k x (h x hx h1 h2) h1 h2
theorem Fr.putA {a q : Addr} {m : Mu} {c : Mc} : Fr a q m (put a c m) := fun x hx h1 _ => put_other (c' := x.2) hx h1
theorem Fr.putQ {a q : Addr} {m : Mu} {c : Mc} : Fr a q m (put q c m) := fun x hx _ h2 => put_other (c' := x.2) hx h2
/-- what the text has of the class -/
structure CuK (K : PySem.W.Frag) (C : Addr) : Prop where
  cl : Cls K C
  n1 : NoAttr K C "whole_words"
  n2 : NoAttr K C "word_begun"
  n3 : NoAttr K C "quote_open"
  n4 : NoAttr K C "opened_at"
  n5 : NoAttr K C "is_taken"
theorem Cu.bg {C a q dx : Addr} {s : Cs} {m : Mu} (h : Cu C a q dx s m) (b : Option (List Nat)) : Cu C a q dx { s with bg := b } (put a (.ins C dx (putD "word_begun" (oS b) (flds q s))) m) := ⟨put_mem h.ins, put_other h.lst (Ne.symm h.ne), h.ne⟩
theorem Cu.qt {C a q dx : Addr} {s : Cs} {m : Mu} (h : Cu C a q dx s m) (b : List Nat) : Cu C a q dx { s with qt := b } (put a (.ins C dx (putD "quote_open" (.str (SX.S b)) (flds q s))) m) := ⟨put_mem h.ins, put_other h.lst (Ne.symm h.ne), h.ne⟩
theorem Cu.op {C a q dx : Addr} {s : Cs} {m : Mu} (h : Cu C a q dx s m) (b : Nat) : Cu C a q dx { s with op := b } (put a (.ins C dx (putD "opened_at" (.int b) (flds q s))) m) := ⟨put_mem h.ins, put_other h.lst (Ne.symm h.ne), h.ne⟩
theorem Cu.tk {C a q dx : Addr} {s : Cs} {m : Mu} (h : Cu C a q dx s m) (b : Bool) : Cu C a q dx { s with tk := b } (put a (.ins C dx (putD "is_taken" (.bl b) (flds q s))) m) := ⟨put_mem h.ins, put_other h.lst (Ne.symm h.ne), h.ne⟩
theorem Cu.ws {C a q dx : Addr} {s : Cs} {m : Mu} (h : Cu C a q dx s m) (l : List Nat) : Cu C a q dx { s with ws := s.ws ++ [l] } (put q (.lst (wsD s.ws ++ [.str (SX.S l)])) m) := by
  refine ⟨put_other h.ins h.ne, ?_, h.ne⟩
  have e : wsD (s.ws ++ [l]) = wsD s.ws ++ [.str (SX.S l)] := by unfold wsD; rw [List.map_append]; rfl
  rw [e]
  exact put_mem h.lst
def W_goes (C : Addr) : Spd := fun ds m F E => ∃ a q dx s c, ds = [.raw (.ref a), .str (SX.S [c])] ∧ Cu C a q dx s m ∧ (s.bg.getD []).length ≤ 3000 ∧ ∀ m', Cu C a q dx (goIn c s) m' → Fr a q m m' → F (.bl (inOk c s)) m'
def W_ends (C : Addr) : Spd := fun ds m F E => ∃ a q dx s, ds = [.raw (.ref a)] ∧ Cu C a q dx s m ∧ s.ws.length ≤ 3000 ∧ ∀ m', Cu C a q dx (endW s) m' → Fr a q m m' → F .non m'
section
variable {P : Program} {w : World} {K : PySem.W.Frag} {mg : Str → Option Value} {base : Heap}
theorem ok_goes {f : Addr} {fd : FuncData} {C : Addr} {t1 t2 : Tok} (B : Bi mg) (T : CuK K C) (g1 : mg "MOST_WORD" = some (.int 40 t1)) (g2 : mg "FEED" = some (.str (SX.S [10]) t2)) (F : Fun K "goes_in" "Cutter.goes_in" s_Cutter_goes_in f fd) : FnG P w K mg base 1 f fd ["self", "sign"] (toSp K (W_goes C)) := by
  refine fn_dw F sc_Cutter_goes_in (fun ds m Q E h => ?_) (fun cdv A outer s H E gd ds m Q E' h => ?_)
  · obtain ⟨a, q, dx, s, c, rfl, _⟩ := h
    rfl
  · obtain ⟨a, q, dx, s, c, rfl, hc, hl, hq⟩ := h
    have hb1 := B.len
    have i1 := hc.ins; have i2 := T.cl; have i3 := T.n2
    show LB _ _ [some (.raw (.ref a)), some (.str (SX.S [c]))] m _
    refine lb_midP [some (.raw (.ref a)), some (.str (SX.S [c]))] (put a (.ins C dx (putD "word_begun" (oS (some (s.bg.getD [] ++ [c]))) (flds q s))) m) ?_ ?_
    · k_caughtNB
      refine ⟨by rw [sizeLine_eq]; omega, ?_⟩
      k_caughtNB
      refine o_addS (by rw [sizeLine_eq]; simp; omega) ?_
      k_caughtNB
      exact ⟨rfl, rfl⟩
    have hc2 := hc.bg (some (s.bg.getD [] ++ [c]))
    have hf : Fr a q m (put a (.ins C dx (putD "word_begun" (oS (some (s.bg.getD [] ++ [c]))) (flds q s))) m) := Fr.putA
    generalize put a (.ins C dx (putD "word_begun" (oS (some (s.bg.getD [] ++ [c]))) (flds q s))) m = M at hc2 hf
    have i4 := hc2.ins
    have hqq := hq M hc2 hf
    k_caughtNB
    by_cases h10 : c = 10
    · subst h10
      rw [decide_eq_true rfl]
      k_caughtNB
      exact hqq
    · rw [decide_eq_false (show ¬ (SX.S [c] = SX.S [10]) from fun z => h10 (List.cons.inj (SX.S_inj z)).1)]
      k_caughtNB
      refine c_lenS (by rw [sizeLine_eq]; simp; omega) ?_
      k_caughtNB
      have e : inOk c s = decide (((s.bg.getD [] ++ [c]).length : Int) ≤ 40) := by
        unfold inOk
        rw [decide_eq_false h10, Bool.not_false, Bool.true_and]
        apply decide_eq_decide.mpr
        rw [List.length_append, List.length_singleton]
        omega
      rw [e] at hqq
      exact hqq
theorem ok_ends {f : Addr} {fd : FuncData} {C : Addr} (T : CuK K C) (F : Fun K "ends_word" "Cutter.ends_word" s_Cutter_ends_word f fd) : FnG P w K mg base 1 f fd ["self"] (toSp K (W_ends C)) := by
  refine fn_dw F sc_Cutter_ends_word (fun ds m Q E h => ?_) (fun cdv A outer s H E gd ds m Q E' h => ?_)
  · obtain ⟨a, q, dx, s, rfl, _⟩ := h
    rfl
  · obtain ⟨a, q, dx, s, rfl, hc, hl, hq⟩ := h
    have i1 := hc.ins; have i2 := T.cl; have i3 := T.n2; have i4 := T.n1
    show LB _ _ [some (.raw (.ref a))] m _
    k_caughtNB
    cases hb : s.bg with
    | none =>
      k_caughtNB
      refine hq _ ?_ Fr.putA
      have e : endW s = { s with bg := none } := by unfold endW; rw [hb]; simp
      rw [e]
      exact hc.bg none
    | some l =>
      k_caughtNB
      refine le_append ?_
      k_caughtNB
      refine ⟨⟨q, _, rfl, hc.lst⟩, ?_⟩
      k_caughtNB
      refine ⟨q, wsD s.ws, oS s.bg, rfl, rfl, hc.lst, by unfold wsD; rw [List.length_map, sizeLine_eq]; omega, ?_⟩
      rw [hb]
      have hc2 := hc.ws l
      have i5 := hc2.ins
      k_caughtNB
      refine hq _ ?_ (Fr.trans Fr.putQ Fr.putA)
      have e : endW s = { s with ws := s.ws ++ [l], bg := none } := by unfold endW; rw [hb]; rfl
      rw [e]
      exact hc2.bg none
end
local macro_rules | `(tactic| tb_start) => `(tactic| ((with_reducible show Dw.LE _ (.BoolOp .Or [_, .Constant (.str _) _ _] _) _ _ _ _); refine le_orS ?_))
def W_outs (C : Addr) : Spd := fun ds m F E => ∃ a q dx s n c, ds = [.raw (.ref a), .int (n : Nat), .str (SX.S [c])] ∧ Cu C a q dx s m ∧ (s.bg.getD []).length ≤ 3000 ∧ s.ws.length ≤ 3000 ∧ ∀ m', Cu C a q dx (outs n c s).1 m' → Fr a q m m' → F (.bl (outs n c s).2) m'
def W_takes (C : Addr) : Spd := fun ds m F E => ∃ a q dx s n c, ds = [.raw (.ref a), .int (n : Nat), .str (SX.S [c])] ∧ Cu C a q dx s m ∧ (s.bg.getD []).length ≤ 3000 ∧ s.ws.length ≤ 3000 ∧ ∀ m', Cu C a q dx (stp n c s).1 m' → Fr a q m m' → F (.bl (stp n c s).2) m'
theorem S1_ne {c d : Nat} (h : c ≠ d) : ¬ (SX.S [c] = SX.S [d]) := fun z => h (List.cons.inj (SX.S_inj z)).1
theorem mem2 (c d e : Nat) : decide (SX.S [c] ∈ [SX.S [d], SX.S [e]]) = decide (c = d ∨ c = e) := by
  apply decide_eq_decide.mpr
  simp only [List.mem_cons, List.not_mem_nil, or_false]
  constructor
  · rintro (h | h)
    · exact .inl (List.cons.inj (SX.S_inj h)).1
    · exact .inr (List.cons.inj (SX.S_inj h)).1
  · rintro (rfl | rfl)
    · exact .inl rfl
    · exact .inr rfl
section
variable {P : Program} {w : World} {K : PySem.W.Frag} {mg : Str → Option Value} {base : Heap}
theorem ok_outs {f : Addr} {fd : FuncData} {C tq : Addr} {t1 t2 t3 : Tok} (T : CuK K C) (g1 : mg "BLANK" = some (.str (SX.S [32]) t1)) (g2 : mg "FEED" = some (.str (SX.S [10]) t2)) (g3 : mg "STROKE" = some (.str (SX.S [92]) t3)) (g4 : mg "QUOTES" = some (.ref tq)) (g5 : TupK K tq [SX.S [39], SX.S [34]])
    (M1 : MtD P w K mg base C "goes_in" 1 (W_goes C)) (M2 : MtD P w K mg base C "ends_word" 1 (W_ends C)) (F : Fun K "takes_outside" "Cutter.takes_outside" s_Cutter_takes_outside f fd) : FnG P w K mg base 2 f fd ["self", "number", "sign"] (toSp K (W_outs C)) := by
  refine fn_dw F sc_Cutter_takes_outside (fun ds m Q E h => ?_) (fun cdv A outer s H E gd ds m Q E' h => ?_)
  · obtain ⟨a, q, dx, s, n, c, rfl, _⟩ := h
    rfl
  · obtain ⟨a, q, dx, s, n, c, rfl, hc, hl, hl2, hq⟩ := h
    have i1 := hc.ins; have i2 := T.cl; have i3 := T.n2; have i4 := T.n3; have i5 := T.n4; have i6 := T.n5
    show LB _ _ [some (.raw (.ref a)), some (.int (n : Nat)), some (.str (SX.S [c]))] m _
    k_caughtNB
    refine o_inT (ys := [SX.S [32], SX.S [10]]) ?_
    rw [mem2]
    by_cases h1 : c = 32 ∨ c = 10
    · have e : outs n c s = (endW s, true) := if_pos h1
      rw [e] at hq
      rw [decide_eq_true h1]
      k_caughtNB
      refine ⟨a, q, dx, s, rfl, hc, hl2, fun m1 hc1 hf1 => ?_⟩
      k_caughtNB
      exact hq m1 hc1 hf1
    rw [decide_eq_false h1]
    k_caughtNB
    refine o_notInT (ys := [SX.S [39], SX.S [34]]) ?_
    rw [mem2]
    by_cases h2 : c ≠ 39 ∧ c ≠ 34 ∧ c ≠ 92
    · have e : outs n c s = (goIn c s, inOk c s) := by unfold outs; rw [if_neg h1, if_pos h2]
      rw [e] at hq
      rw [decide_eq_false (show ¬ (c = 39 ∨ c = 34) by omega)]
      k_caughtNB
      rw [decide_eq_false (S1_ne h2.2.2)]
      k_caughtNB
      exact ⟨a, q, dx, s, c, rfl, hc, hl, hq⟩
    have e2 : outs n c s = if c = 92 then ({ s with bg := some (s.bg.getD []), tk := true }, true) else ({ s with bg := some (s.bg.getD []), qt := [c], op := n }, true) := by unfold outs; rw [if_neg h1, if_neg h2]
    rw [e2] at hq
    have hc2 := hc.bg (some (s.bg.getD []))
    have i7 := hc2.ins
    by_cases h3 : c = 92
    · rw [if_pos h3] at hq
      subst h3
      rw [decide_eq_false (by decide)]
      k_caughtNB
      refine ⟨by rw [sizeLine_eq]; omega, ?_⟩
      k_caughtNB
      exact hq _ (hc2.tk true) (Fr.trans Fr.putA Fr.putA)
    · rw [if_neg h3] at hq
      rw [decide_eq_true (show c = 39 ∨ c = 34 by omega)]
      k_caughtNB
      refine ⟨by rw [sizeLine_eq]; omega, ?_⟩
      k_caughtNB
      rw [decide_eq_false (S1_ne h3)]
      have hc3 := hc2.qt [c]
      have i8 := hc3.ins
      k_caughtNB
      exact hq _ (hc3.op n) (Fr.trans Fr.putA (Fr.trans Fr.putA Fr.putA))
theorem ok_takes {f : Addr} {fd : FuncData} {C : Addr} {t1 t2 : Tok} (T : CuK K C) (g3 : mg "STROKE" = some (.str (SX.S [92]) t1)) (g4 : mg "DOUBLE" = some (.str (SX.S [34]) t2))
    (M1 : MtD P w K mg base C "goes_in" 1 (W_goes C)) (M2 : MtD P w K mg base C "takes_outside" 2 (W_outs C)) (F : Fun K "takes" "Cutter.takes" s_Cutter_takes f fd) : FnG P w K mg base 3 f fd ["self", "number", "sign"] (toSp K (W_takes C)) := by
  refine fn_dw F sc_Cutter_takes (fun ds m Q E h => ?_) (fun cdv A outer s H E gd ds m Q E' h => ?_)
  · obtain ⟨a, q, dx, s, n, c, rfl, _⟩ := h
    rfl
  · obtain ⟨a, q, dx, s, n, c, rfl, hc, hl, hl2, hq⟩ := h
    have i1 := hc.ins; have i2 := T.cl; have i3 := T.n2; have i4 := T.n3; have i5 := T.n4; have i6 := T.n5
    show LB _ _ [some (.raw (.ref a)), some (.int (n : Nat)), some (.str (SX.S [c]))] m _
    k_caughtNB
    by_cases h1 : s.tk = true
    · have e : stp n c s = (goIn c { s with tk := false }, inOk c s) := if_pos h1
      rw [e] at hq
      rw [h1]
      have hc2 := hc.tk false
      have i7 := hc2.ins
      k_caughtNB
      exact ⟨a, q, dx, _, c, rfl, hc2, hl, fun m' h1 h2 => hq m' h1 (Fr.trans Fr.putA h2)⟩
    have h1' : s.tk = false := by simpa using h1
    rw [h1']
    k_caughtNB
    by_cases h2 : s.qt = []
    · have e : stp n c s = outs n c s := by unfold stp; rw [if_neg h1, if_pos h2]
      rw [e] at hq
      rw [h2]
      k_caughtNB
      exact ⟨a, q, dx, s, n, c, rfl, hc, hl, hl2, hq⟩
    rw [decide_eq_false (show ¬ (SX.S s.qt = Str.ofString "") from fun z => h2 (SX.S_inj (b := []) z))]
    k_caughtNB
    by_cases h3 : [c] = s.qt
    · have e : stp n c s = ({ s with qt := [] }, true) := by unfold stp; rw [if_neg h1, if_neg h2, if_pos h3]
      rw [e] at hq
      rw [decide_eq_true (show SX.S [c] = SX.S s.qt by rw [h3])]
      k_caughtNB
      exact hq _ (hc.qt []) Fr.putA
    rw [decide_eq_false (show ¬ (SX.S [c] = SX.S s.qt) from fun z => h3 (SX.S_inj z))]
    k_caughtNB
    by_cases h4 : c = 92 ∧ s.qt = [34]
    · have e : stp n c s = ({ s with tk := true }, true) := by unfold stp; rw [if_neg h1, if_neg h2, if_neg h3, if_pos h4]
      rw [e] at hq
      obtain ⟨rfl, h5⟩ := h4
      rw [decide_eq_true rfl]
      k_caughtNB
      rw [decide_eq_true (show SX.S s.qt = SX.S [34] by rw [h5])]
      k_caughtNB
      exact hq _ (hc.tk true) Fr.putA
    have e : stp n c s = (goIn c s, inOk c s) := by unfold stp; rw [if_neg h1, if_neg h2, if_neg h3, if_neg h4]
    rw [e] at hq
    by_cases h5 : c = 92
    · subst h5
      rw [decide_eq_true rfl]
      k_caughtNB
      rw [decide_eq_false (show ¬ (SX.S s.qt = SX.S [34]) from fun z => h4 ⟨rfl, SX.S_inj z⟩)]
      k_caughtNB
      exact ⟨a, q, dx, s, _, rfl, hc, hl, hq⟩
    · rw [decide_eq_false (S1_ne h5)]
      k_caughtNB
      exact ⟨a, q, dx, s, c, rfl, hc, hl, hq⟩
end
structure Sz (k : Nat) (s : Cs) : Prop where
  b : (s.bg.getD []).length ≤ k
  w : s.ws.length ≤ k
def W_init (C : Addr) : Spd := fun ds m F E => ∃ a dx, ds = [.raw (.ref a)] ∧ (a, Mc.ins C dx []) ∈ m ∧ ∀ q m', q ∉ dom m → Cu C a q dx c0 m' → (∀ x ∈ m, x.1 ≠ a → x ∈ m') → F .non m'
def W_line (K : PySem.W.Frag) : Spd := fun ds m F E => ∃ l, ds = [.str (SX.S l)] ∧ Ln l ∧ F (.bl true) m
def W_gone (C CB : Addr) : Spd := fun ds m F E => ∃ l, ds = [.str (SX.S l)] ∧ Ln l ∧ (∀ n m', run 0 l c0 = .inl n → (∀ x ∈ m, x ∈ m') → E (.ref CB) [("at", .int (n : Nat))] m') ∧
  (∀ s m', run 0 l c0 = .inr s → s.tk = true → (∀ x ∈ m, x ∈ m') → E (.ref CB) [("at", .int ((l.length : Int) - 1))] m') ∧
  (∀ s a q dx m', run 0 l c0 = .inr s → s.tk = false → Sz 2000 s → a ∉ dom m → q ∉ dom m → Cu C a q dx s m' → (∀ x ∈ m, x ∈ m') → F (.raw (.ref a)) m')
def W_few (CT : Addr) : Spd := fun ds m F E => ∃ n : Nat, ds = [.int n] ∧ (n ≤ 40 → F .non m) ∧ (40 < n → E (.ref CT) [("many", .int n)] m)
section
variable {P : Program} {w : World} {K : PySem.W.Frag} {mg : Str → Option Value} {base : Heap}
theorem ok_init {f : Addr} {fd : FuncData} {C : Addr} (T : CuK K C) (F : Fun K "__init__" "Cutter.__init__" s_Cutter_init f fd) : FnG P w K mg base 1 f fd ["self"] (toSp K (W_init C)) := by
  refine fn_dw F sc_Cutter_init (fun ds m Q E h => ?_) (fun cdv A outer s H E gd ds m Q E' h => ?_)
  · obtain ⟨a, dx, rfl, _⟩ := h
    rfl
  · obtain ⟨a, dx, rfl, hc, hq⟩ := h
    have i2 := T.cl; have i3 := T.n2; have i4 := T.n3; have i5 := T.n4; have i6 := T.n5; have i7 := T.n1
    show LB _ _ [some (.raw (.ref a))] m _
    refine lb_cons (ls_fld (le_mut (la_nil ⟨by decide, fun q hqn => ?_⟩)))
    have hne : a ≠ q := fun z => hqn (z ▸ List.mem_map.mpr ⟨_, hc, rfl⟩)
    have j1 : (a, Mc.ins C dx []) ∈ (q, Mc.lst []) :: m := List.mem_cons_of_mem _ hc
    k_caughtNB
    have j2 := put_mem (c := Mc.ins C dx (putD "whole_words" (.raw (.ref q)) [])) j1
    k_caughtNB
    have j3 := put_mem (c := Mc.ins C dx (putD "word_begun" .non (putD "whole_words" (.raw (.ref q)) []))) j2
    k_caughtNB
    have j4 := put_mem (c := Mc.ins C dx (putD "quote_open" (.str "") (putD "word_begun" .non (putD "whole_words" (.raw (.ref q)) [])))) j3
    k_caughtNB
    have j5 := put_mem (c := Mc.ins C dx (putD "opened_at" (.int 0) (putD "quote_open" (.str "") (putD "word_begun" .non (putD "whole_words" (.raw (.ref q)) []))))) j4
    k_caughtNB
    refine hq q _ hqn ⟨put_mem j5, ?_, hne⟩ (fun x hx hxa => ?_)
    · exact put_other (put_other (put_other (put_other (put_other List.mem_cons_self hne.symm) hne.symm) hne.symm) hne.symm) hne.symm
    · exact put_other (c' := x.2) (put_other (c' := x.2) (put_other (c' := x.2) (put_other (c' := x.2) (put_other (c' := x.2) (List.mem_cons_of_mem _ hx) hxa) hxa) hxa) hxa) hxa
theorem ok_line {f : Addr} {fd : FuncData} {t1 t2 : Tok} (B : Bi mg) (g1 : mg "MOST_SIGNS" = some (.int 2000 t1)) (g2 : mg "FEED" = some (.str (SX.S [10]) t2)) (D1 : FnD P w K mg base "is_word" 1 (W_pred K fWord)) (F : Fun K "is_line" "is_line" s_is_line f fd) : FnG P w K mg base 2 f fd ["thing"] (toSp K (W_line K)) := by
  refine fn_dw F sc_is_line (fun ds m Q E h => ?_) (fun cdv A outer s H E gd ds m Q E' h => ?_)
  · obtain ⟨l, rfl, _⟩ := h
    rfl
  · obtain ⟨l, rfl, hL, hq⟩ := h
    have hb1 := B.isinstance; have hb2 := B.str; have hb3 := B.len; have hb4 := B.all
    have hz : l.length ≤ sizeLine := by rw [sizeLine_eq]; have := hL.len; omega
    show LB _ _ [some (.str (SX.S l)), none] m _
    k_caughtNB
    refine c_lenS hz ?_
    k_caughtNB
    rw [decide_eq_false (show ¬ ((2000 : Int) < l.length) by have := hL.len; omega)]
    k_caughtNB
    k_subL
    refine li_str ?_
    k_caughtNB
    rw [signsS]
    refine lc_mapS l (fun c => Dt.str (SX.S [c])) (fun c => Dt.bl true) gd hz (fun c hc s1 H1 C1 cl1 fp1 gd1 => ?_) ?_
    · k_caughtNB
      refine ⟨_, rfl, ⟨rfl, by show (SX.S [c]).length ≤ 100000; rw [SX.S_len]; simp⟩, ?_⟩
      rw [word_S]
      k_caughtNB
      rcases hL.sg c hc with h | rfl
      · have e : (decide ([c].length ≤ 40) && [c].all isPri) = true := by simp [isPri, h]
        rw [e]
        k_caughtNB
        exact ⟨rfl, rfl⟩
      · have e : (decide ([10].length ≤ 40) && [10].all isPri) = false := by decide
        rw [e]
        k_caughtNB
        exact ⟨rfl, rfl⟩
    · k_caughtNB
      rw [show (l.all fun c => true) = true by simp]
      exact hq
theorem ok_few {f : Addr} {fd : FuncData} {CT iT : Addr} {t1 : Tok} (g1 : mg "MOST_WORDS" = some (.int 40 t1)) (TT : Ex_many.Txt K mg "TooMany" CT iT) (F : Fun K "need_few" "need_few" s_need_few f fd) : FnG P w K mg base 3 f fd ["many"] (toSp K (W_few CT)) := by
  refine fn_dw F sc_need_few (fun ds m Q E h => ?_) (fun cdv A outer s H E gd ds m Q E' h => ?_)
  · obtain ⟨l, rfl, _⟩ := h
    rfl
  · obtain ⟨n, rfl, h1, h2⟩ := h
    show LB _ _ [some (.int (n : Nat))] m _
    k_caughtNB
    by_cases h : n ≤ 40
    · rw [decide_eq_false (show ¬ ((40 : Int) < n) by omega)]
      k_caughtNB
      exact h1 h
    · rw [decide_eq_true (show ((40 : Int) < n) by omega)]
      k_caughtNB
      refine ls_raise_many TT gd ?_
      k_caughtNB
      exact h2 (by omega)
end
theorem sz_in {k c : Nat} {s : Cs} (h : Sz k s) : Sz (k + 1) (goIn c s) := ⟨by have := h.b; simp only [goIn, Option.getD_some, List.length_append, List.length_singleton]; omega, by have := h.w; simp only [goIn]; omega⟩
theorem sz_end {k : Nat} {s : Cs} (h : Sz k s) : Sz (k + 1) (endW s) := by
  refine ⟨by simp [endW], ?_⟩
  have := h.w
  simp only [endW, List.length_append]
  cases s.bg <;> simp <;> omega
theorem sz_stp {k n c : Nat} {s : Cs} (h : Sz k s) : Sz (k + 1) (stp n c s).1 := by
  have hb := h.b; have hw := h.w
  have up : Sz (k + 1) s := ⟨by omega, by omega⟩
  unfold stp
  split
  · exact sz_in (s := { s with tk := false }) ⟨hb, hw⟩
  · split
    · unfold outs
      split
      · exact sz_end h
      · split
        · exact sz_in h
        · split
          · exact ⟨by simp; omega, by simp; omega⟩
          · exact ⟨by simp; omega, by simp; omega⟩
    · split
      · exact ⟨by simp; omega, by simp; omega⟩
      · split
        · exact ⟨by simp; omega, by simp; omega⟩
        · exact sz_in h
def W_cut (C CB CT : Addr) : Spd := fun ds m F E => ∃ l, ds = [.str (SX.S l)] ∧ Ln l ∧ (∀ n m', cutR l = .sign n → (∀ x ∈ m, x ∈ m') → E (.ref CB) [("at", .int (n : Nat))] m') ∧
  (∀ n m', cutR l = .many n → (∀ x ∈ m, x ∈ m') → E (.ref CT) [("many", .int (n : Nat))] m') ∧
  (∀ ws p m', cutR l = .told ws → p ∉ dom m → (p, Mc.lst (wsD ws)) ∈ m' → (∀ x ∈ m, x ∈ m') → F (.raw (.ref p)) m')
section
variable {P : Program} {w : World} {K : PySem.W.Frag} {mg : Str → Option Value} {base : Heap}
theorem ok_gone {f : Addr} {fd : FuncData} {C CB iB : Addr} (B : Bi mg) (T : CuK K C) (TB : Ex_at.Txt K mg "BadSign" CB iB) (D1 : FnD P w K mg base "is_line" 2 (W_line K)) (D2 : MkD P w K mg base "Cutter" C 1 (W_init C)) (M1 : MtD P w K mg base C "takes" 3 (W_takes C))
    (F : Fun K "gone_through" "gone_through" s_gone_through f fd) : FnG P w K mg base 4 f fd ["line"] (toSp K (W_gone C CB)) := by
  refine fn_dw F sc_gone_through (fun ds m Q E h => ?_) (fun cdv A outer s H E gd ds m Q E' h => ?_)
  · obtain ⟨l, rfl, _⟩ := h
    rfl
  · obtain ⟨l, rfl, hL, q1, q2, q3⟩ := h
    have hb1 := B.isinstance; have hb2 := B.str; have hb3 := B.len; have hb4 := B.enumerate
    have i2 := T.cl; have i6 := T.n5
    have hz : l.length ≤ sizeLine := by rw [sizeLine_eq]; have := hL.len; omega
    show LB _ _ [some (.str (SX.S l)), none, none, none] m _
    k_caughtNB
    refine ⟨l, rfl, hL, ?_⟩
    k_caughtNB
    refine le_make0 D2 gd (by decide) (fun a dx ha => ?_)
    refine ⟨a, dx, rfl, List.mem_cons_self, fun q m1 hqn hc hf => ?_⟩
    refine ⟨rfl, ?_⟩
    have hqm : q ∉ dom m := fun z => hqn (List.mem_cons_of_mem _ z)
    have hsub : ∀ x ∈ m, x ∈ m1 := fun x hx => hf x (List.mem_cons_of_mem _ hx) fun z => ha (z ▸ List.mem_map.mpr ⟨x, hx, rfl⟩)
    k_caughtNB
    refine ls_for gd (fun ds i r2 m2 => ∃ s a2 a3, r2 = [some (.str (SX.S l)), some (.raw (.ref a)), a2, a3] ∧ run 0 l c0 = run i (l.drop i) s ∧ Sz i s ∧ Cu C a q dx s m2 ∧ ∀ x ∈ m, x ∈ m2) ?_
    refine li_enumS hb4 ?_
    k_caughtNB
    refine ⟨⟨c0, _, _, rfl, rfl, ⟨Nat.le_refl _, Nat.le_refl _⟩, hc, hsub⟩, fun i d r2 m2 hd iv => ?_, fun r2 m2 iv => ?_⟩
    · obtain ⟨s, a2, a3, rfl, hrun, hsz, hcu, hsub2⟩ := iv
      obtain ⟨e, he, rfl⟩ := enumD_get hd
      rw [signsS, List.getElem?_map] at he
      cases hci : l[i]? with
      | none => rw [hci] at he; cases he
      | some c =>
        rw [hci] at he
        cases he
        obtain ⟨hil, hcc⟩ := List.getElem?_eq_some_iff.mp hci
        have hl2 := hL.len
        have hdrop : l.drop i = c :: l.drop (i + 1) := by rw [List.drop_eq_getElem_cons hil, hcc]
        rw [hdrop] at hrun
        have i1 := hcu.ins
        k_caughtNB
        refine ⟨a, q, dx, s, i, c, rfl, hcu, by have := hsz.b; omega, by have := hsz.w; omega, fun m3 hc3 hf3 => ?_⟩
        have hsub3 : ∀ x ∈ m, x ∈ m3 := fun x hx => hf3 x (hsub2 x hx) (fun z => ha (z ▸ List.mem_map.mpr ⟨x, hx, rfl⟩)) (fun z => hqm (z ▸ List.mem_map.mpr ⟨x, hx, rfl⟩))
        k_caughtNB
        cases hst : (stp i c s).2 with
        | false =>
          k_caughtNB
          refine ls_raise_at TB gd ?_
          k_caughtNB
          refine q1 i m3 ?_ hsub3
          rw [hrun, run, if_neg (by rw [hst]; exact Bool.false_ne_true)]
        | true =>
          k_caughtNB
          refine ⟨(stp i c s).1, _, _, rfl, ?_, sz_stp hsz, hc3, hsub3⟩
          rw [hrun, run, if_pos hst]
    · obtain ⟨s, a2, a3, rfl, hrun, hsz, hcu, hsub2⟩ := iv
      have el : (enumD (signs (SX.S l))).length = l.length := by rw [enumD_len, signsS, List.length_map]
      rw [el, List.drop_length, run] at hrun
      have i1 := hcu.ins
      k_caughtNB
      cases htk : s.tk with
      | true =>
        k_caughtNB
        refine ls_raise_at TB gd ?_
        k_caughtNB
        refine c_lenS hz ?_
        k_caughtNB
        exact q2 s m2 hrun htk hsub2
      | false =>
        k_caughtNB
        exact q3 s a q dx m2 hrun htk ⟨by have := hsz.b; have := hL.len; omega, by have := hsz.w; have := hL.len; omega⟩ ha hqm hcu hsub2
theorem ok_cut {f : Addr} {fd : FuncData} {C CB CT iB iT : Addr} (B : Bi mg) (T : CuK K C) (TB : Ex_at.Txt K mg "BadSign" CB iB) (D1 : FnD P w K mg base "gone_through" 4 (W_gone C CB)) (D2 : FnD P w K mg base "need_few" 3 (W_few CT)) (M1 : MtD P w K mg base C "ends_word" 1 (W_ends C))
    (F : Fun K "cut" "cut" s_cut f fd) : FnG P w K mg base 5 f fd ["line"] (toSp K (W_cut C CB CT)) := by
  refine fn_dw F sc_cut (fun ds m Q E h => ?_) (fun cdv A outer s H E gd ds m Q E' h => ?_)
  · obtain ⟨l, rfl, _⟩ := h
    rfl
  · obtain ⟨l, rfl, hL, q1, q2, q3⟩ := h
    have hb1 := B.len; have hb2 := B.list
    have i2 := T.cl; have i3 := T.n3; have i4 := T.n4; have i5 := T.n1
    show LB _ _ [some (.str (SX.S l)), none] m _
    k_caughtNB
    refine ⟨l, rfl, hL, fun n m1 hr hs => ?_, fun s m1 hr htk hs => ?_, fun s a q dx m1 hr htk hsz ha hqm hc hs => ?_⟩
    · refine q1 n m1 ?_ hs
      unfold cutR; rw [hr]
    · have hne : l ≠ [] := fun z => by
        subst z
        rw [run] at hr
        cases hr
        cases htk
      have hp : 0 < l.length := List.length_pos_iff.mpr hne
      have e : ((l.length : Int) - 1) = ((l.length - 1 : Nat) : Int) := by omega
      rw [e]
      refine q1 _ m1 ?_ hs
      unfold cutR
      rw [hr]
      simp only [htk, if_true]
    · have i1 := hc.ins
      k_caughtNB
      by_cases hq : s.qt = []
      · rw [decide_eq_true (show SX.S s.qt = Str.ofString "" by rw [hq]; rfl)]
        k_caughtNB
        refine ⟨a, q, dx, s, rfl, hc, by have := hsz.w; omega, fun m2 hc2 hf2 => ?_⟩
        have hs2 : ∀ x ∈ m, x ∈ m2 := fun x hx => hf2 x (hs x hx) (fun z => ha (z ▸ List.mem_map.mpr ⟨x, hx, rfl⟩)) (fun z => hqm (z ▸ List.mem_map.mpr ⟨x, hx, rfl⟩))
        have i6 := hc2.ins
        k_caughtNB
        refine c_len_mut hc2.lst ?_
        have el : (wsD (endW s).ws).length = (endW s).ws.length := by unfold wsD; rw [List.length_map]
        rw [el]
        k_caughtNB
        refine ⟨(endW s).ws.length, rfl, fun h40 => ?_, fun h40 => ?_⟩
        · k_caughtNB
          refine c_list_mutM hc2.lst (fun p hp => ?_)
          refine q3 (endW s).ws p _ ?_ (fun z => hp ?_) List.mem_cons_self (fun x hx => List.mem_cons_of_mem _ (hs2 x hx))
          · unfold cutR
            rw [hr]
            simp only [htk, hq, Bool.false_eq_true, if_false, ne_eq, not_true, if_pos h40]
          · obtain ⟨x, hx, rfl⟩ := List.mem_map.mp z
            exact List.mem_map.mpr ⟨x, hs2 x hx, rfl⟩
        · refine q2 _ m2 ?_ hs2
          unfold cutR
          rw [hr]
          simp only [htk, hq, Bool.false_eq_true, if_false, ne_eq, not_true, if_neg (Nat.not_le.mpr h40)]
      · rw [decide_eq_false (show ¬ (SX.S s.qt = Str.ofString "") from fun z => hq (SX.S_inj (b := []) z))]
        k_caughtNB
        refine ls_raise_at TB gd ?_
        k_caughtNB
        refine q1 s.op m1 ?_ hs
        unfold cutR
        rw [hr]
        simp only [htk, Bool.false_eq_true, if_false, ne_eq, hq, not_false_iff, if_true]
end
local macro_rules | `(tactic| tb_start) => `(tactic| ((with_reducible show Dw.LE _ (.BoolOp .Or [_, .Constant (.str _) _ _] _) _ _ _ _); refine le_orS ?_))
/-! ### the law's own cutting -/
structure Iq (s : Cs) : Prop where
  q : s.qt = [] ∨ s.qt = [39] ∨ s.qt = [34]
  b : s.qt ≠ [] → s.bg ≠ none
theorem iq_in {c : Nat} {s : Cs} (h : Iq s) : Iq (goIn c s) := ⟨h.q, fun _ => by simp [goIn]⟩
theorem iq_stp {n c : Nat} {s : Cs} (h : Iq s) : Iq (stp n c s).1 := by
  unfold stp
  split
  · exact iq_in (s := { s with tk := false }) ⟨h.q, h.b⟩
  · split
    · rename_i hq
      unfold outs
      split
      · exact ⟨.inl hq, fun z => absurd hq z⟩
      · split
        · exact iq_in h
        · split
          · exact ⟨.inl hq, fun z => absurd hq z⟩
          · refine ⟨?_, fun _ => by simp⟩
            show [c] = [] ∨ [c] = [39] ∨ [c] = [34]
            have : c = 39 ∨ c = 34 := by omega
            rcases this with rfl | rfl
            · exact .inr (.inl rfl)
            · exact .inr (.inr rfl)
    · split
      · exact ⟨.inl rfl, fun z => absurd rfl z⟩
      · split
        · exact ⟨h.q, h.b⟩
        · exact iq_in h
def wi (c : Nat) (s : Cs) : Bool := (!decide (s.qt = [])) && ((!decide ([c] = s.qt)) && ((!decide (c = 92)) || decide (s.qt = [39])))
def c1 (c : Nat) (s : Cs) : Bool := s.tk || (wi c s || (decide (s.qt = []) && !decide (c ∈ [32, 10, 39, 34, 92])))
theorem s_eta (s : Cs) (h : s.tk = false) : { s with tk := false } = s := by cases s; cases h; rfl
theorem stp_t {n c : Nat} {s : Cs} (hi : Iq s) (h : c1 c s = true) : stp n c s = (goIn c { s with tk := false }, inOk c s) := by
  unfold stp
  by_cases h1 : s.tk = true
  · rw [if_pos h1]
  have h1' : s.tk = false := by simpa using h1
  rw [if_neg h1, s_eta s h1']
  unfold c1 wi at h
  rw [h1'] at h
  by_cases h2 : s.qt = []
  · rw [if_pos h2]
    have h3 : c ∉ [32, 10, 39, 34, 92] := by simpa [h2] using h
    simp only [List.mem_cons, List.not_mem_nil, or_false, not_or] at h3
    unfold outs
    rw [if_neg (by omega), if_pos (by omega)]
  · rw [if_neg h2]
    have h3 : ¬ [c] = s.qt ∧ (c ≠ 92 ∨ s.qt = [39]) := by simpa [h2] using h
    rw [if_neg h3.1, if_neg]
    rintro ⟨h4, h5⟩
    rcases h3.2 with h6 | h6
    · exact h6 h4
    · rw [h5] at h6; cases h6
theorem stp_f {n c : Nat} {s : Cs} (hi : Iq s) (h : c1 c s = false) : s.tk = false ∧ stp n c s = if c = 92 then ({ s with bg := some (s.bg.getD []), tk := true }, true) else if s.qt ≠ [] then ({ s with qt := [] }, true) else if c = 39 ∨ c = 34 then ({ s with bg := some (s.bg.getD []), qt := [c], op := n }, true) else (endW s, true) := by
  have h1 : s.tk = false := by
    cases e : s.tk with
    | false => rfl
    | true => unfold c1 at h; rw [e] at h; cases h
  refine ⟨h1, ?_⟩
  unfold c1 wi at h
  rw [h1] at h
  unfold stp
  rw [if_neg (by rw [h1]; exact Bool.false_ne_true)]
  by_cases h2 : s.qt = []
  · rw [if_pos h2]
    have h3 : c ∈ [32, 10, 39, 34, 92] := Decidable.byContradiction fun z => by simp only [h2, z, decide_true, decide_false, Bool.not_true, Bool.false_and, Bool.or_false, Bool.false_or, Bool.not_false, Bool.and_true] at h; cases h
    simp only [List.mem_cons, List.not_mem_nil, or_false] at h3
    unfold outs
    rcases h3 with rfl | rfl | rfl | rfl | rfl <;> simp [h2]
  · rw [if_neg h2]
    have h3 : [c] = s.qt ∨ (c = 92 ∧ ¬ s.qt = [39]) := by
      by_cases e : [c] = s.qt
      · exact .inl e
      · exact .inr (by simpa [h2, e] using h)
    rcases hi.q with q | q | q
    · exact absurd q h2
    · rcases h3 with h3 | h3
      · rw [q] at h3
        have hc : c = 39 := (List.cons.inj h3).1
        rw [if_pos (by rw [hc, q]), if_neg (by omega), if_pos h2]
      · exact absurd q h3.2
    · rcases h3 with h3 | h3
      · rw [q] at h3
        have hc : c = 34 := (List.cons.inj h3).1
        rw [if_pos (by rw [hc, q]), if_neg (by omega), if_pos h2]
      · have hne : ¬ [c] = s.qt := by rw [h3.1, q]; decide
        rw [if_neg hne, if_pos ⟨h3.1, q⟩, if_pos h3.1]
        cases hb : s.bg with
        | none => exact absurd hb (hi.b h2)
        | some b =>
          cases s
          cases hb
          rfl
def stD (l : List Nat) : Dt :=
  match run 0 l c0 with
  | .inl n => .dct (mergeD [] [(.inr "bad", .int (n : Nat))])
  | .inr s => if s.tk = true then .dct (mergeD [] [(.inr "bad", .int ((l.length : Int) - 1))]) else .dct (mergeD [] [(.inr "bad", .non), (.inr "words", .lst (wsD s.ws)), (.inr "begun", oS s.bg), (.inr "quote", .str (SX.S s.qt)), (.inr "opened", .int (s.op : Nat))])
def W_state : Spd := fun ds m F E => ∃ l, ds = [.str (SX.S l)] ∧ l.length ≤ 2000 ∧ F (stD l) m
section
variable {P : Program} {w : World} {K : PySem.W.Frag} {mg : Str → Option Value} {base : Heap}
theorem ok_state {f : Addr} {fd : FuncData} (B : Bi mg) (F : Fun K "_law_state" "_law_state" s_l_state f fd) : FnG P w K mg base 1 f fd ["_law_line_here"] (toSp K W_state) := by
  refine fn_dw F sc_l_state (fun ds m Q E h => ?_) (fun cdv A outer s H E gd ds m Q E' h => ?_)
  · obtain ⟨l, rfl, _⟩ := h
    rfl
  · obtain ⟨l, rfl, hL, hq⟩ := h
    have hb1 := B.enumerate; have hb2 := B.len; have hb3 := B.int
    have hz : l.length ≤ sizeLine := by rw [sizeLine_eq]; omega
    show LB _ _ [some (.str (SX.S l)), none, none, none, none, none, none, none, none] m _
    k_caughtNB
    refine ls_for gd (fun ds i r2 m2 => ∃ s a1 a2 a3, r2 = [some (.str (SX.S l)), some (.lst (wsD s.ws)), some (oS s.bg), some (.str (SX.S s.qt)), some (.int (s.op : Nat)), some (.bl s.tk), a1, a2, a3] ∧ run 0 l c0 = run i (l.drop i) s ∧ Sz i s ∧ Iq s ∧ m2 = m) ?_
    refine li_enumS hb1 ?_
    k_caughtNB
    refine ⟨⟨c0, _, _, _, rfl, rfl, ⟨Nat.le_refl _, Nat.le_refl _⟩, ⟨.inl rfl, fun z => absurd rfl z⟩, rfl⟩, fun i d r2 m2 hd iv => ?_, fun r2 m2 iv => ?_⟩
    rotate_left
    · obtain ⟨s, a1, a2, a3, rfl, hrun, hsz, hiq, rfl⟩ := iv
      have el : (enumD (signs (SX.S l))).length = l.length := by rw [enumD_len, signsS, List.length_map]
      rw [el, List.drop_length, run] at hrun
      unfold stD at hq
      rw [hrun] at hq
      dsimp only at hq
      k_caughtNB
      cases htk : s.tk with
      | true =>
        rw [if_pos htk] at hq
        k_caughtNB
        refine le_dct (.cons .nil) ?_
        k_caughtNB
        refine c_lenS hz ?_
        k_caughtNB
        exact ⟨by simp, hq⟩
      | false =>
        rw [if_neg (by rw [htk]; exact Bool.false_ne_true)] at hq
        k_caughtNB
        refine le_dct (.cons (.cons (.cons (.cons (.cons .nil))))) ?_
        k_caughtNB
        exact ⟨by simp, hq⟩
    · obtain ⟨s, a1, a2, a3, rfl, hrun, hsz, hiq, rfl⟩ := iv
      obtain ⟨e, he, rfl⟩ := enumD_get hd
      rw [signsS, List.getElem?_map] at he
      cases hci : l[i]? with
      | none => rw [hci] at he; cases he
      | some c =>
        have he' : e = .str (SX.S [c]) := by rw [hci] at he; exact (Option.some.inj he).symm
        subst he'
        obtain ⟨hil, hcc⟩ := List.getElem?_eq_some_iff.mp hci
        have hdrop : l.drop i = c :: l.drop (i + 1) := by rw [List.drop_eq_getElem_cons hil, hcc]
        rw [hdrop] at hrun
        have hs1 : Sz (i + 1) (stp i c s).1 := sz_stp hsz
        have hi1 : Iq (stp i c s).1 := iq_stp hiq
        have hbl : (s.bg.getD []).length ≤ 2000 := by have := hsz.b; omega
        have hq0 : ∀ b : Bool, decide (SX.S s.qt = Str.ofString "") = decide (s.qt = []) := fun _ => decide_eq_decide.mpr ⟨fun z => SX.S_inj (b := []) z, fun z => by rw [z]; rfl⟩
        have hqc : decide (SX.S [c] = SX.S s.qt) = decide ([c] = s.qt) := decide_eq_decide.mpr ⟨fun z => SX.S_inj z, fun z => by rw [z]⟩
        have h92 : decide (SX.S [c] = Str.ofString "\\") = decide (c = 92) := decide_eq_decide.mpr ⟨fun z => (List.cons.inj (SX.S_inj (b := [92]) z)).1, fun z => by rw [z]; rfl⟩
        have h39 : decide (SX.S s.qt = Str.ofString "'") = decide (s.qt = [39]) := decide_eq_decide.mpr ⟨fun z => SX.S_inj (b := [39]) z, fun z => by rw [z]; rfl⟩
        have h10 : decide (SX.S [c] = Str.ofString "\n") = decide (c = 10) := decide_eq_decide.mpr ⟨fun z => (List.cons.inj (SX.S_inj (b := [10]) z)).1, fun z => by rw [z]; rfl⟩
        have hin5 : decide (c ∈ (Str.ofString " \n'\"\\").cps.toList) = decide (c ∈ [32, 10, 39, 34, 92]) := rfl
        refine' lg_tup gd (lgs_cons (lg_name gd ?hs1 (lgs_cons (lg_name gd ?hs2 (lgs_nil ?_)))))
        (case hs1 => tb_rel)
        (case hs2 => tb_rel)
        refine lb_midP [some (.str (SX.S l)), some (.lst (wsD s.ws)), some (oS s.bg), some (.str (SX.S s.qt)), some (.int (s.op : Nat)), some (.bl s.tk), some (.int (i : Nat)), some (.str (SX.S [c])), some (.bl (wi c s))] m2 ?_ ?_
        · k_caughtNB
          rw [hq0 true]
          unfold wi
          cases e1 : decide (s.qt = []) with
          | true =>
            k_caughtNB
            exact ⟨rfl, rfl⟩
          | false =>
            k_caughtNB
            rw [hqc]
            cases e2 : decide ([c] = s.qt) with
            | true =>
              k_caughtNB
              exact ⟨rfl, rfl⟩
            | false =>
              k_caughtNB
              rw [h92]
              cases e3 : decide (c = 92) with
              | false =>
                k_caughtNB
                exact ⟨rfl, rfl⟩
              | true =>
                k_caughtNB
                rw [h39]
                exact ⟨rfl, rfl⟩
        refine lb_one (ls_ifP (c1 c s) ?_ (fun hc1 => ?_) (fun hc1 => ?_))
        · unfold c1
          k_caughtNB
          cases e1 : s.tk with
          | true =>
            k_caughtNB
            exact ⟨rfl, rfl⟩
          | false =>
            k_caughtNB
            cases e2 : wi c s with
            | true =>
              k_caughtNB
              exact ⟨rfl, rfl⟩
            | false =>
              k_caughtNB
              rw [hq0 true]
              cases e3 : decide (s.qt = []) with
              | false =>
                k_caughtNB
                exact ⟨rfl, rfl⟩
              | true =>
                k_caughtNB
                exact ⟨rfl, rfl⟩
        · rw [stp_t hiq hc1] at hs1 hi1
          rw [run, stp_t hiq hc1] at hrun
          dsimp only at hrun
          k_caughtNB
          refine ⟨by rw [sizeLine_eq]; omega, ?_⟩
          k_caughtNB
          refine o_addS (by rw [sizeLine_eq]; simp; omega) ?_
          k_caughtNB
          rw [h10]
          have hbad : inOk c s = false → stD l = .dct (mergeD [] [(.inr "bad", .int (i : Nat))]) := fun z => by
            unfold stD
            rw [hrun, if_neg (by rw [z]; exact Bool.false_ne_true)]
          by_cases e10 : c = 10
          · have hno : inOk c s = false := by unfold inOk; rw [decide_eq_true e10]; rfl
            rw [hbad hno] at hq
            rw [decide_eq_true e10]
            k_caughtNB
            refine le_dct (.cons .nil) ?_
            k_caughtNB
            exact ⟨by simp, hq⟩
          · rw [decide_eq_false e10]
            k_caughtNB
            refine c_lenS (by rw [sizeLine_eq]; simp; omega) ?_
            k_caughtNB
            by_cases e40 : (s.bg.getD []).length + 1 ≤ 40
            · have hyes : inOk c s = true := by unfold inOk; rw [decide_eq_false e10, decide_eq_true e40]; rfl
              rw [hyes, if_pos rfl] at hrun
              rw [decide_eq_false (show ¬ ((40 : Int) < ((s.bg.getD [] ++ [c]).length : Nat)) by simp; omega)]
              k_caughtNB
              exact ⟨goIn c { s with tk := false }, _, _, _, rfl, hrun, hs1, hi1, rfl⟩
            · have hno : inOk c s = false := by unfold inOk; rw [decide_eq_false e40]; simp
              rw [hbad hno] at hq
              rw [decide_eq_true (show ((40 : Int) < ((s.bg.getD [] ++ [c]).length : Nat)) by simp; omega)]
              k_caughtNB
              refine le_dct (.cons .nil) ?_
              k_caughtNB
              exact ⟨by simp, hq⟩
        · obtain ⟨htk, hst⟩ := stp_f (n := i) hiq hc1
          rw [hst] at hs1 hi1
          rw [run, hst] at hrun
          k_caughtNB
          rw [h92]
          by_cases e92 : c = 92
          · rw [if_pos e92] at hs1 hi1 hrun
            dsimp only at hrun
            rw [if_pos rfl] at hrun
            rw [decide_eq_true e92]
            k_caughtNB
            refine ⟨by rw [sizeLine_eq]; omega, ?_⟩
            k_caughtNB
            exact ⟨{ s with bg := some (s.bg.getD []), tk := true }, _, _, _, rfl, hrun, hs1, hi1, rfl⟩
          rw [if_neg e92] at hs1 hi1 hrun
          rw [decide_eq_false e92]
          k_caughtNB
          rw [hq0 true]
          by_cases eq : s.qt = []
          rotate_left
          · rw [if_pos eq] at hs1 hi1 hrun
            dsimp only at hrun
            rw [if_pos rfl] at hrun
            rw [decide_eq_false eq]
            k_caughtNB
            exact ⟨{ s with qt := [] }, _, _, _, rfl, hrun, hs1, hi1, rfl⟩
          rw [if_neg (show ¬ s.qt ≠ [] from fun z => z eq)] at hs1 hi1 hrun
          rw [decide_eq_true eq]
          k_caughtNB
          rw [show decide (c ∈ (Str.ofString "'\"").cps.toList) = decide (c = 39 ∨ c = 34) from decide_eq_decide.mpr (show c ∈ [39, 34] ↔ _ by simp)]
          by_cases ec : c = 39 ∨ c = 34
          · rw [if_pos ec] at hs1 hi1 hrun
            dsimp only at hrun
            rw [if_pos rfl] at hrun
            rw [decide_eq_true ec]
            k_caughtNB
            refine ⟨by rw [sizeLine_eq]; omega, ?_⟩
            k_caughtNB
            exact ⟨{ s with bg := some (s.bg.getD []), qt := [c], op := i }, _, _, _, rfl, hrun, hs1, hi1, rfl⟩
          · rw [if_neg ec] at hs1 hi1 hrun
            dsimp only at hrun
            rw [if_pos rfl] at hrun
            rw [decide_eq_false ec]
            k_caughtNB
            have hwl : (wsD s.ws).length ≤ 2000 := by unfold wsD; rw [List.length_map]; have := hsz.w; omega
            have ews : wsD (endW s).ws = wsD s.ws ++ (List.replicate (if (!isNon (oS s.bg)) = true then 1 else 0 : Int).toNat [oS s.bg]).flatten := by
              unfold endW wsD
              rw [List.map_append]
              cases s.bg <;> rfl
            refine o_mulL (by split <;> decide) (by split <;> decide) (by rw [sizeLine_eq]; split <;> simp) ?_
            refine o_cat ?_ ?_
            · have : (List.replicate (if (!isNon (oS s.bg)) = true then 1 else 0 : Int).toNat [oS s.bg]).flatten.length ≤ 1 := by split <;> simp
              rw [sizeLine_eq]; omega
            rw [← ews]
            k_caughtNB
            exact ⟨endW s, _, _, _, rfl, hrun, hs1, hi1, rfl⟩
end
def dueD (l : List Nat) : Dt :=
  match cutR l with
  | .sign n => .lst [.str "sign", .int (n : Nat)]
  | .many n => .lst [.str "many", .int (n : Nat)]
  | .told ws => .lst [.str "told", .lst (wsD ws)]
def W_due : Spd := fun ds m F E => ∃ l, ds = [.str (SX.S l)] ∧ l.length ≤ 2000 ∧ F (dueD l) m
theorem sz_run : ∀ (l : List Nat) (n k : Nat) (s t : Cs), Sz k s → run n l s = .inr t → Sz (k + l.length) t
  | [], n, k, s, t, h, e => by rw [run] at e; cases e; exact h
  | c :: l, n, k, s, t, h, e => by
    rw [run] at e
    split at e
    · have := sz_run l (n + 1) (k + 1) _ t (sz_stp h) e
      rw [List.length_cons]
      exact ⟨by have := this.b; omega, by have := this.w; omega⟩
    · cases e
section
variable {P : Program} {w : World} {K : PySem.W.Frag} {mg : Str → Option Value} {base : Heap}
theorem ok_due {f : Addr} {fd : FuncData} (B : Bi mg) (D1 : FnD P w K mg base "_law_state" 1 W_state) (F : Fun K "_law_due" "_law_due" s_l_due f fd) : FnG P w K mg base 2 f fd ["_law_line_here"] (toSp K W_due) := by
  refine fn_dw F sc_l_due (fun ds m Q E h => ?_) (fun cdv A outer s H E gd ds m Q E' h => ?_)
  · obtain ⟨l, rfl, _⟩ := h
    rfl
  · obtain ⟨l, rfl, hL, hq⟩ := h
    have hb2 := B.len; have hb3 := B.int
    show LB _ _ [some (.str (SX.S l)), none, none] m _
    k_caughtNB
    refine ⟨l, rfl, hL, ?_⟩
    unfold stD
    unfold dueD cutR at hq
    cases hr : run 0 l c0 with
    | inl n =>
      rw [hr] at hq
      dsimp only at hq ⊢
      k_caughtNB
      exact hq
    | inr s =>
      rw [hr] at hq
      dsimp only at hq ⊢
      have hsz := sz_run l 0 0 c0 s ⟨Nat.le_refl _, Nat.le_refl _⟩ hr
      cases htk : s.tk with
      | true =>
        rw [htk, if_pos rfl] at hq
        have hne : l ≠ [] := fun z => by
          subst z
          rw [run] at hr
          cases hr
          cases htk
        have hp : 0 < l.length := List.length_pos_iff.mpr hne
        have e : ((l.length - 1 : Nat) : Int) = ((l.length : Int) - 1) := by omega
        dsimp only at hq
        rw [e] at hq
        rw [if_pos rfl]
        k_caughtNB
        exact hq
      | false =>
        rw [htk, if_neg Bool.false_ne_true] at hq
        rw [if_neg Bool.false_ne_true]
        k_caughtNB
        by_cases eq : s.qt = []
        rotate_left
        · rw [if_pos eq] at hq
          dsimp only at hq
          rw [decide_eq_false (show ¬ (SX.S s.qt = Str.ofString "") from fun z => eq (SX.S_inj (b := []) z))]
          k_caughtNB
          exact hq
        rw [if_neg (show ¬ s.qt ≠ [] from fun z => z eq)] at hq
        rw [decide_eq_true (show SX.S s.qt = Str.ofString "" by rw [eq]; rfl)]
        k_caughtNB
        have hwl : (wsD s.ws).length ≤ 2000 := by unfold wsD; rw [List.length_map]; have := hsz.w; omega
        have ews : wsD (endW s).ws = wsD s.ws ++ (List.replicate (if (!isNon (oS s.bg)) = true then 1 else 0 : Int).toNat [oS s.bg]).flatten := by
          unfold endW wsD
          rw [List.map_append]
          cases s.bg <;> rfl
        show O2 _ _ (.lst [oS s.bg]) (.int (if (!isNon (oS s.bg)) = true then 1 else 0)) _ _
        refine o_mulL (by split <;> decide) (by split <;> decide) (by rw [sizeLine_eq]; split <;> simp) ?_
        refine o_cat ?_ ?_
        · have : (List.replicate (if (!isNon (oS s.bg)) = true then 1 else 0 : Int).toNat [oS s.bg]).flatten.length ≤ 1 := by split <;> simp
          rw [sizeLine_eq]; omega
        rw [← ews]
        have el : (wsD (endW s).ws).length = (endW s).ws.length := by unfold wsD; rw [List.length_map]
        k_caughtNB
        rw [el]
        by_cases h40 : (endW s).ws.length ≤ 40
        · rw [if_pos h40] at hq
          dsimp only at hq
          rw [decide_eq_false (show ¬ ((40 : Int) < ((endW s).ws.length : Nat)) by omega)]
          k_caughtNB
          exact hq
        · rw [if_neg h40] at hq
          dsimp only at hq
          rw [decide_eq_true (show ((40 : Int) < ((endW s).ws.length : Nat)) by omega)]
          k_caughtNB
          rw [el]
          exact hq
end
def Shp (l : List Nat) (m m' : Mu) (ds : List Dt) : Prop := (∃ t n, ds = [.str t, .int n] ∧ decide (t = Str.ofString "told") = false) ∨ ∃ p ws, ds = [.str "told", .raw (.ref p)] ∧ p ∉ dom m ∧ (p, Mc.lst (wsD ws)) ∈ m' ∧ ws.length ≤ 40 ∧ cutR l = .told ws
def W_lcut (C CB CT : Addr) : Spd := fun ds m F E => ∃ l, ds = [.str (SX.S l)] ∧ Ln l ∧ ∀ ds es m', dueD l = .lst es → RzL m' ds es → Shp l m m' ds → (∀ x ∈ m, x ∈ m') → F (.lst ds) m'
def W_right : Spd := fun ds m F E => ∃ l, ds = [.str (SX.S l)] ∧ Ln l ∧ ∀ m', (∀ x ∈ m, x ∈ m') → F (.bl true) m'
theorem smW {ws : List (List Nat)} (h : ∀ l ∈ ws, l.length ≤ 40 ∧ ∀ c ∈ l, c < 1114112) : SmL (404 * ws.length) 0 (wsD ws) := by
  induction ws with
  | nil => exact SmL.nil
  | cons w ws ih =>
    have h1 := h w List.mem_cons_self
    have h2 := ih fun x hx => h x (List.mem_cons_of_mem _ hx)
    exact (SmL.cons (Sm.str (n := 402) (k := 0) h1.2 (by have := h1.1; omega)) h2).mono (by rw [List.length_cons]; omega) (Nat.le_refl _)
/-- all words are short -/
structure Wd (s : Cs) : Prop where
  w : ∀ l ∈ s.ws, l.length ≤ 40 ∧ ∀ c ∈ l, c < 1114112
  b : ∀ l, s.bg = some l → l.length ≤ 40 ∧ ∀ c ∈ l, c < 1114112
theorem wd_in {c : Nat} {s : Cs} (hc : c < 1114112) (h : Wd s) (hi : inOk c s = true) : Wd (goIn c s) := by
  refine ⟨h.w, fun l e => ?_⟩
  have hl : (s.bg.getD []).length + 1 ≤ 40 := by
    unfold inOk at hi
    exact of_decide_eq_true (Bool.and_eq_true_iff.mp hi).2
  have e' : s.bg.getD [] ++ [c] = l := Option.some.inj e
  subst e'
  refine ⟨by rw [List.length_append, List.length_singleton]; exact hl, fun x hx => ?_⟩
  rcases List.mem_append.mp hx with hx | hx
  · cases hb : s.bg with
    | none => rw [hb] at hx; cases hx
    | some b => rw [hb] at hx; exact (h.b b hb).2 x hx
  · rw [List.mem_singleton.mp hx]; exact hc
theorem wd_end {s : Cs} (h : Wd s) : Wd (endW s) := by
  refine ⟨fun l hl => ?_, fun l e => by cases e⟩
  rcases List.mem_append.mp hl with hl | hl
  · exact h.w l hl
  · cases hb : s.bg with
    | none => rw [hb] at hl; cases hl
    | some b => rw [hb] at hl; rw [List.mem_singleton.mp hl]; exact h.b b hb
theorem wd_some {s : Cs} (h : Wd s) : ∀ l, some (s.bg.getD []) = some l → l.length ≤ 40 ∧ ∀ c ∈ l, c < 1114112 := fun l e => by
  have e' : s.bg.getD [] = l := Option.some.inj e
  subst e'
  cases hb : s.bg with
  | none => exact ⟨by simp, fun c hc => by cases hc⟩
  | some b => exact h.b b hb
theorem wd_stp {n c : Nat} {s : Cs} (hc : c < 1114112) (h : Wd s) (ho : (stp n c s).2 = true) : Wd (stp n c s).1 := by
  unfold stp at ho ⊢
  split
  · rename_i h1
    rw [if_pos h1] at ho
    exact wd_in hc (s := { s with tk := false }) ⟨h.w, h.b⟩ ho
  · rename_i h1
    rw [if_neg h1] at ho
    split
    · rename_i h2
      rw [if_pos h2] at ho
      unfold outs at ho ⊢
      split
      · exact wd_end h
      · rename_i h3
        rw [if_neg h3] at ho
        split
        · rename_i h4
          rw [if_pos h4] at ho
          exact wd_in hc h ho
        · split
          · exact ⟨h.w, wd_some h⟩
          · exact ⟨h.w, wd_some h⟩
    · rename_i h2
      rw [if_neg h2] at ho
      split
      · exact ⟨h.w, h.b⟩
      · rename_i h3
        rw [if_neg h3] at ho
        split
        · exact ⟨h.w, h.b⟩
        · rename_i h4
          rw [if_neg h4] at ho
          exact wd_in hc h ho
theorem wd_run : ∀ (l : List Nat) (n : Nat) (s t : Cs), (∀ c ∈ l, c < 1114112) → Wd s → run n l s = .inr t → Wd t
  | [], n, s, t, _, h, e => by rw [run] at e; cases e; exact h
  | c :: l, n, s, t, hl, h, e => by
    rw [run] at e
    split at e
    · rename_i ho
      exact wd_run l (n + 1) _ t (fun x hx => hl x (List.mem_cons_of_mem _ hx)) (wd_stp (hl c List.mem_cons_self) h ho) e
    · cases e
theorem run_lt : ∀ (l : List Nat) (n : Nat) (s : Cs) (k : Nat), run n l s = .inl k → k < n + l.length
  | [], n, s, k, e => by rw [run] at e; cases e
  | c :: l, n, s, k, e => by
    rw [run] at e
    rw [List.length_cons]
    split at e
    · have := run_lt l (n + 1) _ k e
      omega
    · cases e
      omega
theorem op_stp {n c : Nat} {s : Cs} (h : s.op ≤ n) : (stp n c s).1.op ≤ n := by
  unfold stp
  split
  · exact h
  · split
    · unfold outs
      split
      · exact h
      · split
        · exact h
        · split
          · exact h
          · exact Nat.le_refl _
    · split
      · exact h
      · split
        · exact h
        · exact h
theorem run_op : ∀ (l : List Nat) (n : Nat) (s t : Cs), s.op ≤ n → run n l s = .inr t → t.op ≤ n + l.length
  | [], n, s, t, h, e => by rw [run] at e; cases e; exact h
  | c :: l, n, s, t, h, e => by
    rw [run] at e
    rw [List.length_cons]
    split at e
    · have := run_op l (n + 1) _ t (Nat.le_succ_of_le (op_stp h)) e
      omega
    · cases e
theorem told_ok {l : List Nat} {ws : List (List Nat)} (hl : ∀ c ∈ l, c < 1114112) (h : cutR l = .told ws) : ws.length ≤ 40 ∧ ∀ l ∈ ws, l.length ≤ 40 ∧ ∀ c ∈ l, c < 1114112 := by
  unfold cutR at h
  cases hr : run 0 l c0 with
  | inl n => rw [hr] at h; cases h
  | inr s =>
    rw [hr] at h
    dsimp only at h
    have hw := wd_end (wd_run l 0 c0 s hl ⟨(fun x hx => nomatch hx), (fun x hx => nomatch hx)⟩ hr)
    split at h
    · cases h
    · split at h
      · cases h
      · split at h
        · rename_i h40
          cases h
          exact ⟨h40, hw.w⟩
        · cases h
theorem sht_due {l : List Nat} (hl : Ln l) : Sht (dueD l) := by
  have hc : ∀ c ∈ l, c < 1114112 := fun c h => by rcases hl.sg c h with h | h <;> omega
  have s4 : Sm 42 1 (.str "sign") := ⟨by decide +kernel, by decide +kernel, by decide +kernel⟩
  have s5 : Sm 42 1 (.str "many") := ⟨by decide +kernel, by decide +kernel, by decide +kernel⟩
  have s6 : Sm 42 1 (.str "told") := ⟨by decide +kernel, by decide +kernel, by decide +kernel⟩
  have hint : ∀ n : Nat, n ≤ 3000 → Sm 300 1 (.int (n : Nat)) := fun n hn => Sm.int (by
    have : ((n : Int)).natAbs ≤ 3000 := by omega
    exact Nat.lt_of_le_of_lt this (by decide)) (by decide)
  unfold dueD
  cases hr : cutR l with
  | told ws =>
    obtain ⟨h40, hw⟩ := told_ok hc hr
    have h1 := (smW hw).mono (show 404 * ws.length ≤ 16160 by omega) (Nat.le_refl 0)
    exact (SmL.cons s6 (SmL.cons h1.lst (SmL.nil (n := 0)))).lst.sht (by decide) (by decide)
  | sign n =>
    have hn : n ≤ 3000 := by
      unfold cutR at hr
      cases hq : run 0 l c0 with
      | inl k =>
        rw [hq] at hr
        cases hr
        have := run_lt l 0 c0 n hq
        have := hl.len
        omega
      | inr s =>
        rw [hq] at hr
        dsimp only at hr
        split at hr
        · cases hr; have := hl.len; omega
        · split at hr
          · cases hr
            have := run_op l 0 c0 s (Nat.zero_le _) hq
            have := hl.len
            omega
          · split at hr <;> cases hr
    exact (SmL.cons s4 (SmL.cons (hint n hn) (SmL.nil (n := 0)))).lst.sht (by decide) (by decide)
  | many n =>
    have hn : n ≤ 3000 := by
      unfold cutR at hr
      cases hq : run 0 l c0 with
      | inl k => rw [hq] at hr; cases hr
      | inr s =>
        rw [hq] at hr
        dsimp only at hr
        have hsz := sz_end (sz_run l 0 0 c0 s ⟨Nat.le_refl _, Nat.le_refl _⟩ hq)
        split at hr
        · cases hr
        · split at hr
          · cases hr
          · split at hr
            · cases hr
            · cases hr
              have := hsz.w
              have := hl.len
              omega
    exact (SmL.cons s5 (SmL.cons (hint n hn) (SmL.nil (n := 0)))).lst.sht (by decide) (by decide)
section
variable {P : Program} {w : World} {K : PySem.W.Frag} {mg : Str → Option Value} {base : Heap}
theorem ok_lcut {f : Addr} {fd : FuncData} {C CB CT iB iT : Addr} (TB : Ex_at.Txt K mg "BadSign" CB iB) (TT : Ex_many.Txt K mg "TooMany" CT iT) (hn : PySem.W.exmOne K (.ref CT) (.ref CB) = some false) (D1 : FnD P w K mg base "cut" 5 (W_cut C CB CT))
    (F : Fun K "_law_cut" "_law_cut" s_l_cut f fd) : FnG P w K mg base 6 f fd ["_law_line_here"] (toSp K (W_lcut C CB CT)) := by
  refine fn_dw F sc_l_cut (fun ds m Q E h => ?_) (fun cdv A outer s H E gd ds m Q E' h => ?_)
  · obtain ⟨l, rfl, _⟩ := h
    rfl
  · obtain ⟨l, rfl, hL, hq⟩ := h
    have hcc : ∀ c ∈ l, c < 1114112 := fun c h => by rcases hL.sg c h with h | h <;> omega
    show LB _ _ [some (.str (SX.S l)), none] m _
    refine lb_cons (ls_try gd [.ref CB, .ref CT] (HdS.named ⟨rfl, by decide, .inl TB.gC⟩ ⟨1, rfl⟩ rfl (HdS.named ⟨rfl, by decide, .inl TT.gC⟩ ⟨1, rfl⟩ rfl .rest)) (fun pn xe gd2 => ?_))
    k_caughtNB
    refine ⟨l, rfl, hL, fun n m1 hr hs => ?_, fun n m1 hr hs => ?_, fun ws p m1 hr hp hm hs => ?_⟩
    · refine ⟨true, TB.te, fun _ => ⟨_, by tb_rel, fun a oe pn dx hz hv => ?_⟩, fun h => absurd h (by decide)⟩
      have gs := gd.su a ((a, oe) :: pn)
      k_caughtNB
      refine le_exfld (C := CB) (dx := dx) (cls := .ref CB) hz hv TB.ga TB.gg TB.exC TB.hdC TB.noN ?_
      k_caughtNB
      refine ⟨_, _, rfl, rfl, ?_⟩
      k_caughtNB
      exact hq _ _ m1 (by unfold dueD; rw [hr]) (RzL.same _) (.inl ⟨_, _, rfl, by decide +kernel⟩) hs
    · refine ⟨false, hn, fun h => absurd h (by decide), fun _ => ?_⟩
      refine ⟨true, TT.te, fun _ => ⟨_, by tb_rel, fun a oe pn dx hz hv => ?_⟩, fun h => absurd h (by decide)⟩
      have gs := gd.su a ((a, oe) :: pn)
      k_caughtNB
      refine le_exfld (C := CT) (dx := dx) (cls := .ref CT) hz hv TT.ga TT.gg TT.exC TT.hdC TT.noN ?_
      k_caughtNB
      refine ⟨_, _, rfl, rfl, ?_⟩
      k_caughtNB
      exact hq _ _ m1 (by unfold dueD; rw [hr]) (RzL.same _) (.inl ⟨_, _, rfl, by decide +kernel⟩) hs
    · k_caughtNB
      exact hq _ _ m1 (by unfold dueD; rw [hr]) (.cons .same (.cons (.ptr hm (RzL.same _)) .nil)) (.inr ⟨p, ws, rfl, hp, hm, (told_ok hcc hr).1, hr⟩) hs
theorem ok_lright {f : Addr} {fd : FuncData} {C CB CT : Addr} (B : Bi mg) (D1 : FnD P w K mg base "_law_cut" 6 (W_lcut C CB CT)) (D2 : FnD P w K mg base "_law_due" 2 W_due) (F : Fun K "_law_right" "_law_right" s_l_right f fd) : FnG P w K mg base 7 f fd ["_law_line_here"] (toSp K W_right) := by
  refine fn_dw F sc_l_right (fun ds m Q E h => ?_) (fun cdv A outer s H E gd ds m Q E' h => ?_)
  · obtain ⟨l, rfl, _⟩ := h
    rfl
  · obtain ⟨l, rfl, hL, hq⟩ := h
    have hb1 := B.repr
    have hsh := sht_due hL
    show LB _ _ [some (.str (SX.S l)), none] m _
    refine lb_mid (fun r1 m1 => ∃ ds es, r1 = [some (.str (SX.S l)), some (.lst ds)] ∧ dueD l = .lst es ∧ RzL m1 ds es ∧ Shp l m m1 ds ∧ ∀ x ∈ m, x ∈ m1) ?_ ?_
    · k_caughtNB
      exact ⟨l, rfl, hL, fun ds es m1 h1 h2 h3 h4 => ⟨ds, es, rfl, h1, h2, h3, h4⟩⟩
    rintro r1 m1 ⟨ds, es, rfl, h1, h2, h3, h4⟩
    have hsh1 : Sht (.lst es) := by rw [← h1]; exact hsh
    refine lb_midP [some (.str (SX.S l)), some (.lst ds)] m1 ?_ ?_
    · k_caughtNB
      refine c_reprP gd.gu gd.room.units h2 hsh1 ?_
      k_caughtNB
      refine ⟨l, rfl, hL.len, ?_⟩
      rw [h1]
      k_caughtNB
      refine c_reprT gd.gu gd.room.units hsh1 ?_
      k_caughtNB
      exact ⟨rfl, rfl⟩
    refine lb_mid (fun r2 m2 => r2 = [some (.str (SX.S l)), some (.lst ds)] ∧ ∀ x ∈ m, x ∈ m2) ?_ ?_
    · rcases h3 with ⟨t, n, rfl, ht⟩ | ⟨p, ws, rfl, hp, hm, h40, hr⟩
      · k_caughtNB
        rw [ht]
        k_caughtNB
        exact ⟨rfl, h4⟩
      · k_caughtNB
        refine le_append ?_
        k_caughtNB
        refine ⟨⟨p, _, rfl, hm⟩, ?_⟩
        k_caughtNB
        refine ⟨p, wsD ws, _, rfl, rfl, hm, by unfold wsD; rw [List.length_map, sizeLine_eq]; omega, rfl, fun x hx => ?_⟩
        exact put_other (c' := x.2) (h4 x hx) fun z => hp (z ▸ List.mem_map.mpr ⟨x, hx, rfl⟩)
    rintro r2 m2 ⟨rfl, h5⟩
    k_caughtNB
    refine ⟨l, rfl, hL, fun ds2 es2 m3 k1 k2 k3 k4 => ?_⟩
    have ee : es2 = es := by rw [h1] at k1; exact (Dt.lst.inj k1).symm
    subst ee
    k_caughtNB
    refine c_reprP gd.gu gd.room.units k2 hsh1 ?_
    k_caughtNB
    refine ⟨l, rfl, hL.len, ?_⟩
    rw [h1]
    k_caughtNB
    refine c_reprT gd.gu gd.room.units hsh1 ?_
    k_caughtNB
    exact hq m3 fun x hx => k4 x (h5 x hx)
end
/-! ### what is drawn -/
def Pr (c : Nat) : Prop := 32 ≤ c ∧ c ≤ 126
def W_pick : Spd := fun ds m F E => (∃ b n l, ds = [.raw (.ref b), .str (SX.S l)] ∧ 0 < l.length ∧ l.length ≤ 100 ∧ Bx b n m ∧ n ≤ 900000 ∧ ∀ c ∈ l, ∀ m', Bx b (n + 1) m' → F (.str (SX.S [c])) m') ∨
  (∃ b n es, ds = [.raw (.ref b), .lst es] ∧ 0 < es.length ∧ es.length ≤ 100 ∧ Bx b n m ∧ n ≤ 900000 ∧ ∀ d ∈ es, ∀ m', Bx b (n + 1) m' → F d m')
def W_sign : Spd := fun ds m F E => ∃ b n, ds = [.raw (.ref b)] ∧ Bx b n m ∧ n ≤ 890000 ∧ ∀ c m', Pr c → Bx b (n + 2) m' → F (.str (SX.S [c])) m'
def W_wd : Spd := fun ds m F E => ∃ (b : Addr) (n k : Nat), ds = [.raw (.ref b), .int (k : Nat)] ∧ k ≤ 40 ∧ Bx b n m ∧ n ≤ 800000 ∧ ∀ l m', l.length ≤ 40 → (∀ c ∈ l, Pr c) → Bx b (n + 90) m' → F (.str (SX.S l)) m'
def W_gap : Spd := fun ds m F E => ∃ (b : Addr) (n k : Nat), ds = [.raw (.ref b), .int (k : Nat)] ∧ k ≤ 1 ∧ Bx b n m ∧ n ≤ 800000 ∧ ∀ l m', k ≤ l.length → l.length ≤ k + 1 → (∀ c ∈ l, c = 32 ∨ c = 10) → Bx b (n + 5) m' → F (.str (SX.S l)) m'
theorem all_pr {l : List Nat} (h : l.all (fun c => decide (32 ≤ c ∧ c ≤ 126)) = true) : ∀ c ∈ l, Pr c := fun c hc => (of_decide_eq_true (List.all_eq_true.mp h c hc) : 32 ≤ c ∧ c ≤ 126)
section
variable {P : Program} {w : World} {K : PySem.W.Frag} {mg : Str → Option Value} {base : Heap}
theorem ok_pick {f : Addr} {fd : FuncData} (B : Bi mg) (D1 : FnD P w K mg base "_law_take" 1 W_take) (F : Fun K "_law_pick" "_law_pick" s_l_pick f fd) : FnG P w K mg base 2 f fd ["_law_box_here", "_law_some"] (toSp K W_pick) := by
  refine fn_dw F sc_l_pick (fun ds m Q E h => ?_) (fun cdv A outer s H E gd ds m Q E' h => ?_)
  · rcases h with ⟨b, n, l, rfl, _⟩ | ⟨b, n, l, rfl, _⟩ <;> rfl
  · have hb1 := B.len
    rcases h with ⟨b, n, l, rfl, h0, h1, hb, hn, q⟩ | ⟨b, n, l, rfl, h0, h1, hb, hn, q⟩
    · show LB _ _ [some (.raw (.ref b)), some (.str (SX.S l))] m _
      k_caughtNB
      refine c_lenS (by rw [sizeLine_eq]; omega) ?_
      k_caughtNB
      refine W_take.ap (by omega) (by omega) hb (by omega) (fun r m1 r0 r1 hb1 => ?_)
      exact oi_strM (by rw [sizeLine_eq]; omega) r0 r1 (fun c hc => q c hc m1 hb1)
    · show LB _ _ [some (.raw (.ref b)), some (.lst l)] m _
      k_caughtNB
      refine W_take.ap (by omega) (by omega) hb (by omega) (fun r m1 r0 r1 hb1 => ?_)
      exact oi_lstM r0 r1 (fun d hd => q d hd m1 hb1)
theorem ok_sign {f : Addr} {fd : FuncData} (D1 : FnD P w K mg base "_law_take" 1 W_take) (D2 : FnD P w K mg base "_law_pick" 2 W_pick) (F : Fun K "_law_sign" "_law_sign" s_l_sign f fd) : FnG P w K mg base 3 f fd ["_law_box_here"] (toSp K W_sign) := by
  refine fn_dw F sc_l_sign (fun ds m Q E h => ?_) (fun cdv A outer s H E gd ds m Q E' h => ?_)
  · obtain ⟨b, n, rfl, _⟩ := h
    rfl
  · obtain ⟨b, n, rfl, hb, hn, q⟩ := h
    show LB _ _ [some (.raw (.ref b)), none] m _
    k_caughtNB
    refine W_take.ap (by decide) (by decide) hb (by omega) (fun r m1 r0 r1 hb1 => ?_)
    refine oi_lstM r0 r1 (fun d hd => ?_)
    obtain ⟨l, rfl, h1, h2, h3⟩ : ∃ l, d = .str (SX.S l) ∧ 0 < l.length ∧ l.length ≤ 100 ∧ ∀ c ∈ l, Pr c := by
      simp only [List.mem_cons, List.not_mem_nil, or_false] at hd
      rcases hd with rfl | rfl | rfl
      · exact ⟨[32, 39, 34, 92, 97, 98, 39, 32, 92, 35, 61, 45, 126, 36, 46, 34, 122], rfl, by decide, by decide, all_pr (by decide)⟩
      · exact ⟨[32, 39, 34, 92], rfl, by decide, by decide, all_pr (by decide)⟩
      · exact ⟨[32, 33, 34, 35, 36, 38, 39, 40, 41, 42, 43, 44, 45, 46, 47, 48, 49, 50, 51, 52, 53, 54, 55, 56, 57, 58, 59, 60, 61, 62, 63, 64, 65, 66, 67, 77, 88, 89, 90, 91, 92, 93, 94, 95, 96, 97, 98, 99, 109, 120, 121, 122, 123, 124, 125, 126], rfl, by decide, by decide, all_pr (by decide)⟩
    k_caughtNB
    exact .inl ⟨b, _, l, rfl, h1, h2, hb1, by omega, fun c hc m2 hb2 => q c m2 (h3 c hc) hb2⟩
theorem ok_wd {f : Addr} {fd : FuncData} (B : Bi mg) (D1 : FnD P w K mg base "_law_take" 1 W_take) (D2 : FnD P w K mg base "_law_sign" 3 W_sign) (F : Fun K "_law_word" "_law_word" s_l_word f fd) : FnG P w K mg base 4 f fd ["_law_box_here", "_law_most"] (toSp K W_wd) := by
  refine fn_dw F sc_l_word (fun ds m Q E h => ?_) (fun cdv A outer s H E gd ds m Q E' h => ?_)
  · obtain ⟨b, n, k, rfl, _⟩ := h
    rfl
  · obtain ⟨b, n, k, rfl, hk, hb, hn, q⟩ := h
    have hb1 := B.range
    show LB _ _ [some (.raw (.ref b)), some (.int (k : Nat)), none, none] m _
    k_caughtNB
    refine W_take.ap (by decide) (by decide) hb (by omega) (fun r m1 r0 r1 hb1 => ?_)
    k_caughtNB
    refine W_take.ap (by decide) (by decide) hb1 (by omega) (fun r2 m2 r20 r21 hb2 => ?_)
    refine oi_lstM r20 r21 (fun d hd => ?_)
    obtain ⟨i, rfl, hi0, hi1⟩ : ∃ i : Int, d = .int i ∧ 0 ≤ i ∧ i ≤ 40 := by
      simp only [List.mem_cons, List.not_mem_nil, or_false] at hd
      rcases hd with rfl | rfl | rfl | rfl | rfl | rfl <;> exact ⟨_, rfl, by omega, by omega⟩
    k_caughtNB
    refine le_join0 ?_
    k_subL
    refine li_rng1 (by assumption) ?_
    k_caughtNB
    refine ⟨by omega, by omega, ?_⟩
    refine lc_each (ds := rng 0 i.toNat) (fun j acc m3 => ∃ cs : List Nat, acc = cs.map (fun c => Dt.str (SX.S [c])) ∧ cs.length = j ∧ (∀ c ∈ cs, Pr c) ∧ Bx b (n + 2 + 2 * j) m3) gd (by rw [rng_len, sizeLine_eq]; omega) ⟨[], rfl, rfl, by simp, hb2⟩ (fun j d acc m3 hj hacc iv s1 H1 C1 cl1 fp1 gd1 => ?_) (fun acc m3 hacc iv => ?_)
    · obtain ⟨cs, rfl, hl, hc, hb3⟩ := iv
      obtain ⟨hj2, _⟩ := rng_get' hj
      k_caughtNB
      refine ⟨b, _, rfl, hb3, by omega, fun c m4 hcp hb4 => ?_⟩
      refine ⟨cs ++ [c], by simp, by simp [hl], fun x hx => ?_, hb4⟩
      rcases List.mem_append.mp hx with hx | hx
      · exact hc x hx
      · rw [List.mem_singleton.mp hx]; exact hcp
    · obtain ⟨cs, rfl, hl, hc, hb3⟩ := iv
      rw [rng_len] at hl
      refine ⟨cs.map fun c => [c], by rw [List.map_map]; rfl, ?_, ?_⟩
      · rw [flat_one]; omega
      rw [flat_one]
      exact q cs m3 (by omega) hc (hb3.mono (by rw [rng_len]; omega))
theorem ok_gap {f : Addr} {fd : FuncData} (B : Bi mg) (D1 : FnD P w K mg base "_law_take" 1 W_take) (D2 : FnD P w K mg base "_law_pick" 2 W_pick) (F : Fun K "_law_gap" "_law_gap" s_l_gap f fd) : FnG P w K mg base 3 f fd ["_law_box_here", "_law_few"] (toSp K W_gap) := by
  refine fn_dw F sc_l_gap (fun ds m Q E h => ?_) (fun cdv A outer s H E gd ds m Q E' h => ?_)
  · obtain ⟨b, n, k, rfl, _⟩ := h
    rfl
  · obtain ⟨b, n, k, rfl, hk, hb, hn, q⟩ := h
    have hb1 := B.range
    show LB _ _ [some (.raw (.ref b)), some (.int (k : Nat)), none] m _
    k_caughtNB
    refine le_join0 ?_
    k_subL
    refine li_rng1 (by assumption) ?_
    k_caughtNB
    refine W_take.ap (by decide) (by decide) hb (by omega) (fun r m1 r0 r1 hb1 => ?_)
    k_caughtNB
    refine o_fdiv ⟨by decide, by decide⟩ ?_
    k_caughtNB
    have hr : 0 ≤ r / 2 ∧ r / 2 ≤ 1 := by omega
    generalize r / 2 = r' at hr
    refine ⟨by omega, by omega, ?_⟩
    refine lc_each (ds := rng 0 ((k : Int) + r').toNat) (fun j acc m3 => ∃ cs : List Nat, acc = cs.map (fun c => Dt.str (SX.S [c])) ∧ cs.length = j ∧ (∀ c ∈ cs, c = 32 ∨ c = 10) ∧ Bx b (n + 1 + j) m3) gd (by rw [rng_len, sizeLine_eq]; omega) ⟨[], rfl, rfl, by simp, hb1⟩ (fun j d acc m3 hj hacc iv s1 H1 C1 cl1 fp1 gd1 => ?_) (fun acc m3 hacc iv => ?_)
    · obtain ⟨cs, rfl, hl, hc, hb3⟩ := iv
      obtain ⟨hj2, _⟩ := rng_get' hj
      k_caughtNB
      refine .inl ⟨b, _, [32, 32, 10], rfl, by decide, by decide, hb3, by omega, fun c hcm m4 hb4 => ?_⟩
      refine ⟨cs ++ [c], by simp, by simp [hl], fun x hx => ?_, hb4⟩
      rcases List.mem_append.mp hx with hx | hx
      · exact hc x hx
      · rw [List.mem_singleton.mp hx]
        simp only [List.mem_cons, List.not_mem_nil, or_false] at hcm
        omega
    · obtain ⟨cs, rfl, hl, hc, hb3⟩ := iv
      rw [rng_len] at hl
      refine ⟨cs.map fun c => [c], by rw [List.map_map]; rfl, ?_, ?_⟩
      · rw [flat_one]; omega
      rw [flat_one]
      exact q cs m3 (by omega) (by omega) hc (hb3.mono (by rw [rng_len]; omega))
end
/-! ### what is written is cut -/
def Puts (t w : List Nat) : Prop := ∀ (n : Nat) (rest : List Nat) (s : Cs), s.tk = false → s.qt = [] → (s.bg.getD []).length + w.length ≤ 40 → ∃ op, run n (t ++ rest) s = run (n + t.length) rest { s with bg := some (s.bg.getD [] ++ w), op := op }
def InQ (q : Nat) (t w : List Nat) : Prop := ∀ (n : Nat) (rest b : List Nat) (s : Cs), s.tk = false → s.qt = [q] → s.bg = some b → b.length + w.length ≤ 40 → run n (t ++ rest) s = run (n + t.length) rest { s with bg := some (b ++ w) }
theorem Puts.app {t1 t2 w1 w2 : List Nat} (h1 : Puts t1 w1) (h2 : Puts t2 w2) : Puts (t1 ++ t2) (w1 ++ w2) := fun n rest s htk hqt hl => by
  rw [List.length_append] at hl
  obtain ⟨o1, e1⟩ := h1 n (t2 ++ rest) s htk hqt (by omega)
  obtain ⟨o2, e2⟩ := h2 (n + t1.length) rest { s with bg := some (s.bg.getD [] ++ w1), op := o1 } htk hqt (by simp; omega)
  refine ⟨o2, ?_⟩
  rw [List.append_assoc, e1, e2]
  simp [Nat.add_assoc]
theorem InQ.nil {q : Nat} : InQ q [] [] := fun n rest b s _ _ hb _ => by
  cases s
  cases hb
  simp
theorem InQ.app {q : Nat} {t1 t2 w1 w2 : List Nat} (h1 : InQ q t1 w1) (h2 : InQ q t2 w2) : InQ q (t1 ++ t2) (w1 ++ w2) := fun n rest b s htk hqt hb hl => by
  rw [List.length_append] at hl
  rw [List.append_assoc, h1 n (t2 ++ rest) b s htk hqt hb (by omega), h2 (n + t1.length) rest (b ++ w1) { s with bg := some (b ++ w1) } htk hqt rfl (by simp; omega)]
  simp [Nat.add_assoc]
theorem inQ_one {q c : Nat} (h1 : c ≠ q) (h2 : ¬ (c = 92 ∧ q = 34)) (h3 : c ≠ 10) : InQ q [c] [c] := fun n rest b s htk hqt hb hl => by
  have hl' : b.length + 1 ≤ 40 := hl
  have e : stp n c s = (goIn c s, inOk c s) := by
    unfold stp
    rw [if_neg (by rw [htk]; exact Bool.false_ne_true), if_neg (by rw [hqt]; simp), if_neg (by rw [hqt]; simpa using h1), if_neg]
    rintro ⟨h4, h5⟩
    rw [hqt] at h5
    exact h2 ⟨h4, (List.cons.inj h5).1⟩
  have ok : inOk c s = true := by unfold inOk; rw [decide_eq_false h3, hb]; simp; omega
  show run n (c :: rest) s = _
  rw [run, e, if_pos ok]
  unfold goIn
  rw [hb]
  rfl
theorem in34_two {c : Nat} (h3 : c ≠ 10) : InQ 34 [92, c] [c] := fun n rest b s htk hqt hb hl => by
  have hl' : b.length + 1 ≤ 40 := hl
  have e : stp n 92 s = ({ s with tk := true }, true) := by
    unfold stp
    rw [if_neg (by rw [htk]; exact Bool.false_ne_true), if_neg (by rw [hqt]; simp), if_neg (by rw [hqt]; decide), if_pos ⟨rfl, hqt⟩]
  have e2 : stp (n + 1) c { s with tk := true } = (goIn c s, inOk c s) := by
    unfold stp
    rw [if_pos rfl]
    cases s
    cases htk
    rfl
  have ok : inOk c s = true := by unfold inOk; rw [decide_eq_false h3, hb]; simp; omega
  show run n (92 :: c :: rest) s = _
  rw [run, e, if_pos rfl]
  dsimp only
  rw [run, e2, if_pos ok]
  unfold goIn
  rw [hb]
  rfl
theorem puts_q {q : Nat} {t w : List Nat} (hq : q = 39 ∨ q = 34) (h : InQ q t w) : Puts ([q] ++ t ++ [q]) w := fun n rest s htk hqt hl => by
  have e : stp n q s = ({ s with bg := some (s.bg.getD []), qt := [q], op := n }, true) := by
    unfold stp
    rw [if_neg (by rw [htk]; exact Bool.false_ne_true), if_pos hqt]
    unfold outs
    rw [if_neg (by omega), if_neg (by omega), if_neg (by omega)]
  refine ⟨n, ?_⟩
  have e0 : [q] ++ t ++ [q] ++ rest = q :: (t ++ (q :: rest)) := by simp
  rw [e0, run, e, if_pos rfl]
  dsimp only
  rw [h (n + 1) (q :: rest) (s.bg.getD []) { s with bg := some (s.bg.getD []), qt := [q], op := n } htk rfl rfl hl, run]
  have e3 : stp (n + 1 + t.length) q { s with bg := some (s.bg.getD [] ++ w), qt := [q], op := n } = ({ s with bg := some (s.bg.getD [] ++ w), qt := [], op := n }, true) := by
    unfold stp
    rw [if_neg (by simp only [htk]; exact Bool.false_ne_true), if_neg (by simp), if_pos rfl]
  simp only [e3, if_true]
  have e4 : n + 1 + t.length + 1 = n + ([q] ++ t ++ [q]).length := by simp; omega
  rw [e4]
  cases s
  cases hqt
  rfl
theorem puts_one {c : Nat} (h : c ≠ 32 ∧ c ≠ 10 ∧ c ≠ 39 ∧ c ≠ 34 ∧ c ≠ 92) : Puts [c] [c] := fun n rest s htk hqt hl => by
  have hl' : (s.bg.getD []).length + 1 ≤ 40 := hl
  have e : stp n c s = (goIn c s, inOk c s) := by
    unfold stp
    rw [if_neg (by rw [htk]; exact Bool.false_ne_true), if_pos hqt]
    unfold outs
    rw [if_neg (by omega), if_pos (by omega)]
  have ok : inOk c s = true := by unfold inOk; rw [decide_eq_false h.2.1]; simp; omega
  refine ⟨s.op, ?_⟩
  show run n (c :: rest) s = _
  rw [run, e, if_pos ok]
  rfl
theorem puts_two {c : Nat} (h3 : c ≠ 10) : Puts [92, c] [c] := fun n rest s htk hqt hl => by
  have hl' : (s.bg.getD []).length + 1 ≤ 40 := hl
  have e : stp n 92 s = ({ s with bg := some (s.bg.getD []), tk := true }, true) := by
    unfold stp
    rw [if_neg (by rw [htk]; exact Bool.false_ne_true), if_pos hqt]
    rfl
  have e2 : stp (n + 1) c { s with bg := some (s.bg.getD []), tk := true } = ({ s with bg := some (s.bg.getD [] ++ [c]), tk := false }, true) := by
    unfold stp
    rw [if_pos rfl]
    have ok : inOk c { s with bg := some (s.bg.getD []), tk := true } = true := by unfold inOk; rw [decide_eq_false h3]; simp; omega
    rw [ok]
    rfl
  refine ⟨s.op, ?_⟩
  show run n (92 :: c :: rest) s = _
  rw [run, e, if_pos rfl]
  dsimp only
  rw [run, e2, if_pos rfl]
  dsimp only
  cases s
  cases htk
  rfl
/-- a stroke ahead of each sign that needs it, and of some others -/
inductive Stk (N : List Nat) : List Nat → List Nat → Prop
  | nil : Stk N [] []
  | bare {p t : List Nat} {c : Nat} : Stk N p t → c ∉ N → Stk N (p ++ [c]) (t ++ [c])
  | two {p t : List Nat} {c : Nat} : Stk N p t → Stk N (p ++ [c]) (t ++ [92, c])
theorem Stk.len {N p t : List Nat} (h : Stk N p t) : t.length ≤ 2 * p.length := by
  induction h with
  | nil => simp
  | bare _ _ ih => simp; omega
  | two _ ih => simp; omega
theorem Stk.pr {N p t : List Nat} (h : Stk N p t) (hp : ∀ c ∈ p, Pr c) : ∀ c ∈ t, Pr c := by
  induction h with
  | nil => exact fun c hc => by cases hc
  | @bare p t c _ _ ih =>
    intro x hx
    rcases List.mem_append.mp hx with hx | hx
    · exact ih (fun y hy => hp y (List.mem_append_left _ hy)) x hx
    · exact hp x (List.mem_append_right _ hx)
  | @two p t c _ ih =>
    intro x hx
    rcases List.mem_append.mp hx with hx | hx
    · exact ih (fun y hy => hp y (List.mem_append_left _ hy)) x hx
    · simp only [List.mem_cons, List.not_mem_nil, or_false] at hx
      rcases hx with rfl | rfl
      · exact ⟨by decide, by decide⟩
      · exact hp x (List.mem_append_right _ List.mem_cons_self)
theorem Stk.in34 {p t : List Nat} (h : Stk [34, 92] p t) (hp : ∀ c ∈ p, Pr c) : InQ 34 t p := by
  induction h with
  | nil => exact InQ.nil
  | @bare p t c _ hc ih =>
    have hc2 := hp c (List.mem_append_right _ List.mem_cons_self)
    simp only [List.mem_cons, List.not_mem_nil, or_false, not_or] at hc
    exact InQ.app (ih fun y hy => hp y (List.mem_append_left _ hy)) (inQ_one hc.1 (fun z => hc.2 z.1) (by have := hc2.1; omega))
  | @two p t c _ ih =>
    have hc2 := hp c (List.mem_append_right _ List.mem_cons_self)
    exact InQ.app (ih fun y hy => hp y (List.mem_append_left _ hy)) (in34_two (by have := hc2.1; omega))
theorem in39 {p : List Nat} (h : ∀ c ∈ p, Pr c ∧ c ≠ 39) : InQ 39 p p := by
  induction p with
  | nil => exact InQ.nil
  | cons c p ih =>
    have := h c List.mem_cons_self
    exact InQ.app (t1 := [c]) (w1 := [c]) (inQ_one this.2 (by omega) (by have := this.1.1; omega)) (ih fun x hx => h x (List.mem_cons_of_mem _ hx))
theorem puts_nil_of {t w : List Nat} (ht : t = []) (hw : w = []) : ∀ (n : Nat) (rest : List Nat) (s : Cs) (b : List Nat), s.bg = some b → run n (t ++ rest) s = run (n + t.length) rest { s with bg := some (b ++ w) } := fun n rest s b hb => by
  subst ht hw
  cases s
  cases hb
  simp
theorem Stk.puts {p t : List Nat} (h : Stk [32, 39, 34, 92] p t) (hp : ∀ c ∈ p, Pr c) : p ≠ [] → Puts t p := by
  induction h with
  | nil => exact fun z => absurd rfl z
  | @bare p t c h hc ih =>
    intro _
    have hc2 := hp c (List.mem_append_right _ List.mem_cons_self)
    simp only [List.mem_cons, List.not_mem_nil, or_false, not_or] at hc
    have h1 : Puts [c] [c] := puts_one ⟨hc.1, by have := hc2.1; omega, hc.2.1, hc.2.2.1, hc.2.2.2⟩
    by_cases e : p = []
    · subst e
      have : t = [] := List.eq_nil_of_length_eq_zero (by have := h.len; simpa using this)
      subst this
      exact h1
    · exact (ih (fun y hy => hp y (List.mem_append_left _ hy)) e).app h1
  | @two p t c h ih =>
    intro _
    have hc2 := hp c (List.mem_append_right _ List.mem_cons_self)
    have h1 : Puts [92, c] [c] := puts_two (by have := hc2.1; omega)
    by_cases e : p = []
    · subst e
      have : t = [] := List.eq_nil_of_length_eq_zero (by have := h.len; simpa using this)
      subst this
      exact h1
    · exact (ih (fun y hy => hp y (List.mem_append_left _ hy)) e).app h1
def W_strk : Spd := fun ds m F E => ∃ (b : Addr) (n : Nat) (w N : List Nat), ds = [.raw (.ref b), .str (SX.S w), .str (SX.S N)] ∧ w.length ≤ 40 ∧ (∀ c ∈ w, Pr c) ∧ Bx b n m ∧ n ≤ 800000 ∧ ∀ t m', Stk N w t → Bx b (n + w.length) m' → F (.str (SX.S t)) m'
section
variable {P : Program} {w : World} {K : PySem.W.Frag} {mg : Str → Option Value} {base : Heap}
theorem ok_strk {f : Addr} {fd : FuncData} (B : Bi mg) (D1 : FnD P w K mg base "_law_take" 1 W_take) (F : Fun K "_law_stroked" "_law_stroked" s_l_stroked f fd) : FnG P w K mg base 2 f fd ["_law_box_here", "_law_word_here", "_law_needs"] (toSp K W_strk) := by
  refine fn_dw F sc_l_stroked (fun ds m Q E h => ?_) (fun cdv A outer s H E gd ds m Q E' h => ?_)
  · obtain ⟨b, n, w, N, rfl, _⟩ := h
    rfl
  · obtain ⟨b, n, w, N, rfl, hw, hp, hb, hn, q⟩ := h
    have hb1 := B.int
    show LB _ _ [some (.raw (.ref b)), some (.str (SX.S w)), some (.str (SX.S N)), none] m _
    k_caughtNB
    refine le_join0 ?_
    k_subL
    refine li_str ?_
    k_caughtNB
    rw [signsS]
    refine lc_each (ds := w.map fun c => Dt.str (SX.S [c])) (fun j acc m3 => ∃ ys : List (List Nat), acc = ys.map (fun l => Dt.str (SX.S l)) ∧ Stk N (w.take j) ys.flatten ∧ Bx b (n + j) m3) gd (by rw [List.length_map, sizeLine_eq]; omega) ⟨[], rfl, .nil, hb⟩ (fun j d acc m3 hj hacc iv s1 H1 C1 cl1 fp1 gd1 => ?_) (fun acc m3 hacc iv => ?_)
    · obtain ⟨ys, rfl, hst, hb3⟩ := iv
      rw [List.getElem?_map] at hj
      cases hc : w[j]? with
      | none => rw [hc] at hj; cases hj
      | some c =>
        have hd : d = .str (SX.S [c]) := by rw [hc] at hj; exact (Option.some.inj hj).symm
        subst hd
        have hjl := (List.getElem?_eq_some_iff.mp hc).1
        have htk : w.take (j + 1) = w.take j ++ [c] := by rw [List.take_add_one, hc]; rfl
        have two : ∀ m4, Bx b (n + j + 1) m4 → ∃ ys' : List (List Nat), ys.map (fun l => Dt.str (SX.S l)) ++ [Dt.str (SX.S ([92] ++ [c]))] = ys'.map (fun l => Dt.str (SX.S l)) ∧ Stk N (w.take (j + 1)) ys'.flatten ∧ Bx b (n + (j + 1)) m4 := fun m4 hb4 =>
          ⟨ys ++ [[92, c]], by simp, by rw [htk, List.flatten_append]; simpa using Stk.two hst, hb4⟩
        k_caughtNB
        by_cases hin : c ∈ N
        · rw [decide_eq_true (show c ∈ (SX.S N).cps.toList from hin)]
          k_caughtNB
          refine o_mulS (l := [92]) (by decide) (by decide) (by decide) ?_
          k_caughtNB
          refine o_addS (a := [92]) (by rw [sizeLine_eq]; simp) ?_
          exact two m3 (hb3.mono (by omega))
        · rw [decide_eq_false (show ¬ c ∈ (SX.S N).cps.toList from hin)]
          k_caughtNB
          refine W_take.ap (by decide) (by decide) hb3 (by omega) (fun r m4 r0 r1 hb4 => ?_)
          k_caughtNB
          by_cases hr : r = 0
          · rw [decide_eq_true hr]
            refine o_mulS (l := [92]) (by decide) (by decide) (by decide) ?_
            k_caughtNB
            refine o_addS (a := [92]) (by rw [sizeLine_eq]; simp) ?_
            exact two m4 hb4
          · rw [decide_eq_false hr]
            refine o_mulS (l := [92]) (by decide) (by decide) (by decide) ?_
            k_caughtNB
            refine o_addS (a := []) (by rw [sizeLine_eq]; simp) ?_
            exact ⟨ys ++ [[c]], by simp, by rw [htk, List.flatten_append]; simpa using Stk.bare hst hin, hb4⟩
    · obtain ⟨ys, rfl, hst, hb3⟩ := iv
      rw [List.length_map] at hst hb3
      rw [List.take_length] at hst
      refine ⟨ys, rfl, ?_, q _ m3 hst hb3⟩
      have := hst.len
      omega
end
structure Wr (w t : List Nat) : Prop where
  pu : Puts t w
  len : t.length ≤ 4 * w.length + 4
  pr : ∀ c ∈ t, Pr c
def W_wri : Spd := fun ds m F E => ∃ (b : Addr) (n : Nat) (w : List Nat), ds = [.raw (.ref b), .str (SX.S w)] ∧ w.length ≤ 40 ∧ (∀ c ∈ w, Pr c) ∧ Bx b n m ∧ n ≤ 700000 ∧ ∀ t m', Wr w t → Bx b (n + 130) m' → F (.str (SX.S t)) m'
def IvW (b : Addr) (n : Nat) (w : List Nat) (k : Nat) (r2 : En) (m2 : Mu) : Prop := ∃ t p u a1 a2 a3, r2 = [some (.raw (.ref b)), some (.str (SX.S w)), some (.str (SX.S t)), some (.str (SX.S u)), a1, a2, a3] ∧ w = p ++ u ∧ u.length = k ∧ (p ≠ [] → Puts t p) ∧ (p = [] → t = []) ∧ t.length ≤ 4 * p.length ∧ (∀ c ∈ t, Pr c) ∧ Bx b (n + 3 * p.length) m2
section
variable {P : Program} {w : World} {K : PySem.W.Frag} {mg : Str → Option Value} {base : Heap}
theorem ok_wri {f : Addr} {fd : FuncData} (B : Bi mg) (D1 : FnD P w K mg base "_law_take" 1 W_take) (D2 : FnD P w K mg base "_law_pick" 2 W_pick) (D3 : FnD P w K mg base "_law_stroked" 2 W_strk) (F : Fun K "_law_written" "_law_written" s_l_written f fd) : FnG P w K mg base 3 f fd ["_law_box_here", "_law_word_here"] (toSp K W_wri) := by
  refine fn_dw F sc_l_written (fun ds m Q E h => ?_) (fun cdv A outer s H E gd ds m Q E' h => ?_)
  · obtain ⟨b, n, w, rfl, _⟩ := h
    rfl
  · obtain ⟨b, n, w, rfl, hw, hp, hb, hn, q⟩ := h
    have hb1 := B.len
    show LB _ _ [some (.raw (.ref b)), some (.str (SX.S w)), none, none, none, none, none] m _
    have p39 : Puts [39, 39] [] := puts_q (q := 39) (t := []) (.inl rfl) InQ.nil
    have p34 : Puts [34, 34] [] := puts_q (q := 34) (t := []) (.inr rfl) InQ.nil
    by_cases hw0 : w = []
    · subst hw0
      k_caughtNB
      refine .inr ⟨b, n, _, rfl, by simp, by simp, hb, by omega, fun d hd m1 hb1 => ?_⟩
      simp only [List.mem_cons, List.not_mem_nil, or_false] at hd
      rcases hd with rfl | rfl | rfl | rfl
      · exact q [39, 39] m1 ⟨p39, by simp, all_pr (by decide)⟩ (hb1.mono (by omega))
      · exact q [34, 34] m1 ⟨p34, by simp, all_pr (by decide)⟩ (hb1.mono (by omega))
      · exact q [39, 39, 34, 34] m1 ⟨p39.app p34, by simp, all_pr (by decide)⟩ (hb1.mono (by omega))
      · exact q [34, 34, 34, 34] m1 ⟨p34.app p34, by simp, all_pr (by decide)⟩ (hb1.mono (by omega))
    k_caughtNB
    rw [decide_eq_false (show ¬ (SX.S w = Str.ofString "") from fun z => hw0 (SX.S_inj (b := []) z))]
    k_caughtNB
    refine ls_while gd (IvW b n w) ⟨w.length, [], [], w, _, _, _, rfl, rfl, rfl, fun z => absurd rfl z, fun _ => rfl, by simp, (fun c hc => nomatch hc), hb⟩ (fun k r2 m2 iv => ?_)
    obtain ⟨t, p, u, a1, a2, a3, rfl, rfl, hk, h1, h2, h3, h4, hb2⟩ := iv
    rw [List.length_append] at hw
    by_cases hu : u = []
    · subst hu
      k_caughtNB
      rw [List.append_nil] at hw0 q
      exact q t m2 ⟨h1 hw0, by omega, h4⟩ (hb2.mono (by simp at hw; omega))
    have hul : 0 < u.length := List.length_pos_iff.mpr hu
    k_caughtNB
    rw [decide_eq_false (show ¬ (SX.S u = Str.ofString "") from fun z => hu (SX.S_inj (b := []) z))]
    k_caughtNB
    refine c_lenS (by rw [sizeLine_eq]; omega) ?_
    k_caughtNB
    refine W_take.ap (by omega) (by omega) hb2 (by omega) (fun r m3 r0 r1 hb3 => ?_)
    k_caughtNB
    refine le_sl_str ?_
    k_caughtNB
    refine ⟨by rw [SX.S_len, sizeLine_eq]; omega, ?_⟩
    rw [cut_to (by omega)]
    k_caughtNB
    refine le_sl_str ?_
    k_caughtNB
    refine ⟨by rw [SX.S_len, sizeLine_eq]; omega, ?_⟩
    rw [cut_from (by omega)]
    have hj0 : 0 < (1 + r).toNat := by omega
    have hj1 : (1 + r).toNat ≤ u.length := by omega
    generalize (1 + r).toNat = j at hj0 hj1
    k_caughtNB
    refine W_take.ap (by decide) (by decide) hb3 (by omega) (fun r2 m4 r20 r21 hb4 => ?_)
    have hpl : (u.take j).length = j := by rw [List.length_take]; omega
    have hpne : u.take j ≠ [] := fun z => by rw [z] at hpl; simp at hpl; omega
    have hul2 : (u.drop j).length = u.length - j := List.length_drop
    have hpp : ∀ c ∈ u.take j, Pr c := fun c hc => hp c (List.mem_append_right _ (List.mem_of_mem_take hc))
    have fin : ∀ (t' : List Nat) (m5 : Mu) (x y z : Option Dt), Puts t' (u.take j) → t'.length ≤ 4 * j → (∀ c ∈ t', Pr c) → Bx b (n + 3 * p.length + 2 + j) m5 →
        ∃ n', n' < k ∧ IvW b n (p ++ u) n' [some (.raw (.ref b)), some (.str (SX.S (p ++ u))), some (.str (SX.S (t ++ t'))), some (.str (SX.S (u.drop j))), x, y, z] m5 := fun t' m5 x y z g1 g2 g3 g4 => by
      refine ⟨u.length - j, by omega, t ++ t', p ++ u.take j, u.drop j, x, y, z, rfl, by rw [List.append_assoc, List.take_append_drop], hul2, fun _ => ?_, fun z => ?_, ?_, fun c hc => ?_, g4.mono ?_⟩
      · by_cases hp0 : p = []
        · subst hp0
          rw [h2 rfl]
          exact g1
        · exact (h1 hp0).app g1
      · exact absurd (List.append_eq_nil_iff.mp z).2 hpne
      · rw [List.length_append, List.length_append, hpl]; omega
      · rcases List.mem_append.mp hc with hc | hc
        · exact h4 c hc
        · exact g3 c hc
      · rw [List.length_append, hpl]; omega
    have htl : t.length ≤ 160 := by omega
    k_caughtNB
    have way2 : ∀ (x y z : Option Dt) (m5 : Mu) (t' : List Nat), Stk [32, 39, 34, 92] (u.take j) t' → Bx b (n + 3 * p.length + 1 + 1 + (u.take j).length) m5 → ∃ n', n' < k ∧ IvW b n (p ++ u) n' [some (.raw (.ref b)), some (.str (SX.S (p ++ u))), some (.str (SX.S (t ++ t'))), some (.str (SX.S (u.drop j))), x, y, z] m5 := fun x y z m5 t' hs hb5 =>
      fin t' m5 x y z (hs.puts hpp hpne) (by have := hs.len; rw [hpl] at this; omega) (hs.pr hpp) (hb5.mono (by rw [hpl]; omega))
    have way1 : ∀ (x y z : Option Dt) (m5 : Mu) (t' : List Nat), Stk [34, 92] (u.take j) t' → Bx b (n + 3 * p.length + 1 + 1 + (u.take j).length) m5 → ∃ n', n' < k ∧ IvW b n (p ++ u) n' [some (.raw (.ref b)), some (.str (SX.S (p ++ u))), some (.str (SX.S (t ++ ([34] ++ t' ++ [34])))), some (.str (SX.S (u.drop j))), x, y, z] m5 := fun x y z m5 t' hs hb5 =>
      fin _ m5 x y z (puts_q (.inr rfl) (hs.in34 hpp)) (by have := hs.len; rw [hpl] at this; simp; omega) (fun c hc => by
        rcases List.mem_append.mp hc with hc | hc
        · rcases List.mem_append.mp hc with hc | hc
          · rw [List.mem_singleton.mp hc]; exact ⟨by decide, by decide⟩
          · exact hs.pr hpp c hc
        · rw [List.mem_singleton.mp hc]; exact ⟨by decide, by decide⟩) (hb5.mono (by rw [hpl]; omega))
    have elw : ∀ (t' : List Nat), t ++ [34] ++ t' ++ [34] = t ++ ([34] ++ t' ++ [34]) := fun t' => by simp
    by_cases c0 : r2 = 0
    · rw [decide_eq_true c0]
      k_caughtNB
      refine o_notInS (c := 39) (y := SX.S (u.take j)) ?_
      by_cases c1 : (39 : Nat) ∈ u.take j
      · rw [decide_eq_true (show (39 : Nat) ∈ (SX.S (u.take j)).cps.toList from c1)]
        k_caughtNB
        rw [decide_eq_false (show ¬ r2 = 1 by omega)]
        k_caughtNB
        refine ⟨b, _, u.take j, [32, 39, 34, 92], rfl, by omega, hpp, hb4, by omega, fun t' m5 hs hb5 => ?_⟩
        have := hs.len
        k_caughtNB
        refine o_addS (by rw [sizeLine_eq]; omega) ?_
        exact way2 _ _ _ m5 t' hs hb5
      · rw [decide_eq_false (show ¬ (39 : Nat) ∈ (SX.S (u.take j)).cps.toList from c1)]
        k_caughtNB
        refine o_addS (b := [39]) (by rw [sizeLine_eq]; simp; omega) ?_
        k_caughtNB
        refine o_addS (by rw [sizeLine_eq]; simp; omega) ?_
        k_caughtNB
        refine o_addS (b := [39]) (by rw [sizeLine_eq]; simp; omega) ?_
        rw [show t ++ [39] ++ u.take j ++ [39] = t ++ ([39] ++ u.take j ++ [39]) by simp]
        exact fin _ m4 _ _ _ (puts_q (.inl rfl) (in39 fun c hc => ⟨hpp c hc, fun z => c1 (z ▸ hc)⟩)) (by simp; omega) (fun c hc => by
          rcases List.mem_append.mp hc with hc | hc
          · rcases List.mem_append.mp hc with hc | hc
            · rw [List.mem_singleton.mp hc]; exact ⟨by decide, by decide⟩
            · exact hpp c hc
          · rw [List.mem_singleton.mp hc]; exact ⟨by decide, by decide⟩) (hb4.mono (by omega))
    · rw [decide_eq_false c0]
      k_caughtNB
      by_cases c1 : r2 = 1
      · rw [decide_eq_true c1]
        k_caughtNB
        refine o_addS (b := [34]) (by rw [sizeLine_eq]; simp; omega) ?_
        k_caughtNB
        refine ⟨b, _, u.take j, [34, 92], rfl, by omega, hpp, hb4, by omega, fun t' m5 hs hb5 => ?_⟩
        have := hs.len
        k_caughtNB
        refine o_addS (by rw [sizeLine_eq]; simp; omega) ?_
        k_caughtNB
        refine o_addS (b := [34]) (by rw [sizeLine_eq]; simp; omega) ?_
        rw [elw]
        exact way1 _ _ _ m5 t' hs hb5
      · rw [decide_eq_false c1]
        k_caughtNB
        refine ⟨b, _, u.take j, [32, 39, 34, 92], rfl, by omega, hpp, hb4, by omega, fun t' m5 hs hb5 => ?_⟩
        have := hs.len
        k_caughtNB
        refine o_addS (by rw [sizeLine_eq]; omega) ?_
        exact way2 _ _ _ m5 t' hs hb5
end
/-! ### good lines -/
theorem gap_run : ∀ (g : List Nat) (n : Nat) (rest : List Nat) (s : Cs), (∀ c ∈ g, c = 32 ∨ c = 10) → s.tk = false → s.qt = [] → ∃ s', run n (g ++ rest) s = run (n + g.length) rest s' ∧ s'.tk = false ∧ s'.qt = [] ∧ (endW s').ws = (endW s).ws ∧ (s.bg = none → s'.bg = none) ∧ (g ≠ [] → s'.bg = none)
  | [], n, rest, s, _, h1, h2 => ⟨s, rfl, h1, h2, rfl, fun h => h, fun z => absurd rfl z⟩
  | c :: g, n, rest, s, hg, h1, h2 => by
    have e : stp n c s = (endW s, true) := by
      unfold stp
      rw [if_neg (by rw [h1]; exact Bool.false_ne_true), if_pos h2]
      exact if_pos (hg c List.mem_cons_self)
    obtain ⟨s', r1, r2, r3, r4, r5, r6⟩ := gap_run g (n + 1) rest (endW s) (fun x hx => hg x (List.mem_cons_of_mem _ hx)) h1 h2
    refine ⟨s', ?_, r2, r3, by rw [r4]; simp [endW], fun _ => r5 rfl, fun _ => r5 rfl⟩
    rw [List.cons_append, run, e, if_pos rfl, r1, List.length_cons]
    congr 1
    omega
/-- a line that writes words -/
structure Gl' (ws : List (List Nat)) (l : List Nat) : Prop where
  wl : ws.length ≤ 40
  ww : ∀ w ∈ ws, w.length ≤ 40 ∧ ∀ c ∈ w, Pr c
  len : l.length ≤ 900
  sg : ∀ c ∈ l, Pr c ∨ c = 10
  cut : cutR l = .told ws
/-- a line's beginning that writes the first words -/
structure Lb (ws : List (List Nat)) (i : Nat) (l : List Nat) : Prop where
  sg : ∀ c ∈ l, Pr c ∨ c = 10
  rn : ∀ rest, ∃ s, run 0 (l ++ rest) c0 = run l.length rest s ∧ s.tk = false ∧ s.qt = [] ∧ (endW s).ws = ws.take i ∧ (i = 0 → s.bg = none)
theorem Lb.gap0 {ws : List (List Nat)} {g : List Nat} (hg : ∀ c ∈ g, c = 32 ∨ c = 10) : Lb ws 0 g := by
  refine ⟨fun c hc => ?_, fun rest => ?_⟩
  · rcases hg c hc with h | h
    · exact .inl (by rw [h]; exact ⟨by decide, by decide⟩)
    · exact .inr h
  · obtain ⟨s', r1, r2, r3, r4, r5, _⟩ := gap_run g 0 rest c0 hg rfl rfl
    refine ⟨s', by rw [r1, Nat.zero_add], r2, r3, by rw [r4]; rfl, fun _ => r5 rfl⟩
theorem Lb.next {ws : List (List Nat)} {i : Nat} {l g t w : List Nat} (h : Lb ws i l) (hw : ws[i]? = some w) (h40 : w.length ≤ 40) (hg : ∀ c ∈ g, c = 32 ∨ c = 10) (hne : 0 < i → g ≠ []) (ht : Wr w t) : Lb ws (i + 1) (l ++ g ++ t) := by
  refine ⟨fun c hc => ?_, fun rest => ?_⟩
  · rcases List.mem_append.mp hc with hc | hc
    · rcases List.mem_append.mp hc with hc | hc
      · exact h.sg c hc
      · rcases hg c hc with h | h
        · exact .inl (by rw [h]; exact ⟨by decide, by decide⟩)
        · exact .inr h
    · exact .inl (ht.pr c hc)
  · obtain ⟨s, e1, k1, k2, k3, k4⟩ := h.rn (g ++ (t ++ rest))
    obtain ⟨s', r1, r2, r3, r4, r5, r6⟩ := gap_run g l.length (t ++ rest) s hg k1 k2
    have hb : s'.bg = none := by
      by_cases hi : i = 0
      · exact r5 (k4 hi)
      · exact r6 (hne (by omega))
    obtain ⟨op, r7⟩ := ht.pu (l.length + g.length) rest s' r2 r3 (by rw [hb]; simpa using h40)
    refine ⟨{ s' with bg := some (s'.bg.getD [] ++ w), op := op }, ?_, r2, r3, ?_, fun z => by omega⟩
    · rw [show l ++ g ++ t ++ rest = l ++ (g ++ (t ++ rest)) by simp, e1, r1, r7]
      congr 1
      simp [Nat.add_assoc]
    · have e5 : (endW s').ws = s'.ws := by unfold endW; rw [hb]; simp
      rw [hb]
      show s'.ws ++ [[] ++ w] = _
      rw [← e5, r4, k3, List.take_add_one, hw]
      rfl
theorem Lb.done {ws : List (List Nat)} {l g : List Nat} (h : Lb ws ws.length l) (hg : ∀ c ∈ g, c = 32 ∨ c = 10) (hwl : ws.length ≤ 40) (hww : ∀ w ∈ ws, w.length ≤ 40 ∧ ∀ c ∈ w, Pr c) (hl : (l ++ g).length ≤ 900) : Gl' ws (l ++ g) := by
  refine ⟨hwl, hww, hl, fun c hc => ?_, ?_⟩
  · rcases List.mem_append.mp hc with hc | hc
    · exact h.sg c hc
    · rcases hg c hc with h | h
      · exact .inl (by rw [h]; exact ⟨by decide, by decide⟩)
      · exact .inr h
  · obtain ⟨s, e1, k1, k2, k3, k4⟩ := h.rn (g ++ [])
    obtain ⟨s', r1, r2, r3, r4, r5, r6⟩ := gap_run g l.length [] s hg k1 k2
    have e : run 0 (l ++ g) c0 = .inr s' := by
      rw [show l ++ g = l ++ (g ++ []) by simp, e1, r1, run]
    unfold cutR
    rw [e]
    have ew : (endW s').ws = ws := by rw [r4, k3, List.take_length]
    simp only [r2, r3, Bool.false_eq_true, if_false, ne_eq, not_true, ew, if_pos hwl]
def W_good : Spd := fun ds m F E => ∃ (b : Addr) (n : Nat), ds = [.raw (.ref b)] ∧ Bx b n m ∧ n ≤ 600000 ∧ ∀ ws l m', Gl' ws l → Bx b (n + 10000) m' → F (.tup [.lst (wsD ws), .str (SX.S l)]) m'
section
variable {P : Program} {w : World} {K : PySem.W.Frag} {mg : Str → Option Value} {base : Heap}
theorem ok_good {f : Addr} {fd : FuncData} (B : Bi mg) (D1 : FnD P w K mg base "_law_take" 1 W_take) (D2 : FnD P w K mg base "_law_word" 4 W_wd) (D3 : FnD P w K mg base "_law_gap" 3 W_gap) (D4 : FnD P w K mg base "_law_written" 3 W_wri) (F : Fun K "_law_good" "_law_good" s_l_good f fd) : FnG P w K mg base 5 f fd ["_law_box_here"] (toSp K W_good) := by
  refine fn_dw F sc_l_good (fun ds m Q E h => ?_) (fun cdv A outer s H E gd ds m Q E' h => ?_)
  · obtain ⟨b, n, rfl, _⟩ := h
    rfl
  · obtain ⟨b, n, rfl, hb, hn, q⟩ := h
    have hb1 := B.range; have hb2 := B.int; have hb3 := B.enumerate
    show LB _ _ [some (.raw (.ref b)), none, none, none, none, none, none] m _
    k_caughtNB
    refine W_take.ap (by decide) (by decide) hb (by omega) (fun r m1 r0 r1 hb1' => ?_)
    k_caughtNB
    refine W_take.ap (by decide) (by decide) hb1' (by omega) (fun r2 m2 r20 r21 hb2' => ?_)
    refine oi_lstM r20 r21 (fun d hd => ?_)
    obtain ⟨mn, mx, rfl, hmn, hmx, hmm⟩ : ∃ (i mx : Nat), d = .int (i : Nat) ∧ i ≤ 40 ∧ mx ≤ 40 ∧ i * (4 * mx + 6) ≤ 850 ∧ mx = if (6 : Int) < (i : Nat) then 2 else 40 := by
      simp only [List.mem_cons, List.not_mem_nil, or_false] at hd
      rcases hd with rfl | rfl | rfl | rfl | rfl | rfl
      · exact ⟨0, 40, rfl, by decide, by decide, by decide, rfl⟩
      · exact ⟨1, 40, rfl, by decide, by decide, by decide, rfl⟩
      · exact ⟨2, 40, rfl, by decide, by decide, by decide, rfl⟩
      · exact ⟨3, 40, rfl, by decide, by decide, by decide, rfl⟩
      · have h5 : r.toNat ≤ 5 := by omega
        have h6 := Nat.mul_le_mul_right 166 h5
        exact ⟨r.toNat, 40, by rw [Int.toNat_of_nonneg r0], by omega, by decide, by omega, by rw [if_neg (by omega)]⟩
      · exact ⟨40, 2, rfl, by decide, by decide, by decide, rfl⟩
    obtain ⟨hmz, hmq⟩ := hmm
    k_caughtNB
    refine' ls_setlcD gd ?hs1 ?hs2 _ ?hli
    (case hs1 => tb_rel)
    (case hs2 => tb_rel)
    case' hli => skip
    refine li_rng1 hb1 ?_
    k_caughtNB
    refine ⟨by omega, by omega, ?_⟩
    refine lc_each (ds := rng 0 ((mn : Nat) : Int).toNat) (fun j acc m3 => ∃ ws : List (List Nat), acc = wsD ws ∧ ws.length = j ∧ (∀ w ∈ ws, w.length ≤ mx ∧ ∀ c ∈ w, Pr c) ∧ Bx b (n + 2 + 90 * j) m3) gd (by rw [rng_len, sizeLine_eq]; omega) ⟨[], rfl, rfl, by simp, hb2'⟩ (fun j d acc m3 hj hacc iv s1 H1 C1 cl1 fp1 gd1 => ?_) (fun acc m3 hacc iv => ?_)
    · obtain ⟨ws, rfl, hl, hc, hb3'⟩ := iv
      obtain ⟨hj2, _⟩ := rng_get' hj
      have idx : ∀ (X : Cx) (G : Dt → Prop) (m5 : Mu), G (.int (mx : Nat)) → OI X (.lst [.int 40, .int 2]) (.int (if decide ((6 : Int) < (mn : Nat)) = true then 1 else 0)) m5 G := fun X G m5 hG => by
        by_cases h6 : (6 : Int) < (mn : Nat)
        · rw [if_pos h6] at hmq
          rw [decide_eq_true h6, if_pos rfl]
          subst hmq
          exact oi_lst at1 hG
        · rw [if_neg h6] at hmq
          rw [decide_eq_false h6, if_neg Bool.false_ne_true]
          subst hmq
          exact oi_lst at0 hG
      refine le_sl_str ?_
      k_caughtNB
      refine idx _ _ _ ?_
      k_caughtNB
      refine ⟨b, _, mx, rfl, hmx, hb3', by omega, fun l m4 hl2 hlp hb4 => ?_⟩
      k_caughtNB
      refine idx _ _ _ ?_
      k_caughtNB
      refine ⟨by rw [SX.S_len, sizeLine_eq]; omega, ?_⟩
      rw [cut_to (by omega), Int.toNat_natCast]
      refine ⟨ws ++ [l.take mx], by unfold wsD; simp, by simp [hl], fun x hx => ?_, hb4⟩
      rcases List.mem_append.mp hx with hx | hx
      · exact hc x hx
      · rw [List.mem_singleton.mp hx]
        exact ⟨by rw [List.length_take]; omega, fun c hcc => hlp c (List.mem_of_mem_take hcc)⟩
    · obtain ⟨ws, rfl, hl, hc, hb3'⟩ := iv
      rw [rng_len, Int.toNat_natCast] at hl hb3'
      have hww : ∀ w ∈ ws, w.length ≤ 40 ∧ ∀ c ∈ w, Pr c := fun w hw => ⟨Nat.le_trans (hc w hw).1 hmx, (hc w hw).2⟩
      k_caughtNB
      refine ⟨b, _, 0, rfl, by decide, hb3', by omega, fun g0 m4 _ hg1 hg2 hb4 => ?_⟩
      k_caughtNB
      refine ls_for gd (fun ds i r2 m5 => ∃ L a4 a5 a6, r2 = [some (.raw (.ref b)), some (.int (mn : Nat)), some (.lst (wsD ws)), a4, some (.str (SX.S L)), a5, a6] ∧ Lb ws i L ∧ L.length ≤ 1 + i * (4 * mx + 6) ∧ Bx b (n + 4000 + 140 * i) m5) ?_
      refine li_enum hb3 ?_
      k_caughtNB
      refine ⟨⟨g0, _, _, _, rfl, Lb.gap0 hg2, by omega, hb4.mono (by omega)⟩, fun i d r2 m5 hd iv => ?_, fun r2 m5 iv => ?_⟩
      · obtain ⟨L, a4, a5, a6, rfl, hLb, hLl, hb5⟩ := iv
        obtain ⟨e, he, rfl⟩ := enumD_get hd
        unfold wsD at he
        rw [List.getElem?_map] at he
        cases hci : ws[i]? with
        | none => rw [hci] at he; cases he
        | some wd =>
          have he' : e = .str (SX.S wd) := by rw [hci] at he; exact (Option.some.inj he).symm
          subst he'
          have hil := (List.getElem?_eq_some_iff.mp hci).1
          have hwm := hc wd (List.mem_of_getElem? hci)
          have him : i * (4 * mx + 6) + (4 * mx + 6) ≤ 850 := by
            have h1 : (i + 1) * (4 * mx + 6) ≤ mn * (4 * mx + 6) := Nat.mul_le_mul_right _ (by omega)
            rw [Nat.add_mul, Nat.one_mul] at h1
            omega
          have himm : (i + 1) * (4 * mx + 6) = i * (4 * mx + 6) + (4 * mx + 6) := by rw [Nat.add_mul, Nat.one_mul]
          k_caughtNB
          have gapx : ∃ k : Nat, k ≤ 1 ∧ (0 < i → k = 1) ∧ (if decide ((0 : Int) < (i : Nat)) = true then 1 else 0 : Int) = (k : Nat) := by
            by_cases h0 : 0 < i
            · exact ⟨1, by omega, fun _ => rfl, by rw [decide_eq_true (by omega), if_pos rfl]; rfl⟩
            · exact ⟨0, by omega, fun z => absurd z h0, by rw [decide_eq_false (by omega), if_neg Bool.false_ne_true]; rfl⟩
          obtain ⟨k, hk1, hk2, hk3⟩ := gapx
          rw [hk3]
          refine ⟨b, _, k, rfl, hk1, hb5, by omega, fun g m6 hg0 hg1 hg2 hb6 => ?_⟩
          k_caughtNB
          refine o_addS (by rw [sizeLine_eq]; omega) ?_
          k_caughtNB
          refine ⟨b, _, wd, rfl, by omega, hwm.2, hb6, by omega, fun t m7 ht hb7 => ?_⟩
          have htl := ht.len
          k_caughtNB
          refine o_addS (by rw [sizeLine_eq, List.length_append]; omega) ?_
          k_caughtNB
          refine ⟨L ++ g ++ t, _, _, _, rfl, hLb.next hci (by omega) hg2 (fun h0 z => ?_) ht, ?_, hb7.mono (by omega)⟩
          · rw [z] at hg0
            have := hk2 h0
            simp at hg0
            omega
          · rw [List.length_append, List.length_append, himm]
            omega
      · obtain ⟨L, a4, a5, a6, rfl, hLb, hLl, hb5⟩ := iv
        have ewl : (enumD (wsD ws)).length = ws.length := by rw [enumD_len]; unfold wsD; rw [List.length_map]
        rw [ewl] at hLb hLl hb5
        rw [hl] at hLl
        k_caughtNB
        refine ⟨b, _, 0, rfl, by decide, hb5, by omega, fun g m6 hg0 hg1 hg2 hb6 => ?_⟩
        k_caughtNB
        refine o_addS (by rw [sizeLine_eq]; omega) ?_
        k_caughtNB
        exact q ws (L ++ g) m6 (hLb.done hg2 (by omega) hww (by rw [List.length_append]; omega)) (hb6.mono (by omega))
end
def W_lline : Spd := fun ds m F E => ∃ (b : Addr) (n : Nat), ds = [.raw (.ref b)] ∧ Bx b n m ∧ n ≤ 500000 ∧ ∀ l m', l.length ≤ 1000 → (∀ c ∈ l, Pr c ∨ c = 10) → Bx b (n + 11000) m' → F (.str (SX.S l)) m'
section
variable {P : Program} {w : World} {K : PySem.W.Frag} {mg : Str → Option Value} {base : Heap}
theorem ok_lline {f : Addr} {fd : FuncData} (B : Bi mg) (D1 : FnD P w K mg base "_law_take" 1 W_take) (D2 : FnD P w K mg base "_law_pick" 2 W_pick) (D3 : FnD P w K mg base "_law_sign" 3 W_sign) (D4 : FnD P w K mg base "_law_good" 5 W_good) (F : Fun K "_law_line" "_law_line" s_l_line f fd) : FnG P w K mg base 6 f fd ["_law_box_here"] (toSp K W_lline) := by
  refine fn_dw F sc_l_line (fun ds m Q E h => ?_) (fun cdv A outer s H E gd ds m Q E' h => ?_)
  · obtain ⟨b, n, rfl, _⟩ := h
    rfl
  · obtain ⟨b, n, rfl, hb, hn, q⟩ := h
    have hb1 := B.range; have hb2 := B.len
    show LB _ _ [some (.raw (.ref b)), none, none, none, none, none, none] m _
    k_caughtNB
    refine W_take.ap (by decide) (by decide) hb (by omega) (fun r m1 r0 r1 hb1' => ?_)
    k_caughtNB
    by_cases hr : r = 0
    · rw [decide_eq_true hr]
      k_caughtNB
      refine le_join0 ?_
      k_subL
      refine li_rng1 hb1 ?_
      k_caughtNB
      refine W_take.ap (by decide) (by decide) hb1' (by omega) (fun r2 m2 r20 r21 hb2' => ?_)
      k_caughtNB
      refine ⟨by omega, by omega, ?_⟩
      refine lc_each (ds := rng 0 r2.toNat) (fun j acc m3 => ∃ cs : List Nat, acc = cs.map (fun c => Dt.str (SX.S [c])) ∧ cs.length = j ∧ (∀ c ∈ cs, Pr c ∨ c = 10) ∧ Bx b (n + 2 + 3 * j) m3) gd (by rw [rng_len, sizeLine_eq]; omega) ⟨[], rfl, rfl, by simp, hb2'⟩ (fun j d acc m3 hj hacc iv s1 H1 C1 cl1 fp1 gd1 => ?_) (fun acc m3 hacc iv => ?_)
      · obtain ⟨cs, rfl, hl, hc, hb3⟩ := iv
        obtain ⟨hj2, _⟩ := rng_get' hj
        k_caughtNB
        refine ⟨b, _, rfl, hb3, by omega, fun c m4 hcp hb4 => ?_⟩
        k_caughtNB
        refine .inr ⟨b, _, _, rfl, by simp, by simp, hb4, by omega, fun d hd m5 hb5 => ?_⟩
        obtain ⟨x, rfl, hx⟩ : ∃ x, d = .str (SX.S [x]) ∧ (Pr x ∨ x = 10) := by
          simp only [List.mem_cons, List.not_mem_nil, or_false] at hd
          rcases hd with rfl | rfl
          · exact ⟨c, rfl, .inl hcp⟩
          · exact ⟨10, rfl, .inr rfl⟩
        refine ⟨cs ++ [x], by simp, by simp [hl], fun y hy => ?_, hb5⟩
        rcases List.mem_append.mp hy with hy | hy
        · exact hc y hy
        · rw [List.mem_singleton.mp hy]; exact hx
      · obtain ⟨cs, rfl, hl, hc, hb3⟩ := iv
        rw [rng_len] at hl
        refine ⟨cs.map fun c => [c], by rw [List.map_map]; rfl, ?_, ?_⟩
        · rw [flat_one]; omega
        rw [flat_one]
        exact q cs m3 (by omega) hc (hb3.mono (by rw [rng_len]; omega))
    · rw [decide_eq_false hr]
      k_caughtNB
      refine ⟨b, _, rfl, hb1', by omega, fun ws l m2 hg hb2' => ?_⟩
      have hll := hg.len
      k_caughtNB
      refine c_lenS (by rw [sizeLine_eq]; omega) ?_
      k_caughtNB
      refine W_take.ap (by omega) (by omega) hb2' (by omega) (fun r2 m3 r20 r21 hb3' => ?_)
      k_caughtNB
      refine o_mulS (l := [97]) (by decide) (by decide) (by decide) ?_
      k_caughtNB
      refine W_take.ap (by decide) (by decide) hb3' (by omega) (fun r3 m4 r30 r31 hb4' => ?_)
      refine oi_lstM r30 r31 (fun d hd => ?_)
      obtain ⟨mo, rfl, hmo, hmp⟩ : ∃ x, d = .str (SX.S x) ∧ x.length ≤ 41 ∧ ∀ c ∈ x, Pr c ∨ c = 10 := by
        have al : ∀ {l : List Nat}, l.all (fun c => decide ((32 ≤ c ∧ c ≤ 126) ∨ c = 10)) = true → ∀ c ∈ l, Pr c ∨ c = 10 := fun h c hc => (of_decide_eq_true (List.all_eq_true.mp h c hc) : (32 ≤ c ∧ c ≤ 126) ∨ c = 10)
        simp only [List.mem_cons, List.not_mem_nil, or_false] at hd
        rcases hd with rfl | rfl | rfl | rfl | rfl | rfl | rfl
        · exact ⟨_, rfl, by decide, al (by decide)⟩
        · exact ⟨[32, 120], rfl, by decide, al (by decide)⟩
        · exact ⟨[39], rfl, by decide, al (by decide)⟩
        · exact ⟨[34], rfl, by decide, al (by decide)⟩
        · exact ⟨[92], rfl, by decide, al (by decide)⟩
        · exact ⟨[10], rfl, by decide, al (by decide)⟩
        · exact ⟨[92, 10], rfl, by decide, al (by decide)⟩
      have hk : r2.toNat ≤ l.length := by omega
      have hta : (l.take r2.toNat).length ≤ l.length := by rw [List.length_take]; omega
      have hda : (l.drop r2.toNat).length = l.length - r2.toNat := List.length_drop
      have hdb : (l.drop (r2 + 1).toNat).length ≤ l.length := by rw [List.length_drop]; omega
      have htp : ∀ c ∈ l.take r2.toNat, Pr c ∨ c = 10 := fun c hc => hg.sg c (List.mem_of_mem_take hc)
      have htl : (l.take r2.toNat).length = r2.toNat := by rw [List.length_take]; omega
      k_caughtNB
      refine le_sl_str ?_
      k_caughtNB
      refine ⟨by rw [SX.S_len, sizeLine_eq]; omega, ?_⟩
      rw [cut_to r20]
      k_caughtNB
      refine o_addS (by rw [sizeLine_eq]; omega) ?_
      k_caughtNB
      refine le_sl_str ?_
      k_caughtNB
      refine ⟨by rw [SX.S_len, sizeLine_eq]; omega, ?_⟩
      rw [cut_from r20]
      refine o_addS (by rw [sizeLine_eq, List.length_append]; omega) ?_
      k_caughtNB
      refine le_sl_str ?_
      k_caughtNB
      refine ⟨by rw [SX.S_len, sizeLine_eq]; omega, ?_⟩
      rw [cut_to r20]
      k_caughtNB
      refine le_sl_str ?_
      k_caughtNB
      refine ⟨by rw [SX.S_len, sizeLine_eq]; omega, ?_⟩
      rw [cut_from (by omega)]
      refine o_addS (by rw [sizeLine_eq]; omega) ?_
      k_caughtNB
      refine le_sl_str ?_
      k_caughtNB
      refine ⟨by rw [SX.S_len, sizeLine_eq]; omega, ?_⟩
      rw [cut_to r20]
      k_caughtNB
      refine oi_lstM (by omega) (show r - 1 < 4 by omega) (fun d hd => ?_)
      simp only [List.mem_cons, List.not_mem_nil, or_false] at hd
      have hb5 : Bx b (n + 11000) m4 := hb4'.mono (by omega)
      rcases hd with rfl | rfl | rfl | rfl
      · exact q l m4 (by omega) hg.sg hb5
      · refine q _ m4 (by rw [List.length_append, List.length_append]; omega) (fun c hc => ?_) hb5
        rcases List.mem_append.mp hc with hc | hc
        · rcases List.mem_append.mp hc with hc | hc
          · exact htp c hc
          · exact hmp c hc
        · exact hg.sg c (List.mem_of_mem_drop hc)
      · refine q _ m4 (by rw [List.length_append, List.length_drop]; omega) (fun c hc => ?_) hb5
        rcases List.mem_append.mp hc with hc | hc
        · exact htp c hc
        · exact hg.sg c (List.mem_of_mem_drop hc)
      · exact q _ m4 (by omega) htp hb5
end
def W_law : Spd := fun ds m F E => ∃ ns : List Int, ds = [.frz (ns.map Dt.int)] ∧ ns.length ≤ 63 ∧ ∀ m', F (.bl true) m'
theorem Bx.sub {b : Addr} {n : Nat} {m m' : Mu} (h : Bx b n m) (s : ∀ q ∈ m, q ∈ m') : Bx b n m' := by
  obtain ⟨x, y, z, h1, h2⟩ := h
  exact ⟨x, y, z, s _ h1, h2⟩
theorem plain_ws (ws : List (List Nat)) : plains (wsD ws) = true := by
  induction ws with
  | nil => rfl
  | cons a t ih => exact ih
theorem lay_ws {ws : List (List Nat)} (h : ∀ l ∈ ws, ∀ c ∈ l, c < 0x110000) : PyData.canLayAll0 (pys (wsD ws)) = true ∧ PyData.depthAll (pys (wsD ws)) = 0 := by
  induction ws with
  | nil => exact ⟨by simp [wsD, pys, PyData.canLayAll0], by simp [wsD, pys, PyData.depthAll]⟩
  | cons a t ih =>
    have := ih fun l hl => h l (List.mem_cons_of_mem _ hl)
    have ha := h a List.mem_cons_self
    unfold wsD at this ⊢
    constructor
    · simp only [List.map_cons, pys, PyData.canLayAll0, this.1, Bool.and_true]
      simp only [py, PyData.canLay0, PyData.strOk, SX.S]
      simpa using ha
    · simp only [List.map_cons, pys, PyData.depthAll, this.2]
      simp [py, PyData.depth]
theorem eqv_ws (ws : List (List Nat)) : PyData.eqvAll (pys (wsD ws)) (pys (wsD ws)) = true := by
  induction ws with
  | nil => simp [wsD, pys, PyData.eqvAll]
  | cons a t ih =>
    unfold wsD at ih ⊢
    simp only [List.map_cons, pys, PyData.eqvAll, ih, Bool.and_true]
    simp [py, PyData.eqv]
theorem told_shape {ws : List (List Nat)} (h : ∀ l ∈ ws, ∀ c ∈ l, c < 0x110000) : SeqAt.shaped (py (.lst [.str "told", .lst (wsD ws)])) = true := by
  unfold SeqAt.shaped
  simp only [py, pys, PyData.canLay0, PyData.canLayAll0, PyData.depth, PyData.depthAll, (lay_ws h).1, (lay_ws h).2]
  decide +kernel
theorem told_eqv (ws : List (List Nat)) : PyData.eqv (py (.lst [.str "told", .lst (wsD ws)])) (py (.lst [.str "told", .lst (wsD ws)])) = true := by
  simp only [py, pys, PyData.eqv, PyData.eqvAll, eqv_ws, Bool.and_true]
  decide +kernel
section
variable {P : Program} {w : World} {K : PySem.W.Frag} {mg : Str → Option Value} {base : Heap}
theorem ok_law {f : Addr} {fd : FuncData} {C CB CT : Addr} (B : Bi mg) (D1 : FnD P w K mg base "_law_box" 1 W_box) (D2 : FnD P w K mg base "_law_take" 1 W_take) (D3 : FnD P w K mg base "_law_line" 6 W_lline) (D4 : FnD P w K mg base "_law_right" 7 W_right) (D5 : FnD P w K mg base "_law_good" 5 W_good) (D6 : FnD P w K mg base "_law_cut" 6 (W_lcut C CB CT))
    (F : Fun K "law" "law" s_law f fd) : FnG P w K mg base 8 f fd ["_law_script"] (toSp K W_law) := by
  refine fn_dw F sc_law (fun ds m Q E h => ?_) (fun cdv A outer s H E gd ds m Q E' h => ?_)
  · obtain ⟨d, rfl, _⟩ := h
    rfl
  · obtain ⟨ns, rfl, hns, q⟩ := h
    have hb1 := B.range; have hb2 := B.max; have hb3 := B.min; have hb4 := B.len
    show LB _ _ [some (.frz (ns.map Dt.int)), none, none, none, none, none, none] m _
    refine lb_cons (ls_for gd (fun ds i r2 m2 => ∃ a1 a2 a3 a4 a5 a6, r2 = [some (.frz (ns.map Dt.int)), a1, a2, a3, a4, a5, a6]) ?_)
    refine li_lst ?_
    refine le_sl_lst ?_
    refine le_bin ?_
    refine le_sl_frz ?_
    k_caughtNB
    rw [cutD_to (by decide)]
    refine o_cat (by rw [sizeLine_eq, List.length_take]; simp; omega) ?_
    k_caughtNB
    have hint : ∀ d ∈ ((ns.map Dt.int).take (8 : Int).toNat ++ [.int 17, .int 86028121] : List Dt), ∃ c : Int, d = .int c := fun d hd => by
      rcases List.mem_append.mp hd with hd | hd
      · obtain ⟨c, _, rfl⟩ := List.mem_map.mp (List.mem_of_mem_take hd)
        exact ⟨c, rfl⟩
      · simp only [List.mem_cons, List.not_mem_nil, or_false] at hd
        rcases hd with rfl | rfl <;> exact ⟨_, rfl⟩
    generalize ((ns.map Dt.int).take (8 : Int).toNat ++ [.int 17, .int 86028121] : List Dt) = SC at hint
    rw [cutD_to (by split <;> split <;> omega)]
    refine ⟨⟨_, _, _, _, _, _, rfl⟩, fun i d r2 m2 hd iv => ?_, fun r2 m2 iv => ?_⟩
    rotate_left
    · obtain ⟨a1, a2, a3, a4, a5, a6, rfl⟩ := iv
      k_caughtNB
      exact q _
    · obtain ⟨c, rfl⟩ := hint d (List.mem_of_mem_take (List.mem_of_getElem? hd))
      obtain ⟨a1, a2, a3, a4, a5, a6, rfl⟩ := iv
      k_caughtNB
      refine ⟨c, rfl, fun p m3 hb => ?_⟩
      refine lb_mid (fun r1 m1 => ∃ a3 a4 a5 a6, r1 = [some (.frz (ns.map Dt.int)), some (.int c), some (.raw (.ref p)), a3, a4, a5, a6] ∧ Bx p (11000 * 12) m1) ?_ ?_
      · refine ls_for gd (fun ds j r2 m2 => ∃ a3 a4 a5 a6, r2 = [some (.frz (ns.map Dt.int)), some (.int c), some (.raw (.ref p)), a3, a4, a5, a6] ∧ Bx p (11000 * j) m2) ?_
        refine li_rng1 hb1 ?_
        k_caughtNB
        refine ⟨by decide, by decide, ⟨_, _, _, _, rfl, hb⟩, fun j d r2 m4 hd iv => ?_, fun r2 m4 iv => ?_⟩
        rotate_left
        · rw [rng_len] at iv
          exact iv
        · obtain ⟨a3, a4, a5, a6, rfl, hb4⟩ := iv
          obtain ⟨hj, rfl⟩ := rng_get' hd
          have hj : j < 12 := hj
          k_caughtNB
          refine ⟨p, _, rfl, hb4, by omega, fun l m5 hl hls hb5 => ?_⟩
          have hL : Ln l := ⟨by omega, fun c hc => hls c hc⟩
          k_caughtNB
          refine ⟨l, rfl, hL, fun m6 hs6 => ?_⟩
          k_caughtNB
          refine o_mulS (l := [32, 120]) (by decide) (by omega) (by omega) ?_
          have hrl : (List.replicate (39 - (0 + (j : Int))).toNat [32, 120]).flatten.length ≤ 78 := by
            rw [List.length_flatten, List.map_replicate, List.sum_replicate_nat]
            simp
            omega
          k_caughtNB
          refine o_addS (by rw [sizeLine_eq]; omega) ?_
          k_caughtNB
          refine ⟨_, rfl, ⟨by rw [List.length_append]; omega, fun x hx => ?_⟩, fun m7 hs7 => ?_⟩
          · rcases List.mem_append.mp hx with hx | hx
            · exact hls x hx
            · have := mem_rep hx
              simp only [List.mem_cons, List.not_mem_nil, or_false] at this
              omega
          k_caughtNB
          exact ⟨_, _, _, _, rfl, ((hb5.sub hs6).sub hs7).mono (by omega)⟩
      rintro r1 m4 ⟨a3, a4, a5, a6, rfl, hb4⟩
      k_caughtNB
      refine ⟨p, _, rfl, hb4, by omega, fun ws l m5 hg hb5 => ?_⟩
      have hL : Ln l := ⟨by have := hg.len; omega, fun c hc => hg.sg c hc⟩
      have hcc : ∀ l ∈ ws, ∀ c ∈ l, c < 0x110000 := fun l hl c hc => by have := (hg.ww l hl).2 c hc; have := this.2; omega
      k_caughtNB
      refine ⟨l, rfl, hL, fun ds es m6 h1 h2 h3 hs6 => ?_⟩
      have ed : dueD l = .lst [.str "told", .lst (wsD ws)] := by unfold dueD; rw [hg.cut]
      have ee : es = [.str "told", .lst (wsD ws)] := by rw [ed] at h1; exact (Dt.lst.inj h1).symm
      subst ee
      k_caughtNB
      refine o_neP gd.room.units (.lst h2) .same (by simp [Dw.plain, plains, plain_ws]) (by simp [Dw.plain, plains, plain_ws]) (told_shape hcc) (told_shape hcc) ?_
      rw [told_eqv]
      k_caughtNB
      refine W_take.ap (by decide) (by decide) (hb5.sub hs6) (by omega) (fun r m7 r0 r1 hb7 => ?_)
      k_caughtNB
      refine ls_for gd (fun ds i r2 m2 => ∃ a4, r2 = [some (.frz (ns.map Dt.int)), some (.int c), some (.raw (.ref p)), a3, a4, some (.lst (wsD ws)), some (.int (38 + r))]) ?_
      refine li_lst ?_
      have hrl : (List.replicate (38 + r).toNat [97]).flatten.length ≤ 41 := by
        rw [List.length_flatten, List.map_replicate, List.sum_replicate_nat]
        simp
        omega
      have hrm : ∀ x ∈ (List.replicate (38 + r).toNat [97]).flatten, x = 97 := fun x hx => by simpa using mem_rep hx
      k_caughtNB
      refine o_mulS (l := [97]) (by decide) (by omega) (by omega) ?_
      generalize hAA : (List.replicate (38 + r).toNat [97]).flatten = AA at hrl hrm
      k_caughtNB
      refine o_addS (b := [92, 98, 32, 99]) (by rw [sizeLine_eq]; simp; omega) ?_
      k_caughtNB
      refine o_mulS (l := [97]) (by decide) (by omega) (by omega) ?_
      rw [hAA]
      refine o_addS (a := [34]) (by rw [sizeLine_eq]; simp; omega) ?_
      k_caughtNB
      refine o_addS (b := [92, 98, 34, 32, 99]) (by rw [sizeLine_eq]; simp; omega) ?_
      k_caughtNB
      refine o_mulS (l := [97]) (by decide) (by omega) (by omega) ?_
      rw [hAA]
      refine o_addS (a := [39]) (by rw [sizeLine_eq]; simp; omega) ?_
      k_caughtNB
      refine o_addS (b := [39, 92, 98, 32, 99]) (by rw [sizeLine_eq]; simp; omega) ?_
      k_caughtNB
      have al : ∀ {u v : List Nat}, u.length + v.length ≤ 100 → u.all (fun c => decide ((32 ≤ c ∧ c ≤ 126) ∨ c = 10)) = true → v.all (fun c => decide ((32 ≤ c ∧ c ≤ 126) ∨ c = 10)) = true → Ln (u ++ AA ++ v) := fun {u v} h0 h1 h2 => ⟨by rw [List.length_append, List.length_append]; omega, fun x hx => by
        rcases List.mem_append.mp hx with hx | hx
        · rcases List.mem_append.mp hx with hx | hx
          · exact of_decide_eq_true (List.all_eq_true.mp h1 x hx)
          · rw [hrm x hx]; omega
        · exact of_decide_eq_true (List.all_eq_true.mp h2 x hx)⟩
      refine ⟨⟨_, rfl⟩, fun i d r2 m8 hd iv => ?_, fun r2 m8 iv => ?_⟩
      · obtain ⟨a4, rfl⟩ := iv
        obtain ⟨x, rfl, hx⟩ : ∃ x, d = .str (SX.S x) ∧ Ln x := by
          have hd := List.mem_of_getElem? hd
          simp only [List.mem_cons, List.not_mem_nil, or_false] at hd
          rcases hd with rfl | rfl | rfl
          · exact ⟨_, rfl, al (u := []) (by decide) (by decide) (by decide)⟩
          · exact ⟨_, rfl, al (by decide) (by decide) (by decide)⟩
          · exact ⟨_, rfl, al (by decide) (by decide) (by decide)⟩
        k_caughtNB
        refine ⟨x, rfl, hx, fun m9 hs9 => ?_⟩
        k_caughtNB
        exact ⟨_, rfl⟩
      · obtain ⟨a4, rfl⟩ := iv
        exact ⟨_, _, _, _, _, _, rfl⟩
end
end
/-! ### the end -/
section
open PySem PySem.Calls PySem.HandSPX
theorem all_mk {P : Program} {w : World} {K : PySem.W.Frag} {h : Heap} {mg : Str → Option Value} {fa : Addr} (X : K.In h) (G : h.Ns mainGlobals mg) (hfa : mg "law" = some (.ref fa))
    {CB iB NB : Addr} {qnB qB : Str} {bsB bmB : List Value} {snB : List Str} {subB : List Value} {abB : Bool} {colB : Option Bool} {ddB odB anB : Option Addr} {maB mbB mcB mdB meB : Option Value} {ocB dcB pmB cdB ctB : Value} {slB : Array (Option Value)} {p1B p2B q1B q2B q3B q4B : Pos} {msB : List (Str × Const)}
    {CT iT NT : Addr} {qnT qT : Str} {bsT bmT : List Value} {snT : List Str} {subT : List Value} {abT : Bool} {colT : Option Bool} {ddT odT anT : Option Addr} {maT mbT mcT mdT meT : Option Value} {ocT dcT pmT cdT ctT : Value} {slT : Array (Option Value)} {p1T p2T q1T q2T q3T q4T : Pos} {msT : List (Str × Const)}
    {CK : Addr}
    {ta_QUOTES : Addr} {tc_QUOTES : Value} {td_QUOTES : Option Addr} {ti_QUOTES : Array Value} {tn_QUOTES : Nat} {ts_QUOTES : Array (Option Value)}
    {tk_MOST_WORD : Tok}
    {tk_MOST_SIGNS : Tok}
    {tk_MOST_WORDS : Tok}
    {tk_BLANK : Tok}
    {tk_FEED : Tok}
    {tk_DOUBLE : Tok}
    {tk_STROKE : Tok}
    {f0 : Addr} {od0 an0 : Option Addr} {sl0 : Array (Option Value)} {oc0 kV0 dc0 pm0 cd0 ct0 : Value}
    {f1 : Addr} {od1 an1 : Option Addr} {sl1 : Array (Option Value)} {oc1 kV1 dc1 pm1 cd1 ct1 : Value}
    {f2 : Addr} {od2 an2 : Option Addr} {sl2 : Array (Option Value)} {oc2 kV2 dc2 pm2 cd2 ct2 : Value}
    {f3 : Addr} {od3 an3 : Option Addr} {sl3 : Array (Option Value)} {oc3 kV3 dc3 pm3 cd3 ct3 : Value}
    {f4 : Addr} {od4 an4 : Option Addr} {sl4 : Array (Option Value)} {oc4 kV4 dc4 pm4 cd4 ct4 : Value}
    {f5 : Addr} {od5 an5 : Option Addr} {sl5 : Array (Option Value)} {oc5 kV5 dc5 pm5 cd5 ct5 : Value}
    {f6 : Addr} {od6 an6 : Option Addr} {sl6 : Array (Option Value)} {oc6 kV6 dc6 pm6 cd6 ct6 : Value}
    {f7 : Addr} {od7 an7 : Option Addr} {sl7 : Array (Option Value)} {oc7 kV7 dc7 pm7 cd7 ct7 : Value}
    {f8 : Addr} {od8 an8 : Option Addr} {sl8 : Array (Option Value)} {oc8 kV8 dc8 pm8 cd8 ct8 : Value}
    {f9 : Addr} {od9 an9 : Option Addr} {sl9 : Array (Option Value)} {oc9 kV9 dc9 pm9 cd9 ct9 : Value}
    {f10 : Addr} {od10 an10 : Option Addr} {sl10 : Array (Option Value)} {oc10 kV10 dc10 pm10 cd10 ct10 : Value}
    {f11 : Addr} {od11 an11 : Option Addr} {sl11 : Array (Option Value)} {oc11 kV11 dc11 pm11 cd11 ct11 : Value}
    {f12 : Addr} {od12 an12 : Option Addr} {sl12 : Array (Option Value)} {oc12 kV12 dc12 pm12 cd12 ct12 : Value}
    {f13 : Addr} {od13 an13 : Option Addr} {sl13 : Array (Option Value)} {oc13 kV13 dc13 pm13 cd13 ct13 : Value}
    {f14 : Addr} {od14 an14 : Option Addr} {sl14 : Array (Option Value)} {oc14 kV14 dc14 pm14 cd14 ct14 : Value}
    {f15 : Addr} {od15 an15 : Option Addr} {sl15 : Array (Option Value)} {oc15 kV15 dc15 pm15 cd15 ct15 : Value}
    {f16 : Addr} {od16 an16 : Option Addr} {sl16 : Array (Option Value)} {oc16 kV16 dc16 pm16 cd16 ct16 : Value}
    {f17 : Addr} {od17 an17 : Option Addr} {sl17 : Array (Option Value)} {oc17 kV17 dc17 pm17 cd17 ct17 : Value}
    {f18 : Addr} {od18 an18 : Option Addr} {sl18 : Array (Option Value)} {oc18 kV18 dc18 pm18 cd18 ct18 : Value}
    {f19 : Addr} {od19 an19 : Option Addr} {sl19 : Array (Option Value)} {oc19 kV19 dc19 pm19 cd19 ct19 : Value}
    {f20 : Addr} {od20 an20 : Option Addr} {sl20 : Array (Option Value)} {oc20 kV20 dc20 pm20 cd20 ct20 : Value}
    {f21 : Addr} {od21 an21 : Option Addr} {sl21 : Array (Option Value)} {oc21 kV21 dc21 pm21 cd21 ct21 : Value}
    {f22 : Addr} {od22 an22 : Option Addr} {sl22 : Array (Option Value)} {oc22 kV22 dc22 pm22 cd22 ct22 : Value}
    {f23 : Addr} {od23 an23 : Option Addr} {sl23 : Array (Option Value)} {oc23 kV23 dc23 pm23 cd23 ct23 : Value}
    {f24 : Addr} {od24 an24 : Option Addr} {sl24 : Array (Option Value)} {oc24 kV24 dc24 pm24 cd24 ct24 : Value}
    (aCB : PySem.W.nsIn K mainGlobals "BadSign" = some (some (.ref CB)))
    (xLB : K.lookup CB = some (excClassObj "BadSign" qB CB NB bsB bmB true snB subB abB colB ddB maB mbB mcB mdB meB "ValueError.__new__"))
    (hbB : PySem.W.excTail [.type "ValueError", .type "Exception", .type "BaseException", .type "object"] bmB = true)
    (saB : PySem.W.findIn K (.ref CB) "__setattr__" = some (some (.builtin "object.__setattr__")))
    (gaB : PySem.W.findIn K (.ref CB) "__getattribute__" = some (some (.builtin "BaseException.__getattribute__")))
    (ggB : PySem.W.findIn K (.ref CB) "__getattr__" = some none)
    (nnB : PySem.W.findIn K (.ref CB) "at" = some none)
    (iCB : PySem.W.findIn K (.ref CB) "__init__" = some (some (.ref iB)))
    (rCB : PySem.W.findIn K (.ref CB) "__repr__" = some (some (.builtin "BaseException.__repr__")))
    (cCB : PySem.W.findIn K (.ref CB) "__class__" = some (some (.builtin "object.__class__")))
    (spB : PySem.W.specialIn K (.builtin "object.__class__") "__get__" = some (some (.builtin "getset_descriptor.__get__")))
    (tkB : PySem.W.takesIn K (.builtin "object.__class__") = some true)
    (mrB : PySem.W.mroIn K CB (.type "object") = some true)
    (tCB : PySem.W.typeIn K (.ref iB) = some (.type "function"))
    (kCB : PySem.W.keepIn K (.ref CB) = true)
    (exB : PySem.W.subIn K (.ref CB) (.type "BaseException") = some true)
    (tyB : PySem.W.typeIn K (.ref CB) = some (.type "type"))
    (hdB : PySem.W.hasDictIn K CB = true)
    (isB : PySem.W.isClsIn K CB = true)
    (suB : PySem.W.subIn K (.ref CB) (.ref CB) = some true)
    (liB : K.lookup iB = some ⟨ocB, odB, .func (PySem.W.fnOf "__init__" qnB (Ex_at.iA p1B p2B) (Ex_at.iB q1B q2B q3B q4B) (Ex_at.iS msB) .none .none dcB pmB anB cdB ctB), slB⟩)
    (ciB : PySem.W.codeIn K cdB qnB = true)
    (s0B : PySem.W.subIn K (.ref CB) (.type "int") = some false)
    (s1B : PySem.W.subIn K (.ref CB) (.type "str") = some false)
    (s2B : PySem.W.subIn K (.ref CB) (.type "bool") = some false)
    (s3B : PySem.W.subIn K (.ref CB) (.type "list") = some false)
    (s4B : PySem.W.subIn K (.ref CB) (.type "tuple") = some false)
    (s5B : PySem.W.subIn K (.ref CB) (.type "dict") = some false)
    (aCT : PySem.W.nsIn K mainGlobals "TooMany" = some (some (.ref CT)))
    (xLT : K.lookup CT = some (excClassObj "TooMany" qT CT NT bsT bmT true snT subT abT colT ddT maT mbT mcT mdT meT "LookupError.__new__"))
    (hbT : PySem.W.excTail [.type "LookupError", .type "Exception", .type "BaseException", .type "object"] bmT = true)
    (saT : PySem.W.findIn K (.ref CT) "__setattr__" = some (some (.builtin "object.__setattr__")))
    (gaT : PySem.W.findIn K (.ref CT) "__getattribute__" = some (some (.builtin "BaseException.__getattribute__")))
    (ggT : PySem.W.findIn K (.ref CT) "__getattr__" = some none)
    (nnT : PySem.W.findIn K (.ref CT) "many" = some none)
    (iCT : PySem.W.findIn K (.ref CT) "__init__" = some (some (.ref iT)))
    (rCT : PySem.W.findIn K (.ref CT) "__repr__" = some (some (.builtin "BaseException.__repr__")))
    (cCT : PySem.W.findIn K (.ref CT) "__class__" = some (some (.builtin "object.__class__")))
    (spT : PySem.W.specialIn K (.builtin "object.__class__") "__get__" = some (some (.builtin "getset_descriptor.__get__")))
    (tkT : PySem.W.takesIn K (.builtin "object.__class__") = some true)
    (mrT : PySem.W.mroIn K CT (.type "object") = some true)
    (tCT : PySem.W.typeIn K (.ref iT) = some (.type "function"))
    (kCT : PySem.W.keepIn K (.ref CT) = true)
    (exT : PySem.W.subIn K (.ref CT) (.type "BaseException") = some true)
    (tyT : PySem.W.typeIn K (.ref CT) = some (.type "type"))
    (hdT : PySem.W.hasDictIn K CT = true)
    (isT : PySem.W.isClsIn K CT = true)
    (suT : PySem.W.subIn K (.ref CT) (.ref CT) = some true)
    (liT : K.lookup iT = some ⟨ocT, odT, .func (PySem.W.fnOf "__init__" qnT (Ex_many.iA p1T p2T) (Ex_many.iB q1T q2T q3T q4T) (Ex_many.iS msT) .none .none dcT pmT anT cdT ctT), slT⟩)
    (ciT : PySem.W.codeIn K cdT qnT = true)
    (s0T : PySem.W.subIn K (.ref CT) (.type "int") = some false)
    (s1T : PySem.W.subIn K (.ref CT) (.type "str") = some false)
    (s2T : PySem.W.subIn K (.ref CT) (.type "bool") = some false)
    (s3T : PySem.W.subIn K (.ref CT) (.type "list") = some false)
    (s4T : PySem.W.subIn K (.ref CT) (.type "tuple") = some false)
    (s5T : PySem.W.subIn K (.ref CT) (.type "dict") = some false)
    (aCK : PySem.W.nsIn K mainGlobals "Cutter" = some (some (.ref CK)))
    (pgK : PySem.W.plainGet K CK Str.empty = true)
    (hdK : PySem.W.hasDictIn K CK = true)
    (poK : PySem.W.plainOver K CK = true)
    (saK : PySem.W.findIn K (.ref CK) "__setattr__" = some (some (.builtin "object.__setattr__")))
    (mkK : PySem.W.makesIn K CK = true)
    (kcK : PySem.W.keepIn K (.ref CK) = true)
    (nf0K : PySem.W.findIn K (.ref CK) "whole_words" = some none)
    (nf1K : PySem.W.findIn K (.ref CK) "word_begun" = some none)
    (nf2K : PySem.W.findIn K (.ref CK) "quote_open" = some none)
    (nf3K : PySem.W.findIn K (.ref CK) "opened_at" = some none)
    (nf4K : PySem.W.findIn K (.ref CK) "is_taken" = some none)
    (tm_QUOTES : PySem.W.nsIn K mainGlobals "QUOTES" = some (some (.ref ta_QUOTES)))
    (tl_QUOTES : K.lookup ta_QUOTES = some ⟨tc_QUOTES, td_QUOTES, .seq ti_QUOTES tn_QUOTES, ts_QUOTES⟩)
    (tq_QUOTES : tc_QUOTES = .type "tuple")
    (tv_QUOTES : Vals ([V.str (SX.S [39]), V.str (SX.S [34])]) ti_QUOTES.toList)
    (tz_QUOTES : ti_QUOTES.size ≤ sizeLine)
    (noT_B : PySem.W.subIn K (.ref CT) (.ref CB) = some false)
    (k_MOST_WORD : PySem.W.nsIn K mainGlobals "MOST_WORD" = some (some (.int 40 tk_MOST_WORD)))
    (k_MOST_SIGNS : PySem.W.nsIn K mainGlobals "MOST_SIGNS" = some (some (.int 2000 tk_MOST_SIGNS)))
    (k_MOST_WORDS : PySem.W.nsIn K mainGlobals "MOST_WORDS" = some (some (.int 40 tk_MOST_WORDS)))
    (k_BLANK : PySem.W.nsIn K mainGlobals "BLANK" = some (some (.str (SX.S [32]) tk_BLANK)))
    (k_FEED : PySem.W.nsIn K mainGlobals "FEED" = some (some (.str (SX.S [10]) tk_FEED)))
    (k_DOUBLE : PySem.W.nsIn K mainGlobals "DOUBLE" = some (some (.str (SX.S [34]) tk_DOUBLE)))
    (k_STROKE : PySem.W.nsIn K mainGlobals "STROKE" = some (some (.str (SX.S [92]) tk_STROKE)))
    (a0 : PySem.W.nsIn K mainGlobals "is_word" = some (some (.ref f0)))
    (l0 : K.lookup f0 = some ⟨oc0, od0, .func (PySem.W.fnOf "is_word" "is_word" (defArgs s_is_word) (defBody s_is_word) (defScope s_is_word) .none kV0 dc0 pm0 an0 cd0 ct0), sl0⟩)
    (c0 : PySem.W.codeIn K cd0 "is_word" = true)
    (k0 : PySem.W.keepIn K (.ref f0) = true)
    (a1 : PySem.W.nsIn K mainGlobals "is_line" = some (some (.ref f1)))
    (l1 : K.lookup f1 = some ⟨oc1, od1, .func (PySem.W.fnOf "is_line" "is_line" (defArgs s_is_line) (defBody s_is_line) (defScope s_is_line) .none kV1 dc1 pm1 an1 cd1 ct1), sl1⟩)
    (c1 : PySem.W.codeIn K cd1 "is_line" = true)
    (k1 : PySem.W.keepIn K (.ref f1) = true)
    (a2 : PySem.W.findIn K (.ref CK) "__init__" = some (some (.ref f2)))
    (i2 : PySem.W.isFn K (.ref f2) = true)
    (l2 : K.lookup f2 = some ⟨oc2, od2, .func (PySem.W.fnOf "__init__" "Cutter.__init__" (defArgs s_Cutter_init) (defBody s_Cutter_init) (defScope s_Cutter_init) .none kV2 dc2 pm2 an2 cd2 ct2), sl2⟩)
    (c2 : PySem.W.codeIn K cd2 "Cutter.__init__" = true)
    (k2 : PySem.W.keepIn K (.ref f2) = true)
    (a3 : PySem.W.findIn K (.ref CK) "goes_in" = some (some (.ref f3)))
    (i3 : PySem.W.isFn K (.ref f3) = true)
    (l3 : K.lookup f3 = some ⟨oc3, od3, .func (PySem.W.fnOf "goes_in" "Cutter.goes_in" (defArgs s_Cutter_goes_in) (defBody s_Cutter_goes_in) (defScope s_Cutter_goes_in) .none kV3 dc3 pm3 an3 cd3 ct3), sl3⟩)
    (c3 : PySem.W.codeIn K cd3 "Cutter.goes_in" = true)
    (k3 : PySem.W.keepIn K (.ref f3) = true)
    (a4 : PySem.W.findIn K (.ref CK) "ends_word" = some (some (.ref f4)))
    (i4 : PySem.W.isFn K (.ref f4) = true)
    (l4 : K.lookup f4 = some ⟨oc4, od4, .func (PySem.W.fnOf "ends_word" "Cutter.ends_word" (defArgs s_Cutter_ends_word) (defBody s_Cutter_ends_word) (defScope s_Cutter_ends_word) .none kV4 dc4 pm4 an4 cd4 ct4), sl4⟩)
    (c4 : PySem.W.codeIn K cd4 "Cutter.ends_word" = true)
    (k4 : PySem.W.keepIn K (.ref f4) = true)
    (a5 : PySem.W.findIn K (.ref CK) "takes_outside" = some (some (.ref f5)))
    (i5 : PySem.W.isFn K (.ref f5) = true)
    (l5 : K.lookup f5 = some ⟨oc5, od5, .func (PySem.W.fnOf "takes_outside" "Cutter.takes_outside" (defArgs s_Cutter_takes_outside) (defBody s_Cutter_takes_outside) (defScope s_Cutter_takes_outside) .none kV5 dc5 pm5 an5 cd5 ct5), sl5⟩)
    (c5 : PySem.W.codeIn K cd5 "Cutter.takes_outside" = true)
    (k5 : PySem.W.keepIn K (.ref f5) = true)
    (a6 : PySem.W.findIn K (.ref CK) "takes" = some (some (.ref f6)))
    (i6 : PySem.W.isFn K (.ref f6) = true)
    (l6 : K.lookup f6 = some ⟨oc6, od6, .func (PySem.W.fnOf "takes" "Cutter.takes" (defArgs s_Cutter_takes) (defBody s_Cutter_takes) (defScope s_Cutter_takes) .none kV6 dc6 pm6 an6 cd6 ct6), sl6⟩)
    (c6 : PySem.W.codeIn K cd6 "Cutter.takes" = true)
    (k6 : PySem.W.keepIn K (.ref f6) = true)
    (a7 : PySem.W.nsIn K mainGlobals "gone_through" = some (some (.ref f7)))
    (l7 : K.lookup f7 = some ⟨oc7, od7, .func (PySem.W.fnOf "gone_through" "gone_through" (defArgs s_gone_through) (defBody s_gone_through) (defScope s_gone_through) .none kV7 dc7 pm7 an7 cd7 ct7), sl7⟩)
    (c7 : PySem.W.codeIn K cd7 "gone_through" = true)
    (k7 : PySem.W.keepIn K (.ref f7) = true)
    (a8 : PySem.W.nsIn K mainGlobals "need_few" = some (some (.ref f8)))
    (l8 : K.lookup f8 = some ⟨oc8, od8, .func (PySem.W.fnOf "need_few" "need_few" (defArgs s_need_few) (defBody s_need_few) (defScope s_need_few) .none kV8 dc8 pm8 an8 cd8 ct8), sl8⟩)
    (c8 : PySem.W.codeIn K cd8 "need_few" = true)
    (k8 : PySem.W.keepIn K (.ref f8) = true)
    (a9 : PySem.W.nsIn K mainGlobals "cut" = some (some (.ref f9)))
    (l9 : K.lookup f9 = some ⟨oc9, od9, .func (PySem.W.fnOf "cut" "cut" (defArgs s_cut) (defBody s_cut) (defScope s_cut) .none kV9 dc9 pm9 an9 cd9 ct9), sl9⟩)
    (c9 : PySem.W.codeIn K cd9 "cut" = true)
    (k9 : PySem.W.keepIn K (.ref f9) = true)
    (a10 : PySem.W.nsIn K mainGlobals "_law_box" = some (some (.ref f10)))
    (l10 : K.lookup f10 = some ⟨oc10, od10, .func (PySem.W.fnOf "_law_box" "_law_box" (defArgs s_l_box) (defBody s_l_box) (defScope s_l_box) .none kV10 dc10 pm10 an10 cd10 ct10), sl10⟩)
    (c10 : PySem.W.codeIn K cd10 "_law_box" = true)
    (k10 : PySem.W.keepIn K (.ref f10) = true)
    (a11 : PySem.W.nsIn K mainGlobals "_law_take" = some (some (.ref f11)))
    (l11 : K.lookup f11 = some ⟨oc11, od11, .func (PySem.W.fnOf "_law_take" "_law_take" (defArgs s_l_take) (defBody s_l_take) (defScope s_l_take) .none kV11 dc11 pm11 an11 cd11 ct11), sl11⟩)
    (c11 : PySem.W.codeIn K cd11 "_law_take" = true)
    (k11 : PySem.W.keepIn K (.ref f11) = true)
    (a12 : PySem.W.nsIn K mainGlobals "_law_pick" = some (some (.ref f12)))
    (l12 : K.lookup f12 = some ⟨oc12, od12, .func (PySem.W.fnOf "_law_pick" "_law_pick" (defArgs s_l_pick) (defBody s_l_pick) (defScope s_l_pick) .none kV12 dc12 pm12 an12 cd12 ct12), sl12⟩)
    (c12 : PySem.W.codeIn K cd12 "_law_pick" = true)
    (k12 : PySem.W.keepIn K (.ref f12) = true)
    (a13 : PySem.W.nsIn K mainGlobals "_law_sign" = some (some (.ref f13)))
    (l13 : K.lookup f13 = some ⟨oc13, od13, .func (PySem.W.fnOf "_law_sign" "_law_sign" (defArgs s_l_sign) (defBody s_l_sign) (defScope s_l_sign) .none kV13 dc13 pm13 an13 cd13 ct13), sl13⟩)
    (c13 : PySem.W.codeIn K cd13 "_law_sign" = true)
    (k13 : PySem.W.keepIn K (.ref f13) = true)
    (a14 : PySem.W.nsIn K mainGlobals "_law_word" = some (some (.ref f14)))
    (l14 : K.lookup f14 = some ⟨oc14, od14, .func (PySem.W.fnOf "_law_word" "_law_word" (defArgs s_l_word) (defBody s_l_word) (defScope s_l_word) .none kV14 dc14 pm14 an14 cd14 ct14), sl14⟩)
    (c14 : PySem.W.codeIn K cd14 "_law_word" = true)
    (k14 : PySem.W.keepIn K (.ref f14) = true)
    (a15 : PySem.W.nsIn K mainGlobals "_law_stroked" = some (some (.ref f15)))
    (l15 : K.lookup f15 = some ⟨oc15, od15, .func (PySem.W.fnOf "_law_stroked" "_law_stroked" (defArgs s_l_stroked) (defBody s_l_stroked) (defScope s_l_stroked) .none kV15 dc15 pm15 an15 cd15 ct15), sl15⟩)
    (c15 : PySem.W.codeIn K cd15 "_law_stroked" = true)
    (k15 : PySem.W.keepIn K (.ref f15) = true)
    (a16 : PySem.W.nsIn K mainGlobals "_law_written" = some (some (.ref f16)))
    (l16 : K.lookup f16 = some ⟨oc16, od16, .func (PySem.W.fnOf "_law_written" "_law_written" (defArgs s_l_written) (defBody s_l_written) (defScope s_l_written) .none kV16 dc16 pm16 an16 cd16 ct16), sl16⟩)
    (c16 : PySem.W.codeIn K cd16 "_law_written" = true)
    (k16 : PySem.W.keepIn K (.ref f16) = true)
    (a17 : PySem.W.nsIn K mainGlobals "_law_gap" = some (some (.ref f17)))
    (l17 : K.lookup f17 = some ⟨oc17, od17, .func (PySem.W.fnOf "_law_gap" "_law_gap" (defArgs s_l_gap) (defBody s_l_gap) (defScope s_l_gap) .none kV17 dc17 pm17 an17 cd17 ct17), sl17⟩)
    (c17 : PySem.W.codeIn K cd17 "_law_gap" = true)
    (k17 : PySem.W.keepIn K (.ref f17) = true)
    (a18 : PySem.W.nsIn K mainGlobals "_law_good" = some (some (.ref f18)))
    (l18 : K.lookup f18 = some ⟨oc18, od18, .func (PySem.W.fnOf "_law_good" "_law_good" (defArgs s_l_good) (defBody s_l_good) (defScope s_l_good) .none kV18 dc18 pm18 an18 cd18 ct18), sl18⟩)
    (c18 : PySem.W.codeIn K cd18 "_law_good" = true)
    (k18 : PySem.W.keepIn K (.ref f18) = true)
    (a19 : PySem.W.nsIn K mainGlobals "_law_line" = some (some (.ref f19)))
    (l19 : K.lookup f19 = some ⟨oc19, od19, .func (PySem.W.fnOf "_law_line" "_law_line" (defArgs s_l_line) (defBody s_l_line) (defScope s_l_line) .none kV19 dc19 pm19 an19 cd19 ct19), sl19⟩)
    (c19 : PySem.W.codeIn K cd19 "_law_line" = true)
    (k19 : PySem.W.keepIn K (.ref f19) = true)
    (a20 : PySem.W.nsIn K mainGlobals "_law_state" = some (some (.ref f20)))
    (l20 : K.lookup f20 = some ⟨oc20, od20, .func (PySem.W.fnOf "_law_state" "_law_state" (defArgs s_l_state) (defBody s_l_state) (defScope s_l_state) .none kV20 dc20 pm20 an20 cd20 ct20), sl20⟩)
    (c20 : PySem.W.codeIn K cd20 "_law_state" = true)
    (k20 : PySem.W.keepIn K (.ref f20) = true)
    (a21 : PySem.W.nsIn K mainGlobals "_law_due" = some (some (.ref f21)))
    (l21 : K.lookup f21 = some ⟨oc21, od21, .func (PySem.W.fnOf "_law_due" "_law_due" (defArgs s_l_due) (defBody s_l_due) (defScope s_l_due) .none kV21 dc21 pm21 an21 cd21 ct21), sl21⟩)
    (c21 : PySem.W.codeIn K cd21 "_law_due" = true)
    (k21 : PySem.W.keepIn K (.ref f21) = true)
    (a22 : PySem.W.nsIn K mainGlobals "_law_cut" = some (some (.ref f22)))
    (l22 : K.lookup f22 = some ⟨oc22, od22, .func (PySem.W.fnOf "_law_cut" "_law_cut" (defArgs s_l_cut) (defBody s_l_cut) (defScope s_l_cut) .none kV22 dc22 pm22 an22 cd22 ct22), sl22⟩)
    (c22 : PySem.W.codeIn K cd22 "_law_cut" = true)
    (k22 : PySem.W.keepIn K (.ref f22) = true)
    (a23 : PySem.W.nsIn K mainGlobals "_law_right" = some (some (.ref f23)))
    (l23 : K.lookup f23 = some ⟨oc23, od23, .func (PySem.W.fnOf "_law_right" "_law_right" (defArgs s_l_right) (defBody s_l_right) (defScope s_l_right) .none kV23 dc23 pm23 an23 cd23 ct23), sl23⟩)
    (c23 : PySem.W.codeIn K cd23 "_law_right" = true)
    (k23 : PySem.W.keepIn K (.ref f23) = true)
    (a24 : PySem.W.nsIn K mainGlobals "law" = some (some (.ref f24)))
    (l24 : K.lookup f24 = some ⟨oc24, od24, .func (PySem.W.fnOf "law" "law" (defArgs s_law) (defBody s_law) (defScope s_law) .none kV24 dc24 pm24 an24 cd24 ct24), sl24⟩)
    (c24 : PySem.W.codeIn K cd24 "law" = true)
    (k24 : PySem.W.keepIn K (.ref f24) = true)
    (z_abs : PySem.W.nsIn K mainGlobals "abs" = some none)
    (z_all : PySem.W.nsIn K mainGlobals "all" = some none)
    (z_any : PySem.W.nsIn K mainGlobals "any" = some none)
    (z_bool : PySem.W.nsIn K mainGlobals "bool" = some none)
    (z_dict : PySem.W.nsIn K mainGlobals "dict" = some none)
    (z_enumerate : PySem.W.nsIn K mainGlobals "enumerate" = some none)
    (z_int : PySem.W.nsIn K mainGlobals "int" = some none)
    (z_isinstance : PySem.W.nsIn K mainGlobals "isinstance" = some none)
    (z_len : PySem.W.nsIn K mainGlobals "len" = some none)
    (z_list : PySem.W.nsIn K mainGlobals "list" = some none)
    (z_max : PySem.W.nsIn K mainGlobals "max" = some none)
    (z_min : PySem.W.nsIn K mainGlobals "min" = some none)
    (z_ord : PySem.W.nsIn K mainGlobals "ord" = some none)
    (z_range : PySem.W.nsIn K mainGlobals "range" = some none)
    (z_repr : PySem.W.nsIn K mainGlobals "repr" = some none)
    (z_set : PySem.W.nsIn K mainGlobals "set" = some none)
    (z_sorted : PySem.W.nsIn K mainGlobals "sorted" = some none)
    (z_str : PySem.W.nsIn K mainGlobals "str" = some none)
    (z_sum : PySem.W.nsIn K mainGlobals "sum" = some none)
    (z_tuple : PySem.W.nsIn K mainGlobals "tuple" = some none)
    (z_zip : PySem.W.nsIn K mainGlobals "zip" = some none)
    : ∃ fd : FuncData, (∀ (s : Shared) (v : Value), BindsTo s fd ⟨[v], []⟩ [("_law_script", v)]) ∧ ∀ base : Heap, K.In base → base.Ns mainGlobals mg → FnG P w K mg base 8 fa fd ["_law_script"] (toSp K W_law) := by
  have e := hfa.symm.trans (PySem.W.mg_of X G a24)
  cases e
  have F0 := fun_mk (st := s_is_word) l0 c0 k0
  have F1 := fun_mk (st := s_is_line) l1 c1 k1
  have F2 := fun_mk (st := s_Cutter_init) l2 c2 k2
  have F3 := fun_mk (st := s_Cutter_goes_in) l3 c3 k3
  have F4 := fun_mk (st := s_Cutter_ends_word) l4 c4 k4
  have F5 := fun_mk (st := s_Cutter_takes_outside) l5 c5 k5
  have F6 := fun_mk (st := s_Cutter_takes) l6 c6 k6
  have F7 := fun_mk (st := s_gone_through) l7 c7 k7
  have F8 := fun_mk (st := s_need_few) l8 c8 k8
  have F9 := fun_mk (st := s_cut) l9 c9 k9
  have F10 := fun_mk (st := s_l_box) l10 c10 k10
  have F11 := fun_mk (st := s_l_take) l11 c11 k11
  have F12 := fun_mk (st := s_l_pick) l12 c12 k12
  have F13 := fun_mk (st := s_l_sign) l13 c13 k13
  have F14 := fun_mk (st := s_l_word) l14 c14 k14
  have F15 := fun_mk (st := s_l_stroked) l15 c15 k15
  have F16 := fun_mk (st := s_l_written) l16 c16 k16
  have F17 := fun_mk (st := s_l_gap) l17 c17 k17
  have F18 := fun_mk (st := s_l_good) l18 c18 k18
  have F19 := fun_mk (st := s_l_line) l19 c19 k19
  have F20 := fun_mk (st := s_l_state) l20 c20 k20
  have F21 := fun_mk (st := s_l_due) l21 c21 k21
  have F22 := fun_mk (st := s_l_cut) l22 c22 k22
  have F23 := fun_mk (st := s_l_right) l23 c23 k23
  have F24 := fun_mk (st := s_law) l24 c24 k24
  have b0 := F0.binds (ps := ["thing"]) fun _ _ _ _ _ _ us hl => match us, hl with | [_], _ => rfl
  have b1 := F1.binds (ps := ["thing"]) fun _ _ _ _ _ _ us hl => match us, hl with | [_], _ => rfl
  have b2 := F2.binds (ps := ["self"]) fun _ _ _ _ _ _ us hl => match us, hl with | [_], _ => rfl
  have b3 := F3.binds (ps := ["self", "sign"]) fun _ _ _ _ _ _ us hl => match us, hl with | [_, _], _ => rfl
  have b4 := F4.binds (ps := ["self"]) fun _ _ _ _ _ _ us hl => match us, hl with | [_], _ => rfl
  have b5 := F5.binds (ps := ["self", "number", "sign"]) fun _ _ _ _ _ _ us hl => match us, hl with | [_, _, _], _ => rfl
  have b6 := F6.binds (ps := ["self", "number", "sign"]) fun _ _ _ _ _ _ us hl => match us, hl with | [_, _, _], _ => rfl
  have b7 := F7.binds (ps := ["line"]) fun _ _ _ _ _ _ us hl => match us, hl with | [_], _ => rfl
  have b8 := F8.binds (ps := ["many"]) fun _ _ _ _ _ _ us hl => match us, hl with | [_], _ => rfl
  have b9 := F9.binds (ps := ["line"]) fun _ _ _ _ _ _ us hl => match us, hl with | [_], _ => rfl
  have b10 := F10.binds (ps := ["_law_cell"]) fun _ _ _ _ _ _ us hl => match us, hl with | [_], _ => rfl
  have b11 := F11.binds (ps := ["_law_box_here", "_law_many"]) fun _ _ _ _ _ _ us hl => match us, hl with | [_, _], _ => rfl
  have b12 := F12.binds (ps := ["_law_box_here", "_law_some"]) fun _ _ _ _ _ _ us hl => match us, hl with | [_, _], _ => rfl
  have b13 := F13.binds (ps := ["_law_box_here"]) fun _ _ _ _ _ _ us hl => match us, hl with | [_], _ => rfl
  have b14 := F14.binds (ps := ["_law_box_here", "_law_most"]) fun _ _ _ _ _ _ us hl => match us, hl with | [_, _], _ => rfl
  have b15 := F15.binds (ps := ["_law_box_here", "_law_word_here", "_law_needs"]) fun _ _ _ _ _ _ us hl => match us, hl with | [_, _, _], _ => rfl
  have b16 := F16.binds (ps := ["_law_box_here", "_law_word_here"]) fun _ _ _ _ _ _ us hl => match us, hl with | [_, _], _ => rfl
  have b17 := F17.binds (ps := ["_law_box_here", "_law_few"]) fun _ _ _ _ _ _ us hl => match us, hl with | [_, _], _ => rfl
  have b18 := F18.binds (ps := ["_law_box_here"]) fun _ _ _ _ _ _ us hl => match us, hl with | [_], _ => rfl
  have b19 := F19.binds (ps := ["_law_box_here"]) fun _ _ _ _ _ _ us hl => match us, hl with | [_], _ => rfl
  have b20 := F20.binds (ps := ["_law_line_here"]) fun _ _ _ _ _ _ us hl => match us, hl with | [_], _ => rfl
  have b21 := F21.binds (ps := ["_law_line_here"]) fun _ _ _ _ _ _ us hl => match us, hl with | [_], _ => rfl
  have b22 := F22.binds (ps := ["_law_line_here"]) fun _ _ _ _ _ _ us hl => match us, hl with | [_], _ => rfl
  have b23 := F23.binds (ps := ["_law_line_here"]) fun _ _ _ _ _ _ us hl => match us, hl with | [_], _ => rfl
  have B : Bi mg := ⟨PySem.W.mg_none_of X G z_abs, PySem.W.mg_none_of X G z_all, PySem.W.mg_none_of X G z_any, PySem.W.mg_none_of X G z_bool, PySem.W.mg_none_of X G z_dict, PySem.W.mg_none_of X G z_enumerate, PySem.W.mg_none_of X G z_int, PySem.W.mg_none_of X G z_isinstance, PySem.W.mg_none_of X G z_len, PySem.W.mg_none_of X G z_list, PySem.W.mg_none_of X G z_max, PySem.W.mg_none_of X G z_min, PySem.W.mg_none_of X G z_ord, PySem.W.mg_none_of X G z_range, PySem.W.mg_none_of X G z_repr, PySem.W.mg_none_of X G z_set, PySem.W.mg_none_of X G z_sorted, PySem.W.mg_none_of X G z_str, PySem.W.mg_none_of X G z_sum, PySem.W.mg_none_of X G z_tuple, PySem.W.mg_none_of X G z_zip⟩
  have TB := Ex_at.mk X G aCB xLB hbB saB gaB ggB nnB iCB rCB cCB spB tkB mrB tCB kCB exB tyB hdB isB suB liB ciB
  have XFB := TB.xf isB (by decide +kernel)
  have XSB := x6_mk s0B s1B s2B s3B s4B s5B
  have TT := Ex_many.mk X G aCT xLT hbT saT gaT ggT nnT iCT rCT cCT spT tkT mrT tCT kCT exT tyT hdT isT suT liT ciT
  have XFT := TT.xf isT (by decide +kernel)
  have XST := x6_mk s0T s1T s2T s3T s4T s5T
  have KK : CuK K CK := ⟨⟨pgK, hdK, poK, saK⟩, nf0K, nf1K, nf2K, nf3K, nf4K⟩
  have Q_QUOTES := PySem.W.mg_of X G tm_QUOTES
  have Y_QUOTES : TupK K ta_QUOTES [SX.S [39], SX.S [34]] := ⟨.inr ⟨_, _, _, tl_QUOTES, tq_QUOTES, rfl, tz_QUOTES, tv_QUOTES⟩⟩
  have VT_B := exm_cl exB isB tyB noT_B
  have Q_MOST_WORD := PySem.W.mg_of X G k_MOST_WORD
  have Q_MOST_SIGNS := PySem.W.mg_of X G k_MOST_SIGNS
  have Q_MOST_WORDS := PySem.W.mg_of X G k_MOST_WORDS
  have Q_BLANK := PySem.W.mg_of X G k_BLANK
  have Q_FEED := PySem.W.mg_of X G k_FEED
  have Q_DOUBLE := PySem.W.mg_of X G k_DOUBLE
  have Q_STROKE := PySem.W.mg_of X G k_STROKE
  refine ⟨PySem.W.fnOf "law" "law" (defArgs s_law) (defBody s_law) (defScope s_law) .none kV24 dc24 pm24 an24 cd24 ct24, fun s v => .of_eq rfl, fun base _ _ => ?_⟩
  have D0 : FnD P w K mg base "is_word" 1 (W_pred K fWord) := FnD.mk' F0 (ok_word B Q_MOST_WORD F0) (PySem.W.mg_of X G a0) b0
  have D1 : FnD P w K mg base "is_line" 2 (W_line K) := FnD.mk' F1 (ok_line B Q_MOST_SIGNS Q_FEED D0 F1) (PySem.W.mg_of X G a1) b1
  have D2 : MkD P w K mg base "Cutter" CK 1 (W_init CK) := ⟨_, _, _, ok_init KK F2, ⟨mkK, a2, i2, kcK⟩, PySem.W.mg_of X G aCK, b2⟩
  have D3 : MtD P w K mg base CK "goes_in" 1 (W_goes CK) := ⟨_, _, _, ok_goes B KK Q_MOST_WORD Q_FEED F3, KK.cl, ⟨a3, i3, k3⟩, b3⟩
  have D4 : MtD P w K mg base CK "ends_word" 1 (W_ends CK) := ⟨_, _, _, ok_ends KK F4, KK.cl, ⟨a4, i4, k4⟩, b4⟩
  have D5 : MtD P w K mg base CK "takes_outside" 2 (W_outs CK) := ⟨_, _, _, ok_outs KK Q_BLANK Q_FEED Q_STROKE Q_QUOTES Y_QUOTES D3 D4 F5, KK.cl, ⟨a5, i5, k5⟩, b5⟩
  have D6 : MtD P w K mg base CK "takes" 3 (W_takes CK) := ⟨_, _, _, ok_takes KK Q_STROKE Q_DOUBLE D3 D5 F6, KK.cl, ⟨a6, i6, k6⟩, b6⟩
  have D7 : FnD P w K mg base "gone_through" 4 (W_gone CK CB) := FnD.mk' F7 (ok_gone B KK TB D1 D2 D6 F7) (PySem.W.mg_of X G a7) b7
  have D8 : FnD P w K mg base "need_few" 3 (W_few CT) := FnD.mk' F8 (ok_few Q_MOST_WORDS TT F8) (PySem.W.mg_of X G a8) b8
  have D9 : FnD P w K mg base "cut" 5 (W_cut CK CB CT) := FnD.mk' F9 (ok_cut (iT := iT) B KK TB D7 D8 D4 F9) (PySem.W.mg_of X G a9) b9
  have D10 : FnD P w K mg base "_law_box" 1 (W_box) := FnD.mk' F10 (ok_box B F10) (PySem.W.mg_of X G a10) b10
  have D11 : FnD P w K mg base "_law_take" 1 (W_take) := FnD.mk' F11 (ok_take F11) (PySem.W.mg_of X G a11) b11
  have D12 : FnD P w K mg base "_law_pick" 2 (W_pick) := FnD.mk' F12 (ok_pick B D11 F12) (PySem.W.mg_of X G a12) b12
  have D13 : FnD P w K mg base "_law_sign" 3 (W_sign) := FnD.mk' F13 (ok_sign D11 D12 F13) (PySem.W.mg_of X G a13) b13
  have D14 : FnD P w K mg base "_law_word" 4 (W_wd) := FnD.mk' F14 (ok_wd B D11 D13 F14) (PySem.W.mg_of X G a14) b14
  have D15 : FnD P w K mg base "_law_stroked" 2 (W_strk) := FnD.mk' F15 (ok_strk B D11 F15) (PySem.W.mg_of X G a15) b15
  have D16 : FnD P w K mg base "_law_written" 3 (W_wri) := FnD.mk' F16 (ok_wri B D11 D12 D15 F16) (PySem.W.mg_of X G a16) b16
  have D17 : FnD P w K mg base "_law_gap" 3 (W_gap) := FnD.mk' F17 (ok_gap B D11 D12 F17) (PySem.W.mg_of X G a17) b17
  have D18 : FnD P w K mg base "_law_good" 5 (W_good) := FnD.mk' F18 (ok_good B D11 D14 D17 D16 F18) (PySem.W.mg_of X G a18) b18
  have D19 : FnD P w K mg base "_law_line" 6 (W_lline) := FnD.mk' F19 (ok_lline B D11 D12 D13 D18 F19) (PySem.W.mg_of X G a19) b19
  have D20 : FnD P w K mg base "_law_state" 1 (W_state) := FnD.mk' F20 (ok_state B F20) (PySem.W.mg_of X G a20) b20
  have D21 : FnD P w K mg base "_law_due" 2 (W_due) := FnD.mk' F21 (ok_due B D20 F21) (PySem.W.mg_of X G a21) b21
  have D22 : FnD P w K mg base "_law_cut" 6 (W_lcut CK CB CT) := FnD.mk' F22 (ok_lcut TB TT VT_B D9 F22) (PySem.W.mg_of X G a22) b22
  have D23 : FnD P w K mg base "_law_right" 7 (W_right) := FnD.mk' F23 (ok_lright B D22 D21 F23) (PySem.W.mg_of X G a23) b23
  exact ok_law B D10 D11 D19 D23 D18 D22 F24
end
end K06
open PySem PySem.W PyProof.Rows
set_option maxHeartbeats 0 in
theorem PySem.Challenge.cw_callwords_k06_whole_lines_cut_holds : PySem.Challenge.rw_callwords_k06_whole_lines_cut.Holds := by
  w_on; o_law; k_head; (case hw => w_witness2)
  k_fill
  refine Dw.walkG (l := PySem.Challenge.rw_callwords_k06_whole_lines_cut) (n := 63) (k := 8) (x := "_law_script") (W := K06.W_law) rfl (by decide) rfl ⟨rfl, by decide, by decide⟩ (fun w h Y => PySem.W.kIn_of Y) ?F (fun ns hl => ⟨ns, rfl, hl, fun _ => rfl⟩)
  case F =>
    intro w mg fa h KX G hmg
    refine' K06.all_mk KX G hmg ?aCB ?xLB ?hbB ?saB ?gaB ?ggB ?nnB ?iCB ?rCB ?cCB ?spB ?tkB ?mrB ?tCB ?kCB ?exB ?tyB ?hdB ?isB ?suB ?liB ?ciB ?s0B ?s1B ?s2B ?s3B ?s4B ?s5B ?aCT ?xLT ?hbT ?saT ?gaT ?ggT ?nnT ?iCT ?rCT ?cCT ?spT ?tkT ?mrT ?tCT ?kCT ?exT ?tyT ?hdT ?isT ?suT ?liT ?ciT ?s0T ?s1T ?s2T ?s3T ?s4T ?s5T ?aCK ?pgK ?hdK ?poK ?saK ?mkK ?kcK ?nf0K ?nf1K ?nf2K ?nf3K ?nf4K ?tm_QUOTES ?tl_QUOTES ?tq_QUOTES ?tv_QUOTES ?tz_QUOTES ?noT_B ?k_MOST_WORD ?k_MOST_SIGNS ?k_MOST_WORDS ?k_BLANK ?k_FEED ?k_DOUBLE ?k_STROKE ?a0 ?l0 ?c0 ?k0 ?a1 ?l1 ?c1 ?k1 ?a2 ?i2 ?l2 ?c2 ?k2 ?a3 ?i3 ?l3 ?c3 ?k3 ?a4 ?i4 ?l4 ?c4 ?k4 ?a5 ?i5 ?l5 ?c5 ?k5 ?a6 ?i6 ?l6 ?c6 ?k6 ?a7 ?l7 ?c7 ?k7 ?a8 ?l8 ?c8 ?k8 ?a9 ?l9 ?c9 ?k9 ?a10 ?l10 ?c10 ?k10 ?a11 ?l11 ?c11 ?k11 ?a12 ?l12 ?c12 ?k12 ?a13 ?l13 ?c13 ?k13 ?a14 ?l14 ?c14 ?k14 ?a15 ?l15 ?c15 ?k15 ?a16 ?l16 ?c16 ?k16 ?a17 ?l17 ?c17 ?k17 ?a18 ?l18 ?c18 ?k18 ?a19 ?l19 ?c19 ?k19 ?a20 ?l20 ?c20 ?k20 ?a21 ?l21 ?c21 ?k21 ?a22 ?l22 ?c22 ?k22 ?a23 ?l23 ?c23 ?k23 ?a24 ?l24 ?c24 ?k24 ?z_abs ?z_all ?z_any ?z_bool ?z_dict ?z_enumerate ?z_int ?z_isinstance ?z_len ?z_list ?z_max ?z_min ?z_ord ?z_range ?z_repr ?z_set ?z_sorted ?z_str ?z_sum ?z_tuple ?z_zip
    (case aCB => k_is)
    (case xLB => k_is)
    (case hbB => first | rfl | decide +kernel)
    (case saB => k_is)
    (case gaB => k_is)
    (case ggB => k_is)
    (case nnB => k_is)
    (case iCB => k_is)
    (case rCB => k_is)
    (case cCB => k_is)
    (case spB => k_is)
    (case tkB => k_is)
    (case mrB => k_is)
    (case tCB => k_is)
    (case kCB => k_is)
    (case exB => k_is)
    (case tyB => k_is)
    (case hdB => k_is)
    (case isB => k_is)
    (case suB => first | rfl | k_is)
    (case liB => k_is)
    (case ciB => k_is)
    (case s0B => k_is)
    (case s1B => k_is)
    (case s2B => k_is)
    (case s3B => k_is)
    (case s4B => k_is)
    (case s5B => k_is)
    (case aCT => k_is)
    (case xLT => k_is)
    (case hbT => first | rfl | decide +kernel)
    (case saT => k_is)
    (case gaT => k_is)
    (case ggT => k_is)
    (case nnT => k_is)
    (case iCT => k_is)
    (case rCT => k_is)
    (case cCT => k_is)
    (case spT => k_is)
    (case tkT => k_is)
    (case mrT => k_is)
    (case tCT => k_is)
    (case kCT => k_is)
    (case exT => k_is)
    (case tyT => k_is)
    (case hdT => k_is)
    (case isT => k_is)
    (case suT => first | rfl | k_is)
    (case liT => k_is)
    (case ciT => k_is)
    (case s0T => k_is)
    (case s1T => k_is)
    (case s2T => k_is)
    (case s3T => k_is)
    (case s4T => k_is)
    (case s5T => k_is)
    (case aCK => k_is)
    (case pgK => k_is)
    (case hdK => k_is)
    (case poK => k_is)
    (case saK => k_is)
    (case mkK => k_is)
    (case kcK => k_is)
    (case nf0K => k_is)
    (case nf1K => k_is)
    (case nf2K => k_is)
    (case nf3K => k_is)
    (case nf4K => k_is)
    (case tm_QUOTES => k_is)
    (case tl_QUOTES => k_is)
    (case tq_QUOTES => rfl)
    (case tv_QUOTES => first | exact .cons ⟨_, rfl⟩ (.cons ⟨_, rfl⟩ .nil) | exact .cons ⟨_, rfl⟩ (.cons ⟨_, rfl⟩ (.cons ⟨_, rfl⟩ (.cons ⟨_, rfl⟩ .nil))))
    (case tz_QUOTES => show _ ≤ _; exact Nat.le_of_ble_eq_true (by decide +kernel))
    (case noT_B => first | rfl | k_is)
    (case k_MOST_WORD => k_is)
    (case k_MOST_SIGNS => k_is)
    (case k_MOST_WORDS => k_is)
    (case k_BLANK => k_is)
    (case k_FEED => k_is)
    (case k_DOUBLE => k_is)
    (case k_STROKE => k_is)
    (case a0 => k_is)
    (case l0 => k_is)
    (case c0 => k_is)
    (case k0 => k_is)
    (case a1 => k_is)
    (case l1 => k_is)
    (case c1 => k_is)
    (case k1 => k_is)
    (case a2 => k_is)
    (case i2 => k_is)
    (case l2 => k_is)
    (case c2 => k_is)
    (case k2 => k_is)
    (case a3 => k_is)
    (case i3 => k_is)
    (case l3 => k_is)
    (case c3 => k_is)
    (case k3 => k_is)
    (case a4 => k_is)
    (case i4 => k_is)
    (case l4 => k_is)
    (case c4 => k_is)
    (case k4 => k_is)
    (case a5 => k_is)
    (case i5 => k_is)
    (case l5 => k_is)
    (case c5 => k_is)
    (case k5 => k_is)
    (case a6 => k_is)
    (case i6 => k_is)
    (case l6 => k_is)
    (case c6 => k_is)
    (case k6 => k_is)
    (case a7 => k_is)
    (case l7 => k_is)
    (case c7 => k_is)
    (case k7 => k_is)
    (case a8 => k_is)
    (case l8 => k_is)
    (case c8 => k_is)
    (case k8 => k_is)
    (case a9 => k_is)
    (case l9 => k_is)
    (case c9 => k_is)
    (case k9 => k_is)
    (case a10 => k_is)
    (case l10 => k_is)
    (case c10 => k_is)
    (case k10 => k_is)
    (case a11 => k_is)
    (case l11 => k_is)
    (case c11 => k_is)
    (case k11 => k_is)
    (case a12 => k_is)
    (case l12 => k_is)
    (case c12 => k_is)
    (case k12 => k_is)
    (case a13 => k_is)
    (case l13 => k_is)
    (case c13 => k_is)
    (case k13 => k_is)
    (case a14 => k_is)
    (case l14 => k_is)
    (case c14 => k_is)
    (case k14 => k_is)
    (case a15 => k_is)
    (case l15 => k_is)
    (case c15 => k_is)
    (case k15 => k_is)
    (case a16 => k_is)
    (case l16 => k_is)
    (case c16 => k_is)
    (case k16 => k_is)
    (case a17 => k_is)
    (case l17 => k_is)
    (case c17 => k_is)
    (case k17 => k_is)
    (case a18 => k_is)
    (case l18 => k_is)
    (case c18 => k_is)
    (case k18 => k_is)
    (case a19 => k_is)
    (case l19 => k_is)
    (case c19 => k_is)
    (case k19 => k_is)
    (case a20 => k_is)
    (case l20 => k_is)
    (case c20 => k_is)
    (case k20 => k_is)
    (case a21 => k_is)
    (case l21 => k_is)
    (case c21 => k_is)
    (case k21 => k_is)
    (case a22 => k_is)
    (case l22 => k_is)
    (case c22 => k_is)
    (case k22 => k_is)
    (case a23 => k_is)
    (case l23 => k_is)
    (case c23 => k_is)
    (case k23 => k_is)
    (case a24 => k_is)
    (case l24 => k_is)
    (case c24 => k_is)
    (case k24 => k_is)
    (case z_abs => k_is)
    (case z_all => k_is)
    (case z_any => k_is)
    (case z_bool => k_is)
    (case z_dict => k_is)
    (case z_enumerate => k_is)
    (case z_int => k_is)
    (case z_isinstance => k_is)
    (case z_len => k_is)
    (case z_list => k_is)
    (case z_max => k_is)
    (case z_min => k_is)
    (case z_ord => k_is)
    (case z_range => k_is)
    (case z_repr => k_is)
    (case z_set => k_is)
    (case z_sorted => k_is)
    (case z_str => k_is)
    (case z_sum => k_is)
    (case z_tuple => k_is)
    (case z_zip => k_is)
